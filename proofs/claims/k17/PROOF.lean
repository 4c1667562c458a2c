import PyProof.Rows.All
import Wide.All
import OpenK.AllK
import Wide.FinOn
import HandS.ForMost
import HandS.Iter
import HandS.TupLe
import HandS.Exc
import HandS.TryOnly
import HandS.TryMany
import HandS.ExcOwn
import HandS.WordsExc
import HandS.ExcInit
import HandS.CallSlots
import HandS.Wide
import HandS.IsInst
import HandS.Defaults
import HandS.HeadEnd
import HandS.HeadHook1
import HandS.HeadHook2
import HandS.Head0
import HandS.Head1
import HandS.Head2
import PySem.Challenge.RW_termcourt_k17_seventeen_years_on
set_option Elab.async false
set_option linter.all false
set_option maxRecDepth 100000
/-! SI 1: a small language without places, its reading off the given text, its interpreter. -/
namespace SI
open PySem

inductive BOp | add | sub | mul | fdiv | mod | pow | band | shr
  deriving DecidableEq
inductive COp | eq | ne | lt | le | gt | ge | is | isnot | isin | notin
  deriving DecidableEq
/-- a built-in that is called by its name -/
inductive BI | len | int | str | divmod | max | min | list | tuple | sorted | all
  deriving DecidableEq
/-- a built-in type's method -/
inductive BM | append
  deriving DecidableEq
/-- what is asked by isinstance: a built-in class, a class of the text -/
inductive TyN | int | bool | str | list | tuple | dict | non
  deriving DecidableEq
inductive Ty | bi (x : TyN) | own (x : Str)

mutual
inductive E where
  | int (i : Int) | bl (b : Bool) | non | str (s : Str)
  | loc (i : Nat) | glo (x : Str)
  | bin (op : BOp) (a b : E) | neg (a : E) | not (a : E)
  | and (a b : E) | or (a b : E)
  | cmp (op : COp) (a b : E) | chain (o1 o2 : COp) (a b c : E)
  | tup (es : Es) | lst (es : Es)
  | idx (a i : E) | sl (a : E) (lo hi : Option E)
  | bi (b : BI) (es : Es)
  | isi (a : E) (ts : List Ty) (one : Bool)
  | call (f : Str) (es : Es)
  | mk (c : Str) (es : Es)
  | bm (m : BM) (o : E) (es : Es)
  | meth (o : E) (m : Str) (es : Es)
  | fld (o : E) (f : Str)
  | lc (g : List Nat) (one : Bool) (it : Wk) (c : Option E) (e : E)
  | bad
inductive Es where
  | nil
  | cons (e : E) (es : Es)
/-- what is walked -/
inductive Wk where
  | rng (es : Es)
  | seq (e : E)
end
inductive S where
  | nop
  | seq (a b : S)
  | asg (i : Nat) (e : E)
  | unp (is : List Nat) (e : E)
  | setI (o i e : E)
  | setF (o : E) (f : Str) (e : E)
  | aug (i : Nat) (op : BOp) (e : E)
  | expr (e : E)
  | ret (e : E)
  | retN
  | ifs (c : E) (a b : S)
  | loop (g : List Nat) (one : Bool) (it : Wk) (b : S)
  | whl (c : E) (b : S)
  | raiseT (c : Str)
  | bad

/-! ### reading the text -/
def ix (x : Str) : List Str → Nat → Option Nat
  | [], _ => none
  | y :: r, i => if x = y then some i else ix x r (i + 1)
def bop : Operator → Option BOp
  | .Add => some .add | .Sub => some .sub | .Mult => some .mul | .FloorDiv => some .fdiv | .Mod => some .mod | .Pow => some .pow | .BitAnd => some .band | .RShift => some .shr
  | _ => none
def cop : CmpOp → Option COp
  | .Eq => some .eq | .NotEq => some .ne | .Lt => some .lt | .LtE => some .le | .Gt => some .gt | .GtE => some .ge | .Is => some .is | .IsNot => some .isnot | .In => some .isin | .NotIn => some .notin
def biOf (x : Str) : Option BI :=
  if x = "len" then some .len else if x = "int" then some .int else if x = "str" then some .str else if x = "divmod" then some .divmod else if x = "max" then some .max else if x = "min" then some .min
  else if x = "list" then some .list else if x = "tuple" then some .tuple else if x = "sorted" then some .sorted else if x = "all" then some .all else none
def bNames : List Str := ["len", "int", "str", "divmod", "max", "min", "list", "tuple", "sorted", "all", "isinstance", "range", "bool", "dict", "ValueError"]
def bmOf (x : Str) : Option BM := if x = "append" then some .append else none
/-- a class's name begins with a great letter -/
def upper (x : Str) : Bool := match x.cps[0]? with
  | some c => decide (65 ≤ c) && decide (c ≤ 90)
  | none => false
def isSet : Expr → Bool
  | .Set _ _ _ => true
  | _ => false
/-- the receivers that are served -/
def recvOk : Expr → Bool
  | .Name _ _ => true
  | .Attribute _ _ _ => true
  | .Subscript _ _ _ => true
  | .Call _ (_ :: _) _ _ => true
  | .Call (.Attribute _ _ _) [] _ _ => true
  | _ => false
def isStar : Expr → Bool
  | .Starred _ _ => true
  | _ => false
/-- a local's slot -/
def slotOf (N : List Str) (sc : Scope) (x : Str) : Option Nat :=
  match sc.names.lookup x with
  | some .local => ix x N 0
  | some .cell => ix x N 0
  | _ => none
def isGl (sc : Scope) (x : Str) : Bool :=
  match sc.names.lookup x with
  | some .globalImplicit => !(x == ("__debug__" : Str))
  | _ => false
def tyOf (sc : Scope) : Expr → Option Ty
  | .Name x _ => if isGl sc x = true then (if x = "int" then some (.bi .int) else if x = "bool" then some (.bi .bool) else if x = "str" then some (.bi .str) else if x = "list" then some (.bi .list) else if x = "tuple" then some (.bi .tuple)
      else if x = "dict" then some (.bi .dict) else some (.own x)) else none
  | _ => none
/-- the names of a target: (slots, it is one name) -/
def tgOf (N : List Str) (sc : Scope) : Expr → Option (List Nat × Bool)
  | .Name x _ => (slotOf N sc x).map fun i => ([i], true)
  | .Tuple ts _ _ => (ts.mapM fun (t : Expr) => match t with
      | .Name x _ => slotOf N sc x
      | _ => none).map fun is => (is, false)
  | _ => none
/-- the comprehension's own names with their slots -/
def ownOf (N : List Str) (sc : Scope) : List (Str × Nat) := sc.names.filterMap fun y => match y.2 with
  | .local => (ix y.1 N 0).map fun i => (y.1, i)
  | .cell => (ix y.1 N 0).map fun i => (y.1, i)
  | _ => none
/-- the comprehension's own names are its target -/
def ownIs (own : List (Str × Nat)) (g : List Nat) : Bool := (own.all fun y => g.contains y.2) && g.all fun i => own.any fun y => y.2 == i
def erEs (f : Expr → E) (es : List Expr) : Es := es.foldr (fun a r => Es.cons (f a) r) Es.nil
def erI (f : Expr → E) (sc : Scope) : Expr → Wk
  | .Call (.Name x p) es [] pos => if x = "range" ∧ isGl sc x = true ∧ es.any isStar = false ∧ (es.length = 1 ∨ es.length = 2 ∨ es.length = 3) then .rng (erEs f es) else .seq (f (.Call (.Name x p) es [] pos))
  | e => .seq (f e)
def erName (N : List Str) (sc : Scope) (x : Str) : E := if (x == ("__debug__" : Str)) || (x == ("__classdict__" : Str)) then .bad else match sc.names.lookup x with
  | some .local => (match ix x N 0 with | some i => .loc i | none => .bad)
  | some .cell => (match ix x N 0 with | some i => .loc i | none => .bad)
  | some .free => (match ix x N 0 with | some i => .loc i | none => .bad)
  | some .globalImplicit => .glo x
  | _ => .bad
def erBin (op : Operator) (a b : E) : E := match bop op with
  | some o => .bin o a b
  | none => .bad
def erCmp (s : Bool) (op : CmpOp) (a b : E) : E := if s then .bad else match cop op with
  | some o => .cmp o a b
  | none => .bad
def erChn (s : Bool) (o1 o2 : CmpOp) (a b c : E) : E := if s then .bad else match cop o1, cop o2 with
  | some p1, some p2 => .chain p1 p2 a b c
  | _, _ => .bad
def erTup (s : Bool) (es : Es) : E := if s then .bad else .tup es
def erLst (s : Bool) (es : Es) : E := if s then .bad else .lst es
def erFld (s : Bool) (o : E) (m : Str) : E := if s then .fld o m else .bad
/-- isinstance(a, T) -/
def tyBi (sc : Scope) (t : Expr) : Option TyN := match tyOf sc t with
  | some (.bi n) => some n
  | _ => none
def erIsi (f : Expr → E) (sc : Scope) (es : List Expr) : E := match es with
  | [a, .Tuple ts _ _] => (match ts.mapM (tyBi sc) with
    | some l => if ts.length < 100 then .isi (f a) (l.map .bi) false else .bad
    | none => .bad)
  | [a, t] => (match tyBi sc t with
    | some t => .isi (f a) [.bi t] true
    | none => .bad)
  | _ => .bad
def erCallN (f : Expr → E) (sc : Scope) (x : Str) (es : List Expr) : E := if es.any isStar then .bad else if isGl sc x = true then
    (if x = "isinstance" then erIsi f sc es
    else if x = "range" then .bad
    else match biOf x with
      | some b => .bi b (erEs f es)
      | none => if es.isEmpty then .bad else if upper x then .mk x (erEs f es) else .call x (erEs f es)) else .bad
def erCallA (f : Expr → E) (o : Expr) (m : Str) (ap cp : Pos) (es : List Expr) : E := if es.any isStar || !recvOk o || !(ap.endLine == cp.line) || decide (20 ≤ es.length) then .bad else (match bmOf m with
  | some b => if es.isEmpty then .bad else .bm b (f o) (erEs f es)
  | none => .meth (f o) m (erEs f es))
def erLc (s : Bool) (g : Option (List Nat × Bool)) (it : Wk) (cs : List E) (e : E) : E := if s then (match g, cs with
  | some (g, o), [] => .lc g o it none e
  | some (g, o), [c] => .lc g o it (some c) e
  | _, _ => .bad) else .bad
def erE (N : List Str) : Nat → Scope → Expr → E
  | 0, _, _ => .bad
  | f + 1, sc, e => match e with
    | .Constant (.int i) _ _ => .int i
    | .Constant (.bool b) _ _ => .bl b
    | .Constant .none _ _ => .non
    | .Constant (.str s) _ _ => .str s
    | .Name x _ => erName N sc x
    | .BinOp a op b _ => erBin op (erE N f sc a) (erE N f sc b)
    | .UnaryOp .USub a _ => .neg (erE N f sc a)
    | .UnaryOp .Not a _ => .not (erE N f sc a)
    | .BoolOp _ [a] _ => erE N f sc a
    | .BoolOp .And (a :: b :: r) p => .and (erE N f sc a) (erE N f sc (.BoolOp .And (b :: r) p))
    | .BoolOp .Or (a :: b :: r) p => .or (erE N f sc a) (erE N f sc (.BoolOp .Or (b :: r) p))
    | .Compare a [op] [b] _ => erCmp (isSet b) op (erE N f sc a) (erE N f sc b)
    | .Compare a [o1, o2] [b, c] _ => erChn (isSet b || isSet c) o1 o2 (erE N f sc a) (erE N f sc b) (erE N f sc c)
    | .Tuple es _ _ => erTup (es.any isStar || decide (100 ≤ es.length)) (erEs (erE N f sc) es)
    | .List es _ => erLst (es.any isStar || decide (100 ≤ es.length)) (erEs (erE N f sc) es)
    | .Subscript a (.Slice lo hi none _) _ => .sl (erE N f sc a) (lo.map (erE N f sc)) (hi.map (erE N f sc))
    | .Subscript _ (.Slice _ _ (some _) _) _ => .bad
    | .Subscript a b _ => .idx (erE N f sc a) (erE N f sc b)
    | .Attribute o m _ => erFld (recvOk o) (erE N f sc o) m
    | .Call (.Name x _) es [] _ => erCallN (erE N f sc) sc x es
    | .Call (.Attribute o m ap) es [] cp => erCallA (erE N f sc) o m ap cp es
    | .ListComp elt [⟨tg, it, ifs, 0⟩] cs _ => erLc (L2.blkC N sc cs (ownOf N cs) && ownIs (ownOf N cs) ((tgOf N cs tg).getD ([], true)).1 && !isSet it) (tgOf N cs tg) (erI (erE N f sc) sc it) (ifs.map (erE N f cs)) (erE N f cs elt)
    | _ => .bad
def isLc : Expr → Bool
  | .ListComp .. => true
  | .SetComp .. => true
  | .DictComp .. => true
  | _ => false
def isTup : Expr → Bool
  | .Tuple .. => true
  | _ => false
/-- name = [..]: the store is within the comprehension's frame -/
def swOk (sc : Scope) (y : Str) (py : Pos) : Expr → Bool
  | .ListComp _ _ cs pos => (match sc.names.lookup y with | some .local => true | _ => false) && ((py.line == pos.line) && !(cs.names.any fun (n, k) => n == y && (k == .local || k == .cell)))
  | e => !isLc e
def sSeq (f : Stmt → S) (ss : List Stmt) : S := ss.foldr (fun a r => S.seq (f a) r) S.nop
def sAsg (ok : Bool) (i : Option Nat) (e : E) : S := if ok then (match i with
  | some i => .asg i e
  | none => .bad) else .bad
def sUnp (no : Bool) (g : Option (List Nat × Bool)) (e : E) : S := if no then .bad else match g with
  | some (g, false) => .unp g e
  | _ => .bad
def sFor (no : Bool) (g : Option (List Nat × Bool)) (it : Wk) (b : S) : S := if no then .bad else match g with
  | some (g, o) => .loop g o it b
  | none => .bad
def sAug (i : Option Nat) (op : Option BOp) (e : E) : S := match i, op with
  | some i, some .add => .aug i .add e
  | some i, some .sub => .aug i .sub e
  | _, _ => .bad
def isSlice : Expr → Bool
  | .Slice .. => true
  | _ => false
def erS (N : List Str) (d : Nat) : Nat → Scope → Stmt → S
  | 0, _, _ => .bad
  | f + 1, sc, st => match st with
    | .Pass _ => .nop
    | .Expr e _ => if isLc e then .bad else .expr (erE N d sc e)
    | .Return (some e) _ => .ret (erE N d sc e)
    | .Return none _ => .retN
    | .If c a b _ => .ifs (erE N d sc c) (sSeq (erS N d f sc) a) (sSeq (erS N d f sc) b)
    | .While c b [] _ => .whl (erE N d sc c) (sSeq (erS N d f sc) b)
    | .For tg it b [] _ => sFor (isSet it) (tgOf N sc tg) (erI (erE N d sc) sc it) (sSeq (erS N d f sc) b)
    | .Assign [.Name y py] e _ => sAsg (swOk sc y py e) (slotOf N sc y) (erE N d sc e)
    | .Assign [.Tuple ts k p] e _ => sUnp (isLc e || isTup e) (tgOf N sc (.Tuple ts k p)) (erE N d sc e)
    | .Assign [.Subscript o i _] e _ => if isSlice i then .bad else .setI (erE N d sc o) (erE N d sc i) (erE N d sc e)
    | .Assign [.Attribute o m _] e _ => .setF (erE N d sc o) m (erE N d sc e)
    | .AugAssign (.Name y _) op e _ => sAug (slotOf N sc y) (bop op) (erE N d sc e)
    | .Raise (some (.Call (.Name c _) [.Constant (.str _) _ _] [] _)) none _ => if isGl sc c then .raiseT c else .bad
    | _ => .bad

/-! ### values, the store, results -/
inductive D where
  | non | bl (b : Bool) | int (i : Int) | str (s : Str) | ref (n : Nat) | tup (ds : List D)
  /-- a list that nobody writes: by value -/
  | ro (ds : List D)
inductive Cell where
  | lst (ds : List D)
  | ins (c : Str) (fs : List (Str × D))
abbrev Store := List Cell
abbrev Env := List (Option D)
/-- an expression's value: a value that may be held, or a new list that nothing holds yet -/
inductive Ev where
  | v (d : D)
  | t (ds : List D)
inductive R (α : Type) where
  | ok (a : α) (st : Store)
  | ex (c : Str) (fs : List (Str × D)) (st : Store)
  | stuck
inductive Out where
  | nx (env : Env) (st : Store)
  | rt (r : Ev) (st : Store)
  | ex (c : Str) (fs : List (Str × D)) (env : Env) (st : Store)
  | stuck
def R.bind {α β : Type} (r : R α) (f : α → Store → R β) : R β := match r with
  | .ok a st => f a st
  | .ex c fs st => .ex c fs st
  | .stuck => .stuck
def R.out {α : Type} (r : R α) (env : Env) (f : α → Store → Out) : Out := match r with
  | .ok a st => f a st
  | .ex c fs st => .ex c fs env st
  | .stuck => .stuck
def Out.bind (r : Out) (f : Env → Store → Out) : Out := match r with
  | .nx env st => f env st
  | .rt v st => .rt v st
  | .ex c fs env st => .ex c fs env st
  | .stuck => .stuck
/-- a new list gets its place -/
def mat : Ev → Store → D × Store
  | .v d, st => (d, st)
  | .t ds, st => (.ref st.length, st ++ [.lst ds])
def mats : List Ev → Store → List D × Store
  | [], st => ([], st)
  | e :: es, st => let p := mat e st; let q := mats es p.2; (p.1 :: q.1, q.2)
/-- what a value that is a list or a tuple holds -/
def items (st : Store) : Ev → Option (List D)
  | .t ds => some ds
  | .v (.tup ds) => some ds
  | .v (.ro ds) => some ds
  | .v (.ref n) => (match st[n]? with
    | some (.lst ds) => some ds
    | _ => none)
  | _ => none
def lim : Nat := 1000000
def atD (ds : List D) (i : Int) : Option D := L2.atI ds i
abbrev Key := Str × Option Str
structure Fn where
  np : Nat
  ns : Nat
  dfl : List D
  body : S
structure Prog where
  fns : List (Key × Fn)
  consts : List (Str × D) := []
  excs : List Str := []
abbrev Go := Fn → List D → Store → R Ev
/-- may so many values be handed in? -/
def Fn.takes (f : Fn) (n : Nat) : Bool := decide (n ≤ f.np) && decide (f.np ≤ n + f.dfl.length)
/-- the defaults fill up -/
def Fn.full (f : Fn) (ds : List D) : List D := ds ++ f.dfl.drop (ds.length + f.dfl.length - f.np)

/-- the attributes of the program's classes -/
def flds : List (Str × Str) := [("Pattern", "week"), ("Pattern", "yearly"), ("Pattern", "short"), ("Pattern", "extra"), ("Pattern", "round"), ("Table", "pattern"), ("Table", "rows")]
/-! ### operations -/
def small (i : Int) : Bool := decide (-(2 ^ 64) < i) && decide (i < 2 ^ 64)
def binD (op : BOp) (a b : Ev) (st : Store) : Option Ev := match op, a, b with
  | .add, .v (.int i), .v (.int j) => some (.v (.int (i + j)))
  | .sub, .v (.int i), .v (.int j) => some (.v (.int (i - j)))
  | .mul, .v (.int i), .v (.int j) => if small i || small j then some (.v (.int (i * j))) else none
  | .fdiv, .v (.int i), .v (.int j) => if 0 < j ∧ j < 1073741824 then some (.v (.int (i / j))) else none
  | .mod, .v (.int i), .v (.int j) => if 0 < j then some (.v (.int (i % j))) else none
  | .pow, .v (.int i), .v (.int j) => if 0 ≤ j ∧ j ≤ 1000000 ∧ i.natAbs < 2 ^ 64 then some (.v (.int (i ^ j.toNat))) else none
  | .shr, .v (.int i), .v (.int j) => if 0 ≤ j then some (.v (.int (i / 2 ^ j.toNat))) else none
  | .band, .v (.int i), .v (.int j) => some (.v (.int (Builtin.bitAnd i j)))
  | _, _, _ => none
/-- == of two plain things -/
def eqS : D → D → Option Bool
  | .non, .non => some true
  | .non, .int _ => some false
  | .non, .bl _ => some false
  | .non, .str _ => some false
  | .int _, .non => some false
  | .bl _, .non => some false
  | .str _, .non => some false
  | .int i, .int j => some (decide (i = j))
  | .bl i, .bl j => some (decide (i = j))
  | .str i, .str j => some (decide (i = j))
  | .int _, .str _ => some false
  | .str _, .int _ => some false
  | .bl _, .str _ => some false
  | .str _, .bl _ => some false
  | _, _ => none
/-- data: what == may be asked of, n deep -/
def isP : Nat → Store → D → Bool
  | _, _, .non => true
  | _, _, .bl _ => true
  | _, _, .int _ => true
  | _, _, .str s => PyData.strOk s
  | 0, _, _ => false
  | n + 1, st, .tup ds => ds.all (isP n st)
  | n + 1, st, .ro ds => ds.all (isP n st)
  | n + 1, st, .ref k => (match st[k]? with
    | some (.lst ds) => ds.all (isP n st)
    | _ => false)
/-- the list that a value is -/
def lstE (st : Store) : Ev → Option (List D)
  | .t ds => some ds
  | .v (.ro ds) => some ds
  | .v (.ref n) => items st (.v (.ref n))
  | _ => none
def eqs (f : D → D → Bool) : List D → List D → Bool
  | [], [] => true
  | a :: as, b :: bs => f a b && eqs f as bs
  | _, _ => false
def eqB : Nat → Store → D → D → Bool
  | _, _, .non, .non => true
  | _, _, .bl a, .bl b => a == b
  | _, _, .bl a, .int j => (if a then 1 else 0) == j
  | _, _, .int i, .bl b => i == (if b then 1 else 0)
  | _, _, .int i, .int j => i == j
  | _, _, .str x, .str y => x == y
  | n + 1, st, .tup as, .tup bs => eqs (eqB n st) as bs
  | n + 1, st, a, b => (match lstE st (.v a), lstE st (.v b) with
    | some as, some bs => eqs (eqB n st) as bs
    | _, _ => false)
  | _, _, _, _ => false
def isPE (st : Store) : Ev → Bool
  | .v d => isP 50 st d
  | .t ds => ds.all (isP 49 st)
def eqE (x y : Ev) (st : Store) : Option Bool :=
  match (match x, y with | .v a, .v b => eqS a b | _, _ => none) with
  | some c => some c
  | none => if isPE st x && isPE st y then (match lstE st x, lstE st y with
      | some as, some bs => some (eqs (eqB 49 st) as bs)
      | none, none => (match x, y with | .v a, .v b => some (eqB 50 st a b) | _, _ => none)
      | _, _ => some false) else none
/-- the whole numbers that a tuple holds -/
def intsOf : List D → Option (List Int)
  | [] => some []
  | .int i :: r => (intsOf r).map (i :: ·)
  | _ => none
/-- order by the first unequal pair -/
def ordT (rel : Int → Int → Bool) (z : Nat → Nat → Bool) : List Int → List Int → Bool
  | x :: xs, y :: ys => if x = y then ordT rel z xs ys else rel x y
  | xs, ys => z xs.length ys.length
def ordD (rel : Int → Int → Bool) (z : Nat → Nat → Bool) (xs ys : List D) : Option Bool := match intsOf xs, intsOf ys with
  | some ns, some ms => some (ordT rel z ns ms)
  | _, _ => none
def cmpD (op : COp) (a b : Ev) (st : Store) : Option Bool := match op, a, b with
  | .eq, x, y => eqE x y st
  | .ne, x, y => (eqE x y st).map not
  | .lt, .v (.int i), .v (.int j) => some (decide (i < j))
  | .lt, .v (.tup xs), .v (.tup ys) => ordD (fun i j => decide (i < j)) (fun i j => decide (i < j)) xs ys
  | .le, .v (.int i), .v (.int j) => some (decide (i ≤ j))
  | .le, .v (.tup xs), .v (.tup ys) => ordD (fun i j => decide (i ≤ j)) (fun i j => decide (i ≤ j)) xs ys
  | .gt, .v (.int i), .v (.int j) => some (decide (j < i))
  | .gt, .v (.tup xs), .v (.tup ys) => ordD (fun i j => decide (j < i)) (fun i j => decide (j < i)) xs ys
  | .ge, .v (.int i), .v (.int j) => some (decide (j ≤ i))
  | .ge, .v (.tup xs), .v (.tup ys) => ordD (fun i j => decide (j ≤ i)) (fun i j => decide (j ≤ i)) xs ys
  | .is, .v .non, .v .non => some true
  | .is, _, .v .non => some false
  | .isnot, .v .non, .v .non => some false
  | .isnot, _, .v .non => some true
  | _, _, _ => none
def bLen (es : List Ev) (st : Store) : Option Ev := match es with
  | [.v (.str s)] => if s.length < lim then some (.v (.int s.length)) else none
  | [e] => (items st e).map fun ds => .v (.int ds.length)
  | _ => none
def bInt (es : List Ev) : Option Ev := match es with
  | [.v (.int i)] => some (.v (.int i))
  | [.v (.bl c)] => some (.v (.int (if c then 1 else 0)))
  | _ => none
def bDm (es : List Ev) : Option Ev := match es with
  | [.v (.int i), .v (.int j)] => if 0 < j ∧ j < 1073741824 then some (.v (.tup [.int (i / j), .int (i % j)])) else none
  | _ => none
def bMax (es : List Ev) : Option Ev := match es with
  | [.v (.int i), .v (.int j)] => some (.v (.int (if j > i then j else i)))
  | _ => none
def bMin (es : List Ev) : Option Ev := match es with
  | [.v (.int i), .v (.int j)] => some (.v (.int (if j < i then j else i)))
  | _ => none
def bList (es : List Ev) (st : Store) : Option Ev := match es with
  | [e] => (items st e).map .t
  | _ => none
def biD (b : BI) (es : List Ev) (st : Store) : Option Ev := match b with
  | .len => bLen es st
  | .int => bInt es
  | .divmod => bDm es
  | .max => bMax es
  | .min => bMin es
  | .list => bList es st
  | _ => none
def R.of {α : Type} (o : Option α) (st : Store) : R α := match o with
  | some a => .ok a st
  | none => .stuck
def bV (b : Bool) : Ev := .v (.bl b)
/-- a value's type -/
def tyD (e : Ev) (st : Store) : Option TyN := match e with
  | .t _ => some .list
  | .v .non => some .non
  | .v (.bl _) => some .bool
  | .v (.int _) => some .int
  | .v (.str _) => some .str
  | .v (.tup _) => some .tuple
  | .v (.ro _) => some .list
  | .v (.ref n) => (match st[n]? with
    | some (.lst _) => some .list
    | _ => none)
def isT (t n : TyN) : Bool := match t, n with
  | .bool, .int => true
  | t, n => decide (t = n)
def isi1 (t : TyN) : Ty → Option Bool
  | .bi n => if n = .non then none else some (isT t n)
  | .own _ => none
def isiD (t : TyN) : List Ty → Option Bool
  | [] => some false
  | y :: ys => (match isi1 t y, isiD t ys with
    | some a, some b => some (a || b)
    | _, _ => none)
/-- is the receiver of the method's type? -/
def bmRecv (m : BM) (o : Ev) (st : Store) : Bool := match m, o with
  | .append, .v (.ref n) => (match st[n]? with
    | some (.lst _) => true
    | _ => false)
  | _, _ => false
def bAppend (n : Nat) (e : Ev) (st : Store) : R Ev := match (mat e st).2[n]? with
  | some (.lst ds) => if ds.length < lim then .ok (.v .non) ((mat e st).2.set n (.lst (ds ++ [(mat e st).1]))) else .stuck
  | _ => .stuck
def bmD (m : BM) (o : Ev) (es : List Ev) (st : Store) : R Ev := match m, o, es with
  | .append, .v (.ref n), [e] => bAppend n e st
  | _, _, _ => .stuck
def slD (ds : List D) (lo hi : Option Int) : List D := (ds.drop (HT.sIx ds.length 0 lo)).take (HT.sIx ds.length ds.length hi - HT.sIx ds.length 0 lo)
/-- truth -/
def truD (e : Ev) (st : Store) : Option Bool := match e with
  | .v .non => some false
  | .v (.bl b) => some b
  | .v (.int i) => some (i != 0)
  | e => (items st e).map fun ds => !ds.isEmpty
def putD (f : Str) (d : D) : List (Str × D) → List (Str × D)
  | [] => [(f, d)]
  | p :: r => if p.1 = f then (f, d) :: r else p :: putD f d r

/-! ### what is walked: the items as they stand at each turn -/
abbrev Cur := Store → Option (List D)
def setAll : List Nat → List D → Env → Option Env
  | [], [], env => some env
  | i :: is, d :: ds, env => setAll is ds (env.set i (some d))
  | _, _, _ => none
def bindG (g : List Nat) (one : Bool) (d : D) (env : Env) : Option Env := match one, g, d with
  | true, [i], d => some (env.set i (some d))
  | false, is, .tup ds => setAll is ds env
  | _, _, _ => none
/-- for: k turns at most, i the turn -/
def forGo (cur : Cur) (g : List Nat) (one : Bool) (body : Env → Store → Out) : Nat → Nat → Env → Store → Out
  | 0, i, env, st => (match cur st with
    | some ds => if ds.length ≤ i then .nx env st else .stuck
    | none => .stuck)
  | k + 1, i, env, st => (match cur st with
    | some ds => (match ds[i]? with
      | none => .nx env st
      | some d => (match bindG g one d env with
        | some env' => (body env' st).bind fun e s => forGo cur g one body k (i + 1) e s
        | none => .stuck))
    | none => .stuck)
/-- [.. for ..]: one's own items, the list so far -/
def lcGo (cur : Cur) (f : D → Store → R (Option D)) : Nat → Nat → List D → Store → R (List D)
  | 0, i, acc, st => (match cur st with
    | some ds => if ds.length ≤ i then .ok acc st else .stuck
    | none => .stuck)
  | k + 1, i, acc, st => (match cur st with
    | some ds => (match ds[i]? with
      | none => .ok acc st
      | some d => (match f d st with
        | .ok (some y) st' => if acc.length < lim then lcGo cur f k (i + 1) (acc ++ [y]) st' else .stuck
        | .ok none st' => lcGo cur f k (i + 1) acc st'
        | _ => .stuck))
    | none => .stuck)
def whGo (c : Env → Store → R Bool) (body : Env → Store → Out) : Nat → Env → Store → Out
  | 0, _, _ => .stuck
  | k + 1, env, st => (c env st).out env fun b st1 => if b then (body env st1).bind fun e s => whGo c body k e s else .nx env st1
def rngL (lo hi : Int) : List D := (List.range (hi - lo).toNat).map fun (i : Nat) => D.int (lo + (i : Int))
def rngOk (i : Int) : Bool := decide (-(2 ^ 62) ≤ i) && decide (i < 2 ^ 62)
/-- what a value is walked as -/
def curOf (e : Ev) (st : Store) : Option Cur := match e with
  | .t ds => some fun _ => some ds
  | .v (.tup ds) => some fun _ => some ds
  | .v (.ro ds) => some fun _ => some ds
  | .v (.ref n) => (match st[n]? with
    | some (.lst _) => some fun s => items s (.v (.ref n))
    | _ => none)
  | _ => none
/-- range with a step -/
def rngC (lo c : Int) (n : Nat) : List D := (List.range n).map fun (i : Nat) => D.int (lo + (i : Int) * c)
def rgcOk (i j c : Int) : Bool := decide (c ≠ 0) && (decide (c.natAbs < 1073741824) && (Builtin.Range.small i j c && decide (0 ≤ Builtin.Range.rangeSize i j c)))
def curRng (es : List Ev) : Option Cur := match es with
  | [.v (.int j)] => if rngOk j then some fun _ => some (rngL 0 j) else none
  | [.v (.int i), .v (.int j)] => if rngOk i && rngOk j then some fun _ => some (rngL i j) else none
  | [.v (.int i), .v (.int j), .v (.int c)] => if rgcOk i j c then some fun _ => some (rngC i c (Builtin.Range.rangeSize i j c).toNat) else none
  | _ => none
def turns (cur : Cur) (st : Store) : Nat := match cur st with
  | some ds => ds.length
  | none => 0
def loopFuel : Nat := 1000000
def asV (e : Ev) (st : Store) : R D := let p := mat e st; .ok p.1 p.2

def esLen : Es → Nat
  | .nil => 0
  | .cons _ r => esLen r + 1
def nInit : Str := "__init__"
mutual
def evE (P : Prog) (go : Go) : E → Env → Store → R Ev
  | .int i, _, st => .ok (.v (.int i)) st
  | .bl b, _, st => .ok (.v (.bl b)) st
  | .non, _, st => .ok (.v .non) st
  | .str s, _, st => .ok (.v (.str s)) st
  | .loc i, env, st => (match env[i]? with
    | some (some d) => .ok (.v d) st
    | _ => .stuck)
  | .glo x, _, st => (match P.consts.lookup x with
    | some d => .ok (.v d) st
    | none => .stuck)
  | .bin op a b, env, st => (evE P go a env st).bind fun x st1 => (evE P go b env st1).bind fun y st2 => R.of (binD op x y st2) st2
  | .neg a, env, st => (evE P go a env st).bind fun x st1 => (match x with
    | .v (.int i) => .ok (.v (.int (-i))) st1
    | _ => .stuck)
  | .not a, env, st => (evE P go a env st).bind fun x st1 => (match x with
    | .v (.bl c) => .ok (.v (.bl (!c))) st1
    | _ => .stuck)
  | .and a b, env, st => (evE P go a env st).bind fun x st1 => (match x with
    | .v (.bl c) => if c then evE P go b env st1 else .ok (.v (.bl false)) st1
    | _ => .stuck)
  | .or a b, env, st => (evE P go a env st).bind fun x st1 => (match x with
    | .v (.bl c) => if c then .ok (.v (.bl true)) st1 else evE P go b env st1
    | _ => .stuck)
  | .cmp op a b, env, st => (evE P go a env st).bind fun x st1 => (evE P go b env st1).bind fun y st2 => R.of ((cmpD op x y st2).map bV) st2
  | .chain o1 o2 a b c, env, st => (evE P go a env st).bind fun x st1 => (evE P go b env st1).bind fun y st2 => (match cmpD o1 x y st2 with
    | some k => if k then (evE P go c env st2).bind fun z st3 => R.of ((cmpD o2 y z st3).map bV) st3 else .ok (bV false) st2
    | none => .stuck)
  | .tup es, env, st => (evEs P go es env st).bind fun xs st1 => .ok (.v (.tup (mats xs st1).1)) (mats xs st1).2
  | .lst es, env, st => (evEs P go es env st).bind fun xs st1 => .ok (.t (mats xs st1).1) (mats xs st1).2
  | .idx a i, env, st => (evE P go a env st).bind fun x st1 => (evE P go i env st1).bind fun y st2 => (match items st2 x, y with
    | some ds, .v (.int i) => (match atD ds i with
      | some d => .ok (.v d) st2
      | none => .stuck)
    | _, _ => .stuck)
  | .sl a lo hi, env, st => (evE P go a env st).bind fun x st1 => (evO P go lo env st1).bind fun i st2 => (evO P go hi env st2).bind fun j st3 => (match lstE st3 x with
    | some ds => .ok (.t (slD ds i j)) st3
    | none => .stuck)
  | .bi b es, env, st => (evEs P go es env st).bind fun xs st1 => R.of (biD b xs st1) st1
  | .isi a ts _, env, st => (evE P go a env st).bind fun x st1 => (match tyD x st1 with
    | some t => R.of ((isiD t ts).map bV) st1
    | none => .stuck)
  | .call f es, env, st => (match P.fns.lookup (f, none) with
    | some fn => if fn.takes (esLen es) then (evEs P go es env st).bind fun xs st1 => go fn (fn.full (mats xs st1).1) (mats xs st1).2 else .stuck
    | none => .stuck)
  | .mk c es, env, st => (match P.fns.lookup (c, some nInit) with
    | some fn => if fn.takes (esLen es + 1) then (evEs P go es env st).bind fun xs st1 =>
      (match go fn (fn.full (.ref (mats xs st1).2.length :: (mats xs st1).1)) ((mats xs st1).2 ++ [.ins c []]) with
        | .ok (.v .non) st3 => .ok (.v (.ref (mats xs st1).2.length)) st3
        | .ex c fs st3 => .ex c fs st3
        | _ => .stuck) else .stuck
    | none => .stuck)
  | .bm m o es, env, st => (evE P go o env st).bind fun x st1 => if bmRecv m x st1 then (evEs P go es env st1).bind fun xs st2 => bmD m x xs st2 else .stuck
  | .meth o m es, env, st => (evE P go o env st).bind fun x st1 => (match x with
    | .v (.ref n) => (match st1[n]? with
      | some (.ins c fs) => (match P.fns.lookup (c, some m), fs.lookup m with
        | some fn, none => if fn.takes (esLen es + 1) then (evEs P go es env st1).bind fun xs st2 => go fn (fn.full (.ref n :: (mats xs st2).1)) (mats xs st2).2 else .stuck
        | _, _ => .stuck)
      | _ => .stuck)
    | _ => .stuck)
  | .fld o f, env, st => (evE P go o env st).bind fun x st1 => (match x with
    | .v (.ref n) => (match st1[n]? with
      | some (.ins c fs) => if flds.contains (c, f) then (match fs.lookup f with
        | some d => .ok (.v d) st1
        | none => .stuck) else .stuck
      | _ => .stuck)
    | _ => .stuck)
  | .lc g one it c e, env, st => (evI P go it env st).bind fun cur st1 =>
    (lcGo cur (fun d s => match bindG g one d env with
      | none => .stuck
      | some env' => (match c with
        | none => (evE P go e env' s).bind fun x s2 => (asV x s2).bind fun d s3 => .ok (some d) s3
        | some c => (evE P go c env' s).bind fun x s1 => (match x with
          | .v (.bl b) => if b then (evE P go e env' s1).bind fun x s2 => (asV x s2).bind fun d s3 => .ok (some d) s3 else .ok none s1
          | _ => .stuck))) (turns cur st1) 0 [] st1).bind fun ys st2 => .ok (.t ys) st2
  | .bad, _, _ => .stuck
def evI (P : Prog) (go : Go) : Wk → Env → Store → R Cur
  | .rng es, env, st => (evEs P go es env st).bind fun xs st1 => (match curRng xs with
    | some cur => .ok cur st1
    | none => .stuck)
  | .seq e, env, st => (evE P go e env st).bind fun x st1 => (match curOf x st1 with
    | some cur => .ok cur st1
    | none => .stuck)
def evEs (P : Prog) (go : Go) : Es → Env → Store → R (List Ev)
  | .nil, _, st => .ok [] st
  | .cons e es, env, st => (evE P go e env st).bind fun x st1 => (evEs P go es env st1).bind fun xs st2 => .ok (x :: xs) st2
def evO (P : Prog) (go : Go) : Option E → Env → Store → R (Option Int)
  | none, _, st => .ok none st
  | some e, env, st => (evE P go e env st).bind fun x st1 => (match x with
    | .v (.int i) => .ok (some i) st1
    | _ => .stuck)
end
/-- a test -/
def evT (P : Prog) (go : Go) : E → Env → Store → R Bool
  | .and a b, env, st => (evT P go a env st).bind fun c st1 => if c then evT P go b env st1 else .ok false st1
  | .or a b, env, st => (evT P go a env st).bind fun c st1 => if c then .ok true st1 else evT P go b env st1
  | .not a, env, st => (evT P go a env st).bind fun c st1 => .ok (!c) st1
  | e, env, st => (evE P go e env st).bind fun x st1 => (match truD x st1 with
    | some b => .ok b st1
    | none => .stuck)

/-! ### statements -/
def exS (P : Prog) (go : Go) : S → Env → Store → Out
  | .nop, env, st => .nx env st
  | .seq a b, env, st => (exS P go a env st).bind fun e s => exS P go b e s
  | .asg i e, env, st => (evE P go e env st).out env fun x st1 => let p := mat x st1; .nx (env.set i (some p.1)) p.2
  | .unp is e, env, st => (evE P go e env st).out env fun x st1 => (match x with
    | .v d => (match bindG is false d env with
      | some env' => .nx env' st1
      | none => .stuck)
    | _ => .stuck)
  | .setI o i e, env, st => (evE P go e env st).out env fun x st1 => let p := mat x st1; (evE P go o env p.2).out env fun y st2 => (evE P go i env st2).out env fun z st3 => (match y, z with
    | .v (.ref n), .v (.int k) => (match st3[n]? with
      | some (.lst ds) => (match L2.ixN ds.length k with
        | some j => .nx env (st3.set n (.lst (ds.set j p.1)))
        | none => .stuck)
      | _ => .stuck)
    | _, _ => .stuck)
  | .setF o f e, env, st => (evE P go e env st).out env fun x st1 => let p := mat x st1; (evE P go o env p.2).out env fun y st2 => (match y with
    | .v (.ref n) => (match st2[n]? with
      | some (.ins c fs) => if fs.length < 1000 ∧ flds.contains (c, f) = true then .nx env (st2.set n (.ins c (putD f p.1 fs))) else .stuck
      | _ => .stuck)
    | _ => .stuck)
  | .aug i op e, env, st => (match env[i]? with
    | some (some d) => (evE P go e env st).out env fun x st1 => (match op, d, x with
      | .add, .int a, .v (.int b) => .nx (env.set i (some (.int (a + b)))) st1
      | .sub, .int a, .v (.int b) => .nx (env.set i (some (.int (a - b)))) st1
      | _, _, _ => .stuck)
    | _ => .stuck)
  | .expr e, env, st => (evE P go e env st).out env fun _ st1 => .nx env st1
  | .ret e, env, st => (evE P go e env st).out env fun x st1 => .rt x st1
  | .retN, _, st => .rt (.v .non) st
  | .ifs c a b, env, st => (evT P go c env st).out env fun k st1 => if k then exS P go a env st1 else exS P go b env st1
  | .loop g one it b, env, st => (evI P go it env st).out env fun cur st1 => forGo cur g one (fun e s => exS P go b e s) (turns cur st1) 0 env st1
  | .whl c b, env, st => whGo (fun e s => evT P go c e s) (fun e s => exS P go b e s) loopFuel env st
  | .raiseT c, env, st => if P.excs.contains c then .ex c [] env st else .stuck
  | .bad, _, _ => .stuck
/-- a def's end -/
def Out.fin : Out → R Ev
  | .nx _ st => .ok (.v .non) st
  | .rt v st => .ok v st
  | .ex c fs _ st => .ex c fs st
  | .stuck => .stuck
def runB (P : Prog) (go : Go) (fn : Fn) (as : List D) (st : Store) : R Ev := (exS P go fn.body (as.map some ++ List.replicate (fn.ns - fn.np) none) st).fin
def goI (P : Prog) : Nat → Go
  | 0, _, _, _ => .stuck
  | n + 1, fn, as, st => runB P (goI P n) fn as st
end SI

set_option maxHeartbeats 1000000
/-! SI 2: what the values and the store stand for in the abstract heap; how the heap grows. -/
namespace SI
open PySem L2
abbrev Frag := PySem.W.Frag

/-- a list that is read: frozen, or the module's -/
def SqF (K : Frag) (H : Hp) (a : Addr) (xs : List V) : Prop :=
  (∃ o, H a = some (.frz o (.lst xs))) ∨ ∃ (o : Obj) (its : Array Value) (n : Nat), K.lookup a = some o ∧ o.cls = .type "list" ∧ o.dict = none ∧ o.data = .seq its n ∧ its.size ≤ sizeLine ∧ Vals xs its.toList
theorem SqF.sq {K : Frag} {H : Hp} {a : Addr} {xs : List V} (h : SqF K H a xs) : SqL K H a xs := by
  rcases h with ⟨o, h⟩ | h
  · exact .inl (.inr ⟨o, h⟩)
  · exact .inr h
mutual
def Rel (K : Frag) (r : List Addr) (H : Hp) : D → V → Prop
  | .non, v => v = .non
  | .bl b, v => v = .bl b
  | .int i, v => v = .int i
  | .str s, v => v = .str s
  | .ref n, v => ∃ a, r[n]? = some a ∧ v = .ref a
  | .tup ds, v => ∃ a xs, v = .ref a ∧ SqT K H a xs ∧ RelL K r H ds xs
  | .ro ds, v => ∃ a xs, v = .ref a ∧ SqF K H a xs ∧ RelL K r H ds xs
def RelL (K : Frag) (r : List Addr) (H : Hp) : List D → List V → Prop
  | [], xs => xs = []
  | d :: ds, xs => ∃ v vs, xs = v :: vs ∧ Rel K r H d v ∧ RelL K r H ds vs
end
def Ext (r r' : List Addr) : Prop := ∀ (n : Nat) a, r[n]? = some a → r'[n]? = some a
structure Tups (K : Frag) (H H' : Hp) : Prop where
  t : ∀ a xs, SqT K H a xs → SqT K H' a xs
  f : ∀ a xs, SqF K H a xs → SqF K H' a xs
theorem Ext.refl (r : List Addr) : Ext r r := fun _ _ h => h
theorem Ext.trans {a b c : List Addr} (x : Ext a b) (y : Ext b c) : Ext a c := fun n q h => y n q (x n q h)
theorem Ext.snoc (r : List Addr) (a : Addr) : Ext r (r ++ [a]) := fun n b h => by
  have hl : n < r.length := (List.getElem?_eq_some_iff.mp h).1
  rw [List.getElem?_append_left hl]; exact h
mutual
theorem Rel.mono {K : Frag} {r r' : List Addr} {H H' : Hp} (e : Ext r r') (t : Tups K H H') : ∀ {d : D} {v : V}, Rel K r H d v → Rel K r' H' d v
  | .non, v, h => by unfold Rel at *; exact h
  | .bl b, v, h => by unfold Rel at *; exact h
  | .int b, v, h => by unfold Rel at *; exact h
  | .str b, v, h => by unfold Rel at *; exact h
  | .ref n, v, h => by
    unfold Rel at *
    obtain ⟨a, h1, h2⟩ := h
    exact ⟨a, e n a h1, h2⟩
  | .tup ds, v, h => by
    unfold Rel at *
    obtain ⟨a, xs, h1, h2, h3⟩ := h
    exact ⟨a, xs, h1, t.t a xs h2, RelL.mono e t h3⟩
  | .ro ds, v, h => by
    unfold Rel at *
    obtain ⟨a, xs, h1, h2, h3⟩ := h
    exact ⟨a, xs, h1, t.f a xs h2, RelL.mono e t h3⟩
theorem RelL.mono {K : Frag} {r r' : List Addr} {H H' : Hp} (e : Ext r r') (t : Tups K H H') : ∀ {ds : List D} {xs : List V}, RelL K r H ds xs → RelL K r' H' ds xs
  | [], xs, h => by unfold RelL at *; exact h
  | d :: ds, xs, h => by
    unfold RelL at *
    obtain ⟨v, vs, h1, h2, h3⟩ := h
    exact ⟨v, vs, h1, Rel.mono e t h2, RelL.mono e t h3⟩
end
section
variable {K : Frag} {r : List Addr} {H : Hp}
theorem relL_nil : RelL K r H [] [] := by unfold RelL; rfl
theorem relL_cons {d : D} {v : V} {ds : List D} {vs : List V} (h : Rel K r H d v) (t : RelL K r H ds vs) : RelL K r H (d :: ds) (v :: vs) := by unfold RelL; exact ⟨v, vs, rfl, h, t⟩
theorem RelL.uncons {d : D} {ds : List D} {xs : List V} (h : RelL K r H (d :: ds) xs) : ∃ v vs, xs = v :: vs ∧ Rel K r H d v ∧ RelL K r H ds vs := by unfold RelL at h; exact h
theorem RelL.unnil {xs : List V} (h : RelL K r H [] xs) : xs = [] := by unfold RelL at h; exact h
theorem RelL.length : ∀ {ds : List D} {xs : List V}, RelL K r H ds xs → ds.length = xs.length
  | [], xs, h => by rw [h.unnil]; rfl
  | d :: ds, xs, h => by
    obtain ⟨v, vs, rfl, _, t⟩ := h.uncons
    simp [RelL.length t]
theorem RelL.get : ∀ {ds : List D} {xs : List V} {i : Nat} {d : D}, RelL K r H ds xs → ds[i]? = some d → ∃ v, xs[i]? = some v ∧ Rel K r H d v
  | [], _, _, _, _, e => by simp at e
  | d :: ds, xs, 0, _, h, e => by
    obtain ⟨v, vs, rfl, a, _⟩ := h.uncons
    simp at e; subst e; exact ⟨v, rfl, a⟩
  | d :: ds, xs, i + 1, _, h, e => by
    obtain ⟨v, vs, rfl, _, t⟩ := h.uncons
    obtain ⟨u, h1, h2⟩ := RelL.get (i := i) t (by simpa using e)
    exact ⟨u, by simpa using h1, h2⟩
theorem RelL.append : ∀ {ds es : List D} {xs ys : List V}, RelL K r H ds xs → RelL K r H es ys → RelL K r H (ds ++ es) (xs ++ ys)
  | [], _, _, _, h, t => by rw [h.unnil]; exact t
  | d :: ds, _, _, _, h, t => by
    obtain ⟨v, vs, rfl, a, b⟩ := h.uncons
    exact relL_cons a (RelL.append b t)
theorem RelL.set {d : D} {v : V} (q : Rel K r H d v) : ∀ {ds : List D} {xs : List V} (i : Nat), RelL K r H ds xs → RelL K r H (ds.set i d) (xs.set i v)
  | [], _, _, h => by rw [h.unnil]; exact relL_nil
  | _ :: ds, _, 0, h => by
    obtain ⟨u, vs, rfl, a, b⟩ := h.uncons
    exact relL_cons q b
  | _ :: ds, _, i + 1, h => by
    obtain ⟨u, vs, rfl, a, b⟩ := h.uncons
    exact relL_cons a (RelL.set q i b)
theorem RelL.drop : ∀ {ds : List D} {xs : List V} (i : Nat), RelL K r H ds xs → RelL K r H (ds.drop i) (xs.drop i)
  | ds, xs, 0, h => by simpa using h
  | [], xs, i + 1, h => by rw [h.unnil]; exact relL_nil
  | d :: ds, xs, i + 1, h => by
    obtain ⟨u, vs, rfl, a, b⟩ := h.uncons
    simpa using RelL.drop i b
theorem RelL.take : ∀ {ds : List D} {xs : List V} (i : Nat), RelL K r H ds xs → RelL K r H (ds.take i) (xs.take i)
  | ds, xs, 0, h => by simpa using relL_nil
  | [], xs, i + 1, h => by rw [h.unnil]; exact relL_nil
  | d :: ds, xs, i + 1, h => by
    obtain ⟨u, vs, rfl, a, b⟩ := h.uncons
    simpa using relL_cons a (RelL.take i b)
end

/-! ### the heap grows -/
/-- things that no step changes -/
def Fixed : HO → Prop
  | .tup _ => True
  | .frz _ _ => True
  | .own _ => True
  | .xd _ => True
  | _ => False
def Off (r : List Addr) (a : Addr) : Prop := ∀ n : Nat, r[n]? ≠ some a
structure Up (r : List Addr) (H : Hp) (r' : List Addr) (H' : Hp) : Prop where
  pre : Ext r r'
  keep : ∀ a o, H a = some o → Off r a ∨ Fixed o → H' a = some o
  fresh : ∀ (n : Nat) a, r[n]? = none → r'[n]? = some a → H a = none
  dom : ∀ a, H' a = none → H a = none
theorem Up.refl (r : List Addr) (H : Hp) : Up r H r H := ⟨Ext.refl r, fun _ _ h _ => h, fun n a h1 h2 => by (rw [h1] at h2; cases h2), fun _ h => h⟩
theorem Up.off {r r' : List Addr} {H H' : Hp} (u : Up r H r' H') {a : Addr} {o : HO} (h : H a = some o) (f : Off r a) : Off r' a := fun n e => by
  cases q : r[n]? with
  | some b =>
    have := u.pre n b q
    rw [this] at e
    cases e
    exact f n q
  | none =>
    have := u.fresh n a q e
    rw [h] at this; cases this
theorem Up.trans {r r1 r2 : List Addr} {H H1 H2 : Hp} (a : Up r H r1 H1) (b : Up r1 H1 r2 H2) : Up r H r2 H2 where
  pre := a.pre.trans b.pre
  keep := fun x o h f => by
    have h1 := a.keep x o h f
    refine b.keep x o h1 ?_
    rcases f with f | f
    · exact .inl (a.off h f)
    · exact .inr f
  fresh := fun n x h1 h2 => by
    cases q : r1[n]? with
    | some y =>
      have := b.pre n y q
      rw [this] at h2; cases h2
      exact a.fresh n _ h1 q
    | none => exact a.dom x (b.fresh n x q h2)
  dom := fun x h => a.dom x (b.dom x h)
theorem tups_of {K : Frag} {H H' : Hp} (k : ∀ a o, H a = some o → Fixed o → H' a = some o) : Tups K H H' where
  t := fun a xs h => by
    rcases h with (h | ⟨o, h⟩) | h
    · exact .inl (.inl (k a _ h trivial))
    · exact .inl (.inr ⟨o, k a _ h trivial⟩)
    · exact .inr h
  f := fun a xs h => by
    rcases h with ⟨o, h⟩ | h
    · exact .inl ⟨o, k a _ h trivial⟩
    · exact .inr h
theorem Up.sqT {K : Frag} {r r' : List Addr} {H H' : Hp} (u : Up r H r' H') : Tups K H H' := tups_of fun a o h f => u.keep a o h (.inr f)
theorem Up.rel {K : Frag} {r r' : List Addr} {H H' : Hp} (u : Up r H r' H') {d : D} {v : V} (h : Rel K r H d v) : Rel K r' H' d v := Rel.mono u.pre u.sqT h
theorem Up.relL {K : Frag} {r r' : List Addr} {H H' : Hp} (u : Up r H r' H') {ds : List D} {xs : List V} (h : RelL K r H ds xs) : RelL K r' H' ds xs := RelL.mono u.pre u.sqT h
theorem Tups.refl {K : Frag} (H : Hp) : Tups K H H := ⟨fun _ _ h => h, fun _ _ h => h⟩
/-- a new object that no cell is -/
theorem Up.new {r : List Addr} {H : Hp} {p : Addr} {o : HO} (h : H p = none) : Up r H r (upd H p o) where
  pre := Ext.refl r
  keep := fun a u e _ => by rw [upd_ne (ne_of_none e h)]; exact e
  fresh := fun n a h1 h2 => by rw [h1] at h2; cases h2
  dom := fun a e => by
    by_cases q : a = p
    · subst q; exact h
    · rw [upd_ne q] at e; exact e

/-! ### cells -/
def RelF (K : Frag) (r : List Addr) (H : Hp) : List (Str × D) → List (Str × V) → Prop
  | [], ys => ys = []
  | p :: ps, ys => ∃ v vs, ys = (p.1, v) :: vs ∧ Rel K r H p.2 v ∧ RelF K r H ps vs
theorem RelF.mono {K : Frag} {r r' : List Addr} {H H' : Hp} (e : Ext r r') (t : Tups K H H') : ∀ {ds : List (Str × D)} {xs : List (Str × V)}, RelF K r H ds xs → RelF K r' H' ds xs
  | [], xs, h => h
  | d :: ds, xs, h => by
    obtain ⟨v, vs, h1, h2, h3⟩ := h
    exact ⟨v, vs, h1, Rel.mono e t h2, RelF.mono e t h3⟩
def CellR (K : Frag) (mg : Str → Option Value) (r : List Addr) (H : Hp) : Cell → Addr → Prop
  | .lst ds, a => ∃ xs, H a = some (.lst xs) ∧ RelL K r H ds xs
  | .ins c fs, a => ∃ C dx fsV, mg c = some (.ref C) ∧ H a = some (.ins C dx fsV) ∧ RelF K r H fs fsV
structure Sim (K : Frag) (mg : Str → Option Value) (r : List Addr) (st : Store) (H : Hp) : Prop where
  len : r.length = st.length
  inj : ∀ (n m : Nat) a, r[n]? = some a → r[m]? = some a → n = m
  ok : ∀ (n : Nat) a c, r[n]? = some a → st[n]? = some c → CellR K mg r H c a
section
variable {K : Frag} {mg : Str → Option Value} {r r' : List Addr} {H H' : Hp} {st : Store}
theorem Sim.at (S : Sim K mg r st H) {n : Nat} {c : Cell} (h : st[n]? = some c) : ∃ a, r[n]? = some a ∧ CellR K mg r H c a := by
  have hl : n < r.length := by rw [S.len]; exact (List.getElem?_eq_some_iff.mp h).1
  exact ⟨r[n], by simp [hl], S.ok n _ c (by simp [hl]) h⟩
theorem CellR.keep {c : Cell} {a : Addr} (h : CellR K mg r H c a) (e : Ext r r') (t : Tups K H H') (k : ∀ o, H a = some o → H' a = some o) : CellR K mg r' H' c a := by
  cases c with
  | lst ds =>
    obtain ⟨xs, h1, h2⟩ := h
    exact ⟨xs, k _ h1, h2.mono e t⟩
  | ins c fs =>
    obtain ⟨C, dx, fv, h0, h1, h2⟩ := h
    exact ⟨C, dx, fv, h0, k _ h1, h2.mono e t⟩
/-- nothing that a cell is has changed -/
theorem Sim.keep (S : Sim K mg r st H) (t : Tups K H H') (k : ∀ a o, H a = some o → H' a = some o) : Sim K mg r st H' :=
  ⟨S.len, S.inj, fun n a c h1 h2 => (S.ok n a c h1 h2).keep (Ext.refl r) t (k a)⟩
theorem tups_new {p : Addr} {o : HO} (h : H p = none) : Tups K H (upd H p o) := (Up.new (r := []) h).sqT
theorem Sim.new (S : Sim K mg r st H) {p : Addr} {o : HO} (h : H p = none) : Sim K mg r st (upd H p o) :=
  S.keep (tups_new h) fun a u e => by rw [upd_ne (ne_of_none e h)]; exact e
/-- a list gets its number -/
theorem Sim.snoc (S : Sim K mg r st H) {a : Addr} {c : Cell} (off : Off r a) (h : CellR K mg r H c a) : Sim K mg (r ++ [a]) (st ++ [c]) H := by
  have hl := S.len
  refine ⟨by simp [hl], fun n m b h1 h2 => ?_, fun n b k h1 h2 => ?_⟩
  · by_cases hn : n < r.length
    · rw [List.getElem?_append_left hn] at h1
      by_cases hm : m < r.length
      · rw [List.getElem?_append_left hm] at h2
        exact S.inj n m b h1 h2
      · rw [List.getElem?_append_right (by omega)] at h2
        have : m - r.length = 0 := by
          cases e : m - r.length with
          | zero => rfl
          | succ k => rw [e] at h2; simp at h2
        rw [this] at h2
        simp at h2; subst h2
        exact (off n h1).elim
    · rw [List.getElem?_append_right (by omega)] at h1
      have e1 : n - r.length = 0 := by
        cases e : n - r.length with
        | zero => rfl
        | succ k => rw [e] at h1; simp at h1
      rw [e1] at h1
      simp at h1; subst h1
      by_cases hm : m < r.length
      · rw [List.getElem?_append_left hm] at h2
        exact (off m h2).elim
      · rw [List.getElem?_append_right (by omega)] at h2
        have e2 : m - r.length = 0 := by
          cases e : m - r.length with
          | zero => rfl
          | succ k => rw [e] at h2; simp at h2
        omega
  · by_cases hn : n < r.length
    · rw [List.getElem?_append_left hn] at h1
      rw [List.getElem?_append_left (by omega)] at h2
      exact (S.ok n b k h1 h2).keep (Ext.snoc r a) (Tups.refl H) fun _ e => e
    · rw [List.getElem?_append_right (by omega)] at h1 h2
      have e1 : n - r.length = 0 := by
        cases e : n - r.length with
        | zero => rfl
        | succ k => rw [e] at h1; simp at h1
      have e2 : n - st.length = 0 := by omega
      rw [e1] at h1; rw [e2] at h2
      simp at h1 h2; subst h1; subst h2
      exact h.keep (Ext.snoc r _) (Tups.refl H) fun _ e => e
/-- a cell is written -/
theorem Sim.write (S : Sim K mg r st H) {n : Nat} {a : Addr} {o o' : HO} {c c' : Cell} (hr : r[n]? = some a) (hs : st[n]? = some c) (ho : H a = some o) (nf : ¬ Fixed o)
    (h : Tups K H (upd H a o') → CellR K mg r (upd H a o') c' a) : Sim K mg r (st.set n c') (upd H a o') ∧ Up r H r (upd H a o') := by
  have t : Tups K H (upd H a o') := tups_of fun b u e f => by
    rw [upd_ne]; exact e
    rintro rfl
    rw [ho] at e; cases e; exact nf f
  have hn : n < st.length := (List.getElem?_eq_some_iff.mp hs).1
  refine ⟨⟨by simp [S.len], S.inj, fun m b k h1 h2 => ?_⟩, ⟨Ext.refl r, fun b u e f => ?_, fun m b h1 h2 => by (rw [h1] at h2; cases h2), fun b e => ?_⟩⟩
  · by_cases e : n = m
    · subst e
      rw [List.getElem?_set_self hn] at h2
      cases h2
      rw [hr] at h1; cases h1
      exact h t
    · rw [List.getElem?_set_ne e] at h2
      have q := S.ok m b k h1 h2
      have hb : b ≠ a := fun z => e (S.inj n m a hr (by rw [← z]; exact h1))
      exact q.keep (Ext.refl r) t fun u z => by rw [upd_ne hb]; exact z
  · by_cases hb : b = a
    · subst hb
      rw [ho] at e; cases e
      rcases f with f | f
      · exact (f n hr).elim
      · exact (nf f).elim
    · rw [upd_ne hb]; exact e
  · by_cases hb : b = a
    · subst hb; rw [upd_same] at e; cases e
    · rw [upd_ne hb] at e; exact e
theorem CellR.some {c : Cell} {a : Addr} (h : CellR K mg r H c a) : ∃ o, H a = some o := by
  cases c with
  | lst ds => obtain ⟨xs, h1, _⟩ := h; exact ⟨_, h1⟩
  | ins c fs => obtain ⟨C, dx, fv, _, h1, _⟩ := h; exact ⟨_, h1⟩
/-- what is new is no cell -/
theorem Sim.off (S : Sim K mg r st H) {p : Addr} (h : H p = none) : Off r p := fun n e => by
  have hl : n < st.length := by rw [← S.len]; exact (List.getElem?_eq_some_iff.mp e).1
  obtain ⟨o, q⟩ := (S.ok n p st[n] e (by simp [hl])).some
  rw [h] at q; cases q
end

/-! ### an expression's value -/
/-- H0: the heap ahead of it -/
def RelEv (K : Frag) (r : List Addr) (H0 H : Hp) : Ev → V → Prop
  | .v d, v => Rel K r H d v
  | .t ds, v => ∃ a xs, v = .ref a ∧ H0 a = none ∧ Off r a ∧ H a = some (.lst xs) ∧ RelL K r H ds xs
section
variable {K : Frag} {mg : Str → Option Value} {r r' r0 : List Addr} {H H' H0 : Hp} {st : Store} {x : Ev} {v : V}
theorem RelEv.up (h : RelEv K r H0 H x v) (u : Up r H r' H') : RelEv K r' H0 H' x v := by
  cases x with
  | v d => exact u.rel h
  | t ds =>
    obtain ⟨a, xs, h1, h2, h3, h4, h5⟩ := h
    exact ⟨a, xs, h1, h2, u.off h4 h3, u.keep _ _ h4 (.inl h3), u.relL h5⟩
theorem RelEv.older (h : RelEv K r H H' x v) (d : ∀ a, H a = none → H0 a = none) : RelEv K r H0 H' x v := by
  cases x with
  | v _ => exact h
  | t ds =>
    obtain ⟨a, xs, h1, h2, h3, h4, h5⟩ := h
    exact ⟨a, xs, h1, d a h2, h3, h4, h5⟩
theorem off_snoc {a b : Addr} (h : Off r b) (ne : b ≠ a) : Off (r ++ [a]) b := fun n e => by
  by_cases hn : n < r.length
  · rw [List.getElem?_append_left hn] at e; exact h n e
  · rw [List.getElem?_append_right (by omega)] at e
    cases q : n - r.length with
    | zero => rw [q] at e; simp at e; exact ne e.symm
    | succ k => rw [q] at e; simp at e
/-- a value is held: a new list gets its number -/
theorem mat_ok (U : Up r0 H0 r H) (S : Sim K mg r st H) (h : RelEv K r H0 H x v) :
    ∃ r', Up r0 H0 r' H ∧ Ext r r' ∧ Sim K mg r' (mat x st).2 H ∧ Rel K r' H (mat x st).1 v ∧ (∀ b, Off r b → (∀ ds, x = .t ds → V.ref b ≠ v) → Off r' b) := by
  cases x with
  | v d => exact ⟨r, U, Ext.refl r, S, h, fun b h _ => h⟩
  | t ds =>
    obtain ⟨a, xs, rfl, h2, h3, h4, h5⟩ := h
    have hl := S.len
    refine ⟨r ++ [a], ⟨U.pre.trans (Ext.snoc r a), U.keep, fun n b e1 e2 => ?_, U.dom⟩, Ext.snoc r a, S.snoc h3 ⟨xs, h4, h5⟩, ?_, fun b hb ne => off_snoc hb fun e => ne ds rfl (by rw [e])⟩
    · by_cases hn : n < r.length
      · rw [List.getElem?_append_left hn] at e2; exact U.fresh n b e1 e2
      · rw [List.getElem?_append_right (by omega)] at e2
        cases q : n - r.length with
        | zero => rw [q] at e2; simp at e2; subst e2; exact h2
        | succ k => rw [q] at e2; simp at e2
    · unfold mat Rel
      exact ⟨a, by simp [hl], rfl⟩
/-- several values: the new lists among them are unlike -/
def RelEvs (K : Frag) (r : List Addr) (H0 H : Hp) : List Ev → List V → Prop
  | [], vs => vs = []
  | x :: xs, vs => ∃ v ws, vs = v :: ws ∧ RelEv K r H0 H x v ∧ (∀ ds, x = .t ds → ∀ (i : Nat) es, xs[i]? = some (.t es) → ws[i]? ≠ some v) ∧ RelEvs K r H0 H xs ws
theorem RelEvs.length : ∀ {xs : List Ev} {vs : List V}, RelEvs K r H0 H xs vs → xs.length = vs.length
  | [], vs, h => by rw [show vs = [] from h]; rfl
  | x :: xs, vs, h => by
    obtain ⟨v, ws, rfl, _, _, t⟩ := h
    simp [RelEvs.length t]
theorem RelEvs.up : ∀ {xs : List Ev} {vs : List V}, RelEvs K r H0 H xs vs → Up r H r' H' → RelEvs K r' H0 H' xs vs
  | [], vs, h, u => h
  | x :: xs, vs, h, u => by
    obtain ⟨v, ws, h1, h2, h3, h4⟩ := h
    exact ⟨v, ws, h1, h2.up u, h3, h4.up u⟩
theorem RelEvs.older : ∀ {xs : List Ev} {vs : List V}, RelEvs K r H H' xs vs → (∀ a, H a = none → H0 a = none) → RelEvs K r H0 H' xs vs
  | [], vs, h, d => h
  | x :: xs, vs, h, d => by
    obtain ⟨v, ws, h1, h2, h3, h4⟩ := h
    exact ⟨v, ws, h1, h2.older d, h3, h4.older d⟩
theorem mats_ok : ∀ {xs : List Ev} {vs : List V} {r : List Addr} {st : Store}, Up r0 H0 r H → Sim K mg r st H → RelEvs K r H0 H xs vs →
    ∃ r', Up r0 H0 r' H ∧ Ext r r' ∧ Sim K mg r' (mats xs st).2 H ∧ RelL K r' H (mats xs st).1 vs
  | [], vs, r, st, U, S, h => ⟨r, U, Ext.refl r, S, by rw [show vs = [] from h]; exact relL_nil⟩
  | .v d :: xs, vs, r, st, U, S, h => by
    obtain ⟨v, ws, rfl, h2, h3, h4⟩ := h
    obtain ⟨r2, U2, E2, S2, R2⟩ := mats_ok U S h4
    exact ⟨r2, U2, E2, S2, relL_cons (Rel.mono E2 (Tups.refl H) h2) R2⟩
  | .t ds :: xs, vs, r, st, U, S, h => by
    obtain ⟨v, ws, rfl, h2, h3, h4⟩ := h
    obtain ⟨r1, U1, E1, S1, R1, O1⟩ := mat_ok U S h2
    have h5 : RelEvs K r1 H0 H xs ws := by
      have key : ∀ (l : List Ev) (us : List V), (∀ (i : Nat) es, l[i]? = some (.t es) → us[i]? ≠ some v) → RelEvs K r H0 H l us → RelEvs K r1 H0 H l us := by
        intro l
        induction l with
        | nil => intro us _ q; exact q
        | cons y l ih =>
          intro us hne q
          obtain ⟨u, us', rfl, q2, q3, q4⟩ := q
          refine ⟨u, us', rfl, ?_, q3, ih us' (fun i es q => hne (i + 1) es (by simpa using q)) q4⟩
          cases y with
          | v d => exact Rel.mono E1 (Tups.refl H) q2
          | t ds =>
            obtain ⟨a, zs, rfl, z2, z3, z4, z5⟩ := q2
            refine ⟨a, zs, rfl, z2, O1 a z3 fun _ _ e => ?_, z4, z5.mono E1 (Tups.refl H)⟩
            exact hne 0 ds rfl (by rw [← e]; rfl)
      exact key xs ws (h3 ds rfl) h4
    obtain ⟨r2, U2, E2, S2, R2⟩ := mats_ok U1 S1 h5
    exact ⟨r2, U2, E1.trans E2, S2, relL_cons (Rel.mono E2 (Tups.refl H) R1) R2⟩
end
end SI

set_option maxHeartbeats 1000000
/-! SI 3: each operation by values does what the hand layer's rule asks. -/
namespace SI
open PySem L2
section
variable {K : Frag} {mg : Str → Option Value} {r r' : List Addr} {H H' H0 : Hp} {st : Store} {x y : Ev} {v w : V}

/-! ### lists and tuples read -/
theorem lstE_ok (S : Sim K mg r st H) (h : RelEv K r H0 H x v) {ds : List D} (e : lstE st x = some ds) : ∃ a xs, v = .ref a ∧ SqL K H a xs ∧ RelL K r H ds xs := by
  cases x with
  | t es =>
    obtain ⟨a, xs, rfl, _, _, h4, h5⟩ := h
    cases (show some es = some ds from e)
    exact ⟨a, xs, rfl, (.inl (.inl h4)), h5⟩
  | v d =>
    cases d with
    | ro es =>
      cases (show some es = some ds from e)
      unfold RelEv Rel at h
      obtain ⟨a, xs, h1, h2, h3⟩ := h
      exact ⟨a, xs, h1, h2.sq, h3⟩
    | ref n =>
      unfold RelEv Rel at h
      obtain ⟨a, h1, rfl⟩ := h
      unfold lstE items at e
      simp only at e
      cases q : st[n]? with
      | none => rw [q] at e; cases e
      | some c =>
        rw [q] at e
        have z := S.ok n a c h1 q
        cases c with
        | lst es =>
          cases e
          obtain ⟨xs, z1, z2⟩ := z
          exact ⟨a, xs, rfl, (.inl (.inl z1)), z2⟩
        | ins c fs => cases e
    | _ => cases e
theorem items_ok (S : Sim K mg r st H) (h : RelEv K r H0 H x v) {ds : List D} (e : items st x = some ds) : ∃ a xs, v = .ref a ∧ (SqL K H a xs ∨ SqT K H a xs) ∧ RelL K r H ds xs := by
  have key : lstE st x = some ds → ∃ a xs, v = .ref a ∧ (SqL K H a xs ∨ SqT K H a xs) ∧ RelL K r H ds xs := fun q => by
    obtain ⟨a, xs, h1, h2, h3⟩ := lstE_ok S h q
    exact ⟨a, xs, h1, .inl h2, h3⟩
  cases x with
  | t es => exact key e
  | v d =>
    cases d with
    | tup es =>
      cases (show some es = some ds from e)
      unfold RelEv Rel at h
      obtain ⟨a, xs, h1, h2, h3⟩ := h
      exact ⟨a, xs, h1, .inr h2, h3⟩
    | ref n => exact key e
    | ro es => exact key e
    | _ => cases e

/-! ### data for == -/
mutual
def toP : Nat → Store → D → PyData
  | _, _, .non => .none
  | _, _, .bl b => .bool b
  | _, _, .int i => .int i
  | _, _, .str s => .str s
  | 0, _, .ref _ => .none
  | 0, _, .tup _ => .none
  | 0, _, .ro _ => .none
  | n + 1, st, .tup ds => .tuple (toPs n st ds)
  | n + 1, st, .ro ds => .list (toPs n st ds)
  | n + 1, st, .ref k => (match items st (.v (.ref k)) with
    | some ds => .list (toPs n st ds)
    | none => .none)
termination_by n _ _ => (n, 0)
def toPs : Nat → Store → List D → List PyData
  | _, _, [] => []
  | n, st, d :: ds => toP n st d :: toPs n st ds
termination_by n _ ds => (n, ds.length + 1)
end
theorem all_cons {α : Type} {f : α → Bool} {a : α} {l : List α} (h : (a :: l).all f = true) : f a = true ∧ l.all f = true := by simpa using h
theorem ref_items (S : Sim K mg r st H) {k : Nat} {v : V} {ds : List D} (h : Rel K r H (.ref k) v) (e : items st (.v (.ref k)) = some ds) : ∃ a xs, v = .ref a ∧ SqL K H a xs ∧ RelL K r H ds xs :=
  lstE_ok (H0 := H) (x := .v (.ref k)) S h e
theorem isP_ref {n k : Nat} (h : isP (n + 1) st (.ref k) = true) : ∃ ds, items st (.v (.ref k)) = some ds ∧ ds.all (isP n st) = true := by
  unfold isP at h
  unfold items
  simp only
  cases q : st[k]? with
  | none => rw [q] at h; cases h
  | some c =>
    rw [q] at h
    cases c with
    | lst ds => exact ⟨ds, rfl, h⟩
    | ins c fs => cases h
theorem isPs_dp {n : Nat} (ih : ∀ d v, isP n st d = true → Rel K r H d v → Dp K H v (toP n st d) ∧ (toP n st d).canLay0 = true ∧ (toP n st d).depth ≤ n) :
    ∀ ds vs, ds.all (isP n st) = true → RelL K r H ds vs → DpAll K H vs (toPs n st ds) ∧ PyData.canLayAll0 (toPs n st ds) = true ∧ PyData.depthAll (toPs n st ds) ≤ n
  | [], vs, _, h => by
    rw [h.unnil]; unfold toPs
    exact ⟨.nil, by simp [PyData.canLayAll0], by simp [PyData.depthAll]⟩
  | d :: ds, vs, h, q => by
    obtain ⟨v, ws, rfl, q1, q2⟩ := q.uncons
    obtain ⟨h1, h2⟩ := all_cons h
    obtain ⟨a1, a2, a3⟩ := ih d v h1 q1
    obtain ⟨b1, b2, b3⟩ := isPs_dp ih ds ws h2 q2
    unfold toPs
    refine ⟨.cons a1 b1, by simp [PyData.canLayAll0, a2, b2], ?_⟩
    unfold PyData.depthAll
    omega
theorem isP_dp (S : Sim K mg r st H) : ∀ (n : Nat) (d : D) (v : V), isP n st d = true → Rel K r H d v → Dp K H v (toP n st d) ∧ (toP n st d).canLay0 = true ∧ (toP n st d).depth ≤ n := by
  intro n
  induction n with
  | zero =>
    intro d v h q
    cases d with
    | non => unfold Rel at q; subst q; unfold toP; exact ⟨.non, by simp [PyData.canLay0], by simp [PyData.depth]⟩
    | bl b => unfold Rel at q; subst q; unfold toP; exact ⟨.bl b, by simp [PyData.canLay0], by simp [PyData.depth]⟩
    | int b => unfold Rel at q; subst q; unfold toP; exact ⟨.int b, by simp [PyData.canLay0], by simp [PyData.depth]⟩
    | str b => unfold Rel at q; subst q; unfold toP; unfold isP at h; exact ⟨.str b, by simp [PyData.canLay0, h], by simp [PyData.depth]⟩
    | ref k => unfold isP at h; cases h
    | tup ds => unfold isP at h; cases h
    | ro ds => unfold isP at h; cases h
  | succ n ih =>
    intro d v h q
    cases d with
    | non => unfold Rel at q; subst q; unfold toP; exact ⟨.non, by simp [PyData.canLay0], by simp [PyData.depth]⟩
    | bl b => unfold Rel at q; subst q; unfold toP; exact ⟨.bl b, by simp [PyData.canLay0], by simp [PyData.depth]⟩
    | int b => unfold Rel at q; subst q; unfold toP; exact ⟨.int b, by simp [PyData.canLay0], by simp [PyData.depth]⟩
    | str b => unfold Rel at q; subst q; unfold toP; unfold isP at h; exact ⟨.str b, by simp [PyData.canLay0, h], by simp [PyData.depth]⟩
    | ref k =>
      obtain ⟨ds, e, h2⟩ := isP_ref h
      obtain ⟨a, xs, rfl, hs, hr⟩ := ref_items S q e
      obtain ⟨b1, b2, b3⟩ := isPs_dp ih ds xs h2 hr
      unfold toP
      rw [e]
      exact ⟨.lst hs b1, by simpa [PyData.canLay0] using b2, by simp only [PyData.depth]; omega⟩
    | tup ds =>
      unfold isP at h
      unfold Rel at q
      obtain ⟨a, xs, rfl, hs, hr⟩ := q
      obtain ⟨b1, b2, b3⟩ := isPs_dp ih ds xs h hr
      unfold toP
      exact ⟨.tup hs b1, by simpa [PyData.canLay0] using b2, by simp only [PyData.depth]; omega⟩
    | ro ds =>
      unfold isP at h
      unfold Rel at q
      obtain ⟨a, xs, rfl, hs, hr⟩ := q
      obtain ⟨b1, b2, b3⟩ := isPs_dp ih ds xs h hr
      unfold toP
      exact ⟨.lst hs.sq b1, by simpa [PyData.canLay0] using b2, by simp only [PyData.depth]; omega⟩
theorem eqs_eqv {n : Nat} (ih : ∀ a b, isP n st a = true → isP n st b = true → eqB n st a b = PyData.eqv (toP n st a) (toP n st b)) :
    ∀ as bs : List D, as.all (isP n st) = true → bs.all (isP n st) = true → eqs (eqB n st) as bs = PyData.eqvAll (toPs n st as) (toPs n st bs)
  | [], [], _, _ => by unfold toPs eqs PyData.eqvAll; rfl
  | [], b :: bs, _, _ => by unfold toPs eqs PyData.eqvAll; rfl
  | a :: as, [], _, _ => by unfold toPs eqs PyData.eqvAll; rfl
  | a :: as, b :: bs, h, h' => by
    obtain ⟨h1, h2⟩ := all_cons h
    obtain ⟨h3, h4⟩ := all_cons h'
    unfold toPs eqs PyData.eqvAll
    rw [ih a b h1 h3, eqs_eqv ih as bs h2 h4]
theorem lst_toP {n : Nat} {d : D} {ds : List D} (h : isP (n + 1) st d = true) (e : lstE st (.v d) = some ds) : ds.all (isP n st) = true ∧ toP (n + 1) st d = .list (toPs n st ds) := by
  cases d with
  | ref k =>
    obtain ⟨es, e', h2⟩ := isP_ref h
    have e2 : items st (.v (.ref k)) = some ds := e
    rw [e'] at e2
    cases e2
    exact ⟨h2, by unfold toP; rw [e']⟩
  | ro es =>
    cases (show some es = some ds from e)
    unfold isP at h
    exact ⟨h, by unfold toP; rfl⟩
  | _ => cases e
theorem eqB_eqv : ∀ (n : Nat) (a b : D), isP n st a = true → isP n st b = true → eqB n st a b = PyData.eqv (toP n st a) (toP n st b) := by
  intro n
  induction n with
  | zero =>
    intro a b ha hb
    cases a <;> cases b <;> first
      | (unfold isP at ha; cases ha; done)
      | (unfold isP at hb; cases hb; done)
      | (unfold toP eqB PyData.eqv; rfl)
  | succ n ih =>
    intro a b ha hb
    cases e1 : lstE st (.v a) with
    | some as =>
      obtain ⟨a1, a2⟩ := lst_toP ha e1
      cases e2 : lstE st (.v b) with
      | some bs =>
        obtain ⟨b1, b2⟩ := lst_toP hb e2
        rw [a2, b2]
        have q : eqB (n + 1) st a b = eqs (eqB n st) as bs := by
          cases a <;> cases b <;> first | (cases e1; done) | (cases e2; done) | (unfold eqB; rw [e1, e2])
        rw [q]
        unfold PyData.eqv
        exact eqs_eqv ih as bs a1 b1
      | none =>
        rw [a2]
        have q : eqB (n + 1) st a b = false := by
          cases a <;> first | (cases e1; done) | (cases b <;> (unfold eqB; rw [e1, e2]))
        rw [q]
        cases b <;> first
          | (cases e2; done)
          | (unfold toP PyData.eqv; rfl)
          | (obtain ⟨es, e', _⟩ := isP_ref hb; rw [show items st (.v (.ref _)) = none from e2] at e'; cases e')
    | none =>
      cases e2 : lstE st (.v b) with
      | some bs =>
        obtain ⟨b1, b2⟩ := lst_toP hb e2
        rw [b2]
        have q : eqB (n + 1) st a b = false := by
          cases b <;> first | (cases e2; done) | (cases a <;> (unfold eqB; rw [e1, e2]))
        rw [q]
        cases a <;> first
          | (cases e1; done)
          | (unfold toP PyData.eqv; rfl)
          | (obtain ⟨es, e', _⟩ := isP_ref ha; rw [show items st (.v (.ref _)) = none from e1] at e'; cases e')
      | none =>
        cases a with
        | ro _ => cases e1
        | ref _ => obtain ⟨es, e', _⟩ := isP_ref ha; rw [show items st (.v (.ref _)) = none from e1] at e'; cases e'
        | tup as =>
          cases b with
          | ro _ => cases e2
          | ref _ => obtain ⟨es, e', _⟩ := isP_ref hb; rw [show items st (.v (.ref _)) = none from e2] at e'; cases e'
          | tup bs =>
            unfold isP at ha hb
            unfold toP eqB PyData.eqv
            exact eqs_eqv ih as bs ha hb
          | _ => unfold toP eqB PyData.eqv; rfl
        | _ =>
          cases b with
          | ro _ => cases e2
          | ref _ => obtain ⟨es, e', _⟩ := isP_ref hb; rw [show items st (.v (.ref _)) = none from e2] at e'; cases e'
          | _ => unfold toP eqB PyData.eqv; rfl
/-- the data of a value, at depth 51 -/
def toE (st : Store) : Ev → PyData
  | .v d => toP 50 st d
  | .t ds => .list (toPs 49 st ds)
theorem shaped_of {d : PyData} (h : d.canLay0 = true) (z : d.depth ≤ 64) : SeqAt.shaped d = true := by
  unfold SeqAt.shaped
  rw [h, decide_eq_true z] <;> rfl
theorem isPE_dp (S : Sim K mg r st H) (h : isPE st x = true) (q : RelEv K r H0 H x v) : Dp K H v (toE st x) ∧ SeqAt.shaped (toE st x) = true := by
  cases x with
  | v d =>
    obtain ⟨a, b, c⟩ := isP_dp S 50 d v h q
    exact ⟨a, shaped_of b (Nat.le_trans c (by decide))⟩
  | t ds =>
    obtain ⟨a, xs, rfl, _, _, h4, h5⟩ := q
    obtain ⟨b1, b2, b3⟩ := isPs_dp (isP_dp S 49) ds xs h h5
    refine ⟨.lst (.inl (.inl h4)) b1, shaped_of ?_ ?_⟩
    · unfold toE; simpa [PyData.canLay0] using b2
    · unfold toE; simp only [PyData.depth]; omega
theorem toP_lst {n k : Nat} {ds : List D} (e : items st (.v (.ref k)) = some ds) : toP (n + 1) st (.ref k) = .list (toPs n st ds) := by unfold toP; rw [e]
theorem eqS_ok {a b : D} {c : Bool} (h : eqS a b = some c) (ha : Rel K r H a v) (hb : Rel K r H b w) : scal v w = true ∧ decide (v = w) = c := by
  cases a <;> cases b <;> unfold eqS at h <;> cases h <;> unfold Rel at ha hb <;> subst ha <;> subst hb <;> first
    | exact ⟨rfl, rfl⟩
    | exact ⟨rfl, by simp⟩
theorem isPE_lst {ds : List D} (h : isPE st x = true) (e : lstE st x = some ds) : ds.all (isP 49 st) = true ∧ toE st x = .list (toPs 49 st ds) := by
  cases x with
  | t es => cases (show some es = some ds from e); exact ⟨h, rfl⟩
  | v d => exact lst_toP (n := 49) h e
theorem isPE_nl {ds : List D} (h : isPE st x = true) (e : lstE st x = none) (l : List PyData) : PyData.eqv (.list l) (toE st x) = false ∧ PyData.eqv (toE st x) (.list l) = false := by
  cases x with
  | t es => cases e
  | v d =>
    cases d with
    | ref k =>
      obtain ⟨es, e', h2⟩ := isP_ref (n := 49) h
      have e2 : items st (.v (.ref k)) = none := e
      rw [e'] at e2; cases e2
    | ro _ => cases e
    | _ => unfold toE toP PyData.eqv; exact ⟨rfl, rfl⟩
theorem eqE_ok (S : Sim K mg r st H) {c : Bool} (h : eqE x y st = some c) (hx : RelEv K r H0 H x v) (hy : RelEv K r H' H y w) :
    (scal v w = true ∧ decide (v = w) = c) ∨ (Dp K H v (toE st x) ∧ Dp K H w (toE st y) ∧ SeqAt.shaped (toE st x) = true ∧ SeqAt.shaped (toE st y) = true ∧ PyData.eqv (toE st x) (toE st y) = c) := by
  unfold eqE at h
  split at h
  · rename_i c' e
    cases h
    split at e
    · exact .inl (eqS_ok e hx hy)
    · cases e
  · split at h
    · rename_i hp
      obtain ⟨hp1, hp2⟩ := Bool.and_eq_true_iff.mp hp
      obtain ⟨d1, s1⟩ := isPE_dp S hp1 hx
      obtain ⟨d2, s2⟩ := isPE_dp S hp2 hy
      refine .inr ⟨d1, d2, s1, s2, ?_⟩
      cases e1 : lstE st x with
      | some as =>
        obtain ⟨a1, a2⟩ := isPE_lst hp1 e1
        cases e2 : lstE st y with
        | some bs =>
          obtain ⟨b1, b2⟩ := isPE_lst hp2 e2
          rw [e1, e2] at h
          cases h
          rw [a2, b2]
          unfold PyData.eqv
          exact (eqs_eqv (eqB_eqv 49) as bs a1 b1).symm
        | none =>
          rw [e1, e2] at h
          cases h
          rw [a2]
          exact (isPE_nl (ds := []) hp2 e2 _).1
      | none =>
        cases e2 : lstE st y with
        | some bs =>
          obtain ⟨b1, b2⟩ := isPE_lst hp2 e2
          rw [e1, e2] at h
          cases h
          rw [b2]
          exact (isPE_nl (ds := []) hp1 e1 _).2
        | none =>
          rw [e1, e2] at h
          cases x with
          | t _ => cases e1
          | v a =>
            cases y with
            | t _ => cases e2
            | v b =>
              cases h
              exact (eqB_eqv 50 a b hp1 hp2).symm
    · cases h
end
end SI

set_option maxHeartbeats 1000000
/-! SI 4: the operations. -/
namespace SI
open PySem L2
def unb : BOp → Operator
  | .add => .Add | .sub => .Sub | .mul => .Mult | .fdiv => .FloorDiv | .mod => .Mod | .pow => .Pow | .band => .BitAnd | .shr => .RShift
theorem bop_unb {op : Operator} {o : BOp} (h : bop op = some o) : op = unb o := by
  cases op <;> cases h <;> rfl
def unc : COp → CmpOp
  | .eq => .Eq | .ne => .NotEq | .lt => .Lt | .le => .LtE | .gt => .Gt | .ge => .GtE | .is => .Is | .isnot => .IsNot | .isin => .In | .notin => .NotIn
theorem cop_unc {op : CmpOp} {o : COp} (h : cop op = some o) : op = unc o := by
  cases op <;> cases h <;> rfl
theorem small_ok {i j : Int} (h : (small i || small j) = true) : CMul i j := by
  unfold small at h
  rcases Bool.or_eq_true_iff.mp h with h | h
  · exact .inl (by simpa using h)
  · exact .inr (by simpa using h)
section
variable {X : Cx} {r : List Addr} {H H0 H1 : Hp} {st : Store} {mg : Str → Option Value}
theorem rel_int {i : Int} {v : V} (h : RelEv X.K r H0 H (.v (.int i)) v) : v = .int i := by unfold RelEv Rel at h; exact h
theorem rel_bl {i : Bool} {v : V} (h : RelEv X.K r H0 H (.v (.bl i)) v) : v = .bl i := by unfold RelEv Rel at h; exact h
theorem rel_str {i : Str} {v : V} (h : RelEv X.K r H0 H (.v (.str i)) v) : v = .str i := by unfold RelEv Rel at h; exact h
theorem rel_non {v : V} (h : RelEv X.K r H0 H (.v .non) v) : v = .non := by unfold RelEv Rel at h; exact h
theorem rel_int' {i : Int} : RelEv X.K r H0 H (.v (.int i)) (.int i) := by unfold RelEv Rel; rfl
theorem rel_bl' {i : Bool} : RelEv X.K r H0 H (.v (.bl i)) (.bl i) := by unfold RelEv Rel; rfl
theorem rel_str' {i : Str} : RelEv X.K r H0 H (.v (.str i)) (.str i) := by unfold RelEv Rel; rfl
theorem rel_non' : RelEv X.K r H0 H (.v .non) .non := by unfold RelEv Rel; rfl
/-- what is wanted of a value and the heap behind -/
abbrev Wnt (K : Frag) (mg : Str → Option Value) (r : List Addr) (H0 H : Hp) (st : Store) (z : Ev) (Q : VK) : Prop := ∀ r' H' v, Up r H r' H' → Sim K mg r' st H' → RelEv K r' H0 H' z v → Q v H'
theorem bin_ok (op : BOp) : ∃ rr : R2, OpR X (binaryOp (unb op)) rr ∧ ∀ {r : List Addr} {st : Store} {H0 H1 H : Hp} {x y z : Ev} {v w : V} {Q : VK}, Sim X.K mg r st H → RelEv X.K r H0 H x v → RelEv X.K r H1 H y w → binD op x y st = some z →
    (∀ r' H' v, Up r H r' H' → Sim X.K mg r' st H' → RelEv X.K r' H H' z v → Q v H') → rr v w H Q := by
  cases op with
  | add =>
    refine ⟨_, op_add, fun {r st H0 H1 H x y z v w Q} S hx hy e q => ?_⟩
    unfold binD at e
    split at e <;> simp_all only [reduceCtorEq, Option.some.injEq]
    subst e
    rw [rel_int hx, rel_int hy]
    exact ⟨_, _, rfl, rfl, q r H _ (Up.refl r H) S rel_int'⟩
  | sub =>
    refine ⟨_, op_sub, fun {r st H0 H1 H x y z v w Q} S hx hy e q => ?_⟩
    unfold binD at e
    split at e <;> simp_all only [reduceCtorEq, Option.some.injEq]
    subst e
    rw [rel_int hx, rel_int hy]
    exact ⟨_, _, rfl, rfl, q r H _ (Up.refl r H) S rel_int'⟩
  | mul =>
    refine ⟨_, op_mul, fun {r st H0 H1 H x y z v w Q} S hx hy e q => ?_⟩
    unfold binD at e
    split at e <;> simp_all only [reduceCtorEq]
    split at e <;> simp_all only [reduceCtorEq, Option.some.injEq]
    rename_i hs
    subst e
    rw [rel_int hx, rel_int hy]
    exact ⟨_, _, rfl, rfl, small_ok hs, q r H _ (Up.refl r H) S rel_int'⟩
  | fdiv =>
    refine ⟨_, op_fdiv, fun {r st H0 H1 H x y z v w Q} S hx hy e q => ?_⟩
    unfold binD at e
    split at e <;> simp_all only [reduceCtorEq]
    split at e <;> simp_all only [reduceCtorEq, Option.some.injEq]
    rename_i hs
    subst e
    rw [rel_int hx, rel_int hy]
    exact ⟨_, _, rfl, rfl, hs, q r H _ (Up.refl r H) S rel_int'⟩
  | mod =>
    refine ⟨_, op_mod, fun {r st H0 H1 H x y z v w Q} S hx hy e q => ?_⟩
    unfold binD at e
    split at e <;> simp_all only [reduceCtorEq]
    split at e <;> simp_all only [reduceCtorEq, Option.some.injEq]
    rename_i hs
    subst e
    rw [rel_int hx, rel_int hy]
    exact ⟨_, _, rfl, rfl, hs, q r H _ (Up.refl r H) S rel_int'⟩
  | pow =>
    refine ⟨_, op_pow, fun {r st H0 H1 H x y z v w Q} S hx hy e q => ?_⟩
    unfold binD at e
    split at e <;> simp_all only [reduceCtorEq]
    split at e <;> simp_all only [reduceCtorEq, Option.some.injEq]
    rename_i hs
    subst e
    rw [rel_int hx, rel_int hy]
    exact ⟨_, _, rfl, rfl, hs, q r H _ (Up.refl r H) S rel_int'⟩
  | shr =>
    refine ⟨_, op_shr, fun {r st H0 H1 H x y z v w Q} S hx hy e q => ?_⟩
    unfold binD at e
    split at e <;> simp_all only [reduceCtorEq]
    split at e <;> simp_all only [reduceCtorEq, Option.some.injEq]
    rename_i hs
    subst e
    rw [rel_int hx, rel_int hy]
    exact ⟨_, _, rfl, rfl, hs, q r H _ (Up.refl r H) S rel_int'⟩
  | band =>
    refine ⟨_, op_and, fun {r st H0 H1 H x y z v w Q} S hx hy e q => ?_⟩
    unfold binD at e
    split at e <;> simp_all only [reduceCtorEq, Option.some.injEq]
    subst e
    rw [rel_int hx, rel_int hy]
    exact ⟨_, _, rfl, rfl, q r H _ (Up.refl r H) S rel_int'⟩
def isNonE : Ev → Bool
  | .v .non => true
  | _ => false
theorem rel_isnon {x : Ev} {v : V} (h : RelEv X.K r H0 H x v) : decide (v = .non) = isNonE x := by
  cases x with
  | v d =>
    cases d with
    | non => rw [rel_non h]; rfl
    | bl b => rw [rel_bl h]; rfl
    | int b => rw [rel_int h]; rfl
    | str b => rw [rel_str h]; rfl
    | ref b => unfold RelEv Rel at h; obtain ⟨a, _, rfl⟩ := h; rfl
    | tup b => unfold RelEv Rel at h; obtain ⟨a, _, rfl, _⟩ := h; rfl
    | ro b => unfold RelEv Rel at h; obtain ⟨a, _, rfl, _⟩ := h; rfl
  | t ds => unfold RelEv at h; obtain ⟨a, _, rfl, _⟩ := h; rfl
theorem is_sh {x y : Ev} {c : Bool} (e : cmpD .is x y st = some c) : y = .v .non ∧ c = isNonE x := by
  cases y with
  | t _ => cases x with
    | t _ => cases e
    | v d => cases d <;> cases e
  | v b => cases b with
    | non => cases x with
      | t _ => cases e; exact ⟨rfl, rfl⟩
      | v d => cases d <;> cases e <;> exact ⟨rfl, rfl⟩
    | _ => cases x with
      | t _ => cases e
      | v d => cases d <;> cases e
theorem isnot_sh {x y : Ev} {c : Bool} (e : cmpD .isnot x y st = some c) : y = .v .non ∧ c = !isNonE x := by
  cases y with
  | t _ => cases x with
    | t _ => cases e
    | v d => cases d <;> cases e
  | v b => cases b with
    | non => cases x with
      | t _ => cases e; exact ⟨rfl, rfl⟩
      | v d => cases d <;> cases e <;> exact ⟨rfl, rfl⟩
    | _ => cases x with
      | t _ => cases e
      | v d => cases d <;> cases e
theorem opR_never {f : Value → Value → Sem Value} : OpR X f (fun _ _ _ _ => False) := fun _ _ _ _ _ _ _ _ _ _ _ _ h => h.elim
theorem lex_ord {rel : Int → Int → Bool} {z : Nat → Nat → Bool} (hz : ∀ i j, z (i + 1) (j + 1) = z i j) : ∀ (ns ms : List Int) (ns0 ms0 : List Int) (i : Nat), (∀ j, ns0.getD (i + j) 0 = ns.getD j 0) → (∀ j, ms0.getD (i + j) 0 = ms.getD j 0) →
    Ob.lexAt (fun j => decide (ns0.getD j 0 = ms0.getD j 0)) (fun j => rel (ns0.getD j 0) (ms0.getD j 0)) (z ns.length ms.length) i (min ns.length ms.length) = ordT rel z ns ms
  | [], ms, ns0, ms0, i, h1, h2 => by
    rw [show min ([] : List Int).length ms.length = 0 by simp, Ob.lexAt_zero]
    cases ms <;> rfl
  | x :: xs, [], ns0, ms0, i, h1, h2 => by
    rw [show min (x :: xs).length ([] : List Int).length = 0 by simp, Ob.lexAt_zero]
    rfl
  | x :: xs, y :: ys, ns0, ms0, i, h1, h2 => by
    rw [show min (x :: xs).length (y :: ys).length = min xs.length ys.length + 1 by simp only [List.length_cons]; omega, Ob.lexAt_succ]
    have a1 : ns0.getD i 0 = x := h1 0
    have a2 : ms0.getD i 0 = y := h2 0
    have ih := lex_ord (rel := rel) hz xs ys ns0 ms0 (i + 1) (fun j => by rw [show i + 1 + j = i + (j + 1) by omega]; exact h1 (j + 1)) (fun j => by rw [show i + 1 + j = i + (j + 1) by omega]; exact h2 (j + 1))
    simp only [a1, a2, decide_eq_true_eq]
    unfold ordT
    rw [show z (x :: xs).length (y :: ys).length = z xs.length ys.length from hz _ _]
    split
    · exact ih
    · rfl
/-- two tuples of whole numbers -/
def rOrd (K : Frag) (rel : Int → Int → Bool) (z : Nat → Nat → Bool) : R2 := fun x y H Q => ∃ (a b : Addr) (ns ms : List Int), x = .ref a ∧ y = .ref b ∧ SqT K H a (ns.map V.int) ∧ SqT K H b (ms.map V.int) ∧ Q (.bl (ordT rel z ns ms)) H
/-- the model's comparison of two tuples, by what it gives of each pair -/
def TupOrd (X : Cx) (op : CmpOp) (rel : Int → Int → Bool) (z : Nat → Nat → Bool) : Prop := ∀ (s : Shared) (l b : Addr) (p q : Array Value) (e r : Nat → Bool), s.heap.IsTuple l p → s.heap.IsTuple b q →
  (∀ j (h1 : j < p.size) (h2 : j < q.size), PySem.SeqAt.EqAt X.A.in1 s p[j] q[j] (e j)) → (∀ j (h1 : j < p.size) (h2 : j < q.size), e j = false → Ob.RcOp op X.A.in1 s p[j] q[j] (r j)) → Ob.RcOp op X.A s (.ref l) (.ref b) (Ob.lexAt e r (z p.size q.size) 0 (min p.size q.size))
theorem op_ord {op : CmpOp} {rel : Int → Int → Bool} {z : Nat → Nat → Bool} (hc : compareOp op = richCompare op) (hz : ∀ i j, z (i + 1) (j + 1) = z i j) (ho : TupOrd X op rel z) (hi : ∀ (A : Around) (s : Shared) (i j : Int) (t u : Tok), Ob.RcOp op A s (.int i t) (.int j u) (rel i j)) : OpR X (compareOp op) (rOrd X.K rel z) := by
  intro pins s σ H x y v u Q I rx ry h
  obtain ⟨a, b, ns, ms, rfl, rfl, ha, hb, q⟩ := h
  cases rx
  cases ry
  obtain ⟨p, r1, p1, _⟩ := I.tuple ha
  obtain ⟨p', r2, p2, _⟩ := I.tuple hb
  have i1 := Vals.ints r1
  have i2 := Vals.ints r2
  have R := ho s a b p.toArray p'.toArray (fun j => decide (ns.getD j 0 = ms.getD j 0)) (fun j => rel (ns.getD j 0) (ms.getD j 0)) p1 p2
    (fun j h1 h2 => by
      obtain ⟨t, et⟩ := PyProof.Rows.IntsAre.int_at i1 j p.toArray[j] (by simp at h1; simp [h1])
      obtain ⟨t', et'⟩ := PyProof.Rows.IntsAre.int_at i2 j p'.toArray[j] (by simp at h2; simp [h2])
      rw [et, et', show decide (ns.getD j 0 = ms.getD j 0) = (ns.getD j 0 == ms.getD j 0) by rw [Bool.eq_iff_iff]; simp]
      exact PySem.SeqAt.EqAt.int_int _ _ _ _)
    (fun j h1 h2 _ => by
      obtain ⟨t, et⟩ := PyProof.Rows.IntsAre.int_at i1 j p.toArray[j] (by simp at h1; simp [h1])
      obtain ⟨t', et'⟩ := PyProof.Rows.IntsAre.int_at i2 j p'.toArray[j] (by simp at h2; simp [h2])
      rw [et, et']
      exact hi _ _ _ _ _ _)
  have z1 : p.toArray.size = ns.length := (List.size_toArray ..).trans i1.length
  have z2 : p'.toArray.size = ms.length := (List.size_toArray ..).trans i2.length
  rw [z1, z2, lex_ord hz ns ms ns ms 0 (fun j => by rw [Nat.zero_add]) (fun j => by rw [Nat.zero_add])] at R
  rw [hc]
  exact R X.prog X.w X.xe (EP X pins σ Q) ⟨.bl _, H, I, rfl, q⟩
theorem ints_rel {ds : List D} {ns : List Int} : ∀ {vs : List V}, intsOf ds = some ns → RelL X.K r H ds vs → vs = ns.map V.int := by
  induction ds generalizing ns with
  | nil => intro vs e h; cases e; exact h
  | cons d ds ih =>
    intro vs e h
    obtain ⟨v, ws, rfl, h1, h2⟩ := h
    unfold intsOf at e
    split at e
    · rename_i e2
      cases e2
    · rename_i i r2 e2
      cases e2
      cases q : intsOf ds with
      | none => rw [q] at e; cases e
      | some l =>
        rw [q] at e
        cases e
        rw [ih q h2]
        unfold Rel at h1
        rw [h1]; rfl
    · cases e
theorem ord_rel {rel : Int → Int → Bool} {z : Nat → Nat → Bool} {xs ys : List D} {c : Bool} {v w : V} {Q : VK} (hx : RelEv X.K r H0 H (.v (.tup xs)) v) (hy : RelEv X.K r H1 H (.v (.tup ys)) w) (e : ordD rel z xs ys = some c) (q : Q (.bl c) H) : rOrd X.K rel z v w H Q := by
  unfold RelEv Rel at hx hy
  obtain ⟨a, vs, rfl, ha, hvs⟩ := hx
  obtain ⟨b, ws, rfl, hb, hws⟩ := hy
  unfold ordD at e
  split at e
  · rename_i ns ms e1 e2
    cases e
    rw [ints_rel e1 hvs] at ha
    rw [ints_rel e2 hws] at hb
    exact ⟨a, b, ns, ms, rfl, rfl, ha, hb, q⟩
  · cases e
theorem cmp_ok (hu : X.A.units + 64 < cLine) (op : COp) : ∃ rr : R2, OpR X (compareOp (unc op)) rr ∧ ∀ {r : List Addr} {st : Store} {H0 H1 H : Hp} {x y : Ev} {c : Bool} {v w : V} {Q : VK}, Sim X.K mg r st H → RelEv X.K r H0 H x v → RelEv X.K r H1 H y w → cmpD op x y st = some c →
    Q (.bl c) H → rr v w H Q := by
  cases op with
  | eq =>
    refine ⟨_, op_eq.or (op_eqD hu), fun {r st H0 H1 H x y c v w Q} S hx hy e q => ?_⟩
    rcases eqE_ok S (show eqE x y st = some c from e) hx hy with ⟨h1, h2⟩ | ⟨h1, h2, h3, h4, h5⟩
    · exact .inl ⟨h1, by rw [h2]; exact q⟩
    · exact .inr ⟨_, _, h1, h2, h3, h4, by rw [h5]; exact q⟩
  | ne =>
    refine ⟨_, op_ne.or (op_neD hu), fun {r st H0 H1 H x y c v w Q} S hx hy e q => ?_⟩
    have e' : (eqE x y st).map not = some c := e
    cases e2 : eqE x y st with
    | none => rw [e2] at e'; cases e'
    | some b =>
      rw [e2] at e'
      cases e'
      rcases eqE_ok S e2 hx hy with ⟨h1, h2⟩ | ⟨h1, h2, h3, h4, h5⟩
      · exact .inl ⟨h1, by rw [h2]; exact q⟩
      · exact .inr ⟨_, _, h1, h2, h3, h4, by rw [h5]; exact q⟩
  | lt =>
    refine ⟨_, op_lt.or (op_ord (rel := fun i j => decide (i < j)) (z := fun i j => decide (i < j)) rfl (fun i j => by congr 1; exact propext ⟨fun _ => by omega, fun _ => by omega⟩) (fun s l b p q e r h1 h2 h3 h4 => Ob.RcOp.tuples_lt h1 h2 (by omega) h3 h4) fun A s i j t u => Ob.RcOp.lt_int i j t u), fun {r st H0 H1 H x y c v w Q} S hx hy e q => ?_⟩
    unfold cmpD at e
    split at e <;> simp_all only [reduceCtorEq, Option.some.injEq]
    · rw [rel_int hx, rel_int hy]
      exact .inl ⟨_, _, rfl, rfl, by subst e; exact q⟩
    · exact .inr (ord_rel hx hy e q)
  | le =>
    refine ⟨_, op_le.or (op_ord (rel := fun i j => decide (i ≤ j)) (z := fun i j => decide (i ≤ j)) rfl (fun i j => by congr 1; exact propext ⟨fun _ => by omega, fun _ => by omega⟩) (fun s l b p q e r h1 h2 h3 h4 => Ob.RcOp.tuples_le h1 h2 (by omega) h3 h4) fun A s i j t u => Ob.RcOp.le_int i j t u), fun {r st H0 H1 H x y c v w Q} S hx hy e q => ?_⟩
    unfold cmpD at e
    split at e <;> simp_all only [reduceCtorEq, Option.some.injEq]
    · rw [rel_int hx, rel_int hy]
      exact .inl ⟨_, _, rfl, rfl, by subst e; exact q⟩
    · exact .inr (ord_rel hx hy e q)
  | gt =>
    refine ⟨_, op_gt.or (op_ord (rel := fun i j => decide (j < i)) (z := fun i j => decide (j < i)) rfl (fun i j => by congr 1; exact propext ⟨fun _ => by omega, fun _ => by omega⟩) (fun s l b p q e r h1 h2 h3 h4 => Ob.RcOp.tuples_gt h1 h2 (by omega) h3 h4) fun A s i j t u => Ob.RcOp.gt_int i j t u), fun {r st H0 H1 H x y c v w Q} S hx hy e q => ?_⟩
    unfold cmpD at e
    split at e <;> simp_all only [reduceCtorEq, Option.some.injEq]
    · rw [rel_int hx, rel_int hy]
      exact .inl ⟨_, _, rfl, rfl, by subst e; exact q⟩
    · exact .inr (ord_rel hx hy e q)
  | ge =>
    refine ⟨_, op_ge.or (op_ord (rel := fun i j => decide (j ≤ i)) (z := fun i j => decide (j ≤ i)) rfl (fun i j => by congr 1; exact propext ⟨fun _ => by omega, fun _ => by omega⟩) (fun s l b p q e r h1 h2 h3 h4 => Ob.RcOp.tuples_ge h1 h2 (by omega) h3 h4) fun A s i j t u => Ob.RcOp.ge_int i j t u), fun {r st H0 H1 H x y c v w Q} S hx hy e q => ?_⟩
    unfold cmpD at e
    split at e <;> simp_all only [reduceCtorEq, Option.some.injEq]
    · rw [rel_int hx, rel_int hy]
      exact .inl ⟨_, _, rfl, rfl, by subst e; exact q⟩
    · exact .inr (ord_rel hx hy e q)
  | is =>
    refine ⟨_, op_isN, fun {r st H0 H1 H x y c v w Q} S hx hy e q => ?_⟩
    obtain ⟨rfl, rfl⟩ := is_sh e
    exact ⟨rel_non hy, by rw [rel_isnon hx]; exact q⟩
  | isnot =>
    refine ⟨_, op_notN, fun {r st H0 H1 H x y c v w Q} S hx hy e q => ?_⟩
    obtain ⟨rfl, rfl⟩ := isnot_sh e
    exact ⟨rel_non hy, by rw [rel_isnon hx]; exact q⟩
  | isin => exact ⟨_, opR_never, fun {r st H0 H1 H x y c v w Q} S hx hy e q => by unfold cmpD at e; split at e <;> simp_all only [reduceCtorEq]⟩
  | notin => exact ⟨_, opR_never, fun {r st H0 H1 H x y c v w Q} S hx hy e q => by unfold cmpD at e; split at e <;> simp_all only [reduceCtorEq]⟩
theorem atI_rel {ds : List D} {xs : List V} {i : Int} {d : D} (h : RelL X.K r H ds xs) (e : atD ds i = some d) : ∃ v, atI xs i = some v ∧ Rel X.K r H d v := by
  unfold atD atI at e
  cases q : ixN ds.length i with
  | none => rw [q] at e; cases e
  | some j =>
    rw [q] at e
    obtain ⟨v, h1, h2⟩ := h.get (i := j) e
    refine ⟨v, ?_, h2⟩
    unfold atI
    rw [← h.length, q]
    exact h1
def rIx (K : Frag) : R2 := fun x y H Q => rIxL K x y H Q ∨ rIxT K x y H Q
theorem ix_ok : IxR X (rIx X.K) := ix_list.or ix_tup
theorem rIx_of {a : Addr} {xs : List V} {i : Int} {v : V} {Q : VK} (h : SqL X.K H a xs ∨ SqT X.K H a xs) (e : atI xs i = some v) (q : Q v H) : rIx X.K (.ref a) (.int i) H Q := by
  rcases h with h | h
  · exact .inl ⟨a, xs, i, v, rfl, rfl, h, e, q⟩
  · exact .inr ⟨a, xs, i, v, rfl, rfl, h, e, q⟩
theorem tru_rel {x : Ev} {v : V} {b : Bool} (S : Sim X.K mg r st H) (h : RelEv X.K r H0 H x v) (e : truD x st = some b) : TruV X.K v H b := by
  have key : ∀ ds, items st x = some ds → b = !ds.isEmpty → TruV X.K v H b := fun ds hi hb => by
    obtain ⟨a, xs, rfl, hq, hr⟩ := items_ok S h hi
    have hl := hr.length
    have he : b = !xs.isEmpty := by
      rw [hb]
      cases ds <;> cases xs <;> simp_all
    rcases hq with hq | hq
    · exact .inl ⟨xs, hq, he⟩
    · exact .inr (.inl ⟨xs, hq, he⟩)
  cases x with
  | t ds => exact key ds rfl (by unfold truD items at e; simpa using e.symm)
  | v d =>
    cases d with
    | non => rw [rel_non h]; cases e; rfl
    | bl b => rw [rel_bl h]; cases e; rfl
    | int b => rw [rel_int h]; cases e; rfl
    | str s => unfold truD items at e; simp at e
    | ref n =>
      unfold truD at e
      simp only at e
      cases q : items st (.v (.ref n)) with
      | none => rw [q] at e; cases e
      | some ds => rw [q] at e; exact key ds q (by simpa using e.symm)
    | tup ds => exact key ds rfl (by unfold truD items at e; simpa using e.symm)
    | ro ds => exact key ds rfl (by unfold truD items at e; simpa using e.symm)
end
end SI

set_option maxHeartbeats 1000000
/-! SI 5: readings of results; calls. -/
namespace SI
open PySem L2
/-- an exception that flies: its class, its own fields -/
def ExR (K : Frag) (mg : Str → Option Value) (r : List Addr) (H : Hp) (c : Str) (fs : List (Str × D)) (cls : Value) (od : Option Addr) : Prop :=
  (∃ C, mg c = some (.ref C) ∧ cls = .ref C) ∧ ((fs = [] ∧ od = none) ∨ ∃ d fv, od = some d ∧ H d = some (.xd fv) ∧ RelF K r H fs fv)
def PostR {α : Type} (K : Frag) (mg : Str → Option Value) (r : List Addr) (H : Hp) (x : R α) (ok : α → Store → List Addr → Hp → Prop) (E : XK) : Prop := match x with
  | .ok a st => ∀ r' H', Up r H r' H' → Sim K mg r' st H' → ok a st r' H'
  | .ex c fs st => ∀ r' H' cls od, Up r H r' H' → Sim K mg r' st H' → ExR K mg r' H' c fs cls od → E cls od H'
  | .stuck => False
section
variable {K : Frag} {mg : Str → Option Value} {r r' : List Addr} {H H' : Hp} {E : XK}
theorem PostR.up {α : Type} {x : R α} {ok : α → Store → List Addr → Hp → Prop} (h : PostR K mg r H x ok E) (u : Up r H r' H') : PostR K mg r' H' x ok E := by
  cases x with
  | ok a st => exact fun r2 H2 u2 s => h r2 H2 (u.trans u2) s
  | ex c fs st => exact fun r2 H2 cls od u2 s => h r2 H2 cls od (u.trans u2) s
  | stuck => exact h
theorem PostR.bind {α β : Type} {x : R α} {f : α → Store → R β} {ok : β → Store → List Addr → Hp → Prop} (h : PostR K mg r H (x.bind f) ok E) : PostR K mg r H x (fun a st r1 H1 => PostR K mg r1 H1 (f a st) ok E) E := by
  cases x with
  | ok a st => exact fun r1 H1 u s => PostR.up (x := f a st) h u
  | ex c fs st => exact h
  | stuck => exact h
theorem PostR.mono {α : Type} {x : R α} {ok ok' : α → Store → List Addr → Hp → Prop} (h : PostR K mg r H x ok E) (k : ∀ a st r' H', x = .ok a st → Up r H r' H' → Sim K mg r' st H' → ok a st r' H' → ok' a st r' H') : PostR K mg r H x ok' E := by
  cases x with
  | ok a st => exact fun r1 H1 u s => k a st r1 H1 rfl u s (h r1 H1 u s)
  | ex c fs st => exact h
  | stuck => exact h
theorem PostR.of {α : Type} {o : Option α} {st : Store} {ok : α → Store → List Addr → Hp → Prop} (h : PostR K mg r H (R.of o st) ok E) : ∃ a, o = some a ∧ ∀ r' H', Up r H r' H' → Sim K mg r' st H' → ok a st r' H' := by
  cases o with
  | some a => exact ⟨a, rfl, h⟩
  | none => exact h.elim
end
/-- the slots -/
def EnvR (K : Frag) (r : List Addr) (H : Hp) (env : Env) (σ : L2.St) : Prop := env.length = σ.length ∧ ∀ (i : Nat) d, env[i]? = some (some d) → ∃ v, σ[i]? = some (some v) ∧ Rel K r H d v
theorem EnvR.up {K : Frag} {r r' : List Addr} {H H' : Hp} {env : Env} {σ : L2.St} (h : EnvR K r H env σ) (u : Up r H r' H') : EnvR K r' H' env σ :=
  ⟨h.1, fun i d e => let ⟨v, a, b⟩ := h.2 i d e; ⟨v, a, u.rel b⟩⟩
theorem EnvR.ext {K : Frag} {r r' : List Addr} {H : Hp} {env : Env} {σ : L2.St} (h : EnvR K r H env σ) (u : Ext r r') : EnvR K r' H env σ :=
  ⟨h.1, fun i d e => let ⟨v, a, b⟩ := h.2 i d e; ⟨v, a, Rel.mono u (Tups.refl H) b⟩⟩
theorem EnvR.set {K : Frag} {r : List Addr} {H : Hp} {env : Env} {σ : L2.St} {d : D} {v : V} (h : EnvR K r H env σ) (i : Nat) (q : Rel K r H d v) : EnvR K r H (env.set i (some d)) (σ.set i (some v)) := by
  refine ⟨by simp [h.1], fun j e hj => ?_⟩
  by_cases hij : i = j
  · subst hij
    have hl : i < env.length := by
      have := (List.getElem?_eq_some_iff.mp hj).1
      simpa using this
    rw [List.getElem?_set_self hl] at hj
    cases hj
    exact ⟨v, by rw [List.getElem?_set_self (by rw [← h.1]; exact hl)], q⟩
  · rw [List.getElem?_set_ne hij] at hj ⊢
    exact h.2 j e hj
abbrev Wat (W : WX) (σ : L2.St) : XK := fun c d H => W c d σ H
abbrev OkE (K : Frag) (H : Hp) (Q : VK) : Ev → Store → List Addr → Hp → Prop := fun x _ r' H' => ∀ v, RelEv K r' H H' x v → Q v H'
abbrev OkA (K : Frag) (H : Hp) (Q : List V → Hp → Prop) : List Ev → Store → List Addr → Hp → Prop := fun x _ r' H' => ∀ v, RelEvs K r' H H' x v → Q v H'
abbrev OkT (Q : Bool → Hp → Prop) : Bool → Store → List Addr → Hp → Prop := fun x _ _ H' => Q x H'
/-- readings by the interpreter -/
def rdE (P : Prog) (go : Go) (K : Frag) (mg : Str → Option Value) (W : WX) (e : E) : TE := fun σ H Q => ∃ r env st, EnvR K r H env σ ∧ Sim K mg r st H ∧ PostR K mg r H (evE P go e env st) (OkE K H Q) (Wat W σ)
def rdA (P : Prog) (go : Go) (K : Frag) (mg : Str → Option Value) (W : WX) (e : Es) : TA := fun σ H Q => ∃ r env st, EnvR K r H env σ ∧ Sim K mg r st H ∧ PostR K mg r H (evEs P go e env st) (OkA K H Q) (Wat W σ)
def rdT (P : Prog) (go : Go) (K : Frag) (mg : Str → Option Value) (W : WX) (e : E) : TT := fun σ H Q => ∃ r env st, EnvR K r H env σ ∧ Sim K mg r st H ∧ PostR K mg r H (evT P go e env st) (OkT Q) (Wat W σ)
def rdO (P : Prog) (go : Go) (K : Frag) (mg : Str → Option Value) (W : WX) (e : Option E) : TO := fun σ H Q => ∃ r env st, EnvR K r H env σ ∧ Sim K mg r st H ∧ PostR K mg r H (evO P go e env st) (fun x _ _ H' => Q x H') (Wat W σ)
abbrev RE (P : Prog) (go : Go) (X : Cx) (W : WX) (e : E) : TE := rdE P go X.K X.mg W e
abbrev RA (P : Prog) (go : Go) (X : Cx) (W : WX) (e : Es) : TA := rdA P go X.K X.mg W e
abbrev RT (P : Prog) (go : Go) (X : Cx) (W : WX) (e : E) : TT := rdT P go X.K X.mg W e
abbrev RO (P : Prog) (go : Go) (X : Cx) (W : WX) (e : Option E) : TO := rdO P go X.K X.mg W e
/-- a def's promise -/
def spG (go : Go) (K : Frag) (mg : Str → Option Value) (fn : Fn) : Sp := fun vs H Q E => ∃ r ds st, RelL K r H ds vs ∧ ds.length = fn.np ∧ Sim K mg r st H ∧ PostR K mg r H (go fn ds st) (OkE K H Q) E
/-- how a call fills up -/
def Bnd (K : Frag) (fd : FuncData) (ps : List Str) (fn : Fn) : Prop := ps.length = fn.np ∧ ∀ m, m ≤ fn.np → fn.np ≤ m + fn.dfl.length → ∃ dvs ds, Vals dvs ds ∧ Binds K fd ps ds ∧ ∀ r H, RelL K r H (fn.dfl.drop (m + fn.dfl.length - fn.np)) dvs
/-- an exception's class without an own __init__ -/
structure ExcC (K : Frag) (C : Addr) : Prop where
  x : PySem.W.excIn K C [.type "ValueError", .type "Exception", .type "BaseException", .type "object"] "ValueError.__new__" = true
  k : PySem.W.keepIn K (.ref C) = true
  b : PySem.W.subIn K (.ref C) (.type "BaseException") = some true
  t : PySem.W.typeIn K (.ref C) = some (.type "type")
structure Tab (P : Prog) (pr : Program) (w : World) (K : Frag) (mg : Str → Option Value) (base : Heap) (go : Go) (k : Nat) : Prop where
  fn : ∀ x f, P.fns.lookup (x, none) = some f → ∃ a fd ps, FnOk pr w K mg base (CX pr w) k a fd ps (spG go K mg f) ∧ mg x = some (.ref a) ∧ PySem.W.keepIn K (.ref a) = true ∧ Bnd K fd ps f ∧ (x == ("__debug__" : Str)) = false
  mt : ∀ c m f C, P.fns.lookup (c, some m) = some f → mg c = some (.ref C) → ∃ a fd ps, FnOk pr w K mg base (CX pr w) k a fd ps (spG go K mg f) ∧ Meth K C m a ∧ Bnd K fd ps f ∧ Cls K C
  mkr : ∀ c f, P.fns.lookup (c, some nInit) = some f → ∃ C, mg c = some (.ref C) ∧ (c == ("__debug__" : Str)) = false ∧ ∀ a, Meth K C "__init__" a → Mk K C a
  na : ∀ c f C, flds.contains (c, f) = true → mg c = some (.ref C) → Cls K C ∧ NoAttr K C f
  cs : ∀ x d, P.consts.lookup x = some d → ∃ u v, mg x = some u ∧ RelV v u ∧ ∀ r H, Rel K r H d v
  bi : ∀ x, x ∈ bNames → mg x = none
  ex : ∀ c, P.excs.contains c = true → ∃ C, mg c = some (.ref C) ∧ ExcC K C
structure Good (P : Prog) (go : Go) (k : Nat) (X : Cx) (sc : Scope) (W : WX) : Prop where
  nd : X.N.Nodup
  calm : X.calm = true
  room : Room (k + 1) X.A
  tk : Takes X W
  tab : Tab P X.prog X.w X.K X.mg X.base go k
  fnc : ∀ x, sc.names.lookup x = some .cell → X.fn x = true
  scr : ∀ x kd, sc.names.lookup x = some kd → X.env.scope.names.lookup x = some kd ∨ (kd = .free ∧ X.env.scope.names.lookup x = some .cell)
theorem Good.loc {P : Prog} {go : Go} {k : Nat} {X : Cx} {sc : Scope} {W : WX} (G : Good P go k X sc W) {x : Str} (h : Loc sc x) : Loc X.env.scope x := by
  rcases h with h | h
  · rcases G.scr x _ h with q | ⟨q, _⟩
    · exact .inl q
    · cases q
  · rcases G.scr x _ h with q | ⟨q, _⟩
    · exact .inr q
    · cases q
theorem Good.vis {P : Prog} {go : Go} {k : Nat} {X : Cx} {sc : Scope} {W : WX} (G : Good P go k X sc W) {x : Str} (h : Vis sc x) : Vis X.env.scope x := by
  rcases h with h | h | h
  · rcases G.loc (.inl h) with q | q
    · exact .inl q
    · exact .inr (.inl q)
  · rcases G.loc (.inr h) with q | q
    · exact .inl q
    · exact .inr (.inl q)
  · rcases G.scr x _ h with q | ⟨_, q⟩
    · exact .inr (.inr q)
    · exact .inr (.inl q)
theorem Good.gl {P : Prog} {go : Go} {k : Nat} {X : Cx} {sc : Scope} {W : WX} (G : Good P go k X sc W) {x : Str} (h : sc.names.lookup x = some .globalImplicit) : Gl X x := by
  rcases G.scr x _ h with q | ⟨q, _⟩
  · exact q
  · cases q
theorem relabel_get {env : PySem.Env} : ∀ {l : List (Str × NameKind)} {x : Str} {kd : NameKind}, l.lookup x = some kd → (l.map fun (n, k) => if (k == NameKind.free && env.scope.kind == .function && env.kindOf n == some .cell) then (n, NameKind.cell) else (n, k)).lookup x = some kd ∨ (kd = .free ∧ (l.map fun (n, k) => if (k == NameKind.free && env.scope.kind == .function && env.kindOf n == some .cell) then (n, NameKind.cell) else (n, k)).lookup x = some .cell)
  | [], x, kd, h => by cases h
  | (n, q) :: l, x, kd, h => by
    by_cases e : x = n
    · subst e
      have hq : q = kd := by
        have : some q = some kd := by simpa [List.lookup] using h
        exact Option.some.inj this
      subst hq
      by_cases c : (q == NameKind.free && env.scope.kind == .function && env.kindOf x == some .cell) = true
      · refine .inr ⟨?_, ?_⟩
        · have c1 := (Bool.and_eq_true_iff.mp (Bool.and_eq_true_iff.mp c).1).1
          cases q <;> first | rfl | (cases c1)
        · show List.lookup x ((if (q == NameKind.free && env.scope.kind == .function && env.kindOf x == some .cell) = true then (x, NameKind.cell) else (x, q)) :: _) = _
          rw [if_pos c]
          simp [List.lookup]
      · refine .inl ?_
        show List.lookup x ((if (q == NameKind.free && env.scope.kind == .function && env.kindOf x == some .cell) = true then (x, NameKind.cell) else (x, q)) :: _) = _
        rw [if_neg c]
        simp [List.lookup]
    · have e2 : (x == n) = false := by simpa using e
      have h2 : l.lookup x = some kd := by simpa [List.lookup, e2] using h
      have step : ∀ (p : Str × NameKind) (r : List (Str × NameKind)), p.1 = n → List.lookup x (p :: r) = List.lookup x r := fun p r hp => by
        obtain ⟨p1, p2⟩ := p
        subst hp
        simp [List.lookup, e2]
      have hd : (if (q == NameKind.free && env.scope.kind == .function && env.kindOf n == some .cell) = true then (n, NameKind.cell) else (n, q)).1 = n := by split <;> rfl
      rcases relabel_get (env := env) h2 with z | ⟨z1, z⟩
      · exact .inl ((step _ _ hd).trans z)
      · exact .inr ⟨z1, (step _ _ hd).trans z⟩
theorem Good.blk {P : Prog} {go : Go} {k : Nat} {X : Cx} {sc : Scope} {W : WX} (G : Good P go k X sc W) {s : Shared} {H : Hp} {scope : Scope} {cl : List (Str × Addr)} {C : Addr} {fp : List Addr} : Good P go k (X.blk s H scope (compEnvC scope cl C X.env) fp) scope (fun _ _ _ _ => False) where
  nd := G.nd
  calm := G.calm
  room := G.room
  tk := takes0
  tab := G.tab
  fnc := fun x h => by
    show (scope.names.lookup x == some .cell) = true
    rw [h] <;> rfl
  scr := fun x kd h => relabel_get (env := X.env) h
theorem Good.blkOk {P : Prog} {go : Go} {k : Nat} {X : Cx} {sc cs : Scope} {W : WX} {own : List (Str × Nat)} (G : Good P go k X sc W) (h : blkC X.N sc cs own = true) : BlkOk X.N X.env.scope cs own := by
  have ok := blkOk_by h
  refine ⟨ok.kind, ok.uniq, ok.ix, fun y hy e => ?_, ok.own⟩
  rcases ok.free y hy e with q | q
  · rcases G.scr y.1 _ q with z | ⟨z, _⟩
    · exact .inl z
    · cases z
  · rcases G.scr y.1 _ q with z | ⟨_, z⟩
    · exact .inr z
    · exact .inl z
theorem _root_.L2.PE.weak {X : Cx} {e : Expr} {t t' : TE} (h : PE X e t) (w : ∀ σ H Q, t' σ H Q → t σ H Q) : PE X e t' := ⟨fun pins s σ H Q I q => h.run pins s σ H Q I (w σ H Q q)⟩
theorem _root_.L2.PE.never {X : Cx} {e : Expr} {t : TE} (w : ∀ σ H Q, ¬ t σ H Q) : PE X e t := ⟨fun pins s σ H Q I q => (w σ H Q q).elim⟩
theorem _root_.L2.PA.weak {X : Cx} {e : List Expr} {t t' : TA} (h : PA X e t) (w : ∀ σ H Q, t' σ H Q → t σ H Q) : PA X e t' := ⟨fun pos pins s σ H Q I q => h.run pos pins s σ H Q I (w σ H Q q)⟩
theorem _root_.L2.PT.weak {X : Cx} {e : Expr} {t t' : TT} (h : PT X e t) (w : ∀ σ H Q, t' σ H Q → t σ H Q) : PT X e t' := ⟨fun pins s σ H Q I q => h.run pins s σ H Q I (w σ H Q q)⟩
theorem _root_.L2.PW.weak {X : Cx} {e : Expr} {t t' : TT} (h : PW X e t) (w : ∀ σ H Q, t' σ H Q → t σ H Q) : PW X e t' := ⟨fun wh pins s σ H Q I q => h.run wh pins s σ H Q I (w σ H Q q)⟩
theorem _root_.L2.PT.never {X : Cx} {e : Expr} {t : TT} (w : ∀ σ H Q, ¬ t σ H Q) : PT X e t := ⟨fun pins s σ H Q I q => (w σ H Q q).elim⟩
theorem _root_.L2.PW.never {X : Cx} {e : Expr} {t : TT} (w : ∀ σ H Q, ¬ t σ H Q) : PW X e t := ⟨fun wh pins s σ H Q I q => (w σ H Q q).elim⟩
theorem _root_.L2.PO.weak {X : Cx} {e : Option Expr} {t t' : TO} (h : PO X e t) (w : ∀ σ H Q, t' σ H Q → t σ H Q) : PO X e t' := ⟨fun pins s σ H Q I q => h.run pins s σ H Q I (w σ H Q q)⟩
theorem rd_bad {P : Prog} {go : Go} {K : Frag} {mg : Str → Option Value} {W : WX} : ∀ σ H Q, ¬ rdE P go K mg W .bad σ H Q := fun σ H Q ⟨r, env, st, _, _, h⟩ => by
  unfold evE at h
  exact h
theorem ix_get {x : Str} : ∀ {N : List Str} {j i : Nat}, ix x N j = some i → ∃ m, i = j + m ∧ N[m]? = some x
  | [], j, i, h => by unfold ix at h; cases h
  | y :: N, j, i, h => by
    unfold ix at h
    by_cases e : x = y
    · rw [if_pos e] at h
      cases h
      exact ⟨0, rfl, by simp [e]⟩
    · rw [if_neg e] at h
      obtain ⟨m, h1, h2⟩ := ix_get h
      exact ⟨m + 1, by omega, by simpa using h2⟩
theorem ix_at {x : Str} {N : List Str} {i : Nat} (h : ix x N 0 = some i) : N[i]? = some x := by
  obtain ⟨m, h1, h2⟩ := ix_get h
  have : i = m := by omega
  rw [this]; exact h2
theorem slot_of {N : List Str} {sc : Scope} {x : Str} {i : Nat} (h : slotOf N sc x = some i) : N[i]? = some x ∧ Loc sc x := by
  unfold slotOf at h
  split at h
  · rename_i e; exact ⟨ix_at h, .inl e⟩
  · rename_i e; exact ⟨ix_at h, .inr e⟩
  · cases h
theorem isGl_of {sc : Scope} {x : Str} (h : isGl sc x = true) : sc.names.lookup x = some .globalImplicit ∧ (x == ("__debug__" : Str)) = false := by
  unfold isGl at h
  split at h
  · rename_i e; exact ⟨e, by simpa using h⟩
  · cases h
theorem star_cons {e : Expr} {es : List Expr} {env : PySem.Env} (h : isStar e = false) : starEach (e :: es) env = (false, eval e env) :: starEach es env := by
  cases e <;> first | rfl | (cases h)
theorem star_any : ∀ {es : List Expr} {env : PySem.Env} {p : Pos}, es.any isStar = false → (backTo p (starEach es env)).any (·.1) = false
  | [], env, p, h => rfl
  | e :: es, env, p, h => by
    have h1 : isStar e = false ∧ es.any isStar = false := by simpa using h
    rw [star_cons h1.1]
    show (false || (backTo p (starEach es env)).any (·.1)) = false
    rw [star_any h1.2] <;> rfl
end SI

set_option maxHeartbeats 2000000
/-! SI 6: each construct's reading by the interpreter is a reading. -/
namespace SI
open PySem L2
section
variable {P : Prog} {go : Go} {k : Nat} {X : Cx} {sc : Scope} {W : WX} {a b c : Expr} {a' b' c' : E} {pos : Pos}
/-- the reading of a part, from what is wanted of it -/
theorem rd_of {e : E} {σ : L2.St} {H : Hp} {Q : VK} {r : List Addr} {env : Env} {st : Store} {ok : Ev → Store → List Addr → Hp → Prop} (he : EnvR X.K r H env σ) (S : Sim X.K X.mg r st H) (h : PostR X.K X.mg r H (evE P go e env st) ok (Wat W σ))
    (q : ∀ x st' r' H' v, Up r H r' H' → Sim X.K X.mg r' st' H' → RelEv X.K r' H H' x v → ok x st' r' H' → Q v H') : rdE P go X.K X.mg W e σ H Q :=
  ⟨r, env, st, he, S, h.mono fun x st' r' H' _ u s o v hv => q x st' r' H' v u s hv o⟩
theorem rda_of {e : Es} {σ : L2.St} {H : Hp} {Q : List V → Hp → Prop} {r : List Addr} {env : Env} {st : Store} {ok : List Ev → Store → List Addr → Hp → Prop} (he : EnvR X.K r H env σ) (S : Sim X.K X.mg r st H) (h : PostR X.K X.mg r H (evEs P go e env st) ok (Wat W σ))
    (q : ∀ x st' r' H' v, Up r H r' H' → Sim X.K X.mg r' st' H' → RelEvs X.K r' H H' x v → evEs P go e env st = .ok x st' → ok x st' r' H' → Q v H') : rdA P go X.K X.mg W e σ H Q :=
  ⟨r, env, st, he, S, h.mono fun x st' r' H' e u s o v hv => q x st' r' H' v u s hv e o⟩
theorem rdo_of {e : Option E} {σ : L2.St} {H : Hp} {Q : Option Int → Hp → Prop} {r : List Addr} {env : Env} {st : Store} {ok : Option Int → Store → List Addr → Hp → Prop} (he : EnvR X.K r H env σ) (S : Sim X.K X.mg r st H) (h : PostR X.K X.mg r H (evO P go e env st) ok (Wat W σ))
    (q : ∀ x st' r' H', Up r H r' H' → Sim X.K X.mg r' st' H' → ok x st' r' H' → Q x H') : rdO P go X.K X.mg W e σ H Q :=
  ⟨r, env, st, he, S, h.mono fun x st' r' H' _ u s o => q x st' r' H' u s o⟩
theorem rdt_of {e : E} {σ : L2.St} {H : Hp} {Q : Bool → Hp → Prop} {r : List Addr} {env : Env} {st : Store} {ok : Bool → Store → List Addr → Hp → Prop} (he : EnvR X.K r H env σ) (S : Sim X.K X.mg r st H) (h : PostR X.K X.mg r H (evT P go e env st) ok (Wat W σ))
    (q : ∀ x st' r' H', Up r H r' H' → Sim X.K X.mg r' st' H' → ok x st' r' H' → Q x H') : rdT P go X.K X.mg W e σ H Q :=
  ⟨r, env, st, he, S, h.mono fun x st' r' H' _ u s o => q x st' r' H' u s o⟩
/-- a result at hand -/
theorem post_ok {α : Type} {x : α} {st : Store} {K : Frag} {mg : Str → Option Value} {r : List Addr} {H : Hp} {ok : α → Store → List Addr → Hp → Prop} {E : XK} (h : PostR K mg r H (.ok x st) ok E) (S : Sim K mg r st H) : ok x st r H := h r H (Up.refl r H) S

theorem s_int {i : Int} {j} : PE X (.Constant (.int i) j pos) (RE P go X W (.int i)) := pe_int.weak fun σ H Q ⟨r, env, st, he, S, h⟩ => by
  unfold evE at h
  exact post_ok h S _ rel_int'
theorem s_bl {i : Bool} {j} : PE X (.Constant (.bool i) j pos) (RE P go X W (.bl i)) := pe_bl.weak fun σ H Q ⟨r, env, st, he, S, h⟩ => by
  unfold evE at h
  exact post_ok h S _ rel_bl'
theorem s_non {j} : PE X (.Constant .none j pos) (RE P go X W .non) := pe_non.weak fun σ H Q ⟨r, env, st, he, S, h⟩ => by
  unfold evE at h
  exact post_ok h S _ rel_non'
theorem s_str {i : Str} {j} : PE X (.Constant (.str i) j pos) (RE P go X W (.str i)) := pe_str.weak fun σ H Q ⟨r, env, st, he, S, h⟩ => by
  unfold evE at h
  exact post_ok h S _ rel_str'
theorem s_loc {x : Str} {i : Nat} (hN : X.N[i]? = some x) (hv : Vis X.env.scope x) (hd : (x == ("__debug__" : Str)) = false) (hc : (x == ("__classdict__" : Str)) = false) : PE X (.Name x pos) (RE P go X W (.loc i)) := (pe_var hN hv hd hc).weak fun σ H Q ⟨r, env, st, he, S, h⟩ => by
  unfold evE at h
  split at h
  · rename_i d e
    obtain ⟨v, h1, h2⟩ := he.2 i d e
    exact ⟨v, h1, post_ok h S _ h2⟩
  · exact h.elim
theorem s_glo (G : Good P go k X sc W) {x : Str} (hg : Gl X x) (hd : (x == ("__debug__" : Str)) = false) : PE X (.Name x pos) (RE P go X W (.glo x)) := by
  cases e : P.consts.lookup x with
  | none =>
    refine PE.never fun σ H Q ⟨r, env, st, he, S, h⟩ => ?_
    unfold evE at h
    rw [e] at h
    exact h
  | some d =>
    obtain ⟨u, v, h1, h2, h3⟩ := G.tab.cs x d e
    refine (pe_glob hg h1 h2 hd).weak fun σ H Q ⟨r, env, st, he, S, h⟩ => ?_
    unfold evE at h
    rw [e] at h
    exact post_ok h S _ (h3 r H)
theorem s_bin (op : BOp) (ha : PE X a (RE P go X W a')) (hb : PE X b (RE P go X W b')) : PE X (.BinOp a (unb op) b pos) (RE P go X W (.bin op a' b')) := by
  obtain ⟨rr, ho, hr⟩ := bin_ok (X := X) (mg := X.mg) op
  refine (pe_op ho ha hb).weak fun σ H Q ⟨r, env, st, he, S, h⟩ => ?_
  unfold evE at h
  refine rd_of he S h.bind fun x st1 r1 H1 v u1 S1 hx h1 => ?_
  refine rd_of (he.up u1) S1 h1.bind fun y st2 r2 H2 w u2 S2 hy h2 => ?_
  obtain ⟨z, hz, q⟩ := h2.of
  exact hr S2 (hx.up u2) hy hz fun r' H' v' u' S' hv => q r' H' u' S' v' (hv.older fun p hp => (u1.trans u2).dom p hp)
theorem s_neg (ha : PE X a (RE P go X W a')) : PE X (.UnaryOp .USub a pos) (RE P go X W (.neg a')) := (pe_un un_neg ha).weak fun σ H Q ⟨r, env, st, he, S, h⟩ => by
  unfold evE at h
  refine rd_of he S h.bind fun x st1 r1 H1 v u1 S1 hx h1 => ?_
  split at h1
  · rw [rel_int hx]
    exact ⟨_, rfl, post_ok h1 S1 _ rel_int'⟩
  · exact h1.elim
theorem s_not (ha : PE X a (RE P go X W a')) : PE X (.UnaryOp .Not a pos) (RE P go X W (.not a')) := (pe_not ha).weak fun σ H Q ⟨r, env, st, he, S, h⟩ => by
  unfold evE at h
  refine rd_of he S h.bind fun x st1 r1 H1 v u1 S1 hx h1 => ?_
  split at h1
  · rw [rel_bl hx]
    exact ⟨_, rfl, post_ok h1 S1 _ rel_bl'⟩
  · exact h1.elim
theorem ok_older {H H1 : Hp} {Q : VK} {x : Ev} {st : Store} {r' : List Addr} {H' : Hp} {K : Frag} (d : ∀ p, H1 p = none → H p = none) (h : OkE K H Q x st r' H') : OkE K H1 Q x st r' H' := fun v hv => h v (hv.older d)
theorem s_and {rest : List Expr} (ha : PE X a (RE P go X W a')) (hb : PE X (.BoolOp .And (b :: rest) pos) (RE P go X W b')) : PE X (.BoolOp .And (a :: b :: rest) pos) (RE P go X W (.and a' b')) := (pe_and ha hb).weak fun σ H Q ⟨r, env, st, he, S, h⟩ => by
  unfold evE at h
  refine rd_of he S h.bind fun x st1 r1 H1 v u1 S1 hx h1 => ?_
  split at h1
  · rename_i cc
    rw [rel_bl hx]
    refine ⟨_, rfl, ?_⟩
    cases cc with
    | true => exact iteT ⟨r1, env, st1, he.up u1, S1, h1.mono fun _ _ _ _ _ _ _ q => ok_older u1.dom q⟩
    | false => exact iteF (post_ok h1 S1 _ rel_bl')
  · exact h1.elim
theorem s_or {rest : List Expr} (ha : PE X a (RE P go X W a')) (hb : PE X (.BoolOp .Or (b :: rest) pos) (RE P go X W b')) : PE X (.BoolOp .Or (a :: b :: rest) pos) (RE P go X W (.or a' b')) := (pe_or ha hb).weak fun σ H Q ⟨r, env, st, he, S, h⟩ => by
  unfold evE at h
  refine rd_of he S h.bind fun x st1 r1 H1 v u1 S1 hx h1 => ?_
  split at h1
  · rename_i cc
    rw [rel_bl hx]
    refine ⟨_, rfl, ?_⟩
    cases cc with
    | true => exact iteT (post_ok h1 S1 _ rel_bl')
    | false => exact iteF ⟨r1, env, st1, he.up u1, S1, h1.mono fun _ _ _ _ _ _ _ q => ok_older u1.dom q⟩
  · exact h1.elim
theorem post_bV {K : Frag} {mg : Str → Option Value} {r : List Addr} {H : Hp} {o : Option Bool} {st : Store} {Q : Ev → Store → List Addr → Hp → Prop} {E : XK} (h : PostR K mg r H (R.of (o.map bV) st) Q E) (S : Sim K mg r st H) : ∃ b, o = some b ∧ Q (bV b) st r H := by
  cases o with
  | none => exact h.elim
  | some b => exact ⟨b, rfl, post_ok h S⟩
theorem mark_no {op : CmpOp} (h : isSet b = false) : behindInMarks op b = false := by
  cases b <;> first | rfl | (cases h)
theorem s_cmp (G : Good P go k X sc W) (op : COp) (ha : PE X a (RE P go X W a')) (hb : PE X b (RE P go X W b')) (hs : isSet b = false) : PE X (.Compare a [unc op] [b] pos) (RE P go X W (.cmp op a' b')) := by
  obtain ⟨rr, ho, hr⟩ := cmp_ok (X := X) (mg := X.mg) G.room.units op
  refine (pe_cmpR ho ha hb (mark_no hs)).weak fun σ H Q ⟨r, env, st, he, S, h⟩ => ?_
  unfold evE at h
  refine rd_of he S h.bind fun x st1 r1 H1 v u1 S1 hx h1 => ?_
  refine rd_of (he.up u1) S1 h1.bind fun y st2 r2 H2 w u2 S2 hy h2 => ?_
  obtain ⟨bb, hz, q⟩ := post_bV h2 S2
  exact hr S2 (hx.up u2) hy hz (q _ rel_bl')
theorem s_cmpT (G : Good P go k X sc W) (op : COp) (ha : PE X a (RE P go X W a')) (hb : PE X b (RE P go X W b')) (hs : isSet b = false) : PT X (.Compare a [unc op] [b] pos) (RT P go X W (.cmp op a' b')) := by
  obtain ⟨rr, ho, hr⟩ := cmp_ok (X := X) (mg := X.mg) G.room.units op
  refine (pt_cmpR ho ha hb (mark_no hs)).weak fun σ H Q ⟨r, env, st, he, S, h⟩ => ?_
  unfold evT evE at h
  have h := h.bind.bind
  refine rd_of he S h fun x st1 r1 H1 v u1 S1 hx h1 => ?_
  refine rd_of (he.up u1) S1 h1.bind fun y st2 r2 H2 w u2 S2 hy h2 => ?_
  obtain ⟨bb, hz, q⟩ := post_bV h2 S2
  exact hr S2 (hx.up u2) hy hz ⟨bb, rfl, post_ok q S2⟩
theorem s_chain (G : Good P go k X sc W) (o1 o2 : COp) (ha : PE X a (RE P go X W a')) (hb : PE X b (RE P go X W b')) (hc : PE X c (RE P go X W c')) (hs : isSet b = false) (hs2 : isSet c = false) : PE X (.Compare a [unc o1, unc o2] [b, c] pos) (RE P go X W (.chain o1 o2 a' b' c')) := by
  obtain ⟨rr, ho, hr⟩ := cmp_ok (X := X) (mg := X.mg) G.room.units o1
  obtain ⟨rr2, ho2, hr2⟩ := cmp_ok (X := X) (mg := X.mg) G.room.units o2
  refine (pe_chain ho ho2 ha hb hc (show behindInMarks (unc o2) c = false from mark_no hs2)).weak fun σ H Q ⟨r, env, st, he, S, h⟩ => ?_
  unfold evE at h
  refine rd_of he S h.bind fun x st1 r1 H1 v u1 S1 hx h1 => ?_
  refine rd_of (he.up u1) S1 h1.bind fun y st2 r2 H2 w u2 S2 hy h2 => ?_
  cases e : cmpD o1 x y st2 with
  | none => rw [e] at h2; exact h2.elim
  | some bb =>
    rw [e] at h2
    refine hr S2 (hx.up u2) hy e ⟨bb, rfl, ?_⟩
    cases bb with
    | false => exact iteF (post_ok h2 S2 _ rel_bl')
    | true =>
      refine iteT (rd_of ((he.up u1).up u2) S2 h2.bind fun z st3 r3 H3 w3 u3 S3 hz h3 => ?_)
      obtain ⟨b3, e3, q3⟩ := post_bV h3 S3
      exact hr2 S3 (hy.up u3) hz e3 (q3 _ rel_bl')
end
end SI

set_option maxHeartbeats 2000000
/-! SI 7: the further constructs of expressions. -/
namespace SI
open PySem L2
section
variable {P : Prog} {go : Go} {k : Nat} {X : Cx} {sc : Scope} {W : WX} {a b c e : Expr} {a' b' c' e' : E} {es : List Expr} {es' : Es} {pos : Pos}
/-! ### arguments -/
theorem s_nil : PA X [] (RA P go X W .nil) := pa_nil.weak fun σ H Q ⟨r, env, st, he, S, h⟩ => by
  unfold evEs at h
  exact post_ok h S _ rfl
theorem s_cons (hs : isStar e = false) (ha : PE X e (RE P go X W e')) (hb : PA X es (RA P go X W es')) : PA X (e :: es) (RA P go X W (.cons e' es')) := (pa_cons ha hb (star_cons hs)).weak fun σ H Q ⟨r, env, st, he, S, h⟩ => by
  unfold evEs at h
  refine rd_of he S h.bind fun x st1 r1 H1 v u1 S1 hx h1 => ?_
  refine rda_of (he.up u1) S1 h1.bind fun xs st2 r2 H2 vs u2 S2 hxs e2 h2 => ?_
  refine post_ok h2 S2 _ ⟨v, vs, rfl, hx.up u2, fun ds e i es' hi hv => ?_, hxs.older u1.dom⟩
  subst e
  obtain ⟨p, ys, rfl, _, _, hp, _⟩ := hx
  -- a later new list lies elsewhere
  have key : ∀ (l : List Ev) (ws : List V) (i : Nat), RelEvs X.K r2 H1 H2 l ws → l[i]? = some (.t es') → ws[i]? ≠ some (.ref p) := by
    intro l
    induction l with
    | nil => intro ws i _ h; simp at h
    | cons y l ih =>
      intro ws i q h
      obtain ⟨u, ws', rfl, q1, _, q3⟩ := q
      cases i with
      | zero =>
        simp at h; subst h
        obtain ⟨b, zs, rfl, z2, _⟩ := q1
        intro e
        simp at e; subst e
        rw [z2] at hp; cases hp
      | succ i => simpa using ih ws' i q3 (by simpa using h)
  exact key xs vs i hxs hi hv
theorem s_args {f : Expr → E} (ih : ∀ e, PE X e (RE P go X W (f e))) : ∀ es : List Expr, es.any isStar = false → PA X es (RA P go X W (erEs f es))
  | [], _ => s_nil
  | e :: es, h => by
    have h1 : isStar e = false ∧ es.any isStar = false := by simpa using h
    exact s_cons h1.1 (ih e) (s_args ih es h1.2)
theorem esLen_er {f : Expr → E} : ∀ es : List Expr, esLen (erEs f es) = es.length
  | [] => rfl
  | e :: es => by
    show esLen (erEs f es) + 1 = _
    rw [esLen_er es]; rfl
theorem bind_ok {α β : Type} {x : R α} {f : α → Store → R β} {b : β} {st : Store} (h : x.bind f = .ok b st) : ∃ a st1, x = .ok a st1 ∧ f a st1 = .ok b st := by
  cases x with
  | ok a st1 => exact ⟨a, st1, rfl, h⟩
  | ex _ _ _ => cases h
  | stuck => cases h
theorem evEs_len {go : Go} : ∀ {es : Es} {env : Env} {st st' : Store} {xs : List Ev}, evEs P go es env st = .ok xs st' → xs.length = esLen es
  | .nil, env, st, st', xs, h => by unfold evEs at h; cases h; rfl
  | .cons e es, env, st, st', xs, h => by
    unfold evEs at h
    obtain ⟨x, st1, _, h⟩ := bind_ok h
    obtain ⟨ys, st2, h2, h⟩ := bind_ok h
    cases h
    simp [esLen, evEs_len h2]
theorem PostR.bind0 {α β : Type} {K : Frag} {mg : Str → Option Value} {r : List Addr} {H : Hp} {E : XK} {x : R α} {f : α → Store → R β} {ok : β → Store → List Addr → Hp → Prop} (h : PostR K mg r H (x.bind f) ok E) : PostR K mg r H x (fun a st _ _ => PostR K mg r H (f a st) ok E) E := by
  cases x with
  | ok a st => exact fun r1 H1 u s => h
  | ex c fs st => exact h
  | stuck => exact h
theorem rel_tup {K : Frag} {r : List Addr} {H0 H : Hp} {ds : List D} {p : Addr} {vs : List V} (h : RelL K r H ds vs) (q : H p = some (.tup vs)) : RelEv K r H0 H (.v (.tup ds)) (.ref p) := by
  unfold RelEv Rel
  exact ⟨p, vs, rfl, .inl (.inl q), h⟩
theorem s_tup {x1} (ha : PA X es (RA P go X W es')) (hl : esLen es' < 100) : PE X (.Tuple es x1 pos) (RE P go X W (.tup es')) := (pe_tup ha).weak fun σ H Q ⟨r, env, st, he, S, h⟩ => by
  unfold evE at h
  refine rda_of he S h.bind0 fun xs st1 r1 H1 vs u1 S1 hx e1 h1 => ⟨?_, fun p hp => ?_⟩
  · rw [← hx.length, evEs_len e1, sizeLine_eq]; omega
  · obtain ⟨r2, U2, _, S2, R2⟩ := mats_ok u1 S1 hx
    have n2 := Up.new (r := r2) (o := .tup vs) hp
    exact h1 r2 _ (U2.trans n2) (S2.new hp) _ (rel_tup (n2.relL R2) upd_same)
theorem s_lst (ha : PA X es (RA P go X W es')) (hl : esLen es' < 100) : PE X (.List es pos) (RE P go X W (.lst es')) := (pe_lst ha).weak fun σ H Q ⟨r, env, st, he, S, h⟩ => by
  unfold evE at h
  refine rda_of he S h.bind0 fun xs st1 r1 H1 vs u1 S1 hx e1 h1 => ⟨?_, fun p hp => ?_⟩
  · rw [← hx.length, evEs_len e1, sizeLine_eq]; omega
  · obtain ⟨r2, U2, _, S2, R2⟩ := mats_ok u1 S1 hx
    have n2 := Up.new (r := r2) (o := .lst vs) hp
    exact h1 r2 _ (U2.trans n2) (S2.new hp) _ ⟨p, vs, rfl, U2.dom p hp, S2.off hp, upd_same, n2.relL R2⟩
/-! ### items, slices -/
theorem plainIx (h : ∀ lo hi st p, b ≠ .Slice lo hi st p) : PlainIx b := fun o i => by
  cases b <;> first | rfl | exact absurd rfl (h _ _ _ _)
theorem s_idx (ha : PE X a (RE P go X W a')) (hb : PE X b (RE P go X W b')) (hp : PlainIx b) : PE X (.Subscript a b pos) (RE P go X W (.idx a' b')) := (pe_ix ix_ok ha hb hp).weak fun σ H Q ⟨r, env, st, he, S, h⟩ => by
  unfold evE at h
  refine rd_of he S h.bind fun x st1 r1 H1 v u1 S1 hx h1 => ?_
  refine rd_of (he.up u1) S1 h1.bind fun y st2 r2 H2 w u2 S2 hy h2 => ?_
  split at h2
  · rename_i ds i e1
    obtain ⟨p, xs, rfl, hq, hr⟩ := items_ok S2 (hx.up u2) e1
    rw [rel_int hy]
    split at h2
    · rename_i d e2
      obtain ⟨v, h3, h4⟩ := atI_rel hr e2
      exact rIx_of hq h3 (post_ok h2 S2 _ h4)
    · exact h2.elim
  · exact h2.elim
theorem s_oN : PO X none (RO P go X W none) := po_none.weak fun σ H Q ⟨r, env, st, he, S, h⟩ => by
  unfold evO at h
  exact post_ok h S
theorem s_oS (ha : PE X a (RE P go X W a')) : PO X (some a) (RO P go X W (some a')) := (po_some ha).weak fun σ H Q ⟨r, env, st, he, S, h⟩ => by
  unfold evO at h
  refine rd_of he S h.bind fun x st1 r1 H1 v u1 S1 hx h1 => ?_
  split at h1
  · exact ⟨_, rel_int hx, post_ok h1 S1⟩
  · exact h1.elim
theorem slD_rel {r : List Addr} {H : Hp} {ds : List D} {xs : List V} {lo hi : Option Int} (h : RelL X.K r H ds xs) : RelL X.K r H (slD ds lo hi) (cutV xs lo hi) := by
  unfold slD cutV
  rw [h.length]
  exact (h.drop _).take _
theorem s_sl {lo hi : Option Expr} {lo' hi' : Option E} {p2 : Pos} (ha : PE X a (RE P go X W a')) (hl : PO X lo (RO P go X W lo')) (hh : PO X hi (RO P go X W hi')) : PE X (.Subscript a (.Slice lo hi none p2) pos) (RE P go X W (.sl a' lo' hi')) :=
  (pe_slice sl_list ha hl hh).weak fun σ H Q ⟨r, env, st, he, S, h⟩ => by
  unfold evE at h
  refine rd_of he S h.bind fun x st1 r1 H1 v u1 S1 hx h1 => ?_
  refine rdo_of (he.up u1) S1 h1.bind fun i st2 r2 H2 u2 S2 h2 => ?_
  refine rdo_of ((he.up u1).up u2) S2 h2.bind fun j st3 r3 H3 u3 S3 h3 => ?_
  split at h3
  · rename_i ds e1
    obtain ⟨p, xs, rfl, hq, hr⟩ := lstE_ok S3 ((hx.up u2).up u3) e1
    refine ⟨p, xs, rfl, hq, fun l hl => ?_⟩
    have n2 := Up.new (r := r3) (o := .lst (cutV xs i j)) hl
    exact h3 r3 _ n2 (S3.new hl) _ ⟨l, _, rfl, ((u1.trans u2).trans u3).dom l hl, S3.off hl, upd_same, n2.relL (slD_rel hr)⟩
  · exact h3.elim
/-! ### attributes -/
theorem relF_get {K : Frag} {r : List Addr} {H : Hp} {f : Str} : ∀ {fs : List (Str × D)} {ys : List (Str × V)}, RelF K r H fs ys → (∀ d, fs.lookup f = some d → ∃ v, ys.lookup f = some v ∧ Rel K r H d v) ∧ (fs.lookup f = none → ys.lookup f = none)
  | [], ys, h => by rw [show ys = [] from h]; exact ⟨fun d e => by (cases e), fun _ => rfl⟩
  | p :: fs, ys, h => by
    obtain ⟨v, vs, rfl, h1, h2⟩ := h
    obtain ⟨a1, a2⟩ := relF_get (f := f) h2
    obtain ⟨pf, pd⟩ := p
    by_cases e : f = pf
    · subst e
      simp only [List.lookup, beq_self_eq_true]
      exact ⟨fun d q => by (cases q; exact ⟨v, rfl, h1⟩), fun q => by (cases q)⟩
    · have e2 : (f == pf) = false := by simpa using e
      simp only [List.lookup, e2]
      exact ⟨a1, a2⟩
theorem relF_put {K : Frag} {r : List Addr} {H : Hp} {f : Str} {d : D} {v : V} (q : Rel K r H d v) : ∀ {fs : List (Str × D)} {ys : List (Str × V)}, RelF K r H fs ys → RelF K r H (putD f d fs) (putF f v ys)
  | [], ys, h => by rw [show ys = [] from h]; exact ⟨v, [], rfl, q, rfl⟩
  | p :: fs, ys, h => by
    obtain ⟨w, vs, rfl, h1, h2⟩ := h
    unfold putD putF
    by_cases e : p.1 = f
    · rw [if_pos e, if_pos e]
      exact ⟨v, vs, by simp [e], q, h2⟩
    · rw [if_neg e, if_neg e]
      exact ⟨w, _, rfl, h1, relF_put q h2⟩
theorem relF_len {K : Frag} {r : List Addr} {H : Hp} : ∀ {fs : List (Str × D)} {ys : List (Str × V)}, RelF K r H fs ys → fs.length = ys.length
  | [], ys, h => by rw [show ys = [] from h]; rfl
  | p :: fs, ys, h => by
    obtain ⟨v, vs, rfl, _, h2⟩ := h
    simp [relF_len h2]
theorem s_fld (G : Good P go k X sc W) {f : Str} (ha : PE X a (RE P go X W a')) (hb : attributeBase a f X.env (eval a X.env) = eval a X.env) : PE X (.Attribute a f pos) (RE P go X W (.fld a' f)) := (pe_fld ha hb).weak fun σ H Q ⟨r, env, st, he, S, h⟩ => by
  unfold evE at h
  refine rd_of he S h.bind fun x st1 r1 H1 v u1 S1 hx h1 => ?_
  split at h1
  · rename_i n
    split at h1
    · rename_i c fs e1
      split at h1
      · rename_i hf
        split at h1
        · rename_i d e2
          unfold RelEv Rel at hx
          obtain ⟨p, h2, rfl⟩ := hx
          obtain ⟨C, dx, fv, z1, z2, z3⟩ := S1.ok n p _ h2 e1
          obtain ⟨cl, na⟩ := G.tab.na c f C hf z1
          obtain ⟨v, l1, l2⟩ := (relF_get z3).1 d e2
          exact ⟨p, C, dx, fv, v, rfl, z2, cl, na, l1, post_ok h1 S1 _ l2⟩
        · exact h1.elim
      · exact h1.elim
    · exact h1.elim
  · exact h1.elim
end
end SI

set_option maxHeartbeats 2000000
/-! SI 8: built-ins, calls. -/
namespace SI
open PySem L2
section
variable {P : Prog} {go : Go} {k : Nat} {X : Cx} {sc : Scope} {W : WX} {a b c e : Expr} {a' b' c' e' : E} {es : List Expr} {es' : Es} {pos p : Pos}
def BiP (X : Cx) (b : BI) (r : List V → Hp → VK → Prop) : Prop := ∀ {r0 : List Addr} {st : Store} {H0 H : Hp} {xs : List Ev} {vs : List V} {z : Ev} {Q : VK}, Sim X.K X.mg r0 st H → RelEvs X.K r0 H0 H xs vs → biD b xs st = some z →
  (∀ r' H' v, Up r0 H r' H' → Sim X.K X.mg r' st H' → RelEv X.K r' H H' z v → Q v H') → r vs H Q
theorem one_of {K : Frag} {r : List Addr} {H0 H : Hp} {x : Ev} {vs : List V} (h : RelEvs K r H0 H [x] vs) : ∃ v, vs = [v] ∧ RelEv K r H0 H x v := by
  obtain ⟨v, ws, rfl, h1, _, h2⟩ := h
  rw [show ws = [] from h2]
  exact ⟨v, rfl, h1⟩
theorem two_of {K : Frag} {r : List Addr} {H0 H : Hp} {x y : Ev} {vs : List V} (h : RelEvs K r H0 H [x, y] vs) : ∃ v w, vs = [v, w] ∧ RelEv K r H0 H x v ∧ RelEv K r H0 H y w := by
  obtain ⟨v, ws, rfl, h1, _, h2⟩ := h
  obtain ⟨w, rfl, h3⟩ := one_of h2
  exact ⟨v, w, rfl, h1, h3⟩
theorem lenLe {n : Nat} (h : n < lim) : n ≤ sizeLine := by rw [sizeLine_eq]; unfold lim at h; omega
theorem bi_len : BiP X .len (fun xs H Q => ∃ x n, xs = [x] ∧ LenV X.K x H n ∧ Q (.int n) H) := fun {r0 st H0 H xs vs z Q} S hx e q => by
  have e' : bLen xs st = some z := e
  unfold bLen at e'
  split at e'
  · split at e' <;> cases e'
    rename_i hl
    obtain ⟨v, rfl, hv⟩ := one_of hx
    rw [rel_str hv]
    exact ⟨_, _, rfl, ⟨lenLe hl, rfl⟩, q r0 H _ (Up.refl r0 H) S rel_int'⟩
  · rename_i x _
    cases e2 : items st x with
    | none => rw [e2] at e'; cases e'
    | some ds =>
      rw [e2] at e'; cases e'
      obtain ⟨v, rfl, hv⟩ := one_of hx
      obtain ⟨p, ys, rfl, hq, hr⟩ := items_ok S hv e2
      refine ⟨_, ds.length, rfl, ?_, q r0 H _ (Up.refl r0 H) S rel_int'⟩
      rcases hq with hq | hq
      · exact .inl ⟨ys, hq, hr.length⟩
      · exact .inr ⟨ys, hq, hr.length⟩
  · cases e'
theorem bi_int : BiP X .int (fun xs H Q => (∃ i, xs = [.int i] ∧ Q (.int i) H) ∨ ∃ k, xs = [.bl k] ∧ Q (.int (if k then 1 else 0)) H) := fun {r0 st H0 H xs vs z Q} S hx e q => by
  have e' : bInt xs = some z := e
  unfold bInt at e'
  split at e' <;> cases e'
  · obtain ⟨v, rfl, hv⟩ := one_of hx
    rw [rel_int hv]
    exact .inl ⟨_, rfl, q r0 H _ (Up.refl r0 H) S rel_int'⟩
  · obtain ⟨v, rfl, hv⟩ := one_of hx
    rw [rel_bl hv]
    exact .inr ⟨_, rfl, q r0 H _ (Up.refl r0 H) S rel_int'⟩
theorem bi_max : BiP X .max (fun xs H Q => ∃ i j, xs = [.int i, .int j] ∧ Q (.int (if j > i then j else i)) H) := fun {r0 st H0 H xs vs z Q} S hx e q => by
  have e' : bMax xs = some z := e
  unfold bMax at e'
  split at e' <;> cases e'
  obtain ⟨v, w, rfl, hv, hw⟩ := two_of hx
  rw [rel_int hv, rel_int hw]
  exact ⟨_, _, rfl, q r0 H _ (Up.refl r0 H) S rel_int'⟩
theorem bi_min : BiP X .min (fun xs H Q => ∃ i j, xs = [.int i, .int j] ∧ Q (.int (if j < i then j else i)) H) := fun {r0 st H0 H xs vs z Q} S hx e q => by
  have e' : bMin xs = some z := e
  unfold bMin at e'
  split at e' <;> cases e'
  obtain ⟨v, w, rfl, hv, hw⟩ := two_of hx
  rw [rel_int hv, rel_int hw]
  exact ⟨_, _, rfl, q r0 H _ (Up.refl r0 H) S rel_int'⟩
theorem bi_divmod : BiP X .divmod (fun xs H Q => ∃ i j, xs = [.int i, .int j] ∧ CDiv i j ∧ ∀ p, H p = none → Q (.ref p) (upd H p (.tup [.int (i / j), .int (i % j)]))) := fun {r0 st H0 H xs vs z Q} S hx e q => by
  have e' : bDm xs = some z := e
  unfold bDm at e'
  split at e'
  · split at e' <;> cases e'
    rename_i hl
    obtain ⟨v, w, rfl, hv, hw⟩ := two_of hx
    rw [rel_int hv, rel_int hw]
    refine ⟨_, _, rfl, hl, fun p hp => q r0 _ _ (Up.new hp) (S.new hp) (rel_tup (relL_cons ?_ (relL_cons ?_ relL_nil)) upd_same)⟩ <;> (unfold Rel; rfl)
  · cases e'
theorem bi_list : BiP X .list (fun xs H Q => ∃ p ys, xs = [.ref p] ∧ (SqL X.K H p ys ∨ SqT X.K H p ys) ∧ ∀ l, H l = none → Q (.ref l) (upd H l (.lst ys))) := fun {r0 st H0 H xs vs z Q} S hx e q => by
  have e' : bList xs st = some z := e
  unfold bList at e'
  split at e'
  · rename_i x
    cases e2 : items st x with
    | none => rw [e2] at e'; cases e'
    | some ds =>
      rw [e2] at e'; cases e'
      obtain ⟨v, rfl, hv⟩ := one_of hx
      obtain ⟨p, ys, rfl, hq, hr⟩ := items_ok S hv e2
      exact ⟨p, ys, rfl, hq, fun l hl => q r0 _ _ (Up.new hl) (S.new hl) ⟨l, ys, rfl, hl, S.off hl, upd_same, (Up.new (r := r0) hl).relL hr⟩⟩
  · cases e'
theorem callR_never {f : Value} : CallR X f (fun _ _ _ => False) := fun _ _ _ _ _ _ _ _ _ h => h.elim
theorem s_biB {bb : BI} {x : Str} {id : String} {rr : List V → Hp → VK → Prop} (hc : CallR X (.builtin id) rr) (hb : BiP X bb rr) (hg : Gl X x) (hm : X.mg x = none) (hv : bootBuiltins x = some (.builtin id)) (hn : x ≠ "__name__") (hd : (x == ("__debug__" : Str)) = false)
    (hs : es.any isStar = false) (ha : PA X es (RA P go X W es')) (h0 : es = [] → es' = .nil) (hz : ∀ st, biD bb [] st = none) : PE X (.Call (.Name x p) es [] pos) (RE P go X W (.bi bb es')) := by
  cases es with
  | nil =>
    refine PE.never fun σ H Q ⟨r, env, st, he, S, h⟩ => ?_
    rw [h0 rfl] at h
    unfold evE evEs at h
    simp only [R.bind] at h
    rw [hz] at h
    exact h
  | cons e es =>
    have h1 : isStar e = false ∧ es.any isStar = false := by simpa using hs
    refine (pe_callB hc hg hm hv ha hn hd (star_cons h1.1) (star_any h1.2)).weak fun σ H Q ⟨r, env, st, he, S, h⟩ => ?_
    unfold evE at h
    refine rda_of he S h.bind fun xs st1 r1 H1 vs u1 S1 hx e1 h1 => ?_
    obtain ⟨z, hz, q⟩ := h1.of
    exact hb S1 hx hz fun r' H' v u S' hv => q r' H' u S' v (hv.older u1.dom)
theorem s_biT {bb : BI} {x : Str} {T : String} {rr : List V → Hp → VK → Prop} (hc : CallR X (.type T) rr) (hb : BiP X bb rr) (hg : Gl X x) (hm : X.mg x = none) (hv : bootBuiltins x = some (.type T)) (hn : x ≠ "__name__") (hd : (x == ("__debug__" : Str)) = false)
    (hs : es.any isStar = false) (ha : PA X es (RA P go X W es')) (h0 : es = [] → es' = .nil) (hz : ∀ st, biD bb [] st = none) : PE X (.Call (.Name x p) es [] pos) (RE P go X W (.bi bb es')) := by
  cases es with
  | nil =>
    refine PE.never fun σ H Q ⟨r, env, st, he, S, h⟩ => ?_
    rw [h0 rfl] at h
    unfold evE evEs at h
    simp only [R.bind] at h
    rw [hz] at h
    exact h
  | cons e es =>
    have h1 : isStar e = false ∧ es.any isStar = false := by simpa using hs
    refine (pe_callTy hc hg hm hv ha hn hd (star_cons h1.1) (star_any h1.2)).weak fun σ H Q ⟨r, env, st, he, S, h⟩ => ?_
    unfold evE at h
    refine rda_of he S h.bind fun xs st1 r1 H1 vs u1 S1 hx e1 h1 => ?_
    obtain ⟨z, hz, q⟩ := h1.of
    exact hb S1 hx hz fun r' H' v u S' hv => q r' H' u S' v (hv.older u1.dom)
theorem biP_never {bb : BI} (h : ∀ xs st, biD bb xs st = none) : BiP X bb (fun _ _ _ => False) := fun {r0 st H0 H xs vs z Q} S hx e q => by rw [h] at e; cases e
theorem bi_of {x : Str} {bb : BI} (h : biOf x = some bb) : (x = "len" ∧ bb = .len) ∨ (x = "int" ∧ bb = .int) ∨ (x = "str" ∧ bb = .str) ∨ (x = "divmod" ∧ bb = .divmod) ∨ (x = "max" ∧ bb = .max) ∨ (x = "min" ∧ bb = .min) ∨ (x = "list" ∧ bb = .list) ∨ (x = "tuple" ∧ bb = .tuple) ∨ (x = "sorted" ∧ bb = .sorted) ∨ (x = "all" ∧ bb = .all) := by
  unfold biOf at h
  repeat (split at h; (rename_i e; cases h; subst e; simp))
  cases h
theorem s_bi (G : Good P go k X sc W) {x : Str} {bb : BI} (hbx : biOf x = some bb) (hg : Gl X x) (hs : es.any isStar = false) (ha : PA X es (RA P go X W es')) (h0 : es = [] → es' = .nil) : PE X (.Call (.Name x p) es [] pos) (RE P go X W (.bi bb es')) := by
  have hm : X.mg x = none := G.tab.bi x (by rcases bi_of hbx with ⟨rfl, _⟩ | ⟨rfl, _⟩ | ⟨rfl, _⟩ | ⟨rfl, _⟩ | ⟨rfl, _⟩ | ⟨rfl, _⟩ | ⟨rfl, _⟩ | ⟨rfl, _⟩ | ⟨rfl, _⟩ | ⟨rfl, _⟩ <;> simp [bNames])
  rcases bi_of hbx with ⟨rfl, rfl⟩ | ⟨rfl, rfl⟩ | ⟨rfl, rfl⟩ | ⟨rfl, rfl⟩ | ⟨rfl, rfl⟩ | ⟨rfl, rfl⟩ | ⟨rfl, rfl⟩ | ⟨rfl, rfl⟩ | ⟨rfl, rfl⟩ | ⟨rfl, rfl⟩
  · exact s_biB call_len bi_len hg hm PySem.boot_len (by decide +kernel) (by decide +kernel) hs ha h0 fun _ => rfl
  · exact s_biT call_int1 bi_int hg hm (by decide +kernel) (by decide +kernel) (by decide +kernel) hs ha h0 fun _ => rfl
  · exact s_biT (T := "str") callR_never (biP_never fun xs st => rfl) hg hm (by decide +kernel) (by decide +kernel) (by decide +kernel) hs ha h0 fun _ => rfl
  · exact s_biB call_divmod bi_divmod hg hm (by decide +kernel) (by decide +kernel) (by decide +kernel) hs ha h0 fun _ => rfl
  · exact s_biB (call_max2 G.calm) bi_max hg hm (by decide +kernel) (by decide +kernel) (by decide +kernel) hs ha h0 fun _ => rfl
  · exact s_biB (call_min2 G.calm) bi_min hg hm (by decide +kernel) (by decide +kernel) (by decide +kernel) hs ha h0 fun _ => rfl
  · exact s_biT call_list_of bi_list hg hm (by decide +kernel) (by decide +kernel) (by decide +kernel) hs ha h0 fun _ => rfl
  · exact s_biT (T := "tuple") callR_never (biP_never fun xs st => rfl) hg hm (by decide +kernel) (by decide +kernel) (by decide +kernel) hs ha h0 fun _ => rfl
  · exact s_biB (id := "sorted") callR_never (biP_never fun xs st => rfl) hg hm (by decide +kernel) (by decide +kernel) (by decide +kernel) hs ha h0 fun _ => rfl
  · exact s_biB (id := "all") callR_never (biP_never fun xs st => rfl) hg hm (by decide +kernel) (by decide +kernel) (by decide +kernel) hs ha h0 fun _ => rfl
end
end SI

set_option maxHeartbeats 2000000
/-! SI 9: calls of the text's own defs, methods, classes. -/
namespace SI
open PySem L2 PySem.Spec PyProof.Rows
section
variable {P : Prog} {go : Go} {k : Nat} {X : Cx} {sc : Scope} {W : WX} {a b c e o : Expr} {a' b' c' e' o' : E} {es : List Expr} {es' : Es} {pos p apos : Pos}
theorem takes_ok {f : Fn} {n : Nat} (h : f.takes n = true) : n ≤ f.np ∧ f.np ≤ n + f.dfl.length := by
  unfold Fn.takes at h
  simpa using h
theorem full_ok {f : Fn} {ds : List D} (h : f.takes ds.length = true) : (f.full ds).length = f.np := by
  obtain ⟨h1, h2⟩ := takes_ok h
  unfold Fn.full
  simp
  omega
theorem mats_len : ∀ {xs : List Ev} {st : Store}, (mats xs st).1.length = xs.length
  | [], st => rfl
  | x :: xs, st => by
    show (mats xs (mat x st).2).1.length + 1 = xs.length + 1
    rw [mats_len]
theorem s_call (G : Good P go k X sc W) {x : Str} (hg : Gl X x) (hs : es.any isStar = false) (ha : PA X es (RA P go X W es')) (h0 : es ≠ []) (hl : esLen es' = es.length) : PE X (.Call (.Name x p) es [] pos) (RE P go X W (.call x es')) := by
  cases q : P.fns.lookup (x, none) with
  | none =>
    refine PE.never fun σ H Q ⟨r, env, st, he, S, h⟩ => ?_
    unfold evE at h
    rw [q] at h
    exact h
  | some f =>
    cases t : f.takes (esLen es') with
    | false =>
      refine PE.never fun σ H Q ⟨r, env, st, he, S, h⟩ => ?_
      unfold evE at h
      rw [q] at h
      simp only [t] at h
      exact h
    | true =>
      obtain ⟨fa, fd, ps, F, hm, hk, ⟨hp, hB⟩, hd⟩ := G.tab.fn x f q
      obtain ⟨t1, t2⟩ := takes_ok t
      obtain ⟨dvs, ds, d1, d2, d3⟩ := hB (esLen es') t1 t2
      cases es with
      | nil => exact absurd rfl h0
      | cons e es =>
        have h1 : isStar e = false ∧ es.any isStar = false := by simpa using hs
        refine (pe_callSD F (G.room.mono (Nat.le_succ _)) hg hm hk d2 d1 (fun σ => passAt G.tk σ) ha hd (star_cons h1.1) (star_any h1.2)).weak fun σ H Q ⟨r, env, st, he, S, h⟩ => ?_
        unfold evE at h
        rw [q] at h
        simp only [t] at h
        refine rda_of he S (PostR.bind0 h) fun xs st1 r1 H1 vs u1 S1 hx e1 h1 => ?_
        obtain ⟨r2, U2, _, S2, R2⟩ := mats_ok u1 S1 hx
        have el := evEs_len e1
        refine ⟨r2, f.full (mats xs st1).1, (mats xs st1).2, ?_, full_ok (by rw [mats_len, el]; exact t), S2, (h1.up U2).mono fun _ _ _ _ _ _ _ z => ok_older U2.dom z⟩
        unfold Fn.full
        rw [mats_len, el]
        exact R2.append (d3 r2 H1)
/-- what a value's method asks -/
def rMeth (K : Frag) (pr : Program) (w : World) (mg : Str → Option Value) (base : Heap) (k : Nat) (m : Str) (E : XK) (ta : TA) (σ : L2.St) (x : V) (H : Hp) (Q : VK) : Prop :=
  ∃ (a C dx : Addr) (fs : List (Str × V)) (f : Addr) (fd : FuncData) (ps : List Str) (sp : Sp) (dvs : List V) (ds : List Value), x = .ref a ∧ H a = some (.ins C dx fs) ∧ Cls K C ∧ Meth K C m f ∧ fs.lookup m = none ∧
    FnOk pr w K mg base (CX pr w) k f fd ps sp ∧ Binds K fd ps ds ∧ Vals dvs ds ∧ ta σ H fun vs H2 => sp (x :: (vs ++ dvs)) H2 Q E
theorem pe_methX {m : Str} {te : TE} {t : TA} {pl : Sem Bool} (hr : Room k X.A) (tk : Takes X W) (ho : PE X o te) (ha : PA X (e :: es) t) (hs : (e :: es).any isStar = false)
    (ev : eval (.Call (.Attribute o m apos) (e :: es) [] pos) X.env = (do
      let ov ← eval o X.env
      standAt apos.atName
      let (f, first) ← holding [ov] (getMethod ov m pl)
      callWith pos f first (backTo pos (starEach (e :: es) X.env)) (backToKw pos (keywordEach [] X.env)))) :
    PE X (.Call (.Attribute o m apos) (e :: es) [] pos) (fun σ H Q => te σ H fun x H1 => rMeth X.K X.prog X.w X.mg X.base k m (WE W σ) t σ x H1 Q) := by
  have h1 : isStar e = false ∧ es.any isStar = false := by simpa using hs
  constructor
  intro pins s σ H Q I h
  refine PySem.W.methodCall_KW (pl := pl) (thn (ho.run pins s σ H _ I h) ?_) ev
  rintro u s1 ⟨x, H1, I1, rx, pa, C, dx, fs, f, fd, ps, sp, dvs, ds, rfl, hi, cl, hm, hn, F, hb, hd, q⟩
  have hu : u = Value.ref pa := rx
  subst hu
  refine getmeth_ok I1 hi cl hm hn ?_
  refine PySem.W.callWith_K (first := [.ref pa]) (h₀ := X.base) I.ok.mod.kin hm.kp (thn (ha.run pos pins s1 σ H1 _ I1 q) ?_) (star_cons h1.1) (star_any h1.2)
  rintro us s2 ⟨vs, H2, I2, rv, q2⟩
  refine ⟨I2.kIn, ?_⟩
  exact run_fnSD (us := .ref pa :: us) (vs := .ref pa :: vs) F hr hb hd (passAt tk σ) I2 (.cons rx rv) q2
theorem pe_methX0 {m : Str} {te : TE} {pl : Sem Bool} (hr : Room k X.A) (tk : Takes X W) (ho : PE X o te)
    (ev : eval (.Call (.Attribute o m apos) [] [] pos) X.env = (do
      let ov ← eval o X.env
      standAt apos.atName
      let (f, first) ← holding [ov] (getMethod ov m pl)
      callWith pos f first (backTo pos (starEach [] X.env)) (backToKw pos (keywordEach [] X.env)))) :
    PE X (.Call (.Attribute o m apos) [] [] pos) (fun σ H Q => te σ H fun x H1 => rMeth X.K X.prog X.w X.mg X.base k m (WE W σ) tNil σ x H1 Q) := by
  constructor
  intro pins s σ H Q I h
  refine PySem.W.methodCall_KW (pl := pl) (thn (ho.run pins s σ H _ I h) ?_) ev
  rintro u s1 ⟨x, H1, I1, rx, pa, C, dx, fs, f, fd, ps, sp, dvs, ds, rfl, hi, cl, hm, hn, F, hb, hd, q⟩
  have hu : u = Value.ref pa := rx
  subst hu
  refine getmeth_ok I1 hi cl hm hn ?_
  exact PySem.W.callWith_K0 (first := [.ref pa]) I1.kIn hm.kp (run_fnSD (us := [.ref pa]) (vs := [.ref pa]) F hr hb hd (passAt tk σ) I1 (.cons rx .nil) q)
theorem star_all : ∀ {es : List Expr} {env : PySem.Env} {p : Pos}, es.any isStar = false → (backTo p (starEach es env)).all (fun x => !x.1) = true
  | [], env, p, h => rfl
  | e :: es, env, p, h => by
    have h1 : isStar e = false ∧ es.any isStar = false := by simpa using h
    rw [star_cons h1.1]
    show (true && (backTo p (starEach es env)).all (fun x => !x.1)) = true
    rw [star_all h1.2] <;> rfl
theorem few_ok {env : PySem.Env} (hs : es.any isStar = false) (hl : es.length < 20) : methodCallForm (es.length + ([] : List Keyword).length) (backTo pos (starEach es env)) (backToKw pos (keywordEach [] env)) = true := by
  unfold methodCallForm
  rw [star_all hs]
  have : decide (es.length + ([] : List Keyword).length + (if (backToKw pos (keywordEach [] env)).isEmpty = true then 0 else 1) < 30) = true := by
    apply decide_eq_true
    show es.length + 0 + (if true = true then 0 else 1) < 30
    simp
    omega
  rw [this] <;> rfl
theorem base_ok {m : Str} {env : PySem.Env} (hr : recvOk o = true) : attributeBase o m env (eval o env) = eval o env := by
  unfold recvOk at hr
  split at hr <;> first | rfl | (cases hr; done) | (rename_i f _ _ _ _; cases f <;> rfl)
theorem ev_meth {m : Str} {env : PySem.Env} (hr : recvOk o = true) (hs : es.any isStar = false) (hl : es.length < 20) (hp : (apos.endLine == pos.line) = true) : ∃ pl : Sem Bool, eval (.Call (.Attribute o m apos) es [] pos) env = (do
      let ov ← eval o env
      standAt apos.atName
      let (f, first) ← holding [ov] (getMethod ov m pl)
      callWith pos f first (backTo pos (starEach es env)) (backToKw pos (keywordEach [] env))) := by
  refine ⟨do return (← importBound o env).getD true, ?_⟩
  show (do
    let ov ← attributeBase o m env (eval o env)
    standAt apos.atName
    methodCall o m apos pos env ov (es.length + ([] : List Keyword).length) (backTo pos (starEach es env)) (backToKw pos (keywordEach [] env))) = _
  rw [base_ok hr]
  have e : ∀ ov, methodCall o m apos pos env ov (es.length + ([] : List Keyword).length) (backTo pos (starEach es env)) (backToKw pos (keywordEach [] env)) = (do
      let (f, first) ← holding [ov] (getMethod ov m (do return (← importBound o env).getD true))
      callWith pos f first (backTo pos (starEach es env)) (backToKw pos (keywordEach [] env))) := fun ov => by
    unfold methodCall
    rw [few_ok hs hl]
    have e2 : methodCallPos true o env apos pos = pure pos := by
      unfold methodCallPos
      rw [hp] <;> rfl
    rw [e2]
    simp only [pure_bind]
    rfl
  simp only [e]
theorem meth_post {r : List Addr} {H : Hp} {Q : VK} {σ : L2.St} {env : Env} {f : Fn} {st : Store} (he : EnvR X.K r H env σ) (S : Sim X.K X.mg r st H)
    (G : Good P go k X sc W) {m : Str} {n : Nat} {c : Str} {fs : List (Str × D)} {H0 : Hp} {v : V} {ta : TA} (hx : RelEv X.K r H0 H (.v (.ref n)) v) (e1 : st[n]? = some (.ins c fs)) (q : P.fns.lookup (c, some m) = some f) (ql : fs.lookup m = none) (t : f.takes (esLen es' + 1) = true)
    (hta : ∀ Q2 : List V → Hp → Prop, RA P go X W es' σ H Q2 → ta σ H Q2)
    (h : PostR X.K X.mg r H ((evEs P go es' env st).bind fun xs st2 => go f (f.full (.ref n :: (mats xs st2).1)) (mats xs st2).2) (OkE X.K H Q) (Wat W σ)) :
    rMeth X.K X.prog X.w X.mg X.base k m (WE W σ) ta σ v H Q := by
  unfold RelEv Rel at hx
  obtain ⟨pa, h2, rfl⟩ := hx
  obtain ⟨C, dx, fv, z1, z2, z3⟩ := S.ok n pa _ h2 e1
  obtain ⟨fa, fd, ps, F, hm, ⟨hp, hB⟩, cl⟩ := G.tab.mt c m f C q z1
  obtain ⟨t1, t2⟩ := takes_ok t
  obtain ⟨dvs, ds, d1, d2, d3⟩ := hB (esLen es' + 1) t1 t2
  refine ⟨pa, C, dx, fv, fa, fd, ps, _, dvs, ds, rfl, z2, cl, hm, (relF_get z3).2 ql, F, d2, d1, hta _ ?_⟩
  refine rda_of he S h.bind0 fun xs st1 r1 H1 vs u1 S1 hx e1 h1 => ?_
  obtain ⟨r2, U2, E2, S2, R2⟩ := mats_ok u1 S1 hx
  have el := evEs_len e1
  refine ⟨r2, f.full (.ref n :: (mats xs st1).1), (mats xs st1).2, ?_, full_ok (by simp only [List.length_cons, mats_len, el]; exact t), S2, (h1.up U2).mono fun _ _ _ _ _ _ _ z => ok_older U2.dom z⟩
  unfold Fn.full
  simp only [List.length_cons, mats_len, el]
  refine RelL.append (relL_cons (v := V.ref pa) (vs := vs) ?_ R2) (d3 r2 H1)
  unfold Rel
  exact ⟨pa, U2.pre n pa h2, rfl⟩
theorem s_meth (G : Good P go k X sc W) {m : Str} (ho : PE X o (RE P go X W o')) (hs : es.any isStar = false) (ha : PA X es (RA P go X W es')) (h0 : es = [] → es' = .nil) (hr : recvOk o = true) (hl : es.length < 20) (hp : (apos.endLine == pos.line) = true) : PE X (.Call (.Attribute o m apos) es [] pos) (RE P go X W (.meth o' m es')) := by
  have hw : ∀ (ta : TA), (∀ σ H Q2, RA P go X W es' σ H Q2 → ta σ H Q2) → ∀ σ H Q, RE P go X W (.meth o' m es') σ H Q → RE P go X W o' σ H fun x H1 => rMeth X.K X.prog X.w X.mg X.base k m (WE W σ) ta σ x H1 Q := by
    rintro ta hta σ H Q ⟨r, env, st, he, S, h⟩
    unfold evE at h
    refine rd_of he S h.bind fun x st1 r1 H1 v u1 S1 hx h1 => ?_
    split at h1
    · split at h1
      · rename_i c fs e1
        split at h1
        · rename_i fn q ql
          split at h1
          · rename_i t
            exact meth_post (he.up u1) S1 G hx e1 q ql t (fun Q2 h => hta _ _ Q2 h) (h1.mono fun _ _ _ _ _ _ _ z => ok_older u1.dom z)
          · exact h1.elim
        · exact h1.elim
      · exact h1.elim
    · exact h1.elim
  obtain ⟨pl, ev⟩ := ev_meth (m := m) (apos := apos) (es := es) (pos := pos) (env := X.env) hr hs hl hp
  cases es with
  | nil =>
    have e0 := h0 rfl
    subst e0
    refine PE.weak (pe_methX0 (k := k) (G.room.mono (Nat.le_succ _)) G.tk ho ev) (hw tNil ?_)
    rintro σ H Q2 ⟨r, env, st, he, S, h⟩
    unfold evEs at h
    exact post_ok h S _ rfl
  | cons e es => exact PE.weak (pe_methX (k := k) (G.room.mono (Nat.le_succ _)) G.tk ho ha hs ev) (hw _ fun σ H Q2 h => h)
end
end SI

set_option maxHeartbeats 2000000
/-! SI 10: instances made, isinstance, append. -/
namespace SI
open PySem L2 PySem.Spec PyProof.Rows
section
variable {P : Prog} {go : Go} {k : Nat} {X : Cx} {sc : Scope} {W : WX} {a b c e o : Expr} {a' b' c' e' o' : E} {es : List Expr} {es' : Es} {pos p apos : Pos}
/-- C(..) of an own class, what is raised wished for at the slots -/
def tMakeS (C : Addr) (sp : Sp) (dvs : List V) (E : L2.St → XK) (t : TA) : TE := fun σ H Q => t σ H fun vs H1 => ∀ x dx, H1 x = none → H1 dx = none → dx ≠ x →
  sp (.ref x :: (vs ++ dvs)) (upd (upd H1 dx (.own x)) x (.ins C dx [])) (fun v H2 => v = .non ∧ Q (.ref x) H2) (E σ)
theorem pe_makeS {x : Str} {C f : Addr} {fd : FuncData} {ps : List Str} {sp : Sp} {dvs : List V} {ds : List Value} {t : TA} (M : Mk X.K C f) (F : FnOk X.prog X.w X.K X.mg X.base (CX X.prog X.w) k f fd ps sp) (hr : Room (k + 1) X.A) (hg : Gl X x) (hm : X.mg x = some (.ref C))
    (hb : Binds X.K fd ps ds) (hd : Vals dvs ds) (tk : Takes X W) (ha : PA X (e :: es) t) (hdb : (x == ("__debug__" : Str)) = false) (hs : (e :: es).any isStar = false) : PE X (.Call (.Name x p) (e :: es) [] pos) (tMakeS C sp dvs (WE W) t) := by
  have h1 : isStar e = false ∧ es.any isStar = false := by simpa using hs
  constructor
  intro pins s σ H Q I h
  refine wpAny_Call_Name_kw (ld_glob I hg hm ?_ hdb)
  refine PySem.W.callWith_K (h₀ := X.base) I.ok.mod.kin M.kp (thn (ha.run pos pins s σ H _ I h) ?_) (star_cons h1.1) (star_any h1.2)
  rintro us s1 ⟨vs, H1, I1, r, q⟩
  refine ⟨I1.kIn, ?_⟩
  have hq := q (s1.heap.objs.size + 1) s1.heap.objs.size (I1.hok.fresh (Nat.le_succ _)) (I1.hok.fresh (Nat.le_refl _)) (Nat.ne_of_lt (Nat.lt_succ_self _))
  have I2 := Inv.made (C := C) I1
  have r2 : Vals (V.ref (s1.heap.objs.size + 1) :: (vs ++ dvs)) (Value.ref (s1.heap.objs.size + 1) :: (us ++ ds)) := Paired.cons rfl (r.append hd)
  have hl : (Value.ref (s1.heap.objs.size + 1) :: us ++ ds).length = ps.length := (r2.length.symm).trans (F.len _ _ _ _ hq)
  have run := F.run _ X.stack _ _ ⟨Value.ref (s1.heap.objs.size + 1) :: us, []⟩ _ _ _ (WE W σ) (hr.make C us []) (I2.env0.make C us []) (hb _ (Value.ref (s1.heap.objs.size + 1) :: us) I2.kIn hl) r2 hq
  refine wpAny_call (make_map (f := f) I1.kIn M.makes M.init (beq_iff_eq.mp M.fn) (codeAny_mono run fun rr s' hq' => ?_))
  match rr, hq' with
  | .error er, hq' => exact passAt tk σ pins _ _ er s' I2 hq'
  | .ok (.ret u), hq' =>
    obtain ⟨v, H', I3, rv, ev, q3⟩ := I2.after hq'
    subst ev
    exact ⟨rv, V.ref (s1.heap.objs.size + 1), H', I3, rfl, q3⟩
  | .ok .next, hq' => exact False.elim hq'
  | .ok .brk, hq' => exact False.elim hq'
  | .ok .cont, hq' => exact False.elim hq'
theorem s_mk (G : Good P go k X sc W) {x : Str} (hg : Gl X x) (hs : es.any isStar = false) (ha : PA X es (RA P go X W es')) (h0 : es ≠ []) : PE X (.Call (.Name x p) es [] pos) (RE P go X W (.mk x es')) := by
  cases q : P.fns.lookup (x, some nInit) with
  | none =>
    refine PE.never fun σ H Q ⟨r, env, st, he, S, h⟩ => ?_
    unfold evE at h
    rw [q] at h
    exact h
  | some f =>
    cases t : f.takes (esLen es' + 1) with
    | false =>
      refine PE.never fun σ H Q ⟨r, env, st, he, S, h⟩ => ?_
      unfold evE at h
      rw [q] at h
      simp only [t] at h
      exact h
    | true =>
      obtain ⟨C, hm, hdb, hmk⟩ := G.tab.mkr x f q
      obtain ⟨fa, fd, ps, F, hme, ⟨hp, hB⟩, cl⟩ := G.tab.mt x nInit f C q hm
      obtain ⟨t1, t2⟩ := takes_ok t
      obtain ⟨dvs, ds, d1, d2, d3⟩ := hB (esLen es' + 1) t1 t2
      cases es with
      | nil => exact absurd rfl h0
      | cons e es =>
        refine (pe_makeS (hmk fa hme) F G.room hg hm d2 d1 G.tk ha hdb hs).weak fun σ H Q ⟨r, env, st, he, S, h⟩ => ?_
        unfold evE at h
        rw [q] at h
        simp only [t] at h
        refine rda_of he S (PostR.bind0 h) fun xs st1 r1 H1 vs u1 S1 hx e1 h1 => ?_
        obtain ⟨r2, U2, _, S2, R2⟩ := mats_ok u1 S1 hx
        have el := evEs_len e1
        intro y dx hy hdx hne
        have hy' : upd H1 dx (.own y) y = none := by rw [upd_ne (Ne.symm hne)]; exact hy
        have n1 := Up.new (r := r2) (o := .own y) hdx
        have n2 := Up.new (r := r2) (o := .ins C dx []) hy'
        have S3 := (S2.new (o := .own y) hdx).new (o := .ins C dx []) hy'
        have off : Off r2 y := S2.off hy
        have S4 := S3.snoc off (c := .ins x []) ⟨C, dx, [], hm, upd_same, rfl⟩
        have hlen := S2.len
        have U4 : Up r H (r2 ++ [y]) (upd (upd H1 dx (.own y)) y (.ins C dx [])) := by
          have u := (U2.trans n1).trans n2
          refine ⟨u.pre.trans (Ext.snoc r2 y), u.keep, fun n bb z1 z2 => ?_, u.dom⟩
          by_cases hn : n < r2.length
          · rw [List.getElem?_append_left hn] at z2; exact u.fresh n bb z1 z2
          · rw [List.getElem?_append_right (by omega)] at z2
            cases qq : n - r2.length with
            | zero => rw [qq] at z2; simp at z2; subst z2; exact U2.dom _ hy
            | succ m => rw [qq] at z2; simp at z2
        have hget : (r2 ++ [y])[(mats xs st1).2.length]? = some y := by rw [← hlen]; simp
        have hself : Rel X.K (r2 ++ [y]) (upd (upd H1 dx (.own y)) y (.ins C dx [])) (.ref (mats xs st1).2.length) (.ref y) := by
          unfold Rel
          exact ⟨y, hget, rfl⟩
        refine ⟨r2 ++ [y], f.full (.ref (mats xs st1).2.length :: (mats xs st1).1), (mats xs st1).2 ++ [.ins x []], ?_, full_ok (by simp only [List.length_cons, mats_len, el]; exact t), S4, ?_⟩
        · unfold Fn.full
          simp only [List.length_cons, mats_len, el]
          exact RelL.append (relL_cons hself (RelL.mono (Ext.snoc r2 y) ((n1.trans n2).sqT) R2)) (d3 _ _)
        · cases qg : go f (f.full (.ref (mats xs st1).2.length :: (mats xs st1).1)) ((mats xs st1).2 ++ [.ins x []]) with
          | stuck => rw [qg] at h1; exact h1
          | ex c fs st3 =>
            rw [qg] at h1
            exact fun r' H' cls od u' s' => h1 r' H' cls od (U4.trans u') s'
          | ok z st3 =>
            rw [qg] at h1
            cases z with
            | t ds => exact h1.elim
            | v d =>
              cases d with
              | non =>
                intro r' H' u' s' v hv
                refine ⟨rel_non hv, h1 r' H' (U4.trans u') s' _ ?_⟩
                unfold RelEv Rel
                exact ⟨y, u'.pre _ _ hget, rfl⟩
              | _ => exact h1.elim
/-! ### isinstance -/
def tnm : TyN → String
  | .int => "int" | .bool => "bool" | .str => "str" | .list => "list" | .tuple => "tuple" | .dict => "dict" | .non => "NoneType"
theorem isT_kit (t n : TyN) (h : n ≠ .non) : kitB (tnm t) (tnm n) = some (isT t n) := by
  cases t <;> cases n <;> first | (exact absurd rfl h) | decide +kernel
theorem tyD_ok {r : List Addr} {H H0 : Hp} {st : Store} {x : Ev} {v : V} {t : TyN} (S : Sim X.K X.mg r st H) (h : RelEv X.K r H0 H x v) (e : tyD x st = some t) : TyX X.K H v (.type (tnm t)) := by
  cases x with
  | t ds =>
    cases e
    obtain ⟨a, xs, rfl, _, _, h4, _⟩ := h
    exact .base (.lst h4)
  | v d =>
    cases d with
    | non => cases e; rw [rel_non h]; exact .base .non
    | bl b => cases e; rw [rel_bl h]; exact .base (.bl b)
    | int b => cases e; rw [rel_int h]; exact .base (.int b)
    | str b => cases e; rw [rel_str h]; exact .base (.str b)
    | tup ds =>
      cases e
      unfold RelEv Rel at h
      obtain ⟨a, xs, rfl, hq, _⟩ := h
      rcases hq with (hq | ⟨ob, hq⟩) | ⟨ob, its, n, h1, h2, _⟩
      · exact .base (.tup hq)
      · exact .fTuple hq
      · exact .kTuple h1 h2
    | ro ds =>
      cases e
      unfold RelEv Rel at h
      obtain ⟨a, xs, rfl, hq, _⟩ := h
      rcases hq with ⟨ob, hq⟩ | ⟨ob, its, n, h1, h2, _⟩
      · exact .base (.frz hq)
      · exact .kList h1 h2
    | ref n =>
      unfold tyD at e
      simp only at e
      unfold RelEv Rel at h
      obtain ⟨a, h1, rfl⟩ := h
      cases q : st[n]? with
      | none => rw [q] at e; cases e
      | some cc =>
        rw [q] at e
        have z := S.ok n a cc h1 q
        cases cc with
        | lst ds =>
          cases e
          obtain ⟨xs, z1, _⟩ := z
          exact .base (.lst z1)
        | ins c fs => cases e
theorem kit_any {t : TyN} : ∀ {ts : List Ty} {bb : Bool}, isiD t ts = some bb → ∃ us : List TyN, ts = us.map Ty.bi ∧ (∀ n ∈ us, n ≠ .non) ∧ PySem.W.kitAny X.K (.type (tnm t)) (us.map fun n => .type (tnm n)) = some bb
  | [], bb, h => by cases h; exact ⟨[], rfl, by simp, kitAny_nil⟩
  | y :: ys, bb, h => by
    unfold isiD at h
    split at h
    · rename_i x z e1 e2
      cases h
      obtain ⟨us, h1, h2, h3⟩ := kit_any e2
      cases y with
      | own c => cases e1
      | bi n =>
        unfold isi1 at e1
        simp only at e1
        split at e1
        · cases e1
        · rename_i hn
          cases e1
          refine ⟨n :: us, by simp [h1], ?_, ?_⟩
          · intro m hm
            rcases List.mem_cons.mp hm with rfl | hm
            · exact hn
            · exact h2 m hm
          · refine kitAny_cons (kit_ty (isT_kit t n hn)) (fun hb => ?_) (fun hb => ?_)
            · rw [hb]; exact h3
            · rw [hb]; rfl
    · cases h
theorem tyOf_bi {t : Expr} {n : TyN} (h : tyOf sc t = some (.bi n)) : ∃ x p, t = .Name x p ∧ isGl sc x = true ∧ x ∈ bNames ∧ x ≠ "__name__" ∧ bootBuiltins x = some (.type (tnm n)) := by
  unfold tyOf at h
  split at h
  · rename_i x p
    split at h
    · rename_i hg
      refine ⟨x, p, rfl, hg, ?_⟩
      repeat (split at h; (rename_i e; cases h; subst e; exact ⟨by simp [bNames], by decide +kernel, by decide +kernel⟩))
      cases h
    · cases h
  · cases h
theorem pe_ty (G : Good P go k X sc W) {t : Expr} {n : TyN} (h : tyOf sc t = some (.bi n)) : PE X t (tC (.ty (tnm n))) := by
  obtain ⟨x, p, rfl, hg, hb, hn, hv⟩ := tyOf_bi h
  obtain ⟨g1, g2⟩ := isGl_of hg
  exact pe_bltn (G.gl g1) (G.tab.bi x hb) hv rfl hn g2
theorem ty_nostar {t : Expr} {n : TyN} (h : tyOf sc t = some (.bi n)) : isStar t = false := by
  obtain ⟨x, p, rfl, _⟩ := tyOf_bi h
  rfl
theorem pa_tys (G : Good P go k X sc W) : ∀ {ts : List Expr} {us : List TyN}, ts.mapM (tyOf sc) = some (us.map Ty.bi) → PA X ts (fun _ H Q => Q (us.map fun n => .ty (tnm n)) H) ∧ ts.length = us.length
  | [], us, h => by
    cases us with
    | nil => exact ⟨pa_nil, rfl⟩
    | cons u us => simp at h
  | t :: ts, us, h => by
    rw [List.mapM_cons] at h
    cases e1 : tyOf sc t with
    | none => rw [e1] at h; cases h
    | some y =>
      cases e2 : ts.mapM (tyOf sc) with
      | none => rw [e1, e2] at h; cases h
      | some ys =>
        rw [e1, e2] at h
        have h' : y :: ys = us.map Ty.bi := Option.some.inj h
        cases us with
        | nil => cases h'
        | cons u us =>
          simp only [List.map_cons, List.cons.injEq] at h'
          obtain ⟨rfl, rfl⟩ := h'
          obtain ⟨h3, h4⟩ := pa_tys G e2
          exact ⟨pa_cons (pe_ty G e1) h3 (star_cons (ty_nostar e1)), by simp [h4]⟩
theorem vals_tys : ∀ us : List TyN, Paired ClsV (us.map fun n => V.ty (tnm n)) (us.map fun n => Value.type (tnm n))
  | [] => .nil
  | u :: us => .cons (.ty _) (vals_tys us)
theorem isi_stuck {ts : List Ty} (h : ∀ t, isiD t ts = none) {σ : L2.St} {H : Hp} {Q : VK} {one : Bool} : RE P go X W (.isi a' ts one) σ H Q → RE P go X W a' σ H fun _ _ => False := fun ⟨r, env, st, he, S, z⟩ => by
  unfold evE at z
  refine rd_of he S z.bind fun x st1 r1 H1 v u1 S1 hx h1 => ?_
  split at h1
  · rw [h] at h1; exact h1
  · exact h1
theorem isi_fst {t : TyN} {y : Ty} {ys : List Ty} {bb : Bool} (h : isiD t (y :: ys) = some bb) : ∃ n, y = .bi n := by
  unfold isiD at h
  cases y with
  | bi n => exact ⟨n, rfl⟩
  | own c => simp [isi1] at h
theorem s_isi1 (G : Good P go k X sc W) {t : Expr} {n : TyN} (hg : Gl X "isinstance") (ht : tyOf sc t = some (.bi n)) (hs : isStar a = false) (ha : PE X a (RE P go X W a')) : PE X (.Call (.Name "isinstance" p) [a, t] [] pos) (RE P go X W (.isi a' [.bi n] true)) := by
  refine (pe_callB call_isi hg (G.tab.bi _ (by simp [bNames])) (by decide +kernel) (pa_cons ha (pa_cons (pe_ty G ht) pa_nil (star_cons (ty_nostar ht))) (star_cons hs)) (by decide +kernel) (by decide +kernel) (star_cons hs) (star_any (by simp [ty_nostar ht]))).weak ?_
  rintro σ H Q ⟨r, env, st, he, S, h⟩
  unfold evE at h
  refine rd_of he S h.bind fun x st1 r1 H1 v u1 S1 hx h1 => ?_
  split at h1
  · rename_i ty e1
    obtain ⟨bb, e2, q⟩ := post_bV h1 S1
    obtain ⟨us, h2, h3, h4⟩ := kit_any (X := X) e2
    cases us with
    | nil => cases h2
    | cons u us =>
      simp only [List.map_cons, List.cons.injEq, Ty.bi.injEq] at h2
      obtain ⟨rfl, h5⟩ := h2
      have : us = [] := by cases us with | nil => rfl | cons _ _ => cases h5
      subst this
      have hu : n ≠ .non := h3 n (by simp)
      have e3 : bb = isT ty n := by
        unfold isiD isi1 isiD at e2
        simp [hu] at e2
        exact e2.symm
      refine ⟨v, _, _, _, isT ty n, rfl, .ty _, tyD_ok S1 hx e1, kit_ty (isT_kit ty n hu), ?_⟩
      rw [← e3]
      exact q _ rel_bl'
  · exact h1.elim
theorem s_isiN (G : Good P go k X sc W) {ts : List Expr} {us : List TyN} {x1 : Nat} {p2 : Pos} (hg : Gl X "isinstance") (ht : ts.mapM (tyOf sc) = some (us.map Ty.bi)) (hs : isStar a = false) (ha : PE X a (RE P go X W a')) (hl : ts.length < 100) :
    PE X (.Call (.Name "isinstance" p) [a, .Tuple ts x1 p2] [] pos) (RE P go X W (.isi a' (us.map Ty.bi) false)) := by
  obtain ⟨pt, hlen⟩ := pa_tys G ht
  refine (pe_callB call_isiT hg (G.tab.bi _ (by simp [bNames])) (by decide +kernel) (pa_cons ha (pa_cons (pe_tup pt) pa_nil (star_cons rfl)) (star_cons hs)) (by decide +kernel) (by decide +kernel) (star_cons hs) (star_any rfl)).weak ?_
  rintro σ H Q ⟨r, env, st, he, S, h⟩
  unfold evE at h
  refine rd_of he S h.bind fun x st1 r1 H1 v u1 S1 hx h1 => ?_
  refine ⟨by rw [List.length_map, ← hlen, sizeLine_eq]; omega, fun tp htp => ?_⟩
  split at h1
  · rename_i ty e1
    obtain ⟨bb, e2, q⟩ := post_bV (h1.up (Up.new (o := .tup (us.map fun n => .ty (tnm n))) htp)) (S1.new htp)
    obtain ⟨us', h2, h3, h4⟩ := kit_any (X := X) e2
    have e4 : us' = us := by
      have := congrArg (List.map fun (y : Ty) => match y with | .bi n => n | .own _ => TyN.non) h2
      simpa [List.map_map, Function.comp_def] using this.symm
    subst e4
    refine ⟨v, tp, _, _, _, bb, rfl, upd_same, vals_tys _, tyD_ok (S1.new htp) (hx.up (Up.new htp)) e1, h4, ?_⟩
    exact q _ rel_bl'
  · exact h1.elim
/-! ### append -/
theorem s_append (ho : PE X o (RE P go X W o')) (hs : es.any isStar = false) (ha : PA X es (RA P go X W es')) (h0 : es ≠ []) (hr : recvOk o = true) (hl : es.length < 20) (hp : (apos.endLine == pos.line) = true) : PE X (.Call (.Attribute o "append" apos) es [] pos) (RE P go X W (.bm .append o' es')) := by
  cases es with
  | nil => exact absurd rfl h0
  | cons e es =>
    have h1 : isStar e = false ∧ es.any isStar = false := by simpa using hs
    refine (pe_bm PySem.F.plainAttrs_list PySem.F.slot_list_append PySem.F.type_list_append mt_append ho ha (base_ok hr) (few_ok hs hl) hp (star_cons h1.1) (star_any h1.2)).weak ?_
    rintro σ H Q ⟨r, env, st, he, S, h⟩
    unfold evE at h
    refine rd_of he S (PostR.bind0 h) fun x st1 r1 H1 v u1 S1 hx h1 => ?_
    split at h1
    · rename_i hrc
      cases x with
      | t _ => cases hrc
      | v d =>
        cases d with
        | ref n =>
          unfold bmRecv at hrc
          simp only at hrc
          cases q : st1[n]? with
          | none => rw [q] at hrc; cases hrc
          | some cc =>
            rw [q] at hrc
            cases cc with
            | ins _ _ => cases hrc
            | lst ds =>
              unfold RelEv Rel at hx
              obtain ⟨l, hl, rfl⟩ := hx
              obtain ⟨xs, z1, z2⟩ := S1.ok n l _ hl q
              refine ⟨.inl ⟨rfl, xs, .inl (.inl z1)⟩, ?_⟩
              refine rda_of (he.up u1) S1 (PostR.bind0 (h1.up u1)) fun ys st2 r2 H2 vs u2 S2 hy e2 h2 => ?_
              cases ys with
              | nil => exact h2.elim
              | cons y ys =>
                cases ys with
                | cons _ _ => exact h2.elim
                | nil =>
                  obtain ⟨w, rfl, hw⟩ := one_of hy
                  have h2' : PostR X.K X.mg r1 H1 (bAppend n y st2) (OkE X.K H Q) (Wat W σ) := h2
                  obtain ⟨r3, U3, E3, S3, R3, _⟩ := mat_ok u2 S2 hw
                  unfold bAppend at h2'
                  split at h2'
                  · rename_i es q3
                    split at h2'
                    · rename_i hlim
                      have hl3 : r3[n]? = some l := U3.pre n l hl
                      obtain ⟨zs, y1, y2⟩ := S3.ok n l _ hl3 q3
                      have hlen := y2.length
                      refine ⟨l, zs, w, rfl, rfl, y1, by rw [← hlen, sizeLine_eq]; unfold lim at hlim; omega, ?_⟩
                      obtain ⟨S4, U4⟩ := S3.write (o' := .lst (zs ++ [w])) (c' := .lst (es ++ [(mat y st2).1])) hl3 q3 y1 (fun f => f) fun t => ⟨_, upd_same, (RelL.mono (Ext.refl r3) t y2).append (relL_cons (Rel.mono (Ext.refl r3) t R3) relL_nil)⟩
                      exact h2' r3 _ (U3.trans U4) S4 _ rel_non'
                    · exact h2'.elim
                  · exact h2'.elim
        | _ => cases hrc
    · exact h1.elim
end
end SI

set_option maxHeartbeats 2000000
/-! SI 11: targets, what is walked, comprehensions, tests. -/
namespace SI
open PySem L2 PySem.Spec PyProof.Rows
section
variable {P : Prog} {go : Go} {k : Nat} {X : Cx} {sc : Scope} {W : WX} {a b c e o : Expr} {a' b' c' e' o' : E} {es : List Expr} {es' : Es} {pos p apos : Pos}
/-! ### targets -/
def gNs : List Nat → TGs
  | [] => gNil
  | i :: is => gCons (gName i) (gNs is)
def gT (K : Frag) (g : List Nat) (one : Bool) : TG := match one, g with
  | true, [i] => gName i
  | _, is => gTup K is.length (gNs is)
theorem pg_slot (G : Good P go k X sc W) {x : Str} {i : Nat} (h : slotOf X.N sc x = some i) : PG X (.Name x p) (gName i) := by
  obtain ⟨h1, h2⟩ := slot_of h
  refine pg_name G.nd h1 (G.loc h2) ?_
  rcases h2 with h2 | h2
  · rcases G.scr x _ h2 with q | ⟨q, _⟩
    · exact .inr q
    · cases q
  · exact .inl (G.fnc x h2)
def nameSlot (N : List Str) (sc : Scope) (t : Expr) : Option Nat := match t with
  | .Name x _ => slotOf N sc x
  | _ => none
theorem pgs_slots (G : Good P go k X sc W) : ∀ {ts : List Expr} {is : List Nat}, ts.mapM (nameSlot X.N sc) = some is → PGs X ts (gNs is) ∧ (assignEach ts X.env).length = is.length ∧ (assignEach ts X.env).findIdx? (·.1) = none
  | [], is, h => by cases h; exact ⟨pgs_nil, rfl, rfl⟩
  | t :: ts, is, h => by
    rw [List.mapM_cons] at h
    cases e1 : nameSlot X.N sc t with
    | none => rw [e1] at h; cases h
    | some i =>
      cases e2 : ts.mapM (nameSlot X.N sc) with
      | none => rw [e1, e2] at h; cases h
      | some js =>
        rw [e1, e2] at h
        cases h
        obtain ⟨h1, h2, h3⟩ := pgs_slots G e2
        cases t with
        | Name x q =>
          refine ⟨pgs_cons (pg_slot G e1) h1, ?_, ?_⟩
          · show (assignEach ts X.env).length + 1 = js.length + 1
            rw [h2]
          · show List.findIdx? (·.1) ((false, assign (.Name x q) X.env) :: assignEach ts X.env) = none
            simp [List.findIdx?_cons, h3]
        | _ => cases e1
theorem pg_tg (G : Good P go k X sc W) {t : Expr} {g : List Nat} {one : Bool} (h : tgOf X.N sc t = some (g, one)) : PG X t (gT X.K g one) := by
  cases t with
  | Name x q =>
    have h' : (slotOf X.N sc x).map (fun i => ([i], true)) = some (g, one) := h
    cases e : slotOf X.N sc x with
    | none => rw [e] at h'; cases h'
    | some i =>
      rw [e] at h'
      cases h'
      exact pg_slot G e
  | Tuple ts kk q =>
    have h' : (ts.mapM (nameSlot X.N sc)).map (fun is => (is, false)) = some (g, one) := h
    cases e : ts.mapM (nameSlot X.N sc) with
    | none => rw [e] at h'; cases h'
    | some is =>
      rw [e] at h'
      cases h'
      obtain ⟨h1, h2, h3⟩ := pgs_slots G e
      exact pg_tup G.calm h1 h2 h3
  | _ => cases h
theorem setAll_ok {K : Frag} {r : List Addr} {H : Hp} {Q : L2.St → Hp → Prop} : ∀ {is : List Nat} {ds : List D} {xs : List V} {env env' : Env} {σ : L2.St}, setAll is ds env = some env' → RelL K r H ds xs → EnvR K r H env σ → (∀ σ', EnvR K r H env' σ' → Q σ' H) → gNs is xs σ H Q
  | [], ds, xs, env, env', σ, h, hr, he, q => by
    cases ds with
    | nil => cases h; exact ⟨hr.unnil, q σ he⟩
    | cons _ _ => cases h
  | i :: is, ds, xs, env, env', σ, h, hr, he, q => by
    cases ds with
    | nil => cases h
    | cons d ds =>
      obtain ⟨v, vs, rfl, h1, h2⟩ := hr.uncons
      exact ⟨v, vs, rfl, setAll_ok (show setAll is ds (env.set i (some d)) = some env' from h) h2 (he.set i h1) q⟩
theorem setAll_len : ∀ {is : List Nat} {ds : List D} {env env' : Env}, setAll is ds env = some env' → is.length = ds.length
  | [], [], _, _, _ => rfl
  | [], _ :: _, _, _, h => by cases h
  | _ :: _, [], _, _, h => by cases h
  | i :: is, d :: ds, env, env', h => by simp [setAll_len (show setAll is ds (env.set i (some d)) = some env' from h)]
theorem bindG_ok {K : Frag} {r : List Addr} {H : Hp} {Q : L2.St → Hp → Prop} {g : List Nat} {one : Bool} {d : D} {v : V} {env env' : Env} {σ : L2.St} (h : bindG g one d env = some env') (hd : Rel K r H d v) (he : EnvR K r H env σ) (q : ∀ σ', EnvR K r H env' σ' → Q σ' H) : gT K g one v σ H Q := by
  cases one with
  | true =>
    cases g with
    | nil => cases d <;> cases h
    | cons i is =>
      cases is with
      | nil => cases d <;> (cases h; exact q _ (he.set i hd))
      | cons _ _ => cases d <;> cases h
  | false =>
    cases d with
    | tup ds =>
      have h' : setAll g ds env = some env' := by
        cases g with
        | nil => exact h
        | cons i is => cases is <;> exact h
      unfold Rel at hd
      obtain ⟨pa, xs, rfl, h1, h2⟩ := hd
      have go' : gTup K g.length (gNs g) (.ref pa) σ H Q := ⟨pa, xs, rfl, h1, by rw [← h2.length, setAll_len h'], setAll_ok h' h2 he q⟩
      cases g with
      | nil => exact go'
      | cons i is => cases is <;> exact go'
    | _ => cases g with
      | nil => cases h
      | cons i is => cases is <;> cases h
/-! ### what is walked -/
/-- a list or a tuple -/
def iSeq (K : Frag) (tl : TE) : TI := fun σ H R => tl σ H fun x H1 => ∃ a, x = .ref a ∧ ((∃ xs, SqL K H1 a xs ∧ R (Itl K a) H1) ∨ ∃ xs, SqT K H1 a xs ∧ R (Itt K a) H1)
theorem pi_seq {tg l : Expr} {tl : TE} (hl : PE X l tl) : PI X tg l (iSeq X.K tl) := by
  constructor
  intro pins s σ H R I h
  refine thn (hl.run pins s σ H _ I h) ?_
  rintro v s1 ⟨x, H1, I1, r1, pa, rfl, q⟩
  have hv : v = Value.ref pa := r1
  subst hv
  have fin : ∀ (o : Obj), I1 = I1 → ∀ b ∈ [s1.heap.objs.size], FpOk X pins H1 b := fun o _ b hb => by
    rw [List.mem_singleton.mp hb]
    exact I1.fpOk (Nat.le_refl _) (I1.hok.fresh (Nat.le_refl _))
  rcases q with ⟨xs, hq, q⟩ | ⟨xs, hq, q⟩
  · obtain ⟨its, _, pl, _⟩ := I1.list hq
    refine wpAny_pyIter_list pl.isList ⟨s1.heap.objs.size, [s1.heap.objs.size], _, _, H1, rfl, I1.kept (t' := s1.toks) (fun b o e => Heap.get?_push_of_some _ e), turn_list pa _, ⟨_, Heap.get?_push_size _ rfl, rfl, rfl⟩, fin default rfl, q⟩
  · obtain ⟨its, _, pl, _⟩ := I1.tuple hq
    refine wpAny_pyIter_tuple (show s1.heap.IsTuple pa its.toArray from pl) ⟨s1.heap.objs.size, [s1.heap.objs.size], _, _, H1, rfl, I1.kept (t' := s1.toks) (fun b o e => Heap.get?_push_of_some _ e), turn_tuple pa _, ⟨_, Heap.get?_push_size _ rfl, rfl, rfl⟩, fin default rfl, q⟩
/-- the walk yields what the interpreter reads -/
def CurOk (K : Frag) (mg : Str → Option Value) (r1 : List Addr) (H1 : Hp) (cur : Cur) (J : It) : Prop := ∀ r st H, Up r1 H1 r H → Sim K mg r st H → ∀ ds, cur st = some ds →
  (∀ (i : Nat) d, ds[i]? = some d → J.go i H ∧ ∀ x H2, J.yld i H x H2 → H2 = H ∧ Rel K r H d x) ∧ ∀ i, ds.length ≤ i → J.stop i H
theorem itl_ok {K : Frag} {a : Addr} {r : List Addr} {H : Hp} {ds : List D} {xs : List V} (h : SqL K H a xs) (hr : RelL K r H ds xs) : (∀ (i : Nat) d, ds[i]? = some d → (Itl K a).go i H ∧ ∀ x H2, (Itl K a).yld i H x H2 → H2 = H ∧ Rel K r H d x) ∧ ∀ i, ds.length ≤ i → (Itl K a).stop i H := by
  refine ⟨fun i d e => ?_, fun i hi => ⟨xs, h, by rw [← hr.length]; exact hi⟩⟩
  obtain ⟨v, h1, h2⟩ := hr.get e
  refine ⟨⟨xs, v, h, h1⟩, fun x H2 hy => ?_⟩
  obtain ⟨e1, e2⟩ := hy
  have := e2 xs h
  rw [h1] at this
  cases this
  exact ⟨e1, h2⟩
theorem itt_ok {K : Frag} {a : Addr} {r : List Addr} {H : Hp} {ds : List D} {xs : List V} (h : SqT K H a xs) (hr : RelL K r H ds xs) : (∀ (i : Nat) d, ds[i]? = some d → (Itt K a).go i H ∧ ∀ x H2, (Itt K a).yld i H x H2 → H2 = H ∧ Rel K r H d x) ∧ ∀ i, ds.length ≤ i → (Itt K a).stop i H := by
  refine ⟨fun i d e => ?_, fun i hi => ⟨xs, h, by rw [← hr.length]; exact hi⟩⟩
  obtain ⟨v, h1, h2⟩ := hr.get e
  refine ⟨⟨xs, v, h, h1⟩, fun x H2 hy => ?_⟩
  obtain ⟨e1, e2⟩ := hy
  have := e2 xs h
  rw [h1] at this
  cases this
  exact ⟨e1, h2⟩
theorem sqF_up {K : Frag} {r r' : List Addr} {H H' : Hp} {a : Addr} {xs : List V} (u : Up r H r' H') (h : SqF K H a xs) : SqF K H' a xs := u.sqT.f a xs h
/-- the walk of a value -/
theorem cur_seq {r : List Addr} {st : Store} {H0 H : Hp} {x : Ev} {v : V} {cur : Cur} (S : Sim X.K X.mg r st H) (hx : RelEv X.K r H0 H x v) (h : curOf x st = some cur) :
    ∃ a, v = .ref a ∧ ((∃ xs, SqL X.K H a xs ∧ CurOk X.K X.mg r H cur (Itl X.K a)) ∨ ∃ xs, SqT X.K H a xs ∧ CurOk X.K X.mg r H cur (Itt X.K a)) := by
  cases x with
  | t ds =>
    cases (show some (fun _ => some ds) = some cur from h)
    obtain ⟨pa, xs, rfl, _, h3, h4, h5⟩ := hx
    refine ⟨pa, rfl, .inl ⟨xs, .inl (.inl h4), fun r' st' H' u S' es e => ?_⟩⟩
    cases e
    exact itl_ok (.inl (.inl (u.keep _ _ h4 (.inl h3)))) (u.relL h5)
  | v d =>
    cases d with
    | tup ds =>
      cases (show some (fun _ => some ds) = some cur from h)
      unfold RelEv Rel at hx
      obtain ⟨pa, xs, rfl, h1, h2⟩ := hx
      refine ⟨pa, rfl, .inr ⟨xs, h1, fun r' st' H' u S' es e => ?_⟩⟩
      cases e
      exact itt_ok (u.sqT.t _ _ h1) (u.relL h2)
    | ro ds =>
      cases (show some (fun _ => some ds) = some cur from h)
      unfold RelEv Rel at hx
      obtain ⟨pa, xs, rfl, h1, h2⟩ := hx
      refine ⟨pa, rfl, .inl ⟨xs, h1.sq, fun r' st' H' u S' es e => ?_⟩⟩
      cases e
      exact itl_ok (sqF_up u h1).sq (u.relL h2)
    | ref n =>
      unfold curOf at h
      simp only at h
      cases q : st[n]? with
      | none => rw [q] at h; cases h
      | some cc =>
        rw [q] at h
        cases cc with
        | ins _ _ => cases h
        | lst ds =>
          cases h
          unfold RelEv Rel at hx
          obtain ⟨pa, h1, rfl⟩ := hx
          obtain ⟨xs, z1, z2⟩ := S.ok n pa _ h1 q
          refine ⟨pa, rfl, .inl ⟨xs, .inl (.inl z1), fun r' st' H' u S' es e => ?_⟩⟩
          obtain ⟨pb, ys, e1, e2, e3⟩ := lstE_ok (H0 := H') (x := .v (.ref n)) (v := .ref pa) S' (by unfold RelEv Rel; exact ⟨pa, u.pre _ _ h1, rfl⟩) (show lstE st' (.v (.ref n)) = some es from e)
          cases e1
          exact itl_ok e2 e3
    | _ => cases h
theorem cur_rng {lo hi : Int} {r : List Addr} {H : Hp} : CurOk X.K X.mg r H (fun _ => some (rngL lo hi)) (Itr lo (hi - lo).toNat) := fun r' st' H' u S' es e => by
  cases e
  have hl : (rngL lo hi).length = (hi - lo).toNat := by simp [rngL]
  refine ⟨fun i d h => ?_, fun i h => by show (hi - lo).toNat ≤ i; omega⟩
  have hi' : i < (hi - lo).toNat := by rw [← hl]; exact (List.getElem?_eq_some_iff.mp h).1
  refine ⟨hi', fun x H2 hy => ?_⟩
  obtain ⟨e1, e2⟩ := hy
  subst e2
  refine ⟨e1, ?_⟩
  unfold rngL at h
  rw [List.getElem?_map, List.getElem?_range hi'] at h
  cases h
  unfold Rel; rfl
/-- the reading of what a for or a comprehension walks -/
def rdI (P : Prog) (go : Go) (X : Cx) (W : WX) (it : Wk) : TI := fun σ H R => ∃ r env st, EnvR X.K r H env σ ∧ Sim X.K X.mg r st H ∧ PostR X.K X.mg r H (evI P go it env st) (fun cur st1 r1 H1 => ∀ J, CurOk X.K X.mg r1 H1 cur J → R J H1) (Wat W σ)
theorem _root_.L2.PI.weak {X : Cx} {tg e : Expr} {t t' : TI} (h : PI X tg e t) (w : ∀ σ H Q, t' σ H Q → t σ H Q) : PI X tg e t' := ⟨fun pins s σ H Q I q => h.run pins s σ H Q I (w σ H Q q)⟩
theorem s_iter {tg : Expr} (ha : PE X a (RE P go X W a')) : PI X tg a (rdI P go X W (.seq a')) := (pi_seq ha).weak fun σ H R ⟨r, env, st, he, S, h⟩ => by
  unfold evI at h
  refine rd_of he S h.bind fun x st1 r1 H1 v u1 S1 hx h1 => ?_
  split at h1
  · rename_i cur e1
    obtain ⟨pa, rfl, q⟩ := cur_seq S1 hx e1
    have h2 := post_ok h1 S1
    refine ⟨pa, rfl, ?_⟩
    rcases q with ⟨xs, q1, q2⟩ | ⟨xs, q1, q2⟩
    · exact .inl ⟨xs, q1, h2 _ q2⟩
    · exact .inr ⟨xs, q1, h2 _ q2⟩
  · exact h1.elim
theorem rngOk_of {i : Int} (h : rngOk i = true) : -(2 ^ 62) ≤ i ∧ i < 2 ^ 62 := by
  unfold rngOk at h
  simpa using h
theorem s_rng1 (G : Good P go k X sc W) {tg : Expr} (hg : Gl X "range") (hs : isStar a = false) (ha : PE X a (RE P go X W a')) : PI X tg (.Call (.Name "range" p) [a] [] pos) (rdI P go X W (.rng (.cons a' .nil))) :=
  (pi_range1 hg (G.tab.bi _ (by simp [bNames])) (s_cons hs ha s_nil) (star_cons hs)).weak fun σ H R ⟨r, env, st, he, S, h⟩ => by
  unfold evI at h
  refine rda_of he S h.bind fun xs st1 r1 H1 vs u1 S1 hx e1 h1 => ?_
  have el := evEs_len e1
  match xs, el, hx, h1 with
  | [x], _, hx, h1 =>
    obtain ⟨v, rfl, hv⟩ := one_of hx
    cases x with
    | t _ => exact h1.elim
    | v d =>
      cases d with
      | int j =>
        have h1' : PostR X.K X.mg r1 H1 (match (if rngOk j then some fun _ => some (rngL 0 j) else none : Option Cur) with | some cur => .ok cur st1 | none => .stuck) _ _ := h1
        split at h1'
        · rename_i cur e2
          split at e2
          · rename_i hj
            cases e2
            obtain ⟨z1, z2⟩ := rngOk_of hj
            rw [rel_int hv]
            refine ⟨j, rfl, z1, z2, post_ok h1' S1 _ ?_⟩
            have := cur_rng (X := X) (lo := 0) (hi := j) (r := r1) (H := H1)
            simpa using this
          · cases e2
        · exact h1'.elim
      | _ => exact h1.elim
theorem s_rng2 (G : Good P go k X sc W) {tg : Expr} (hg : Gl X "range") (hs : isStar a = false) (hs2 : isStar b = false) (ha : PE X a (RE P go X W a')) (hb : PE X b (RE P go X W b')) : PI X tg (.Call (.Name "range" p) [a, b] [] pos) (rdI P go X W (.rng (.cons a' (.cons b' .nil)))) :=
  (pi_range2 hg (G.tab.bi _ (by simp [bNames])) (s_cons hs ha (s_cons hs2 hb s_nil)) ((star_cons hs).trans (by rw [star_cons hs2]; rfl)) ((star_cons hs2).trans rfl)).weak fun σ H R ⟨r, env, st, he, S, h⟩ => by
  unfold evI at h
  refine rda_of he S h.bind fun xs st1 r1 H1 vs u1 S1 hx e1 h1 => ?_
  have el := evEs_len e1
  match xs, el, hx, h1 with
  | [x, y], _, hx, h1 =>
    obtain ⟨v, w, rfl, hv, hw⟩ := two_of hx
    cases x with
    | t _ => exact h1.elim
    | v d =>
      cases y with
      | t _ => cases d <;> exact h1.elim
      | v d2 =>
        cases d with
        | int i =>
          cases d2 with
          | int j =>
            have h1' : PostR X.K X.mg r1 H1 (match (if rngOk i && rngOk j then some fun _ => some (rngL i j) else none : Option Cur) with | some cur => .ok cur st1 | none => .stuck) _ _ := h1
            split at h1'
            · rename_i cur e2
              split at e2
              · rename_i hj
                cases e2
                obtain ⟨hi, hj⟩ := Bool.and_eq_true_iff.mp hj
                obtain ⟨z1, z2⟩ := rngOk_of hi
                obtain ⟨z3, z4⟩ := rngOk_of hj
                rw [rel_int hv, rel_int hw]
                exact ⟨i, j, rfl, ⟨z1, z2, z3, z4⟩, post_ok h1' S1 _ cur_rng⟩
              · cases e2
            · exact h1'.elim
          | _ => exact h1.elim
        | _ => cases d2 <;> exact h1.elim
theorem _root_.L2.PI.never {X : Cx} {tg e : Expr} {t : TI} (w : ∀ σ H Q, ¬ t σ H Q) : PI X tg e t := ⟨fun pins s σ H Q I q => (w σ H Q q).elim⟩
theorem cur_rngC {lo c : Int} {n : Nat} {r : List Addr} {H : Hp} : CurOk X.K X.mg r H (fun _ => some (rngC lo c n)) (Itc lo c n) := fun r' st' H' u S' es e => by
  cases e
  have hl : (rngC lo c n).length = n := by simp [rngC]
  refine ⟨fun i d h => ?_, fun i h => by show n ≤ i; omega⟩
  have hi' : i < n := by rw [← hl]; exact (List.getElem?_eq_some_iff.mp h).1
  refine ⟨hi', fun x H2 hy => ?_⟩
  obtain ⟨e1, e2⟩ := hy
  subst e2
  refine ⟨e1, ?_⟩
  unfold rngC at h
  rw [List.getElem?_map, List.getElem?_range hi'] at h
  cases h
  unfold Rel; rfl
theorem s_rng3 (G : Good P go k X sc W) {tg : Expr} (hg : Gl X "range") (hs : isStar a = false) (hs2 : isStar b = false) (hs3 : isStar c = false) (ha : PE X a (RE P go X W a')) (hb : PE X b (RE P go X W b')) (hc : PE X c (RE P go X W c')) : PI X tg (.Call (.Name "range" p) [a, b, c] [] pos) (rdI P go X W (.rng (.cons a' (.cons b' (.cons c' .nil))))) :=
  (pi_range3 hg (G.tab.bi _ (by simp [bNames])) (s_cons hs ha (s_cons hs2 hb (s_cons hs3 hc s_nil))) (star_cons hs) (by
    rw [star_cons hs2, star_cons hs3]; rfl)).weak fun σ H R ⟨r, env, st, he, S, h⟩ => by
  unfold evI at h
  refine rda_of he S h.bind fun xs st1 r1 H1 vs u1 S1 hx e1 h1 => ?_
  have el := evEs_len e1
  match xs, el, hx, h1 with
  | [x, y, z], _, hx, h1 =>
    obtain ⟨v, us, rfl, hv, _, hx⟩ := hx
    obtain ⟨w, q, rfl, hw, hq⟩ := two_of hx
    cases x with
    | t _ => exact h1.elim
    | v d =>
      cases y with
      | t _ => cases d <;> exact h1.elim
      | v d2 =>
        cases z with
        | t _ => cases d <;> cases d2 <;> exact h1.elim
        | v d3 =>
          cases d with
          | int i =>
            cases d2 with
            | int j =>
              cases d3 with
              | int c =>
                have h1' : PostR X.K X.mg r1 H1 (match (if rgcOk i j c then some fun _ => some (rngC i c (Builtin.Range.rangeSize i j c).toNat) else none : Option Cur) with | some cur => .ok cur st1 | none => .stuck) _ _ := h1
                split at h1'
                · rename_i cur e2
                  split at e2
                  · rename_i hj
                    cases e2
                    unfold rgcOk at hj
                    simp only [Bool.and_eq_true, decide_eq_true_eq] at hj
                    obtain ⟨c0, c1, c2, c3⟩ := hj
                    rw [rel_int hv, rel_int hw, rel_int hq]
                    exact ⟨i, j, c, _, rfl, ⟨c0, c1, c2, by omega⟩, post_ok h1' S1 _ cur_rngC⟩
                  · cases e2
                · exact h1'.elim
              | _ => exact h1.elim
            | _ => cases d3 <;> exact h1.elim
          | _ => cases d2 <;> cases d3 <;> exact h1.elim
end
end SI

set_option maxHeartbeats 2000000
/-! SI 12: comprehensions, tests, all expressions. -/
namespace SI
open PySem L2 PySem.Spec PyProof.Rows
section
variable {P : Prog} {go : Go} {k : Nat} {X : Cx} {sc : Scope} {W : WX} {a b c e o : Expr} {a' b' c' e' o' : E} {es : List Expr} {es' : Es} {pos p apos : Pos}
theorem wipe_get : ∀ (vs : List Nat) (σ : L2.St) (j : Nat), (wipe σ vs)[j]? = if j ∈ vs then (if j < σ.length then some none else none) else σ[j]?
  | [], σ, j => by simp [wipe]
  | v :: vs, σ, j => by
    unfold wipe
    rw [List.getElem?_set]
    by_cases h : v = j
    · subst h
      simp [wipe_length]
    · have h2 : ¬ j = v := fun q => h q.symm
      rw [if_neg h, wipe_get vs σ j]
      simp [h2]
theorem wipe_set {vs : List Nat} {σ : L2.St} {i : Nat} {x : Option V} (h : i ∈ vs) : wipe (σ.set i x) vs = wipe σ vs := by
  apply List.ext_getElem?
  intro j
  rw [wipe_get, wipe_get]
  by_cases hj : j ∈ vs
  · simp [hj]
  · have : i ≠ j := fun q => hj (q ▸ h)
    simp [hj, List.getElem?_set_ne this]
theorem wipe_wipe {vs : List Nat} {σ : L2.St} : wipe (wipe σ vs) vs = wipe σ vs := by
  apply List.ext_getElem?
  intro j
  rw [wipe_get, wipe_get]
  by_cases hj : j ∈ vs <;> simp [hj, wipe_length]
/-- a target within the own names: what it stores is wiped again; other slots stand -/
theorem gNs_wipe {K : Frag} {r : List Addr} {H : Hp} {vs : List Nat} {Q : L2.St → Hp → Prop} : ∀ {is : List Nat} {ds : List D} {xs : List V} {env env' : Env} {σ : L2.St} {g : List Nat}, (∀ i ∈ is, i ∈ vs) → setAll is ds env = some env' → RelL K r H ds xs → env.length = σ.length →
    (∀ (i : Nat) d, i ∉ is → env[i]? = some (some d) → i ∈ g → ∃ v, σ[i]? = some (some v) ∧ Rel K r H d v) →
    (∀ σ', env'.length = σ'.length → wipe σ' vs = wipe σ vs → (∀ (i : Nat) d, i ∈ g → env'[i]? = some (some d) → ∃ v, σ'[i]? = some (some v) ∧ Rel K r H d v) → Q σ' H) → gNs is xs σ H Q
  | [], ds, xs, env, env', σ, g, hi, h, hr, hl, he, q => by
    cases ds with
    | nil => cases h; exact ⟨hr.unnil, q σ hl rfl fun i d hg e => he i d (by simp) e hg⟩
    | cons _ _ => cases h
  | i :: is, ds, xs, env, env', σ, g, hi, h, hr, hl, he, q => by
    cases ds with
    | nil => cases h
    | cons d ds =>
      obtain ⟨v, vs', rfl, h1, h2⟩ := hr.uncons
      refine ⟨v, vs', rfl, ?_⟩
      refine gNs_wipe (g := g) (fun j hj => hi j (by simp [hj])) (show setAll is ds (env.set i (some d)) = some env' from h) h2 (by simp [hl]) (fun j d' hn e hg => ?_) fun σ' h3 h4 h5 => q σ' h3 (h4.trans (wipe_set (hi i (by simp)))) h5
      by_cases hij : i = j
      · subst hij
        have hlt : i < env.length := by
          have := (List.getElem?_eq_some_iff.mp e).1
          simpa using this
        rw [List.getElem?_set_self hlt] at e
        cases e
        exact ⟨v, by rw [List.getElem?_set_self (by omega)], h1⟩
      · rw [List.getElem?_set_ne hij] at e ⊢
        exact he j d' (by simp [hn, Ne.symm hij]) e hg
theorem bindG_wipe {K : Frag} {r : List Addr} {H : Hp} {vs : List Nat} {Q : L2.St → Hp → Prop} {g : List Nat} {one : Bool} {d : D} {v : V} {env env' : Env} {σ : L2.St} (hv : ∀ i, i ∈ g ↔ i ∈ vs) (h : bindG g one d env = some env') (hd : Rel K r H d v) (he : EnvR K r H env σ)
    (q : ∀ σ', wipe σ' vs = wipe σ vs → EnvR K r H env' σ' → Q σ' H) : gT K g one v (wipe σ vs) H Q := by
  have base : ∀ (i : Nat) d, i ∉ g → env[i]? = some (some d) → ∃ v, (wipe σ vs)[i]? = some (some v) ∧ Rel K r H d v := fun i d hi e => by
    obtain ⟨v, h1, h2⟩ := he.2 i d e
    refine ⟨v, ?_, h2⟩
    rw [wipe_get, if_neg (fun z => hi ((hv i).mpr z))]
    exact h1
  have fin : ∀ σ', env'.length = σ'.length → wipe σ' vs = wipe (wipe σ vs) vs → (∀ (i : Nat) d, env'[i]? = some (some d) → ∃ v, σ'[i]? = some (some v) ∧ Rel K r H d v) → Q σ' H := fun σ' h1 h2 h3 => q σ' (h2.trans wipe_wipe) ⟨h1, h3⟩
  have go' : ∀ ds xs, setAll g ds env = some env' → RelL K r H ds xs → gNs g xs (wipe σ vs) H Q := fun ds xs h1 h2 => by
    -- the other slots by what stood ahead
    have : ∀ (is : List Nat) (ds : List D) (xs : List V) (env1 : Env) (σ1 : L2.St), (∀ i ∈ is, i ∈ vs) → setAll is ds env1 = some env' → RelL K r H ds xs → env1.length = σ1.length → (∀ (i : Nat) d, i ∉ is → env1[i]? = some (some d) → ∃ v, σ1[i]? = some (some v) ∧ Rel K r H d v) → wipe σ1 vs = wipe (wipe σ vs) vs → gNs is xs σ1 H Q := by
      intro is
      induction is with
      | nil =>
        intro ds xs env1 σ1 _ h3 h4 h5 h6 h7
        cases ds with
        | nil => cases h3; exact ⟨h4.unnil, fin σ1 h5 h7 fun i d e => h6 i d (by simp) e⟩
        | cons _ _ => cases h3
      | cons i is ih =>
        intro ds xs env1 σ1 h2 h3 h4 h5 h6 h7
        cases ds with
        | nil => cases h3
        | cons d ds =>
          obtain ⟨w, ws, rfl, z1, z2⟩ := h4.uncons
          refine ⟨w, ws, rfl, ih ds ws (env1.set i (some d)) (σ1.set i (some w)) (fun j hj => h2 j (by simp [hj])) h3 z2 (by simp [h5]) (fun j d' hn e => ?_) ((wipe_set (h2 i (by simp))).trans h7)⟩
          by_cases hij : i = j
          · subst hij
            have hlt : i < env1.length := by
              have := (List.getElem?_eq_some_iff.mp e).1
              simpa using this
            rw [List.getElem?_set_self hlt] at e
            cases e
            exact ⟨w, by rw [List.getElem?_set_self (by omega)], z1⟩
          · rw [List.getElem?_set_ne hij] at e ⊢
            exact h6 j d' (by simp [hn, Ne.symm hij]) e
    exact this g ds xs env (wipe σ vs) (fun i hi => (hv i).mp hi) h1 h2 (by rw [wipe_length]; exact he.1) base rfl
  cases one with
  | true =>
    cases g with
    | nil => cases d <;> cases h
    | cons i is =>
      cases is with
      | nil =>
        have h' : env.set i (some d) = env' := by cases d <;> (cases h; rfl)
        have z := go' [d] [v] (by rw [← h']; rfl) (relL_cons hd relL_nil)
        obtain ⟨w, ws, e1, z⟩ := z
        cases e1
        exact z.2
      | cons _ _ => cases d <;> cases h
  | false =>
    cases d with
    | tup ds =>
      have h' : setAll g ds env = some env' := by
        cases g with
        | nil => exact h
        | cons i is => cases is <;> exact h
      unfold Rel at hd
      obtain ⟨pa, xs, rfl, h1, h2⟩ := hd
      have go2 : gTup K g.length (gNs g) (.ref pa) (wipe σ vs) H Q := ⟨pa, xs, rfl, h1, by rw [← h2.length, setAll_len h'], go' ds xs h' h2⟩
      cases g with
      | nil => exact go2
      | cons i is => cases is <;> exact go2
    | _ => cases g with
      | nil => cases h
      | cons i is => cases is <;> cases h
theorem Sim.offw {K : Frag} {mg : Str → Option Value} {r : List Addr} {st : Store} {H : Hp} {D : Addr} {o o' : HO} (S : Sim K mg r st H) (off : Off r D) (h : H D = some o) (nf : ¬ Fixed o) : Sim K mg r st (upd H D o') ∧ Tups K H (upd H D o') := by
  have t : Tups K H (upd H D o') := tups_of fun b u e f => by
    rw [upd_ne]; exact e
    rintro rfl
    rw [h] at e; cases e; exact nf f
  refine ⟨⟨S.len, S.inj, fun n a cc h1 h2 => ?_⟩, t⟩
  have ne : a ≠ D := fun z => off n (by rw [← z]; exact h1)
  exact (S.ok n a cc h1 h2).keep (Ext.refl r) t fun u z => by rw [upd_ne ne]; exact z
theorem Up.offw {r0 r : List Addr} {H0 H : Hp} {D : Addr} {o' : HO} (u : Up r0 H0 r H) (h0 : H0 D = none) : Up r0 H0 r (upd H D o') where
  pre := u.pre
  keep := fun a o h f => by
    rw [upd_ne (ne_of_none h h0)]
    exact u.keep a o h f
  fresh := u.fresh
  dom := fun a e => by
    by_cases hb : a = D
    · rw [hb]; exact h0
    · rw [upd_ne hb] at e; exact u.dom a e
/-- one turn of a comprehension: None where the test says no -/
def lcF (P : Prog) (go : Go) (g : List Nat) (one : Bool) (c : Option E) (e : E) (env : Env) : D → Store → R (Option D) := fun d s => match bindG g one d env with
  | none => .stuck
  | some env' => (match c with
    | none => (evE P go e env' s).bind fun x s2 => (asV x s2).bind fun d s3 => .ok (some d) s3
    | some c => (evE P go c env' s).bind fun x s1 => (match x with
      | .v (.bl b) => if b then (evE P go e env' s1).bind fun x s2 => (asV x s2).bind fun d s3 => .ok (some d) s3 else .ok none s1
      | _ => .stuck))
theorem evE_lc {g : List Nat} {one : Bool} {it : Wk} {c : Option E} {e : E} {env : Env} {st : Store} : evE P go (.lc g one it c e) env st = (evI P go it env st).bind fun cur st1 => (lcGo cur (lcF P go g one c e env) (turns cur st1) 0 [] st1).bind fun ys st2 => .ok (.t ys) st2 := by
  unfold evE lcF
  rfl
theorem evE_evT : ∀ (c : E) (env : Env) (st : Store) (b : Bool) (st' : Store), evE P go c env st = .ok (.v (.bl b)) st' → evT P go c env st = .ok b st'
  | .and a c, env, st, b, st', h => by
    unfold evE at h
    unfold evT
    obtain ⟨x, st1, h1, h⟩ := bind_ok h
    split at h
    · rename_i cc
      rw [evE_evT a env st cc st1 h1]
      cases cc with
      | true => exact evE_evT c env st1 b st' h
      | false => cases h; rfl
    · cases h
  | .or a c, env, st, b, st', h => by
    unfold evE at h
    unfold evT
    obtain ⟨x, st1, h1, h⟩ := bind_ok h
    split at h
    · rename_i cc
      rw [evE_evT a env st cc st1 h1]
      cases cc with
      | false => exact evE_evT c env st1 b st' h
      | true => cases h; rfl
    · cases h
  | .not a, env, st, b, st', h => by
    unfold evE at h
    unfold evT
    obtain ⟨x, st1, h1, h⟩ := bind_ok h
    split at h
    · rename_i cc
      rw [evE_evT a env st cc st1 h1]
      cases h; rfl
    · cases h
  | .int _, env, st, b, st', h => by unfold evT; rw [h]; rfl
  | .bl _, env, st, b, st', h => by unfold evT; rw [h]; rfl
  | .non, env, st, b, st', h => by unfold evT; rw [h]; rfl
  | .str _, env, st, b, st', h => by unfold evT; rw [h]; rfl
  | .loc _, env, st, b, st', h => by unfold evT; rw [h]; rfl
  | .glo _, env, st, b, st', h => by unfold evT; rw [h]; rfl
  | .bin _ _ _, env, st, b, st', h => by unfold evT; rw [h]; rfl
  | .neg _, env, st, b, st', h => by unfold evT; rw [h]; rfl
  | .cmp _ _ _, env, st, b, st', h => by unfold evT; rw [h]; rfl
  | .chain _ _ _ _ _, env, st, b, st', h => by unfold evT; rw [h]; rfl
  | .tup _, env, st, b, st', h => by unfold evT; rw [h]; rfl
  | .lst _, env, st, b, st', h => by unfold evT; rw [h]; rfl
  | .idx _ _, env, st, b, st', h => by unfold evT; rw [h]; rfl
  | .sl _ _ _, env, st, b, st', h => by unfold evT; rw [h]; rfl
  | .bi _ _, env, st, b, st', h => by unfold evT; rw [h]; rfl
  | .isi _ _ _, env, st, b, st', h => by unfold evT; rw [h]; rfl
  | .call _ _, env, st, b, st', h => by unfold evT; rw [h]; rfl
  | .mk _ _, env, st, b, st', h => by unfold evT; rw [h]; rfl
  | .bm _ _ _, env, st, b, st', h => by unfold evT; rw [h]; rfl
  | .meth _ _ _, env, st, b, st', h => by unfold evT; rw [h]; rfl
  | .fld _ _, env, st, b, st', h => by unfold evT; rw [h]; rfl
  | .lc _ _ _ _ _, env, st, b, st', h => by unfold evT; rw [h]; rfl
  | .bad, env, st, b, st', h => by unfold evT; rw [h]; rfl
end
end SI

set_option maxHeartbeats 2000000
/-! SI 13: comprehensions. -/
namespace SI
open PySem L2 PySem.Spec PyProof.Rows
section
variable {P : Prog} {go : Go} {k : Nat} {X : Cx} {sc : Scope} {W : WX}
def CondIs (P : Prog) (go : Go) (c : Option E) (env : Env) (s : Store) (b : Bool) (s1 : Store) : Prop := match c with
  | none => b = true ∧ s1 = s
  | some c => evT P go c env s = .ok b s1
theorem asV_bind {x : Ev} {s s' : Store} {z : Option D} (h : (asV x s).bind (fun d s3 => R.ok (some d) s3) = .ok z s') : z = some (mat x s).1 ∧ s' = (mat x s).2 := by
  unfold asV at h
  cases h
  exact ⟨rfl, rfl⟩
theorem lcF_sh {g : List Nat} {one : Bool} {c : Option E} {e : E} {env : Env} {d : D} {s s' : Store} {z : Option D} (h : lcF P go g one c e env d s = .ok z s') : ∃ env' b s1, bindG g one d env = some env' ∧ CondIs P go c env' s b s1 ∧
    ((b = true ∧ ∃ x s2, evE P go e env' s1 = .ok x s2 ∧ z = some (mat x s2).1 ∧ s' = (mat x s2).2) ∨ (b = false ∧ z = none ∧ s' = s1)) := by
  unfold lcF at h
  split at h
  · cases h
  · rename_i env' hb
    cases c with
    | none =>
      obtain ⟨x, s2, h1, h2⟩ := bind_ok h
      obtain ⟨e1, e2⟩ := asV_bind h2
      exact ⟨env', true, s, hb, ⟨rfl, rfl⟩, .inl ⟨rfl, x, s2, h1, e1, e2⟩⟩
    | some c =>
      obtain ⟨x, s1, h1, h2⟩ := bind_ok h
      split at h2
      · rename_i b
        refine ⟨env', b, s1, hb, evE_evT c env' s b s1 h1, ?_⟩
        cases b with
        | true =>
          obtain ⟨y, s2, h3, h4⟩ := bind_ok h2
          obtain ⟨e1, e2⟩ := asV_bind h4
          exact .inl ⟨rfl, y, s2, h3, e1, e2⟩
        | false => cases h2; exact .inr ⟨rfl, rfl, rfl⟩
      · cases h2
theorem lcGo_noex {cur : Cur} {f : D → Store → R (Option D)} : ∀ {m i : Nat} {acc : List D} {st : Store} {c : Str} {fs : List (Str × D)} {st' : Store}, lcGo cur f m i acc st ≠ .ex c fs st'
  | 0, i, acc, st, c, fs, st', h => by
    unfold lcGo at h
    split at h
    · split at h <;> cases h
    · cases h
  | m + 1, i, acc, st, c, fs, st', h => by
    unfold lcGo at h
    split at h
    · split at h
      · cases h
      · split at h
        · split at h
          · exact lcGo_noex h
          · cases h
        · exact lcGo_noex h
        · cases h
    · cases h
theorem post_triv {α : Type} {x : R α} {a : α} {s : Store} {K : Frag} {mg : Str → Option Value} {r : List Addr} {H : Hp} {E : XK} (h : x = .ok a s) : PostR K mg r H x (fun a' s' _ _ => a' = a ∧ s' = s) E := by
  subst h
  exact fun _ _ _ _ => ⟨rfl, rfl⟩
theorem own_is {own : List (Str × Nat)} {g : List Nat} (h : ownIs own g = true) : ∀ i, i ∈ g ↔ i ∈ own.map (·.2) := fun i => by
  unfold ownIs at h
  obtain ⟨h1, h2⟩ := Bool.and_eq_true_iff.mp h
  constructor
  · intro hi
    have := List.all_eq_true.mp h2 i hi
    obtain ⟨y, hy, e⟩ := List.any_eq_true.mp this
    exact List.mem_map.mpr ⟨y, hy, by simpa using e⟩
  · intro hi
    obtain ⟨y, hy, rfl⟩ := List.mem_map.mp hi
    have := List.all_eq_true.mp h1 y hy
    simpa using this
theorem lc_reads {vs g : List Nat} {one : Bool} {c' : Option E} {it' : Wk} {e' : E} {tt : TT} {te : TE} (hv : ∀ i, i ∈ g ↔ i ∈ vs)
    (HT : ∀ {σ2 : L2.St} {H2 : Hp} {r2 : List Addr} {st2 : Store} {env2 : Env} {b : Bool} {st3 : Store} {Qb : Bool → Hp → Prop}, EnvR X.K r2 H2 env2 σ2 → Sim X.K X.mg r2 st2 H2 → CondIs P go c' env2 st2 b st3 → (∀ r3 H3, Up r2 H2 r3 H3 → Sim X.K X.mg r3 st3 H3 → Qb b H3) → tt σ2 H2 Qb)
    (HE : ∀ σ H Q, rdE P go X.K X.mg (fun _ _ _ _ => False) e' σ H Q → te σ H Q) :
    ∀ σ H Q, RE P go X W (.lc g one it' c' e') σ H Q → tLc (rdI P go X W it') (gT X.K g one) tt te vs σ H Q := by
  rintro σ H Q ⟨r, env, st, he, S, h⟩
  rw [evE_lc] at h
  refine ⟨r, env, st, he, S, (PostR.bind0 h).mono fun cur st1 r1 H1 e1 u1 S1 h1 J hJ D hD => ?_⟩
  -- the whole run ends well
  cases ql : lcGo cur (lcF P go g one c' e' env) (turns cur st1) 0 [] st1 with
  | stuck => rw [ql] at h1; exact h1.elim
  | ex _ _ _ => exact absurd ql lcGo_noex
  | ok ys stE =>
    rw [ql] at h1
    have fin : ∀ r' H', Up r H r' H' → Sim X.K X.mg r' stE H' → OkE X.K H Q (.t ys) stE r' H' := h1
    refine ⟨fun i m H' => ∃ r' st' acc accV, Up r1 H1 r' H' ∧ Sim X.K X.mg r' st' H' ∧ Off r' D ∧ H' D = some (.lst accV) ∧ RelL X.K r' H' acc accV ∧ lcGo cur (lcF P go g one c' e' env) m i acc st' = .ok ys stE,
      ⟨turns cur st1, r1, st1, [], [], Up.new hD, S1.new hD, S1.off hD, upd_same, relL_nil, ql⟩, ?_⟩
    rintro i m H' ⟨r', st', acc, accV, u, S', off, hDl, hr, hg⟩
    have stop : ∀ ds, cur st' = some ds → ds.length ≤ i → acc = ys → st' = stE → J.stop i H' ∧ Q (.ref D) H' := fun ds ec hl ea es => by
      subst ea es
      exact ⟨(hJ r' st' H' u S' ds ec).2 i hl, fin r' H' (u1.trans u) S' _ ⟨D, accV, rfl, u1.dom D hD, off, hDl, hr⟩⟩
    cases m with
    | zero =>
      unfold lcGo at hg
      split at hg
      · rename_i ds ec
        split at hg
        · rename_i hl
          cases hg
          exact .inl (stop ds ec hl rfl rfl)
        · cases hg
      · cases hg
    | succ m =>
      unfold lcGo at hg
      split at hg
      · rename_i ds ec
        split at hg
        · rename_i en
          cases hg
          exact .inl (stop ds ec (List.getElem?_eq_none_iff.mp en) rfl rfl)
        · rename_i d ed
          obtain ⟨hgo, hy⟩ := (hJ r' st' H' u S' ds ec).1 i d ed
          refine .inr ⟨hgo, _, fun H'' w => ⟨m, Nat.lt_succ_self m, w⟩, fun x H'' hyl => ?_⟩
          obtain ⟨rfl, hd⟩ := hy x H'' hyl
          -- what the turn did
          have key : ∀ z s', lcF P go g one c' e' env d st' = .ok z s' → (∀ y, z = some y → acc.length < lim ∧ lcGo cur (lcF P go g one c' e' env) m (i + 1) (acc ++ [y]) s' = .ok ys stE) → (z = none → lcGo cur (lcF P go g one c' e' env) m (i + 1) acc s' = .ok ys stE) →
              gT X.K g one x (wipe σ vs) H'' fun σ2 H2 => wipe σ2 vs = wipe σ vs ∧ tt σ2 H2 fun b H3 =>
                if b = true then te σ2 H3 fun y H4 => ∃ acc, H4 D = some (.lst acc) ∧ acc.length < sizeLine ∧ ∃ r' st' acc2 accV, Up r1 H1 r' (upd H4 D (.lst (acc ++ [y]))) ∧ Sim X.K X.mg r' st' (upd H4 D (.lst (acc ++ [y]))) ∧ Off r' D ∧ upd H4 D (.lst (acc ++ [y])) D = some (.lst accV) ∧ RelL X.K r' (upd H4 D (.lst (acc ++ [y]))) acc2 accV ∧ lcGo cur (lcF P go g one c' e' env) m (i + 1) acc2 st' = .ok ys stE
                else ∃ r' st' acc2 accV, Up r1 H1 r' H3 ∧ Sim X.K X.mg r' st' H3 ∧ Off r' D ∧ H3 D = some (.lst accV) ∧ RelL X.K r' H3 acc2 accV ∧ lcGo cur (lcF P go g one c' e' env) m (i + 1) acc2 st' = .ok ys stE := by
            intro z s' hz hsome hnone
            obtain ⟨env', b, s1, hbg, hc, hres⟩ := lcF_sh hz
            refine bindG_wipe hv hbg hd (he.up (u1.trans u)) fun σ2 hw hE => ⟨hw, ?_⟩
            refine HT hE S' hc fun r3 H3 u3 S3 => ?_
            have hD3 : H3 D = some (.lst accV) := u3.keep _ _ hDl (.inl off)
            have off3 : Off r3 D := u3.off hDl off
            rcases hres with ⟨rfl, x2, s2, he2, rfl, rfl⟩ | ⟨rfl, rfl, rfl⟩
            · refine iteT (HE _ _ _ ?_)
              obtain ⟨hlen, hrest⟩ := hsome _ rfl
              refine rd_of (hE.up u3) S3 (post_triv he2) fun x3 s3 r4 H4 v u4 S4 hx3 hq => ?_
              obtain ⟨rfl, rfl⟩ := hq
              obtain ⟨r5, U5, E5, S5, R5, O5⟩ := mat_ok u4 S4 hx3
              have hD4 : H4 D = some (.lst accV) := u4.keep _ _ hD3 (.inl off3)
              have off5 : Off r5 D := O5 D (u4.off hD3 off3) fun ds e1 e2 => by
                subst e1
                obtain ⟨pa, zs, rfl, z2, _⟩ := hx3
                cases e2
                rw [hD3] at z2; cases z2
              obtain ⟨S6, t6⟩ := S5.offw (o' := .lst (accV ++ [v])) off5 hD4 (fun f => f)
              have hl := hr.length
              refine ⟨accV, hD4, by rw [← hl, sizeLine_eq]; unfold lim at hlen; omega, r5, _, acc ++ [(mat x3 s3).1], accV ++ [v], ((u.trans u3).trans U5).offw hD, S6, off5, upd_same, ?_, hrest⟩
              exact (RelL.mono (Ext.refl r5) t6 (U5.relL (u3.relL hr))).append (relL_cons (Rel.mono (Ext.refl r5) t6 R5) relL_nil)
            · exact iteF ⟨r3, _, acc, accV, u.trans u3, S3, off3, hD3, u3.relL hr, hnone rfl⟩
          split at hg
          · rename_i y s' hz
            split at hg
            · rename_i hlen
              exact key _ _ hz (fun y' e => by cases e; exact ⟨hlen, hg⟩) fun e => by cases e
            · cases hg
          · rename_i s' hz
            exact key _ _ hz (fun y' e => by cases e) fun _ => hg
          · cases hg
      · cases hg
theorem fold_no {it : Expr} {env : PySem.Env} (h : isSet it = false) : ∀ x, foldedSetIterable it env x = pure x := fun x => by
  cases it <;> first | rfl | (cases h)
theorem s_lcN (G : Good P go k X sc W) {cs : Scope} {tg it elt : Expr} {g : List Nat} {one : Bool} {it' : Wk} {e' : E} {pos : Pos} (hb : blkC X.N sc cs (ownOf X.N cs) = true) (ho : ownIs (ownOf X.N cs) g = true) (ht : tgOf X.N cs tg = some (g, one)) (hs : isSet it = false)
    (hi : PI X tg it (rdI P go X W it')) (hE : ∀ X' : Cx, Good P go k X' cs (fun _ _ _ _ => False) → X'.N = X.N → X'.K = X.K → X'.mg = X.mg → PE X' elt (RE P go X' (fun _ _ _ _ => False) e')) :
    PE X (.ListComp elt [⟨tg, it, [], 0⟩] cs pos) (RE P go X W (.lc g one it' none e')) := by
  refine (pe_lc G.calm G.nd hi (G.blkOk hb) (fun s H C cl fp => ?_) (fun s H C cl fp => pts_nil) (fun s H C cl fp => ?_) (fold_no hs)).weak (lc_reads (own_is ho) (fun {σ2 H2 r2 st2 env2 b st3 Qb} h1 h2 h3 h4 => ?_) fun σ H Q h => h)
  · exact pg_tg (X := X.blk s H cs (compEnvC cs cl C X.env) fp) G.blk ht
  · exact hE (X.blk s H cs (compEnvC cs cl C X.env) fp) G.blk rfl rfl rfl
  · obtain ⟨rfl, rfl⟩ := h3
    exact h4 r2 H2 (Up.refl r2 H2) h2
theorem s_lcS (G : Good P go k X sc W) {cs : Scope} {tg it elt c : Expr} {g : List Nat} {one : Bool} {it' : Wk} {e' c' : E} {pos : Pos} (hb : blkC X.N sc cs (ownOf X.N cs) = true) (ho : ownIs (ownOf X.N cs) g = true) (ht : tgOf X.N cs tg = some (g, one)) (hs : isSet it = false)
    (hi : PI X tg it (rdI P go X W it')) (hE : ∀ X' : Cx, Good P go k X' cs (fun _ _ _ _ => False) → X'.N = X.N → X'.K = X.K → X'.mg = X.mg → PE X' elt (RE P go X' (fun _ _ _ _ => False) e') ∧ PT X' c (RT P go X' (fun _ _ _ _ => False) c')) :
    PE X (.ListComp elt [⟨tg, it, [c], 0⟩] cs pos) (RE P go X W (.lc g one it' (some c') e')) := by
  refine (pe_lc (tt := RT P go X (fun _ _ _ _ => False) c') G.calm G.nd hi (G.blkOk hb) (fun s H C cl fp => ?_) (fun s H C cl fp => pts_one ?_) (fun s H C cl fp => ?_) (fold_no hs)).weak (lc_reads (own_is ho) (fun {σ2 H2 r2 st2 env2 b st3 Qb} h1 h2 h3 h4 => ?_) fun σ H Q h => h)
  · exact pg_tg (X := X.blk s H cs (compEnvC cs cl C X.env) fp) G.blk ht
  · exact (hE (X.blk s H cs (compEnvC cs cl C X.env) fp) G.blk rfl rfl rfl).2
  · exact (hE (X.blk s H cs (compEnvC cs cl C X.env) fp) G.blk rfl rfl rfl).1
  · have h3' : evT P go c' env2 st2 = .ok b st3 := h3
    exact ⟨r2, env2, st2, h1, h2, by rw [h3']; exact fun r' H' u s => h4 r' H' u s⟩
end
end SI

set_option maxHeartbeats 4000000
/-! SI 14: all expressions. -/
namespace SI
open PySem L2 PySem.Spec PyProof.Rows
section
variable {P : Prog} {go : Go} {k : Nat} {X : Cx} {sc : Scope} {W : WX} {a b c e o : Expr} {a' b' c' e' o' : E} {es : List Expr} {es' : Es} {pos p apos : Pos}
def plainE : E → Bool
  | .and _ _ => false
  | .or _ _ => false
  | .not _ => false
  | _ => true
theorem evT_plain (h : plainE a' = true) (env : Env) (st : Store) : evT P go a' env st = (evE P go a' env st).bind fun x st1 => (match truD x st1 with
    | some b => .ok b st1
    | none => .stuck) := by
  cases a' <;> first | rfl | (cases h)
theorem s_tru (ha : PE X a (RE P go X W a')) (hp : plainE a' = true) (he : ∀ whole, isTrue a X.env whole = (do let v ← whole; standAt a.pos; holding [v] (truthy v))) : PT X a (RT P go X W a') := (pt_truth ha he).weak fun σ H Q ⟨r, env, st, hE, S, h⟩ => by
  rw [evT_plain hp] at h
  refine rd_of hE S h.bind fun x st1 r1 H1 v u1 S1 hx h1 => ?_
  split at h1
  · rename_i b e
    exact ⟨b, tru_rel S1 hx e, post_ok h1 S1⟩
  · exact h1.elim
theorem t_not (ha : PT X a (RT P go X W a')) : PT X (.UnaryOp .Not a pos) (RT P go X W (.not a')) := (pt_not ha).weak fun σ H Q ⟨r, env, st, hE, S, h⟩ => by
  unfold evT at h
  exact rdt_of hE S h.bind fun x st1 r1 H1 u1 S1 h1 => post_ok h1 S1
theorem t_and {rest : List Expr} (ha : PT X a (RT P go X W a')) (hb : PW X (.BoolOp .And (b :: rest) pos) (RT P go X W b')) : PW X (.BoolOp .And (a :: b :: rest) pos) (RT P go X W (.and a' b')) := (pw_and ha hb).weak fun σ H Q ⟨r, env, st, hE, S, h⟩ => by
  unfold evT at h
  refine rdt_of hE S h.bind fun x st1 r1 H1 u1 S1 h1 => ?_
  cases x with
  | true => exact iteT ⟨r1, env, st1, hE.up u1, S1, h1⟩
  | false => exact iteF (post_ok h1 S1)
theorem t_or {rest : List Expr} (ha : PT X a (RT P go X W a')) (hb : PW X (.BoolOp .Or (b :: rest) pos) (RT P go X W b')) : PW X (.BoolOp .Or (a :: b :: rest) pos) (RT P go X W (.or a' b')) := (pw_or ha hb).weak fun σ H Q ⟨r, env, st, hE, S, h⟩ => by
  unfold evT at h
  refine rdt_of hE S h.bind fun x st1 r1 H1 u1 S1 h1 => ?_
  cases x with
  | true => exact iteT (post_ok h1 S1)
  | false => exact iteF ⟨r1, env, st1, hE.up u1, S1, h1⟩
theorem t_chain (G : Good P go k X sc W) (o1 o2 : COp) (ha : PE X a (RE P go X W a')) (hb : PE X b (RE P go X W b')) (hc : PE X c (RE P go X W c')) (hs : isSet b = false) (hs2 : isSet c = false) : PT X (.Compare a [unc o1, unc o2] [b, c] pos) (RT P go X W (.chain o1 o2 a' b' c')) := by
  obtain ⟨rr, ho, hr⟩ := cmp_ok (X := X) (mg := X.mg) G.room.units o1
  obtain ⟨rr2, ho2, hr2⟩ := cmp_ok (X := X) (mg := X.mg) G.room.units o2
  refine (pt_chain ho ho2 ha hb hc (show behindInMarks (unc o2) c = false from mark_no hs2)).weak fun σ H Q ⟨r, env, st, he, S, h⟩ => ?_
  rw [evT_plain rfl] at h
  unfold evE at h
  refine rd_of he S h.bind.bind fun x st1 r1 H1 v u1 S1 hx h1 => ?_
  refine rd_of (he.up u1) S1 h1.bind fun y st2 r2 H2 w u2 S2 hy h2 => ?_
  cases e : cmpD o1 x y st2 with
  | none => rw [e] at h2; exact h2.elim
  | some bb =>
    rw [e] at h2
    refine hr S2 (hx.up u2) hy e ⟨bb, rfl, ?_⟩
    cases bb with
    | false =>
      have h3 : PostR X.K X.mg r2 H2 (R.ok false st2) (OkT Q) (Wat W σ) := post_ok (x := bV false) (st := st2) h2 S2
      exact iteF ⟨false, rfl, post_ok h3 S2⟩
    | true =>
      refine iteT (rd_of ((he.up u1).up u2) S2 h2.bind fun z st3 r3 H3 w3 u3 S3 hz h3 => ?_)
      obtain ⟨b3, e3, q3⟩ := post_bV h3 S3
      exact hr2 S3 (hy.up u3) hz e3 ⟨b3, rfl, post_ok q3 S3⟩
/-- what is shown of each expression -/
def Snd (P : Prog) (go : Go) (X : Cx) (W : WX) (e : Expr) (e' : E) : Prop := PE X e (RE P go X W e') ∧ PT X e (RT P go X W e') ∧ ∀ op vs p, e = .BoolOp op vs p → PW X e (RT P go X W e')
theorem snd_bad (h : e' = .bad) : Snd P go X W e e' := by
  subst h
  have hT : ∀ σ H Q, ¬ RT P go X W .bad σ H Q := fun σ H Q ⟨r, env, st, _, _, h⟩ => h
  exact ⟨PE.never rd_bad, PT.never hT, fun _ _ _ _ => PW.never hT⟩
theorem snd_of (hn : ∀ op vs p, e ≠ .BoolOp op vs p) (ha : PE X e (RE P go X W e')) (hp : plainE e' = true) (he : ∀ whole, isTrue e X.env whole = (do let v ← whole; standAt e.pos; holding [v] (truthy v))) : Snd P go X W e e' :=
  ⟨ha, s_tru ha hp he, fun op vs p q => absurd q (hn op vs p)⟩
theorem any_len {es : List Expr} {n : Nat} (h : (es.any isStar || decide (n ≤ es.length)) = false) : es.any isStar = false ∧ es.length < n := by
  simp only [Bool.or_eq_false_iff, decide_eq_false_iff_not] at h
  exact ⟨h.1, by omega⟩
theorem er_nil {f : Expr → E} : es = [] → erEs f es = .nil := fun h => by subst h; rfl
theorem s_it (G : Good P go k X sc W) {f : Expr → E} (ih : ∀ e, PE X e (RE P go X W (f e))) {tg : Expr} (it : Expr) : PI X tg it (rdI P go X W (erI f sc it)) := by
  unfold erI
  split
  · rename_i x p es pos
    split
    · rename_i h
      obtain ⟨rfl, hg, hs, hl⟩ := h
      have hg' := G.gl (isGl_of hg).1
      rcases hl with hl | hl | hl
      · match es, hl, hs with
        | [a], _, hs => exact s_rng1 G hg' (by simpa using hs) (ih a)
      · match es, hl, hs with
        | [a, b], _, hs =>
          have h2 : isStar a = false ∧ isStar b = false := by simpa using hs
          exact s_rng2 G hg' h2.1 h2.2 (ih a) (ih b)
      · match es, hl, hs with
        | [a, b, c], _, hs =>
          have h2 : isStar a = false ∧ isStar b = false ∧ isStar c = false := by simpa using hs
          exact s_rng3 G hg' h2.1 h2.2.1 h2.2.2 (ih a) (ih b) (ih c)
    · exact s_iter (ih _)
  · exact s_iter (ih _)
theorem plain_mapM {ts : List Expr} {l : List Ty} (h : ts.mapM (tyOf sc) = some l) : ts.length = l.length := by
  induction ts generalizing l with
  | nil => simp at h; subst h; rfl
  | cons t ts ih =>
    rw [List.mapM_cons] at h
    cases e1 : tyOf sc t with
    | none => rw [e1] at h; cases h
    | some y =>
      cases e2 : ts.mapM (tyOf sc) with
      | none => rw [e1, e2] at h; cases h
      | some ys =>
        rw [e1, e2] at h
        cases h
        simp [ih e2]
theorem tyBi_of {t : Expr} {n : TyN} (h : tyBi sc t = some n) : tyOf sc t = some (.bi n) := by
  unfold tyBi at h
  split at h
  · rename_i e; cases h; exact e
  · cases h
theorem tyBis : ∀ {ts : List Expr} {l : List TyN}, ts.mapM (tyBi sc) = some l → ts.mapM (tyOf sc) = some (l.map Ty.bi)
  | [], l, h => by simp at h; subst h; rfl
  | t :: ts, l, h => by
    rw [List.mapM_cons] at h ⊢
    cases e1 : tyBi sc t with
    | none => rw [e1] at h; cases h
    | some y =>
      cases e2 : ts.mapM (tyBi sc) with
      | none => rw [e1, e2] at h; cases h
      | some ys =>
        rw [e1, e2] at h
        cases h
        rw [tyBi_of e1, tyBis e2]
        rfl
theorem snd_all : ∀ (f : Nat) {X : Cx} {sc : Scope} {W : WX} (G : Good P go k X sc W) (e : Expr), Snd P go X W e (erE X.N f sc e) := by
  intro f
  induction f with
  | zero => intro X sc W G e; exact snd_bad rfl
  | succ f ih =>
    intro X sc W G e
    have iE : ∀ e, PE X e (RE P go X W (erE X.N f sc e)) := fun e => (ih G e).1
    have iT : ∀ e, PT X e (RT P go X W (erE X.N f sc e)) := fun e => (ih G e).2.1
    have iA : ∀ es : List Expr, es.any isStar = false → PA X es (RA P go X W (erEs (erE X.N f sc) es)) := s_args iE
    cases e with
    | Constant cc kk p =>
      cases cc with
      | int i => exact snd_of (fun _ _ _ h => by cases h) s_int rfl (fun _ => rfl)
      | bool i => exact snd_of (fun _ _ _ h => by cases h) s_bl rfl (fun _ => rfl)
      | none => exact snd_of (fun _ _ _ h => by cases h) s_non rfl (fun _ => rfl)
      | str i => exact snd_of (fun _ _ _ h => by cases h) s_str rfl (fun _ => rfl)
      | _ => exact snd_bad rfl
    | Name x p =>
      show Snd P go X W _ (erName X.N sc x)
      unfold erName
      split
      · exact snd_bad rfl
      · rename_i hd
        have hd2 : (x == ("__debug__" : Str)) = false ∧ (x == ("__classdict__" : Str)) = false := by simpa using hd
        split
        · rename_i e1
          split
          · rename_i i e2; exact snd_of (fun _ _ _ h => by cases h) (s_loc (ix_at e2) (G.vis (.inl e1)) hd2.1 hd2.2) rfl (fun _ => rfl)
          · exact snd_bad rfl
        · rename_i e1
          split
          · rename_i i e2; exact snd_of (fun _ _ _ h => by cases h) (s_loc (ix_at e2) (G.vis (.inr (.inl e1))) hd2.1 hd2.2) rfl (fun _ => rfl)
          · exact snd_bad rfl
        · rename_i e1
          split
          · rename_i i e2; exact snd_of (fun _ _ _ h => by cases h) (s_loc (ix_at e2) (G.vis (.inr (.inr e1))) hd2.1 hd2.2) rfl (fun _ => rfl)
          · exact snd_bad rfl
        · rename_i e1
          exact snd_of (fun _ _ _ h => by cases h) (s_glo G (G.gl e1) hd2.1) rfl (fun _ => rfl)
        · exact snd_bad rfl
    | BinOp a op b p =>
      show Snd P go X W _ (erBin op (erE X.N f sc a) (erE X.N f sc b))
      unfold erBin
      split
      · rename_i oo e1
        have := bop_unb e1
        subst this
        exact snd_of (fun _ _ _ h => by cases h) (s_bin oo (iE a) (iE b)) rfl (fun _ => rfl)
      · exact snd_bad rfl
    | UnaryOp op a p =>
      cases op with
      | USub => exact snd_of (fun _ _ _ h => by cases h) (s_neg (iE a)) rfl (fun _ => rfl)
      | Not => exact ⟨s_not (iE a), t_not (iT a), fun _ _ _ h => by cases h⟩
      | _ => exact snd_bad rfl
    | BoolOp op vs p =>
      cases vs with
      | nil => cases op <;> exact snd_bad rfl
      | cons a vs =>
        cases vs with
        | nil =>
          have hw : PW X (.BoolOp op [a] p) (RT P go X W (erE X.N f sc a)) := by
            cases op with
            | And => exact pw_and1 (iT a)
            | Or => exact pw_or1 (iT a)
          have he : erE X.N (f + 1) sc (.BoolOp op [a] p) = erE X.N f sc a := by cases op <;> rfl
          rw [he]
          exact ⟨pe_one (iE a), hw.pt, fun _ _ _ h => by cases h; exact hw⟩
        | cons b vs =>
          cases op with
          | And =>
            have hw := t_and (iT a) ((ih G (.BoolOp .And (b :: vs) p)).2.2 _ _ _ rfl)
            exact ⟨s_and (iE a) (iE _), hw.pt, fun _ _ _ h => by cases h; exact hw⟩
          | Or =>
            have hw := t_or (iT a) ((ih G (.BoolOp .Or (b :: vs) p)).2.2 _ _ _ rfl)
            exact ⟨s_or (iE a) (iE _), hw.pt, fun _ _ _ h => by cases h; exact hw⟩
    | Compare a ops cs p =>
      match ops, cs with
      | [op], [b] =>
        show Snd P go X W _ (erCmp (isSet b) op (erE X.N f sc a) (erE X.N f sc b))
        unfold erCmp
        split
        · exact snd_bad rfl
        · rename_i hs
          have hs' : isSet b = false := by simpa using hs
          split
          · rename_i oo e1
            have := cop_unc e1
            subst this
            exact ⟨s_cmp G oo (iE a) (iE b) hs', s_cmpT G oo (iE a) (iE b) hs', fun _ _ _ h => by cases h⟩
          · exact snd_bad rfl
      | [op, op2], [b, c] =>
        show Snd P go X W _ (erChn (isSet b || isSet c) op op2 (erE X.N f sc a) (erE X.N f sc b) (erE X.N f sc c))
        unfold erChn
        split
        · exact snd_bad rfl
        · rename_i hs
          have hs' : isSet b = false ∧ isSet c = false := by simpa using hs
          split
          · rename_i o1 o2 e1 e2
            have := cop_unc e1
            subst this
            have := cop_unc e2
            subst this
            exact ⟨s_chain G o1 o2 (iE a) (iE b) (iE c) hs'.1 hs'.2, t_chain G o1 o2 (iE a) (iE b) (iE c) hs'.1 hs'.2, fun _ _ _ h => by cases h⟩
          · exact snd_bad rfl
      | [], _ => exact snd_bad rfl
      | [_], [] => exact snd_bad rfl
      | [_], _ :: _ :: _ => exact snd_bad rfl
      | [_, _], [] => exact snd_bad rfl
      | [_, _], [_] => exact snd_bad rfl
      | [_, _], _ :: _ :: _ :: _ => exact snd_bad rfl
      | _ :: _ :: _ :: _, _ => exact snd_bad rfl
    | Tuple es kk p =>
      show Snd P go X W _ (erTup (es.any isStar || decide (100 ≤ es.length)) (erEs (erE X.N f sc) es))
      unfold erTup
      split
      · exact snd_bad rfl
      · rename_i h
        obtain ⟨h1, h2⟩ := any_len (by simpa using h)
        exact snd_of (fun _ _ _ h => by cases h) (s_tup (iA es h1) (by rw [esLen_er]; exact h2)) rfl (fun _ => rfl)
    | List es p =>
      show Snd P go X W _ (erLst (es.any isStar || decide (100 ≤ es.length)) (erEs (erE X.N f sc) es))
      unfold erLst
      split
      · exact snd_bad rfl
      · rename_i h
        obtain ⟨h1, h2⟩ := any_len (by simpa using h)
        exact snd_of (fun _ _ _ h => by cases h) (s_lst (iA es h1) (by rw [esLen_er]; exact h2)) rfl (fun _ => rfl)
    | Subscript a b p =>
      cases b with
      | Slice lo hi stp p2 =>
        cases stp with
        | some _ => exact snd_bad rfl
        | none =>
          have hO : ∀ o : Option Expr, PO X o (RO P go X W (o.map (erE X.N f sc))) := fun o => by
            cases o with
            | none => exact s_oN
            | some e => exact s_oS (iE e)
          exact snd_of (fun _ _ _ h => by cases h) (s_sl (iE a) (hO lo) (hO hi)) rfl (fun _ => rfl)
      | _ => exact snd_of (fun _ _ _ h => by cases h) (s_idx (iE a) (iE _) (plainIx fun _ _ _ _ h => by cases h)) rfl (fun _ => rfl)
    | Attribute a m p =>
      show Snd P go X W _ (erFld (recvOk a) (erE X.N f sc a) m)
      unfold erFld
      split
      · rename_i hr
        exact snd_of (fun _ _ _ h => by cases h) (s_fld G (iE a) (base_ok hr)) rfl (fun _ => rfl)
      · exact snd_bad rfl
    | Call fn es kws p =>
      cases kws with
      | cons _ _ => cases fn <;> exact snd_bad rfl
      | nil =>
        cases fn with
        | Name x q =>
          show Snd P go X W _ (erCallN (erE X.N f sc) sc x es)
          unfold erCallN
          split
          · exact snd_bad rfl
          · rename_i hs0
            have hs : es.any isStar = false := by simpa using hs0
            split
            · rename_i hg0
              have hg := G.gl (isGl_of hg0).1
              split
              · rename_i hx
                subst hx
                unfold erIsi
                split
                · rename_i a ts x1 p2
                  split
                  · rename_i l e1
                    split
                    · rename_i hl
                      have h2 : isStar a = false := by simpa [isStar] using hs
                      exact snd_of (fun _ _ _ h => by cases h) (s_isiN G hg (tyBis e1) h2 (iE a) hl) rfl (fun _ => rfl)
                    · exact snd_bad rfl
                  · exact snd_bad rfl
                · rename_i a t _
                  split
                  · rename_i n e1
                    have h2 : isStar a = false ∧ isStar t = false := by simpa using hs
                    exact snd_of (fun _ _ _ h => by cases h) (s_isi1 G hg (tyBi_of e1) h2.1 (iE a)) rfl (fun _ => rfl)
                  · exact snd_bad rfl
                · exact snd_bad rfl
              · split
                · exact snd_bad rfl
                · split
                  · rename_i bb e1
                    exact snd_of (fun _ _ _ h => by cases h) (s_bi G e1 hg hs (iA es hs) er_nil) rfl (fun _ => rfl)
                  · split
                    · exact snd_bad rfl
                    · rename_i h0
                      have h0' : es ≠ [] := by intro z; subst z; exact h0 rfl
                      split
                      · exact snd_of (fun _ _ _ h => by cases h) (s_mk G hg hs (iA es hs) h0') rfl (fun _ => rfl)
                      · exact snd_of (fun _ _ _ h => by cases h) (s_call G hg hs (iA es hs) h0' (esLen_er es)) rfl (fun _ => rfl)
            · exact snd_bad rfl
        | Attribute o m q =>
          show Snd P go X W _ (erCallA (erE X.N f sc) o m q p es)
          unfold erCallA
          split
          · exact snd_bad rfl
          · rename_i hs0
            have hs1 : es.any isStar = false ∧ recvOk o = true ∧ (q.endLine == p.line) = true ∧ es.length < 20 := by
              simpa [and_assoc] using hs0
            obtain ⟨hs, hr, hp, hl⟩ := hs1
            split
            · rename_i bm e1
              split
              · exact snd_bad rfl
              · rename_i h0
                have h0' : es ≠ [] := by intro z; subst z; exact h0 rfl
                unfold bmOf at e1
                split at e1
                · rename_i hm
                  subst hm
                  cases e1
                  exact snd_of (fun _ _ _ h => by cases h) (s_append (iE o) hs (iA es hs) h0' hr hl hp) rfl (fun _ => rfl)
                · cases e1
            · exact snd_of (fun _ _ _ h => by cases h) (s_meth G (iE o) hs (iA es hs) er_nil hr hl hp) rfl (fun _ => rfl)
        | _ => exact snd_bad rfl
    | ListComp elt gens cs p =>
      match gens with
      | [⟨tg, it, ifs, 0⟩] =>
        show Snd P go X W _ (erLc (L2.blkC X.N sc cs (ownOf X.N cs) && ownIs (ownOf X.N cs) ((tgOf X.N cs tg).getD ([], true)).1 && !isSet it) (tgOf X.N cs tg) (erI (erE X.N f sc) sc it) (ifs.map (erE X.N f cs)) (erE X.N f cs elt))
        unfold erLc
        split
        · rename_i hh
          have hh' : L2.blkC X.N sc cs (ownOf X.N cs) = true ∧ ownIs (ownOf X.N cs) ((tgOf X.N cs tg).getD ([], true)).1 = true ∧ isSet it = false := by
            simpa [and_assoc] using hh
          obtain ⟨hb, ho, hset⟩ := hh'
          have sub : ∀ (X' : Cx) (G' : Good P go k X' cs (fun _ _ _ _ => False)), X'.N = X.N → ∀ e, Snd P go X' (fun _ _ _ _ => False) e (erE X.N f cs e) := fun X' G' hN e => by
            have := ih G' e
            rw [hN] at this
            exact this
          cases ht : tgOf X.N cs tg with
          | none => exact snd_bad rfl
          | some gg =>
            obtain ⟨g, one⟩ := gg
            rw [ht] at ho
            cases ifs with
            | nil => exact snd_of (fun _ _ _ h => by cases h) (s_lcN G hb ho ht hset (s_it G iE it) fun X' G' h1 _ _ => (sub X' G' h1 elt).1) rfl (fun _ => rfl)
            | cons c cs' =>
              cases cs' with
              | nil => exact snd_of (fun _ _ _ h => by cases h) (s_lcS G hb ho ht hset (s_it G iE it) fun X' G' h1 _ _ => ⟨(sub X' G' h1 elt).1, (sub X' G' h1 c).2.1⟩) rfl (fun _ => rfl)
              | cons _ _ => exact snd_bad rfl
        · exact snd_bad rfl
      | [] => exact snd_bad rfl
      | ⟨_, _, _, .ofNat (n + 1)⟩ :: [] => exact snd_bad rfl
      | ⟨_, _, _, .negSucc _⟩ :: [] => exact snd_bad rfl
      | ⟨_, _, _, .ofNat 0⟩ :: _ :: _ => exact snd_bad rfl
      | ⟨_, _, _, .ofNat (n + 1)⟩ :: _ :: _ => exact snd_bad rfl
      | ⟨_, _, _, .negSucc _⟩ :: _ :: _ => exact snd_bad rfl
    | _ => exact snd_bad rfl
end
end SI

set_option maxHeartbeats 4000000
/-! SI 15: statements. -/
namespace SI
open PySem L2 PySem.Spec PyProof.Rows
def PostS (K : Frag) (mg : Str → Option Value) (r : List Addr) (H : Hp) (x : Out) (D : Ends) (W : WX) : Prop := match x with
  | .nx env st => ∀ r' H' σ', Up r H r' H' → Sim K mg r' st H' → EnvR K r' H' env σ' → D.nx σ' H'
  | .rt x st => ∀ r' H' v, Up r H r' H' → Sim K mg r' st H' → RelEv K r' H H' x v → D.rt v H'
  | .ex c fs env st => ∀ r' H' σ' cls od, Up r H r' H' → Sim K mg r' st H' → EnvR K r' H' env σ' → ExR K mg r' H' c fs cls od → W cls od σ' H'
  | .stuck => False
section
variable {K : Frag} {mg : Str → Option Value} {r r' : List Addr} {H H' : Hp} {D : Ends} {W : WX}
theorem PostS.up {x : Out} (h : PostS K mg r H x D W) (u : Up r H r' H') : PostS K mg r' H' x D W := by
  cases x with
  | nx env st => exact fun r2 H2 σ' u2 s e => h r2 H2 σ' (u.trans u2) s e
  | rt x st => exact fun r2 H2 v u2 s e => h r2 H2 v (u.trans u2) s (e.older u.dom)
  | ex c fs env st => exact fun r2 H2 σ' cls od u2 s e => h r2 H2 σ' cls od (u.trans u2) s e
  | stuck => exact h
theorem PostS.bind {x : Out} {f : Env → Store → Out} (h : PostS K mg r H (x.bind f) D W) : PostS K mg r H x { D with nx := fun σ' H' => ∃ r' env st, EnvR K r' H' env σ' ∧ Sim K mg r' st H' ∧ Up r H r' H' ∧ PostS K mg r' H' (f env st) D W } W := by
  cases x with
  | nx env st => exact fun r2 H2 σ' u2 s e => ⟨r2, env, st, e, s, u2, PostS.up (x := f env st) h u2⟩
  | rt x st => exact h
  | ex c fs env st => exact h
  | stuck => exact h
theorem PostS.out {α : Type} {x : R α} {env : Env} {f : α → Store → Out} {σ : L2.St} (he : EnvR K r H env σ) (h : PostS K mg r H (x.out env f) D W) : PostR K mg r H x (fun a st r1 H1 => PostS K mg r H (f a st) D W) (Wat W σ) := by
  cases x with
  | ok a st => exact fun r1 H1 u s => h
  | ex c fs st => exact fun r1 H1 cls od u s e => h r1 H1 σ cls od u s (he.up u) e
  | stuck => exact h
end
/-- readings of statements -/
def rdS (P : Prog) (go : Go) (K : Frag) (mg : Str → Option Value) (W : WX) (s : S) : TS := fun D σ H => ∃ r env st, EnvR K r H env σ ∧ Sim K mg r st H ∧ PostS K mg r H (exS P go s env st) D W
abbrev RS (P : Prog) (go : Go) (X : Cx) (W : WX) (s : S) : TS := rdS P go X.K X.mg W s
theorem _root_.L2.PS.weak {X : Cx} {e : Stmt} {t t' : TS} (h : PS X e t) (w : ∀ D σ H, t' D σ H → t D σ H) : PS X e t' := ⟨fun pins s σ H D I q => h.run pins s σ H D I (w D σ H q)⟩
theorem _root_.L2.PSs.weak {X : Cx} {e : List Stmt} {t t' : TS} (h : PSs X e t) (w : ∀ D σ H, t' D σ H → t D σ H) : PSs X e t' := ⟨fun pins s σ H D I q => h.run pins s σ H D I (w D σ H q)⟩
theorem _root_.L2.PS.none {X : Cx} {e : Stmt} {t : TS} (w : ∀ D σ H, ¬ t D σ H) : PS X e t := ⟨fun pins s σ H D I q => (w D σ H q).elim⟩
structure GoodS (P : Prog) (go : Go) (k : Nat) (X : Cx) (sc : Scope) (W : WX) : Prop extends Good P go k X sc W where
  po : PassesOwn (model X.prog X.w) X.A X.env X.xe
  kind : X.env.scope.kind = .function
  scx : X.env.scope = sc
  hs : X.stack = X.env :: X.outer
  hf : X.env.frame = some X.env.locals
section
variable {P : Prog} {go : Go} {k : Nat} {X : Cx} {sc : Scope} {W : WX} {a b c e o : Expr} {a' b' c' e' o' : E} {s' t' : S} {pos p : Pos}
theorem post_nx {r : List Addr} {H : Hp} {env : Env} {st : Store} {D : Ends} {σ : L2.St} (h : PostS X.K X.mg r H (.nx env st) D W) (S : Sim X.K X.mg r st H) (he : EnvR X.K r H env σ) : D.nx σ H := h r H σ (Up.refl r H) S he
theorem s_pass : PS X (.Pass pos) (RS P go X W .nop) := ps_pass.weak fun D σ H ⟨r, env, st, he, S, h⟩ => post_nx h S he
theorem sw_none {l : Nat} {env : PySem.Env} (h : isLc e = false) (t : Option Expr) : swapsWith e t l env = pure false := by
  cases e <;> first | rfl | (cases h)
theorem s_expr (ha : PE X a (RE P go X W a')) (h : isLc a = false) : PS X (.Expr a pos) (RS P go X W (.expr a')) := (ps_expr ha (sw_none h _)).weak fun D σ H ⟨r, env, st, he, S, h⟩ => by
  unfold exS at h
  exact rd_of he S (PostS.out he h) fun x st1 r1 H1 v u1 S1 hx h1 => h1 r1 H1 σ u1 S1 (he.up u1)
theorem s_ret (ha : PE X a (RE P go X W a')) : PS X (.Return (some a) pos) (RS P go X W (.ret a')) := (ps_ret ha).weak fun D σ H ⟨r, env, st, he, S, h⟩ => by
  unfold exS at h
  exact rd_of he S (PostS.out he h) fun x st1 r1 H1 v u1 S1 hx h1 => h1 r1 H1 v u1 S1 hx
theorem s_retN : PS X (.Return none pos) (RS P go X W .retN) := ps_retN.weak fun D σ H ⟨r, env, st, he, S, h⟩ => h r H _ (Up.refl r H) S rel_non'
theorem s_seq {f : Stmt → S} : ∀ {ss : List Stmt}, (∀ s ∈ ss, PS X s (RS P go X W (f s))) → PSs X ss (RS P go X W (sSeq f ss))
  | [], _ => pss_nil.weak fun D σ H ⟨r, env, st, he, S, h⟩ => post_nx h S he
  | s :: ss, hh => (pss_cons (hh s (by simp)) (s_seq fun t ht => hh t (by simp [ht]))).weak fun D σ H ⟨r, env, st, he, S, h⟩ => by
    have h' : PostS X.K X.mg r H ((exS P go (f s) env st).bind fun e s => exS P go (sSeq f ss) e s) D W := h
    have h2 := PostS.bind h'
    refine ⟨r, env, st, he, S, ?_⟩
    cases q : exS P go (f s) env st with
    | stuck => rw [q] at h2; exact h2
    | rt x st => rw [q] at h2; exact h2
    | ex c fs env st => rw [q] at h2; exact h2
    | nx env2 st2 =>
      rw [q] at h2
      intro r2 H2 σ2 u2 S2 e2
      obtain ⟨r3, env3, st3, h3, h4, _, h5⟩ := h2 r2 H2 σ2 u2 S2 e2
      exact ⟨r3, env3, st3, h3, h4, h5⟩
theorem s_if {as bs : List Stmt} (hc : PT X c (RT P go X W c')) (ha : PSs X as (RS P go X W s')) (hb : PSs X bs (RS P go X W t')) : PS X (.If c as bs pos) (RS P go X W (.ifs c' s' t')) := (ps_if hc ha hb).weak fun D σ H ⟨r, env, st, he, S, h⟩ => by
  unfold exS at h
  refine rdt_of he S (PostS.out he h) fun x st1 r1 H1 u1 S1 h1 => ?_
  cases x with
  | true => exact iteT ⟨r1, env, st1, he.up u1, S1, h1.up u1⟩
  | false => exact iteF ⟨r1, env, st1, he.up u1, S1, h1.up u1⟩
theorem post_imp {r : List Addr} {H : Hp} {x : Out} {D D' : Ends} (h : PostS X.K X.mg r H x D W) (hn : ∀ σ H, D.nx σ H → D'.nx σ H) (hr : D.rt = D'.rt) : PostS X.K X.mg r H x D' W := by
  cases x with
  | nx env st => exact fun r2 H2 σ2 u2 S2 e2 => hn _ _ (h r2 H2 σ2 u2 S2 e2)
  | rt x st => exact fun r2 H2 v u2 S2 e2 => by rw [← hr]; exact h r2 H2 v u2 S2 e2
  | ex c fs env st => exact h
  | stuck => exact h
theorem s_whl (G : GoodS P go k X sc W) {bs : List Stmt} (hc : PT X c (RT P go X W c')) (hb : PSs X bs (RS P go X W s')) : PS X (.While c bs [] pos) (RS P go X W (.whl c' s')) := (ps_while G.po hc hb).weak fun D σ H ⟨r, env, st, he, S, h⟩ => by
  unfold exS at h
  refine ⟨fun m σ' H' => ∃ r' env' st', EnvR X.K r' H' env' σ' ∧ Sim X.K X.mg r' st' H' ∧ PostS X.K X.mg r' H' (whGo (fun e s => evT P go c' e s) (fun e s => exS P go s' e s) m env' st') D W, ⟨loopFuel, r, env, st, he, S, h⟩, ?_⟩
  rintro m σ' H' ⟨r', env', st', he', S', h'⟩
  cases m with
  | zero => exact h'.elim
  | succ m =>
    unfold whGo at h'
    refine rdt_of he' S' (PostS.out he' h') fun x st1 r1 H1 u1 S1 h1 => ?_
    cases x with
    | false => exact iteF (h1 r1 H1 σ' u1 S1 (he'.up u1))
    | true =>
      refine iteT ⟨_, fun σ2 H2 q => ⟨m, Nat.lt_succ_self m, q⟩, r1, env', st1, he'.up u1, S1, ?_⟩
      have h2 := PostS.bind (PostS.up (show PostS X.K X.mg r' H' ((exS P go s' env' st1).bind fun e s => whGo (fun e s => evT P go c' e s) (fun e s => exS P go s' e s) m e s) D W from h1) u1)
      exact post_imp h2 (fun σ2 H2 ⟨r3, env3, st3, h3, h4, _, h5⟩ => ⟨r3, env3, st3, h3, h4, h5⟩) rfl
theorem s_for (G : GoodS P go k X sc W) {g : List Nat} {one : Bool} {tg it : Expr} {it' : Wk} {bs : List Stmt} (ht : tgOf X.N sc tg = some (g, one)) (hs : isSet it = false) (hi : PI X tg it (rdI P go X W it')) (hb : PSs X bs (RS P go X W s')) : PS X (.For tg it bs [] pos) (RS P go X W (.loop g one it' s')) :=
  (ps_for G.po G.calm hi (pg_tg G.toGood ht) hb (fold_no hs)).weak fun D σ H ⟨r, env, st, he, S, h⟩ => by
  unfold exS at h
  refine ⟨r, env, st, he, S, (PostS.out he h).mono fun cur st1 r1 H1 e1 u1 S1 h1 J hJ => ?_⟩
  refine ⟨fun i m σ' H' => ∃ r' env' st', Up r1 H1 r' H' ∧ EnvR X.K r' H' env' σ' ∧ Sim X.K X.mg r' st' H' ∧ PostS X.K X.mg r' H' (forGo cur g one (fun e s => exS P go s' e s) m i env' st') D W,
    ⟨turns cur st1, r1, env, st1, Up.refl r1 H1, he.up u1, S1, PostS.up h1 u1⟩, ?_⟩
  rintro i m σ' H' ⟨r', env', st', u, he', S', h'⟩
  cases m with
  | zero =>
    unfold forGo at h'
    split at h'
    · rename_i ds ec
      split at h'
      · rename_i hl
        exact .inl ⟨(hJ r' st' H' u S' ds ec).2 i hl, post_nx h' S' he'⟩
      · exact h'.elim
    · exact h'.elim
  | succ m =>
    unfold forGo at h'
    split at h'
    · rename_i ds ec
      split at h'
      · rename_i en
        exact .inl ⟨(hJ r' st' H' u S' ds ec).2 i (List.getElem?_eq_none_iff.mp en), post_nx h' S' he'⟩
      · rename_i d ed
        obtain ⟨hgo, hy⟩ := (hJ r' st' H' u S' ds ec).1 i d ed
        refine .inr ⟨hgo, _, fun σ2 H2 q => ⟨m, Nat.lt_succ_self m, q⟩, fun x H'' hyl => ?_⟩
        obtain ⟨rfl, hd⟩ := hy x H'' hyl
        split at h'
        · rename_i env2 hbg
          refine bindG_ok hbg hd he' fun σ2 he2 => ⟨r', env2, st', he2, S', ?_⟩
          have h2 := PostS.bind h'
          cases q : exS P go s' env2 st' with
          | stuck => rw [q] at h2; exact h2
          | rt x st => rw [q] at h2; exact h2
          | ex c fs env st => rw [q] at h2; exact h2
          | nx env3 st3 =>
            rw [q] at h2
            intro r4 H4 σ4 u4 S4 e4
            obtain ⟨r5, env5, st5, h5, h6, u6, h7⟩ := h2 r4 H4 σ4 u4 S4 e4
            exact ⟨r5, env5, st5, u.trans u6, h5, h6, h7⟩
        · exact h'.elim
    · exact h'.elim
/-- what an assignment to a name reads -/
theorem asg_reads {i : Nat} {te : TE} (hte : ∀ σ H Q, RE P go X W e' σ H Q → te σ H Q) : ∀ D σ H, RS P go X W (.asg i e') D σ H → tAsg te (gName i) D σ H := fun D σ H ⟨r, env, st, he, S, h⟩ => by
  unfold exS at h
  refine hte _ _ _ (rd_of he S (PostS.out he h) fun x st1 r1 H1 v u1 S1 hx h1 => ?_)
  obtain ⟨r2, U2, E2, S2, R2, _⟩ := mat_ok u1 S1 hx
  exact h1 r2 H1 _ U2 S2 (((he.up u1).ext E2).set i R2)
theorem s_asg (G : GoodS P go k X sc W) {y : Str} {i : Nat} {py : Pos} (hi : slotOf X.N sc y = some i) (hl : isLc e = false) (he : PE X e (RE P go X W e')) : PS X (.Assign [.Name y py] e pos) (RS P go X W (.asg i e')) := by
  obtain ⟨h1, h2⟩ := slot_of hi
  refine (ps_set (i := i) G.nd h1 (G.loc h2) he (sw_none hl _) ?_).weak (asg_reads fun _ _ _ h => h)
  rcases h2 with h2 | h2
  · rcases G.scr y _ h2 with q | ⟨q, _⟩
    · exact .inr q
    · cases q
  · exact .inl (G.fnc y h2)
theorem s_unp (G : GoodS P go k X sc W) {ts : List Expr} {kk : Nat} {g : List Nat} (ht : tgOf X.N sc (.Tuple ts kk p) = some (g, false)) (hl : isLc e = false) (hn : isTup e = false) (he : PE X e (RE P go X W e')) : PS X (.Assign [.Tuple ts kk p] e pos) (RS P go X W (.unp g e')) := by
  refine (ps_asg (pos := pos) he (pg_tg G.toGood ht) (by show swapsWith e (some (.Tuple ts kk p)) pos.line X.env = pure false; exact sw_none hl _) ?_ rfl).weak fun D σ H ⟨r, env, st, he, S, h⟩ => ?_
  · cases e <;> first | rfl | (cases hn)
  · unfold exS at h
    refine rd_of he S (PostS.out he h) fun x st1 r1 H1 v u1 S1 hx h1 => ?_
    split at h1
    · rename_i d
      split at h1
      · rename_i env2 hb
        exact bindG_ok hb hx (he.up u1) fun σ' he' => h1 r1 H1 σ' u1 S1 he'
      · exact h1.elim
    · exact h1.elim
theorem s_setI {i : Expr} {i' : E} (he : PE X e (RE P go X W e')) (ho : PE X o (RE P go X W o')) (hi : PE X i (RE P go X W i')) (hsl : isSlice i = false) : PS X (.Assign [.Subscript o i p] e pos) (RS P go X W (.setI o' i' e')) := by
  refine (ps_asg he (pg_sub ho hi set_list ?_) ?_ ?_ rfl).weak fun D σ H ⟨r, env, st, hE, S, h⟩ => ?_
  · intro v
    cases i <;> first | rfl | (cases hsl)
  · cases e <;> rfl
  · cases e <;> rfl
  · unfold exS at h
    refine rd_of hE S (PostS.out hE h) fun x st1 r1 H1 v u1 S1 hx h1 => ?_
    obtain ⟨r2, U2, E2, S2, R2, _⟩ := mat_ok u1 S1 hx
    refine rd_of ((hE.up u1).ext E2) S2 (PostR.up (PostS.out hE h1) U2) fun y st3 r3 H3 w u3 S3 hy h3 => ?_
    have U3 := U2.trans u3
    refine rd_of (((hE.up u1).ext E2).up u3) S3 (PostR.up (PostS.out hE h3) U3) fun z st4 r4 H4 q u4 S4 hz h4 => ?_
    have U4 := U3.trans u4
    split at h4
    · rename_i n kk
      split at h4
      · rename_i ds e1
        split at h4
        · rename_i j e2
          have hy4 := hy.up u4
          unfold RelEv Rel at hy4
          obtain ⟨l, hl, rfl⟩ := hy4
          rw [rel_int hz]
          obtain ⟨zs, y1, y2⟩ := S4.ok n l _ hl e1
          have Rv := (u4.rel (u3.rel R2))
          obtain ⟨S5, U5⟩ := S4.write (o' := .lst (zs.set j v)) (c' := .lst (ds.set j (mat x st1).1)) hl e1 y1 (fun f => f) fun t => ⟨_, upd_same, RelL.set (Rel.mono (Ext.refl r4) t Rv) j (RelL.mono (Ext.refl r4) t y2)⟩
          exact ⟨l, zs, kk, j, rfl, rfl, y1, by rw [← y2.length]; exact e2, h4 r4 _ σ (U4.trans U5) S5 (((((hE.up u1).ext E2).up u3).up u4).up U5)⟩
        · exact h4.elim
      · exact h4.elim
    · exact h4.elim
theorem s_setF (G : GoodS P go k X sc W) {f : Str} (he : PE X e (RE P go X W e')) (ho : PE X o (RE P go X W o')) : PS X (.Assign [.Attribute o f p] e pos) (RS P go X W (.setF o' f e')) := by
  refine (ps_fld ho he ?_).weak fun D σ H ⟨r, env, st, hE, S, h⟩ => ?_
  · cases e <;> rfl
  · unfold exS at h
    refine rd_of hE S (PostS.out hE h) fun x st1 r1 H1 v u1 S1 hx h1 => ?_
    obtain ⟨r2, U2, E2, S2, R2, _⟩ := mat_ok u1 S1 hx
    refine rd_of ((hE.up u1).ext E2) S2 (PostR.up (PostS.out hE h1) U2) fun y st3 r3 H3 w u3 S3 hy h3 => ?_
    have U3 := U2.trans u3
    split at h3
    · rename_i n
      split at h3
      · rename_i c fs e1
        split at h3
        · rename_i hh
          unfold RelEv Rel at hy
          obtain ⟨l, hl, rfl⟩ := hy
          obtain ⟨C, dx, fv, z1, z2, z3⟩ := S3.ok n l _ hl e1
          obtain ⟨cl, na⟩ := G.tab.na c f C hh.2 z1
          have Rv := u3.rel R2
          obtain ⟨S5, U5⟩ := S3.write (o' := .ins C dx (putF f v fv)) (c' := .ins c (putD f (mat x st1).1 fs)) hl e1 z2 (fun f => f) fun t => ⟨C, dx, _, z1, upd_same, relF_put (Rel.mono (Ext.refl r3) t Rv) (RelF.mono (Ext.refl r3) t z3)⟩
          exact ⟨l, C, dx, fv, rfl, z2, cl, na, by rw [← relF_len z3]; exact hh.1, h3 r3 _ σ (U3.trans U5) S5 ((((hE.up u1).ext E2).up u3).up U5)⟩
        · exact h3.elim
      · exact h3.elim
    · exact h3.elim
theorem s_aug (G : GoodS P go k X sc W) {y : Str} {i : Nat} {py : Pos} {op : Operator} {oo : BOp} (hi : slotOf X.N sc y = some i) (ho : (op = .Add ∧ oo = .add) ∨ (op = .Sub ∧ oo = .sub)) (he : PE X e (RE P go X W e')) : PS X (.AugAssign (.Name y py) op e pos) (RS P go X W (.aug i oo e')) := by
  obtain ⟨h1, h2⟩ := slot_of hi
  have hf : X.fn y = true ∨ X.env.scope.names.lookup y = some .local := by
    rcases h2 with h2 | h2
    · rcases G.scr y _ h2 with q | ⟨q, _⟩
      · exact .inr q
      · cases q
    · exact .inl (G.fnc y h2)
  rcases ho with ⟨rfl, rfl⟩ | ⟨rfl, rfl⟩
  · refine (ps_aug (i := i) G.nd h1 (G.loc h2) he ip_add hf).weak fun D σ H ⟨r, env, st, hE, S, h⟩ => ?_
    unfold exS at h
    split at h
    · rename_i d e1
      obtain ⟨v, hv, hR⟩ := hE.2 i d e1
      refine ⟨v, hv, rd_of hE S (PostS.out hE h) fun x st1 r1 H1 w u1 S1 hx h2 => ?_⟩
      split at h2 <;> first | exact h2.elim | skip
      · rename_i a b _
        have : v = .int a := by unfold Rel at hR; exact hR
        subst this
        rw [rel_int hx]
        exact ⟨a, b, rfl, rfl, h2 r1 H1 _ u1 S1 ((hE.up u1).set i (by unfold Rel; rfl))⟩
      · rename_i hq; cases hq
    · exact h.elim
  · refine (ps_aug (i := i) G.nd h1 (G.loc h2) he ip_sub hf).weak fun D σ H ⟨r, env, st, hE, S, h⟩ => ?_
    unfold exS at h
    split at h
    · rename_i d e1
      obtain ⟨v, hv, hR⟩ := hE.2 i d e1
      refine ⟨v, hv, rd_of hE S (PostS.out hE h) fun x st1 r1 H1 w u1 S1 hx h2 => ?_⟩
      split at h2 <;> first | exact h2.elim | skip
      · rename_i hq; cases hq
      · rename_i a b _
        have : v = .int a := by unfold Rel at hR; exact hR
        subst this
        rw [rel_int hx]
        exact ⟨a, b, rfl, rfl, h2 r1 H1 _ u1 S1 ((hE.up u1).set i (by unfold Rel; rfl))⟩
    · exact h.elim
theorem s_raiseT (G : GoodS P go k X sc W) {c m : Str} {j : Nat} {p2 p3 : Pos} (hg : isGl sc c = true) : PS X (.Raise (some (.Call (.Name c p) [.Constant (.str m) j p2] [] p3)) none pos) (RS P go X W (.raiseT c)) := by
  cases q : P.excs.contains c with
  | false =>
    refine PS.none fun D σ H ⟨r, env, st, hE, S, h⟩ => ?_
    unfold exS at h
    simp only [q] at h
    exact h
  | true =>
    obtain ⟨C, hm, x⟩ := G.tab.ex c q
    obtain ⟨g1, g2⟩ := isGl_of hg
    refine (ps_raise G.calm G.tk (pmk_own PySem.F.excBase_ValueError x.x hm x.k (raises_own x.b x.t) (G.gl g1) g2)).weak fun D σ H ⟨r, env, st, hE, S, h⟩ => ?_
    unfold exS at h
    simp only [q] at h
    exact h r H σ _ _ (Up.refl r H) S hE ⟨⟨C, hm, rfl⟩, .inl ⟨rfl, rfl⟩⟩
end
end SI

set_option maxHeartbeats 4000000
/-! SI 16: all statements; a def's body; the table. -/
namespace SI
open PySem L2 PySem.Spec PyProof.Rows
section
variable {P : Prog} {go : Go} {k : Nat} {X : Cx} {sc : Scope} {W : WX} {a b c e o : Expr} {a' b' c' e' o' : E} {s' t' : S} {pos p : Pos}
theorem asg_bad {st : Stmt} {i : Nat} : PS X st (RS P go X W (.asg i .bad)) := PS.none fun D σ H ⟨r, env, st, hE, S, h⟩ => h
theorem s_bad {st : Stmt} : PS X st (RS P go X W .bad) := PS.none fun D σ H ⟨r, env, st, hE, S, h⟩ => h
theorem s_asgLc (G : GoodS P go k X sc W) {d : Nat} {y : Str} {i : Nat} {py : Pos} {elt : Expr} {gens : List Comprehension} {cs : Scope} (hi : slotOf X.N sc y = some i) (hsw : swOk sc y py (.ListComp elt gens cs p) = true) :
    PS X (.Assign [.Name y py] (.ListComp elt gens cs p) pos) (RS P go X W (.asg i (erE X.N d sc (.ListComp elt gens cs p)))) := by
  cases d with
  | zero => exact asg_bad
  | succ d =>
    match gens with
    | [⟨tg, it, ifs, 0⟩] =>
      show PS X _ (RS P go X W (.asg i (erLc (L2.blkC X.N sc cs (ownOf X.N cs) && ownIs (ownOf X.N cs) ((tgOf X.N cs tg).getD ([], true)).1 && !isSet it) (tgOf X.N cs tg) (erI (erE X.N d sc) sc it) (ifs.map (erE X.N d cs)) (erE X.N d cs elt))))
      obtain ⟨h1, h2⟩ := slot_of hi
      have hs1 : (match sc.names.lookup y with | some .local => true | _ => false) = true ∧ (py.line == p.line) = true ∧ (cs.names.any fun (n, k) => n == y && (k == .local || k == .cell)) = false := by
        have h : ((match sc.names.lookup y with | some .local => true | _ => false) && ((py.line == p.line) && !(cs.names.any fun (n, k) => n == y && (k == .local || k == .cell)))) = true := hsw
        simpa using h
      obtain ⟨q1, q2, q3⟩ := hs1
      have hyl : X.env.scope.names.lookup y = some .local := by
        rw [G.scx]
        split at q1
        · rename_i e; exact e
        · cases q1
      unfold erLc
      split
      · rename_i hh
        have hh' : L2.blkC X.N sc cs (ownOf X.N cs) = true ∧ ownIs (ownOf X.N cs) ((tgOf X.N cs tg).getD ([], true)).1 = true ∧ isSet it = false := by
          simpa [and_assoc] using hh
        obtain ⟨hb, ho, hset⟩ := hh'
        have sub : ∀ (X' : Cx) (G' : Good P go k X' cs (fun _ _ _ _ => False)), X'.N = X.N → ∀ e, Snd P go X' (fun _ _ _ _ => False) e (erE X.N d cs e) := fun X' G' hN e => by
          have := snd_all d G' e
          rw [hN] at this
          exact this
        have hI := s_it (tg := tg) G.toGood (fun e => (snd_all d G.toGood e).1) it
        cases ht : tgOf X.N cs tg with
        | none => exact asg_bad
        | some gg =>
          obtain ⟨g, one⟩ := gg
          rw [ht] at ho
          cases ifs with
          | nil =>
            refine (ps_setLc (i := i) G.calm G.nd h1 hyl (sw_true G.kind hyl q2 q3) hI (G.blkOk hb) (fun s H C cl fp => ?_) (fun s H C cl fp => pts_nil) (fun s H C cl fp => ?_) (fold_no hset)).weak (asg_reads (lc_reads (own_is ho) (fun {σ2 H2 r2 st2 env2 b st3 Qb} h1 h2 h3 h4 => ?_) fun σ H Q h => h))
            · exact pg_tg (X := X.blk s H cs (compEnvC cs cl C X.env) fp) G.toGood.blk ht
            · exact (sub (X.blk s H cs (compEnvC cs cl C X.env) fp) G.toGood.blk rfl elt).1
            · obtain ⟨rfl, rfl⟩ := h3
              exact h4 r2 H2 (Up.refl r2 H2) h2
          | cons c cs' =>
            cases cs' with
            | nil =>
              refine (ps_setLc (i := i) (tt := RT P go X (fun _ _ _ _ => False) (erE X.N d cs c)) G.calm G.nd h1 hyl (sw_true G.kind hyl q2 q3) hI (G.blkOk hb) (fun s H C cl fp => ?_) (fun s H C cl fp => pts_one ?_) (fun s H C cl fp => ?_) (fold_no hset)).weak (asg_reads (lc_reads (own_is ho) (fun {σ2 H2 r2 st2 env2 b st3 Qb} h1 h2 h3 h4 => ?_) fun σ H Q h => h))
              · exact pg_tg (X := X.blk s H cs (compEnvC cs cl C X.env) fp) G.toGood.blk ht
              · exact (sub (X.blk s H cs (compEnvC cs cl C X.env) fp) G.toGood.blk rfl c).2.1
              · exact (sub (X.blk s H cs (compEnvC cs cl C X.env) fp) G.toGood.blk rfl elt).1
              · have h3' : evT P go (erE X.N d cs c) env2 st2 = .ok b st3 := h3
                exact ⟨r2, env2, st2, h1, h2, by rw [h3']; exact fun r' H' u s => h4 r' H' u s⟩
            | cons _ _ => exact asg_bad
      · exact asg_bad
    | [] => exact asg_bad
    | ⟨_, _, _, .ofNat (n + 1)⟩ :: [] => exact asg_bad
    | ⟨_, _, _, .negSucc _⟩ :: [] => exact asg_bad
    | ⟨_, _, _, .ofNat 0⟩ :: _ :: _ => exact asg_bad
    | ⟨_, _, _, .ofNat (n + 1)⟩ :: _ :: _ => exact asg_bad
    | ⟨_, _, _, .negSucc _⟩ :: _ :: _ => exact asg_bad
theorem isLc_no (h : isLc e = true) : (∃ elt gens cs p, e = .ListComp elt gens cs p) ∨ (∀ y py, swOk sc y py e = false) := by
  cases e <;> first
    | (cases h; done)
    | exact .inl ⟨_, _, _, _, rfl⟩
    | exact .inr fun _ _ => rfl
theorem sndS_all (G : GoodS P go k X sc W) {d : Nat} : ∀ (f : Nat) (st : Stmt), PS X st (RS P go X W (erS X.N d f sc st)) := by
  intro f
  have iE : ∀ e, PE X e (RE P go X W (erE X.N d sc e)) := fun e => (snd_all d G.toGood e).1
  have iT : ∀ e, PT X e (RT P go X W (erE X.N d sc e)) := fun e => (snd_all d G.toGood e).2.1
  induction f with
  | zero => intro st; exact s_bad
  | succ f ih =>
    intro st
    have iS : ∀ ss, PSs X ss (RS P go X W (sSeq (erS X.N d f sc) ss)) := fun ss => s_seq fun t _ => ih t
    cases st with
    | Pass p => exact s_pass
    | Expr e p =>
      show PS X _ (RS P go X W (if isLc e then .bad else .expr (erE X.N d sc e)))
      split
      · exact s_bad
      · rename_i h; exact s_expr (iE e) (by simpa using h)
    | Return v p =>
      cases v with
      | none => exact s_retN
      | some e => exact s_ret (iE e)
    | If c a b p => exact s_if (iT c) (iS a) (iS b)
    | While c b els p =>
      cases els with
      | nil => exact s_whl G (iT c) (iS b)
      | cons _ _ => exact s_bad
    | For tg it b els p =>
      cases els with
      | cons _ _ => exact s_bad
      | nil =>
        show PS X _ (RS P go X W (sFor (isSet it) (tgOf X.N sc tg) (erI (erE X.N d sc) sc it) (sSeq (erS X.N d f sc) b)))
        unfold sFor
        split
        · exact s_bad
        · rename_i hset
          split
          · rename_i g o ht
            exact s_for G ht (by simpa using hset) (s_it G.toGood iE it) (iS b)
          · exact s_bad
    | Assign ts e p =>
      match ts with
      | [.Name y py] =>
        show PS X _ (RS P go X W (sAsg (swOk sc y py e) (slotOf X.N sc y) (erE X.N d sc e)))
        unfold sAsg
        split
        · rename_i hsw
          split
          · rename_i i hi
            cases hl : isLc e with
            | false => exact s_asg G hi hl (iE e)
            | true =>
              rcases isLc_no (sc := sc) hl with ⟨elt, gens, cs, p2, rfl⟩ | hno
              · exact s_asgLc G hi hsw
              · rw [hno y py] at hsw; cases hsw
          · exact s_bad
        · exact s_bad
      | [.Tuple ts kk q] =>
        show PS X _ (RS P go X W (sUnp (isLc e || isTup e) (tgOf X.N sc (.Tuple ts kk q)) (erE X.N d sc e)))
        unfold sUnp
        split
        · exact s_bad
        · rename_i hn
          have hn' : isLc e = false ∧ isTup e = false := by simpa using hn
          split
          · rename_i g ht
            exact s_unp G ht hn'.1 hn'.2 (iE e)
          · exact s_bad
      | [.Subscript o i q] =>
        show PS X _ (RS P go X W (if isSlice i then .bad else .setI (erE X.N d sc o) (erE X.N d sc i) (erE X.N d sc e)))
        split
        · exact s_bad
        · rename_i h; exact s_setI (iE e) (iE o) (iE i) (by simpa using h)
      | [.Attribute o m q] => exact s_setF G (iE e) (iE o)
      | [] => exact s_bad
      | t :: _ :: _ => cases t <;> exact s_bad
      | [.BoolOp ..] => exact s_bad
      | [.NamedExpr ..] => exact s_bad
      | [.BinOp ..] => exact s_bad
      | [.UnaryOp ..] => exact s_bad
      | [.Lambda ..] => exact s_bad
      | [.IfExp ..] => exact s_bad
      | [.Dict ..] => exact s_bad
      | [.Set ..] => exact s_bad
      | [.ListComp ..] => exact s_bad
      | [.SetComp ..] => exact s_bad
      | [.DictComp ..] => exact s_bad
      | [.GeneratorExp ..] => exact s_bad
      | [.Await ..] => exact s_bad
      | [.Yield ..] => exact s_bad
      | [.YieldFrom ..] => exact s_bad
      | [.Compare ..] => exact s_bad
      | [.Call ..] => exact s_bad
      | [.FormattedValue ..] => exact s_bad
      | [.JoinedStr ..] => exact s_bad
      | [.Constant ..] => exact s_bad
      | [.Starred ..] => exact s_bad
      | [.List ..] => exact s_bad
      | [.Slice ..] => exact s_bad
    | AugAssign tg op e p =>
      cases tg with
      | Name y py =>
        show PS X _ (RS P go X W (sAug (slotOf X.N sc y) (bop op) (erE X.N d sc e)))
        unfold sAug
        split
        · rename_i i hi ho
          exact s_aug G hi (.inl ⟨bop_unb ho, rfl⟩) (iE e)
        · rename_i i hi ho
          exact s_aug G hi (.inr ⟨bop_unb ho, rfl⟩) (iE e)
        · exact s_bad
      | _ => exact s_bad
    | Raise x cause p =>
      match x, cause with
      | some (.Call (.Name c q) [.Constant (.str m) j p2] [] p3), none =>
        show PS X _ (RS P go X W (if isGl sc c then .raiseT c else .bad))
        split
        · rename_i h; exact s_raiseT G h
        · exact s_bad
      | none, _ => exact s_bad
      | some x, some _ =>
        have : erS X.N d (f + 1) sc (.Raise (some x) (some ‹_›) p) = .bad := by
          unfold erS
          split <;> first | rfl | simp_all
        rw [this]
        exact s_bad
      | some x, none =>
        by_cases hx : ∃ c q m j p2 p3, x = .Call (.Name c q) [.Constant (.str m) j p2] [] p3
        · obtain ⟨c, q, m, j, p2, p3, rfl⟩ := hx
          show PS X _ (RS P go X W (if isGl sc c then .raiseT c else .bad))
          split
          · rename_i h; exact s_raiseT G h
          · exact s_bad
        · have : erS X.N d (f + 1) sc (.Raise (some x) none p) = .bad := by
            unfold erS
            split <;> first | rfl | simp_all
          rw [this]
          exact s_bad
    | _ => exact s_bad
end
end SI

set_option maxHeartbeats 4000000
/-! SI 17: how arguments bind. -/
namespace SI
open PySem L2 PySem.Spec PyProof.Rows
theorem zip_lookup {α : Type} {n : Str} : ∀ {ps : List Str} {us : List α}, n ∈ ps → us.length = ps.length → ((ps.zip us).lookup n).isSome = true
  | [], us, h, _ => by cases h
  | p :: ps, [], _, h => by cases h
  | p :: ps, u :: us, h, hl => by
    by_cases e : n = p
    · subst e; simp [List.lookup]
    · have e2 : (n == p) = false := by simpa using e
      have h2 : n ∈ ps := by
        rcases List.mem_cons.mp h with z | z
        · exact absurd z e
        · exact z
      simp only [List.zip_cons_cons, List.lookup, e2]
      exact zip_lookup h2 (by simpa using hl)
theorem zip_fm {α : Type} {l : List (Str × α)} : ∀ {ps : List Str} {us : List α}, us.length = ps.length → (∀ (i : Nat) n u, ps[i]? = some n → us[i]? = some u → l.lookup n = some u) → ps.filterMap (fun n => (l.lookup n).map (n, ·)) = ps.zip us
  | [], us, hl, _ => by simp
  | p :: ps, [], hl, _ => by cases hl
  | p :: ps, u :: us, hl, h => by
    have h0 := h 0 p u rfl rfl
    rw [List.filterMap_cons, h0]
    simp only [Option.map_some, List.zip_cons_cons, List.cons.injEq, true_and]
    exact zip_fm (by simpa using hl) fun i n w h1 h2 => h (i + 1) n w (by simpa using h1) (by simpa using h2)
theorem zip_at {α : Type} : ∀ {ps : List Str} {us : List α} {i : Nat} {n : Str} {u : α}, ps.Nodup → ps[i]? = some n → us[i]? = some u → (ps.zip us).lookup n = some u
  | [], _, _, _, _, _, h, _ => by simp at h
  | p :: ps, [], _, _, _, _, _, h => by simp at h
  | p :: ps, u :: us, 0, n, w, _, h1, h2 => by
    simp at h1 h2; subst h1; subst h2
    simp [List.lookup]
  | p :: ps, u :: us, i + 1, n, w, nd, h1, h2 => by
    have h1' : ps[i]? = some n := by simpa using h1
    have h2' : us[i]? = some w := by simpa using h2
    have hn : n ∈ ps := List.mem_of_getElem? h1'
    have e : (n == p) = false := by
      simp only [beq_eq_false_iff_ne]
      intro z; subst z
      exact (List.nodup_cons.mp nd).1 hn
    simp only [List.zip_cons_cons, List.lookup, e]
    exact zip_at (List.nodup_cons.mp nd).2 h1' h2'
theorem bind_plain {x qual : Str} {args : List Arg} {body : List Stmt} {scope : Scope} {kV doc pm : Value} {an : Option Addr} {cdv ct : Value} {us : List Value} (nd : (args.map (·.arg)).Nodup) (hl : us.length = (args.map (·.arg)).length) {dd : List Expr} :
    bindArgs (PySem.W.fnOf x qual { posonlyargs := [], args := args, vararg := none, kwonlyargs := [], kw_defaults := [], kwarg := none, defaults := dd } body scope .none kV doc pm an cdv ct) ⟨us, []⟩ = pure ((args.map (·.arg)).zip us) := by
  have hf : ∀ k, (List.filter (fun n => (((args.map (·.arg)).zip us).lookup n).isNone) ((args.map (·.arg)).take k)) = [] := fun k => by
    rw [List.filter_eq_nil_iff]
    intro n hn
    have := zip_lookup (List.mem_of_mem_take hn) hl
    simp [Option.isNone_iff_eq_none, Option.isSome_iff_ne_none.mp this]
  have h2 := zip_fm (l := (args.map (·.arg)).zip us) hl fun i n u h3 h4 => zip_at nd h3 h4
  have hns : notAStandIn Value.none = pure () := rfl
  unfold bindArgs
  simp only [PySem.W.fnOf, List.map_nil, List.nil_append, List.append_nil]
  generalize args.map (·.arg) = ps at *
  have hm : ∀ (ps : List Str) (us : List Value), us.length = ps.length → ∀ x ∈ ps, ∃ v, (x, v) ∈ ps.zip us := by
    intro ps
    induction ps with
    | nil => intro us _ x hx; cases hx
    | cons p ps ih =>
      intro us hl x hx
      cases us with
      | nil => cases hl
      | cons u us =>
        rcases List.mem_cons.mp hx with rfl | hx
        · exact ⟨u, by simp⟩
        · obtain ⟨v, hv⟩ := ih us (by simpa using hl) x hx
          exact ⟨v, by simp [hv]⟩
  simp [seqItems?, hf, h2, hl, hns]
  intro x hx hn
  obtain ⟨v, hv⟩ := hm ps us hl x hx
  exact absurd hv (hn v)
end SI

set_option maxHeartbeats 4000000
/-! SI 18: the table of a text's defs; every def keeps its promise at every depth. -/
namespace SI
open PySem L2 PySem.Spec PyProof.Rows
/-! ### reading the top -/
def dvOf : Expr → He.Dv
  | .Constant (.int i) _ _ => .int i
  | .Constant (.bool b) _ _ => .bl b
  | .Constant (.str s) _ _ => .str s
  | _ => .non
def dvD : He.Dv → D
  | .int i => .int i
  | .bl b => .bl b
  | .str s => .str s
  | _ => .non
def mkDef (at_ : Str × Option Str) (name qual : Str) (a : Arguments) (b : List Stmt) (sc : Scope) : He.DefD := ⟨at_, name, qual, a, b, sc, a.defaults.map dvOf, []⟩
/-- a class's methods: name, qualified name, parameters, body, scope -/
abbrev Meths := List (Str × Str × Arguments × List Stmt × Scope)
def methsOf (c : Str) (body : List Stmt) : Meths := body.filterMap fun st => match st with
  | .FunctionDef n a b _ _ _ sc _ _ _ => some (n, c ++ ("." : Str) ++ n, a, b, sc)
  | _ => none
def isExcBase : List Expr → List Str → Bool
  | [.Name b _], ex => (b == ("ValueError" : Str)) || ex.contains b
  | _, _ => false
def baseMeths : List Expr → List (Str × Meths) → Meths
  | [.Name b _], acc => (acc.lookup b).getD []
  | _, _ => []
/-- the defs, the plain classes met so far, the exceptions' classes met so far -/
def defsGo : List Stmt → List (Str × Meths) → List Str → List He.DefD
  | [], _, _ => []
  | st :: ss, cl, ex => match st with
    | .FunctionDef n a b _ _ _ sc _ _ _ => mkDef (n, none) n n a b sc :: defsGo ss cl ex
    | .ClassDef c bases _ body _ _ _ _ _ _ _ =>
      if isExcBase bases ex then defsGo ss cl (c :: ex)
      else
        let own := methsOf c body
        let all := own ++ (baseMeths bases cl).filter fun m => !(own.any fun o => o.1 == m.1)
        (all.map fun m => mkDef (c, some m.1) m.1 m.2.1 m.2.2.1 m.2.2.2.1 m.2.2.2.2) ++ defsGo ss ((c, all) :: cl) ex
    | _ => defsGo ss cl ex
def defsOf (body : List Stmt) : List He.DefD := defsGo body [] []
/-- the exceptions' classes without an own __init__ -/
def excsGo : List Stmt → List Str → List Str
  | [], _ => []
  | st :: ss, ex => match st with
    | .ClassDef c bases _ body _ _ _ _ _ _ _ => if isExcBase bases ex then (if (methsOf c body).isEmpty then c :: excsGo ss (c :: ex) else excsGo ss (c :: ex)) else excsGo ss ex
    | _ => excsGo ss ex
def constsOf (body : List Stmt) : List (Str × D) := body.filterMap fun st => match st with
  | .Assign [.Name x _] (.Constant (.int i) _ _) _ => some (x, .int i)
  | .Assign [.Name x _] (.Constant (.str s) _ _) _ => if x == ("__name__" : Str) then none else some (x, .str s)
  | _ => none
/-! ### a def as the interpreter has it -/
mutual
def lcE : Nat → Expr → List Str
  | 0, _ => []
  | f + 1, e => match e with
    | .ListComp elt gens cs _ => (cs.names.filterMap fun y => match y.2 with | .local => some y.1 | .cell => some y.1 | _ => none) ++ lcE f elt ++ gens.flatMap fun g => lcE f g.iter ++ g.ifs.flatMap (lcE f)
    | .BoolOp _ vs _ => vs.flatMap (lcE f)
    | .BinOp a _ b _ => lcE f a ++ lcE f b
    | .UnaryOp _ a _ => lcE f a
    | .Compare a _ bs _ => lcE f a ++ bs.flatMap (lcE f)
    | .Call fn es kws _ => lcE f fn ++ es.flatMap (lcE f) ++ kws.flatMap fun k => lcE f k.value
    | .Attribute a _ _ => lcE f a
    | .Subscript a b _ => lcE f a ++ lcE f b
    | .Tuple es _ _ => es.flatMap (lcE f)
    | .List es _ => es.flatMap (lcE f)
    | .Slice a b c _ => (a.map (lcE f)).getD [] ++ (b.map (lcE f)).getD [] ++ (c.map (lcE f)).getD []
    | .Dict ks vs _ => (ks.flatMap fun k => (k.map (lcE f)).getD []) ++ vs.flatMap (lcE f)
    | _ => []
end
def lcS : Nat → Stmt → List Str
  | 0, _ => []
  | f + 1, st => match st with
    | .Expr e _ => lcE 60 e
    | .Return (some e) _ => lcE 60 e
    | .If c a b _ => lcE 60 c ++ a.flatMap (lcS f) ++ b.flatMap (lcS f)
    | .While c b _ _ => lcE 60 c ++ b.flatMap (lcS f)
    | .For _ it b _ _ => lcE 60 it ++ b.flatMap (lcS f)
    | .Assign ts e _ => ts.flatMap (lcE 60) ++ lcE 60 e
    | .AugAssign _ _ e _ => lcE 60 e
    | .Raise (some e) _ _ => lcE 60 e
    | .Try b hs o fin _ => b.flatMap (lcS f) ++ (hs.flatMap fun h => match h with | .ExceptHandler _ _ bb _ => bb.flatMap (lcS f)) ++ o.flatMap (lcS f) ++ fin.flatMap (lcS f)
    | _ => []
def addNew : List Str → List Str → List Str
  | acc, [] => acc
  | acc, x :: xs => if acc.contains x then addNew acc xs else addNew (acc ++ [x]) xs
def psOf (d : He.DefD) : List Str := d.params.args.map (·.arg)
def namesOf (d : He.DefD) : List Str := addNew (addNew (psOf d) (d.scope.names.filterMap fun y => match y.2 with | .local => some y.1 | .cell => some y.1 | _ => none)) (d.body.flatMap (lcS 60))
def fnOf (d : He.DefD) : Fn := { np := d.params.args.length, ns := (namesOf d).length, dfl := d.dfl.map dvD, body := sSeq (erS (namesOf d) 60 60 d.scope) d.body }
def progOf (body : List Stmt) : Prog := { fns := (defsOf body).map fun d => (d.at_, fnOf d), consts := constsOf body, excs := excsGo body [] }
/-! ### what is looked at -/
def fsB (N ps : List Str) (sc : Scope) : Bool := (match sc.kind with | .function => true | _ => false) && (!sc.isCoroutine && (!sc.isGenerator && (decide N.Nodup && (decide (N.take ps.length = ps) &&
  ((ps.all fun x => match sc.names.lookup x with | some .local => true | some .cell => true | _ => false) && sc.names.all fun y => match y.2 with | .free => false | _ => true)))))
theorem fs_of {N ps : List Str} {sc : Scope} (h : fsB N ps sc = true) : FnScope N ps sc := by
  unfold fsB at h
  simp only [Bool.and_eq_true, Bool.not_eq_true', decide_eq_true_eq, List.all_eq_true] at h
  obtain ⟨h1, h2, h3, h4, h5, h6, h7⟩ := h
  refine ⟨?_, h2, h3, h4, h5, fun x hx => ?_, fun y hy e => ?_⟩
  · split at h1
    · assumption
    · cases h1
  · have := h6 x hx
    split at this
    · exact .inl (by assumption)
    · exact .inr (by assumption)
    · cases this
  · have := h7 y hy
    rw [e] at this
    cases this
def okDef (d : He.DefD) : Bool := fsB (namesOf d) (psOf d) d.scope && (d.params.posonlyargs.isEmpty && d.params.vararg.isNone && d.params.kwonlyargs.isEmpty && d.params.kw_defaults.isEmpty && d.params.kwarg.isNone && d.dfl.isEmpty && d.kwd.isEmpty && decide (psOf d).Nodup && !(d.at_.1 == ("__debug__" : Str)))
def faD (d : He.DefD) : List He.Fa := match d.at_ with
  | (x, none) => [.glo x]
  | (c, some m) => [.glo c, .cls c, .meth c m] ++ (if m = nInit then [.mkr c] else [])
def isCls (ds : List He.DefD) (c : Str) : Bool := ds.any fun d => d.at_.1 == c && d.at_.2.isSome
def faOf (body : List Stmt) : List He.Fa := (defsOf body).flatMap faD ++ (flds.flatMap fun p => if isCls (defsOf body) p.1 then [.cls p.1, .noat p.1 p.2] else [.free p.1]) ++ (excsGo body []).flatMap (fun c => [.glo c, .exc c])
  ++ bNames.map .free ++ (constsOf body).filterMap fun p => match p.2 with
    | .int i => some (.int p.1 i)
    | .str s => some (.str p.1 s)
    | _ => none
section
variable {fa : List He.Fa} {fn : List He.DefD} {K : Frag}
theorem says_fa (c : He.SaysD fa fn K) {f : He.Fa} (h : f ∈ fa) : f.ok K = true := by
  obtain ⟨i, hi⟩ := List.getElem?_of_mem h
  exact c.fact i hi
theorem says_fn (c : He.SaysD fa fn K) {d : He.DefD} (h : d ∈ fn) : ∃ fd, FunD K d.name d.qual d.params d.body d.scope (d.dvs K) (d.kws K) (He.fAd K d.at_) fd := by
  obtain ⟨i, hi⟩ := List.getElem?_of_mem h
  exact c.def_ i hi
end
theorem lookup_mem {α β : Type} [BEq α] [LawfulBEq α] {k : α} {v : β} : ∀ {l : List (α × β)}, l.lookup k = some v → (k, v) ∈ l
  | [], h => by cases h
  | (a, b) :: l, h => by
    unfold List.lookup at h
    split at h
    · rename_i e
      cases h
      have : k = a := by simpa using e
      subst this
      exact List.mem_cons_self
    · exact List.mem_cons_of_mem _ (lookup_mem h)
/-! ### one def, one level up -/
section
variable {P : Prog} {pr : Program} {w : World} {K : Frag} {mg : Str → Option Value} {base : Heap}
theorem fn_level {n : Nat} {d : He.DefD} {a : Addr} {fd : FuncData} (T : Tab P pr w K mg base (goI P n) (2 * n)) (F : FunD K d.name d.qual d.params d.body d.scope (d.dvs K) (d.kws K) a fd) (ok : okDef d = true) :
    FnOk pr w K mg base (CX pr w) (2 * (n + 1)) a fd (psOf d) (spG (goI P (n + 1)) K mg (fnOf d)) := by
  have ok1 := (Bool.and_eq_true_iff.mp ok).1
  have FS := fs_of ok1
  refine F.ok (CX := CX pr w) (k := 2 * n + 1) FS (fun vs H Q E h => ?_) (fun cdv A outer s H vs Q E hr h => ?_)
  · obtain ⟨r, ds, st, h1, h2, _⟩ := h
    rw [← h1.length, h2]
    simp [psOf, fnOf]
  · obtain ⟨r, ds, st, h1, h2, S, h⟩ := h
    refine ⟨rdS P (goI P n) K mg (fun cls d _ H => E cls d H) (fnOf d).body, ?_, ?_⟩
    · have G : GoodS P (goI P n) (2 * n) (cxOf (CX pr w) pr w K mg base (namesOf d) d.qual d.scope a cdv A outer s H E) d.scope (fun cls d _ H => E cls d H) :=
        { nd := FS.nd, calm := rfl, room := hr, tk := takes_of rfl rfl rfl rfl, tab := T, fnc := fun _ _ => rfl, scr := fun x kd h => .inl h, po := passes_of rfl, kind := FS.kind, scx := rfl, hs := rfl, hf := rfl }
      exact s_seq (X := cxOf (CX pr w) pr w K mg base (namesOf d) d.qual d.scope a cdv A outer s H E) fun t _ => sndS_all G 60 t
    · refine ⟨r, ds.map some ++ List.replicate ((fnOf d).ns - (fnOf d).np) none, st, ⟨?_, fun i dd hi => ?_⟩, S, ?_⟩
      · unfold L2.start
        simp only [List.length_append, List.length_map, List.length_replicate, h1.length, ← h2]
        rfl
      · unfold L2.start
        have hlt : i < ds.length := by
          by_cases hlt : i < ds.length
          · exact hlt
          · rw [List.getElem?_append_right (by simpa using hlt)] at hi
            have := List.mem_of_getElem? hi
            simp at this
        rw [List.getElem?_append_left (by simpa using hlt), List.getElem?_map] at hi
        cases q : ds[i]? with
        | none => rw [q] at hi; cases hi
        | some d0 =>
          rw [q] at hi
          cases hi
          obtain ⟨v, z1, z2⟩ := h1.get q
          refine ⟨v, ?_, z2⟩
          rw [List.getElem?_append_left (by simp [← h1.length, hlt]), List.getElem?_map, z1]
          rfl
      · have h' : PostR K mg r H (Out.fin (exS P (goI P n) (fnOf d).body (ds.map some ++ List.replicate ((fnOf d).ns - (fnOf d).np) none) st)) (OkE K H Q) E := h
        cases q : exS P (goI P n) (fnOf d).body (ds.map some ++ List.replicate ((fnOf d).ns - (fnOf d).np) none) st with
        | stuck => rw [q] at h'; exact h'
        | nx env st' =>
          rw [q] at h'
          intro r' H' σ' u s' _
          exact h' r' H' u s' _ rel_nonV
        | rt x st' =>
          rw [q] at h'
          intro r' H' v u s' hx
          exact h' r' H' u s' v hx
        | ex c fs env st' =>
          rw [q] at h'
          intro r' H' σ' cls od u s' _ hx
          exact h' r' H' cls od u s' hx
where
  rel_nonV {r : List Addr} {H0 H : Hp} : RelEv K r H0 H (.v .non) .non := by unfold RelEv Rel; rfl
end
end SI

set_option maxHeartbeats 4000000
/-! SI 19: the table at every depth; the end. -/
namespace SI
open PySem L2 PySem.Spec PyProof.Rows
section
variable {body : List Stmt} {pr : Program} {w : World} {K : Frag} {mg : Str → Option Value} {base h : Heap}
theorem def_of {key : Key} {f : Fn} (e : (progOf body).fns.lookup key = some f) : ∃ d ∈ defsOf body, d.at_ = key ∧ fnOf d = f := by
  have := lookup_mem e
  obtain ⟨d, hd, e2⟩ := List.mem_map.mp (show (key, f) ∈ (defsOf body).map fun d => (d.at_, fnOf d) from this)
  cases e2
  exact ⟨d, hd, rfl, rfl⟩
theorem fa_def {d : He.DefD} {x : He.Fa} (hd : d ∈ defsOf body) (hx : x ∈ faD d) : x ∈ faOf body := by
  unfold faOf
  simp only [List.append_assoc, List.mem_append]
  exact .inl (List.mem_flatMap.mpr ⟨d, hd, hx⟩)
theorem fa_fld {p : Str × Str} {x : He.Fa} (hp : p ∈ flds) (hx : x ∈ (if isCls (defsOf body) p.1 then [He.Fa.cls p.1, .noat p.1 p.2] else [.free p.1])) : x ∈ faOf body := by
  unfold faOf
  simp only [List.append_assoc, List.mem_append]
  exact .inr (.inl (List.mem_flatMap.mpr ⟨p, hp, hx⟩))
theorem fa_exc {c : Str} (hc : c ∈ excsGo body []) {x : He.Fa} (hx : x ∈ [He.Fa.glo c, .exc c]) : x ∈ faOf body := by
  unfold faOf
  simp only [List.append_assoc, List.mem_append]
  exact .inr (.inr (.inl (List.mem_flatMap.mpr ⟨c, hc, hx⟩)))
theorem fa_free {x : Str} (hx : x ∈ bNames) : He.Fa.free x ∈ faOf body := by
  unfold faOf
  simp only [List.append_assoc, List.mem_append]
  exact .inr (.inr (.inr (.inl (List.mem_map.mpr ⟨x, hx, rfl⟩))))
theorem fa_const {x : Str} {d : D} (hx : (x, d) ∈ constsOf body) : (∃ i, d = .int i ∧ He.Fa.int x i ∈ faOf body) ∨ (∃ s, d = .str s ∧ He.Fa.str x s ∈ faOf body) := by
  have key : ∀ f, (match d with | .int i => some (He.Fa.int x i) | .str s => some (.str x s) | _ => none) = some f → f ∈ faOf body := fun f hf => by
    unfold faOf
    simp only [List.append_assoc, List.mem_append]
    exact .inr (.inr (.inr (.inr (List.mem_filterMap.mpr ⟨(x, d), hx, hf⟩))))
  have hx2 := hx
  unfold constsOf at hx
  obtain ⟨st, _, e⟩ := List.mem_filterMap.mp hx
  split at e
  · cases e; exact .inl ⟨_, rfl, key _ rfl⟩
  · split at e
    · cases e
    · cases e; exact .inr ⟨_, rfl, key _ rfl⟩
  · cases e
theorem ok_of (ok : (defsOf body).all okDef = true) {d : He.DefD} (hd : d ∈ defsOf body) : okDef d = true := List.all_eq_true.mp ok d hd
theorem bnd_of {d : He.DefD} {a : Addr} {fd : FuncData} (F : FunD K d.name d.qual d.params d.body d.scope (d.dvs K) (d.kws K) a fd) (ok : okDef d = true) : Bnd K fd (psOf d) (fnOf d) := by
  have ok2 := (Bool.and_eq_true_iff.mp ok).2
  simp only [Bool.and_eq_true, List.isEmpty_iff, Option.isNone_iff_eq_none, decide_eq_true_eq] at ok2
  obtain ⟨⟨⟨⟨⟨⟨⟨⟨h1, h2⟩, h3⟩, h4⟩, h5⟩, h6⟩, h7⟩, h8⟩, h9⟩ := ok2
  obtain ⟨at_, name, qual, params, body, scope, dfl, kwd⟩ := d
  obtain ⟨po, args, va, ko, kd, kw, de⟩ := params
  simp only at h1 h2 h3 h4 h5 h6 h7
  subst h1 h2 h3 h4 h5 h6 h7
  refine ⟨by simp [psOf, fnOf], fun m hm hm2 => ⟨[], [], .nil, FunD.bindsN F fun kV doc pm an cdv ct us hl => bind_plain h8 hl, fun r H => ?_⟩⟩
  simp [fnOf]
  exact relL_nil
theorem tab_all (X : K.In h) (G : h.Ns mainGlobals mg) (c : He.SaysD (faOf body) (defsOf body) K) (ok : (defsOf body).all okDef = true) : ∀ n, Tab (progOf body) pr w K mg base (goI (progOf body) n) (2 * n) := by
  -- what the facts give of each def
  have each : ∀ {key : Key} {f : Fn}, (progOf body).fns.lookup key = some f → ∀ n, (∀ d ∈ defsOf body, ∀ fd, FunD K d.name d.qual d.params d.body d.scope (d.dvs K) (d.kws K) (He.fAd K d.at_) fd → FnOk pr w K mg base (CX pr w) (2 * n) (He.fAd K d.at_) fd (psOf d) (spG (goI (progOf body) n) K mg (fnOf d))) →
      ∃ d fd, d ∈ defsOf body ∧ d.at_ = key ∧ fnOf d = f ∧ FnOk pr w K mg base (CX pr w) (2 * n) (He.fAd K key) fd (psOf d) (spG (goI (progOf body) n) K mg f) ∧ PySem.W.keepIn K (.ref (He.fAd K key)) = true ∧ Bnd K fd (psOf d) f ∧ (key.1 == ("__debug__" : Str)) = false := fun {key f} e n hfn => by
    obtain ⟨d, hd, rfl, rfl⟩ := def_of e
    obtain ⟨fd, F⟩ := says_fn c hd
    have hok := ok_of ok hd
    refine ⟨d, fd, hd, rfl, rfl, hfn d hd fd F, F.kp, bnd_of F hok, ?_⟩
    have ok2 := (Bool.and_eq_true_iff.mp (Bool.and_eq_true_iff.mp hok).2).2
    simpa using ok2
  have build : ∀ n, (∀ d ∈ defsOf body, ∀ fd, FunD K d.name d.qual d.params d.body d.scope (d.dvs K) (d.kws K) (He.fAd K d.at_) fd → FnOk pr w K mg base (CX pr w) (2 * n) (He.fAd K d.at_) fd (psOf d) (spG (goI (progOf body) n) K mg (fnOf d))) → Tab (progOf body) pr w K mg base (goI (progOf body) n) (2 * n) := fun n hfn => by
    refine { fn := ?_, mt := ?_, mkr := ?_, na := ?_, cs := ?_, bi := ?_, ex := ?_ }
    · intro x f e
      obtain ⟨d, fd, hd, ha, rfl, F, hk, hB, hn⟩ := each e n hfn
      refine ⟨_, fd, _, F, ?_, hk, hB, hn⟩
      have := He.glo_ok X G (says_fa c (fa_def (x := .glo x) hd (by unfold faD; rw [ha]; simp)))
      exact this
    · intro cc m f C e hC
      obtain ⟨d, fd, hd, ha, rfl, F, hk, hB, hn⟩ := each e n hfn
      have g1 := He.glo_ok X G (says_fa c (fa_def (x := .glo cc) hd (by unfold faD; rw [ha]; simp)))
      have g2 := He.meth_ok (says_fa c (fa_def (x := .meth cc m) hd (by unfold faD; rw [ha]; simp)))
      have g3 := He.cls_ok (says_fa c (fa_def (x := .cls cc) hd (by unfold faD; rw [ha]; simp)))
      rw [g1] at hC
      cases hC
      exact ⟨_, fd, _, F, g2, hB, g3⟩
    · intro cc f e
      obtain ⟨d, fd, hd, ha, rfl, F, hk, hB, hn⟩ := each e n hfn
      have g1 := He.glo_ok X G (says_fa c (fa_def (x := .glo cc) hd (by unfold faD; rw [ha]; simp)))
      have g2 := He.mkr_ok (says_fa c (fa_def (x := .mkr cc) hd (by unfold faD; rw [ha]; simp)))
      refine ⟨_, g1, hn, fun a hm => ?_⟩
      obtain ⟨m1, m2, m3⟩ := hm
      have e1 := g2.init
      rw [m1] at e1
      have e2 : a = He.ma K (He.ga K cc) "__init__" := by
        have := Option.some.inj (Option.some.inj e1)
        cases this
        rfl
      rw [e2]
      exact g2
    · intro cc f C hf hC
      have hmem : (cc, f) ∈ flds := by simpa using hf
      cases q : isCls (defsOf body) cc with
      | true =>
        obtain ⟨d, hd, hq⟩ := List.any_eq_true.mp q
        have hq' : d.at_.1 = cc ∧ d.at_.2.isSome = true := by simpa using hq
        obtain ⟨e1, e2⟩ := hq'
        obtain ⟨m, hm⟩ := Option.isSome_iff_exists.mp e2
        have ha : d.at_ = (cc, some m) := by rw [← e1, ← hm]
        have g1 := He.glo_ok X G (says_fa c (fa_def (x := .glo cc) hd (by unfold faD; rw [ha]; simp)))
        rw [g1] at hC
        cases hC
        exact ⟨He.cls_ok (says_fa c (fa_fld (p := (cc, f)) (x := .cls cc) hmem (by rw [q]; simp))), He.noat_ok (says_fa c (fa_fld (p := (cc, f)) (x := .noat cc f) hmem (by rw [q]; simp)))⟩
      | false =>
        have g := He.free_ok X G (says_fa c (fa_fld (p := (cc, f)) (x := .free cc) hmem (by rw [q]; simp)))
        rw [g] at hC
        cases hC
    · intro x d e
      rcases fa_const (lookup_mem (show (constsOf body).lookup x = some d from e)) with ⟨i, rfl, hf⟩ | ⟨s, rfl, hf⟩
      · obtain ⟨t, ht⟩ := He.int_ok X G (says_fa c hf)
        exact ⟨_, .int i, ht, ⟨t, rfl⟩, fun r H => by unfold Rel; rfl⟩
      · obtain ⟨t, ht⟩ := He.str_ok X G (says_fa c hf)
        exact ⟨_, .str s, ht, ⟨t, rfl⟩, fun r H => by unfold Rel; rfl⟩
    · intro x hx
      exact He.free_ok X G (says_fa c (fa_free hx))
    · intro cc hc
      have hmem : cc ∈ excsGo body [] := by simpa [progOf] using hc
      have g1 := He.glo_ok X G (says_fa c (fa_exc hmem (x := .glo cc) (by simp)))
      obtain ⟨x1, x2, x3, x4⟩ := He.exc_ok (says_fa c (fa_exc hmem (x := .exc cc) (by simp)))
      exact ⟨_, g1, ⟨x1, x2, x3, x4⟩⟩
  intro n
  induction n with
  | zero =>
    refine build 0 fun d hd fd F => ⟨fun vs H Q E hsp => ?_, fun A outer s H args us vs Q E hr he hb hv hsp => ?_⟩
    · obtain ⟨r, ds, st, _, _, _, hp⟩ := hsp
      exact hp.elim
    · obtain ⟨r, ds, st, _, _, _, hp⟩ := hsp
      exact hp.elim
  | succ n ih => exact build (n + 1) fun d hd fd F => fn_level ih F (ok_of ok hd)
/-- what the end asks of the law's own def -/
theorem law_ok {n : Nat} {d : He.DefD} (X : K.In h) (G : h.Ns mainGlobals mg) (c : He.SaysD (faOf body) (defsOf body) K) (ok : (defsOf body).all okDef = true) (hd : d ∈ defsOf body) (ha : d.at_ = (("law" : Str), (none : Option Str))) (hp : psOf d = ([("_law_script" : Str)] : List Str))
    (hk : d.dfl = [] ∧ d.kwd = []) {fa : Addr} (hfa : mg ("law" : Str) = some (.ref fa)) (hpl : d.params = { posonlyargs := [], args := d.params.args, vararg := none, kwonlyargs := [], kw_defaults := [], kwarg := none, defaults := d.params.defaults }) :
    ∃ fd : FuncData, (∀ (s : Shared) (v : Value), BindsTo s fd ⟨[v], []⟩ [(("_law_script" : Str), v)]) ∧ ∀ base : Heap, FnOk pr w K mg base (CX pr w) (2 * (n + 1)) fa fd ([("_law_script" : Str)] : List Str) (spG (goI (progOf body) (n + 1)) K mg (fnOf d)) := by
  obtain ⟨fd, F⟩ := says_fn c hd
  have g1 := He.glo_ok X G (says_fa c (fa_def (x := .glo "law") hd (by unfold faD; rw [ha]; simp)))
  rw [g1] at hfa
  cases hfa
  have hok := ok_of ok hd
  have e1 : He.fAd K d.at_ = He.ga K "law" := by rw [ha]; rfl
  refine ⟨fd, fun s v => ?_, fun base => ?_⟩
  · obtain ⟨hk1, hk2⟩ := hk
    have F' : FunD K d.name d.qual d.params d.body d.scope [] [] (He.fAd K d.at_) fd := by
      have := F
      unfold He.DefD.dvs He.DefD.kws at this
      rw [hk1, hk2] at this
      exact this
    rw [hpl] at F'
    have nd : (d.params.args.map (·.arg)).Nodup := by
      have : d.params.args.map (·.arg) = ([("_law_script" : Str)] : List Str) := hp
      rw [this]; simp
    have := FunD.bindsA (ps := d.params.args.map (·.arg)) F' (fun kV doc pm an cdv ct us hl => bind_plain nd hl) s [v] (by
      have : d.params.args.map (·.arg) = ([("_law_script" : Str)] : List Str) := hp
      rw [this]; rfl)
    have e2 : d.params.args.map (·.arg) = ([("_law_script" : Str)] : List Str) := hp
    rw [e2] at this
    exact this
  · have := fn_level (pr := pr) (w := w) (base := base) (n := n) (tab_all X G c ok n) F hok
    rw [hp, e1] at this
    exact this
/-- the law's promise from a run of the interpreter -/
theorem sp_law {n : Nat} {f : Fn} {H : Hp} {a : Addr} {ns : List Int} {st : Store} (hnp : f.np = 1) (hO : L2.Only H) (hS : SqL K H a (ns.map V.int)) (run : goI (progOf body) n f [.ro (ns.map D.int)] [] = .ok (.v (.bl true)) st) :
    spG (goI (progOf body) n) K mg f [.ref a] H (fun v _ => v = .bl true) fun _ _ _ => False := by
  refine ⟨[], [.ro (ns.map D.int)], [], relL_cons ?_ relL_nil, hnp.symm ▸ rfl, ⟨rfl, fun n m b h => by simp at h, fun n b cc h => by simp at h⟩, ?_⟩
  · unfold Rel
    refine ⟨a, ns.map V.int, rfl, ?_, ?_⟩
    · rcases hS with (hS | ⟨o, hS⟩) | hS
      · rcases hO a with q | ⟨o, xs, q⟩
        · rw [q] at hS; cases hS
        · rw [q] at hS; cases hS
      · exact .inl ⟨o, hS⟩
      · exact .inr hS
    · clear hS run
      induction ns with
      | nil => exact relL_nil
      | cons i ns ih => exact relL_cons (by unfold Rel; rfl) ih
  · rw [run]
    intro r' H' _ _ v hv
    unfold RelEv Rel at hv
    exact hv
end
end SI

set_option maxHeartbeats 4000000
/-! SI 20: a law from a run of the interpreter. -/
namespace SI
open PySem L2 PySem.Spec PyProof.Rows
def isLaw (k : Key) : Bool := decide (k = (("law" : Str), (none : Option Str)))
/-- what the end asks of the law's own def -/
def lawB (d : He.DefD) : Bool := !isLaw d.at_ || (decide (psOf d = ([("_law_script" : Str)] : List Str)) && (d.dfl.isEmpty && (d.kwd.isEmpty && (d.params.posonlyargs.isEmpty && (d.params.vararg.isNone && (d.params.kwonlyargs.isEmpty && (d.params.kw_defaults.isEmpty && d.params.kwarg.isNone)))))))
theorem walk_law {l : PySem.W.OpenLaw} {body : List Stmt} {q : Program} {loose : List Str} {XP : (Str → Option Value) → Heap → Prop} {d : DefRec} {m : Nat} {f : Fn} (n : Nat)
    (hn : l.most = some m) (hm : m ≤ sizeLine) (hdf : d.params.defaults = []) (hr : Room (2 * (n + 1)) callerA) (hname : d.name = ("law" : Str)) (ok : (defsOf body).all okDef = true) (okl : (defsOf body).all lawB = true)
    (hf : (progOf body).fns.lookup (("law" : Str), (none : Option Str)) = some f) (hnp : f.np = 1)
    (runs : ∀ ns : List Int, ns.length ≤ m → ∃ st, goI (progOf body) (n + 1) f [.ro (ns.map D.int)] [] = .ok (.v (.bl true)) st) :
    PySem.W.WalkO q loose XP (He.hookD 6 (faOf body) (defsOf body)).says l.row.toRowW d [] (fun f vs => PySem.call f vs) := by
  obtain ⟨dd, hd, ha, rfl⟩ := def_of hf
  have hb := List.all_eq_true.mp okl dd hd
  unfold lawB isLaw at hb
  rw [ha, decide_eq_true rfl] at hb
  simp only [Bool.not_true, Bool.false_or, Bool.and_eq_true, List.isEmpty_iff, Option.isNone_iff_eq_none, decide_eq_true_eq] at hb
  obtain ⟨hp, k1, k2, h1, h2, h3, h4, h5⟩ := hb
  have hpl : dd.params = { posonlyargs := [], args := dd.params.args, vararg := none, kwonlyargs := [], kw_defaults := [], kwarg := none, defaults := dd.params.defaults } := by
    obtain ⟨at_, name, qual, params, body, scope, dfl, kwd⟩ := dd
    obtain ⟨po, args, va, ko, kd, kw, de⟩ := params
    simp only at h1 h2 h3 h4 h5
    subst h1 h2 h3 h4 h5
    rfl
  refine Att.attach_call hn hdf fun w s₀ s₁ mg mb fa o pm cd doc a vs ns G Y ho hd' hcd hmg hobj hints hlen hg => ?_
  obtain ⟨K, KX, c⟩ := Y
  rw [hname] at hmg
  obtain ⟨fd, hb, hF⟩ := law_ok (pr := l.prog) (w := w) (n := n) KX G.T.g c ok hd ha hp ⟨k1, k2⟩ hmg hpl
  refine law_call KX G.T.g G.T.b G.T.builtins G.T.nolimit hg hobj hints (Nat.le_trans hlen hm) hr (fun base _ _ => hF base) hb (fun H hO hS => ?_) fun H e s' z => ?_
  · obtain ⟨st, e⟩ := runs ns hlen
    exact sp_law hnp hO hS e
  · obtain ⟨_, _, _, _, _, _, _, _, _, _, _, _, z⟩ := z
    exact z
end SI

set_option maxHeartbeats 1000000
/-! SI 21: reasoning over runs. -/
namespace SI
open PySem
def OutP (r : Out) (N : Env → Store → Prop) (T : Ev → Store → Prop) : Prop := match r with
  | .nx e s => N e s
  | .rt v s => T v s
  | _ => False
def RP {α : Type} (r : R α) (Q : α → Store → Prop) : Prop := match r with
  | .ok v s => Q v s
  | _ => False
theorem RP.of {α : Type} {r : R α} {v : α} {s : Store} {Q : α → Store → Prop} (h : r = .ok v s) (q : Q v s) : RP r Q := by rw [h]; exact q
theorem RP.eq {α : Type} {r : R α} {Q : α → Store → Prop} (h : RP r Q) : ∃ v s, r = .ok v s ∧ Q v s := by
  cases r with
  | ok v s => exact ⟨v, s, rfl, h⟩
  | ex => exact h.elim
  | stuck => exact h.elim
section
variable {P : Prog} {go : Go} {a b : S} {c : E} {env e : Env} {st s : Store} {N N' : Env → Store → Prop} {T : Ev → Store → Prop}
theorem OutP.bind {r : Out} {f : Env → Store → Out} (h : OutP r N T) (k : ∀ e s, N e s → OutP (f e s) N' T) : OutP (r.bind f) N' T := by
  cases r with
  | nx e s => exact k e s h
  | rt v s => exact h
  | ex => exact h.elim
  | stuck => exact h.elim
theorem OutP.mono {r : Out} {T' : Ev → Store → Prop} (h : OutP r N T) (k : ∀ e s, N e s → N' e s) (k' : ∀ v s, T v s → T' v s) : OutP r N' T' := by
  cases r with
  | nx e s => exact k e s h
  | rt v s => exact k' v s h
  | ex => exact h.elim
  | stuck => exact h.elim
theorem sN (h : exS P go a env st = .nx e s) (k : OutP (exS P go b e s) N T) : OutP (exS P go (.seq a b) env st) N T := by
  show OutP ((exS P go a env st).bind _) N T
  rw [h]; exact k
theorem sP (h : OutP (exS P go a env st) N' T) (k : ∀ e s, N' e s → OutP (exS P go b e s) N T) : OutP (exS P go (.seq a b) env st) N T := OutP.bind h k
theorem sR {x : E} {v : Ev} (h : evE P go x env st = .ok v s) (k : T v s) : OutP (exS P go (.ret x) env st) N T := by
  show OutP ((evE P go x env st).out env _) N T
  rw [h]; exact k
theorem sI {k : Bool} (h : evT P go c env st = .ok k s) (h1 : k = true → OutP (exS P go a env s) N T) (h2 : k = false → OutP (exS P go b env s) N T) : OutP (exS P go (.ifs c a b) env st) N T := by
  show OutP ((evT P go c env st).out env _) N T
  rw [h]
  cases k with
  | true => exact h1 rfl
  | false => exact h2 rfl
theorem fin_ok {r : Out} {Q : Ev → Store → Prop} (h : OutP r (fun _ s => Q (.v .non) s) Q) : RP r.fin Q := by
  cases r with
  | nx e s => exact h
  | rt v s => exact h
  | ex => exact h.elim
  | stuck => exact h.elim
theorem forGo_ind {cur : Cur} {g : List Nat} {one : Bool} {body : Env → Store → Out} {ds : List D} (I : Nat → Env → Store → Prop) (hc : ∀ i e s, I i e s → cur s = some ds)
    (hb : ∀ i d e s, ds[i]? = some d → I i e s → ∃ e', bindG g one d e = some e' ∧ OutP (body e' s) (I (i + 1)) T) : ∀ k i e s, ds.length ≤ i + k → i ≤ ds.length → I i e s → OutP (forGo cur g one body k i e s) (I ds.length) T
  | 0, i, e, s, h1, h2, h => by
    unfold forGo
    rw [hc _ _ _ h]
    have : i = ds.length := by omega
    subst this
    simp only [Nat.le_refl, if_true]
    exact h
  | k + 1, i, e, s, h1, h2, h => by
    unfold forGo
    rw [hc _ _ _ h]
    show OutP (match ds[i]? with | none => _ | some d => _) _ _
    cases q : ds[i]? with
    | none =>
      have : i = ds.length := by
        have := List.getElem?_eq_none_iff.mp q
        omega
      subst this
      exact h
    | some d =>
      obtain ⟨e', h3, h4⟩ := hb i d e s q h
      simp only
      rw [h3]
      have hlt : i < ds.length := by
        rcases List.getElem?_eq_some_iff.mp q with ⟨z, _⟩
        exact z
      exact OutP.bind h4 fun e2 s2 h5 => forGo_ind I hc hb k (i + 1) e2 s2 (by omega) (by omega) h5
/-- for, by an invariant -/
theorem sF {g : List Nat} {one : Bool} {it : Wk} {cur : Cur} {ds : List D} (h : evI P go it env st = .ok cur s) (I : Nat → Env → Store → Prop) (hc : ∀ i e s, I i e s → cur s = some ds) (h0 : I 0 env s)
    (hb : ∀ i d e s, ds[i]? = some d → I i e s → ∃ e', bindG g one d e = some e' ∧ OutP (exS P go b e' s) (I (i + 1)) T) : OutP (exS P go (.loop g one it b) env st) (I ds.length) T := by
  show OutP ((evI P go it env st).out env _) _ T
  rw [h]
  have e : turns cur s = ds.length := by
    unfold turns
    rw [hc _ _ _ h0]
  exact forGo_ind I hc hb (turns cur s) 0 env s (by rw [e]; omega) (Nat.zero_le _) h0
theorem whGo_ind {cnd : Env → Store → R Bool} {body : Env → Store → Out} (I : Nat → Env → Store → Prop) {N : Env → Store → Prop} (hb : ∀ m e s, I m e s → RP (cnd e s) fun k s' => if k then 0 < m ∧ OutP (body e s') (I (m - 1)) T else N e s') : ∀ k m e s, m < k → I m e s → OutP (whGo cnd body k e s) N T
  | 0, m, e, s, h1, h => by omega
  | k + 1, m, e, s, h1, h => by
    unfold whGo
    obtain ⟨b, s', q1, q2⟩ := (hb m e s h).eq
    rw [q1]
    show OutP (if b then _ else _) _ _
    cases b with
    | true =>
      obtain ⟨q2, q3⟩ := q2
      exact OutP.bind q3 fun e2 s2 h5 => whGo_ind I hb k (m - 1) e2 s2 (by omega) h5
    | false => exact q2
/-- while, by an invariant over the turns that may be left -/
theorem sW (I : Nat → Env → Store → Prop) {N : Env → Store → Prop} (m : Nat) (hm : m < 1000000) (h0 : I m env st) (hb : ∀ m e s, I m e s → RP (evT P go c e s) fun k s' => if k then 0 < m ∧ OutP (exS P go b e s') (I (m - 1)) T else N e s') : OutP (exS P go (.whl c b) env st) N T :=
  whGo_ind I hb _ m env st hm h0
theorem sA {x : E} {v : Ev} {i : Nat} {e' : Env} {s' : Store} (h : evE P go x env st = .ok v s) (he : env.set i (some (mat v s).1) = e') (hs : (mat v s).2 = s') (k : OutP (exS P go b e' s') N T) : OutP (exS P go (.seq (.asg i x) b) env st) N T := by
  refine sN ?_ k
  show (evE P go x env st).out env _ = _
  rw [h, ← he, ← hs]; rfl
/-- a guard that lets pass -/
theorem s0 (h : evT P go c env st = .ok false s) (k : OutP (exS P go b env s) N T) : OutP (exS P go (.seq (.ifs c a .nop) b) env st) N T := by
  refine sN ?_ k
  show (evT P go c env st).out env _ = _
  rw [h]; rfl
/-- an if ahead of more -/
theorem sB {a' : S} {k : Bool} (h : evT P go c env st = .ok k s) (h1 : k = true → OutP (exS P go a env s) N' T) (h2 : k = false → OutP (exS P go a' env s) N' T) (kk : ∀ e s, N' e s → OutP (exS P go b e s) N T) : OutP (exS P go (.seq (.ifs c a a') b) env st) N T :=
  sP (sI h h1 h2) kk
theorem sX {x : E} {v : Ev} (h : evE P go x env st = .ok v s) (k : OutP (exS P go b env s) N T) : OutP (exS P go (.seq (.expr x) b) env st) N T := by
  refine sN ?_ k
  show (evE P go x env st).out env _ = _
  rw [h]; rfl
theorem sRt {x : E} {v : Ev} (h : evE P go x env st = .ok v s) (k : T v s) : OutP (exS P go (.seq (.ret x) b) env st) N T := by
  show OutP ((exS P go (.ret x) env st).bind _) N T
  have : exS P go (.ret x) env st = .rt v s := by
    show (evE P go x env st).out env _ = _
    rw [h]; rfl
  rw [this]; exact k
theorem sNop (h : N env st) : OutP (exS P go .nop env st) N T := h
/-- append of a plain value -/
theorem app1 {x : E} {d : D} {i n : Nat} {ds : List D} (hi : env[i]? = some (some (.ref n))) (h : evE P go x env st = .ok (.v d) s) (h0 : ∃ ds0, st[n]? = some (.lst ds0)) (hn : s[n]? = some (.lst ds)) (hl : ds.length < lim) : evE P go (.bm .append (.loc i) (.cons x .nil)) env st = .ok (.v .non) (s.set n (.lst (ds ++ [d]))) := by
  have e1 : evE P go (.loc i) env st = .ok (.v (.ref n)) st := by
    unfold evE; rw [hi]
  have e2 : evEs P go (.cons x .nil) env st = .ok [.v d] s := by
    show ((evE P go x env st).bind _) = _
    rw [h]; rfl
  unfold evE
  rw [e1]
  obtain ⟨ds0, h0⟩ := h0
  show (if bmRecv .append (.v (.ref n)) st = true then _ else _) = _
  have : bmRecv .append (.v (.ref n)) st = true := by
    unfold bmRecv; simp only; rw [h0]
  rw [if_pos this, e2]
  show bAppend n (.v d) s = _
  unfold bAppend
  show (match s[n]? with | some (.lst ds) => _ | _ => _) = _
  rw [hn]
  show (if ds.length < lim then _ else _) = _
  rw [if_pos hl]; rfl
/-- a def's run -/
theorem fnP {n : Nat} {f : Fn} {as : List D} {Q : Ev → Store → Prop} (h : OutP (exS P (goI P n) f.body (as.map some ++ List.replicate (f.ns - f.np) none) st) (fun _ s => Q (.v .non) s) Q) : RP (goI P (n + 1) f as st) Q := fin_ok h
theorem callE {f : Str} {fn : Fn} {es : Es} {xs : List Ev} {r : R Ev} (hf : P.fns.lookup (f, none) = some fn) (ht : fn.takes (esLen es) = true) (h : evEs P go es env st = .ok xs s) (hr : go fn (fn.full (mats xs s).1) (mats xs s).2 = r) : evE P go (.call f es) env st = r := by
  unfold evE
  rw [hf]
  show (if fn.takes (esLen es) = true then _ else _) = r
  rw [if_pos ht, h]
  exact hr
end
end SI

set_option maxHeartbeats 1000000
/-! SI 22: lists of whole numbers. -/
namespace SI
open PySem
def iD (l : List Int) : List D := l.map D.int
theorem slD_to {ds : List D} {k : Nat} : slD ds none (some (k : Int)) = ds.take k := by
  unfold slD
  rw [HT.sIx_nat, HT.sIx_none]
  simp only [List.drop_zero, Nat.sub_zero]
  rw [← List.take_take, List.take_of_length_le (Nat.le_refl _)]
theorem sl_to {P : Prog} {go : Go} {a : E} {env : Env} {st s : Store} {x : Ev} {ds : List D} (k : Nat) (h : evE P go a env st = .ok x s) (hl : lstE s x = some ds) : evE P go (.sl a none (some (.int (k : Int)))) env st = .ok (.t (ds.take k)) s := by
  unfold evE
  rw [h]
  show (match lstE s x with | some ds => R.ok (Ev.t (slD ds none (some (k : Int)))) s | none => .stuck) = _
  rw [hl]
  show R.ok (Ev.t (slD ds none (some (k : Int)))) s = _
  rw [slD_to]
theorem rng_get {lo hi : Int} {i : Nat} {d : D} (h : (rngL lo hi)[i]? = some d) : d = .int (lo + (i : Int)) ∧ (i : Int) < hi - lo := by
  unfold rngL at h
  rw [List.getElem?_map] at h
  cases q : (List.range (hi - lo).toNat)[i]? with
  | none => rw [q] at h; cases h
  | some j =>
    rw [q] at h
    obtain ⟨hj, e⟩ := List.getElem?_eq_some_iff.mp q
    simp only [List.length_range] at hj
    simp only [List.getElem_range] at e
    subst e
    cases h
    exact ⟨rfl, by omega⟩
theorem rng_len {lo hi : Int} : (rngL lo hi).length = (hi - lo).toNat := by simp [rngL]
theorem atD_nat {ds : List D} {i : Nat} {d : D} (h : ds[i]? = some d) : atD ds (i : Int) = some d := L2.atI_nat h
section
variable {P : Prog} {go : Go} {a b c : E} {env : Env} {st s s' s'' : Store} {x y z : Ev} {ds : List D} {d : D}
theorem evLoc {i : Nat} (h : env[i]? = some (some d)) : evE P go (.loc i) env st = .ok (.v d) st := by
  unfold evE; rw [h]
theorem evLen (h : evE P go a env st = .ok x s) (hx : items s x = some ds) : evE P go (.bi .len (.cons a .nil)) env st = .ok (.v (.int ds.length)) s := by
  show ((((evE P go a env st).bind fun x st1 => (R.ok [] st1).bind fun xs st2 => R.ok (x :: xs) st2)).bind fun xs st1 => R.of (biD .len xs st1) st1) = _
  rw [h]
  show R.of (bLen [x] s) s = _
  have : bLen [x] s = some (.v (.int ds.length)) := by
    unfold bLen
    cases x with
    | t l => cases hx; rfl
    | v d => cases d with
      | str z => cases hx
      | _ => simp only [hx, Option.map_some]
  rw [this]; rfl
theorem evIdx {k : Int} (h : evE P go a env st = .ok x s) (h2 : evE P go b env s = .ok (.v (.int k)) s') (hx : items s' x = some ds) (hd : atD ds k = some d) : evE P go (.idx a b) env st = .ok (.v d) s' := by
  unfold evE
  rw [h]
  show ((evE P go b env s).bind _) = _
  rw [h2]
  show (match items s' x, Ev.v (D.int k) with | some ds, Ev.v (D.int i) => (match atD ds i with | some d => R.ok (Ev.v d) s' | none => R.stuck) | _, _ => R.stuck) = _
  rw [hx]
  simp only [hd]
theorem evBin {op : BOp} (h : evE P go a env st = .ok x s) (h2 : evE P go b env s = .ok y s') (e : binD op x y s' = some z) : evE P go (.bin op a b) env st = .ok z s' := by
  unfold evE
  rw [h]
  show ((evE P go b env s).bind _) = _
  rw [h2]
  show R.of (binD op x y s') s' = _
  rw [e]; rfl
theorem evCmp {op : COp} {k : Bool} (h : evE P go a env st = .ok x s) (h2 : evE P go b env s = .ok y s') (e : cmpD op x y s' = some k) : evE P go (.cmp op a b) env st = .ok (.v (.bl k)) s' := by
  unfold evE
  rw [h]
  show ((evE P go b env s).bind _) = _
  rw [h2]
  show R.of ((cmpD op x y s').map bV) s' = _
  rw [e]; rfl
theorem evsN : evEs P go .nil env st = .ok [] st := rfl
theorem evsC {es : Es} {xs : List Ev} (h : evE P go a env st = .ok x s) (h2 : evEs P go es env s = .ok xs s') : evEs P go (.cons a es) env st = .ok (x :: xs) s' := by
  unfold evEs
  rw [h]
  show ((evEs P go es env s).bind _) = _
  rw [h2]; rfl
theorem evs1 (h : evE P go a env st = .ok x s) : evEs P go (.cons a .nil) env st = .ok [x] s := evsC h evsN
theorem evs2 (h : evE P go a env st = .ok x s) (h2 : evE P go b env s = .ok y s') : evEs P go (.cons a (.cons b .nil)) env st = .ok [x, y] s' := evsC h (evs1 h2)
theorem evRng {j : Int} (h : evE P go a env st = .ok (.v (.int j)) s) (hj : -4611686018427387904 ≤ j ∧ j < 4611686018427387904) : evI P go (.rng (.cons a .nil)) env st = .ok (fun _ => some (rngL 0 j)) s := by
  have hk : rngOk j = true := by
    unfold rngOk
    rw [Bool.and_eq_true_iff]
    exact ⟨decide_eq_true hj.1, decide_eq_true hj.2⟩
  unfold evI
  rw [evs1 h]
  show (match (if rngOk j then some fun _ => some (rngL 0 j) else none : Option Cur) with | some cur => R.ok cur s | none => .stuck) = _
  rw [if_pos hk]
theorem evRng2 {i j : Int} (h : evE P go a env st = .ok (.v (.int i)) s) (h2 : evE P go b env s = .ok (.v (.int j)) s') (hi : -4611686018427387904 ≤ i ∧ i < 4611686018427387904) (hj : -4611686018427387904 ≤ j ∧ j < 4611686018427387904) :
    evI P go (.rng (.cons a (.cons b .nil))) env st = .ok (fun _ => some (rngL i j)) s' := by
  have hk : rngOk j = true := by
    unfold rngOk
    rw [Bool.and_eq_true_iff]
    exact ⟨decide_eq_true hj.1, decide_eq_true hj.2⟩
  have hk2 : rngOk i = true := by
    unfold rngOk
    rw [Bool.and_eq_true_iff]
    exact ⟨decide_eq_true hi.1, decide_eq_true hi.2⟩
  unfold evI
  rw [evs2 h h2]
  show (match (if rngOk i && rngOk j then some fun _ => some (rngL i j) else none : Option Cur) with | some cur => R.ok cur s' | none => .stuck) = _
  rw [hk, hk2]; rfl
theorem evSeq {n : Nat} (h : evE P go a env st = .ok (.v (.ref n)) s) (hn : s[n]? = some (.lst ds)) : evI P go (.seq a) env st = .ok (fun s => items s (.v (.ref n))) s := by
  unfold evI
  rw [h]
  show (match (match s[n]? with | some (.lst _) => some fun s => items s (.v (.ref n)) | _ => none : Option Cur) with | some cur => R.ok cur s | none => .stuck) = _
  rw [hn]
theorem evSeqT (h : evE P go a env st = .ok (.t ds) s) : evI P go (.seq a) env st = .ok (fun _ => some ds) s := by
  unfold evI
  rw [h]; rfl
theorem evSeqTup (h : evE P go a env st = .ok (.v (.tup ds)) s) : evI P go (.seq a) env st = .ok (fun _ => some ds) s := by
  unfold evI
  rw [h]; rfl
theorem itRef {n : Nat} (h : st[n]? = some (.lst ds)) : items st (.v (.ref n)) = some ds := by
  show (match st[n]? with | some (.lst ds) => some ds | _ => none) = _
  rw [h]
/-- a def's call with values -/
theorem evCall {f : Str} {fn : Fn} {es : Es} {xs : List Ev} {v : Ev} (hf : P.fns.lookup (f, none) = some fn) (ht : fn.takes (esLen es) = true) (h : evEs P go es env st = .ok xs s) (hr : go fn (fn.full (mats xs s).1) (mats xs s).2 = .ok v s') : evE P go (.call f es) env st = .ok v s' := callE hf ht h hr
theorem tE {k : Bool} (h : evE P go c env st = .ok (.v (.bl k)) s) (hc : match c with | .and _ _ => False | .or _ _ => False | .not _ => False | _ => True) : evT P go c env st = .ok k s := by
  cases c <;> first | exact hc.elim | (unfold evT; rw [h]; rfl)
theorem tAnd {k : Bool} (h : evT P go a env st = .ok k s) (h2 : k = true → evT P go b env s = .ok z' s') : evT P go (.and a b) env st = .ok (k && z') (if k then s' else s) := by
  unfold evT
  rw [h]
  cases k with
  | true => exact h2 rfl
  | false => rfl
theorem tOr {k k2 : Bool} (h : evT P go a env st = .ok k s) (h2 : k = false → evT P go b env s = .ok k2 s') : evT P go (.or a b) env st = .ok (k || k2) (if k then s else s') := by
  unfold evT
  rw [h]
  cases k with
  | true => rfl
  | false => exact h2 rfl
theorem tOr0 (h : evT P go a env st = .ok false s) (h2 : evT P go b env s = .ok false s') : evT P go (.or a b) env st = .ok false s' := by
  unfold evT
  rw [h]; exact h2
theorem tAnd0 (h : evT P go a env st = .ok false s) : evT P go (.and a b) env st = .ok false s := by
  unfold evT
  rw [h]; rfl
theorem tNot {k : Bool} (h : evT P go a env st = .ok k s) : evT P go (.not a) env st = .ok (!k) s := by
  unfold evT
  rw [h]; rfl
end
end SI

set_option maxHeartbeats 1000000
/-! SI 23: what is to be shown of a run, walked forward by rewriting. -/
namespace SI
open PySem
abbrev XC := Str → List (Str × D) → Store → Prop
abbrev QE := Ev → Store → Prop
abbrev NC := Env → Store → Prop
abbrev XS := Str → List (Str × D) → Env → Store → Prop
/-- the runs, not to be unfolded -/
@[irreducible] def goW (P : Prog) (n : Nat) : Go := goI P n
theorem goW_eq (P : Prog) (n : Nat) : goW P n = goI P n := by unfold goW; rfl
/-- the place where the walk stands -/
def rho (p : Prop) : Prop := p
def LI (s : Store) (a : Nat) (l : List Int) : Prop := s[a]? = some (.lst (iD l))
def RX {α : Type} (r : R α) (Q : α → Store → Prop) (X : XC) : Prop := match r with
  | .ok v s => Q v s
  | .ex c fs s => X c fs s
  | .stuck => False
def OX (r : Out) (N : NC) (T : QE) (X : XS) : Prop := match r with
  | .nx e s => N e s
  | .rt v s => T v s
  | .ex c fs e s => X c fs e s
  | .stuck => False
theorem RX_bind {α β : Type} (r : R α) (f : α → Store → R β) (Q : β → Store → Prop) (X : XC) : RX (r.bind f) Q X = RX r (fun a s => RX (f a s) Q X) X := by cases r <;> rfl
theorem OX_bind (r : Out) (f : Env → Store → Out) (N : NC) (T : QE) (X : XS) : OX (r.bind f) N T X = OX r (fun e s => OX (f e s) N T X) T X := by cases r <;> rfl
theorem OX_out {α : Type} (r : R α) (env : Env) (f : α → Store → Out) (N : NC) (T : QE) (X : XS) : OX (r.out env f) N T X = RX r (fun a s => OX (f a s) N T X) (fun c fs s => X c fs env s) := by cases r <;> rfl
theorem RX.eq {α : Type} {r : R α} {Q : α → Store → Prop} (h : RX r Q fun _ _ _ => False) : ∃ v s, r = .ok v s ∧ Q v s := by
  cases r with
  | ok v s => exact ⟨v, s, rfl, h⟩
  | ex => exact h.elim
  | stuck => exact h.elim
theorem RX.mono {α : Type} {r : R α} {Q Q' : α → Store → Prop} {X X' : XC} (h : RX r Q X) (k : ∀ v s, Q v s → Q' v s) (kx : ∀ c fs s, X c fs s → X' c fs s) : RX r Q' X' := by
  cases r with
  | ok v s => exact k _ _ h
  | ex => exact kx _ _ _ h
  | stuck => exact h.elim
theorem OX.mono {r : Out} {N N' : NC} {T T' : QE} {X X' : XS} (h : OX r N T X) (k : ∀ v s, N v s → N' v s) (kt : ∀ v s, T v s → T' v s) (kx : ∀ c fs e s, X c fs e s → X' c fs e s) : OX r N' T' X' := by
  cases r with
  | nx => exact k _ _ h
  | rt => exact kt _ _ h
  | ex => exact kx _ _ _ _ h
  | stuck => exact h.elim
def wE (P : Prog) (go : Go) (e : E) (env : Env) (st : Store) (Q : QE) (X : XC) : Prop := RX (evE P go e env st) Q X
def wEs (P : Prog) (go : Go) (e : Es) (env : Env) (st : Store) (Q : List Ev → Store → Prop) (X : XC) : Prop := RX (evEs P go e env st) Q X
def wO (P : Prog) (go : Go) (e : Option E) (env : Env) (st : Store) (Q : Option Int → Store → Prop) (X : XC) : Prop := RX (evO P go e env st) Q X
def wI (P : Prog) (go : Go) (e : Wk) (env : Env) (st : Store) (Q : Cur → Store → Prop) (X : XC) : Prop := RX (evI P go e env st) Q X
def wT (P : Prog) (go : Go) (e : E) (env : Env) (st : Store) (Q : Bool → Store → Prop) (X : XC) : Prop := RX (evT P go e env st) Q X
def wS (P : Prog) (go : Go) (a : S) (env : Env) (st : Store) (N : NC) (T : QE) (X : XS) : Prop := OX (exS P go a env st) N T X
def wF (go : Go) (fn : Fn) (ds : List D) (st : Store) (Q : QE) (X : XC) : Prop := RX (go fn ds st) Q X
def wOf {α : Type} (o : Option α) (Q : α → Prop) : Prop := match o with
  | some a => Q a
  | none => False
theorem RX_of {α : Type} (o : Option α) (st : Store) (Q : α → Store → Prop) (X : XC) : RX (R.of o st) Q X = wOf o fun a => Q a st := by cases o <;> rfl
def wB (op : BOp) (x y : Ev) (s : Store) (Q : Ev → Prop) : Prop := wOf (binD op x y s) Q
def wC (op : COp) (x y : Ev) (s : Store) (Q : Bool → Prop) : Prop := wOf (cmpD op x y s) Q
def wBi (b : BI) (xs : List Ev) (s : Store) (Q : Ev → Prop) : Prop := wOf (biD b xs s) Q
def wTr (x : Ev) (s : Store) (Q : Bool → Prop) : Prop := wOf (truD x s) Q
def wBo (x : Ev) (Q : Bool → Prop) : Prop := match x with
  | .v (.bl c) => Q c
  | _ => False
def wIn (x : Ev) (Q : Int → Prop) : Prop := match x with
  | .v (.int c) => Q c
  | _ => False
def wRef (x : Ev) (Q : Nat → Prop) : Prop := match x with
  | .v (.ref c) => Q c
  | _ => False
def wM (x : Ev) (s : Store) (Q : D → Store → Prop) : Prop := Q (mat x s).1 (mat x s).2
def wMs (x : List Ev) (s : Store) (Q : List D → Store → Prop) : Prop := Q (mats x s).1 (mats x s).2
def wGet (s : Store) (n : Nat) (Q : List D → Prop) : Prop := match s[n]? with
  | some (.lst ds) => Q ds
  | _ => False
def wIns (s : Store) (n : Nat) (Q : Str → List (Str × D) → Prop) : Prop := match s[n]? with
  | some (.ins c fs) => Q c fs
  | _ => False
def wIt (s : Store) (x : Ev) (Q : List D → Prop) : Prop := wOf (items s x) Q
def wLs (s : Store) (x : Ev) (Q : List D → Prop) : Prop := wOf (lstE s x) Q
def wAt (ds : List D) (i : Int) (Q : D → Prop) : Prop := wOf (atD ds i) Q
def wIsi (x : Ev) (ts : List Ty) (s : Store) (Q : Bool → Prop) : Prop := wOf (tyD x s) fun t => wOf (isiD t ts) Q

section
variable {P : Prog} {go : Go} {a b c e : E} {es : Es} {env : Env} {st s : Store} {Q : QE} {X : XC} {N : NC} {T : QE} {XX : XS} {p q : S} {ds : List D} {d d2 : D} {i j : Int} {n : Nat}

@[simp  ↓] theorem rho_ite {k : Prop} [Decidable k] {A B : Prop} : rho (if k then A else B) = if k then rho A else rho B := by
  unfold rho; rfl
@[simp  ↓] theorem rho_and {A B : Prop} : rho (A ∧ B) = (A ∧ rho B) := rfl
@[simp  ↓] theorem rho_eq {α : Type} {x y : α} : rho (x = y) = (x = y) := rfl
@[simp  ↓] theorem rho_ex {α : Type} {p : α → Prop} : rho (∃ x, p x) = ∃ x, rho (p x) := rfl
@[simp  ↓] theorem rho_false : rho False = False := rfl
@[simp  ↓] theorem rho_true : rho True = True := rfl
@[simp  ↓] theorem rho_or {A B : Prop} : rho (A ∨ B) = (A ∨ B) := rfl
@[simp  ↓] theorem rho_le {x y : Nat} : rho (x ≤ y) = (x ≤ y) := rfl
@[simp  ↓] theorem rho_lt {x y : Nat} : rho (x < y) = (x < y) := rfl
@[simp  ↓] theorem rho_leI {x y : Int} : rho (x ≤ y) = (x ≤ y) := rfl
@[simp  ↓] theorem rho_ltI {x y : Int} : rho (x < y) = (x < y) := rfl
@[simp  ↓] theorem rho_LI {s : Store} {n : Nat} {l : List Int} : rho (LI s n l) = LI s n l := rfl
theorem wOf_some {α : Type} {x : α} {Q : α → Prop} : wOf (some x) Q = Q x := rfl
@[simp ↓] theorem wOf_some_r {α : Type} {x : α} {Q : α → Prop} : rho (wOf (some x) Q) = rho (Q x) := congrArg rho (wOf_some)
theorem wE_int : wE P go (.int i) env st Q X = Q (.v (.int i)) st := rfl
@[simp ↓] theorem wE_int_r : rho (wE P go (.int i) env st Q X) = rho (Q (.v (.int i)) st) := congrArg rho (wE_int)
theorem wE_bl {k : Bool} : wE P go (.bl k) env st Q X = Q (.v (.bl k)) st := rfl
@[simp ↓] theorem wE_bl_r {k : Bool} : rho (wE P go (.bl k) env st Q X) = rho (Q (.v (.bl k)) st) := congrArg rho (wE_bl)
theorem wE_non : wE P go .non env st Q X = Q (.v .non) st := rfl
@[simp ↓] theorem wE_non_r : rho (wE P go .non env st Q X) = rho (Q (.v .non) st) := congrArg rho (wE_non)
theorem wE_str {x : Str} : wE P go (.str x) env st Q X = Q (.v (.str x)) st := rfl
@[simp ↓] theorem wE_str_r {x : Str} : rho (wE P go (.str x) env st Q X) = rho (Q (.v (.str x)) st) := congrArg rho (wE_str)
theorem wE_bin {op : BOp} : wE P go (.bin op a b) env st Q X = wE P go a env st (fun x s => wE P go b env s (fun y s' => wB op x y s' fun v => Q v s') X) X := by
  unfold wE; conv => lhs; unfold evE
  rw [RX_bind]; congr; funext x s; rw [RX_bind]; congr; funext y s'; exact RX_of _ _ _ _
@[simp ↓] theorem wE_bin_r {op : BOp} : rho (wE P go (.bin op a b) env st Q X) = rho (wE P go a env st (fun x s => wE P go b env s (fun y s' => wB op x y s' fun v => Q v s') X) X) := congrArg rho (wE_bin)
theorem wE_neg : wE P go (.neg a) env st Q X = wE P go a env st (fun x s => wIn x fun i => Q (.v (.int (-i))) s) X := by
  unfold wE; conv => lhs; unfold evE
  rw [RX_bind]; congr; funext x s; cases x with
  | t l => rfl
  | v d => cases d <;> rfl
@[simp ↓] theorem wE_neg_r : rho (wE P go (.neg a) env st Q X) = rho (wE P go a env st (fun x s => wIn x fun i => Q (.v (.int (-i))) s) X) := congrArg rho (wE_neg)
theorem wE_not : wE P go (.not a) env st Q X = wE P go a env st (fun x s => wBo x fun k => Q (.v (.bl (!k))) s) X := by
  unfold wE; conv => lhs; unfold evE
  rw [RX_bind]; congr; funext x s; cases x with
  | t l => rfl
  | v d => cases d <;> rfl
@[simp ↓] theorem wE_not_r : rho (wE P go (.not a) env st Q X) = rho (wE P go a env st (fun x s => wBo x fun k => Q (.v (.bl (!k))) s) X) := congrArg rho (wE_not)
theorem wE_and : wE P go (.and a b) env st Q X = wE P go a env st (fun x s => wBo x fun k => if k = true then wE P go b env s Q X else Q (.v (.bl false)) s) X := by
  unfold wE; conv => lhs; unfold evE
  rw [RX_bind]; congr; funext x s; cases x with
  | t l => rfl
  | v d => cases d with
    | bl k => cases k <;> rfl
    | _ => rfl
@[simp ↓] theorem wE_and_r : rho (wE P go (.and a b) env st Q X) = rho (wE P go a env st (fun x s => wBo x fun k => if k = true then wE P go b env s Q X else Q (.v (.bl false)) s) X) := congrArg rho (wE_and)
theorem wE_or : wE P go (.or a b) env st Q X = wE P go a env st (fun x s => wBo x fun k => if k = true then Q (.v (.bl true)) s else wE P go b env s Q X) X := by
  unfold wE; conv => lhs; unfold evE
  rw [RX_bind]; congr; funext x s; cases x with
  | t l => rfl
  | v d => cases d with
    | bl k => cases k <;> rfl
    | _ => rfl
@[simp ↓] theorem wE_or_r : rho (wE P go (.or a b) env st Q X) = rho (wE P go a env st (fun x s => wBo x fun k => if k = true then Q (.v (.bl true)) s else wE P go b env s Q X) X) := congrArg rho (wE_or)
theorem wE_cmp {op : COp} : wE P go (.cmp op a b) env st Q X = wE P go a env st (fun x s => wE P go b env s (fun y s' => wC op x y s' fun k => Q (.v (.bl k)) s') X) X := by
  unfold wE; conv => lhs; unfold evE
  rw [RX_bind]; congr; funext x s; rw [RX_bind]; congr; funext y s'; rw [RX_of]; unfold wC; cases cmpD op x y s' <;> rfl
@[simp ↓] theorem wE_cmp_r {op : COp} : rho (wE P go (.cmp op a b) env st Q X) = rho (wE P go a env st (fun x s => wE P go b env s (fun y s' => wC op x y s' fun k => Q (.v (.bl k)) s') X) X) := congrArg rho (wE_cmp)
theorem wE_chain {o1 o2 : COp} : wE P go (.chain o1 o2 a b c) env st Q X = wE P go a env st (fun x s => wE P go b env s (fun y s' => wC o1 x y s' fun k => if k = true then wE P go c env s' (fun z s3 => wC o2 y z s3 fun k => Q (.v (.bl k)) s3) X else Q (.v (.bl false)) s') X) X := by
  unfold wE; conv => lhs; unfold evE
  rw [RX_bind]; congr; funext x s; rw [RX_bind]; congr; funext y s'; unfold wC
  cases cmpD o1 x y s' with
  | none => rfl
  | some k => cases k with
    | false => rfl
    | true =>
      show RX (R.bind _ _) Q X = RX _ _ X
      rw [RX_bind]; congr; funext z s3; rw [RX_of]; cases cmpD o2 y z s3 <;> rfl
@[simp ↓] theorem wE_chain_r {o1 o2 : COp} : rho (wE P go (.chain o1 o2 a b c) env st Q X) = rho (wE P go a env st (fun x s => wE P go b env s (fun y s' => wC o1 x y s' fun k => if k = true then wE P go c env s' (fun z s3 => wC o2 y z s3 fun k => Q (.v (.bl k)) s3) X else Q (.v (.bl false)) s') X) X) := congrArg rho (wE_chain)
theorem wE_tup : wE P go (.tup es) env st Q X = wEs P go es env st (fun xs s => wMs xs s fun ds s' => Q (.v (.tup ds)) s') X := by
  unfold wE wEs; conv => lhs; unfold evE
  rw [RX_bind]; rfl
@[simp ↓] theorem wE_tup_r : rho (wE P go (.tup es) env st Q X) = rho (wEs P go es env st (fun xs s => wMs xs s fun ds s' => Q (.v (.tup ds)) s') X) := congrArg rho (wE_tup)
theorem wE_lst : wE P go (.lst es) env st Q X = wEs P go es env st (fun xs s => wMs xs s fun ds s' => Q (.t ds) s') X := by
  unfold wE wEs; conv => lhs; unfold evE
  rw [RX_bind]; rfl
@[simp ↓] theorem wE_lst_r : rho (wE P go (.lst es) env st Q X) = rho (wEs P go es env st (fun xs s => wMs xs s fun ds s' => Q (.t ds) s') X) := congrArg rho (wE_lst)
theorem wE_idx : wE P go (.idx a b) env st Q X = wE P go a env st (fun x s => wE P go b env s (fun y s' => wIt s' x fun ds => wIn y fun i => wAt ds i fun d => Q (.v d) s') X) X := by
  unfold wE; conv => lhs; unfold evE
  rw [RX_bind]; congr; funext x s; rw [RX_bind]; congr; funext y s'; unfold wIt
  cases items s' x with
  | none => rfl
  | some ds => cases y with
    | t l => rfl
    | v d => cases d with
      | int i => show RX (match atD ds i with | some d => R.ok (Ev.v d) s' | none => R.stuck) Q X = wOf (atD ds i) _
                 cases atD ds i <;> rfl
      | _ => rfl
@[simp ↓] theorem wE_idx_r : rho (wE P go (.idx a b) env st Q X) = rho (wE P go a env st (fun x s => wE P go b env s (fun y s' => wIt s' x fun ds => wIn y fun i => wAt ds i fun d => Q (.v d) s') X) X) := congrArg rho (wE_idx)
theorem wE_sl {lo hi : Option E} : wE P go (.sl a lo hi) env st Q X = wE P go a env st (fun x s => wO P go lo env s (fun i s => wO P go hi env s (fun j s => wLs s x fun ds => Q (.t (slD ds i j)) s) X) X) X := by
  unfold wE; conv => lhs; unfold evE
  rw [RX_bind]; congr; funext x s; rw [RX_bind]; congr; funext y s'; rw [RX_bind]; congr; funext z s3; unfold wLs
  cases lstE s3 x <;> rfl
@[simp ↓] theorem wE_sl_r {lo hi : Option E} : rho (wE P go (.sl a lo hi) env st Q X) = rho (wE P go a env st (fun x s => wO P go lo env s (fun i s => wO P go hi env s (fun j s => wLs s x fun ds => Q (.t (slD ds i j)) s) X) X) X) := congrArg rho (wE_sl)
theorem wO_none {Q : Option Int → Store → Prop} : wO P go none env st Q X = Q none st := rfl
@[simp ↓] theorem wO_none_r {Q : Option Int → Store → Prop} : rho (wO P go none env st Q X) = rho (Q none st) := congrArg rho (wO_none)
theorem wO_some {Q : Option Int → Store → Prop} : wO P go (some a) env st Q X = wE P go a env st (fun x s => wIn x fun i => Q (some i) s) X := by
  unfold wO wE; conv => lhs; unfold evO
  rw [RX_bind]; congr; funext x s; cases x with
  | t l => rfl
  | v d => cases d <;> rfl
@[simp ↓] theorem wO_some_r {Q : Option Int → Store → Prop} : rho (wO P go (some a) env st Q X) = rho (wE P go a env st (fun x s => wIn x fun i => Q (some i) s) X) := congrArg rho (wO_some)
theorem wE_bi {k : BI} : wE P go (.bi k es) env st Q X = wEs P go es env st (fun xs s => wBi k xs s fun v => Q v s) X := by
  unfold wE wEs; conv => lhs; unfold evE
  rw [RX_bind]; congr; funext x s; exact RX_of _ _ _ _
@[simp ↓] theorem wE_bi_r {k : BI} : rho (wE P go (.bi k es) env st Q X) = rho (wEs P go es env st (fun xs s => wBi k xs s fun v => Q v s) X) := congrArg rho (wE_bi)
theorem wE_isi {ts : List Ty} {o : Bool} : wE P go (.isi a ts o) env st Q X = wE P go a env st (fun x s => wIsi x ts s fun k => Q (.v (.bl k)) s) X := by
  unfold wE; conv => lhs; unfold evE
  rw [RX_bind]; congr; funext x s; unfold wIsi
  cases tyD x s with
  | none => rfl
  | some t =>
    show RX (R.of ((isiD t ts).map bV) s) Q X = wOf (isiD t ts) _
    rw [RX_of]
    cases isiD t ts <;> rfl
@[simp ↓] theorem wE_isi_r {ts : List Ty} {o : Bool} : rho (wE P go (.isi a ts o) env st Q X) = rho (wE P go a env st (fun x s => wIsi x ts s fun k => Q (.v (.bl k)) s) X) := congrArg rho (wE_isi)
theorem wE_call {f : Str} {fn : Fn} (hf : P.fns.lookup ((f, none) : Key) = some fn) (hd : fn.dfl = []) (hn : fn.np = esLen es) : wE P go (.call f es) env st Q X = wEs P go es env st (fun xs s => wMs xs s fun ds s' => wF go fn ds s' Q X) X := by
  unfold wE wEs; conv => lhs; unfold evE
  rw [hf]
  have ht : fn.takes (esLen es) = true := by unfold Fn.takes; rw [hd, hn]; simp
  have hu : ∀ ds, fn.full ds = ds := fun ds => by unfold Fn.full; rw [hd]; simp
  show RX (if fn.takes (esLen es) = true then _ else _) Q X = _
  rw [if_pos ht, RX_bind]
  simp only [hu]; rfl
theorem wE_fld {f : Str} : wE P go (.fld a f) env st Q X = wE P go a env st (fun x s => wRef x fun n => wIns s n fun c fs => flds.contains (c, f) = true ∧ wOf (fs.lookup f) fun d => Q (.v d) s) X := by
  unfold wE; conv => lhs; unfold evE
  rw [RX_bind]; congr; funext x s; cases x with
  | t l => rfl
  | v d => cases d with
    | ref n =>
      show RX (match s[n]? with | some (.ins c fs) => (if flds.contains (c, f) then (match fs.lookup f with | some d => R.ok (Ev.v d) s | none => R.stuck) else R.stuck) | _ => R.stuck) Q X = (match s[n]? with | some (.ins c fs) => _ | _ => _)
      cases s[n]? with
      | none => rfl
      | some cc => cases cc with
        | lst l => rfl
        | ins c fs =>
          simp only
          by_cases h : flds.contains (c, f) = true
          · rw [if_pos h]
            cases fs.lookup f with
            | none => simp [wOf, RX]
            | some d => simp only [h, true_and]; rfl
          · rw [if_neg h]
            exact propext ⟨fun z => z.elim, fun z => (h z.1).elim⟩
    | _ => rfl
@[simp ↓] theorem wE_fld_r {f : Str} : rho (wE P go (.fld a f) env st Q X) = rho (wE P go a env st (fun x s => wRef x fun n => wIns s n fun c fs => flds.contains (c, f) = true ∧ wOf (fs.lookup f) fun d => Q (.v d) s) X) := congrArg rho (wE_fld)
theorem wE_app : wE P go (.bm .append a (.cons b .nil)) env st Q X = wE P go a env st (fun x s => wRef x fun n => wGet s n fun _ => wE P go b env s (fun y s2 => wM y s2 fun d s3 => wGet s3 n fun ds => ds.length < lim ∧ Q (.v .non) (s3.set n (.lst (ds ++ [d])))) X) X := by
  unfold wE; conv => lhs; unfold evE
  rw [RX_bind]; congr; funext x s; cases x with
  | t l => rfl
  | v d => cases d with
    | ref n =>
      show RX (if bmRecv .append (.v (.ref n)) s = true then _ else _) Q X = (match s[n]? with | some (.lst ds) => _ | _ => _)
      have e : bmRecv .append (.v (.ref n)) s = (match s[n]? with | some (.lst _) => true | _ => false) := rfl
      rw [e]
      cases s[n]? with
      | none => rfl
      | some cc => cases cc with
        | ins c fs => rfl
        | lst l =>
          simp only [if_true]
          unfold evEs
          rw [RX_bind, RX_bind]
          congr; funext y s2
          show RX (bAppend n y s2) Q X = (match (mat y s2).2[n]? with | some (.lst ds) => _ | _ => _)
          unfold bAppend
          cases (mat y s2).2[n]? with
          | none => rfl
          | some cc => cases cc with
            | ins c fs => rfl
            | lst l =>
              simp only
              by_cases h : l.length < lim
              · simp only [h, if_true, true_and]; rfl
              · simp only [h, if_false, false_and]; rfl
    | _ => rfl
@[simp ↓] theorem wE_app_r : rho (wE P go (.bm .append a (.cons b .nil)) env st Q X) = rho (wE P go a env st (fun x s => wRef x fun n => wGet s n fun _ => wE P go b env s (fun y s2 => wM y s2 fun d s3 => wGet s3 n fun ds => ds.length < lim ∧ Q (.v .non) (s3.set n (.lst (ds ++ [d])))) X) X) := congrArg rho (wE_app)
theorem wEs_nil {Q : List Ev → Store → Prop} : wEs P go .nil env st Q X = Q [] st := rfl
@[simp ↓] theorem wEs_nil_r {Q : List Ev → Store → Prop} : rho (wEs P go .nil env st Q X) = rho (Q [] st) := congrArg rho (wEs_nil)
theorem wEs_cons {Q : List Ev → Store → Prop} : wEs P go (.cons a es) env st Q X = wE P go a env st (fun x s => wEs P go es env s (fun xs s' => Q (x :: xs) s') X) X := by
  unfold wEs wE; conv => lhs; unfold evEs
  rw [RX_bind]; congr; funext x s; rw [RX_bind]; rfl
@[simp ↓] theorem wEs_cons_r {Q : List Ev → Store → Prop} : rho (wEs P go (.cons a es) env st Q X) = rho (wE P go a env st (fun x s => wEs P go es env s (fun xs s' => Q (x :: xs) s') X) X) := congrArg rho (wEs_cons)
theorem wM_v {Q : D → Store → Prop} : wM (.v d) s Q = Q d s := rfl
@[simp ↓] theorem wM_v_r {Q : D → Store → Prop} : rho (wM (.v d) s Q) = rho (Q d s) := congrArg rho (wM_v)
theorem wM_t {Q : D → Store → Prop} : wM (.t ds) s Q = Q (.ref s.length) (s ++ [.lst ds]) := rfl
@[simp ↓] theorem wM_t_r {Q : D → Store → Prop} : rho (wM (.t ds) s Q) = rho (Q (.ref s.length) (s ++ [.lst ds])) := congrArg rho (wM_t)
theorem wMs_nil {Q : List D → Store → Prop} : wMs [] s Q = Q [] s := rfl
@[simp ↓] theorem wMs_nil_r {Q : List D → Store → Prop} : rho (wMs [] s Q) = rho (Q [] s) := congrArg rho (wMs_nil)
theorem wMs_v {xs : List Ev} {Q : List D → Store → Prop} : wMs (.v d :: xs) s Q = wMs xs s fun ds s' => Q (d :: ds) s' := rfl
@[simp ↓] theorem wMs_v_r {xs : List Ev} {Q : List D → Store → Prop} : rho (wMs (.v d :: xs) s Q) = rho (wMs xs s fun ds s' => Q (d :: ds) s') := congrArg rho (wMs_v)
theorem wMs_t {xs : List Ev} {Q : List D → Store → Prop} : wMs (.t ds :: xs) s Q = wMs xs (s ++ [.lst ds]) fun ds' s' => Q (.ref s.length :: ds') s' := rfl
@[simp ↓] theorem wMs_t_r {xs : List Ev} {Q : List D → Store → Prop} : rho (wMs (.t ds :: xs) s Q) = rho (wMs xs (s ++ [.lst ds]) fun ds' s' => Q (.ref s.length :: ds') s') := congrArg rho (wMs_t)
theorem wBo_bl {k : Bool} {Q : Bool → Prop} : wBo (.v (.bl k)) Q = Q k := rfl
@[simp ↓] theorem wBo_bl_r {k : Bool} {Q : Bool → Prop} : rho (wBo (.v (.bl k)) Q) = rho (Q k) := congrArg rho (wBo_bl)
theorem wIn_int {Q : Int → Prop} : wIn (.v (.int i)) Q = Q i := rfl
@[simp ↓] theorem wIn_int_r {Q : Int → Prop} : rho (wIn (.v (.int i)) Q) = rho (Q i) := congrArg rho (wIn_int)
theorem wRef_ref {Q : Nat → Prop} : wRef (.v (.ref n)) Q = Q n := rfl
@[simp ↓] theorem wRef_ref_r {Q : Nat → Prop} : rho (wRef (.v (.ref n)) Q) = rho (Q n) := congrArg rho (wRef_ref)
theorem wTr_bl {k : Bool} {Q : Bool → Prop} : wTr (.v (.bl k)) s Q = Q k := rfl
@[simp ↓] theorem wTr_bl_r {k : Bool} {Q : Bool → Prop} : rho (wTr (.v (.bl k)) s Q) = rho (Q k) := congrArg rho (wTr_bl)
theorem wTr_non {Q : Bool → Prop} : wTr (.v .non) s Q = Q false := rfl
@[simp ↓] theorem wTr_non_r {Q : Bool → Prop} : rho (wTr (.v .non) s Q) = rho (Q false) := congrArg rho (wTr_non)
theorem wTr_int {Q : Bool → Prop} : wTr (.v (.int i)) s Q = Q (i != 0) := rfl
@[simp ↓] theorem wTr_int_r {Q : Bool → Prop} : rho (wTr (.v (.int i)) s Q) = rho (Q (i != 0)) := congrArg rho (wTr_int)
theorem wTr_t {Q : Bool → Prop} : wTr (.t ds) s Q = Q (!ds.isEmpty) := rfl
@[simp ↓] theorem wTr_t_r {Q : Bool → Prop} : rho (wTr (.t ds) s Q) = rho (Q (!ds.isEmpty)) := congrArg rho (wTr_t)
theorem wTr_tup {Q : Bool → Prop} : wTr (.v (.tup ds)) s Q = Q (!ds.isEmpty) := rfl
@[simp ↓] theorem wTr_tup_r {Q : Bool → Prop} : rho (wTr (.v (.tup ds)) s Q) = rho (Q (!ds.isEmpty)) := congrArg rho (wTr_tup)
theorem wTr_ref {Q : Bool → Prop} : wTr (.v (.ref n)) s Q = wGet s n fun ds => Q (!ds.isEmpty) := by
  show wOf ((match s[n]? with | some (.lst ds) => some ds | _ => none : Option (List D)).map _) Q = (match s[n]? with | some (.lst ds) => _ | _ => _)
  cases s[n]? with
  | none => rfl
  | some cc => cases cc <;> rfl
@[simp ↓] theorem wTr_ref_r {Q : Bool → Prop} : rho (wTr (.v (.ref n)) s Q) = rho (wGet s n fun ds => Q (!ds.isEmpty)) := congrArg rho (wTr_ref)
theorem wIt_t {Q : List D → Prop} : wIt s (.t ds) Q = Q ds := rfl
@[simp ↓] theorem wIt_t_r {Q : List D → Prop} : rho (wIt s (.t ds) Q) = rho (Q ds) := congrArg rho (wIt_t)
theorem wIt_tup {Q : List D → Prop} : wIt s (.v (.tup ds)) Q = Q ds := rfl
@[simp ↓] theorem wIt_tup_r {Q : List D → Prop} : rho (wIt s (.v (.tup ds)) Q) = rho (Q ds) := congrArg rho (wIt_tup)
theorem wIt_ro {Q : List D → Prop} : wIt s (.v (.ro ds)) Q = Q ds := rfl
@[simp ↓] theorem wIt_ro_r {Q : List D → Prop} : rho (wIt s (.v (.ro ds)) Q) = rho (Q ds) := congrArg rho (wIt_ro)
theorem wIt_ref {Q : List D → Prop} : wIt s (.v (.ref n)) Q = wGet s n Q := by
  show wOf (match s[n]? with | some (.lst ds) => some ds | _ => none : Option (List D)) Q = (match s[n]? with | some (.lst ds) => _ | _ => _)
  cases s[n]? with
  | none => rfl
  | some cc => cases cc <;> rfl
@[simp ↓] theorem wIt_ref_r {Q : List D → Prop} : rho (wIt s (.v (.ref n)) Q) = rho (wGet s n Q) := congrArg rho (wIt_ref)
theorem wLs_t {Q : List D → Prop} : wLs s (.t ds) Q = Q ds := rfl
@[simp ↓] theorem wLs_t_r {Q : List D → Prop} : rho (wLs s (.t ds) Q) = rho (Q ds) := congrArg rho (wLs_t)
theorem wLs_ro {Q : List D → Prop} : wLs s (.v (.ro ds)) Q = Q ds := rfl
@[simp ↓] theorem wLs_ro_r {Q : List D → Prop} : rho (wLs s (.v (.ro ds)) Q) = rho (Q ds) := congrArg rho (wLs_ro)
theorem wLs_ref {Q : List D → Prop} : wLs s (.v (.ref n)) Q = wGet s n Q := wIt_ref
@[simp ↓] theorem wLs_ref_r {Q : List D → Prop} : rho (wLs s (.v (.ref n)) Q) = rho (wGet s n Q) := congrArg rho (wLs_ref)
theorem wGet_of {Q : List D → Prop} (h : s[n]? = some (.lst ds)) : wGet s n Q = Q ds := by unfold wGet; rw [h]
theorem wIns_of {k : Str} {fs : List (Str × D)} {Q : Str → List (Str × D) → Prop} (h : s[n]? = some (.ins k fs)) : wIns s n Q = Q k fs := by unfold wIns; rw [h]
theorem wAt_of {Q : D → Prop} (h : atD ds i = some d) : wAt ds i Q = Q d := by unfold wAt; rw [h]; rfl

theorem wAt_0 {Q : D → Prop} : wAt (d :: ds) 0 Q = Q d := by
  exact wAt_of (L2.atI_nat (j := 0) rfl)
@[simp ↓] theorem wAt_0_r {Q : D → Prop} : rho (wAt (d :: ds) 0 Q) = rho (Q d) := congrArg rho (wAt_0)
theorem wAt_1 {x0 : D} {Q : D → Prop} : wAt (x0 :: d :: ds) 1 Q = Q d := by
  exact wAt_of (L2.atI_nat (j := 1) rfl)
@[simp ↓] theorem wAt_1_r {x0 : D} {Q : D → Prop} : rho (wAt (x0 :: d :: ds) 1 Q) = rho (Q d) := congrArg rho (wAt_1)
theorem wAt_2 {x0 x1 : D} {Q : D → Prop} : wAt (x0 :: x1 :: d :: ds) 2 Q = Q d := by
  exact wAt_of (L2.atI_nat (j := 2) rfl)
@[simp ↓] theorem wAt_2_r {x0 x1 : D} {Q : D → Prop} : rho (wAt (x0 :: x1 :: d :: ds) 2 Q) = rho (Q d) := congrArg rho (wAt_2)
theorem wAt_3 {x0 x1 x2 : D} {Q : D → Prop} : wAt (x0 :: x1 :: x2 :: d :: ds) 3 Q = Q d := by
  exact wAt_of (L2.atI_nat (j := 3) rfl)
@[simp ↓] theorem wAt_3_r {x0 x1 x2 : D} {Q : D → Prop} : rho (wAt (x0 :: x1 :: x2 :: d :: ds) 3 Q) = rho (Q d) := congrArg rho (wAt_3)
theorem wAt_4 {x0 x1 x2 x3 : D} {Q : D → Prop} : wAt (x0 :: x1 :: x2 :: x3 :: d :: ds) 4 Q = Q d := by
  exact wAt_of (L2.atI_nat (j := 4) rfl)
@[simp ↓] theorem wAt_4_r {x0 x1 x2 x3 : D} {Q : D → Prop} : rho (wAt (x0 :: x1 :: x2 :: x3 :: d :: ds) 4 Q) = rho (Q d) := congrArg rho (wAt_4)
theorem wAt_5 {x0 x1 x2 x3 x4 : D} {Q : D → Prop} : wAt (x0 :: x1 :: x2 :: x3 :: x4 :: d :: ds) 5 Q = Q d := by
  exact wAt_of (L2.atI_nat (j := 5) rfl)
@[simp ↓] theorem wAt_5_r {x0 x1 x2 x3 x4 : D} {Q : D → Prop} : rho (wAt (x0 :: x1 :: x2 :: x3 :: x4 :: d :: ds) 5 Q) = rho (Q d) := congrArg rho (wAt_5)
theorem wAt_6 {x0 x1 x2 x3 x4 x5 : D} {Q : D → Prop} : wAt (x0 :: x1 :: x2 :: x3 :: x4 :: x5 :: d :: ds) 6 Q = Q d := by
  exact wAt_of (L2.atI_nat (j := 6) rfl)
@[simp ↓] theorem wAt_6_r {x0 x1 x2 x3 x4 x5 : D} {Q : D → Prop} : rho (wAt (x0 :: x1 :: x2 :: x3 :: x4 :: x5 :: d :: ds) 6 Q) = rho (Q d) := congrArg rho (wAt_6)
theorem wAt_7 {x0 x1 x2 x3 x4 x5 x6 : D} {Q : D → Prop} : wAt (x0 :: x1 :: x2 :: x3 :: x4 :: x5 :: x6 :: d :: ds) 7 Q = Q d := by
  exact wAt_of (L2.atI_nat (j := 7) rfl)
@[simp ↓] theorem wAt_7_r {x0 x1 x2 x3 x4 x5 x6 : D} {Q : D → Prop} : rho (wAt (x0 :: x1 :: x2 :: x3 :: x4 :: x5 :: x6 :: d :: ds) 7 Q) = rho (Q d) := congrArg rho (wAt_7)
theorem wE_loc0 : wE P go (.loc 0) (some d :: env) st Q X = Q (.v d) st := rfl
@[simp ↓] theorem wE_loc0_r : rho (wE P go (.loc 0) (some d :: env) st Q X) = rho (Q (.v d) st) := congrArg rho (wE_loc0)
theorem wS_asg0 {y : Option D} : wS P go (.asg 0 e) (y :: env) st N T XX = wE P go e (y :: env) st (fun v s => wM v s fun d s2 => N (some d :: env) s2) (fun c fs s => XX c fs (y :: env) s) := by
  unfold wS wE; conv => lhs; unfold exS
  rw [OX_out]; rfl
@[simp ↓] theorem wS_asg0_r {y : Option D} : rho (wS P go (.asg 0 e) (y :: env) st N T XX) = rho (wE P go e (y :: env) st (fun v s => wM v s fun d s2 => N (some d :: env) s2) (fun c fs s => XX c fs (y :: env) s)) := congrArg rho (wS_asg0)
theorem wE_loc1 {x0 : Option D} : wE P go (.loc 1) (x0 :: some d :: env) st Q X = Q (.v d) st := rfl
@[simp ↓] theorem wE_loc1_r {x0 : Option D} : rho (wE P go (.loc 1) (x0 :: some d :: env) st Q X) = rho (Q (.v d) st) := congrArg rho (wE_loc1)
theorem wS_asg1 {x0 : Option D} {y : Option D} : wS P go (.asg 1 e) (x0 :: y :: env) st N T XX = wE P go e (x0 :: y :: env) st (fun v s => wM v s fun d s2 => N (x0 :: some d :: env) s2) (fun c fs s => XX c fs (x0 :: y :: env) s) := by
  unfold wS wE; conv => lhs; unfold exS
  rw [OX_out]; rfl
@[simp ↓] theorem wS_asg1_r {x0 : Option D} {y : Option D} : rho (wS P go (.asg 1 e) (x0 :: y :: env) st N T XX) = rho (wE P go e (x0 :: y :: env) st (fun v s => wM v s fun d s2 => N (x0 :: some d :: env) s2) (fun c fs s => XX c fs (x0 :: y :: env) s)) := congrArg rho (wS_asg1)
theorem wE_loc2 {x0 x1 : Option D} : wE P go (.loc 2) (x0 :: x1 :: some d :: env) st Q X = Q (.v d) st := rfl
@[simp ↓] theorem wE_loc2_r {x0 x1 : Option D} : rho (wE P go (.loc 2) (x0 :: x1 :: some d :: env) st Q X) = rho (Q (.v d) st) := congrArg rho (wE_loc2)
theorem wS_asg2 {x0 x1 : Option D} {y : Option D} : wS P go (.asg 2 e) (x0 :: x1 :: y :: env) st N T XX = wE P go e (x0 :: x1 :: y :: env) st (fun v s => wM v s fun d s2 => N (x0 :: x1 :: some d :: env) s2) (fun c fs s => XX c fs (x0 :: x1 :: y :: env) s) := by
  unfold wS wE; conv => lhs; unfold exS
  rw [OX_out]; rfl
@[simp ↓] theorem wS_asg2_r {x0 x1 : Option D} {y : Option D} : rho (wS P go (.asg 2 e) (x0 :: x1 :: y :: env) st N T XX) = rho (wE P go e (x0 :: x1 :: y :: env) st (fun v s => wM v s fun d s2 => N (x0 :: x1 :: some d :: env) s2) (fun c fs s => XX c fs (x0 :: x1 :: y :: env) s)) := congrArg rho (wS_asg2)
theorem wE_loc3 {x0 x1 x2 : Option D} : wE P go (.loc 3) (x0 :: x1 :: x2 :: some d :: env) st Q X = Q (.v d) st := rfl
@[simp ↓] theorem wE_loc3_r {x0 x1 x2 : Option D} : rho (wE P go (.loc 3) (x0 :: x1 :: x2 :: some d :: env) st Q X) = rho (Q (.v d) st) := congrArg rho (wE_loc3)
theorem wS_asg3 {x0 x1 x2 : Option D} {y : Option D} : wS P go (.asg 3 e) (x0 :: x1 :: x2 :: y :: env) st N T XX = wE P go e (x0 :: x1 :: x2 :: y :: env) st (fun v s => wM v s fun d s2 => N (x0 :: x1 :: x2 :: some d :: env) s2) (fun c fs s => XX c fs (x0 :: x1 :: x2 :: y :: env) s) := by
  unfold wS wE; conv => lhs; unfold exS
  rw [OX_out]; rfl
@[simp ↓] theorem wS_asg3_r {x0 x1 x2 : Option D} {y : Option D} : rho (wS P go (.asg 3 e) (x0 :: x1 :: x2 :: y :: env) st N T XX) = rho (wE P go e (x0 :: x1 :: x2 :: y :: env) st (fun v s => wM v s fun d s2 => N (x0 :: x1 :: x2 :: some d :: env) s2) (fun c fs s => XX c fs (x0 :: x1 :: x2 :: y :: env) s)) := congrArg rho (wS_asg3)
theorem wE_loc4 {x0 x1 x2 x3 : Option D} : wE P go (.loc 4) (x0 :: x1 :: x2 :: x3 :: some d :: env) st Q X = Q (.v d) st := rfl
@[simp ↓] theorem wE_loc4_r {x0 x1 x2 x3 : Option D} : rho (wE P go (.loc 4) (x0 :: x1 :: x2 :: x3 :: some d :: env) st Q X) = rho (Q (.v d) st) := congrArg rho (wE_loc4)
theorem wS_asg4 {x0 x1 x2 x3 : Option D} {y : Option D} : wS P go (.asg 4 e) (x0 :: x1 :: x2 :: x3 :: y :: env) st N T XX = wE P go e (x0 :: x1 :: x2 :: x3 :: y :: env) st (fun v s => wM v s fun d s2 => N (x0 :: x1 :: x2 :: x3 :: some d :: env) s2) (fun c fs s => XX c fs (x0 :: x1 :: x2 :: x3 :: y :: env) s) := by
  unfold wS wE; conv => lhs; unfold exS
  rw [OX_out]; rfl
@[simp ↓] theorem wS_asg4_r {x0 x1 x2 x3 : Option D} {y : Option D} : rho (wS P go (.asg 4 e) (x0 :: x1 :: x2 :: x3 :: y :: env) st N T XX) = rho (wE P go e (x0 :: x1 :: x2 :: x3 :: y :: env) st (fun v s => wM v s fun d s2 => N (x0 :: x1 :: x2 :: x3 :: some d :: env) s2) (fun c fs s => XX c fs (x0 :: x1 :: x2 :: x3 :: y :: env) s)) := congrArg rho (wS_asg4)
theorem wE_loc5 {x0 x1 x2 x3 x4 : Option D} : wE P go (.loc 5) (x0 :: x1 :: x2 :: x3 :: x4 :: some d :: env) st Q X = Q (.v d) st := rfl
@[simp ↓] theorem wE_loc5_r {x0 x1 x2 x3 x4 : Option D} : rho (wE P go (.loc 5) (x0 :: x1 :: x2 :: x3 :: x4 :: some d :: env) st Q X) = rho (Q (.v d) st) := congrArg rho (wE_loc5)
theorem wS_asg5 {x0 x1 x2 x3 x4 : Option D} {y : Option D} : wS P go (.asg 5 e) (x0 :: x1 :: x2 :: x3 :: x4 :: y :: env) st N T XX = wE P go e (x0 :: x1 :: x2 :: x3 :: x4 :: y :: env) st (fun v s => wM v s fun d s2 => N (x0 :: x1 :: x2 :: x3 :: x4 :: some d :: env) s2) (fun c fs s => XX c fs (x0 :: x1 :: x2 :: x3 :: x4 :: y :: env) s) := by
  unfold wS wE; conv => lhs; unfold exS
  rw [OX_out]; rfl
@[simp ↓] theorem wS_asg5_r {x0 x1 x2 x3 x4 : Option D} {y : Option D} : rho (wS P go (.asg 5 e) (x0 :: x1 :: x2 :: x3 :: x4 :: y :: env) st N T XX) = rho (wE P go e (x0 :: x1 :: x2 :: x3 :: x4 :: y :: env) st (fun v s => wM v s fun d s2 => N (x0 :: x1 :: x2 :: x3 :: x4 :: some d :: env) s2) (fun c fs s => XX c fs (x0 :: x1 :: x2 :: x3 :: x4 :: y :: env) s)) := congrArg rho (wS_asg5)
theorem wE_loc6 {x0 x1 x2 x3 x4 x5 : Option D} : wE P go (.loc 6) (x0 :: x1 :: x2 :: x3 :: x4 :: x5 :: some d :: env) st Q X = Q (.v d) st := rfl
@[simp ↓] theorem wE_loc6_r {x0 x1 x2 x3 x4 x5 : Option D} : rho (wE P go (.loc 6) (x0 :: x1 :: x2 :: x3 :: x4 :: x5 :: some d :: env) st Q X) = rho (Q (.v d) st) := congrArg rho (wE_loc6)
theorem wS_asg6 {x0 x1 x2 x3 x4 x5 : Option D} {y : Option D} : wS P go (.asg 6 e) (x0 :: x1 :: x2 :: x3 :: x4 :: x5 :: y :: env) st N T XX = wE P go e (x0 :: x1 :: x2 :: x3 :: x4 :: x5 :: y :: env) st (fun v s => wM v s fun d s2 => N (x0 :: x1 :: x2 :: x3 :: x4 :: x5 :: some d :: env) s2) (fun c fs s => XX c fs (x0 :: x1 :: x2 :: x3 :: x4 :: x5 :: y :: env) s) := by
  unfold wS wE; conv => lhs; unfold exS
  rw [OX_out]; rfl
@[simp ↓] theorem wS_asg6_r {x0 x1 x2 x3 x4 x5 : Option D} {y : Option D} : rho (wS P go (.asg 6 e) (x0 :: x1 :: x2 :: x3 :: x4 :: x5 :: y :: env) st N T XX) = rho (wE P go e (x0 :: x1 :: x2 :: x3 :: x4 :: x5 :: y :: env) st (fun v s => wM v s fun d s2 => N (x0 :: x1 :: x2 :: x3 :: x4 :: x5 :: some d :: env) s2) (fun c fs s => XX c fs (x0 :: x1 :: x2 :: x3 :: x4 :: x5 :: y :: env) s)) := congrArg rho (wS_asg6)
theorem wE_loc7 {x0 x1 x2 x3 x4 x5 x6 : Option D} : wE P go (.loc 7) (x0 :: x1 :: x2 :: x3 :: x4 :: x5 :: x6 :: some d :: env) st Q X = Q (.v d) st := rfl
@[simp ↓] theorem wE_loc7_r {x0 x1 x2 x3 x4 x5 x6 : Option D} : rho (wE P go (.loc 7) (x0 :: x1 :: x2 :: x3 :: x4 :: x5 :: x6 :: some d :: env) st Q X) = rho (Q (.v d) st) := congrArg rho (wE_loc7)
theorem wS_asg7 {x0 x1 x2 x3 x4 x5 x6 : Option D} {y : Option D} : wS P go (.asg 7 e) (x0 :: x1 :: x2 :: x3 :: x4 :: x5 :: x6 :: y :: env) st N T XX = wE P go e (x0 :: x1 :: x2 :: x3 :: x4 :: x5 :: x6 :: y :: env) st (fun v s => wM v s fun d s2 => N (x0 :: x1 :: x2 :: x3 :: x4 :: x5 :: x6 :: some d :: env) s2) (fun c fs s => XX c fs (x0 :: x1 :: x2 :: x3 :: x4 :: x5 :: x6 :: y :: env) s) := by
  unfold wS wE; conv => lhs; unfold exS
  rw [OX_out]; rfl
@[simp ↓] theorem wS_asg7_r {x0 x1 x2 x3 x4 x5 x6 : Option D} {y : Option D} : rho (wS P go (.asg 7 e) (x0 :: x1 :: x2 :: x3 :: x4 :: x5 :: x6 :: y :: env) st N T XX) = rho (wE P go e (x0 :: x1 :: x2 :: x3 :: x4 :: x5 :: x6 :: y :: env) st (fun v s => wM v s fun d s2 => N (x0 :: x1 :: x2 :: x3 :: x4 :: x5 :: x6 :: some d :: env) s2) (fun c fs s => XX c fs (x0 :: x1 :: x2 :: x3 :: x4 :: x5 :: x6 :: y :: env) s)) := congrArg rho (wS_asg7)
theorem wE_loc8 {x0 x1 x2 x3 x4 x5 x6 x7 : Option D} : wE P go (.loc 8) (x0 :: x1 :: x2 :: x3 :: x4 :: x5 :: x6 :: x7 :: some d :: env) st Q X = Q (.v d) st := rfl
@[simp ↓] theorem wE_loc8_r {x0 x1 x2 x3 x4 x5 x6 x7 : Option D} : rho (wE P go (.loc 8) (x0 :: x1 :: x2 :: x3 :: x4 :: x5 :: x6 :: x7 :: some d :: env) st Q X) = rho (Q (.v d) st) := congrArg rho (wE_loc8)
theorem wS_asg8 {x0 x1 x2 x3 x4 x5 x6 x7 : Option D} {y : Option D} : wS P go (.asg 8 e) (x0 :: x1 :: x2 :: x3 :: x4 :: x5 :: x6 :: x7 :: y :: env) st N T XX = wE P go e (x0 :: x1 :: x2 :: x3 :: x4 :: x5 :: x6 :: x7 :: y :: env) st (fun v s => wM v s fun d s2 => N (x0 :: x1 :: x2 :: x3 :: x4 :: x5 :: x6 :: x7 :: some d :: env) s2) (fun c fs s => XX c fs (x0 :: x1 :: x2 :: x3 :: x4 :: x5 :: x6 :: x7 :: y :: env) s) := by
  unfold wS wE; conv => lhs; unfold exS
  rw [OX_out]; rfl
@[simp ↓] theorem wS_asg8_r {x0 x1 x2 x3 x4 x5 x6 x7 : Option D} {y : Option D} : rho (wS P go (.asg 8 e) (x0 :: x1 :: x2 :: x3 :: x4 :: x5 :: x6 :: x7 :: y :: env) st N T XX) = rho (wE P go e (x0 :: x1 :: x2 :: x3 :: x4 :: x5 :: x6 :: x7 :: y :: env) st (fun v s => wM v s fun d s2 => N (x0 :: x1 :: x2 :: x3 :: x4 :: x5 :: x6 :: x7 :: some d :: env) s2) (fun c fs s => XX c fs (x0 :: x1 :: x2 :: x3 :: x4 :: x5 :: x6 :: x7 :: y :: env) s)) := congrArg rho (wS_asg8)
theorem wE_loc9 {x0 x1 x2 x3 x4 x5 x6 x7 x8 : Option D} : wE P go (.loc 9) (x0 :: x1 :: x2 :: x3 :: x4 :: x5 :: x6 :: x7 :: x8 :: some d :: env) st Q X = Q (.v d) st := rfl
@[simp ↓] theorem wE_loc9_r {x0 x1 x2 x3 x4 x5 x6 x7 x8 : Option D} : rho (wE P go (.loc 9) (x0 :: x1 :: x2 :: x3 :: x4 :: x5 :: x6 :: x7 :: x8 :: some d :: env) st Q X) = rho (Q (.v d) st) := congrArg rho (wE_loc9)
theorem wS_asg9 {x0 x1 x2 x3 x4 x5 x6 x7 x8 : Option D} {y : Option D} : wS P go (.asg 9 e) (x0 :: x1 :: x2 :: x3 :: x4 :: x5 :: x6 :: x7 :: x8 :: y :: env) st N T XX = wE P go e (x0 :: x1 :: x2 :: x3 :: x4 :: x5 :: x6 :: x7 :: x8 :: y :: env) st (fun v s => wM v s fun d s2 => N (x0 :: x1 :: x2 :: x3 :: x4 :: x5 :: x6 :: x7 :: x8 :: some d :: env) s2) (fun c fs s => XX c fs (x0 :: x1 :: x2 :: x3 :: x4 :: x5 :: x6 :: x7 :: x8 :: y :: env) s) := by
  unfold wS wE; conv => lhs; unfold exS
  rw [OX_out]; rfl
@[simp ↓] theorem wS_asg9_r {x0 x1 x2 x3 x4 x5 x6 x7 x8 : Option D} {y : Option D} : rho (wS P go (.asg 9 e) (x0 :: x1 :: x2 :: x3 :: x4 :: x5 :: x6 :: x7 :: x8 :: y :: env) st N T XX) = rho (wE P go e (x0 :: x1 :: x2 :: x3 :: x4 :: x5 :: x6 :: x7 :: x8 :: y :: env) st (fun v s => wM v s fun d s2 => N (x0 :: x1 :: x2 :: x3 :: x4 :: x5 :: x6 :: x7 :: x8 :: some d :: env) s2) (fun c fs s => XX c fs (x0 :: x1 :: x2 :: x3 :: x4 :: x5 :: x6 :: x7 :: x8 :: y :: env) s)) := congrArg rho (wS_asg9)
theorem wE_loc10 {x0 x1 x2 x3 x4 x5 x6 x7 x8 x9 : Option D} : wE P go (.loc 10) (x0 :: x1 :: x2 :: x3 :: x4 :: x5 :: x6 :: x7 :: x8 :: x9 :: some d :: env) st Q X = Q (.v d) st := rfl
@[simp ↓] theorem wE_loc10_r {x0 x1 x2 x3 x4 x5 x6 x7 x8 x9 : Option D} : rho (wE P go (.loc 10) (x0 :: x1 :: x2 :: x3 :: x4 :: x5 :: x6 :: x7 :: x8 :: x9 :: some d :: env) st Q X) = rho (Q (.v d) st) := congrArg rho (wE_loc10)
theorem wS_asg10 {x0 x1 x2 x3 x4 x5 x6 x7 x8 x9 : Option D} {y : Option D} : wS P go (.asg 10 e) (x0 :: x1 :: x2 :: x3 :: x4 :: x5 :: x6 :: x7 :: x8 :: x9 :: y :: env) st N T XX = wE P go e (x0 :: x1 :: x2 :: x3 :: x4 :: x5 :: x6 :: x7 :: x8 :: x9 :: y :: env) st (fun v s => wM v s fun d s2 => N (x0 :: x1 :: x2 :: x3 :: x4 :: x5 :: x6 :: x7 :: x8 :: x9 :: some d :: env) s2) (fun c fs s => XX c fs (x0 :: x1 :: x2 :: x3 :: x4 :: x5 :: x6 :: x7 :: x8 :: x9 :: y :: env) s) := by
  unfold wS wE; conv => lhs; unfold exS
  rw [OX_out]; rfl
@[simp ↓] theorem wS_asg10_r {x0 x1 x2 x3 x4 x5 x6 x7 x8 x9 : Option D} {y : Option D} : rho (wS P go (.asg 10 e) (x0 :: x1 :: x2 :: x3 :: x4 :: x5 :: x6 :: x7 :: x8 :: x9 :: y :: env) st N T XX) = rho (wE P go e (x0 :: x1 :: x2 :: x3 :: x4 :: x5 :: x6 :: x7 :: x8 :: x9 :: y :: env) st (fun v s => wM v s fun d s2 => N (x0 :: x1 :: x2 :: x3 :: x4 :: x5 :: x6 :: x7 :: x8 :: x9 :: some d :: env) s2) (fun c fs s => XX c fs (x0 :: x1 :: x2 :: x3 :: x4 :: x5 :: x6 :: x7 :: x8 :: x9 :: y :: env) s)) := congrArg rho (wS_asg10)
theorem wE_loc11 {x0 x1 x2 x3 x4 x5 x6 x7 x8 x9 x10 : Option D} : wE P go (.loc 11) (x0 :: x1 :: x2 :: x3 :: x4 :: x5 :: x6 :: x7 :: x8 :: x9 :: x10 :: some d :: env) st Q X = Q (.v d) st := rfl
@[simp ↓] theorem wE_loc11_r {x0 x1 x2 x3 x4 x5 x6 x7 x8 x9 x10 : Option D} : rho (wE P go (.loc 11) (x0 :: x1 :: x2 :: x3 :: x4 :: x5 :: x6 :: x7 :: x8 :: x9 :: x10 :: some d :: env) st Q X) = rho (Q (.v d) st) := congrArg rho (wE_loc11)
theorem wS_asg11 {x0 x1 x2 x3 x4 x5 x6 x7 x8 x9 x10 : Option D} {y : Option D} : wS P go (.asg 11 e) (x0 :: x1 :: x2 :: x3 :: x4 :: x5 :: x6 :: x7 :: x8 :: x9 :: x10 :: y :: env) st N T XX = wE P go e (x0 :: x1 :: x2 :: x3 :: x4 :: x5 :: x6 :: x7 :: x8 :: x9 :: x10 :: y :: env) st (fun v s => wM v s fun d s2 => N (x0 :: x1 :: x2 :: x3 :: x4 :: x5 :: x6 :: x7 :: x8 :: x9 :: x10 :: some d :: env) s2) (fun c fs s => XX c fs (x0 :: x1 :: x2 :: x3 :: x4 :: x5 :: x6 :: x7 :: x8 :: x9 :: x10 :: y :: env) s) := by
  unfold wS wE; conv => lhs; unfold exS
  rw [OX_out]; rfl
@[simp ↓] theorem wS_asg11_r {x0 x1 x2 x3 x4 x5 x6 x7 x8 x9 x10 : Option D} {y : Option D} : rho (wS P go (.asg 11 e) (x0 :: x1 :: x2 :: x3 :: x4 :: x5 :: x6 :: x7 :: x8 :: x9 :: x10 :: y :: env) st N T XX) = rho (wE P go e (x0 :: x1 :: x2 :: x3 :: x4 :: x5 :: x6 :: x7 :: x8 :: x9 :: x10 :: y :: env) st (fun v s => wM v s fun d s2 => N (x0 :: x1 :: x2 :: x3 :: x4 :: x5 :: x6 :: x7 :: x8 :: x9 :: x10 :: some d :: env) s2) (fun c fs s => XX c fs (x0 :: x1 :: x2 :: x3 :: x4 :: x5 :: x6 :: x7 :: x8 :: x9 :: x10 :: y :: env) s)) := congrArg rho (wS_asg11)
theorem wE_loc12 {x0 x1 x2 x3 x4 x5 x6 x7 x8 x9 x10 x11 : Option D} : wE P go (.loc 12) (x0 :: x1 :: x2 :: x3 :: x4 :: x5 :: x6 :: x7 :: x8 :: x9 :: x10 :: x11 :: some d :: env) st Q X = Q (.v d) st := rfl
@[simp ↓] theorem wE_loc12_r {x0 x1 x2 x3 x4 x5 x6 x7 x8 x9 x10 x11 : Option D} : rho (wE P go (.loc 12) (x0 :: x1 :: x2 :: x3 :: x4 :: x5 :: x6 :: x7 :: x8 :: x9 :: x10 :: x11 :: some d :: env) st Q X) = rho (Q (.v d) st) := congrArg rho (wE_loc12)
theorem wS_asg12 {x0 x1 x2 x3 x4 x5 x6 x7 x8 x9 x10 x11 : Option D} {y : Option D} : wS P go (.asg 12 e) (x0 :: x1 :: x2 :: x3 :: x4 :: x5 :: x6 :: x7 :: x8 :: x9 :: x10 :: x11 :: y :: env) st N T XX = wE P go e (x0 :: x1 :: x2 :: x3 :: x4 :: x5 :: x6 :: x7 :: x8 :: x9 :: x10 :: x11 :: y :: env) st (fun v s => wM v s fun d s2 => N (x0 :: x1 :: x2 :: x3 :: x4 :: x5 :: x6 :: x7 :: x8 :: x9 :: x10 :: x11 :: some d :: env) s2) (fun c fs s => XX c fs (x0 :: x1 :: x2 :: x3 :: x4 :: x5 :: x6 :: x7 :: x8 :: x9 :: x10 :: x11 :: y :: env) s) := by
  unfold wS wE; conv => lhs; unfold exS
  rw [OX_out]; rfl
@[simp ↓] theorem wS_asg12_r {x0 x1 x2 x3 x4 x5 x6 x7 x8 x9 x10 x11 : Option D} {y : Option D} : rho (wS P go (.asg 12 e) (x0 :: x1 :: x2 :: x3 :: x4 :: x5 :: x6 :: x7 :: x8 :: x9 :: x10 :: x11 :: y :: env) st N T XX) = rho (wE P go e (x0 :: x1 :: x2 :: x3 :: x4 :: x5 :: x6 :: x7 :: x8 :: x9 :: x10 :: x11 :: y :: env) st (fun v s => wM v s fun d s2 => N (x0 :: x1 :: x2 :: x3 :: x4 :: x5 :: x6 :: x7 :: x8 :: x9 :: x10 :: x11 :: some d :: env) s2) (fun c fs s => XX c fs (x0 :: x1 :: x2 :: x3 :: x4 :: x5 :: x6 :: x7 :: x8 :: x9 :: x10 :: x11 :: y :: env) s)) := congrArg rho (wS_asg12)
theorem wE_loc13 {x0 x1 x2 x3 x4 x5 x6 x7 x8 x9 x10 x11 x12 : Option D} : wE P go (.loc 13) (x0 :: x1 :: x2 :: x3 :: x4 :: x5 :: x6 :: x7 :: x8 :: x9 :: x10 :: x11 :: x12 :: some d :: env) st Q X = Q (.v d) st := rfl
@[simp ↓] theorem wE_loc13_r {x0 x1 x2 x3 x4 x5 x6 x7 x8 x9 x10 x11 x12 : Option D} : rho (wE P go (.loc 13) (x0 :: x1 :: x2 :: x3 :: x4 :: x5 :: x6 :: x7 :: x8 :: x9 :: x10 :: x11 :: x12 :: some d :: env) st Q X) = rho (Q (.v d) st) := congrArg rho (wE_loc13)
theorem wS_asg13 {x0 x1 x2 x3 x4 x5 x6 x7 x8 x9 x10 x11 x12 : Option D} {y : Option D} : wS P go (.asg 13 e) (x0 :: x1 :: x2 :: x3 :: x4 :: x5 :: x6 :: x7 :: x8 :: x9 :: x10 :: x11 :: x12 :: y :: env) st N T XX = wE P go e (x0 :: x1 :: x2 :: x3 :: x4 :: x5 :: x6 :: x7 :: x8 :: x9 :: x10 :: x11 :: x12 :: y :: env) st (fun v s => wM v s fun d s2 => N (x0 :: x1 :: x2 :: x3 :: x4 :: x5 :: x6 :: x7 :: x8 :: x9 :: x10 :: x11 :: x12 :: some d :: env) s2) (fun c fs s => XX c fs (x0 :: x1 :: x2 :: x3 :: x4 :: x5 :: x6 :: x7 :: x8 :: x9 :: x10 :: x11 :: x12 :: y :: env) s) := by
  unfold wS wE; conv => lhs; unfold exS
  rw [OX_out]; rfl
@[simp ↓] theorem wS_asg13_r {x0 x1 x2 x3 x4 x5 x6 x7 x8 x9 x10 x11 x12 : Option D} {y : Option D} : rho (wS P go (.asg 13 e) (x0 :: x1 :: x2 :: x3 :: x4 :: x5 :: x6 :: x7 :: x8 :: x9 :: x10 :: x11 :: x12 :: y :: env) st N T XX) = rho (wE P go e (x0 :: x1 :: x2 :: x3 :: x4 :: x5 :: x6 :: x7 :: x8 :: x9 :: x10 :: x11 :: x12 :: y :: env) st (fun v s => wM v s fun d s2 => N (x0 :: x1 :: x2 :: x3 :: x4 :: x5 :: x6 :: x7 :: x8 :: x9 :: x10 :: x11 :: x12 :: some d :: env) s2) (fun c fs s => XX c fs (x0 :: x1 :: x2 :: x3 :: x4 :: x5 :: x6 :: x7 :: x8 :: x9 :: x10 :: x11 :: x12 :: y :: env) s)) := congrArg rho (wS_asg13)
theorem wE_loc14 {x0 x1 x2 x3 x4 x5 x6 x7 x8 x9 x10 x11 x12 x13 : Option D} : wE P go (.loc 14) (x0 :: x1 :: x2 :: x3 :: x4 :: x5 :: x6 :: x7 :: x8 :: x9 :: x10 :: x11 :: x12 :: x13 :: some d :: env) st Q X = Q (.v d) st := rfl
@[simp ↓] theorem wE_loc14_r {x0 x1 x2 x3 x4 x5 x6 x7 x8 x9 x10 x11 x12 x13 : Option D} : rho (wE P go (.loc 14) (x0 :: x1 :: x2 :: x3 :: x4 :: x5 :: x6 :: x7 :: x8 :: x9 :: x10 :: x11 :: x12 :: x13 :: some d :: env) st Q X) = rho (Q (.v d) st) := congrArg rho (wE_loc14)
theorem wS_asg14 {x0 x1 x2 x3 x4 x5 x6 x7 x8 x9 x10 x11 x12 x13 : Option D} {y : Option D} : wS P go (.asg 14 e) (x0 :: x1 :: x2 :: x3 :: x4 :: x5 :: x6 :: x7 :: x8 :: x9 :: x10 :: x11 :: x12 :: x13 :: y :: env) st N T XX = wE P go e (x0 :: x1 :: x2 :: x3 :: x4 :: x5 :: x6 :: x7 :: x8 :: x9 :: x10 :: x11 :: x12 :: x13 :: y :: env) st (fun v s => wM v s fun d s2 => N (x0 :: x1 :: x2 :: x3 :: x4 :: x5 :: x6 :: x7 :: x8 :: x9 :: x10 :: x11 :: x12 :: x13 :: some d :: env) s2) (fun c fs s => XX c fs (x0 :: x1 :: x2 :: x3 :: x4 :: x5 :: x6 :: x7 :: x8 :: x9 :: x10 :: x11 :: x12 :: x13 :: y :: env) s) := by
  unfold wS wE; conv => lhs; unfold exS
  rw [OX_out]; rfl
@[simp ↓] theorem wS_asg14_r {x0 x1 x2 x3 x4 x5 x6 x7 x8 x9 x10 x11 x12 x13 : Option D} {y : Option D} : rho (wS P go (.asg 14 e) (x0 :: x1 :: x2 :: x3 :: x4 :: x5 :: x6 :: x7 :: x8 :: x9 :: x10 :: x11 :: x12 :: x13 :: y :: env) st N T XX) = rho (wE P go e (x0 :: x1 :: x2 :: x3 :: x4 :: x5 :: x6 :: x7 :: x8 :: x9 :: x10 :: x11 :: x12 :: x13 :: y :: env) st (fun v s => wM v s fun d s2 => N (x0 :: x1 :: x2 :: x3 :: x4 :: x5 :: x6 :: x7 :: x8 :: x9 :: x10 :: x11 :: x12 :: x13 :: some d :: env) s2) (fun c fs s => XX c fs (x0 :: x1 :: x2 :: x3 :: x4 :: x5 :: x6 :: x7 :: x8 :: x9 :: x10 :: x11 :: x12 :: x13 :: y :: env) s)) := congrArg rho (wS_asg14)
theorem wE_loc15 {x0 x1 x2 x3 x4 x5 x6 x7 x8 x9 x10 x11 x12 x13 x14 : Option D} : wE P go (.loc 15) (x0 :: x1 :: x2 :: x3 :: x4 :: x5 :: x6 :: x7 :: x8 :: x9 :: x10 :: x11 :: x12 :: x13 :: x14 :: some d :: env) st Q X = Q (.v d) st := rfl
@[simp ↓] theorem wE_loc15_r {x0 x1 x2 x3 x4 x5 x6 x7 x8 x9 x10 x11 x12 x13 x14 : Option D} : rho (wE P go (.loc 15) (x0 :: x1 :: x2 :: x3 :: x4 :: x5 :: x6 :: x7 :: x8 :: x9 :: x10 :: x11 :: x12 :: x13 :: x14 :: some d :: env) st Q X) = rho (Q (.v d) st) := congrArg rho (wE_loc15)
theorem wS_asg15 {x0 x1 x2 x3 x4 x5 x6 x7 x8 x9 x10 x11 x12 x13 x14 : Option D} {y : Option D} : wS P go (.asg 15 e) (x0 :: x1 :: x2 :: x3 :: x4 :: x5 :: x6 :: x7 :: x8 :: x9 :: x10 :: x11 :: x12 :: x13 :: x14 :: y :: env) st N T XX = wE P go e (x0 :: x1 :: x2 :: x3 :: x4 :: x5 :: x6 :: x7 :: x8 :: x9 :: x10 :: x11 :: x12 :: x13 :: x14 :: y :: env) st (fun v s => wM v s fun d s2 => N (x0 :: x1 :: x2 :: x3 :: x4 :: x5 :: x6 :: x7 :: x8 :: x9 :: x10 :: x11 :: x12 :: x13 :: x14 :: some d :: env) s2) (fun c fs s => XX c fs (x0 :: x1 :: x2 :: x3 :: x4 :: x5 :: x6 :: x7 :: x8 :: x9 :: x10 :: x11 :: x12 :: x13 :: x14 :: y :: env) s) := by
  unfold wS wE; conv => lhs; unfold exS
  rw [OX_out]; rfl
@[simp ↓] theorem wS_asg15_r {x0 x1 x2 x3 x4 x5 x6 x7 x8 x9 x10 x11 x12 x13 x14 : Option D} {y : Option D} : rho (wS P go (.asg 15 e) (x0 :: x1 :: x2 :: x3 :: x4 :: x5 :: x6 :: x7 :: x8 :: x9 :: x10 :: x11 :: x12 :: x13 :: x14 :: y :: env) st N T XX) = rho (wE P go e (x0 :: x1 :: x2 :: x3 :: x4 :: x5 :: x6 :: x7 :: x8 :: x9 :: x10 :: x11 :: x12 :: x13 :: x14 :: y :: env) st (fun v s => wM v s fun d s2 => N (x0 :: x1 :: x2 :: x3 :: x4 :: x5 :: x6 :: x7 :: x8 :: x9 :: x10 :: x11 :: x12 :: x13 :: x14 :: some d :: env) s2) (fun c fs s => XX c fs (x0 :: x1 :: x2 :: x3 :: x4 :: x5 :: x6 :: x7 :: x8 :: x9 :: x10 :: x11 :: x12 :: x13 :: x14 :: y :: env) s)) := congrArg rho (wS_asg15)
theorem wE_loc16 {x0 x1 x2 x3 x4 x5 x6 x7 x8 x9 x10 x11 x12 x13 x14 x15 : Option D} : wE P go (.loc 16) (x0 :: x1 :: x2 :: x3 :: x4 :: x5 :: x6 :: x7 :: x8 :: x9 :: x10 :: x11 :: x12 :: x13 :: x14 :: x15 :: some d :: env) st Q X = Q (.v d) st := rfl
@[simp ↓] theorem wE_loc16_r {x0 x1 x2 x3 x4 x5 x6 x7 x8 x9 x10 x11 x12 x13 x14 x15 : Option D} : rho (wE P go (.loc 16) (x0 :: x1 :: x2 :: x3 :: x4 :: x5 :: x6 :: x7 :: x8 :: x9 :: x10 :: x11 :: x12 :: x13 :: x14 :: x15 :: some d :: env) st Q X) = rho (Q (.v d) st) := congrArg rho (wE_loc16)
theorem wS_asg16 {x0 x1 x2 x3 x4 x5 x6 x7 x8 x9 x10 x11 x12 x13 x14 x15 : Option D} {y : Option D} : wS P go (.asg 16 e) (x0 :: x1 :: x2 :: x3 :: x4 :: x5 :: x6 :: x7 :: x8 :: x9 :: x10 :: x11 :: x12 :: x13 :: x14 :: x15 :: y :: env) st N T XX = wE P go e (x0 :: x1 :: x2 :: x3 :: x4 :: x5 :: x6 :: x7 :: x8 :: x9 :: x10 :: x11 :: x12 :: x13 :: x14 :: x15 :: y :: env) st (fun v s => wM v s fun d s2 => N (x0 :: x1 :: x2 :: x3 :: x4 :: x5 :: x6 :: x7 :: x8 :: x9 :: x10 :: x11 :: x12 :: x13 :: x14 :: x15 :: some d :: env) s2) (fun c fs s => XX c fs (x0 :: x1 :: x2 :: x3 :: x4 :: x5 :: x6 :: x7 :: x8 :: x9 :: x10 :: x11 :: x12 :: x13 :: x14 :: x15 :: y :: env) s) := by
  unfold wS wE; conv => lhs; unfold exS
  rw [OX_out]; rfl
@[simp ↓] theorem wS_asg16_r {x0 x1 x2 x3 x4 x5 x6 x7 x8 x9 x10 x11 x12 x13 x14 x15 : Option D} {y : Option D} : rho (wS P go (.asg 16 e) (x0 :: x1 :: x2 :: x3 :: x4 :: x5 :: x6 :: x7 :: x8 :: x9 :: x10 :: x11 :: x12 :: x13 :: x14 :: x15 :: y :: env) st N T XX) = rho (wE P go e (x0 :: x1 :: x2 :: x3 :: x4 :: x5 :: x6 :: x7 :: x8 :: x9 :: x10 :: x11 :: x12 :: x13 :: x14 :: x15 :: y :: env) st (fun v s => wM v s fun d s2 => N (x0 :: x1 :: x2 :: x3 :: x4 :: x5 :: x6 :: x7 :: x8 :: x9 :: x10 :: x11 :: x12 :: x13 :: x14 :: x15 :: some d :: env) s2) (fun c fs s => XX c fs (x0 :: x1 :: x2 :: x3 :: x4 :: x5 :: x6 :: x7 :: x8 :: x9 :: x10 :: x11 :: x12 :: x13 :: x14 :: x15 :: y :: env) s)) := congrArg rho (wS_asg16)
theorem wE_loc17 {x0 x1 x2 x3 x4 x5 x6 x7 x8 x9 x10 x11 x12 x13 x14 x15 x16 : Option D} : wE P go (.loc 17) (x0 :: x1 :: x2 :: x3 :: x4 :: x5 :: x6 :: x7 :: x8 :: x9 :: x10 :: x11 :: x12 :: x13 :: x14 :: x15 :: x16 :: some d :: env) st Q X = Q (.v d) st := rfl
@[simp ↓] theorem wE_loc17_r {x0 x1 x2 x3 x4 x5 x6 x7 x8 x9 x10 x11 x12 x13 x14 x15 x16 : Option D} : rho (wE P go (.loc 17) (x0 :: x1 :: x2 :: x3 :: x4 :: x5 :: x6 :: x7 :: x8 :: x9 :: x10 :: x11 :: x12 :: x13 :: x14 :: x15 :: x16 :: some d :: env) st Q X) = rho (Q (.v d) st) := congrArg rho (wE_loc17)
theorem wS_asg17 {x0 x1 x2 x3 x4 x5 x6 x7 x8 x9 x10 x11 x12 x13 x14 x15 x16 : Option D} {y : Option D} : wS P go (.asg 17 e) (x0 :: x1 :: x2 :: x3 :: x4 :: x5 :: x6 :: x7 :: x8 :: x9 :: x10 :: x11 :: x12 :: x13 :: x14 :: x15 :: x16 :: y :: env) st N T XX = wE P go e (x0 :: x1 :: x2 :: x3 :: x4 :: x5 :: x6 :: x7 :: x8 :: x9 :: x10 :: x11 :: x12 :: x13 :: x14 :: x15 :: x16 :: y :: env) st (fun v s => wM v s fun d s2 => N (x0 :: x1 :: x2 :: x3 :: x4 :: x5 :: x6 :: x7 :: x8 :: x9 :: x10 :: x11 :: x12 :: x13 :: x14 :: x15 :: x16 :: some d :: env) s2) (fun c fs s => XX c fs (x0 :: x1 :: x2 :: x3 :: x4 :: x5 :: x6 :: x7 :: x8 :: x9 :: x10 :: x11 :: x12 :: x13 :: x14 :: x15 :: x16 :: y :: env) s) := by
  unfold wS wE; conv => lhs; unfold exS
  rw [OX_out]; rfl
@[simp ↓] theorem wS_asg17_r {x0 x1 x2 x3 x4 x5 x6 x7 x8 x9 x10 x11 x12 x13 x14 x15 x16 : Option D} {y : Option D} : rho (wS P go (.asg 17 e) (x0 :: x1 :: x2 :: x3 :: x4 :: x5 :: x6 :: x7 :: x8 :: x9 :: x10 :: x11 :: x12 :: x13 :: x14 :: x15 :: x16 :: y :: env) st N T XX) = rho (wE P go e (x0 :: x1 :: x2 :: x3 :: x4 :: x5 :: x6 :: x7 :: x8 :: x9 :: x10 :: x11 :: x12 :: x13 :: x14 :: x15 :: x16 :: y :: env) st (fun v s => wM v s fun d s2 => N (x0 :: x1 :: x2 :: x3 :: x4 :: x5 :: x6 :: x7 :: x8 :: x9 :: x10 :: x11 :: x12 :: x13 :: x14 :: x15 :: x16 :: some d :: env) s2) (fun c fs s => XX c fs (x0 :: x1 :: x2 :: x3 :: x4 :: x5 :: x6 :: x7 :: x8 :: x9 :: x10 :: x11 :: x12 :: x13 :: x14 :: x15 :: x16 :: y :: env) s)) := congrArg rho (wS_asg17)
theorem wE_loc18 {x0 x1 x2 x3 x4 x5 x6 x7 x8 x9 x10 x11 x12 x13 x14 x15 x16 x17 : Option D} : wE P go (.loc 18) (x0 :: x1 :: x2 :: x3 :: x4 :: x5 :: x6 :: x7 :: x8 :: x9 :: x10 :: x11 :: x12 :: x13 :: x14 :: x15 :: x16 :: x17 :: some d :: env) st Q X = Q (.v d) st := rfl
@[simp ↓] theorem wE_loc18_r {x0 x1 x2 x3 x4 x5 x6 x7 x8 x9 x10 x11 x12 x13 x14 x15 x16 x17 : Option D} : rho (wE P go (.loc 18) (x0 :: x1 :: x2 :: x3 :: x4 :: x5 :: x6 :: x7 :: x8 :: x9 :: x10 :: x11 :: x12 :: x13 :: x14 :: x15 :: x16 :: x17 :: some d :: env) st Q X) = rho (Q (.v d) st) := congrArg rho (wE_loc18)
theorem wS_asg18 {x0 x1 x2 x3 x4 x5 x6 x7 x8 x9 x10 x11 x12 x13 x14 x15 x16 x17 : Option D} {y : Option D} : wS P go (.asg 18 e) (x0 :: x1 :: x2 :: x3 :: x4 :: x5 :: x6 :: x7 :: x8 :: x9 :: x10 :: x11 :: x12 :: x13 :: x14 :: x15 :: x16 :: x17 :: y :: env) st N T XX = wE P go e (x0 :: x1 :: x2 :: x3 :: x4 :: x5 :: x6 :: x7 :: x8 :: x9 :: x10 :: x11 :: x12 :: x13 :: x14 :: x15 :: x16 :: x17 :: y :: env) st (fun v s => wM v s fun d s2 => N (x0 :: x1 :: x2 :: x3 :: x4 :: x5 :: x6 :: x7 :: x8 :: x9 :: x10 :: x11 :: x12 :: x13 :: x14 :: x15 :: x16 :: x17 :: some d :: env) s2) (fun c fs s => XX c fs (x0 :: x1 :: x2 :: x3 :: x4 :: x5 :: x6 :: x7 :: x8 :: x9 :: x10 :: x11 :: x12 :: x13 :: x14 :: x15 :: x16 :: x17 :: y :: env) s) := by
  unfold wS wE; conv => lhs; unfold exS
  rw [OX_out]; rfl
@[simp ↓] theorem wS_asg18_r {x0 x1 x2 x3 x4 x5 x6 x7 x8 x9 x10 x11 x12 x13 x14 x15 x16 x17 : Option D} {y : Option D} : rho (wS P go (.asg 18 e) (x0 :: x1 :: x2 :: x3 :: x4 :: x5 :: x6 :: x7 :: x8 :: x9 :: x10 :: x11 :: x12 :: x13 :: x14 :: x15 :: x16 :: x17 :: y :: env) st N T XX) = rho (wE P go e (x0 :: x1 :: x2 :: x3 :: x4 :: x5 :: x6 :: x7 :: x8 :: x9 :: x10 :: x11 :: x12 :: x13 :: x14 :: x15 :: x16 :: x17 :: y :: env) st (fun v s => wM v s fun d s2 => N (x0 :: x1 :: x2 :: x3 :: x4 :: x5 :: x6 :: x7 :: x8 :: x9 :: x10 :: x11 :: x12 :: x13 :: x14 :: x15 :: x16 :: x17 :: some d :: env) s2) (fun c fs s => XX c fs (x0 :: x1 :: x2 :: x3 :: x4 :: x5 :: x6 :: x7 :: x8 :: x9 :: x10 :: x11 :: x12 :: x13 :: x14 :: x15 :: x16 :: x17 :: y :: env) s)) := congrArg rho (wS_asg18)
theorem wE_loc19 {x0 x1 x2 x3 x4 x5 x6 x7 x8 x9 x10 x11 x12 x13 x14 x15 x16 x17 x18 : Option D} : wE P go (.loc 19) (x0 :: x1 :: x2 :: x3 :: x4 :: x5 :: x6 :: x7 :: x8 :: x9 :: x10 :: x11 :: x12 :: x13 :: x14 :: x15 :: x16 :: x17 :: x18 :: some d :: env) st Q X = Q (.v d) st := rfl
@[simp ↓] theorem wE_loc19_r {x0 x1 x2 x3 x4 x5 x6 x7 x8 x9 x10 x11 x12 x13 x14 x15 x16 x17 x18 : Option D} : rho (wE P go (.loc 19) (x0 :: x1 :: x2 :: x3 :: x4 :: x5 :: x6 :: x7 :: x8 :: x9 :: x10 :: x11 :: x12 :: x13 :: x14 :: x15 :: x16 :: x17 :: x18 :: some d :: env) st Q X) = rho (Q (.v d) st) := congrArg rho (wE_loc19)
theorem wS_asg19 {x0 x1 x2 x3 x4 x5 x6 x7 x8 x9 x10 x11 x12 x13 x14 x15 x16 x17 x18 : Option D} {y : Option D} : wS P go (.asg 19 e) (x0 :: x1 :: x2 :: x3 :: x4 :: x5 :: x6 :: x7 :: x8 :: x9 :: x10 :: x11 :: x12 :: x13 :: x14 :: x15 :: x16 :: x17 :: x18 :: y :: env) st N T XX = wE P go e (x0 :: x1 :: x2 :: x3 :: x4 :: x5 :: x6 :: x7 :: x8 :: x9 :: x10 :: x11 :: x12 :: x13 :: x14 :: x15 :: x16 :: x17 :: x18 :: y :: env) st (fun v s => wM v s fun d s2 => N (x0 :: x1 :: x2 :: x3 :: x4 :: x5 :: x6 :: x7 :: x8 :: x9 :: x10 :: x11 :: x12 :: x13 :: x14 :: x15 :: x16 :: x17 :: x18 :: some d :: env) s2) (fun c fs s => XX c fs (x0 :: x1 :: x2 :: x3 :: x4 :: x5 :: x6 :: x7 :: x8 :: x9 :: x10 :: x11 :: x12 :: x13 :: x14 :: x15 :: x16 :: x17 :: x18 :: y :: env) s) := by
  unfold wS wE; conv => lhs; unfold exS
  rw [OX_out]; rfl
@[simp ↓] theorem wS_asg19_r {x0 x1 x2 x3 x4 x5 x6 x7 x8 x9 x10 x11 x12 x13 x14 x15 x16 x17 x18 : Option D} {y : Option D} : rho (wS P go (.asg 19 e) (x0 :: x1 :: x2 :: x3 :: x4 :: x5 :: x6 :: x7 :: x8 :: x9 :: x10 :: x11 :: x12 :: x13 :: x14 :: x15 :: x16 :: x17 :: x18 :: y :: env) st N T XX) = rho (wE P go e (x0 :: x1 :: x2 :: x3 :: x4 :: x5 :: x6 :: x7 :: x8 :: x9 :: x10 :: x11 :: x12 :: x13 :: x14 :: x15 :: x16 :: x17 :: x18 :: y :: env) st (fun v s => wM v s fun d s2 => N (x0 :: x1 :: x2 :: x3 :: x4 :: x5 :: x6 :: x7 :: x8 :: x9 :: x10 :: x11 :: x12 :: x13 :: x14 :: x15 :: x16 :: x17 :: x18 :: some d :: env) s2) (fun c fs s => XX c fs (x0 :: x1 :: x2 :: x3 :: x4 :: x5 :: x6 :: x7 :: x8 :: x9 :: x10 :: x11 :: x12 :: x13 :: x14 :: x15 :: x16 :: x17 :: x18 :: y :: env) s)) := congrArg rho (wS_asg19)
theorem wE_loc20 {x0 x1 x2 x3 x4 x5 x6 x7 x8 x9 x10 x11 x12 x13 x14 x15 x16 x17 x18 x19 : Option D} : wE P go (.loc 20) (x0 :: x1 :: x2 :: x3 :: x4 :: x5 :: x6 :: x7 :: x8 :: x9 :: x10 :: x11 :: x12 :: x13 :: x14 :: x15 :: x16 :: x17 :: x18 :: x19 :: some d :: env) st Q X = Q (.v d) st := rfl
@[simp ↓] theorem wE_loc20_r {x0 x1 x2 x3 x4 x5 x6 x7 x8 x9 x10 x11 x12 x13 x14 x15 x16 x17 x18 x19 : Option D} : rho (wE P go (.loc 20) (x0 :: x1 :: x2 :: x3 :: x4 :: x5 :: x6 :: x7 :: x8 :: x9 :: x10 :: x11 :: x12 :: x13 :: x14 :: x15 :: x16 :: x17 :: x18 :: x19 :: some d :: env) st Q X) = rho (Q (.v d) st) := congrArg rho (wE_loc20)
theorem wS_asg20 {x0 x1 x2 x3 x4 x5 x6 x7 x8 x9 x10 x11 x12 x13 x14 x15 x16 x17 x18 x19 : Option D} {y : Option D} : wS P go (.asg 20 e) (x0 :: x1 :: x2 :: x3 :: x4 :: x5 :: x6 :: x7 :: x8 :: x9 :: x10 :: x11 :: x12 :: x13 :: x14 :: x15 :: x16 :: x17 :: x18 :: x19 :: y :: env) st N T XX = wE P go e (x0 :: x1 :: x2 :: x3 :: x4 :: x5 :: x6 :: x7 :: x8 :: x9 :: x10 :: x11 :: x12 :: x13 :: x14 :: x15 :: x16 :: x17 :: x18 :: x19 :: y :: env) st (fun v s => wM v s fun d s2 => N (x0 :: x1 :: x2 :: x3 :: x4 :: x5 :: x6 :: x7 :: x8 :: x9 :: x10 :: x11 :: x12 :: x13 :: x14 :: x15 :: x16 :: x17 :: x18 :: x19 :: some d :: env) s2) (fun c fs s => XX c fs (x0 :: x1 :: x2 :: x3 :: x4 :: x5 :: x6 :: x7 :: x8 :: x9 :: x10 :: x11 :: x12 :: x13 :: x14 :: x15 :: x16 :: x17 :: x18 :: x19 :: y :: env) s) := by
  unfold wS wE; conv => lhs; unfold exS
  rw [OX_out]; rfl
@[simp ↓] theorem wS_asg20_r {x0 x1 x2 x3 x4 x5 x6 x7 x8 x9 x10 x11 x12 x13 x14 x15 x16 x17 x18 x19 : Option D} {y : Option D} : rho (wS P go (.asg 20 e) (x0 :: x1 :: x2 :: x3 :: x4 :: x5 :: x6 :: x7 :: x8 :: x9 :: x10 :: x11 :: x12 :: x13 :: x14 :: x15 :: x16 :: x17 :: x18 :: x19 :: y :: env) st N T XX) = rho (wE P go e (x0 :: x1 :: x2 :: x3 :: x4 :: x5 :: x6 :: x7 :: x8 :: x9 :: x10 :: x11 :: x12 :: x13 :: x14 :: x15 :: x16 :: x17 :: x18 :: x19 :: y :: env) st (fun v s => wM v s fun d s2 => N (x0 :: x1 :: x2 :: x3 :: x4 :: x5 :: x6 :: x7 :: x8 :: x9 :: x10 :: x11 :: x12 :: x13 :: x14 :: x15 :: x16 :: x17 :: x18 :: x19 :: some d :: env) s2) (fun c fs s => XX c fs (x0 :: x1 :: x2 :: x3 :: x4 :: x5 :: x6 :: x7 :: x8 :: x9 :: x10 :: x11 :: x12 :: x13 :: x14 :: x15 :: x16 :: x17 :: x18 :: x19 :: y :: env) s)) := congrArg rho (wS_asg20)
theorem wE_loc21 {x0 x1 x2 x3 x4 x5 x6 x7 x8 x9 x10 x11 x12 x13 x14 x15 x16 x17 x18 x19 x20 : Option D} : wE P go (.loc 21) (x0 :: x1 :: x2 :: x3 :: x4 :: x5 :: x6 :: x7 :: x8 :: x9 :: x10 :: x11 :: x12 :: x13 :: x14 :: x15 :: x16 :: x17 :: x18 :: x19 :: x20 :: some d :: env) st Q X = Q (.v d) st := rfl
@[simp ↓] theorem wE_loc21_r {x0 x1 x2 x3 x4 x5 x6 x7 x8 x9 x10 x11 x12 x13 x14 x15 x16 x17 x18 x19 x20 : Option D} : rho (wE P go (.loc 21) (x0 :: x1 :: x2 :: x3 :: x4 :: x5 :: x6 :: x7 :: x8 :: x9 :: x10 :: x11 :: x12 :: x13 :: x14 :: x15 :: x16 :: x17 :: x18 :: x19 :: x20 :: some d :: env) st Q X) = rho (Q (.v d) st) := congrArg rho (wE_loc21)
theorem wS_asg21 {x0 x1 x2 x3 x4 x5 x6 x7 x8 x9 x10 x11 x12 x13 x14 x15 x16 x17 x18 x19 x20 : Option D} {y : Option D} : wS P go (.asg 21 e) (x0 :: x1 :: x2 :: x3 :: x4 :: x5 :: x6 :: x7 :: x8 :: x9 :: x10 :: x11 :: x12 :: x13 :: x14 :: x15 :: x16 :: x17 :: x18 :: x19 :: x20 :: y :: env) st N T XX = wE P go e (x0 :: x1 :: x2 :: x3 :: x4 :: x5 :: x6 :: x7 :: x8 :: x9 :: x10 :: x11 :: x12 :: x13 :: x14 :: x15 :: x16 :: x17 :: x18 :: x19 :: x20 :: y :: env) st (fun v s => wM v s fun d s2 => N (x0 :: x1 :: x2 :: x3 :: x4 :: x5 :: x6 :: x7 :: x8 :: x9 :: x10 :: x11 :: x12 :: x13 :: x14 :: x15 :: x16 :: x17 :: x18 :: x19 :: x20 :: some d :: env) s2) (fun c fs s => XX c fs (x0 :: x1 :: x2 :: x3 :: x4 :: x5 :: x6 :: x7 :: x8 :: x9 :: x10 :: x11 :: x12 :: x13 :: x14 :: x15 :: x16 :: x17 :: x18 :: x19 :: x20 :: y :: env) s) := by
  unfold wS wE; conv => lhs; unfold exS
  rw [OX_out]; rfl
@[simp ↓] theorem wS_asg21_r {x0 x1 x2 x3 x4 x5 x6 x7 x8 x9 x10 x11 x12 x13 x14 x15 x16 x17 x18 x19 x20 : Option D} {y : Option D} : rho (wS P go (.asg 21 e) (x0 :: x1 :: x2 :: x3 :: x4 :: x5 :: x6 :: x7 :: x8 :: x9 :: x10 :: x11 :: x12 :: x13 :: x14 :: x15 :: x16 :: x17 :: x18 :: x19 :: x20 :: y :: env) st N T XX) = rho (wE P go e (x0 :: x1 :: x2 :: x3 :: x4 :: x5 :: x6 :: x7 :: x8 :: x9 :: x10 :: x11 :: x12 :: x13 :: x14 :: x15 :: x16 :: x17 :: x18 :: x19 :: x20 :: y :: env) st (fun v s => wM v s fun d s2 => N (x0 :: x1 :: x2 :: x3 :: x4 :: x5 :: x6 :: x7 :: x8 :: x9 :: x10 :: x11 :: x12 :: x13 :: x14 :: x15 :: x16 :: x17 :: x18 :: x19 :: x20 :: some d :: env) s2) (fun c fs s => XX c fs (x0 :: x1 :: x2 :: x3 :: x4 :: x5 :: x6 :: x7 :: x8 :: x9 :: x10 :: x11 :: x12 :: x13 :: x14 :: x15 :: x16 :: x17 :: x18 :: x19 :: x20 :: y :: env) s)) := congrArg rho (wS_asg21)
theorem wE_loc22 {x0 x1 x2 x3 x4 x5 x6 x7 x8 x9 x10 x11 x12 x13 x14 x15 x16 x17 x18 x19 x20 x21 : Option D} : wE P go (.loc 22) (x0 :: x1 :: x2 :: x3 :: x4 :: x5 :: x6 :: x7 :: x8 :: x9 :: x10 :: x11 :: x12 :: x13 :: x14 :: x15 :: x16 :: x17 :: x18 :: x19 :: x20 :: x21 :: some d :: env) st Q X = Q (.v d) st := rfl
@[simp ↓] theorem wE_loc22_r {x0 x1 x2 x3 x4 x5 x6 x7 x8 x9 x10 x11 x12 x13 x14 x15 x16 x17 x18 x19 x20 x21 : Option D} : rho (wE P go (.loc 22) (x0 :: x1 :: x2 :: x3 :: x4 :: x5 :: x6 :: x7 :: x8 :: x9 :: x10 :: x11 :: x12 :: x13 :: x14 :: x15 :: x16 :: x17 :: x18 :: x19 :: x20 :: x21 :: some d :: env) st Q X) = rho (Q (.v d) st) := congrArg rho (wE_loc22)
theorem wS_asg22 {x0 x1 x2 x3 x4 x5 x6 x7 x8 x9 x10 x11 x12 x13 x14 x15 x16 x17 x18 x19 x20 x21 : Option D} {y : Option D} : wS P go (.asg 22 e) (x0 :: x1 :: x2 :: x3 :: x4 :: x5 :: x6 :: x7 :: x8 :: x9 :: x10 :: x11 :: x12 :: x13 :: x14 :: x15 :: x16 :: x17 :: x18 :: x19 :: x20 :: x21 :: y :: env) st N T XX = wE P go e (x0 :: x1 :: x2 :: x3 :: x4 :: x5 :: x6 :: x7 :: x8 :: x9 :: x10 :: x11 :: x12 :: x13 :: x14 :: x15 :: x16 :: x17 :: x18 :: x19 :: x20 :: x21 :: y :: env) st (fun v s => wM v s fun d s2 => N (x0 :: x1 :: x2 :: x3 :: x4 :: x5 :: x6 :: x7 :: x8 :: x9 :: x10 :: x11 :: x12 :: x13 :: x14 :: x15 :: x16 :: x17 :: x18 :: x19 :: x20 :: x21 :: some d :: env) s2) (fun c fs s => XX c fs (x0 :: x1 :: x2 :: x3 :: x4 :: x5 :: x6 :: x7 :: x8 :: x9 :: x10 :: x11 :: x12 :: x13 :: x14 :: x15 :: x16 :: x17 :: x18 :: x19 :: x20 :: x21 :: y :: env) s) := by
  unfold wS wE; conv => lhs; unfold exS
  rw [OX_out]; rfl
@[simp ↓] theorem wS_asg22_r {x0 x1 x2 x3 x4 x5 x6 x7 x8 x9 x10 x11 x12 x13 x14 x15 x16 x17 x18 x19 x20 x21 : Option D} {y : Option D} : rho (wS P go (.asg 22 e) (x0 :: x1 :: x2 :: x3 :: x4 :: x5 :: x6 :: x7 :: x8 :: x9 :: x10 :: x11 :: x12 :: x13 :: x14 :: x15 :: x16 :: x17 :: x18 :: x19 :: x20 :: x21 :: y :: env) st N T XX) = rho (wE P go e (x0 :: x1 :: x2 :: x3 :: x4 :: x5 :: x6 :: x7 :: x8 :: x9 :: x10 :: x11 :: x12 :: x13 :: x14 :: x15 :: x16 :: x17 :: x18 :: x19 :: x20 :: x21 :: y :: env) st (fun v s => wM v s fun d s2 => N (x0 :: x1 :: x2 :: x3 :: x4 :: x5 :: x6 :: x7 :: x8 :: x9 :: x10 :: x11 :: x12 :: x13 :: x14 :: x15 :: x16 :: x17 :: x18 :: x19 :: x20 :: x21 :: some d :: env) s2) (fun c fs s => XX c fs (x0 :: x1 :: x2 :: x3 :: x4 :: x5 :: x6 :: x7 :: x8 :: x9 :: x10 :: x11 :: x12 :: x13 :: x14 :: x15 :: x16 :: x17 :: x18 :: x19 :: x20 :: x21 :: y :: env) s)) := congrArg rho (wS_asg22)
theorem wE_loc23 {x0 x1 x2 x3 x4 x5 x6 x7 x8 x9 x10 x11 x12 x13 x14 x15 x16 x17 x18 x19 x20 x21 x22 : Option D} : wE P go (.loc 23) (x0 :: x1 :: x2 :: x3 :: x4 :: x5 :: x6 :: x7 :: x8 :: x9 :: x10 :: x11 :: x12 :: x13 :: x14 :: x15 :: x16 :: x17 :: x18 :: x19 :: x20 :: x21 :: x22 :: some d :: env) st Q X = Q (.v d) st := rfl
@[simp ↓] theorem wE_loc23_r {x0 x1 x2 x3 x4 x5 x6 x7 x8 x9 x10 x11 x12 x13 x14 x15 x16 x17 x18 x19 x20 x21 x22 : Option D} : rho (wE P go (.loc 23) (x0 :: x1 :: x2 :: x3 :: x4 :: x5 :: x6 :: x7 :: x8 :: x9 :: x10 :: x11 :: x12 :: x13 :: x14 :: x15 :: x16 :: x17 :: x18 :: x19 :: x20 :: x21 :: x22 :: some d :: env) st Q X) = rho (Q (.v d) st) := congrArg rho (wE_loc23)
theorem wS_asg23 {x0 x1 x2 x3 x4 x5 x6 x7 x8 x9 x10 x11 x12 x13 x14 x15 x16 x17 x18 x19 x20 x21 x22 : Option D} {y : Option D} : wS P go (.asg 23 e) (x0 :: x1 :: x2 :: x3 :: x4 :: x5 :: x6 :: x7 :: x8 :: x9 :: x10 :: x11 :: x12 :: x13 :: x14 :: x15 :: x16 :: x17 :: x18 :: x19 :: x20 :: x21 :: x22 :: y :: env) st N T XX = wE P go e (x0 :: x1 :: x2 :: x3 :: x4 :: x5 :: x6 :: x7 :: x8 :: x9 :: x10 :: x11 :: x12 :: x13 :: x14 :: x15 :: x16 :: x17 :: x18 :: x19 :: x20 :: x21 :: x22 :: y :: env) st (fun v s => wM v s fun d s2 => N (x0 :: x1 :: x2 :: x3 :: x4 :: x5 :: x6 :: x7 :: x8 :: x9 :: x10 :: x11 :: x12 :: x13 :: x14 :: x15 :: x16 :: x17 :: x18 :: x19 :: x20 :: x21 :: x22 :: some d :: env) s2) (fun c fs s => XX c fs (x0 :: x1 :: x2 :: x3 :: x4 :: x5 :: x6 :: x7 :: x8 :: x9 :: x10 :: x11 :: x12 :: x13 :: x14 :: x15 :: x16 :: x17 :: x18 :: x19 :: x20 :: x21 :: x22 :: y :: env) s) := by
  unfold wS wE; conv => lhs; unfold exS
  rw [OX_out]; rfl
@[simp ↓] theorem wS_asg23_r {x0 x1 x2 x3 x4 x5 x6 x7 x8 x9 x10 x11 x12 x13 x14 x15 x16 x17 x18 x19 x20 x21 x22 : Option D} {y : Option D} : rho (wS P go (.asg 23 e) (x0 :: x1 :: x2 :: x3 :: x4 :: x5 :: x6 :: x7 :: x8 :: x9 :: x10 :: x11 :: x12 :: x13 :: x14 :: x15 :: x16 :: x17 :: x18 :: x19 :: x20 :: x21 :: x22 :: y :: env) st N T XX) = rho (wE P go e (x0 :: x1 :: x2 :: x3 :: x4 :: x5 :: x6 :: x7 :: x8 :: x9 :: x10 :: x11 :: x12 :: x13 :: x14 :: x15 :: x16 :: x17 :: x18 :: x19 :: x20 :: x21 :: x22 :: y :: env) st (fun v s => wM v s fun d s2 => N (x0 :: x1 :: x2 :: x3 :: x4 :: x5 :: x6 :: x7 :: x8 :: x9 :: x10 :: x11 :: x12 :: x13 :: x14 :: x15 :: x16 :: x17 :: x18 :: x19 :: x20 :: x21 :: x22 :: some d :: env) s2) (fun c fs s => XX c fs (x0 :: x1 :: x2 :: x3 :: x4 :: x5 :: x6 :: x7 :: x8 :: x9 :: x10 :: x11 :: x12 :: x13 :: x14 :: x15 :: x16 :: x17 :: x18 :: x19 :: x20 :: x21 :: x22 :: y :: env) s)) := congrArg rho (wS_asg23)
theorem wE_loc24 {x0 x1 x2 x3 x4 x5 x6 x7 x8 x9 x10 x11 x12 x13 x14 x15 x16 x17 x18 x19 x20 x21 x22 x23 : Option D} : wE P go (.loc 24) (x0 :: x1 :: x2 :: x3 :: x4 :: x5 :: x6 :: x7 :: x8 :: x9 :: x10 :: x11 :: x12 :: x13 :: x14 :: x15 :: x16 :: x17 :: x18 :: x19 :: x20 :: x21 :: x22 :: x23 :: some d :: env) st Q X = Q (.v d) st := rfl
@[simp ↓] theorem wE_loc24_r {x0 x1 x2 x3 x4 x5 x6 x7 x8 x9 x10 x11 x12 x13 x14 x15 x16 x17 x18 x19 x20 x21 x22 x23 : Option D} : rho (wE P go (.loc 24) (x0 :: x1 :: x2 :: x3 :: x4 :: x5 :: x6 :: x7 :: x8 :: x9 :: x10 :: x11 :: x12 :: x13 :: x14 :: x15 :: x16 :: x17 :: x18 :: x19 :: x20 :: x21 :: x22 :: x23 :: some d :: env) st Q X) = rho (Q (.v d) st) := congrArg rho (wE_loc24)
theorem wS_asg24 {x0 x1 x2 x3 x4 x5 x6 x7 x8 x9 x10 x11 x12 x13 x14 x15 x16 x17 x18 x19 x20 x21 x22 x23 : Option D} {y : Option D} : wS P go (.asg 24 e) (x0 :: x1 :: x2 :: x3 :: x4 :: x5 :: x6 :: x7 :: x8 :: x9 :: x10 :: x11 :: x12 :: x13 :: x14 :: x15 :: x16 :: x17 :: x18 :: x19 :: x20 :: x21 :: x22 :: x23 :: y :: env) st N T XX = wE P go e (x0 :: x1 :: x2 :: x3 :: x4 :: x5 :: x6 :: x7 :: x8 :: x9 :: x10 :: x11 :: x12 :: x13 :: x14 :: x15 :: x16 :: x17 :: x18 :: x19 :: x20 :: x21 :: x22 :: x23 :: y :: env) st (fun v s => wM v s fun d s2 => N (x0 :: x1 :: x2 :: x3 :: x4 :: x5 :: x6 :: x7 :: x8 :: x9 :: x10 :: x11 :: x12 :: x13 :: x14 :: x15 :: x16 :: x17 :: x18 :: x19 :: x20 :: x21 :: x22 :: x23 :: some d :: env) s2) (fun c fs s => XX c fs (x0 :: x1 :: x2 :: x3 :: x4 :: x5 :: x6 :: x7 :: x8 :: x9 :: x10 :: x11 :: x12 :: x13 :: x14 :: x15 :: x16 :: x17 :: x18 :: x19 :: x20 :: x21 :: x22 :: x23 :: y :: env) s) := by
  unfold wS wE; conv => lhs; unfold exS
  rw [OX_out]; rfl
@[simp ↓] theorem wS_asg24_r {x0 x1 x2 x3 x4 x5 x6 x7 x8 x9 x10 x11 x12 x13 x14 x15 x16 x17 x18 x19 x20 x21 x22 x23 : Option D} {y : Option D} : rho (wS P go (.asg 24 e) (x0 :: x1 :: x2 :: x3 :: x4 :: x5 :: x6 :: x7 :: x8 :: x9 :: x10 :: x11 :: x12 :: x13 :: x14 :: x15 :: x16 :: x17 :: x18 :: x19 :: x20 :: x21 :: x22 :: x23 :: y :: env) st N T XX) = rho (wE P go e (x0 :: x1 :: x2 :: x3 :: x4 :: x5 :: x6 :: x7 :: x8 :: x9 :: x10 :: x11 :: x12 :: x13 :: x14 :: x15 :: x16 :: x17 :: x18 :: x19 :: x20 :: x21 :: x22 :: x23 :: y :: env) st (fun v s => wM v s fun d s2 => N (x0 :: x1 :: x2 :: x3 :: x4 :: x5 :: x6 :: x7 :: x8 :: x9 :: x10 :: x11 :: x12 :: x13 :: x14 :: x15 :: x16 :: x17 :: x18 :: x19 :: x20 :: x21 :: x22 :: x23 :: some d :: env) s2) (fun c fs s => XX c fs (x0 :: x1 :: x2 :: x3 :: x4 :: x5 :: x6 :: x7 :: x8 :: x9 :: x10 :: x11 :: x12 :: x13 :: x14 :: x15 :: x16 :: x17 :: x18 :: x19 :: x20 :: x21 :: x22 :: x23 :: y :: env) s)) := congrArg rho (wS_asg24)
theorem wE_loc25 {x0 x1 x2 x3 x4 x5 x6 x7 x8 x9 x10 x11 x12 x13 x14 x15 x16 x17 x18 x19 x20 x21 x22 x23 x24 : Option D} : wE P go (.loc 25) (x0 :: x1 :: x2 :: x3 :: x4 :: x5 :: x6 :: x7 :: x8 :: x9 :: x10 :: x11 :: x12 :: x13 :: x14 :: x15 :: x16 :: x17 :: x18 :: x19 :: x20 :: x21 :: x22 :: x23 :: x24 :: some d :: env) st Q X = Q (.v d) st := rfl
@[simp ↓] theorem wE_loc25_r {x0 x1 x2 x3 x4 x5 x6 x7 x8 x9 x10 x11 x12 x13 x14 x15 x16 x17 x18 x19 x20 x21 x22 x23 x24 : Option D} : rho (wE P go (.loc 25) (x0 :: x1 :: x2 :: x3 :: x4 :: x5 :: x6 :: x7 :: x8 :: x9 :: x10 :: x11 :: x12 :: x13 :: x14 :: x15 :: x16 :: x17 :: x18 :: x19 :: x20 :: x21 :: x22 :: x23 :: x24 :: some d :: env) st Q X) = rho (Q (.v d) st) := congrArg rho (wE_loc25)
theorem wS_asg25 {x0 x1 x2 x3 x4 x5 x6 x7 x8 x9 x10 x11 x12 x13 x14 x15 x16 x17 x18 x19 x20 x21 x22 x23 x24 : Option D} {y : Option D} : wS P go (.asg 25 e) (x0 :: x1 :: x2 :: x3 :: x4 :: x5 :: x6 :: x7 :: x8 :: x9 :: x10 :: x11 :: x12 :: x13 :: x14 :: x15 :: x16 :: x17 :: x18 :: x19 :: x20 :: x21 :: x22 :: x23 :: x24 :: y :: env) st N T XX = wE P go e (x0 :: x1 :: x2 :: x3 :: x4 :: x5 :: x6 :: x7 :: x8 :: x9 :: x10 :: x11 :: x12 :: x13 :: x14 :: x15 :: x16 :: x17 :: x18 :: x19 :: x20 :: x21 :: x22 :: x23 :: x24 :: y :: env) st (fun v s => wM v s fun d s2 => N (x0 :: x1 :: x2 :: x3 :: x4 :: x5 :: x6 :: x7 :: x8 :: x9 :: x10 :: x11 :: x12 :: x13 :: x14 :: x15 :: x16 :: x17 :: x18 :: x19 :: x20 :: x21 :: x22 :: x23 :: x24 :: some d :: env) s2) (fun c fs s => XX c fs (x0 :: x1 :: x2 :: x3 :: x4 :: x5 :: x6 :: x7 :: x8 :: x9 :: x10 :: x11 :: x12 :: x13 :: x14 :: x15 :: x16 :: x17 :: x18 :: x19 :: x20 :: x21 :: x22 :: x23 :: x24 :: y :: env) s) := by
  unfold wS wE; conv => lhs; unfold exS
  rw [OX_out]; rfl
@[simp ↓] theorem wS_asg25_r {x0 x1 x2 x3 x4 x5 x6 x7 x8 x9 x10 x11 x12 x13 x14 x15 x16 x17 x18 x19 x20 x21 x22 x23 x24 : Option D} {y : Option D} : rho (wS P go (.asg 25 e) (x0 :: x1 :: x2 :: x3 :: x4 :: x5 :: x6 :: x7 :: x8 :: x9 :: x10 :: x11 :: x12 :: x13 :: x14 :: x15 :: x16 :: x17 :: x18 :: x19 :: x20 :: x21 :: x22 :: x23 :: x24 :: y :: env) st N T XX) = rho (wE P go e (x0 :: x1 :: x2 :: x3 :: x4 :: x5 :: x6 :: x7 :: x8 :: x9 :: x10 :: x11 :: x12 :: x13 :: x14 :: x15 :: x16 :: x17 :: x18 :: x19 :: x20 :: x21 :: x22 :: x23 :: x24 :: y :: env) st (fun v s => wM v s fun d s2 => N (x0 :: x1 :: x2 :: x3 :: x4 :: x5 :: x6 :: x7 :: x8 :: x9 :: x10 :: x11 :: x12 :: x13 :: x14 :: x15 :: x16 :: x17 :: x18 :: x19 :: x20 :: x21 :: x22 :: x23 :: x24 :: some d :: env) s2) (fun c fs s => XX c fs (x0 :: x1 :: x2 :: x3 :: x4 :: x5 :: x6 :: x7 :: x8 :: x9 :: x10 :: x11 :: x12 :: x13 :: x14 :: x15 :: x16 :: x17 :: x18 :: x19 :: x20 :: x21 :: x22 :: x23 :: x24 :: y :: env) s)) := congrArg rho (wS_asg25)
theorem wE_loc26 {x0 x1 x2 x3 x4 x5 x6 x7 x8 x9 x10 x11 x12 x13 x14 x15 x16 x17 x18 x19 x20 x21 x22 x23 x24 x25 : Option D} : wE P go (.loc 26) (x0 :: x1 :: x2 :: x3 :: x4 :: x5 :: x6 :: x7 :: x8 :: x9 :: x10 :: x11 :: x12 :: x13 :: x14 :: x15 :: x16 :: x17 :: x18 :: x19 :: x20 :: x21 :: x22 :: x23 :: x24 :: x25 :: some d :: env) st Q X = Q (.v d) st := rfl
@[simp ↓] theorem wE_loc26_r {x0 x1 x2 x3 x4 x5 x6 x7 x8 x9 x10 x11 x12 x13 x14 x15 x16 x17 x18 x19 x20 x21 x22 x23 x24 x25 : Option D} : rho (wE P go (.loc 26) (x0 :: x1 :: x2 :: x3 :: x4 :: x5 :: x6 :: x7 :: x8 :: x9 :: x10 :: x11 :: x12 :: x13 :: x14 :: x15 :: x16 :: x17 :: x18 :: x19 :: x20 :: x21 :: x22 :: x23 :: x24 :: x25 :: some d :: env) st Q X) = rho (Q (.v d) st) := congrArg rho (wE_loc26)
theorem wS_asg26 {x0 x1 x2 x3 x4 x5 x6 x7 x8 x9 x10 x11 x12 x13 x14 x15 x16 x17 x18 x19 x20 x21 x22 x23 x24 x25 : Option D} {y : Option D} : wS P go (.asg 26 e) (x0 :: x1 :: x2 :: x3 :: x4 :: x5 :: x6 :: x7 :: x8 :: x9 :: x10 :: x11 :: x12 :: x13 :: x14 :: x15 :: x16 :: x17 :: x18 :: x19 :: x20 :: x21 :: x22 :: x23 :: x24 :: x25 :: y :: env) st N T XX = wE P go e (x0 :: x1 :: x2 :: x3 :: x4 :: x5 :: x6 :: x7 :: x8 :: x9 :: x10 :: x11 :: x12 :: x13 :: x14 :: x15 :: x16 :: x17 :: x18 :: x19 :: x20 :: x21 :: x22 :: x23 :: x24 :: x25 :: y :: env) st (fun v s => wM v s fun d s2 => N (x0 :: x1 :: x2 :: x3 :: x4 :: x5 :: x6 :: x7 :: x8 :: x9 :: x10 :: x11 :: x12 :: x13 :: x14 :: x15 :: x16 :: x17 :: x18 :: x19 :: x20 :: x21 :: x22 :: x23 :: x24 :: x25 :: some d :: env) s2) (fun c fs s => XX c fs (x0 :: x1 :: x2 :: x3 :: x4 :: x5 :: x6 :: x7 :: x8 :: x9 :: x10 :: x11 :: x12 :: x13 :: x14 :: x15 :: x16 :: x17 :: x18 :: x19 :: x20 :: x21 :: x22 :: x23 :: x24 :: x25 :: y :: env) s) := by
  unfold wS wE; conv => lhs; unfold exS
  rw [OX_out]; rfl
@[simp ↓] theorem wS_asg26_r {x0 x1 x2 x3 x4 x5 x6 x7 x8 x9 x10 x11 x12 x13 x14 x15 x16 x17 x18 x19 x20 x21 x22 x23 x24 x25 : Option D} {y : Option D} : rho (wS P go (.asg 26 e) (x0 :: x1 :: x2 :: x3 :: x4 :: x5 :: x6 :: x7 :: x8 :: x9 :: x10 :: x11 :: x12 :: x13 :: x14 :: x15 :: x16 :: x17 :: x18 :: x19 :: x20 :: x21 :: x22 :: x23 :: x24 :: x25 :: y :: env) st N T XX) = rho (wE P go e (x0 :: x1 :: x2 :: x3 :: x4 :: x5 :: x6 :: x7 :: x8 :: x9 :: x10 :: x11 :: x12 :: x13 :: x14 :: x15 :: x16 :: x17 :: x18 :: x19 :: x20 :: x21 :: x22 :: x23 :: x24 :: x25 :: y :: env) st (fun v s => wM v s fun d s2 => N (x0 :: x1 :: x2 :: x3 :: x4 :: x5 :: x6 :: x7 :: x8 :: x9 :: x10 :: x11 :: x12 :: x13 :: x14 :: x15 :: x16 :: x17 :: x18 :: x19 :: x20 :: x21 :: x22 :: x23 :: x24 :: x25 :: some d :: env) s2) (fun c fs s => XX c fs (x0 :: x1 :: x2 :: x3 :: x4 :: x5 :: x6 :: x7 :: x8 :: x9 :: x10 :: x11 :: x12 :: x13 :: x14 :: x15 :: x16 :: x17 :: x18 :: x19 :: x20 :: x21 :: x22 :: x23 :: x24 :: x25 :: y :: env) s)) := congrArg rho (wS_asg26)
theorem wE_loc27 {x0 x1 x2 x3 x4 x5 x6 x7 x8 x9 x10 x11 x12 x13 x14 x15 x16 x17 x18 x19 x20 x21 x22 x23 x24 x25 x26 : Option D} : wE P go (.loc 27) (x0 :: x1 :: x2 :: x3 :: x4 :: x5 :: x6 :: x7 :: x8 :: x9 :: x10 :: x11 :: x12 :: x13 :: x14 :: x15 :: x16 :: x17 :: x18 :: x19 :: x20 :: x21 :: x22 :: x23 :: x24 :: x25 :: x26 :: some d :: env) st Q X = Q (.v d) st := rfl
@[simp ↓] theorem wE_loc27_r {x0 x1 x2 x3 x4 x5 x6 x7 x8 x9 x10 x11 x12 x13 x14 x15 x16 x17 x18 x19 x20 x21 x22 x23 x24 x25 x26 : Option D} : rho (wE P go (.loc 27) (x0 :: x1 :: x2 :: x3 :: x4 :: x5 :: x6 :: x7 :: x8 :: x9 :: x10 :: x11 :: x12 :: x13 :: x14 :: x15 :: x16 :: x17 :: x18 :: x19 :: x20 :: x21 :: x22 :: x23 :: x24 :: x25 :: x26 :: some d :: env) st Q X) = rho (Q (.v d) st) := congrArg rho (wE_loc27)
theorem wS_asg27 {x0 x1 x2 x3 x4 x5 x6 x7 x8 x9 x10 x11 x12 x13 x14 x15 x16 x17 x18 x19 x20 x21 x22 x23 x24 x25 x26 : Option D} {y : Option D} : wS P go (.asg 27 e) (x0 :: x1 :: x2 :: x3 :: x4 :: x5 :: x6 :: x7 :: x8 :: x9 :: x10 :: x11 :: x12 :: x13 :: x14 :: x15 :: x16 :: x17 :: x18 :: x19 :: x20 :: x21 :: x22 :: x23 :: x24 :: x25 :: x26 :: y :: env) st N T XX = wE P go e (x0 :: x1 :: x2 :: x3 :: x4 :: x5 :: x6 :: x7 :: x8 :: x9 :: x10 :: x11 :: x12 :: x13 :: x14 :: x15 :: x16 :: x17 :: x18 :: x19 :: x20 :: x21 :: x22 :: x23 :: x24 :: x25 :: x26 :: y :: env) st (fun v s => wM v s fun d s2 => N (x0 :: x1 :: x2 :: x3 :: x4 :: x5 :: x6 :: x7 :: x8 :: x9 :: x10 :: x11 :: x12 :: x13 :: x14 :: x15 :: x16 :: x17 :: x18 :: x19 :: x20 :: x21 :: x22 :: x23 :: x24 :: x25 :: x26 :: some d :: env) s2) (fun c fs s => XX c fs (x0 :: x1 :: x2 :: x3 :: x4 :: x5 :: x6 :: x7 :: x8 :: x9 :: x10 :: x11 :: x12 :: x13 :: x14 :: x15 :: x16 :: x17 :: x18 :: x19 :: x20 :: x21 :: x22 :: x23 :: x24 :: x25 :: x26 :: y :: env) s) := by
  unfold wS wE; conv => lhs; unfold exS
  rw [OX_out]; rfl
@[simp ↓] theorem wS_asg27_r {x0 x1 x2 x3 x4 x5 x6 x7 x8 x9 x10 x11 x12 x13 x14 x15 x16 x17 x18 x19 x20 x21 x22 x23 x24 x25 x26 : Option D} {y : Option D} : rho (wS P go (.asg 27 e) (x0 :: x1 :: x2 :: x3 :: x4 :: x5 :: x6 :: x7 :: x8 :: x9 :: x10 :: x11 :: x12 :: x13 :: x14 :: x15 :: x16 :: x17 :: x18 :: x19 :: x20 :: x21 :: x22 :: x23 :: x24 :: x25 :: x26 :: y :: env) st N T XX) = rho (wE P go e (x0 :: x1 :: x2 :: x3 :: x4 :: x5 :: x6 :: x7 :: x8 :: x9 :: x10 :: x11 :: x12 :: x13 :: x14 :: x15 :: x16 :: x17 :: x18 :: x19 :: x20 :: x21 :: x22 :: x23 :: x24 :: x25 :: x26 :: y :: env) st (fun v s => wM v s fun d s2 => N (x0 :: x1 :: x2 :: x3 :: x4 :: x5 :: x6 :: x7 :: x8 :: x9 :: x10 :: x11 :: x12 :: x13 :: x14 :: x15 :: x16 :: x17 :: x18 :: x19 :: x20 :: x21 :: x22 :: x23 :: x24 :: x25 :: x26 :: some d :: env) s2) (fun c fs s => XX c fs (x0 :: x1 :: x2 :: x3 :: x4 :: x5 :: x6 :: x7 :: x8 :: x9 :: x10 :: x11 :: x12 :: x13 :: x14 :: x15 :: x16 :: x17 :: x18 :: x19 :: x20 :: x21 :: x22 :: x23 :: x24 :: x25 :: x26 :: y :: env) s)) := congrArg rho (wS_asg27)
theorem wE_loc28 {x0 x1 x2 x3 x4 x5 x6 x7 x8 x9 x10 x11 x12 x13 x14 x15 x16 x17 x18 x19 x20 x21 x22 x23 x24 x25 x26 x27 : Option D} : wE P go (.loc 28) (x0 :: x1 :: x2 :: x3 :: x4 :: x5 :: x6 :: x7 :: x8 :: x9 :: x10 :: x11 :: x12 :: x13 :: x14 :: x15 :: x16 :: x17 :: x18 :: x19 :: x20 :: x21 :: x22 :: x23 :: x24 :: x25 :: x26 :: x27 :: some d :: env) st Q X = Q (.v d) st := rfl
@[simp ↓] theorem wE_loc28_r {x0 x1 x2 x3 x4 x5 x6 x7 x8 x9 x10 x11 x12 x13 x14 x15 x16 x17 x18 x19 x20 x21 x22 x23 x24 x25 x26 x27 : Option D} : rho (wE P go (.loc 28) (x0 :: x1 :: x2 :: x3 :: x4 :: x5 :: x6 :: x7 :: x8 :: x9 :: x10 :: x11 :: x12 :: x13 :: x14 :: x15 :: x16 :: x17 :: x18 :: x19 :: x20 :: x21 :: x22 :: x23 :: x24 :: x25 :: x26 :: x27 :: some d :: env) st Q X) = rho (Q (.v d) st) := congrArg rho (wE_loc28)
theorem wS_asg28 {x0 x1 x2 x3 x4 x5 x6 x7 x8 x9 x10 x11 x12 x13 x14 x15 x16 x17 x18 x19 x20 x21 x22 x23 x24 x25 x26 x27 : Option D} {y : Option D} : wS P go (.asg 28 e) (x0 :: x1 :: x2 :: x3 :: x4 :: x5 :: x6 :: x7 :: x8 :: x9 :: x10 :: x11 :: x12 :: x13 :: x14 :: x15 :: x16 :: x17 :: x18 :: x19 :: x20 :: x21 :: x22 :: x23 :: x24 :: x25 :: x26 :: x27 :: y :: env) st N T XX = wE P go e (x0 :: x1 :: x2 :: x3 :: x4 :: x5 :: x6 :: x7 :: x8 :: x9 :: x10 :: x11 :: x12 :: x13 :: x14 :: x15 :: x16 :: x17 :: x18 :: x19 :: x20 :: x21 :: x22 :: x23 :: x24 :: x25 :: x26 :: x27 :: y :: env) st (fun v s => wM v s fun d s2 => N (x0 :: x1 :: x2 :: x3 :: x4 :: x5 :: x6 :: x7 :: x8 :: x9 :: x10 :: x11 :: x12 :: x13 :: x14 :: x15 :: x16 :: x17 :: x18 :: x19 :: x20 :: x21 :: x22 :: x23 :: x24 :: x25 :: x26 :: x27 :: some d :: env) s2) (fun c fs s => XX c fs (x0 :: x1 :: x2 :: x3 :: x4 :: x5 :: x6 :: x7 :: x8 :: x9 :: x10 :: x11 :: x12 :: x13 :: x14 :: x15 :: x16 :: x17 :: x18 :: x19 :: x20 :: x21 :: x22 :: x23 :: x24 :: x25 :: x26 :: x27 :: y :: env) s) := by
  unfold wS wE; conv => lhs; unfold exS
  rw [OX_out]; rfl
@[simp ↓] theorem wS_asg28_r {x0 x1 x2 x3 x4 x5 x6 x7 x8 x9 x10 x11 x12 x13 x14 x15 x16 x17 x18 x19 x20 x21 x22 x23 x24 x25 x26 x27 : Option D} {y : Option D} : rho (wS P go (.asg 28 e) (x0 :: x1 :: x2 :: x3 :: x4 :: x5 :: x6 :: x7 :: x8 :: x9 :: x10 :: x11 :: x12 :: x13 :: x14 :: x15 :: x16 :: x17 :: x18 :: x19 :: x20 :: x21 :: x22 :: x23 :: x24 :: x25 :: x26 :: x27 :: y :: env) st N T XX) = rho (wE P go e (x0 :: x1 :: x2 :: x3 :: x4 :: x5 :: x6 :: x7 :: x8 :: x9 :: x10 :: x11 :: x12 :: x13 :: x14 :: x15 :: x16 :: x17 :: x18 :: x19 :: x20 :: x21 :: x22 :: x23 :: x24 :: x25 :: x26 :: x27 :: y :: env) st (fun v s => wM v s fun d s2 => N (x0 :: x1 :: x2 :: x3 :: x4 :: x5 :: x6 :: x7 :: x8 :: x9 :: x10 :: x11 :: x12 :: x13 :: x14 :: x15 :: x16 :: x17 :: x18 :: x19 :: x20 :: x21 :: x22 :: x23 :: x24 :: x25 :: x26 :: x27 :: some d :: env) s2) (fun c fs s => XX c fs (x0 :: x1 :: x2 :: x3 :: x4 :: x5 :: x6 :: x7 :: x8 :: x9 :: x10 :: x11 :: x12 :: x13 :: x14 :: x15 :: x16 :: x17 :: x18 :: x19 :: x20 :: x21 :: x22 :: x23 :: x24 :: x25 :: x26 :: x27 :: y :: env) s)) := congrArg rho (wS_asg28)
theorem wE_loc29 {x0 x1 x2 x3 x4 x5 x6 x7 x8 x9 x10 x11 x12 x13 x14 x15 x16 x17 x18 x19 x20 x21 x22 x23 x24 x25 x26 x27 x28 : Option D} : wE P go (.loc 29) (x0 :: x1 :: x2 :: x3 :: x4 :: x5 :: x6 :: x7 :: x8 :: x9 :: x10 :: x11 :: x12 :: x13 :: x14 :: x15 :: x16 :: x17 :: x18 :: x19 :: x20 :: x21 :: x22 :: x23 :: x24 :: x25 :: x26 :: x27 :: x28 :: some d :: env) st Q X = Q (.v d) st := rfl
@[simp ↓] theorem wE_loc29_r {x0 x1 x2 x3 x4 x5 x6 x7 x8 x9 x10 x11 x12 x13 x14 x15 x16 x17 x18 x19 x20 x21 x22 x23 x24 x25 x26 x27 x28 : Option D} : rho (wE P go (.loc 29) (x0 :: x1 :: x2 :: x3 :: x4 :: x5 :: x6 :: x7 :: x8 :: x9 :: x10 :: x11 :: x12 :: x13 :: x14 :: x15 :: x16 :: x17 :: x18 :: x19 :: x20 :: x21 :: x22 :: x23 :: x24 :: x25 :: x26 :: x27 :: x28 :: some d :: env) st Q X) = rho (Q (.v d) st) := congrArg rho (wE_loc29)
theorem wS_asg29 {x0 x1 x2 x3 x4 x5 x6 x7 x8 x9 x10 x11 x12 x13 x14 x15 x16 x17 x18 x19 x20 x21 x22 x23 x24 x25 x26 x27 x28 : Option D} {y : Option D} : wS P go (.asg 29 e) (x0 :: x1 :: x2 :: x3 :: x4 :: x5 :: x6 :: x7 :: x8 :: x9 :: x10 :: x11 :: x12 :: x13 :: x14 :: x15 :: x16 :: x17 :: x18 :: x19 :: x20 :: x21 :: x22 :: x23 :: x24 :: x25 :: x26 :: x27 :: x28 :: y :: env) st N T XX = wE P go e (x0 :: x1 :: x2 :: x3 :: x4 :: x5 :: x6 :: x7 :: x8 :: x9 :: x10 :: x11 :: x12 :: x13 :: x14 :: x15 :: x16 :: x17 :: x18 :: x19 :: x20 :: x21 :: x22 :: x23 :: x24 :: x25 :: x26 :: x27 :: x28 :: y :: env) st (fun v s => wM v s fun d s2 => N (x0 :: x1 :: x2 :: x3 :: x4 :: x5 :: x6 :: x7 :: x8 :: x9 :: x10 :: x11 :: x12 :: x13 :: x14 :: x15 :: x16 :: x17 :: x18 :: x19 :: x20 :: x21 :: x22 :: x23 :: x24 :: x25 :: x26 :: x27 :: x28 :: some d :: env) s2) (fun c fs s => XX c fs (x0 :: x1 :: x2 :: x3 :: x4 :: x5 :: x6 :: x7 :: x8 :: x9 :: x10 :: x11 :: x12 :: x13 :: x14 :: x15 :: x16 :: x17 :: x18 :: x19 :: x20 :: x21 :: x22 :: x23 :: x24 :: x25 :: x26 :: x27 :: x28 :: y :: env) s) := by
  unfold wS wE; conv => lhs; unfold exS
  rw [OX_out]; rfl
@[simp ↓] theorem wS_asg29_r {x0 x1 x2 x3 x4 x5 x6 x7 x8 x9 x10 x11 x12 x13 x14 x15 x16 x17 x18 x19 x20 x21 x22 x23 x24 x25 x26 x27 x28 : Option D} {y : Option D} : rho (wS P go (.asg 29 e) (x0 :: x1 :: x2 :: x3 :: x4 :: x5 :: x6 :: x7 :: x8 :: x9 :: x10 :: x11 :: x12 :: x13 :: x14 :: x15 :: x16 :: x17 :: x18 :: x19 :: x20 :: x21 :: x22 :: x23 :: x24 :: x25 :: x26 :: x27 :: x28 :: y :: env) st N T XX) = rho (wE P go e (x0 :: x1 :: x2 :: x3 :: x4 :: x5 :: x6 :: x7 :: x8 :: x9 :: x10 :: x11 :: x12 :: x13 :: x14 :: x15 :: x16 :: x17 :: x18 :: x19 :: x20 :: x21 :: x22 :: x23 :: x24 :: x25 :: x26 :: x27 :: x28 :: y :: env) st (fun v s => wM v s fun d s2 => N (x0 :: x1 :: x2 :: x3 :: x4 :: x5 :: x6 :: x7 :: x8 :: x9 :: x10 :: x11 :: x12 :: x13 :: x14 :: x15 :: x16 :: x17 :: x18 :: x19 :: x20 :: x21 :: x22 :: x23 :: x24 :: x25 :: x26 :: x27 :: x28 :: some d :: env) s2) (fun c fs s => XX c fs (x0 :: x1 :: x2 :: x3 :: x4 :: x5 :: x6 :: x7 :: x8 :: x9 :: x10 :: x11 :: x12 :: x13 :: x14 :: x15 :: x16 :: x17 :: x18 :: x19 :: x20 :: x21 :: x22 :: x23 :: x24 :: x25 :: x26 :: x27 :: x28 :: y :: env) s)) := congrArg rho (wS_asg29)
theorem wE_loc30 {x0 x1 x2 x3 x4 x5 x6 x7 x8 x9 x10 x11 x12 x13 x14 x15 x16 x17 x18 x19 x20 x21 x22 x23 x24 x25 x26 x27 x28 x29 : Option D} : wE P go (.loc 30) (x0 :: x1 :: x2 :: x3 :: x4 :: x5 :: x6 :: x7 :: x8 :: x9 :: x10 :: x11 :: x12 :: x13 :: x14 :: x15 :: x16 :: x17 :: x18 :: x19 :: x20 :: x21 :: x22 :: x23 :: x24 :: x25 :: x26 :: x27 :: x28 :: x29 :: some d :: env) st Q X = Q (.v d) st := rfl
@[simp ↓] theorem wE_loc30_r {x0 x1 x2 x3 x4 x5 x6 x7 x8 x9 x10 x11 x12 x13 x14 x15 x16 x17 x18 x19 x20 x21 x22 x23 x24 x25 x26 x27 x28 x29 : Option D} : rho (wE P go (.loc 30) (x0 :: x1 :: x2 :: x3 :: x4 :: x5 :: x6 :: x7 :: x8 :: x9 :: x10 :: x11 :: x12 :: x13 :: x14 :: x15 :: x16 :: x17 :: x18 :: x19 :: x20 :: x21 :: x22 :: x23 :: x24 :: x25 :: x26 :: x27 :: x28 :: x29 :: some d :: env) st Q X) = rho (Q (.v d) st) := congrArg rho (wE_loc30)
theorem wS_asg30 {x0 x1 x2 x3 x4 x5 x6 x7 x8 x9 x10 x11 x12 x13 x14 x15 x16 x17 x18 x19 x20 x21 x22 x23 x24 x25 x26 x27 x28 x29 : Option D} {y : Option D} : wS P go (.asg 30 e) (x0 :: x1 :: x2 :: x3 :: x4 :: x5 :: x6 :: x7 :: x8 :: x9 :: x10 :: x11 :: x12 :: x13 :: x14 :: x15 :: x16 :: x17 :: x18 :: x19 :: x20 :: x21 :: x22 :: x23 :: x24 :: x25 :: x26 :: x27 :: x28 :: x29 :: y :: env) st N T XX = wE P go e (x0 :: x1 :: x2 :: x3 :: x4 :: x5 :: x6 :: x7 :: x8 :: x9 :: x10 :: x11 :: x12 :: x13 :: x14 :: x15 :: x16 :: x17 :: x18 :: x19 :: x20 :: x21 :: x22 :: x23 :: x24 :: x25 :: x26 :: x27 :: x28 :: x29 :: y :: env) st (fun v s => wM v s fun d s2 => N (x0 :: x1 :: x2 :: x3 :: x4 :: x5 :: x6 :: x7 :: x8 :: x9 :: x10 :: x11 :: x12 :: x13 :: x14 :: x15 :: x16 :: x17 :: x18 :: x19 :: x20 :: x21 :: x22 :: x23 :: x24 :: x25 :: x26 :: x27 :: x28 :: x29 :: some d :: env) s2) (fun c fs s => XX c fs (x0 :: x1 :: x2 :: x3 :: x4 :: x5 :: x6 :: x7 :: x8 :: x9 :: x10 :: x11 :: x12 :: x13 :: x14 :: x15 :: x16 :: x17 :: x18 :: x19 :: x20 :: x21 :: x22 :: x23 :: x24 :: x25 :: x26 :: x27 :: x28 :: x29 :: y :: env) s) := by
  unfold wS wE; conv => lhs; unfold exS
  rw [OX_out]; rfl
@[simp ↓] theorem wS_asg30_r {x0 x1 x2 x3 x4 x5 x6 x7 x8 x9 x10 x11 x12 x13 x14 x15 x16 x17 x18 x19 x20 x21 x22 x23 x24 x25 x26 x27 x28 x29 : Option D} {y : Option D} : rho (wS P go (.asg 30 e) (x0 :: x1 :: x2 :: x3 :: x4 :: x5 :: x6 :: x7 :: x8 :: x9 :: x10 :: x11 :: x12 :: x13 :: x14 :: x15 :: x16 :: x17 :: x18 :: x19 :: x20 :: x21 :: x22 :: x23 :: x24 :: x25 :: x26 :: x27 :: x28 :: x29 :: y :: env) st N T XX) = rho (wE P go e (x0 :: x1 :: x2 :: x3 :: x4 :: x5 :: x6 :: x7 :: x8 :: x9 :: x10 :: x11 :: x12 :: x13 :: x14 :: x15 :: x16 :: x17 :: x18 :: x19 :: x20 :: x21 :: x22 :: x23 :: x24 :: x25 :: x26 :: x27 :: x28 :: x29 :: y :: env) st (fun v s => wM v s fun d s2 => N (x0 :: x1 :: x2 :: x3 :: x4 :: x5 :: x6 :: x7 :: x8 :: x9 :: x10 :: x11 :: x12 :: x13 :: x14 :: x15 :: x16 :: x17 :: x18 :: x19 :: x20 :: x21 :: x22 :: x23 :: x24 :: x25 :: x26 :: x27 :: x28 :: x29 :: some d :: env) s2) (fun c fs s => XX c fs (x0 :: x1 :: x2 :: x3 :: x4 :: x5 :: x6 :: x7 :: x8 :: x9 :: x10 :: x11 :: x12 :: x13 :: x14 :: x15 :: x16 :: x17 :: x18 :: x19 :: x20 :: x21 :: x22 :: x23 :: x24 :: x25 :: x26 :: x27 :: x28 :: x29 :: y :: env) s)) := congrArg rho (wS_asg30)
theorem wE_loc31 {x0 x1 x2 x3 x4 x5 x6 x7 x8 x9 x10 x11 x12 x13 x14 x15 x16 x17 x18 x19 x20 x21 x22 x23 x24 x25 x26 x27 x28 x29 x30 : Option D} : wE P go (.loc 31) (x0 :: x1 :: x2 :: x3 :: x4 :: x5 :: x6 :: x7 :: x8 :: x9 :: x10 :: x11 :: x12 :: x13 :: x14 :: x15 :: x16 :: x17 :: x18 :: x19 :: x20 :: x21 :: x22 :: x23 :: x24 :: x25 :: x26 :: x27 :: x28 :: x29 :: x30 :: some d :: env) st Q X = Q (.v d) st := rfl
@[simp ↓] theorem wE_loc31_r {x0 x1 x2 x3 x4 x5 x6 x7 x8 x9 x10 x11 x12 x13 x14 x15 x16 x17 x18 x19 x20 x21 x22 x23 x24 x25 x26 x27 x28 x29 x30 : Option D} : rho (wE P go (.loc 31) (x0 :: x1 :: x2 :: x3 :: x4 :: x5 :: x6 :: x7 :: x8 :: x9 :: x10 :: x11 :: x12 :: x13 :: x14 :: x15 :: x16 :: x17 :: x18 :: x19 :: x20 :: x21 :: x22 :: x23 :: x24 :: x25 :: x26 :: x27 :: x28 :: x29 :: x30 :: some d :: env) st Q X) = rho (Q (.v d) st) := congrArg rho (wE_loc31)
theorem wS_asg31 {x0 x1 x2 x3 x4 x5 x6 x7 x8 x9 x10 x11 x12 x13 x14 x15 x16 x17 x18 x19 x20 x21 x22 x23 x24 x25 x26 x27 x28 x29 x30 : Option D} {y : Option D} : wS P go (.asg 31 e) (x0 :: x1 :: x2 :: x3 :: x4 :: x5 :: x6 :: x7 :: x8 :: x9 :: x10 :: x11 :: x12 :: x13 :: x14 :: x15 :: x16 :: x17 :: x18 :: x19 :: x20 :: x21 :: x22 :: x23 :: x24 :: x25 :: x26 :: x27 :: x28 :: x29 :: x30 :: y :: env) st N T XX = wE P go e (x0 :: x1 :: x2 :: x3 :: x4 :: x5 :: x6 :: x7 :: x8 :: x9 :: x10 :: x11 :: x12 :: x13 :: x14 :: x15 :: x16 :: x17 :: x18 :: x19 :: x20 :: x21 :: x22 :: x23 :: x24 :: x25 :: x26 :: x27 :: x28 :: x29 :: x30 :: y :: env) st (fun v s => wM v s fun d s2 => N (x0 :: x1 :: x2 :: x3 :: x4 :: x5 :: x6 :: x7 :: x8 :: x9 :: x10 :: x11 :: x12 :: x13 :: x14 :: x15 :: x16 :: x17 :: x18 :: x19 :: x20 :: x21 :: x22 :: x23 :: x24 :: x25 :: x26 :: x27 :: x28 :: x29 :: x30 :: some d :: env) s2) (fun c fs s => XX c fs (x0 :: x1 :: x2 :: x3 :: x4 :: x5 :: x6 :: x7 :: x8 :: x9 :: x10 :: x11 :: x12 :: x13 :: x14 :: x15 :: x16 :: x17 :: x18 :: x19 :: x20 :: x21 :: x22 :: x23 :: x24 :: x25 :: x26 :: x27 :: x28 :: x29 :: x30 :: y :: env) s) := by
  unfold wS wE; conv => lhs; unfold exS
  rw [OX_out]; rfl
@[simp ↓] theorem wS_asg31_r {x0 x1 x2 x3 x4 x5 x6 x7 x8 x9 x10 x11 x12 x13 x14 x15 x16 x17 x18 x19 x20 x21 x22 x23 x24 x25 x26 x27 x28 x29 x30 : Option D} {y : Option D} : rho (wS P go (.asg 31 e) (x0 :: x1 :: x2 :: x3 :: x4 :: x5 :: x6 :: x7 :: x8 :: x9 :: x10 :: x11 :: x12 :: x13 :: x14 :: x15 :: x16 :: x17 :: x18 :: x19 :: x20 :: x21 :: x22 :: x23 :: x24 :: x25 :: x26 :: x27 :: x28 :: x29 :: x30 :: y :: env) st N T XX) = rho (wE P go e (x0 :: x1 :: x2 :: x3 :: x4 :: x5 :: x6 :: x7 :: x8 :: x9 :: x10 :: x11 :: x12 :: x13 :: x14 :: x15 :: x16 :: x17 :: x18 :: x19 :: x20 :: x21 :: x22 :: x23 :: x24 :: x25 :: x26 :: x27 :: x28 :: x29 :: x30 :: y :: env) st (fun v s => wM v s fun d s2 => N (x0 :: x1 :: x2 :: x3 :: x4 :: x5 :: x6 :: x7 :: x8 :: x9 :: x10 :: x11 :: x12 :: x13 :: x14 :: x15 :: x16 :: x17 :: x18 :: x19 :: x20 :: x21 :: x22 :: x23 :: x24 :: x25 :: x26 :: x27 :: x28 :: x29 :: x30 :: some d :: env) s2) (fun c fs s => XX c fs (x0 :: x1 :: x2 :: x3 :: x4 :: x5 :: x6 :: x7 :: x8 :: x9 :: x10 :: x11 :: x12 :: x13 :: x14 :: x15 :: x16 :: x17 :: x18 :: x19 :: x20 :: x21 :: x22 :: x23 :: x24 :: x25 :: x26 :: x27 :: x28 :: x29 :: x30 :: y :: env) s)) := congrArg rho (wS_asg31)
theorem wE_loc32 {x0 x1 x2 x3 x4 x5 x6 x7 x8 x9 x10 x11 x12 x13 x14 x15 x16 x17 x18 x19 x20 x21 x22 x23 x24 x25 x26 x27 x28 x29 x30 x31 : Option D} : wE P go (.loc 32) (x0 :: x1 :: x2 :: x3 :: x4 :: x5 :: x6 :: x7 :: x8 :: x9 :: x10 :: x11 :: x12 :: x13 :: x14 :: x15 :: x16 :: x17 :: x18 :: x19 :: x20 :: x21 :: x22 :: x23 :: x24 :: x25 :: x26 :: x27 :: x28 :: x29 :: x30 :: x31 :: some d :: env) st Q X = Q (.v d) st := rfl
@[simp ↓] theorem wE_loc32_r {x0 x1 x2 x3 x4 x5 x6 x7 x8 x9 x10 x11 x12 x13 x14 x15 x16 x17 x18 x19 x20 x21 x22 x23 x24 x25 x26 x27 x28 x29 x30 x31 : Option D} : rho (wE P go (.loc 32) (x0 :: x1 :: x2 :: x3 :: x4 :: x5 :: x6 :: x7 :: x8 :: x9 :: x10 :: x11 :: x12 :: x13 :: x14 :: x15 :: x16 :: x17 :: x18 :: x19 :: x20 :: x21 :: x22 :: x23 :: x24 :: x25 :: x26 :: x27 :: x28 :: x29 :: x30 :: x31 :: some d :: env) st Q X) = rho (Q (.v d) st) := congrArg rho (wE_loc32)
theorem wS_asg32 {x0 x1 x2 x3 x4 x5 x6 x7 x8 x9 x10 x11 x12 x13 x14 x15 x16 x17 x18 x19 x20 x21 x22 x23 x24 x25 x26 x27 x28 x29 x30 x31 : Option D} {y : Option D} : wS P go (.asg 32 e) (x0 :: x1 :: x2 :: x3 :: x4 :: x5 :: x6 :: x7 :: x8 :: x9 :: x10 :: x11 :: x12 :: x13 :: x14 :: x15 :: x16 :: x17 :: x18 :: x19 :: x20 :: x21 :: x22 :: x23 :: x24 :: x25 :: x26 :: x27 :: x28 :: x29 :: x30 :: x31 :: y :: env) st N T XX = wE P go e (x0 :: x1 :: x2 :: x3 :: x4 :: x5 :: x6 :: x7 :: x8 :: x9 :: x10 :: x11 :: x12 :: x13 :: x14 :: x15 :: x16 :: x17 :: x18 :: x19 :: x20 :: x21 :: x22 :: x23 :: x24 :: x25 :: x26 :: x27 :: x28 :: x29 :: x30 :: x31 :: y :: env) st (fun v s => wM v s fun d s2 => N (x0 :: x1 :: x2 :: x3 :: x4 :: x5 :: x6 :: x7 :: x8 :: x9 :: x10 :: x11 :: x12 :: x13 :: x14 :: x15 :: x16 :: x17 :: x18 :: x19 :: x20 :: x21 :: x22 :: x23 :: x24 :: x25 :: x26 :: x27 :: x28 :: x29 :: x30 :: x31 :: some d :: env) s2) (fun c fs s => XX c fs (x0 :: x1 :: x2 :: x3 :: x4 :: x5 :: x6 :: x7 :: x8 :: x9 :: x10 :: x11 :: x12 :: x13 :: x14 :: x15 :: x16 :: x17 :: x18 :: x19 :: x20 :: x21 :: x22 :: x23 :: x24 :: x25 :: x26 :: x27 :: x28 :: x29 :: x30 :: x31 :: y :: env) s) := by
  unfold wS wE; conv => lhs; unfold exS
  rw [OX_out]; rfl
@[simp ↓] theorem wS_asg32_r {x0 x1 x2 x3 x4 x5 x6 x7 x8 x9 x10 x11 x12 x13 x14 x15 x16 x17 x18 x19 x20 x21 x22 x23 x24 x25 x26 x27 x28 x29 x30 x31 : Option D} {y : Option D} : rho (wS P go (.asg 32 e) (x0 :: x1 :: x2 :: x3 :: x4 :: x5 :: x6 :: x7 :: x8 :: x9 :: x10 :: x11 :: x12 :: x13 :: x14 :: x15 :: x16 :: x17 :: x18 :: x19 :: x20 :: x21 :: x22 :: x23 :: x24 :: x25 :: x26 :: x27 :: x28 :: x29 :: x30 :: x31 :: y :: env) st N T XX) = rho (wE P go e (x0 :: x1 :: x2 :: x3 :: x4 :: x5 :: x6 :: x7 :: x8 :: x9 :: x10 :: x11 :: x12 :: x13 :: x14 :: x15 :: x16 :: x17 :: x18 :: x19 :: x20 :: x21 :: x22 :: x23 :: x24 :: x25 :: x26 :: x27 :: x28 :: x29 :: x30 :: x31 :: y :: env) st (fun v s => wM v s fun d s2 => N (x0 :: x1 :: x2 :: x3 :: x4 :: x5 :: x6 :: x7 :: x8 :: x9 :: x10 :: x11 :: x12 :: x13 :: x14 :: x15 :: x16 :: x17 :: x18 :: x19 :: x20 :: x21 :: x22 :: x23 :: x24 :: x25 :: x26 :: x27 :: x28 :: x29 :: x30 :: x31 :: some d :: env) s2) (fun c fs s => XX c fs (x0 :: x1 :: x2 :: x3 :: x4 :: x5 :: x6 :: x7 :: x8 :: x9 :: x10 :: x11 :: x12 :: x13 :: x14 :: x15 :: x16 :: x17 :: x18 :: x19 :: x20 :: x21 :: x22 :: x23 :: x24 :: x25 :: x26 :: x27 :: x28 :: x29 :: x30 :: x31 :: y :: env) s)) := congrArg rho (wS_asg32)
theorem wE_loc33 {x0 x1 x2 x3 x4 x5 x6 x7 x8 x9 x10 x11 x12 x13 x14 x15 x16 x17 x18 x19 x20 x21 x22 x23 x24 x25 x26 x27 x28 x29 x30 x31 x32 : Option D} : wE P go (.loc 33) (x0 :: x1 :: x2 :: x3 :: x4 :: x5 :: x6 :: x7 :: x8 :: x9 :: x10 :: x11 :: x12 :: x13 :: x14 :: x15 :: x16 :: x17 :: x18 :: x19 :: x20 :: x21 :: x22 :: x23 :: x24 :: x25 :: x26 :: x27 :: x28 :: x29 :: x30 :: x31 :: x32 :: some d :: env) st Q X = Q (.v d) st := rfl
@[simp ↓] theorem wE_loc33_r {x0 x1 x2 x3 x4 x5 x6 x7 x8 x9 x10 x11 x12 x13 x14 x15 x16 x17 x18 x19 x20 x21 x22 x23 x24 x25 x26 x27 x28 x29 x30 x31 x32 : Option D} : rho (wE P go (.loc 33) (x0 :: x1 :: x2 :: x3 :: x4 :: x5 :: x6 :: x7 :: x8 :: x9 :: x10 :: x11 :: x12 :: x13 :: x14 :: x15 :: x16 :: x17 :: x18 :: x19 :: x20 :: x21 :: x22 :: x23 :: x24 :: x25 :: x26 :: x27 :: x28 :: x29 :: x30 :: x31 :: x32 :: some d :: env) st Q X) = rho (Q (.v d) st) := congrArg rho (wE_loc33)
theorem wS_asg33 {x0 x1 x2 x3 x4 x5 x6 x7 x8 x9 x10 x11 x12 x13 x14 x15 x16 x17 x18 x19 x20 x21 x22 x23 x24 x25 x26 x27 x28 x29 x30 x31 x32 : Option D} {y : Option D} : wS P go (.asg 33 e) (x0 :: x1 :: x2 :: x3 :: x4 :: x5 :: x6 :: x7 :: x8 :: x9 :: x10 :: x11 :: x12 :: x13 :: x14 :: x15 :: x16 :: x17 :: x18 :: x19 :: x20 :: x21 :: x22 :: x23 :: x24 :: x25 :: x26 :: x27 :: x28 :: x29 :: x30 :: x31 :: x32 :: y :: env) st N T XX = wE P go e (x0 :: x1 :: x2 :: x3 :: x4 :: x5 :: x6 :: x7 :: x8 :: x9 :: x10 :: x11 :: x12 :: x13 :: x14 :: x15 :: x16 :: x17 :: x18 :: x19 :: x20 :: x21 :: x22 :: x23 :: x24 :: x25 :: x26 :: x27 :: x28 :: x29 :: x30 :: x31 :: x32 :: y :: env) st (fun v s => wM v s fun d s2 => N (x0 :: x1 :: x2 :: x3 :: x4 :: x5 :: x6 :: x7 :: x8 :: x9 :: x10 :: x11 :: x12 :: x13 :: x14 :: x15 :: x16 :: x17 :: x18 :: x19 :: x20 :: x21 :: x22 :: x23 :: x24 :: x25 :: x26 :: x27 :: x28 :: x29 :: x30 :: x31 :: x32 :: some d :: env) s2) (fun c fs s => XX c fs (x0 :: x1 :: x2 :: x3 :: x4 :: x5 :: x6 :: x7 :: x8 :: x9 :: x10 :: x11 :: x12 :: x13 :: x14 :: x15 :: x16 :: x17 :: x18 :: x19 :: x20 :: x21 :: x22 :: x23 :: x24 :: x25 :: x26 :: x27 :: x28 :: x29 :: x30 :: x31 :: x32 :: y :: env) s) := by
  unfold wS wE; conv => lhs; unfold exS
  rw [OX_out]; rfl
@[simp ↓] theorem wS_asg33_r {x0 x1 x2 x3 x4 x5 x6 x7 x8 x9 x10 x11 x12 x13 x14 x15 x16 x17 x18 x19 x20 x21 x22 x23 x24 x25 x26 x27 x28 x29 x30 x31 x32 : Option D} {y : Option D} : rho (wS P go (.asg 33 e) (x0 :: x1 :: x2 :: x3 :: x4 :: x5 :: x6 :: x7 :: x8 :: x9 :: x10 :: x11 :: x12 :: x13 :: x14 :: x15 :: x16 :: x17 :: x18 :: x19 :: x20 :: x21 :: x22 :: x23 :: x24 :: x25 :: x26 :: x27 :: x28 :: x29 :: x30 :: x31 :: x32 :: y :: env) st N T XX) = rho (wE P go e (x0 :: x1 :: x2 :: x3 :: x4 :: x5 :: x6 :: x7 :: x8 :: x9 :: x10 :: x11 :: x12 :: x13 :: x14 :: x15 :: x16 :: x17 :: x18 :: x19 :: x20 :: x21 :: x22 :: x23 :: x24 :: x25 :: x26 :: x27 :: x28 :: x29 :: x30 :: x31 :: x32 :: y :: env) st (fun v s => wM v s fun d s2 => N (x0 :: x1 :: x2 :: x3 :: x4 :: x5 :: x6 :: x7 :: x8 :: x9 :: x10 :: x11 :: x12 :: x13 :: x14 :: x15 :: x16 :: x17 :: x18 :: x19 :: x20 :: x21 :: x22 :: x23 :: x24 :: x25 :: x26 :: x27 :: x28 :: x29 :: x30 :: x31 :: x32 :: some d :: env) s2) (fun c fs s => XX c fs (x0 :: x1 :: x2 :: x3 :: x4 :: x5 :: x6 :: x7 :: x8 :: x9 :: x10 :: x11 :: x12 :: x13 :: x14 :: x15 :: x16 :: x17 :: x18 :: x19 :: x20 :: x21 :: x22 :: x23 :: x24 :: x25 :: x26 :: x27 :: x28 :: x29 :: x30 :: x31 :: x32 :: y :: env) s)) := congrArg rho (wS_asg33)
theorem wE_loc34 {x0 x1 x2 x3 x4 x5 x6 x7 x8 x9 x10 x11 x12 x13 x14 x15 x16 x17 x18 x19 x20 x21 x22 x23 x24 x25 x26 x27 x28 x29 x30 x31 x32 x33 : Option D} : wE P go (.loc 34) (x0 :: x1 :: x2 :: x3 :: x4 :: x5 :: x6 :: x7 :: x8 :: x9 :: x10 :: x11 :: x12 :: x13 :: x14 :: x15 :: x16 :: x17 :: x18 :: x19 :: x20 :: x21 :: x22 :: x23 :: x24 :: x25 :: x26 :: x27 :: x28 :: x29 :: x30 :: x31 :: x32 :: x33 :: some d :: env) st Q X = Q (.v d) st := rfl
@[simp ↓] theorem wE_loc34_r {x0 x1 x2 x3 x4 x5 x6 x7 x8 x9 x10 x11 x12 x13 x14 x15 x16 x17 x18 x19 x20 x21 x22 x23 x24 x25 x26 x27 x28 x29 x30 x31 x32 x33 : Option D} : rho (wE P go (.loc 34) (x0 :: x1 :: x2 :: x3 :: x4 :: x5 :: x6 :: x7 :: x8 :: x9 :: x10 :: x11 :: x12 :: x13 :: x14 :: x15 :: x16 :: x17 :: x18 :: x19 :: x20 :: x21 :: x22 :: x23 :: x24 :: x25 :: x26 :: x27 :: x28 :: x29 :: x30 :: x31 :: x32 :: x33 :: some d :: env) st Q X) = rho (Q (.v d) st) := congrArg rho (wE_loc34)
theorem wS_asg34 {x0 x1 x2 x3 x4 x5 x6 x7 x8 x9 x10 x11 x12 x13 x14 x15 x16 x17 x18 x19 x20 x21 x22 x23 x24 x25 x26 x27 x28 x29 x30 x31 x32 x33 : Option D} {y : Option D} : wS P go (.asg 34 e) (x0 :: x1 :: x2 :: x3 :: x4 :: x5 :: x6 :: x7 :: x8 :: x9 :: x10 :: x11 :: x12 :: x13 :: x14 :: x15 :: x16 :: x17 :: x18 :: x19 :: x20 :: x21 :: x22 :: x23 :: x24 :: x25 :: x26 :: x27 :: x28 :: x29 :: x30 :: x31 :: x32 :: x33 :: y :: env) st N T XX = wE P go e (x0 :: x1 :: x2 :: x3 :: x4 :: x5 :: x6 :: x7 :: x8 :: x9 :: x10 :: x11 :: x12 :: x13 :: x14 :: x15 :: x16 :: x17 :: x18 :: x19 :: x20 :: x21 :: x22 :: x23 :: x24 :: x25 :: x26 :: x27 :: x28 :: x29 :: x30 :: x31 :: x32 :: x33 :: y :: env) st (fun v s => wM v s fun d s2 => N (x0 :: x1 :: x2 :: x3 :: x4 :: x5 :: x6 :: x7 :: x8 :: x9 :: x10 :: x11 :: x12 :: x13 :: x14 :: x15 :: x16 :: x17 :: x18 :: x19 :: x20 :: x21 :: x22 :: x23 :: x24 :: x25 :: x26 :: x27 :: x28 :: x29 :: x30 :: x31 :: x32 :: x33 :: some d :: env) s2) (fun c fs s => XX c fs (x0 :: x1 :: x2 :: x3 :: x4 :: x5 :: x6 :: x7 :: x8 :: x9 :: x10 :: x11 :: x12 :: x13 :: x14 :: x15 :: x16 :: x17 :: x18 :: x19 :: x20 :: x21 :: x22 :: x23 :: x24 :: x25 :: x26 :: x27 :: x28 :: x29 :: x30 :: x31 :: x32 :: x33 :: y :: env) s) := by
  unfold wS wE; conv => lhs; unfold exS
  rw [OX_out]; rfl
@[simp ↓] theorem wS_asg34_r {x0 x1 x2 x3 x4 x5 x6 x7 x8 x9 x10 x11 x12 x13 x14 x15 x16 x17 x18 x19 x20 x21 x22 x23 x24 x25 x26 x27 x28 x29 x30 x31 x32 x33 : Option D} {y : Option D} : rho (wS P go (.asg 34 e) (x0 :: x1 :: x2 :: x3 :: x4 :: x5 :: x6 :: x7 :: x8 :: x9 :: x10 :: x11 :: x12 :: x13 :: x14 :: x15 :: x16 :: x17 :: x18 :: x19 :: x20 :: x21 :: x22 :: x23 :: x24 :: x25 :: x26 :: x27 :: x28 :: x29 :: x30 :: x31 :: x32 :: x33 :: y :: env) st N T XX) = rho (wE P go e (x0 :: x1 :: x2 :: x3 :: x4 :: x5 :: x6 :: x7 :: x8 :: x9 :: x10 :: x11 :: x12 :: x13 :: x14 :: x15 :: x16 :: x17 :: x18 :: x19 :: x20 :: x21 :: x22 :: x23 :: x24 :: x25 :: x26 :: x27 :: x28 :: x29 :: x30 :: x31 :: x32 :: x33 :: y :: env) st (fun v s => wM v s fun d s2 => N (x0 :: x1 :: x2 :: x3 :: x4 :: x5 :: x6 :: x7 :: x8 :: x9 :: x10 :: x11 :: x12 :: x13 :: x14 :: x15 :: x16 :: x17 :: x18 :: x19 :: x20 :: x21 :: x22 :: x23 :: x24 :: x25 :: x26 :: x27 :: x28 :: x29 :: x30 :: x31 :: x32 :: x33 :: some d :: env) s2) (fun c fs s => XX c fs (x0 :: x1 :: x2 :: x3 :: x4 :: x5 :: x6 :: x7 :: x8 :: x9 :: x10 :: x11 :: x12 :: x13 :: x14 :: x15 :: x16 :: x17 :: x18 :: x19 :: x20 :: x21 :: x22 :: x23 :: x24 :: x25 :: x26 :: x27 :: x28 :: x29 :: x30 :: x31 :: x32 :: x33 :: y :: env) s)) := congrArg rho (wS_asg34)
theorem wE_loc35 {x0 x1 x2 x3 x4 x5 x6 x7 x8 x9 x10 x11 x12 x13 x14 x15 x16 x17 x18 x19 x20 x21 x22 x23 x24 x25 x26 x27 x28 x29 x30 x31 x32 x33 x34 : Option D} : wE P go (.loc 35) (x0 :: x1 :: x2 :: x3 :: x4 :: x5 :: x6 :: x7 :: x8 :: x9 :: x10 :: x11 :: x12 :: x13 :: x14 :: x15 :: x16 :: x17 :: x18 :: x19 :: x20 :: x21 :: x22 :: x23 :: x24 :: x25 :: x26 :: x27 :: x28 :: x29 :: x30 :: x31 :: x32 :: x33 :: x34 :: some d :: env) st Q X = Q (.v d) st := rfl
@[simp ↓] theorem wE_loc35_r {x0 x1 x2 x3 x4 x5 x6 x7 x8 x9 x10 x11 x12 x13 x14 x15 x16 x17 x18 x19 x20 x21 x22 x23 x24 x25 x26 x27 x28 x29 x30 x31 x32 x33 x34 : Option D} : rho (wE P go (.loc 35) (x0 :: x1 :: x2 :: x3 :: x4 :: x5 :: x6 :: x7 :: x8 :: x9 :: x10 :: x11 :: x12 :: x13 :: x14 :: x15 :: x16 :: x17 :: x18 :: x19 :: x20 :: x21 :: x22 :: x23 :: x24 :: x25 :: x26 :: x27 :: x28 :: x29 :: x30 :: x31 :: x32 :: x33 :: x34 :: some d :: env) st Q X) = rho (Q (.v d) st) := congrArg rho (wE_loc35)
theorem wS_asg35 {x0 x1 x2 x3 x4 x5 x6 x7 x8 x9 x10 x11 x12 x13 x14 x15 x16 x17 x18 x19 x20 x21 x22 x23 x24 x25 x26 x27 x28 x29 x30 x31 x32 x33 x34 : Option D} {y : Option D} : wS P go (.asg 35 e) (x0 :: x1 :: x2 :: x3 :: x4 :: x5 :: x6 :: x7 :: x8 :: x9 :: x10 :: x11 :: x12 :: x13 :: x14 :: x15 :: x16 :: x17 :: x18 :: x19 :: x20 :: x21 :: x22 :: x23 :: x24 :: x25 :: x26 :: x27 :: x28 :: x29 :: x30 :: x31 :: x32 :: x33 :: x34 :: y :: env) st N T XX = wE P go e (x0 :: x1 :: x2 :: x3 :: x4 :: x5 :: x6 :: x7 :: x8 :: x9 :: x10 :: x11 :: x12 :: x13 :: x14 :: x15 :: x16 :: x17 :: x18 :: x19 :: x20 :: x21 :: x22 :: x23 :: x24 :: x25 :: x26 :: x27 :: x28 :: x29 :: x30 :: x31 :: x32 :: x33 :: x34 :: y :: env) st (fun v s => wM v s fun d s2 => N (x0 :: x1 :: x2 :: x3 :: x4 :: x5 :: x6 :: x7 :: x8 :: x9 :: x10 :: x11 :: x12 :: x13 :: x14 :: x15 :: x16 :: x17 :: x18 :: x19 :: x20 :: x21 :: x22 :: x23 :: x24 :: x25 :: x26 :: x27 :: x28 :: x29 :: x30 :: x31 :: x32 :: x33 :: x34 :: some d :: env) s2) (fun c fs s => XX c fs (x0 :: x1 :: x2 :: x3 :: x4 :: x5 :: x6 :: x7 :: x8 :: x9 :: x10 :: x11 :: x12 :: x13 :: x14 :: x15 :: x16 :: x17 :: x18 :: x19 :: x20 :: x21 :: x22 :: x23 :: x24 :: x25 :: x26 :: x27 :: x28 :: x29 :: x30 :: x31 :: x32 :: x33 :: x34 :: y :: env) s) := by
  unfold wS wE; conv => lhs; unfold exS
  rw [OX_out]; rfl
@[simp ↓] theorem wS_asg35_r {x0 x1 x2 x3 x4 x5 x6 x7 x8 x9 x10 x11 x12 x13 x14 x15 x16 x17 x18 x19 x20 x21 x22 x23 x24 x25 x26 x27 x28 x29 x30 x31 x32 x33 x34 : Option D} {y : Option D} : rho (wS P go (.asg 35 e) (x0 :: x1 :: x2 :: x3 :: x4 :: x5 :: x6 :: x7 :: x8 :: x9 :: x10 :: x11 :: x12 :: x13 :: x14 :: x15 :: x16 :: x17 :: x18 :: x19 :: x20 :: x21 :: x22 :: x23 :: x24 :: x25 :: x26 :: x27 :: x28 :: x29 :: x30 :: x31 :: x32 :: x33 :: x34 :: y :: env) st N T XX) = rho (wE P go e (x0 :: x1 :: x2 :: x3 :: x4 :: x5 :: x6 :: x7 :: x8 :: x9 :: x10 :: x11 :: x12 :: x13 :: x14 :: x15 :: x16 :: x17 :: x18 :: x19 :: x20 :: x21 :: x22 :: x23 :: x24 :: x25 :: x26 :: x27 :: x28 :: x29 :: x30 :: x31 :: x32 :: x33 :: x34 :: y :: env) st (fun v s => wM v s fun d s2 => N (x0 :: x1 :: x2 :: x3 :: x4 :: x5 :: x6 :: x7 :: x8 :: x9 :: x10 :: x11 :: x12 :: x13 :: x14 :: x15 :: x16 :: x17 :: x18 :: x19 :: x20 :: x21 :: x22 :: x23 :: x24 :: x25 :: x26 :: x27 :: x28 :: x29 :: x30 :: x31 :: x32 :: x33 :: x34 :: some d :: env) s2) (fun c fs s => XX c fs (x0 :: x1 :: x2 :: x3 :: x4 :: x5 :: x6 :: x7 :: x8 :: x9 :: x10 :: x11 :: x12 :: x13 :: x14 :: x15 :: x16 :: x17 :: x18 :: x19 :: x20 :: x21 :: x22 :: x23 :: x24 :: x25 :: x26 :: x27 :: x28 :: x29 :: x30 :: x31 :: x32 :: x33 :: x34 :: y :: env) s)) := congrArg rho (wS_asg35)
theorem wE_loc36 {x0 x1 x2 x3 x4 x5 x6 x7 x8 x9 x10 x11 x12 x13 x14 x15 x16 x17 x18 x19 x20 x21 x22 x23 x24 x25 x26 x27 x28 x29 x30 x31 x32 x33 x34 x35 : Option D} : wE P go (.loc 36) (x0 :: x1 :: x2 :: x3 :: x4 :: x5 :: x6 :: x7 :: x8 :: x9 :: x10 :: x11 :: x12 :: x13 :: x14 :: x15 :: x16 :: x17 :: x18 :: x19 :: x20 :: x21 :: x22 :: x23 :: x24 :: x25 :: x26 :: x27 :: x28 :: x29 :: x30 :: x31 :: x32 :: x33 :: x34 :: x35 :: some d :: env) st Q X = Q (.v d) st := rfl
@[simp ↓] theorem wE_loc36_r {x0 x1 x2 x3 x4 x5 x6 x7 x8 x9 x10 x11 x12 x13 x14 x15 x16 x17 x18 x19 x20 x21 x22 x23 x24 x25 x26 x27 x28 x29 x30 x31 x32 x33 x34 x35 : Option D} : rho (wE P go (.loc 36) (x0 :: x1 :: x2 :: x3 :: x4 :: x5 :: x6 :: x7 :: x8 :: x9 :: x10 :: x11 :: x12 :: x13 :: x14 :: x15 :: x16 :: x17 :: x18 :: x19 :: x20 :: x21 :: x22 :: x23 :: x24 :: x25 :: x26 :: x27 :: x28 :: x29 :: x30 :: x31 :: x32 :: x33 :: x34 :: x35 :: some d :: env) st Q X) = rho (Q (.v d) st) := congrArg rho (wE_loc36)
theorem wS_asg36 {x0 x1 x2 x3 x4 x5 x6 x7 x8 x9 x10 x11 x12 x13 x14 x15 x16 x17 x18 x19 x20 x21 x22 x23 x24 x25 x26 x27 x28 x29 x30 x31 x32 x33 x34 x35 : Option D} {y : Option D} : wS P go (.asg 36 e) (x0 :: x1 :: x2 :: x3 :: x4 :: x5 :: x6 :: x7 :: x8 :: x9 :: x10 :: x11 :: x12 :: x13 :: x14 :: x15 :: x16 :: x17 :: x18 :: x19 :: x20 :: x21 :: x22 :: x23 :: x24 :: x25 :: x26 :: x27 :: x28 :: x29 :: x30 :: x31 :: x32 :: x33 :: x34 :: x35 :: y :: env) st N T XX = wE P go e (x0 :: x1 :: x2 :: x3 :: x4 :: x5 :: x6 :: x7 :: x8 :: x9 :: x10 :: x11 :: x12 :: x13 :: x14 :: x15 :: x16 :: x17 :: x18 :: x19 :: x20 :: x21 :: x22 :: x23 :: x24 :: x25 :: x26 :: x27 :: x28 :: x29 :: x30 :: x31 :: x32 :: x33 :: x34 :: x35 :: y :: env) st (fun v s => wM v s fun d s2 => N (x0 :: x1 :: x2 :: x3 :: x4 :: x5 :: x6 :: x7 :: x8 :: x9 :: x10 :: x11 :: x12 :: x13 :: x14 :: x15 :: x16 :: x17 :: x18 :: x19 :: x20 :: x21 :: x22 :: x23 :: x24 :: x25 :: x26 :: x27 :: x28 :: x29 :: x30 :: x31 :: x32 :: x33 :: x34 :: x35 :: some d :: env) s2) (fun c fs s => XX c fs (x0 :: x1 :: x2 :: x3 :: x4 :: x5 :: x6 :: x7 :: x8 :: x9 :: x10 :: x11 :: x12 :: x13 :: x14 :: x15 :: x16 :: x17 :: x18 :: x19 :: x20 :: x21 :: x22 :: x23 :: x24 :: x25 :: x26 :: x27 :: x28 :: x29 :: x30 :: x31 :: x32 :: x33 :: x34 :: x35 :: y :: env) s) := by
  unfold wS wE; conv => lhs; unfold exS
  rw [OX_out]; rfl
@[simp ↓] theorem wS_asg36_r {x0 x1 x2 x3 x4 x5 x6 x7 x8 x9 x10 x11 x12 x13 x14 x15 x16 x17 x18 x19 x20 x21 x22 x23 x24 x25 x26 x27 x28 x29 x30 x31 x32 x33 x34 x35 : Option D} {y : Option D} : rho (wS P go (.asg 36 e) (x0 :: x1 :: x2 :: x3 :: x4 :: x5 :: x6 :: x7 :: x8 :: x9 :: x10 :: x11 :: x12 :: x13 :: x14 :: x15 :: x16 :: x17 :: x18 :: x19 :: x20 :: x21 :: x22 :: x23 :: x24 :: x25 :: x26 :: x27 :: x28 :: x29 :: x30 :: x31 :: x32 :: x33 :: x34 :: x35 :: y :: env) st N T XX) = rho (wE P go e (x0 :: x1 :: x2 :: x3 :: x4 :: x5 :: x6 :: x7 :: x8 :: x9 :: x10 :: x11 :: x12 :: x13 :: x14 :: x15 :: x16 :: x17 :: x18 :: x19 :: x20 :: x21 :: x22 :: x23 :: x24 :: x25 :: x26 :: x27 :: x28 :: x29 :: x30 :: x31 :: x32 :: x33 :: x34 :: x35 :: y :: env) st (fun v s => wM v s fun d s2 => N (x0 :: x1 :: x2 :: x3 :: x4 :: x5 :: x6 :: x7 :: x8 :: x9 :: x10 :: x11 :: x12 :: x13 :: x14 :: x15 :: x16 :: x17 :: x18 :: x19 :: x20 :: x21 :: x22 :: x23 :: x24 :: x25 :: x26 :: x27 :: x28 :: x29 :: x30 :: x31 :: x32 :: x33 :: x34 :: x35 :: some d :: env) s2) (fun c fs s => XX c fs (x0 :: x1 :: x2 :: x3 :: x4 :: x5 :: x6 :: x7 :: x8 :: x9 :: x10 :: x11 :: x12 :: x13 :: x14 :: x15 :: x16 :: x17 :: x18 :: x19 :: x20 :: x21 :: x22 :: x23 :: x24 :: x25 :: x26 :: x27 :: x28 :: x29 :: x30 :: x31 :: x32 :: x33 :: x34 :: x35 :: y :: env) s)) := congrArg rho (wS_asg36)
theorem wE_loc37 {x0 x1 x2 x3 x4 x5 x6 x7 x8 x9 x10 x11 x12 x13 x14 x15 x16 x17 x18 x19 x20 x21 x22 x23 x24 x25 x26 x27 x28 x29 x30 x31 x32 x33 x34 x35 x36 : Option D} : wE P go (.loc 37) (x0 :: x1 :: x2 :: x3 :: x4 :: x5 :: x6 :: x7 :: x8 :: x9 :: x10 :: x11 :: x12 :: x13 :: x14 :: x15 :: x16 :: x17 :: x18 :: x19 :: x20 :: x21 :: x22 :: x23 :: x24 :: x25 :: x26 :: x27 :: x28 :: x29 :: x30 :: x31 :: x32 :: x33 :: x34 :: x35 :: x36 :: some d :: env) st Q X = Q (.v d) st := rfl
@[simp ↓] theorem wE_loc37_r {x0 x1 x2 x3 x4 x5 x6 x7 x8 x9 x10 x11 x12 x13 x14 x15 x16 x17 x18 x19 x20 x21 x22 x23 x24 x25 x26 x27 x28 x29 x30 x31 x32 x33 x34 x35 x36 : Option D} : rho (wE P go (.loc 37) (x0 :: x1 :: x2 :: x3 :: x4 :: x5 :: x6 :: x7 :: x8 :: x9 :: x10 :: x11 :: x12 :: x13 :: x14 :: x15 :: x16 :: x17 :: x18 :: x19 :: x20 :: x21 :: x22 :: x23 :: x24 :: x25 :: x26 :: x27 :: x28 :: x29 :: x30 :: x31 :: x32 :: x33 :: x34 :: x35 :: x36 :: some d :: env) st Q X) = rho (Q (.v d) st) := congrArg rho (wE_loc37)
theorem wS_asg37 {x0 x1 x2 x3 x4 x5 x6 x7 x8 x9 x10 x11 x12 x13 x14 x15 x16 x17 x18 x19 x20 x21 x22 x23 x24 x25 x26 x27 x28 x29 x30 x31 x32 x33 x34 x35 x36 : Option D} {y : Option D} : wS P go (.asg 37 e) (x0 :: x1 :: x2 :: x3 :: x4 :: x5 :: x6 :: x7 :: x8 :: x9 :: x10 :: x11 :: x12 :: x13 :: x14 :: x15 :: x16 :: x17 :: x18 :: x19 :: x20 :: x21 :: x22 :: x23 :: x24 :: x25 :: x26 :: x27 :: x28 :: x29 :: x30 :: x31 :: x32 :: x33 :: x34 :: x35 :: x36 :: y :: env) st N T XX = wE P go e (x0 :: x1 :: x2 :: x3 :: x4 :: x5 :: x6 :: x7 :: x8 :: x9 :: x10 :: x11 :: x12 :: x13 :: x14 :: x15 :: x16 :: x17 :: x18 :: x19 :: x20 :: x21 :: x22 :: x23 :: x24 :: x25 :: x26 :: x27 :: x28 :: x29 :: x30 :: x31 :: x32 :: x33 :: x34 :: x35 :: x36 :: y :: env) st (fun v s => wM v s fun d s2 => N (x0 :: x1 :: x2 :: x3 :: x4 :: x5 :: x6 :: x7 :: x8 :: x9 :: x10 :: x11 :: x12 :: x13 :: x14 :: x15 :: x16 :: x17 :: x18 :: x19 :: x20 :: x21 :: x22 :: x23 :: x24 :: x25 :: x26 :: x27 :: x28 :: x29 :: x30 :: x31 :: x32 :: x33 :: x34 :: x35 :: x36 :: some d :: env) s2) (fun c fs s => XX c fs (x0 :: x1 :: x2 :: x3 :: x4 :: x5 :: x6 :: x7 :: x8 :: x9 :: x10 :: x11 :: x12 :: x13 :: x14 :: x15 :: x16 :: x17 :: x18 :: x19 :: x20 :: x21 :: x22 :: x23 :: x24 :: x25 :: x26 :: x27 :: x28 :: x29 :: x30 :: x31 :: x32 :: x33 :: x34 :: x35 :: x36 :: y :: env) s) := by
  unfold wS wE; conv => lhs; unfold exS
  rw [OX_out]; rfl
@[simp ↓] theorem wS_asg37_r {x0 x1 x2 x3 x4 x5 x6 x7 x8 x9 x10 x11 x12 x13 x14 x15 x16 x17 x18 x19 x20 x21 x22 x23 x24 x25 x26 x27 x28 x29 x30 x31 x32 x33 x34 x35 x36 : Option D} {y : Option D} : rho (wS P go (.asg 37 e) (x0 :: x1 :: x2 :: x3 :: x4 :: x5 :: x6 :: x7 :: x8 :: x9 :: x10 :: x11 :: x12 :: x13 :: x14 :: x15 :: x16 :: x17 :: x18 :: x19 :: x20 :: x21 :: x22 :: x23 :: x24 :: x25 :: x26 :: x27 :: x28 :: x29 :: x30 :: x31 :: x32 :: x33 :: x34 :: x35 :: x36 :: y :: env) st N T XX) = rho (wE P go e (x0 :: x1 :: x2 :: x3 :: x4 :: x5 :: x6 :: x7 :: x8 :: x9 :: x10 :: x11 :: x12 :: x13 :: x14 :: x15 :: x16 :: x17 :: x18 :: x19 :: x20 :: x21 :: x22 :: x23 :: x24 :: x25 :: x26 :: x27 :: x28 :: x29 :: x30 :: x31 :: x32 :: x33 :: x34 :: x35 :: x36 :: y :: env) st (fun v s => wM v s fun d s2 => N (x0 :: x1 :: x2 :: x3 :: x4 :: x5 :: x6 :: x7 :: x8 :: x9 :: x10 :: x11 :: x12 :: x13 :: x14 :: x15 :: x16 :: x17 :: x18 :: x19 :: x20 :: x21 :: x22 :: x23 :: x24 :: x25 :: x26 :: x27 :: x28 :: x29 :: x30 :: x31 :: x32 :: x33 :: x34 :: x35 :: x36 :: some d :: env) s2) (fun c fs s => XX c fs (x0 :: x1 :: x2 :: x3 :: x4 :: x5 :: x6 :: x7 :: x8 :: x9 :: x10 :: x11 :: x12 :: x13 :: x14 :: x15 :: x16 :: x17 :: x18 :: x19 :: x20 :: x21 :: x22 :: x23 :: x24 :: x25 :: x26 :: x27 :: x28 :: x29 :: x30 :: x31 :: x32 :: x33 :: x34 :: x35 :: x36 :: y :: env) s)) := congrArg rho (wS_asg37)
theorem wE_loc38 {x0 x1 x2 x3 x4 x5 x6 x7 x8 x9 x10 x11 x12 x13 x14 x15 x16 x17 x18 x19 x20 x21 x22 x23 x24 x25 x26 x27 x28 x29 x30 x31 x32 x33 x34 x35 x36 x37 : Option D} : wE P go (.loc 38) (x0 :: x1 :: x2 :: x3 :: x4 :: x5 :: x6 :: x7 :: x8 :: x9 :: x10 :: x11 :: x12 :: x13 :: x14 :: x15 :: x16 :: x17 :: x18 :: x19 :: x20 :: x21 :: x22 :: x23 :: x24 :: x25 :: x26 :: x27 :: x28 :: x29 :: x30 :: x31 :: x32 :: x33 :: x34 :: x35 :: x36 :: x37 :: some d :: env) st Q X = Q (.v d) st := rfl
@[simp ↓] theorem wE_loc38_r {x0 x1 x2 x3 x4 x5 x6 x7 x8 x9 x10 x11 x12 x13 x14 x15 x16 x17 x18 x19 x20 x21 x22 x23 x24 x25 x26 x27 x28 x29 x30 x31 x32 x33 x34 x35 x36 x37 : Option D} : rho (wE P go (.loc 38) (x0 :: x1 :: x2 :: x3 :: x4 :: x5 :: x6 :: x7 :: x8 :: x9 :: x10 :: x11 :: x12 :: x13 :: x14 :: x15 :: x16 :: x17 :: x18 :: x19 :: x20 :: x21 :: x22 :: x23 :: x24 :: x25 :: x26 :: x27 :: x28 :: x29 :: x30 :: x31 :: x32 :: x33 :: x34 :: x35 :: x36 :: x37 :: some d :: env) st Q X) = rho (Q (.v d) st) := congrArg rho (wE_loc38)
theorem wS_asg38 {x0 x1 x2 x3 x4 x5 x6 x7 x8 x9 x10 x11 x12 x13 x14 x15 x16 x17 x18 x19 x20 x21 x22 x23 x24 x25 x26 x27 x28 x29 x30 x31 x32 x33 x34 x35 x36 x37 : Option D} {y : Option D} : wS P go (.asg 38 e) (x0 :: x1 :: x2 :: x3 :: x4 :: x5 :: x6 :: x7 :: x8 :: x9 :: x10 :: x11 :: x12 :: x13 :: x14 :: x15 :: x16 :: x17 :: x18 :: x19 :: x20 :: x21 :: x22 :: x23 :: x24 :: x25 :: x26 :: x27 :: x28 :: x29 :: x30 :: x31 :: x32 :: x33 :: x34 :: x35 :: x36 :: x37 :: y :: env) st N T XX = wE P go e (x0 :: x1 :: x2 :: x3 :: x4 :: x5 :: x6 :: x7 :: x8 :: x9 :: x10 :: x11 :: x12 :: x13 :: x14 :: x15 :: x16 :: x17 :: x18 :: x19 :: x20 :: x21 :: x22 :: x23 :: x24 :: x25 :: x26 :: x27 :: x28 :: x29 :: x30 :: x31 :: x32 :: x33 :: x34 :: x35 :: x36 :: x37 :: y :: env) st (fun v s => wM v s fun d s2 => N (x0 :: x1 :: x2 :: x3 :: x4 :: x5 :: x6 :: x7 :: x8 :: x9 :: x10 :: x11 :: x12 :: x13 :: x14 :: x15 :: x16 :: x17 :: x18 :: x19 :: x20 :: x21 :: x22 :: x23 :: x24 :: x25 :: x26 :: x27 :: x28 :: x29 :: x30 :: x31 :: x32 :: x33 :: x34 :: x35 :: x36 :: x37 :: some d :: env) s2) (fun c fs s => XX c fs (x0 :: x1 :: x2 :: x3 :: x4 :: x5 :: x6 :: x7 :: x8 :: x9 :: x10 :: x11 :: x12 :: x13 :: x14 :: x15 :: x16 :: x17 :: x18 :: x19 :: x20 :: x21 :: x22 :: x23 :: x24 :: x25 :: x26 :: x27 :: x28 :: x29 :: x30 :: x31 :: x32 :: x33 :: x34 :: x35 :: x36 :: x37 :: y :: env) s) := by
  unfold wS wE; conv => lhs; unfold exS
  rw [OX_out]; rfl
@[simp ↓] theorem wS_asg38_r {x0 x1 x2 x3 x4 x5 x6 x7 x8 x9 x10 x11 x12 x13 x14 x15 x16 x17 x18 x19 x20 x21 x22 x23 x24 x25 x26 x27 x28 x29 x30 x31 x32 x33 x34 x35 x36 x37 : Option D} {y : Option D} : rho (wS P go (.asg 38 e) (x0 :: x1 :: x2 :: x3 :: x4 :: x5 :: x6 :: x7 :: x8 :: x9 :: x10 :: x11 :: x12 :: x13 :: x14 :: x15 :: x16 :: x17 :: x18 :: x19 :: x20 :: x21 :: x22 :: x23 :: x24 :: x25 :: x26 :: x27 :: x28 :: x29 :: x30 :: x31 :: x32 :: x33 :: x34 :: x35 :: x36 :: x37 :: y :: env) st N T XX) = rho (wE P go e (x0 :: x1 :: x2 :: x3 :: x4 :: x5 :: x6 :: x7 :: x8 :: x9 :: x10 :: x11 :: x12 :: x13 :: x14 :: x15 :: x16 :: x17 :: x18 :: x19 :: x20 :: x21 :: x22 :: x23 :: x24 :: x25 :: x26 :: x27 :: x28 :: x29 :: x30 :: x31 :: x32 :: x33 :: x34 :: x35 :: x36 :: x37 :: y :: env) st (fun v s => wM v s fun d s2 => N (x0 :: x1 :: x2 :: x3 :: x4 :: x5 :: x6 :: x7 :: x8 :: x9 :: x10 :: x11 :: x12 :: x13 :: x14 :: x15 :: x16 :: x17 :: x18 :: x19 :: x20 :: x21 :: x22 :: x23 :: x24 :: x25 :: x26 :: x27 :: x28 :: x29 :: x30 :: x31 :: x32 :: x33 :: x34 :: x35 :: x36 :: x37 :: some d :: env) s2) (fun c fs s => XX c fs (x0 :: x1 :: x2 :: x3 :: x4 :: x5 :: x6 :: x7 :: x8 :: x9 :: x10 :: x11 :: x12 :: x13 :: x14 :: x15 :: x16 :: x17 :: x18 :: x19 :: x20 :: x21 :: x22 :: x23 :: x24 :: x25 :: x26 :: x27 :: x28 :: x29 :: x30 :: x31 :: x32 :: x33 :: x34 :: x35 :: x36 :: x37 :: y :: env) s)) := congrArg rho (wS_asg38)
theorem wE_loc39 {x0 x1 x2 x3 x4 x5 x6 x7 x8 x9 x10 x11 x12 x13 x14 x15 x16 x17 x18 x19 x20 x21 x22 x23 x24 x25 x26 x27 x28 x29 x30 x31 x32 x33 x34 x35 x36 x37 x38 : Option D} : wE P go (.loc 39) (x0 :: x1 :: x2 :: x3 :: x4 :: x5 :: x6 :: x7 :: x8 :: x9 :: x10 :: x11 :: x12 :: x13 :: x14 :: x15 :: x16 :: x17 :: x18 :: x19 :: x20 :: x21 :: x22 :: x23 :: x24 :: x25 :: x26 :: x27 :: x28 :: x29 :: x30 :: x31 :: x32 :: x33 :: x34 :: x35 :: x36 :: x37 :: x38 :: some d :: env) st Q X = Q (.v d) st := rfl
@[simp ↓] theorem wE_loc39_r {x0 x1 x2 x3 x4 x5 x6 x7 x8 x9 x10 x11 x12 x13 x14 x15 x16 x17 x18 x19 x20 x21 x22 x23 x24 x25 x26 x27 x28 x29 x30 x31 x32 x33 x34 x35 x36 x37 x38 : Option D} : rho (wE P go (.loc 39) (x0 :: x1 :: x2 :: x3 :: x4 :: x5 :: x6 :: x7 :: x8 :: x9 :: x10 :: x11 :: x12 :: x13 :: x14 :: x15 :: x16 :: x17 :: x18 :: x19 :: x20 :: x21 :: x22 :: x23 :: x24 :: x25 :: x26 :: x27 :: x28 :: x29 :: x30 :: x31 :: x32 :: x33 :: x34 :: x35 :: x36 :: x37 :: x38 :: some d :: env) st Q X) = rho (Q (.v d) st) := congrArg rho (wE_loc39)
theorem wS_asg39 {x0 x1 x2 x3 x4 x5 x6 x7 x8 x9 x10 x11 x12 x13 x14 x15 x16 x17 x18 x19 x20 x21 x22 x23 x24 x25 x26 x27 x28 x29 x30 x31 x32 x33 x34 x35 x36 x37 x38 : Option D} {y : Option D} : wS P go (.asg 39 e) (x0 :: x1 :: x2 :: x3 :: x4 :: x5 :: x6 :: x7 :: x8 :: x9 :: x10 :: x11 :: x12 :: x13 :: x14 :: x15 :: x16 :: x17 :: x18 :: x19 :: x20 :: x21 :: x22 :: x23 :: x24 :: x25 :: x26 :: x27 :: x28 :: x29 :: x30 :: x31 :: x32 :: x33 :: x34 :: x35 :: x36 :: x37 :: x38 :: y :: env) st N T XX = wE P go e (x0 :: x1 :: x2 :: x3 :: x4 :: x5 :: x6 :: x7 :: x8 :: x9 :: x10 :: x11 :: x12 :: x13 :: x14 :: x15 :: x16 :: x17 :: x18 :: x19 :: x20 :: x21 :: x22 :: x23 :: x24 :: x25 :: x26 :: x27 :: x28 :: x29 :: x30 :: x31 :: x32 :: x33 :: x34 :: x35 :: x36 :: x37 :: x38 :: y :: env) st (fun v s => wM v s fun d s2 => N (x0 :: x1 :: x2 :: x3 :: x4 :: x5 :: x6 :: x7 :: x8 :: x9 :: x10 :: x11 :: x12 :: x13 :: x14 :: x15 :: x16 :: x17 :: x18 :: x19 :: x20 :: x21 :: x22 :: x23 :: x24 :: x25 :: x26 :: x27 :: x28 :: x29 :: x30 :: x31 :: x32 :: x33 :: x34 :: x35 :: x36 :: x37 :: x38 :: some d :: env) s2) (fun c fs s => XX c fs (x0 :: x1 :: x2 :: x3 :: x4 :: x5 :: x6 :: x7 :: x8 :: x9 :: x10 :: x11 :: x12 :: x13 :: x14 :: x15 :: x16 :: x17 :: x18 :: x19 :: x20 :: x21 :: x22 :: x23 :: x24 :: x25 :: x26 :: x27 :: x28 :: x29 :: x30 :: x31 :: x32 :: x33 :: x34 :: x35 :: x36 :: x37 :: x38 :: y :: env) s) := by
  unfold wS wE; conv => lhs; unfold exS
  rw [OX_out]; rfl
@[simp ↓] theorem wS_asg39_r {x0 x1 x2 x3 x4 x5 x6 x7 x8 x9 x10 x11 x12 x13 x14 x15 x16 x17 x18 x19 x20 x21 x22 x23 x24 x25 x26 x27 x28 x29 x30 x31 x32 x33 x34 x35 x36 x37 x38 : Option D} {y : Option D} : rho (wS P go (.asg 39 e) (x0 :: x1 :: x2 :: x3 :: x4 :: x5 :: x6 :: x7 :: x8 :: x9 :: x10 :: x11 :: x12 :: x13 :: x14 :: x15 :: x16 :: x17 :: x18 :: x19 :: x20 :: x21 :: x22 :: x23 :: x24 :: x25 :: x26 :: x27 :: x28 :: x29 :: x30 :: x31 :: x32 :: x33 :: x34 :: x35 :: x36 :: x37 :: x38 :: y :: env) st N T XX) = rho (wE P go e (x0 :: x1 :: x2 :: x3 :: x4 :: x5 :: x6 :: x7 :: x8 :: x9 :: x10 :: x11 :: x12 :: x13 :: x14 :: x15 :: x16 :: x17 :: x18 :: x19 :: x20 :: x21 :: x22 :: x23 :: x24 :: x25 :: x26 :: x27 :: x28 :: x29 :: x30 :: x31 :: x32 :: x33 :: x34 :: x35 :: x36 :: x37 :: x38 :: y :: env) st (fun v s => wM v s fun d s2 => N (x0 :: x1 :: x2 :: x3 :: x4 :: x5 :: x6 :: x7 :: x8 :: x9 :: x10 :: x11 :: x12 :: x13 :: x14 :: x15 :: x16 :: x17 :: x18 :: x19 :: x20 :: x21 :: x22 :: x23 :: x24 :: x25 :: x26 :: x27 :: x28 :: x29 :: x30 :: x31 :: x32 :: x33 :: x34 :: x35 :: x36 :: x37 :: x38 :: some d :: env) s2) (fun c fs s => XX c fs (x0 :: x1 :: x2 :: x3 :: x4 :: x5 :: x6 :: x7 :: x8 :: x9 :: x10 :: x11 :: x12 :: x13 :: x14 :: x15 :: x16 :: x17 :: x18 :: x19 :: x20 :: x21 :: x22 :: x23 :: x24 :: x25 :: x26 :: x27 :: x28 :: x29 :: x30 :: x31 :: x32 :: x33 :: x34 :: x35 :: x36 :: x37 :: x38 :: y :: env) s)) := congrArg rho (wS_asg39)
theorem wGet_0 {Q : List D → Prop} : wGet (.lst ds :: s) 0 Q = Q ds := rfl
@[simp ↓] theorem wGet_0_r {Q : List D → Prop} : rho (wGet (.lst ds :: s) 0 Q) = rho (Q ds) := congrArg rho (wGet_0)
theorem wIns_0 {fs : List (Str × D)} {k : Str} {Q : Str → List (Str × D) → Prop} : wIns (.ins k fs :: s) 0 Q = Q k fs := rfl
@[simp ↓] theorem wIns_0_r {fs : List (Str × D)} {k : Str} {Q : Str → List (Str × D) → Prop} : rho (wIns (.ins k fs :: s) 0 Q) = rho (Q k fs) := congrArg rho (wIns_0)
theorem wGet_1 {x0 : Cell} {Q : List D → Prop} : wGet (x0 :: .lst ds :: s) 1 Q = Q ds := rfl
@[simp ↓] theorem wGet_1_r {x0 : Cell} {Q : List D → Prop} : rho (wGet (x0 :: .lst ds :: s) 1 Q) = rho (Q ds) := congrArg rho (wGet_1)
theorem wIns_1 {x0 : Cell} {fs : List (Str × D)} {k : Str} {Q : Str → List (Str × D) → Prop} : wIns (x0 :: .ins k fs :: s) 1 Q = Q k fs := rfl
@[simp ↓] theorem wIns_1_r {x0 : Cell} {fs : List (Str × D)} {k : Str} {Q : Str → List (Str × D) → Prop} : rho (wIns (x0 :: .ins k fs :: s) 1 Q) = rho (Q k fs) := congrArg rho (wIns_1)
theorem wGet_2 {x0 x1 : Cell} {Q : List D → Prop} : wGet (x0 :: x1 :: .lst ds :: s) 2 Q = Q ds := rfl
@[simp ↓] theorem wGet_2_r {x0 x1 : Cell} {Q : List D → Prop} : rho (wGet (x0 :: x1 :: .lst ds :: s) 2 Q) = rho (Q ds) := congrArg rho (wGet_2)
theorem wIns_2 {x0 x1 : Cell} {fs : List (Str × D)} {k : Str} {Q : Str → List (Str × D) → Prop} : wIns (x0 :: x1 :: .ins k fs :: s) 2 Q = Q k fs := rfl
@[simp ↓] theorem wIns_2_r {x0 x1 : Cell} {fs : List (Str × D)} {k : Str} {Q : Str → List (Str × D) → Prop} : rho (wIns (x0 :: x1 :: .ins k fs :: s) 2 Q) = rho (Q k fs) := congrArg rho (wIns_2)
theorem wGet_3 {x0 x1 x2 : Cell} {Q : List D → Prop} : wGet (x0 :: x1 :: x2 :: .lst ds :: s) 3 Q = Q ds := rfl
@[simp ↓] theorem wGet_3_r {x0 x1 x2 : Cell} {Q : List D → Prop} : rho (wGet (x0 :: x1 :: x2 :: .lst ds :: s) 3 Q) = rho (Q ds) := congrArg rho (wGet_3)
theorem wIns_3 {x0 x1 x2 : Cell} {fs : List (Str × D)} {k : Str} {Q : Str → List (Str × D) → Prop} : wIns (x0 :: x1 :: x2 :: .ins k fs :: s) 3 Q = Q k fs := rfl
@[simp ↓] theorem wIns_3_r {x0 x1 x2 : Cell} {fs : List (Str × D)} {k : Str} {Q : Str → List (Str × D) → Prop} : rho (wIns (x0 :: x1 :: x2 :: .ins k fs :: s) 3 Q) = rho (Q k fs) := congrArg rho (wIns_3)
theorem wGet_4 {x0 x1 x2 x3 : Cell} {Q : List D → Prop} : wGet (x0 :: x1 :: x2 :: x3 :: .lst ds :: s) 4 Q = Q ds := rfl
@[simp ↓] theorem wGet_4_r {x0 x1 x2 x3 : Cell} {Q : List D → Prop} : rho (wGet (x0 :: x1 :: x2 :: x3 :: .lst ds :: s) 4 Q) = rho (Q ds) := congrArg rho (wGet_4)
theorem wIns_4 {x0 x1 x2 x3 : Cell} {fs : List (Str × D)} {k : Str} {Q : Str → List (Str × D) → Prop} : wIns (x0 :: x1 :: x2 :: x3 :: .ins k fs :: s) 4 Q = Q k fs := rfl
@[simp ↓] theorem wIns_4_r {x0 x1 x2 x3 : Cell} {fs : List (Str × D)} {k : Str} {Q : Str → List (Str × D) → Prop} : rho (wIns (x0 :: x1 :: x2 :: x3 :: .ins k fs :: s) 4 Q) = rho (Q k fs) := congrArg rho (wIns_4)
theorem wGet_5 {x0 x1 x2 x3 x4 : Cell} {Q : List D → Prop} : wGet (x0 :: x1 :: x2 :: x3 :: x4 :: .lst ds :: s) 5 Q = Q ds := rfl
@[simp ↓] theorem wGet_5_r {x0 x1 x2 x3 x4 : Cell} {Q : List D → Prop} : rho (wGet (x0 :: x1 :: x2 :: x3 :: x4 :: .lst ds :: s) 5 Q) = rho (Q ds) := congrArg rho (wGet_5)
theorem wIns_5 {x0 x1 x2 x3 x4 : Cell} {fs : List (Str × D)} {k : Str} {Q : Str → List (Str × D) → Prop} : wIns (x0 :: x1 :: x2 :: x3 :: x4 :: .ins k fs :: s) 5 Q = Q k fs := rfl
@[simp ↓] theorem wIns_5_r {x0 x1 x2 x3 x4 : Cell} {fs : List (Str × D)} {k : Str} {Q : Str → List (Str × D) → Prop} : rho (wIns (x0 :: x1 :: x2 :: x3 :: x4 :: .ins k fs :: s) 5 Q) = rho (Q k fs) := congrArg rho (wIns_5)
theorem wGet_6 {x0 x1 x2 x3 x4 x5 : Cell} {Q : List D → Prop} : wGet (x0 :: x1 :: x2 :: x3 :: x4 :: x5 :: .lst ds :: s) 6 Q = Q ds := rfl
@[simp ↓] theorem wGet_6_r {x0 x1 x2 x3 x4 x5 : Cell} {Q : List D → Prop} : rho (wGet (x0 :: x1 :: x2 :: x3 :: x4 :: x5 :: .lst ds :: s) 6 Q) = rho (Q ds) := congrArg rho (wGet_6)
theorem wIns_6 {x0 x1 x2 x3 x4 x5 : Cell} {fs : List (Str × D)} {k : Str} {Q : Str → List (Str × D) → Prop} : wIns (x0 :: x1 :: x2 :: x3 :: x4 :: x5 :: .ins k fs :: s) 6 Q = Q k fs := rfl
@[simp ↓] theorem wIns_6_r {x0 x1 x2 x3 x4 x5 : Cell} {fs : List (Str × D)} {k : Str} {Q : Str → List (Str × D) → Prop} : rho (wIns (x0 :: x1 :: x2 :: x3 :: x4 :: x5 :: .ins k fs :: s) 6 Q) = rho (Q k fs) := congrArg rho (wIns_6)
theorem wB_add {Q : Ev → Prop} : wB .add (.v (.int i)) (.v (.int j)) s Q = Q (.v (.int (i + j))) := rfl
@[simp ↓] theorem wB_add_r {Q : Ev → Prop} : rho (wB .add (.v (.int i)) (.v (.int j)) s Q) = rho (Q (.v (.int (i + j)))) := congrArg rho (wB_add)
theorem wB_sub {Q : Ev → Prop} : wB .sub (.v (.int i)) (.v (.int j)) s Q = Q (.v (.int (i - j))) := rfl
@[simp ↓] theorem wB_sub_r {Q : Ev → Prop} : rho (wB .sub (.v (.int i)) (.v (.int j)) s Q) = rho (Q (.v (.int (i - j)))) := congrArg rho (wB_sub)
theorem small_iff : small i = true ↔ (-18446744073709551616 < i ∧ i < 18446744073709551616) := by
  unfold small
  rw [Bool.and_eq_true_iff, decide_eq_true_iff, decide_eq_true_iff]
  exact Iff.rfl
theorem wB_mulL {Q : Ev → Prop} (h : -18446744073709551616 < i ∧ i < 18446744073709551616) : wB .mul (.v (.int i)) (.v (.int j)) s Q = Q (.v (.int (i * j))) := by
  show wOf (if (small i || small j) = true then _ else _) Q = _
  rw [small_iff.mpr h]; rfl
@[simp ↓] theorem wB_mulL_r {Q : Ev → Prop} (h : -18446744073709551616 < i ∧ i < 18446744073709551616) : rho (wB .mul (.v (.int i)) (.v (.int j)) s Q) = rho (Q (.v (.int (i * j)))) := congrArg rho (wB_mulL h)
theorem wB_mulR {Q : Ev → Prop} (h : -18446744073709551616 < j ∧ j < 18446744073709551616) : wB .mul (.v (.int i)) (.v (.int j)) s Q = Q (.v (.int (i * j))) := by
  show wOf (if (small i || small j) = true then _ else _) Q = _
  rw [small_iff.mpr h, Bool.or_true]; rfl
@[simp ↓] theorem wB_mulR_r {Q : Ev → Prop} (h : -18446744073709551616 < j ∧ j < 18446744073709551616) : rho (wB .mul (.v (.int i)) (.v (.int j)) s Q) = rho (Q (.v (.int (i * j)))) := congrArg rho (wB_mulR h)
theorem wB_fdiv {Q : Ev → Prop} (h : 0 < j ∧ j < 1073741824) : wB .fdiv (.v (.int i)) (.v (.int j)) s Q = Q (.v (.int (i / j))) := by
  show wOf (if 0 < j ∧ j < 1073741824 then _ else _) Q = _
  rw [if_pos h]; rfl
@[simp ↓] theorem wB_fdiv_r {Q : Ev → Prop} (h : 0 < j ∧ j < 1073741824) : rho (wB .fdiv (.v (.int i)) (.v (.int j)) s Q) = rho (Q (.v (.int (i / j)))) := congrArg rho (wB_fdiv h)
theorem wB_mod {Q : Ev → Prop} (h : 0 < j) : wB .mod (.v (.int i)) (.v (.int j)) s Q = Q (.v (.int (i % j))) := by
  show wOf (if 0 < j then _ else _) Q = _
  rw [if_pos h]; rfl
@[simp ↓] theorem wB_mod_r {Q : Ev → Prop} (h : 0 < j) : rho (wB .mod (.v (.int i)) (.v (.int j)) s Q) = rho (Q (.v (.int (i % j)))) := congrArg rho (wB_mod h)
theorem wB_pow {Q : Ev → Prop} (h : (0 ≤ j ∧ j ≤ 1000000) ∧ i.natAbs < 18446744073709551616) : wB .pow (.v (.int i)) (.v (.int j)) s Q = Q (.v (.int (i ^ j.toNat))) := by
  show wOf (if 0 ≤ j ∧ j ≤ 1000000 ∧ i.natAbs < 2 ^ 64 then _ else _) Q = _
  rw [if_pos ⟨h.1.1, h.1.2, h.2⟩]; rfl
@[simp ↓] theorem wB_pow_r {Q : Ev → Prop} (h : (0 ≤ j ∧ j ≤ 1000000) ∧ i.natAbs < 18446744073709551616) : rho (wB .pow (.v (.int i)) (.v (.int j)) s Q) = rho (Q (.v (.int (i ^ j.toNat)))) := congrArg rho (wB_pow h)
theorem wB_shr {Q : Ev → Prop} (h : 0 ≤ j) : wB .shr (.v (.int i)) (.v (.int j)) s Q = Q (.v (.int (i / 2 ^ j.toNat))) := by
  show wOf (if 0 ≤ j then _ else _) Q = _
  rw [if_pos h]; rfl

@[simp ↓] theorem wB_shr_r {Q : Ev → Prop} (h : 0 ≤ j) : rho (wB .shr (.v (.int i)) (.v (.int j)) s Q) = rho (Q (.v (.int (i / 2 ^ j.toNat)))) := congrArg rho (wB_shr h)
theorem wC_lt {Q : Bool → Prop} : wC .lt (.v (.int i)) (.v (.int j)) s Q = Q (decide (i < j)) := rfl
@[simp ↓] theorem wC_lt_r {Q : Bool → Prop} : rho (wC .lt (.v (.int i)) (.v (.int j)) s Q) = rho (Q (decide (i < j))) := congrArg rho (wC_lt)
theorem wC_le {Q : Bool → Prop} : wC .le (.v (.int i)) (.v (.int j)) s Q = Q (decide (i ≤ j)) := rfl
@[simp ↓] theorem wC_le_r {Q : Bool → Prop} : rho (wC .le (.v (.int i)) (.v (.int j)) s Q) = rho (Q (decide (i ≤ j))) := congrArg rho (wC_le)
theorem wC_gt {Q : Bool → Prop} : wC .gt (.v (.int i)) (.v (.int j)) s Q = Q (decide (j < i)) := rfl
@[simp ↓] theorem wC_gt_r {Q : Bool → Prop} : rho (wC .gt (.v (.int i)) (.v (.int j)) s Q) = rho (Q (decide (j < i))) := congrArg rho (wC_gt)
theorem wC_ge {Q : Bool → Prop} : wC .ge (.v (.int i)) (.v (.int j)) s Q = Q (decide (j ≤ i)) := rfl
@[simp ↓] theorem wC_ge_r {Q : Bool → Prop} : rho (wC .ge (.v (.int i)) (.v (.int j)) s Q) = rho (Q (decide (j ≤ i))) := congrArg rho (wC_ge)
theorem wC_eq {Q : Bool → Prop} : wC .eq (.v (.int i)) (.v (.int j)) s Q = Q (decide (i = j)) := rfl
@[simp ↓] theorem wC_eq_r {Q : Bool → Prop} : rho (wC .eq (.v (.int i)) (.v (.int j)) s Q) = rho (Q (decide (i = j))) := congrArg rho (wC_eq)
theorem wC_ne {Q : Bool → Prop} : wC .ne (.v (.int i)) (.v (.int j)) s Q = Q (!decide (i = j)) := rfl
@[simp ↓] theorem wC_ne_r {Q : Bool → Prop} : rho (wC .ne (.v (.int i)) (.v (.int j)) s Q) = rho (Q (!decide (i = j))) := congrArg rho (wC_ne)
theorem wC_eq_bl {x y : Bool} {Q : Bool → Prop} : wC .eq (.v (.bl x)) (.v (.bl y)) s Q = Q (decide (x = y)) := rfl
@[simp ↓] theorem wC_eq_bl_r {x y : Bool} {Q : Bool → Prop} : rho (wC .eq (.v (.bl x)) (.v (.bl y)) s Q) = rho (Q (decide (x = y))) := congrArg rho (wC_eq_bl)
theorem wC_ne_bl {x y : Bool} {Q : Bool → Prop} : wC .ne (.v (.bl x)) (.v (.bl y)) s Q = Q (!decide (x = y)) := rfl
@[simp ↓] theorem wC_ne_bl_r {x y : Bool} {Q : Bool → Prop} : rho (wC .ne (.v (.bl x)) (.v (.bl y)) s Q) = rho (Q (!decide (x = y))) := congrArg rho (wC_ne_bl)
theorem wC_eq_str {x y : Str} {Q : Bool → Prop} : wC .eq (.v (.str x)) (.v (.str y)) s Q = Q (decide (x = y)) := rfl
@[simp ↓] theorem wC_eq_str_r {x y : Str} {Q : Bool → Prop} : rho (wC .eq (.v (.str x)) (.v (.str y)) s Q) = rho (Q (decide (x = y))) := congrArg rho (wC_eq_str)
theorem wC_ne_str {x y : Str} {Q : Bool → Prop} : wC .ne (.v (.str x)) (.v (.str y)) s Q = Q (!decide (x = y)) := rfl
@[simp ↓] theorem wC_ne_str_r {x y : Str} {Q : Bool → Prop} : rho (wC .ne (.v (.str x)) (.v (.str y)) s Q) = rho (Q (!decide (x = y))) := congrArg rho (wC_ne_str)
theorem wC_eqT1 {x0 y0 : Int} {Q : Bool → Prop} : wC .eq (.v (.tup [.int x0])) (.v (.tup [.int y0])) s Q = Q ((x0 == y0) && (true)) := rfl
@[simp ↓] theorem wC_eqT1_r {x0 y0 : Int} {Q : Bool → Prop} : rho (wC .eq (.v (.tup [.int x0])) (.v (.tup [.int y0])) s Q) = rho (Q ((x0 == y0) && (true))) := congrArg rho (wC_eqT1)
theorem wC_neT1 {x0 y0 : Int} {Q : Bool → Prop} : wC .ne (.v (.tup [.int x0])) (.v (.tup [.int y0])) s Q = Q (!((x0 == y0) && (true))) := rfl
@[simp ↓] theorem wC_neT1_r {x0 y0 : Int} {Q : Bool → Prop} : rho (wC .ne (.v (.tup [.int x0])) (.v (.tup [.int y0])) s Q) = rho (Q (!((x0 == y0) && (true)))) := congrArg rho (wC_neT1)
theorem wC_eqT2 {x0 x1 y0 y1 : Int} {Q : Bool → Prop} : wC .eq (.v (.tup [.int x0, .int x1])) (.v (.tup [.int y0, .int y1])) s Q = Q ((x0 == y0) && ((x1 == y1) && (true))) := rfl
@[simp ↓] theorem wC_eqT2_r {x0 x1 y0 y1 : Int} {Q : Bool → Prop} : rho (wC .eq (.v (.tup [.int x0, .int x1])) (.v (.tup [.int y0, .int y1])) s Q) = rho (Q ((x0 == y0) && ((x1 == y1) && (true)))) := congrArg rho (wC_eqT2)
theorem wC_neT2 {x0 x1 y0 y1 : Int} {Q : Bool → Prop} : wC .ne (.v (.tup [.int x0, .int x1])) (.v (.tup [.int y0, .int y1])) s Q = Q (!((x0 == y0) && ((x1 == y1) && (true)))) := rfl
@[simp ↓] theorem wC_neT2_r {x0 x1 y0 y1 : Int} {Q : Bool → Prop} : rho (wC .ne (.v (.tup [.int x0, .int x1])) (.v (.tup [.int y0, .int y1])) s Q) = rho (Q (!((x0 == y0) && ((x1 == y1) && (true))))) := congrArg rho (wC_neT2)
theorem wC_eqT3 {x0 x1 x2 y0 y1 y2 : Int} {Q : Bool → Prop} : wC .eq (.v (.tup [.int x0, .int x1, .int x2])) (.v (.tup [.int y0, .int y1, .int y2])) s Q = Q ((x0 == y0) && ((x1 == y1) && ((x2 == y2) && (true)))) := rfl
@[simp ↓] theorem wC_eqT3_r {x0 x1 x2 y0 y1 y2 : Int} {Q : Bool → Prop} : rho (wC .eq (.v (.tup [.int x0, .int x1, .int x2])) (.v (.tup [.int y0, .int y1, .int y2])) s Q) = rho (Q ((x0 == y0) && ((x1 == y1) && ((x2 == y2) && (true))))) := congrArg rho (wC_eqT3)
theorem wC_neT3 {x0 x1 x2 y0 y1 y2 : Int} {Q : Bool → Prop} : wC .ne (.v (.tup [.int x0, .int x1, .int x2])) (.v (.tup [.int y0, .int y1, .int y2])) s Q = Q (!((x0 == y0) && ((x1 == y1) && ((x2 == y2) && (true))))) := rfl
@[simp ↓] theorem wC_neT3_r {x0 x1 x2 y0 y1 y2 : Int} {Q : Bool → Prop} : rho (wC .ne (.v (.tup [.int x0, .int x1, .int x2])) (.v (.tup [.int y0, .int y1, .int y2])) s Q) = rho (Q (!((x0 == y0) && ((x1 == y1) && ((x2 == y2) && (true)))))) := congrArg rho (wC_neT3)
theorem wC_eqT4 {x0 x1 x2 x3 y0 y1 y2 y3 : Int} {Q : Bool → Prop} : wC .eq (.v (.tup [.int x0, .int x1, .int x2, .int x3])) (.v (.tup [.int y0, .int y1, .int y2, .int y3])) s Q = Q ((x0 == y0) && ((x1 == y1) && ((x2 == y2) && ((x3 == y3) && (true))))) := rfl
@[simp ↓] theorem wC_eqT4_r {x0 x1 x2 x3 y0 y1 y2 y3 : Int} {Q : Bool → Prop} : rho (wC .eq (.v (.tup [.int x0, .int x1, .int x2, .int x3])) (.v (.tup [.int y0, .int y1, .int y2, .int y3])) s Q) = rho (Q ((x0 == y0) && ((x1 == y1) && ((x2 == y2) && ((x3 == y3) && (true)))))) := congrArg rho (wC_eqT4)
theorem wC_neT4 {x0 x1 x2 x3 y0 y1 y2 y3 : Int} {Q : Bool → Prop} : wC .ne (.v (.tup [.int x0, .int x1, .int x2, .int x3])) (.v (.tup [.int y0, .int y1, .int y2, .int y3])) s Q = Q (!((x0 == y0) && ((x1 == y1) && ((x2 == y2) && ((x3 == y3) && (true)))))) := rfl
@[simp ↓] theorem wC_neT4_r {x0 x1 x2 x3 y0 y1 y2 y3 : Int} {Q : Bool → Prop} : rho (wC .ne (.v (.tup [.int x0, .int x1, .int x2, .int x3])) (.v (.tup [.int y0, .int y1, .int y2, .int y3])) s Q) = rho (Q (!((x0 == y0) && ((x1 == y1) && ((x2 == y2) && ((x3 == y3) && (true))))))) := congrArg rho (wC_neT4)
theorem wC_eqT5 {x0 x1 x2 x3 x4 y0 y1 y2 y3 y4 : Int} {Q : Bool → Prop} : wC .eq (.v (.tup [.int x0, .int x1, .int x2, .int x3, .int x4])) (.v (.tup [.int y0, .int y1, .int y2, .int y3, .int y4])) s Q = Q ((x0 == y0) && ((x1 == y1) && ((x2 == y2) && ((x3 == y3) && ((x4 == y4) && (true)))))) := rfl
@[simp ↓] theorem wC_eqT5_r {x0 x1 x2 x3 x4 y0 y1 y2 y3 y4 : Int} {Q : Bool → Prop} : rho (wC .eq (.v (.tup [.int x0, .int x1, .int x2, .int x3, .int x4])) (.v (.tup [.int y0, .int y1, .int y2, .int y3, .int y4])) s Q) = rho (Q ((x0 == y0) && ((x1 == y1) && ((x2 == y2) && ((x3 == y3) && ((x4 == y4) && (true))))))) := congrArg rho (wC_eqT5)
theorem wC_neT5 {x0 x1 x2 x3 x4 y0 y1 y2 y3 y4 : Int} {Q : Bool → Prop} : wC .ne (.v (.tup [.int x0, .int x1, .int x2, .int x3, .int x4])) (.v (.tup [.int y0, .int y1, .int y2, .int y3, .int y4])) s Q = Q (!((x0 == y0) && ((x1 == y1) && ((x2 == y2) && ((x3 == y3) && ((x4 == y4) && (true))))))) := rfl
@[simp ↓] theorem wC_neT5_r {x0 x1 x2 x3 x4 y0 y1 y2 y3 y4 : Int} {Q : Bool → Prop} : rho (wC .ne (.v (.tup [.int x0, .int x1, .int x2, .int x3, .int x4])) (.v (.tup [.int y0, .int y1, .int y2, .int y3, .int y4])) s Q) = rho (Q (!((x0 == y0) && ((x1 == y1) && ((x2 == y2) && ((x3 == y3) && ((x4 == y4) && (true)))))))) := congrArg rho (wC_neT5)
theorem wC_ltT1 {x0 y0 : Int} {Q : Bool → Prop} : wC .lt (.v (.tup [.int x0])) (.v (.tup [.int y0])) s Q = Q (ordT (fun i j => decide (i < j)) (fun i j => decide (i < j)) [x0] [y0]) := rfl
@[simp ↓] theorem wC_ltT1_r {x0 y0 : Int} {Q : Bool → Prop} : rho (wC .lt (.v (.tup [.int x0])) (.v (.tup [.int y0])) s Q) = rho (Q (ordT (fun i j => decide (i < j)) (fun i j => decide (i < j)) [x0] [y0])) := congrArg rho (wC_ltT1)
theorem wC_leT1 {x0 y0 : Int} {Q : Bool → Prop} : wC .le (.v (.tup [.int x0])) (.v (.tup [.int y0])) s Q = Q (ordT (fun i j => decide (i ≤ j)) (fun i j => decide (i ≤ j)) [x0] [y0]) := rfl
@[simp ↓] theorem wC_leT1_r {x0 y0 : Int} {Q : Bool → Prop} : rho (wC .le (.v (.tup [.int x0])) (.v (.tup [.int y0])) s Q) = rho (Q (ordT (fun i j => decide (i ≤ j)) (fun i j => decide (i ≤ j)) [x0] [y0])) := congrArg rho (wC_leT1)
theorem wC_gtT1 {x0 y0 : Int} {Q : Bool → Prop} : wC .gt (.v (.tup [.int x0])) (.v (.tup [.int y0])) s Q = Q (ordT (fun i j => decide (j < i)) (fun i j => decide (j < i)) [x0] [y0]) := rfl
@[simp ↓] theorem wC_gtT1_r {x0 y0 : Int} {Q : Bool → Prop} : rho (wC .gt (.v (.tup [.int x0])) (.v (.tup [.int y0])) s Q) = rho (Q (ordT (fun i j => decide (j < i)) (fun i j => decide (j < i)) [x0] [y0])) := congrArg rho (wC_gtT1)
theorem wC_geT1 {x0 y0 : Int} {Q : Bool → Prop} : wC .ge (.v (.tup [.int x0])) (.v (.tup [.int y0])) s Q = Q (ordT (fun i j => decide (j ≤ i)) (fun i j => decide (j ≤ i)) [x0] [y0]) := rfl
@[simp ↓] theorem wC_geT1_r {x0 y0 : Int} {Q : Bool → Prop} : rho (wC .ge (.v (.tup [.int x0])) (.v (.tup [.int y0])) s Q) = rho (Q (ordT (fun i j => decide (j ≤ i)) (fun i j => decide (j ≤ i)) [x0] [y0])) := congrArg rho (wC_geT1)
theorem wC_ltT2 {x0 x1 y0 y1 : Int} {Q : Bool → Prop} : wC .lt (.v (.tup [.int x0, .int x1])) (.v (.tup [.int y0, .int y1])) s Q = Q (ordT (fun i j => decide (i < j)) (fun i j => decide (i < j)) [x0, x1] [y0, y1]) := rfl
@[simp ↓] theorem wC_ltT2_r {x0 x1 y0 y1 : Int} {Q : Bool → Prop} : rho (wC .lt (.v (.tup [.int x0, .int x1])) (.v (.tup [.int y0, .int y1])) s Q) = rho (Q (ordT (fun i j => decide (i < j)) (fun i j => decide (i < j)) [x0, x1] [y0, y1])) := congrArg rho (wC_ltT2)
theorem wC_leT2 {x0 x1 y0 y1 : Int} {Q : Bool → Prop} : wC .le (.v (.tup [.int x0, .int x1])) (.v (.tup [.int y0, .int y1])) s Q = Q (ordT (fun i j => decide (i ≤ j)) (fun i j => decide (i ≤ j)) [x0, x1] [y0, y1]) := rfl
@[simp ↓] theorem wC_leT2_r {x0 x1 y0 y1 : Int} {Q : Bool → Prop} : rho (wC .le (.v (.tup [.int x0, .int x1])) (.v (.tup [.int y0, .int y1])) s Q) = rho (Q (ordT (fun i j => decide (i ≤ j)) (fun i j => decide (i ≤ j)) [x0, x1] [y0, y1])) := congrArg rho (wC_leT2)
theorem wC_gtT2 {x0 x1 y0 y1 : Int} {Q : Bool → Prop} : wC .gt (.v (.tup [.int x0, .int x1])) (.v (.tup [.int y0, .int y1])) s Q = Q (ordT (fun i j => decide (j < i)) (fun i j => decide (j < i)) [x0, x1] [y0, y1]) := rfl
@[simp ↓] theorem wC_gtT2_r {x0 x1 y0 y1 : Int} {Q : Bool → Prop} : rho (wC .gt (.v (.tup [.int x0, .int x1])) (.v (.tup [.int y0, .int y1])) s Q) = rho (Q (ordT (fun i j => decide (j < i)) (fun i j => decide (j < i)) [x0, x1] [y0, y1])) := congrArg rho (wC_gtT2)
theorem wC_geT2 {x0 x1 y0 y1 : Int} {Q : Bool → Prop} : wC .ge (.v (.tup [.int x0, .int x1])) (.v (.tup [.int y0, .int y1])) s Q = Q (ordT (fun i j => decide (j ≤ i)) (fun i j => decide (j ≤ i)) [x0, x1] [y0, y1]) := rfl
@[simp ↓] theorem wC_geT2_r {x0 x1 y0 y1 : Int} {Q : Bool → Prop} : rho (wC .ge (.v (.tup [.int x0, .int x1])) (.v (.tup [.int y0, .int y1])) s Q) = rho (Q (ordT (fun i j => decide (j ≤ i)) (fun i j => decide (j ≤ i)) [x0, x1] [y0, y1])) := congrArg rho (wC_geT2)
theorem wC_ltT3 {x0 x1 x2 y0 y1 y2 : Int} {Q : Bool → Prop} : wC .lt (.v (.tup [.int x0, .int x1, .int x2])) (.v (.tup [.int y0, .int y1, .int y2])) s Q = Q (ordT (fun i j => decide (i < j)) (fun i j => decide (i < j)) [x0, x1, x2] [y0, y1, y2]) := rfl
@[simp ↓] theorem wC_ltT3_r {x0 x1 x2 y0 y1 y2 : Int} {Q : Bool → Prop} : rho (wC .lt (.v (.tup [.int x0, .int x1, .int x2])) (.v (.tup [.int y0, .int y1, .int y2])) s Q) = rho (Q (ordT (fun i j => decide (i < j)) (fun i j => decide (i < j)) [x0, x1, x2] [y0, y1, y2])) := congrArg rho (wC_ltT3)
theorem wC_leT3 {x0 x1 x2 y0 y1 y2 : Int} {Q : Bool → Prop} : wC .le (.v (.tup [.int x0, .int x1, .int x2])) (.v (.tup [.int y0, .int y1, .int y2])) s Q = Q (ordT (fun i j => decide (i ≤ j)) (fun i j => decide (i ≤ j)) [x0, x1, x2] [y0, y1, y2]) := rfl
@[simp ↓] theorem wC_leT3_r {x0 x1 x2 y0 y1 y2 : Int} {Q : Bool → Prop} : rho (wC .le (.v (.tup [.int x0, .int x1, .int x2])) (.v (.tup [.int y0, .int y1, .int y2])) s Q) = rho (Q (ordT (fun i j => decide (i ≤ j)) (fun i j => decide (i ≤ j)) [x0, x1, x2] [y0, y1, y2])) := congrArg rho (wC_leT3)
theorem wC_gtT3 {x0 x1 x2 y0 y1 y2 : Int} {Q : Bool → Prop} : wC .gt (.v (.tup [.int x0, .int x1, .int x2])) (.v (.tup [.int y0, .int y1, .int y2])) s Q = Q (ordT (fun i j => decide (j < i)) (fun i j => decide (j < i)) [x0, x1, x2] [y0, y1, y2]) := rfl
@[simp ↓] theorem wC_gtT3_r {x0 x1 x2 y0 y1 y2 : Int} {Q : Bool → Prop} : rho (wC .gt (.v (.tup [.int x0, .int x1, .int x2])) (.v (.tup [.int y0, .int y1, .int y2])) s Q) = rho (Q (ordT (fun i j => decide (j < i)) (fun i j => decide (j < i)) [x0, x1, x2] [y0, y1, y2])) := congrArg rho (wC_gtT3)
theorem wC_geT3 {x0 x1 x2 y0 y1 y2 : Int} {Q : Bool → Prop} : wC .ge (.v (.tup [.int x0, .int x1, .int x2])) (.v (.tup [.int y0, .int y1, .int y2])) s Q = Q (ordT (fun i j => decide (j ≤ i)) (fun i j => decide (j ≤ i)) [x0, x1, x2] [y0, y1, y2]) := rfl
@[simp ↓] theorem wC_geT3_r {x0 x1 x2 y0 y1 y2 : Int} {Q : Bool → Prop} : rho (wC .ge (.v (.tup [.int x0, .int x1, .int x2])) (.v (.tup [.int y0, .int y1, .int y2])) s Q) = rho (Q (ordT (fun i j => decide (j ≤ i)) (fun i j => decide (j ≤ i)) [x0, x1, x2] [y0, y1, y2])) := congrArg rho (wC_geT3)
theorem wC_ltT4 {x0 x1 x2 x3 y0 y1 y2 y3 : Int} {Q : Bool → Prop} : wC .lt (.v (.tup [.int x0, .int x1, .int x2, .int x3])) (.v (.tup [.int y0, .int y1, .int y2, .int y3])) s Q = Q (ordT (fun i j => decide (i < j)) (fun i j => decide (i < j)) [x0, x1, x2, x3] [y0, y1, y2, y3]) := rfl
@[simp ↓] theorem wC_ltT4_r {x0 x1 x2 x3 y0 y1 y2 y3 : Int} {Q : Bool → Prop} : rho (wC .lt (.v (.tup [.int x0, .int x1, .int x2, .int x3])) (.v (.tup [.int y0, .int y1, .int y2, .int y3])) s Q) = rho (Q (ordT (fun i j => decide (i < j)) (fun i j => decide (i < j)) [x0, x1, x2, x3] [y0, y1, y2, y3])) := congrArg rho (wC_ltT4)
theorem wC_leT4 {x0 x1 x2 x3 y0 y1 y2 y3 : Int} {Q : Bool → Prop} : wC .le (.v (.tup [.int x0, .int x1, .int x2, .int x3])) (.v (.tup [.int y0, .int y1, .int y2, .int y3])) s Q = Q (ordT (fun i j => decide (i ≤ j)) (fun i j => decide (i ≤ j)) [x0, x1, x2, x3] [y0, y1, y2, y3]) := rfl
@[simp ↓] theorem wC_leT4_r {x0 x1 x2 x3 y0 y1 y2 y3 : Int} {Q : Bool → Prop} : rho (wC .le (.v (.tup [.int x0, .int x1, .int x2, .int x3])) (.v (.tup [.int y0, .int y1, .int y2, .int y3])) s Q) = rho (Q (ordT (fun i j => decide (i ≤ j)) (fun i j => decide (i ≤ j)) [x0, x1, x2, x3] [y0, y1, y2, y3])) := congrArg rho (wC_leT4)
theorem wC_gtT4 {x0 x1 x2 x3 y0 y1 y2 y3 : Int} {Q : Bool → Prop} : wC .gt (.v (.tup [.int x0, .int x1, .int x2, .int x3])) (.v (.tup [.int y0, .int y1, .int y2, .int y3])) s Q = Q (ordT (fun i j => decide (j < i)) (fun i j => decide (j < i)) [x0, x1, x2, x3] [y0, y1, y2, y3]) := rfl
@[simp ↓] theorem wC_gtT4_r {x0 x1 x2 x3 y0 y1 y2 y3 : Int} {Q : Bool → Prop} : rho (wC .gt (.v (.tup [.int x0, .int x1, .int x2, .int x3])) (.v (.tup [.int y0, .int y1, .int y2, .int y3])) s Q) = rho (Q (ordT (fun i j => decide (j < i)) (fun i j => decide (j < i)) [x0, x1, x2, x3] [y0, y1, y2, y3])) := congrArg rho (wC_gtT4)
theorem wC_geT4 {x0 x1 x2 x3 y0 y1 y2 y3 : Int} {Q : Bool → Prop} : wC .ge (.v (.tup [.int x0, .int x1, .int x2, .int x3])) (.v (.tup [.int y0, .int y1, .int y2, .int y3])) s Q = Q (ordT (fun i j => decide (j ≤ i)) (fun i j => decide (j ≤ i)) [x0, x1, x2, x3] [y0, y1, y2, y3]) := rfl
@[simp ↓] theorem wC_geT4_r {x0 x1 x2 x3 y0 y1 y2 y3 : Int} {Q : Bool → Prop} : rho (wC .ge (.v (.tup [.int x0, .int x1, .int x2, .int x3])) (.v (.tup [.int y0, .int y1, .int y2, .int y3])) s Q) = rho (Q (ordT (fun i j => decide (j ≤ i)) (fun i j => decide (j ≤ i)) [x0, x1, x2, x3] [y0, y1, y2, y3])) := congrArg rho (wC_geT4)
theorem wC_ltT5 {x0 x1 x2 x3 x4 y0 y1 y2 y3 y4 : Int} {Q : Bool → Prop} : wC .lt (.v (.tup [.int x0, .int x1, .int x2, .int x3, .int x4])) (.v (.tup [.int y0, .int y1, .int y2, .int y3, .int y4])) s Q = Q (ordT (fun i j => decide (i < j)) (fun i j => decide (i < j)) [x0, x1, x2, x3, x4] [y0, y1, y2, y3, y4]) := rfl
@[simp ↓] theorem wC_ltT5_r {x0 x1 x2 x3 x4 y0 y1 y2 y3 y4 : Int} {Q : Bool → Prop} : rho (wC .lt (.v (.tup [.int x0, .int x1, .int x2, .int x3, .int x4])) (.v (.tup [.int y0, .int y1, .int y2, .int y3, .int y4])) s Q) = rho (Q (ordT (fun i j => decide (i < j)) (fun i j => decide (i < j)) [x0, x1, x2, x3, x4] [y0, y1, y2, y3, y4])) := congrArg rho (wC_ltT5)
theorem wC_leT5 {x0 x1 x2 x3 x4 y0 y1 y2 y3 y4 : Int} {Q : Bool → Prop} : wC .le (.v (.tup [.int x0, .int x1, .int x2, .int x3, .int x4])) (.v (.tup [.int y0, .int y1, .int y2, .int y3, .int y4])) s Q = Q (ordT (fun i j => decide (i ≤ j)) (fun i j => decide (i ≤ j)) [x0, x1, x2, x3, x4] [y0, y1, y2, y3, y4]) := rfl
@[simp ↓] theorem wC_leT5_r {x0 x1 x2 x3 x4 y0 y1 y2 y3 y4 : Int} {Q : Bool → Prop} : rho (wC .le (.v (.tup [.int x0, .int x1, .int x2, .int x3, .int x4])) (.v (.tup [.int y0, .int y1, .int y2, .int y3, .int y4])) s Q) = rho (Q (ordT (fun i j => decide (i ≤ j)) (fun i j => decide (i ≤ j)) [x0, x1, x2, x3, x4] [y0, y1, y2, y3, y4])) := congrArg rho (wC_leT5)
theorem wC_gtT5 {x0 x1 x2 x3 x4 y0 y1 y2 y3 y4 : Int} {Q : Bool → Prop} : wC .gt (.v (.tup [.int x0, .int x1, .int x2, .int x3, .int x4])) (.v (.tup [.int y0, .int y1, .int y2, .int y3, .int y4])) s Q = Q (ordT (fun i j => decide (j < i)) (fun i j => decide (j < i)) [x0, x1, x2, x3, x4] [y0, y1, y2, y3, y4]) := rfl
@[simp ↓] theorem wC_gtT5_r {x0 x1 x2 x3 x4 y0 y1 y2 y3 y4 : Int} {Q : Bool → Prop} : rho (wC .gt (.v (.tup [.int x0, .int x1, .int x2, .int x3, .int x4])) (.v (.tup [.int y0, .int y1, .int y2, .int y3, .int y4])) s Q) = rho (Q (ordT (fun i j => decide (j < i)) (fun i j => decide (j < i)) [x0, x1, x2, x3, x4] [y0, y1, y2, y3, y4])) := congrArg rho (wC_gtT5)
theorem wC_geT5 {x0 x1 x2 x3 x4 y0 y1 y2 y3 y4 : Int} {Q : Bool → Prop} : wC .ge (.v (.tup [.int x0, .int x1, .int x2, .int x3, .int x4])) (.v (.tup [.int y0, .int y1, .int y2, .int y3, .int y4])) s Q = Q (ordT (fun i j => decide (j ≤ i)) (fun i j => decide (j ≤ i)) [x0, x1, x2, x3, x4] [y0, y1, y2, y3, y4]) := rfl
@[simp ↓] theorem wC_geT5_r {x0 x1 x2 x3 x4 y0 y1 y2 y3 y4 : Int} {Q : Bool → Prop} : rho (wC .ge (.v (.tup [.int x0, .int x1, .int x2, .int x3, .int x4])) (.v (.tup [.int y0, .int y1, .int y2, .int y3, .int y4])) s Q) = rho (Q (ordT (fun i j => decide (j ≤ i)) (fun i j => decide (j ≤ i)) [x0, x1, x2, x3, x4] [y0, y1, y2, y3, y4])) := congrArg rho (wC_geT5)
theorem ordT_nil {rel : Int → Int → Bool} {z : Nat → Nat → Bool} {l : List Int} : ordT rel z [] l = z 0 l.length := by cases l <;> rfl
theorem ordT_cons {rel : Int → Int → Bool} {z : Nat → Nat → Bool} {x y : Int} {l m : List Int} : ordT rel z (x :: l) (y :: m) = if x = y then ordT rel z l m else rel x y := rfl
theorem wC_is_nn {Q : Bool → Prop} : wC .is (.v .non) (.v .non) s Q = Q true := rfl
@[simp ↓] theorem wC_is_nn_r {Q : Bool → Prop} : rho (wC .is (.v .non) (.v .non) s Q) = rho (Q true) := congrArg rho (wC_is_nn)
theorem wC_isnot_nn {Q : Bool → Prop} : wC .isnot (.v .non) (.v .non) s Q = Q false := rfl
@[simp ↓] theorem wC_isnot_nn_r {Q : Bool → Prop} : rho (wC .isnot (.v .non) (.v .non) s Q) = rho (Q false) := congrArg rho (wC_isnot_nn)
theorem wC_is_t {Q : Bool → Prop} : wC .is (.t ds) (.v .non) s Q = Q false := rfl
@[simp ↓] theorem wC_is_t_r {Q : Bool → Prop} : rho (wC .is (.t ds) (.v .non) s Q) = rho (Q false) := congrArg rho (wC_is_t)
theorem wC_isnot_t {Q : Bool → Prop} : wC .isnot (.t ds) (.v .non) s Q = Q true := rfl
@[simp ↓] theorem wC_isnot_t_r {Q : Bool → Prop} : rho (wC .isnot (.t ds) (.v .non) s Q) = rho (Q true) := congrArg rho (wC_isnot_t)
theorem wIsi_t_int {Q : Bool → Prop} : wIsi (.t ds) [.bi .int] s Q = Q false := rfl
@[simp ↓] theorem wIsi_t_int_r {Q : Bool → Prop} : rho (wIsi (.t ds) [.bi .int] s Q) = rho (Q false) := congrArg rho (wIsi_t_int)
theorem wIsi_t_bool {Q : Bool → Prop} : wIsi (.t ds) [.bi .bool] s Q = Q false := rfl
@[simp ↓] theorem wIsi_t_bool_r {Q : Bool → Prop} : rho (wIsi (.t ds) [.bi .bool] s Q) = rho (Q false) := congrArg rho (wIsi_t_bool)
theorem wIsi_t_str {Q : Bool → Prop} : wIsi (.t ds) [.bi .str] s Q = Q false := rfl
@[simp ↓] theorem wIsi_t_str_r {Q : Bool → Prop} : rho (wIsi (.t ds) [.bi .str] s Q) = rho (Q false) := congrArg rho (wIsi_t_str)
theorem wIsi_t_list {Q : Bool → Prop} : wIsi (.t ds) [.bi .list] s Q = Q true := rfl
@[simp ↓] theorem wIsi_t_list_r {Q : Bool → Prop} : rho (wIsi (.t ds) [.bi .list] s Q) = rho (Q true) := congrArg rho (wIsi_t_list)
theorem wIsi_t_tuple {Q : Bool → Prop} : wIsi (.t ds) [.bi .tuple] s Q = Q false := rfl
@[simp ↓] theorem wIsi_t_tuple_r {Q : Bool → Prop} : rho (wIsi (.t ds) [.bi .tuple] s Q) = rho (Q false) := congrArg rho (wIsi_t_tuple)
theorem wIsi_t_dict {Q : Bool → Prop} : wIsi (.t ds) [.bi .dict] s Q = Q false := rfl
@[simp ↓] theorem wIsi_t_dict_r {Q : Bool → Prop} : rho (wIsi (.t ds) [.bi .dict] s Q) = rho (Q false) := congrArg rho (wIsi_t_dict)
theorem wIsi_non_int {Q : Bool → Prop} : wIsi (.v .non) [.bi .int] s Q = Q false := rfl
@[simp ↓] theorem wIsi_non_int_r {Q : Bool → Prop} : rho (wIsi (.v .non) [.bi .int] s Q) = rho (Q false) := congrArg rho (wIsi_non_int)
theorem wIsi_non_bool {Q : Bool → Prop} : wIsi (.v .non) [.bi .bool] s Q = Q false := rfl
@[simp ↓] theorem wIsi_non_bool_r {Q : Bool → Prop} : rho (wIsi (.v .non) [.bi .bool] s Q) = rho (Q false) := congrArg rho (wIsi_non_bool)
theorem wIsi_non_str {Q : Bool → Prop} : wIsi (.v .non) [.bi .str] s Q = Q false := rfl
@[simp ↓] theorem wIsi_non_str_r {Q : Bool → Prop} : rho (wIsi (.v .non) [.bi .str] s Q) = rho (Q false) := congrArg rho (wIsi_non_str)
theorem wIsi_non_list {Q : Bool → Prop} : wIsi (.v .non) [.bi .list] s Q = Q false := rfl
@[simp ↓] theorem wIsi_non_list_r {Q : Bool → Prop} : rho (wIsi (.v .non) [.bi .list] s Q) = rho (Q false) := congrArg rho (wIsi_non_list)
theorem wIsi_non_tuple {Q : Bool → Prop} : wIsi (.v .non) [.bi .tuple] s Q = Q false := rfl
@[simp ↓] theorem wIsi_non_tuple_r {Q : Bool → Prop} : rho (wIsi (.v .non) [.bi .tuple] s Q) = rho (Q false) := congrArg rho (wIsi_non_tuple)
theorem wIsi_non_dict {Q : Bool → Prop} : wIsi (.v .non) [.bi .dict] s Q = Q false := rfl
@[simp ↓] theorem wIsi_non_dict_r {Q : Bool → Prop} : rho (wIsi (.v .non) [.bi .dict] s Q) = rho (Q false) := congrArg rho (wIsi_non_dict)
theorem wC_is_bl {k : Bool} {Q : Bool → Prop} : wC .is (.v (.bl k)) (.v .non) s Q = Q false := rfl
@[simp ↓] theorem wC_is_bl_r {k : Bool} {Q : Bool → Prop} : rho (wC .is (.v (.bl k)) (.v .non) s Q) = rho (Q false) := congrArg rho (wC_is_bl)
theorem wC_isnot_bl {k : Bool} {Q : Bool → Prop} : wC .isnot (.v (.bl k)) (.v .non) s Q = Q true := rfl
@[simp ↓] theorem wC_isnot_bl_r {k : Bool} {Q : Bool → Prop} : rho (wC .isnot (.v (.bl k)) (.v .non) s Q) = rho (Q true) := congrArg rho (wC_isnot_bl)
theorem wIsi_bl_int {k : Bool} {Q : Bool → Prop} : wIsi (.v (.bl k)) [.bi .int] s Q = Q true := rfl
@[simp ↓] theorem wIsi_bl_int_r {k : Bool} {Q : Bool → Prop} : rho (wIsi (.v (.bl k)) [.bi .int] s Q) = rho (Q true) := congrArg rho (wIsi_bl_int)
theorem wIsi_bl_bool {k : Bool} {Q : Bool → Prop} : wIsi (.v (.bl k)) [.bi .bool] s Q = Q true := rfl
@[simp ↓] theorem wIsi_bl_bool_r {k : Bool} {Q : Bool → Prop} : rho (wIsi (.v (.bl k)) [.bi .bool] s Q) = rho (Q true) := congrArg rho (wIsi_bl_bool)
theorem wIsi_bl_str {k : Bool} {Q : Bool → Prop} : wIsi (.v (.bl k)) [.bi .str] s Q = Q false := rfl
@[simp ↓] theorem wIsi_bl_str_r {k : Bool} {Q : Bool → Prop} : rho (wIsi (.v (.bl k)) [.bi .str] s Q) = rho (Q false) := congrArg rho (wIsi_bl_str)
theorem wIsi_bl_list {k : Bool} {Q : Bool → Prop} : wIsi (.v (.bl k)) [.bi .list] s Q = Q false := rfl
@[simp ↓] theorem wIsi_bl_list_r {k : Bool} {Q : Bool → Prop} : rho (wIsi (.v (.bl k)) [.bi .list] s Q) = rho (Q false) := congrArg rho (wIsi_bl_list)
theorem wIsi_bl_tuple {k : Bool} {Q : Bool → Prop} : wIsi (.v (.bl k)) [.bi .tuple] s Q = Q false := rfl
@[simp ↓] theorem wIsi_bl_tuple_r {k : Bool} {Q : Bool → Prop} : rho (wIsi (.v (.bl k)) [.bi .tuple] s Q) = rho (Q false) := congrArg rho (wIsi_bl_tuple)
theorem wIsi_bl_dict {k : Bool} {Q : Bool → Prop} : wIsi (.v (.bl k)) [.bi .dict] s Q = Q false := rfl
@[simp ↓] theorem wIsi_bl_dict_r {k : Bool} {Q : Bool → Prop} : rho (wIsi (.v (.bl k)) [.bi .dict] s Q) = rho (Q false) := congrArg rho (wIsi_bl_dict)
theorem wC_is_int {Q : Bool → Prop} : wC .is (.v (.int i)) (.v .non) s Q = Q false := rfl
@[simp ↓] theorem wC_is_int_r {Q : Bool → Prop} : rho (wC .is (.v (.int i)) (.v .non) s Q) = rho (Q false) := congrArg rho (wC_is_int)
theorem wC_isnot_int {Q : Bool → Prop} : wC .isnot (.v (.int i)) (.v .non) s Q = Q true := rfl
@[simp ↓] theorem wC_isnot_int_r {Q : Bool → Prop} : rho (wC .isnot (.v (.int i)) (.v .non) s Q) = rho (Q true) := congrArg rho (wC_isnot_int)
theorem wIsi_int_int {Q : Bool → Prop} : wIsi (.v (.int i)) [.bi .int] s Q = Q true := rfl
@[simp ↓] theorem wIsi_int_int_r {Q : Bool → Prop} : rho (wIsi (.v (.int i)) [.bi .int] s Q) = rho (Q true) := congrArg rho (wIsi_int_int)
theorem wIsi_int_bool {Q : Bool → Prop} : wIsi (.v (.int i)) [.bi .bool] s Q = Q false := rfl
@[simp ↓] theorem wIsi_int_bool_r {Q : Bool → Prop} : rho (wIsi (.v (.int i)) [.bi .bool] s Q) = rho (Q false) := congrArg rho (wIsi_int_bool)
theorem wIsi_int_str {Q : Bool → Prop} : wIsi (.v (.int i)) [.bi .str] s Q = Q false := rfl
@[simp ↓] theorem wIsi_int_str_r {Q : Bool → Prop} : rho (wIsi (.v (.int i)) [.bi .str] s Q) = rho (Q false) := congrArg rho (wIsi_int_str)
theorem wIsi_int_list {Q : Bool → Prop} : wIsi (.v (.int i)) [.bi .list] s Q = Q false := rfl
@[simp ↓] theorem wIsi_int_list_r {Q : Bool → Prop} : rho (wIsi (.v (.int i)) [.bi .list] s Q) = rho (Q false) := congrArg rho (wIsi_int_list)
theorem wIsi_int_tuple {Q : Bool → Prop} : wIsi (.v (.int i)) [.bi .tuple] s Q = Q false := rfl
@[simp ↓] theorem wIsi_int_tuple_r {Q : Bool → Prop} : rho (wIsi (.v (.int i)) [.bi .tuple] s Q) = rho (Q false) := congrArg rho (wIsi_int_tuple)
theorem wIsi_int_dict {Q : Bool → Prop} : wIsi (.v (.int i)) [.bi .dict] s Q = Q false := rfl
@[simp ↓] theorem wIsi_int_dict_r {Q : Bool → Prop} : rho (wIsi (.v (.int i)) [.bi .dict] s Q) = rho (Q false) := congrArg rho (wIsi_int_dict)
theorem wC_is_str {x : Str} {Q : Bool → Prop} : wC .is (.v (.str x)) (.v .non) s Q = Q false := rfl
@[simp ↓] theorem wC_is_str_r {x : Str} {Q : Bool → Prop} : rho (wC .is (.v (.str x)) (.v .non) s Q) = rho (Q false) := congrArg rho (wC_is_str)
theorem wC_isnot_str {x : Str} {Q : Bool → Prop} : wC .isnot (.v (.str x)) (.v .non) s Q = Q true := rfl
@[simp ↓] theorem wC_isnot_str_r {x : Str} {Q : Bool → Prop} : rho (wC .isnot (.v (.str x)) (.v .non) s Q) = rho (Q true) := congrArg rho (wC_isnot_str)
theorem wIsi_str_int {x : Str} {Q : Bool → Prop} : wIsi (.v (.str x)) [.bi .int] s Q = Q false := rfl
@[simp ↓] theorem wIsi_str_int_r {x : Str} {Q : Bool → Prop} : rho (wIsi (.v (.str x)) [.bi .int] s Q) = rho (Q false) := congrArg rho (wIsi_str_int)
theorem wIsi_str_bool {x : Str} {Q : Bool → Prop} : wIsi (.v (.str x)) [.bi .bool] s Q = Q false := rfl
@[simp ↓] theorem wIsi_str_bool_r {x : Str} {Q : Bool → Prop} : rho (wIsi (.v (.str x)) [.bi .bool] s Q) = rho (Q false) := congrArg rho (wIsi_str_bool)
theorem wIsi_str_str {x : Str} {Q : Bool → Prop} : wIsi (.v (.str x)) [.bi .str] s Q = Q true := rfl
@[simp ↓] theorem wIsi_str_str_r {x : Str} {Q : Bool → Prop} : rho (wIsi (.v (.str x)) [.bi .str] s Q) = rho (Q true) := congrArg rho (wIsi_str_str)
theorem wIsi_str_list {x : Str} {Q : Bool → Prop} : wIsi (.v (.str x)) [.bi .list] s Q = Q false := rfl
@[simp ↓] theorem wIsi_str_list_r {x : Str} {Q : Bool → Prop} : rho (wIsi (.v (.str x)) [.bi .list] s Q) = rho (Q false) := congrArg rho (wIsi_str_list)
theorem wIsi_str_tuple {x : Str} {Q : Bool → Prop} : wIsi (.v (.str x)) [.bi .tuple] s Q = Q false := rfl
@[simp ↓] theorem wIsi_str_tuple_r {x : Str} {Q : Bool → Prop} : rho (wIsi (.v (.str x)) [.bi .tuple] s Q) = rho (Q false) := congrArg rho (wIsi_str_tuple)
theorem wIsi_str_dict {x : Str} {Q : Bool → Prop} : wIsi (.v (.str x)) [.bi .dict] s Q = Q false := rfl
@[simp ↓] theorem wIsi_str_dict_r {x : Str} {Q : Bool → Prop} : rho (wIsi (.v (.str x)) [.bi .dict] s Q) = rho (Q false) := congrArg rho (wIsi_str_dict)
theorem wC_is_tup {Q : Bool → Prop} : wC .is (.v (.tup ds)) (.v .non) s Q = Q false := rfl
@[simp ↓] theorem wC_is_tup_r {Q : Bool → Prop} : rho (wC .is (.v (.tup ds)) (.v .non) s Q) = rho (Q false) := congrArg rho (wC_is_tup)
theorem wC_isnot_tup {Q : Bool → Prop} : wC .isnot (.v (.tup ds)) (.v .non) s Q = Q true := rfl
@[simp ↓] theorem wC_isnot_tup_r {Q : Bool → Prop} : rho (wC .isnot (.v (.tup ds)) (.v .non) s Q) = rho (Q true) := congrArg rho (wC_isnot_tup)
theorem wIsi_tup_int {Q : Bool → Prop} : wIsi (.v (.tup ds)) [.bi .int] s Q = Q false := rfl
@[simp ↓] theorem wIsi_tup_int_r {Q : Bool → Prop} : rho (wIsi (.v (.tup ds)) [.bi .int] s Q) = rho (Q false) := congrArg rho (wIsi_tup_int)
theorem wIsi_tup_bool {Q : Bool → Prop} : wIsi (.v (.tup ds)) [.bi .bool] s Q = Q false := rfl
@[simp ↓] theorem wIsi_tup_bool_r {Q : Bool → Prop} : rho (wIsi (.v (.tup ds)) [.bi .bool] s Q) = rho (Q false) := congrArg rho (wIsi_tup_bool)
theorem wIsi_tup_str {Q : Bool → Prop} : wIsi (.v (.tup ds)) [.bi .str] s Q = Q false := rfl
@[simp ↓] theorem wIsi_tup_str_r {Q : Bool → Prop} : rho (wIsi (.v (.tup ds)) [.bi .str] s Q) = rho (Q false) := congrArg rho (wIsi_tup_str)
theorem wIsi_tup_list {Q : Bool → Prop} : wIsi (.v (.tup ds)) [.bi .list] s Q = Q false := rfl
@[simp ↓] theorem wIsi_tup_list_r {Q : Bool → Prop} : rho (wIsi (.v (.tup ds)) [.bi .list] s Q) = rho (Q false) := congrArg rho (wIsi_tup_list)
theorem wIsi_tup_tuple {Q : Bool → Prop} : wIsi (.v (.tup ds)) [.bi .tuple] s Q = Q true := rfl
@[simp ↓] theorem wIsi_tup_tuple_r {Q : Bool → Prop} : rho (wIsi (.v (.tup ds)) [.bi .tuple] s Q) = rho (Q true) := congrArg rho (wIsi_tup_tuple)
theorem wIsi_tup_dict {Q : Bool → Prop} : wIsi (.v (.tup ds)) [.bi .dict] s Q = Q false := rfl
@[simp ↓] theorem wIsi_tup_dict_r {Q : Bool → Prop} : rho (wIsi (.v (.tup ds)) [.bi .dict] s Q) = rho (Q false) := congrArg rho (wIsi_tup_dict)
theorem wC_is_ro {Q : Bool → Prop} : wC .is (.v (.ro ds)) (.v .non) s Q = Q false := rfl
@[simp ↓] theorem wC_is_ro_r {Q : Bool → Prop} : rho (wC .is (.v (.ro ds)) (.v .non) s Q) = rho (Q false) := congrArg rho (wC_is_ro)
theorem wC_isnot_ro {Q : Bool → Prop} : wC .isnot (.v (.ro ds)) (.v .non) s Q = Q true := rfl
@[simp ↓] theorem wC_isnot_ro_r {Q : Bool → Prop} : rho (wC .isnot (.v (.ro ds)) (.v .non) s Q) = rho (Q true) := congrArg rho (wC_isnot_ro)
theorem wIsi_ro_int {Q : Bool → Prop} : wIsi (.v (.ro ds)) [.bi .int] s Q = Q false := rfl
@[simp ↓] theorem wIsi_ro_int_r {Q : Bool → Prop} : rho (wIsi (.v (.ro ds)) [.bi .int] s Q) = rho (Q false) := congrArg rho (wIsi_ro_int)
theorem wIsi_ro_bool {Q : Bool → Prop} : wIsi (.v (.ro ds)) [.bi .bool] s Q = Q false := rfl
@[simp ↓] theorem wIsi_ro_bool_r {Q : Bool → Prop} : rho (wIsi (.v (.ro ds)) [.bi .bool] s Q) = rho (Q false) := congrArg rho (wIsi_ro_bool)
theorem wIsi_ro_str {Q : Bool → Prop} : wIsi (.v (.ro ds)) [.bi .str] s Q = Q false := rfl
@[simp ↓] theorem wIsi_ro_str_r {Q : Bool → Prop} : rho (wIsi (.v (.ro ds)) [.bi .str] s Q) = rho (Q false) := congrArg rho (wIsi_ro_str)
theorem wIsi_ro_list {Q : Bool → Prop} : wIsi (.v (.ro ds)) [.bi .list] s Q = Q true := rfl
@[simp ↓] theorem wIsi_ro_list_r {Q : Bool → Prop} : rho (wIsi (.v (.ro ds)) [.bi .list] s Q) = rho (Q true) := congrArg rho (wIsi_ro_list)
theorem wIsi_ro_tuple {Q : Bool → Prop} : wIsi (.v (.ro ds)) [.bi .tuple] s Q = Q false := rfl
@[simp ↓] theorem wIsi_ro_tuple_r {Q : Bool → Prop} : rho (wIsi (.v (.ro ds)) [.bi .tuple] s Q) = rho (Q false) := congrArg rho (wIsi_ro_tuple)
theorem wIsi_ro_dict {Q : Bool → Prop} : wIsi (.v (.ro ds)) [.bi .dict] s Q = Q false := rfl
@[simp ↓] theorem wIsi_ro_dict_r {Q : Bool → Prop} : rho (wIsi (.v (.ro ds)) [.bi .dict] s Q) = rho (Q false) := congrArg rho (wIsi_ro_dict)
theorem wC_is_ref {Q : Bool → Prop} : wC .is (.v (.ref n)) (.v .non) s Q = Q false := rfl
@[simp ↓] theorem wC_is_ref_r {Q : Bool → Prop} : rho (wC .is (.v (.ref n)) (.v .non) s Q) = rho (Q false) := congrArg rho (wC_is_ref)
theorem wC_isnot_ref {Q : Bool → Prop} : wC .isnot (.v (.ref n)) (.v .non) s Q = Q true := rfl
@[simp ↓] theorem wC_isnot_ref_r {Q : Bool → Prop} : rho (wC .isnot (.v (.ref n)) (.v .non) s Q) = rho (Q true) := congrArg rho (wC_isnot_ref)
theorem wBi_len_t {Q : Ev → Prop} : wBi .len [.t ds] s Q = Q (.v (.int ds.length)) := rfl
@[simp ↓] theorem wBi_len_t_r {Q : Ev → Prop} : rho (wBi .len [.t ds] s Q) = rho (Q (.v (.int ds.length))) := congrArg rho (wBi_len_t)
theorem wBi_len_tup {Q : Ev → Prop} : wBi .len [.v (.tup ds)] s Q = Q (.v (.int ds.length)) := rfl
@[simp ↓] theorem wBi_len_tup_r {Q : Ev → Prop} : rho (wBi .len [.v (.tup ds)] s Q) = rho (Q (.v (.int ds.length))) := congrArg rho (wBi_len_tup)
theorem wBi_len_ro {Q : Ev → Prop} : wBi .len [.v (.ro ds)] s Q = Q (.v (.int ds.length)) := rfl
@[simp ↓] theorem wBi_len_ro_r {Q : Ev → Prop} : rho (wBi .len [.v (.ro ds)] s Q) = rho (Q (.v (.int ds.length))) := congrArg rho (wBi_len_ro)
theorem wBi_len_ref {Q : Ev → Prop} : wBi .len [.v (.ref n)] s Q = wGet s n fun ds => Q (.v (.int ds.length)) := by
  show wOf ((match s[n]? with | some (.lst ds) => some ds | _ => none : Option (List D)).map _) Q = (match s[n]? with | some (.lst ds) => _ | _ => _)
  cases s[n]? with
  | none => rfl
  | some cc => cases cc <;> rfl
@[simp ↓] theorem wBi_len_ref_r {Q : Ev → Prop} : rho (wBi .len [.v (.ref n)] s Q) = rho (wGet s n fun ds => Q (.v (.int ds.length))) := congrArg rho (wBi_len_ref)
theorem wBi_int_int {Q : Ev → Prop} : wBi .int [.v (.int i)] s Q = Q (.v (.int i)) := rfl
@[simp ↓] theorem wBi_int_int_r {Q : Ev → Prop} : rho (wBi .int [.v (.int i)] s Q) = rho (Q (.v (.int i))) := congrArg rho (wBi_int_int)
theorem wBi_int_bl {k : Bool} {Q : Ev → Prop} : wBi .int [.v (.bl k)] s Q = Q (.v (.int (if k = true then 1 else 0))) := rfl
@[simp ↓] theorem wBi_int_bl_r {k : Bool} {Q : Ev → Prop} : rho (wBi .int [.v (.bl k)] s Q) = rho (Q (.v (.int (if k = true then 1 else 0)))) := congrArg rho (wBi_int_bl)
theorem wBi_max {Q : Ev → Prop} : wBi .max [.v (.int i), .v (.int j)] s Q = Q (.v (.int (max i j))) := by
  show Q (.v (.int (if j > i then j else i))) = _
  rw [show (if j > i then j else i) = max i j by omega]
@[simp ↓] theorem wBi_max_r {Q : Ev → Prop} : rho (wBi .max [.v (.int i), .v (.int j)] s Q) = rho (Q (.v (.int (max i j)))) := congrArg rho (wBi_max)
theorem wBi_min {Q : Ev → Prop} : wBi .min [.v (.int i), .v (.int j)] s Q = Q (.v (.int (min i j))) := by
  show Q (.v (.int (if j < i then j else i))) = _
  rw [show (if j < i then j else i) = min i j by omega]
@[simp ↓] theorem wBi_min_r {Q : Ev → Prop} : rho (wBi .min [.v (.int i), .v (.int j)] s Q) = rho (Q (.v (.int (min i j)))) := congrArg rho (wBi_min)
theorem wBi_dm {Q : Ev → Prop} (h : 0 < j ∧ j < 1073741824) : wBi .divmod [.v (.int i), .v (.int j)] s Q = Q (.v (.tup [.int (i / j), .int (i % j)])) := by
  show wOf (if 0 < j ∧ j < 1073741824 then _ else _) Q = _
  rw [if_pos h]; rfl
@[simp ↓] theorem wBi_dm_r {Q : Ev → Prop} (h : 0 < j ∧ j < 1073741824) : rho (wBi .divmod [.v (.int i), .v (.int j)] s Q) = rho (Q (.v (.tup [.int (i / j), .int (i % j)]))) := congrArg rho (wBi_dm h)
theorem wBi_list_t {Q : Ev → Prop} : wBi .list [.t ds] s Q = Q (.t ds) := rfl
@[simp ↓] theorem wBi_list_t_r {Q : Ev → Prop} : rho (wBi .list [.t ds] s Q) = rho (Q (.t ds)) := congrArg rho (wBi_list_t)
theorem wBi_list_tup {Q : Ev → Prop} : wBi .list [.v (.tup ds)] s Q = Q (.t ds) := rfl
@[simp ↓] theorem wBi_list_tup_r {Q : Ev → Prop} : rho (wBi .list [.v (.tup ds)] s Q) = rho (Q (.t ds)) := congrArg rho (wBi_list_tup)
theorem wBi_list_ro {Q : Ev → Prop} : wBi .list [.v (.ro ds)] s Q = Q (.t ds) := rfl
@[simp ↓] theorem wBi_list_ro_r {Q : Ev → Prop} : rho (wBi .list [.v (.ro ds)] s Q) = rho (Q (.t ds)) := congrArg rho (wBi_list_ro)
theorem wBi_list_ref {Q : Ev → Prop} : wBi .list [.v (.ref n)] s Q = wGet s n fun ds => Q (.t ds) := by
  show wOf ((match s[n]? with | some (.lst ds) => some ds | _ => none : Option (List D)).map _) Q = (match s[n]? with | some (.lst ds) => _ | _ => _)
  cases s[n]? with
  | none => rfl
  | some cc => cases cc <;> rfl

@[simp ↓] theorem wBi_list_ref_r {Q : Ev → Prop} : rho (wBi .list [.v (.ref n)] s Q) = rho (wGet s n fun ds => Q (.t ds)) := congrArg rho (wBi_list_ref)
theorem wT_and {Q : Bool → Store → Prop} : wT P go (.and a b) env st Q X = wT P go a env st (fun k s => if k = true then wT P go b env s Q X else Q false s) X := by
  unfold wT; conv => lhs; unfold evT
  rw [RX_bind]; congr; funext k s; cases k <;> rfl
@[simp ↓] theorem wT_and_r {Q : Bool → Store → Prop} : rho (wT P go (.and a b) env st Q X) = rho (wT P go a env st (fun k s => if k = true then wT P go b env s Q X else Q false s) X) := congrArg rho (wT_and)
theorem wT_or {Q : Bool → Store → Prop} : wT P go (.or a b) env st Q X = wT P go a env st (fun k s => if k = true then Q true s else wT P go b env s Q X) X := by
  unfold wT; conv => lhs; unfold evT
  rw [RX_bind]; congr; funext k s; cases k <;> rfl
@[simp ↓] theorem wT_or_r {Q : Bool → Store → Prop} : rho (wT P go (.or a b) env st Q X) = rho (wT P go a env st (fun k s => if k = true then Q true s else wT P go b env s Q X) X) := congrArg rho (wT_or)
theorem wT_not {Q : Bool → Store → Prop} : wT P go (.not a) env st Q X = wT P go a env st (fun k s => Q (!k) s) X := by
  unfold wT; conv => lhs; unfold evT
  rw [RX_bind]; rfl
@[simp ↓] theorem wT_not_r {Q : Bool → Store → Prop} : rho (wT P go (.not a) env st Q X) = rho (wT P go a env st (fun k s => Q (!k) s) X) := congrArg rho (wT_not)
theorem wT_int {Q : Bool → Store → Prop} : wT P go (.int i) env st Q X = wE P go (.int i) env st (fun x s => wTr x s fun k => Q k s) X := by
  unfold wT wE; conv => lhs; unfold evT
  rw [RX_bind]; congr; funext x s; unfold wTr; cases truD x s <;> rfl
@[simp ↓] theorem wT_int_r {Q : Bool → Store → Prop} : rho (wT P go (.int i) env st Q X) = rho (wE P go (.int i) env st (fun x s => wTr x s fun k => Q k s) X) := congrArg rho (wT_int)
theorem wT_bl {k : Bool} {Q : Bool → Store → Prop} : wT P go (.bl k) env st Q X = wE P go (.bl k) env st (fun x s => wTr x s fun k => Q k s) X := by
  unfold wT wE; conv => lhs; unfold evT
  rw [RX_bind]; congr; funext x s; unfold wTr; cases truD x s <;> rfl
@[simp ↓] theorem wT_bl_r {k : Bool} {Q : Bool → Store → Prop} : rho (wT P go (.bl k) env st Q X) = rho (wE P go (.bl k) env st (fun x s => wTr x s fun k => Q k s) X) := congrArg rho (wT_bl)
theorem wT_non {Q : Bool → Store → Prop} : wT P go .non env st Q X = wE P go .non env st (fun x s => wTr x s fun k => Q k s) X := by
  unfold wT wE; conv => lhs; unfold evT
  rw [RX_bind]; congr; funext x s; unfold wTr; cases truD x s <;> rfl
@[simp ↓] theorem wT_non_r {Q : Bool → Store → Prop} : rho (wT P go .non env st Q X) = rho (wE P go .non env st (fun x s => wTr x s fun k => Q k s) X) := congrArg rho (wT_non)
theorem wT_str {x : Str} {Q : Bool → Store → Prop} : wT P go (.str x) env st Q X = wE P go (.str x) env st (fun x s => wTr x s fun k => Q k s) X := by
  unfold wT wE; conv => lhs; unfold evT
  rw [RX_bind]; congr; funext x s; unfold wTr; cases truD x s <;> rfl
@[simp ↓] theorem wT_str_r {x : Str} {Q : Bool → Store → Prop} : rho (wT P go (.str x) env st Q X) = rho (wE P go (.str x) env st (fun x s => wTr x s fun k => Q k s) X) := congrArg rho (wT_str)
theorem wT_loc {Q : Bool → Store → Prop} : wT P go (.loc n) env st Q X = wE P go (.loc n) env st (fun x s => wTr x s fun k => Q k s) X := by
  unfold wT wE; conv => lhs; unfold evT
  rw [RX_bind]; congr; funext x s; unfold wTr; cases truD x s <;> rfl
@[simp ↓] theorem wT_loc_r {Q : Bool → Store → Prop} : rho (wT P go (.loc n) env st Q X) = rho (wE P go (.loc n) env st (fun x s => wTr x s fun k => Q k s) X) := congrArg rho (wT_loc)
theorem wT_glo {x : Str} {Q : Bool → Store → Prop} : wT P go (.glo x) env st Q X = wE P go (.glo x) env st (fun x s => wTr x s fun k => Q k s) X := by
  unfold wT wE; conv => lhs; unfold evT
  rw [RX_bind]; congr; funext x s; unfold wTr; cases truD x s <;> rfl
@[simp ↓] theorem wT_glo_r {x : Str} {Q : Bool → Store → Prop} : rho (wT P go (.glo x) env st Q X) = rho (wE P go (.glo x) env st (fun x s => wTr x s fun k => Q k s) X) := congrArg rho (wT_glo)
theorem wT_bin {op : BOp} {Q : Bool → Store → Prop} : wT P go (.bin op a b) env st Q X = wE P go (.bin op a b) env st (fun x s => wTr x s fun k => Q k s) X := by
  unfold wT wE; conv => lhs; unfold evT
  rw [RX_bind]; congr; funext x s; unfold wTr; cases truD x s <;> rfl
@[simp ↓] theorem wT_bin_r {op : BOp} {Q : Bool → Store → Prop} : rho (wT P go (.bin op a b) env st Q X) = rho (wE P go (.bin op a b) env st (fun x s => wTr x s fun k => Q k s) X) := congrArg rho (wT_bin)
theorem wT_neg {Q : Bool → Store → Prop} : wT P go (.neg a) env st Q X = wE P go (.neg a) env st (fun x s => wTr x s fun k => Q k s) X := by
  unfold wT wE; conv => lhs; unfold evT
  rw [RX_bind]; congr; funext x s; unfold wTr; cases truD x s <;> rfl
@[simp ↓] theorem wT_neg_r {Q : Bool → Store → Prop} : rho (wT P go (.neg a) env st Q X) = rho (wE P go (.neg a) env st (fun x s => wTr x s fun k => Q k s) X) := congrArg rho (wT_neg)
theorem wT_cmp {op : COp} {Q : Bool → Store → Prop} : wT P go (.cmp op a b) env st Q X = wE P go (.cmp op a b) env st (fun x s => wTr x s fun k => Q k s) X := by
  unfold wT wE; conv => lhs; unfold evT
  rw [RX_bind]; congr; funext x s; unfold wTr; cases truD x s <;> rfl
@[simp ↓] theorem wT_cmp_r {op : COp} {Q : Bool → Store → Prop} : rho (wT P go (.cmp op a b) env st Q X) = rho (wE P go (.cmp op a b) env st (fun x s => wTr x s fun k => Q k s) X) := congrArg rho (wT_cmp)
theorem wT_chain {o1 o2 : COp} {Q : Bool → Store → Prop} : wT P go (.chain o1 o2 a b c) env st Q X = wE P go (.chain o1 o2 a b c) env st (fun x s => wTr x s fun k => Q k s) X := by
  unfold wT wE; conv => lhs; unfold evT
  rw [RX_bind]; congr; funext x s; unfold wTr; cases truD x s <;> rfl
@[simp ↓] theorem wT_chain_r {o1 o2 : COp} {Q : Bool → Store → Prop} : rho (wT P go (.chain o1 o2 a b c) env st Q X) = rho (wE P go (.chain o1 o2 a b c) env st (fun x s => wTr x s fun k => Q k s) X) := congrArg rho (wT_chain)
theorem wT_tup {Q : Bool → Store → Prop} : wT P go (.tup es) env st Q X = wE P go (.tup es) env st (fun x s => wTr x s fun k => Q k s) X := by
  unfold wT wE; conv => lhs; unfold evT
  rw [RX_bind]; congr; funext x s; unfold wTr; cases truD x s <;> rfl
@[simp ↓] theorem wT_tup_r {Q : Bool → Store → Prop} : rho (wT P go (.tup es) env st Q X) = rho (wE P go (.tup es) env st (fun x s => wTr x s fun k => Q k s) X) := congrArg rho (wT_tup)
theorem wT_lst {Q : Bool → Store → Prop} : wT P go (.lst es) env st Q X = wE P go (.lst es) env st (fun x s => wTr x s fun k => Q k s) X := by
  unfold wT wE; conv => lhs; unfold evT
  rw [RX_bind]; congr; funext x s; unfold wTr; cases truD x s <;> rfl
@[simp ↓] theorem wT_lst_r {Q : Bool → Store → Prop} : rho (wT P go (.lst es) env st Q X) = rho (wE P go (.lst es) env st (fun x s => wTr x s fun k => Q k s) X) := congrArg rho (wT_lst)
theorem wT_idx {Q : Bool → Store → Prop} : wT P go (.idx a b) env st Q X = wE P go (.idx a b) env st (fun x s => wTr x s fun k => Q k s) X := by
  unfold wT wE; conv => lhs; unfold evT
  rw [RX_bind]; congr; funext x s; unfold wTr; cases truD x s <;> rfl
@[simp ↓] theorem wT_idx_r {Q : Bool → Store → Prop} : rho (wT P go (.idx a b) env st Q X) = rho (wE P go (.idx a b) env st (fun x s => wTr x s fun k => Q k s) X) := congrArg rho (wT_idx)
theorem wT_sl {lo hi : Option E} {Q : Bool → Store → Prop} : wT P go (.sl a lo hi) env st Q X = wE P go (.sl a lo hi) env st (fun x s => wTr x s fun k => Q k s) X := by
  unfold wT wE; conv => lhs; unfold evT
  rw [RX_bind]; congr; funext x s; unfold wTr; cases truD x s <;> rfl
@[simp ↓] theorem wT_sl_r {lo hi : Option E} {Q : Bool → Store → Prop} : rho (wT P go (.sl a lo hi) env st Q X) = rho (wE P go (.sl a lo hi) env st (fun x s => wTr x s fun k => Q k s) X) := congrArg rho (wT_sl)
theorem wT_bi {k : BI} {Q : Bool → Store → Prop} : wT P go (.bi k es) env st Q X = wE P go (.bi k es) env st (fun x s => wTr x s fun k => Q k s) X := by
  unfold wT wE; conv => lhs; unfold evT
  rw [RX_bind]; congr; funext x s; unfold wTr; cases truD x s <;> rfl
@[simp ↓] theorem wT_bi_r {k : BI} {Q : Bool → Store → Prop} : rho (wT P go (.bi k es) env st Q X) = rho (wE P go (.bi k es) env st (fun x s => wTr x s fun k => Q k s) X) := congrArg rho (wT_bi)
theorem wT_isi {ts : List Ty} {o : Bool} {Q : Bool → Store → Prop} : wT P go (.isi a ts o) env st Q X = wE P go (.isi a ts o) env st (fun x s => wTr x s fun k => Q k s) X := by
  unfold wT wE; conv => lhs; unfold evT
  rw [RX_bind]; congr; funext x s; unfold wTr; cases truD x s <;> rfl
@[simp ↓] theorem wT_isi_r {ts : List Ty} {o : Bool} {Q : Bool → Store → Prop} : rho (wT P go (.isi a ts o) env st Q X) = rho (wE P go (.isi a ts o) env st (fun x s => wTr x s fun k => Q k s) X) := congrArg rho (wT_isi)
theorem wT_call {x : Str} {Q : Bool → Store → Prop} : wT P go (.call x es) env st Q X = wE P go (.call x es) env st (fun x s => wTr x s fun k => Q k s) X := by
  unfold wT wE; conv => lhs; unfold evT
  rw [RX_bind]; congr; funext x s; unfold wTr; cases truD x s <;> rfl
@[simp ↓] theorem wT_call_r {x : Str} {Q : Bool → Store → Prop} : rho (wT P go (.call x es) env st Q X) = rho (wE P go (.call x es) env st (fun x s => wTr x s fun k => Q k s) X) := congrArg rho (wT_call)
theorem wT_mk {x : Str} {Q : Bool → Store → Prop} : wT P go (.mk x es) env st Q X = wE P go (.mk x es) env st (fun x s => wTr x s fun k => Q k s) X := by
  unfold wT wE; conv => lhs; unfold evT
  rw [RX_bind]; congr; funext x s; unfold wTr; cases truD x s <;> rfl
@[simp ↓] theorem wT_mk_r {x : Str} {Q : Bool → Store → Prop} : rho (wT P go (.mk x es) env st Q X) = rho (wE P go (.mk x es) env st (fun x s => wTr x s fun k => Q k s) X) := congrArg rho (wT_mk)
theorem wT_bm {m : BM} {Q : Bool → Store → Prop} : wT P go (.bm m a es) env st Q X = wE P go (.bm m a es) env st (fun x s => wTr x s fun k => Q k s) X := by
  unfold wT wE; conv => lhs; unfold evT
  rw [RX_bind]; congr; funext x s; unfold wTr; cases truD x s <;> rfl
@[simp ↓] theorem wT_bm_r {m : BM} {Q : Bool → Store → Prop} : rho (wT P go (.bm m a es) env st Q X) = rho (wE P go (.bm m a es) env st (fun x s => wTr x s fun k => Q k s) X) := congrArg rho (wT_bm)
theorem wT_meth {x : Str} {Q : Bool → Store → Prop} : wT P go (.meth a x es) env st Q X = wE P go (.meth a x es) env st (fun x s => wTr x s fun k => Q k s) X := by
  unfold wT wE; conv => lhs; unfold evT
  rw [RX_bind]; congr; funext x s; unfold wTr; cases truD x s <;> rfl
@[simp ↓] theorem wT_meth_r {x : Str} {Q : Bool → Store → Prop} : rho (wT P go (.meth a x es) env st Q X) = rho (wE P go (.meth a x es) env st (fun x s => wTr x s fun k => Q k s) X) := congrArg rho (wT_meth)
theorem wT_fld {x : Str} {Q : Bool → Store → Prop} : wT P go (.fld a x) env st Q X = wE P go (.fld a x) env st (fun x s => wTr x s fun k => Q k s) X := by
  unfold wT wE; conv => lhs; unfold evT
  rw [RX_bind]; congr; funext x s; unfold wTr; cases truD x s <;> rfl
@[simp ↓] theorem wT_fld_r {x : Str} {Q : Bool → Store → Prop} : rho (wT P go (.fld a x) env st Q X) = rho (wE P go (.fld a x) env st (fun x s => wTr x s fun k => Q k s) X) := congrArg rho (wT_fld)
theorem wT_lc {g : List Nat} {o : Bool} {it : Wk} {oc : Option E} {Q : Bool → Store → Prop} : wT P go (.lc g o it oc a) env st Q X = wE P go (.lc g o it oc a) env st (fun x s => wTr x s fun k => Q k s) X := by
  unfold wT wE; conv => lhs; unfold evT
  rw [RX_bind]; congr; funext x s; unfold wTr; cases truD x s <;> rfl
@[simp ↓] theorem wT_lc_r {g : List Nat} {o : Bool} {it : Wk} {oc : Option E} {Q : Bool → Store → Prop} : rho (wT P go (.lc g o it oc a) env st Q X) = rho (wE P go (.lc g o it oc a) env st (fun x s => wTr x s fun k => Q k s) X) := congrArg rho (wT_lc)
theorem wS_nop : wS P go .nop env st N T XX = N env st := rfl
@[simp ↓] theorem wS_nop_r : rho (wS P go .nop env st N T XX) = rho (N env st) := congrArg rho (wS_nop)
theorem wS_seq : wS P go (.seq p q) env st N T XX = wS P go p env st (fun e s => wS P go q e s N T XX) T XX := by
  unfold wS; conv => lhs; unfold exS
  rw [OX_bind]
@[simp ↓] theorem wS_seq_r : rho (wS P go (.seq p q) env st N T XX) = rho (wS P go p env st (fun e s => wS P go q e s N T XX) T XX) := congrArg rho (wS_seq)
theorem wS_expr : wS P go (.expr e) env st N T XX = wE P go e env st (fun _ s => N env s) (fun c fs s => XX c fs env s) := by
  unfold wS wE; conv => lhs; unfold exS
  rw [OX_out]; rfl
@[simp ↓] theorem wS_expr_r : rho (wS P go (.expr e) env st N T XX) = rho (wE P go e env st (fun _ s => N env s) (fun c fs s => XX c fs env s)) := congrArg rho (wS_expr)
theorem wS_ret : wS P go (.ret e) env st N T XX = wE P go e env st T (fun c fs s => XX c fs env s) := by
  unfold wS wE; conv => lhs; unfold exS
  rw [OX_out]; rfl
@[simp ↓] theorem wS_ret_r : rho (wS P go (.ret e) env st N T XX) = rho (wE P go e env st T (fun c fs s => XX c fs env s)) := congrArg rho (wS_ret)
theorem wS_retN : wS P go .retN env st N T XX = T (.v .non) st := rfl
@[simp ↓] theorem wS_retN_r : rho (wS P go .retN env st N T XX) = rho (T (.v .non) st) := congrArg rho (wS_retN)
theorem wS_ifs : wS P go (.ifs e p q) env st N T XX = wT P go e env st (fun k s => if k = true then wS P go p env s N T XX else wS P go q env s N T XX) (fun c fs s => XX c fs env s) := by
  unfold wS wT; conv => lhs; unfold exS
  rw [OX_out]; congr; funext k s; cases k <;> rfl
@[simp ↓] theorem wS_ifs_r : rho (wS P go (.ifs e p q) env st N T XX) = rho (wT P go e env st (fun k s => if k = true then wS P go p env s N T XX else wS P go q env s N T XX) (fun c fs s => XX c fs env s)) := congrArg rho (wS_ifs)
theorem wS_raise {k : Str} (h : P.excs.contains k = true) : wS P go (.raiseT k) env st N T XX = XX k [] env st := by
  show OX (if P.excs.contains k then _ else _) N T XX = _
  rw [if_pos h]; rfl
def wBd (g : List Nat) (one : Bool) (d : D) (env : Env) (Q : Env → Prop) : Prop := wOf (bindG g one d env) Q
def wVal (x : Ev) (Q : D → Prop) : Prop := match x with
  | .v d => Q d
  | .t _ => False
theorem wVal_v {Q : D → Prop} : wVal (.v d) Q = Q d := rfl
@[simp ↓] theorem wVal_v_r {Q : D → Prop} : rho (wVal (.v d) Q) = rho (Q d) := congrArg rho (wVal_v)
theorem wS_unp {g : List Nat} : wS P go (.unp g e) env st N T XX = wE P go e env st (fun x s => wVal x fun d => wBd g false d env fun env' => N env' s) (fun c fs s => XX c fs env s) := by
  unfold wS wE; conv => lhs; unfold exS
  rw [OX_out]; congr; funext x s; cases x with
  | t l => rfl
  | v d =>
    show OX (match bindG g false d env with | some env' => Out.nx env' s | none => Out.stuck) N T XX = wOf (bindG g false d env) _
    cases bindG g false d env <;> rfl
@[simp ↓] theorem wS_unp_r {g : List Nat} : rho (wS P go (.unp g e) env st N T XX) = rho (wE P go e env st (fun x s => wVal x fun d => wBd g false d env fun env' => N env' s) (fun c fs s => XX c fs env s)) := congrArg rho (wS_unp)
theorem wBd_of {g : List Nat} {one : Bool} {env' : Env} {Q : Env → Prop} (h : bindG g one d env = some env') : wBd g one d env Q = Q env' := by unfold wBd; rw [h]; rfl
/-- a def's run, from within -/
theorem wF_in {m : Nat} {fn : Fn} : wF (goW P (m + 1)) fn ds st Q X = wS P (goW P m) fn.body (ds.map some ++ List.replicate (fn.ns - fn.np) none) st (fun _ s => Q (.v .non) s) Q (fun c fs _ s => X c fs s) := by
  rw [goW_eq, goW_eq]
  show RX (Out.fin (exS P (goI P m) fn.body _ st)) Q X = _
  unfold wS
  cases exS P (goI P m) fn.body (ds.map some ++ List.replicate (fn.ns - fn.np) none) st <;> rfl
theorem wF_eq {fn : Fn} {v : Ev} (h : go fn ds st = .ok v s) : wF go fn ds st Q X = Q v s := by unfold wF; rw [h]; rfl
theorem wF_use {fn : Fn} {Q' : QE} (h : rho (wF go fn ds st Q' fun _ _ _ => False)) (k : ∀ v s, Q' v s → rho (Q v s)) : rho (wF go fn ds st Q X) := RX.mono h k fun _ _ _ z => z.elim

theorem wF_det {fn : Fn} {v0 : Ev} {s0 : Store} (h : rho (wF go fn ds st (fun v s => v = v0 ∧ s = s0) fun _ _ _ => False)) : wF go fn ds st Q X = Q v0 s0 := by
  obtain ⟨v, s, e, rfl, rfl⟩ := RX.eq h
  exact wF_eq e
abbrev tr : QE := fun v _ => v = .v (.bl true)
abbrev nX : XC := fun _ _ _ => False
theorem rgOk {j : Int} (h : -4611686018427387904 ≤ j ∧ j < 4611686018427387904) : rngOk j = true := by
  unfold rngOk
  rw [Bool.and_eq_true_iff]
  exact ⟨decide_eq_true h.1, decide_eq_true h.2⟩
theorem get_iD {l : List Int} {i : Nat} {d : D} (h : (iD l)[i]? = some d) : ∃ y, d = .int y ∧ l[i]? = some y := by
  unfold iD at h
  rw [List.getElem?_map] at h
  cases q : l[i]? with
  | none => rw [q] at h; cases h
  | some y => rw [q] at h; cases h; exact ⟨y, rfl, rfl⟩
@[simp] theorem slD_6 {ds : List D} : slD ds none (some 6) = ds.take 6 := slD_to (k := 6)
@[simp] theorem slD_8 {ds : List D} : slD ds none (some 8) = ds.take 8 := slD_to (k := 8)
@[simp] theorem slD_10 {ds : List D} : slD ds none (some 10) = ds.take 10 := slD_to (k := 10)
@[simp] theorem slD_12 {ds : List D} : slD ds none (some 12) = ds.take 12 := slD_to (k := 12)
@[simp] theorem slD_15 {ds : List D} : slD ds none (some 15) = ds.take 15 := slD_to (k := 15)
@[simp] theorem slD_20 {ds : List D} : slD ds none (some 20) = ds.take 20 := slD_to (k := 20)
@[simp] theorem slD_24 {ds : List D} : slD ds none (some 24) = ds.take 24 := slD_to (k := 24)
@[simp] theorem slD_30 {ds : List D} : slD ds none (some 30) = ds.take 30 := slD_to (k := 30)
@[simp] theorem slD_40 {ds : List D} : slD ds none (some 40) = ds.take 40 := slD_to (k := 40)
@[simp] theorem slD_60 {ds : List D} : slD ds none (some 60) = ds.take 60 := slD_to (k := 60)
@[simp] theorem iD_take {l : List Int} {k : Nat} : (iD l).take k = iD (l.take k) := (List.map_take).symm
@[simp] theorem iD_len {l : List Int} : (iD l).length = l.length := List.length_map _
@[simp] theorem iD_cons {i : Int} {l : List Int} : D.int i :: iD l = iD (i :: l) := rfl
@[simp] theorem iD_app {l : List Int} {i : Int} : iD l ++ [D.int i] = iD (l ++ [i]) := by simp [iD]
theorem LI.get {s : Store} {a : Nat} {l : List Int} {Q : List D → Prop} (h : LI s a l) : rho (wGet s a Q) = rho (Q (iD l)) := congrArg rho (wGet_of h)
theorem lt_lim {n : Nat} (h : n ≤ 1000) : n < lim := by unfold lim; omega
theorem wAt_iD {l : List Int} {k : Nat} {y : Int} {Q : D → Prop} (h : l[k]? = some y) : rho (wAt (iD l) (k : Int) Q) = rho (Q (.int y)) := congrArg rho (wAt_of (L2.atI_nat (by simp [iD, h])))
theorem rgc_get {lo c : Int} {n i : Nat} {d : D} (h : (rngC lo c n)[i]? = some d) : d = .int (lo + (i : Int) * c) ∧ i < n := by
  have hl : (rngC lo c n).length = n := by simp [rngC]
  have hi' : i < n := by rw [← hl]; exact (List.getElem?_eq_some_iff.mp h).1
  unfold rngC at h
  rw [List.getElem?_map, List.getElem?_range hi'] at h
  cases h
  exact ⟨rfl, hi'⟩
theorem rgc_len {lo c : Int} {n : Nat} : (rngC lo c n).length = n := by simp [rngC]
theorem rgc_ok {i j c : Int} (hi : -1000000000000 ≤ i ∧ i ≤ 1000000000000) (hj : -1000000000000 ≤ j ∧ j ≤ 1000000000000) (hc : 0 < c ∧ c < 1000000) : rgcOk i j c = true := by
  have hp : c > 0 := hc.1
  have h0 : i < j → 0 ≤ (j - i - 1) / c ∧ (j - i - 1) / c ≤ j - i - 1 ∧ (j - i - 1) / c * c ≤ j - i - 1 ∧ 0 ≤ (j - i - 1) / c * c := fun h => by
    have h1 : 0 ≤ (j - i - 1) / c := Int.ediv_nonneg (by omega) (by omega)
    have h2 : (j - i - 1) / c * c ≤ j - i - 1 := Int.ediv_mul_le _ (by omega)
    refine ⟨h1, ?_, h2, Int.mul_nonneg h1 (by omega)⟩
    exact Int.ediv_le_self _ (by omega)
  unfold rgcOk Builtin.Range.small Builtin.Range.rangeSize
  simp only [Builtin.Range.rangeFitsLong, Bool.and_eq_true, Bool.or_eq_true, decide_eq_true_eq, beq_iff_eq, hp, if_true]
  refine ⟨by omega, by omega, ?_, ?_⟩
  · split
    · have := h0 (by assumption)
      simp [Int.add_mul]
      omega
    · omega
  · split
    · have := h0 (by assumption)
      omega
    · omega
theorem rgc_n {i j c : Int} (hc : 0 < c) (k : Nat) (h : k < (Builtin.Range.rangeSize i j c).toNat) : i + (k : Int) * c < j := by
  unfold Builtin.Range.rangeSize at h
  rw [if_pos hc] at h
  split at h
  · have h2 : (k : Int) ≤ (j - i - 1) / c := by omega
    have := Int.mul_le_of_le_ediv hc h2
    omega
  · simp at h
/-- the number at a place, 0 behind the end -/
def cellAt (l : List Int) (k : Int) : Int := l.getD k.toNat 0
theorem wCell {l : List Int} {k : Int} (hk : 0 ≤ k) {A : Int → Prop} : (if k < (l.length : Int) then rho (wAt (iD l) k fun d => wIn (.v d) A) else rho (A 0)) ↔ rho (A (cellAt l k)) := by
  obtain ⟨j, rfl⟩ : ∃ j : Nat, k = (j : Int) := ⟨k.toNat, by omega⟩
  unfold cellAt
  split
  · rw [wAt_iD (y := l[j]'(by omega)) (by simp [show j < l.length by omega])]
    show rho (A _) ↔ _
    rw [List.getD_eq_getElem?_getD, Int.toNat_natCast]
    simp [show j < l.length by omega]
  · rw [List.getD_eq_getElem?_getD, Int.toNat_natCast]
    simp [show l.length ≤ j by omega]
theorem wCellE {l : List Int} {k : Int} {s : Store} {Q : QE} (hk : 0 ≤ k) : (if k < (l.length : Int) then rho (wAt (iD l) k fun d => Q (.v d) s) else rho (Q (.v (.int 0)) s)) = rho (Q (.v (.int (cellAt l k))) s) := by
  obtain ⟨j, rfl⟩ : ∃ j : Nat, k = (j : Int) := ⟨k.toNat, by omega⟩
  unfold cellAt
  split
  · rw [wAt_iD (y := l[j]'(by omega)) (by simp [show j < l.length by omega])]
    rw [List.getD_eq_getElem?_getD, Int.toNat_natCast]
    simp [show j < l.length by omega]
  · rw [List.getD_eq_getElem?_getD, Int.toNat_natCast]
    simp [show l.length ≤ j by omega]
def pk2 (a b i : Int) : Int := if i = 0 then a else b
def pk3 (a b c i : Int) : Int := if i = 0 then a else if i = 1 then b else c
def pk4 (a b c d i : Int) : Int := if i = 0 then a else if i = 1 then b else if i = 2 then c else d
theorem pk2_pos {a b i : Int} (ha : 0 < a) (hb : 0 < b) : 0 < pk2 a b i := by unfold pk2; split <;> assumption
theorem pk3_pos {a b c i : Int} (ha : 0 < a) (hb : 0 < b) (hc : 0 < c) : 0 < pk3 a b c i := by unfold pk3; repeat (split <;> try assumption)
theorem pk4_pos {a b c d i : Int} (ha : 0 < a) (hb : 0 < b) (hc : 0 < c) (hd : 0 < d) : 0 < pk4 a b c d i := by unfold pk4; repeat (split <;> try assumption)
theorem wAt_pk2 {a b i : Int} {Q : D → Prop} (h : 0 ≤ i ∧ i < 2) : rho (wAt [.int a, .int b] i Q) = rho (Q (.int (pk2 a b i))) := by
  obtain ⟨h1, h2⟩ := h
  rcases (by omega : i = 0 ∨ i = 1) with rfl | rfl
  · exact congrArg rho wAt_0
  · exact congrArg rho wAt_1
theorem wAt_pk3 {a b c i : Int} {Q : D → Prop} (h : 0 ≤ i ∧ i < 3) : rho (wAt [.int a, .int b, .int c] i Q) = rho (Q (.int (pk3 a b c i))) := by
  obtain ⟨h1, h2⟩ := h
  rcases (by omega : i = 0 ∨ i = 1 ∨ i = 2) with rfl | rfl | rfl
  · exact congrArg rho wAt_0
  · exact congrArg rho wAt_1
  · exact congrArg rho wAt_2
theorem wAt_pk4 {a b c d i : Int} {Q : D → Prop} (h : 0 ≤ i ∧ i < 4) : rho (wAt [.int a, .int b, .int c, .int d] i Q) = rho (Q (.int (pk4 a b c d i))) := by
  obtain ⟨h1, h2⟩ := h
  rcases (by omega : i = 0 ∨ i = 1 ∨ i = 2 ∨ i = 3) with rfl | rfl | rfl | rfl
  · exact congrArg rho wAt_0
  · exact congrArg rho wAt_1
  · exact congrArg rho wAt_2
  · exact congrArg rho wAt_3
/-! loops -/
theorem OX_for {cur : Cur} {g : List Nat} {one : Bool} {body : Env → Store → Out} (I : Nat → Env → Store → Prop) (hc : ∀ i e s, I i e s → cur s = some ds)
    (hb : ∀ i d e s, ds[i]? = some d → I i e s → wBd g one d e fun e' => OX (body e' s) (I (i + 1)) T XX) : ∀ k i e s, ds.length ≤ i + k → i ≤ ds.length → I i e s → OX (forGo cur g one body k i e s) (I ds.length) T XX
  | 0, i, e, s, h1, h2, h => by
    unfold forGo
    rw [hc _ _ _ h]
    have : i = ds.length := by omega
    subst this
    simp only [Nat.le_refl, if_true]
    exact h
  | k + 1, i, e, s, h1, h2, h => by
    unfold forGo
    rw [hc _ _ _ h]
    show OX (match ds[i]? with | none => _ | some d => _) _ _ _
    cases q : ds[i]? with
    | none =>
      have : i = ds.length := by
        have := List.getElem?_eq_none_iff.mp q
        omega
      subst this
      exact h
    | some d =>
      have hlt : i < ds.length := (List.getElem?_eq_some_iff.mp q).1
      have h3 := hb i d e s q h
      unfold wBd at h3
      show OX (match bindG g one d e with | some env' => (body env' s).bind fun e s => forGo cur g one body k (i + 1) e s | none => .stuck) _ _ _
      cases q2 : bindG g one d e with
      | none => rw [q2] at h3; exact h3.elim
      | some e' =>
        rw [q2] at h3
        simp only
        rw [OX_bind]
        exact OX.mono h3 (fun e2 s2 h5 => OX_for I hc hb k (i + 1) e2 s2 (by omega) (by omega) h5) (fun _ _ z => z) fun _ _ _ _ z => z
def IxCur (cur : Cur) (ds : List D) (s : Store) : Prop := cur s = some ds
/-- for, by an invariant; the walked thing's items are ds while the invariant holds -/
theorem wS_for {g : List Nat} {one : Bool} {it : Wk} (ds : List D) (I : Nat → Env → Store → Prop)
    (hi : rho (wI P go it env st (fun cur s => I 0 env s ∧ ∀ i e s', I i e s' → cur s' = some ds) (fun c fs s => XX c fs env s)))
    (hb : ∀ i d e s, ds[i]? = some d → I i e s → rho (wBd g one d e fun e' => wS P go p e' s (I (i + 1)) T XX)) (hn : ∀ e s, I ds.length e s → rho (N e s)) : rho (wS P go (.loop g one it p) env st N T XX) := by
  unfold rho wS
  unfold exS
  rw [OX_out]
  refine RX.mono hi (fun cur s h => ?_) fun _ _ _ z => z
  obtain ⟨h0, hc⟩ := h
  have e : turns cur s = ds.length := by
    unfold turns
    rw [hc _ _ _ h0]
  exact OX.mono (OX_for I hc hb (turns cur s) 0 env s (by rw [e]; omega) (Nat.zero_le _) h0) hn (fun _ _ z => z) fun _ _ _ _ z => z
theorem OX_wh {cnd : Env → Store → R Bool} {body : Env → Store → Out} (I : Nat → Env → Store → Prop) (hb : ∀ m e s, I m e s → RX (cnd e s) (fun k s' => if k = true then 0 < m ∧ OX (body e s') (I (m - 1)) T XX else N e s') (fun c fs s => XX c fs e s)) : ∀ k m e s, m < k → I m e s → OX (whGo cnd body k e s) N T XX
  | 0, m, e, s, h1, h => by omega
  | k + 1, m, e, s, h1, h => by
    unfold whGo
    rw [OX_out]
    refine RX.mono (hb m e s h) (fun b s' z => ?_) fun _ _ _ z => z
    cases b with
    | true =>
      obtain ⟨q2, q3⟩ := z
      show OX (Out.bind _ _) _ _ _
      rw [OX_bind]
      exact OX.mono q3 (fun e2 s2 h5 => OX_wh I hb k (m - 1) e2 s2 (by omega) h5) (fun _ _ z => z) fun _ _ _ _ z => z
    | false => exact z
/-- while, by an invariant over the turns that may be left -/
theorem wS_wh (m : Nat) (I : Nat → Env → Store → Prop) (hm : m < 1000000) (h0 : I m env st) (hb : ∀ m e' s, I m e' s → rho (wT P go e e' s (fun k s' => if k = true then 0 < m ∧ wS P go p e' s' (I (m - 1)) T XX else N e' s') (fun c fs s => XX c fs e' s))) : rho (wS P go (.whl e p) env st N T XX) :=
  OX_wh I hb _ m env st hm h0
theorem wI_rng1 {Q : Cur → Store → Prop} : wI P go (.rng (.cons a .nil)) env st Q X = wE P go a env st (fun x s => wIn x fun j => rngOk j = true ∧ Q (fun _ => some (rngL 0 j)) s) X := by
  unfold wI wE; conv => lhs; unfold evI evEs
  rw [RX_bind, RX_bind]; congr; funext x s; cases x with
  | t l => rfl
  | v d => cases d with
    | int i =>
      show RX (match (if rngOk i then some fun _ => some (rngL 0 i) else none : Option Cur) with | some cur => R.ok cur s | none => .stuck) Q X = (rngOk i = true ∧ _)
      cases rngOk i <;> simp [RX]
    | _ => rfl
@[simp ↓] theorem wI_rng1_r {Q : Cur → Store → Prop} : rho (wI P go (.rng (.cons a .nil)) env st Q X) = rho (wE P go a env st (fun x s => wIn x fun j => rngOk j = true ∧ Q (fun _ => some (rngL 0 j)) s) X) := congrArg rho (wI_rng1)
theorem wI_rng2 {Q : Cur → Store → Prop} : wI P go (.rng (.cons a (.cons b .nil))) env st Q X = wE P go a env st (fun x s => wE P go b env s (fun y s' => wIn x fun i => wIn y fun j => (rngOk i && rngOk j) = true ∧ Q (fun _ => some (rngL i j)) s') X) X := by
  unfold wI wE; conv => lhs; unfold evI evEs
  rw [RX_bind, RX_bind]; congr; funext x s; unfold evEs; rw [RX_bind, RX_bind]; congr; funext y s'; cases x with
  | t l => cases y <;> rfl
  | v d => cases d with
    | int i => cases y with
      | t l => rfl
      | v d => cases d with
        | int j =>
          show RX (match (if rngOk i && rngOk j then some fun _ => some (rngL i j) else none : Option Cur) with | some cur => R.ok cur s' | none => .stuck) Q X = ((rngOk i && rngOk j) = true ∧ _)
          cases (rngOk i && rngOk j) <;> simp [RX]
        | _ => rfl
    | _ => cases y <;> rfl
@[simp ↓] theorem wI_rng2_r {Q : Cur → Store → Prop} : rho (wI P go (.rng (.cons a (.cons b .nil))) env st Q X) = rho (wE P go a env st (fun x s => wE P go b env s (fun y s' => wIn x fun i => wIn y fun j => (rngOk i && rngOk j) = true ∧ Q (fun _ => some (rngL i j)) s') X) X) := congrArg rho (wI_rng2)
theorem wI_rng3 {Q : Cur → Store → Prop} : wI P go (.rng (.cons a (.cons b (.cons c .nil)))) env st Q X = wE P go a env st (fun x s => wE P go b env s (fun y s' => wE P go c env s' (fun z s' => wIn x fun i => wIn y fun j => wIn z fun k => rgcOk i j k = true ∧ Q (fun _ => some (rngC i k (Builtin.Range.rangeSize i j k).toNat)) s') X) X) X := by
  unfold wI wE; conv => lhs; unfold evI evEs
  rw [RX_bind, RX_bind]; congr; funext x s; unfold evEs; rw [RX_bind, RX_bind]; congr; funext y s'; unfold evEs; rw [RX_bind, RX_bind]; congr; funext z s2; cases x with
  | t l => cases y <;> cases z <;> rfl
  | v d => cases y with
    | t l => cases d <;> cases z <;> rfl
    | v d2 => cases z with
      | t l => cases d <;> cases d2 <;> rfl
      | v d3 => cases d with
        | int i => cases d2 with
          | int j => cases d3 with
            | int k =>
              show RX (match (if rgcOk i j k then some fun _ => some (rngC i k (Builtin.Range.rangeSize i j k).toNat) else none : Option Cur) with | some cur => R.ok cur s2 | none => .stuck) Q X = (rgcOk i j k = true ∧ _)
              cases rgcOk i j k <;> simp [RX]
            | _ => rfl
          | _ => cases d3 <;> rfl
        | _ => cases d2 <;> cases d3 <;> rfl
@[simp ↓] theorem wI_rng3_r {Q : Cur → Store → Prop} : rho (wI P go (.rng (.cons a (.cons b (.cons c .nil)))) env st Q X) = rho (wE P go a env st (fun x s => wE P go b env s (fun y s' => wE P go c env s' (fun z s' => wIn x fun i => wIn y fun j => wIn z fun k => rgcOk i j k = true ∧ Q (fun _ => some (rngC i k (Builtin.Range.rangeSize i j k).toNat)) s') X) X) X) := congrArg rho (wI_rng3)
/-- the walk along a list that stands -/
def wFl (P : Prog) (go : Go) (g : List Nat) (one : Bool) (p : S) (ds : List D) (env : Env) (st : Store) (N : NC) (T : QE) (XX : XS) : Prop := OX (forGo (fun _ => some ds) g one (fun e s => exS P go p e s) ds.length 0 env st) N T XX
/-- the walk along a list by its place -/
def wFr (P : Prog) (go : Go) (g : List Nat) (one : Bool) (p : S) (n : Nat) (env : Env) (st : Store) (N : NC) (T : QE) (XX : XS) : Prop := OX (forGo (fun s => items s (.v (.ref n))) g one (fun e s => exS P go p e s) (turns (fun s => items s (.v (.ref n))) st) 0 env st) N T XX
theorem wFl_inv {g : List Nat} {one : Bool} (I : Nat → Env → Store → Prop) (h0 : I 0 env st) (hb : ∀ i d e s, ds[i]? = some d → I i e s → rho (wBd g one d e fun e' => wS P go p e' s (I (i + 1)) T XX)) (hn : ∀ e s, I ds.length e s → rho (N e s)) : rho (wFl P go g one p ds env st N T XX) :=
  OX.mono (OX_for I (fun _ _ _ _ => rfl) hb ds.length 0 env st (by omega) (Nat.zero_le _) h0) hn (fun _ _ z => z) fun _ _ _ _ z => z
theorem wFr_inv {g : List Nat} {one : Bool} (ds : List D) (I : Nat → Env → Store → Prop) (hc : ∀ i e s, I i e s → s[n]? = some (.lst ds)) (h0 : I 0 env st) (hb : ∀ i d e s, ds[i]? = some d → I i e s → rho (wBd g one d e fun e' => wS P go p e' s (I (i + 1)) T XX)) (hn : ∀ e s, I ds.length e s → rho (N e s)) : rho (wFr P go g one p n env st N T XX) := by
  have e : turns (fun s => items s (.v (.ref n))) st = ds.length := by
    unfold turns
    show (match items st (.v (.ref n)) with | some ds => ds.length | none => 0) = _
    rw [itRef (hc _ _ _ h0)]
  unfold rho wFr
  rw [e]
  exact OX.mono (OX_for I (fun i e s h => itRef (hc i e s h)) hb ds.length 0 env st (by omega) (Nat.zero_le _) h0) hn (fun _ _ z => z) fun _ _ _ _ z => z
theorem OX_shift {g : List Nat} {one : Bool} {body : Env → Store → Out} {d : D} : ∀ k i (e : Env) (s : Store), forGo (fun _ => some (d :: ds)) g one body k (i + 1) e s = forGo (fun _ => some ds) g one body k i e s
  | 0, i, e, s => by
    unfold forGo
    simp only [List.length_cons, Nat.add_le_add_iff_right]
  | k + 1, i, e, s => by
    unfold forGo
    simp only [List.getElem?_cons_succ]
    cases ds[i]? with
    | none => rfl
    | some d2 =>
      simp only
      cases bindG g one d2 e with
      | none => rfl
      | some e' =>
        simp only
        congr 1; funext e2 s2
        exact OX_shift k (i + 1) e2 s2
theorem wFl_nil {g : List Nat} {one : Bool} : wFl P go g one p [] env st N T XX = N env st := rfl
@[simp ↓] theorem wFl_nil_r {g : List Nat} {one : Bool} : rho (wFl P go g one p [] env st N T XX) = rho (N env st) := congrArg rho (wFl_nil)
theorem wFl_cons {g : List Nat} {one : Bool} : wFl P go g one p (d :: ds) env st N T XX = wBd g one d env fun e' => wS P go p e' st (fun e s => wFl P go g one p ds e s N T XX) T XX := by
  unfold wFl wBd wS
  show OX (forGo _ _ _ _ (ds.length + 1) 0 env st) N T XX = _
  rw [forGo]
  simp only [List.getElem?_cons_zero]
  cases bindG g one d env with
  | none => rfl
  | some e' =>
    simp only [wOf]
    rw [OX_bind]
    congr; funext e s
    rw [OX_shift]
@[simp ↓] theorem wFl_cons_r {g : List Nat} {one : Bool} : rho (wFl P go g one p (d :: ds) env st N T XX) = rho (wBd g one d env fun e' => wS P go p e' st (fun e s => wFl P go g one p ds e s N T XX) T XX) := congrArg rho (wFl_cons)
def wLoop (P : Prog) (go : Go) (g : List Nat) (one : Bool) (p : S) (x : Ev) (env : Env) (st : Store) (N : NC) (T : QE) (XX : XS) : Prop := wOf (curOf x st) fun cur => OX (forGo cur g one (fun e s => exS P go p e s) (turns cur st) 0 env st) N T XX
theorem wS_loopS {g : List Nat} {one : Bool} : wS P go (.loop g one (.seq a) p) env st N T XX = wE P go a env st (fun x s => wLoop P go g one p x env s N T XX) (fun c fs s => XX c fs env s) := by
  unfold wS wE; conv => lhs; unfold exS evI
  rw [OX_out, RX_bind]; congr; funext x s; unfold wLoop; cases curOf x s <;> rfl
@[simp ↓] theorem wS_loopS_r {g : List Nat} {one : Bool} : rho (wS P go (.loop g one (.seq a) p) env st N T XX) = rho (wE P go a env st (fun x s => wLoop P go g one p x env s N T XX) (fun c fs s => XX c fs env s)) := congrArg rho (wS_loopS)
theorem wLoop_t {g : List Nat} {one : Bool} : wLoop P go g one p (.t ds) env st N T XX = wFl P go g one p ds env st N T XX := rfl
@[simp ↓] theorem wLoop_t_r {g : List Nat} {one : Bool} : rho (wLoop P go g one p (.t ds) env st N T XX) = rho (wFl P go g one p ds env st N T XX) := congrArg rho (wLoop_t)
theorem wLoop_tup {g : List Nat} {one : Bool} : wLoop P go g one p (.v (.tup ds)) env st N T XX = wFl P go g one p ds env st N T XX := rfl
@[simp ↓] theorem wLoop_tup_r {g : List Nat} {one : Bool} : rho (wLoop P go g one p (.v (.tup ds)) env st N T XX) = rho (wFl P go g one p ds env st N T XX) := congrArg rho (wLoop_tup)
theorem wLoop_ro {g : List Nat} {one : Bool} : wLoop P go g one p (.v (.ro ds)) env st N T XX = wFl P go g one p ds env st N T XX := rfl
@[simp ↓] theorem wLoop_ro_r {g : List Nat} {one : Bool} : rho (wLoop P go g one p (.v (.ro ds)) env st N T XX) = rho (wFl P go g one p ds env st N T XX) := congrArg rho (wLoop_ro)
theorem wLoop_lst {g : List Nat} {one : Bool} (h : wGet st n fun _ => wFr P go g one p n env st N T XX) : wLoop P go g one p (.v (.ref n)) env st N T XX := by
  unfold wGet at h
  unfold wLoop curOf
  simp only
  cases q : st[n]? with
  | none => rw [q] at h; exact h.elim
  | some cc =>
    rw [q] at h
    cases cc with
    | lst l => exact h
    | ins c fs => exact h.elim
/-- for along a list by its place, by an invariant -/
theorem wLoop_inv {g : List Nat} {one : Bool} (ds : List D) (I : Nat → Env → Store → Prop) (hc : ∀ i e s, I i e s → s[n]? = some (.lst ds)) (h0 : I 0 env st) (hb : ∀ i d e s, ds[i]? = some d → I i e s → rho (wBd g one d e fun e' => wS P go p e' s (I (i + 1)) T XX)) (hn : ∀ e s, I ds.length e s → rho (N e s)) : rho (wLoop P go g one p (.v (.ref n)) env st N T XX) := by
  refine wLoop_lst ?_
  rw [wGet_of (hc _ _ _ h0)]
  exact wFr_inv ds I hc h0 hb hn
theorem rngOk_iff {j : Int} : rngOk j = true ↔ (-4611686018427387904 ≤ j ∧ j < 4611686018427387904) := by
  unfold rngOk
  rw [Bool.and_eq_true_iff, decide_eq_true_iff, decide_eq_true_iff]
  exact Iff.rfl
theorem wS_loop1 {g : List Nat} {one : Bool} : wS P go (.loop g one (.rng (.cons a .nil)) p) env st N T XX = wE P go a env st (fun x s => wIn x fun j => (-4611686018427387904 ≤ j ∧ j < 4611686018427387904) ∧ wFl P go g one p (rngL 0 j) env s N T XX) (fun c fs s => XX c fs env s) := by
  have e : wS P go (.loop g one (.rng (.cons a .nil)) p) env st N T XX = wI P go (.rng (.cons a .nil)) env st (fun cur s => OX (forGo cur g one (fun e s => exS P go p e s) (turns cur s) 0 env s) N T XX) (fun c fs s => XX c fs env s) := by
    unfold wS wI; conv => lhs; unfold exS
    rw [OX_out]
  rw [e, wI_rng1]
  unfold wE; congr; funext x s
  cases x with
  | t l => rfl
  | v d => cases d with
    | int j =>
      show (rngOk j = true ∧ _) = (_ ∧ _)
      rw [rngOk_iff]; rfl
    | _ => rfl
@[simp ↓] theorem wS_loop1_r {g : List Nat} {one : Bool} : rho (wS P go (.loop g one (.rng (.cons a .nil)) p) env st N T XX) = rho (wE P go a env st (fun x s => wIn x fun j => (-4611686018427387904 ≤ j ∧ j < 4611686018427387904) ∧ wFl P go g one p (rngL 0 j) env s N T XX) (fun c fs s => XX c fs env s)) := congrArg rho (wS_loop1)
theorem wS_loop2 {g : List Nat} {one : Bool} : wS P go (.loop g one (.rng (.cons a (.cons b .nil))) p) env st N T XX = wE P go a env st (fun x s => wE P go b env s (fun y s' => wIn x fun i => wIn y fun j => ((-4611686018427387904 ≤ i ∧ i < 4611686018427387904) ∧ (-4611686018427387904 ≤ j ∧ j < 4611686018427387904)) ∧ wFl P go g one p (rngL i j) env s' N T XX) (fun c fs s => XX c fs env s)) (fun c fs s => XX c fs env s) := by
  have e : wS P go (.loop g one (.rng (.cons a (.cons b .nil))) p) env st N T XX = wI P go (.rng (.cons a (.cons b .nil))) env st (fun cur s => OX (forGo cur g one (fun e s => exS P go p e s) (turns cur s) 0 env s) N T XX) (fun c fs s => XX c fs env s) := by
    unfold wS wI; conv => lhs; unfold exS
    rw [OX_out]
  rw [e, wI_rng2]
  unfold wE; congr; funext x s; congr; funext y s'
  cases x with
  | t l => rfl
  | v d => cases d with
    | int i => cases y with
      | t l => rfl
      | v d => cases d with
        | int j =>
          show ((rngOk i && rngOk j) = true ∧ _) = (_ ∧ _)
          rw [Bool.and_eq_true_iff, rngOk_iff, rngOk_iff]; rfl
        | _ => rfl
    | _ => rfl
@[simp ↓] theorem wS_loop2_r {g : List Nat} {one : Bool} : rho (wS P go (.loop g one (.rng (.cons a (.cons b .nil))) p) env st N T XX) = rho (wE P go a env st (fun x s => wE P go b env s (fun y s' => wIn x fun i => wIn y fun j => ((-4611686018427387904 ≤ i ∧ i < 4611686018427387904) ∧ (-4611686018427387904 ≤ j ∧ j < 4611686018427387904)) ∧ wFl P go g one p (rngL i j) env s' N T XX) (fun c fs s => XX c fs env s)) (fun c fs s => XX c fs env s)) := congrArg rho (wS_loop2)
theorem wS_loop3 {g : List Nat} {one : Bool} : wS P go (.loop g one (.rng (.cons a (.cons b (.cons c .nil)))) p) env st N T XX = wE P go a env st (fun x s => wE P go b env s (fun y s' => wE P go c env s' (fun z s' => wIn x fun i => wIn y fun j => wIn z fun k => rgcOk i j k = true ∧ wFl P go g one p (rngC i k (Builtin.Range.rangeSize i j k).toNat) env s' N T XX) (fun c fs s => XX c fs env s)) (fun c fs s => XX c fs env s)) (fun c fs s => XX c fs env s) := by
  have e : wS P go (.loop g one (.rng (.cons a (.cons b (.cons c .nil)))) p) env st N T XX = wI P go (.rng (.cons a (.cons b (.cons c .nil)))) env st (fun cur s => OX (forGo cur g one (fun e s => exS P go p e s) (turns cur s) 0 env s) N T XX) (fun c fs s => XX c fs env s) := by
    unfold wS wI; conv => lhs; unfold exS
    rw [OX_out]
  rw [e, wI_rng3]
  unfold wE; congr
@[simp ↓] theorem wS_loop3_r {g : List Nat} {one : Bool} : rho (wS P go (.loop g one (.rng (.cons a (.cons b (.cons c .nil)))) p) env st N T XX) = rho (wE P go a env st (fun x s => wE P go b env s (fun y s' => wE P go c env s' (fun z s' => wIn x fun i => wIn y fun j => wIn z fun k => rgcOk i j k = true ∧ wFl P go g one p (rngC i k (Builtin.Range.rangeSize i j k).toNat) env s' N T XX) (fun c fs s => XX c fs env s)) (fun c fs s => XX c fs env s)) (fun c fs s => XX c fs env s)) := congrArg rho (wS_loop3)
def wCur (x : Ev) (s : Store) (Q : Cur → Prop) : Prop := wOf (curOf x s) Q
theorem wI_seq {Q : Cur → Store → Prop} : wI P go (.seq a) env st Q X = wE P go a env st (fun x s => wCur x s fun cur => Q cur s) X := by
  unfold wI wE; conv => lhs; unfold evI
  rw [RX_bind]; congr; funext x s; unfold wCur; cases curOf x s <;> rfl
@[simp ↓] theorem wI_seq_r {Q : Cur → Store → Prop} : rho (wI P go (.seq a) env st Q X) = rho (wE P go a env st (fun x s => wCur x s fun cur => Q cur s) X) := congrArg rho (wI_seq)
theorem wCur_t {Q : Cur → Prop} : wCur (.t ds) s Q = Q fun _ => some ds := rfl
@[simp ↓] theorem wCur_t_r {Q : Cur → Prop} : rho (wCur (.t ds) s Q) = rho (Q fun _ => some ds) := congrArg rho (wCur_t)
theorem wCur_tup {Q : Cur → Prop} : wCur (.v (.tup ds)) s Q = Q fun _ => some ds := rfl
@[simp ↓] theorem wCur_tup_r {Q : Cur → Prop} : rho (wCur (.v (.tup ds)) s Q) = rho (Q fun _ => some ds) := congrArg rho (wCur_tup)
theorem wCur_ro {Q : Cur → Prop} : wCur (.v (.ro ds)) s Q = Q fun _ => some ds := rfl
@[simp ↓] theorem wCur_ro_r {Q : Cur → Prop} : rho (wCur (.v (.ro ds)) s Q) = rho (Q fun _ => some ds) := congrArg rho (wCur_ro)
theorem wCur_ref {Q : Cur → Prop} : wCur (.v (.ref n)) s Q = wGet s n fun _ => Q fun s => items s (.v (.ref n)) := by
  show wOf (match s[n]? with | some (.lst _) => _ | _ => _ : Option Cur) Q = (match s[n]? with | some (.lst _) => _ | _ => _)
  cases s[n]? with
  | none => rfl
  | some cc => cases cc <;> rfl

@[simp ↓] theorem wCur_ref_r {Q : Cur → Prop} : rho (wCur (.v (.ref n)) s Q) = rho (wGet s n fun _ => Q fun s => items s (.v (.ref n))) := congrArg rho (wCur_ref)
theorem wBd_tupN {Q : Env → Prop} : wBd [] false (.tup []) env Q = Q env := rfl
@[simp ↓] theorem wBd_tupN_r {Q : Env → Prop} : rho (wBd [] false (.tup []) env Q) = rho (Q env) := congrArg rho (wBd_tupN)
theorem wBd_tupC {k : Nat} {g : List Nat} {Q : Env → Prop} : wBd (k :: g) false (.tup (d :: ds)) env Q = wBd g false (.tup ds) (env.set k (some d)) Q := rfl
@[simp ↓] theorem wBd_tupC_r {k : Nat} {g : List Nat} {Q : Env → Prop} : rho (wBd (k :: g) false (.tup (d :: ds)) env Q) = rho (wBd g false (.tup ds) (env.set k (some d)) Q) := congrArg rho (wBd_tupC)
theorem wBd_tup {g : List Nat} {Q : Env → Prop} : wBd g false (.tup ds) env Q = wOf (setAll g ds env) Q := rfl
theorem wBd_0 {y : Option D} {Q : Env → Prop} : wBd [0] true d (y :: env) Q = Q (some d :: env) := rfl
@[simp ↓] theorem wBd_0_r {y : Option D} {Q : Env → Prop} : rho (wBd [0] true d (y :: env) Q) = rho (Q (some d :: env)) := congrArg rho (wBd_0)
theorem wBd_1 {x0 : Option D} {y : Option D} {Q : Env → Prop} : wBd [1] true d (x0 :: y :: env) Q = Q (x0 :: some d :: env) := rfl
@[simp ↓] theorem wBd_1_r {x0 : Option D} {y : Option D} {Q : Env → Prop} : rho (wBd [1] true d (x0 :: y :: env) Q) = rho (Q (x0 :: some d :: env)) := congrArg rho (wBd_1)
theorem wBd_2 {x0 x1 : Option D} {y : Option D} {Q : Env → Prop} : wBd [2] true d (x0 :: x1 :: y :: env) Q = Q (x0 :: x1 :: some d :: env) := rfl
@[simp ↓] theorem wBd_2_r {x0 x1 : Option D} {y : Option D} {Q : Env → Prop} : rho (wBd [2] true d (x0 :: x1 :: y :: env) Q) = rho (Q (x0 :: x1 :: some d :: env)) := congrArg rho (wBd_2)
theorem wBd_3 {x0 x1 x2 : Option D} {y : Option D} {Q : Env → Prop} : wBd [3] true d (x0 :: x1 :: x2 :: y :: env) Q = Q (x0 :: x1 :: x2 :: some d :: env) := rfl
@[simp ↓] theorem wBd_3_r {x0 x1 x2 : Option D} {y : Option D} {Q : Env → Prop} : rho (wBd [3] true d (x0 :: x1 :: x2 :: y :: env) Q) = rho (Q (x0 :: x1 :: x2 :: some d :: env)) := congrArg rho (wBd_3)
theorem wBd_4 {x0 x1 x2 x3 : Option D} {y : Option D} {Q : Env → Prop} : wBd [4] true d (x0 :: x1 :: x2 :: x3 :: y :: env) Q = Q (x0 :: x1 :: x2 :: x3 :: some d :: env) := rfl
@[simp ↓] theorem wBd_4_r {x0 x1 x2 x3 : Option D} {y : Option D} {Q : Env → Prop} : rho (wBd [4] true d (x0 :: x1 :: x2 :: x3 :: y :: env) Q) = rho (Q (x0 :: x1 :: x2 :: x3 :: some d :: env)) := congrArg rho (wBd_4)
theorem wBd_5 {x0 x1 x2 x3 x4 : Option D} {y : Option D} {Q : Env → Prop} : wBd [5] true d (x0 :: x1 :: x2 :: x3 :: x4 :: y :: env) Q = Q (x0 :: x1 :: x2 :: x3 :: x4 :: some d :: env) := rfl
@[simp ↓] theorem wBd_5_r {x0 x1 x2 x3 x4 : Option D} {y : Option D} {Q : Env → Prop} : rho (wBd [5] true d (x0 :: x1 :: x2 :: x3 :: x4 :: y :: env) Q) = rho (Q (x0 :: x1 :: x2 :: x3 :: x4 :: some d :: env)) := congrArg rho (wBd_5)
theorem wBd_6 {x0 x1 x2 x3 x4 x5 : Option D} {y : Option D} {Q : Env → Prop} : wBd [6] true d (x0 :: x1 :: x2 :: x3 :: x4 :: x5 :: y :: env) Q = Q (x0 :: x1 :: x2 :: x3 :: x4 :: x5 :: some d :: env) := rfl
@[simp ↓] theorem wBd_6_r {x0 x1 x2 x3 x4 x5 : Option D} {y : Option D} {Q : Env → Prop} : rho (wBd [6] true d (x0 :: x1 :: x2 :: x3 :: x4 :: x5 :: y :: env) Q) = rho (Q (x0 :: x1 :: x2 :: x3 :: x4 :: x5 :: some d :: env)) := congrArg rho (wBd_6)
theorem wBd_7 {x0 x1 x2 x3 x4 x5 x6 : Option D} {y : Option D} {Q : Env → Prop} : wBd [7] true d (x0 :: x1 :: x2 :: x3 :: x4 :: x5 :: x6 :: y :: env) Q = Q (x0 :: x1 :: x2 :: x3 :: x4 :: x5 :: x6 :: some d :: env) := rfl
@[simp ↓] theorem wBd_7_r {x0 x1 x2 x3 x4 x5 x6 : Option D} {y : Option D} {Q : Env → Prop} : rho (wBd [7] true d (x0 :: x1 :: x2 :: x3 :: x4 :: x5 :: x6 :: y :: env) Q) = rho (Q (x0 :: x1 :: x2 :: x3 :: x4 :: x5 :: x6 :: some d :: env)) := congrArg rho (wBd_7)
theorem wBd_8 {x0 x1 x2 x3 x4 x5 x6 x7 : Option D} {y : Option D} {Q : Env → Prop} : wBd [8] true d (x0 :: x1 :: x2 :: x3 :: x4 :: x5 :: x6 :: x7 :: y :: env) Q = Q (x0 :: x1 :: x2 :: x3 :: x4 :: x5 :: x6 :: x7 :: some d :: env) := rfl
@[simp ↓] theorem wBd_8_r {x0 x1 x2 x3 x4 x5 x6 x7 : Option D} {y : Option D} {Q : Env → Prop} : rho (wBd [8] true d (x0 :: x1 :: x2 :: x3 :: x4 :: x5 :: x6 :: x7 :: y :: env) Q) = rho (Q (x0 :: x1 :: x2 :: x3 :: x4 :: x5 :: x6 :: x7 :: some d :: env)) := congrArg rho (wBd_8)
theorem wBd_9 {x0 x1 x2 x3 x4 x5 x6 x7 x8 : Option D} {y : Option D} {Q : Env → Prop} : wBd [9] true d (x0 :: x1 :: x2 :: x3 :: x4 :: x5 :: x6 :: x7 :: x8 :: y :: env) Q = Q (x0 :: x1 :: x2 :: x3 :: x4 :: x5 :: x6 :: x7 :: x8 :: some d :: env) := rfl
@[simp ↓] theorem wBd_9_r {x0 x1 x2 x3 x4 x5 x6 x7 x8 : Option D} {y : Option D} {Q : Env → Prop} : rho (wBd [9] true d (x0 :: x1 :: x2 :: x3 :: x4 :: x5 :: x6 :: x7 :: x8 :: y :: env) Q) = rho (Q (x0 :: x1 :: x2 :: x3 :: x4 :: x5 :: x6 :: x7 :: x8 :: some d :: env)) := congrArg rho (wBd_9)
theorem wBd_10 {x0 x1 x2 x3 x4 x5 x6 x7 x8 x9 : Option D} {y : Option D} {Q : Env → Prop} : wBd [10] true d (x0 :: x1 :: x2 :: x3 :: x4 :: x5 :: x6 :: x7 :: x8 :: x9 :: y :: env) Q = Q (x0 :: x1 :: x2 :: x3 :: x4 :: x5 :: x6 :: x7 :: x8 :: x9 :: some d :: env) := rfl
@[simp ↓] theorem wBd_10_r {x0 x1 x2 x3 x4 x5 x6 x7 x8 x9 : Option D} {y : Option D} {Q : Env → Prop} : rho (wBd [10] true d (x0 :: x1 :: x2 :: x3 :: x4 :: x5 :: x6 :: x7 :: x8 :: x9 :: y :: env) Q) = rho (Q (x0 :: x1 :: x2 :: x3 :: x4 :: x5 :: x6 :: x7 :: x8 :: x9 :: some d :: env)) := congrArg rho (wBd_10)
theorem wBd_11 {x0 x1 x2 x3 x4 x5 x6 x7 x8 x9 x10 : Option D} {y : Option D} {Q : Env → Prop} : wBd [11] true d (x0 :: x1 :: x2 :: x3 :: x4 :: x5 :: x6 :: x7 :: x8 :: x9 :: x10 :: y :: env) Q = Q (x0 :: x1 :: x2 :: x3 :: x4 :: x5 :: x6 :: x7 :: x8 :: x9 :: x10 :: some d :: env) := rfl
@[simp ↓] theorem wBd_11_r {x0 x1 x2 x3 x4 x5 x6 x7 x8 x9 x10 : Option D} {y : Option D} {Q : Env → Prop} : rho (wBd [11] true d (x0 :: x1 :: x2 :: x3 :: x4 :: x5 :: x6 :: x7 :: x8 :: x9 :: x10 :: y :: env) Q) = rho (Q (x0 :: x1 :: x2 :: x3 :: x4 :: x5 :: x6 :: x7 :: x8 :: x9 :: x10 :: some d :: env)) := congrArg rho (wBd_11)
theorem wBd_12 {x0 x1 x2 x3 x4 x5 x6 x7 x8 x9 x10 x11 : Option D} {y : Option D} {Q : Env → Prop} : wBd [12] true d (x0 :: x1 :: x2 :: x3 :: x4 :: x5 :: x6 :: x7 :: x8 :: x9 :: x10 :: x11 :: y :: env) Q = Q (x0 :: x1 :: x2 :: x3 :: x4 :: x5 :: x6 :: x7 :: x8 :: x9 :: x10 :: x11 :: some d :: env) := rfl
@[simp ↓] theorem wBd_12_r {x0 x1 x2 x3 x4 x5 x6 x7 x8 x9 x10 x11 : Option D} {y : Option D} {Q : Env → Prop} : rho (wBd [12] true d (x0 :: x1 :: x2 :: x3 :: x4 :: x5 :: x6 :: x7 :: x8 :: x9 :: x10 :: x11 :: y :: env) Q) = rho (Q (x0 :: x1 :: x2 :: x3 :: x4 :: x5 :: x6 :: x7 :: x8 :: x9 :: x10 :: x11 :: some d :: env)) := congrArg rho (wBd_12)
theorem wBd_13 {x0 x1 x2 x3 x4 x5 x6 x7 x8 x9 x10 x11 x12 : Option D} {y : Option D} {Q : Env → Prop} : wBd [13] true d (x0 :: x1 :: x2 :: x3 :: x4 :: x5 :: x6 :: x7 :: x8 :: x9 :: x10 :: x11 :: x12 :: y :: env) Q = Q (x0 :: x1 :: x2 :: x3 :: x4 :: x5 :: x6 :: x7 :: x8 :: x9 :: x10 :: x11 :: x12 :: some d :: env) := rfl
@[simp ↓] theorem wBd_13_r {x0 x1 x2 x3 x4 x5 x6 x7 x8 x9 x10 x11 x12 : Option D} {y : Option D} {Q : Env → Prop} : rho (wBd [13] true d (x0 :: x1 :: x2 :: x3 :: x4 :: x5 :: x6 :: x7 :: x8 :: x9 :: x10 :: x11 :: x12 :: y :: env) Q) = rho (Q (x0 :: x1 :: x2 :: x3 :: x4 :: x5 :: x6 :: x7 :: x8 :: x9 :: x10 :: x11 :: x12 :: some d :: env)) := congrArg rho (wBd_13)
theorem wBd_14 {x0 x1 x2 x3 x4 x5 x6 x7 x8 x9 x10 x11 x12 x13 : Option D} {y : Option D} {Q : Env → Prop} : wBd [14] true d (x0 :: x1 :: x2 :: x3 :: x4 :: x5 :: x6 :: x7 :: x8 :: x9 :: x10 :: x11 :: x12 :: x13 :: y :: env) Q = Q (x0 :: x1 :: x2 :: x3 :: x4 :: x5 :: x6 :: x7 :: x8 :: x9 :: x10 :: x11 :: x12 :: x13 :: some d :: env) := rfl
@[simp ↓] theorem wBd_14_r {x0 x1 x2 x3 x4 x5 x6 x7 x8 x9 x10 x11 x12 x13 : Option D} {y : Option D} {Q : Env → Prop} : rho (wBd [14] true d (x0 :: x1 :: x2 :: x3 :: x4 :: x5 :: x6 :: x7 :: x8 :: x9 :: x10 :: x11 :: x12 :: x13 :: y :: env) Q) = rho (Q (x0 :: x1 :: x2 :: x3 :: x4 :: x5 :: x6 :: x7 :: x8 :: x9 :: x10 :: x11 :: x12 :: x13 :: some d :: env)) := congrArg rho (wBd_14)
theorem wBd_15 {x0 x1 x2 x3 x4 x5 x6 x7 x8 x9 x10 x11 x12 x13 x14 : Option D} {y : Option D} {Q : Env → Prop} : wBd [15] true d (x0 :: x1 :: x2 :: x3 :: x4 :: x5 :: x6 :: x7 :: x8 :: x9 :: x10 :: x11 :: x12 :: x13 :: x14 :: y :: env) Q = Q (x0 :: x1 :: x2 :: x3 :: x4 :: x5 :: x6 :: x7 :: x8 :: x9 :: x10 :: x11 :: x12 :: x13 :: x14 :: some d :: env) := rfl
@[simp ↓] theorem wBd_15_r {x0 x1 x2 x3 x4 x5 x6 x7 x8 x9 x10 x11 x12 x13 x14 : Option D} {y : Option D} {Q : Env → Prop} : rho (wBd [15] true d (x0 :: x1 :: x2 :: x3 :: x4 :: x5 :: x6 :: x7 :: x8 :: x9 :: x10 :: x11 :: x12 :: x13 :: x14 :: y :: env) Q) = rho (Q (x0 :: x1 :: x2 :: x3 :: x4 :: x5 :: x6 :: x7 :: x8 :: x9 :: x10 :: x11 :: x12 :: x13 :: x14 :: some d :: env)) := congrArg rho (wBd_15)
theorem wBd_16 {x0 x1 x2 x3 x4 x5 x6 x7 x8 x9 x10 x11 x12 x13 x14 x15 : Option D} {y : Option D} {Q : Env → Prop} : wBd [16] true d (x0 :: x1 :: x2 :: x3 :: x4 :: x5 :: x6 :: x7 :: x8 :: x9 :: x10 :: x11 :: x12 :: x13 :: x14 :: x15 :: y :: env) Q = Q (x0 :: x1 :: x2 :: x3 :: x4 :: x5 :: x6 :: x7 :: x8 :: x9 :: x10 :: x11 :: x12 :: x13 :: x14 :: x15 :: some d :: env) := rfl
@[simp ↓] theorem wBd_16_r {x0 x1 x2 x3 x4 x5 x6 x7 x8 x9 x10 x11 x12 x13 x14 x15 : Option D} {y : Option D} {Q : Env → Prop} : rho (wBd [16] true d (x0 :: x1 :: x2 :: x3 :: x4 :: x5 :: x6 :: x7 :: x8 :: x9 :: x10 :: x11 :: x12 :: x13 :: x14 :: x15 :: y :: env) Q) = rho (Q (x0 :: x1 :: x2 :: x3 :: x4 :: x5 :: x6 :: x7 :: x8 :: x9 :: x10 :: x11 :: x12 :: x13 :: x14 :: x15 :: some d :: env)) := congrArg rho (wBd_16)
theorem wBd_17 {x0 x1 x2 x3 x4 x5 x6 x7 x8 x9 x10 x11 x12 x13 x14 x15 x16 : Option D} {y : Option D} {Q : Env → Prop} : wBd [17] true d (x0 :: x1 :: x2 :: x3 :: x4 :: x5 :: x6 :: x7 :: x8 :: x9 :: x10 :: x11 :: x12 :: x13 :: x14 :: x15 :: x16 :: y :: env) Q = Q (x0 :: x1 :: x2 :: x3 :: x4 :: x5 :: x6 :: x7 :: x8 :: x9 :: x10 :: x11 :: x12 :: x13 :: x14 :: x15 :: x16 :: some d :: env) := rfl
@[simp ↓] theorem wBd_17_r {x0 x1 x2 x3 x4 x5 x6 x7 x8 x9 x10 x11 x12 x13 x14 x15 x16 : Option D} {y : Option D} {Q : Env → Prop} : rho (wBd [17] true d (x0 :: x1 :: x2 :: x3 :: x4 :: x5 :: x6 :: x7 :: x8 :: x9 :: x10 :: x11 :: x12 :: x13 :: x14 :: x15 :: x16 :: y :: env) Q) = rho (Q (x0 :: x1 :: x2 :: x3 :: x4 :: x5 :: x6 :: x7 :: x8 :: x9 :: x10 :: x11 :: x12 :: x13 :: x14 :: x15 :: x16 :: some d :: env)) := congrArg rho (wBd_17)
theorem wBd_18 {x0 x1 x2 x3 x4 x5 x6 x7 x8 x9 x10 x11 x12 x13 x14 x15 x16 x17 : Option D} {y : Option D} {Q : Env → Prop} : wBd [18] true d (x0 :: x1 :: x2 :: x3 :: x4 :: x5 :: x6 :: x7 :: x8 :: x9 :: x10 :: x11 :: x12 :: x13 :: x14 :: x15 :: x16 :: x17 :: y :: env) Q = Q (x0 :: x1 :: x2 :: x3 :: x4 :: x5 :: x6 :: x7 :: x8 :: x9 :: x10 :: x11 :: x12 :: x13 :: x14 :: x15 :: x16 :: x17 :: some d :: env) := rfl
@[simp ↓] theorem wBd_18_r {x0 x1 x2 x3 x4 x5 x6 x7 x8 x9 x10 x11 x12 x13 x14 x15 x16 x17 : Option D} {y : Option D} {Q : Env → Prop} : rho (wBd [18] true d (x0 :: x1 :: x2 :: x3 :: x4 :: x5 :: x6 :: x7 :: x8 :: x9 :: x10 :: x11 :: x12 :: x13 :: x14 :: x15 :: x16 :: x17 :: y :: env) Q) = rho (Q (x0 :: x1 :: x2 :: x3 :: x4 :: x5 :: x6 :: x7 :: x8 :: x9 :: x10 :: x11 :: x12 :: x13 :: x14 :: x15 :: x16 :: x17 :: some d :: env)) := congrArg rho (wBd_18)
theorem wBd_19 {x0 x1 x2 x3 x4 x5 x6 x7 x8 x9 x10 x11 x12 x13 x14 x15 x16 x17 x18 : Option D} {y : Option D} {Q : Env → Prop} : wBd [19] true d (x0 :: x1 :: x2 :: x3 :: x4 :: x5 :: x6 :: x7 :: x8 :: x9 :: x10 :: x11 :: x12 :: x13 :: x14 :: x15 :: x16 :: x17 :: x18 :: y :: env) Q = Q (x0 :: x1 :: x2 :: x3 :: x4 :: x5 :: x6 :: x7 :: x8 :: x9 :: x10 :: x11 :: x12 :: x13 :: x14 :: x15 :: x16 :: x17 :: x18 :: some d :: env) := rfl
@[simp ↓] theorem wBd_19_r {x0 x1 x2 x3 x4 x5 x6 x7 x8 x9 x10 x11 x12 x13 x14 x15 x16 x17 x18 : Option D} {y : Option D} {Q : Env → Prop} : rho (wBd [19] true d (x0 :: x1 :: x2 :: x3 :: x4 :: x5 :: x6 :: x7 :: x8 :: x9 :: x10 :: x11 :: x12 :: x13 :: x14 :: x15 :: x16 :: x17 :: x18 :: y :: env) Q) = rho (Q (x0 :: x1 :: x2 :: x3 :: x4 :: x5 :: x6 :: x7 :: x8 :: x9 :: x10 :: x11 :: x12 :: x13 :: x14 :: x15 :: x16 :: x17 :: x18 :: some d :: env)) := congrArg rho (wBd_19)
theorem wBd_20 {x0 x1 x2 x3 x4 x5 x6 x7 x8 x9 x10 x11 x12 x13 x14 x15 x16 x17 x18 x19 : Option D} {y : Option D} {Q : Env → Prop} : wBd [20] true d (x0 :: x1 :: x2 :: x3 :: x4 :: x5 :: x6 :: x7 :: x8 :: x9 :: x10 :: x11 :: x12 :: x13 :: x14 :: x15 :: x16 :: x17 :: x18 :: x19 :: y :: env) Q = Q (x0 :: x1 :: x2 :: x3 :: x4 :: x5 :: x6 :: x7 :: x8 :: x9 :: x10 :: x11 :: x12 :: x13 :: x14 :: x15 :: x16 :: x17 :: x18 :: x19 :: some d :: env) := rfl
@[simp ↓] theorem wBd_20_r {x0 x1 x2 x3 x4 x5 x6 x7 x8 x9 x10 x11 x12 x13 x14 x15 x16 x17 x18 x19 : Option D} {y : Option D} {Q : Env → Prop} : rho (wBd [20] true d (x0 :: x1 :: x2 :: x3 :: x4 :: x5 :: x6 :: x7 :: x8 :: x9 :: x10 :: x11 :: x12 :: x13 :: x14 :: x15 :: x16 :: x17 :: x18 :: x19 :: y :: env) Q) = rho (Q (x0 :: x1 :: x2 :: x3 :: x4 :: x5 :: x6 :: x7 :: x8 :: x9 :: x10 :: x11 :: x12 :: x13 :: x14 :: x15 :: x16 :: x17 :: x18 :: x19 :: some d :: env)) := congrArg rho (wBd_20)
theorem wBd_21 {x0 x1 x2 x3 x4 x5 x6 x7 x8 x9 x10 x11 x12 x13 x14 x15 x16 x17 x18 x19 x20 : Option D} {y : Option D} {Q : Env → Prop} : wBd [21] true d (x0 :: x1 :: x2 :: x3 :: x4 :: x5 :: x6 :: x7 :: x8 :: x9 :: x10 :: x11 :: x12 :: x13 :: x14 :: x15 :: x16 :: x17 :: x18 :: x19 :: x20 :: y :: env) Q = Q (x0 :: x1 :: x2 :: x3 :: x4 :: x5 :: x6 :: x7 :: x8 :: x9 :: x10 :: x11 :: x12 :: x13 :: x14 :: x15 :: x16 :: x17 :: x18 :: x19 :: x20 :: some d :: env) := rfl
@[simp ↓] theorem wBd_21_r {x0 x1 x2 x3 x4 x5 x6 x7 x8 x9 x10 x11 x12 x13 x14 x15 x16 x17 x18 x19 x20 : Option D} {y : Option D} {Q : Env → Prop} : rho (wBd [21] true d (x0 :: x1 :: x2 :: x3 :: x4 :: x5 :: x6 :: x7 :: x8 :: x9 :: x10 :: x11 :: x12 :: x13 :: x14 :: x15 :: x16 :: x17 :: x18 :: x19 :: x20 :: y :: env) Q) = rho (Q (x0 :: x1 :: x2 :: x3 :: x4 :: x5 :: x6 :: x7 :: x8 :: x9 :: x10 :: x11 :: x12 :: x13 :: x14 :: x15 :: x16 :: x17 :: x18 :: x19 :: x20 :: some d :: env)) := congrArg rho (wBd_21)
theorem wBd_22 {x0 x1 x2 x3 x4 x5 x6 x7 x8 x9 x10 x11 x12 x13 x14 x15 x16 x17 x18 x19 x20 x21 : Option D} {y : Option D} {Q : Env → Prop} : wBd [22] true d (x0 :: x1 :: x2 :: x3 :: x4 :: x5 :: x6 :: x7 :: x8 :: x9 :: x10 :: x11 :: x12 :: x13 :: x14 :: x15 :: x16 :: x17 :: x18 :: x19 :: x20 :: x21 :: y :: env) Q = Q (x0 :: x1 :: x2 :: x3 :: x4 :: x5 :: x6 :: x7 :: x8 :: x9 :: x10 :: x11 :: x12 :: x13 :: x14 :: x15 :: x16 :: x17 :: x18 :: x19 :: x20 :: x21 :: some d :: env) := rfl
@[simp ↓] theorem wBd_22_r {x0 x1 x2 x3 x4 x5 x6 x7 x8 x9 x10 x11 x12 x13 x14 x15 x16 x17 x18 x19 x20 x21 : Option D} {y : Option D} {Q : Env → Prop} : rho (wBd [22] true d (x0 :: x1 :: x2 :: x3 :: x4 :: x5 :: x6 :: x7 :: x8 :: x9 :: x10 :: x11 :: x12 :: x13 :: x14 :: x15 :: x16 :: x17 :: x18 :: x19 :: x20 :: x21 :: y :: env) Q) = rho (Q (x0 :: x1 :: x2 :: x3 :: x4 :: x5 :: x6 :: x7 :: x8 :: x9 :: x10 :: x11 :: x12 :: x13 :: x14 :: x15 :: x16 :: x17 :: x18 :: x19 :: x20 :: x21 :: some d :: env)) := congrArg rho (wBd_22)
theorem wBd_23 {x0 x1 x2 x3 x4 x5 x6 x7 x8 x9 x10 x11 x12 x13 x14 x15 x16 x17 x18 x19 x20 x21 x22 : Option D} {y : Option D} {Q : Env → Prop} : wBd [23] true d (x0 :: x1 :: x2 :: x3 :: x4 :: x5 :: x6 :: x7 :: x8 :: x9 :: x10 :: x11 :: x12 :: x13 :: x14 :: x15 :: x16 :: x17 :: x18 :: x19 :: x20 :: x21 :: x22 :: y :: env) Q = Q (x0 :: x1 :: x2 :: x3 :: x4 :: x5 :: x6 :: x7 :: x8 :: x9 :: x10 :: x11 :: x12 :: x13 :: x14 :: x15 :: x16 :: x17 :: x18 :: x19 :: x20 :: x21 :: x22 :: some d :: env) := rfl
@[simp ↓] theorem wBd_23_r {x0 x1 x2 x3 x4 x5 x6 x7 x8 x9 x10 x11 x12 x13 x14 x15 x16 x17 x18 x19 x20 x21 x22 : Option D} {y : Option D} {Q : Env → Prop} : rho (wBd [23] true d (x0 :: x1 :: x2 :: x3 :: x4 :: x5 :: x6 :: x7 :: x8 :: x9 :: x10 :: x11 :: x12 :: x13 :: x14 :: x15 :: x16 :: x17 :: x18 :: x19 :: x20 :: x21 :: x22 :: y :: env) Q) = rho (Q (x0 :: x1 :: x2 :: x3 :: x4 :: x5 :: x6 :: x7 :: x8 :: x9 :: x10 :: x11 :: x12 :: x13 :: x14 :: x15 :: x16 :: x17 :: x18 :: x19 :: x20 :: x21 :: x22 :: some d :: env)) := congrArg rho (wBd_23)
theorem wBd_24 {x0 x1 x2 x3 x4 x5 x6 x7 x8 x9 x10 x11 x12 x13 x14 x15 x16 x17 x18 x19 x20 x21 x22 x23 : Option D} {y : Option D} {Q : Env → Prop} : wBd [24] true d (x0 :: x1 :: x2 :: x3 :: x4 :: x5 :: x6 :: x7 :: x8 :: x9 :: x10 :: x11 :: x12 :: x13 :: x14 :: x15 :: x16 :: x17 :: x18 :: x19 :: x20 :: x21 :: x22 :: x23 :: y :: env) Q = Q (x0 :: x1 :: x2 :: x3 :: x4 :: x5 :: x6 :: x7 :: x8 :: x9 :: x10 :: x11 :: x12 :: x13 :: x14 :: x15 :: x16 :: x17 :: x18 :: x19 :: x20 :: x21 :: x22 :: x23 :: some d :: env) := rfl
@[simp ↓] theorem wBd_24_r {x0 x1 x2 x3 x4 x5 x6 x7 x8 x9 x10 x11 x12 x13 x14 x15 x16 x17 x18 x19 x20 x21 x22 x23 : Option D} {y : Option D} {Q : Env → Prop} : rho (wBd [24] true d (x0 :: x1 :: x2 :: x3 :: x4 :: x5 :: x6 :: x7 :: x8 :: x9 :: x10 :: x11 :: x12 :: x13 :: x14 :: x15 :: x16 :: x17 :: x18 :: x19 :: x20 :: x21 :: x22 :: x23 :: y :: env) Q) = rho (Q (x0 :: x1 :: x2 :: x3 :: x4 :: x5 :: x6 :: x7 :: x8 :: x9 :: x10 :: x11 :: x12 :: x13 :: x14 :: x15 :: x16 :: x17 :: x18 :: x19 :: x20 :: x21 :: x22 :: x23 :: some d :: env)) := congrArg rho (wBd_24)
theorem wBd_25 {x0 x1 x2 x3 x4 x5 x6 x7 x8 x9 x10 x11 x12 x13 x14 x15 x16 x17 x18 x19 x20 x21 x22 x23 x24 : Option D} {y : Option D} {Q : Env → Prop} : wBd [25] true d (x0 :: x1 :: x2 :: x3 :: x4 :: x5 :: x6 :: x7 :: x8 :: x9 :: x10 :: x11 :: x12 :: x13 :: x14 :: x15 :: x16 :: x17 :: x18 :: x19 :: x20 :: x21 :: x22 :: x23 :: x24 :: y :: env) Q = Q (x0 :: x1 :: x2 :: x3 :: x4 :: x5 :: x6 :: x7 :: x8 :: x9 :: x10 :: x11 :: x12 :: x13 :: x14 :: x15 :: x16 :: x17 :: x18 :: x19 :: x20 :: x21 :: x22 :: x23 :: x24 :: some d :: env) := rfl
@[simp ↓] theorem wBd_25_r {x0 x1 x2 x3 x4 x5 x6 x7 x8 x9 x10 x11 x12 x13 x14 x15 x16 x17 x18 x19 x20 x21 x22 x23 x24 : Option D} {y : Option D} {Q : Env → Prop} : rho (wBd [25] true d (x0 :: x1 :: x2 :: x3 :: x4 :: x5 :: x6 :: x7 :: x8 :: x9 :: x10 :: x11 :: x12 :: x13 :: x14 :: x15 :: x16 :: x17 :: x18 :: x19 :: x20 :: x21 :: x22 :: x23 :: x24 :: y :: env) Q) = rho (Q (x0 :: x1 :: x2 :: x3 :: x4 :: x5 :: x6 :: x7 :: x8 :: x9 :: x10 :: x11 :: x12 :: x13 :: x14 :: x15 :: x16 :: x17 :: x18 :: x19 :: x20 :: x21 :: x22 :: x23 :: x24 :: some d :: env)) := congrArg rho (wBd_25)
theorem wBd_26 {x0 x1 x2 x3 x4 x5 x6 x7 x8 x9 x10 x11 x12 x13 x14 x15 x16 x17 x18 x19 x20 x21 x22 x23 x24 x25 : Option D} {y : Option D} {Q : Env → Prop} : wBd [26] true d (x0 :: x1 :: x2 :: x3 :: x4 :: x5 :: x6 :: x7 :: x8 :: x9 :: x10 :: x11 :: x12 :: x13 :: x14 :: x15 :: x16 :: x17 :: x18 :: x19 :: x20 :: x21 :: x22 :: x23 :: x24 :: x25 :: y :: env) Q = Q (x0 :: x1 :: x2 :: x3 :: x4 :: x5 :: x6 :: x7 :: x8 :: x9 :: x10 :: x11 :: x12 :: x13 :: x14 :: x15 :: x16 :: x17 :: x18 :: x19 :: x20 :: x21 :: x22 :: x23 :: x24 :: x25 :: some d :: env) := rfl
@[simp ↓] theorem wBd_26_r {x0 x1 x2 x3 x4 x5 x6 x7 x8 x9 x10 x11 x12 x13 x14 x15 x16 x17 x18 x19 x20 x21 x22 x23 x24 x25 : Option D} {y : Option D} {Q : Env → Prop} : rho (wBd [26] true d (x0 :: x1 :: x2 :: x3 :: x4 :: x5 :: x6 :: x7 :: x8 :: x9 :: x10 :: x11 :: x12 :: x13 :: x14 :: x15 :: x16 :: x17 :: x18 :: x19 :: x20 :: x21 :: x22 :: x23 :: x24 :: x25 :: y :: env) Q) = rho (Q (x0 :: x1 :: x2 :: x3 :: x4 :: x5 :: x6 :: x7 :: x8 :: x9 :: x10 :: x11 :: x12 :: x13 :: x14 :: x15 :: x16 :: x17 :: x18 :: x19 :: x20 :: x21 :: x22 :: x23 :: x24 :: x25 :: some d :: env)) := congrArg rho (wBd_26)
theorem wBd_27 {x0 x1 x2 x3 x4 x5 x6 x7 x8 x9 x10 x11 x12 x13 x14 x15 x16 x17 x18 x19 x20 x21 x22 x23 x24 x25 x26 : Option D} {y : Option D} {Q : Env → Prop} : wBd [27] true d (x0 :: x1 :: x2 :: x3 :: x4 :: x5 :: x6 :: x7 :: x8 :: x9 :: x10 :: x11 :: x12 :: x13 :: x14 :: x15 :: x16 :: x17 :: x18 :: x19 :: x20 :: x21 :: x22 :: x23 :: x24 :: x25 :: x26 :: y :: env) Q = Q (x0 :: x1 :: x2 :: x3 :: x4 :: x5 :: x6 :: x7 :: x8 :: x9 :: x10 :: x11 :: x12 :: x13 :: x14 :: x15 :: x16 :: x17 :: x18 :: x19 :: x20 :: x21 :: x22 :: x23 :: x24 :: x25 :: x26 :: some d :: env) := rfl
@[simp ↓] theorem wBd_27_r {x0 x1 x2 x3 x4 x5 x6 x7 x8 x9 x10 x11 x12 x13 x14 x15 x16 x17 x18 x19 x20 x21 x22 x23 x24 x25 x26 : Option D} {y : Option D} {Q : Env → Prop} : rho (wBd [27] true d (x0 :: x1 :: x2 :: x3 :: x4 :: x5 :: x6 :: x7 :: x8 :: x9 :: x10 :: x11 :: x12 :: x13 :: x14 :: x15 :: x16 :: x17 :: x18 :: x19 :: x20 :: x21 :: x22 :: x23 :: x24 :: x25 :: x26 :: y :: env) Q) = rho (Q (x0 :: x1 :: x2 :: x3 :: x4 :: x5 :: x6 :: x7 :: x8 :: x9 :: x10 :: x11 :: x12 :: x13 :: x14 :: x15 :: x16 :: x17 :: x18 :: x19 :: x20 :: x21 :: x22 :: x23 :: x24 :: x25 :: x26 :: some d :: env)) := congrArg rho (wBd_27)
theorem wBd_28 {x0 x1 x2 x3 x4 x5 x6 x7 x8 x9 x10 x11 x12 x13 x14 x15 x16 x17 x18 x19 x20 x21 x22 x23 x24 x25 x26 x27 : Option D} {y : Option D} {Q : Env → Prop} : wBd [28] true d (x0 :: x1 :: x2 :: x3 :: x4 :: x5 :: x6 :: x7 :: x8 :: x9 :: x10 :: x11 :: x12 :: x13 :: x14 :: x15 :: x16 :: x17 :: x18 :: x19 :: x20 :: x21 :: x22 :: x23 :: x24 :: x25 :: x26 :: x27 :: y :: env) Q = Q (x0 :: x1 :: x2 :: x3 :: x4 :: x5 :: x6 :: x7 :: x8 :: x9 :: x10 :: x11 :: x12 :: x13 :: x14 :: x15 :: x16 :: x17 :: x18 :: x19 :: x20 :: x21 :: x22 :: x23 :: x24 :: x25 :: x26 :: x27 :: some d :: env) := rfl
@[simp ↓] theorem wBd_28_r {x0 x1 x2 x3 x4 x5 x6 x7 x8 x9 x10 x11 x12 x13 x14 x15 x16 x17 x18 x19 x20 x21 x22 x23 x24 x25 x26 x27 : Option D} {y : Option D} {Q : Env → Prop} : rho (wBd [28] true d (x0 :: x1 :: x2 :: x3 :: x4 :: x5 :: x6 :: x7 :: x8 :: x9 :: x10 :: x11 :: x12 :: x13 :: x14 :: x15 :: x16 :: x17 :: x18 :: x19 :: x20 :: x21 :: x22 :: x23 :: x24 :: x25 :: x26 :: x27 :: y :: env) Q) = rho (Q (x0 :: x1 :: x2 :: x3 :: x4 :: x5 :: x6 :: x7 :: x8 :: x9 :: x10 :: x11 :: x12 :: x13 :: x14 :: x15 :: x16 :: x17 :: x18 :: x19 :: x20 :: x21 :: x22 :: x23 :: x24 :: x25 :: x26 :: x27 :: some d :: env)) := congrArg rho (wBd_28)
theorem wBd_29 {x0 x1 x2 x3 x4 x5 x6 x7 x8 x9 x10 x11 x12 x13 x14 x15 x16 x17 x18 x19 x20 x21 x22 x23 x24 x25 x26 x27 x28 : Option D} {y : Option D} {Q : Env → Prop} : wBd [29] true d (x0 :: x1 :: x2 :: x3 :: x4 :: x5 :: x6 :: x7 :: x8 :: x9 :: x10 :: x11 :: x12 :: x13 :: x14 :: x15 :: x16 :: x17 :: x18 :: x19 :: x20 :: x21 :: x22 :: x23 :: x24 :: x25 :: x26 :: x27 :: x28 :: y :: env) Q = Q (x0 :: x1 :: x2 :: x3 :: x4 :: x5 :: x6 :: x7 :: x8 :: x9 :: x10 :: x11 :: x12 :: x13 :: x14 :: x15 :: x16 :: x17 :: x18 :: x19 :: x20 :: x21 :: x22 :: x23 :: x24 :: x25 :: x26 :: x27 :: x28 :: some d :: env) := rfl
@[simp ↓] theorem wBd_29_r {x0 x1 x2 x3 x4 x5 x6 x7 x8 x9 x10 x11 x12 x13 x14 x15 x16 x17 x18 x19 x20 x21 x22 x23 x24 x25 x26 x27 x28 : Option D} {y : Option D} {Q : Env → Prop} : rho (wBd [29] true d (x0 :: x1 :: x2 :: x3 :: x4 :: x5 :: x6 :: x7 :: x8 :: x9 :: x10 :: x11 :: x12 :: x13 :: x14 :: x15 :: x16 :: x17 :: x18 :: x19 :: x20 :: x21 :: x22 :: x23 :: x24 :: x25 :: x26 :: x27 :: x28 :: y :: env) Q) = rho (Q (x0 :: x1 :: x2 :: x3 :: x4 :: x5 :: x6 :: x7 :: x8 :: x9 :: x10 :: x11 :: x12 :: x13 :: x14 :: x15 :: x16 :: x17 :: x18 :: x19 :: x20 :: x21 :: x22 :: x23 :: x24 :: x25 :: x26 :: x27 :: x28 :: some d :: env)) := congrArg rho (wBd_29)
theorem wBd_30 {x0 x1 x2 x3 x4 x5 x6 x7 x8 x9 x10 x11 x12 x13 x14 x15 x16 x17 x18 x19 x20 x21 x22 x23 x24 x25 x26 x27 x28 x29 : Option D} {y : Option D} {Q : Env → Prop} : wBd [30] true d (x0 :: x1 :: x2 :: x3 :: x4 :: x5 :: x6 :: x7 :: x8 :: x9 :: x10 :: x11 :: x12 :: x13 :: x14 :: x15 :: x16 :: x17 :: x18 :: x19 :: x20 :: x21 :: x22 :: x23 :: x24 :: x25 :: x26 :: x27 :: x28 :: x29 :: y :: env) Q = Q (x0 :: x1 :: x2 :: x3 :: x4 :: x5 :: x6 :: x7 :: x8 :: x9 :: x10 :: x11 :: x12 :: x13 :: x14 :: x15 :: x16 :: x17 :: x18 :: x19 :: x20 :: x21 :: x22 :: x23 :: x24 :: x25 :: x26 :: x27 :: x28 :: x29 :: some d :: env) := rfl
@[simp ↓] theorem wBd_30_r {x0 x1 x2 x3 x4 x5 x6 x7 x8 x9 x10 x11 x12 x13 x14 x15 x16 x17 x18 x19 x20 x21 x22 x23 x24 x25 x26 x27 x28 x29 : Option D} {y : Option D} {Q : Env → Prop} : rho (wBd [30] true d (x0 :: x1 :: x2 :: x3 :: x4 :: x5 :: x6 :: x7 :: x8 :: x9 :: x10 :: x11 :: x12 :: x13 :: x14 :: x15 :: x16 :: x17 :: x18 :: x19 :: x20 :: x21 :: x22 :: x23 :: x24 :: x25 :: x26 :: x27 :: x28 :: x29 :: y :: env) Q) = rho (Q (x0 :: x1 :: x2 :: x3 :: x4 :: x5 :: x6 :: x7 :: x8 :: x9 :: x10 :: x11 :: x12 :: x13 :: x14 :: x15 :: x16 :: x17 :: x18 :: x19 :: x20 :: x21 :: x22 :: x23 :: x24 :: x25 :: x26 :: x27 :: x28 :: x29 :: some d :: env)) := congrArg rho (wBd_30)
theorem wBd_31 {x0 x1 x2 x3 x4 x5 x6 x7 x8 x9 x10 x11 x12 x13 x14 x15 x16 x17 x18 x19 x20 x21 x22 x23 x24 x25 x26 x27 x28 x29 x30 : Option D} {y : Option D} {Q : Env → Prop} : wBd [31] true d (x0 :: x1 :: x2 :: x3 :: x4 :: x5 :: x6 :: x7 :: x8 :: x9 :: x10 :: x11 :: x12 :: x13 :: x14 :: x15 :: x16 :: x17 :: x18 :: x19 :: x20 :: x21 :: x22 :: x23 :: x24 :: x25 :: x26 :: x27 :: x28 :: x29 :: x30 :: y :: env) Q = Q (x0 :: x1 :: x2 :: x3 :: x4 :: x5 :: x6 :: x7 :: x8 :: x9 :: x10 :: x11 :: x12 :: x13 :: x14 :: x15 :: x16 :: x17 :: x18 :: x19 :: x20 :: x21 :: x22 :: x23 :: x24 :: x25 :: x26 :: x27 :: x28 :: x29 :: x30 :: some d :: env) := rfl
@[simp ↓] theorem wBd_31_r {x0 x1 x2 x3 x4 x5 x6 x7 x8 x9 x10 x11 x12 x13 x14 x15 x16 x17 x18 x19 x20 x21 x22 x23 x24 x25 x26 x27 x28 x29 x30 : Option D} {y : Option D} {Q : Env → Prop} : rho (wBd [31] true d (x0 :: x1 :: x2 :: x3 :: x4 :: x5 :: x6 :: x7 :: x8 :: x9 :: x10 :: x11 :: x12 :: x13 :: x14 :: x15 :: x16 :: x17 :: x18 :: x19 :: x20 :: x21 :: x22 :: x23 :: x24 :: x25 :: x26 :: x27 :: x28 :: x29 :: x30 :: y :: env) Q) = rho (Q (x0 :: x1 :: x2 :: x3 :: x4 :: x5 :: x6 :: x7 :: x8 :: x9 :: x10 :: x11 :: x12 :: x13 :: x14 :: x15 :: x16 :: x17 :: x18 :: x19 :: x20 :: x21 :: x22 :: x23 :: x24 :: x25 :: x26 :: x27 :: x28 :: x29 :: x30 :: some d :: env)) := congrArg rho (wBd_31)
theorem wBd_32 {x0 x1 x2 x3 x4 x5 x6 x7 x8 x9 x10 x11 x12 x13 x14 x15 x16 x17 x18 x19 x20 x21 x22 x23 x24 x25 x26 x27 x28 x29 x30 x31 : Option D} {y : Option D} {Q : Env → Prop} : wBd [32] true d (x0 :: x1 :: x2 :: x3 :: x4 :: x5 :: x6 :: x7 :: x8 :: x9 :: x10 :: x11 :: x12 :: x13 :: x14 :: x15 :: x16 :: x17 :: x18 :: x19 :: x20 :: x21 :: x22 :: x23 :: x24 :: x25 :: x26 :: x27 :: x28 :: x29 :: x30 :: x31 :: y :: env) Q = Q (x0 :: x1 :: x2 :: x3 :: x4 :: x5 :: x6 :: x7 :: x8 :: x9 :: x10 :: x11 :: x12 :: x13 :: x14 :: x15 :: x16 :: x17 :: x18 :: x19 :: x20 :: x21 :: x22 :: x23 :: x24 :: x25 :: x26 :: x27 :: x28 :: x29 :: x30 :: x31 :: some d :: env) := rfl
@[simp ↓] theorem wBd_32_r {x0 x1 x2 x3 x4 x5 x6 x7 x8 x9 x10 x11 x12 x13 x14 x15 x16 x17 x18 x19 x20 x21 x22 x23 x24 x25 x26 x27 x28 x29 x30 x31 : Option D} {y : Option D} {Q : Env → Prop} : rho (wBd [32] true d (x0 :: x1 :: x2 :: x3 :: x4 :: x5 :: x6 :: x7 :: x8 :: x9 :: x10 :: x11 :: x12 :: x13 :: x14 :: x15 :: x16 :: x17 :: x18 :: x19 :: x20 :: x21 :: x22 :: x23 :: x24 :: x25 :: x26 :: x27 :: x28 :: x29 :: x30 :: x31 :: y :: env) Q) = rho (Q (x0 :: x1 :: x2 :: x3 :: x4 :: x5 :: x6 :: x7 :: x8 :: x9 :: x10 :: x11 :: x12 :: x13 :: x14 :: x15 :: x16 :: x17 :: x18 :: x19 :: x20 :: x21 :: x22 :: x23 :: x24 :: x25 :: x26 :: x27 :: x28 :: x29 :: x30 :: x31 :: some d :: env)) := congrArg rho (wBd_32)
theorem wBd_33 {x0 x1 x2 x3 x4 x5 x6 x7 x8 x9 x10 x11 x12 x13 x14 x15 x16 x17 x18 x19 x20 x21 x22 x23 x24 x25 x26 x27 x28 x29 x30 x31 x32 : Option D} {y : Option D} {Q : Env → Prop} : wBd [33] true d (x0 :: x1 :: x2 :: x3 :: x4 :: x5 :: x6 :: x7 :: x8 :: x9 :: x10 :: x11 :: x12 :: x13 :: x14 :: x15 :: x16 :: x17 :: x18 :: x19 :: x20 :: x21 :: x22 :: x23 :: x24 :: x25 :: x26 :: x27 :: x28 :: x29 :: x30 :: x31 :: x32 :: y :: env) Q = Q (x0 :: x1 :: x2 :: x3 :: x4 :: x5 :: x6 :: x7 :: x8 :: x9 :: x10 :: x11 :: x12 :: x13 :: x14 :: x15 :: x16 :: x17 :: x18 :: x19 :: x20 :: x21 :: x22 :: x23 :: x24 :: x25 :: x26 :: x27 :: x28 :: x29 :: x30 :: x31 :: x32 :: some d :: env) := rfl
@[simp ↓] theorem wBd_33_r {x0 x1 x2 x3 x4 x5 x6 x7 x8 x9 x10 x11 x12 x13 x14 x15 x16 x17 x18 x19 x20 x21 x22 x23 x24 x25 x26 x27 x28 x29 x30 x31 x32 : Option D} {y : Option D} {Q : Env → Prop} : rho (wBd [33] true d (x0 :: x1 :: x2 :: x3 :: x4 :: x5 :: x6 :: x7 :: x8 :: x9 :: x10 :: x11 :: x12 :: x13 :: x14 :: x15 :: x16 :: x17 :: x18 :: x19 :: x20 :: x21 :: x22 :: x23 :: x24 :: x25 :: x26 :: x27 :: x28 :: x29 :: x30 :: x31 :: x32 :: y :: env) Q) = rho (Q (x0 :: x1 :: x2 :: x3 :: x4 :: x5 :: x6 :: x7 :: x8 :: x9 :: x10 :: x11 :: x12 :: x13 :: x14 :: x15 :: x16 :: x17 :: x18 :: x19 :: x20 :: x21 :: x22 :: x23 :: x24 :: x25 :: x26 :: x27 :: x28 :: x29 :: x30 :: x31 :: x32 :: some d :: env)) := congrArg rho (wBd_33)
theorem wBd_34 {x0 x1 x2 x3 x4 x5 x6 x7 x8 x9 x10 x11 x12 x13 x14 x15 x16 x17 x18 x19 x20 x21 x22 x23 x24 x25 x26 x27 x28 x29 x30 x31 x32 x33 : Option D} {y : Option D} {Q : Env → Prop} : wBd [34] true d (x0 :: x1 :: x2 :: x3 :: x4 :: x5 :: x6 :: x7 :: x8 :: x9 :: x10 :: x11 :: x12 :: x13 :: x14 :: x15 :: x16 :: x17 :: x18 :: x19 :: x20 :: x21 :: x22 :: x23 :: x24 :: x25 :: x26 :: x27 :: x28 :: x29 :: x30 :: x31 :: x32 :: x33 :: y :: env) Q = Q (x0 :: x1 :: x2 :: x3 :: x4 :: x5 :: x6 :: x7 :: x8 :: x9 :: x10 :: x11 :: x12 :: x13 :: x14 :: x15 :: x16 :: x17 :: x18 :: x19 :: x20 :: x21 :: x22 :: x23 :: x24 :: x25 :: x26 :: x27 :: x28 :: x29 :: x30 :: x31 :: x32 :: x33 :: some d :: env) := rfl
@[simp ↓] theorem wBd_34_r {x0 x1 x2 x3 x4 x5 x6 x7 x8 x9 x10 x11 x12 x13 x14 x15 x16 x17 x18 x19 x20 x21 x22 x23 x24 x25 x26 x27 x28 x29 x30 x31 x32 x33 : Option D} {y : Option D} {Q : Env → Prop} : rho (wBd [34] true d (x0 :: x1 :: x2 :: x3 :: x4 :: x5 :: x6 :: x7 :: x8 :: x9 :: x10 :: x11 :: x12 :: x13 :: x14 :: x15 :: x16 :: x17 :: x18 :: x19 :: x20 :: x21 :: x22 :: x23 :: x24 :: x25 :: x26 :: x27 :: x28 :: x29 :: x30 :: x31 :: x32 :: x33 :: y :: env) Q) = rho (Q (x0 :: x1 :: x2 :: x3 :: x4 :: x5 :: x6 :: x7 :: x8 :: x9 :: x10 :: x11 :: x12 :: x13 :: x14 :: x15 :: x16 :: x17 :: x18 :: x19 :: x20 :: x21 :: x22 :: x23 :: x24 :: x25 :: x26 :: x27 :: x28 :: x29 :: x30 :: x31 :: x32 :: x33 :: some d :: env)) := congrArg rho (wBd_34)
theorem wBd_35 {x0 x1 x2 x3 x4 x5 x6 x7 x8 x9 x10 x11 x12 x13 x14 x15 x16 x17 x18 x19 x20 x21 x22 x23 x24 x25 x26 x27 x28 x29 x30 x31 x32 x33 x34 : Option D} {y : Option D} {Q : Env → Prop} : wBd [35] true d (x0 :: x1 :: x2 :: x3 :: x4 :: x5 :: x6 :: x7 :: x8 :: x9 :: x10 :: x11 :: x12 :: x13 :: x14 :: x15 :: x16 :: x17 :: x18 :: x19 :: x20 :: x21 :: x22 :: x23 :: x24 :: x25 :: x26 :: x27 :: x28 :: x29 :: x30 :: x31 :: x32 :: x33 :: x34 :: y :: env) Q = Q (x0 :: x1 :: x2 :: x3 :: x4 :: x5 :: x6 :: x7 :: x8 :: x9 :: x10 :: x11 :: x12 :: x13 :: x14 :: x15 :: x16 :: x17 :: x18 :: x19 :: x20 :: x21 :: x22 :: x23 :: x24 :: x25 :: x26 :: x27 :: x28 :: x29 :: x30 :: x31 :: x32 :: x33 :: x34 :: some d :: env) := rfl
@[simp ↓] theorem wBd_35_r {x0 x1 x2 x3 x4 x5 x6 x7 x8 x9 x10 x11 x12 x13 x14 x15 x16 x17 x18 x19 x20 x21 x22 x23 x24 x25 x26 x27 x28 x29 x30 x31 x32 x33 x34 : Option D} {y : Option D} {Q : Env → Prop} : rho (wBd [35] true d (x0 :: x1 :: x2 :: x3 :: x4 :: x5 :: x6 :: x7 :: x8 :: x9 :: x10 :: x11 :: x12 :: x13 :: x14 :: x15 :: x16 :: x17 :: x18 :: x19 :: x20 :: x21 :: x22 :: x23 :: x24 :: x25 :: x26 :: x27 :: x28 :: x29 :: x30 :: x31 :: x32 :: x33 :: x34 :: y :: env) Q) = rho (Q (x0 :: x1 :: x2 :: x3 :: x4 :: x5 :: x6 :: x7 :: x8 :: x9 :: x10 :: x11 :: x12 :: x13 :: x14 :: x15 :: x16 :: x17 :: x18 :: x19 :: x20 :: x21 :: x22 :: x23 :: x24 :: x25 :: x26 :: x27 :: x28 :: x29 :: x30 :: x31 :: x32 :: x33 :: x34 :: some d :: env)) := congrArg rho (wBd_35)
theorem wBd_36 {x0 x1 x2 x3 x4 x5 x6 x7 x8 x9 x10 x11 x12 x13 x14 x15 x16 x17 x18 x19 x20 x21 x22 x23 x24 x25 x26 x27 x28 x29 x30 x31 x32 x33 x34 x35 : Option D} {y : Option D} {Q : Env → Prop} : wBd [36] true d (x0 :: x1 :: x2 :: x3 :: x4 :: x5 :: x6 :: x7 :: x8 :: x9 :: x10 :: x11 :: x12 :: x13 :: x14 :: x15 :: x16 :: x17 :: x18 :: x19 :: x20 :: x21 :: x22 :: x23 :: x24 :: x25 :: x26 :: x27 :: x28 :: x29 :: x30 :: x31 :: x32 :: x33 :: x34 :: x35 :: y :: env) Q = Q (x0 :: x1 :: x2 :: x3 :: x4 :: x5 :: x6 :: x7 :: x8 :: x9 :: x10 :: x11 :: x12 :: x13 :: x14 :: x15 :: x16 :: x17 :: x18 :: x19 :: x20 :: x21 :: x22 :: x23 :: x24 :: x25 :: x26 :: x27 :: x28 :: x29 :: x30 :: x31 :: x32 :: x33 :: x34 :: x35 :: some d :: env) := rfl
@[simp ↓] theorem wBd_36_r {x0 x1 x2 x3 x4 x5 x6 x7 x8 x9 x10 x11 x12 x13 x14 x15 x16 x17 x18 x19 x20 x21 x22 x23 x24 x25 x26 x27 x28 x29 x30 x31 x32 x33 x34 x35 : Option D} {y : Option D} {Q : Env → Prop} : rho (wBd [36] true d (x0 :: x1 :: x2 :: x3 :: x4 :: x5 :: x6 :: x7 :: x8 :: x9 :: x10 :: x11 :: x12 :: x13 :: x14 :: x15 :: x16 :: x17 :: x18 :: x19 :: x20 :: x21 :: x22 :: x23 :: x24 :: x25 :: x26 :: x27 :: x28 :: x29 :: x30 :: x31 :: x32 :: x33 :: x34 :: x35 :: y :: env) Q) = rho (Q (x0 :: x1 :: x2 :: x3 :: x4 :: x5 :: x6 :: x7 :: x8 :: x9 :: x10 :: x11 :: x12 :: x13 :: x14 :: x15 :: x16 :: x17 :: x18 :: x19 :: x20 :: x21 :: x22 :: x23 :: x24 :: x25 :: x26 :: x27 :: x28 :: x29 :: x30 :: x31 :: x32 :: x33 :: x34 :: x35 :: some d :: env)) := congrArg rho (wBd_36)
theorem wBd_37 {x0 x1 x2 x3 x4 x5 x6 x7 x8 x9 x10 x11 x12 x13 x14 x15 x16 x17 x18 x19 x20 x21 x22 x23 x24 x25 x26 x27 x28 x29 x30 x31 x32 x33 x34 x35 x36 : Option D} {y : Option D} {Q : Env → Prop} : wBd [37] true d (x0 :: x1 :: x2 :: x3 :: x4 :: x5 :: x6 :: x7 :: x8 :: x9 :: x10 :: x11 :: x12 :: x13 :: x14 :: x15 :: x16 :: x17 :: x18 :: x19 :: x20 :: x21 :: x22 :: x23 :: x24 :: x25 :: x26 :: x27 :: x28 :: x29 :: x30 :: x31 :: x32 :: x33 :: x34 :: x35 :: x36 :: y :: env) Q = Q (x0 :: x1 :: x2 :: x3 :: x4 :: x5 :: x6 :: x7 :: x8 :: x9 :: x10 :: x11 :: x12 :: x13 :: x14 :: x15 :: x16 :: x17 :: x18 :: x19 :: x20 :: x21 :: x22 :: x23 :: x24 :: x25 :: x26 :: x27 :: x28 :: x29 :: x30 :: x31 :: x32 :: x33 :: x34 :: x35 :: x36 :: some d :: env) := rfl
@[simp ↓] theorem wBd_37_r {x0 x1 x2 x3 x4 x5 x6 x7 x8 x9 x10 x11 x12 x13 x14 x15 x16 x17 x18 x19 x20 x21 x22 x23 x24 x25 x26 x27 x28 x29 x30 x31 x32 x33 x34 x35 x36 : Option D} {y : Option D} {Q : Env → Prop} : rho (wBd [37] true d (x0 :: x1 :: x2 :: x3 :: x4 :: x5 :: x6 :: x7 :: x8 :: x9 :: x10 :: x11 :: x12 :: x13 :: x14 :: x15 :: x16 :: x17 :: x18 :: x19 :: x20 :: x21 :: x22 :: x23 :: x24 :: x25 :: x26 :: x27 :: x28 :: x29 :: x30 :: x31 :: x32 :: x33 :: x34 :: x35 :: x36 :: y :: env) Q) = rho (Q (x0 :: x1 :: x2 :: x3 :: x4 :: x5 :: x6 :: x7 :: x8 :: x9 :: x10 :: x11 :: x12 :: x13 :: x14 :: x15 :: x16 :: x17 :: x18 :: x19 :: x20 :: x21 :: x22 :: x23 :: x24 :: x25 :: x26 :: x27 :: x28 :: x29 :: x30 :: x31 :: x32 :: x33 :: x34 :: x35 :: x36 :: some d :: env)) := congrArg rho (wBd_37)
theorem wBd_38 {x0 x1 x2 x3 x4 x5 x6 x7 x8 x9 x10 x11 x12 x13 x14 x15 x16 x17 x18 x19 x20 x21 x22 x23 x24 x25 x26 x27 x28 x29 x30 x31 x32 x33 x34 x35 x36 x37 : Option D} {y : Option D} {Q : Env → Prop} : wBd [38] true d (x0 :: x1 :: x2 :: x3 :: x4 :: x5 :: x6 :: x7 :: x8 :: x9 :: x10 :: x11 :: x12 :: x13 :: x14 :: x15 :: x16 :: x17 :: x18 :: x19 :: x20 :: x21 :: x22 :: x23 :: x24 :: x25 :: x26 :: x27 :: x28 :: x29 :: x30 :: x31 :: x32 :: x33 :: x34 :: x35 :: x36 :: x37 :: y :: env) Q = Q (x0 :: x1 :: x2 :: x3 :: x4 :: x5 :: x6 :: x7 :: x8 :: x9 :: x10 :: x11 :: x12 :: x13 :: x14 :: x15 :: x16 :: x17 :: x18 :: x19 :: x20 :: x21 :: x22 :: x23 :: x24 :: x25 :: x26 :: x27 :: x28 :: x29 :: x30 :: x31 :: x32 :: x33 :: x34 :: x35 :: x36 :: x37 :: some d :: env) := rfl
@[simp ↓] theorem wBd_38_r {x0 x1 x2 x3 x4 x5 x6 x7 x8 x9 x10 x11 x12 x13 x14 x15 x16 x17 x18 x19 x20 x21 x22 x23 x24 x25 x26 x27 x28 x29 x30 x31 x32 x33 x34 x35 x36 x37 : Option D} {y : Option D} {Q : Env → Prop} : rho (wBd [38] true d (x0 :: x1 :: x2 :: x3 :: x4 :: x5 :: x6 :: x7 :: x8 :: x9 :: x10 :: x11 :: x12 :: x13 :: x14 :: x15 :: x16 :: x17 :: x18 :: x19 :: x20 :: x21 :: x22 :: x23 :: x24 :: x25 :: x26 :: x27 :: x28 :: x29 :: x30 :: x31 :: x32 :: x33 :: x34 :: x35 :: x36 :: x37 :: y :: env) Q) = rho (Q (x0 :: x1 :: x2 :: x3 :: x4 :: x5 :: x6 :: x7 :: x8 :: x9 :: x10 :: x11 :: x12 :: x13 :: x14 :: x15 :: x16 :: x17 :: x18 :: x19 :: x20 :: x21 :: x22 :: x23 :: x24 :: x25 :: x26 :: x27 :: x28 :: x29 :: x30 :: x31 :: x32 :: x33 :: x34 :: x35 :: x36 :: x37 :: some d :: env)) := congrArg rho (wBd_38)
theorem wBd_39 {x0 x1 x2 x3 x4 x5 x6 x7 x8 x9 x10 x11 x12 x13 x14 x15 x16 x17 x18 x19 x20 x21 x22 x23 x24 x25 x26 x27 x28 x29 x30 x31 x32 x33 x34 x35 x36 x37 x38 : Option D} {y : Option D} {Q : Env → Prop} : wBd [39] true d (x0 :: x1 :: x2 :: x3 :: x4 :: x5 :: x6 :: x7 :: x8 :: x9 :: x10 :: x11 :: x12 :: x13 :: x14 :: x15 :: x16 :: x17 :: x18 :: x19 :: x20 :: x21 :: x22 :: x23 :: x24 :: x25 :: x26 :: x27 :: x28 :: x29 :: x30 :: x31 :: x32 :: x33 :: x34 :: x35 :: x36 :: x37 :: x38 :: y :: env) Q = Q (x0 :: x1 :: x2 :: x3 :: x4 :: x5 :: x6 :: x7 :: x8 :: x9 :: x10 :: x11 :: x12 :: x13 :: x14 :: x15 :: x16 :: x17 :: x18 :: x19 :: x20 :: x21 :: x22 :: x23 :: x24 :: x25 :: x26 :: x27 :: x28 :: x29 :: x30 :: x31 :: x32 :: x33 :: x34 :: x35 :: x36 :: x37 :: x38 :: some d :: env) := rfl
@[simp ↓] theorem wBd_39_r {x0 x1 x2 x3 x4 x5 x6 x7 x8 x9 x10 x11 x12 x13 x14 x15 x16 x17 x18 x19 x20 x21 x22 x23 x24 x25 x26 x27 x28 x29 x30 x31 x32 x33 x34 x35 x36 x37 x38 : Option D} {y : Option D} {Q : Env → Prop} : rho (wBd [39] true d (x0 :: x1 :: x2 :: x3 :: x4 :: x5 :: x6 :: x7 :: x8 :: x9 :: x10 :: x11 :: x12 :: x13 :: x14 :: x15 :: x16 :: x17 :: x18 :: x19 :: x20 :: x21 :: x22 :: x23 :: x24 :: x25 :: x26 :: x27 :: x28 :: x29 :: x30 :: x31 :: x32 :: x33 :: x34 :: x35 :: x36 :: x37 :: x38 :: y :: env) Q) = rho (Q (x0 :: x1 :: x2 :: x3 :: x4 :: x5 :: x6 :: x7 :: x8 :: x9 :: x10 :: x11 :: x12 :: x13 :: x14 :: x15 :: x16 :: x17 :: x18 :: x19 :: x20 :: x21 :: x22 :: x23 :: x24 :: x25 :: x26 :: x27 :: x28 :: x29 :: x30 :: x31 :: x32 :: x33 :: x34 :: x35 :: x36 :: x37 :: x38 :: some d :: env)) := congrArg rho (wBd_39)
end
end SI

set_option maxHeartbeats 0
namespace SI.K17
open PySem
abbrev body : List Stmt := PySem.Challenge.pw_termcourt_k17_seventeen_years_on.main.body
/-- [thing] -/
def b_f_is_whole : S := (.seq (.ret (.and (.isi (.loc 0) [.bi .int] true) (.not (.isi (.loc 0) [.bi .bool] true))))
  .nop)
def f_is_whole : Fn := { np := 1, ns := 1, dfl := [], body := b_f_is_whole }
/-- [year] -/
def b_f_is_long : S := (.seq (.ret (.cmp .lt (.bin .mod (.bin .mul (.int 3) (.loc 0)) (.int 17)) (.int 3)))
  .nop)
def f_is_long : Fn := { np := 1, ns := 1, dfl := [], body := b_f_is_long }
/-- [year] -/
def b_f_long_before : S := (.seq (.ret (.bin .fdiv (.bin .add (.bin .mul (.int 3) (.loc 0)) (.int 14)) (.int 17)))
  .nop)
def f_long_before : Fn := { np := 1, ns := 1, dfl := [], body := b_f_long_before }
/-- [year] -/
def b_f_first_week : S := (.seq (.ret (.bin .add (.bin .mul (.int 52) (.loc 0)) (.call "long_before" (.cons (.loc 0) .nil))))
  .nop)
def f_first_week : Fn := { np := 1, ns := 1, dfl := [], body := b_f_first_week }
/-- [week] -/
def b_f_year_of : S := (.seq (.ret (.bin .fdiv (.bin .add (.bin .mul (.int 17) (.loc 0)) (.int 2)) (.int 887)))
  .nop)
def f_year_of : Fn := { np := 1, ns := 1, dfl := [], body := b_f_year_of }
/-- [year, week, day] -/
def b_f_day_of : S := (.seq (.ifs (.or (.not (.call "is_whole" (.cons (.loc 0) .nil))) (.or (.not (.call "is_whole" (.cons (.loc 1) .nil))) (.not (.call "is_whole" (.cons (.loc 2) .nil))))) (.seq (.raiseT "NoDay")
  .nop) .nop)
  (.seq (.ifs (.or (.cmp .lt (.loc 0) (.int 0)) (.or (.cmp .lt (.loc 1) (.int 1)) (.or (.cmp .lt (.loc 2) (.int 1)) (.cmp .gt (.loc 2) (.int 7))))) (.seq (.raiseT "NoDay")
  .nop) .nop)
  (.seq (.ifs (.or (.cmp .gt (.loc 1) (.int 53)) (.and (.cmp .eq (.loc 1) (.int 53)) (.not (.call "is_long" (.cons (.loc 0) .nil))))) (.seq (.raiseT "NoDay")
  .nop) .nop)
  (.seq (.ret (.bin .sub (.bin .add (.bin .mul (.int 7) (.bin .sub (.bin .add (.call "first_week" (.cons (.loc 0) .nil)) (.loc 1)) (.int 1))) (.loc 2)) (.int 1)))
  .nop))))
def f_day_of : Fn := { np := 3, ns := 3, dfl := [], body := b_f_day_of }
/-- [day] -/
def b_f_sure_day : S := (.seq (.ifs (.or (.not (.call "is_whole" (.cons (.loc 0) .nil))) (.cmp .lt (.loc 0) (.int 0))) (.seq (.raiseT "NoDay")
  .nop) .nop)
  (.seq (.ret (.loc 0))
  .nop))
def f_sure_day : Fn := { np := 1, ns := 1, dfl := [], body := b_f_sure_day }
/-- [day, parts, year] -/
def b_f_date_of : S := (.seq (.asg 1 (.bi .divmod (.cons (.call "sure_day" (.cons (.loc 0) .nil)) (.cons (.int 7) .nil))))
  (.seq (.asg 2 (.call "year_of" (.cons (.idx (.loc 1) (.int 0)) .nil)))
  (.seq (.ret (.tup (.cons (.loc 2) (.cons (.bin .add (.bin .sub (.idx (.loc 1) (.int 0)) (.call "first_week" (.cons (.loc 2) .nil))) (.int 1)) (.cons (.bin .add (.idx (.loc 1) (.int 1)) (.int 1)) .nil)))))
  .nop)))
def f_date_of : Fn := { np := 1, ns := 3, dfl := [], body := b_f_date_of }
/-- [day] -/
def b_f_weekday : S := (.seq (.ret (.bin .add (.bin .mod (.call "sure_day" (.cons (.loc 0) .nil)) (.int 7)) (.int 1)))
  .nop)
def f_weekday : Fn := { np := 1, ns := 1, dfl := [], body := b_f_weekday }
/-- [_law_script, _law_k] -/
def b_f__law_cell_at : S := (.seq (.ifs (.cmp .lt (.loc 1) (.bi .len (.cons (.loc 0) .nil))) (.seq (.ret (.idx (.loc 0) (.loc 1)))
  .nop) .nop)
  (.seq (.ret (.int 0))
  .nop))
def f__law_cell_at : Fn := { np := 2, ns := 2, dfl := [], body := b_f__law_cell_at }
/-- [_law_script, _law_k, _law_one, _law_other] -/
def b_f__law_two : S := (.seq (.asg 2 (.bin .mod (.call "_law_cell_at" (.cons (.loc 0) (.cons (.loc 1) .nil))) (.idx (.lst (.cons (.bin .pow (.int 10) (.int 60)) (.cons (.int 4000) .nil))) (.bin .mod (.bin .fdiv (.loc 1) (.int 3)) (.int 2)))))
  (.seq (.asg 3 (.bin .mod (.call "_law_cell_at" (.cons (.loc 0) (.cons (.bin .add (.loc 1) (.int 1)) .nil))) (.idx (.lst (.cons (.int 4000) (.cons (.bin .pow (.int 10) (.int 60)) .nil))) (.bin .mod (.bin .fdiv (.loc 1) (.int 6)) (.int 2)))))
  (.seq (.ifs (.cmp .eq (.bin .mod (.call "_law_cell_at" (.cons (.loc 0) (.cons (.bin .add (.loc 1) (.int 2)) .nil))) (.int 2)) (.int 0)) (.seq (.asg 3 (.bin .add (.loc 2) (.bin .mod (.call "_law_cell_at" (.cons (.loc 0) (.cons (.bin .add (.loc 1) (.int 1)) .nil))) (.int 20))))
  .nop) .nop)
  (.seq (.ret (.tup (.cons (.loc 2) (.cons (.loc 3) .nil))))
  .nop))))
def f__law_two : Fn := { np := 2, ns := 4, dfl := [], body := b_f__law_two }
/-- [_law_one, _law_other, _law_left, _law_right] -/
def b_f__law_ordered : S := (.seq (.asg 2 (.call "date_of" (.cons (.loc 0) .nil)))
  (.seq (.asg 3 (.call "date_of" (.cons (.loc 1) .nil)))
  (.seq (.ifs (.cmp .lt (.loc 0) (.loc 1)) (.seq (.ret (.cmp .lt (.loc 2) (.loc 3)))
  .nop) .nop)
  (.seq (.ifs (.cmp .gt (.loc 0) (.loc 1)) (.seq (.ret (.cmp .gt (.loc 2) (.loc 3)))
  .nop) .nop)
  (.seq (.ret (.cmp .eq (.loc 2) (.loc 3)))
  .nop)))))
def f__law_ordered : Fn := { np := 2, ns := 4, dfl := [], body := b_f__law_ordered }
/-- [_law_script, _law_k, _law_one, _law_other, _law_many, _law_year, _law_week, _law_day, _law_later] -/
def b_f_law : S := (.seq (.loop [1] true (.rng (.cons (.int 0) (.cons (.bi .max (.cons (.int 1) (.cons (.bi .min (.cons (.bi .len (.cons (.loc 0) .nil)) (.cons (.int 60) .nil))) .nil))) (.cons (.int 3) .nil)))) (.seq (.unp [2, 3] (.call "_law_two" (.cons (.loc 0) (.cons (.loc 1) .nil))))
  (.seq (.ifs (.or (.not (.call "_law_ordered" (.cons (.loc 2) (.cons (.loc 3) .nil)))) (.not (.call "_law_ordered" (.cons (.loc 3) (.cons (.loc 2) .nil))))) (.seq (.ret (.bl false))
  .nop) .nop)
  (.seq (.asg 4 (.bin .mod (.bin .fdiv (.call "_law_cell_at" (.cons (.loc 0) (.cons (.bin .add (.loc 1) (.int 2)) .nil))) (.int 2)) (.bin .pow (.int 10) (.int 30))))
  (.seq (.unp [5, 6, 7] (.call "date_of" (.cons (.loc 2) .nil)))
  (.seq (.asg 8 (.bin .add (.loc 2) (.bin .mul (.int 6209) (.loc 4))))
  (.seq (.ifs (.or (.cmp .ne (.call "date_of" (.cons (.loc 8) .nil)) (.tup (.cons (.bin .add (.loc 5) (.bin .mul (.int 17) (.loc 4))) (.cons (.loc 6) (.cons (.loc 7) .nil))))) (.cmp .ne (.call "weekday" (.cons (.loc 8) .nil)) (.loc 7))) (.seq (.ret (.bl false))
  .nop) .nop)
  (.seq (.ifs (.cmp .ne (.call "day_of" (.cons (.bin .add (.loc 5) (.bin .mul (.int 17) (.loc 4))) (.cons (.loc 6) (.cons (.loc 7) .nil)))) (.loc 8)) (.seq (.ret (.bl false))
  .nop) .nop)
  (.seq (.ifs (.cmp .ne (.call "is_long" (.cons (.bin .add (.loc 5) (.bin .mul (.int 17) (.loc 4))) .nil)) (.call "is_long" (.cons (.loc 5) .nil))) (.seq (.ret (.bl false))
  .nop) .nop)
  (.seq (.ifs (.cmp .ne (.call "day_of" (.cons (.loc 5) (.cons (.loc 6) (.cons (.loc 7) .nil)))) (.loc 2)) (.seq (.ret (.bl false))
  .nop) .nop)
  .nop))))))))))
  (.seq (.ret (.bl true))
  .nop))
def f_law : Fn := { np := 1, ns := 9, dfl := [], body := b_f_law }
def prog : Prog := { fns := [(("is_whole", none), f_is_whole), (("is_long", none), f_is_long), (("long_before", none), f_long_before), (("first_week", none), f_first_week), (("year_of", none), f_year_of), (("day_of", none), f_day_of), (("sure_day", none), f_sure_day), (("date_of", none), f_date_of), (("weekday", none), f_weekday), (("_law_cell_at", none), f__law_cell_at), (("_law_two", none), f__law_two), (("_law_ordered", none), f__law_ordered), (("law", none), f_law)], consts := [], excs := ["CourtError", "NoDay"] }
@[simp ↓] theorem c_f_is_whole {go : Go} {env : Env} {st : Store} {Q : QE} {X : XC} {a0 : E} : rho (wE prog go (.call "is_whole" (.cons a0 .nil)) env st Q X) = rho (wEs prog go (.cons a0 .nil) env st (fun xs s => wMs xs s fun ds s' => wF go f_is_whole ds s' Q X) X) := congrArg rho (wE_call rfl rfl rfl)
@[simp ↓] theorem i_f_is_whole {m : Nat} {s : Store} {Q : QE} {X : XC} {d0 : D} : rho (wF (goW prog (m + 1)) f_is_whole [d0] s Q X) = rho (wS prog (goW prog m) b_f_is_whole [some d0] s (fun _ s => Q (.v .non) s) Q (fun c fs _ s => X c fs s)) := congrArg rho wF_in
@[simp ↓] theorem u_f_is_whole {go : Go} {env : Env} {s : Store} {N : NC} {T : QE} {X : XS} : rho (wS prog go b_f_is_whole env s N T X) = rho (wS prog go (.seq (.ret (.and (.isi (.loc 0) [.bi .int] true) (.not (.isi (.loc 0) [.bi .bool] true))))
  .nop) env s N T X) := rfl
@[simp ↓] theorem c_f_is_long {go : Go} {env : Env} {st : Store} {Q : QE} {X : XC} {a0 : E} : rho (wE prog go (.call "is_long" (.cons a0 .nil)) env st Q X) = rho (wEs prog go (.cons a0 .nil) env st (fun xs s => wMs xs s fun ds s' => wF go f_is_long ds s' Q X) X) := congrArg rho (wE_call rfl rfl rfl)
@[simp ↓] theorem i_f_is_long {m : Nat} {s : Store} {Q : QE} {X : XC} {d0 : D} : rho (wF (goW prog (m + 1)) f_is_long [d0] s Q X) = rho (wS prog (goW prog m) b_f_is_long [some d0] s (fun _ s => Q (.v .non) s) Q (fun c fs _ s => X c fs s)) := congrArg rho wF_in
@[simp ↓] theorem u_f_is_long {go : Go} {env : Env} {s : Store} {N : NC} {T : QE} {X : XS} : rho (wS prog go b_f_is_long env s N T X) = rho (wS prog go (.seq (.ret (.cmp .lt (.bin .mod (.bin .mul (.int 3) (.loc 0)) (.int 17)) (.int 3)))
  .nop) env s N T X) := rfl
@[simp ↓] theorem c_f_long_before {go : Go} {env : Env} {st : Store} {Q : QE} {X : XC} {a0 : E} : rho (wE prog go (.call "long_before" (.cons a0 .nil)) env st Q X) = rho (wEs prog go (.cons a0 .nil) env st (fun xs s => wMs xs s fun ds s' => wF go f_long_before ds s' Q X) X) := congrArg rho (wE_call rfl rfl rfl)
@[simp ↓] theorem i_f_long_before {m : Nat} {s : Store} {Q : QE} {X : XC} {d0 : D} : rho (wF (goW prog (m + 1)) f_long_before [d0] s Q X) = rho (wS prog (goW prog m) b_f_long_before [some d0] s (fun _ s => Q (.v .non) s) Q (fun c fs _ s => X c fs s)) := congrArg rho wF_in
@[simp ↓] theorem u_f_long_before {go : Go} {env : Env} {s : Store} {N : NC} {T : QE} {X : XS} : rho (wS prog go b_f_long_before env s N T X) = rho (wS prog go (.seq (.ret (.bin .fdiv (.bin .add (.bin .mul (.int 3) (.loc 0)) (.int 14)) (.int 17)))
  .nop) env s N T X) := rfl
@[simp ↓] theorem c_f_first_week {go : Go} {env : Env} {st : Store} {Q : QE} {X : XC} {a0 : E} : rho (wE prog go (.call "first_week" (.cons a0 .nil)) env st Q X) = rho (wEs prog go (.cons a0 .nil) env st (fun xs s => wMs xs s fun ds s' => wF go f_first_week ds s' Q X) X) := congrArg rho (wE_call rfl rfl rfl)
@[simp ↓] theorem i_f_first_week {m : Nat} {s : Store} {Q : QE} {X : XC} {d0 : D} : rho (wF (goW prog (m + 1)) f_first_week [d0] s Q X) = rho (wS prog (goW prog m) b_f_first_week [some d0] s (fun _ s => Q (.v .non) s) Q (fun c fs _ s => X c fs s)) := congrArg rho wF_in
@[simp ↓] theorem u_f_first_week {go : Go} {env : Env} {s : Store} {N : NC} {T : QE} {X : XS} : rho (wS prog go b_f_first_week env s N T X) = rho (wS prog go (.seq (.ret (.bin .add (.bin .mul (.int 52) (.loc 0)) (.call "long_before" (.cons (.loc 0) .nil))))
  .nop) env s N T X) := rfl
@[simp ↓] theorem c_f_year_of {go : Go} {env : Env} {st : Store} {Q : QE} {X : XC} {a0 : E} : rho (wE prog go (.call "year_of" (.cons a0 .nil)) env st Q X) = rho (wEs prog go (.cons a0 .nil) env st (fun xs s => wMs xs s fun ds s' => wF go f_year_of ds s' Q X) X) := congrArg rho (wE_call rfl rfl rfl)
@[simp ↓] theorem i_f_year_of {m : Nat} {s : Store} {Q : QE} {X : XC} {d0 : D} : rho (wF (goW prog (m + 1)) f_year_of [d0] s Q X) = rho (wS prog (goW prog m) b_f_year_of [some d0] s (fun _ s => Q (.v .non) s) Q (fun c fs _ s => X c fs s)) := congrArg rho wF_in
@[simp ↓] theorem u_f_year_of {go : Go} {env : Env} {s : Store} {N : NC} {T : QE} {X : XS} : rho (wS prog go b_f_year_of env s N T X) = rho (wS prog go (.seq (.ret (.bin .fdiv (.bin .add (.bin .mul (.int 17) (.loc 0)) (.int 2)) (.int 887)))
  .nop) env s N T X) := rfl
@[simp ↓] theorem c_f_day_of {go : Go} {env : Env} {st : Store} {Q : QE} {X : XC} {a0 a1 a2 : E} : rho (wE prog go (.call "day_of" (.cons a0 (.cons a1 (.cons a2 .nil)))) env st Q X) = rho (wEs prog go (.cons a0 (.cons a1 (.cons a2 .nil))) env st (fun xs s => wMs xs s fun ds s' => wF go f_day_of ds s' Q X) X) := congrArg rho (wE_call rfl rfl rfl)
@[simp ↓] theorem i_f_day_of {m : Nat} {s : Store} {Q : QE} {X : XC} {d0 d1 d2 : D} : rho (wF (goW prog (m + 1)) f_day_of [d0, d1, d2] s Q X) = rho (wS prog (goW prog m) b_f_day_of [some d0, some d1, some d2] s (fun _ s => Q (.v .non) s) Q (fun c fs _ s => X c fs s)) := congrArg rho wF_in
@[simp ↓] theorem u_f_day_of {go : Go} {env : Env} {s : Store} {N : NC} {T : QE} {X : XS} : rho (wS prog go b_f_day_of env s N T X) = rho (wS prog go (.seq (.ifs (.or (.not (.call "is_whole" (.cons (.loc 0) .nil))) (.or (.not (.call "is_whole" (.cons (.loc 1) .nil))) (.not (.call "is_whole" (.cons (.loc 2) .nil))))) (.seq (.raiseT "NoDay")
  .nop) .nop)
  (.seq (.ifs (.or (.cmp .lt (.loc 0) (.int 0)) (.or (.cmp .lt (.loc 1) (.int 1)) (.or (.cmp .lt (.loc 2) (.int 1)) (.cmp .gt (.loc 2) (.int 7))))) (.seq (.raiseT "NoDay")
  .nop) .nop)
  (.seq (.ifs (.or (.cmp .gt (.loc 1) (.int 53)) (.and (.cmp .eq (.loc 1) (.int 53)) (.not (.call "is_long" (.cons (.loc 0) .nil))))) (.seq (.raiseT "NoDay")
  .nop) .nop)
  (.seq (.ret (.bin .sub (.bin .add (.bin .mul (.int 7) (.bin .sub (.bin .add (.call "first_week" (.cons (.loc 0) .nil)) (.loc 1)) (.int 1))) (.loc 2)) (.int 1)))
  .nop)))) env s N T X) := rfl
@[simp ↓] theorem c_f_sure_day {go : Go} {env : Env} {st : Store} {Q : QE} {X : XC} {a0 : E} : rho (wE prog go (.call "sure_day" (.cons a0 .nil)) env st Q X) = rho (wEs prog go (.cons a0 .nil) env st (fun xs s => wMs xs s fun ds s' => wF go f_sure_day ds s' Q X) X) := congrArg rho (wE_call rfl rfl rfl)
@[simp ↓] theorem i_f_sure_day {m : Nat} {s : Store} {Q : QE} {X : XC} {d0 : D} : rho (wF (goW prog (m + 1)) f_sure_day [d0] s Q X) = rho (wS prog (goW prog m) b_f_sure_day [some d0] s (fun _ s => Q (.v .non) s) Q (fun c fs _ s => X c fs s)) := congrArg rho wF_in
@[simp ↓] theorem u_f_sure_day {go : Go} {env : Env} {s : Store} {N : NC} {T : QE} {X : XS} : rho (wS prog go b_f_sure_day env s N T X) = rho (wS prog go (.seq (.ifs (.or (.not (.call "is_whole" (.cons (.loc 0) .nil))) (.cmp .lt (.loc 0) (.int 0))) (.seq (.raiseT "NoDay")
  .nop) .nop)
  (.seq (.ret (.loc 0))
  .nop)) env s N T X) := rfl
@[simp ↓] theorem c_f_date_of {go : Go} {env : Env} {st : Store} {Q : QE} {X : XC} {a0 : E} : rho (wE prog go (.call "date_of" (.cons a0 .nil)) env st Q X) = rho (wEs prog go (.cons a0 .nil) env st (fun xs s => wMs xs s fun ds s' => wF go f_date_of ds s' Q X) X) := congrArg rho (wE_call rfl rfl rfl)
@[simp ↓] theorem i_f_date_of {m : Nat} {s : Store} {Q : QE} {X : XC} {d0 : D} : rho (wF (goW prog (m + 1)) f_date_of [d0] s Q X) = rho (wS prog (goW prog m) b_f_date_of [some d0, none, none] s (fun _ s => Q (.v .non) s) Q (fun c fs _ s => X c fs s)) := congrArg rho wF_in
@[simp ↓] theorem u_f_date_of {go : Go} {env : Env} {s : Store} {N : NC} {T : QE} {X : XS} : rho (wS prog go b_f_date_of env s N T X) = rho (wS prog go (.seq (.asg 1 (.bi .divmod (.cons (.call "sure_day" (.cons (.loc 0) .nil)) (.cons (.int 7) .nil))))
  (.seq (.asg 2 (.call "year_of" (.cons (.idx (.loc 1) (.int 0)) .nil)))
  (.seq (.ret (.tup (.cons (.loc 2) (.cons (.bin .add (.bin .sub (.idx (.loc 1) (.int 0)) (.call "first_week" (.cons (.loc 2) .nil))) (.int 1)) (.cons (.bin .add (.idx (.loc 1) (.int 1)) (.int 1)) .nil)))))
  .nop))) env s N T X) := rfl
@[simp ↓] theorem c_f_weekday {go : Go} {env : Env} {st : Store} {Q : QE} {X : XC} {a0 : E} : rho (wE prog go (.call "weekday" (.cons a0 .nil)) env st Q X) = rho (wEs prog go (.cons a0 .nil) env st (fun xs s => wMs xs s fun ds s' => wF go f_weekday ds s' Q X) X) := congrArg rho (wE_call rfl rfl rfl)
@[simp ↓] theorem i_f_weekday {m : Nat} {s : Store} {Q : QE} {X : XC} {d0 : D} : rho (wF (goW prog (m + 1)) f_weekday [d0] s Q X) = rho (wS prog (goW prog m) b_f_weekday [some d0] s (fun _ s => Q (.v .non) s) Q (fun c fs _ s => X c fs s)) := congrArg rho wF_in
@[simp ↓] theorem u_f_weekday {go : Go} {env : Env} {s : Store} {N : NC} {T : QE} {X : XS} : rho (wS prog go b_f_weekday env s N T X) = rho (wS prog go (.seq (.ret (.bin .add (.bin .mod (.call "sure_day" (.cons (.loc 0) .nil)) (.int 7)) (.int 1)))
  .nop) env s N T X) := rfl
@[simp ↓] theorem c_f__law_cell_at {go : Go} {env : Env} {st : Store} {Q : QE} {X : XC} {a0 a1 : E} : rho (wE prog go (.call "_law_cell_at" (.cons a0 (.cons a1 .nil))) env st Q X) = rho (wEs prog go (.cons a0 (.cons a1 .nil)) env st (fun xs s => wMs xs s fun ds s' => wF go f__law_cell_at ds s' Q X) X) := congrArg rho (wE_call rfl rfl rfl)
@[simp ↓] theorem i_f__law_cell_at {m : Nat} {s : Store} {Q : QE} {X : XC} {d0 d1 : D} : rho (wF (goW prog (m + 1)) f__law_cell_at [d0, d1] s Q X) = rho (wS prog (goW prog m) b_f__law_cell_at [some d0, some d1] s (fun _ s => Q (.v .non) s) Q (fun c fs _ s => X c fs s)) := congrArg rho wF_in
@[simp ↓] theorem u_f__law_cell_at {go : Go} {env : Env} {s : Store} {N : NC} {T : QE} {X : XS} : rho (wS prog go b_f__law_cell_at env s N T X) = rho (wS prog go (.seq (.ifs (.cmp .lt (.loc 1) (.bi .len (.cons (.loc 0) .nil))) (.seq (.ret (.idx (.loc 0) (.loc 1)))
  .nop) .nop)
  (.seq (.ret (.int 0))
  .nop)) env s N T X) := rfl
@[simp ↓] theorem c_f__law_two {go : Go} {env : Env} {st : Store} {Q : QE} {X : XC} {a0 a1 : E} : rho (wE prog go (.call "_law_two" (.cons a0 (.cons a1 .nil))) env st Q X) = rho (wEs prog go (.cons a0 (.cons a1 .nil)) env st (fun xs s => wMs xs s fun ds s' => wF go f__law_two ds s' Q X) X) := congrArg rho (wE_call rfl rfl rfl)
@[simp ↓] theorem i_f__law_two {m : Nat} {s : Store} {Q : QE} {X : XC} {d0 d1 : D} : rho (wF (goW prog (m + 1)) f__law_two [d0, d1] s Q X) = rho (wS prog (goW prog m) b_f__law_two [some d0, some d1, none, none] s (fun _ s => Q (.v .non) s) Q (fun c fs _ s => X c fs s)) := congrArg rho wF_in
@[simp ↓] theorem u_f__law_two {go : Go} {env : Env} {s : Store} {N : NC} {T : QE} {X : XS} : rho (wS prog go b_f__law_two env s N T X) = rho (wS prog go (.seq (.asg 2 (.bin .mod (.call "_law_cell_at" (.cons (.loc 0) (.cons (.loc 1) .nil))) (.idx (.lst (.cons (.bin .pow (.int 10) (.int 60)) (.cons (.int 4000) .nil))) (.bin .mod (.bin .fdiv (.loc 1) (.int 3)) (.int 2)))))
  (.seq (.asg 3 (.bin .mod (.call "_law_cell_at" (.cons (.loc 0) (.cons (.bin .add (.loc 1) (.int 1)) .nil))) (.idx (.lst (.cons (.int 4000) (.cons (.bin .pow (.int 10) (.int 60)) .nil))) (.bin .mod (.bin .fdiv (.loc 1) (.int 6)) (.int 2)))))
  (.seq (.ifs (.cmp .eq (.bin .mod (.call "_law_cell_at" (.cons (.loc 0) (.cons (.bin .add (.loc 1) (.int 2)) .nil))) (.int 2)) (.int 0)) (.seq (.asg 3 (.bin .add (.loc 2) (.bin .mod (.call "_law_cell_at" (.cons (.loc 0) (.cons (.bin .add (.loc 1) (.int 1)) .nil))) (.int 20))))
  .nop) .nop)
  (.seq (.ret (.tup (.cons (.loc 2) (.cons (.loc 3) .nil))))
  .nop)))) env s N T X) := rfl
@[simp ↓] theorem c_f__law_ordered {go : Go} {env : Env} {st : Store} {Q : QE} {X : XC} {a0 a1 : E} : rho (wE prog go (.call "_law_ordered" (.cons a0 (.cons a1 .nil))) env st Q X) = rho (wEs prog go (.cons a0 (.cons a1 .nil)) env st (fun xs s => wMs xs s fun ds s' => wF go f__law_ordered ds s' Q X) X) := congrArg rho (wE_call rfl rfl rfl)
@[simp ↓] theorem i_f__law_ordered {m : Nat} {s : Store} {Q : QE} {X : XC} {d0 d1 : D} : rho (wF (goW prog (m + 1)) f__law_ordered [d0, d1] s Q X) = rho (wS prog (goW prog m) b_f__law_ordered [some d0, some d1, none, none] s (fun _ s => Q (.v .non) s) Q (fun c fs _ s => X c fs s)) := congrArg rho wF_in
@[simp ↓] theorem u_f__law_ordered {go : Go} {env : Env} {s : Store} {N : NC} {T : QE} {X : XS} : rho (wS prog go b_f__law_ordered env s N T X) = rho (wS prog go (.seq (.asg 2 (.call "date_of" (.cons (.loc 0) .nil)))
  (.seq (.asg 3 (.call "date_of" (.cons (.loc 1) .nil)))
  (.seq (.ifs (.cmp .lt (.loc 0) (.loc 1)) (.seq (.ret (.cmp .lt (.loc 2) (.loc 3)))
  .nop) .nop)
  (.seq (.ifs (.cmp .gt (.loc 0) (.loc 1)) (.seq (.ret (.cmp .gt (.loc 2) (.loc 3)))
  .nop) .nop)
  (.seq (.ret (.cmp .eq (.loc 2) (.loc 3)))
  .nop))))) env s N T X) := rfl
theorem i_f_law {m : Nat} {s : Store} {Q : QE} {X : XC} {d0 : D} : rho (wF (goW prog (m + 1)) f_law [d0] s Q X) = rho (wS prog (goW prog m) b_f_law [some d0, none, none, none, none, none, none, none, none] s (fun _ s => Q (.v .non) s) Q (fun c fs _ s => X c fs s)) := congrArg rho wF_in
@[simp ↓] theorem r_CourtError {go : Go} {env : Env} {s : Store} {N : NC} {T : QE} {X : XS} : rho (wS prog go (.raiseT "CourtError") env s N T X) = rho (X "CourtError" [] env s) := congrArg rho (wS_raise rfl)
@[simp ↓] theorem r_NoDay {go : Go} {env : Env} {s : Store} {N : NC} {T : QE} {X : XS} : rho (wS prog go (.raiseT "NoDay") env s N T X) = rho (X "NoDay" [] env s) := congrArg rho (wS_raise rfl)

theorem prog_eq : progOf body = prog := by kernel_rfl
theorem ok_all : (defsOf body).all okDef = true := by kernel_rfl
theorem w_cell {n : Nat} {k : Int} {ns : List Int} {st : Store} {Q : QE} {X : XC} (hk : 0 ≤ k) : rho (wF (goW prog (n + 1)) f__law_cell_at [.ro (iD ns), .int k] st Q X) = rho (Q (.v (.int (cellAt ns k))) st) := by
  simp
  exact (wCellE hk).to_iff
theorem w_ordered (n : Nat) (a b : Int) (ha : 0 ≤ a) (hb : 0 ≤ b) (st : Store) : rho (wF (goW prog (n + 5)) f__law_ordered [.int a, .int b] st (fun v s => v = .v (.bl true) ∧ s = st) nX) := by
  simp [ordT_cons, ordT_nil]
  refine ⟨ha, hb, ?_⟩
  have m1 : a < b → (17 * (a / 7) + 2) / 887 ≤ (17 * (b / 7) + 2) / 887 := fun h => by omega
  have m2 : b < a → (17 * (b / 7) + 2) / 887 ≤ (17 * (a / 7) + 2) / 887 := fun h => by omega
  have m3 : ¬ a < b → ¬ b < a → a = b := fun h h' => by omega
  have m5 : a = b → (17 * (a / 7) + 2) / 887 = (17 * (b / 7) + 2) / 887 := fun h => by rw [h]
  generalize (17 * (a / 7) + 2) / 887 = y at *
  generalize (17 * (b / 7) + 2) / 887 = z at *
  have m4 : y = z → (3 * y + 14) / 17 = (3 * z + 14) / 17 := fun h => by rw [h]
  generalize (3 * y + 14) / 17 = f at *
  generalize (3 * z + 14) / 17 = g at *
  split
  · split
    · have := m4 (by assumption)
      split <;> omega
    · have := m1 (by assumption)
      omega
  · split
    · split
      · have := m4 (by assumption)
        split <;> omega
      · have := m2 (by assumption)
        omega
    · have h := m3 (by assumption) (by assumption)
      have h5 := m5 h
      have h4 := m4 h5
      omega
theorem g_two (n : Nat) (k : Int) (hk : 0 ≤ k) (ns : List Int) (st : Store) : rho (wF (goW prog (n + 2)) f__law_two [.ro (iD ns), .int k] st (fun v s => ∃ a b, v = .v (.tup [.int a, .int b]) ∧ s = st ∧ 0 ≤ a ∧ 0 ≤ b) nX) := by
  simp (disch := first | omega | (refine pk2_pos ?_ ?_ <;> omega)) [-i_f__law_cell_at, w_cell, wAt_pk2]
  have h1 : 0 ≤ cellAt ns k % pk2 1000000000000000000000000000000000000000000000000000000000000 4000 (k / 3 % 2) := Int.emod_nonneg _ (Int.ne_of_gt (pk2_pos (by omega) (by omega)))
  have h2 : 0 ≤ cellAt ns (k + 1) % pk2 4000 1000000000000000000000000000000000000000000000000000000000000 (k / 6 % 2) := Int.emod_nonneg _ (Int.ne_of_gt (pk2_pos (by omega) (by omega)))
  split
  · exact ⟨_, _, ⟨rfl, rfl⟩, h1, by omega⟩
  · exact ⟨_, _, ⟨rfl, rfl⟩, h1, h2⟩
theorem stepN (z : Int) (h : ¬ z % 17 < 3) : (z + 17) / 17 = (z + 14) / 17 := by omega
theorem g_law (ns : List Int) (h : ns.length ≤ 63) : rho (wF (goW prog 9) f_law [.ro (iD ns)] [] tr nX) := by
  rw [i_f_law]; unfold b_f_law
  simp
  refine ⟨rgc_ok (by omega) (by omega) (by omega), wFl_inv (fun i e s' => (∃ k1 k2 k3 k4 k5 k6 k7 k8, e = [some (.ro (iD ns)), k1, k2, k3, k4, k5, k6, k7, k8]) ∧ s' = []) ?_ ?_ ?_⟩
  · simp
  · rintro i d e s hd ⟨⟨k1, k2, k3, k4, k5, k6, k7, k8, rfl⟩, rfl⟩
    obtain ⟨rfl, hi⟩ := rgc_get hd
    simp [-i_f__law_two, -i_f__law_ordered]
    refine wF_use (g_two 6 _ (by omega) ns _) ?_
    rintro _ _ ⟨a, b, rfl, rfl, ha, hb⟩
    simp [-i_f__law_ordered]
    rw [congrArg rho (wF_det (w_ordered 3 a b ha hb []))]
    simp [-i_f__law_ordered]
    rw [congrArg rho (wF_det (w_ordered 3 b a hb ha []))]
    simp (disch := omega) [-i_f__law_cell_at, w_cell]
    have hm : 0 ≤ cellAt ns (↑i * 3 + 2) / 2 % 1000000000000000000000000000000 := by omega
    generalize cellAt ns (↑i * 3 + 2) / 2 % 1000000000000000000000000000000 = m at hm
    have e0 : (a + 6209 * m) / 7 = a / 7 + 887 * m := by omega
    have e4 : (a + 6209 * m) % 7 = a % 7 := by omega
    have e1 : (17 * (a / 7 + 887 * m) + 2) / 887 = (17 * (a / 7) + 2) / 887 + 17 * m := by omega
    have hy : 0 ≤ (17 * (a / 7) + 2) / 887 := by omega
    have f1 : 52 * ((17 * (a / 7) + 2) / 887) + (3 * ((17 * (a / 7) + 2) / 887) + 14) / 17 ≤ a / 7 := by omega
    have f2 : a / 7 < 52 * ((17 * (a / 7) + 2) / 887) + (3 * ((17 * (a / 7) + 2) / 887) + 31) / 17 + 52 - 1 + 1 := by omega
    have f3 : a / 7 < 52 * ((17 * (a / 7) + 2) / 887) + 52 + (3 * ((17 * (a / 7) + 2) / 887) + 17) / 17 := by omega
    rw [e0, e4, e1]
    generalize (17 * (a / 7) + 2) / 887 = y at *
    have e2 : (3 * (y + 17 * m) + 14) / 17 = (3 * y + 14) / 17 + 3 * m := by omega
    have e3 : 3 * (y + 17 * m) % 17 = 3 * y % 17 := by omega
    have e5 : ¬ 3 * y % 17 < 3 → (3 * y + 17) / 17 = (3 * y + 14) / 17 := stepN _
    have e6 : (3 * y + 17) / 17 ≤ (3 * y + 14) / 17 + 1 := by omega
    simp only [e2, e3]
    clear e0 e1 e2 e3 e4 f2 hd hi h
    generalize (3 * y + 14) / 17 = f at *
    generalize (3 * y + 17) / 17 = g at *
    have h53 : a / 7 - (52 * y + f) + 1 = 53 → 3 * y % 17 < 3 := fun h => by
      by_cases q : 3 * y % 17 < 3
      · exact q
      · have := e5 q
        omega
    have d7 : a = 7 * (a / 7) + a % 7 := by omega
    split
    · have := h53 (by assumption)
      simp only [true_and, and_true]
      and_intros <;> omega
    · simp only [true_and, and_true]
      and_intros <;> omega
  · rintro e s ⟨⟨k1, k2, k3, k4, k5, k6, k7, k8, rfl⟩, rfl⟩
    simp

abbrev R : PySem.W.OpenRow := PySem.W.OpenLaw.row PySem.Challenge.rw_termcourt_k17_seventeen_years_on
abbrev hk : PySem.W.Hook := He.hookD 6 (faOf body) (defsOf body)
def ob (s : PySem.W.SharedT) : He.AlD := He.obsDG 6 (faOf body) (defsOf body) (HandSHeadRun.getT s)
theorem ob_eq (s : PySem.W.SharedT) : ob s = hk.obs s.abs := He.obsDG_eq (HandSHeadRun.getT_eq s)
def loose : List Str := ["__name__", "CourtError", "NoDay", "is_whole", "is_long", "long_before", "first_week", "year_of", "day_of", "sure_day", "date_of", "weekday", "_law_cell_at", "_law_two", "_law_ordered"]
theorem run (w : World) : HandSHeadRun.RunEq R (PySem.W.view R.prog [18]) hk ob 1240 loose w := by
  intro os
  kernel_rfl
theorem runs (ns : List Int) (h : ns.length ≤ 63) : ∃ st, goI (progOf body) (8 + 1) f_law [.ro (ns.map D.int)] [] = .ok (.v (.bl true)) st := by
  rw [prog_eq]
  obtain ⟨v, s, e, rfl⟩ := (g_law ns h).eq
  rw [goW_eq] at e
  exact ⟨s, e⟩
theorem walk {XP : (Str → Option Value) → Heap → Prop} : PySem.W.WalkO (PySem.W.view R.prog [18]) loose XP hk.says R.toRowW (HandSHeadRun.topDef R.prog 18) [] (fun f vs => PySem.call f vs) :=
  walk_law (l := PySem.Challenge.rw_termcourt_k17_seventeen_years_on) (body := body) (m := 63) (f := f_law) 8 rfl (by decide) (by kernel_rfl) ⟨rfl, by decide, by decide⟩ (by kernel_rfl) ok_all (by kernel_rfl) (by kernel_rfl) rfl runs
end SI.K17
open PySem PySem.W PySem.Calls PyProof.Rows
theorem PySem.Challenge.cw_termcourt_k17_seventeen_years_on_holds : PySem.Challenge.rw_termcourt_k17_seventeen_years_on.Holds := by
  w_on; o_law
  refine HandSHeadRun.head_any (r := SI.K17.R) (q := view SI.K17.R.prog [18]) (H := SI.K17.hk) (ob := SI.K17.ob) (M := 1240) (loose := SI.K17.loose) (d := HandSHeadRun.topDef SI.K17.R.prog 18) (kwd := []) SI.K17.ob_eq
    (by kernel_rfl) (fun s => by kernel_rfl) SI.K17.run (by kernel_rfl) (by kernel_rfl) (by kernel_rfl) (by rfl) (by first | assumption | decide +kernel) (by decide +kernel) ⟨rfl, rfl, rfl, rfl, rfl, by decide +kernel⟩ ?hw ?hc
  case hw => w_witness2
  case hc => exact SI.K17.walk

