import PyProof.Rows.All
import Wide.All
import OpenK.AllK
import Wide.FinOn
import PySem.Challenge.RW_nz0350_01
set_option Elab.async false
set_option maxRecDepth 100000

namespace Mine
open PySem

/-- a value as the plain law sees it: trees for what never changes, `ref` for what does -/
inductive AV where
  | none | bool (b : Bool) | int (i : Int) | str (s : Str)
  | tup (l : List AV) | lst (l : List AV) | rng (n : Nat) | view (k : Nat) | ref (k : Nat)
  deriving Inhabited

mutual
noncomputable def AV.eqb : AV → AV → Bool
  | .none, .none => true
  | .bool a, .bool b => a == b
  | .int a, .int b => a == b
  | .str a, .str b => a == b
  | .tup a, .tup b => AV.eqbs a b
  | .lst a, .lst b => AV.eqbs a b
  | .rng a, .rng b => a == b
  | .view a, .view b => a == b
  | .ref a, .ref b => a == b
  | _, _ => false
noncomputable def AV.eqbs : List AV → List AV → Bool
  | [], [] => true
  | a :: l, b :: r => AV.eqb a b && AV.eqbs l r
  | _, _ => false
end

inductive AObj where
  | list (l : List AV)
  | dictE
  | dictI (es : List (Int × AV))
  | dictS (es : List (Str × AV))
  | inst (c : Nat) (fs : List (Str × AV))
  deriving Inhabited

inductive AFlow where
  | next | cont | ret (v : AV)
  deriving Inhabited

noncomputable abbrev AH := List AObj
noncomputable abbrev Loc := List (Str × AV)
noncomputable abbrev Sc := List (Str × NameKind)

/-- what the program's texts are: parameters, scope, body -/
structure FD where
  name : Str
  params : Arguments
  scope : Scope
  body : List Stmt

noncomputable def fdOf : Stmt → Option FD
  | .FunctionDef name args body _ _ _ scope _ _ _ => some ⟨name, args, scope, body⟩
  | _ => none
/-- the i-th statement of the text, a def -/
noncomputable def fdef (i : Nat) : Option FD := ((PySem.Challenge.pw_nz0350_01.main.body)[i]?).bind fdOf
/-- the j-th statement of the class that is the i-th statement -/
noncomputable def mdef (i j : Nat) : Option FD := match (PySem.Challenge.pw_nz0350_01.main.body)[i]? with
  | some (.ClassDef _ _ _ body _ _ _ _ _ _ _) => (body[j]?).bind fdOf
  | _ => none

noncomputable def kget {K α : Type} [DecidableEq K] : List (K × α) → K → Option α
  | [], _ => none
  | (k, v) :: r, x => if k = x then some v else kget r x
noncomputable def kput {K α : Type} [DecidableEq K] : List (K × α) → K → α → List (K × α)
  | [], x, v => [(x, v)]
  | (k, w) :: r, x, v => if k = x then (k, v) :: r else (k, w) :: kput r x v
noncomputable def kdel {K α : Type} [DecidableEq K] : List (K × α) → K → List (K × α)
  | [], _ => []
  | (k, w) :: r, x => if k = x then r else (k, w) :: kdel r x

/-- a bound on a list's length and on an int's size -/
noncomputable def lenLine : Nat := 100000
noncomputable def fits (i : Int) : Bool := decide (i.natAbs < 2 ^ 4000)

noncomputable def aconst : Const → Option AV
  | .none => some .none
  | .bool b => some (.bool b)
  | .int i => some (.int i)
  | .str s => some (.str s)
  | _ => none

/-- the text's own constants -/
noncomputable def conNames : List (Str × Int) := [("INITIAL_RTT", 333000), ("GRANULARITY", 1000), ("PACKET_THRESHOLD", 3), ("TIME_TOP", 9), ("TIME_BOTTOM", 8), ("INITIAL_PACKETS", 10), ("INITIAL_OCTETS", 14720), ("LEAST_PACKETS", 2), ("LOSS_TOP", 1), ("LOSS_BOTTOM", 2)]
noncomputable def gconst (x : Str) : Option AV := match kget conNames x with
  | some i => some (.int i)
  | none => if x = "SPACE_ORDER" then some (.tup [.str "initial", .str "handshake", .str "application"]) else none
/-- where a def of the text stands in it -/
noncomputable def fnNames : List (Str × Nat) := [("without_delay", 4), ("loss_delay", 10), ("is_lost", 11), ("detect_lost", 12), ("newest_time", 13), ("flight_size", 14), ("initial_window", 21), ("least_window", 22), ("probe_period", 26), ("earliest_of", 27),
  ("probe_times", 28), ("is_anything_asked", 29), ("probe_due", 30), ("_law_take", 32), ("_law_sampled", 33), ("_law_acknowledged", 34), ("_law_missed", 35), ("_law_struck", 36), ("_law_probe", 37), ("_law_send", 38), ("_law_hear", 39), ("_law_stands", 40)]
noncomputable def fidx (x : Str) : Option Nat := kget fnNames x
/-- the classes: 0 Rtt, 1 NewReno -/
noncomputable def clsNames : List (Str × Nat) := [("Rtt", 0), ("NewReno", 1)]
noncomputable def cidx (x : Str) : Option Nat := kget clsNames x
noncomputable def cplace : Nat → Nat
  | 0 => 5
  | _ => 23
noncomputable def rttNames : List (Str × Nat) := [("__init__", 0), ("smoothed", 1), ("variance", 2), ("sample", 3), ("probe_base", 4)]
noncomputable def renNames : List (Str × Nat) := [("__init__", 0), ("may_send", 1), ("is_slow_start", 2), ("in_recovery", 3), ("on_sent", 4), ("on_acked", 6), ("widen", 7), ("on_congestion", 8), ("on_lost", 9)]
noncomputable def midx (c : Nat) (x : Str) : Option Nat := if c = 0 then kget rttNames x else if c = 1 then kget renNames x else none
/-- the fields that the walk reads and stores -/
noncomputable def rttFields : List Str := ["latest", "least", "smoothed8", "variance4", "first_at"]
noncomputable def renFields : List Str := ["datagram", "window", "threshold", "recovery_at", "in_flight", "credit"]
noncomputable def isField (c : Nat) (x : Str) : Bool := if c = 0 then rttFields.any fun y => decide (x = y) else if c = 1 then renFields.any fun y => decide (x = y) else false

noncomputable def isNoneV : AV → Bool
  | .none => true
  | _ => false
noncomputable def iOf : AV → Option Int
  | .int i => some i
  | _ => none
noncomputable def sOf : AV → Option Str
  | .str x => some x
  | _ => none
noncomputable def refOfV : AV → Option Nat
  | .ref k => some k
  | _ => none
noncomputable def lOf : AV → Option (List AV)
  | .lst l => some l
  | _ => none
noncomputable def tOf : AV → Option (List AV)
  | .tup l => some l
  | _ => none
noncomputable def freeNames : List Str := ["abs", "len", "min", "max", "sum", "any", "sorted", "list", "range"]
noncomputable def abin (op : Operator) (a b : AV) : Option AV := match a, b with
  | .int i, .int j => match op with
    | .Add => some (.int (i + j))
    | .Sub => some (.int (i - j))
    | .Mult => if fits i && fits j then some (.int (i * j)) else none
    | .FloorDiv => if j ≠ 0 ∧ fits i && fits j then some (.int (i.fdiv j)) else none
    | .Mod => if j ≠ 0 then some (.int (i.fmod j)) else none
    | .Pow => if 0 ≤ j ∧ j ≤ 1000 ∧ i.natAbs < 2 ^ 64 then some (.int (i ^ j.toNat)) else none
    | _ => none
  | .int i, .bool b => match op with
    | .Add => some (.int (i + if b then 1 else 0))
    | _ => none
  | _, _ => none

/-- a list's items, a tree's or an object's -/
noncomputable def asList (H : AH) : AV → Option (List AV)
  | .lst l => some l
  | .ref k => match H[k]? with
    | some (.list l) => some l
    | _ => none
  | _ => none

/-- as the kit's data, a depth at a time -/
noncomputable def flatPD : AV → Option PyData
  | .none => some .none
  | .bool b => some (.bool b)
  | .int i => some (.int i)
  | .str s => if s.cps.all (· < 0x110000) then some (.str s) else none
  | _ => none
noncomputable def flatPDs : List AV → Option (List PyData)
  | [] => some []
  | a :: l => (flatPD a).bind fun d => (flatPDs l).map (d :: ·)
noncomputable def listPD (H : AH) (v : AV) : Option PyData := match v with
  | .lst l => (flatPDs l).map .list
  | .ref k => match H[k]? with
    | some (.list l) => (flatPDs l).map .list
    | _ => none
  | v => flatPD v
noncomputable def listPDs (H : AH) : List AV → Option (List PyData)
  | [] => some []
  | a :: l => (listPD H a).bind fun d => (listPDs H l).map (d :: ·)
noncomputable def toPD (H : AH) (v : AV) : Option PyData := match v with
  | .tup l => (listPDs H l).map .tuple
  | v => listPD H v
/-- a dict against an empty one -/
noncomputable def dictEq (H : AH) (a b : AV) : Option Bool := match a, b with
  | .ref k, .ref j => match H[k]?, H[j]? with
    | some (.dictI es), some .dictE => if k ≠ j then some es.isEmpty else none
    | some .dictE, some .dictE => if k ≠ j then some true else none
    | _, _ => none
  | _, _ => none
/-- Python's == over the kinds that the text compares -/
noncomputable def aeq (H : AH) (a b : AV) : Option Bool := match toPD H a with
  | some x => (toPD H b).map fun y => PyData.eqv x y
  | none => dictEq H a b

/-- an int in a list of ints -/
noncomputable def amem (i : Int) : List AV → Option Bool
  | [] => some false
  | .int j :: r => (amem i r).map fun b => decide (i = j) || b
  | _ => none

noncomputable def acmp (H : AH) (op : CmpOp) (a b : AV) : Option Bool := match op with
  | .Eq => aeq H a b
  | .NotEq => match toPD H a with
    | some x => (toPD H b).map fun y => !PyData.eqv x y
    | none => none
  | .Lt => (iOf a).bind fun i => (iOf b).map fun j => decide (i < j)
  | .LtE => (iOf a).bind fun i => (iOf b).map fun j => decide (i ≤ j)
  | .Gt => (iOf a).bind fun i => (iOf b).map fun j => decide (j < i)
  | .GtE => (iOf a).bind fun i => (iOf b).map fun j => decide (j ≤ i)
  | .Is => if isNoneV b = true then some (isNoneV a) else none
  | .IsNot => if isNoneV b = true then some (!isNoneV a) else none
  | .In => (iOf a).bind fun i => (tOf b).bind fun l => amem i l
  | .NotIn => (iOf a).bind fun i => (lOf b).bind fun l => (amem i l).map (!·)

noncomputable def atruth : AV → Option Bool
  | .bool b => some b
  | _ => none

/-- what a for or a comprehension goes over -/
noncomputable def aitems (H : AH) : AV → Option (List AV)
  | .lst l => some l
  | .tup l => some l
  | .rng n => some ((List.range n).map fun (i : Nat) => AV.int (i : Int))
  | .ref k => match H[k]? with
    | some (.list l) => some l
    | _ => none
  | .view k => match H[k]? with
    | some (.dictI es) => some (es.map (·.2))
    | some .dictE => some []
    | _ => none
  | _ => none
noncomputable def aguard (v : AV) (its : List AV) (H : AH) : Bool := match aitems H v with
  | some l => match v with
    | .ref _ | .view _ => AV.eqbs its l
    | _ => true
  | none => false

/-- a place counted from the end where it is negative -/
noncomputable def place (i : Int) (n : Nat) : Option Nat :=
  if n < lenLine then (if 0 ≤ i then (if i < n then some i.toNat else none) else if 0 ≤ i + n then some (i + n).toNat else none) else none

noncomputable def agetO (o : AObj) (i : AV) : Option AV := match o with
  | .list l => (iOf i).bind fun i => (place i l.length).bind fun p => l[p]?
  | .dictI es => (iOf i).bind fun i => kget es i
  | .dictS es => (sOf i).bind fun x => kget es x
  | _ => none
noncomputable def agetitem (H : AH) (v i : AV) : Option AV := match v with
  | .lst l => (iOf i).bind fun i => (place i l.length).bind fun p => l[p]?
  | .tup l => (iOf i).bind fun i => (place i l.length).bind fun p => l[p]?
  | .ref k => (H[k]?).bind fun o => agetO o i
  | _ => none

/-- what a stored item makes of an object -/
noncomputable def asetO (o : AObj) (i x : AV) : Option AObj := match o with
  | .list l => (iOf i).bind fun i => if 0 ≤ i then (place i l.length).map fun p => .list (l.set p x) else none
  | .dictI es => (iOf i).bind fun i => if es.length < lenLine then some (.dictI (kput es i x)) else none
  | .dictS es => (sOf i).bind fun y => if es.length < lenLine then some (.dictS (kput es y x)) else none
  | .dictE => match iOf i with
    | some j => some (.dictI [(j, x)])
    | none => (sOf i).map fun y => .dictS [(y, x)]
  | _ => none
noncomputable def asetitem (H : AH) (v i x : AV) : Option AH := (refOfV v).bind fun k => (H[k]?).bind fun o => (asetO o i x).map fun o' => H.set k o'

noncomputable def aslice (v : AV) (lo up : AV) : Option AV := match v with
  | .lst l => match lo, up with
    | .none, .int u => if 0 ≤ u ∧ l.length < lenLine then some (.lst (l.take u.toNat)) else none
    | .int i, .none => if i = -1 ∧ l.length < lenLine then some (.lst (l.drop (l.length - 1))) else none
    | _, _ => none
  | _ => none

noncomputable def aattr (H : AH) (v : AV) (x : Str) : Option AV := match v with
  | .ref k => match H[k]? with
    | some (.inst c fs) => if isField c x then kget fs x else none
    | _ => none
  | _ => none
noncomputable def asetattr (H : AH) (v : AV) (x : Str) (y : AV) : Option AH := match v with
  | .ref k => match H[k]? with
    | some (.inst c fs) => if isField c x ∧ fs.length < 100 then some (H.set k (.inst c (kput fs x y))) else none
    | _ => none
  | _ => none

noncomputable def intsOf : List AV → Option (List Int)
  | [] => some []
  | .int i :: r => (intsOf r).map (i :: ·)
  | _ => none
noncomputable def boolsOf : List AV → Option (List Bool)
  | [] => some []
  | .bool i :: r => (boolsOf r).map (i :: ·)
  | _ => none

noncomputable def maxL : List Int → Option Int
  | [] => none
  | a :: r => some (r.foldl (fun m x => if m < x then x else m) a)
noncomputable def minL : List Int → Option Int
  | [] => none
  | a :: r => some (r.foldl (fun m x => if x < m then x else m) a)

/-- rising strictly -/
noncomputable def rising : List Int → Bool
  | [] => true
  | [_] => true
  | a :: b :: r => decide (a < b) && rising (b :: r)

noncomputable def argL : List AV → Option (List AV)
  | [.lst l] => some l
  | _ => none
noncomputable def argI : List AV → Option Int
  | [.int i] => some i
  | _ => none
noncomputable def argII : List AV → Option (Int × Int)
  | [.int a, .int b] => some (a, b)
  | _ => none
noncomputable def argR : List AV → Option Nat
  | [.ref k] => some k
  | _ => none
noncomputable def arg1 : List AV → Option AV
  | [v] => some v
  | _ => none
noncomputable def biAbs (args : List AV) (H : AH) : Option (AV × AH) := (argI args).map fun i => (.int i.natAbs, H)
noncomputable def biLen (args : List AV) (H : AH) : Option (AV × AH) := (arg1 args).bind fun v => (asList H v).bind fun l => if l.length < lenLine then some (.int l.length, H) else none
noncomputable def biMin (args : List AV) (H : AH) : Option (AV × AH) := match argII args with
  | some p => some (.int (if p.2 < p.1 then p.2 else p.1), H)
  | none => (argL args).bind fun l => if l.length < lenLine then ((intsOf l).bind minL).map fun i => (.int i, H) else none
noncomputable def biMax (args : List AV) (H : AH) : Option (AV × AH) := match argII args with
  | some p => some (.int (if p.1 < p.2 then p.2 else p.1), H)
  | none => (argL args).bind fun l => if l.length < lenLine then ((intsOf l).bind maxL).map fun i => (.int i, H) else none
noncomputable def biSum (args : List AV) (H : AH) : Option (AV × AH) := (argL args).bind fun l => if l.length < lenLine then (intsOf l).map fun is => (.int is.sum, H) else none
noncomputable def biAny (args : List AV) (H : AH) : Option (AV × AH) := (argL args).bind fun l => if l.length < lenLine then (boolsOf l).map fun bs => (.bool (bs.any id), H) else none
noncomputable def biSorted (args : List AV) (H : AH) : Option (AV × AH) := (argR args).bind fun k => match H[k]? with
  | some (.dictI es) => if es.length < 64 ∧ rising (es.map (·.1)) then some (.lst (es.map fun e => .int e.1), H) else none
  | some .dictE => some (.lst [], H)
  | _ => none
noncomputable def biList (args : List AV) (H : AH) : Option (AV × AH) := (argL args).bind fun l => if l.length < lenLine then some (.ref H.length, H ++ [.list l]) else none
noncomputable def biRange (args : List AV) (H : AH) : Option (AV × AH) := (argI args).bind fun n => if 0 ≤ n ∧ n < lenLine then some (.rng n.toNat, H) else none
/-- the builtins: by name, a type or a function -/
noncomputable def biTable : List (String × Bool × (List AV → AH → Option (AV × AH))) :=
  [("abs", false, biAbs), ("len", false, biLen), ("min", false, biMin), ("max", false, biMax), ("sum", false, biSum), ("any", false, biAny), ("sorted", false, biSorted), ("list", true, biList), ("range", true, biRange)]
noncomputable def biIn (f : Str) (args : List AV) (H : AH) : List (String × Bool × (List AV → AH → Option (AV × AH))) → Option (AV × AH)
  | [] => none
  | p :: r => if f = Str.ofString p.1 then p.2.2 args H else biIn f args H r
noncomputable def abuiltin (f : Str) (args : List AV) (H : AH) : Option (AV × AH) := biIn f args H biTable

/-- what a method call's name finds, before its arguments are reckoned -/
inductive MRef where
  | lst (k : Nat) | dct (k : Nat) | usr (k c j : Nat)
noncomputable def amget (H : AH) (v : AV) (m : Str) : Option MRef := match v with
  | .ref k => match H[k]? with
    | some (.list _) => if m = "append" ∨ m = "pop" then some (.lst k) else none
    | some .dictE | some (.dictI _) | some (.dictS _) => if m = "pop" ∨ m = "values" ∨ m = "get" ∨ m = "update" then some (.dct k) else none
    | some (.inst c fs) => match midx c m with
      | some j => if (kget fs m).isNone then some (.usr k c j) else none
      | none => none
    | none => none
  | _ => none

noncomputable def oL : Option AObj → Option (List AV)
  | some (.list l) => some l
  | _ => none
noncomputable def oI : Option AObj → Option (List (Int × AV))
  | some (.dictI es) => some es
  | _ => none
noncomputable def oS : Option AObj → Option (List (Str × AV))
  | some (.dictS es) => some es
  | _ => none
noncomputable def oE : Option AObj → Option Unit
  | some .dictE => some ()
  | _ => none
noncomputable def argS : List AV → Option Str
  | [.str x] => some x
  | _ => none
noncomputable def arg0 : List AV → Option Unit
  | [] => some ()
  | _ => none
noncomputable def meAppend (k : Nat) (args : List AV) (H : AH) : Option (AV × AH) := (oL H[k]?).bind fun l => (arg1 args).bind fun x => if l.length < lenLine then some (.none, H.set k (.list (l ++ [x]))) else none
noncomputable def mePopL (k : Nat) (args : List AV) (H : AH) : Option (AV × AH) := (oL H[k]?).bind fun l => (argI args).bind fun i => match l with
  | x :: r => if i = 0 ∧ (x :: r).length < lenLine then some (x, H.set k (.list r)) else none
  | [] => none
noncomputable def abmethL (k : Nat) (m : Str) (args : List AV) (H : AH) : Option (AV × AH) := if m = "append" then meAppend k args H else if m = "pop" then mePopL k args H else none
noncomputable def mePopD (k : Nat) (args : List AV) (H : AH) : Option (AV × AH) := (argI args).bind fun i => (oI H[k]?).bind fun es => if es.length < lenLine then (kget es i).map fun x => (x, H.set k (.dictI (kdel es i))) else none
noncomputable def meValues (k : Nat) (args : List AV) (H : AH) : Option (AV × AH) := (arg0 args).bind fun _ => if (oI H[k]?).isSome ∨ (oE H[k]?).isSome then some (.view k, H) else none
noncomputable def meGet (k : Nat) (args : List AV) (H : AH) : Option (AV × AH) := (argS args).bind fun x => match oS H[k]? with
  | some es => some ((kget es x).getD .none, H)
  | none => (oE H[k]?).map fun _ => (.none, H)
noncomputable def meUpdate (k : Nat) (args : List AV) (H : AH) : Option (AV × AH) := (argR args).bind fun j => (oS H[k]?).bind fun es => (oS H[j]?).bind fun fs =>
  if es.length + fs.length < lenLine ∧ k ≠ j then some (.none, H.set k (.dictS (fs.foldl (fun a e => kput a e.1 e.2) es))) else none
noncomputable def abmethD (k : Nat) (m : Str) (args : List AV) (H : AH) : Option (AV × AH) :=
  if m = "pop" then mePopD k args H else if m = "values" then meValues k args H else if m = "get" then meGet k args H else if m = "update" then meUpdate k args H else none

noncomputable def aname (sc : Sc) (loc : Loc) (x : Str) : Option AV :=
  match kget sc x with
  | some .local | some .cell | some .free => kget loc x
  | some .globalImplicit => gconst x
  | _ => none

noncomputable def afor (guard : AH → Bool) (body : AV → Loc → AH → Option (AFlow × Loc × AH)) : List AV → Loc → AH → Option (AFlow × Loc × AH)
  | [], loc, H => if guard H then some (.next, loc, H) else none
  | x :: r, loc, H => if guard H then (body x loc H).bind fun p => match p.1 with
      | .ret v => some (.ret v, p.2.1, p.2.2)
      | _ => afor guard body r p.2.1 p.2.2 else none

/-- a comprehension's turns: `one` says whether an item is taken, and what it gives -/
noncomputable def acomp (guard : AH → Bool) (one : AV → AH → Option (Option AV × AH)) : List AV → AH → Option (List AV × AH)
  | [], H => if guard H then some ([], H) else none
  | x :: r, H => if guard H then (one x H).bind fun p => (acomp guard one r p.2).map fun q =>
      (match p.1 with | some y => y :: q.1 | none => q.1, q.2) else none

/-- the names that a comprehension's own do not hide -/
noncomputable def locFree (names : Sc) (loc : Loc) : Loc := loc.filter fun p => match kget names p.1 with
  | some .free => true
  | _ => false

noncomputable def isSet : Expr → Bool
  | .Set .. => true
  | _ => false
noncomputable def isStarred : Expr → Bool
  | .Starred .. => true
  | _ => false
/-- a call without arguments: super() is one -/
noncomputable def isBare : Expr → Bool
  | .Call (.Name _ _) [] [] _ => true
  | _ => false

noncomputable def isName : Expr → Bool
  | .Name .. => true
  | _ => false
noncomputable def isView : AV → Bool
  | .view _ => true
  | _ => false
noncomputable def isLocal (sc : Sc) (x : Str) : Bool := match kget sc x with
  | some .local => true
  | _ => false
noncomputable def localName (sc : Sc) : Expr → Bool
  | .Name x _ => isLocal sc x
  | _ => false
noncomputable def nameStr : Expr → Str
  | .Name x _ => x
  | _ => ""
/-- a tuple of names from a display of as many: the model stores it backwards -/
noncomputable def okSwap (sc : Sc) (ts vs : List Expr) : Bool :=
  (ts.length == 2 || ts.length == 3) && vs.length == ts.length && !(vs.any isStarred) && ts.all (fun t => localName sc t && t.pos.line == (ts.head?.map (·.pos.line)).getD 0) && decide (ts.map nameStr).Nodup && !(vs.all (foldedForSure 8)) && !(vs.all (constantsAlone 8))
noncomputable def swap2 (sc : Sc) (t v : Expr) : Bool := match t with
  | .Tuple ts _ _ => match v with
    | .Tuple vs _ _ => okSwap sc ts vs
    | _ => false
  | _ => false
/-- no such store: a single target, or one of them no name -/
noncomputable def noSwap (t v : Expr) : Bool := match t with
  | .Tuple ts _ _ => match v with
    | .Tuple _ _ _ => ts.any (!isName ·)
    | _ => true
  | .List .. => false
  | _ => true
/-- a comprehension's scope: a block of its own, what it takes from outside held in cells -/
noncomputable def okComp (sc : Sc) (scope : Scope) : Bool := (scope.kind == .function) && decide (scope.names.map (·.1)).Nodup && scope.names.all fun x =>
  x.1 != ("__debug__" : Str) && (x.2 == .local || x.2 == .globalImplicit || (x.2 == .free && match kget sc x.1 with | some .cell => true | _ => false))
noncomputable def okPair (names : Sc) : List Expr → Bool
  | [a, b] => localName names a && localName names b
  | _ => false
noncomputable def okTarget (names : Sc) : Expr → Bool
  | .Name x _ => isLocal names x
  | .Tuple l _ _ => okPair names l
  | _ => false
noncomputable def isConst : Expr → Bool
  | .Constant .. => true
  | _ => false
/-- an item of a view, or a part of it -/
noncomputable def simpleElt : Expr → Bool
  | .Name _ _ => true
  | .Subscript a b _ => isName a && isConst b
  | _ => false

/-- the target of a comprehension: names, or a pair of names -/
noncomputable def atarget : Expr → AV → Loc → Option Loc
  | .Name x _, v, loc => some (kput loc x v)
  | .Tuple [.Name x _, .Name y _] _ _, .tup [v, w], loc => some (kput (kput loc x v) y w)
  | _, _, _ => none

noncomputable def dictStr : List AV → List AV → Option (List (Str × AV))
  | [], [] => some []
  | .str x :: r, v :: vs => (dictStr r vs).map ((x, v) :: ·)
  | _, _ => none

mutual
noncomputable def aev : Nat → Sc → Loc → Expr → AH → Option (AV × AH)
  | 0, _, _, _, _ => none
  | n + 1, sc, loc, e, H => match e with
    | .Constant c _ _ => (aconst c).map fun v => (v, H)
    | .Name x _ => (aname sc loc x).map fun v => (v, H)
    | .BinOp l op r _ => (aev n sc loc l H).bind fun p => (aev n sc loc r p.2).bind fun q => (abin op p.1 q.1).map fun v => (v, q.2)
    | .UnaryOp .USub x _ => (aev n sc loc x H).bind fun p => match p.1 with
      | .int i => some (.int (-i), p.2)
      | _ => none
    | .BoolOp op vs _ => abool n sc loc op vs H
    | .Compare l [op] [r] _ => if isSet r then none else
        (aev n sc loc l H).bind fun p => (aev n sc loc r p.2).bind fun q => (acmp q.2 op p.1 q.1).map fun b => (.bool b, q.2)
    | .IfExp t b o _ => (atest n sc loc t H).bind fun p => if p.1 then aev n sc loc b p.2 else aev n sc loc o p.2
    | .Subscript v (.Slice lo up none _) _ => (aev n sc loc v H).bind fun p => (aopt n sc loc lo p.2).bind fun q => (aopt n sc loc up q.2).bind fun r =>
        (aslice p.1 q.1 r.1).map fun x => (x, r.2)
    | .Subscript v s _ => (aev n sc loc v H).bind fun p => (aev n sc loc s p.2).bind fun q => (agetitem q.2 p.1 q.1).map fun x => (x, q.2)
    | .Attribute o a _ => if isBare o then none else (aev n sc loc o H).bind fun p => (aattr p.2 p.1 a).map fun x => (x, p.2)
    | .Call (.Name f _) args [] _ => if args.length < 10 then (aevs n sc loc args H).bind fun p => if kget sc f matches some .globalImplicit then acallN n f p.1 p.2 else none else none
    | .Call (.Attribute o m apos) args [] pos => if args.length < 10 ∧ isBare o = false ∧ apos.endLine = pos.line then (aev n sc loc o H).bind fun p => (amget p.2 p.1 m).bind fun r => (aevs n sc loc args p.2).bind fun q => ameth n r m q.1 q.2 else none
    | .List es _ => (aevs n sc loc es H).bind fun p => if p.1.length < lenLine then some (.ref p.2.length, p.2 ++ [.list p.1]) else none
    | .Tuple es _ _ => (aevs n sc loc es H).bind fun p => if p.1.length < lenLine then some (.tup p.1, p.2) else none
    | .Dict ks vs _ => adict n sc loc ks vs H
    | .ListComp elt [⟨target, iter, ifs, 0⟩] scope _ => if okComp sc scope && okTarget scope.names target && !isSet iter then
        (aev n sc loc iter H).bind fun p => (aitems p.2 p.1).bind fun its => if its.length < lenLine ∧ (isView p.1 = true → ifs.isEmpty = true ∧ simpleElt elt = true) ∧ (isView p.1 = false → isName target = true) then
          (acomp (aguard p.1 its) (fun x H' => (atarget target x (locFree scope.names loc)).bind fun loc' => acompOne n scope.names loc' ifs elt H') its p.2).map fun q => (.lst q.1, q.2) else none else none
    | _ => none
noncomputable def aopt : Nat → Sc → Loc → Option Expr → AH → Option (AV × AH)
  | 0, _, _, _, _ => none
  | n + 1, sc, loc, e, H => match e with
    | none => some (.none, H)
    | some e => aev n sc loc e H
noncomputable def acompOne : Nat → Sc → Loc → List Expr → Expr → AH → Option (Option AV × AH)
  | 0, _, _, _, _, _ => none
  | n + 1, sc, loc, ifs, elt, H => match ifs with
    | [] => (aev n sc loc elt H).map fun p => (some p.1, p.2)
    | [t] => (atest n sc loc t H).bind fun p => if p.1 then (aev n sc loc elt p.2).map fun q => (some q.1, q.2) else some (none, p.2)
    | _ => none
noncomputable def aevs : Nat → Sc → Loc → List Expr → AH → Option (List AV × AH)
  | 0, _, _, _, _ => none
  | n + 1, sc, loc, es, H => match es with
    | [] => some ([], H)
    | e :: r => if isStarred e then none else (aev n sc loc e H).bind fun p => (aevs n sc loc r p.2).map fun q => (p.1 :: q.1, q.2)
noncomputable def adict : Nat → Sc → Loc → List (Option Expr) → List Expr → AH → Option (AV × AH)
  | 0, _, _, _, _, _ => none
  | n + 1, sc, loc, ks, vs, H => match ks with
    | [] => match vs with
      | [] => some (.ref H.length, H ++ [.dictE])
      | _ => none
    | _ => (adicts n sc loc ks vs (H ++ [.dictE])).bind fun p => if p.1.length ≤ 15 then (match p.2[H.length]? with
        | some .dictE => some (.ref H.length, p.2.set H.length (.dictS p.1))
        | _ => none) else none
/-- the pairs of a display whose keys are different texts -/
noncomputable def adicts : Nat → Sc → Loc → List (Option Expr) → List Expr → AH → Option (List (Str × AV) × AH)
  | 0, _, _, _, _, _ => none
  | n + 1, sc, loc, ks, vs, H => match ks, vs with
    | [], [] => some ([], H)
    | some (.Constant (.str x) _ _) :: ks, v :: vs => (aev n sc loc v H).bind fun p => (adicts n sc loc ks vs p.2).bind fun q =>
        if (kget q.1 x).isSome then none else some ((x, p.1) :: q.1, q.2)
    | _, _ => none
noncomputable def abool : Nat → Sc → Loc → BoolOp → List Expr → AH → Option (AV × AH)
  | 0, _, _, _, _, _ => none
  | n + 1, sc, loc, op, vs, H => match vs with
    | [x] => aev n sc loc x H
    | x :: y :: r => (aev n sc loc x H).bind fun p => (atruth p.1).bind fun b => match op with
      | .And => if b then abool n sc loc op (y :: r) p.2 else some p
      | .Or => if b then some p else abool n sc loc op (y :: r) p.2
    | [] => none
noncomputable def atest : Nat → Sc → Loc → Expr → AH → Option (Bool × AH)
  | 0, _, _, _, _ => none
  | n + 1, sc, loc, e, H => match e with
    | .UnaryOp .Not x _ => (atest n sc loc x H).map fun p => (!p.1, p.2)
    | .BoolOp op vs _ => aall n sc loc op vs H
    | .Compare l [op] [r] _ => if isSet r then none else
        (aev n sc loc l H).bind fun p => (aev n sc loc r p.2).bind fun q => (acmp q.2 op p.1 q.1).map fun b => (b, q.2)
    | .Name _ _ | .Subscript _ _ _ | .Call _ _ _ _ => (aev n sc loc e H).bind fun p => (atruth p.1).map fun b => (b, p.2)
    | _ => none
noncomputable def aall : Nat → Sc → Loc → BoolOp → List Expr → AH → Option (Bool × AH)
  | 0, _, _, _, _, _ => none
  | n + 1, sc, loc, op, vs, H => match vs with
    | [] => some (match op with | .And => true | .Or => false, H)
    | x :: r => (atest n sc loc x H).bind fun p => match op with
      | .And => if p.1 then aall n sc loc op r p.2 else some (false, p.2)
      | .Or => if p.1 then some (true, p.2) else aall n sc loc op r p.2
/-- a def, a class, a built-in by its name -/
noncomputable def acallN : Nat → Str → List AV → AH → Option (AV × AH)
  | 0, _, _, _ => none
  | n + 1, f, args, H => match fidx f with
    | some i => acall n (fdef i) args H
    | none => match cidx f with
      | some c => (acall n (mdef (cplace c) 0) (.ref H.length :: args) (H ++ [.inst c []])).bind fun p => match p.1 with
        | .none => some (.ref H.length, p.2)
        | _ => none
      | none => abuiltin f args H
noncomputable def ameth : Nat → MRef → Str → List AV → AH → Option (AV × AH)
  | 0, _, _, _, _ => none
  | n + 1, r, m, args, H => match r with
    | .lst k => abmethL k m args H
    | .dct k => abmethD k m args H
    | .usr k c j => acall n (mdef (cplace c) j) (.ref k :: args) H
noncomputable def acall : Nat → Option FD → List AV → AH → Option (AV × AH)
  | 0, _, _, _ => none
  | n + 1, fd, args, H => match fd with
    | none => none
    | some fd => if fd.params.args.length = args.length then
        (aexs n fd.scope.names ((fd.params.args.map (·.arg)).zip args) fd.body H).map fun p =>
          (match p.1 with | .ret v => v | _ => .none, p.2.2) else none
noncomputable def aexs : Nat → Sc → Loc → List Stmt → AH → Option (AFlow × Loc × AH)
  | 0, _, _, _, _ => none
  | n + 1, sc, loc, ss, H => match ss with
    | [] => some (.next, loc, H)
    | s :: r => (aex n sc loc s H).bind fun p => match p.1 with
      | .next => aexs n sc p.2.1 r p.2.2
      | f => some (f, p.2.1, p.2.2)
noncomputable def aex : Nat → Sc → Loc → Stmt → AH → Option (AFlow × Loc × AH)
  | 0, _, _, _, _ => none
  | n + 1, sc, loc, s, H => match s with
    | .Assign [t] v _ => if swap2 sc t v || noSwap t v then (aev n sc loc v H).bind fun p => (aassign n sc loc t p.1 p.2).map fun q => (.next, q.1, q.2) else none
    | .AugAssign (.Attribute o a _) op v _ => (aev n sc loc o H).bind fun p => (aattr p.2 p.1 a).bind fun old => (aev n sc loc v p.2).bind fun q =>
        (match op with | .Add => abin op old q.1 | .Sub => abin op old q.1 | _ => none).bind fun y => (asetattr q.2 p.1 a y).map fun H' => (.next, loc, H')
    | .Expr e _ => match e with
      | .Call _ _ _ _ => (aev n sc loc e H).map fun p => (.next, loc, p.2)
      | _ => none
    | .Return (some e) _ => (aev n sc loc e H).map fun p => (.ret p.1, loc, p.2)
    | .Return none _ => some (.ret .none, loc, H)
    | .If t b o _ => (atest n sc loc t H).bind fun p => if p.1 then aexs n sc loc b p.2 else aexs n sc loc o p.2
    | .For (.Name x _) iter body [] _ => (aev n sc loc iter H).bind fun p => (aitems p.2 p.1).bind fun its =>
        if isLocal sc x && !isSet iter && !isView p.1 && decide (its.length < lenLine) then afor (aguard p.1 its) (fun v loc' H' => aexs n sc (kput loc' x v) body H') its loc p.2 else none
    | .Continue _ => some (.cont, loc, H)
    | _ => none
noncomputable def aassign : Nat → Sc → Loc → Expr → AV → AH → Option (Loc × AH)
  | 0, _, _, _, _, _ => none
  | n + 1, sc, loc, t, v, H => match t with
    | .Name x _ => match kget sc x with
      | some .local => some (kput loc x v, H)
      | some .cell => some (kput loc x v, H)
      | _ => none
    | .Attribute o a _ => (aev n sc loc o H).bind fun p => (asetattr p.2 p.1 a v).map fun H' => (loc, H')
    | .Subscript o i _ => (aev n sc loc o H).bind fun p => (aev n sc loc i p.2).bind fun q => (asetitem q.2 p.1 q.1 v).map fun H' => (loc, H')
    | .Tuple ts _ _ => match v with
      | .tup vs => if ts.length = vs.length then aassigns n sc loc ts vs H else none
      | _ => none
    | _ => none
noncomputable def aassigns : Nat → Sc → Loc → List Expr → List AV → AH → Option (Loc × AH)
  | 0, _, _, _, _, _ => none
  | n + 1, sc, loc, ts, vs, H => match ts, vs with
    | [], [] => some (loc, H)
    | t :: ts, v :: vs => if isStarred t then none else (aassign n sc loc t v H).bind fun p => aassigns n sc p.1 ts vs p.2
    | _, _ => none
end

end Mine

namespace Mine
open PySem PySem.W PyProof.Rows PySem.SeqAt PySem.Calls

/-- all the heap's objects -/
noncomputable def isFreed : Data → Bool
  | .freed => true
  | _ => false
noncomputable def kFrom : List Obj → Nat → Frag
  | [], _ => []
  | o :: r, i => if isFreed o.data = true then kFrom r (i + 1) else (i, o) :: kFrom r (i + 1)
noncomputable def kOf (h : Heap) : Frag := kFrom h.objs.toList 0
theorem kFrom_at {a : Addr} {o : Obj} : ∀ {l : List Obj} {i : Nat}, (kFrom l i).lookup a = some o → ∃ k, a = i + k ∧ l[k]? = some o ∧ isFreed o.data = false
  | [], i, e => by cases e
  | x :: r, i, e => by
    have step : (kFrom r (i + 1)).lookup a = some o → ∃ k, a = i + k ∧ (x :: r)[k]? = some o ∧ isFreed o.data = false := fun e => by
      obtain ⟨k, h1, h2, h3⟩ := kFrom_at e
      exact ⟨k + 1, by rw [h1, Nat.add_assoc, Nat.add_comm 1], h2, h3⟩
    have e : (if isFreed x.data = true then kFrom r (i + 1) else (i, x) :: kFrom r (i + 1)).lookup a = some o := e
    by_cases h : isFreed x.data = true
    · rw [if_pos h] at e; exact step e
    · rw [if_neg h] at e
      have e : (match a == i with | true => some x | false => (kFrom r (i + 1)).lookup a) = some o := e
      cases q : a == i with
      | true =>
        rw [q] at e
        cases e
        exact ⟨0, beq_iff_eq.mp q, rfl, Bool.eq_false_iff.mpr h⟩
      | false => rw [q] at e; exact step e
theorem kOf_in (h : Heap) : (kOf h).In h := by
  intro a o e
  obtain ⟨k, h1, h2, h3⟩ := kFrom_at e
  rw [Nat.zero_add] at h1
  subst h1
  rw [Array.getElem?_toList] at h2
  unfold Heap.get?
  rw [h2]
  obtain ⟨c, d, data, sl⟩ := o
  cases data <;> first | rfl | cases h3

noncomputable def vInt : Value → Option Int
  | .int j _ => some j
  | _ => none
noncomputable def vRef : Value → Option Addr
  | .ref a => some a
  | _ => none
noncomputable def vBlt : Value → Option String
  | .builtin t => some t
  | _ => none
noncomputable def vTy : Value → Option String
  | .type t => some t
  | _ => none
noncomputable def vStr : Value → Option Str
  | .str x _ => some x
  | _ => none
noncomputable def dSeq : Data → Option (Array Value)
  | .seq a _ => some a
  | _ => none
noncomputable def dFun : Data → Option FuncData
  | .func d => some d
  | _ => none
noncomputable def bStm : FuncBody → Option (List Stmt)
  | .stmts b => some b
  | _ => none
noncomputable def there (o : Option (Option Value)) : Option Value := o.bind id
noncomputable def conB (K : Frag) (x : Str) (i : Int) : Bool := decide ((there (nsIn K mainGlobals x)).bind vInt = some i)
noncomputable def noneB (o : Option (Option Value)) : Bool := match o with
  | some v => v.isNone
  | none => false
noncomputable def refOf (o : Option (Option Value)) : Option Addr := (there o).bind vRef
noncomputable def bltB (o : Option (Option Value)) (s : String) : Bool := decide ((there o).bind vBlt = some s)
noncomputable def clsOf (K : Frag) (x : Str) : Addr := (refOf (nsIn K mainGlobals x)).getD 0
noncomputable def clsB (K : Frag) (x : Str) : Bool := (refOf (nsIn K mainGlobals x)).isSome && (makesIn K (clsOf K x) && (keepIn K (.ref (clsOf K x)) && (plainOver K (clsOf K x) && (hasDictIn K (clsOf K x) &&
  (bltB (findIn K (.ref (clsOf K x)) "__setattr__") "object.__setattr__" && (bltB (findIn K (.ref (clsOf K x)) "__getattribute__") "object.__getattribute__" && noneB (findIn K (.ref (clsOf K x)) "__getattr__")))))))
noncomputable def fieldB (K : Frag) (C : Addr) (x : Str) : Bool := match findIn K (.ref C) x with
  | some attr => noGet K attr && noneB (takerIn K C x)
  | none => false
noncomputable def strsV : List Value → Option (List Str)
  | [] => some []
  | v :: r => (vStr v).bind fun x => (strsV r).map (x :: ·)
noncomputable def tupB (K : Frag) (x : Str) : Option (List Str) := (refOf (nsIn K mainGlobals x)).bind fun a => (K.lookup a).bind fun o => if vTy o.cls = some "tuple" then (dSeq o.data).bind fun arr => strsV arr.toList else none
noncomputable def noneV : Value → Bool
  | .none => true
  | _ => false
/-- a def's text, where a plain function stands -/
noncomputable def fnB (K : Frag) (v : Option (Option Value)) : Option (Str × Arguments × List Stmt × Scope) := (refOf v).bind fun f => (K.lookup f).bind fun o => if vTy o.cls = some "function" then (dFun o.data).bind fun d => (bStm d.body).bind fun b =>
  if (decide (d.globals = mainGlobals) && (d.closure.isEmpty && (noneV d.defaults && (decide (d.builtins = builtinsNs) && codeIn K d.code d.qualname)))) = true then some (d.name, d.params, b, d.scope) else none else none
noncomputable def fdT (fd : FD) : Str × Arguments × List Stmt × Scope := (fd.name, fd.params, fd.body, fd.scope)
noncomputable def seenK (K : Frag) : Bool × Option (List Str) × List (Option (Str × Arguments × List Stmt × Scope)) :=
  ((conNames.all fun p => conB K p.1 p.2) && ((freeNames.all fun x => noneB (nsIn K mainGlobals x)) && (clsB K "Rtt" && (clsB K "NewReno" &&
    ((rttFields.all fun x => fieldB K (clsOf K "Rtt") x) && (renFields.all fun x => fieldB K (clsOf K "NewReno") x))))),
   tupB K "SPACE_ORDER",
   (fnNames.map fun p => fnB K (nsIn K mainGlobals p.1)) ++ ((rttNames.map fun p => fnB K (findIn K (.ref (clsOf K "Rtt")) p.1)) ++ renNames.map fun p => fnB K (findIn K (.ref (clsOf K "NewReno")) p.1)))
noncomputable def goodK : Bool × Option (List Str) × List (Option (Str × Arguments × List Stmt × Scope)) :=
  (true, some ["initial", "handshake", "application"], (fnNames.map fun p => (fdef p.2).map fdT) ++ ((rttNames.map fun p => (mdef 5 p.2).map fdT) ++ renNames.map fun p => (mdef 23 p.2).map fdT))
noncomputable def hook : Hook where
  α := Bool × Option (List Str) × List (Option (Str × Arguments × List Stmt × Scope))
  obs := fun s => seenK (kOf s.heap)
  val := fun _ => goodK
  says := fun _ h => ∃ K : Frag, K.In h ∧ seenK K = goodK
  of := fun _ s e => ⟨_, kOf_in s.heap, e⟩
  keeps := fun _ _ _ ⟨K, x, e⟩ k => ⟨K, x.keeps k, e⟩

end Mine

namespace Mine
open PySem PySem.W PyProof.Rows PySem.SeqAt PySem.Calls
noncomputable def vw : Program := view PySem.Challenge.pw_nz0350_01 [0, 2, 3, 4, 5, 7, 8, 9, 10, 11, 12, 13, 14, 16, 17, 18, 19, 20, 21, 22, 23, 25, 26, 27, 28, 29, 30, 32, 33, 34, 35, 36, 37, 38, 39, 40, 41]
noncomputable def xt (s : Shared) : Bool := xlAt vw [] s && recOk [] s
set_option maxHeartbeats 8000000 in
theorem top_runs : LeftO PySem.Challenge.pw_nz0350_01 vw [] xt hook.obs hook.val 3700 := fun w => by
  unfold openEnds fencedOpening topFrom
  rw [PySem.W.Fast.te10274390034422433532, PySem.W.Fast.te1435165496053646825, PySem.W.Fast.te14289696077712309145, PySem.W.Fast.te14082659384304107361, PySem.W.Fast.te14364793385576792824]
  rw [PySem.W.Fast.te4187177175401517315]
  kernel_rfl
theorem said1 : namesResolve PySem.Challenge.rw_nz0350_01.row.prog = true := by
  rw [PySem.W.Fast.te8377067652309620493]; kernel_rfl
theorem said2 : namesMeet PySem.Challenge.rw_nz0350_01.row.prog PySem.Challenge.rw_nz0350_01.row.prog.main.body (fun _ n => attrL n) = true := by
  rw [PySem.W.Fast.te17119622794617984870]; kernel_rfl
theorem said3 : looksOpen PySem.Challenge.rw_nz0350_01.row.prog = true := by
  unfold looksOpen
  rw [said1, said2, PySem.W.Fast.te8326940854005059898, PySem.W.Fast.te13343964577679436407]
  kernel_rfl
theorem row_said : PySem.Challenge.rw_nz0350_01.row.wellSaid = true := by
  unfold OpenRow.wellSaid OpenRow.partSaid
  rw [said3, PySem.W.Fast.named_eq]
  kernel_rfl
theorem well_said : PySem.Challenge.rw_nz0350_01.wellSaid = true := by
  unfold OpenLaw.wellSaid
  rw [row_said]
  rw [PySem.W.Fast.te8326940854005059898, PySem.W.Fast.te17119622794617984870, PySem.W.Fast.te9558739934217749035, PySem.W.Fast.te16286561074155671207, PySem.W.Fast.te6984425678791042302, PySem.W.Fast.te8179353310426384613, PySem.W.Fast.named_eq]
  kernel_rfl
end Mine

namespace Mine
open PySem PySem.W PyProof.Rows

theorem nos {α : Type} {a : α} {P : Prop} (h : (none : Option α) = some a) : P := by cases h
theorem nof {P : Prop} (h : false = true) : P := by cases h
theorem itl {α : Type} {c : Prop} [d : Decidable c] {x : Option α} {r : α} (h : @ite (Option α) c d none x = some r) : ¬ c ∧ x = some r := by
  cases d with
  | isTrue p => exact nos h
  | isFalse p => exact ⟨p, h⟩
theorem itr {α : Type} {c : Prop} [d : Decidable c] {x : Option α} {r : α} (h : @ite (Option α) c d x none = some r) : c ∧ x = some r := by
  cases d with
  | isTrue p => exact ⟨p, h⟩
  | isFalse p => exact nos h
theorem obC {α β : Type} {x : Option α} {f : α → Option β} {r : β} {C : Prop} (e : x.bind f = some r) (k : ∀ a, x = some a → f a = some r → C) : C := by
  induction x using Option.casesOn with
  | none => exact nos e
  | some a => exact k a rfl e
theorem obC2 {α α' β : Type} {x : Option (α × α')} {f : α × α' → Option β} {r : β} {C : Prop} (e : x.bind f = some r) (k : ∀ a a', x = some (a, a') → f (a, a') = some r → C) : C := obC e fun a => k a.1 a.2
theorem obC3 {α α' α'' β : Type} {x : Option (α × α' × α'')} {f : α × α' × α'' → Option β} {r : β} {C : Prop} (e : x.bind f = some r) (k : ∀ a a' a'', x = some (a, a', a'') → f (a, a', a'') = some r → C) : C := obC e fun a => k a.1 a.2.1 a.2.2
theorem omC {α β : Type} {x : Option α} {f : α → β} {r : β} {C : Prop} (e : x.map f = some r) (k : ∀ a, x = some a → f a = r → C) : C := by
  induction x using Option.casesOn with
  | none => exact nos e
  | some a => exact k a rfl (Option.some.inj e)
theorem omC2 {α α' β : Type} {x : Option (α × α')} {f : α × α' → β} {r : β} {C : Prop} (e : x.map f = some r) (k : ∀ a a', x = some (a, a') → f (a, a') = r → C) : C := omC e fun a => k a.1 a.2
theorem omC3 {α α' α'' β : Type} {x : Option (α × α' × α'')} {f : α × α' × α'' → β} {r : β} {C : Prop} (e : x.map f = some r) (k : ∀ a a' a'', x = some (a, a', a'') → f (a, a', a'') = r → C) : C := omC e fun a => k a.1 a.2.1 a.2.2
theorem eqP {α : Type} {P : α → Prop} {a : α} (p : P a) : ∀ b, b = a → P b := fun _ e => by cases e; exact p
theorem eqL {α : Type} {P M : α → Prop} {a : α} (p : P a) : ∀ b, b = a → M b → P b := fun _ e _ => by cases e; exact p
theorem iteS {α : Type} {c : Prop} [d : Decidable c] {x y : Option α} {r : α} {C : Prop} (e : @ite (Option α) c d x y = some r) (k1 : c → x = some r → C) (k2 : ¬ c → y = some r → C) : C := by
  cases d with
  | isTrue p => exact k1 p e
  | isFalse p => exact k2 p e
theorem kget_mem {K α : Type} [DecidableEq K] {x : K} {v : α} : ∀ {l : List (K × α)}, kget l x = some v → (x, v) ∈ l
  | [], e => nos e
  | (k, u) :: l, e => by
    have e : (if k = x then some u else kget l x) = some v := e
    refine iteS e (fun h e => ?_) fun _ e => .tail _ (kget_mem e)
    cases e; rw [h]; exact .head _
theorem all_cons {α : Type} {P : α → Prop} {a : α} {l : List α} (h : P a) (t : ∀ x ∈ l, P x) : ∀ x ∈ a :: l, P x := fun x m => by
  rcases List.mem_cons.mp m with rfl | m
  · exact h
  · exact t x m
theorem oL_inv {o : Option AObj} {l : List AV} (e : oL o = some l) : o = some (.list l) := by
  cases o with
  | none => exact nos e
  | some o =>
    induction o using Mine.AObj.casesOn with
    | list l' => exact congrArg (fun x => some (AObj.list x)) (Option.some.inj (show some l' = some l from e))
    | _ => exact nos e
theorem oI_inv {o : Option AObj} {l : List (Int × AV)} (e : oI o = some l) : o = some (.dictI l) := by
  cases o with
  | none => exact nos e
  | some o =>
    induction o using Mine.AObj.casesOn with
    | dictI l' => exact congrArg (fun x => some (AObj.dictI x)) (Option.some.inj (show some l' = some l from e))
    | _ => exact nos e
theorem oS_inv {o : Option AObj} {l : List (Str × AV)} (e : oS o = some l) : o = some (.dictS l) := by
  cases o with
  | none => exact nos e
  | some o =>
    induction o using Mine.AObj.casesOn with
    | dictS l' => exact congrArg (fun x => some (AObj.dictS x)) (Option.some.inj (show some l' = some l from e))
    | _ => exact nos e
theorem oE_inv {o : Option AObj} {l : Unit} (e : oE o = some l) : o = some .dictE := by
  cases o with
  | none => exact nos e
  | some o =>
    induction o using Mine.AObj.casesOn with
    | dictE => rfl
    | _ => exact nos e
theorem name_inv {t : Expr} (h : isName t = true) : ∃ x p, t = .Name x p := by
  induction t using PySem.Expr.casesOn with
  | Name x p => exact ⟨_, _, rfl⟩
  | _ => exact nof h
theorem const_inv {t : Expr} (h : isConst t = true) : ∃ c k p, t = .Constant c k p := by
  induction t using PySem.Expr.casesOn with
  | Constant c k p => exact ⟨_, _, _, rfl⟩
  | _ => exact nof h
theorem localName_inv {sc : Sc} {t : Expr} (h : localName sc t = true) : ∃ x p, t = .Name x p ∧ isLocal sc x = true := by
  induction t using PySem.Expr.casesOn with
  | Name x p => exact ⟨_, _, rfl, h⟩
  | _ => exact nof h
@[reducible] noncomputable def mkS (s : Shared) (h : Heap) (tk : Nat) : Shared := { s with heap := h, toks := tk }
/-- where the abstract objects lie; and what else no value may be (frames, what a loop walks with) -/
structure Phi where
  objs : List (Addr × Addr)
  ex : List Addr
/-- the addresses that the abstract objects own -/
noncomputable def Foot (φ : Phi) (a : Addr) : Prop := ∃ p ∈ φ.objs, a = p.1 ∨ a = p.2
noncomputable def Off (φ : Phi) (a : Addr) : Prop := ¬ Foot φ a ∧ a ∉ φ.ex

mutual
noncomputable def RepV (h : Heap) (φ : Phi) : AV → Value → Prop
  | .none, v => v = .none
  | .bool b, v => v = .bool b
  | .int i, v => ∃ t, v = .int i t
  | .str x, v => ∃ t, v = .str x t
  | .tup l, v => ∃ a vs, v = .ref a ∧ h.IsTuple a vs.toArray ∧ Off φ a ∧ RepVs h φ l vs
  | .lst l, v => ∃ a vs, v = .ref a ∧ h.IsList a vs.toArray ∧ Off φ a ∧ RepVs h φ l vs
  | .rng n, v => ∃ a t u w, v = .ref a ∧ IsRange h a 0 (n : Int) 1 t u w ∧ Off φ a ∧ n < lenLine
  | .view k, v => ∃ a p, v = .ref a ∧ φ.objs[k]? = some p ∧ h.IsValuesView a p.1 ∧ Off φ a
  | .ref k, v => ∃ p, φ.objs[k]? = some p ∧ v = .ref p.1
noncomputable def RepVs (h : Heap) (φ : Phi) : List AV → List Value → Prop
  | [], vs => vs = []
  | a :: l, vs => ∃ v r, vs = v :: r ∧ RepV h φ a v ∧ RepVs h φ l r
end

/-- from one state to a later one: what no abstract object owns stays (but X), the objects keep their places -/
structure StepX (X : Addr → Prop) (φ : Phi) (h : Heap) (φ' : Phi) (h' : Heap) : Prop where
  keep : ∀ b o, ¬ Foot φ b → ¬ X b → h.get? b = some o → h'.get? b = some o
  grow : ∃ r, φ'.objs = φ.objs ++ r
  ex : φ'.ex = φ.ex
  fresh : ∀ a, Foot φ' a → Foot φ a ∨ h.get? a = none
  live : ∀ a, X a → (∃ o, h.get? a = some o) → ∃ o, h'.get? a = some o
noncomputable abbrev NoX : Addr → Prop := fun _ => False
noncomputable abbrev Step (φ : Phi) (h : Heap) (φ' : Phi) (h' : Heap) : Prop := StepX NoX φ h φ' h'

theorem Foot.of_get {φ : Phi} {k : Nat} {p : Addr × Addr} (h : φ.objs[k]? = some p) : Foot φ p.1 ∧ Foot φ p.2 :=
  have m := List.mem_of_getElem? h
  ⟨⟨p, m, .inl rfl⟩, ⟨p, m, .inr rfl⟩⟩

theorem StepX.refl (X : Addr → Prop) (φ : Phi) (h : Heap) : StepX X φ h φ h := ⟨fun _ _ _ _ e => e, ⟨[], by simp⟩, rfl, fun _ a => .inl a, fun _ _ e => e⟩
theorem StepX.trans {X : Addr → Prop} {φ₁ φ₂ φ₃ : Phi} {h₁ h₂ h₃ : Heap} (x : StepX X φ₁ h₁ φ₂ h₂) (y : StepX X φ₂ h₂ φ₃ h₃) : StepX X φ₁ h₁ φ₃ h₃ := by
  obtain ⟨r, er⟩ := x.grow
  obtain ⟨r', er'⟩ := y.grow
  refine ⟨fun b o nf nx e => ?_, ⟨r ++ r', by rw [er', er]; simp⟩, y.ex.trans x.ex, fun a f => ?_, fun a q e => y.live a q (x.live a q e)⟩
  · refine y.keep b o (fun f => ?_) nx (x.keep b o nf nx e)
    rcases x.fresh b f with g | g
    · exact nf g
    · rw [e] at g; cases g
  · rcases y.fresh a f with g | g
    · exact x.fresh a g
    · cases q : h₁.get? a with
      | none => exact .inr rfl
      | some o =>
        by_cases nf : Foot φ₁ a
        · exact .inl nf
        · by_cases nx : X a
          · obtain ⟨o', e'⟩ := x.live a nx ⟨o, q⟩
            rw [e'] at g; cases g
          · rw [x.keep a o nf nx q] at g; cases g
theorem StepX.wide {X Y : Addr → Prop} {φ φ' : Phi} {h h' : Heap} (x : StepX X φ h φ' h') (w : ∀ a, X a → Y a) (l : ∀ a, Y a → (∃ o, h.get? a = some o) → ¬ Foot φ a) : StepX Y φ h φ' h' :=
  ⟨fun b o nf ny e => x.keep b o nf (fun q => ny (w _ q)) e, x.grow, x.ex, x.fresh, fun a y e => by
    by_cases q : X a
    · exact x.live a q e
    · obtain ⟨o, e⟩ := e; exact ⟨o, x.keep a o (l a y ⟨o, e⟩) q e⟩⟩
theorem Step.of_keeps {φ : Phi} {h h' : Heap} (k : ∀ b o, h.get? b = some o → h'.get? b = some o) : Step φ h φ h' := ⟨fun b o _ _ e => k b o e, ⟨[], by simp⟩, rfl, fun _ a => .inl a, fun _ f => f.elim⟩
theorem StepX.get {X : Addr → Prop} {φ φ' : Phi} {h h' : Heap} (x : StepX X φ h φ' h') {k : Nat} {p : Addr × Addr} (e : φ.objs[k]? = some p) : φ'.objs[k]? = some p := by
  obtain ⟨r, er⟩ := x.grow
  rw [er, List.getElem?_append_left (List.getElem?_eq_some_iff.mp e).1]; exact e
/-- an address that is live and owned by no abstract object stays so -/
theorem StepX.nfoot {X : Addr → Prop} {φ φ' : Phi} {h h' : Heap} (x : StepX X φ h φ' h') {a : Addr} {o : Obj} (e : h.get? a = some o) (n : ¬ Foot φ a) : ¬ Foot φ' a := fun f => by
  rcases x.fresh a f with g | g
  · exact n g
  · rw [e] at g; cases g
theorem StepX.off {X : Addr → Prop} {φ φ' : Phi} {h h' : Heap} (x : StepX X φ h φ' h') {a : Addr} {o : Obj} (e : h.get? a = some o) (n : Off φ a) : Off φ' a := ⟨x.nfoot e n.1, by rw [x.ex]; exact n.2⟩
theorem StepX.at {X : Addr → Prop} {φ φ' : Phi} {h h' : Heap} (x : StepX X φ h φ' h') (hX : ∀ a, X a → a ∈ φ.ex) {a : Addr} {o : Obj} (n : Off φ a) (e : h.get? a = some o) : h'.get? a = some o := x.keep a o n.1 (fun q => n.2 (hX a q)) e

mutual
theorem RepV.stepX {X : Addr → Prop} {φ φ' : Phi} {h h' : Heap} (x : StepX X φ h φ' h') (hX : ∀ a, X a → a ∈ φ.ex) : ∀ (v : AV) (c : Value), RepV h φ v c → RepV h' φ' v c
  | .none, c, r => by simpa only [RepV] using r
  | .bool b, c, r => by simpa only [RepV] using r
  | .int i, c, r => by simpa only [RepV] using r
  | .str s, c, r => by simpa only [RepV] using r
  | .tup l, c, r => by
    simp only [RepV] at r ⊢
    obtain ⟨a, vs, e, ht, nf, rs⟩ := r
    exact ⟨a, vs, e, ht.at fun o q => x.at hX nf q, by obtain ⟨o, q, _⟩ := ht; exact x.off q nf, RepVs.stepX x hX l vs rs⟩
  | .lst l, c, r => by
    simp only [RepV] at r ⊢
    obtain ⟨a, vs, e, ht, nf, rs⟩ := r
    exact ⟨a, vs, e, ht.at fun o q => x.at hX nf q, by obtain ⟨o, q, _⟩ := ht; exact x.off q nf, RepVs.stepX x hX l vs rs⟩
  | .rng n, c, r => by
    simp only [RepV] at r ⊢
    obtain ⟨a, t, u, w, e, hr, nf, hn⟩ := r
    exact ⟨a, t, u, w, e, x.at hX nf hr, x.off hr nf, hn⟩
  | .view k, c, r => by
    simp only [RepV] at r ⊢
    obtain ⟨a, p, e, hp, hv, nf⟩ := r
    obtain ⟨o, q, z⟩ := hv
    exact ⟨a, p, e, x.get hp, ⟨o, x.at hX nf q, z⟩, x.off q nf⟩
  | .ref k, c, r => by
    simp only [RepV] at r ⊢
    obtain ⟨p, e, z⟩ := r
    exact ⟨p, x.get e, z⟩
theorem RepVs.stepX {X : Addr → Prop} {φ φ' : Phi} {h h' : Heap} (x : StepX X φ h φ' h') (hX : ∀ a, X a → a ∈ φ.ex) : ∀ (l : List AV) (vs : List Value), RepVs h φ l vs → RepVs h' φ' l vs
  | [], vs, r => by simpa only [RepVs] using r
  | a :: l, vs, r => by
    simp only [RepVs] at r ⊢
    obtain ⟨v, r', e, h1, h2⟩ := r
    exact ⟨v, r', e, RepV.stepX x hX a v h1, RepVs.stepX x hX l r' h2⟩
end
theorem RepV.step {φ φ' : Phi} {h h' : Heap} (x : Step φ h φ' h') (v : AV) (c : Value) (r : RepV h φ v c) : RepV h' φ' v c := RepV.stepX x (fun _ f => f.elim) v c r
theorem RepVs.step {φ φ' : Phi} {h h' : Heap} (x : Step φ h φ' h') (v : List AV) (c : List Value) (r : RepVs h φ v c) : RepVs h' φ' v c := RepVs.stepX x (fun _ f => f.elim) v c r

-- what is left out may be let in again, and new places may be left out
mutual
theorem RepV.reex {φ ψ : Phi} {h : Heap} (ho : ψ.objs = φ.objs) (x : ∀ a o, h.get? a = some o → a ∉ φ.ex → a ∉ ψ.ex) : ∀ (v : AV) (c : Value), RepV h φ v c → RepV h ψ v c
  | .none, c, r => by simpa only [RepV] using r
  | .bool b, c, r => by simpa only [RepV] using r
  | .int i, c, r => by simpa only [RepV] using r
  | .str s, c, r => by simpa only [RepV] using r
  | .tup l, c, r => by
    simp only [RepV] at r ⊢
    obtain ⟨a, vs, e, ht, nf, rs⟩ := r
    refine ⟨a, vs, e, ht, ?_, RepVs.reex ho x l vs rs⟩
    obtain ⟨o, q, _⟩ := ht
    exact ⟨by unfold Foot at *; rw [ho]; exact nf.1, x a o q nf.2⟩
  | .lst l, c, r => by
    simp only [RepV] at r ⊢
    obtain ⟨a, vs, e, ht, nf, rs⟩ := r
    refine ⟨a, vs, e, ht, ?_, RepVs.reex ho x l vs rs⟩
    obtain ⟨o, q, _⟩ := ht
    exact ⟨by unfold Foot at *; rw [ho]; exact nf.1, x a o q nf.2⟩
  | .rng n, c, r => by
    simp only [RepV] at r ⊢
    obtain ⟨a, t, u, w, e, hr, nf, hn⟩ := r
    exact ⟨a, t, u, w, e, hr, ⟨by unfold Foot at *; rw [ho]; exact nf.1, x a _ hr nf.2⟩, hn⟩
  | .view k, c, r => by
    simp only [RepV] at r ⊢
    obtain ⟨a, p, e, hp, hv, nf⟩ := r
    refine ⟨a, p, e, by rw [ho]; exact hp, hv, ?_⟩
    obtain ⟨o, q, z⟩ := hv
    exact ⟨by unfold Foot at *; rw [ho]; exact nf.1, x a o q nf.2⟩
  | .ref k, c, r => by
    simp only [RepV] at r ⊢
    rw [ho]; exact r
theorem RepVs.reex {φ ψ : Phi} {h : Heap} (ho : ψ.objs = φ.objs) (x : ∀ a o, h.get? a = some o → a ∉ φ.ex → a ∉ ψ.ex) : ∀ (l : List AV) (vs : List Value), RepVs h φ l vs → RepVs h ψ l vs
  | [], vs, r => by simpa only [RepVs] using r
  | a :: l, vs, r => by
    simp only [RepVs] at r ⊢
    obtain ⟨v, r', e, h1, h2⟩ := r
    exact ⟨v, r', e, RepV.reex ho x a v h1, RepVs.reex ho x l r' h2⟩
end

theorem RepVs.length {h : Heap} {φ : Phi} : ∀ {l : List AV} {vs : List Value}, RepVs h φ l vs → vs.length = l.length
  | [], vs, r => by simp only [RepVs] at r; subst r; rfl
  | a :: l, vs, r => by
    simp only [RepVs] at r
    obtain ⟨v, r', rfl, _, h2⟩ := r
    simp only [List.length_cons, h2.length]
theorem RepVs.get {h : Heap} {φ : Phi} : ∀ {l : List AV} {vs : List Value} {i : Nat} {a : AV}, RepVs h φ l vs → l[i]? = some a → ∃ v, vs[i]? = some v ∧ RepV h φ a v
  | [], vs, i, a, r, e => by simp at e
  | b :: l, vs, i, a, r, e => by
    simp only [RepVs] at r
    obtain ⟨v, r', rfl, h1, h2⟩ := r
    cases i with
    | zero => simp at e; subst e; exact ⟨v, by simp, h1⟩
    | succ i => simp at e; obtain ⟨x, hx, hr⟩ := h2.get e; exact ⟨x, by simpa using hx, hr⟩
theorem RepVs.get' {h : Heap} {φ : Phi} : ∀ {l : List AV} {vs : List Value} {i : Nat} {v : Value}, RepVs h φ l vs → vs[i]? = some v → ∃ a, l[i]? = some a ∧ RepV h φ a v
  | [], vs, i, a, r, e => by simp only [RepVs] at r; subst r; simp at e
  | b :: l, vs, i, a, r, e => by
    simp only [RepVs] at r
    obtain ⟨v, r', rfl, h1, h2⟩ := r
    cases i with
    | zero => simp at e; subst e; exact ⟨b, by simp, h1⟩
    | succ i => simp at e; obtain ⟨x, hx, hr⟩ := h2.get' e; exact ⟨x, by simpa using hx, hr⟩
theorem RepVs.nil {h : Heap} {φ : Phi} : RepVs h φ [] [] := by simp only [RepVs]
theorem RepVs.cons {h : Heap} {φ : Phi} {a : AV} {v : Value} {l : List AV} {vs : List Value} (x : RepV h φ a v) (y : RepVs h φ l vs) : RepVs h φ (a :: l) (v :: vs) := by
  simp only [RepVs]; exact ⟨v, vs, rfl, x, y⟩
theorem RepVs.append {h : Heap} {φ : Phi} : ∀ {l l' : List AV} {vs vs' : List Value}, RepVs h φ l vs → RepVs h φ l' vs' → RepVs h φ (l ++ l') (vs ++ vs')
  | [], l', vs, vs', x, y => by simp only [RepVs] at x; subst x; simpa using y
  | a :: l, l', vs, vs', x, y => by
    simp only [RepVs] at x
    obtain ⟨v, r, rfl, h1, h2⟩ := x
    exact RepVs.cons h1 (h2.append y)
theorem RepVs.set {h : Heap} {φ : Phi} {a : AV} {v : Value} (x : RepV h φ a v) : ∀ {l : List AV} {vs : List Value} (i : Nat), RepVs h φ l vs → RepVs h φ (l.set i a) (vs.set i v)
  | [], vs, i, r => by simp only [RepVs] at r; subst r; simp [RepVs]
  | b :: l, vs, i, r => by
    simp only [RepVs] at r
    obtain ⟨w, r', rfl, h1, h2⟩ := r
    cases i with
    | zero => exact RepVs.cons x h2
    | succ i => exact RepVs.cons h1 (RepVs.set x i h2)
theorem RepVs.take {h : Heap} {φ : Phi} : ∀ {l : List AV} {vs : List Value} (i : Nat), RepVs h φ l vs → RepVs h φ (l.take i) (vs.take i)
  | [], vs, i, r => by simp only [RepVs] at r; subst r; simp [RepVs]
  | b :: l, vs, i, r => by
    simp only [RepVs] at r
    obtain ⟨w, r', rfl, h1, h2⟩ := r
    cases i with
    | zero => simp [RepVs]
    | succ i => exact RepVs.cons h1 (RepVs.take i h2)
theorem RepVs.drop {h : Heap} {φ : Phi} : ∀ {l : List AV} {vs : List Value} (i : Nat), RepVs h φ l vs → RepVs h φ (l.drop i) (vs.drop i)
  | [], vs, i, r => by simp only [RepVs] at r; subst r; simp [RepVs]
  | b :: l, vs, i, r => by
    simp only [RepVs] at r
    obtain ⟨w, r', rfl, h1, h2⟩ := r
    cases i with
    | zero => exact RepVs.cons h1 h2
    | succ i => exact RepVs.drop i h2

noncomputable def RepKV {K : Type} (h : Heap) (φ : Phi) : List (K × AV) → List (K × Value) → Prop
  | [], r => r = []
  | (k, v) :: l, r => ∃ c r', r = (k, c) :: r' ∧ RepV h φ v c ∧ RepKV h φ l r'
theorem RepKV.stepX {K : Type} {X : Addr → Prop} {φ φ' : Phi} {h h' : Heap} (x : StepX X φ h φ' h') (hX : ∀ a, X a → a ∈ φ.ex) : ∀ (l : List (K × AV)) (r : List (K × Value)), RepKV h φ l r → RepKV h' φ' l r
  | [], _, e => e
  | (_, v) :: l, _, ⟨c, r', e, h1, h2⟩ => ⟨c, r', e, RepV.stepX x hX v c h1, RepKV.stepX x hX l r' h2⟩
theorem RepKV.reex {K : Type} {φ ψ : Phi} {h : Heap} (ho : ψ.objs = φ.objs) (x : ∀ a o, h.get? a = some o → a ∉ φ.ex → a ∉ ψ.ex) : ∀ (l : List (K × AV)) (r : List (K × Value)), RepKV h φ l r → RepKV h ψ l r
  | [], _, e => e
  | (_, v) :: l, _, ⟨c, r', e, h1, h2⟩ => ⟨c, r', e, RepV.reex ho x v c h1, RepKV.reex ho x l r' h2⟩
theorem RepKV.length {K : Type} {φ : Phi} {h : Heap} : ∀ {l : List (K × AV)} {r : List (K × Value)}, RepKV h φ l r → r.length = l.length
  | [], r, e => by cases e; rfl
  | (k, v) :: l, r, ⟨c, r', e, h1, h2⟩ => by subst e; simp only [List.length_cons, h2.length]
theorem RepKV.keys {K : Type} {φ : Phi} {h : Heap} : ∀ {l : List (K × AV)} {r : List (K × Value)}, RepKV h φ l r → r.map (·.1) = l.map (·.1)
  | [], r, e => by cases e; rfl
  | (k, v) :: l, r, ⟨c, r', e, h1, h2⟩ => by subst e; simp only [List.map_cons, h2.keys]
theorem RepKV.vals {K : Type} {φ : Phi} {h : Heap} : ∀ {l : List (K × AV)} {r : List (K × Value)}, RepKV h φ l r → RepVs h φ (l.map (·.2)) (r.map (·.2))
  | [], r, e => by cases e; exact RepVs.nil
  | (k, v) :: l, r, ⟨c, r', e, h1, h2⟩ => by subst e; exact RepVs.cons h1 h2.vals
end Mine

namespace Mine
open PySem PySem.W PyProof.Rows

/-- the ground of the walk: the written part, the heap at the call's start, the top's names, the classes -/
structure Glb where
  K : Frag
  hb : Heap
  mg : Str → Option Value
  mb : Str → Option Value
  C : Nat → Addr

/-- a def stands at an address as its text says -/
noncomputable def FnAt (G : Glb) (f : Addr) (fd : FD) : Prop :=
  ∃ oc od osl qual kV doc pm an cdv ct, G.K.lookup f = some ⟨oc, od, .func (fnOf fd.name qual fd.params fd.body fd.scope .none kV doc pm an cdv ct), osl⟩ ∧ codeIn G.K cdv qual = true

/-- what is asked of a def's head: plain parameters, all of them its own names, a plain function's scope -/
noncomputable def okFD (fd : FD) : Bool :=
  fd.params.posonlyargs.isEmpty && fd.params.vararg.isNone && fd.params.kwonlyargs.isEmpty && fd.params.kwarg.isNone && !fd.scope.isCoroutine && !fd.scope.isGenerator && (fd.scope.kind == .function) &&
  (fd.params.args.map (·.arg)).Nodup && (fd.scope.names.map (·.1)).Nodup &&
  (fd.params.args.all fun a => fd.scope.names.lookup a.arg == some .local || fd.scope.names.lookup a.arg == some .cell) &&
  fd.scope.names.all fun x => x.2 != .free && x.1 != ("__debug__" : Str)

structure GOk (G : Glb) : Prop where
  kin : G.K.In G.hb
  nolimit : G.hb.NoLimit
  gns : G.hb.Ns mainGlobals G.mg
  bns : G.hb.Ns builtinsNs G.mb
  fn : ∀ x i fd, fidx x = some i → fdef i = some fd → okFD fd = true ∧ ∃ f, G.mg x = some (.ref f) ∧ FnAt G f fd
  gc : ∀ x v, gconst x = some v → ∃ c, G.mg x = some c ∧ RepV G.hb ⟨[], []⟩ v c
  bi : ∀ s ∈ (["abs", "len", "min", "max", "sum", "any", "sorted"] : List String), G.mg (Str.ofString s) = none ∧ G.mb (Str.ofString s) = some (.builtin s)
  ty : ∀ s ∈ (["list", "range"] : List String), G.mg (Str.ofString s) = none ∧ G.mb (Str.ofString s) = some (.type s)
  cl : ∀ x c, cidx x = some c → G.mg x = some (.ref (G.C c)) ∧ makesIn G.K (G.C c) = true ∧ keepIn G.K (.ref (G.C c)) = true
  init : ∀ c fd, c < 2 → mdef (cplace c) 0 = some fd → okFD fd = true ∧ ∃ f, findIn G.K (.ref (G.C c)) "__init__" = some (some (.ref f)) ∧ typeIn G.K (.ref f) = some (.type "function") ∧ FnAt G f fd
  meth : ∀ c m j fd, midx c m = some j → mdef (cplace c) j = some fd → okFD fd = true ∧ ∃ f, findIn G.K (.ref (G.C c)) m = some (some (.ref f)) ∧ isFn G.K (.ref f) = true ∧ FnAt G f fd
  plain : ∀ c, c < 2 → plainOver G.K (G.C c) = true ∧ hasDictIn G.K (G.C c) = true ∧ findIn G.K (.ref (G.C c)) "__setattr__" = some (some (.builtin "object.__setattr__")) ∧
    findIn G.K (.ref (G.C c)) "__getattribute__" = some (some (.builtin "object.__getattribute__")) ∧ findIn G.K (.ref (G.C c)) "__getattr__" = some none
  field : ∀ c x, isField c x = true → (∃ attr, findIn G.K (.ref (G.C c)) x = some attr ∧ noGet G.K attr = true) ∧ takerIn G.K (G.C c) x = some none

/-- an abstract object, at its address(es) -/
noncomputable def RepO (prog : Program) (w : World) (G : Glb) (h : Heap) (φ : Phi) : AObj → Addr × Addr → Prop
  | .list l, p => p.2 = p.1 ∧ ∃ vs, h.PlainList p.1 vs.toArray ∧ RepVs h φ l vs
  | .dictE, p => p.2 = p.1 ∧ h.get? p.1 = some emptyDict
  | .dictI es, p => p.2 = p.1 ∧ ∃ kvs, h.DictOf (intKind prog w) p.1 kvs ∧ RepKV h φ es kvs
  | .dictS es, p => p.2 = p.1 ∧ ∃ kvs, h.DictOf (strKind prog w) p.1 kvs ∧ RepKV h φ es kvs
  | .inst c fs, p => c < 2 ∧ p.2 ≠ p.1 ∧ h.get? p.1 = some (instObj (G.C c) p.2) ∧ ∃ es ep, h.get? p.2 = some { cls := .type "dict", data := .dict es ep } ∧ StrKeys es ∧ es.size ≤ fs.length ∧
      ∀ x, match kget fs x with | some v => ∃ cv, nsFind es x = some cv ∧ RepV h φ v cv | none => nsFind es x = none

theorem RepO.stepX {prog : Program} {w : World} {G : Glb} {X : Addr → Prop} {φ φ' : Phi} {h h' : Heap} (x : StepX X φ h φ' h') (hX : ∀ a, X a → a ∈ φ.ex) {o : AObj} {p : Addr × Addr}
    (k1 : ∀ o, h.get? p.1 = some o → h'.get? p.1 = some o) (k2 : ∀ o, h.get? p.2 = some o → h'.get? p.2 = some o) (r : RepO prog w G h φ o p) : RepO prog w G h' φ' o p := by
  induction o using Mine.AObj.casesOn with
  | list l => obtain ⟨e, vs, hl, hr⟩ := r; exact ⟨e, vs, hl.at k1, hr.stepX x hX⟩
  | dictE => exact ⟨r.1, k1 _ r.2⟩
  | dictI es => obtain ⟨e, kvs, ⟨o, es', ep, ho, z⟩, hr⟩ := r; exact ⟨e, kvs, ⟨o, es', ep, k1 _ ho, z⟩, hr.stepX x hX⟩
  | dictS es => obtain ⟨e, kvs, ⟨o, es', ep, ho, z⟩, hr⟩ := r; exact ⟨e, kvs, ⟨o, es', ep, k1 _ ho, z⟩, hr.stepX x hX⟩
  | inst c fs =>
    obtain ⟨hc, e, h1, es, ep, h2, hs, hz, hf⟩ := r
    refine ⟨hc, e, k1 _ h1, es, ep, k2 _ h2, hs, hz, fun y => ?_⟩
    have := hf y
    split at this
    · obtain ⟨cv, a, b⟩ := this; exact ⟨cv, a, b.stepX x hX⟩
    · exact this
theorem RepO.reex {prog : Program} {w : World} {G : Glb} {φ ψ : Phi} {h : Heap} (ho : ψ.objs = φ.objs) (x : ∀ a o, h.get? a = some o → a ∉ φ.ex → a ∉ ψ.ex) {o : AObj} {p : Addr × Addr}
    (r : RepO prog w G h φ o p) : RepO prog w G h ψ o p := by
  induction o using Mine.AObj.casesOn with
  | list l => obtain ⟨e, vs, hl, hr⟩ := r; exact ⟨e, vs, hl, hr.reex ho x⟩
  | dictE => exact r
  | dictI es => obtain ⟨e, kvs, z, hr⟩ := r; exact ⟨e, kvs, z, hr.reex ho x⟩
  | dictS es => obtain ⟨e, kvs, z, hr⟩ := r; exact ⟨e, kvs, z, hr.reex ho x⟩
  | inst c fs =>
    obtain ⟨hc, e, h1, es, ep, h2, hs, hz, hf⟩ := r
    refine ⟨hc, e, h1, es, ep, h2, hs, hz, fun y => ?_⟩
    have := hf y
    split at this
    · obtain ⟨cv, a, b⟩ := this; exact ⟨cv, a, b.reex ho x⟩
    · exact this
theorem RepO.live {prog : Program} {w : World} {G : Glb} {φ : Phi} {h : Heap} {o : AObj} {p : Addr × Addr} (r : RepO prog w G h φ o p) : (∃ x, h.get? p.1 = some x) ∧ ∃ x, h.get? p.2 = some x := by
  have one : p.2 = p.1 → (∃ x, h.get? p.1 = some x) → (∃ x, h.get? p.1 = some x) ∧ ∃ x, h.get? p.2 = some x := fun e y => ⟨y, by rw [e]; exact y⟩
  induction o using Mine.AObj.casesOn with
  | list l => obtain ⟨e, vs, ⟨o, ho⟩, hr⟩ := r; exact one e ⟨_, ho⟩
  | dictE => exact one r.1 ⟨_, r.2⟩
  | dictI es => obtain ⟨e, kvs, ⟨o, _, _, ho, _⟩, hr⟩ := r; exact one e ⟨o, ho⟩
  | dictS es => obtain ⟨e, kvs, ⟨o, _, _, ho, _⟩, hr⟩ := r; exact one e ⟨o, ho⟩
  | inst c fs =>
    obtain ⟨hc, e, h1, es, ep, h2, hs, hz, hf⟩ := r
    exact ⟨⟨_, h1⟩, _, h2⟩

/-- the abstract heap lies in the model's -/
structure Rel (prog : Program) (w : World) (G : Glb) (φ : Phi) (H : AH) (h : Heap) : Prop where
  len : φ.objs.length = H.length
  exb : ∀ a ∈ φ.ex, G.hb.get? a = none
  base : ∀ b o, G.hb.get? b = some o → h.get? b = some o
  off : ∀ a, Foot φ a → G.hb.get? a = none
  mod : ∀ a, Foot φ a → (a == sysModules) = false
  sep : ∀ (i j : Nat) (p q : Addr × Addr), φ.objs[i]? = some p → φ.objs[j]? = some q → i ≠ j → p.1 ≠ q.1 ∧ p.1 ≠ q.2 ∧ p.2 ≠ q.1 ∧ p.2 ≠ q.2
  exl : ∀ a ∈ φ.ex, (∃ o, h.get? a = some o) ∧ ¬ Foot φ a
  obj : ∀ (k : Nat) (o : AObj), H[k]? = some o → ∃ p, φ.objs[k]? = some p ∧ RepO prog w G h φ o p

section
variable {prog : Program} {w : World} {G : Glb} {φ φ' : Phi} {H : AH} {h h' : Heap}

theorem Rel.live (R : Rel prog w G φ H h) {a : Addr} (f : Foot φ a) : ∃ o, h.get? a = some o := by
  obtain ⟨p, hp, e⟩ := f
  obtain ⟨k, hk⟩ := List.getElem?_of_mem hp
  have : k < H.length := by rw [← R.len]; exact (List.getElem?_eq_some_iff.mp hk).1
  obtain ⟨q, hq, r⟩ := R.obj k H[k] (by simp [this])
  rw [hk] at hq; cases hq
  rcases e with rfl | rfl
  · exact r.live.1
  · exact r.live.2
theorem Rel.nfoot (R : Rel prog w G φ H h) {a : Addr} (e : h.get? a = none) : ¬ Foot φ a := fun f => by
  obtain ⟨o, q⟩ := R.live f; rw [e] at q; cases q
theorem Rel.base_off (R : Rel prog w G φ H h) {a : Addr} {o : Obj} (e : G.hb.get? a = some o) : ¬ Foot φ a := fun f => by rw [R.off a f] at e; cases e

theorem Rel.high (g : GOk G) (R : Rel prog w G φ H h) : (h.objs.size == sysModules) = false := by
  obtain ⟨_, ⟨o, _, _, ho, _⟩, _⟩ := g.nolimit
  have := Heap.lt_size (R.base _ _ ho)
  exact beq_eq_false_iff_ne.mpr (Nat.ne_of_gt (Nat.lt_trans (by decide) this))
theorem Rel.high' (g : GOk G) (R : Rel prog w G φ H h) {a : Addr} (q : h.objs.size ≤ a) : (a == sysModules) = false := by
  obtain ⟨_, ⟨o, _, _, ho, _⟩, _⟩ := g.nolimit
  have := Heap.lt_size (R.base _ _ ho)
  exact beq_eq_false_iff_ne.mpr (Nat.ne_of_gt (Nat.lt_of_lt_of_le (Nat.lt_trans (by decide) this) q))
theorem fresh_none {h : Heap} {a : Addr} (q : h.objs.size ≤ a) : h.get? a = none := by
  cases e : h.get? a with
  | none => rfl
  | some o => exact absurd (Heap.lt_size e) (Nat.not_lt.mpr q)

/-- a new place is no value's and no object's -/
theorem Rel.offNew (R : Rel prog w G φ H h) {a : Addr} (e : h.get? a = none) : Off φ a :=
  ⟨R.nfoot e, fun m => by obtain ⟨⟨o, q⟩, _⟩ := R.exl a m; rw [e] at q; cases q⟩

/-- what is kept whole keeps the relation -/
theorem Rel.keeps (R : Rel prog w G φ H h) (k : ∀ b o, h.get? b = some o → h'.get? b = some o) : Rel prog w G φ H h' :=
  ⟨R.len, R.exb, fun b o e => k b o (R.base b o e), R.off, R.mod, R.sep, fun a m => ⟨by obtain ⟨⟨o, e⟩, _⟩ := R.exl a m; exact ⟨o, k _ _ e⟩, (R.exl a m).2⟩, fun i o e => by
    obtain ⟨p, hp, r⟩ := R.obj i o e
    exact ⟨p, hp, r.stepX (Step.of_keeps k) (fun _ f => f.elim) (fun o => k _ o) (fun o => k _ o)⟩⟩
/-- a frame's own store keeps the relation -/
theorem Rel.frame (R : Rel prog w G φ H h) {X : Addr → Prop} (k : ∀ b o, ¬ X b → h.get? b = some o → h'.get? b = some o) (hX : ∀ a, X a → a ∈ φ.ex ∧ ¬ Foot φ a ∧ G.hb.get? a = none)
    (hl : ∀ a, X a → (∃ o, h.get? a = some o) → ∃ o, h'.get? a = some o) : Rel prog w G φ H h' ∧ StepX X φ h φ h' := by
  have st : StepX X φ h φ h' := ⟨fun b o _ nx e => k b o nx e, ⟨[], by simp⟩, rfl, fun _ a => .inl a, hl⟩
  refine ⟨⟨R.len, R.exb, fun b o e => k b o (fun x => ?_) (R.base b o e), R.off, R.mod, R.sep, fun a m => ⟨?_, (R.exl a m).2⟩, fun i o e => ?_⟩, st⟩
  · rw [(hX b x).2.2] at e; cases e
  · by_cases q : X a
    · exact hl a q (R.exl a m).1
    · obtain ⟨⟨o, e⟩, _⟩ := R.exl a m; exact ⟨o, k _ _ q e⟩
  · obtain ⟨p, hp, r⟩ := R.obj i o e
    have f := Foot.of_get hp
    exact ⟨p, hp, r.stepX st (fun a x => (hX a x).1) (fun o e => k _ o (fun x => (hX _ x).2.1 f.1) e) (fun o e => k _ o (fun x => (hX _ x).2.1 f.2) e)⟩

/-- new places are left out (a frame is entered) -/
theorem Rel.frame1 (R : Rel prog w G φ H h) {I : Addr} (k : ∀ b o, b ≠ I → h.get? b = some o → h'.get? b = some o) (m : I ∈ φ.ex) (lv : ∃ o, h'.get? I = some o) : Rel prog w G φ H h' ∧ StepX (fun b => b = I) φ h φ h' :=
  R.frame (X := fun b => b = I) (fun b o n e => k b o n e) (eqP ⟨m, (R.exl _ m).2, R.exb _ m⟩) (eqL lv)
theorem Rel.enter (R : Rel prog w G φ H h) (E : List Addr) (k : ∀ b o, h.get? b = some o → h'.get? b = some o) (n : ∀ a ∈ E, h.get? a = none ∧ ∃ o, h'.get? a = some o) :
    Rel prog w G ⟨φ.objs, E ++ φ.ex⟩ H h' := by
  have x : ∀ a o, h.get? a = some o → a ∉ φ.ex → a ∉ E ++ φ.ex := fun a o e q m => by
    rcases List.mem_append.mp m with m | m
    · rw [(n a m).1] at e; cases e
    · exact q m
  have nf : ∀ a, Foot ⟨φ.objs, E ++ φ.ex⟩ a → Foot φ a := fun a f => f
  have hbn : ∀ a, h.get? a = none → G.hb.get? a = none := fun a e => by
    cases q : G.hb.get? a with
    | none => rfl
    | some o => rw [R.base a o q] at e; cases e
  refine ⟨R.len, fun a m => (List.mem_append.mp m).elim (fun m => hbn a (n a m).1) (R.exb a), fun b o e => k b o (R.base b o e), fun a f => R.off a (nf a f), fun a f => R.mod a (nf a f), R.sep, fun a m => ?_, fun i o e => ?_⟩
  · rcases List.mem_append.mp m with m | m
    · exact ⟨(n a m).2, fun f => R.nfoot (n a m).1 (nf a f)⟩
    · obtain ⟨⟨o, e⟩, q⟩ := R.exl a m; exact ⟨⟨o, k _ _ e⟩, fun f => q (nf a f)⟩
  · obtain ⟨p, hp, r⟩ := R.obj i o e
    exact ⟨p, hp, (r.reex (φ := φ) (ψ := ⟨φ.objs, E ++ φ.ex⟩) rfl x).stepX (Step.of_keeps k) (fun _ f => f.elim) (fun o => k _ o) (fun o => k _ o)⟩
/-- places are let in again (a frame is left) -/
theorem Rel.leave (R : Rel prog w G φ H h) {ex : List Addr} (x : ∀ a ∈ ex, a ∈ φ.ex) : Rel prog w G ⟨φ.objs, ex⟩ H h := by
  have nf : ∀ a, Foot ⟨φ.objs, ex⟩ a → Foot φ a := fun a f => f
  refine ⟨R.len, fun a m => R.exb a (x a m), R.base, fun a f => R.off a (nf a f), fun a f => R.mod a (nf a f), R.sep, fun a m => ⟨(R.exl a (x a m)).1, fun f => (R.exl a (x a m)).2 (nf a f)⟩, fun i o e => ?_⟩
  obtain ⟨p, hp, r⟩ := R.obj i o e
  exact ⟨p, hp, r.reex (φ := φ) (ψ := ⟨φ.objs, ex⟩) rfl (fun a _ _ q m => q (x a m))⟩

/-- one object is changed in place -/
theorem Rel.set (R : Rel prog w G φ H h) {k : Nat} {p : Addr × Addr} {o' : AObj} (hp : φ.objs[k]? = some p) (kp : ∀ b o, b ≠ p.1 → b ≠ p.2 → h.get? b = some o → h'.get? b = some o)
    (ho : RepO prog w G h' φ o' p) : Rel prog w G φ (H.set k o') h' ∧ Step φ h φ h' := by
  have f := Foot.of_get hp
  have st : Step φ h φ h' := ⟨fun b o nf _ e => kp b o (fun q => nf (q ▸ f.1)) (fun q => nf (q ▸ f.2)) e, ⟨[], by simp⟩, rfl, fun _ a => .inl a, fun _ x => x.elim⟩
  refine ⟨⟨by rw [List.length_set]; exact R.len, R.exb, fun b o e => ?_, R.off, R.mod, R.sep, fun a m => ⟨by obtain ⟨⟨o, e⟩, q⟩ := R.exl a m; exact ⟨o, kp a o (fun z => q (z ▸ f.1)) (fun z => q (z ▸ f.2)) e⟩, (R.exl a m).2⟩, fun i o e => ?_⟩, st⟩
  · exact kp b o (fun q => R.base_off e (q ▸ f.1)) (fun q => R.base_off e (q ▸ f.2)) (R.base b o e)
  · by_cases hik : i = k
    · subst hik
      have hlt : i < H.length := by rw [← R.len]; exact (List.getElem?_eq_some_iff.mp hp).1
      simp [List.getElem?_set, hlt] at e
      subst e
      exact ⟨p, hp, ho⟩
    · rw [List.getElem?_set_ne (Ne.symm hik)] at e
      obtain ⟨q, hq, r⟩ := R.obj i o e
      obtain ⟨s1, s2, s3, s4⟩ := R.sep i k q p hq hp hik
      exact ⟨q, hq, r.stepX st (fun _ f => f.elim) (fun o e => kp _ o s1 s2 e) (fun o e => kp _ o s3 s4 e)⟩

/-- a new object -/
theorem Rel.snoc (R : Rel prog w G φ H h) {p : Addr × Addr} {o : AObj} (k : ∀ b x, h.get? b = some x → h'.get? b = some x) (f1 : h.get? p.1 = none) (f2 : h.get? p.2 = none)
    (m1 : (p.1 == sysModules) = false) (m2 : (p.2 == sysModules) = false) (ho : RepO prog w G h' ⟨φ.objs ++ [p], φ.ex⟩ o p) : Rel prog w G ⟨φ.objs ++ [p], φ.ex⟩ (H ++ [o]) h' ∧ Step φ h ⟨φ.objs ++ [p], φ.ex⟩ h' := by
  have hf : ∀ a, Foot ⟨φ.objs ++ [p], φ.ex⟩ a → Foot φ a ∨ (a = p.1 ∨ a = p.2) := by
    rintro a ⟨q, hq, e⟩
    rcases List.mem_append.mp hq with z | z
    · exact .inl ⟨q, z, e⟩
    · cases List.mem_singleton.mp z; exact .inr e
  have st : Step φ h ⟨φ.objs ++ [p], φ.ex⟩ h' := ⟨fun b o _ _ e => k b o e, ⟨[p], rfl⟩, rfl, fun a f => (hf a f).imp_right (by rintro (rfl | rfl) <;> assumption), fun _ x => x.elim⟩
  have nb : ∀ a, h.get? a = none → G.hb.get? a = none := fun a e => by
    cases q : G.hb.get? a with
    | none => rfl
    | some o => rw [R.base a o q] at e; cases e
  refine ⟨⟨by simp [R.len], R.exb, fun b o e => k b o (R.base b o e), fun a f => ?_, fun a f => ?_, fun i j q r hi hj hij => ?_, fun a m => ?_, fun i x e => ?_⟩, st⟩
  · rcases hf a f with z | rfl | rfl
    · exact R.off a z
    · exact nb _ f1
    · exact nb _ f2
  · rcases hf a f with z | rfl | rfl
    · exact R.mod a z
    · exact m1
    · exact m2
  · have split : ∀ {i : Nat} {q : Addr × Addr}, (φ.objs ++ [p])[i]? = some q → (φ.objs[i]? = some q) ∨ (i = φ.objs.length ∧ q = p) := by
      intro i q hi
      rcases Nat.lt_or_ge i φ.objs.length with z | z
      · rw [List.getElem?_append_left z] at hi; exact .inl hi
      · rw [List.getElem?_append_right z] at hi
        have : i - φ.objs.length = 0 := by
          cases q' : i - φ.objs.length with
          | zero => rfl
          | succ n => rw [q'] at hi; simp at hi
        rw [this] at hi; simp at hi
        exact .inr ⟨by omega, hi.symm⟩
    have old : ∀ {q : Addr × Addr} {i : Nat}, φ.objs[i]? = some q → q.1 ≠ p.1 ∧ q.1 ≠ p.2 ∧ q.2 ≠ p.1 ∧ q.2 ≠ p.2 := by
      intro q i hq
      have f := Foot.of_get hq
      obtain ⟨o1, l1⟩ := R.live f.1
      obtain ⟨o2, l2⟩ := R.live f.2
      refine ⟨fun z => ?_, fun z => ?_, fun z => ?_, fun z => ?_⟩
      · rw [z, f1] at l1; cases l1
      · rw [z, f2] at l1; cases l1
      · rw [z, f1] at l2; cases l2
      · rw [z, f2] at l2; cases l2
    rcases split hi with a | ⟨a, rfl⟩ <;> rcases split hj with b | ⟨b, rfl⟩
    · exact R.sep i j q r a b hij
    · exact old a
    · obtain ⟨z1, z2, z3, z4⟩ := old b; exact ⟨z1.symm, z3.symm, z2.symm, z4.symm⟩
    · exact absurd (a.trans b.symm) hij
  · obtain ⟨⟨o, e⟩, q⟩ := R.exl a m
    refine ⟨⟨o, k _ _ e⟩, fun f => ?_⟩
    rcases hf a f with z | rfl | rfl
    · exact q z
    · rw [f1] at e; cases e
    · rw [f2] at e; cases e
  · rcases Nat.lt_or_ge i H.length with z | z
    · rw [List.getElem?_append_left z] at e
      obtain ⟨q, hq, r⟩ := R.obj i x e
      exact ⟨q, st.get hq, r.stepX st (fun _ f => f.elim) (fun o e => k _ o e) (fun o e => k _ o e)⟩
    · rw [List.getElem?_append_right z] at e
      have : i - H.length = 0 := by
        cases q' : i - H.length with
        | zero => rfl
        | succ n => rw [q'] at e; simp at e
      rw [this] at e; simp at e; subst e
      have : i = φ.objs.length := by rw [R.len]; omega
      subst this
      exact ⟨p, by simp, ho⟩
end

/-- a frame: its names as the plain law has them -/
structure FrR (G : Glb) (env : Env) (loc : Loc) (φ : Phi) (h : Heap) : Prop where
  kind : env.scope.kind = .function
  glob : env.globals = mainGlobals
  bui : env.builtins = builtinsNs
  ns : ∃ m, h.Ns env.locals m ∧ ∀ x v, env.kindOf x = some .local → kget loc x = some v → ∃ c, m x = some c ∧ RepV h φ v c
  cell : ∀ x, env.kindOf x = some .cell → ∃ a ov, env.cells.lookup x = some a ∧ h.IsCell a ov ∧ ∀ v, kget loc x = some v → ∃ c, ov = some c ∧ RepV h φ v c
  apart : ∀ x y a, env.cells.lookup x = some a → env.cells.lookup y = some a → x = y
  offL : env.locals ∈ φ.ex ∧ ¬ Foot φ env.locals ∧ G.hb.get? env.locals = none
  offC : ∀ x a, env.cells.lookup x = some a → a ∈ φ.ex ∧ ¬ Foot φ a ∧ G.hb.get? a = none ∧ ∃ ov, h.IsCell a ov
  nofree : ∀ x, env.kindOf x ≠ some .free

/-- the frame's own addresses -/
noncomputable def Own (env : Env) (a : Addr) : Prop := a = env.locals ∨ ∃ x, env.cells.lookup x = some a

/-- the abstract names' kinds are the frame's -/
noncomputable def ScR (sc : Sc) (env : Env) : Prop := ∀ x, match kget sc x with
  | some .local => env.kindOf x = some .local
  | some .cell => env.kindOf x = some .cell
  | some .free => env.kindOf x = some .cell
  | some .globalImplicit => env.kindOf x = some .globalImplicit
  | _ => True

section
variable {G : Glb} {env : Env} {loc : Loc} {φ φ' : Phi} {h h' : Heap}
theorem FrR.step (F : FrR G env loc φ h) (x : Step φ h φ' h') : FrR G env loc φ' h' where
  kind := F.kind
  glob := F.glob
  bui := F.bui
  ns := by
    obtain ⟨m, hn, hm⟩ := F.ns
    exact ⟨m, hn.at' fun o e => x.keep _ _ F.offL.2.1 (fun f => f) e, fun y v k e => by obtain ⟨c, a, b⟩ := hm y v k e; exact ⟨c, a, b.step x⟩⟩
  cell := fun y k => by
    obtain ⟨a, ov, e, hc, hv⟩ := F.cell y k
    refine ⟨a, ov, e, ?_, fun v q => by obtain ⟨c, a, b⟩ := hv v q; exact ⟨c, a, b.step x⟩⟩
    obtain ⟨o, ho, z⟩ := hc
    exact ⟨o, x.keep _ _ (F.offC y a e).2.1 (fun f => f) ho, z⟩
  apart := F.apart
  offL := ⟨by rw [x.ex]; exact F.offL.1, by obtain ⟨m, ⟨o, _, _, ho, _⟩, _⟩ := F.ns; exact x.nfoot ho F.offL.2.1, F.offL.2.2⟩
  offC := fun y a e => by
    obtain ⟨h1, h2, h3, ov, o, ho, z⟩ := F.offC y a e
    exact ⟨by rw [x.ex]; exact h1, x.nfoot ho h2, h3, ov, o, x.keep _ _ h2 (fun f => f) ho, z⟩
  nofree := F.nofree

theorem Own.ex (F : FrR G env loc φ h) {a : Addr} (o : Own env a) : a ∈ φ.ex ∧ ¬ Foot φ a ∧ G.hb.get? a = none := by
  rcases o with rfl | ⟨x, e⟩
  · exact F.offL
  · obtain ⟨h1, h2, h3, _⟩ := F.offC x a e; exact ⟨h1, h2, h3⟩
theorem Own.live (F : FrR G env loc φ h) {a : Addr} (o : Own env a) : ∃ o, h.get? a = some o := by
  rcases o with rfl | ⟨x, e⟩
  · obtain ⟨m, ⟨o, _, _, ho, _⟩, _⟩ := F.ns; exact ⟨o, ho⟩
  · obtain ⟨_, _, _, ov, o, ho, _⟩ := F.offC x a e; exact ⟨o, ho⟩
/-- a cell is no frame -/
theorem FrR.cellL (F : FrR G env loc φ h) {x : Str} {a : Addr} (e : env.cells.lookup x = some a) : a ≠ env.locals := by
  obtain ⟨_, _, _, ov, o, ho, z⟩ := F.offC x a e
  obtain ⟨m, ⟨o', es, ep, ho', z', _⟩, _⟩ := F.ns
  rintro rfl
  rw [ho] at ho'; cases ho'; rw [z] at z'; cases z'

theorem kget_kput {K α : Type} [DecidableEq K] (l : List (K × α)) (x y : K) (v : α) : kget (kput l x v) y = if x = y then some v else kget l y := by
  induction l with
  | nil => simp only [kput, kget]
  | cons p r ih =>
    obtain ⟨k, w⟩ := p
    simp only [kput]
    by_cases hk : k = x
    · subst hk
      rw [if_pos rfl]
      simp only [kget]
      by_cases hy : k = y
      · rw [if_pos hy, if_pos hy]
      · rw [if_neg hy, if_neg hy, if_neg hy]
    · rw [if_neg hk]
      simp only [kget]
      by_cases hy : k = y
      · subst hy; rw [if_pos rfl, if_pos rfl, if_neg (Ne.symm hk)]
      · rw [if_neg hy, if_neg hy, ih]
end
end Mine

namespace Mine
open PySem PySem.W PyProof.Rows PySem.SeqAt

noncomputable abbrev NoE : Value → Shared → Prop := fun _ _ => False

/-- a step that leaves all that was there, and gives the value v -/
noncomputable def Quiet (φ : Phi) (s : Shared) (v : AV) (c : Value) (s' : Shared) : Prop := Keeps s s' ∧ RepV s'.heap φ v c
theorem Keeps.toks (s : Shared) (t : Nat) : Keeps s { s with toks := t } := ⟨s.heap, t, rfl, fun _ _ e => e⟩
theorem Keeps.rfl' (s : Shared) : Keeps s s := ⟨s.heap, s.toks, rfl, fun _ _ e => e⟩
theorem Keeps.heap {s : Shared} {h' : Heap} (t : Nat) (k : ∀ b o, s.heap.get? b = some o → h'.get? b = some o) : Keeps s (mkS s h' t) := ⟨h', t, rfl, k⟩

theorem RepV.int {h : Heap} {φ : Phi} (i : Int) (t : Tok) : RepV h φ (.int i) (.int i t) := by simp only [RepV]; exact ⟨t, rfl⟩
theorem RepV.bool {h : Heap} {φ : Phi} (b : Bool) : RepV h φ (.bool b) (.bool b) := by simp only [RepV]
theorem RepV.none {h : Heap} {φ : Phi} : RepV h φ .none .none := by simp only [RepV]
theorem RepV.str {h : Heap} {φ : Phi} (x : Str) (t : Tok) : RepV h φ (.str x) (.str x t) := by simp only [RepV]; exact ⟨t, rfl⟩

theorem fits_bits {i : Int} (h : fits i = true) : Builtin.Int.intBits i ≤ 4001 := by
  have h' : i.natAbs < 2 ^ 4000 := of_decide_eq_true h
  unfold Builtin.Int.intBits
  split
  · exact Nat.zero_le _
  · rename_i q
    have h0 : i.natAbs ≠ 0 := fun e => q (by simp at e; simp [e])
    have := (Nat.log2_lt h0).mpr h'
    omega
theorem fits_mul {i j : Int} (h : fits i = true) (h' : fits j = true) : IntMulOk i j := by
  have a := fits_bits h
  have b := fits_bits h'
  unfold IntMulOk
  have : Builtin.Int.intTooBig ((Builtin.Int.intBits i : Int) + Builtin.Int.intBits j) = false := by
    unfold Builtin.Int.intTooBig bitsLine
    exact decide_eq_false (by omega)
  simp [this]
theorem fits_div {i j : Int} (h' : fits j = true) : Builtin.divisionGoesByPylong i j = false := by
  refine PyProof.noPylong_of_log2 ?_
  have h' : j.natAbs < 2 ^ 4000 := of_decide_eq_true h'
  by_cases h0 : j.natAbs = 0
  · rw [h0]; decide +kernel
  · have := (Nat.log2_lt h0).mpr h'; omega

section
variable {prog : Program} {w : World} {A : Around} {G : Glb} {φ : Phi} {H : AH} {s : Shared}

theorem iOf_inv {h : Heap} {i : AV} {j : Int} {c : Value} (e : iOf i = some j) (r : RepV h φ i c) : ∃ t, c = .int j t := by
  induction i using Mine.AV.casesOn with
  | int k =>
    cases Option.some.inj (show some k = some j from e)
    simp only [RepV] at r; exact r
  | _ => exact nos e
theorem sOf_inv {h : Heap} {i : AV} {x : Str} {c : Value} (e : sOf i = some x) (r : RepV h φ i c) : ∃ t, c = .str x t := by
  induction i using Mine.AV.casesOn with
  | str k =>
    cases Option.some.inj (show some k = some x from e)
    simp only [RepV] at r; exact r
  | _ => exact nos e
theorem refOfV_inv {h : Heap} {v : AV} {k : Nat} {c : Value} (e : refOfV v = some k) (r : RepV h φ v c) : ∃ p, φ.objs[k]? = some p ∧ c = .ref p.1 := by
  induction v using Mine.AV.casesOn with
  | ref j =>
    cases Option.some.inj (show some j = some k from e)
    simp only [RepV] at r; exact r
  | _ => exact nos e
theorem lOf_inv {h : Heap} {v : AV} {l : List AV} {c : Value} (e : lOf v = some l) (r : RepV h φ v c) : ∃ ad vs, c = .ref ad ∧ h.IsList ad vs.toArray ∧ RepVs h φ l vs := by
  induction v using Mine.AV.casesOn with
  | lst l' =>
    cases Option.some.inj (show some l' = some l from e)
    simp only [RepV] at r
    obtain ⟨ad, vs, rfl, hL, _, rs⟩ := r
    exact ⟨ad, vs, rfl, hL, rs⟩
  | _ => exact nos e
theorem tOf_inv {h : Heap} {v : AV} {l : List AV} {c : Value} (e : tOf v = some l) (r : RepV h φ v c) : ∃ ad vs, c = .ref ad ∧ h.IsTuple ad vs.toArray ∧ RepVs h φ l vs := by
  induction v using Mine.AV.casesOn with
  | tup l' =>
    cases Option.some.inj (show some l' = some l from e)
    simp only [RepV] at r
    obtain ⟨ad, vs, rfl, hL, _, rs⟩ := r
    exact ⟨ad, vs, rfl, hL, rs⟩
  | _ => exact nos e
theorem bin_ints {op : Operator} {i j : Int} {t u : Tok} {v : AV} (e : abin op (.int i) (.int j) = some v) : wpAny (model prog w) A (binaryOp op (.int i t) (.int j u)) (Quiet φ s v) NoE s := by
  induction op using PySem.Operator.casesOn with
  | Add => cases Option.some.inj (show some (AV.int (i + j)) = some v from e); exact add_int ⟨Keeps.toks _ _, .int _ _⟩
  | Sub => cases Option.some.inj (show some (AV.int (i - j)) = some v from e); exact sub_int ⟨Keeps.toks _ _, .int _ _⟩
  | Mult =>
    obtain ⟨q, e⟩ := itr e
    cases e
    exact mul_int (hm := fits_mul (Bool.and_eq_true_iff.mp q).1 (Bool.and_eq_true_iff.mp q).2) ⟨Keeps.toks _ _, .int _ _⟩
  | FloorDiv =>
    obtain ⟨q, e⟩ := itr e
    cases e
    exact floordiv_int q.1 ⟨Keeps.toks _ _, .int _ _⟩ (.inl (fits_div (Bool.and_eq_true_iff.mp q.2).2))
  | Mod =>
    obtain ⟨q, e⟩ := itr e
    cases e
    exact mod_int q ⟨Keeps.toks _ _, .int _ _⟩
  | Pow =>
    obtain ⟨q, e⟩ := itr e
    cases e
    exact pow_int_small q.1 (by omega) q.2.2 ⟨Keeps.toks _ _, .int _ _⟩
  | _ => exact nos e
theorem sim_bin {op : Operator} {a b v : AV} {ca cb : Value} (e : abin op a b = some v) (ra : RepV s.heap φ a ca) (rb : RepV s.heap φ b cb) :
    wpAny (model prog w) A (binaryOp op ca cb) (Quiet φ s v) NoE s := by
  induction a using Mine.AV.casesOn with
  | int i =>
    simp only [RepV] at ra
    obtain ⟨t, rfl⟩ := ra
    induction b using Mine.AV.casesOn with
    | int j =>
      simp only [RepV] at rb
      obtain ⟨u, rfl⟩ := rb
      exact bin_ints e
    | bool b =>
      simp only [RepV] at rb
      subst rb
      induction op using PySem.Operator.casesOn with
      | Add => cases Option.some.inj (show some (AV.int (i + if b then 1 else 0)) = some v from e); exact PySem.add_int_bool ⟨Keeps.toks _ _, .int _ _⟩
      | _ => exact nos e
    | _ => exact nos e
  | _ => exact nos e

theorem sim_neg {i : Int} {c : Value} (r : RepV s.heap φ (.int i) c) : wpAny (model prog w) A (unaryOp .USub c) (Quiet φ s (.int (-i))) NoE s := by
  simp only [RepV] at r
  obtain ⟨t, rfl⟩ := r
  exact neg_int ⟨Keeps.toks _ _, .int _ _⟩

theorem sim_truth {v : AV} {b : Bool} {c : Value} (e : atruth v = some b) (r : RepV s.heap φ v c) : wpAny (model prog w) A (truthy c) (fun x s' => x = b ∧ s' = s) NoE s := by
  cases v <;> simp only [atruth] at e <;> try cases e
  simp only [RepV] at r
  subst r
  exact wpAny_truthy_bool ⟨rfl, rfl⟩

theorem flatPD_reads {h : Heap} {v : AV} {c : Value} {d : PyData} (e : flatPD v = some d) (r : RepV h φ v c) : Reads h c d [] ∧ d.canLay0 = true ∧ d.depth = 0 := by
  induction v using Mine.AV.casesOn with
  | none => cases Option.some.inj (show some PyData.none = some d from e); simp only [RepV] at r; subst r; exact ⟨.none, rfl, rfl⟩
  | bool b => cases Option.some.inj (show some (PyData.bool b) = some d from e); simp only [RepV] at r; subst r; exact ⟨.bool _, rfl, rfl⟩
  | int i => cases Option.some.inj (show some (PyData.int i) = some d from e); simp only [RepV] at r; obtain ⟨t, rfl⟩ := r; exact ⟨.int _ _, rfl, rfl⟩
  | str x =>
    obtain ⟨q, e⟩ := itr e
    cases e
    simp only [RepV] at r; obtain ⟨t, rfl⟩ := r
    exact ⟨.str _ _, q, rfl⟩
  | _ => exact nos e
theorem flatPDs_reads {h : Heap} : ∀ {l : List AV} {vs : List Value} {ds : List PyData}, flatPDs l = some ds → RepVs h φ l vs → ReadsAll h vs ds [] ∧ PyData.canLayAll0 ds = true ∧ PyData.depthAll ds = 0
  | [], vs, ds, e, r => by
    simp only [flatPDs] at e; cases e
    simp only [RepVs] at r; subst r
    exact ⟨.nil, rfl, rfl⟩
  | a :: l, vs, ds, e, r => by
    simp only [flatPDs] at e
    refine obC e fun d hd e => ?_
    refine omC e fun ds' hds er_ => ?_
    subst er_
    simp only [RepVs] at r
    obtain ⟨v, r', rfl, h1, h2⟩ := r
    obtain ⟨x1, x2, x3⟩ := flatPD_reads hd h1
    obtain ⟨y1, y2, y3⟩ := flatPDs_reads hds h2
    exact ⟨.cons x1 y1, by simp only [PyData.canLayAll0, x2, y2, Bool.and_self], by simp only [PyData.depthAll, x3, y3]; rfl⟩
theorem listPD_reads {h : Heap} {v : AV} {c : Value} {d : PyData} (R : Rel prog w G φ H h) (e : listPD H v = some d) (r : RepV h φ v c) : ∃ as, Reads h c d as ∧ d.canLay0 = true ∧ d.depth ≤ 1 := by
  have flat : flatPD v = some d → ∃ as, Reads h c d as ∧ d.canLay0 = true ∧ d.depth ≤ 1 := fun e => by
    obtain ⟨x1, x2, x3⟩ := flatPD_reads e r
    exact ⟨_, x1, x2, by rw [x3]; exact Nat.zero_le _⟩
  have list : ∀ {l : List AV} {a : Addr} {vs : List Value}, (flatPDs l).map PyData.list = some d → c = .ref a → h.IsList a vs.toArray → RepVs h φ l vs → ∃ as, Reads h c d as ∧ d.canLay0 = true ∧ d.depth ≤ 1 := fun e ec hL rs => by
    refine omC e fun ds hds er_ => ?_
    subst er_
    obtain ⟨o, ho, hc, n, hd⟩ := hL
    obtain ⟨y1, y2, y3⟩ := flatPDs_reads hds rs
    subst ec
    exact ⟨_, .list ho hc hd (by simpa using y1), y2, by simp only [PyData.depth, y3]; omega⟩
  induction v using Mine.AV.casesOn with
  | lst l =>
    simp only [RepV] at r
    obtain ⟨a, vs, ec, hL, _, rs⟩ := r
    exact list e ec hL rs
  | ref k =>
    simp only [RepV] at r
    obtain ⟨p, hp, ec⟩ := r
    have e : (match H[k]? with | some (.list l) => (flatPDs l).map PyData.list | _ => none) = some d := e
    cases hk : H[k]? with
    | none => rw [hk] at e; exact nos e
    | some o =>
      rw [hk] at e
      obtain ⟨p', hp', ro⟩ := R.obj k _ hk
      rw [hp] at hp'; cases hp'
      induction o using Mine.AObj.casesOn with
      | list l =>
        obtain ⟨_, vs, pl, rs⟩ := ro
        exact list e ec pl.isList rs
      | _ => exact nos e
  | none => exact flat e
  | bool _ => exact flat e
  | int _ => exact flat e
  | str _ => exact flat e
  | _ => exact nos e
theorem listPDs_reads {h : Heap} (R : Rel prog w G φ H h) : ∀ {l : List AV} {vs : List Value} {ds : List PyData}, listPDs H l = some ds → RepVs h φ l vs → ∃ as, ReadsAll h vs ds as ∧ PyData.canLayAll0 ds = true ∧ PyData.depthAll ds ≤ 1
  | [], vs, ds, e, r => by
    simp only [listPDs] at e; cases e
    simp only [RepVs] at r; subst r
    exact ⟨_, .nil, rfl, Nat.zero_le _⟩
  | a :: l, vs, ds, e, r => by
    simp only [listPDs] at e
    refine obC e fun d hd e => ?_
    refine omC e fun ds' hds er_ => ?_
    subst er_
    simp only [RepVs] at r
    obtain ⟨v, r', rfl, h1, h2⟩ := r
    obtain ⟨as, x1, x2, x3⟩ := listPD_reads R hd h1
    obtain ⟨bs, y1, y2, y3⟩ := listPDs_reads R hds h2
    exact ⟨_, .cons x1 y1, by simp only [PyData.canLayAll0, x2, y2, Bool.and_self], by simp only [PyData.depthAll]; omega⟩
theorem toPD_reads {h : Heap} {v : AV} {c : Value} {d : PyData} (R : Rel prog w G φ H h) (e : toPD H v = some d) (r : RepV h φ v c) : ∃ as, Reads h c d as ∧ shaped d = true := by
  have fin : d.canLay0 = true → d.depth ≤ 2 → shaped d = true := fun a b => by
    unfold shaped; rw [a, decide_eq_true (by omega)]; rfl
  have list : listPD H v = some d → ∃ as, Reads h c d as ∧ shaped d = true := fun e => by
    obtain ⟨as, x1, x2, x3⟩ := listPD_reads R e r
    exact ⟨as, x1, fin x2 (Nat.le_succ_of_le x3)⟩
  induction v using Mine.AV.casesOn with
  | tup l =>
    refine omC e fun ds hds er_ => ?_
    subst er_
    simp only [RepV] at r
    obtain ⟨a, vs, rfl, ⟨o, ho, hc, n, hd⟩, _, rs⟩ := r
    obtain ⟨as, y1, y2, y3⟩ := listPDs_reads R hds rs
    exact ⟨_, .tuple ho hc hd (by simpa using y1), fin y2 (by simp only [PyData.depth]; omega)⟩
  | _ => exact list e

noncomputable def isI (x : Int) : Value → Bool
  | .int j _ => j == x
  | _ => false
theorem amem_any {h : Heap} {x : Int} : ∀ {l : List AV} {vs : List Value} {b : Bool}, amem x l = some b → RepVs h φ l vs →
    (∀ y ∈ vs, ∃ j u, y = .int j u) ∧ vs.any (isI x) = b
  | [], vs, b, e, r => by
    simp only [amem] at e; cases e
    simp only [RepVs] at r; subst r
    exact ⟨by simp, rfl⟩
  | a :: l, vs, b, e, r => by
    cases a <;> simp only [amem] at e <;> try cases e
    rename_i j
    simp only [RepVs] at r
    obtain ⟨v, r', rfl, h1, h2⟩ := r
    simp only [RepV] at h1
    obtain ⟨u, rfl⟩ := h1
    refine omC e fun b' hb er_ => ?_
    subst er_
    obtain ⟨y1, y2⟩ := amem_any hb h2
    refine ⟨fun y hy => ?_, ?_⟩
    · rcases List.mem_cons.mp hy with rfl | hy
      · exact ⟨j, u, rfl⟩
      · exact y1 y hy
    · rw [List.any_cons, y2]
      congr 1
      show decide (j = x) = decide (x = j)
      exact decide_eq_decide.mpr ⟨Eq.symm, Eq.symm⟩

theorem dictEq_shape {a b : AV} {r : Bool} (e : dictEq H a b = some r) : ∃ k j, a = .ref k ∧ b = .ref j ∧ H[j]? = some .dictE ∧ ((∃ es, H[k]? = some (.dictI es) ∧ r = es.isEmpty) ∨ (H[k]? = some .dictE ∧ r = true)) := by
  induction a using Mine.AV.casesOn with
  | ref k =>
    induction b using Mine.AV.casesOn with
    | ref j =>
      refine ⟨k, j, rfl, rfl, ?_⟩
      have e : (match H[k]?, H[j]? with
        | some (.dictI es), some .dictE => if k ≠ j then some es.isEmpty else none
        | some .dictE, some .dictE => if k ≠ j then some true else none
        | _, _ => none) = some r := e
      generalize H[k]? = x at e ⊢
      generalize H[j]? = y at e ⊢
      cases x with
      | none => exact nos e
      | some x =>
        cases y with
        | none => induction x using Mine.AObj.casesOn <;> exact nos e
        | some y =>
          induction x using Mine.AObj.casesOn with
          | dictI es =>
            induction y using Mine.AObj.casesOn with
            | dictE => cases (itr e).2; exact ⟨rfl, .inl ⟨_, rfl, rfl⟩⟩
            | _ => exact nos e
          | dictE =>
            induction y using Mine.AObj.casesOn with
            | dictE => cases (itr e).2; exact ⟨rfl, .inr ⟨rfl, rfl⟩⟩
            | _ => exact nos e
          | _ => exact nos e
    | _ => exact nos e
  | _ => exact nos e

/-- a comparison: nothing changes, the answer is a bool -/
noncomputable def Cmp (s : Shared) (b : Bool) (c : Value) (s' : Shared) : Prop := c = .bool b ∧ Keeps s s'

theorem dictE_of {h : Heap} {d : Addr} (ro : h.get? d = some emptyDict) : h.DictOf (intKind prog w) d [] := ⟨_, _, _, ro, ⟨rfl, rfl, rfl⟩, rfl, (fun e he => by simp at he), .nil, by simp⟩
theorem cmp_dict {a b : AV} {r : Bool} {ca cb : Value} (hu : A.units + 100 < cLine) (R : Rel prog w G φ H s.heap) (e : dictEq H a b = some r) (ra : RepV s.heap φ a ca) (rb : RepV s.heap φ b cb) : wpAny (model prog w) A (compareOp .Eq ca cb) (Cmp s r) NoE s := by
  obtain ⟨k, j, rfl, rfl, hj, hk⟩ := dictEq_shape e
  simp only [RepV] at ra rb
  obtain ⟨p, hp, rfl⟩ := ra
  obtain ⟨q, hq, rfl⟩ := rb
  have m1 := R.mod _ (Foot.of_get hp).1
  have m2 := R.mod _ (Foot.of_get hq).1
  obtain ⟨q', hq', _, dj⟩ := R.obj j _ hj
  rw [hq] at hq'; cases hq'
  rcases hk with ⟨es, h1, rfl⟩ | ⟨h1, rfl⟩
  · obtain ⟨p', hp', _, kvs, dk, hk⟩ := R.obj k _ h1
    rw [hp] at hp'; cases hp'
    refine keq_eq (r := true) m1 m2 dk (dictE_of dj) (by omega) (fun hl => ?_) ⟨?_, Keeps.rfl' s⟩
    · induction kvs using List.casesOn with
      | nil => exact .nil
      | cons _ _ => cases hl
    · congr 1
      have := hk.length
      induction es using List.casesOn with
      | nil => cases kvs with
        | nil => rfl
        | cons _ _ => cases this
      | cons _ _ => cases kvs with
        | nil => cases this
        | cons _ _ => rfl
  · obtain ⟨p', hp', _, dk⟩ := R.obj k _ h1
    rw [hp] at hp'; cases hp'
    exact keq_eq (r := true) m1 m2 (dictE_of dk) (dictE_of dj) (by omega) (fun hl => .nil) ⟨rfl, Keeps.rfl' s⟩
theorem cmp_shaped {a b : AV} {r : Bool} {ca cb : Value} (hu : A.units + 100 < cLine) (R : Rel prog w G φ H s.heap) {x y : PyData} (hx : toPD H a = some x) (hy : toPD H b = some y) (ra : RepV s.heap φ a ca) (rb : RepV s.heap φ b cb) :
    (PyData.eqv x y = r → wpAny (model prog w) A (compareOp .Eq ca cb) (Cmp s r) NoE s) ∧ ((!PyData.eqv x y) = r → wpAny (model prog w) A (compareOp .NotEq ca cb) (Cmp s r) NoE s) := by
  obtain ⟨as, x1, x2⟩ := toPD_reads R hx ra
  obtain ⟨bs, y1, y2⟩ := toPD_reads R hy rb
  exact ⟨fun e => e ▸ compareEq_shaped x1 y1 x2 y2 (by omega) ⟨rfl, Keeps.rfl' s⟩, fun e => e ▸ compareNe_shaped x1 y1 x2 y2 (by omega) ⟨rfl, Keeps.rfl' s⟩⟩
theorem none_is {h : Heap} {a : AV} {c : Value} (ra : RepV h φ a c) : (c == .none) = isNoneV a := by
  induction a using Mine.AV.casesOn <;> simp only [RepV] at ra <;> first | (subst ra; rfl) | (obtain ⟨_, rfl⟩ := ra; rfl) | (obtain ⟨_, _, rfl, _⟩ := ra; rfl) | (obtain ⟨_, _, _, _, rfl, _⟩ := ra; rfl) | (obtain ⟨_, _, rfl⟩ := ra; rfl)
theorem cmp_is {a b : AV} {r : Bool} {ca cb : Value} (ra : RepV s.heap φ a ca) (rb : RepV s.heap φ b cb) :
    (acmp H .Is a b = some r → wpAny (model prog w) A (compareOp .Is ca cb) (Cmp s r) NoE s) ∧ (acmp H .IsNot a b = some r → wpAny (model prog w) A (compareOp .IsNot ca cb) (Cmp s r) NoE s) := by
  have nb : isNoneV b = true → cb = .none := fun h => by
    induction b using Mine.AV.casesOn with
    | none => simp only [RepV] at rb; exact rb
    | _ => exact nof h
  refine ⟨fun e => ?_, fun e => ?_⟩
  · obtain ⟨hb, e⟩ := itr e
    cases e
    rw [nb hb]
    exact is_none ⟨by rw [none_is ra], Keeps.rfl' s⟩
  · obtain ⟨hb, e⟩ := itr e
    cases e
    rw [nb hb]
    exact isNot_none ⟨by rw [none_is ra], Keeps.rfl' s⟩
theorem sim_cmp {op : CmpOp} {a b : AV} {r : Bool} {ca cb : Value} (hu : A.units + 100 < cLine) (R : Rel prog w G φ H s.heap) (e : acmp H op a b = some r) (ra : RepV s.heap φ a ca) (rb : RepV s.heap φ b cb) :
    wpAny (model prog w) A (compareOp op ca cb) (Cmp s r) NoE s := by
  have K := Keeps.rfl' s
  have twoI : ∀ {f : Int → Int → Bool}, ((iOf a).bind fun i => (iOf b).map fun j => f i j) = some r → ∃ i j t u, ca = .int i t ∧ cb = .int j u ∧ f i j = r := fun e => by
    refine obC e fun i hi e => omC e fun j hj e => ?_
    obtain ⟨t, h1⟩ := iOf_inv hi ra
    obtain ⟨u, h2⟩ := iOf_inv hj rb
    exact ⟨i, j, t, u, h1, h2, e⟩
  induction op using PySem.CmpOp.casesOn with
  | Eq =>
    have e : (match toPD H a with | some x => (toPD H b).map fun y => PyData.eqv x y | none => dictEq H a b) = some r := e
    cases hx : toPD H a with
    | none => rw [hx] at e; exact cmp_dict hu R e ra rb
    | some x => rw [hx] at e; exact omC e fun y hy e => (cmp_shaped hu R hx hy ra rb).1 e
  | NotEq =>
    have e : (match toPD H a with | some x => (toPD H b).map fun y => !PyData.eqv x y | none => none) = some r := e
    cases hx : toPD H a with
    | none => rw [hx] at e; exact nos e
    | some x => rw [hx] at e; exact omC e fun y hy e => (cmp_shaped hu R hx hy ra rb).2 e
  | Lt => obtain ⟨i, j, t, u, rfl, rfl, rfl⟩ := twoI e; exact PyProof.Rows.lt_int ⟨rfl, K⟩
  | LtE => obtain ⟨i, j, t, u, rfl, rfl, rfl⟩ := twoI e; exact PyProof.Rows.le_int ⟨rfl, K⟩
  | Gt => obtain ⟨i, j, t, u, rfl, rfl, rfl⟩ := twoI e; exact PyProof.Rows.gt_int ⟨rfl, K⟩
  | GtE => obtain ⟨i, j, t, u, rfl, rfl, rfl⟩ := twoI e; exact PyProof.Rows.ge_int ⟨rfl, K⟩
  | Is => exact (cmp_is ra rb).1 e
  | IsNot => exact (cmp_is ra rb).2 e
  | In =>
    refine obC e fun i hi e => obC e fun l hl e => ?_
    obtain ⟨t, rfl⟩ := iOf_inv hi ra
    obtain ⟨ad, vs, rfl, ht, rs⟩ := tOf_inv hl rb
    obtain ⟨y1, y2⟩ := amem_any e rs
    refine in_tupleAt (isI i) ht (fun y hy => ?_) ⟨?_, K⟩
    · obtain ⟨j, u, rfl⟩ := y1 y (by simpa using hy)
      exact EqAt.int_int _ _ _ _
    · rw [← y2]; simp
  | NotIn =>
    refine obC e fun i hi e => obC e fun l hl e => omC e fun b' hb er_ => ?_
    subst er_
    obtain ⟨t, rfl⟩ := iOf_inv hi ra
    obtain ⟨ad, vs, rfl, ht, rs⟩ := lOf_inv hl rb
    obtain ⟨y1, y2⟩ := amem_any hb rs
    refine notIn_listAt (isI i) ht (fun y hy => ?_) ⟨?_, K⟩
    · obtain ⟨j, u, rfl⟩ := y1 y (by simpa using hy)
      exact EqAt.int_int _ _ _ _
    · rw [← y2]; simp
end
end Mine

namespace Mine
open PySem PySem.W PyProof.Rows PySem.SeqAt PySem.Calls

section
variable {prog : Program} {w : World} {A : Around} {G : Glb} {φ : Phi} {H : AH} {s : Shared}

theorem place_index {i : Int} {n p : Nat} (e : place i n = some p) : seqIndex? i n = some p ∧ (p < n ∧ n < 100000) ∧ (0 ≤ i → p = i.toNat ∧ i < n) ∧ (i < 0 → -(n : Int) ≤ i ∧ p = (i + n).toNat) := by
  unfold place at e
  split at e
  case isFalse => cases e
  rename_i hn
  have hn : n < 100000 := hn
  have key : ∀ j : Int, 0 ≤ j → j < n → (if (decide (0 ≤ j) && decide (j < (n : Int))) = true then some j.toNat else none) = some j.toNat := fun j a b => if_pos (by simp [a, b])
  by_cases h : 0 ≤ i
  · rw [if_pos h] at e
    by_cases h2 : i < (n : Int)
    · rw [if_pos h2] at e
      cases e
      refine ⟨?_, ⟨by omega, hn⟩, fun _ => ⟨rfl, h2⟩, fun q => by omega⟩
      unfold seqIndex?
      rw [if_neg (by omega : ¬ i < 0)]
      exact key i h h2
    · rw [if_neg h2] at e; cases e
  · rw [if_neg h] at e
    by_cases h2 : 0 ≤ i + (n : Int)
    · rw [if_pos h2] at e
      cases e
      refine ⟨?_, ⟨by omega, hn⟩, fun q => absurd q h, fun _ => ⟨by omega, rfl⟩⟩
      unfold seqIndex?
      rw [if_pos (by omega : i < 0)]
      exact key _ h2 (by omega)
    · rw [if_neg h2] at e; cases e

theorem kget_keys {K : Type} [DecidableEq K] {x : K} {v : AV} (h : Heap) : ∀ {l : List (K × AV)} {r : List (K × Value)}, kget l x = some v → RepKV h φ l r → ∃ c, valueAt r x = some c ∧ RepV h φ v c
  | [], r, e, k => by cases e
  | (k, u) :: l, r, e, hk => by
    obtain ⟨c, r', rfl, h1, h2⟩ := hk
    simp only [kget] at e
    by_cases q : k = x
    · rw [if_pos q] at e; cases e
      exact ⟨c, by simp [valueAt, q], h1⟩
    · rw [if_neg q] at e
      obtain ⟨c', a, b⟩ := kget_keys h e h2
      exact ⟨c', by simpa [valueAt, q] using a, b⟩
theorem kget_none {K : Type} [DecidableEq K] {x : K} (h : Heap) : ∀ {l : List (K × AV)} {r : List (K × Value)}, kget l x = none → RepKV h φ l r → valueAt r x = none
  | [], r, e, k => by cases k; rfl
  | (k, u) :: l, r, e, hk => by
    obtain ⟨c, r', rfl, h1, h2⟩ := hk
    simp only [kget] at e
    by_cases q : k = x
    · rw [if_pos q] at e; cases e
    · rw [if_neg q] at e
      have := kget_none h e h2
      simpa [valueAt, q] using this

theorem RepKV.put {K : Type} [DecidableEq K] {h : Heap} {x : K} {v : AV} {c : Value} (rv : RepV h φ v c) : ∀ {l : List (K × AV)} {r : List (K × Value)}, (r.map (·.1)).Nodup → RepKV h φ l r → RepKV h φ (kput l x v) (stored r x c)
  | [], r, n, hk => by cases hk; exact ⟨c, [], rfl, rv, rfl⟩
  | (k, u) :: l, r, n, hk => by
    obtain ⟨c', r', rfl, h1, h2⟩ := hk
    have n' : k ∉ r'.map (·.1) ∧ (r'.map (·.1)).Nodup := List.nodup_cons.mp n
    simp only [kput]
    by_cases q : k = x
    · subst q
      rw [if_pos rfl]
      have e : stored ((k, c') :: r') k c = (k, c) :: r' := by
        unfold stored
        rw [if_pos (by simp), List.map_cons, if_pos rfl, map_store_of_not_mem _ _ _ n'.1]
      rw [e]
      exact ⟨c, r', rfl, rv, h2⟩
    · rw [if_neg q]
      have e : stored ((k, c') :: r') x c = (k, c') :: stored r' x c := by
        unfold stored
        rw [List.any_cons, decide_eq_false q, Bool.false_or]
        split
        · rw [List.map_cons, if_neg q]
        · rfl
      rw [e]
      exact ⟨c', _, rfl, h1, RepKV.put rv n'.2 h2⟩
theorem RepKV.del {K : Type} [DecidableEq K] {h : Heap} {x : K} : ∀ {l : List (K × AV)} {r : List (K × Value)}, (r.map (·.1)).Nodup → RepKV h φ l r → RepKV h φ (kdel l x) (without r x)
  | [], r, n, hk => by cases hk; rfl
  | (k, u) :: l, r, n, hk => by
    obtain ⟨c', r', rfl, h1, h2⟩ := hk
    have n' : k ∉ r'.map (·.1) ∧ (r'.map (·.1)).Nodup := List.nodup_cons.mp n
    simp only [kdel]
    by_cases q : k = x
    · subst q
      rw [if_pos rfl]
      have e : without ((k, c') :: r') k = r' := by
        have := without_of_not_mem r' k n'.1
        unfold without at this ⊢
        rw [List.filter_cons, if_neg (by simp), this]
      rw [e]; exact h2
    · rw [if_neg q]
      have e : without ((k, c') :: r') x = (k, c') :: without r' x := by
        unfold without
        rw [List.filter_cons, if_pos (by simpa using q)]
      rw [e]
      exact ⟨c', _, rfl, h1, RepKV.del n'.2 h2⟩

/-- an item read: the list, tuple or dict stays -/
theorem get_list {l : List AV} {ad : Addr} {vs : List Value} {j : Int} {t : Tok} {x : AV} (e : (place j l.length).bind (fun p => l[p]?) = some x) (hl : s.heap.IsList ad vs.toArray) (rs : RepVs s.heap φ l vs) : wpAny (model prog w) A (getItem (.ref ad) (.int j t)) (Quiet φ s x) NoE s := by
  refine obC e fun p hp hx => ?_
  obtain ⟨-, ⟨h2, h2'⟩, h3, h4⟩ := place_index hp
  obtain ⟨c, hc, rc⟩ := rs.get hx
  have hsz : vs.length = l.length := rs.length
  by_cases hj : 0 ≤ j
  · obtain ⟨rfl, h5⟩ := h3 hj
    exact wpAny_getItem_list hl hj (by omega) (by simpa using hc) ⟨Keeps.rfl' s, rc⟩
  · obtain ⟨h5, rfl⟩ := h4 (by omega)
    exact wpAny_getItem_list_neg hl (by omega) (by simpa [hsz] using h5) (by omega) (by simpa [hsz] using hc) ⟨Keeps.rfl' s, rc⟩
theorem get_tuple {l : List AV} {ad : Addr} {vs : List Value} {j : Int} {t : Tok} {x : AV} (e : (place j l.length).bind (fun p => l[p]?) = some x) (hT : s.heap.IsTuple ad vs.toArray) (rs : RepVs s.heap φ l vs) : wpAny (model prog w) A (getItem (.ref ad) (.int j t)) (Quiet φ s x) NoE s := by
  refine obC e fun p hp hx => ?_
  obtain ⟨h1, ⟨h2, h2'⟩, h3, h4⟩ := place_index hp
  obtain ⟨c, hc', rc⟩ := rs.get hx
  have hsz : vs.length = l.length := rs.length
  refine getItem_tuple (j := p) hT ?_ ?_ (by rw [List.size_toArray, hsz]; exact h1) (by simpa using hc') ⟨Keeps.rfl' s, rc⟩
  · by_cases q : 0 ≤ j
    · omega
    · have := h4 (by omega); omega
  · by_cases q : 0 ≤ j
    · have := h3 q; omega
    · omega
theorem sim_getO {o : AObj} {i x : AV} {p : Addr × Addr} {ci : Value} (ro : RepO prog w G s.heap φ o p) (e : agetO o i = some x) (ri : RepV s.heap φ i ci) :
    ∃ T id, s.TypeIs (.ref p.1) T ∧ typeLookup (.type T) "__getitem__" = pure (some (.builtin id)) ∧ wpAny (model prog w) A (getItem (.ref p.1) ci) (Quiet φ s x) NoE s := by
  induction o using Mine.AObj.casesOn with
  | list l =>
    refine obC e fun j hj e => ?_
    obtain ⟨t, rfl⟩ := iOf_inv hj ri
    obtain ⟨_, vs, hL, rs⟩ := ro
    obtain ⟨o, ho, hc, _⟩ := id hL.isList
    exact ⟨"list", _, ⟨o, ho, hc⟩, slot_list_getitem.lookup, get_list e hL.isList rs⟩
  | dictI es =>
    refine obC e fun j hj e => ?_
    obtain ⟨t, rfl⟩ := iOf_inv hj ri
    obtain ⟨_, kvs, hd, rk⟩ := ro
    obtain ⟨c, hc, rc⟩ := kget_keys s.heap e rk
    exact ⟨"dict", _, hd.typeIs, slot_dict_getitem.lookup, wpAny_getItem_of (knd := intKind prog w) (k := j) (by show (j == j) = true; simp) hd.mapOf hc ⟨Keeps.toks _ _, rc⟩⟩
  | dictS es =>
    refine obC e fun y hy e => ?_
    obtain ⟨t, rfl⟩ := sOf_inv hy ri
    obtain ⟨_, kvs, hd, rk⟩ := ro
    obtain ⟨c, hc, rc⟩ := kget_keys s.heap e rk
    exact ⟨"dict", _, hd.typeIs, slot_dict_getitem.lookup, wpAny_getItem_of (knd := strKind prog w) (k := y) (by show (y == y) = true; simp) hd.mapOf hc ⟨Keeps.toks _ _, rc⟩⟩
  | _ => exact nos e
theorem obj_at {k : Nat} {p : Addr × Addr} {o : AObj} (R : Rel prog w G φ H s.heap) (hp : φ.objs[k]? = some p) (hk : H[k]? = some o) : RepO prog w G s.heap φ o p := by
  obtain ⟨p', hp', ro⟩ := R.obj k _ hk
  rw [hp] at hp'; cases hp'; exact ro
theorem sim_getitem {v i x : AV} {cv ci : Value} (R : Rel prog w G φ H s.heap) (e : agetitem H v i = some x) (rv : RepV s.heap φ v cv) (ri : RepV s.heap φ i ci) :
    ∃ T id, s.TypeIs cv T ∧ typeLookup (.type T) "__getitem__" = pure (some (.builtin id)) ∧ wpAny (model prog w) A (getItem cv ci) (Quiet φ s x) NoE s := by
  induction v using Mine.AV.casesOn with
  | lst l =>
    refine obC e fun j hj e => ?_
    obtain ⟨t, rfl⟩ := iOf_inv hj ri
    simp only [RepV] at rv
    obtain ⟨ad, vs, rfl, hL, _, rs⟩ := rv
    obtain ⟨o, ho, hc, _⟩ := id hL
    exact ⟨"list", _, ⟨o, ho, hc⟩, slot_list_getitem.lookup, get_list e hL rs⟩
  | tup l =>
    refine obC e fun j hj e => ?_
    obtain ⟨t, rfl⟩ := iOf_inv hj ri
    simp only [RepV] at rv
    obtain ⟨ad, vs, rfl, hT, _, rs⟩ := rv
    obtain ⟨o, ho, hc, _⟩ := id hT
    exact ⟨"tuple", _, ⟨o, ho, hc⟩, slot_tuple_getitem.lookup, get_tuple e hT rs⟩
  | ref k =>
    refine obC e fun o hk e => ?_
    simp only [RepV] at rv
    obtain ⟨p, hp, rfl⟩ := rv
    exact sim_getO (obj_at R hp hk) e ri
  | _ => exact nos e

/-- what a step gives: a later heap, the abstract heap H', and what is said of the two -/
inductive Post (prog : Program) (w : World) (G : Glb) (φ : Phi) (s : Shared) (H' : AH) (P : Phi → Heap → Prop) : Shared → Prop
  | mk (h' : Heap) (tk : Nat) (φ' : Phi) (st : Step φ s.heap φ' h') (R : Rel prog w G φ' H' h') (p : P φ' h') : Post prog w G φ s H' P (mkS s h' tk)

theorem usePost {α : Type} {t : Sem α} {s₀ : Shared} {H' : AH} {P : α → Phi → Heap → Prop} {Q : α → Shared → Prop} {E : Value → Shared → Prop} (h : wpAny (model prog w) A t (fun c s' => Post prog w G φ s H' (P c) s') NoE s₀)
    (k : ∀ c h₁ tk₁ φ₁, Step φ s.heap φ₁ h₁ → Rel prog w G φ₁ H' h₁ → P c φ₁ h₁ → Q c (mkS s h₁ tk₁)) : wpAny (model prog w) A t Q E s₀ :=
  wpAny_mono h (fun c s' p => by induction p with | mk h₁ tk₁ φ₁ st R p => exact k c h₁ tk₁ φ₁ st R p) fun _ _ q => q.elim
theorem useQuiet {α : Type} {t : Sem α} {φ : Phi} {s : Shared} {v : AV} {f : α → Value} {Q : α → Shared → Prop} {E : Value → Shared → Prop} (h : wpAny (model prog w) A t (fun c s' => Quiet φ s v (f c) s') NoE s)
    (k : ∀ c h₁ tk₁, (∀ b o, s.heap.get? b = some o → h₁.get? b = some o) → RepV h₁ φ v (f c) → Q c (mkS s h₁ tk₁)) : wpAny (model prog w) A t Q E s :=
  wpAny_mono h (fun c s' p => by obtain ⟨⟨h₁, tk₁, rfl, kp⟩, r⟩ := p; exact k c h₁ tk₁ kp r) fun _ _ q => q.elim

theorem eqV {α : Type} {t : Sem α} {v v' : AV} {H' H'' : AH} {f : AV → α → Phi → Heap → Prop} (e : (v, H') = (v', H'')) (h : wpAny (model prog w) A t (fun c s' => Post prog w G φ s H' (f v c) s') NoE s) : wpAny (model prog w) A t (fun c s' => Post prog w G φ s H'' (f v' c) s') NoE s := by
  cases e; exact h
theorem Post.of_keeps {P : Phi → Heap → Prop} {s' : Shared} (R : Rel prog w G φ H s.heap) (k : Keeps s s') (p : P φ s'.heap) : Post prog w G φ s H P s' := by
  obtain ⟨h', tk, rfl, k⟩ := k
  exact ⟨h', tk, φ, Step.of_keeps k, R.keeps k, p⟩
theorem Post.trans {H₁ : AH} {P P' : Phi → Heap → Prop} {φ₁ : Phi} {h₁ : Heap} {tk₁ : Nat} {s' : Shared} (st : Step φ s.heap φ₁ h₁) (p : Post prog w G φ₁ (mkS s h₁ tk₁) H₁ P s') (f : ∀ φ' h', Step φ₁ h₁ φ' h' → P φ' h' → P' φ' h') :
    Post prog w G φ s H₁ P' s' := by
  induction p with | mk h' tk φ' st' R p
  exact ⟨h', tk, φ', st.trans st', R, f _ _ st' p⟩

/-- an item store, the list staying a plain one -/
theorem setItem_plain {l : Addr} {items : Array Value} {k : Int} {t : Tok} {v : Value} {Q : Unit → Shared → Prop} (hl : s.heap.PlainList l items) (h0 : 0 ≤ k) (hfit : k < 2 ^ 63) (hn : k < items.size)
    (hQ : ∀ h', h'.PlainList l (items.setIfInBounds k.toNat v) → Heap.SameBut l s.heap h' → Q () { s with heap := h' }) : wpAny (model prog w) A (setItem (.ref l) (.int k t) v) Q NoE s := by
  obtain ⟨n, ho⟩ := hl
  have hT : s.TypeIs (.ref l) "list" := ⟨_, ho, rfl⟩
  have back : (s.heap.update l (Obj.mapSeq (·.setIfInBounds k.toNat v))).PlainList l (items.setIfInBounds k.toNat v) :=
    ⟨n, by rw [Heap.get?_update_self _ ho rfl]; simp [Obj.mapSeq]⟩
  have fin := hQ _ back (Heap.SameBut.update ..)
  clear back hQ
  unfold setItem
  refine wpAny_holding (wpAny_bind (wpAny_sequenceKey hT (by decide) ?_))
  refine wpAny_bind (wpAny_callSpecial?_slot (name := Str.ofString "__setitem__") hT slot_list_setitem (wpAny_call_entry slot_list_setitem hT entry_list_setitem ?_ (args_list_setitem _ _ _)))
  show wpAny _ _ (Builtin.List.listSubscript? (.int k t) >>= _) _ _ s
  refine wpAny_bind (wpAny_listSubscript_int (fitsIndex_of h0 hfit) ?_)
  clear hfit
  obtain ⟨j, rfl⟩ := Int.eq_ofNat_of_zero_le h0
  have hj : j < items.size := by omega
  have hx : items[j]? = some items[j] := Array.getElem?_eq_getElem hj
  show wpAny _ _ ((seqItemAt l j >>= fun r => pure (r.map (j, ·))) >>= _) _ _ s
  refine wpAny_bind (wpAny_bind (wpAny_seqItemAt ho rfl (wpAny_pure ?_)))
  rw [hx]
  show wpAny _ _ (setSeqItemAt l j v >>= _) _ _ s
  refine wpAny_bind (wpAny_setSeqItemAt ho rfl ?_)
  first
    | exact wpAny_pure ⟨.none, rfl, wpAny_pure fin⟩
    | exact wpAny_bind (wpAny_pure (wpAny_pure ⟨.none, rfl, wpAny_pure fin⟩))

theorem dictE_str {h : Heap} {d : Addr} (ro : h.get? d = some emptyDict) : h.DictOf (strKind prog w) d [] := ⟨_, _, _, ro, ⟨rfl, rfl, rfl⟩, rfl, (fun e he => by simp at he), .nil, by simp⟩
theorem set_int {p : Addr × Addr} {kvs : List (Int × Value)} {es : List (Int × AV)} {j : Int} {t : Tok} {x : AV} {cx : Value} {Q : Unit → Shared → Prop} (hd : s.heap.DictOf (intKind prog w) p.1 kvs) (rk : RepKV s.heap φ es kvs) (rx : RepV s.heap φ x cx) (hz : kvs.length ≤ sizeLine)
    (fin : ∀ {h' : Heap} {tk : Nat}, Heap.SameBut p.1 s.heap h' → (Step φ s.heap φ h' → RepO prog w G h' φ (.dictI (kput es j x)) p) → Q () (mkS s h' tk)) (e1 : p.2 = p.1) : wpAny (model prog w) A (setItem (.ref p.1) (.int j t) cx) Q NoE s := by
  refine wpAny_setItem_pairs (knd := intKind prog w) (k := j) (by show (j == j) = true; simp) hd (fun h' hm sb => fin sb fun st => ⟨e1, _, hm, ?_⟩) hz
  obtain ⟨_, _, _, _, _, _, _, _, nd⟩ := hd
  exact RepKV.put (rx.step st) nd (rk.stepX st (fun _ f => f.elim))
theorem set_str {p : Addr × Addr} {kvs : List (Str × Value)} {es : List (Str × AV)} {j : Str} {t : Tok} {x : AV} {cx : Value} {Q : Unit → Shared → Prop} (hd : s.heap.DictOf (strKind prog w) p.1 kvs) (rk : RepKV s.heap φ es kvs) (rx : RepV s.heap φ x cx) (hz : kvs.length ≤ sizeLine)
    (fin : ∀ {h' : Heap} {tk : Nat}, Heap.SameBut p.1 s.heap h' → (Step φ s.heap φ h' → RepO prog w G h' φ (.dictS (kput es j x)) p) → Q () (mkS s h' tk)) (e1 : p.2 = p.1) : wpAny (model prog w) A (setItem (.ref p.1) (.str j t) cx) Q NoE s := by
  refine wpAny_setItem_pairs (knd := strKind prog w) (k := j) (by show (j == j) = true; simp) hd (fun h' hm sb => fin sb fun st => ⟨e1, _, hm, ?_⟩) hz
  obtain ⟨_, _, _, _, _, _, _, _, nd⟩ := hd
  exact RepKV.put (rx.step st) nd (rk.stepX st (fun _ f => f.elim))
theorem sim_setO {o o' : AObj} {i x : AV} {p : Addr × Addr} {ci cx : Value} {Q : Unit → Shared → Prop} (ro : RepO prog w G s.heap φ o p) (e : asetO o i x = some o') (ri : RepV s.heap φ i ci) (rx : RepV s.heap φ x cx)
    (fin : ∀ {h' : Heap} {tk : Nat}, Heap.SameBut p.1 s.heap h' → (Step φ s.heap φ h' → RepO prog w G h' φ o' p) → Q () (mkS s h' tk)) : wpAny (model prog w) A (setItem (.ref p.1) ci cx) Q NoE s := by
  induction o using Mine.AObj.casesOn with
  | list l =>
    refine obC e fun j hj e => ?_
    obtain ⟨t, rfl⟩ := iOf_inv hj ri
    obtain ⟨hj0, e⟩ := itr e
    refine omC e fun q hq er_ => ?_
    subst er_
    obtain ⟨e1, vs, hL, rs⟩ := ro
    obtain ⟨-, ⟨h2, h2'⟩, h3, h4⟩ := place_index hq
    have hsz : vs.length = l.length := rs.length
    obtain ⟨rfl, h5⟩ := h3 hj0
    refine setItem_plain hL hj0 (by omega) (by simpa [hsz] using h5) fun h' hm sb => fin sb fun st => ⟨e1, vs.set j.toNat cx, ?_, RepVs.set (rx.step st) _ (rs.step st)⟩
    simpa using hm
  | dictE =>
    obtain ⟨e1, hd⟩ := ro
    have e : (match iOf i with
      | some j => some (AObj.dictI [(j, x)])
      | none => (sOf i).map fun y => .dictS [(y, x)]) = some o' := e
    cases hi : iOf i with
    | some j =>
      rw [hi] at e
      obtain ⟨t, rfl⟩ := iOf_inv hi ri
      cases e
      exact set_int (es := []) (dictE_of hd) rfl rx (Nat.zero_le _) fin e1
    | none =>
      rw [hi] at e
      refine omC e fun y hy er_ => ?_
      subst er_
      obtain ⟨t, rfl⟩ := sOf_inv hy ri
      exact set_str (es := []) (dictE_str hd) rfl rx (Nat.zero_le _) fin e1
  | dictI es =>
    refine obC e fun j hj e => ?_
    obtain ⟨t, rfl⟩ := iOf_inv hj ri
    obtain ⟨hlen, e⟩ := itr e
    obtain ⟨e1, kvs, hd, rk⟩ := ro
    cases e
    exact set_int hd rk rx (by rw [rk.length, sizeLine_eq]; exact Nat.le_of_lt (Nat.lt_trans (show es.length < 100000 from hlen) (by decide))) fin e1
  | dictS es =>
    refine obC e fun j hj e => ?_
    obtain ⟨t, rfl⟩ := sOf_inv hj ri
    obtain ⟨hlen, e⟩ := itr e
    obtain ⟨e1, kvs, hd, rk⟩ := ro
    cases e
    exact set_str hd rk rx (by rw [rk.length, sizeLine_eq]; exact Nat.le_of_lt (Nat.lt_trans (show es.length < 100000 from hlen) (by decide))) fin e1
  | _ => exact nos e
theorem sim_setitem {H' : AH} {v i x : AV} {cv ci cx : Value} (R : Rel prog w G φ H s.heap) (e : asetitem H v i x = some H') (rv : RepV s.heap φ v cv) (ri : RepV s.heap φ i ci) (rx : RepV s.heap φ x cx) :
    wpAny (model prog w) A (setItem cv ci cx) (fun _ => Post prog w G φ s H' fun _ _ => True) NoE s := by
  refine obC e fun k hk e => obC e fun o ho e => omC e fun o' ho' er_ => ?_
  subst er_
  obtain ⟨p, hp, rfl⟩ := refOfV_inv hk rv
  refine sim_setO (obj_at R hp ho) ho' ri rx fun {h' tk} sb ro' => ?_
  have kp : ∀ b o, b ≠ p.1 → b ≠ p.2 → s.heap.get? b = some o → h'.get? b = some o := fun b o n _ q => sb.extBut b o n q
  have st : Step φ s.heap φ h' := ⟨fun b o nf _ e => kp b o (fun q => nf (q ▸ (Foot.of_get hp).1)) (fun q => nf (q ▸ (Foot.of_get hp).2)) e, ⟨[], by simp⟩, rfl, fun _ a => .inl a, fun _ x => x.elim⟩
  obtain ⟨R', st'⟩ := R.set hp kp (ro' st)
  exact ⟨h', tk, φ, st', R', trivial⟩
end
end Mine

namespace Mine
open PySem PySem.W PyProof.Rows PySem.SeqAt PySem.Calls

theorem kput_some {K α : Type} [DecidableEq K] {x : K} {u v : α} : ∀ {l : List (K × α)}, kget l x = some u → (kput l x v).length = l.length
  | [], e => by cases e
  | (a, b) :: r, e => by
    simp only [kget] at e
    simp only [kput]
    by_cases h : a = x
    · rw [if_pos h]; rfl
    · rw [if_neg h] at e ⊢; rw [List.length_cons, kput_some e, List.length_cons]
theorem kput_none {K α : Type} [DecidableEq K] {x : K} {v : α} : ∀ {l : List (K × α)}, kget l x = none → (kput l x v).length = l.length + 1
  | [], e => rfl
  | (a, b) :: r, e => by
    simp only [kget] at e
    simp only [kput]
    by_cases h : a = x
    · rw [if_pos h] at e; cases e
    · rw [if_neg h] at e ⊢; rw [List.length_cons, kput_none e, List.length_cons]

theorem handed_rep {h : Heap} {φ : Phi} {v : AV} {c : Value} (r : RepV h φ v c) : handedIn c = true := by
  cases v <;> simp only [RepV] at r <;> first | (subst r; rfl) | (obtain ⟨_, rfl⟩ := r; rfl) | (obtain ⟨_, _, rfl, _⟩ := r; rfl) | (obtain ⟨_, _, _, _, rfl, _⟩ := r; rfl) | (obtain ⟨_, _, rfl⟩ := r; rfl)

theorem lookIn_ns {es : Array DictEntry} {ep : Nat} {x : Str} (hk : StrKeys es) : lookIn x { cls := .type "dict", data := .dict es ep } = some (nsFind es x) := by
  unfold lookIn
  dsimp only
  unfold nsFind findBy
  rw [← Array.find?_toList]
  have hany : es.toList.any (·.refKey) = false := by
    rw [List.any_eq_false]; intro e he; obtain ⟨n, t, h⟩ := hk e (by simpa using he); simp [DictEntry.refKey, h]
  cases hf : es.toList.find? (·.key.isStr x) with
  | some e => rfl
  | none => rw [hany]; rfl

section
variable {prog : Program} {w : World} {A : Around} {G : Glb} {φ : Phi} {H : AH} {s : Shared}

theorem inst_at {h : Heap} {k c : Nat} {fs : List (Str × AV)} (R : Rel prog w G φ H h) (hk : H[k]? = some (.inst c fs)) :
    ∃ p es ep, φ.objs[k]? = some p ∧ c < 2 ∧ p.2 ≠ p.1 ∧ h.get? p.2 = some { cls := .type "dict", data := .dict es ep } ∧ StrKeys es ∧ es.size ≤ fs.length ∧
      InstAt h p.1 (instObj (G.C c) p.2) (G.C c) (some { cls := .type "dict", data := .dict es ep }) ∧
      (∀ x, match kget fs x with | some v => ∃ cv, nsFind es x = some cv ∧ RepV h φ v cv | none => nsFind es x = none) := by
  obtain ⟨p, hp, hc, e, h1, es, ep, h2, hs, hz, hf⟩ := R.obj k _ hk
  exact ⟨p, es, ep, hp, hc, e, h2, hs, hz, ⟨h1, rfl, rfl, h2⟩, hf⟩

theorem Rel.kin (g : GOk G) {h : Heap} (R : Rel prog w G φ H h) : G.K.In h := g.kin.keeps R.base

theorem sim_attr (g : GOk G) {v y : AV} {x : Str} {c : Value} {ex : Bool} (R : Rel prog w G φ H s.heap) (e : aattr H v x = some y) (rv : RepV s.heap φ v c) :
    wpAny (model prog w) A (getAttr c x ex) (Quiet φ s y) NoE s := by
  cases v <;> simp only [aattr] at e <;> try cases e
  rename_i k
  simp only [RepV] at rv
  obtain ⟨p, hp, rfl⟩ := rv
  cases hk : H[k]? with
  | none => rw [hk] at e; cases e
  | some ob =>
    rw [hk] at e
    cases ob <;> simp only [] at e <;> try cases e
    rename_i c fs
    split at e
    case isFalse => cases e
    rename_i hfld
    obtain ⟨p', es, ep, hp', hc, hne, h2, hs, hz, I, hf⟩ := inst_at R hk
    rw [hp] at hp'; cases hp'
    have hx := hf x
    rw [e] at hx
    obtain ⟨cv, hcv, rcv⟩ := hx
    obtain ⟨pl1, pl2, pl3, pl4, pl5⟩ := g.plain c hc
    obtain ⟨⟨attr, ha, hn⟩, _⟩ := g.field c x hfld
    exact get_value (R.kin g) I pl4 (findObj_own pl2 ha hn (by rw [lookIn_ns hs, hcv])) (handed_rep rcv) ⟨Keeps.toks _ _, rcv⟩

/-- a name put into a frame-like dict, written out -/
theorem putName_at {es : Array DictEntry} {ep : Nat} {x : Str} {hsh : Int} {tk : Tok} {v : Value} (hk : StrKeys es) :
    ∃ es' ep', Obj.putName x hsh (.str x tk) v { cls := .type "dict", data := .dict es ep } = { cls := .type "dict", data := .dict es' ep' } ∧ StrKeys es' ∧
      (∀ y, nsFind es' y = if y = x then some v else nsFind es y) ∧ es'.size ≤ es.size + 1 ∧ (nsFind es x ≠ none → es'.size = es.size) := by
  rw [Obj.putName_eq]
  unfold Obj.putNameByArray
  cases hi : es.findIdx? (·.key.isStr x) with
  | some i =>
    refine ⟨_, _, by simp only [hi]; rfl, hk.modify _ _, fun y => findBy_modify (fun n v => v.isStr n) Value.isStr_inj es x y v i hi, ?_, fun _ => ?_⟩
    · simp
    · simp
  | none =>
    refine ⟨_, _, by simp only [hi]; rfl, hk.push _ _ _ _, fun y => findBy_push (fun n v => v.isStr n) es x y _ _ v (fun z => ?_) hi, ?_, fun q => ?_⟩
    · show (x == z) = decide (z = x)
      by_cases h : z = x
      · subst h; simp
      · have : ¬ x = z := fun e => h e.symm
        simp [h, this]
    · simp
    · exfalso
      apply q
      unfold nsFind findBy
      have : es.find? (fun e => e.key.isStr x) = none := by
        rw [Array.find?_eq_none]; intro e he
        simpa using (Array.findIdx?_eq_none_iff.mp hi) e he
      rw [this]; rfl

theorem sim_setattr (g : GOk G) {H' : AH} {v y : AV} {x : Str} {c cy : Value} (R : Rel prog w G φ H s.heap) (e : asetattr H v x y = some H') (rv : RepV s.heap φ v c) (ry : RepV s.heap φ y cy) :
    wpAny (model prog w) A (setAttr c x cy) (fun _ => Post prog w G φ s H' fun _ _ => True) NoE s := by
  cases v <;> simp only [asetattr] at e <;> try cases e
  rename_i k
  simp only [RepV] at rv
  obtain ⟨p, hp, rfl⟩ := rv
  cases hk : H[k]? with
  | none => rw [hk] at e; cases e
  | some ob =>
    rw [hk] at e
    cases ob <;> simp only [] at e <;> try cases e
    rename_i c fs
    split at e
    case isFalse => cases e
    rename_i hfld
    obtain ⟨hfld, hlen⟩ := hfld
    cases e
    obtain ⟨p', es, ep, hp', hc, hne, h2, hs, hz, I, hf⟩ := inst_at R hk
    rw [hp] at hp'; cases hp'
    obtain ⟨pl1, pl2, pl3, pl4, pl5⟩ := g.plain c hc
    obtain ⟨_, ht⟩ := g.field c x hfld
    obtain ⟨cd, hcd, hdict⟩ := any_some pl2
    have X := R.kin g
    refine set_plain X I pl3 ?_
    refine osa_open (s := { s with toks := s.toks + 1 }) X I pl1 ht fun b => ?_
    obtain ⟨es', ep', e1, k1, f1, z1, z2⟩ := putName_at (ep := ep) (x := x) (hsh := PyData.keyHash w.params x) (tk := s.toks + 1) (v := cy) hs
    have hU : (s.heap.update p.2 (Obj.putName x (PyData.keyHash w.params x) (.str x (s.toks + 1)) cy)).get? p.2 = some { cls := .type "dict", data := .dict es' ep' } := by
      rw [Heap.get?_update_self _ h2 (by rw [e1]; rfl), e1]
    refine wpAny_bind (wpAny_pure (wpAny_bind (wpAny_bind (wpAny_loadPart I.at_ (wpAny_bind (looks_clsIn X hcd _ _ _ _ (fun _ _ e => e) ?_))))))
    rw [hdict]
    refine wpAny_pure (a := some p.2) (wpAny_bind (wpAny_pure (wpAny_bind ?_)))
    unfold nsSet
    refine wpAny_bind (wpAny_bind (wpAny_askSetting (wpAny_pure (wpAny_bind (wpAny_mkText (wpAny_bind (wpAny_loadPart h2 ?_)))))))
    dsimp only
    have hq : (!es.any (·.key.isStr x) && es.any (·.refKey)) = false := by
      have : es.any (·.refKey) = false := by
        rw [Array.any_eq_false']; intro e he; obtain ⟨n, t, h⟩ := hs e he; simp [DictEntry.refKey, h]
      rw [this, Bool.and_false]
    rw [aRefKeyMayBeTheName_at, hq]
    refine wpAny_updatePart h2 ?_
    refine wpAny_bind (wpAny_lookBehind hU (pastItsLine_dict (by rw [sizeLine_eq]; omega)) ?_)
    refine wpAny_pure ?_
    show Post prog w G φ s _ _ _
    have kp : ∀ b o, b ≠ p.1 → b ≠ p.2 → s.heap.get? b = some o → (s.heap.update p.2 (Obj.putName x (PyData.keyHash w.params x) (.str x (s.toks + 1)) cy)).get? b = some o :=
      fun b o _ n q => (Heap.get?_update_other _ _ (Ne.symm n)).trans q
    have st : Step φ s.heap φ (s.heap.update p.2 (Obj.putName x (PyData.keyHash w.params x) (.str x (s.toks + 1)) cy)) :=
      ⟨fun b o nf _ e => kp b o (fun q => nf (q ▸ (Foot.of_get hp).1)) (fun q => nf (q ▸ (Foot.of_get hp).2)) e, ⟨[], by simp⟩, rfl, fun _ a => .inl a, fun _ x => x.elim⟩
    suffices key : RepO prog w G (s.heap.update p.2 (Obj.putName x (PyData.keyHash w.params x) (.str x (s.toks + 1)) cy)) φ (.inst c (kput fs x y)) p by
      obtain ⟨R', st'⟩ := R.set hp kp key
      exact ⟨_, _, φ, st', R', trivial⟩
    refine ⟨hc, hne, (Heap.get?_update_other _ _ (Ne.symm hne).symm).trans I.at_, es', ep', hU, k1, ?_, fun z => ?_⟩
    · have hx := hf x
      cases hg : kget fs x with
      | none => rw [kput_none hg]; omega
      | some u =>
        rw [hg] at hx
        obtain ⟨cv, hcv, _⟩ := hx
        rw [kput_some hg, z2 (by rw [hcv]; simp)]; exact hz
    · rw [kget_kput, f1]
      by_cases h : x = z
      · subst h
        rw [if_pos rfl, if_pos rfl]
        exact ⟨cy, rfl, ry.step st⟩
      · rw [if_neg h, if_neg (Ne.symm h)]
        have hz' := hf z
        cases hg : kget fs z with
        | some u => rw [hg] at hz'; obtain ⟨cv, a, b⟩ := hz'; exact ⟨cv, a, b.step st⟩
        | none => rw [hg] at hz'; exact hz'
end
end Mine

namespace Mine
open PySem PySem.W PyProof.Rows PySem.SeqAt PySem.Calls

section
variable {prog : Program} {w : World} {A : Around} {G : Glb} {φ : Phi} {H : AH} {s : Shared}

theorem intsOf_are {h : Heap} : ∀ {l : List AV} {vs : List Value} {is : List Int}, intsOf l = some is → RepVs h φ l vs → IntsAre vs is
  | [], vs, is, e, r => by
    simp only [intsOf] at e; cases e
    simp only [RepVs] at r; subst r; exact .nil
  | a :: l, vs, is, e, r => by
    cases a <;> simp only [intsOf] at e <;> try cases e
    refine omC e fun is' hi er_ => ?_
    subst er_
    simp only [RepVs] at r
    obtain ⟨v, r', rfl, h1, h2⟩ := r
    simp only [RepV] at h1
    obtain ⟨t, rfl⟩ := h1
    exact .cons _ _ (intsOf_are hi h2)
theorem intsAre_items {vs : List Value} {is : List Int} (h : IntsAre vs is) : ∃ xs : Array (Int × Tok), vs.toArray = intItems xs ∧ xs.toList.map (·.1) = is := by
  induction h with
  | nil => exact ⟨#[], by simp [intItems], rfl⟩
  | cons n t _ ih =>
    obtain ⟨xs, e1, e2⟩ := ih
    refine ⟨((n, t) :: xs.toList).toArray, ?_, by simp [e2]⟩
    have : ∀ {a b : List Value}, a.toArray = b.toArray → a = b := fun h => by simpa using h
    have e3 : (intItems xs).toList = xs.toList.map fun p => Value.int p.1 p.2 := by simp [intItems]
    have e4 := congrArg Array.toList e1
    simp only [List.toList_toArray] at e4
    rw [e4, e3]
    simp [intItems]

theorem minFold (r : List Int) : ∀ a : Int, (r.foldl (fun m x => if x < m then x else m) a ∈ a :: r) ∧ ∀ y ∈ a :: r, r.foldl (fun m x => if x < m then x else m) a ≤ y := by
  induction r with
  | nil => intro a; simp
  | cons b r ih =>
    intro a
    simp only [List.foldl_cons]
    obtain ⟨h1, h2⟩ := ih (if b < a then b else a)
    constructor
    · rcases List.mem_cons.mp h1 with q | q
      · rw [q]; split <;> simp
      · simp [q]
    · intro y hy
      have h3 := h2 _ (.head _)
      have h4 : (if b < a then b else a) ≤ a ∧ (if b < a then b else a) ≤ b := by constructor <;> split <;> omega
      rcases List.mem_cons.mp hy with rfl | hy
      · exact Int.le_trans h3 h4.1
      · rcases List.mem_cons.mp hy with rfl | hy
        · exact Int.le_trans h3 h4.2
        · exact h2 y (.tail _ hy)
theorem maxFold (r : List Int) : ∀ a : Int, (r.foldl (fun m x => if m < x then x else m) a ∈ a :: r) ∧ ∀ y ∈ a :: r, y ≤ r.foldl (fun m x => if m < x then x else m) a := by
  induction r with
  | nil => intro a; simp
  | cons b r ih =>
    intro a
    simp only [List.foldl_cons]
    obtain ⟨h1, h2⟩ := ih (if a < b then b else a)
    constructor
    · rcases List.mem_cons.mp h1 with q | q
      · rw [q]; split <;> simp
      · simp [q]
    · intro y hy
      have h3 := h2 _ (.head _)
      have h4 : a ≤ (if a < b then b else a) ∧ b ≤ (if a < b then b else a) := by constructor <;> split <;> omega
      rcases List.mem_cons.mp hy with rfl | hy
      · exact Int.le_trans h4.1 h3
      · rcases List.mem_cons.mp hy with rfl | hy
        · exact Int.le_trans h4.2 h3
        · exact h2 y (.tail _ hy)
theorem minL_spec {l : List Int} {m : Int} (e : minL l = some m) : m ∈ l ∧ ∀ y ∈ l, m ≤ y := by
  induction l using List.casesOn with
  | nil => cases e
  | cons a r => simp only [minL] at e; cases e; exact minFold r a
theorem maxL_spec {l : List Int} {m : Int} (e : maxL l = some m) : m ∈ l ∧ ∀ y ∈ l, y ≤ m := by
  induction l using List.casesOn with
  | nil => cases e
  | cons a r => simp only [maxL] at e; cases e; exact maxFold r a

theorem bt_min (hh : A.handled = none) {l : List AV} {is : List Int} {m : Int} {a : Addr} {vs : List Value} (hi : intsOf l = some is) (hm : minL is = some m) (hl : s.heap.IsList a vs.toArray) (rs : RepVs s.heap φ l vs) :
    wpAny (model prog w) A (call (.builtin "min") [.ref a]) (Quiet φ s (.int m)) NoE s := by
  obtain ⟨xs, e1, e2⟩ := intsAre_items (intsOf_are hi rs)
  obtain ⟨m1, m2⟩ := minL_spec hm
  have hne : 0 < xs.size := by
    rw [← e2] at m1
    cases q : xs.toList with
    | nil => rw [q] at m1; cases m1
    | cons _ _ => rw [← Array.length_toList, q]; simp
  rw [e1] at hl
  refine min_intList hh hl hne fun v h' tk hv hk => ?_
  obtain ⟨t, rfl⟩ := intItems_at hv
  obtain ⟨h1, h2⟩ := argBest_lt (numAt xs) (xs.size - 1)
  have hx : numAt xs (argBest (fun i j => decide (numAt xs i < numAt xs j)) (xs.size - 1)) = m := by
    refine Int.le_antisymm ?_ (m2 _ ?_)
    · rw [← e2] at m1
      obtain ⟨j, hj, hjm⟩ := List.getElem_of_mem m1
      have hj' : j < xs.size := by simpa using hj
      have h3 := h2 j (by omega)
      have h4 : numAt xs j = m := by rw [numAt_eq, List.getD_eq_getElem?_getD, List.getElem?_eq_getElem hj, hjm]; rfl
      rw [h4] at h3; exact h3
    · rw [numAt_eq, e2]
      have h5 : argBest (fun i j => decide (numAt xs i < numAt xs j)) (xs.size - 1) < is.length := by
        have : is.length = xs.size := by rw [← e2, List.length_map, Array.length_toList]
        rw [this]; omega
      rw [List.getD_eq_getElem?_getD, List.getElem?_eq_getElem h5]
      exact List.getElem_mem h5
  rw [hx]
  exact ⟨Keeps.heap _ hk, .int _ _⟩
theorem bt_max (hh : A.handled = none) {l : List AV} {is : List Int} {m : Int} {a : Addr} {vs : List Value} (hi : intsOf l = some is) (hm : maxL is = some m) (hl : s.heap.IsList a vs.toArray) (rs : RepVs s.heap φ l vs) :
    wpAny (model prog w) A (call (.builtin "max") [.ref a]) (Quiet φ s (.int m)) NoE s := by
  obtain ⟨xs, e1, e2⟩ := intsAre_items (intsOf_are hi rs)
  obtain ⟨m1, m2⟩ := maxL_spec hm
  have hne : 0 < xs.size := by
    rw [← e2] at m1
    cases q : xs.toList with
    | nil => rw [q] at m1; cases m1
    | cons _ _ => rw [← Array.length_toList, q]; simp
  rw [e1] at hl
  refine max_intList hh hl hne fun v h' tk hv hk => ?_
  obtain ⟨t, rfl⟩ := intItems_at hv
  obtain ⟨h1, h2⟩ := argBest_gt (numAt xs) (xs.size - 1)
  have hx : numAt xs (argBest (fun i j => decide (numAt xs i > numAt xs j)) (xs.size - 1)) = m := by
    refine Int.le_antisymm (m2 _ ?_) ?_
    · rw [numAt_eq, e2]
      have h5 : argBest (fun i j => decide (numAt xs i > numAt xs j)) (xs.size - 1) < is.length := by
        have : is.length = xs.size := by rw [← e2, List.length_map, Array.length_toList]
        rw [this]; omega
      rw [List.getD_eq_getElem?_getD, List.getElem?_eq_getElem h5]
      exact List.getElem_mem h5
    · rw [← e2] at m1
      obtain ⟨j, hj, hjm⟩ := List.getElem_of_mem m1
      have hj' : j < xs.size := by simpa using hj
      have h3 := h2 j (by omega)
      have h4 : numAt xs j = m := by rw [numAt_eq, List.getD_eq_getElem?_getD, List.getElem?_eq_getElem hj, hjm]; rfl
      rw [h4] at h3; exact h3
  rw [hx]
  exact ⟨Keeps.heap _ hk, .int _ _⟩
theorem bt_sum (hh : A.handled = none) {l : List AV} {is : List Int} {a : Addr} {vs : List Value} (hi : intsOf l = some is) (hl : s.heap.IsList a vs.toArray) (rs : RepVs s.heap φ l vs) :
    wpAny (model prog w) A (call (.builtin "sum") [.ref a]) (Quiet φ s (.int is.sum)) NoE s := by
  obtain ⟨xs, e1, e2⟩ := intsAre_items (intsOf_are hi rs)
  rw [e1] at hl
  refine sum_intListG hh hl fun h' tk t' hk => ?_
  have : preSum (numAt xs) xs.size = is.sum := by
    rw [preSum_eq, e2]
    congr 1
    rw [List.take_of_length_le]; rw [← e2]; simp
  rw [this]
  exact ⟨Keeps.heap _ hk, .int _ _⟩

theorem boolsOf_at {h : Heap} : ∀ {l : List AV} {vs : List Value} {bs : List Bool}, boolsOf l = some bs → RepVs h φ l vs → vs = bs.map Value.bool
  | [], vs, is, e, r => by
    simp only [boolsOf] at e; cases e
    simp only [RepVs] at r; subst r; rfl
  | a :: l, vs, is, e, r => by
    cases a <;> simp only [boolsOf] at e <;> try cases e
    refine omC e fun is' hi er_ => ?_
    subst er_
    simp only [RepVs] at r
    obtain ⟨v, r', rfl, h1, h2⟩ := r
    simp only [RepV] at h1
    subst h1
    rw [boolsOf_at hi h2]; rfl
theorem range_any (bs : List Bool) : (List.range bs.length).any (fun i => bs.getD i false) = bs.any id := by
  rw [Bool.eq_iff_iff]
  simp only [List.any_eq_true, List.mem_range, id]
  constructor
  · rintro ⟨i, hi, h⟩
    refine ⟨true, ?_, rfl⟩
    rw [← h]
    simp [List.getD, hi]
  · rintro ⟨b, hb, h⟩
    obtain ⟨i, hi, e⟩ := List.getElem_of_mem hb
    exact ⟨i, hi, by simp [List.getD, hi, e, h]⟩
theorem bt_any (hh : A.handled = none) {l : List AV} {bs : List Bool} {a : Addr} {vs : List Value} (hi : boolsOf l = some bs) (hl : s.heap.IsList a vs.toArray) (rs : RepVs s.heap φ l vs) :
    wpAny (model prog w) A (call (.builtin "any") [.ref a]) (Quiet φ s (.bool (bs.any id))) NoE s := by
  have e := boolsOf_at hi rs
  obtain ⟨ol, hol, _⟩ := id hl
  have hlt : a < s.heap.objs.size := Heap.lt_size hol
  refine call_any_walk (wpAny_pyIter_list hl ⟨_, _, _, _, _, _, fun i => bs.getD i false, rfl, Walks.list (A := A.in1) hh s.heap.objs.size a (Nat.ne_of_lt hlt) vs.toArray,
    ⟨⟨_, Heap.get?_push_size _ rfl, rfl, rfl⟩, hl.push _⟩, fun i v s' Q E hp hq => ?_, fun h' tk hk => ?_⟩)
  · subst e
    have hp' : (bs.map Value.bool)[i]? = some v := by simpa using hp
    rw [List.getElem?_map] at hp'
    refine omC hp' fun b hb er_ => ?_
    subst er_
    refine wpAny_truthy_bool ?_
    simpa [List.getD, hb] using hq
  · subst e
    have : (List.range (bs.map Value.bool).toArray.size).any (fun i => bs.getD i false) = bs.any id := by
      rw [← range_any]; simp
    rw [this]
    refine ⟨Keeps.heap _ fun b o e => ?_, .bool _⟩
    exact hk b o (fun hm => by have := List.mem_singleton.mp hm; exact absurd (Heap.lt_size e) (by rw [this]; exact Nat.lt_irrefl _)) (Heap.get?_push_of_some _ e)
end
end Mine

namespace Mine
open PySem PySem.W PyProof.Rows PySem.SeqAt PySem.Calls

theorem rising_sorted {l : List Int} (h : rising l = true) : l.Pairwise (· < ·) := by
  induction l with
  | nil => exact .nil
  | cons a r ih =>
    induction r using List.casesOn with
    | nil => simp
    | cons b r =>
      simp only [rising, Bool.and_eq_true, decide_eq_true_eq] at h
      have := ih h.2
      rw [List.pairwise_cons] at this ⊢
      refine ⟨fun x hx => ?_, List.pairwise_cons.mpr this⟩
      rcases List.mem_cons.mp hx with rfl | hx
      · exact h.1
      · exact Int.lt_trans h.1 (this.1 x hx)
/-- two risen lists of the same items are one -/
theorem perm_rising : ∀ {l r : List Int}, r.Perm l → r.Pairwise (· ≤ ·) → l.Pairwise (· < ·) → r = l
  | [], r, p, _, _ => p.eq_nil
  | a :: l, [], p, _, _ => by have := p.length_eq; simp at this
  | a :: l, b :: r, p, hr, hl => by
    rw [List.pairwise_cons] at hr hl
    have hab : a = b := by
      have h1 : b ∈ a :: l := p.mem_iff.mp (.head _)
      have h2 : a ∈ b :: r := p.mem_iff.mpr (.head _)
      rcases List.mem_cons.mp h1 with e | h1
      · exact e.symm
      · rcases List.mem_cons.mp h2 with e | h2
        · exact e
        · have := hl.1 b h1
          have := hr.1 a h2
          omega
    subst hab
    rw [perm_rising ((List.perm_cons a).mp p) hr.2 hl.2]

section
variable {prog : Program} {w : World} {A : Around} {G : Glb} {φ : Phi} {H : AH} {s : Shared}

theorem repVs_ints {h : Heap} : ∀ {vs : List Value} {is : List Int}, IntsAre vs is → RepVs h φ (is.map AV.int) vs
  | _, _, .nil => RepVs.nil
  | _, _, .cons n t x => RepVs.cons (.int n t) (repVs_ints x)

theorem intsAre_of_at : ∀ {vs : List Value} {is : List Int}, vs.length = is.length → (∀ (j : Nat) (v : Value), vs[j]? = some v → ∃ k t, is[j]? = some k ∧ v = .int k t) → IntsAre vs is
  | [], [], _, _ => .nil
  | [], _ :: _, h, _ => by cases h
  | _ :: _, [], h, _ => by cases h
  | v :: vs, i :: is, h, f => by
    obtain ⟨k, t, hk, hv⟩ := f 0 v rfl
    simp at hk
    subst hk
    rw [hv]
    exact .cons _ _ (intsAre_of_at (by simpa using h) fun j v' e => by simpa using f (j + 1) v' (by simpa using e))

theorem bt_sorted (g : GOk G) (hh : A.handled = none) (R : Rel prog w G φ H s.heap) {d : Addr} {kvs : List (Int × Value)} (hd : s.heap.DictOf (intKind prog w) d kvs) (hm : (d == sysModules) = false) (hlen : kvs.length < 64)
    (hr : rising (kvs.map (·.1)) = true) : wpAny (model prog w) A (call (.builtin "sorted") [.ref d]) (Quiet φ s (.lst ((kvs.map (·.1)).map AV.int))) NoE s := by
  obtain ⟨ep, hat⟩ := hd.dictAt
  have hz : kvs.length ≤ sizeLine := by rw [sizeLine_eq]; omega
  refine call_function_entry kind_sorted plain_sorted entry_sorted (args_sorted1 _) ?_
  unfold Builtin.«sorted»
  refine wpAny_bind (m := checkCount "sorted" 1 1 _) (wpAny_pure ?_)
  refine wpAny_bind (kdu_collect (A := A.in1) (kdl_dict (knd := intKind prog w) (kvs := kvs) (ep := ep) hm) hh hat hz fun h' tk acc hk hacc => ?_)
  have hl : acc.toList.length = kvs.length := by rw [Array.length_toList]; exact hacc.1
  have hI : IntsAre acc.toList (kvs.map (·.1)) := intsAre_of_at (by rw [hl, List.length_map]) fun j v e => by
    obtain ⟨k, x, hx, hkv⟩ := hacc.2 j v (by rw [← Array.getElem?_toList]; exact e)
    obtain ⟨t, rfl⟩ := Value.isInt_shape hkv
    exact ⟨k, t, by rw [List.getElem?_map, hx]; rfl, rfl⟩
  refine wpAny_bind (wpAny_newList ?_ (by rw [hl]; exact hz))
  have hoL : (h'.push (seqObj "list" acc.toList.toArray 0)).get? h'.objs.size = some (seqObj "list" acc.toList.toArray 0) := Heap.get?_push_size _ rfl
  refine wpAny_bind (wpAny_holding (wpAny_call_entry slot_list_sort ⟨_, hoL, rfl⟩ entry_list_sort (list_sort_tree hoL hI (by rw [hl]; exact hlen) fun out ns' a1 a2 a3 => ⟨_, rfl, ?_⟩) (args_list_sort _)))
  refine wpAny_pure ⟨_, rfl, ?_⟩
  have hns : ns' = kvs.map (·.1) := perm_rising a2 a3 (rising_sorted hr)
  subst hns
  have kept : ∀ b o, s.heap.get? b = some o → (sortedHeap (h'.push (seqObj "list" acc.toList.toArray 0)) h'.objs.size acc.toList out).get? b = some o := fun b o e => by
    have := hk b o e
    rw [sortedHeap_old (Nat.ne_of_lt (Heap.lt_size this)) (by rw [Heap.size_push]; exact Nat.lt_succ_of_lt (Heap.lt_size this))]
    exact Heap.get?_push_of_some _ this
  obtain ⟨e, he⟩ := sortedHeap_at (out := out) hoL
  have fresh : s.heap.get? h'.objs.size = none := by
    cases q : s.heap.get? h'.objs.size with
    | none => rfl
    | some o => exact absurd (Heap.lt_size (hk _ _ q)) (Nat.lt_irrefl _)
  refine ⟨Keeps.heap _ kept, ?_⟩
  simp only [RepV]
  exact ⟨_, out.toList, rfl, ⟨_, he, rfl, e, by simp [seqObj]⟩, R.offNew fresh, repVs_ints a1⟩

/-- what a step gives, with its value -/
noncomputable abbrev PostV (prog : Program) (w : World) (G : Glb) (φ : Phi) (s : Shared) (v : AV) (H' : AH) (c : Value) (s' : Shared) : Prop :=
  Post prog w G φ s H' (fun φ' h' => RepV h' φ' v c) s'
theorem eqPV {t : Sem Value} {v v' : AV} {H' H'' : AH} (e : (v, H') = (v', H'')) (h : wpAny (model prog w) A t (PostV prog w G φ s v H') NoE s) : wpAny (model prog w) A t (PostV prog w G φ s v' H'') NoE s := by
  cases e; exact h
theorem Quiet.post {v : AV} {c : Value} {s' : Shared} (R : Rel prog w G φ H s.heap) (q : Quiet φ s v c s') : PostV prog w G φ s v H c s' := Post.of_keeps R q.1 q.2

theorem Step.snoc {h h' : Heap} {p : Addr × Addr} (k : ∀ b x, h.get? b = some x → h'.get? b = some x) (f1 : h.get? p.1 = none) (f2 : h.get? p.2 = none) : Step φ h ⟨φ.objs ++ [p], φ.ex⟩ h' := by
  refine ⟨fun b o _ _ e => k b o e, ⟨[p], rfl⟩, rfl, fun a f => ?_, fun _ x => x.elim⟩
  obtain ⟨q, hq, e⟩ := f
  rcases List.mem_append.mp hq with z | z
  · exact .inl ⟨q, z, e⟩
  · cases List.mem_singleton.mp z
    rcases e with rfl | rfl
    · exact .inr f1
    · exact .inr f2

/-- what stands for a callable that is no object -/
noncomputable def Flat0 (c : Value) : Prop := (∃ i, c = .builtin i) ∨ ∃ t, c = .type t

noncomputable def biVal (p : String × Bool × (List AV → AH → Option (AV × AH))) : Value := if p.2.1 = true then .type p.1 else .builtin p.1
theorem bi_in {f : Str} {args : List AV} {r : AV × AH} : ∀ {l : List (String × Bool × (List AV → AH → Option (AV × AH)))}, biIn f args H l = some r → ∃ p ∈ l, f = Str.ofString p.1 ∧ p.2.2 args H = some r
  | [], e => nos e
  | p :: l, e => by
    have e : (if f = Str.ofString p.1 then p.2.2 args H else biIn f args H l) = some r := e
    by_cases h : f = Str.ofString p.1
    · rw [if_pos h] at e; exact ⟨p, .head _, h, e⟩
    · rw [if_neg h] at e
      obtain ⟨q, m, x⟩ := bi_in e
      exact ⟨q, .tail _ m, x⟩
theorem bi_table (g : GOk G) : ∀ p ∈ biTable, G.mg (Str.ofString p.1) = none ∧ G.mb (Str.ofString p.1) = some (biVal p) ∧ Flat0 (biVal p) := by
  refine all_cons ?_ (all_cons ?_ (all_cons ?_ (all_cons ?_ (all_cons ?_ (all_cons ?_ (all_cons ?_ (all_cons ?_ (all_cons ?_ fun x m => nomatch m))))))))
  · exact ⟨(g.bi _ (.head _)).1, (g.bi _ (.head _)).2, .inl ⟨_, rfl⟩⟩
  · exact ⟨(g.bi _ (.tail _ (.head _))).1, (g.bi _ (.tail _ (.head _))).2, .inl ⟨_, rfl⟩⟩
  · exact ⟨(g.bi _ (.tail _ (.tail _ (.head _)))).1, (g.bi _ (.tail _ (.tail _ (.head _)))).2, .inl ⟨_, rfl⟩⟩
  · exact ⟨(g.bi _ (.tail _ (.tail _ (.tail _ (.head _))))).1, (g.bi _ (.tail _ (.tail _ (.tail _ (.head _))))).2, .inl ⟨_, rfl⟩⟩
  · exact ⟨(g.bi _ (.tail _ (.tail _ (.tail _ (.tail _ (.head _)))))).1, (g.bi _ (.tail _ (.tail _ (.tail _ (.tail _ (.head _)))))).2, .inl ⟨_, rfl⟩⟩
  · exact ⟨(g.bi _ (.tail _ (.tail _ (.tail _ (.tail _ (.tail _ (.head _))))))).1, (g.bi _ (.tail _ (.tail _ (.tail _ (.tail _ (.tail _ (.head _))))))).2, .inl ⟨_, rfl⟩⟩
  · exact ⟨(g.bi _ (.tail _ (.tail _ (.tail _ (.tail _ (.tail _ (.tail _ (.head _)))))))).1, (g.bi _ (.tail _ (.tail _ (.tail _ (.tail _ (.tail _ (.tail _ (.head _)))))))).2, .inl ⟨_, rfl⟩⟩
  · exact ⟨(g.ty _ (.head _)).1, (g.ty _ (.head _)).2, .inr ⟨_, rfl⟩⟩
  · exact ⟨(g.ty _ (.tail _ (.head _))).1, (g.ty _ (.tail _ (.head _))).2, .inr ⟨_, rfl⟩⟩
theorem argL_inv {h : Heap} {args : List AV} {cargs : List Value} {l : List AV} {C : Prop} (e : argL args = some l) (ra : RepVs h φ args cargs) (k : ∀ ad vs, cargs = [.ref ad] → h.IsList ad vs.toArray → RepVs h φ l vs → C) : C := by
  rcases args with _ | ⟨a, _ | ⟨b, r⟩⟩
  · exact nos e
  · induction a using Mine.AV.casesOn with
    | lst l' =>
      cases Option.some.inj (show some l' = some l from e)
      simp only [RepVs, RepV] at ra
      obtain ⟨_, _, rfl, ⟨ad, vs, rfl, hL, _, rs⟩, rfl⟩ := ra
      exact k ad vs rfl hL rs
    | _ => exact nos e
  · induction a using Mine.AV.casesOn <;> exact nos e
theorem argI_inv {h : Heap} {args : List AV} {cargs : List Value} {i : Int} {C : Prop} (e : argI args = some i) (ra : RepVs h φ args cargs) (k : ∀ t, cargs = [.int i t] → C) : C := by
  rcases args with _ | ⟨a, _ | ⟨b, r⟩⟩
  · exact nos e
  · induction a using Mine.AV.casesOn with
    | int j =>
      cases Option.some.inj (show some j = some i from e)
      simp only [RepVs, RepV] at ra
      obtain ⟨_, _, rfl, ⟨t, rfl⟩, rfl⟩ := ra
      exact k t rfl
    | _ => exact nos e
  · induction a using Mine.AV.casesOn <;> exact nos e
theorem argII_inv {h : Heap} {args : List AV} {cargs : List Value} {p : Int × Int} {C : Prop} (e : argII args = some p) (ra : RepVs h φ args cargs) (k : ∀ t u, cargs = [.int p.1 t, .int p.2 u] → C) : C := by
  rcases args with _ | ⟨a, _ | ⟨b, _ | ⟨c, r⟩⟩⟩
  · exact nos e
  · induction a using Mine.AV.casesOn <;> exact nos e
  · induction a using Mine.AV.casesOn with
    | int i =>
      induction b using Mine.AV.casesOn with
      | int j =>
        cases Option.some.inj (show some (i, j) = some p from e)
        simp only [RepVs, RepV] at ra
        obtain ⟨_, _, rfl, ⟨t, rfl⟩, _, _, rfl, ⟨u, rfl⟩, rfl⟩ := ra
        exact k t u rfl
      | _ => exact nos e
    | _ => exact nos e
  · induction a using Mine.AV.casesOn with
    | int i => induction b using Mine.AV.casesOn <;> exact nos e
    | _ => exact nos e
theorem argR_inv {args : List AV} {cargs : List Value} {k : Nat} {C : Prop} (R : Rel prog w G φ H s.heap) (e : argR args = some k) (ra : RepVs s.heap φ args cargs) (kk : ∀ p, cargs = [.ref p.1] → φ.objs[k]? = some p → C) : C := by
  rcases args with _ | ⟨a, _ | ⟨b, r⟩⟩
  · exact nos e
  · induction a using Mine.AV.casesOn with
    | ref j =>
      cases Option.some.inj (show some j = some k from e)
      simp only [RepVs, RepV] at ra
      obtain ⟨_, _, rfl, ⟨p, hp, rfl⟩, rfl⟩ := ra
      exact kk p rfl hp
    | _ => exact nos e
  · induction a using Mine.AV.casesOn <;> exact nos e
theorem arg1_inv {h : Heap} {args : List AV} {cargs : List Value} {v : AV} {C : Prop} (e : arg1 args = some v) (ra : RepVs h φ args cargs) (k : ∀ c, cargs = [c] → RepV h φ v c → C) : C := by
  rcases args with _ | ⟨a, _ | ⟨b, r⟩⟩
  · exact nos e
  · cases Option.some.inj (show some a = some v from e)
    simp only [RepVs] at ra
    obtain ⟨c, _, rfl, rv, rfl⟩ := ra
    exact k c rfl rv
  · exact nos e
theorem asList_inv {a : AV} {l : List AV} {c : Value} {C : Prop} (R : Rel prog w G φ H s.heap) (hl : asList H a = some l) (rv : RepV s.heap φ a c) (k : ∀ ad vs, c = .ref ad → s.heap.IsList ad vs.toArray → RepVs s.heap φ l vs → C) : C := by
  induction a using Mine.AV.casesOn with
  | lst l' =>
    cases Option.some.inj (show some l' = some l from hl)
    simp only [RepV] at rv
    obtain ⟨ad, vs, rfl, hL, _, rs⟩ := rv
    exact k ad vs rfl hL rs
  | ref j =>
    simp only [RepV] at rv
    obtain ⟨p, hp, rfl⟩ := rv
    have hl : (match H[j]? with | some (.list l) => some l | _ => none) = some l := hl
    cases hk : H[j]? with
    | none => rw [hk] at hl; exact nos hl
    | some ob =>
      obtain ⟨p', hp', ro⟩ := R.obj j _ hk
      rw [hp] at hp'; cases hp'
      rw [hk] at hl
      induction ob using Mine.AObj.casesOn with
      | list l' =>
        cases Option.some.inj (show some l' = some l from hl)
        obtain ⟨_, vs, hL, rs⟩ := ro
        exact k _ vs rfl hL.isList rs
      | _ => exact nos hl
  | _ => exact nos hl

/-- what a builtin gives -/
noncomputable def SimBi (prog : Program) (w : World) (G : Glb) (A : Around) (p : String × Bool × (List AV → AH → Option (AV × AH))) : Prop := ∀ {φ : Phi} {H : AH} {s : Shared} {args : List AV} {cargs : List Value} {v : AV} {H' : AH},
  p.2.2 args H = some (v, H') → Rel prog w G φ H s.heap → RepVs s.heap φ args cargs → wpAny (model prog w) A (call (biVal p) cargs) (PostV prog w G φ s v H') NoE s
theorem bi_quiet {t : Sem Value} {v : AV} (R : Rel prog w G φ H s.heap) (h : wpAny (model prog w) A t (Quiet φ s v) NoE s) : wpAny (model prog w) A t (PostV prog w G φ s v H) NoE s := wpAny_mono h (fun _ _ q => q.post R) fun _ _ q => q
theorem int_eq {h : Heap} {i j : Int} {t : Tok} (e : i = j) : RepV h φ (.int j) (.int i t) := by subst e; exact .int _ _
theorem sim_abs : SimBi prog w G A ("abs", false, biAbs) := fun {φ H s args cargs v H'} e R ra => by
  refine omC e fun i hi e => argI_inv hi ra fun t ec => ?_
  cases e
  subst ec
  exact call_abs_int fun u tk => Quiet.post R ⟨Keeps.toks _ _, int_eq (by split <;> omega)⟩
theorem sim_len : SimBi prog w G A ("len", false, biLen) := fun {φ H s args cargs v H'} e R ra => by
  refine obC e fun a ha e => obC e fun l hl e => ?_
  obtain ⟨hlen, e⟩ := itr e
  refine arg1_inv ha ra fun c ec rv => asList_inv R hl rv fun ad vs e1 hL rs => ?_
  cases e
  subst ec
  subst e1
  have hlen : l.length < 100000 := hlen
  have hsz : vs.length = l.length := rs.length
  refine call_len_list hL (by rw [List.size_toArray]; omega) (Quiet.post R ⟨Keeps.toks _ _, int_eq ?_⟩)
  rw [List.size_toArray, hsz]
theorem sim_min (hh : A.handled = none) : SimBi prog w G A ("min", false, biMin) := fun {φ H s args cargs v H'} e R ra => by
  have e : (match argII args with
    | some p => some (AV.int (if p.2 < p.1 then p.2 else p.1), H)
    | none => (argL args).bind fun l => if l.length < lenLine then ((intsOf l).bind minL).map fun i => (AV.int i, H) else none) = some (v, H') := e
  cases h2 : argII args with
  | some p =>
    rw [h2] at e
    cases e
    refine argII_inv h2 ra fun t u ec => ?_
    subst ec
    refine min_two_ints hh fun h' tk hk => Quiet.post R ⟨Keeps.heap _ hk, ?_⟩
    by_cases c : p.2 < p.1
    · rw [if_pos c, if_pos c]; exact .int _ _
    · rw [if_neg c, if_neg c]; exact .int _ _
  | none =>
    rw [h2] at e
    refine obC e fun l hl e => ?_
    obtain ⟨_, e⟩ := itr e
    refine omC e fun m hm e => obC hm fun is hi hm => argL_inv hl ra fun ad vs ec hL rs => ?_
    cases e
    subst ec
    exact bi_quiet R (bt_min hh hi hm hL rs)
theorem sim_max (hh : A.handled = none) : SimBi prog w G A ("max", false, biMax) := fun {φ H s args cargs v H'} e R ra => by
  have e : (match argII args with
    | some p => some (AV.int (if p.1 < p.2 then p.2 else p.1), H)
    | none => (argL args).bind fun l => if l.length < lenLine then ((intsOf l).bind maxL).map fun i => (AV.int i, H) else none) = some (v, H') := e
  cases h2 : argII args with
  | some p =>
    rw [h2] at e
    cases e
    refine argII_inv h2 ra fun t u ec => ?_
    subst ec
    refine max_two_ints hh fun h' tk hk => Quiet.post R ⟨Keeps.heap _ hk, ?_⟩
    by_cases c : p.1 < p.2
    · rw [if_pos c, if_pos c]; exact .int _ _
    · rw [if_neg c, if_neg c]; exact .int _ _
  | none =>
    rw [h2] at e
    refine obC e fun l hl e => ?_
    obtain ⟨_, e⟩ := itr e
    refine omC e fun m hm e => obC hm fun is hi hm => argL_inv hl ra fun ad vs ec hL rs => ?_
    cases e
    subst ec
    exact bi_quiet R (bt_max hh hi hm hL rs)
theorem sim_sum (hh : A.handled = none) : SimBi prog w G A ("sum", false, biSum) := fun {φ H s args cargs v H'} e R ra => by
  refine obC e fun l hl e => ?_
  obtain ⟨_, e⟩ := itr e
  refine omC e fun is hi e => argL_inv hl ra fun ad vs ec hL rs => ?_
  cases e
  subst ec
  exact bi_quiet R (bt_sum hh hi hL rs)
theorem sim_any (hh : A.handled = none) : SimBi prog w G A ("any", false, biAny) := fun {φ H s args cargs v H'} e R ra => by
  refine obC e fun l hl e => ?_
  obtain ⟨_, e⟩ := itr e
  refine omC e fun is hi e => argL_inv hl ra fun ad vs ec hL rs => ?_
  cases e
  subst ec
  exact bi_quiet R (bt_any hh hi hL rs)
theorem sim_sorted (g : GOk G) (hh : A.handled = none) : SimBi prog w G A ("sorted", false, biSorted) := fun {φ H s args cargs v H'} e R ra => by
  refine obC e fun k hk e => argR_inv R hk ra fun p ec hp => ?_
  subst ec
  have hm := R.mod _ (Foot.of_get hp).1
  have e : (match H[k]? with
    | some (.dictI es) => if es.length < 64 ∧ rising (es.map (·.1)) then some (AV.lst (es.map fun e => AV.int e.1), H) else none
    | some .dictE => some (AV.lst [], H)
    | _ => none) = some (v, H') := e
  cases hk : H[k]? with
  | none => rw [hk] at e; exact nos e
  | some ob =>
    obtain ⟨p', hp', ro⟩ := R.obj k _ hk
    rw [hp] at hp'; cases hp'
    rw [hk] at e
    induction ob using Mine.AObj.casesOn with
    | dictE =>
      cases e
      exact bi_quiet R (bt_sorted g hh R (dictE_of ro.2) hm (Nat.le_of_ble_eq_true rfl) rfl)
    | dictI es =>
      obtain ⟨hc, e⟩ := itr e
      cases e
      obtain ⟨_, kvs, hd, rk⟩ := ro
      have hkeys := rk.keys
      have := bi_quiet R (bt_sorted (A := A) g hh R hd hm (by rw [rk.length]; exact hc.1) (by rw [hkeys]; exact hc.2))
      rw [hkeys, List.map_map] at this
      exact this
    | _ => exact nos e
theorem sim_list (g : GOk G) : SimBi prog w G A ("list", true, biList) := fun {φ H s args cargs v H'} e R ra => by
  refine obC e fun l hl e => ?_
  obtain ⟨hlen, e⟩ := itr e
  refine argL_inv hl ra fun ad vs ec hL rs => ?_
  cases e
  subst ec
  have hlen : l.length < 100000 := hlen
  obtain ⟨o, ho, hc, n, hd⟩ := hL
  have hsz : vs.length = l.length := rs.length
  refine call_list_seq ad (.inl rfl) ho hc hd (fun h' c' hk hn => ?_) (by rw [List.size_toArray, hsz, sizeLine_eq]; omega)
  have fr : s.heap.get? s.heap.objs.size = none := fresh_none (Nat.le_refl _)
  have hi := R.high g
  have st0 := Step.snoc (φ := φ) (p := (s.heap.objs.size, s.heap.objs.size)) hk fr fr
  obtain ⟨R', st'⟩ := R.snoc (p := (s.heap.objs.size, s.heap.objs.size)) (o := .list l) hk fr fr hi hi ⟨rfl, vs, ⟨c', hn⟩, rs.step st0⟩
  refine ⟨h', _, _, st', R', ?_⟩
  simp only [RepV]
  exact ⟨(s.heap.objs.size, s.heap.objs.size), by rw [← R.len]; simp, rfl⟩
theorem sim_range : SimBi prog w G A ("range", true, biRange) := fun {φ H s args cargs v H'} e R ra => by
  refine obC e fun n hn e => ?_
  obtain ⟨⟨n0, n1⟩, e⟩ := itr e
  refine argI_inv hn ra fun t ec => ?_
  cases e
  subst ec
  have n1 : n < (100000 : Nat) := n1
  refine PySem.call_range_1 (Quiet.post R ⟨Keeps.heap _ fun b o q => Heap.get?_push_of_some _ q, ?_⟩)
  simp only [RepV]
  have hnn : ((n.toNat : Nat) : Int) = n := Int.toNat_of_nonneg n0
  refine ⟨_, s.toks, t, s.toks + 1, rfl, ?_, R.offNew (fresh_none (Nat.le_refl _)), by show n.toNat < 100000; omega⟩
  rw [hnn]; exact Heap.get?_push_size _ rfl
theorem sim_table (g : GOk G) (hh : A.handled = none) : ∀ p ∈ biTable, SimBi prog w G A p :=
  all_cons sim_abs (all_cons sim_len (all_cons (sim_min hh) (all_cons (sim_max hh) (all_cons (sim_sum hh) (all_cons (sim_any hh) (all_cons (sim_sorted g hh) (all_cons (sim_list g) (all_cons sim_range fun x m => nomatch m))))))))
theorem sim_builtin (g : GOk G) (hh : A.handled = none) {f : Str} {args : List AV} {cargs : List Value} {v : AV} {H' : AH} (e : abuiltin f args H = some (v, H')) (R : Rel prog w G φ H s.heap) (ra : RepVs s.heap φ args cargs) :
    ∃ cf, G.mg f = none ∧ G.mb f = some cf ∧ Flat0 cf ∧ wpAny (model prog w) A (call cf cargs) (PostV prog w G φ s v H') NoE s := by
  obtain ⟨p, m, rfl, e1⟩ := bi_in e
  have b := bi_table g p m
  exact ⟨_, b.1, b.2.1, b.2.2, sim_table g hh p m e1 R ra⟩
end
end Mine

namespace Mine
open PySem PySem.W PyProof.Rows PySem.SeqAt PySem.Calls

/-- what a method call's function is, on the model's side -/
noncomputable def MRefR (G : Glb) (φ : Phi) : MRef → Str → Value → List Value → Prop
  | .lst k, m, f, first => ∃ p, φ.objs[k]? = some p ∧ f = .builtin (if m = "append" then "list.append" else "list.pop") ∧ first = [.ref p.1] ∧ (m = "append" ∨ m = "pop")
  | .dct k, m, f, first => ∃ p, φ.objs[k]? = some p ∧ f = .builtin (if m = "pop" then "dict.pop" else if m = "values" then "dict.values" else if m = "get" then "dict.get" else "dict.update") ∧ first = [.ref p.1] ∧ (m = "pop" ∨ m = "values" ∨ m = "get" ∨ m = "update")
  | .usr k c j, m, f, first => ∃ p a, φ.objs[k]? = some p ∧ first = [.ref p.1] ∧ f = .ref a ∧ ∀ fd, mdef (cplace c) j = some fd → okFD fd = true ∧ isFn G.K (.ref a) = true ∧ FnAt G a fd

section
variable {prog : Program} {w : World} {A : Around} {G : Glb} {φ : Phi} {H : AH} {s : Shared}

theorem MRefR.step {φ' : Phi} {h h' : Heap} (x : Step φ h φ' h') {r : MRef} {m : Str} {f : Value} {first : List Value} (e : MRefR G φ r m f first) : MRefR G φ' r m f first := by
  induction r using Mine.MRef.casesOn with
  | lst k => obtain ⟨p, a, b⟩ := e; exact ⟨p, x.get a, b⟩
  | dct k => obtain ⟨p, a, b⟩ := e; exact ⟨p, x.get a, b⟩
  | usr k c j => obtain ⟨p, a, b, d⟩ := e; exact ⟨p, a, x.get b, d⟩

theorem names_def : ((rttNames.all fun p => (mdef 5 p.2).isSome) && renNames.all fun p => (mdef 23 p.2).isSome) = true := by decide +kernel
theorem midx_mdef {c : Nat} {m : Str} {j : Nat} (e : midx c m = some j) : ∃ fd, mdef (cplace c) j = some fd := by
  have n := Bool.and_eq_true_iff.mp names_def
  refine iteS e (fun h e => ?_) fun h e => iteS e (fun h e => ?_) fun h e => nos e
  · rw [h]; exact Option.isSome_iff_exists.mp (List.all_eq_true.mp n.1 _ (kget_mem e))
  · rw [h]; exact Option.isSome_iff_exists.mp (List.all_eq_true.mp n.2 _ (kget_mem e))
theorem dict_method {p : Addr × Addr} {k : Nat} {m : Str} {pl : Sem Bool} {o : Obj} (hp : φ.objs[k]? = some p) (ho : s.heap.get? p.1 = some o) (hcls : o.cls = .type "dict") (hdn : o.dict = none) (hm : m = "pop" ∨ m = "values" ∨ m = "get" ∨ m = "update") :
    wpAny (model prog w) A (getMethod (.ref p.1) m pl) (fun fx s' => s' = s ∧ MRefR G φ (.dct k) m fx.1 fx.2) NoE s := by
  have hT : s.TypeIs (.ref p.1) "dict" := ⟨_, ho, hcls⟩
  have hd : ∀ a, Value.ref p.1 = .ref a → ∃ o, s.heap.get? a = some o ∧ o.dict = none := fun a e => by cases e; exact ⟨_, ho, hdn⟩
  rcases hm with rfl | rfl | rfl | rfl
  · exact getMethod_builtin hT PySem.F.plainAttrs_dict PySem.F.slot_dict_pop PySem.F.type_dict_pop hd ⟨rfl, p, hp, rfl, rfl, .inl rfl⟩
  · exact getMethod_builtin hT PySem.F.plainAttrs_dict PySem.F.slot_dict_values PySem.F.type_dict_values hd ⟨rfl, p, hp, rfl, rfl, .inr (.inl rfl)⟩
  · exact getMethod_builtin hT PySem.F.plainAttrs_dict PySem.F.slot_dict_get PySem.F.type_dict_get hd ⟨rfl, p, hp, rfl, rfl, .inr (.inr (.inl rfl))⟩
  · exact getMethod_builtin hT PySem.F.plainAttrs_dict PySem.F.slot_dict_update PySem.F.type_dict_update hd ⟨rfl, p, hp, rfl, rfl, .inr (.inr (.inr rfl))⟩
theorem list_method {p : Addr × Addr} {k n : Nat} {m : Str} {pl : Sem Bool} {vs : Array Value} (hp : φ.objs[k]? = some p) (ho : s.heap.get? p.1 = some { cls := .type "list", data := .seq vs n }) (hm : m = "append" ∨ m = "pop") :
    wpAny (model prog w) A (getMethod (.ref p.1) m pl) (fun fx s' => s' = s ∧ MRefR G φ (.lst k) m fx.1 fx.2) NoE s := by
  have hT : s.TypeIs (.ref p.1) "list" := ⟨_, ho, rfl⟩
  have hd : ∀ a, Value.ref p.1 = .ref a → ∃ o, s.heap.get? a = some o ∧ o.dict = none := fun a e => by cases e; exact ⟨_, ho, rfl⟩
  rcases hm with rfl | rfl
  · exact getMethod_builtin hT PySem.F.plainAttrs_list PySem.F.slot_list_append PySem.F.type_list_append hd ⟨rfl, p, hp, rfl, rfl, .inl rfl⟩
  · exact getMethod_builtin hT PySem.F.plainAttrs_list PySem.F.slot_list_pop PySem.F.type_list_pop hd ⟨rfl, p, hp, rfl, rfl, .inr rfl⟩
theorem inst_method (g : GOk G) {p : Addr × Addr} {k c j : Nat} {fs : List (Str × AV)} {m : Str} {pl : Sem Bool} (R : Rel prog w G φ H s.heap) (hp : φ.objs[k]? = some p) (hk : H[k]? = some (.inst c fs)) (hj : midx c m = some j) (hkg : (kget fs m).isNone = true) :
    wpAny (model prog w) A (getMethod (.ref p.1) m pl) (fun fx s' => s' = s ∧ MRefR G φ (.usr k c j) m fx.1 fx.2) NoE s := by
  obtain ⟨p', es, ep, hp', hc, hne, h2, hs, hz, I, hf⟩ := inst_at R hk
  rw [hp] at hp'; cases hp'
  obtain ⟨pl1, pl2, pl3, pl4, pl5⟩ := g.plain c hc
  have hx := hf m
  rw [Option.isNone_iff_eq_none.mp hkg] at hx
  have hsh : shadowIn (some { cls := .type "dict", data := .dict es ep }) m = some false := by
    unfold shadowIn; dsimp only; rw [lookIn_ns hs, hx]; rfl
  obtain ⟨fd, hfd⟩ : ∃ fd, mdef (cplace c) j = some fd := midx_mdef hj
  obtain ⟨hok, f, hfi, hft, hat⟩ := g.meth c m j fd hj hfd
  have hty : typeIn G.K (.ref f) = some (.type "function") := by
    obtain ⟨oc, od, osl, qual, kV, doc, pm, an, cdv, ct, hl, _⟩ := hat
    exact of_decide_eq_true (by simpa [isFn] using hft)
  refine method_fn (R.kin g) I pl4 pl5 hfi hty hsh ⟨rfl, p, f, hp, rfl, rfl, fun fd' hfd' => ?_⟩
  rw [hfd] at hfd'; cases hfd'
  exact ⟨hok, hft, hat⟩
theorem sim_getmethod (g : GOk G) {v : AV} {m : Str} {r : MRef} {cv : Value} {pl : Sem Bool} (R : Rel prog w G φ H s.heap) (e : amget H v m = some r) (rv : RepV s.heap φ v cv) :
    wpAny (model prog w) A (getMethod cv m pl) (fun fx s' => s' = s ∧ MRefR G φ r m fx.1 fx.2) NoE s := by
  induction v using Mine.AV.casesOn with
  | ref k =>
    simp only [RepV] at rv
    obtain ⟨p, hp, rfl⟩ := rv
    have e : (match H[k]? with
      | some (.list _) => if m = "append" ∨ m = "pop" then some (MRef.lst k) else none
      | some .dictE | some (.dictI _) | some (.dictS _) => if m = "pop" ∨ m = "values" ∨ m = "get" ∨ m = "update" then some (MRef.dct k) else none
      | some (.inst c fs) => match midx c m with
        | some j => if (kget fs m).isNone then some (MRef.usr k c j) else none
        | none => none
      | none => none) = some r := e
    cases hk : H[k]? with
    | none => rw [hk] at e; exact nos e
    | some ob =>
      obtain ⟨p', hp', ro⟩ := R.obj k _ hk
      rw [hp] at hp'; cases hp'
      rw [hk] at e
      induction ob using Mine.AObj.casesOn with
      | list l =>
        obtain ⟨hm, e⟩ := itr e
        cases e
        obtain ⟨_, vs, ⟨n, ho⟩, _⟩ := ro
        exact list_method hp ho hm
      | dictE => obtain ⟨hm, e⟩ := itr e; cases e; exact dict_method hp ro.2 rfl rfl hm
      | dictI es => obtain ⟨hm, e⟩ := itr e; cases e; obtain ⟨_, kvs, ⟨o, es', ep, ho, ⟨h1, h2, h3⟩, hdat, _⟩, _⟩ := ro; exact dict_method hp ho h1 h2 hm
      | dictS es => obtain ⟨hm, e⟩ := itr e; cases e; obtain ⟨_, kvs, ⟨o, es', ep, ho, ⟨h1, h2, h3⟩, hdat, _⟩, _⟩ := ro; exact dict_method hp ho h1 h2 hm
      | inst c fs =>
        have e : (match midx c m with
          | some j => if (kget fs m).isNone then some (MRef.usr k c j) else none
          | none => none) = some r := e
        cases hj : midx c m with
        | none => rw [hj] at e; exact nos e
        | some j =>
          rw [hj] at e
          obtain ⟨hkg, e⟩ := itr e
          cases e
          exact inst_method g R hp hk hj hkg
  | _ => exact nos e

/-- one object is changed in place, and what is given -/
theorem Post.set1 {k : Nat} {p : Addr × Addr} {o' : AObj} {h' : Heap} {tk : Nat} {P : Phi → Heap → Prop} (R : Rel prog w G φ H s.heap) (hp : φ.objs[k]? = some p) (sb : Heap.SameBut p.1 s.heap h')
    (ro' : Step φ s.heap φ h' → RepO prog w G h' φ o' p) (hP : Step φ s.heap φ h' → P φ h') : Post prog w G φ s (H.set k o') P (mkS s h' tk) := by
  have kp : ∀ b o, b ≠ p.1 → b ≠ p.2 → s.heap.get? b = some o → h'.get? b = some o := fun b o n _ q => sb.extBut b o n q
  have st : Step φ s.heap φ h' := ⟨fun b o nf _ e => kp b o (fun q => nf (q ▸ (Foot.of_get hp).1)) (fun q => nf (q ▸ (Foot.of_get hp).2)) e, ⟨[], by simp⟩, rfl, fun _ a => .inl a, fun _ x => x.elim⟩
  obtain ⟨R', st'⟩ := R.set hp kp (ro' st)
  exact ⟨h', tk, φ, st', R', hP st⟩

theorem sim_append {k : Nat} {p : Addr × Addr} {args : List AV} {cargs : List Value} {v : AV} {H' : AH} (e : meAppend k args H = some (v, H')) (R : Rel prog w G φ H s.heap) (hp : φ.objs[k]? = some p) (ra : RepVs s.heap φ args cargs) :
    wpAny (model prog w) A (call (.builtin "list.append") (.ref p.1 :: cargs)) (PostV prog w G φ s v H') NoE s := by
  refine obC e fun l hl e => obC e fun x hx e => arg1_inv hx ra fun cx ec rx => ?_
  obtain ⟨hlen, e⟩ := itr e
  cases e
  subst ec
  have hlen : l.length < 100000 := hlen
  obtain ⟨he, vs, hL, rs⟩ := obj_at R hp (oL_inv hl)
  refine wpAny_list_append_plain hL (fun h' hL' sb => Post.set1 R hp sb (fun st => ⟨he, vs ++ [cx], by simpa using hL', (rs.step st).append (.cons (rx.step st) .nil)⟩) fun _ => .none) ?_
  rw [List.size_toArray, rs.length, sizeLine_eq]; omega
theorem sim_popL {k : Nat} {p : Addr × Addr} {args : List AV} {cargs : List Value} {v : AV} {H' : AH} (e : mePopL k args H = some (v, H')) (R : Rel prog w G φ H s.heap) (hp : φ.objs[k]? = some p) (ra : RepVs s.heap φ args cargs) :
    wpAny (model prog w) A (call (.builtin "list.pop") (.ref p.1 :: cargs)) (PostV prog w G φ s v H') NoE s := by
  refine obC e fun l hl e => obC e fun i hi e => argI_inv hi ra fun t ec => ?_
  cases l with
  | nil => exact nos e
  | cons x r =>
    obtain ⟨⟨ei, hlen⟩, e⟩ := itr e
    cases e
    subst ec
    subst ei
    have hlen : r.length + 1 < 100000 := hlen
    obtain ⟨he, vs, hL, rs⟩ := obj_at R hp (oL_inv hl)
    simp only [RepVs] at rs
    obtain ⟨y, r', rfl, ry, rr⟩ := rs
    have hr' : r'.length = r.length := rr.length
    obtain ⟨n, ho⟩ := hL
    refine call_meets PySem.F.slot_list_pop ⟨_, ho, rfl⟩ PySem.F.entry_list_pop (PySem.F.args_list_pop_2 _ _) (PySem.MeetsSeq.list_pop_at p.1 _ n 0 t 0 y (by decide) (by simp [seqIndex?]) (by simp) (by simp [hr', sizeLine_eq]; omega)) ⟨ho, ?_⟩
    refine Post.set1 (P := fun φ' h' => RepV h' φ' v y) R hp (Heap.SameBut.update ..) (fun st => ⟨he, r', ⟨n + 1, ?_⟩, rr.step st⟩) fun st => ry.step st
    rw [Heap.get?_update_self _ ho (by simp [Obj.mapSeq]; rfl)]
    simp [Obj.mapSeq]
theorem sim_bmethL {k : Nat} {m : Str} {args : List AV} {cargs : List Value} {v : AV} {H' : AH} {f : Value} {first : List Value} (e : abmethL k m args H = some (v, H')) (R : Rel prog w G φ H s.heap)
    (hr : MRefR G φ (.lst k) m f first) (ra : RepVs s.heap φ args cargs) : wpAny (model prog w) A (call f (first ++ cargs)) (PostV prog w G φ s v H') NoE s := by
  obtain ⟨p, hp, rfl, rfl, hm⟩ := hr
  refine iteS e (fun h e => ?_) fun h e => iteS e (fun h1 e => ?_) fun _ e => nos e
  · rw [if_pos h]; exact sim_append e R hp ra
  · rw [if_neg h]; exact sim_popL e R hp ra

theorem stored_nodup {K : Type} [DecidableEq K] {x : K} {c : Value} : ∀ {r : List (K × Value)}, (r.map (·.1)).Nodup → ((stored r x c).map (·.1)).Nodup := by
  intro r n
  unfold stored
  split
  · rw [List.map_map]
    have : ((fun kv : K × Value => kv.1) ∘ fun kv => if kv.1 = x then (kv.1, c) else kv) = fun kv : K × Value => kv.1 := by
      funext kv; simp only [Function.comp]; split <;> rfl
    rw [this]; exact n
  · rename_i h
    rw [List.map_append, List.map_cons, List.map_nil, List.nodup_append]
    refine ⟨n, by simp, fun a ha b hb hab => ?_⟩
    have hb : b = x := by simpa using hb
    subst hb
    subst hab
    apply h
    obtain ⟨kv, hkv, e⟩ := List.mem_map.mp ha
    exact List.any_eq_true.mpr ⟨kv, hkv, by simpa using e⟩
theorem RepKV.merge {K : Type} [DecidableEq K] {h : Heap} : ∀ {m : List (K × AV)} {q : List (K × Value)} {l : List (K × AV)} {r : List (K × Value)}, (r.map (·.1)).Nodup → RepKV h φ l r → RepKV h φ m q →
    RepKV h φ (m.foldl (fun a e => kput a e.1 e.2) l) (merged r q)
  | [], q, l, r, n, hl, hm => by cases hm; exact hl
  | (k, v) :: m, q, l, r, n, hl, hm => by
    obtain ⟨c, q', rfl, h1, h2⟩ := hm
    exact RepKV.merge (l := kput l k v) (r := stored r k c) (q := q') (stored_nodup n) (hl.put h1 n) h2

theorem argS_inv {h : Heap} {args : List AV} {cargs : List Value} {x : Str} {C : Prop} (e : argS args = some x) (ra : RepVs h φ args cargs) (k : ∀ t, cargs = [.str x t] → C) : C := by
  rcases args with _ | ⟨a, _ | ⟨b, r⟩⟩
  · exact nos e
  · induction a using Mine.AV.casesOn with
    | str j =>
      cases Option.some.inj (show some j = some x from e)
      simp only [RepVs, RepV] at ra
      obtain ⟨_, _, rfl, ⟨t, rfl⟩, rfl⟩ := ra
      exact k t rfl
    | _ => exact nos e
  · induction a using Mine.AV.casesOn <;> exact nos e
theorem arg0_inv {h : Heap} {args : List AV} {cargs : List Value} {u : Unit} (e : arg0 args = some u) (ra : RepVs h φ args cargs) : cargs = [] := by
  cases args with
  | nil => simp only [RepVs] at ra; exact ra
  | cons _ _ => exact nos e
theorem sim_popD {k : Nat} {p : Addr × Addr} {args : List AV} {cargs : List Value} {v : AV} {H' : AH} (e : mePopD k args H = some (v, H')) (R : Rel prog w G φ H s.heap) (hp : φ.objs[k]? = some p) (ra : RepVs s.heap φ args cargs) :
    wpAny (model prog w) A (call (.builtin "dict.pop") (.ref p.1 :: cargs)) (PostV prog w G φ s v H') NoE s := by
  refine obC e fun i hi e => obC e fun es hk e => argI_inv hi ra fun t ec => ?_
  obtain ⟨hlen, e⟩ := itr e
  refine omC e fun x hx e => ?_
  cases e
  subst ec
  have hlen : es.length < 100000 := hlen
  obtain ⟨he, kvs, hd, rk⟩ := obj_at R hp (oI_inv hk)
  obtain ⟨c, hc, rc⟩ := kget_keys s.heap hx rk
  refine call_meetsIn PySem.F.slot_dict_pop hd.typeIs PySem.F.entry_dict_pop (PySem.F.args_dict_pop_2 _ _) (meets_dict_pop_there (knd := intKind prog w) (k := i) p.1 (by show (i == i) = true; simp) [] (.inl rfl) rfl)
    ⟨kvs, c, hd, by rw [rk.length, sizeLine_eq]; omega, hc, fun h' hd' sb => ?_⟩
  obtain ⟨_, _, _, _, _, _, _, _, nd⟩ := hd
  exact Post.set1 (P := fun φ' h' => RepV h' φ' v c) R hp sb (fun st => ⟨he, _, hd', RepKV.del nd (rk.stepX st (fun _ f => f.elim))⟩) fun st => rc.step st
theorem view_of {K : Type} [DecidableEq K] {knd : KeyKind prog w K} {k : Nat} {p : Addr × Addr} {kvs : List (K × Value)} (R : Rel prog w G φ H s.heap) (hp : φ.objs[k]? = some p) (hd : s.heap.DictOf knd p.1 kvs) :
    wpAny (model prog w) A (call (.builtin "dict.values") [.ref p.1]) (PostV prog w G φ s (.view k) H) NoE s := by
  refine call_meetsIn PySem.F.slot_dict_values hd.typeIs PySem.F.entry_dict_values (PySem.F.args_dict_values_1 _) (meets_dict_values knd p.1 (R.mod _ (Foot.of_get hp).1)) ⟨⟨kvs, hd⟩, ?_⟩
  refine Quiet.post (v := .view k) R ⟨Keeps.heap _ fun b o q => Heap.get?_push_of_some _ q, ?_⟩
  simp only [RepV]
  exact ⟨_, p, rfl, hp, ⟨_, Heap.get?_push_size _ rfl, rfl, rfl⟩, R.offNew (fresh_none (Nat.le_refl _))⟩
theorem sim_values {k : Nat} {p : Addr × Addr} {args : List AV} {cargs : List Value} {v : AV} {H' : AH} (e : meValues k args H = some (v, H')) (R : Rel prog w G φ H s.heap) (hp : φ.objs[k]? = some p) (ra : RepVs s.heap φ args cargs) :
    wpAny (model prog w) A (call (.builtin "dict.values") (.ref p.1 :: cargs)) (PostV prog w G φ s v H') NoE s := by
  refine obC e fun u h0 e => ?_
  rw [arg0_inv h0 ra]
  obtain ⟨hc, e⟩ := itr e
  cases e
  rcases hc with hc | hc
  · obtain ⟨es, hk⟩ := Option.isSome_iff_exists.mp hc
    obtain ⟨he, kvs, hd, rk⟩ := obj_at R hp (oI_inv hk)
    exact view_of R hp hd
  · obtain ⟨es, hk⟩ := Option.isSome_iff_exists.mp hc
    exact view_of R hp (dictE_str (obj_at R hp (oE_inv hk)).2)
theorem sim_get {k : Nat} {p : Addr × Addr} {args : List AV} {cargs : List Value} {v : AV} {H' : AH} (e : meGet k args H = some (v, H')) (R : Rel prog w G φ H s.heap) (hp : φ.objs[k]? = some p) (ra : RepVs s.heap φ args cargs) :
    wpAny (model prog w) A (call (.builtin "dict.get") (.ref p.1 :: cargs)) (PostV prog w G φ s v H') NoE s := by
  refine obC e fun x hx e => argS_inv hx ra fun t ec => ?_
  subst ec
  have hS := R.mod _ (Foot.of_get hp).1
  have one : ∀ {kvs : List (Str × Value)} {v : AV}, s.heap.DictOf (strKind prog w) p.1 kvs → RepV s.heap φ v ((valueAt kvs x).getD .none) → wpAny (model prog w) A (call (.builtin "dict.get") [.ref p.1, .str x t]) (PostV prog w G φ s v H) NoE s := fun hd rv =>
    call_meetsIn PySem.F.slot_dict_get hd.typeIs PySem.F.entry_dict_get (PySem.F.args_dict_get_2 _ _) (meets_dict_get (knd := strKind prog w) (k := x) p.1 (by show (x == x) = true; simp) hS) ⟨_, hd.mapOf, Quiet.post R ⟨Keeps.toks _ _, rv⟩⟩
  have e : (match oS H[k]? with
    | some es => some ((kget es x).getD .none, H)
    | none => (oE H[k]?).map fun _ => (AV.none, H)) = some (v, H') := e
  cases hk : oS H[k]? with
  | some es =>
    rw [hk] at e
    cases e
    obtain ⟨he, kvs, hd, rk⟩ := obj_at R hp (oS_inv hk)
    refine one hd ?_
    cases hx : kget es x with
    | none => rw [kget_none s.heap hx rk]; exact .none
    | some u => obtain ⟨c, hc, rc⟩ := kget_keys s.heap hx rk; rw [hc]; exact rc
  | none =>
    rw [hk] at e
    refine omC e fun u hu e => ?_
    cases e
    exact one (dictE_str (obj_at R hp (oE_inv hu)).2) .none
theorem sim_update {k : Nat} {p : Addr × Addr} {args : List AV} {cargs : List Value} {v : AV} {H' : AH} (e : meUpdate k args H = some (v, H')) (R : Rel prog w G φ H s.heap) (hp : φ.objs[k]? = some p) (ra : RepVs s.heap φ args cargs) :
    wpAny (model prog w) A (call (.builtin "dict.update") (.ref p.1 :: cargs)) (PostV prog w G φ s v H') NoE s := by
  refine obC e fun j hj e => obC e fun es hk e => obC e fun fs hf e => argR_inv R hj ra fun q ec hq => ?_
  obtain ⟨⟨hlen, hkj⟩, e⟩ := itr e
  cases e
  subst ec
  have hlen : es.length + fs.length < 100000 := hlen
  obtain ⟨he, kvs, hd, rk⟩ := obj_at R hp (oS_inv hk)
  obtain ⟨he', more, hd2, rk2⟩ := obj_at R hq (oS_inv hf)
  refine call_meetsIn PySem.F.slot_dict_update hd.typeIs PySem.F.entry_dict_update (PySem.F.args_dict_update_2 _ _) (meets_dict_update (strKind prog w) p.1 q.1 (R.sep k j p q hp hq hkj).1 (R.mod _ (Foot.of_get hq).1))
    ⟨kvs, more, hd, hd2, by rw [rk.length, rk2.length, sizeLine_eq]; omega, fun h' hd' _ sb => ?_⟩
  obtain ⟨_, _, _, _, _, _, _, _, nd⟩ := hd
  exact Post.set1 (P := fun φ' h' => RepV h' φ' .none .none) R hp sb (fun st => ⟨he, _, hd', RepKV.merge nd (rk.stepX st (fun _ f => f.elim)) (rk2.stepX st (fun _ f => f.elim))⟩) fun st => .none
theorem sim_bmethD {k : Nat} {m : Str} {args : List AV} {cargs : List Value} {v : AV} {H' : AH} {f : Value} {first : List Value} (e : abmethD k m args H = some (v, H')) (R : Rel prog w G φ H s.heap)
    (hr : MRefR G φ (.dct k) m f first) (ra : RepVs s.heap φ args cargs) : wpAny (model prog w) A (call f (first ++ cargs)) (PostV prog w G φ s v H') NoE s := by
  obtain ⟨p, hp, rfl, rfl, hm⟩ := hr
  refine iteS e (fun h e => ?_) fun h e => iteS e (fun h1 e => ?_) fun h1 e => iteS e (fun h2 e => ?_) fun h2 e => iteS e (fun _ e => ?_) fun _ e => nos e
  · rw [if_pos h]; exact sim_popD e R hp ra
  · rw [if_neg h, if_pos h1]; exact sim_values e R hp ra
  · rw [if_neg h, if_neg h1, if_pos h2]; exact sim_get e R hp ra
  · rw [if_neg h, if_neg h1, if_neg h2]; exact sim_update e R hp ra
end
end Mine

namespace Mine
open PySem PySem.W PyProof.Rows PySem.SeqAt PySem.Calls

/-- room for n more levels -/
structure Room (A : Around) (n : Nat) : Prop where
  hh : A.handled = none
  dep : A.depth + 4 * n + 20 < 1000
  un : A.units + 20 * n + 200 < 9900
theorem Room.pred {A : Around} {n : Nat} (r : Room A (n + 1)) : Room A n := ⟨r.hh, by have := r.dep; omega, by have := r.un; omega⟩
theorem Room.cmp {A : Around} {n : Nat} (r : Room A n) : A.units + 100 < cLine := by have := r.un; show _ < 9900; omega
theorem Room.in1 {A : Around} {n : Nat} (r : Room A (n + 1)) : Room A.in1 n := ⟨r.hh, by have := r.dep; show A.depth + _ + _ < _; omega, by have := r.un; show A.units + 1 + _ + _ < _; omega⟩
theorem Room.deeper {A : Around} {n : Nat} (r : Room A (n + 1)) (env : Env) : Room (A.deeper env) n := ⟨r.hh, by have := r.dep; show A.depth + 1 + _ + _ < _; omega, by have := r.un; show A.units + 3 + _ + _ < _; omega⟩

/-- the frame as the walk has it -/
structure Fr0 (G : Glb) (sc : Sc) (env : Env) (loc : Loc) (φ : Phi) (h : Heap) : Prop where
  fr : FrR G env loc φ h
  scr : ScR sc env
  dbg : ∀ x, (kget sc x).isSome → (x == ("__debug__" : Str)) = false
theorem Fr0.step {G : Glb} {sc : Sc} {env : Env} {loc : Loc} {φ φ' : Phi} {h h' : Heap} (F : Fr0 G sc env loc φ h) (x : Step φ h φ' h') : Fr0 G sc env loc φ' h' := ⟨F.fr.step x, F.scr, F.dbg⟩

section
variable {prog : Program} {w : World} {G : Glb} {φ : Phi} {H : AH} {s : Shared}

theorem Post.lift {α : Type} {A : Around} {φ₁ : Phi} {h₁ : Heap} {tk₁ : Nat} {t : Sem α} {H' : AH} {P : α → Phi → Heap → Prop} (st : Step φ s.heap φ₁ h₁)
    (h : wpAny (model prog w) A t (fun c => Post prog w G φ₁ (mkS s h₁ tk₁) H' (P c)) NoE (mkS s h₁ tk₁)) :
    wpAny (model prog w) A t (fun c => Post prog w G φ s H' (P c)) NoE (mkS s h₁ tk₁) :=
  wpAny_mono h (fun _ _ q => Post.trans st q fun _ _ _ p => p) fun _ _ q => q

/-- what the induction gives at a level -/
noncomputable def SimEv (prog : Program) (w : World) (G : Glb) (n : Nat) : Prop := ∀ {A : Around} {φ : Phi} {H : AH} {s : Shared} {env : Env} {sc : Sc} {loc : Loc} {e : Expr} {v : AV} {H' : AH},
  Room A n → Rel prog w G φ H s.heap → Fr0 G sc env loc φ s.heap → aev n sc loc e H = some (v, H') → wpAny (model prog w) A (eval e env) (PostV prog w G φ s v H') NoE s
noncomputable def SimTest (prog : Program) (w : World) (G : Glb) (n : Nat) : Prop := ∀ {A : Around} {φ : Phi} {H : AH} {s : Shared} {env : Env} {sc : Sc} {loc : Loc} {e : Expr} {b : Bool} {H' : AH},
  Room A n → Rel prog w G φ H s.heap → Fr0 G sc env loc φ s.heap → atest n sc loc e H = some (b, H') → wpAny (model prog w) A (isTrue e env (eval e env)) (fun c => Post prog w G φ s H' fun _ _ => c = b) NoE s
noncomputable def SimAll (prog : Program) (w : World) (G : Glb) (n : Nat) : Prop := ∀ {A : Around} {φ : Phi} {H : AH} {s : Shared} {env : Env} {sc : Sc} {loc : Loc} {op : BoolOp} {es : List Expr} {b : Bool} {H' : AH},
  Room A n → Rel prog w G φ H s.heap → Fr0 G sc env loc φ s.heap → aall n sc loc op es H = some (b, H') → wpAny (model prog w) A (allTrue op es env) (fun c => Post prog w G φ s H' fun _ _ => c = b) NoE s
noncomputable def SimBool (prog : Program) (w : World) (G : Glb) (n : Nat) : Prop := ∀ {A : Around} {φ : Phi} {H : AH} {s : Shared} {env : Env} {sc : Sc} {loc : Loc} {op : BoolOp} {es : List Expr} {v : AV} {H' : AH} {pos : Pos},
  Room A n → Rel prog w G φ H s.heap → Fr0 G sc env loc φ s.heap → abool n sc loc op es H = some (v, H') → wpAny (model prog w) A (boolOp pos op (evalEach es env)) (PostV prog w G φ s v H') NoE s
noncomputable def plainEach (es : List Expr) (env : Env) : List (Bool × Sem Value) := es.map fun e => (false, eval e env)
noncomputable def SimEvs (prog : Program) (w : World) (G : Glb) (n : Nat) : Prop := ∀ {A : Around} {φ : Phi} {H : AH} {s : Shared} {env : Env} {sc : Sc} {loc : Loc} {es : List Expr} {vs : List AV} {H' : AH},
  Room A n → Rel prog w G φ H s.heap → Fr0 G sc env loc φ s.heap → aevs n sc loc es H = some (vs, H') →
  (∀ pos, backTo pos (starEach es env) = plainEach es env) ∧ wpAny (model prog w) A (spliced (plainEach es env)) (fun cs => Post prog w G φ s H' fun φ' h' => RepVs h' φ' vs cs) NoE s
noncomputable def SimOpt (prog : Program) (w : World) (G : Glb) (n : Nat) : Prop := ∀ {A : Around} {φ : Phi} {H : AH} {s : Shared} {env : Env} {sc : Sc} {loc : Loc} {e : Option Expr} {v : AV} {H' : AH},
  Room A n → Rel prog w G φ H s.heap → Fr0 G sc env loc φ s.heap → aopt n sc loc e H = some (v, H') → wpAny (model prog w) A (evalPart e env) (PostV prog w G φ s v H') NoE s
noncomputable def SimCall (prog : Program) (w : World) (G : Glb) (n : Nat) : Prop := ∀ {A : Around} {φ : Phi} {H : AH} {s : Shared} {fd : FD} {f : Addr} {args : List AV} {cargs : List Value} {v : AV} {H' : AH},
  Room A n → Rel prog w G φ H s.heap → RepVs s.heap φ args cargs → okFD fd = true → FnAt G f fd → acall n (some fd) args H = some (v, H') →
  wpAny (model prog w) A (call (.ref f) cargs) (PostV prog w G φ s v H') NoE s

variable {A : Around} {env : Env} {sc : Sc} {loc : Loc} {n : Nat}

theorem getv {α : Type} {s' : Shared} {H' : AH} {P : Phi → Heap → Prop} {t : Sem α} {Q : α → Shared → Prop} (p : Post prog w G φ s H' P s')
    (k : ∀ φ₁ h₁ tk₁, Step φ s.heap φ₁ h₁ → Rel prog w G φ₁ H' h₁ → P φ₁ h₁ → wpAny (model prog w) A t Q NoE (mkS s h₁ tk₁)) : wpAny (model prog w) A t Q NoE s' := by
  induction p with | mk h₁ tk₁ φ₁ st R p
  exact k φ₁ h₁ tk₁ st R p

theorem sim_const {c : Const} {k : Nat} {pos : Pos} {v : AV} (R : Rel prog w G φ H s.heap) (e : aconst c = some v) : wpAny (model prog w) A (eval (.Constant c k pos) env) (PostV prog w G φ s v H) NoE s := by
  cases c <;> simp only [aconst] at e <;> try cases e
  · exact wpAny_Constant_none (Quiet.post R ⟨Keeps.rfl' _, .none⟩)
  · exact wpAny_Constant_bool (Quiet.post R ⟨Keeps.rfl' _, .bool _⟩)
  · exact wpAny_Constant_int (Quiet.post R ⟨Keeps.toks _ _, .int _ _⟩)
  · exact wpAny_Constant_str (Quiet.post R ⟨Keeps.toks _ _, .str _ _⟩)

theorem gconst_rep (g : GOk G) (R : Rel prog w G φ H s.heap) {x : Str} {v : AV} (e : gconst x = some v) : ∃ c, G.mg x = some c ∧ RepV s.heap φ v c := by
  obtain ⟨c, hc, r⟩ := g.gc x v e
  refine ⟨c, hc, ?_⟩
  have r1 : RepV G.hb ⟨[], φ.ex⟩ v c := RepV.reex (φ := ⟨[], []⟩) (ψ := ⟨[], φ.ex⟩) rfl (fun a o q _ m => by rw [R.exb a m] at q; cases q) v c r
  exact RepV.step (φ := ⟨[], φ.ex⟩) (φ' := φ) ⟨fun b o _ _ q => R.base b o q, ⟨φ.objs, rfl⟩, rfl, fun a f => .inr (R.off a f), fun _ x => x.elim⟩ v c r1

theorem sim_name (g : GOk G) {x : Str} {pos : Pos} {v : AV} (R : Rel prog w G φ H s.heap) (F : Fr0 G sc env loc φ s.heap) (e : aname sc loc x = some v) : wpAny (model prog w) A (eval (.Name x pos) env) (PostV prog w G φ s v H) NoE s := by
  unfold aname at e
  have hs := F.scr x
  cases hk : kget sc x with
  | none => rw [hk] at e; cases e
  | some k =>
    have hd := F.dbg x (by rw [hk]; rfl)
    rw [hk] at e hs
    have cell : env.kindOf x = some .cell → kget loc x = some v → wpAny (model prog w) A (eval (.Name x pos) env) (PostV prog w G φ s v H) NoE s := fun hs e => by
      obtain ⟨a, ov, hc, hv, hr⟩ := F.fr.cell x hs
      obtain ⟨c, rfl, rc⟩ := hr v e
      exact wpAny_Name (wpAny_loadName_cell F.fr.kind hs hc hv (Quiet.post R ⟨Keeps.rfl' _, rc⟩)) hd
    cases k <;> simp only [] at e hs <;> try cases e
    · obtain ⟨m, hn, hm⟩ := F.fr.ns
      obtain ⟨c, hc, rc⟩ := hm x v hs e
      exact wpAny_Name (wpAny_loadName_local F.fr.kind hs hn hc (Quiet.post R ⟨Keeps.rfl' _, rc⟩)) hd
    all_goals first
      | exact cell hs e
      | skip
    obtain ⟨c, hc, rc⟩ := gconst_rep g R e
    refine Name_function_global F.fr.kind hs (loadGlobal_global ?_ hc (Quiet.post R ⟨Keeps.rfl' _, rc⟩)) hd
    rw [F.fr.glob]
    exact g.gns.at' fun o q => R.base _ o q
end
end Mine

namespace Mine
open PySem PySem.W PyProof.Rows PySem.SeqAt PySem.Calls

section
variable {prog : Program} {w : World} {G : Glb} {φ : Phi} {H : AH} {s : Shared} {A : Around} {env : Env} {sc : Sc} {loc : Loc} {n : Nat}

theorem starEach_plain {e : Expr} {r : List Expr} (h : isStarred e = false) : starEach (e :: r) env = (false, eval e env) :: starEach r env := by
  cases e <;> first | rfl | cases h

theorem aevs_plain (pos : Pos) : ∀ {n : Nat} {es : List Expr} {H : AH} {r : List AV × AH}, aevs n sc loc es H = some r → backTo pos (starEach es env) = plainEach es env
  | 0, es, H, r, e => by unfold aevs at e; cases e
  | n + 1, [], H, r, e => rfl
  | n + 1, x :: es, H, r, e => by
    unfold aevs at e
    simp only [] at e
    split at e
    · cases e
    rename_i hst
    have hst : isStarred x = false := by simpa using hst
    refine obC e fun p hp e => ?_
    refine omC e fun q hq e => ?_
    rw [starEach_plain hst]
    show (false, eval x env) :: backTo pos (starEach es env) = _
    rw [aevs_plain pos hq]; rfl

theorem sim_evs (ih : SimEv prog w G n) (ihs : SimEvs prog w G n) : SimEvs prog w G (n + 1) := by
  intro A φ H s env sc loc es vs H' r R F e
  refine ⟨fun pos => aevs_plain pos e, ?_⟩
  unfold aevs at e
  induction es using List.casesOn with
  | nil =>
    simp only [] at e; cases e
    exact spliced_nil (Post.of_keeps R (Keeps.rfl' _) .nil)
  | cons x es =>
    simp only [] at e
    split at e
    · cases e
    refine obC2 e fun v H₁ hp e => ?_
    refine omC2 e fun vs H₂ hq e => ?_
    cases e
    refine spliced_cons (usePost (ih r.pred R F hp) fun c h₁ tk₁ φ₁ st R₁ rc => ?_)
    refine wpAny_mono (ihs r.pred R₁ (F.step st) hq).2 (fun cs s₂ h₂ => ?_) fun _ _ q => q
    induction h₂ with | mk h' tk φ' st' R' p
    exact ⟨h', tk, φ', st.trans st', R', .cons (rc.step st' _ _) p⟩

theorem sim_opt (ih : SimEv prog w G n) : SimOpt prog w G (n + 1) := by
  intro A φ H s env sc loc es v H' r R F e
  unfold aopt at e
  induction es using Option.casesOn with
  | none => simp only [] at e; cases e; rw [evalPart_none]; exact wpAny_pure (Quiet.post R ⟨Keeps.rfl' _, .none⟩)
  | some x => simp only [] at e; rw [evalPart_some]; exact ih r.pred R F e

theorem sim_all (ih : SimTest prog w G n) (iha : SimAll prog w G n) : SimAll prog w G (n + 1) := by
  intro A φ H s env sc loc op es b H' r R F e
  unfold aall at e
  induction es using List.casesOn with
  | nil =>
    simp only [] at e; cases e
    cases op
    · exact wpAny_allTrue_And_nil (Post.of_keeps R (Keeps.rfl' _) rfl)
    · exact wpAny_allTrue_Or_nil (Post.of_keeps R (Keeps.rfl' _) rfl)
  | cons x es =>
    simp only [] at e
    refine obC2 e fun v H₁ hp e => ?_
    cases op <;> simp only [] at e
    · refine wpAny_allTrue_And_cons (usePost (ih r.pred R F hp) fun c h₁ tk₁ φ₁ st R₁ hq_ => ?_)
      subst hq_
      cases c
      · cases e; exact ⟨h₁, tk₁, φ₁, st, R₁, rfl⟩
      · exact Post.lift st (iha r.pred R₁ (F.step st) e)
    · refine wpAny_allTrue_Or_cons (usePost (ih r.pred R F hp) fun c h₁ tk₁ φ₁ st R₁ hq_ => ?_)
      subst hq_
      cases c
      · exact Post.lift st (iha r.pred R₁ (F.step st) e)
      · cases e; exact ⟨h₁, tk₁, φ₁, st, R₁, rfl⟩

theorem sim_bool (ih : SimEv prog w G n) (ihb : SimBool prog w G n) : SimBool prog w G (n + 1) := by
  intro A φ H s env sc loc op es v H' pos r R F e
  unfold abool at e
  split at e
  · exact ih r.pred R F e
  · rename_i x y rest
    refine obC2 e fun u H₁ hp e => ?_
    refine obC e fun b hb e => ?_
    refine wpAny_bind (usePost (ih r.pred R F hp) fun c h₁ tk₁ φ₁ st R₁ rc => ?_)
    refine wpAny_bind (wpAny_standAt (wpAny_bind (wpAny_holding (wpAny_mono (sim_truth hb rc) (fun t s₂ h₂ => ?_) fun _ _ q => q))))
    obtain ⟨rfl, rfl⟩ := h₂
    have stop : PostV prog w G φ s u H₁ c (mkS s h₁ tk₁) := ⟨h₁, tk₁, φ₁, st, R₁, rc⟩
    have go : abool n sc loc op (y :: rest) H₁ = some (v, H') → wpAny (model prog w) A (boolOp pos op (evalEach (y :: rest) env)) (PostV prog w G φ s v H') NoE (mkS s h₁ tk₁) :=
      fun e => Post.lift st (ihb r.pred R₁ (F.step st) e)
    cases op <;> cases t <;> simp only [Bool.false_eq_true, if_true, if_false] at e
    · cases e; exact wpAny_pure stop
    · exact go e
    · exact go e
    · cases e; exact wpAny_pure stop
  · cases e

theorem behind_of_isSet {op : CmpOp} {e : Expr} (h : isSet e = false) : behindInMarks op e = false := by
  cases e <;> first | rfl | cases h

theorem sim_test (ih : SimEv prog w G n) (iht : SimTest prog w G n) (iha : SimAll prog w G n) : SimTest prog w G (n + 1) := by
  intro A φ H s env sc loc es b H' r R F e
  have value : ∀ {e : Expr}, (∀ whole, isTrue e env whole = (do let v ← whole; standAt e.pos; holding [v] (truthy v))) → (aev n sc loc e H).bind (fun p => (atruth p.1).map fun b => (b, p.2)) = some (b, H') →
      wpAny (model prog w) A (isTrue e env (eval e env)) (fun c => Post prog w G φ s H' fun _ _ => c = b) NoE s := by
    intro e hw q
    refine obC2 q fun v H₁ hp q => ?_
    refine omC q fun t ht q => ?_
    cases q
    refine wpAny_isTrue_value (usePost (ih r.pred R F hp) fun c h₁ tk₁ φ₁ st R₁ rc => ?_) (hw _)
    refine wpAny_mono (sim_truth ht rc) (fun t s₂ h₂ => ?_) fun _ _ q => q
    obtain ⟨rfl, rfl⟩ := h₂
    exact ⟨h₁, tk₁, φ₁, st, R₁, rfl⟩
  induction es using PySem.Expr.casesOn with
  | UnaryOp op y p =>
   induction op using PySem.UnaryOp.casesOn with
   | Not =>
    refine omC e fun p hp e => ?_
    cases e
    refine wpAny_isTrue_Not (usePost (iht r.pred R F hp) fun c h₁ tk₁ φ₁ st R₁ hq_ => ?_)
    subst hq_
    exact ⟨h₁, tk₁, φ₁, st, R₁, rfl⟩
   | _ => exact nos e
  | BoolOp op vs p => exact wpAny_isTrue_BoolOp (iha r.pred R F e)
  | Compare l ops rs p =>
   induction ops using List.casesOn with
   | nil => exact nos e
   | cons op ops =>
   induction ops using List.casesOn with
   | cons _ _ => exact nos e
   | nil =>
   induction rs using List.casesOn with
   | nil => exact nos e
   | cons r' rs =>
   induction rs using List.casesOn with
   | cons _ _ => exact nos e
   | nil =>
    have e : (if isSet r' then none else (aev n sc loc l H).bind fun p => (aev n sc loc r' p.2).bind fun q => (acmp q.2 op p.1 q.1).map fun b => (b, q.2)) = some (b, H') := e
    split at e
    · cases e
    rename_i hset
    refine obC2 e fun v H₁ hp e => ?_
    refine obC2 e fun u H₂ hq e => ?_
    refine omC e fun t ht e => ?_
    cases e
    refine wpAny_isTrue_Compare1 (usePost (ih r.pred R F hp) fun c h₁ tk₁ φ₁ st R₁ rc => ?_) (behind_of_isSet (by simpa using hset))
    refine usePost (ih r.pred R₁ (F.step st) hq) fun d h₂ tk₂ φ₂ st₂ R₂ rd => ?_
    refine wpAny_mono (sim_cmp r.cmp R₂ ht (rc.step st₂ _ _) rd) (fun x s₃ h₃ => ?_) fun _ _ q => q
    obtain ⟨rfl, k⟩ := h₃
    obtain ⟨h', tk', rfl, kk⟩ := k
    exact wpAny_truthy_bool ⟨h', tk', φ₂, (st.trans st₂).trans (Step.of_keeps kk), R₂.keeps kk, rfl⟩
  | Name _ _ => exact value (fun _ => rfl) e
  | Subscript _ _ _ => exact value (fun _ => rfl) e
  | Call _ _ _ _ => exact value (fun _ => rfl) e
  | _ => exact nos e

theorem ev_bin (ih : SimEv prog w G n) {l r' : Expr} {op : Operator} {pos : Pos} {v : AV} {H' : AH} (r : Room A (n + 1)) (R : Rel prog w G φ H s.heap) (F : Fr0 G sc env loc φ s.heap)
    (e : ((aev n sc loc l H).bind fun p => (aev n sc loc r' p.2).bind fun q => (abin op p.1 q.1).map fun v => (v, q.2)) = some (v, H')) :
    wpAny (model prog w) A (eval (.BinOp l op r' pos) env) (PostV prog w G φ s v H') NoE s := by
  refine obC2 e fun a H₁ hp e => ?_
  refine obC2 e fun b H₂ hq e => ?_
  refine omC e fun t ht e => eqPV e ?_
  refine wpAny_BinOp (usePost (ih r.pred R F hp) fun c h₁ tk₁ φ₁ st R₁ rc => ?_)
  refine usePost (ih r.pred R₁ (F.step st) hq) fun d h₂ tk₂ φ₂ st₂ R₂ rd => Post.lift (st.trans st₂) ?_
  exact wpAny_mono (sim_bin ht (rc.step st₂ _ _) rd) (fun x s₃ h₃ => Quiet.post (s := (mkS s h₂ tk₂)) R₂ h₃) fun _ _ q => q

theorem ev_neg (ih : SimEv prog w G n) {x : Expr} {pos : Pos} {v : AV} {H' : AH} (r : Room A (n + 1)) (R : Rel prog w G φ H s.heap) (F : Fr0 G sc env loc φ s.heap)
    (e : ((aev n sc loc x H).bind fun p => match p.1 with | .int i => some (AV.int (-i), p.2) | _ => none) = some (v, H')) :
    wpAny (model prog w) A (eval (.UnaryOp .USub x pos) env) (PostV prog w G φ s v H') NoE s := by
  refine obC2 e fun a H₁ hp e => ?_
  cases a <;> simp only [] at e <;> try cases e
  refine wpAny_UnaryOp (usePost (ih r.pred R F hp) fun c h₁ tk₁ φ₁ st R₁ rc => Post.lift st ?_)
  exact wpAny_mono (sim_neg rc) (fun x s₃ h₃ => Quiet.post (s := (mkS s h₁ tk₁)) R₁ h₃) fun _ _ q => q

theorem ev_cmp (ih : SimEv prog w G n) {l r' : Expr} {op : CmpOp} {pos : Pos} {v : AV} {H' : AH} (r : Room A (n + 1)) (R : Rel prog w G φ H s.heap) (F : Fr0 G sc env loc φ s.heap) (hset : isSet r' = false)
    (e : ((aev n sc loc l H).bind fun p => (aev n sc loc r' p.2).bind fun q => (acmp q.2 op p.1 q.1).map fun b => (AV.bool b, q.2)) = some (v, H')) :
    wpAny (model prog w) A (eval (.Compare l [op] [r'] pos) env) (PostV prog w G φ s v H') NoE s := by
  refine obC2 e fun a H₁ hp e => ?_
  refine obC2 e fun b H₂ hq e => ?_
  refine omC e fun t ht e => eqPV e ?_
  refine wpAny_Compare1 (usePost (ih r.pred R F hp) fun c h₁ tk₁ φ₁ st R₁ rc => ?_) (behind_of_isSet hset)
  refine usePost (ih r.pred R₁ (F.step st) hq) fun d h₂ tk₂ φ₂ st₂ R₂ rd => ?_
  refine wpAny_mono (sim_cmp r.cmp R₂ ht (rc.step st₂ _ _) rd) (fun x s₃ h₃ => ?_) fun _ _ q => q
  obtain ⟨rfl, k⟩ := h₃
  obtain ⟨h', tk', rfl, kk⟩ := k
  exact ⟨h', tk', φ₂, (st.trans st₂).trans (Step.of_keeps kk), R₂.keeps kk, .bool _⟩

theorem ev_if (ih : SimEv prog w G n) (iht : SimTest prog w G n) {t b o : Expr} {pos : Pos} {v : AV} {H' : AH} (r : Room A (n + 1)) (R : Rel prog w G φ H s.heap) (F : Fr0 G sc env loc φ s.heap)
    (e : ((atest n sc loc t H).bind fun p => if p.1 then aev n sc loc b p.2 else aev n sc loc o p.2) = some (v, H')) :
    wpAny (model prog w) A (eval (.IfExp t b o pos) env) (PostV prog w G φ s v H') NoE s := by
  refine obC2 e fun c H₁ hp e => ?_
  refine wpAny_IfExp (usePost (iht r.pred R F hp) fun x h₁ tk₁ φ₁ st R₁ hq_ => ?_)
  subst hq_
  cases x
  · exact Post.lift st (ih r.pred R₁ (F.step st) e)
  · exact Post.lift st (ih r.pred R₁ (F.step st) e)

theorem sub_plain {i : Expr} {c d : Value} (hs : ∀ lo up p, i ≠ .Slice lo up none p) : subscripted i false c d = operate [c, d] (getItem c d) := by
  induction i using PySem.Expr.casesOn with
  | Slice lo up st p => cases st with
    | none => exact absurd rfl (hs _ _ _)
    | some _ => rfl
  | _ => rfl
theorem ev_sub (ih : SimEv prog w G n) {o i : Expr} {pos : Pos} {v : AV} {H' : AH} (r : Room A (n + 1)) (R : Rel prog w G φ H s.heap) (F : Fr0 G sc env loc φ s.heap) (hs : ∀ lo up p, i ≠ .Slice lo up none p)
    (e : ((aev n sc loc o H).bind fun p => (aev n sc loc i p.2).bind fun q => (agetitem q.2 p.1 q.1).map fun x => (x, q.2)) = some (v, H')) :
    wpAny (model prog w) A (eval (.Subscript o i pos) env) (PostV prog w G φ s v H') NoE s := by
  refine obC2 e fun a H₁ hp e => ?_
  refine obC2 e fun b H₂ hq e => ?_
  refine omC e fun t ht e => eqPV e ?_
  refine Subscript_ (usePost (ih r.pred R F hp) fun c h₁ tk₁ φ₁ st R₁ rc => ?_)
  refine usePost (ih r.pred R₁ (F.step st) hq) fun d h₂ tk₂ φ₂ st₂ R₂ rd => Post.lift (st.trans st₂) ?_
  obtain ⟨T, id, hT, hl, hg⟩ := sim_getitem (s := (mkS s h₂ tk₂)) (A := A) R₂ ht (rc.step st₂ _ _) rd
  unfold subscriptTail
  have fin : wpAny (model prog w) A (subscripted i false c d) (fun r s₃ => wpAny (model prog w) A (letTemporaryGo o c r >>= fun _ => pure r) (PostV prog w G φ₂ (mkS s h₂ tk₂) t H₂) NoE s₃) NoE (mkS s h₂ tk₂) := by
    rw [sub_plain hs]
    exact wpAny_operating (wpAny_mono hg (fun r s₃ h₃ => wpAny_bind (wpAny_letTemporaryGo (wpAny_pure (Quiet.post (s := (mkS s h₂ tk₂)) R₂ h₃)))) fun _ _ x => x)
  refine wpAny_bind ?_
  rw [getitemInPython_of_ne hT.not_modules]
  refine wpAny_bind (wpAny_specialOf hT hl ?_)
  first
    | exact wpAny_pure (wpAny_bind fin)
    | exact wpAny_bind (wpAny_pure (wpAny_bind fin))
    | exact wpAny_bind fin

theorem slice_key {h : Heap} {a b d t : AV} {cl cu : Value} {C : Prop} (ht : aslice a b d = some t) (rl : RepV h φ b cl) (ru : RepV h φ d cu)
    (k : ∀ l lo hi l', a = .lst l → l.length < lenLine → IsPart cl lo → IsPart cu hi → t = .lst l' → (∀ (φ' : Phi) (h' : Heap) (vs : List Value), RepVs h' φ' l vs → ∃ vs', slicePick vs.toArray lo hi none = vs'.toArray ∧ RepVs h' φ' l' vs') → C) : C := by
  induction a using Mine.AV.casesOn with
  | lst l =>
    induction b using Mine.AV.casesOn with
    | none =>
      induction d using Mine.AV.casesOn with
      | int i =>
        obtain ⟨hc, e⟩ := itr ht
        cases e
        simp only [RepV] at rl ru
        subst rl
        obtain ⟨t, rfl⟩ := ru
        obtain ⟨j, rfl⟩ := Int.eq_ofNat_of_zero_le hc.1
        exact k l none (some _) _ rfl hc.2 .none (.int _ _) rfl fun φ' h' vs rs => ⟨vs.take j, by rw [slicePick_upto'], by simpa using rs.take j⟩
      | _ => exact nos ht
    | int i =>
      induction d using Mine.AV.casesOn with
      | none =>
        obtain ⟨hc, e⟩ := itr ht
        cases e
        simp only [RepV] at rl ru
        subst ru
        obtain ⟨t, rfl⟩ := rl
        obtain ⟨rfl, hlen⟩ := hc
        refine k l (some (-1)) none _ rfl hlen (.int _ _) .none rfl fun φ' h' vs rs => ⟨vs.drop (l.length - 1), ?_, rs.drop _⟩
        rw [slicePick_plain]
        have hsz := rs.length
        have : clipAt vs.toArray.size (-1) = l.length - 1 := by
          have := clipAt_neg vs.toArray.size 1 (by omega)
          rw [← hsz]; simpa using this
        simp only [Option.elim, this]
        congr 1
        rw [List.take_of_length_le]
        simp
      | _ => exact nos ht
    | _ => exact nos ht
  | _ => exact nos ht
theorem ev_slice (ih : SimEv prog w G n) (iho : SimOpt prog w G n) {o : Expr} {lo up : Option Expr} {sp pos : Pos} {v : AV} {H' : AH} (r : Room A (n + 1)) (R : Rel prog w G φ H s.heap) (F : Fr0 G sc env loc φ s.heap)
    (e : ((aev n sc loc o H).bind fun p => (aopt n sc loc lo p.2).bind fun q => (aopt n sc loc up q.2).bind fun r => (aslice p.1 q.1 r.1).map fun x => (x, r.2)) = some (v, H')) :
    wpAny (model prog w) A (eval (.Subscript o (.Slice lo up none sp) pos) env) (PostV prog w G φ s v H') NoE s := by
  refine obC2 e fun a H₁ hp e => ?_
  refine obC2 e fun b H₂ hq e => ?_
  refine obC2 e fun d H₃ hu e => ?_
  refine omC e fun t ht e => eqPV e ?_
  refine Subscript_ (usePost (ih r.pred R F hp) fun c h₁ tk₁ φ₁ st R₁ rc => ?_)
  refine wpAny_Slice (usePost (iho r.pred R₁ (F.step st) hq) fun cl h₂ tk₂ φ₂ st₂ R₂ rl => ?_)
  refine wpAny_mono (iho r.pred R₂ ((F.step st).step st₂) hu) (fun cu s₃ h₃ => ?_) fun _ _ q => q
  rw [evalPart_none]
  refine getv h₃ fun φ₃ h₃ tk₃ st₃ R₃ ru => wpAny_pure ?_
  dsimp only
  have rc' := (rc.step st₂ _ _).step st₃ _ _
  have rl' := rl.step st₃ _ _
  refine slice_key ht rl' ru fun l lo' hi' l' ea hlen pl pu et hpick => ?_
  rw [show a = .lst l from ea] at rc'
  rw [et]
  have hlen : l.length < 100000 := hlen
  simp only [RepV] at rc'
  obtain ⟨ad, vs, rfl, hL, hoff, rs⟩ := rc'
  have hsz := rs.length
  unfold subscriptTail
  have hpush : ∀ b x, h₃.get? b = some x → (h₃.push { cls := .type "slice", data := .fields #[cl, cu, .none] }).get? b = some x := fun b x q => Heap.get?_push_of_some _ q
  have hL' : (h₃.push { cls := .type "slice", data := .fields #[cl, cu, .none] }).IsList ad vs.toArray := hL.push _
  obtain ⟨vs', e', rs'⟩ := hpick _ _ _ rs
  have fin : wpAny (model prog w) A (subscripted (.Slice lo up none sp) false (.ref ad) (.ref h₃.objs.size)) (fun r s₃ => wpAny (model prog w) A (letTemporaryGo o (.ref ad) r >>= fun _ => pure r) (PostV prog w G φ s (.lst l') H₃) NoE s₃) NoE
      { s with heap := h₃.push { cls := .type "slice", data := .fields #[cl, cu, .none] }, toks := tk₃ } := by
    show wpAny _ _ (operate _ (getItem _ _)) _ _ _
    refine wpAny_operating (wpAny_getItem_list_slice hL' (Heap.IsSliceOf.new ..) pl pu .none (by simp) (wpAny_bind (wpAny_letTemporaryGo (wpAny_pure ?_))) (by rw [List.size_toArray, hsz, sizeLine_eq]; omega))
    have k2 : ∀ b x, h₃.get? b = some x → ((h₃.push { cls := .type "slice", data := .fields #[cl, cu, .none] }).push { cls := .type "list", data := .seq (slicePick vs.toArray lo' hi' none) }).get? b = some x := fun b x q => Heap.get?_push_of_some _ (hpush b x q)
    refine ⟨_, _, φ₃, ((st.trans st₂).trans st₃).trans (Step.of_keeps k2), R₃.keeps k2, ?_⟩
    simp only [RepV]
    refine ⟨_, vs', rfl, ⟨_, Heap.get?_push_size _ rfl, rfl, 0, by rw [e']⟩, R₃.offNew (fresh_none (by rw [Heap.size_push]; exact Nat.le_succ _)), rs'.step (Step.of_keeps k2)⟩
  have hT : ({ s with heap := h₃.push { cls := .type "slice", data := .fields #[cl, cu, .none] }, toks := tk₃ } : Shared).TypeIs (.ref ad) "list" := hL'.typeIs
  refine wpAny_bind ?_
  rw [getitemInPython_of_ne hT.not_modules]
  refine wpAny_bind (wpAny_specialOf hT list_getitem_lookup ?_)
  first
    | exact wpAny_pure (wpAny_bind fin)
    | exact wpAny_bind (wpAny_pure (wpAny_bind fin))
    | exact wpAny_bind fin

theorem base_of_bare {o : Expr} {a : Str} {t : Sem Value} (h : isBare o = false) : attributeBase o a env t = t := by
  cases o <;> first | rfl | (cases h; done) | (rename_i f as ks p; cases f <;> first | rfl | (cases as <;> first | rfl | (cases ks <;> first | rfl | (cases h; done))))

theorem ev_attr (g : GOk G) (ih : SimEv prog w G n) {o : Expr} {a : Str} {pos : Pos} {v : AV} {H' : AH} (r : Room A (n + 1)) (R : Rel prog w G φ H s.heap) (F : Fr0 G sc env loc φ s.heap) (hb : isBare o = false)
    (e : ((aev n sc loc o H).bind fun p => (aattr p.2 p.1 a).map fun x => (x, p.2)) = some (v, H')) :
    wpAny (model prog w) A (eval (.Attribute o a pos) env) (PostV prog w G φ s v H') NoE s := by
  refine obC2 e fun u H₁ hp e => ?_
  refine omC e fun t ht e => eqPV e ?_
  rw [arm_eval_Attribute, base_of_bare hb]
  refine wpAny_bind (usePost (ih r.pred R F hp) fun c h₁ tk₁ φ₁ st R₁ rc => Post.lift st ?_)
  refine wpAny_bind (wpAny_standAt (wpAny_bind (wpAny_holding (wpAny_mono (sim_attr (s := (mkS s h₁ tk₁)) g R₁ ht rc) (fun x s₃ h₃ => wpAny_bind (wpAny_letTemporaryGo (wpAny_pure (Quiet.post (s := (mkS s h₁ tk₁)) R₁ h₃)))) fun _ _ q => q))))

theorem ev_list (ihs : SimEvs prog w G n) (g : GOk G) {es : List Expr} {pos : Pos} {v : AV} {H' : AH} (r : Room A (n + 1)) (R : Rel prog w G φ H s.heap) (F : Fr0 G sc env loc φ s.heap)
    (e : ((aevs n sc loc es H).bind fun p => if p.1.length < lenLine then some (AV.ref p.2.length, p.2 ++ [.list p.1]) else none) = some (v, H')) :
    wpAny (model prog w) A (eval (.List es pos) env) (PostV prog w G φ s v H') NoE s := by
  refine obC2 e fun vs H₁ hp e => ?_
  split at e
  case isFalse => cases e
  rename_i hlen
  cases e
  have hlen : vs.length < 100000 := hlen
  refine wpAny_List ?_
  rw [(ihs r.pred R F hp).1]
  refine wpAny_mono (ihs r.pred R F hp).2 (fun cs s₁ h₁ => ?_) fun _ _ q => q
  induction h₁ with | mk h₁ tk₁ φ₁ st R₁ rs
  have hsz := rs.length
  refine ⟨by rw [hsz, sizeLine_eq]; omega, ?_⟩
  have k : ∀ b x, h₁.get? b = some x → (h₁.push { cls := .type "list", data := .seq cs.toArray }).get? b = some x := fun b x q => Heap.get?_push_of_some _ q
  have fr : h₁.get? h₁.objs.size = none := fresh_none (Nat.le_refl _)
  have hi := R₁.high g
  have st0 := Step.snoc (φ := φ₁) (p := (h₁.objs.size, h₁.objs.size)) k fr fr
  obtain ⟨R', st'⟩ := R₁.snoc (p := (h₁.objs.size, h₁.objs.size)) (o := .list vs) k fr fr hi hi ⟨rfl, cs, ⟨0, Heap.get?_push_size _ rfl⟩, rs.step st0⟩
  refine ⟨_, _, _, st.trans st', R', ?_⟩
  simp only [RepV]
  exact ⟨(h₁.objs.size, h₁.objs.size), by rw [← R₁.len]; simp, rfl⟩

theorem ev_tuple (ihs : SimEvs prog w G n) {es : List Expr} {k : Nat} {pos : Pos} {v : AV} {H' : AH} (r : Room A (n + 1)) (R : Rel prog w G φ H s.heap) (F : Fr0 G sc env loc φ s.heap)
    (e : ((aevs n sc loc es H).bind fun p => if p.1.length < lenLine then some (AV.tup p.1, p.2) else none) = some (v, H')) :
    wpAny (model prog w) A (eval (.Tuple es k pos) env) (PostV prog w G φ s v H') NoE s := by
  refine obC2 e fun vs H₁ hp e => ?_
  split at e
  case isFalse => cases e
  rename_i hlen
  cases e
  have hlen : vs.length < 100000 := hlen
  refine wpAny_Tuple ?_
  rw [(ihs r.pred R F hp).1]
  refine wpAny_mono (ihs r.pred R F hp).2 (fun cs s₁ h₁ => ?_) fun _ _ q => q
  induction h₁ with | mk h₁ tk₁ φ₁ st R₁ rs
  have hsz := rs.length
  refine ⟨by rw [hsz, sizeLine_eq]; omega, ?_⟩
  have k : ∀ b x, h₁.get? b = some x → (h₁.push { cls := .type "tuple", data := .seq cs.toArray }).get? b = some x := fun b x q => Heap.get?_push_of_some _ q
  refine ⟨_, _, φ₁, st.trans (Step.of_keeps k), R₁.keeps k, ?_⟩
  simp only [RepV]
  exact ⟨_, cs, rfl, ⟨_, Heap.get?_push_size _ rfl, rfl, 0, rfl⟩, R₁.offNew (fresh_none (Nat.le_refl _)), rs.step (Step.of_keeps k)⟩
end
end Mine

namespace Mine
open PySem PySem.W PyProof.Rows PySem.SeqAt PySem.Calls

theorem lookup_mem {l : List (Str × Value)} (n : (l.map (·.1)).Nodup) : ∀ p ∈ l, l.lookup p.1 = some p.2 := by
  induction l with
  | nil => intro p h; cases h
  | cons q r ih =>
    obtain ⟨k, v⟩ := q
    have n' : k ∉ r.map (·.1) ∧ (r.map (·.1)).Nodup := List.nodup_cons.mp n
    intro p h
    rcases List.mem_cons.mp h with rfl | h
    · simp [List.lookup_cons]
    · have : (p.1 == k) = false := by
        rw [beq_eq_false_iff_ne]; intro e; exact n'.1 (e ▸ List.mem_map_of_mem h)
      rw [List.lookup_cons, this]; exact ih n'.2 p h
theorem zip_keys {names : List Str} {vals : List Value} (h : names.length = vals.length) : (names.zip vals).map (·.1) = names := by
  rw [List.map_fst_zip]; omega
theorem filterMap_self {α : Type} {f : α → Option α} : ∀ {l : List α}, (∀ p ∈ l, f p = some p) → l.filterMap f = l
  | [], _ => rfl
  | a :: l, h => by rw [List.filterMap_cons, h a (.head _)]; simp only; rw [filterMap_self fun p hp => h p (.tail _ hp)]
theorem bind_zip {names : List Str} {vals : List Value} (n : names.Nodup) (h : names.length = vals.length) :
    (names.filterMap fun x => ((names.zip vals).lookup x).map (x, ·)) = names.zip vals := by
  have hk := zip_keys h
  have hm := lookup_mem (l := names.zip vals) (by rw [hk]; exact n)
  have e0 : (names.filterMap fun x => ((names.zip vals).lookup x).map (x, ·)) = ((names.zip vals).map (·.1)).filterMap fun x => ((names.zip vals).lookup x).map (x, ·) := by rw [hk]
  rw [e0, List.filterMap_map]
  have : ∀ p ∈ names.zip vals, ((fun x => ((names.zip vals).lookup x).map (x, ·)) ∘ fun p : Str × Value => p.1) p = some p := fun p hp => by
    simp only [Function.comp, hm p hp, Option.map_some]
  exact filterMap_self this
theorem none_missing {names : List Str} {vals : List Value} (n : names.Nodup) (h : names.length = vals.length) (m : Nat) : ((names.take m).filter fun x => ((names.zip vals).lookup x).isNone) = [] := by
  rw [List.filter_eq_nil_iff]
  intro x hx
  have hk := zip_keys h
  have hm := lookup_mem (l := names.zip vals) (by rw [hk]; exact n)
  have hx' : x ∈ (names.zip vals).map (·.1) := by rw [hk]; exact List.mem_of_mem_take hx
  obtain ⟨p, hp, rfl⟩ := List.mem_map.mp hx'
  rw [hm p hp]; simp

theorem bind_plain {fd : FuncData} {vals : List Value} (h1 : fd.params.posonlyargs = []) (h2 : fd.params.vararg = none) (h3 : fd.params.kwonlyargs = []) (h4 : fd.params.kwarg = none) (hd : fd.defaults = .none)
    (hn : (fd.params.args.map (·.arg)).Nodup) (hl : (fd.params.args.map (·.arg)).length = vals.length) : bindArgs fd ⟨vals, []⟩ = pure ((fd.params.args.map (·.arg)).zip vals) := by
  have hs : seqItems? fd.defaults = pure none := by rw [hd]; rfl
  unfold bindArgs
  simp only [h1, h2, h3, h4, hs, List.map_nil, List.nil_append, List.append_nil]
  have e1 : ¬ (vals.length > (fd.params.args.map (·.arg)).length) := by omega
  simp only [List.forIn_nil, pure_bind, e1, decide_false, Bool.false_and, Bool.false_eq_true, if_false, Option.getD_none, List.drop_nil, List.length_nil, Nat.sub_zero, none_missing hn hl, List.isEmpty_nil, Bool.not_true,
    bind_zip hn hl, List.zip_nil_right]
end Mine

namespace Mine
open PySem PySem.W PyProof.Rows PySem.SeqAt PySem.Calls

/-- a flow as the walk has it -/
noncomputable def FlowR (h : Heap) (φ : Phi) : AFlow → Flow → Prop
  | .next, f => f = .next
  | .cont, f => f = .cont
  | .ret v, f => ∃ c, f = .ret c ∧ RepV h φ v c

theorem kget_lookup {α : Type} (x : Str) : ∀ (l : List (Str × α)), kget l x = l.lookup x
  | [] => rfl
  | (k, v) :: r => by
    simp only [kget, List.lookup_cons]
    by_cases h : k = x
    · subst h; simp
    · have : (x == k) = false := by rw [beq_eq_false_iff_ne]; exact fun e => h e.symm
      rw [if_neg h, this, kget_lookup x r]

section
variable {prog : Program} {w : World} {G : Glb} {φ : Phi} {H : AH} {s : Shared} {A : Around} {env : Env} {sc : Sc} {loc : Loc} {n : Nat}

inductive PostX (prog : Program) (w : World) (G : Glb) (env : Env) (sc : Sc) (φ : Phi) (s : Shared) (fl : AFlow) (loc' : Loc) (H' : AH) (f : Flow) : Shared → Prop
  | mk (h' : Heap) (tk : Nat) (φ' : Phi) (st : StepX (Own env) φ s.heap φ' h') (R : Rel prog w G φ' H' h') (F : Fr0 G sc env loc' φ' h') (fr : FlowR h' φ' fl f) : PostX prog w G env sc φ s fl loc' H' f (mkS s h' tk)


theorem usePostX {t : Sem Flow} {fl : AFlow} {loc' : Loc} {H' : AH} {Q : Flow → Shared → Prop} {E : Value → Shared → Prop} (h : wpAny (model prog w) A t (PostX prog w G env sc φ s fl loc' H') NoE s)
    (k : ∀ f h₁ tk₁ φ₁, StepX (Own env) φ s.heap φ₁ h₁ → Rel prog w G φ₁ H' h₁ → Fr0 G sc env loc' φ₁ h₁ → FlowR h₁ φ₁ fl f → Q f (mkS s h₁ tk₁)) : wpAny (model prog w) A t Q E s :=
  wpAny_mono h (fun c s' p => by induction p with | mk h₁ tk₁ φ₁ st R F p => exact k c h₁ tk₁ φ₁ st R F p) fun _ _ q => q.elim
theorem eqX {t : Sem Flow} {fl fl' : AFlow} {loc' loc'' : Loc} {H' H'' : AH} (e : (fl, loc', H') = (fl', loc'', H'')) (h : wpAny (model prog w) A t (PostX prog w G env sc φ s fl loc' H') NoE s) : wpAny (model prog w) A t (PostX prog w G env sc φ s fl' loc'' H'') NoE s := by
  cases e; exact h
theorem PostX.of_eq {fl fl' : AFlow} {loc' loc'' : Loc} {H' H'' : AH} {f : Flow} {s' : Shared} (e : some (fl, loc', H') = some (fl', loc'', H'')) (p : PostX prog w G env sc φ s fl loc' H' f s') : PostX prog w G env sc φ s fl' loc'' H'' f s' := by
  cases e; exact p
noncomputable def SimExs (prog : Program) (w : World) (G : Glb) (n : Nat) : Prop := ∀ {A : Around} {φ : Phi} {H : AH} {s : Shared} {env : Env} {sc : Sc} {loc : Loc} {ss : List Stmt} {fl : AFlow} {loc' : Loc} {H' : AH},
  Room A n → Rel prog w G φ H s.heap → Fr0 G sc env loc φ s.heap → aexs n sc loc ss H = some (fl, loc', H') → wpAny (model prog w) A (execs ss env) (PostX prog w G env sc φ s fl loc' H') NoE s
noncomputable def SimEx (prog : Program) (w : World) (G : Glb) (n : Nat) : Prop := ∀ {A : Around} {φ : Phi} {H : AH} {s : Shared} {env : Env} {sc : Sc} {loc : Loc} {ss : Stmt} {fl : AFlow} {loc' : Loc} {H' : AH},
  Room A n → Rel prog w G φ H s.heap → Fr0 G sc env loc φ s.heap → aex n sc loc ss H = some (fl, loc', H') → wpAny (model prog w) A (exec ss env) (PostX prog w G env sc φ s fl loc' H') NoE s
/-- a call, at the level of codes -/
noncomputable def CodeV (prog : Program) (w : World) (G : Glb) (φ : Phi) (s : Shared) (v : AV) (H' : AH) (r : Result) (s' : Shared) : Prop := match r with
  | .ok (.ret c) => PostV prog w G φ s v H' c s'
  | _ => False
noncomputable def SimCode (prog : Program) (w : World) (G : Glb) (n : Nat) : Prop := ∀ {A : Around} {φ : Phi} {H : AH} {s : Shared} {fd : FD} {f : Addr} {args : List AV} {cargs : List Value} {v : AV} {H' : AH},
  Room A n → Rel prog w G φ H s.heap → RepVs s.heap φ args cargs → okFD fd = true → FnAt G f fd → acall n (some fd) args H = some (v, H') →
  codeAny (model prog w) A (.call (.ref f) ⟨cargs, []⟩) (CodeV prog w G φ s v H') s

theorem bindL_other {kindOf : Str → Option NameKind} {x : Str} : ∀ {b : List (Str × Value)} {m : Str → Option Value}, x ∉ b.map (·.1) → bindL kindOf b m x = m x
  | [], m, h => rfl
  | (n, v) :: r, m, h => by
    have h' : ¬ (x = n) ∧ x ∉ r.map (·.1) := by simpa using h
    unfold bindL
    rw [bindL_other h'.2]
    split
    · exact if_neg h'.1
    · rfl
theorem bindL_at {kindOf : Str → Option NameKind} {x : Str} {c : Value} (hk : kindOf x = some .local) : ∀ {b : List (Str × Value)} {m : Str → Option Value}, (b.map (·.1)).Nodup → (x, c) ∈ b → bindL kindOf b m x = some c
  | (n, v) :: r, m, nd, h => by
    have n' : n ∉ r.map (·.1) ∧ (r.map (·.1)).Nodup := List.nodup_cons.mp nd
    unfold bindL
    rcases List.mem_cons.mp h with e | h
    · cases e
      rw [bindL_other n'.1, if_pos hk, if_pos rfl]
    · exact bindL_at hk n'.2 h
theorem bindC_other {kindOf : Str → Option NameKind} {x : Str} : ∀ {b : List (Str × Value)} {m : Str → Option Value}, x ∉ b.map (·.1) → bindC kindOf b m x = m x
  | [], m, h => rfl
  | (n, v) :: r, m, h => by
    have h' : ¬ (x = n) ∧ x ∉ r.map (·.1) := by simpa using h
    unfold bindC
    rw [bindC_other h'.2]
    split
    · rfl
    · exact if_neg h'.1
theorem bindC_at {kindOf : Str → Option NameKind} {x : Str} {c : Value} (hk : kindOf x = some .cell) : ∀ {b : List (Str × Value)} {m : Str → Option Value}, (b.map (·.1)).Nodup → (x, c) ∈ b → bindC kindOf b m x = some c
  | (n, v) :: r, m, nd, h => by
    have n' : n ∉ r.map (·.1) ∧ (r.map (·.1)).Nodup := List.nodup_cons.mp nd
    unfold bindC
    rcases List.mem_cons.mp h with e | h
    · cases e
      rw [bindC_other n'.1, if_neg (by rw [hk]; decide), if_pos rfl]
    · exact bindC_at hk n'.2 h

/-- what a name is in the arguments, on both sides -/
theorem zip_rep {h : Heap} {x : Str} {v : AV} : ∀ {names : List Str} {args : List AV} {cs : List Value}, RepVs h φ args cs → kget (names.zip args) x = some v → ∃ c, (x, c) ∈ names.zip cs ∧ RepV h φ v c
  | [], args, cs, r, e => by cases e
  | k :: names, [], cs, r, e => by cases e
  | k :: names, a :: args, cs, r, e => by
    simp only [RepVs] at r
    obtain ⟨c, cs', rfl, r1, r2⟩ := r
    simp only [List.zip_cons_cons, kget] at e
    by_cases h : k = x
    · subst h
      rw [if_pos rfl] at e; cases e
      exact ⟨c, .head _, r1⟩
    · rw [if_neg h] at e
      obtain ⟨c', m, r'⟩ := zip_rep r2 e
      exact ⟨c', .tail _ m, r'⟩

theorem sim_code (g : GOk G) (ih : SimExs prog w G n) : SimCode prog w G (n + 1) := by
  intro A φ H s fd f args cargs v H' r R ra hok hat e
  unfold acall at e
  simp only [] at e
  split at e
  case isFalse => cases e
  rename_i hlen
  refine omC3 e fun fl loc' H' hp e => ?_
  cases e
  obtain ⟨oc, od, osl, qual, kV, doc, pm, an, cdv, ct, hl, hcd⟩ := hat
  unfold okFD at hok
  simp only [Bool.and_eq_true, decide_eq_true_eq, List.isEmpty_iff, Option.isNone_iff_eq_none, Bool.not_eq_true', beq_iff_eq] at hok
  obtain ⟨⟨⟨⟨⟨⟨⟨⟨⟨⟨k1, k2⟩, k3⟩, k4⟩, k5⟩, k6⟩, k7⟩, k8⟩, k9⟩, k10⟩, k11⟩ := hok
  have hargs := ra.length
  have hnames : (fd.params.args.map (·.arg)).length = cargs.length := by rw [List.length_map, hargs, hlen]
  have X := R.kin g
  have kinds : ∀ x ∈ (fd.params.args.map (·.arg)).zip cargs, fd.scope.names.lookup x.1 = some .local ∨ (fd.scope.names.lookup x.1 = some .cell ∧ ((cellsFrom (s.heap.objs.size + 1) fd.scope.names []).lookup x.1).isSome = true) := by
    intro x hx
    have hx1 : x.1 ∈ fd.params.args.map (·.arg) := by obtain ⟨x1, x2⟩ := x; exact (List.of_mem_zip hx).1
    obtain ⟨a, ha, e⟩ := List.mem_map.mp hx1
    have := List.all_eq_true.mp k10 a ha
    rw [e] at this
    simp only [Bool.or_eq_true, beq_iff_eq] at this
    exact this.imp_right fun q => ⟨q, cellsFrom_some _ _ _ (.inl q)⟩
  refine codeAny_call_cells (fd := fnOf fd.name qual fd.params fd.body fd.scope .none kV doc pm an cdv ct) (body := fd.body) (binds := (fd.params.args.map (·.arg)).zip cargs)
    (by have := r.dep; show _ < 1000; omega) (X _ _ hl) rfl (g.nolimit.keeps R.base) (codeRec_of X hcd) rfl (bind_plain k1 k2 k3 k4 rfl k8 hnames) rfl kinds (fun s₁ x => ?_) k5 k6 k7
  generalize henv : callEnvC (fnOf fd.name qual fd.params fd.body fd.scope .none kV doc pm an cdv ct) s.heap.objs.size f = env at x ⊢
  have eL : env.locals = s.heap.objs.size := by rw [← henv]; rfl
  have eS : env.scope = fd.scope := by rw [← henv]; rfl
  have eG : env.globals = mainGlobals := by rw [← henv]; rfl
  have eB : env.builtins = builtinsNs := by rw [← henv]; rfl
  have eC : env.cells = cellsFrom (s.heap.objs.size + 1) fd.scope.names [] := by rw [← henv]; rfl
  have eK : ∀ y, env.kindOf y = fd.scope.names.lookup y := fun y => by unfold Env.kindOf; rw [eS]
  obtain ⟨h₁, tk₁, e₁⟩ := x.toInCall.same
  have keep := x.toInCall.keep
  have fresh := x.toInCall.fresh
  have hns := x.toInCall.ns
  have hcell := x.cell
  have hapart := x.apart
  have habove := x.above
  subst e₁
  -- the frame's addresses
  let E : List Addr := env.locals :: env.cells.filterMap fun q => env.cells.lookup q.1
  have memC : ∀ {y : Str} {a : Addr}, env.cells.lookup y = some a → a ∈ E := fun {y a} q => List.mem_cons_of_mem _ (List.mem_filterMap.mpr ⟨(y, a), mem_of_lookup q, q⟩)
  have hE : ∀ a ∈ E, s.heap.get? a = none ∧ ∃ o, h₁.get? a = some o := by
    intro a ha
    rcases List.mem_cons.mp ha with rfl | ha
    · obtain ⟨o, es, ep, ho, _⟩ := hns
      exact ⟨fresh_none fresh, o, ho⟩
    · obtain ⟨q, hq, e⟩ := List.mem_filterMap.mp ha
      obtain ⟨o, ho, _⟩ := hcell _ _ e
      exact ⟨fresh_none (Nat.le_of_lt (Nat.lt_of_le_of_lt fresh (habove _ _ (mem_of_lookup e)))), o, ho⟩
  have R₁ := R.enter (h' := h₁) E keep hE
  have hbn : ∀ a, s.heap.get? a = none → G.hb.get? a = none := fun a e => by
    cases q : G.hb.get? a with
    | none => rfl
    | some o => rw [R.base a o q] at e; cases e
  have ra₁ : RepVs h₁ ⟨φ.objs, E ++ φ.ex⟩ args cargs := by
    have : RepVs s.heap ⟨φ.objs, E ++ φ.ex⟩ args cargs := RepVs.reex (φ := φ) (ψ := ⟨φ.objs, E ++ φ.ex⟩) rfl (fun a o q m m' => by
      rcases List.mem_append.mp m' with m' | m'
      · rw [(hE a m').1] at q; cases q
      · exact m m') _ _ ra
    exact RepVs.step (Step.of_keeps keep) _ _ this
  have nd : (((fd.params.args.map (·.arg)).zip cargs).map (·.1)).Nodup := by rw [zip_keys hnames]; exact k8
  have names_all : ∀ y k, fd.scope.names.lookup y = some k → k ≠ .free ∧ (y == ("__debug__" : Str)) = false := fun y k q => by
    have := List.all_eq_true.mp k11 _ (mem_of_lookup q)
    simp only [Bool.and_eq_true, bne_iff_ne, ne_eq] at this
    exact ⟨this.1, beq_eq_false_iff_ne.mpr this.2⟩
  have F : Fr0 G fd.scope.names env ((fd.params.args.map (·.arg)).zip args) ⟨φ.objs, E ++ φ.ex⟩ h₁ := by
    refine ⟨⟨by rw [eS]; exact k7, eG, eB, ⟨_, hns, fun y u hk hy => ?_⟩, fun y hk => ?_, fun y z a ha hb => ?_, ⟨?_, ?_, ?_⟩, fun y a ha => ?_, fun y hk => ?_⟩, fun y => ?_, fun y hy => ?_⟩
    · obtain ⟨c, m, rc⟩ := zip_rep ra₁ hy
      exact ⟨c, bindL_at hk nd m, rc⟩
    · have hk' : fd.scope.names.lookup y = some .cell := by rw [← eK]; exact hk
      obtain ⟨a, ha⟩ := Option.isSome_iff_exists.mp (cellsFrom_some (x := y) fd.scope.names (s.heap.objs.size + 1) [] (.inl hk'))
      rw [← eC] at ha
      refine ⟨a, _, ha, hcell y a ha, fun u hy => ?_⟩
      obtain ⟨c, m, rc⟩ := zip_rep ra₁ hy
      exact ⟨c, bindC_at hk nd m, rc⟩
    · exact name_of_addr hapart (mem_of_lookup ha) (mem_of_lookup hb)
    · exact List.mem_append_left _ (.head _)
    · exact R.nfoot (hE _ (.head _)).1
    · exact hbn _ (hE _ (.head _)).1
    · have m := memC ha
      exact ⟨List.mem_append_left _ m, R.nfoot (hE _ m).1, hbn _ (hE _ m).1, _, hcell y a ha⟩
    · rw [eK] at hk
      exact (names_all y _ hk).1 rfl
    · rw [kget_lookup, eK]
      cases q : fd.scope.names.lookup y with
      | none => trivial
      | some k => cases k <;> first | rfl | trivial | exact absurd rfl (names_all y _ q).1
    · rw [kget_lookup] at hy
      obtain ⟨k, hk⟩ := Option.isSome_iff_exists.mp hy
      exact (names_all y k hk).2
  refine usePostX (ih (r.deeper env) R₁ F hp) fun fl' h₂ tk₂ φ₂ st R₂ F₂ hfl => ?_
  have exs : φ₂.ex = E ++ φ.ex := st.ex
  -- the frame is left
  have R₃ := R₂.leave (ex := φ.ex) fun a m => by rw [exs]; exact List.mem_append_right _ m
  have step : Step φ s.heap ⟨φ₂.objs, φ.ex⟩ h₂ := by
    refine ⟨fun b o nf _ q => st.keep b o nf (fun own => ?_) (keep b o q), st.grow, rfl, fun a fa => ?_, fun _ f => f.elim⟩
    · have : b ∈ E := by
        rcases own with rfl | ⟨y, hy⟩
        · exact .head _
        · exact memC hy
      rw [(hE b this).1] at q; cases q
    · rcases st.fresh a fa with q | q
      · exact .inl q
      · refine .inr ?_
        cases z : s.heap.get? a with
        | none => rfl
        | some o => rw [keep a o z] at q; cases q
  have back : ∀ u c, RepV h₂ φ₂ u c → RepV h₂ ⟨φ₂.objs, φ.ex⟩ u c := fun u c q => RepV.reex (φ := φ₂) (ψ := ⟨φ₂.objs, φ.ex⟩) rfl (fun a o _ m m' => m (by rw [exs]; exact List.mem_append_right _ m')) u c q
  induction fl using Mine.AFlow.casesOn with
  | next => simp only [FlowR] at hfl; subst hfl; exact ⟨h₂, tk₂, _, step, R₃, .none⟩
  | cont => simp only [FlowR] at hfl; subst hfl; exact ⟨h₂, tk₂, _, step, R₃, .none⟩
  | ret u =>
    obtain ⟨c, rfl, rc⟩ := hfl
    exact ⟨h₂, tk₂, _, step, R₃, back _ _ rc⟩

theorem call_of_code {f : Value} {cargs : List Value} {v : AV} {H' : AH} (h : codeAny (model prog w) A (.call f ⟨cargs, []⟩) (CodeV prog w G φ s v H') s) : wpAny (model prog w) A (call f cargs) (PostV prog w G φ s v H') NoE s := by
  refine wpAny_call (codeAny_mono h fun r s' q => ?_)
  unfold CodeV at q
  split at q
  · exact q
  · exact q.elim
end
end Mine

namespace Mine
open PySem PySem.W PyProof.Rows PySem.SeqAt PySem.Calls

section
variable {prog : Program} {w : World} {G : Glb} {φ : Phi} {H : AH} {s : Shared} {A : Around} {env : Env} {sc : Sc} {loc : Loc} {n : Nat}

theorem evalArgs_each {M : Model} {E : Value → Shared → Prop} {f : Value} {es : List Expr} {Q : Args → Shared → Prop} (h : wpAny M A (spliced (plainEach es env)) (fun vs s' => Q ⟨vs, []⟩ s') E s) :
    wpAny M A (evalArgs f true (plainEach es env) []) Q E s := by
  induction es using List.casesOn with
  | nil =>
    have : wpAny M A (spliced []) (fun vs s' => Q ⟨vs, []⟩ s') E s := h
    unfold evalArgs
    show wpAny M A (spliced [] >>= _) Q E s
    refine wpAny_bind (wpAny_mono this (fun vs s' h' => ?_) fun _ _ x => x)
    refine wpAny_holding ?_
    exact wpAny_bind (wpAny_pure (wpAny_bind (wpAny_pure (wpAny_pure h'))))
  | cons e r => exact evalArgs_plain h

/-- what may be called by its name -/
noncomputable def Callable (G : Glb) (cf : Value) : Prop := Flat0 cf ∨ keepIn G.K cf = true
theorem callWith_each (g : GOk G) {pos : Pos} {cf : Value} {first : List Value} {es : List Expr} {Q : Value → Shared → Prop} {E : Value → Shared → Prop} (hc : Callable G cf)
    (h : wpAny (model prog w) A (spliced (plainEach es env)) (fun vs s' => G.K.In s'.heap ∧ wpAny (model prog w) A (call cf (first ++ vs)) Q E s') E s) :
    wpAny (model prog w) A (callWith pos cf first (plainEach es env) []) Q E s := by
  refine callWith_of (P := fun h => G.K.In h) (by simp [plainEach]) (fun h X => ?_) (evalArgs_each h)
  rcases hc with (⟨i, rfl⟩ | ⟨t, rfl⟩) | hk
  · exact ⟨.machine, .inr (.inl rfl), Looks.of_pure rfl⟩
  · exact ⟨.machine, .inr (.inl rfl), Looks.of_pure rfl⟩
  · exact keeps_K hk h X

/-- what stands for a name that is called -/
noncomputable def Callee (G : Glb) (f : Str) (cf : Value) : Prop := (G.mg f = some cf ∨ (G.mg f = none ∧ G.mb f = some cf)) ∧ Callable G cf
noncomputable def SimCallN (prog : Program) (w : World) (G : Glb) (n : Nat) : Prop := ∀ {f : Str} {args : List AV} {H : AH} {v : AV} {H' : AH}, acallN n f args H = some (v, H') → ∃ cf, Callee G f cf ∧
  ∀ {A : Around} {φ : Phi} {s : Shared} {cargs : List Value}, Room A n → Rel prog w G φ H s.heap → RepVs s.heap φ args cargs → wpAny (model prog w) A (call cf cargs) (PostV prog w G φ s v H') NoE s
noncomputable def SimMeth (prog : Program) (w : World) (G : Glb) (n : Nat) : Prop := ∀ {A : Around} {φ : Phi} {s : Shared} {r : MRef} {m : Str} {args : List AV} {H : AH} {v : AV} {H' : AH} {f : Value} {first cargs : List Value},
  ameth n r m args H = some (v, H') → MRefR G φ r m f first → Room A n → Rel prog w G φ H s.heap → RepVs s.heap φ args cargs → wpAny (model prog w) A (call f (first ++ cargs)) (PostV prog w G φ s v H') NoE s

theorem keep_fn {f : Addr} {fd : FD} (h : FnAt G f fd) : keepIn G.K (.ref f) = true := by
  obtain ⟨oc, od, osl, qual, kV, doc, pm, an, cdv, ct, hl, _⟩ := h
  unfold keepIn; simp only [hl]

theorem callable_meth {r : MRef} {m : Str} {f : Value} {first : List Value} {args : List AV} {H' : AH} {v : AV} (e : ameth n r m args H = some (v, H')) (h : MRefR G φ r m f first) : Callable G f := by
  induction r using Mine.MRef.casesOn with
  | lst k => obtain ⟨p, _, rfl, _⟩ := h; exact .inl (.inl ⟨_, rfl⟩)
  | dct k => obtain ⟨p, _, rfl, _⟩ := h; exact .inl (.inl ⟨_, rfl⟩)
  | usr k c j =>
    obtain ⟨p, a, _, _, rfl, hf⟩ := h
    cases n with
    | zero => unfold ameth at e; cases e
    | succ n =>
      unfold ameth at e
      simp only [] at e
      cases q : mdef (cplace c) j with
      | none => rw [q] at e; cases n <;> (unfold acall at e; cases e)
      | some fd => exact .inr (keep_fn (hf fd q).2.2)

theorem callee_builtin (g : GOk G) {f : Str} {args : List AV} {r : AV × AH} (e : abuiltin f args H = some r) : ∃ cf, G.mg f = none ∧ G.mb f = some cf ∧ Flat0 cf := by
  obtain ⟨p, m, rfl, _⟩ := bi_in e
  exact ⟨_, bi_table g p m⟩

theorem acall_fd {n : Nat} {fd : Option FD} {args : List AV} {r : AV × AH} (e : acall n fd args H = some r) : ∃ d, fd = some d := by
  cases n with
  | zero => unfold acall at e; cases e
  | succ n =>
    unfold acall at e
    induction fd using Option.casesOn with
    | none => cases e
    | some d => exact ⟨d, rfl⟩

theorem all_nil {α : Type} {P : α → Prop} : ∀ x ∈ ([] : List α), P x := fun x m => nomatch m
theorem cidx_lt {x : Str} {c : Nat} (e : cidx x = some c) : c < 2 :=
  all_cons (P := fun p : Str × Nat => p.2 < 2) (Nat.le_of_ble_eq_true rfl) (all_cons (Nat.le_of_ble_eq_true rfl) all_nil) _ (kget_mem (l := clsNames) e)

theorem sim_callN (g : GOk G) (ih : SimCode prog w G n) : SimCallN prog w G (n + 1) := by
  intro f args H v H' e
  unfold acallN at e
  cases hf : fidx f with
  | some i =>
    rw [hf] at e
    simp only [] at e
    obtain ⟨d, hd⟩ := acall_fd e
    rw [hd] at e
    obtain ⟨hok, a, hm, hat⟩ := g.fn f i d hf hd
    exact ⟨.ref a, ⟨.inl hm, .inr (keep_fn hat)⟩, fun {A φ s cargs} r R ra => call_of_code (ih r.pred R ra hok hat e)⟩
  | none =>
    rw [hf] at e
    simp only [] at e
    cases hc : cidx f with
    | none =>
      rw [hc] at e
      simp only [] at e
      obtain ⟨cf, h1, h2, h3⟩ := callee_builtin g e
      refine ⟨cf, ⟨.inr ⟨h1, h2⟩, .inl h3⟩, fun {A φ s cargs} r R ra => ?_⟩
      obtain ⟨cf', _, h2', _, hw⟩ := sim_builtin (A := A) g r.hh e R ra
      rw [h2] at h2'; cases h2'
      exact hw
    | some c =>
      rw [hc] at e
      simp only [] at e
      refine obC2 e fun u H₁ hp e => ?_
      cases u <;> simp only [] at e <;> try cases e
      obtain ⟨d, hd⟩ := acall_fd hp
      rw [hd] at hp
      obtain ⟨hm, hmk, hkp⟩ := g.cl f c hc
      obtain ⟨hok, a, hfi, hft, hat⟩ := g.init c d (cidx_lt hc) hd
      refine ⟨.ref (G.C c), ⟨.inl hm, .inr hkp⟩, fun {A φ s cargs} r R ra => call_of_code ?_⟩
      obtain ⟨h, gg, dd, tt, os⟩ := s
      have X := R.kin g
      refine make_core (makes_of X hmk) (looks_findIn X hfi) (fun self => bind_fn X self hft) (.inl rfl) ?_
      have kp : ∀ b o, h.get? b = some o → ((h.push emptyDict).push (instObj (G.C c) h.objs.size)).get? b = some o := fun b o q => Heap.get?_push_of_some _ (Heap.get?_push_of_some _ q)
      have f1 : h.get? (h.objs.size + 1) = none := fresh_none (Nat.le_succ _)
      have f2 : h.get? h.objs.size = none := fresh_none (Nat.le_refl _)
      have hd1 : ((h.push emptyDict).push (instObj (G.C c) h.objs.size)).get? h.objs.size = some emptyDict := Heap.get?_push_of_some _ (Heap.get?_push_size _ rfl)
      have hi1 : ((h.push emptyDict).push (instObj (G.C c) h.objs.size)).get? (h.objs.size + 1) = some (instObj (G.C c) h.objs.size) := by
        have := Heap.get?_push_size (h.push emptyDict) (o := instObj (G.C c) h.objs.size) rfl
        rw [Heap.size_push] at this; exact this
      obtain ⟨R', st'⟩ := R.snoc (p := (h.objs.size + 1, h.objs.size)) (o := .inst c []) kp f1 f2 (R.high' g (Nat.le_succ _)) (R.high' g (Nat.le_refl _))
        ⟨cidx_lt hc, Nat.ne_of_lt (Nat.lt_succ_self _), hi1, _, _, hd1, fun e he => by simp at he, Nat.zero_le _, fun x => by simp [kget, nsFind, findBy]⟩
      have hw : Room (A.under (.builtin "type.__call__" ⟨.ref (G.C c) :: cargs, []⟩)) n := by
        refine ⟨r.hh, ?_, ?_⟩
        · have := r.dep
          have hwt : (Code.builtin "type.__call__" ⟨.ref (G.C c) :: cargs, []⟩).weight ≤ 1 := by
            show (Code.builtin "type.__call__" ⟨.ref (G.C c) :: cargs, []⟩).frames + _ + _ + _ ≤ 1
            have e1 : (Code.builtin "type.__call__" ⟨.ref (G.C c) :: cargs, []⟩).frames = 0 := rfl
            have e2 : (Code.builtin "type.__call__" ⟨.ref (G.C c) :: cargs, []⟩).isGuard = false := rfl
            have e3 : (Code.builtin "type.__call__" ⟨.ref (G.C c) :: cargs, []⟩).isCaller = false := rfl
            rw [e1, e2, e3]
            split <;> simp
          show A.depth + _ + _ + _ < _
          omega
        · have := r.un
          have hcu : (Code.builtin "type.__call__" ⟨.ref (G.C c) :: cargs, []⟩).cUnits = 1 := rfl
          show A.units + _ + _ + _ < _
          omega
      have rself : RepV ((h.push emptyDict).push (instObj (G.C c) h.objs.size)) ⟨φ.objs ++ [(h.objs.size + 1, h.objs.size)], φ.ex⟩ (.ref H.length) (.ref (h.objs.size + 1)) := by
        simp only [RepV]; exact ⟨(h.objs.size + 1, h.objs.size), by rw [← R.len]; simp, rfl⟩
      refine codeAny_mono (ih (s := ⟨(h.push emptyDict).push (instObj (G.C c) h.objs.size), gg, dd, tt, os⟩) hw R' (.cons rself (ra.step st')) hok hat hp) fun rr s' q => ?_
      unfold CodeV at q
      split at q
      case h_2 => exact q.elim
      rename_i cv
      induction q with | mk h' tk' φ' st R2 rv
      simp only [RepV] at rv
      subst rv
      exact ⟨rfl, h', tk', φ', st'.trans st, R2, rself.step st⟩

theorem sim_meth (ih : SimCode prog w G n) : SimMeth prog w G (n + 1) := by
  intro A φ s r m args H v H' f first cargs e hr rm R ra
  unfold ameth at e
  induction r using Mine.MRef.casesOn with
  | lst k => exact sim_bmethL e R hr ra
  | dct k => exact sim_bmethD e R hr ra
  | usr k c j =>
    simp only [] at e
    obtain ⟨d, hd⟩ := acall_fd e
    obtain ⟨p, a, hp, rfl, rfl, hf⟩ := hr
    obtain ⟨hok, _, hat⟩ := hf d hd
    rw [hd] at e
    exact call_of_code (ih rm.pred R (.cons (by simp only [RepV]; exact ⟨p, hp, rfl⟩) ra) hok hat e)

/-- a call by name -/
theorem ev_callN (g : GOk G) (ihs : SimEvs prog w G n) (ihc : SimCallN prog w G n) {f : Str} {args : List Expr} {fp pos : Pos} {v : AV} {H' : AH} (r : Room A (n + 1)) (R : Rel prog w G φ H s.heap) (F : Fr0 G sc env loc φ s.heap)
    (e : ((aevs n sc loc args H).bind fun p => if kget sc f matches some .globalImplicit then acallN n f p.1 p.2 else none) = some (v, H')) :
    wpAny (model prog w) A (eval (.Call (.Name f fp) args [] pos) env) (PostV prog w G φ s v H') NoE s := by
  refine obC2 e fun vs H₁ hp e => ?_
  have hk : kget sc f = some .globalImplicit := by
    cases hkk : kget sc f with
    | none => rw [hkk] at e; cases e
    | some k => rw [hkk] at e; cases k <;> first | rfl | cases e
  rw [hk] at e
  have e : acallN n f vs H₁ = some (v, H') := e
  obtain ⟨cf, ⟨hcf, hcall⟩, hw⟩ := ihc e
  have hkind := F.scr f
  rw [hk] at hkind
  have hd := F.dbg f (by rw [hk]; rfl)
  show wpAny _ _ (eval (.Name f fp) env >>= _) _ _ _
  have body : wpAny (model prog w) A (callWith pos cf [] (backTo pos (starEach args env)) (backToKw pos (keywordEach [] env))) (PostV prog w G φ s v H') NoE s := by
    rw [(ihs r.pred R F hp).1]
    refine callWith_each g hcall (wpAny_mono (ihs r.pred R F hp).2 (fun cs s₁ h₁ => ?_) fun _ _ q => q)
    induction h₁ with | mk h₁ tk₁ φ₁ st R₁ rs
    exact ⟨R₁.kin g, Post.lift st (hw r.pred R₁ rs)⟩
  refine wpAny_bind (Name_function_global F.fr.kind hkind ?_ hd)
  have hg : s.heap.Ns env.globals G.mg := by rw [F.fr.glob]; exact g.gns.at' fun o q => R.base _ o q
  rcases hcf with h | ⟨h1, h2⟩
  · exact loadGlobal_global hg h body
  · exact loadGlobal_builtin hg h1 (by rw [F.fr.bui]; exact g.bns.at' fun o q => R.base _ o q) h2 body

/-- a method's call -/
theorem ev_meth (g : GOk G) (ih : SimEv prog w G n) (ihs : SimEvs prog w G n) (ihm : SimMeth prog w G n) {o : Expr} {m : Str} {args : List Expr} {apos pos : Pos} {v : AV} {H' : AH} (r : Room A (n + 1)) (R : Rel prog w G φ H s.heap)
    (F : Fr0 G sc env loc φ s.heap) (hb : isBare o = false) (hn : args.length < 10) (hpos : apos.endLine = pos.line)
    (e : ((aev n sc loc o H).bind fun p => (amget p.2 p.1 m).bind fun r => (aevs n sc loc args p.2).bind fun q => ameth n r m q.1 q.2) = some (v, H')) :
    wpAny (model prog w) A (eval (.Call (.Attribute o m apos) args [] pos) env) (PostV prog w G φ s v H') NoE s := by
  refine obC2 e fun u H₁ hp e => ?_
  refine obC e fun rr hr e => ?_
  refine obC2 e fun vs H₂ hq e => ?_
  rw [arm_eval_Call, base_of_bare hb]
  refine wpAny_bind (usePost (ih r.pred R F hp) fun c h₁ tk₁ φ₁ st R₁ rc => Post.lift st ?_)
  refine wpAny_bind (wpAny_standAt ?_)
  unfold methodCall
  rw [aevs_plain (env := env) pos hq]
  have few : methodCallForm (args.length + ([] : List Keyword).length) (plainEach args env) (backToKw pos (keywordEach [] env)) = true := by
    unfold methodCallForm
    have e1 : (plainEach args env).all (fun x => !x.1) = true := by simp [plainEach]
    have e2 : backToKw pos (keywordEach [] env) = [] := rfl
    rw [e1, e2]
    simp
    omega
  rw [few]
  have hpos' : methodCallPos true o env apos pos = pure pos := by
    unfold methodCallPos
    rw [if_pos (by simp [hpos])]
  refine wpAny_bind (wpAny_holding ?_)
  show wpAny _ _ (getMethod c m _) _ _ _
  refine wpAny_mono (sim_getmethod (s := (mkS s h₁ tk₁)) g R₁ hr rc) (fun fx s₂ h₂ => ?_) fun _ _ q => q
  obtain ⟨rfl, hm⟩ := h₂
  obtain ⟨f, first⟩ := fx
  refine wpAny_bind (wpAny_of_eq hpos' ?_)
  show wpAny _ _ (callWith pos f first (plainEach args env) []) _ _ _
  refine callWith_each g (callable_meth e hm) (wpAny_mono (ihs (s := (mkS s h₁ tk₁)) r.pred R₁ (F.step st) hq).2 (fun cs s₃ h₃ => ?_) fun _ _ q => q)
  induction h₃ with | mk h₃ tk₃ φ₃ st₃ R₃ rs
  refine ⟨R₃.kin g, Post.lift (s := (mkS s h₁ tk₁)) st₃ ?_⟩
  exact ihm e (hm.step st₃) r.pred R₃ rs
end
end Mine

namespace Mine
open PySem PySem.W PyProof.Rows PySem.SeqAt PySem.Calls

theorem kget_none_mem {K α : Type} [DecidableEq K] {x : K} : ∀ {l : List (K × α)}, kget l x = none → x ∉ l.map (·.1)
  | [], _ => by simp
  | (k, v) :: r, h => by
    simp only [kget] at h
    by_cases q : k = x
    · rw [if_pos q] at h; cases h
    · rw [if_neg q] at h
      have := kget_none_mem h
      simp only [List.map_cons, List.mem_cons, not_or]
      exact ⟨fun e => q e.symm, this⟩

section
variable {prog : Program} {w : World} {G : Glb} {φ : Phi} {H : AH} {s : Shared} {A : Around} {env : Env} {sc : Sc} {loc : Loc} {n : Nat}

noncomputable def SimDicts (prog : Program) (w : World) (G : Glb) (n : Nat) : Prop := ∀ {A : Around} {φ : Phi} {H : AH} {s : Shared} {env : Env} {sc : Sc} {loc : Loc} {ks : List (Option Expr)} {vs : List Expr} {es : List (Str × AV)} {H' : AH} {pos : Pos},
  Room A n → Rel prog w G φ H s.heap → Fr0 G sc env loc φ s.heap → adicts n sc loc ks vs H = some (es, H') →
  wpAny (model prog w) A (evalPairs (pairTrees ks vs env pos)) (fun cs => Post prog w G φ s H' fun φ' h' => allStrKeys cs = true ∧ RepKV h' φ' es (strPairs cs)) NoE s
noncomputable def SimDict (prog : Program) (w : World) (G : Glb) (n : Nat) : Prop := ∀ {A : Around} {φ : Phi} {H : AH} {s : Shared} {env : Env} {sc : Sc} {loc : Loc} {ks : List (Option Expr)} {vs : List Expr} {v : AV} {H' : AH} {pos : Pos},
  Room A n → Rel prog w G φ H s.heap → Fr0 G sc env loc φ s.heap → adict n sc loc ks vs H = some (v, H') → wpAny (model prog w) A (eval (.Dict ks vs pos) env) (PostV prog w G φ s v H') NoE s

theorem adicts_shape : ∀ {n : Nat} {ks : List (Option Expr)} {vs : List Expr} {H : AH} {r : List (Str × AV) × AH}, adicts n sc loc ks vs H = some r →
    ks.all (·.isSome) = true ∧ ks.length = vs.length ∧ r.1.length = ks.length ∧ (r.1.map (·.1)).Nodup
  | 0, ks, vs, H, r, e => by unfold adicts at e; cases e
  | n + 1, ks, vs, H, r, e => by
    unfold adicts at e
    split at e
    · cases e; simp
    · refine obC e fun p hp e => ?_
      refine obC e fun q hq e => ?_
      split at e
      · cases e
      rename_i hx
      cases e
      obtain ⟨a, b, c, d⟩ := adicts_shape hq
      refine ⟨by simpa using a, by simp [b], by simp [c], ?_⟩
      simp only [List.map_cons, List.nodup_cons]
      exact ⟨kget_none_mem (by simpa using hx), d⟩
    · cases e

theorem sim_dicts (ih : SimEv prog w G n) (ihd : SimDicts prog w G n) : SimDicts prog w G (n + 1) := by
  intro A φ H s env sc loc ks vs es H' pos r R F e
  unfold adicts at e
  split at e
  · cases e
    exact pairTrees_nil_walk (Post.of_keeps R (Keeps.rfl' _) ⟨rfl, rfl⟩)
  · rename_i x k p ks v vs
    refine obC2 e fun a H₁ hu e => ?_
    refine obC2 e fun es H₂ hq e => ?_
    split at e
    · cases e
    cases e
    refine pairTrees_cons_walk (wpAny_Constant_str ?_)
    have R0 : Rel prog w G φ H ({ s with toks := s.toks + 1 } : Shared).heap := R
    refine usePost (ih (s := { s with toks := s.toks + 1 }) r.pred R0 F hu) fun c h₁ tk₁ φ₁ st R₁ rc => ?_
    refine usePost (ihd (s := (mkS s h₁ tk₁)) r.pred R₁ (F.step st) hq) fun cs h₂ tk₂ φ₂ st₂ R₂ hq_ => ?_
    obtain ⟨hk, rk⟩ := hq_
    exact ⟨h₂, tk₂, φ₂, st.trans st₂, R₂, hk, c, _, rfl, rc.step st₂ _ _, rk⟩
  · cases e

theorem sim_dict (g : GOk G) (ihd : SimDicts prog w G n) : SimDict prog w G (n + 1) := by
  intro A φ H s env sc loc ks vs v H' pos r R F e
  have fr : s.heap.get? s.heap.objs.size = none := fresh_none (Nat.le_refl _)
  have hi := R.high g
  have k : ∀ b x, s.heap.get? b = some x → (s.heap.push { cls := .type "dict", data := .dict #[] }).get? b = some x := fun b x q => Heap.get?_push_of_some _ q
  obtain ⟨R₀, st₀⟩ := R.snoc (p := (s.heap.objs.size, s.heap.objs.size)) (o := .dictE) k fr fr hi hi ⟨rfl, Heap.get?_push_size _ rfl⟩
  have hself : (φ.objs ++ [(s.heap.objs.size, s.heap.objs.size)])[H.length]? = some (s.heap.objs.size, s.heap.objs.size) := by rw [← R.len]; simp
  unfold adict at e
  split at e
  · split at e
    · cases e
      refine wpAny_Dict_empty ⟨_, _, _, st₀, R₀, ?_⟩
      simp only [RepV]
      exact ⟨_, hself, rfl⟩
    · cases e
  · rename_i hne
    refine obC2 e fun es H₁ hp e => ?_
    split at e
    case isFalse => cases e
    rename_i hlen
    split at e <;> try cases e
    rename_i hdE
    obtain ⟨sh1, sh2, sh3, sh4⟩ := adicts_shape hp
    refine wpAny_Dict_walk (knd := strKind prog w) sh1 sh2 (by intro q; exact hne q) (by rw [← sh3]; exact hlen) ?_
    refine usePost (ihd (s := { s with heap := s.heap.push { cls := .type "dict", data := .dict #[] } }) r.pred R₀ (F.step st₀) hp) fun cs h₁ tk₁ φ₁ st₁ R₁ hq_ => ?_
    obtain ⟨hk, rk⟩ := hq_
    have hself₁ := st₁.get hself
    obtain ⟨p', hp', ro⟩ := R₁.obj _ _ hdE
    rw [hself₁] at hp'; cases hp'
    have dd : h₁.DictOf (strKind prog w) s.heap.objs.size [] := ⟨_, _, _, ro.2, ⟨rfl, rfl, rfl⟩, rfl, (fun e he => by simp at he), .nil, by simp⟩
    refine display_done_str hk (by rw [rk.keys]; exact sh4) dd fun h' hd sb => ?_
    have kp : ∀ b o, b ≠ s.heap.objs.size → b ≠ s.heap.objs.size → h₁.get? b = some o → h'.get? b = some o := fun b o n _ q => sb.extBut b o n q
    have st2 : Step φ₁ h₁ φ₁ h' := ⟨fun b o nf _ e => kp b o (fun q => nf (q ▸ (Foot.of_get hself₁).1)) (fun q => nf (q ▸ (Foot.of_get hself₁).2)) e, ⟨[], by simp⟩, rfl, fun _ a => .inl a, fun _ x => x.elim⟩
    obtain ⟨R₂, _⟩ := R₁.set hself₁ kp (o' := .dictS es) ⟨rfl, _, hd, rk.stepX st2 fun _ f => f.elim⟩
    refine ⟨h', _, φ₁, (st₀.trans st₁).trans st2, R₂, ?_⟩
    simp only [RepV]
    exact ⟨_, hself₁, rfl⟩
end
end Mine

namespace Mine
open PySem PySem.W PyProof.Rows PySem.SeqAt PySem.Calls

section
variable {prog : Program} {w : World} {G : Glb} {φ φ' : Phi} {H : AH} {s : Shared} {A : Around} {env : Env} {sc : Sc} {loc : Loc} {n : Nat}

theorem FrR.congr {h : Heap} {loc' : Loc} (F : FrR G env loc φ h) (e : ∀ x, kget loc' x = kget loc x) : FrR G env loc' φ h where
  kind := F.kind
  glob := F.glob
  bui := F.bui
  ns := by obtain ⟨m, a, b⟩ := F.ns; exact ⟨m, a, fun x v k q => b x v k (by rw [← e]; exact q)⟩
  cell := fun x k => by obtain ⟨a, ov, c, d, r⟩ := F.cell x k; exact ⟨a, ov, c, d, fun v q => r v (by rw [← e]; exact q)⟩
  apart := F.apart
  offL := F.offL
  offC := F.offC
  nofree := F.nofree
theorem Fr0.congr {h : Heap} {loc' : Loc} (F : Fr0 G sc env loc φ h) (e : ∀ x, kget loc' x = kget loc x) : Fr0 G sc env loc' φ h := ⟨F.fr.congr e, F.scr, F.dbg⟩

/-- what a store gives -/
inductive PostA (prog : Program) (w : World) (G : Glb) (env : Env) (sc : Sc) (X : Addr → Prop) (φ : Phi) (s : Shared) (loc' : Loc) (H' : AH) : Shared → Prop
  | mk (h' : Heap) (tk : Nat) (φ' : Phi) (st : StepX X φ s.heap φ' h') (R : Rel prog w G φ' H' h') (F : Fr0 G sc env loc' φ' h') : PostA prog w G env sc X φ s loc' H' (mkS s h' tk)


theorem usePostA {α : Type} {t : Sem α} {X : Addr → Prop} {loc' : Loc} {H' : AH} {Q : α → Shared → Prop} {E : Value → Shared → Prop} (h : wpAny (model prog w) A t (fun _ s' => PostA prog w G env sc X φ s loc' H' s') NoE s)
    (k : ∀ c h₁ tk₁ φ₁, StepX X φ s.heap φ₁ h₁ → Rel prog w G φ₁ H' h₁ → Fr0 G sc env loc' φ₁ h₁ → Q c (mkS s h₁ tk₁)) : wpAny (model prog w) A t Q E s :=
  wpAny_mono h (fun c s' p => by induction p with | mk h₁ tk₁ φ₁ st R F => exact k c h₁ tk₁ φ₁ st R F) fun _ _ q => q.elim
theorem Fr0.own {h : Heap} (F : Fr0 G sc env loc φ h) (a : Addr) (o : Own env a) : a ∈ φ.ex := (Own.ex F.fr o).1

/-- a local's store -/
theorem store_local' {x : Str} {v : AV} {c : Value} (R : Rel prog w G φ H s.heap) (F : Fr0 G sc env loc φ s.heap) (hk : env.kindOf x = some .local) (rc : RepV s.heap φ v c) :
    wpAny (model prog w) A (storeName env x c) (fun _ s' => ∃ h' tk, s' = (mkS s h' tk) ∧ (∀ b o, b ≠ env.locals → s.heap.get? b = some o → h'.get? b = some o) ∧ StepX (fun a => a = env.locals) φ s.heap φ h' ∧
      Rel prog w G φ H h' ∧ Fr0 G sc env (kput loc x v) φ h') NoE s := by
  obtain ⟨m, hn, hm⟩ := F.fr.ns
  refine wpAny_storeName_local hk hn (fun h' hn' hs' => ?_) (by rw [F.fr.kind]; rfl)
  have live : ∃ o, s.heap.get? env.locals = some o := by obtain ⟨o, es, ep, ho, _⟩ := hn; exact ⟨o, ho⟩
  have live' : ∃ o, h'.get? env.locals = some o := by obtain ⟨o, es, ep, ho, _⟩ := hn'; exact ⟨o, ho⟩
  obtain ⟨R', st⟩ := R.frame (X := fun a => a = env.locals) (fun b o nx e => hs'.extBut b o nx e) (fun a e => by subst e; exact F.fr.offL) (fun a e _ => by subst e; exact live')
  have hX : ∀ a, a = env.locals → a ∈ φ.ex := fun a e => by subst e; exact F.fr.offL.1
  refine ⟨h', _, rfl, fun b o nb e => hs'.extBut b o nb e, st, R', ⟨F.fr.kind, F.fr.glob, F.fr.bui, ⟨_, hn', fun y u hy q => ?_⟩, fun y hy => ?_, F.fr.apart, F.fr.offL, fun y a e => ?_, F.fr.nofree⟩, F.scr, F.dbg⟩
  · rw [kget_kput] at q
    by_cases h : x = y
    · subst h
      rw [if_pos rfl] at q; cases q
      exact ⟨c, if_pos rfl, RepV.stepX st hX _ _ rc⟩
    · rw [if_neg h] at q
      obtain ⟨d, a, b⟩ := hm y u hy q
      exact ⟨d, (if_neg (Ne.symm h)).trans a, RepV.stepX st hX _ _ b⟩
  · obtain ⟨a, ov, e, hc, hv⟩ := F.fr.cell y hy
    refine ⟨a, ov, e, hc.sameBut hs' (F.fr.cellL e), fun u q => ?_⟩
    rw [kget_kput] at q
    have : ¬ x = y := fun h => by subst h; rw [hk] at hy; cases hy
    rw [if_neg this] at q
    obtain ⟨d, a', b⟩ := hv u q
    exact ⟨d, a', RepV.stepX st hX _ _ b⟩
  · obtain ⟨h1, h2, h3, ov, hc⟩ := F.fr.offC y a e
    exact ⟨h1, h2, h3, ov, hc.sameBut hs' (F.fr.cellL e)⟩

theorem store_local {x : Str} {v : AV} {c : Value} (R : Rel prog w G φ H s.heap) (F : Fr0 G sc env loc φ s.heap) (hk : env.kindOf x = some .local) (rc : RepV s.heap φ v c) :
    wpAny (model prog w) A (storeName env x c) (fun _ s' => PostA prog w G env sc (fun a => a = env.locals) φ s (kput loc x v) H s') NoE s :=
  wpAny_mono (store_local' R F hk rc) (fun _ s' q => by
    obtain ⟨h', tk, rfl, _, st, R', F'⟩ := q
    exact ⟨h', tk, φ, st, R', F'⟩) fun _ _ q => q

theorem store_cell {x : Str} {v : AV} {c : Value} (R : Rel prog w G φ H s.heap) (F : Fr0 G sc env loc φ s.heap) (hk : env.kindOf x = some .cell) (rc : RepV s.heap φ v c) :
    wpAny (model prog w) A (storeName env x c) (fun _ s' => PostA prog w G env sc (Own env) φ s (kput loc x v) H s') NoE s := by
  obtain ⟨a, ov, ha, hcl, _⟩ := F.fr.cell x hk
  refine wpAny_storeName_cell F.fr.kind hk ha hcl fun h' hc' hs' => ?_
  have own : Own env a := .inr ⟨x, ha⟩
  have live' : ∃ o, h'.get? a = some o := by obtain ⟨o, ho, _⟩ := hc'; exact ⟨o, ho⟩
  obtain ⟨R', st⟩ := R.frame (X := Own env) (fun b o nx e => hs'.extBut b o (fun q => nx (q ▸ own)) e) (fun b o => Own.ex F.fr o) (fun b o lv => by
    by_cases q : b = a
    · rw [q]; exact live'
    · obtain ⟨y, hy⟩ := lv; exact ⟨y, hs'.extBut b y q hy⟩)
  have hX : ∀ b, Own env b → b ∈ φ.ex := fun b o => F.own b o
  refine ⟨h', s.toks, φ, st, R', ⟨F.fr.kind, F.fr.glob, F.fr.bui, ?_, fun y hy => ?_, F.fr.apart, F.fr.offL, fun y b e => ?_, F.fr.nofree⟩, F.scr, F.dbg⟩
  · obtain ⟨m, hn, hm⟩ := F.fr.ns
    refine ⟨m, hn.sameBut hs' (F.fr.cellL ha).symm, fun y u hy q => ?_⟩
    rw [kget_kput] at q
    have : ¬ x = y := fun h => by subst h; rw [hk] at hy; cases hy
    rw [if_neg this] at q
    obtain ⟨d, a', b⟩ := hm y u hy q
    exact ⟨d, a', RepV.stepX st hX _ _ b⟩
  · by_cases h : x = y
    · subst h
      refine ⟨a, some c, ha, hc', fun u q => ?_⟩
      rw [kget_kput, if_pos rfl] at q; cases q
      exact ⟨c, rfl, RepV.stepX st hX _ _ rc⟩
    · obtain ⟨b, ov', e, hc, hv⟩ := F.fr.cell y hy
      refine ⟨b, ov', e, hc.sameBut hs' (fun q => h (F.fr.apart x y a ha (q ▸ e))), fun u q => ?_⟩
      rw [kget_kput, if_neg h] at q
      obtain ⟨d, a', b'⟩ := hv u q
      exact ⟨d, a', RepV.stepX st hX _ _ b'⟩
  · obtain ⟨h1, h2, h3, ov', hc⟩ := F.fr.offC y b e
    by_cases q : b = a
    · subst q; exact ⟨h1, h2, h3, _, hc'⟩
    · exact ⟨h1, h2, h3, ov', hc.sameBut hs' q⟩

theorem Step.own {h h' : Heap} (st : Step φ h φ' h') (F : Fr0 G sc env loc φ h) : StepX (Own env) φ h φ' h' := StepX.wide st (fun _ f => f.elim) fun _ o _ => (Own.ex F.fr o).2.1
theorem StepX.own {h h' : Heap} (st : StepX (fun a => a = env.locals) φ h φ' h') (F : Fr0 G sc env loc φ h) : StepX (Own env) φ h φ' h' :=
  StepX.wide st (fun a e => by subst e; exact .inl rfl) fun _ o _ => (Own.ex F.fr o).2.1

noncomputable def SimAssign (prog : Program) (w : World) (G : Glb) (n : Nat) : Prop := ∀ {A : Around} {φ : Phi} {H : AH} {s : Shared} {env : Env} {sc : Sc} {loc : Loc} {t : Expr} {v : AV} {c : Value} {loc' : Loc} {H' : AH},
  Room A n → Rel prog w G φ H s.heap → Fr0 G sc env loc φ s.heap → RepV s.heap φ v c → aassign n sc loc t v H = some (loc', H') →
  wpAny (model prog w) A (assign t env c) (fun _ s' => PostA prog w G env sc (Own env) φ s loc' H' s') NoE s
noncomputable def SimAssigns (prog : Program) (w : World) (G : Glb) (n : Nat) : Prop := ∀ {A : Around} {φ : Phi} {H : AH} {s : Shared} {env : Env} {sc : Sc} {loc : Loc} {ts : List Expr} {vs : List AV} {cs : List Value} {loc' : Loc} {H' : AH},
  Room A n → Rel prog w G φ H s.heap → Fr0 G sc env loc φ s.heap → RepVs s.heap φ vs cs → aassigns n sc loc ts vs H = some (loc', H') →
  (assignEach ts env).findIdx? (·.1) = none ∧ (assignEach ts env).length = ts.length ∧
  wpAny (model prog w) A (assignInOrder ((assignEach ts env).map (·.2)) cs) (fun _ s' => PostA prog w G env sc (Own env) φ s loc' H' s') NoE s

theorem assignEach_plain {t : Expr} {r : List Expr} (h : isStarred t = false) : assignEach (t :: r) env = (false, assign t env) :: assignEach r env := by
  cases t <;> first | rfl | cases h
theorem aassigns_plain : ∀ {n : Nat} {ts : List Expr} {vs : List AV} {loc : Loc} {H : AH} {r : Loc × AH}, aassigns n sc loc ts vs H = some r → (assignEach ts env).findIdx? (·.1) = none ∧ (assignEach ts env).length = ts.length
  | 0, ts, vs, loc, H, r, e => by unfold aassigns at e; cases e
  | n + 1, ts, vs, loc, H, r, e => by
    unfold aassigns at e
    split at e
    · exact ⟨rfl, rfl⟩
    · split at e
      · cases e
      rename_i hst
      refine obC e fun p hp e => ?_
      obtain ⟨a, b⟩ := aassigns_plain e
      rw [assignEach_plain (by simpa using hst)]
      refine ⟨?_, by simp [b]⟩
      rw [List.findIdx?_cons]; simp [a]
    · cases e

theorem sim_assigns (iha : SimAssign prog w G n) (ihs : SimAssigns prog w G n) : SimAssigns prog w G (n + 1) := by
  intro A φ H s env sc loc ts vs cs loc' H' r R F rs e
  obtain ⟨p1, p2⟩ := aassigns_plain (env := env) e
  refine ⟨p1, p2, ?_⟩
  unfold aassigns at e
  split at e
  · cases e
    simp only [RepVs] at rs; subst rs
    exact wpAny_pure ⟨s.heap, s.toks, φ, StepX.refl _ _ _, R, F⟩
  · split at e
    · cases e
    rename_i t ts v vs hst
    refine obC2 e fun loc₁ H₁ hp e => ?_
    simp only [RepVs] at rs
    obtain ⟨c, cs', rfl, rc, rs⟩ := rs
    rw [assignEach_plain (by simpa using hst)]
    show wpAny _ _ (do holding cs' (assign t env c); assignInOrder ((assignEach ts env).map (·.2)) cs') _ _ _
    refine wpAny_bind (wpAny_holding (usePostA (iha r.pred R F rc hp) fun _ h₁ tk₁ φ₁ st R₁ F₁ => ?_))
    refine wpAny_mono (ihs (s := (mkS s h₁ tk₁)) r.pred R₁ F₁ (RepVs.stepX st (fun a o => F.own a o) _ _ rs) e).2.2 (fun _ s₂ h₂ => ?_) fun _ _ q => q
    induction h₂ with | mk h₂ tk₂ φ₂ st₂ R₂ F₂
    exact ⟨h₂, tk₂, φ₂, st.trans st₂, R₂, F₂⟩
  · cases e

/-- a tuple's parts -/
theorem unpack_tup {l : List AV} {c : Value} {Q : List Value → Shared → Prop} (hh : A.handled = none) (R : Rel prog w G φ H s.heap) (rc : RepV s.heap φ (.tup l) c) {k : Nat} (hk : k = l.length)
    (h : ∀ cs h', (∀ b o, s.heap.get? b = some o → h'.get? b = some o) → RepVs h' φ l cs → cs.length = l.length → Q cs { s with heap := h' }) : wpAny (model prog w) A (unpackItems c k none) Q NoE s := by
  simp only [RepV] at rc
  obtain ⟨ad, vs, rfl, hT, hoff, rs⟩ := rc
  have hsz := rs.length
  have := wpAny_unpackItems_tuple (prog := prog) (w := w) (A := A) (E := NoE) (s := s) (t := ad) (items := vs.toArray) (Q := Q) hh hT (fun h' hx => by
    have kp : ∀ b o, s.heap.get? b = some o → h'.get? b = some o := fun b o e => hx b o (Nat.ne_of_lt (Heap.lt_size e)) e
    exact h vs h' kp (rs.step (Step.of_keeps kp)) hsz)
  rw [List.size_toArray, hsz] at this
  subst hk; exact this

theorem sim_assign (g : GOk G) (ih : SimEv prog w G n) (ihs : SimAssigns prog w G n) : SimAssign prog w G (n + 1) := by
  intro A φ H s env sc loc t v c loc' H' r R F rc e
  unfold aassign at e
  split at e
  · rename_i x p
    have hs := F.scr x
    cases hk : kget sc x with
    | none => rw [hk] at e; cases e
    | some k =>
      rw [hk] at e hs
      cases k <;> simp only [] at e hs <;> try cases e
      · refine wpAny_assign_Name (usePostA (store_local R F hs rc) fun _ h₁ tk₁ φ₁ st R₁ F₁ => ?_)
        exact ⟨h₁, tk₁, φ₁, StepX.own st F, R₁, F₁⟩
      · exact wpAny_assign_Name (store_cell R F hs rc)
  · rename_i o a p
    refine obC2 e fun u H₁ hq e => ?_
    refine omC e fun H₂ hH e => ?_
    cases e
    rw [assign_Attribute]
    refine wpAny_bind (wpAny_holding (usePost (ih r.pred R F hq) fun d h₁ tk₁ φ₁ st R₁ rd => ?_))
    refine wpAny_bind (wpAny_standAt (wpAny_bind (wpAny_holding (usePost (sim_setattr (s := (mkS s h₁ tk₁)) g R₁ hH rd (rc.step st _ _)) fun _ h₂ tk₂ φ₂ st₂ R₂ _ => ?_))))
    exact wpAny_release ⟨h₂, tk₂, φ₂, Step.own (st.trans st₂) F, R₂, (F.step st).step st₂⟩
  · rename_i o i p
    refine obC2 e fun u H₁ hq e => ?_
    refine obC2 e fun u' H₂' hq' e => ?_
    refine omC e fun H₂ hH e => ?_
    cases e
    rw [assign_Subscript]
    refine wpAny_bind (wpAny_holding (usePost (ih r.pred R F hq) fun d h₁ tk₁ φ₁ st R₁ rd => ?_))
    refine wpAny_bind (wpAny_holding (usePost (ih r.pred R₁ (F.step st) hq') fun d' h₂ tk₂ φ₂ st₂ R₂ rd' => ?_))
    refine wpAny_bind (wpAny_standAt (wpAny_bind (wpAny_holding (usePost (sim_setitem (s := (mkS s h₂ tk₂)) R₂ hH (rd.step st₂ _ _) rd' ((rc.step st _ _).step st₂ _ _)) fun _ h₃ tk₃ φ₃ st₃ R₃ _ => ?_))))
    exact wpAny_release ⟨h₃, tk₃, φ₃, Step.own ((st.trans st₂).trans st₃) F, R₃, ((F.step st).step st₂).step st₃⟩
  · rename_i ts k p
    split at e <;> try cases e
    rename_i vs
    split at e
    case isFalse => cases e
    rename_i hlen
    obtain ⟨p1, p2⟩ := aassigns_plain (env := env) e
    show wpAny _ _ (do standAt p; unpack c (assignEach ts env)) _ _ _
    refine wpAny_bind (wpAny_standAt ?_)
    unfold unpack
    rw [p1, p2]
    refine wpAny_bind (wpAny_holding (unpack_tup r.hh R rc hlen fun cs h' kp rs _ => ?_))
    have st0 : Step φ s.heap φ h' := Step.of_keeps kp
    refine wpAny_mono (ihs (s := { s with heap := h' }) r.pred (R.keeps kp) (F.step st0) rs e).2.2 (fun _ s₂ h₂ => ?_) fun _ _ q => q
    induction h₂ with | mk h₂ tk₂ φ₂ st₂ R₂ F₂
    exact ⟨h₂, tk₂, φ₂, (Step.own st0 F).trans st₂, R₂, F₂⟩
  · cases e
end
end Mine

namespace Mine
open PySem PySem.W PyProof.Rows PySem.SeqAt PySem.Calls

section
variable {prog : Program} {w : World} {G : Glb} {φ φ' : Phi} {H : AH} {s : Shared} {A : Around} {env : Env} {sc : Sc} {loc : Loc} {n : Nat}

/-- a comprehension whose list goes straight into a local -/
noncomputable def SimUse (prog : Program) (w : World) (G : Glb) (n : Nat) : Prop := ∀ {A : Around} {φ : Phi} {H : AH} {s : Shared} {env : Env} {sc : Sc} {loc : Loc} {elt : Expr} {gens : List Comprehension} {scope : Scope} {pos : Pos} {x : Str} {xp : Pos} {v : AV} {H' : AH},
  Room A n → Rel prog w G φ H s.heap → Fr0 G sc env loc φ s.heap → env.kindOf x = some .local → aev n sc loc (.ListComp elt gens scope pos) H = some (v, H') →
  wpAny (model prog w) A (evalThenUse (.ListComp elt gens scope pos) env (assign (.Name x xp) env)) (fun _ s' => PostA prog w G env sc (Own env) φ s (kput loc x v) H' s') NoE s

theorem local_kind (F : Fr0 G sc env loc φ s.heap) {x : Str} (h : isLocal sc x = true) : env.kindOf x = some .local ∧ kget sc x = some .local := by
  unfold isLocal at h
  have hs := F.scr x
  cases hk : kget sc x with
  | none => rw [hk] at h; cases h
  | some k => rw [hk] at h hs; cases k <;> first | exact ⟨hs, rfl⟩ | cases h

theorem itl2 {α : Type} {c : Prop} [d : Decidable c] {x y : α} (hx : x = x) (h : y = x) : @ite α c d x y = x := by
  cases d with
  | isTrue p => rfl
  | isFalse p => exact h
theorem fuelAs {ts : List Expr} {vs : List AV} {r : Loc × AH} {C : Prop} (e : aassigns n sc loc ts vs H = some r) (k : ∀ m, aassigns (m + 1) sc loc ts vs H = some r → C) : C := by
  cases n with
  | zero => exact nos e
  | succ n => exact k n e
theorem fuelA {t : Expr} {v : AV} {r : Loc × AH} {C : Prop} (e : aassign n sc loc t v H = some r) (k : ∀ m, aassign (m + 1) sc loc t v H = some r → C) : C := by
  cases n with
  | zero => exact nos e
  | succ n => exact k n e
/-- names that are stored in a row -/
theorem aassigns_names {H H' : AH} : ∀ {ts : List Expr} {vs : List AV} {n : Nat} {loc loc' : Loc}, (∀ t ∈ ts, localName sc t = true) → aassigns n sc loc ts vs H = some (loc', H') →
    ts.length = vs.length ∧ H' = H ∧ loc' = ((ts.map nameStr).zip vs).foldl (fun l p => kput l p.1 p.2) loc
  | [], vs, n, loc, loc', _, e => by
    refine fuelAs e fun n e => ?_
    cases vs with
    | nil => cases e; exact ⟨rfl, rfl, rfl⟩
    | cons _ _ => exact nos e
  | t :: ts, vs, n, loc, loc', h, e => by
    refine fuelAs e fun n e => ?_
    cases vs with
    | nil => exact nos e
    | cons v vs =>
      obtain ⟨x, p, rfl, hx⟩ := localName_inv (h t (.head _))
      have e : ((aassign n sc loc (.Name x p) v H).bind fun p => aassigns n sc p.1 ts vs p.2) = some (loc', H') := e
      refine obC2 e fun l2 H2 hq e => ?_
      refine fuelA hq fun n' hq => ?_
      have hq : (match kget sc x with | some .local => some (kput loc x v, H) | some .cell => some (kput loc x v, H) | _ => none) = some (l2, H2) := hq
      unfold isLocal at hx
      cases hk : kget sc x with
      | none => rw [hk] at hx; cases hx
      | some k =>
        rw [hk] at hx hq
        cases k <;> first | exact nof hx | skip
        cases hq
        obtain ⟨a, b, c⟩ := aassigns_names (fun t m => h t (.tail _ m)) e
        exact ⟨congrArg Nat.succ a, b, c⟩
/-- the store of a tuple, read backwards -/
theorem aassign_tup {ts : List Expr} {k : Nat} {p : Pos} {av : AV} {H' : AH} {loc' : Loc} {C : Prop} (e : aassign n sc loc (.Tuple ts k p) av H = some (loc', H')) (kk : ∀ vs m, av = .tup vs → aassigns m sc loc ts vs H = some (loc', H') → C) : C := by
  refine fuelA e fun m e => ?_
  induction av using Mine.AV.casesOn with
  | tup vs => exact kk vs m rfl (itr e).2
  | _ => exact nos e
theorem aassign_name {x : Str} {p : Pos} {av : AV} {H' : AH} {loc' : Loc} (e : aassign n sc loc (.Name x p) av H = some (loc', H')) : loc' = kput loc x av ∧ H' = H := by
  refine fuelA e fun m e => ?_
  have e : (match kget sc x with | some .local => some (kput loc x av, H) | some .cell => some (kput loc x av, H) | _ => none) = some (loc', H') := e
  generalize kget sc x = ok at e
  cases ok with
  | none => exact nos e
  | some k => cases k <;> first | (cases e; exact ⟨rfl, rfl⟩) | exact nos e
theorem aassign_star {t : Expr} {av : AV} {r : Loc × AH} (e : aassign n sc loc t av H = some r) : isStarred t = false := by
  refine fuelA e fun m e => ?_
  induction t using PySem.Expr.casesOn with
  | Starred _ _ => exact nos e
  | _ => rfl

theorem filterMap_lt {α β : Type} {f : α → Option β} : ∀ {l : List α}, (∃ x ∈ l, f x = none) → (l.filterMap f).length < l.length
  | [], h => by obtain ⟨x, hx, _⟩ := h; cases hx
  | a :: l, h => by
    rw [List.filterMap_cons]
    have le : (l.filterMap f).length ≤ l.length := List.length_filterMap_le _ _
    cases q : f a with
    | none => exact Nat.lt_succ_of_le le
    | some b =>
      obtain ⟨x, hx, e⟩ := h
      rcases List.mem_cons.mp hx with rfl | hx
      · rw [q] at e; cases e
      · exact Nat.succ_lt_succ (filterMap_lt ⟨x, hx, e⟩)
theorem filterMap_all {α β : Type} {f : α → Option β} {g : α → β} : ∀ {l : List α}, (∀ x ∈ l, f x = some (g x)) → l.filterMap f = l.map g
  | [], _ => rfl
  | a :: l, h => by rw [List.filterMap_cons, h a (.head _), List.map_cons, filterMap_all fun x m => h x (.tail _ m)]
theorem eraseDups_nodup : ∀ {l : List Str}, l.Nodup → l.eraseDups = l
  | [], _ => rfl
  | a :: l, h => by
    have h := List.nodup_cons.mp h
    rw [List.eraseDups_cons, List.filter_eq_self.mpr fun b m => ?_, eraseDups_nodup h.2]
    have : (b == a) = false := beq_eq_false_iff_ne.mpr fun e => h.1 (e ▸ m)
    rw [this]; rfl

theorem swapped_none {t v : Expr} (h : noSwap t v = true) : swappedStores [t] v env = pure none := by
  induction t using PySem.Expr.casesOn with
  | Tuple ts k p =>
    induction v using PySem.Expr.casesOn with
    | Tuple vs k' p' =>
      obtain ⟨x, hx, hn⟩ := List.any_eq_true.mp (show ts.any (!isName ·) = true from h)
      refine itl2 rfl (itl2 rfl ?_)
      refine if_pos ?_
      rw [Bool.or_eq_true]
      refine .inl ?_
      rw [bne_iff_ne]
      refine Nat.ne_of_lt (filterMap_lt ⟨x, hx, ?_⟩)
      induction x using PySem.Expr.casesOn with
      | Name _ _ => exact nof hn
      | _ => rfl
    | _ => rfl
  | List ts p => exact nof h
  | _ => rfl

theorem swaps_other {t v : Expr} {l : Nat} (h : isName t = false) : swapsWith v (some t) l env = pure false := by
  induction v using PySem.Expr.casesOn with
  | ListComp _ _ _ _ =>
    induction t using PySem.Expr.casesOn with
    | Name x p => exact nof h.symm
    | _ => rfl
  | SetComp _ _ _ _ =>
    induction t using PySem.Expr.casesOn with
    | Name x p => exact nof h.symm
    | _ => rfl
  | DictComp _ _ _ _ _ =>
    induction t using PySem.Expr.casesOn with
    | Name x p => exact nof h.symm
    | _ => rfl
  | _ => rfl
theorem swaps_name {x : Str} {p : Pos} {v : Expr} {l : Nat} : (∃ elt gens scope pos, v = .ListComp elt gens scope pos) ∨ (∃ elt gens scope pos, v = .SetComp elt gens scope pos) ∨ (∃ k elt gens scope pos, v = .DictComp k elt gens scope pos) ∨ swapsWith v (some (.Name x p)) l env = pure false := by
  induction v using PySem.Expr.casesOn with
  | ListComp a b c d => exact .inl ⟨a, b, c, d, rfl⟩
  | SetComp a b c d => exact .inr (.inl ⟨a, b, c, d, rfl⟩)
  | DictComp k a b c d => exact .inr (.inr (.inl ⟨k, a, b, c, d, rfl⟩))
  | _ => exact .inr (.inr (.inr rfl))

theorem block_fn {h : Heap} (F : Fr0 G sc env loc φ h) : env.blockKind = .function := by
  unfold Env.blockKind; rw [F.fr.kind]; rfl
theorem swapped_some {ts vs : List Expr} {tk vk : Nat} {tp vp : Pos} (F : Fr0 G sc env loc φ s.heap) (h : okSwap sc ts vs = true) : swappedStores [.Tuple ts tk tp] (.Tuple vs vk vp) env = pure (some (ts.map nameStr)) := by
  unfold okSwap at h
  obtain ⟨h, h7⟩ := Bool.and_eq_true_iff.mp h
  obtain ⟨h, h6⟩ := Bool.and_eq_true_iff.mp h
  obtain ⟨h, h5⟩ := Bool.and_eq_true_iff.mp h
  obtain ⟨h, h4⟩ := Bool.and_eq_true_iff.mp h
  obtain ⟨h, h3⟩ := Bool.and_eq_true_iff.mp h
  obtain ⟨h1, h2⟩ := Bool.and_eq_true_iff.mp h
  have h6 := (Bool.not_eq_true' _).mp h6
  have h7 := (Bool.not_eq_true' _).mp h7
  have h3 := (Bool.not_eq_true' _).mp h3
  unfold swappedStores
  dsimp only
  refine (if_neg ?_).trans ((if_neg ?_).trans ?_)
  · rw [h1, block_fn F, eq_of_beq h2]; simp
  · show ¬ (vs.any isStarred = true)
    rw [h3]; exact Bool.false_ne_true
  generalize hN : List.filterMap (α := Expr) (β := Str) _ ts = names
  have hN' : names = ts.map nameStr := by
    rw [← hN]
    refine filterMap_all fun t m => ?_
    have q := Bool.and_eq_true_iff.mp (List.all_eq_true.mp h4 t m)
    obtain ⟨x, p, rfl, hx⟩ := localName_inv q.1
    refine if_pos (Bool.and_eq_true_iff.mpr ⟨?_, q.2⟩)
    rw [(local_kind F hx).1]; exact beq_self_eq_true _
  subst hN'
  rw [eraseDups_nodup (of_decide_eq_true h5), h6, h7]
  simp
theorem swap_inv {t v : Expr} {C : Prop} (h : swap2 sc t v = true) (k : ∀ ts tk tp vs vk vp, t = .Tuple ts tk tp → v = .Tuple vs vk vp → okSwap sc ts vs = true → C) : C := by
  induction t using PySem.Expr.casesOn with
  | Tuple ts tk tp =>
    induction v using PySem.Expr.casesOn with
    | Tuple vs vk vp => exact k ts tk tp vs vk vp rfl rfl h
    | _ => exact nof h
  | _ => exact nof h
theorem fold_in : ∀ {ps : List (Str × AV)} {l : Loc}, (ps.map (·.1)).Nodup → (∀ z v, (z, v) ∈ ps → kget (ps.foldl (fun l p => kput l p.1 p.2) l) z = some v) ∧ (∀ z, z ∉ ps.map (·.1) → kget (ps.foldl (fun l p => kput l p.1 p.2) l) z = kget l z)
  | [], l, _ => ⟨fun z v m => (nomatch m), fun z _ => rfl⟩
  | (x, u) :: ps, l, h => by
    have h := List.nodup_cons.mp h
    obtain ⟨a, b⟩ := fold_in (ps := ps) (l := kput l x u) h.2
    refine ⟨fun z v m => ?_, fun z m => ?_⟩
    · rcases List.mem_cons.mp m with e | m
      · cases e
        exact (b x h.1).trans (by rw [kget_kput, if_pos rfl])
      · exact a z v m
    · refine (b z fun q => m (.tail _ q)).trans ?_
      rw [kget_kput, if_neg fun e : x = z => m (e ▸ .head _)]
/-- forwards or backwards: it is the same -/
theorem fold_back {ps : List (Str × AV)} {l : Loc} (h : (ps.map (·.1)).Nodup) (z : Str) : kget (ps.foldl (fun l p => kput l p.1 p.2) l) z = kget (ps.reverse.foldl (fun l p => kput l p.1 p.2) l) z := by
  have h' : (ps.reverse.map (·.1)).Nodup := by rw [List.map_reverse]; exact List.pairwise_reverse.mpr (List.Pairwise.imp Ne.symm h)
  have f := fold_in (l := l) h
  have g := fold_in (l := l) h'
  by_cases m : z ∈ ps.map (·.1)
  · obtain ⟨⟨x, v⟩, mm, rfl⟩ := List.mem_map.mp m
    rw [f.1 x v mm, g.1 x v (List.mem_reverse.mpr mm)]
  · rw [f.2 z m, g.2 z fun q => m (by rw [List.map_reverse] at q; exact List.mem_reverse.mp q)]
theorem zip_back {names : List Str} {vs : List AV} (h : names.length = vs.length) : names.reverse.zip vs.reverse = (names.zip vs).reverse := by
  induction names generalizing vs with
  | nil => cases vs with | nil => rfl | cons _ _ => cases h
  | cons x names ih =>
    cases vs with
    | nil => cases h
    | cons v vs =>
      have h : names.length = vs.length := Nat.succ.inj h
      rw [List.reverse_cons, List.reverse_cons, List.zip_append (by rw [List.length_reverse, List.length_reverse]; exact h), ih h, List.zip_cons_cons]
      exact (List.reverse_cons (a := (x, v))).symm
/-- the store of one target, nothing swapped -/
theorem ex_store (ih : SimEv prog w G n) (iha : SimAssign prog w G n) {t v : Expr} {pos : Pos} {av : AV} {H₁ : AH} {loc' : Loc} {H' : AH} (r : Room A (n + 1)) (R : Rel prog w G φ H s.heap) (F : Fr0 G sc env loc φ s.heap)
    (hst : isStarred t = false) (hs : swapsWith v (some t) pos.line env = pure false) (hw : swappedStores [t] v env = pure none) (hv : aev n sc loc v H = some (av, H₁)) (ha : aassign n sc loc t av H₁ = some (loc', H')) :
    wpAny (model prog w) A (exec (.Assign [t] v pos) env) (PostX prog w G env sc φ s .next loc' H') NoE s := by
  refine wpAny_Assign_stores (usePost (ih r.pred R F hv) fun c h₁ tk₁ φ₁ st R₁ rc => ?_) hs hw
  rw [assignEach_plain hst]
  show wpAny _ _ (assign t env c) _ _ _
  refine usePostA (iha (s := (mkS s h₁ tk₁)) r.pred R₁ (F.step st) rc ha) fun _ h₂ tk₂ φ₂ st₂ R₂ F₂ => ?_
  exact ⟨h₂, tk₂, φ₂, (Step.own st F).trans st₂, R₂, F₂, rfl⟩

theorem bind_local {x : Str} {v : AV} {c : Value} (R : Rel prog w G φ H s.heap) (F : Fr0 G sc env loc φ s.heap) (hk : env.kindOf x = some .local) (rc : RepV s.heap φ v c) :
    wpAny (model prog w) A (bindName env x c) (fun _ s' => PostA prog w G env sc (Own env) φ s (kput loc x v) H s') NoE s :=
  wpAny_bindName (wpAny_mono (store_local R F hk rc) (fun _ s₁ h₁ => by
    induction h₁ with | mk h₁ tk₁ φ₁ st R₁ F₁
    exact ⟨h₁, tk₁, φ₁, StepX.own st F, R₁, F₁⟩) fun _ _ q => q)

/-- names stored backwards -/
theorem assign_back : ∀ {names : List Str} {vs : List AV} {cs : List Value} {φ : Phi} {H : AH} {s : Shared} {loc : Loc}, Rel prog w G φ H s.heap → Fr0 G sc env loc φ s.heap → (∀ x ∈ names, env.kindOf x = some .local) → RepVs s.heap φ vs cs → names.length = vs.length →
    wpAny (model prog w) A (assignInOrder (names.map fun x => bindName env x) cs) (fun _ s' => PostA prog w G env sc (Own env) φ s ((names.zip vs).foldl (fun l p => kput l p.1 p.2) loc) H s') NoE s
  | [], vs, cs, φ, H, s, loc, R, F, hk, rs, hl => by
    induction vs using List.casesOn with
    | nil => simp only [RepVs] at rs; subst rs; exact wpAny_pure ⟨s.heap, s.toks, φ, StepX.refl _ _ _, R, F⟩
    | cons _ _ => cases hl
  | x :: names, vs, cs, φ, H, s, loc, R, F, hk, rs, hl => by
    induction vs using List.casesOn with
    | nil => cases hl
    | cons v vs =>
      simp only [RepVs] at rs
      obtain ⟨c, cs', rfl, rc, rs⟩ := rs
      show wpAny _ _ (do holding cs' (bindName env x c); assignInOrder (names.map fun x => bindName env x) cs') _ _ _
      refine wpAny_bind (wpAny_holding (usePostA (bind_local R F (hk x (.head _)) rc) fun _ h₁ tk₁ φ₁ st R₁ F₁ => ?_))
      refine usePostA (assign_back (s := (mkS s h₁ tk₁)) R₁ F₁ (fun y hy => hk y (.tail _ hy)) (RepVs.stepX st (fun a o => F.own a o) _ _ rs) (by simpa using hl)) fun _ h₂ tk₂ φ₂ st₂ R₂ F₂ => ?_
      exact ⟨h₂, tk₂, φ₂, st.trans st₂, R₂, F₂⟩

theorem RepVs.reverse {h : Heap} : ∀ {l : List AV} {vs : List Value}, RepVs h φ l vs → RepVs h φ l.reverse vs.reverse
  | [], vs, r => by simp only [RepVs] at r; subst r; exact .nil
  | a :: l, vs, r => by
    simp only [RepVs] at r
    obtain ⟨v, r', rfl, h1, h2⟩ := r
    rw [List.reverse_cons, List.reverse_cons]
    exact h2.reverse.append (.cons h1 .nil)

/-- a swapped store of names -/
theorem ex_swap (ih : SimEv prog w G n) {t v : Expr} {pos : Pos} {names : List Str} {vs : List AV} {H₁ : AH} (r : Room A (n + 1)) (R : Rel prog w G φ H s.heap) (F : Fr0 G sc env loc φ s.heap)
    (hs : swapsWith v (some t) pos.line env = pure false) (hw : swappedStores [t] v env = pure (some names)) (hk : ∀ x ∈ names, env.kindOf x = some .local) (hl : names.length = vs.length) (hv : aev n sc loc v H = some (.tup vs, H₁)) :
    wpAny (model prog w) A (exec (.Assign [t] v pos) env) (PostX prog w G env sc φ s .next ((names.reverse.zip vs.reverse).foldl (fun l p => kput l p.1 p.2) loc) H₁) NoE s := by
  rw [exec_Assign_arm]
  refine wpAny_bind (wpAny_standAt ?_)
  show wpAny _ _ (swapsWith v (some t) pos.line env >>= _) _ _ _
  rw [hs]
  refine wpAny_bind (wpAny_pure ?_)
  rw [if_neg (by decide)]
  refine wpAny_bind (usePost (ih r.pred R F hv) fun c h₁ tk₁ φ₁ st R₁ rc => ?_)
  rw [hw]
  refine wpAny_bind (wpAny_pure ?_)
  unfold assignStores
  refine wpAny_bind (wpAny_rule (wpAny_bind (unpack_tup (s := (mkS s h₁ tk₁)) r.hh R₁ rc hl fun cs h' kp rs hcs => ?_)))
  have st0 : Step φ₁ h₁ φ₁ h' := Step.of_keeps kp
  have := assign_back (prog := prog) (w := w) (A := A) (names := names.reverse) (vs := vs.reverse) (cs := cs.reverse) (s := (mkS s h' tk₁)) (R₁.keeps kp) ((F.step st).step st0) (fun x hx => hk x (List.mem_reverse.mp hx)) rs.reverse (by simp [hl])
  refine wpAny_bind (wpAny_mono this (fun _ s₂ h₂ => wpAny_pure ?_) fun _ _ q => q)
  induction h₂ with | mk h₂ tk₂ φ₂ st₂ R₂ F₂
  exact ⟨h₂, tk₂, φ₂, (Step.own (st.trans st0) F).trans st₂, R₂, F₂, rfl⟩

theorem ex_assign (ih : SimEv prog w G n) (iha : SimAssign prog w G n) (ihu : SimUse prog w G n) {t v : Expr} {pos : Pos} {fl : AFlow} {loc' : Loc} {H' : AH} (r : Room A (n + 1)) (R : Rel prog w G φ H s.heap) (F : Fr0 G sc env loc φ s.heap)
    (e : (if swap2 sc t v || noSwap t v then (aev n sc loc v H).bind fun p => (aassign n sc loc t p.1 p.2).map fun q => (AFlow.next, q.1, q.2) else none) = some (fl, loc', H')) :
    wpAny (model prog w) A (exec (.Assign [t] v pos) env) (PostX prog w G env sc φ s fl loc' H') NoE s := by
  obtain ⟨hsw, e⟩ := itr e
  refine obC2 e fun av H₁ hp e => ?_
  refine omC2 e fun loc2 H2 hq e => ?_
  have hq : aassign n sc loc t av H₁ = some (loc2, H2) := hq
  refine eqX e ?_
  have hX := fun hs hw => ex_store (v := v) ih iha (pos := pos) r R F (aassign_star hq) hs hw hp hq
  rcases Bool.or_eq_true_iff.mp hsw with hsw | hno
  · refine swap_inv hsw fun ts tk tp vs vk vp et ev hok => ?_
    rw [et] at hq ⊢
    rw [ev] at hp ⊢
    refine aassign_tup hq fun us m eu hq => ?_
    rw [eu] at hp
    have hl : ∀ t ∈ ts, localName sc t = true := fun t m => by
      unfold okSwap at hok
      exact (Bool.and_eq_true_iff.mp (List.all_eq_true.mp (Bool.and_eq_true_iff.mp (Bool.and_eq_true_iff.mp (Bool.and_eq_true_iff.mp (Bool.and_eq_true_iff.mp hok).1).1).1).2 t m)).1
    have hnd : (ts.map nameStr).Nodup := by
      unfold okSwap at hok
      exact of_decide_eq_true (Bool.and_eq_true_iff.mp (Bool.and_eq_true_iff.mp (Bool.and_eq_true_iff.mp hok).1).1).2
    have hn := aassigns_names hl hq
    have hlen : (ts.map nameStr).length = us.length := by rw [List.length_map]; exact hn.1
    rw [hn.2.1, hn.2.2]
    refine usePostX (ex_swap ih r R F (swaps_other rfl) (swapped_some F hok) (fun x hx => ?_) hlen hp) fun f h₁ tk₁ φ₁ st R₁ F₁ hfl => ?_
    · obtain ⟨t, m, rfl⟩ := List.mem_map.mp hx
      obtain ⟨x, p, rfl, hx'⟩ := localName_inv (hl t m)
      exact (local_kind F hx').1
    · refine ⟨h₁, tk₁, φ₁, st, R₁, F₁.congr fun z => ?_, hfl⟩
      rw [zip_back hlen]
      exact fold_back (by rw [List.map_fst_zip (Nat.le_of_eq hlen)]; exact hnd) z
  · have hw := swapped_none (env := env) hno
    cases hn : isName t with
    | false => exact hX (swaps_other hn) hw
    | true =>
      obtain ⟨x, xp, rfl⟩ := name_inv hn
      rcases swaps_name (env := env) (x := x) (p := xp) (v := v) (l := pos.line) with ⟨elt, gens, scope, cpos, rfl⟩ | ⟨elt, gens, scope, cpos, rfl⟩ | ⟨k, elt, gens, scope, cpos, rfl⟩ | hs
      · -- a comprehension: swapped or not
        have hb : ∃ b, swapsWith (.ListComp elt gens scope cpos) (some (.Name x xp)) pos.line env = pure b ∧ (b = true → env.kindOf x = some .local) :=
          ⟨_, rfl, fun h => eq_of_beq (Bool.and_eq_true_iff.mp (Bool.and_eq_true_iff.mp (Bool.and_eq_true_iff.mp h).1).1).2⟩
        obtain ⟨b, hb, hk⟩ := hb
        cases b with
        | false => exact hX hb hw
        | true =>
          rw [exec_Assign_Name_used _ _ _ _ hb, (aassign_name hq).1, (aassign_name hq).2]
          refine wpAny_bind (wpAny_standAt (wpAny_bind (usePostA (ihu r.pred R F (hk rfl) hp) fun _ h₁ tk₁ φ₁ st R₁ F₁ => wpAny_pure ?_)))
          exact ⟨h₁, tk₁, φ₁, st, R₁, F₁, rfl⟩
      · cases n <;> exact nos hp
      · cases n <;> exact nos hp
      · exact hX hs hw
end
end Mine

namespace Mine
open PySem PySem.W PyProof.Rows PySem.SeqAt PySem.Calls

mutual
theorem eqb_eq : ∀ {a b : AV}, AV.eqb a b = true → a = b
  | .none, b, h => by cases b <;> first | rfl | cases h
  | .bool x, b, h => by cases b <;> first | exact nof h | exact congrArg AV.bool (eq_of_beq h)
  | .int x, b, h => by cases b <;> first | exact nof h | exact congrArg AV.int (eq_of_beq h)
  | .str x, b, h => by cases b <;> first | exact nof h | exact congrArg AV.str (eq_of_beq h)
  | .tup x, b, h => by cases b <;> first | exact nof h | exact congrArg AV.tup (eqbs_eq h)
  | .lst x, b, h => by cases b <;> first | exact nof h | exact congrArg AV.lst (eqbs_eq h)
  | .rng x, b, h => by cases b <;> first | exact nof h | exact congrArg AV.rng (eq_of_beq h)
  | .view x, b, h => by cases b <;> first | exact nof h | exact congrArg AV.view (eq_of_beq h)
  | .ref x, b, h => by cases b <;> first | exact nof h | exact congrArg AV.ref (eq_of_beq h)
theorem eqbs_eq : ∀ {a b : List AV}, AV.eqbs a b = true → a = b
  | [], b, h => by cases b <;> first | rfl | cases h
  | x :: l, b, h => by
    induction b using List.casesOn with
    | nil => cases h
    | cons y r =>
      have h := Bool.and_eq_true_iff.mp (show (AV.eqb x y && AV.eqbs l r) = true from h)
      rw [eqb_eq h.1, eqbs_eq h.2]
end

section
variable {h h' : Heap} {φ : Phi} {ex : List Addr}
mutual
theorem RepV.lose (x : ∀ a ∈ ex, a ∈ φ.ex) (k : ∀ b o, (b ∉ φ.ex ∨ b ∈ ex) → h.get? b = some o → h'.get? b = some o) : ∀ (v : AV) (c : Value), RepV h φ v c → RepV h' ⟨φ.objs, ex⟩ v c
  | .none, c, r => by simpa only [RepV] using r
  | .bool b, c, r => by simpa only [RepV] using r
  | .int i, c, r => by simpa only [RepV] using r
  | .str s, c, r => by simpa only [RepV] using r
  | .tup l, c, r => by
    simp only [RepV] at r ⊢
    obtain ⟨a, vs, e, ht, nf, rs⟩ := r
    exact ⟨a, vs, e, ht.at fun o q => k a o (.inl nf.2) q, ⟨nf.1, fun m => nf.2 (x a m)⟩, RepVs.lose x k l vs rs⟩
  | .lst l, c, r => by
    simp only [RepV] at r ⊢
    obtain ⟨a, vs, e, ht, nf, rs⟩ := r
    exact ⟨a, vs, e, ht.at fun o q => k a o (.inl nf.2) q, ⟨nf.1, fun m => nf.2 (x a m)⟩, RepVs.lose x k l vs rs⟩
  | .rng n, c, r => by
    simp only [RepV] at r ⊢
    obtain ⟨a, t, u, w, e, hr, nf, hn⟩ := r
    exact ⟨a, t, u, w, e, k a _ (.inl nf.2) hr, ⟨nf.1, fun m => nf.2 (x a m)⟩, hn⟩
  | .view j, c, r => by
    simp only [RepV] at r ⊢
    obtain ⟨a, p, e, hp, ⟨o, q, z⟩, nf⟩ := r
    exact ⟨a, p, e, hp, ⟨o, k a o (.inl nf.2) q, z⟩, ⟨nf.1, fun m => nf.2 (x a m)⟩⟩
  | .ref j, c, r => by
    simp only [RepV] at r ⊢
    exact r
theorem RepVs.lose (x : ∀ a ∈ ex, a ∈ φ.ex) (k : ∀ b o, (b ∉ φ.ex ∨ b ∈ ex) → h.get? b = some o → h'.get? b = some o) : ∀ (l : List AV) (vs : List Value), RepVs h φ l vs → RepVs h' ⟨φ.objs, ex⟩ l vs
  | [], vs, r => by simpa only [RepVs] using r
  | a :: l, vs, r => by
    simp only [RepVs] at r ⊢
    obtain ⟨v, r', e, h1, h2⟩ := r
    exact ⟨v, r', e, RepV.lose x k a v h1, RepVs.lose x k l r' h2⟩
end
theorem RepKV.lose {K : Type} (x : ∀ a ∈ ex, a ∈ φ.ex) (k : ∀ b o, (b ∉ φ.ex ∨ b ∈ ex) → h.get? b = some o → h'.get? b = some o) : ∀ (l : List (K × AV)) (r : List (K × Value)), RepKV h φ l r → RepKV h' ⟨φ.objs, ex⟩ l r
  | [], _, e => e
  | (_, v) :: l, _, ⟨c, r', e, h1, h2⟩ => ⟨c, r', e, RepV.lose x k v c h1, RepKV.lose x k l r' h2⟩
theorem RepO.lose {prog : Program} {w : World} {G : Glb} {o : AObj} {p : Addr × Addr} (x : ∀ a ∈ ex, a ∈ φ.ex) (k : ∀ b o, (b ∉ φ.ex ∨ b ∈ ex) → h.get? b = some o → h'.get? b = some o) (n1 : p.1 ∉ φ.ex) (n2 : p.2 ∉ φ.ex)
    (r : RepO prog w G h φ o p) : RepO prog w G h' ⟨φ.objs, ex⟩ o p := by
  have k1 : ∀ o, h.get? p.1 = some o → h'.get? p.1 = some o := fun o => k _ o (.inl n1)
  have k2 : ∀ o, h.get? p.2 = some o → h'.get? p.2 = some o := fun o => k _ o (.inl n2)
  induction o using Mine.AObj.casesOn with
  | list l => obtain ⟨e, vs, hl, hr⟩ := r; exact ⟨e, vs, hl.at k1, RepVs.lose x k _ _ hr⟩
  | dictE => exact ⟨r.1, k1 _ r.2⟩
  | dictI es => obtain ⟨e, kvs, ⟨o, es', ep, ho, z⟩, hr⟩ := r; exact ⟨e, kvs, ⟨o, es', ep, k1 _ ho, z⟩, RepKV.lose x k _ _ hr⟩
  | dictS es => obtain ⟨e, kvs, ⟨o, es', ep, ho, z⟩, hr⟩ := r; exact ⟨e, kvs, ⟨o, es', ep, k1 _ ho, z⟩, RepKV.lose x k _ _ hr⟩
  | inst c fs =>
    obtain ⟨hc, e, h1, es, ep, h2, hs, hz, hf⟩ := r
    refine ⟨hc, e, k1 _ h1, es, ep, k2 _ h2, hs, hz, fun y => ?_⟩
    have := hf y
    split at this
    · obtain ⟨cv, a, b⟩ := this; exact ⟨cv, a, RepV.lose x k _ _ b⟩
    · exact this
end

section
variable {prog : Program} {w : World} {G : Glb} {φ φ' : Phi} {H : AH} {s : Shared} {A : Around} {env : Env} {sc : Sc} {loc : Loc} {n : Nat}

theorem guard_items {H₀ : AH} {v : AV} {its : List AV} (e : aitems H₀ v = some its) (h : aguard v its H = true) (hv : isView v = false) : aitems H v = some its := by
  unfold aguard at h
  cases q : aitems H v with
  | none => rw [q] at h; cases h
  | some l =>
    rw [q] at h
    cases v <;> simp only [] at h <;> try cases hv
    all_goals first
      | (rw [eqbs_eq h]; done)
      | (simp only [aitems] at e q; cases e; cases q; rfl)
      | (simp only [aitems] at e; cases e)

/-- what a walk holds, after i items -/
noncomputable def ItSt (h : Heap) (v : AV) (src : Value) (I : Addr) (i : Nat) : Prop := match v with
  | .tup _ => ∃ ax, src = .ref ax ∧ h.IsTupleIter I ax i
  | .rng n => IsRangeIter h I (0 + (i : Nat) * 1) ((n : Int) - (i : Nat)) 1
  | _ => ∃ ax, src = .ref ax ∧ h.IsListIter I ax i
theorem ItSt.at {h h' : Heap} {v : AV} {src : Value} {I : Addr} {i : Nat} (x : ItSt h v src I i) (k : ∀ o, h.get? I = some o → h'.get? I = some o) : ItSt h' v src I i := by
  unfold ItSt at x ⊢
  cases v <;> simp only [] at x ⊢
  case tup => obtain ⟨ax, e, o, ho, z⟩ := x; exact ⟨ax, e, o, k _ ho, z⟩
  case rng => exact k _ x
  all_goals (obtain ⟨ax, e, hx⟩ := x; exact ⟨ax, e, hx.at k⟩)
theorem ItSt.live {h : Heap} {v : AV} {src : Value} {I : Addr} {i : Nat} (x : ItSt h v src I i) : ∃ o, h.get? I = some o := by
  unfold ItSt at x
  cases v <;> simp only [] at x
  case tup => obtain ⟨ax, e, o, ho, z⟩ := x; exact ⟨o, ho⟩
  case rng => exact ⟨_, x⟩
  all_goals (obtain ⟨ax, e, o, ho, z⟩ := x; exact ⟨o, ho⟩)

/-- a list's items where they lie -/
theorem list_at {v : AV} {its : List AV} {c : Value} (R : Rel prog w G φ H s.heap) (e : aitems H v = some its) (rc : RepV s.heap φ v c) (hv : (∃ l, v = .lst l) ∨ ∃ k, v = .ref k) :
    ∃ ad vs, c = .ref ad ∧ s.heap.IsList ad vs.toArray ∧ RepVs s.heap φ its vs ∧ (∀ I ∈ φ.ex, ad ≠ I) := by
  rcases hv with ⟨l, rfl⟩ | ⟨k, rfl⟩
  · simp only [aitems] at e; cases e
    simp only [RepV] at rc
    obtain ⟨ad, vs, rfl, hL, hoff, rs⟩ := rc
    exact ⟨ad, vs, rfl, hL, rs, fun I m q => hoff.2 (q ▸ m)⟩
  · simp only [RepV] at rc
    obtain ⟨p, hp, rfl⟩ := rc
    simp only [aitems] at e
    cases hk : H[k]? with
    | none => rw [hk] at e; cases e
    | some ob =>
      rw [hk] at e
      obtain ⟨p', hp', ro⟩ := R.obj k _ hk
      rw [hp] at hp'; cases hp'
      cases ob <;> simp only [] at e <;> try cases e
      obtain ⟨_, vs, hL, rs⟩ := ro
      exact ⟨_, vs, rfl, hL.isList, rs, fun I m q => (R.exl I m).2 (q ▸ (Foot.of_get hp).1)⟩

theorem sim_iter {v : AV} {its : List AV} {c : Value} (R : Rel prog w G φ H s.heap) (e : aitems H v = some its) (rc : RepV s.heap φ v c) (hv : isView v = false) :
    wpAny (model prog w) A (pyIter c) (fun it s' => it = .ref s.heap.objs.size ∧ ∃ o, s' = { s with heap := s.heap.push o } ∧ ItSt s'.heap v c s.heap.objs.size 0) NoE s := by
  have list : ((∃ l, v = .lst l) ∨ ∃ k, v = .ref k) → wpAny (model prog w) A (pyIter c) (fun it s' => it = .ref s.heap.objs.size ∧ ∃ o, s' = { s with heap := s.heap.push o } ∧ ItSt s'.heap v c s.heap.objs.size 0) NoE s := fun hl => by
    obtain ⟨ad, vs, rfl, hL, rs, _⟩ := list_at R e rc hl
    refine wpAny_pyIter_list hL ⟨rfl, _, rfl, ?_⟩
    have : (s.heap.push { cls := .type "list_iterator", data := .fields #[.ref ad, .int 0 0] }).IsListIter s.heap.objs.size ad 0 := ⟨_, Heap.get?_push_size _ rfl, rfl, rfl⟩
    unfold ItSt
    rcases hl with ⟨l, rfl⟩ | ⟨k, rfl⟩
    · exact ⟨ad, rfl, this⟩
    · exact ⟨ad, rfl, this⟩
  induction v using Mine.AV.casesOn with
  | lst l => exact list (.inl ⟨l, rfl⟩)
  | ref k => exact list (.inr ⟨k, rfl⟩)
  | tup l =>
    simp only [RepV] at rc
    obtain ⟨ad, vs, rfl, hT, hoff, rs⟩ := rc
    exact wpAny_pyIter_tuple hT ⟨rfl, _, rfl, ad, rfl, _, Heap.get?_push_size _ rfl, rfl, rfl⟩
  | rng n =>
    simp only [RepV] at rc
    obtain ⟨ad, t, u, x, rfl, hR, hoff, hn⟩ := rc
    have hn : n < 100000 := hn
    have hsz : Builtin.Range.rangeSize 0 (n : Int) 1 = n := by
      unfold Builtin.Range.rangeSize
      rw [if_pos (by omega)]
      split <;> omega
    refine wpAny_pyIter_range hR ?_ ⟨rfl, _, rfl, ?_⟩
    · unfold Builtin.Range.small
      rw [hsz]
      have f : ∀ i : Int, 0 ≤ i → i < 200000 → Builtin.Range.rangeFitsLong i = true := fun i a b => by
        unfold Builtin.Range.rangeFitsLong
        simp only [Bool.and_eq_true, decide_eq_true_eq]
        omega
      rw [f 0 (by omega) (by omega), f n (by omega) (by omega), f 1 (by omega) (by omega), if_pos (by decide), f (n + (1 - 1)) (by omega) (by omega)]
      simp
    · unfold ItSt
      simp only []
      rw [hsz]
      have := Heap.get?_push_size s.heap (o := { cls := .type "range_iterator", data := .fields #[rawInt 0, rawInt (n : Int), rawInt 1] }) rfl
      simpa using this
  | view k => cases hv
  | none => cases e
  | bool b => cases e
  | int b => cases e
  | str b => cases e

/-- places that were left out are given up -/
theorem Rel.lose {h h' : Heap} {ex : List Addr} (R : Rel prog w G φ H h) (x : ∀ a ∈ ex, a ∈ φ.ex) (k : ∀ b o, (b ∉ φ.ex ∨ b ∈ ex) → h.get? b = some o → h'.get? b = some o) : Rel prog w G ⟨φ.objs, ex⟩ H h' := by
  refine ⟨R.len, fun a m => R.exb a (x a m), fun b o e => k b o (.inl fun m => by rw [R.exb b m] at e; cases e) (R.base b o e), R.off, R.mod, R.sep, fun a m => ⟨?_, (R.exl a (x a m)).2⟩, fun i o e => ?_⟩
  · obtain ⟨⟨o, e⟩, _⟩ := R.exl a (x a m); exact ⟨o, k a o (.inr m) e⟩
  · obtain ⟨p, hp, r⟩ := R.obj i o e
    have f := Foot.of_get hp
    exact ⟨p, hp, r.lose x k (fun m => (R.exl _ m).2 f.1) (fun m => (R.exl _ m).2 f.2)⟩

/-- new places are left out -/
theorem RepV.enter {h h' : Heap} {E : List Addr} (k : ∀ b o, h.get? b = some o → h'.get? b = some o) (n : ∀ a ∈ E, h.get? a = Option.none) {v : AV} {c : Value} (r : RepV h φ v c) : RepV h' ⟨φ.objs, E ++ φ.ex⟩ v c := by
  have : RepV h ⟨φ.objs, E ++ φ.ex⟩ v c := RepV.reex (φ := φ) (ψ := ⟨φ.objs, E ++ φ.ex⟩) rfl (fun a o q m m' => by
    rcases List.mem_append.mp m' with m' | m'
    · rw [n a m'] at q; cases q
    · exact m m') _ _ r
  exact RepV.step (Step.of_keeps k) _ _ this
theorem FrR.enter {h h' : Heap} {E : List Addr} (F : FrR G env loc φ h) (k : ∀ b o, h.get? b = some o → h'.get? b = some o) (n : ∀ a ∈ E, h.get? a = none) : FrR G env loc ⟨φ.objs, E ++ φ.ex⟩ h' where
  kind := F.kind
  glob := F.glob
  bui := F.bui
  ns := by obtain ⟨m, hn, hm⟩ := F.ns; exact ⟨m, hn.keeps k, fun x v a e => by obtain ⟨c, p, q⟩ := hm x v a e; exact ⟨c, p, q.enter k n⟩⟩
  cell := fun x hk => by obtain ⟨a, ov, e, ⟨o, ho, z⟩, hv⟩ := F.cell x hk; exact ⟨a, ov, e, ⟨o, k _ _ ho, z⟩, fun v q => by obtain ⟨c, p, q⟩ := hv v q; exact ⟨c, p, q.enter k n⟩⟩
  apart := F.apart
  offL := ⟨List.mem_append_right _ F.offL.1, F.offL.2⟩
  offC := fun x a e => by obtain ⟨h1, h2, h3, ov, o, ho, z⟩ := F.offC x a e; exact ⟨List.mem_append_right _ h1, h2, h3, ov, o, k _ _ ho, z⟩
  nofree := F.nofree
theorem Fr0.enter {h h' : Heap} {E : List Addr} (F : Fr0 G sc env loc φ h) (k : ∀ b o, h.get? b = some o → h'.get? b = some o) (n : ∀ a ∈ E, h.get? a = none) : Fr0 G sc env loc ⟨φ.objs, E ++ φ.ex⟩ h' := ⟨F.fr.enter k n, F.scr, F.dbg⟩
theorem FrR.lose {h h' : Heap} {ex : List Addr} (F : FrR G env loc φ h) (own : ∀ a, Own env a → a ∈ ex) (x : ∀ a ∈ ex, a ∈ φ.ex) (k : ∀ b o, (b ∉ φ.ex ∨ b ∈ ex) → h.get? b = some o → h'.get? b = some o) : FrR G env loc ⟨φ.objs, ex⟩ h' where
  kind := F.kind
  glob := F.glob
  bui := F.bui
  ns := by obtain ⟨m, hn, hm⟩ := F.ns; exact ⟨m, hn.at' fun o e => k _ o (.inr (own _ (.inl rfl))) e, fun y v a e => by obtain ⟨c, p, q⟩ := hm y v a e; exact ⟨c, p, RepV.lose x k _ _ q⟩⟩
  cell := fun y hk => by obtain ⟨a, ov, e, ⟨o, ho, z⟩, hv⟩ := F.cell y hk; exact ⟨a, ov, e, ⟨o, k _ _ (.inr (own _ (.inr ⟨y, e⟩))) ho, z⟩, fun v q => by obtain ⟨c, p, q⟩ := hv v q; exact ⟨c, p, RepV.lose x k _ _ q⟩⟩
  apart := F.apart
  offL := ⟨own _ (.inl rfl), F.offL.2⟩
  offC := fun y a e => by obtain ⟨h1, h2, h3, ov, o, ho, z⟩ := F.offC y a e; exact ⟨own _ (.inr ⟨y, e⟩), h2, h3, ov, o, k _ _ (.inr (own _ (.inr ⟨y, e⟩))) ho, z⟩
  nofree := F.nofree
theorem Fr0.lose {h h' : Heap} {ex : List Addr} (F : Fr0 G sc env loc φ h) (own : ∀ a, Own env a → a ∈ ex) (x : ∀ a ∈ ex, a ∈ φ.ex) (k : ∀ b o, (b ∉ φ.ex ∨ b ∈ ex) → h.get? b = some o → h'.get? b = some o) : Fr0 G sc env loc ⟨φ.objs, ex⟩ h' :=
  ⟨F.fr.lose own x k, F.scr, F.dbg⟩

/-- from before the new places to after them -/
theorem StepX.back {X : Addr → Prop} {E : List Addr} {φ₂ : Phi} {h h₁ h₂ h₃ : Heap} (k : ∀ b o, h.get? b = some o → h₁.get? b = some o) (n : ∀ a ∈ E, h.get? a = none) (st : StepX (fun a => X a ∨ a ∈ E) ⟨φ.objs, E ++ φ.ex⟩ h₁ φ₂ h₂)
    (hX : ∀ a, X a → a ∈ φ.ex) (k' : ∀ b o, (b ∉ φ₂.ex ∨ b ∈ φ.ex) → h₂.get? b = some o → h₃.get? b = some o) : StepX X φ h ⟨φ₂.objs, φ.ex⟩ h₃ := by
  have exs : φ₂.ex = E ++ φ.ex := st.ex
  refine ⟨fun b o nf nx q => k' b o ?_ (st.keep b o nf (fun m => m.elim nx fun m => by rw [n b m] at q; cases q) (k b o q)), st.grow, rfl, fun a fa => ?_, fun a m lv => ?_⟩
  · rw [exs]
    by_cases m : b ∈ φ.ex
    · exact .inr m
    · exact .inl fun m' => (List.mem_append.mp m').elim (fun m' => by rw [n b m'] at q; cases q) m
  · rcases st.fresh a fa with q | q
    · exact .inl q
    · refine .inr ?_
      cases z : h.get? a with
      | none => rfl
      | some o => rw [k a o z] at q; cases q
  · obtain ⟨o, e⟩ := lv
    obtain ⟨o', e'⟩ := st.live a (.inl m) ⟨o, k a o e⟩
    exact ⟨o', k' a o' (.inr (hX a m)) e'⟩

/-- an item comes -/
noncomputable def Next (G : Glb) (φ : Phi) (s : Shared) (v : AV) (c : Value) (I : Addr) (i : Nat) (a : AV) (r : Option Value) (s' : Shared) : Prop :=
  ∃ x h' tk, r = some x ∧ s' = (mkS s h' tk) ∧ RepV s.heap φ a x ∧ ItSt h' v c I (i + 1) ∧ ∀ b o, b ≠ I → s.heap.get? b = some o → h'.get? b = some o
noncomputable def Over (s : Shared) (I : Addr) (r : Option Value) (s' : Shared) : Prop :=
  ∃ h' tk, r = none ∧ s' = (mkS s h' tk) ∧ ∀ b o, b ≠ I → s.heap.get? b = some o → h'.get? b = some o

theorem walk_next {fp : List Addr} {k : Nat} {P : Nat → Value → Prop} {St : Nat → Heap → Prop} {v : AV} {c : Value} {I : Addr} {i : Nat} {a : AV} (W : Walks prog w A I fp [I] k P St) (hi : i < k) (hst : St i s.heap)
    (hP : ∀ x, P i x → RepV s.heap φ a x) (hS : ∀ h', St (i + 1) h' → ItSt h' v c I (i + 1)) : wpAny (model prog w) A (pyNext (.ref I)) (Next G φ s v c I i a) NoE s :=
  W.item i s _ _ hi hst fun x h' tk p st kp => ⟨x, h', tk, rfl, rfl, hP x p, hS h' st, fun b o nb => kp b o (by simpa using nb)⟩
theorem walk_over {fp : List Addr} {k : Nat} {P : Nat → Value → Prop} {St : Nat → Heap → Prop} {I : Addr} (W : Walks prog w A I fp [I] k P St) (hst : St k s.heap) : wpAny (model prog w) A (pyNext (.ref I)) (Over s I) NoE s :=
  W.done s _ _ hst fun h' tk kp => ⟨h', tk, rfl, rfl, fun b o nb => kp b o (by simpa using nb)⟩

theorem sim_next (hh : A.handled = none) {v : AV} {its : List AV} {c : Value} {I : Addr} {i : Nat} (R : Rel prog w G φ H s.heap) (e : aitems H v = some its) (rc : RepV s.heap φ v c) (hv : isView v = false) (hI : I ∈ φ.ex) (it : ItSt s.heap v c I i) :
    (∀ a, its[i]? = some a → wpAny (model prog w) A (pyNext (.ref I)) (Next G φ s v c I i a) NoE s) ∧ (i = its.length → wpAny (model prog w) A (pyNext (.ref I)) (Over s I) NoE s) := by
  have list : ((∃ l, v = .lst l) ∨ ∃ k, v = .ref k) → (∀ a, its[i]? = some a → wpAny (model prog w) A (pyNext (.ref I)) (Next G φ s v c I i a) NoE s) ∧ (i = its.length → wpAny (model prog w) A (pyNext (.ref I)) (Over s I) NoE s) := fun hl => by
    obtain ⟨ad, vs, rfl, hL, rs, hne⟩ := list_at R e rc hl
    have hsz := rs.length
    have it' : s.heap.IsListIter I ad i := by
      rcases hl with ⟨l, rfl⟩ | ⟨k, rfl⟩
      · obtain ⟨ax, q, z⟩ := it; cases q; exact z
      · obtain ⟨ax, q, z⟩ := it; cases q; exact z
    have W := Walks.list (prog := prog) (w := w) (A := A) hh I ad (hne I hI) vs.toArray
    refine ⟨fun a ha => walk_next W ?_ ⟨it', hL⟩ (fun x hx => ?_) fun h' st => ?_, fun hlen => walk_over W ⟨by rw [List.size_toArray, hsz, ← hlen]; exact it', hL⟩⟩
    · rw [List.size_toArray, hsz]; exact (List.getElem?_eq_some_iff.mp ha).1
    · obtain ⟨x', hx', rx⟩ := rs.get ha
      have : some x = some x' := by rw [← hx, ← hx']; simp
      cases this; exact rx
    · rcases hl with ⟨l, rfl⟩ | ⟨k, rfl⟩
      · exact ⟨ad, rfl, st.1⟩
      · exact ⟨ad, rfl, st.1⟩
  induction v using Mine.AV.casesOn with
  | lst l => exact list (.inl ⟨l, rfl⟩)
  | ref k => exact list (.inr ⟨k, rfl⟩)
  | tup l =>
    simp only [aitems] at e; cases e
    simp only [RepV] at rc
    obtain ⟨ad, vs, rfl, hT, hoff, rs⟩ := rc
    have hsz := rs.length
    obtain ⟨ax, q, it'⟩ := it
    cases q
    have W := Walks.tuple (prog := prog) (w := w) (A := A) hh I ad (fun q => hoff.2 (q ▸ hI)) vs.toArray
    refine ⟨fun a ha => walk_next W ?_ ⟨it', hT⟩ (fun x hx => ?_) fun h' st => ⟨ad, rfl, st.1⟩, fun hlen => walk_over W ⟨by rw [List.size_toArray, hsz, ← hlen]; exact it', hT⟩⟩
    · rw [List.size_toArray, hsz]; exact (List.getElem?_eq_some_iff.mp ha).1
    · obtain ⟨x', hx', rx⟩ := rs.get ha
      have : some x = some x' := by rw [← hx, ← hx']; simp
      cases this; exact rx
  | rng n =>
    simp only [aitems] at e; cases e
    have W := Walks.range (prog := prog) (w := w) (A := A) hh I 0 1 n
    refine ⟨fun a ha => walk_next W ?_ it (fun x hx => ?_) fun h' st => st, fun hlen => walk_over W ?_⟩
    · have := (List.getElem?_eq_some_iff.mp ha).1; simpa using this
    · obtain ⟨t, rfl⟩ := hx
      have hi : i < n := by have := (List.getElem?_eq_some_iff.mp ha).1; simpa using this
      have : a = .int (i : Int) := by simp [hi] at ha; exact ha.symm
      subst this
      simp only [RepV]
      exact ⟨t, by simp⟩
    · have : i = n := by simpa using hlen
      subst this; exact it
  | view k => cases hv
  | none => cases e
  | bool b => cases e
  | int b => cases e
  | str b => cases e
theorem next_over {Q : Option Value → Shared → Prop} {E : Value → Shared → Prop} (hh : A.handled = none) {v : AV} {its : List AV} {c : Value} {I : Addr} {i : Nat} (R : Rel prog w G φ H s.heap) (e : aitems H v = some its) (rc : RepV s.heap φ v c) (hv : isView v = false) (hI : I ∈ φ.ex) (it : ItSt s.heap v c I i)
    (hi : i = its.length) (k : ∀ h' tk, (∀ b o, b ≠ I → s.heap.get? b = some o → h'.get? b = some o) → Q none (mkS s h' tk)) : wpAny (model prog w) A (pyNext (.ref I)) Q E s :=
  wpAny_mono ((sim_next hh R e rc hv hI it).2 hi) (fun r s' q => by obtain ⟨h', tk, rfl, rfl, kp⟩ := q; exact k h' tk kp) fun _ _ q => q.elim
theorem next_item {Q : Option Value → Shared → Prop} {E : Value → Shared → Prop} (hh : A.handled = none) {v : AV} {its : List AV} {c : Value} {I : Addr} {i : Nat} (R : Rel prog w G φ H s.heap) (e : aitems H v = some its) (rc : RepV s.heap φ v c) (hv : isView v = false) (hI : I ∈ φ.ex) (it : ItSt s.heap v c I i)
    {a : AV} (hi : its[i]? = some a) (k : ∀ x h' tk, RepV s.heap φ a x → ItSt h' v c I (i + 1) → (∀ b o, b ≠ I → s.heap.get? b = some o → h'.get? b = some o) → Q (some x) (mkS s h' tk)) : wpAny (model prog w) A (pyNext (.ref I)) Q E s :=
  wpAny_mono ((sim_next hh R e rc hv hI it).1 a hi) (fun r s' q => by obtain ⟨x, h', tk, rfl, rfl, ra, it', kp⟩ := q; exact k x h' tk ra it' kp) fun _ _ q => q.elim
theorem drop_at {α : Type} {its : List α} {i : Nat} {C : Prop} (hi : i ≤ its.length) (k0 : i = its.length → its.drop i = [] → C) (k1 : ∀ a, its[i]? = some a → i + 1 ≤ its.length → its.drop i = a :: its.drop (i + 1) → C) : C := by
  cases hd : its.drop i with
  | nil => exact k0 (Nat.le_antisymm hi (List.drop_eq_nil_iff.mp hd)) hd
  | cons a rest =>
    have hia : its[i]? = some a := by
      have := List.getElem?_drop (xs := its) (i := i) (j := 0)
      rw [hd] at this; exact this.symm
    have hdrop : its.drop (i + 1) = rest := by
      have : its.drop (i + 1) = (its.drop i).drop 1 := by rw [List.drop_drop]
      rw [this, hd]; rfl
    exact k1 a hia (List.getElem?_eq_some_iff.mp hia).1 (by rw [hdrop]; exact hd)
theorem afor_at {g : AH → Bool} {b : AV → Loc → AH → Option (AFlow × Loc × AH)} {its : List AV} {i : Nat} {l : Loc} {r : AFlow × Loc × AH} {C : Prop} (hi : i ≤ its.length) (ef : afor g b (its.drop i) l H = some r) (k0 : g H = true → i = its.length → some (.next, l, H) = some r → C)
    (k1 : ∀ a fl2 l2 H2, g H = true → its[i]? = some a → i + 1 ≤ its.length → b a l H = some (fl2, l2, H2) → (match fl2 with | .ret v => some (.ret v, l2, H2) | _ => afor g b (its.drop (i + 1)) l2 H2) = some r → C) : C := by
  refine drop_at hi (fun h hd => ?_) fun a ha hl hd => ?_
  · rw [hd] at ef
    obtain ⟨hg, ef⟩ := itr ef
    exact k0 hg h ef
  · rw [hd] at ef
    obtain ⟨hg, ef⟩ := itr ef
    obtain ⟨⟨f, l2, H2⟩, hb, ef⟩ := Option.bind_eq_some_iff.mp ef
    exact k1 a f l2 H2 hg ha hl hb ef
theorem acomp_at {g : AH → Bool} {b : AV → AH → Option (Option AV × AH)} {its : List AV} {i : Nat} {zs : List AV} {Hf : AH} {C : Prop} (hi : i ≤ its.length) (ef : acomp g b (its.drop i) H = some (zs, Hf)) (k0 : g H = true → i = its.length → zs = [] → H = Hf → C)
    (k1 : ∀ a o H2 zs2, g H = true → its[i]? = some a → i + 1 ≤ its.length → b a H = some (o, H2) → acomp g b (its.drop (i + 1)) H2 = some (zs2, Hf) → zs = o.toList ++ zs2 → C) : C := by
  refine drop_at hi (fun h hd => ?_) fun a ha hl hd => ?_
  · rw [hd] at ef
    obtain ⟨hg, ef⟩ := itr ef
    cases ef
    exact k0 hg h rfl rfl
  · rw [hd] at ef
    obtain ⟨hg, ef⟩ := itr ef
    obtain ⟨⟨o, H2⟩, hb, ef⟩ := Option.bind_eq_some_iff.mp ef
    obtain ⟨⟨zs2, Hf'⟩, hr, ef⟩ := Option.map_eq_some_iff.mp ef
    cases ef
    refine k1 a o H2 zs2 hg ha hl hb hr ?_
    cases o <;> rfl
@[elab_as_elim] theorem flow_at {fl2 : AFlow} {f : Flow} {h : Heap} {r : AFlow × Loc × AH} {rest : Option (AFlow × Loc × AH)} {l2 : Loc} {H2 : AH} {K : Flow → Prop} (er : (match fl2 with | .ret v => some (.ret v, l2, H2) | _ => rest) = some r) (hfl : FlowR h φ fl2 f)
    (k0 : rest = some r → K .next) (k1 : rest = some r → K .cont) (k2 : ∀ u c, RepV h φ u c → some (.ret u, l2, H2) = some r → K (.ret c)) : K f := by
  induction fl2 using Mine.AFlow.casesOn with
  | next => have hfl : f = .next := hfl; subst hfl; exact k0 er
  | cont => have hfl : f = .cont := hfl; subst hfl; exact k1 er
  | ret u => obtain ⟨c, rfl, ru⟩ := hfl; exact k2 u c ru er
end
end Mine

namespace Mine
open PySem PySem.W PyProof.Rows PySem.SeqAt PySem.Calls

section
variable {prog : Program} {w : World} {G : Glb} {φ φ' : Phi} {H : AH} {s : Shared} {A : Around} {env : Env} {sc : Sc} {loc : Loc} {n : Nat}

/-- a step that leaves the frame's own places alone -/
theorem FrR.stepX {X : Addr → Prop} {h h' : Heap} (F : FrR G env loc φ h) (x : StepX X φ h φ' h') (hX : ∀ a, X a → a ∈ φ.ex) (no : ∀ a, Own env a → ¬ X a) : FrR G env loc φ' h' where
  kind := F.kind
  glob := F.glob
  bui := F.bui
  ns := by
    obtain ⟨m, hn, hm⟩ := F.ns
    exact ⟨m, hn.at' fun o e => x.keep _ _ F.offL.2.1 (no _ (.inl rfl)) e, fun y v k e => by obtain ⟨c, a, b⟩ := hm y v k e; exact ⟨c, a, RepV.stepX x hX _ _ b⟩⟩
  cell := fun y k => by
    obtain ⟨a, ov, e, hc, hv⟩ := F.cell y k
    refine ⟨a, ov, e, ?_, fun v q => by obtain ⟨c, a, b⟩ := hv v q; exact ⟨c, a, RepV.stepX x hX _ _ b⟩⟩
    obtain ⟨o, ho, z⟩ := hc
    exact ⟨o, x.keep _ _ (F.offC y a e).2.1 (no _ (.inr ⟨y, e⟩)) ho, z⟩
  apart := F.apart
  offL := ⟨by rw [x.ex]; exact F.offL.1, by obtain ⟨m, ⟨o, _, _, ho, _⟩, _⟩ := F.ns; exact x.nfoot ho F.offL.2.1, F.offL.2.2⟩
  offC := fun y a e => by
    obtain ⟨h1, h2, h3, ov, o, ho, z⟩ := F.offC y a e
    exact ⟨by rw [x.ex]; exact h1, x.nfoot ho h2, h3, ov, o, x.keep _ _ h2 (no _ (.inr ⟨y, e⟩)) ho, z⟩
  nofree := F.nofree
theorem Fr0.stepX {X : Addr → Prop} {h h' : Heap} (F : Fr0 G sc env loc φ h) (x : StepX X φ h φ' h') (hX : ∀ a, X a → a ∈ φ.ex) (no : ∀ a, Own env a → ¬ X a) : Fr0 G sc env loc φ' h' := ⟨F.fr.stepX x hX no, F.scr, F.dbg⟩

inductive ForJ (prog : Program) (w : World) (G : Glb) (env : Env) (sc : Sc) (s : Shared) (go : List AV → Loc → AH → Option (AFlow × Loc × AH)) (res : AFlow × Loc × AH) (v : AV) (c : Value) (its : List AV) (I : Addr) (E : Addr → Prop) (φ₁ : Phi) (h₁ : Heap) : Nat → Shared → Prop
  | mk (i : Nat) (φ' : Phi) (H1 : AH) (loc1 : Loc) (h' : Heap) (tk : Nat) (hi : i ≤ its.length) (st : StepX E φ₁ h₁ φ' h') (R : Rel prog w G φ' H1 h') (F : Fr0 G sc env loc1 φ' h') (rc : RepV h' φ' v c) (it : ItSt h' v c I i) (ef : go (its.drop i) loc1 H1 = some res) :
    ForJ prog w G env sc s go res v c its I E φ₁ h₁ (its.length - i) (mkS s h' tk)

theorem fold_iter {iter : Expr} (h : isSet iter = false) : ∀ z, foldedSetIterable iter env z = pure z := fun z => by cases iter <;> first | rfl | exact nof h.symm
theorem StepX.wideI {I : Addr} {h h' : Heap} {Y : Addr → Prop} (st : StepX Y φ h φ' h') (hY : ∀ a, Y a → Own env a ∨ a = I) (F : Fr0 G sc env loc φ h) (nI : ¬ Foot φ I) : StepX (fun a => Own env a ∨ a ∈ [I]) φ h φ' h' :=
  StepX.wide st (fun a m => (hY a m).elim .inl fun e => .inr (by rw [e]; exact .head _)) fun a m _ => m.elim (fun m => (Own.ex F.fr m).2.1) fun m => by rw [List.mem_singleton.mp m]; exact nI
theorem less_at {i n : Nat} (h : i + 1 ≤ n) : n - (i + 1) < n - i := by omega
theorem for_at {iter : Expr} {x : Str} {f : AV → Loc → AH → Option (AFlow × Loc × AH)} {r : AFlow × Loc × AH} {C : Prop}
    (e : ((aev n sc loc iter H).bind fun p => (aitems p.2 p.1).bind fun its => if isLocal sc x && !isSet iter && !isView p.1 && decide (its.length < lenLine) then afor (aguard p.1 its) f its loc p.2 else none) = some r)
    (k : ∀ v H₀ its, aev n sc loc iter H = some (v, H₀) → aitems H₀ v = some its → isLocal sc x = true → isSet iter = false → isView v = false → its.length < lenLine → afor (aguard v its) f its loc H₀ = some r → C) : C := by
  obtain ⟨⟨v, H₀⟩, hp, e⟩ := Option.bind_eq_some_iff.mp e
  refine obC e fun its hits e => ?_
  obtain ⟨hc, e⟩ := itr e
  simp only [Bool.and_eq_true, Bool.not_eq_true', decide_eq_true_eq] at hc
  exact k v H₀ its hp hits hc.1.1.1 hc.1.1.2 hc.1.2 hc.2 e
theorem iter_at {Q : Value → Shared → Prop} {E : Value → Shared → Prop} {v : AV} {its : List AV} {c : Value} (R : Rel prog w G φ H s.heap) (e : aitems H v = some its) (rc : RepV s.heap φ v c) (hv : isView v = false)
    (k : ∀ o, ItSt (s.heap.push o) v c s.heap.objs.size 0 → ∀ oI, (s.heap.push o).get? s.heap.objs.size = some oI → Q (.ref s.heap.objs.size) (mkS s (s.heap.push o) s.toks)) : wpAny (model prog w) A (pyIter c) Q E s :=
  wpAny_mono (sim_iter R e rc hv) (fun it s₂ h₂ => by
    obtain ⟨rfl, o, rfl, hit⟩ := h₂
    obtain ⟨oI, hoI⟩ := hit.live
    exact k o hit oI hoI) fun _ _ q => q.elim
theorem ex_for (ih : SimEv prog w G n) (ihb : SimExs prog w G n) {x : Str} {xp : Pos} {iter : Expr} {body : List Stmt} {pos : Pos} {fl : AFlow} {loc' : Loc} {H' : AH} (r : Room A (n + 1)) (R : Rel prog w G φ H s.heap) (F : Fr0 G sc env loc φ s.heap)
    (e : ((aev n sc loc iter H).bind fun p => (aitems p.2 p.1).bind fun its =>
        if isLocal sc x && !isSet iter && !isView p.1 && decide (its.length < lenLine) then afor (aguard p.1 its) (fun v loc' H' => aexs n sc (kput loc' x v) body H') its loc p.2 else none) = some (fl, loc', H')) :
    wpAny (model prog w) A (exec (.For (.Name x xp) iter body [] pos) env) (PostX prog w G env sc φ s fl loc' H') NoE s := by
  refine for_at e fun v H₀ its hp hits hx hset hview hlen e => ?_
  have kx := (local_kind F hx).1
  refine wpAny_For (usePost (ih r.pred R F hp) fun c h₀ tk₀ φ₀ st₀ R₀ rc => ?_) (fold_iter hset)
  have F₀ := F.step st₀
  refine iter_at (s := mkS s h₀ tk₀) R₀ hits rc hview fun o hit oI hoI => ?_
  generalize hI : ((mkS s h₀ tk₀ : Shared).heap.objs.size) = I at hit hoI ⊢
  have hI' : h₀.objs.size = I := hI
  have kp : ∀ b x, h₀.get? b = some x → (h₀.push o).get? b = some x := fun b x q => Heap.get?_push_of_some _ q
  have fr : ∀ a ∈ [I], h₀.get? a = none := fun a m => by rw [List.mem_singleton.mp m, ← hI']; exact fresh_none (Nat.le_refl _)
  have frI : h₀.get? I = none := fr I (.head _)
  have hIex : I ∉ φ₀.ex := fun m => by obtain ⟨⟨z, q⟩, _⟩ := R₀.exl I m; rw [frI] at q; cases q
  have hIno : ∀ a, Own env a → ¬ a = I := fun a m q => hIex (q ▸ F₀.own a m)
  have R₁ := R₀.enter (h' := h₀.push o) [I] kp fun a m => ⟨fr a m, by rw [List.mem_singleton.mp m]; exact ⟨oI, hoI⟩⟩
  have F₁ := F₀.enter (h' := h₀.push o) (E := [I]) kp fr
  have rc₁ : RepV (h₀.push o) ⟨φ₀.objs, [I] ++ φ₀.ex⟩ v c := rc.enter kp fr
  -- the end of it
  have fin : ∀ {fl' : AFlow} {loc2 : Loc} {H2 : AH} {φ2 : Phi} {h2 h3 : Heap} {tk : Nat} {f : Flow}, StepX (fun a => Own env a ∨ a ∈ [I]) ⟨φ₀.objs, [I] ++ φ₀.ex⟩ (h₀.push o) φ2 h2 → Rel prog w G φ2 H2 h2 → Fr0 G sc env loc2 φ2 h2 → FlowR h2 φ2 fl' f →
      (∀ b z, b ≠ I → h2.get? b = some z → h3.get? b = some z) → PostX prog w G env sc φ s fl' loc2 H2 f (mkS s h3 tk) := by
    intro fl' loc2 H2 φ2 h2 h3 tk f st R2 F2 hf k3
    have exs : φ2.ex = [I] ++ φ₀.ex := st.ex
    have k' : ∀ b z, (b ∉ φ2.ex ∨ b ∈ φ₀.ex) → h2.get? b = some z → h3.get? b = some z := fun b z m q => k3 b z (fun q' => by
      subst q'
      rcases m with m | m
      · exact m (by rw [exs]; exact .head _)
      · exact hIex m) q
    have sub : ∀ a ∈ φ₀.ex, a ∈ φ2.ex := fun a m => by rw [exs]; exact .tail _ m
    refine ⟨h3, tk, ⟨φ2.objs, φ₀.ex⟩, (Step.own st₀ F).trans (StepX.back kp fr st (fun a m => F₀.own a m) k'), R2.lose sub k', F2.lose (fun a m => F₀.own a m) sub k', ?_⟩
    induction fl' using Mine.AFlow.casesOn with
    | next => exact hf
    | cont => exact hf
    | ret u => obtain ⟨cc, rfl, ru⟩ := hf; exact ⟨cc, rfl, RepV.lose sub k' _ _ ru⟩
  refine codeAny_forLoop_any (ForJ prog w G env sc s (afor (aguard v its) (fun v loc' H' => aexs n sc (kput loc' x v) body H')) (fl, loc', H') v c its I (fun a => Own env a ∨ a ∈ [I]) ⟨φ₀.objs, [I] ++ φ₀.ex⟩ (h₀.push o))
    (fun m s' hI => ?_) its.length (ForJ.mk 0 _ H₀ loc (h₀.push o) tk₀ (Nat.zero_le _) (StepX.refl _ _ _) R₁ F₁ rc₁ hit e)
  induction hI with | mk i φ1 H1 loc1 h1 tk1 hi st1 R1 F1 rc1 it1 ef
  have exs : φ1.ex = [I] ++ φ₀.ex := st1.ex
  have mI : I ∈ φ1.ex := exs ▸ .head _
  have nI : ∀ {φ2 : Phi} {H2 : AH} {h2 : Heap}, Rel prog w G φ2 H2 h2 → φ2.ex = [I] ++ φ₀.ex → ¬ Foot φ2 I := fun R2 e2 => (R2.exl I (e2 ▸ .head _)).2
  refine afor_at hi ef (fun hg hil er => ?_) fun a fl2 loc2 H2 hg hia hil hq er => ?_
  · refine next_over (s := mkS s h1 tk1) r.hh R1 (guard_items hits hg hview) rc1 hview mI it1 hil fun h2 tk2 k2 => ?_
    exact wpAny_execs_nil (PostX.of_eq er (fin st1 R1 F1 rfl k2))
  · refine next_item (s := mkS s h1 tk1) r.hh R1 (guard_items hits hg hview) rc1 hview mI it1 hia fun xv h2 tk2 ra it2 k2 => ?_
    obtain ⟨R2, st2⟩ := R1.frame1 k2 mI it2.live
    have hX2 : ∀ b, b = I → b ∈ φ1.ex := eqP mI
    have F2 := F1.stepX st2 hX2 hIno
    have rc2 : RepV h2 φ1 v c := RepV.stepX st2 hX2 _ _ rc1
    refine wpAny_pure (a := ()) ?_
    refine wpAny_assign_Name (usePostA (store_local (s := mkS s h2 tk2) R2 F2 kx (RepV.stepX st2 hX2 _ _ ra)) fun _ h3 tk3 φ3 st3 R3 F3 => ?_)
    have st3' := StepX.own st3 F2
    have ex3 : φ3.ex = [I] ++ φ₀.ex := st3.ex.trans exs
    refine usePostX (ihb (s := mkS s h3 tk3) r.pred R3 F3 hq) fun f h4 tk4 φ4 st4 R4 F4 hfl => ?_
    have tot : StepX (fun a => Own env a ∨ a ∈ [I]) ⟨φ₀.objs, [I] ++ φ₀.ex⟩ (h₀.push o) φ4 h4 :=
      st1.trans ((StepX.wideI st2 (fun _ => .inr) F1 (nI R1 exs)).trans ((StepX.wideI st3' (fun _ => .inl) F2 (nI R2 exs)).trans (StepX.wideI st4 (fun _ => .inl) F3 (nI R3 ex3))))
    have nx : afor (aguard v its) (fun v loc' H' => aexs n sc (kput loc' x v) body H') (its.drop (i + 1)) loc2 H2 = some (fl, loc', H') → ∃ m, m < its.length - i ∧ ForJ prog w G env sc s (afor (aguard v its) (fun v loc' H' => aexs n sc (kput loc' x v) body H')) (fl, loc', H') v c its I (fun a => Own env a ∨ a ∈ [I]) ⟨φ₀.objs, [I] ++ φ₀.ex⟩ (h₀.push o) m (mkS s h4 tk4) := fun er =>
      ⟨its.length - (i + 1), less_at hil, i + 1, φ4, H2, loc2, h4, tk4, hil, tot, R4, F4, RepV.stepX st4 (fun b m => F3.own b m) _ _ (RepV.stepX st3' (fun b m => F2.own b m) _ _ rc2),
        (it2.at fun z q => st3'.keep _ _ (nI R2 exs) (fun m => hIno _ m rfl) q).at fun z q => st4.keep _ _ (nI R3 ex3) (fun m => hIno _ m rfl) q, er⟩
    refine flow_at er hfl ?_ ?_ ?_
    · exact nx
    · exact nx
    · exact fun u cc ru er => PostX.of_eq er (fin tot R4 F4 ⟨cc, rfl, ru⟩ fun b z _ q => q)

theorem PostX.of_step {H' : AH} {h' : Heap} {tk : Nat} (F : Fr0 G sc env loc φ s.heap) (st : Step φ s.heap φ' h') (R : Rel prog w G φ' H' h') {fl : AFlow} {f : Flow} (hf : FlowR h' φ' fl f) : PostX prog w G env sc φ s fl loc H' f (mkS s h' tk) :=
  ⟨h', tk, φ', Step.own st F, R, F.step st, hf⟩

theorem sim_exs (ihx : SimEx prog w G n) (ihs : SimExs prog w G n) : SimExs prog w G (n + 1) := by
  intro A φ H s env sc loc ss fl loc' H' r R F e
  unfold aexs at e
  induction ss using List.casesOn with
  | nil =>
    simp only [] at e; cases e
    exact wpAny_execs_nil (PostX.of_step (s := s) (h' := s.heap) (tk := s.toks) F (StepX.refl _ _ _) R rfl)
  | cons st ss =>
    simp only [] at e
    refine obC3 e fun fl1 loc1 H1 hp e => ?_
    refine wpAny_execs_cons (usePostX (ihx r.pred R F hp) fun f h₁ tk₁ φ₁ st₁ R₁ F₁ hf => ?_)
    induction fl1 using Mine.AFlow.casesOn with
    | next =>
      simp only [FlowR] at hf; subst hf
      dsimp only at e ⊢
      refine usePostX (ihs (s := (mkS s h₁ tk₁)) r.pred R₁ F₁ e) fun f h₂ tk₂ φ₂ st₂ R₂ F₂ hf => ?_
      exact ⟨h₂, tk₂, φ₂, st₁.trans st₂, R₂, F₂, hf⟩
    | cont =>
      simp only [FlowR] at hf; subst hf
      dsimp only at e ⊢
      cases e
      exact ⟨h₁, tk₁, φ₁, st₁, R₁, F₁, rfl⟩
    | ret u =>
      obtain ⟨c, rfl, ru⟩ := hf
      dsimp only at e ⊢
      cases e
      exact ⟨h₁, tk₁, φ₁, st₁, R₁, F₁, c, rfl, ru⟩

theorem sim_inplace {op : Operator} {a b v : AV} {ca cb : Value} (e : (match op with | .Add => abin op a b | .Sub => abin op a b | _ => none) = some v) (ra : RepV s.heap φ a ca) (rb : RepV s.heap φ b cb) :
    wpAny (model prog w) A (inplaceOp op ca cb) (Quiet φ s v) NoE s := by
  induction op using PySem.Operator.casesOn with
  | Add =>
    have e : abin .Add a b = some v := e
    induction a using Mine.AV.casesOn with
    | int i =>
      simp only [RepV] at ra
      obtain ⟨t, rfl⟩ := ra
      induction b using Mine.AV.casesOn with
      | int j =>
        simp only [RepV] at rb
        obtain ⟨u, rfl⟩ := rb
        cases Option.some.inj (show some (AV.int (i + j)) = some v from e)
        exact iadd_int ⟨Keeps.toks _ _, .int _ _⟩
      | bool j =>
        simp only [RepV] at rb
        subst rb
        cases Option.some.inj (show some (AV.int (i + if j then 1 else 0)) = some v from e)
        exact iadd_int_bool ⟨Keeps.toks _ _, .int _ _⟩
      | _ => exact nos e
    | _ => exact nos e
  | Sub =>
    have e : abin .Sub a b = some v := e
    induction a using Mine.AV.casesOn with
    | int i =>
      simp only [RepV] at ra
      obtain ⟨t, rfl⟩ := ra
      induction b using Mine.AV.casesOn with
      | int j =>
        simp only [RepV] at rb
        obtain ⟨u, rfl⟩ := rb
        cases Option.some.inj (show some (AV.int (i - j)) = some v from e)
        exact isub_int ⟨Keeps.toks _ _, .int _ _⟩
      | _ => exact nos e
    | _ => exact nos e
  | _ => exact nos e

theorem ex_aug (g : GOk G) (ih : SimEv prog w G n) {o v : Expr} {a : Str} {op : Operator} {tp p : Pos} {fl : AFlow} {loc' : Loc} {H' : AH} (r : Room A (n + 1)) (R : Rel prog w G φ H s.heap) (F : Fr0 G sc env loc φ s.heap)
    (e : aex (n + 1) sc loc (.AugAssign (.Attribute o a tp) op v p) H = some (fl, loc', H')) : wpAny (model prog w) A (exec (.AugAssign (.Attribute o a tp) op v p) env) (PostX prog w G env sc φ s fl loc' H') NoE s := by
  refine obC2 e fun u H₁ hq e => ?_
  refine obC e fun old hold e => ?_
  refine obC2 e fun u' H₁' hq' e => ?_
  refine obC e fun y hy e => ?_
  refine omC e fun H₂ hH e => eqX e ?_
  refine wpAny_AugAssign_AttributeAny (usePost (ih r.pred R F hq) fun c h₁ tk₁ φ₁ st₁ R₁ rc => ?_)
  refine useQuiet (sim_attr (s := (mkS s h₁ tk₁)) g R₁ hold rc) fun cold h₂ tk₂ k₂ rold => ?_
  have st₂ : Step φ₁ h₁ φ₁ h₂ := Step.of_keeps k₂
  have R₂ := R₁.keeps k₂
  refine usePost (ih (s := (mkS s h₂ tk₂)) r.pred R₂ ((F.step st₁).step st₂) hq') fun d h₃ tk₃ φ₃ st₃ R₃ rd => ?_
  refine useQuiet (sim_inplace (s := (mkS s h₃ tk₃)) hy (rold.step st₃ _ _) rd) fun cy h₄ tk₄ k₄ ry => ?_
  have st₄ : Step φ₃ h₃ φ₃ h₄ := Step.of_keeps k₄
  refine usePost (sim_setattr (s := (mkS s h₄ tk₄)) g (R₃.keeps k₄) hH (((rc.step st₂ _ _).step st₃ _ _).step st₄ _ _) ry) fun _ h₅ tk₅ φ₅ st₅ R₅ _ => ?_
  exact PostX.of_step F ((((st₁.trans st₂).trans st₃).trans st₄).trans st₅) R₅ rfl

theorem sim_ex (g : GOk G) (ih : SimEv prog w G n) (iht : SimTest prog w G n) (iha : SimAssign prog w G n) (ihu : SimUse prog w G n) (ihs : SimExs prog w G n) : SimEx prog w G (n + 1) := by
  intro A φ H s env sc loc st fl loc' H' r R F e
  induction st using PySem.Stmt.casesOn with
  | Assign ts v p =>
    induction ts using List.casesOn with
    | nil => exact nos e
    | cons t ts =>
      induction ts using List.casesOn with
      | cons _ _ => exact nos e
      | nil => exact ex_assign ih iha ihu r R F e
  | AugAssign tt op v p =>
    induction tt using PySem.Expr.casesOn with
    | Attribute o a tp => exact ex_aug g ih r R F e
    | _ => exact nos e
  | Expr v p =>
    induction v using PySem.Expr.casesOn with
    | Call f as ks cp =>
      refine omC2 e fun u H₁ hq e => eqX e ?_
      refine wpAny_Expr_any (usePost (ih r.pred R F hq) fun c h₁ tk₁ φ₁ st₁ R₁ _ => ?_) (by unfold interactive; rw [F.fr.kind]; rfl) rfl
      exact PostX.of_step F st₁ R₁ rfl
    | _ => exact nos e
  | Return ov p =>
   induction ov using Option.casesOn with
   | some v =>
    refine omC2 e fun u H₁ hq e => eqX e ?_
    refine wpAny_Return_some (usePost (ih r.pred R F hq) fun c h₁ tk₁ φ₁ st₁ R₁ rc => ?_)
    exact PostX.of_step F st₁ R₁ ⟨c, rfl, rc⟩
   | none =>
    refine eqX (Option.some.inj e) ?_
    exact wpAny_Return_none (PostX.of_step (s := s) (h' := s.heap) (tk := s.toks) F (StepX.refl _ _ _) R ⟨_, rfl, .none⟩)
  | If c b o p =>
    refine obC2 e fun t H₁ hq e => ?_
    refine wpAny_If (usePost (iht r.pred R F hq) fun b h₁ tk₁ φ₁ st₁ R₁ hq_ => ?_)
    subst hq_
    have fin : ∀ {ss : List Stmt}, aexs n sc loc ss H₁ = some (fl, loc', H') → wpAny (model prog w) A (execs ss env) (PostX prog w G env sc φ s fl loc' H') NoE (mkS s h₁ tk₁) := fun e => by
      refine usePostX (ihs (s := (mkS s h₁ tk₁)) r.pred R₁ (F.step st₁) e) fun f h₂ tk₂ φ₂ st₂ R₂ F₂ hf => ?_
      exact ⟨h₂, tk₂, φ₂, (Step.own st₁ F).trans st₂, R₂, F₂, hf⟩
    cases b
    · exact fin e
    · exact fin e
  | For tt iter body els p =>
    induction tt using PySem.Expr.casesOn with
    | Name x xp =>
      induction els using List.casesOn with
      | nil => exact ex_for ih ihs r R F e
      | cons _ _ => exact nos e
    | _ => exact nos e
  | Continue p =>
    refine eqX (Option.some.inj e) ?_
    exact wpAny_Continue (PostX.of_step (s := s) (h' := s.heap) (tk := s.toks) F (StepX.refl _ _ _) R rfl)
  | _ => exact nos e
end
end Mine

namespace Mine
open PySem PySem.W PyProof.Rows PySem.SeqAt PySem.Calls

section
variable {prog : Program} {w : World} {G : Glb} {φ φ' : Phi} {H : AH} {s : Shared} {A : Around} {env : Env} {sc : Sc} {loc : Loc} {n : Nat}

/-- a list comprehension's loop; what goes wrong never happens -/
theorem comp_loop {elt target iter : Expr} {ifs : List Expr} {scope : Scope} {pos : Pos} {it acc : Value} {R : Result → Shared → Prop} (J : Nat → Shared → Prop)
    (turn : ∀ n s, J n s → wpAny (model prog w) A (pyNext it) (fun r s₁ => match r with
      | none => R (.ok .next) s₁
      | some v => wpAny (model prog w) A (letOwnedTupleGo target it v) (fun _ s₁' => wpAny (model prog w) A (assign target env v) (fun _ s₂ =>
          wpAny (model prog w) A (forIn ifs true fun c r => if r = true then do let ok ← isTrue c env (eval c env); pure (ForInStep.yield ok) else pure (ForInStep.yield r)) (fun ok s₃ =>
            if ok = true then wpAny (model prog w) A (eval elt env) (fun x s₄ => wpAny (model prog w) A (call (.builtin "list.append") [acc, x]) (fun _ s₅ => ∃ m, m < n ∧ J m s₅) NoE s₄) NoE s₃
            else ∃ m, m < n ∧ J m s₃) NoE s₂) NoE s₁') NoE s₁) NoE s)
    (n : Nat) (h : J n s) : codeAny (model prog w) A (.compLoop (.ListComp elt [⟨target, iter, ifs, 0⟩] scope pos) 0 it acc env) R s := by
  refine codeAny_loop rfl J (fun n s hI => ?_) n h
  show wpAny _ A ((compTurn (.ListComp elt [⟨target, iter, ifs, 0⟩] scope pos) 0 it acc env).onRaise (fun x => do noteFrame x env; theTreesLotGoes x)) _ _ s
  refine wpAny_noted ?_
  rw [compTurn_list]
  refine wpAny_bind (wpAny_standAt (wpAny_bind (wpAny_mono (turn n s hI) (fun r s₁ h₁ => ?_) fun _ _ q => q.elim)))
  induction r using Option.casesOn with
  | none => exact wpAny_pure h₁
  | some v =>
    refine wpAny_bind (wpAny_mono h₁ (fun _ s₁' h₁ => ?_) fun _ _ q => q.elim)
    refine wpAny_bind (wpAny_mono h₁ (fun _ s₂ h₂ => wpAny_bind (wpAny_mono h₂ (fun ok s₃ h₃ => ?_) fun _ _ q => q.elim)) fun _ _ q => q.elim)
    induction ok using Bool.casesOn with
    | false => exact wpAny_pure ⟨rfl, h₃⟩
    | true => exact wpAny_bind (wpAny_bind (wpAny_mono h₃ (fun x s₄ h₄ => wpAny_bind (wpAny_mono h₄ (fun _ s₅ h₅ => wpAny_pure (wpAny_pure ⟨rfl, h₅⟩)) fun _ _ q => q.elim)) fun _ _ q => q.elim))

/-- what a comprehension takes from outside -/
noncomputable def taken (env : Env) : List (Str × NameKind) → List (Str × Addr) → List (Str × Addr)
  | [], acc => acc
  | (x, k) :: r, acc => taken env r (if k == .free then (x, (env.cells.lookup x).getD 0) :: acc else acc)
theorem taken_eq : ∀ {names : List (Str × NameKind)} {acc : List (Str × Addr)}, (∀ x, (x, NameKind.free) ∈ names → (env.cells.lookup x).isSome = true) →
    (forIn names acc fun (p : Str × NameKind) cs => match p with | (name, kind) => if (kind == .free) = true then (do let a ← cellOf env name; pure (ForInStep.yield ((name, a) :: cs))) else pure (ForInStep.yield cs) : Sem (List (Str × Addr))) = pure (taken env names acc)
  | [], acc, h => rfl
  | (x, k) :: r, acc, h => by
    rw [List.forIn_cons]
    have hr : ∀ y, (y, NameKind.free) ∈ r → (env.cells.lookup y).isSome = true := fun y m => h y (.tail _ m)
    unfold taken
    by_cases hk : (k == NameKind.free) = true
    · have hk' : k = .free := by simpa using hk
      subst hk'
      obtain ⟨a, ha⟩ := Option.isSome_iff_exists.mp (h x (.head _))
      have hc : cellOf env x = pure a := by unfold cellOf; rw [ha]
      simp only [hk, if_true, hc, pure_bind, ha, Option.getD_some]
      exact taken_eq hr
    · simp only [hk, Bool.false_eq_true, if_false, pure_bind]
      exact taken_eq hr
theorem taken_lookup {x : Str} : ∀ {names : List (Str × NameKind)} {acc : List (Str × Addr)}, (∀ x, (x, NameKind.free) ∈ names → (env.cells.lookup x).isSome = true) →
    (taken env names acc).lookup x = if (x, NameKind.free) ∈ names then env.cells.lookup x else acc.lookup x
  | [], acc, h => by simp [taken]
  | (y, k) :: r, acc, h => by
    have hr : ∀ z, (z, NameKind.free) ∈ r → (env.cells.lookup z).isSome = true := fun z m => h z (.tail _ m)
    unfold taken
    rw [taken_lookup hr]
    by_cases hm : (x, NameKind.free) ∈ r
    · rw [if_pos hm, if_pos (.tail _ hm)]
    · rw [if_neg hm]
      by_cases hk : k = .free
      · subst hk
        simp only [beq_self_eq_true, if_true]
        by_cases hxy : x = y
        · subst hxy
          rw [if_pos (.head _)]
          obtain ⟨a, ha⟩ := Option.isSome_iff_exists.mp (h x (.head _))
          simp [List.lookup_cons, ha]
        · have : (x == y) = false := beq_eq_false_iff_ne.mpr hxy
          rw [List.lookup_cons, this, if_neg (by simp [hm, hxy])]
      · have : (k == NameKind.free) = false := beq_eq_false_iff_ne.mpr hk
        have hx : ¬ (x, NameKind.free) ∈ (y, k) :: r := fun m => by
          rcases List.mem_cons.mp m with e | m
          · cases e; exact hk rfl
          · exact hm m
        simp only [this, Bool.false_eq_true, if_false, hx]

theorem FrR.weaken {h : Heap} {loc' : Loc} (F : FrR G env loc φ h) (e : ∀ x v, kget loc' x = some v → kget loc x = some v) : FrR G env loc' φ h where
  kind := F.kind
  glob := F.glob
  bui := F.bui
  ns := by obtain ⟨m, a, b⟩ := F.ns; exact ⟨m, a, fun x v k q => b x v k (e x v q)⟩
  cell := fun x k => by obtain ⟨a, ov, c, d, r⟩ := F.cell x k; exact ⟨a, ov, c, d, fun v q => r v (e x v q)⟩
  apart := F.apart
  offL := F.offL
  offC := F.offC
  nofree := F.nofree

noncomputable def isFreeK (names : Sc) (x : Str) : Bool := match kget names x with
  | some .free => true
  | _ => false
theorem kget_filter {p : Str → Bool} {x : Str} {v : AV} : ∀ {loc : Loc}, kget (loc.filter fun q => p q.1) x = some v → p x = true ∧ kget loc x = some v
  | [], h => by cases h
  | (y, u) :: r, h => by
    rw [List.filter_cons] at h
    by_cases hk : p y = true
    · rw [if_pos hk] at h
      simp only [kget] at h ⊢
      by_cases q : y = x
      · subst q
        rw [if_pos rfl] at h ⊢
        exact ⟨hk, h⟩
      · rw [if_neg q] at h ⊢
        exact kget_filter h
    · rw [if_neg hk] at h
      obtain ⟨a, b⟩ := kget_filter (loc := r) h
      refine ⟨a, ?_⟩
      simp only [kget]
      rw [if_neg]
      · exact b
      · rintro rfl
        exact hk a
theorem kget_locFree {names : Sc} {x : Str} {v : AV} {loc : Loc} (h : kget (locFree names loc) x = some v) : kget names x = some .free ∧ kget loc x = some v := by
  have e : locFree names loc = loc.filter fun q => isFreeK names q.1 := rfl
  rw [e] at h
  obtain ⟨hk, h⟩ := kget_filter h
  refine ⟨?_, h⟩
  unfold isFreeK at hk
  cases z : kget names x with
  | none => rw [z] at hk; cases hk
  | some k => rw [z] at hk; cases k <;> first | rfl | cases hk

theorem lookup_map {g : Str → NameKind → NameKind} {x : Str} : ∀ {l : List (Str × NameKind)}, (l.map fun p => (p.1, g p.1 p.2)).lookup x = (l.lookup x).map (g x)
  | [] => rfl
  | (n, k) :: r => by
    simp only [List.map_cons, List.lookup_cons]
    by_cases h : x = n
    · subst h; simp
    · have hx : (x == n) = false := beq_eq_false_iff_ne.mpr h
      rw [hx]
      exact lookup_map
theorem lookup_relabel {names : List (Str × NameKind)} {x : Str} : (names.map fun (n, k) => if (k == NameKind.free && env.scope.kind == .function && env.kindOf n == some .cell) then (n, NameKind.cell) else (n, k)).lookup x =
    (names.lookup x).map fun k => if (k == NameKind.free && env.scope.kind == .function && env.kindOf x == some .cell) then NameKind.cell else k := by
  have e : (fun (p : Str × NameKind) => match p with | (n, k) => if (k == NameKind.free && env.scope.kind == .function && env.kindOf n == some .cell) then (n, NameKind.cell) else (n, k)) =
      fun p => (p.1, if (p.2 == NameKind.free && env.scope.kind == .function && env.kindOf p.1 == some .cell) then NameKind.cell else p.2) := by
    funext p
    obtain ⟨n, k⟩ := p
    dsimp only
    split <;> rfl
  rw [e]
  exact lookup_map (g := fun n k => if (k == NameKind.free && env.scope.kind == .function && env.kindOf n == some .cell) then NameKind.cell else k)

structure OkComp (sc : Sc) (scope : Scope) : Prop where
  kind : scope.kind = .function
  nodup : (scope.names.map (·.1)).Nodup
  names : ∀ x k, (x, k) ∈ scope.names → (x == ("__debug__" : Str)) = false ∧ (k = .local ∨ k = .globalImplicit ∨ (k = .free ∧ kget sc x = some .cell))
theorem okComp_of {scope : Scope} (h : okComp sc scope = true) : OkComp sc scope := by
  unfold okComp at h
  simp only [Bool.and_eq_true, beq_iff_eq, decide_eq_true_eq, List.all_eq_true] at h
  obtain ⟨⟨h1, h2⟩, h3⟩ := h
  refine ⟨h1, h2, fun x k m => ?_⟩
  obtain ⟨a, b⟩ := h3 _ m
  simp only [bne_iff_ne, ne_eq] at a
  refine ⟨beq_eq_false_iff_ne.mpr a, ?_⟩
  simp only [Bool.or_eq_true, beq_iff_eq, Bool.and_eq_true] at b
  rcases b with (b | b) | ⟨b, c⟩
  · exact .inl b
  · exact .inr (.inl b)
  · refine .inr (.inr ⟨b, ?_⟩)
    cases z : kget sc x with
    | none => rw [z] at c; cases c
    | some j => rw [z] at c; cases j <;> first | rfl | cases c
theorem mem_lookup {α : Type} {l : List (Str × α)} (n : (l.map (·.1)).Nodup) {x : Str} {a : α} (m : (x, a) ∈ l) : l.lookup x = some a := by
  induction l with
  | nil => cases m
  | cons q r ih =>
    obtain ⟨k, v⟩ := q
    have n' : k ∉ r.map (·.1) ∧ (r.map (·.1)).Nodup := List.nodup_cons.mp n
    rcases List.mem_cons.mp m with e | m
    · cases e; simp [List.lookup_cons]
    · have : (x == k) = false := by
        rw [beq_eq_false_iff_ne]; intro e; exact n'.1 (e ▸ List.mem_map.mpr ⟨(x, a), m, rfl⟩)
      rw [List.lookup_cons, this]; exact ih n'.2 m

/-- the comprehension's own frame -/
theorem comp_frame {scope : Scope} {C : Addr} {h₁ : Heap} {E : List Addr} (O : OkComp sc scope) (F : Fr0 G sc env loc φ s.heap) (R : Rel prog w G φ H s.heap) (kp : ∀ b o, s.heap.get? b = some o → h₁.get? b = some o)
    (fr : ∀ a ∈ E, s.heap.get? a = none) (mC : C ∈ E) (hns : h₁.Ns C fun _ => none) :
    Fr0 G scope.names (compEnvC scope (taken env scope.names []) C env) (locFree scope.names loc) ⟨φ.objs, E ++ φ.ex⟩ h₁ := by
  have hbn : ∀ a, s.heap.get? a = none → G.hb.get? a = none := fun a e => by
    cases q : G.hb.get? a with
    | none => rfl
    | some o => rw [R.base a o q] at e; cases e
  have hcells : ∀ x, (x, NameKind.free) ∈ scope.names → (env.cells.lookup x).isSome = true := fun x m => by
    rcases (O.names x _ m).2 with e | e | ⟨_, e⟩
    · cases e
    · cases e
    · have hs := F.scr x
      rw [e] at hs
      obtain ⟨a, ov, ha, _⟩ := F.fr.cell x hs
      rw [ha]; rfl
  have hkind : ∀ x, (compEnvC scope (taken env scope.names []) C env).kindOf x = (scope.names.lookup x).map fun k => if (k == NameKind.free && env.scope.kind == .function && env.kindOf x == some .cell) then NameKind.cell else k := fun x => by
    unfold Env.kindOf
    exact lookup_relabel
  have hfree : ∀ x, scope.names.lookup x = some .free → env.kindOf x = some .cell ∧ (x, NameKind.free) ∈ scope.names := fun x e => by
    have m := mem_of_lookup e
    rcases (O.names x _ m).2 with q | q | ⟨_, q⟩
    · cases q
    · cases q
    · have hs := F.scr x
      rw [q] at hs
      exact ⟨hs, m⟩
  have hcellkind : ∀ x, (compEnvC scope (taken env scope.names []) C env).kindOf x = some .cell → scope.names.lookup x = some .free := fun x e => by
    rw [hkind] at e
    refine omC e fun k hk e => ?_
    split at e
    · rename_i q
      simp only [Bool.and_eq_true, beq_iff_eq] at q
      rw [q.1.1] at hk; exact hk
    · subst e
      rcases (O.names x _ (mem_of_lookup hk)).2 with q | q | ⟨q, _⟩ <;> cases q
  have look : ∀ x a, (taken env scope.names []).lookup x = some a → env.cells.lookup x = some a := fun x a e => by
    rw [taken_lookup hcells] at e
    split at e
    · exact e
    · cases e
  have fn : env.scope.kind = .function := F.fr.kind
  refine ⟨⟨O.kind, F.fr.glob, F.fr.bui, ⟨_, hns, fun x v hk e => ?_⟩, fun x hk => ?_, fun x y a ha hb => F.fr.apart x y a (look x a ha) (look y a hb), ⟨List.mem_append_left _ mC, R.nfoot (fr C mC), hbn C (fr C mC)⟩, fun x a ha => ?_, fun x hk => ?_⟩, fun x => ?_, fun x hx => ?_⟩
  · obtain ⟨q, _⟩ := kget_locFree e
    rw [kget_lookup] at q
    rw [hkind, q] at hk
    simp only [Option.map_some, fn, (hfree x q).1, beq_self_eq_true, Bool.and_self, if_true] at hk
    cases hk
  · have q := hcellkind x hk
    obtain ⟨hk', m⟩ := hfree x q
    obtain ⟨a, ov, ha, hc, hv⟩ := F.fr.cell x hk'
    obtain ⟨o, ho, z⟩ := hc
    refine ⟨a, ov, ?_, ⟨o, kp _ _ ho, z⟩, fun v e => ?_⟩
    · show (taken env scope.names []).lookup x = some a
      rw [taken_lookup hcells, if_pos m]; exact ha
    · obtain ⟨c, p, r⟩ := hv v (kget_locFree e).2
      exact ⟨c, p, r.enter kp fr⟩
  · obtain ⟨h1, h2, h3, ov, o, ho, z⟩ := F.fr.offC x a (look x a ha)
    exact ⟨List.mem_append_right _ h1, h2, h3, ov, o, kp _ _ ho, z⟩
  · rw [hkind] at hk
    refine omC hk fun k hk' e => ?_
    split at e
    · cases e
    · rename_i q
      subst e
      apply q
      rw [(hfree x hk').1, fn]; rfl
  · rw [kget_lookup]
    cases q : scope.names.lookup x with
    | none => trivial
    | some k =>
      rcases (O.names x _ (mem_of_lookup q)).2 with e | e | ⟨e, _⟩ <;> subst e
      · show (compEnvC scope (taken env scope.names []) C env).kindOf x = _
        rw [hkind, q]; rfl
      · show (compEnvC scope (taken env scope.names []) C env).kindOf x = _
        rw [hkind, q]; rfl
      · show (compEnvC scope (taken env scope.names []) C env).kindOf x = _
        rw [hkind, q]
        simp only [Option.map_some, fn, (hfree x q).1, beq_self_eq_true, Bool.and_self, if_true]
  · rw [kget_lookup] at hx
    obtain ⟨k, hk⟩ := Option.isSome_iff_exists.mp hx
    exact (O.names x k (mem_of_lookup hk)).1
end
end Mine

namespace Mine
open PySem PySem.W PyProof.Rows PySem.SeqAt PySem.Calls

section
variable {prog : Program} {w : World} {G : Glb} {φ φ' : Phi} {H : AH} {s : Shared} {A : Around} {env : Env} {sc : Sc} {loc : Loc} {n : Nat}

theorem okTarget_cases {names : Sc} {t : Expr} (h : okTarget names t = true) : (∃ x p, t = .Name x p ∧ isLocal names x = true) ∨ (∃ x px y py k p, t = .Tuple [.Name x px, .Name y py] k p ∧ isLocal names x = true ∧ isLocal names y = true) := by
  induction t using PySem.Expr.casesOn with
  | Name x p => exact .inl ⟨_, _, rfl, h⟩
  | Tuple l k p =>
    have h : okPair names l = true := h
    rcases l with _ | ⟨a, _ | ⟨b, _ | ⟨c, l⟩⟩⟩
    · exact nof h
    · exact nof h
    · have h := Bool.and_eq_true_iff.mp (show (localName names a && localName names b) = true from h)
      obtain ⟨x, px, rfl, hx⟩ := localName_inv h.1
      obtain ⟨y, py, rfl, hy⟩ := localName_inv h.2
      exact .inr ⟨_, _, _, _, _, _, rfl, hx, hy⟩
    · exact nof h
  | _ => exact nof h

theorem sim_target {target : Expr} {a : AV} {loc' : Loc} {c : Value} (hh : A.handled = none) (ht : atarget target a loc = some loc') (hok : okTarget sc target = true) (R : Rel prog w G φ H s.heap) (F : Fr0 G sc env loc φ s.heap) (rc : RepV s.heap φ a c) :
    wpAny (model prog w) A (assign target env c) (fun _ s' => ∃ h' tk, s' = (mkS s h' tk) ∧ (∀ b o, b ≠ env.locals → s.heap.get? b = some o → h'.get? b = some o) ∧ StepX (fun a => a = env.locals) φ s.heap φ h' ∧
      Rel prog w G φ H h' ∧ Fr0 G sc env loc' φ h') NoE s := by
  rcases okTarget_cases hok with ⟨x, p, rfl, hx⟩ | ⟨x, px, y, py, k, p, rfl, hx, hy⟩
  · obtain ⟨k, _⟩ := local_kind F hx
    have ht : some (kput loc x a) = some loc' := ht
    cases ht
    exact wpAny_assign_Name (store_local' R F k rc)
  · obtain ⟨kx, _⟩ := local_kind F hx
    obtain ⟨ky, _⟩ := local_kind F hy
    induction a using Mine.AV.casesOn with
    | tup l =>
     rcases l with _ | ⟨v, _ | ⟨u, _ | ⟨w', l⟩⟩⟩
     · exact nos ht
     · exact nos ht
     · have ht : some (kput (kput loc x v) y u) = some loc' := ht
       cases ht
       show wpAny _ _ (do standAt p; unpack c (assignEach [.Name x px, .Name y py] env)) _ _ _
       refine wpAny_bind (wpAny_standAt ?_)
       unfold unpack
       refine wpAny_bind (wpAny_holding (unpack_tup hh R rc rfl fun cs h' kp rs hcs => ?_))
       simp only [RepVs] at rs
       obtain ⟨c1, _, rfl, r1, c2, _, rfl, r2, rfl⟩ := rs
       have st0 : Step φ s.heap φ h' := Step.of_keeps kp
       show wpAny _ _ (do holding [c2] (assign (.Name x px) env c1); assignInOrder [assign (.Name y py) env] [c2]) _ _ _
       refine wpAny_bind (wpAny_holding (wpAny_assign_Name (wpAny_mono (store_local' (s := { s with heap := h' }) (R.keeps kp) (F.step st0) kx r1) (fun _ s₁ h₁ => ?_) fun _ _ q => q)))
       obtain ⟨h1, tk1, rfl, k1, st1, R1, F1⟩ := h₁
       have hX : ∀ a, a = env.locals → a ∈ φ.ex := fun a e => by subst e; exact F.fr.offL.1
       show wpAny _ _ (do holding [] (assign (.Name y py) env c2); assignInOrder [] []) _ _ _
       refine wpAny_bind (wpAny_holding (wpAny_assign_Name (wpAny_mono (store_local' (s := (mkS s h1 tk1)) R1 F1 ky (RepV.stepX st1 hX _ _ r2)) (fun _ s₂ h₂ => ?_) fun _ _ q => q)))
       obtain ⟨h2, tk2, rfl, k2, st2, R2, F2⟩ := h₂
       have wst : StepX (fun a => a = env.locals) φ s.heap φ h' := StepX.wide st0 (fun _ f => f.elim) fun a e _ => by subst e; exact F.fr.offL.2.1
       exact wpAny_pure ⟨h2, tk2, rfl, fun b o nb q => k2 b o nb (k1 b o nb (kp b o q)), (wst.trans st1).trans st2, R2, F2⟩
     · exact nos ht
    | _ => exact nos ht

/-- a test and an item -/
noncomputable def SimOne (prog : Program) (w : World) (G : Glb) (n : Nat) : Prop := ∀ {A : Around} {φ : Phi} {H : AH} {s : Shared} {env : Env} {sc : Sc} {loc : Loc} {ifs : List Expr} {elt : Expr} {o : Option AV} {H' : AH},
  Room A n → Rel prog w G φ H s.heap → Fr0 G sc env loc φ s.heap → acompOne n sc loc ifs elt H = some (o, H') →
  wpAny (model prog w) A (forIn ifs true fun c r => if r = true then do let ok ← isTrue c env (eval c env); pure (ForInStep.yield ok) else pure (ForInStep.yield r)) (fun ok s₃ =>
    if ok = true then wpAny (model prog w) A (eval elt env) (fun x s₄ => Post prog w G φ s H' (fun φ' h' => ∃ y, o = some y ∧ RepV h' φ' y x) s₄) NoE s₃ else Post prog w G φ s H' (fun _ _ => o = none) s₃) NoE s
theorem sim_one (ih : SimEv prog w G n) (iht : SimTest prog w G n) : SimOne prog w G (n + 1) := by
  intro A φ H s env sc loc ifs elt o H' r R F e
  unfold acompOne at e
  split at e
  · refine omC e fun p hp e => ?_
    cases e
    refine wpAny_tests_nil ?_
    rw [if_pos rfl]
    refine usePost (ih r.pred R F hp) fun x h₁ tk₁ φ₁ st R₁ rx => ?_
    exact ⟨h₁, tk₁, φ₁, st, R₁, _, rfl, rx⟩
  · refine obC2 e fun b H₁ hp e => ?_
    refine wpAny_tests_one (usePost (iht r.pred R F hp) fun b' h₁ tk₁ φ₁ st R₁ hq_ => ?_)
    subst hq_
    induction b' using Bool.casesOn with
    | true =>
      rw [if_pos rfl] at e ⊢
      refine omC e fun q hq e => ?_
      cases e
      refine usePost (ih (s := (mkS s h₁ tk₁)) r.pred R₁ (F.step st) hq) fun x h₂ tk₂ φ₂ st₂ R₂ rx => ?_
      exact ⟨h₂, tk₂, φ₂, st.trans st₂, R₂, _, rfl, rx⟩
    | false =>
      simp only [Bool.false_eq_true, if_false] at e ⊢
      cases e
      exact ⟨h₁, tk₁, φ₁, st, R₁, rfl⟩
  · cases e

/-- what a comprehension's loop leaves -/
inductive Done (prog : Program) (w : World) (G : Glb) (I D C : Addr) (φ₁ : Phi) (h₁ : Heap) (s : Shared) (zs : List AV) (Hf : AH) : Shared → Prop
  | mk (φ' : Phi) (h' h2 : Heap) (tk : Nat) (cys : List Value) (m : Str → Option Value) (st : StepX (fun a => a ∈ [I, D, C]) φ₁ h₁ φ' h') (R : Rel prog w G φ' Hf h') (k : ∀ b o, b ≠ I → h'.get? b = some o → h2.get? b = some o) (hn : h'.Ns C m) (acc : h'.PlainList D cys.toArray) (rys : RepVs h' φ' zs cys) :
    Done prog w G I D C φ₁ h₁ s zs Hf (mkS s h2 tk)

theorem isLocal_get {x : Str} (h : isLocal sc x = true) : kget sc x = some .local := by
  unfold isLocal at h
  cases hk : kget sc x with
  | none => rw [hk] at h; cases h
  | some k => rw [hk] at h; cases k <;> first | rfl | cases h
/-- a target's store hides nothing that is taken from outside -/
theorem target_keeps {names : Sc} {target : Expr} {lf loc' : Loc} {a : AV} (hok : okTarget names target = true) (hlf : ∀ x u, kget lf x = some u → kget names x = some .free) (hloc : atarget target a lf = some loc') : ∀ y u, kget lf y = some u → kget loc' y = some u := by
  intro y u q
  have no : ∀ x, isLocal names x = true → x ≠ y := fun x hx e => by
    subst e
    have h1 := hlf x u q
    rw [isLocal_get hx] at h1; cases h1
  rcases okTarget_cases hok with ⟨x, p, rfl, hx⟩ | ⟨x, px, z, pz, k, p, rfl, hx, hz⟩
  · have hloc : some (kput lf x a) = some loc' := hloc
    cases hloc
    rw [kget_kput, if_neg (no x hx)]; exact q
  · induction a using Mine.AV.casesOn with
    | tup l =>
      rcases l with _ | ⟨a1, _ | ⟨a2, _ | ⟨a3, l⟩⟩⟩
      · exact nos hloc
      · exact nos hloc
      · have hloc : some (kput (kput lf x a1) z a2) = some loc' := hloc
        cases hloc
        rw [kget_kput, kget_kput, if_neg (no _ hz), if_neg (no _ hx)]; exact q
      · exact nos hloc
    | _ => exact nos hloc
theorem own_name {target : Expr} (h : isName target = true) {it v : Value} {Q : Unit → Shared → Prop} {E : Value → Shared → Prop} (q : Q () s) : wpAny (model prog w) A (letOwnedTupleGo target it v) Q E s := by
  induction target using PySem.Expr.casesOn with
  | Name x p => exact wpAny_pure q
  | _ => exact nof h
theorem targetQ {Q : Unit → Shared → Prop} {E : Value → Shared → Prop} {target : Expr} {a : AV} {loc' : Loc} {c : Value} (hh : A.handled = none) (ht : atarget target a loc = some loc') (hok : okTarget sc target = true) (R : Rel prog w G φ H s.heap) (F : Fr0 G sc env loc φ s.heap) (rc : RepV s.heap φ a c)
    (k : ∀ h' tk, (∀ b o, b ≠ env.locals → s.heap.get? b = some o → h'.get? b = some o) → StepX (fun a => a = env.locals) φ s.heap φ h' → Rel prog w G φ H h' → Fr0 G sc env loc' φ h' → Q () (mkS s h' tk)) : wpAny (model prog w) A (assign target env c) Q E s :=
  wpAny_mono (sim_target hh ht hok R F rc) (fun _ s' q => by obtain ⟨h', tk, rfl, kp, st, R', F'⟩ := q; exact k h' tk kp st R' F') fun _ _ q => q.elim
theorem iteF {A B : Prop} (h : B) : if false = true then A else B := h
theorem iteT {A B : Prop} (h : A) : if true = true then A else B := h
theorem useOne {Q : Bool → Shared → Prop} {E : Value → Shared → Prop} {t : Sem Bool} {u : Sem Value} {o : Option AV} {H' : AH}
    (h : wpAny (model prog w) A t (fun ok s₃ => if ok = true then wpAny (model prog w) A u (fun x s₄ => Post prog w G φ s H' (fun φ' h' => ∃ y, o = some y ∧ RepV h' φ' y x) s₄) NoE s₃ else Post prog w G φ s H' (fun _ _ => o = none) s₃) NoE s)
    (k0 : ∀ h' tk φ', o = none → Step φ s.heap φ' h' → Rel prog w G φ' H' h' → Q false (mkS s h' tk))
    (k1 : ∀ s₃, (∀ {Q' : Value → Shared → Prop}, (∀ x y h' tk φ', o = some y → Step φ s.heap φ' h' → Rel prog w G φ' H' h' → RepV h' φ' y x → Q' x (mkS s h' tk)) → wpAny (model prog w) A u Q' NoE s₃) → Q true s₃) : wpAny (model prog w) A t Q E s := by
  refine wpAny_mono h (fun ok s₃ q => ?_) fun _ _ q => q.elim
  induction ok using Bool.casesOn with
  | false =>
    have q : Post prog w G φ s H' (fun _ _ => o = none) s₃ := q
    induction q with | mk h' tk φ' st R e
    exact k0 h' tk φ' e st R
  | true =>
    have q : wpAny (model prog w) A u (fun x s₄ => Post prog w G φ s H' (fun φ' h' => ∃ y, o = some y ∧ RepV h' φ' y x) s₄) NoE s₃ := q
    refine k1 s₃ fun kk => usePost q fun x h' tk φ' st R p => ?_
    obtain ⟨y, e, ry⟩ := p
    exact kk x y h' tk φ' e st R ry

theorem one_stepX {φ₁ : Phi} {h h' : Heap} {I : Addr} {E : List Addr} (R : Rel prog w G φ H h) (mI : I ∈ E) (hE : ∀ a ∈ E, a ∈ φ.ex) (st : StepX (fun a => a = I) φ h φ₁ h') : StepX (fun a => a ∈ E) φ h φ₁ h' :=
  StepX.wide st (fun a e => by subst e; exact mI) fun a m _ => (R.exl a (hE a m)).2

inductive CompJ (prog : Program) (w : World) (G : Glb) (names : Sc) (cenv : Env) (s : Shared) (go : List AV → AH → Option (List AV × AH)) (zs : List AV) (Hf : AH) (lf : Loc) (v : AV) (c : Value) (its : List AV) (I D : Addr) (φ₁ : Phi) (h₁ : Heap) : Nat → Shared → Prop
  | mk (i : Nat) (φ' : Phi) (H1 : AH) (loc1 : Loc) (h' : Heap) (tk : Nat) (ys : List AV) (cys : List Value) (zs' : List AV) (hi : i ≤ its.length) (hys : ys.length ≤ i) (st : StepX (fun a => a ∈ [I, D, cenv.locals]) φ₁ h₁ φ' h')
    (R : Rel prog w G φ' H1 h') (F : Fr0 G names cenv loc1 φ' h') (hl : ∀ x u, kget lf x = some u → kget loc1 x = some u) (rc : RepV h' φ' v c) (it : ItSt h' v c I i) (acc : h'.PlainList D cys.toArray) (rys : RepVs h' φ' ys cys)
    (ef : go (its.drop i) H1 = some (zs', Hf)) (hz : zs = ys ++ zs') : CompJ prog w G names cenv s go zs Hf lf v c its I D φ₁ h₁ (its.length - i) (mkS s h' tk)
theorem plain_live {h : Heap} {D : Addr} {a : Array Value} (x : h.PlainList D a) : ∃ o, h.get? D = some o := by obtain ⟨k, hk⟩ := x; exact ⟨_, hk⟩
theorem plain_snoc {h : Heap} {D : Addr} {l : List Value} {x : Value} (p : h.PlainList D (l.toArray.push x)) : h.PlainList D (l ++ [x]).toArray := by rw [List.push_toArray] at p; exact p
theorem len_snoc {i : Nat} {ys : List AV} {y : AV} (h : ys.length ≤ i) : (ys ++ [y]).length ≤ i + 1 := by rw [List.length_append]; exact Nat.succ_le_succ h
theorem len_small {i n : Nat} {ys : List AV} {cys : List Value} {h : Heap} (r : RepVs h φ ys cys) (hy : ys.length ≤ i) (hi : i + 1 ≤ n) (hn : n < lenLine) : cys.toArray.size ≤ sizeLine := by
  have hn : n < 100000 := hn
  rw [List.size_toArray, r.length, sizeLine_eq]; omega

theorem comp_general (ih1 : SimOne prog w G n) {target elt iter : Expr} {ifs : List Expr} {scope : Scope} {pos : Pos} {cenv : Env} {I D : Addr} {h₁ : Heap} {tk₁ : Nat} {φ₁ : Phi} {H₀ Hf : AH} {lf : Loc} {names : Sc} {v : AV} {c : Value} {its zs : List AV}
    {K : Result → Shared → Prop} (r : Room A n) (hID : I ≠ D) (hIC : I ≠ cenv.locals) (hDC : D ≠ cenv.locals) (hE : ∀ a ∈ [I, D, cenv.locals], a ∈ φ₁.ex) (hown : ∀ a, Own cenv a → a ≠ I ∧ a ≠ D)
    (R₁ : Rel prog w G φ₁ H₀ h₁) (F₁ : Fr0 G names cenv lf φ₁ h₁) (rc₁ : RepV h₁ φ₁ v c) (it₁ : ItSt h₁ v c I 0) (acc₁ : h₁.PlainList D #[]) (hits : aitems H₀ v = some its) (hview : isView v = false) (hlen : its.length < lenLine)
    (hname : isName target = true) (hok : okTarget names target = true) (hlf : ∀ x u, kget lf x = some u → kget names x = some .free)
    (e : acomp (aguard v its) (fun x H' => (atarget target x lf).bind fun loc' => acompOne n names loc' ifs elt H') its H₀ = some (zs, Hf))
    (hK : ∀ s', Done prog w G I D cenv.locals φ₁ h₁ s zs Hf s' → K (.ok .next) s') :
    codeAny (model prog w) A (.compLoop (.ListComp elt [⟨target, iter, ifs, 0⟩] scope pos) 0 (.ref I) (.ref D) cenv) K (mkS s h₁ tk₁) := by
  have hlen : its.length < 100000 := hlen
  refine comp_loop (CompJ prog w G names cenv s (acomp (aguard v its) fun x H' => (atarget target x lf).bind fun loc' => acompOne n names loc' ifs elt H') zs Hf lf v c its I D φ₁ h₁)
    (fun m s' hJ => ?_) its.length (CompJ.mk 0 φ₁ H₀ lf h₁ tk₁ [] [] zs (Nat.zero_le _) (Nat.le_refl _) (StepX.refl _ _ _) R₁ F₁ (fun _ _ q => q) rc₁ it₁ acc₁ .nil e rfl)
  induction hJ with | mk i φ1 H1 loc1 h1 tk1 ys cys zs' hi hys st1 R1 F1 hl1 rc1 it1 acc1 rys ef hz
  have ex1 : ∀ a ∈ [I, D, cenv.locals], a ∈ φ1.ex := fun a m => by rw [st1.ex]; exact hE a m
  have mI : I ∈ φ1.ex := ex1 I (.head _)
  refine acomp_at hi ef (fun hg hil e1 e2 => ?_) fun a o H2 zs2 hg hia hil hq hrest e1 => ?_
  · refine next_over (s := mkS s h1 tk1) r.hh R1 (guard_items hits hg hview) rc1 hview mI it1 hil fun h2 tk2 k2 => ?_
    obtain ⟨m, hn, _⟩ := F1.fr.ns
    have hz : zs = ys := by rw [hz, e1, List.append_nil]
    exact hK _ ⟨φ1, h1, h2, tk2, cys, m, st1, e2 ▸ R1, k2, hn, acc1, hz ▸ rys⟩
  · refine next_item (s := mkS s h1 tk1) r.hh R1 (guard_items hits hg hview) rc1 hview mI it1 hia fun xv h2 tk2 ra it2 k2 => ?_
    refine obC hq fun loc' hloc hone => ?_
    have hf2 := R1.frame1 k2 mI it2.live
    have R2 := hf2.1
    have st2 := hf2.2
    have hX2 : ∀ b, b = I → b ∈ φ1.ex := eqP mI
    have F2 := F1.stepX st2 hX2 fun b ob => (hown b ob).1
    refine own_name hname (targetQ (s := mkS s h2 tk2) r.hh hloc hok R2 ⟨F2.fr.weaken hl1, F2.scr, F2.dbg⟩ (RepV.stepX st2 hX2 _ _ ra) fun h3 tk3 k3 st3 R3 F3 => ?_)
    have hX3 : ∀ b, b = cenv.locals → b ∈ φ1.ex := eqP (ex1 _ (.tail _ (.tail _ (.head _))))
    have rc3 : RepV h3 φ1 v c := RepV.stepX st3 hX3 _ _ (RepV.stepX st2 hX2 _ _ rc1)
    have rys3 : RepVs h3 φ1 ys cys := RepVs.stepX st3 hX3 _ _ (RepVs.stepX st2 hX2 _ _ rys)
    have acc3 : h3.PlainList D cys.toArray := (acc1.at fun z q => k2 D z (Ne.symm hID) q).at fun z q => k3 D z hDC q
    have it3 : ItSt h3 v c I (i + 1) := it2.at fun z q => k3 I z hIC q
    have tot3 : StepX (fun a => a ∈ [I, D, cenv.locals]) φ₁ h₁ φ1 h3 := st1.trans ((one_stepX R1 (.head _) ex1 st2).trans (one_stepX R2 (.tail _ (.tail _ (.head _))) ex1 st3))
    have hl3 := target_keeps hok hlf hloc
    have nI := (R3.exl I mI).2
    have nD := (R3.exl D (ex1 D (.tail _ (.head _)))).2
    refine useOne (ih1 (s := mkS s h3 tk3) r R3 F3 hone) (fun h4 tk4 φ4 ho st4 R4 => ?_) fun s4 h4 => ?_
    · exact iteF ⟨its.length - (i + 1), less_at hil, i + 1, φ4, H2, loc', h4, tk4, ys, cys, zs2, hil, Nat.le_succ_of_le hys, tot3.trans (StepX.wide st4 (fun _ f => f.elim) fun a m _ => (R3.exl a (ex1 a m)).2), R4, F3.step st4, hl3, rc3.step st4 _ _, it3.at fun z q => st4.keep _ _ nI (fun f => f) q,
        acc3.at fun z q => st4.keep _ _ nD (fun f => f) q, rys3.step st4 _ _, hrest, by rw [hz, e1, ho]; rfl⟩
    · refine iteT (h4 fun xr y h5 tk5 φ4 ho st4 R4 ry => ?_)
      have rys4 := rys3.step st4 _ _
      refine wpAny_list_append_plain (acc3.at fun z q => st4.keep _ _ nD (fun f => f) q) (fun h6 acc6 sb => ?_) (len_small rys4 hys hil hlen)
      have ex4 : ∀ a ∈ [I, D, cenv.locals], a ∈ φ4.ex := fun a m => by rw [st4.ex]; exact ex1 a m
      have mD : D ∈ φ4.ex := ex4 D (.tail _ (.head _))
      have hf6 := R4.frame1 (h' := h6) (I := D) (fun b z nb q => sb.extBut b z nb q) mD (plain_live acc6)
      have hX6 : ∀ b, b = D → b ∈ φ4.ex := eqP mD
      exact ⟨its.length - (i + 1), less_at hil, i + 1, φ4, H2, loc', h6, tk5, ys ++ [y], cys ++ [xr], zs2, hil, len_snoc hys, tot3.trans ((StepX.wide st4 (fun _ f => f.elim) fun a m _ => (R3.exl a (ex1 a m)).2).trans (one_stepX R4 (.tail _ (.head _)) ex4 hf6.2)), hf6.1,
        (F3.step st4).stepX hf6.2 hX6 fun b ob => (hown b ob).2, hl3, RepV.stepX hf6.2 hX6 _ _ (rc3.step st4 _ _), (it3.at fun z q => st4.keep _ _ nI (fun f => f) q).at fun z q => sb.extBut _ z hID q, plain_snoc acc6,
        (RepVs.stepX hf6.2 hX6 _ _ rys4).append (.cons (RepV.stepX hf6.2 hX6 _ _ ry) .nil), hrest, by rw [hz, e1, ho, List.append_assoc]; rfl⟩
end
end Mine

namespace Mine
open PySem PySem.W PyProof.Rows PySem.SeqAt PySem.Calls

section
variable {prog : Program} {w : World} {G : Glb} {φ φ' : Phi} {H : AH} {s : Shared} {A : Around} {env : Env} {sc : Sc} {loc : Loc} {n : Nat}

theorem name_quiet (g : GOk G) {x : Str} {pos : Pos} {v : AV} (R : Rel prog w G φ H s.heap) (F : Fr0 G sc env loc φ s.heap) (e : aname sc loc x = some v) : wpAny (model prog w) A (eval (.Name x pos) env) (Quiet φ s v) NoE s := by
  unfold aname at e
  have hs := F.scr x
  cases hk : kget sc x with
  | none => rw [hk] at e; cases e
  | some k =>
    have hd := F.dbg x (by rw [hk]; rfl)
    rw [hk] at e hs
    have cell : env.kindOf x = some .cell → kget loc x = some v → wpAny (model prog w) A (eval (.Name x pos) env) (Quiet φ s v) NoE s := fun hs e => by
      obtain ⟨a, ov, hc, hv, hr⟩ := F.fr.cell x hs
      obtain ⟨c, rfl, rc⟩ := hr v e
      exact wpAny_Name (wpAny_loadName_cell F.fr.kind hs hc hv ⟨Keeps.rfl' _, rc⟩) hd
    cases k <;> simp only [] at e hs <;> try cases e
    · obtain ⟨m, hn, hm⟩ := F.fr.ns
      obtain ⟨c, hc, rc⟩ := hm x v hs e
      exact wpAny_Name (wpAny_loadName_local F.fr.kind hs hn hc ⟨Keeps.rfl' _, rc⟩) hd
    all_goals first
      | exact cell hs e
      | skip
    obtain ⟨c, hc, rc⟩ := gconst_rep g R e
    refine Name_function_global F.fr.kind hs (loadGlobal_global ?_ hc ⟨Keeps.rfl' _, rc⟩) hd
    rw [F.fr.glob]
    exact g.gns.at' fun o q => R.base _ o q
theorem const_quiet {c : Const} {k : Nat} {pos : Pos} {v : AV} (e : aconst c = some v) : wpAny (model prog w) A (eval (.Constant c k pos) env) (Quiet φ s v) NoE s := by
  cases c <;> simp only [aconst] at e <;> try cases e
  · exact wpAny_Constant_none ⟨Keeps.rfl' _, .none⟩
  · exact wpAny_Constant_bool ⟨Keeps.rfl' _, .bool _⟩
  · exact wpAny_Constant_int ⟨Keeps.toks _ _, .int _ _⟩
  · exact wpAny_Constant_str ⟨Keeps.toks _ _, .str _ _⟩
theorem Keeps.trans' {s s' s'' : Shared} (a : Keeps s s') (b : Keeps s' s'') : Keeps s s'' := by
  obtain ⟨h, t, rfl, k⟩ := a
  obtain ⟨h', t', rfl, k'⟩ := b
  exact ⟨h', t', rfl, fun b o e => k' b o (k b o e)⟩

theorem simple_cases {e : Expr} (h : simpleElt e = true) : (∃ x p, e = .Name x p) ∨ (∃ x p c k cp sp, e = .Subscript (.Name x p) (.Constant c k cp) sp) := by
  induction e using PySem.Expr.casesOn with
  | Name x p => exact .inl ⟨_, _, rfl⟩
  | Subscript a b sp =>
    have h := Bool.and_eq_true_iff.mp (show (isName a && isConst b) = true from h)
    obtain ⟨x, p, rfl⟩ := name_inv h.1
    obtain ⟨c, k, cp, rfl⟩ := const_inv h.2
    exact .inr ⟨_, _, _, _, _, _, rfl⟩
  | _ => exact nof h
theorem simple_quiet (g : GOk G) {e : Expr} {v : AV} {H' : AH} (hs : simpleElt e = true) (R : Rel prog w G φ H s.heap) (F : Fr0 G sc env loc φ s.heap) (q : aev n sc loc e H = some (v, H')) :
    H' = H ∧ wpAny (model prog w) A (eval e env) (Quiet φ s v) NoE s := by
  cases n with
  | zero => exact nos q
  | succ n =>
    rcases simple_cases hs with ⟨x, p, rfl⟩ | ⟨x, p, c, k, cp, sp, rfl⟩
    · refine omC q fun u hu q => ?_
      cases q
      exact ⟨rfl, name_quiet g R F hu⟩
    · refine obC2 q fun a H₁ hu q => ?_
      refine obC2 q fun b H₂ hu' q => ?_
      refine omC q fun y hy q => ?_
      cases q
      cases n with
      | zero => exact nos hu
      | succ n =>
        refine omC hu fun a' ha q => ?_
        cases q
        refine omC hu' fun b' hb q => ?_
        cases q
        refine ⟨rfl, Subscript_ (useQuiet (name_quiet g R F ha) fun ca h1 tk1 k1 ra => ?_)⟩
        refine useQuiet (const_quiet (φ := φ) (s := (mkS s h1 tk1)) hb) fun cb h2 tk2 k2 rb => ?_
        obtain ⟨T, id, hT, hl, hg⟩ := sim_getitem (s := (mkS s h2 tk2)) (A := A) ((R.keeps k1).keeps k2) hy (ra.step (Step.of_keeps k2)) rb
        unfold subscriptTail
        have fin : wpAny (model prog w) A (subscripted (.Constant c k cp) false ca cb) (fun r s₃ => wpAny (model prog w) A (letTemporaryGo (.Name x p) ca r >>= fun _ => pure r) (Quiet φ s v) NoE s₃) NoE (mkS s h2 tk2) := by
          show wpAny _ _ (operate _ (getItem _ _)) _ _ _
          refine wpAny_operating (wpAny_mono hg (fun r s₃ h₃ => wpAny_bind (wpAny_letTemporaryGo (wpAny_pure ?_))) fun _ _ x => x)
          exact ⟨Keeps.trans' ⟨h2, tk2, rfl, fun b o e => k2 b o (k1 b o e)⟩ h₃.1, h₃.2⟩
        refine wpAny_bind ?_
        rw [getitemInPython_of_ne hT.not_modules]
        refine wpAny_bind (wpAny_specialOf hT hl ?_)
        first
          | exact wpAny_pure (wpAny_bind fin)
          | exact wpAny_bind (wpAny_pure (wpAny_bind fin))
          | exact wpAny_bind fin

/-- no walk of its own tuple -/
theorem own_go {target : Expr} {I : Addr} {x : Value} {o : Obj} {Q : Unit → Shared → Prop} {E : Value → Shared → Prop} (ho : s.heap.get? I = some o) (hc : o.cls = .type "dict_valueiterator") (h : Q () s) : wpAny (model prog w) A (letOwnedTupleGo target (.ref I) x) Q E s := by
  have key : wpAny (model prog w) A (do
      let (.ref r, .ref a) := (Value.ref I, x) | return
      let o ← load r
      match o.cls, o.data with
      | .type n, .fields vs =>
        if ["enumerate", "zip", "dict_itemiterator", "dict_reverseitemiterator", "odict_iterator", "itertools.zip_longest", "itertools.pairwise"].contains n && vs[0]? == some (rawInt a) then
          rule "for.unpacks-the-owned-tuple"
          updateField r 0 .none
      | _, _ => pure ()) Q E s := by
    induction x using PySem.Value.casesOn with
    | ref a =>
      refine wpAny_bind (wpAny_load ho ?_)
      rw [hc]
      cases o.data with
      | fields vs =>
        dsimp only
        rw [if_neg (by rw [show (["enumerate", "zip", "dict_itemiterator", "dict_reverseitemiterator", "odict_iterator", "itertools.zip_longest", "itertools.pairwise"].contains "dict_valueiterator") = false from by decide, Bool.false_and]; exact Bool.false_ne_true)]
        exact wpAny_pure h
      | _ => exact wpAny_pure h
    | _ => exact wpAny_pure h
  induction target using PySem.Expr.casesOn with
  | Tuple a b c => exact key
  | List a b => exact key
  | _ => exact wpAny_pure h

inductive ViewJ (prog : Program) (w : World) (G : Glb) (names : Sc) (cenv : Env) (s : Shared) (go : List AV → AH → Option (List AV × AH)) (zs : List AV) (Hf : AH) (lf : Loc) (its : List AV) (I D d : Addr) (k ep : Nat) (φ₁ : Phi) (h₁ : Heap) (H₀ : AH) : Nat → Shared → Prop
  | mk (i : Nat) (loc1 : Loc) (h' : Heap) (tk : Nat) (ys : List AV) (cys : List Value) (zs' : List AV) (hi : i ≤ its.length) (hys : ys.length ≤ i) (kp : ∀ b o, b ∉ [I, D, cenv.locals] → h₁.get? b = some o → h'.get? b = some o) (st : StepX (fun a => a ∈ [I, D, cenv.locals]) φ₁ h₁ φ₁ h')
    (R : Rel prog w G φ₁ H₀ h') (F : Fr0 G names cenv loc1 φ₁ h') (hl : ∀ x u, kget lf x = some u → kget loc1 x = some u) (it : h'.IsValIter I d i k ep) (acc : h'.PlainList D cys.toArray) (rys : RepVs h' φ₁ ys cys)
    (ef : go (its.drop i) H₀ = some (zs', Hf)) (hz : zs = ys ++ zs') : ViewJ prog w G names cenv s go zs Hf lf its I D d k ep φ₁ h₁ H₀ (its.length - i) (mkS s h' tk)
theorem one_nil {elt : Expr} {o : Option AV} {H' : AH} {C : Prop} (e : acompOne n sc loc [] elt H = some (o, H')) (k : ∀ m y, aev m sc loc elt H = some (y, H') → o = some y → C) : C := by
  cases n with
  | zero => exact nos e
  | succ n =>
    refine omC2 e fun y H2 hp e => ?_
    cases e
    exact k n y hp rfl
theorem val_item {h : Heap} {its : List AV} {kvs : List (Int × Value)} {i : Nat} {a : AV} {x : Value} (r : RepVs h φ its (kvs.map (·.2))) (hi : its[i]? = some a) (hP : ∃ k, kvs[i]? = some (k, x)) : RepV h φ a x := by
  obtain ⟨k, hk⟩ := hP
  obtain ⟨x', hx', rx⟩ := r.get hi
  rw [List.getElem?_map, hk] at hx'
  cases hx'; exact rx
theorem val_live {h : Heap} {I d : Addr} {i n ep : Nat} (x : h.IsValIter I d i n ep) {C : Prop} (k : ∀ o, h.get? I = some o → o.cls = .type "dict_valueiterator" → C) : C := by
  obtain ⟨o, ho, hc, _⟩ := x; exact k o ho hc
theorem not_three {a b c d : Addr} (h : d ∉ [a, b, c]) : d ≠ a ∧ d ≠ b ∧ d ≠ c := ⟨fun e => h (e ▸ .head _), fun e => h (e ▸ .tail _ (.head _)), fun e => h (e ▸ .tail _ (.tail _ (.head _)))⟩

theorem comp_view (g : GOk G) {target elt iter : Expr} {scope : Scope} {pos : Pos} {cenv : Env} {I D d : Addr} {h₁ : Heap} {tk₁ : Nat} {φ₁ : Phi} {H₀ Hf : AH} {lf : Loc} {names : Sc} {v : AV} {its zs : List AV} {kvs : List (Int × Value)} {ep : Nat}
    {K : Result → Shared → Prop} (hh : A.handled = none) (hID : I ≠ D) (hIC : I ≠ cenv.locals) (hDC : D ≠ cenv.locals) (hE : ∀ a ∈ [I, D, cenv.locals], a ∈ φ₁.ex) (hown : ∀ a, Own cenv a → a ≠ I ∧ a ≠ D)
    (R₁ : Rel prog w G φ₁ H₀ h₁) (F₁ : Fr0 G names cenv lf φ₁ h₁) (hd : Foot φ₁ d) (dat : h₁.DictAt (intKind prog w) d kvs ep) (it₁ : h₁.IsValIter I d 0 kvs.length ep) (rits : RepVs h₁ φ₁ its (kvs.map (·.2))) (acc₁ : h₁.PlainList D #[]) (hlen : its.length < lenLine)
    (hsim : simpleElt elt = true) (hok : okTarget names target = true) (hlf : ∀ x u, kget lf x = some u → kget names x = some .free)
    (e : acomp (aguard v its) (fun x H' => (atarget target x lf).bind fun loc' => acompOne n names loc' [] elt H') its H₀ = some (zs, Hf))
    (hK : ∀ s', Done prog w G I D cenv.locals φ₁ h₁ s zs Hf s' → K (.ok .next) s') :
    codeAny (model prog w) A (.compLoop (.ListComp elt [⟨target, iter, [], 0⟩] scope pos) 0 (.ref I) (.ref D) cenv) K (mkS s h₁ tk₁) := by
  have hlen : its.length < 100000 := hlen
  have hkl : kvs.length = its.length := by have := rits.length; simpa using this
  have dI : ∀ a ∈ [I, D, cenv.locals], d ≠ a := fun a m q => (R₁.exl a (hE a m)).2 (q ▸ hd)
  have W := Walks.dictValues (prog := prog) (w := w) (knd := intKind prog w) (A := A) hh I d (dI I (.head _)) kvs ep
  refine comp_loop (ViewJ prog w G names cenv s (acomp (aguard v its) fun x H' => (atarget target x lf).bind fun loc' => acompOne n names loc' [] elt H') zs Hf lf its I D d kvs.length ep φ₁ h₁ H₀)
    (fun m s' hJ => ?_) its.length (ViewJ.mk 0 lf h₁ tk₁ [] [] zs (Nat.zero_le _) (Nat.le_refl _) (fun b o _ q => q) (StepX.refl _ _ _) R₁ F₁ (fun _ _ q => q) it₁ acc₁ .nil e rfl)
  induction hJ with | mk i loc1 h1 tk1 ys cys zs' hi hys kp1 st1 R1 F1 hl1 it1 acc1 rys ef hz
  have dat1 : h1.DictAt (intKind prog w) d kvs ep := dat.at' fun o q => kp1 d o (fun m => dI _ m rfl) q
  refine acomp_at hi ef (fun hg hil e1 e2 => ?_) fun a o H2 zs2 hg hia hil hq hrest e1 => ?_
  · refine W.done (mkS s h1 tk1) _ _ ⟨(hil.trans hkl.symm) ▸ it1, dat1⟩ fun h2 tk2 k2 => ?_
    obtain ⟨m, hn, _⟩ := F1.fr.ns
    have hz : zs = ys := by rw [hz, e1, List.append_nil]
    exact hK _ ⟨φ₁, h1, h2, tk2, cys, m, st1, e2 ▸ R1, fun b o nb => k2 b o (mt List.mem_singleton.mp nb), hn, acc1, hz ▸ rys⟩
  · refine W.item i (mkS s h1 tk1) _ _ (by rw [hkl]; exact hil) ⟨it1, dat1⟩ fun xv h2 tk2 hP st2 k2 => ?_
    refine obC hq fun loc' hloc hone => one_nil hone fun n' y hev ho => ?_
    have k2' : ∀ b z, b ≠ I → h1.get? b = some z → h2.get? b = some z := fun b z nb q => k2 b z (mt List.mem_singleton.mp nb) q
    refine val_live st2.1 fun oI hoI hcI => ?_
    have mI := hE I (.head _)
    have hf2 := R1.frame1 k2' mI ⟨oI, hoI⟩
    have R2 := hf2.1
    have hX2 : ∀ b, b = I → b ∈ φ₁.ex := eqP mI
    have F2 := F1.stepX hf2.2 hX2 fun b ob => (hown b ob).1
    have st12 := st1.trans (one_stepX R1 (.head _) hE hf2.2)
    refine own_go (s := mkS s h2 tk2) hoI hcI ?_
    refine targetQ (s := mkS s h2 tk2) hh hloc hok R2 ⟨F2.fr.weaken hl1, F2.scr, F2.dbg⟩ (val_item (RepVs.stepX st12 hE _ _ rits) hia hP) fun h3 tk3 k3 sx3 R3 F3 => ?_
    have hX3 : ∀ b, b = cenv.locals → b ∈ φ₁.ex := eqP (hE _ (.tail _ (.tail _ (.head _))))
    have rys3 := RepVs.stepX sx3 hX3 _ _ (RepVs.stepX hf2.2 hX2 _ _ rys)
    have st13 := st12.trans (one_stepX R2 (.tail _ (.tail _ (.head _))) hE sx3)
    have sq := simple_quiet (s := mkS s h3 tk3) (A := A) g hsim R3 F3 hev
    refine wpAny_tests_nil (iteT (useQuiet sq.2 fun xr h5 tk5 k5 ry => ?_))
    refine wpAny_list_append_plain (((acc1.at fun z q => k2' D z (Ne.symm hID) q).at fun z q => k3 D z hDC q).at fun z q => k5 D z q) (fun h6 acc6 sb => ?_) (len_small rys3 hys hil hlen)
    have R5 := R3.keeps k5
    have mD := hE D (.tail _ (.head _))
    have hf6 := R5.frame1 (h' := h6) (I := D) (fun b z nb q => sb.extBut b z nb q) mD (plain_live acc6)
    have hX6 : ∀ b, b = D → b ∈ φ₁.ex := eqP mD
    have w5 : StepX (fun a => a ∈ [I, D, cenv.locals]) φ₁ h3 φ₁ h5 := StepX.wide (Step.of_keeps k5) (fun _ f => f.elim) fun a m _ => (R3.exl a (hE a m)).2
    exact ⟨its.length - (i + 1), less_at hil, i + 1, loc', h6, tk5, ys ++ [y], cys ++ [xr], zs2, hil, len_snoc hys, fun b z nb q => sb.extBut b z (not_three nb).2.1 (k5 b z (k3 b z (not_three nb).2.2 (k2' b z (not_three nb).1 (kp1 b z nb q)))),
      st13.trans (w5.trans (one_stepX R5 (.tail _ (.head _)) hE hf6.2)), hf6.1, (F3.step (Step.of_keeps k5)).stepX hf6.2 hX6 fun b ob => (hown b ob).2, target_keeps hok hlf hloc,
      ((st2.1.at fun z q => k3 I z hIC q).at fun z q => k5 I z q).at fun z q => sb.extBut _ z hID q, plain_snoc acc6, (RepVs.stepX hf6.2 hX6 _ _ (rys3.step (Step.of_keeps k5) _ _)).append (.cons (RepV.stepX hf6.2 hX6 _ _ ry) .nil), sq.1 ▸ hrest, by rw [hz, e1, ho, List.append_assoc]; rfl⟩
end
end Mine

namespace Mine
open PySem PySem.W PyProof.Rows PySem.SeqAt PySem.Calls

section
variable {prog : Program} {w : World} {G : Glb} {φ φ' : Phi} {H : AH} {s : Shared} {A : Around} {env : Env} {sc : Sc} {loc : Loc} {n : Nat}

theorem it_self {v : AV} {c : Value} {I : Addr} {i : Nat} {Q : Value → Shared → Prop} {E : Value → Shared → Prop} (it : ItSt s.heap v c I i) (h : Q (.ref I) s) : wpAny (model prog w) A (pyIter (.ref I)) Q E s := by
  unfold ItSt at it
  cases v <;> simp only [] at it
  case tup => obtain ⟨ax, _, hx⟩ := it; exact wpAny_pyIter_tupleiter hx h
  case rng => exact wpAny_pyIter_rangeiter it h
  all_goals (obtain ⟨ax, _, hx⟩ := it; exact wpAny_pyIter_listiter hx h)

theorem comp_at {target elt iter : Expr} {ifs : List Expr} {scope : Scope} {v : AV} {H' : AH} {C : Prop}
    (e : (if okComp sc scope && okTarget scope.names target && !isSet iter then
        (aev n sc loc iter H).bind fun p => (aitems p.2 p.1).bind fun its => if its.length < lenLine ∧ (isView p.1 = true → ifs.isEmpty = true ∧ simpleElt elt = true) ∧ (isView p.1 = false → isName target = true) then
          (acomp (aguard p.1 its) (fun x H' => (atarget target x (locFree scope.names loc)).bind fun loc' => acompOne n scope.names loc' ifs elt H') its p.2).map fun q => (AV.lst q.1, q.2) else none else none) = some (v, H'))
    (k : ∀ u H₀ its zs, OkComp sc scope → okTarget scope.names target = true → isSet iter = false → aev n sc loc iter H = some (u, H₀) → aitems H₀ u = some its → its.length < lenLine → (isView u = true → ifs.isEmpty = true ∧ simpleElt elt = true) → (isView u = false → isName target = true) →
      acomp (aguard u its) (fun x H' => (atarget target x (locFree scope.names loc)).bind fun loc' => acompOne n scope.names loc' ifs elt H') its H₀ = some (zs, H') → v = .lst zs → C) : C := by
  obtain ⟨hc, e⟩ := itr e
  have hc := Bool.and_eq_true_iff.mp hc
  have hc1 := Bool.and_eq_true_iff.mp hc.1
  refine obC2 e fun u H₀ hp e => ?_
  refine obC e fun its hits e => ?_
  obtain ⟨hcd, e⟩ := itr e
  refine omC2 e fun zs Hf hcomp e => ?_
  cases e
  exact k u H₀ its zs (okComp_of hc1.1) hc1.2 ((Bool.not_eq_true' _).mp hc.2) hp hits hcd.1 hcd.2.1 hcd.2.2 hcomp rfl
theorem comp_cells {scope : Scope} (O : OkComp sc scope) (F : Fr0 G sc env loc φ s.heap) : ∀ x, (x, NameKind.free) ∈ scope.names → (env.cells.lookup x).isSome = true := fun x m => by
  rcases (O.names x _ m).2 with e | e | ⟨_, e⟩
  · cases e
  · cases e
  · have hs := F.scr x
    rw [e] at hs
    obtain ⟨a, ov, ha, _⟩ := F.fr.cell x hs
    rw [ha]; rfl
theorem comp_clos {scope : Scope} (O : OkComp sc scope) (F : Fr0 G sc env loc φ s.heap) : closureFor scope env = pure (taken env scope.names []) := by
  unfold closureFor
  have := taken_eq (env := env) (names := scope.names) (acc := []) (comp_cells O F)
  simp only [bind_pure]
  exact this
theorem comp_own {scope : Scope} {I D C : Addr} {h₀ : Heap} (O : OkComp sc scope) (F : Fr0 G sc env loc φ h₀) (fI : h₀.get? I = none) (fD : h₀.get? D = none) (hIC : I ≠ C) (hDC : D ≠ C) : ∀ a, Own (compEnvC scope (taken env scope.names []) C env) a → a ≠ I ∧ a ≠ D := by
  rintro a (rfl | ⟨x, hx⟩)
  · exact ⟨Ne.symm hIC, Ne.symm hDC⟩
  · have hx' : (taken env scope.names []).lookup x = some a := hx
    rw [taken_lookup (comp_cells (s := ⟨h₀, #[], {}, 1, {}⟩) O F)] at hx'
    split at hx'
    · obtain ⟨_, _, _, ov, o, ho, _⟩ := F.fr.offC x a hx'
      constructor
      · rintro rfl; rw [fI] at ho; cases ho
      · rintro rfl; rw [fD] at ho; cases ho
    · cases hx'
theorem view_items {u : AV} {c : Value} {its : List AV} {H₀ : AH} {h₀ : Heap} {C : Prop} (hv : isView u = true) (R : Rel prog w G φ H₀ h₀) (hits : aitems H₀ u = some its) (rc : RepV h₀ φ u c)
    (k : ∀ ad d kvs ep, c = .ref ad → (∃ x, h₀.get? ad = some x ∧ x.cls = .type "dict_values" ∧ x.data = .fields #[.ref d]) → Foot φ d → h₀.DictAt (intKind prog w) d kvs ep → RepVs h₀ φ its (kvs.map (·.2)) → C) : C := by
  induction u using Mine.AV.casesOn with
  | view j =>
    simp only [RepV] at rc
    obtain ⟨ad, p, e, hp', hvw, hoff⟩ := rc
    cases hk : H₀[j]? with
    | none => simp only [aitems, hk] at hits; cases hits
    | some ob =>
      obtain ⟨p', hp'', ro⟩ := R.obj j _ hk
      rw [hp'] at hp''; cases hp''
      simp only [aitems, hk] at hits
      induction ob using Mine.AObj.casesOn with
      | dictE =>
        cases hits
        have dd : h₀.DictOf (intKind prog w) p.1 [] := ⟨_, _, _, ro.2, ⟨rfl, rfl, rfl⟩, rfl, (fun e he => by simp at he), .nil, by simp⟩
        obtain ⟨ep, hat⟩ := dd.dictAt
        exact k ad p.1 [] ep e hvw (Foot.of_get hp').1 hat .nil
      | dictI es =>
        cases hits
        obtain ⟨_, kvs, hd, rk⟩ := ro
        obtain ⟨ep, hat⟩ := hd.dictAt
        exact k ad p.1 kvs ep e hvw (Foot.of_get hp').1 hat rk.vals
      | _ => exact nos hits
  | _ => exact nof hv
theorem three_fresh {h₀ : Heap} : ∀ a ∈ [h₀.objs.size, h₀.objs.size + 1, h₀.objs.size + 2], h₀.get? a = none := fun a m => by
  refine fresh_none ?_
  simp only [List.mem_cons, List.not_mem_nil, or_false] at m
  rcases m with rfl | rfl | rfl
  · exact Nat.le_refl _
  · exact Nat.le_succ _
  · exact Nat.le_add_right _ _
theorem enter_reps {h h' : Heap} {E : List Addr} (k : ∀ b o, h.get? b = some o → h'.get? b = some o) (n : ∀ a ∈ E, h.get? a = Option.none) {l : List AV} {vs : List Value} (r : RepVs h φ l vs) : RepVs h' ⟨φ.objs, E ++ φ.ex⟩ l vs := by
  have : RepVs h ⟨φ.objs, E ++ φ.ex⟩ l vs := RepVs.reex (φ := φ) (ψ := ⟨φ.objs, E ++ φ.ex⟩) rfl (fun a o q m m' => by
    rcases List.mem_append.mp m' with m' | m'
    · rw [n a m'] at q; cases q
    · exact m m') _ _ r
  exact RepVs.step (Step.of_keeps k) _ _ this

/-- a comprehension is opened: what its loop leaves is handed on -/
theorem comp_open (g : GOk G) (ih : SimEv prog w G n) (ih1 : SimOne prog w G n) {target elt iter : Expr} {ifs : List Expr} {scope : Scope} {pos cpos : Pos} {v : AV} {H' : AH} {use : Option (Value → Sem Unit)} {Q : Value → Shared → Prop}
    (r : Room A (n + 1)) (R : Rel prog w G φ H s.heap) (F : Fr0 G sc env loc φ s.heap)
    (e : (if okComp sc scope && okTarget scope.names target && !isSet iter then
        (aev n sc loc iter H).bind fun p => (aitems p.2 p.1).bind fun its => if its.length < lenLine ∧ (isView p.1 = true → ifs.isEmpty = true ∧ simpleElt elt = true) ∧ (isView p.1 = false → isName target = true) then
          (acomp (aguard p.1 its) (fun x H' => (atarget target x (locFree scope.names loc)).bind fun loc' => acompOne n scope.names loc' ifs elt H') its p.2).map fun q => (AV.lst q.1, q.2) else none else none) = some (v, H'))
    (fin : ∀ (φ₀ : Phi) (h₀ h₁ : Heap) (tk : Nat) (I D C : Addr) (zs : List AV) (s' : Shared), v = .lst zs → Step φ s.heap φ₀ h₀ → (∀ b o, h₀.get? b = some o → h₁.get? b = some o) → (∀ a ∈ [I, D, C], h₀.get? a = none) → I ≠ D → I ≠ C → D ≠ C → Fr0 G sc env loc φ₀ h₀ →
      (∃ H₀, Rel prog w G φ₀ H₀ h₀ ∧ Rel prog w G ⟨φ₀.objs, [I, D, C] ++ φ₀.ex⟩ H₀ h₁) → Done prog w G I D C ⟨φ₀.objs, [I, D, C] ++ φ₀.ex⟩ h₁ (mkS s h₁ tk) zs H' s' → compPost (model prog w) A NoE use Q (.ref D) C (.ok .next) s') :
    wpAny (model prog w) A (comprehension (.ListComp elt [⟨target, iter, ifs, 0⟩] scope cpos) scope env pos (newList []) false (eval iter env) use) Q NoE s := by
  refine comp_at e fun u H₀ its zs O htg hset hp hits hlen hv1 hv2 hcomp hv => ?_
  refine wpAny_comprehension_free (cl := taken env scope.names []) (g := ⟨target, iter, ifs, 0⟩) (gs := []) rfl (fold_iter hset) (comp_clos O F) O.kind (fun x m hx => by rw [mem_lookup O.nodup (x := x.1) (a := x.2) m, hx]) ?_
  refine usePost (ih r.pred R F hp) fun c h₀ tk₀ φ₀ st₀ R₀ rc => ?_
  have F₀ := F.step st₀
  -- behind the iterator
  have behind : ∀ oI : Obj, (∃ o', (h₀.push oI).get? h₀.objs.size = some o') →
      (∀ (cenv : Env) (h₁ : Heap) (tk : Nat) (K : Result → Shared → Prop), cenv = compEnvC scope (taken env scope.names []) (h₀.objs.size + 2) env → (∀ b o, b ≠ h₀.objs.size + 2 → b ≠ h₀.objs.size + 1 → (h₀.push oI).get? b = some o → h₁.get? b = some o) → (∀ b o, h₀.get? b = some o → h₁.get? b = some o) →
        Rel prog w G ⟨φ₀.objs, [h₀.objs.size, h₀.objs.size + 1, h₀.objs.size + 2] ++ φ₀.ex⟩ H₀ h₁ → Fr0 G scope.names cenv (locFree scope.names loc) ⟨φ₀.objs, [h₀.objs.size, h₀.objs.size + 1, h₀.objs.size + 2] ++ φ₀.ex⟩ h₁ →
        h₁.PlainList (h₀.objs.size + 1) #[] → (∀ a, Own cenv a → a ≠ h₀.objs.size ∧ a ≠ h₀.objs.size + 1) → (∀ s', Done prog w G h₀.objs.size (h₀.objs.size + 1) (h₀.objs.size + 2) ⟨φ₀.objs, [h₀.objs.size, h₀.objs.size + 1, h₀.objs.size + 2] ++ φ₀.ex⟩ h₁ (mkS s h₁ tk) zs H' s' → K (.ok .next) s') →
        codeAny (model prog w) A (.compLoop (.ListComp elt [⟨target, iter, ifs, 0⟩] scope cpos) 0 (.ref h₀.objs.size) (.ref (h₀.objs.size + 1)) cenv) K (mkS s h₁ tk) ∧
        ∀ (Q' : Value → Shared → Prop) (E' : Value → Shared → Prop), Q' (.ref h₀.objs.size) (mkS s h₁ tk) → wpAny (model prog w) A (pyIter (.ref h₀.objs.size)) Q' E' (mkS s h₁ tk)) →
      wpAny (model prog w) A (newList []) (fun acc s₃ => wpAny (model prog w) A (newFunctionEnv scope env.globals (taken env scope.names []) [] env.qual none .none (some env)) (fun cenv s₄ =>
        codeAny (model prog w) A (.compStart (.ListComp elt [⟨target, iter, ifs, 0⟩] scope cpos) 0 (.ref h₀.objs.size) acc { cenv with scope := relabel scope env }) (compPost (model prog w) A NoE use Q acc cenv.locals) s₄) NoE s₃) NoE
        (mkS s (h₀.push oI) tk₀) := by
    intro oI hoI loop
    refine wpAny_newList ?_ (by simp)
    refine wpAny_newFunctionEnv (fun x m q => ?_) (fun x m => by cases m) (fun h₁ hns hsb => ?_) O.kind
    · rcases (O.names x.1 x.2 m).2 with e | e | ⟨e, _⟩ <;> rw [q] at e <;> cases e
    have sz1 : (h₀.push oI).objs.size = h₀.objs.size + 1 := Heap.size_push ..
    have sz2 : ((h₀.push oI).push { cls := .type "list", data := .seq ([] : List Value).toArray }).objs.size = h₀.objs.size + 2 := by rw [Heap.size_push, sz1]
    dsimp only at hns hsb ⊢
    rw [sz2] at hns hsb ⊢
    rw [sz1]
    have k1 : ∀ b o, b ≠ h₀.objs.size + 2 → b ≠ h₀.objs.size + 1 → (h₀.push oI).get? b = some o → h₁.get? b = some o := fun b o n1 n2 q =>
      hsb.extBut b o n1 (Heap.get?_push_of_some _ (Heap.get?_push_of_some _ q))
    have kp : ∀ b o, h₀.get? b = some o → h₁.get? b = some o := fun b o q => by
      have := Heap.lt_size q
      exact k1 b o (by show b ≠ _; exact Nat.ne_of_lt (Nat.lt_succ_of_lt (Nat.lt_succ_of_lt this))) (Nat.ne_of_lt (Nat.lt_succ_of_lt this)) (Heap.get?_push_of_some _ q)
    have fr := three_fresh (h₀ := h₀)
    have hID : h₀.objs.size ≠ h₀.objs.size + 1 := (Nat.succ_ne_self _).symm
    have hIC : h₀.objs.size ≠ h₀.objs.size + 2 := Nat.ne_of_lt (Nat.lt_succ_of_lt (Nat.lt_succ_self _))
    have hDC : h₀.objs.size + 1 ≠ h₀.objs.size + 2 := Nat.ne_of_lt (Nat.lt_succ_self _)
    have hacc : h₁.PlainList (h₀.objs.size + 1) #[] := by
      refine ⟨0, hsb.extBut _ _ hDC (Heap.get?_push_of_some _ ?_)⟩
      have := Heap.get?_push_size (h₀.push oI) (o := { cls := .type "list", data := .seq ([] : List Value).toArray }) rfl
      rw [sz1] at this; exact this
    have lvC : ∃ o, h₁.get? (h₀.objs.size + 2) = some o := by obtain ⟨o, _, _, ho, _⟩ := hns; exact ⟨o, ho⟩
    have R₁ := R₀.enter (h' := h₁) [h₀.objs.size, h₀.objs.size + 1, h₀.objs.size + 2] kp fun a m => ⟨fr a m, by
      simp only [List.mem_cons, List.not_mem_nil, or_false] at m
      rcases m with rfl | rfl | rfl
      · obtain ⟨o', ho'⟩ := hoI; exact ⟨o', k1 _ _ hIC hID ho'⟩
      · obtain ⟨k, hk⟩ := hacc; exact ⟨_, hk⟩
      · exact lvC⟩
    have F₁ : Fr0 G scope.names (compEnvC scope (taken env scope.names []) (h₀.objs.size + 2) env) (locFree scope.names loc) ⟨φ₀.objs, [h₀.objs.size, h₀.objs.size + 1, h₀.objs.size + 2] ++ φ₀.ex⟩ h₁ :=
      comp_frame (s := (mkS s h₀ tk₀)) O F₀ R₀ kp fr (.tail _ (.tail _ (.head _))) hns
    have hown := comp_own O F₀ (fr _ (.head _)) (fr _ (.tail _ (.head _))) hIC hDC
    obtain ⟨hl, hi⟩ := loop _ h₁ (tk₀ + ([] : List (Str × Value)).length) (compPost (model prog w) A NoE use Q (.ref (h₀.objs.size + 1)) (h₀.objs.size + 2)) rfl k1 kp R₁ F₁ hacc hown fun s' hd =>
      fin φ₀ h₀ h₁ _ _ _ _ zs s' hv st₀ kp fr hID hIC hDC F₀ ⟨H₀, R₀, R₁⟩ hd
    exact codeAny_compStart_list hl (hi _ _ hl)
  have hlf : ∀ x u, kget (locFree scope.names loc) x = some u → kget scope.names x = some .free := fun x u q => (kget_locFree q).1
  cases hview : isView u with
  | false =>
    refine iter_at (s := mkS s h₀ tk₀) R₀ hits rc hview fun oI hit o ho => ?_
    refine behind oI ⟨o, ho⟩ fun cenv h₁ tk K hce k1 kp R₁ F₁ hacc hown hK => ?_
    have it₁ : ItSt h₁ u c h₀.objs.size 0 := hit.at fun o q => k1 _ o (Nat.ne_of_lt (Nat.lt_succ_of_lt (Nat.lt_succ_self _))) (Nat.succ_ne_self _).symm q
    rw [hce] at F₁ hown ⊢
    exact ⟨comp_general (s := mkS s h₁ tk) ih1 r.pred (Nat.succ_ne_self _).symm (Nat.ne_of_lt (Nat.lt_succ_of_lt (Nat.lt_succ_self _))) (Nat.ne_of_lt (Nat.lt_succ_self _)) (fun a m => List.mem_append_left _ m) hown R₁ F₁ (rc.enter kp three_fresh) it₁ hacc hits hview hlen (hv2 hview) htg hlf hcomp hK, fun Q' E' q => it_self (s := mkS s h₁ tk) it₁ q⟩
  | true =>
    refine view_items hview R₀ hits rc fun ad d kvs ep ec hvw hd dat rits => ?_
    rw [ec]
    rw [List.isEmpty_iff.mp (hv1 hview).1] at behind hcomp ⊢
    refine wpAny_pyIter_values (s := mkS s h₀ tk₀) hvw dat ?_
    refine behind _ ⟨_, Heap.get?_push_size _ rfl⟩ fun cenv h₁ tk K hce k1 kp R₁ F₁ hacc hown hK => ?_
    have it₁ : h₁.IsValIter h₀.objs.size d 0 kvs.length ep := ⟨_, k1 _ _ (Nat.ne_of_lt (Nat.lt_succ_of_lt (Nat.lt_succ_self _))) (Nat.succ_ne_self _).symm (Heap.get?_push_size _ rfl), rfl, rfl⟩
    rw [hce] at F₁ hown ⊢
    exact ⟨comp_view (s := mkS s h₁ tk) g r.hh (Nat.succ_ne_self _).symm (Nat.ne_of_lt (Nat.lt_succ_of_lt (Nat.lt_succ_self _))) (Nat.ne_of_lt (Nat.lt_succ_self _)) (fun a m => List.mem_append_left _ m) hown R₁ F₁ hd (dat.at' fun o q => kp _ o q) it₁ (enter_reps kp three_fresh rits) hacc hlen (hv1 hview).2 htg hlf hcomp hK, fun Q' E' q => wpAny_pyIter_valiter (s := mkS s h₁ tk) it₁ q⟩
end
end Mine

namespace Mine
open PySem PySem.W PyProof.Rows PySem.SeqAt PySem.Calls

section
variable {prog : Program} {w : World} {G : Glb} {φ φ' : Phi} {H : AH} {s : Shared} {A : Around} {env : Env} {sc : Sc} {loc : Loc} {n : Nat}

/-- what a comprehension does, as the walk reckons it -/
noncomputable def compAev (n : Nat) (sc : Sc) (loc : Loc) (target elt iter : Expr) (ifs : List Expr) (scope : Scope) (H : AH) : Option (AV × AH) :=
  if okComp sc scope && okTarget scope.names target && !isSet iter then
        (aev n sc loc iter H).bind fun p => (aitems p.2 p.1).bind fun its => if its.length < lenLine ∧ (isView p.1 = true → ifs.isEmpty = true ∧ simpleElt elt = true) ∧ (isView p.1 = false → isName target = true) then
          (acomp (aguard p.1 its) (fun x H' => (atarget target x (locFree scope.names loc)).bind fun loc' => acompOne n scope.names loc' ifs elt H') its p.2).map fun q => (AV.lst q.1, q.2) else none else none

theorem ev_comp (g : GOk G) (ih : SimEv prog w G n) (ih1 : SimOne prog w G n) {target elt iter : Expr} {ifs : List Expr} {scope : Scope} {cpos : Pos} {v : AV} {H' : AH} (r : Room A (n + 1)) (R : Rel prog w G φ H s.heap) (F : Fr0 G sc env loc φ s.heap)
    (e : compAev n sc loc target elt iter ifs scope H = some (v, H')) :
    wpAny (model prog w) A (eval (.ListComp elt [⟨target, iter, ifs, 0⟩] scope cpos) env) (PostV prog w G φ s v H') NoE s := by
  show wpAny _ _ (comprehension (.ListComp elt [⟨target, iter, ifs, 0⟩] scope cpos) scope env iter.pos (newList []) false (eval iter env) none) _ _ _
  refine comp_open g ih ih1 r R F e fun φ₀ h₀ h₁ tk I D C zs s' hv st₀ kp fr hID hIC hDC F₀ hR hd => ?_
  subst hv
  obtain ⟨H₀, R₀, R₁⟩ := hR
  induction hd with | mk φ' h' h2 tk' cys m st R' k2 hn acc rzs
  have exs : φ'.ex = [I, D, C] ++ φ₀.ex := st.ex
  have nf : ∀ a ∈ [I, D, C], a ∉ φ₀.ex := fun a m q => by obtain ⟨⟨z, e⟩, _⟩ := R₀.exl a q; rw [fr a m] at e; cases e
  have sub : ∀ a ∈ φ₀.ex, a ∈ φ'.ex := fun a m => by rw [exs]; exact List.mem_append_right _ m
  refine ⟨m, hn.at' fun o q => k2 C o (Ne.symm hIC) q, fun h3 sb => ?_⟩
  have k' : ∀ b z, (b ∉ φ'.ex ∨ b ∈ φ₀.ex) → h'.get? b = some z → h3.get? b = some z := fun b z q e => by
    have hb : b ∉ [I, D, C] := fun m => q.elim (fun q => q (by rw [exs]; exact List.mem_append_left _ m)) (nf b m)
    have hb' : b ≠ I ∧ b ≠ D ∧ b ≠ C := by simpa using hb
    exact sb.extBut b z hb'.2.2 (k2 b z hb'.1 e)
  have stw : StepX (fun a => NoX a ∨ a ∈ [I, D, C]) ⟨φ₀.objs, [I, D, C] ++ φ₀.ex⟩ h₁ φ' h' := StepX.wide st (fun a m => .inr m) fun a m _ => (R₁.exl a (m.elim (fun f => f.elim) fun m => List.mem_append_left _ m)).2
  have back : Step φ₀ h₀ ⟨φ'.objs, φ₀.ex⟩ h3 := StepX.back kp fr stw (fun a f => f.elim) k'
  refine ⟨h3, tk', ⟨φ'.objs, φ₀.ex⟩, st₀.trans back, R'.lose sub k', ?_⟩
  simp only [RepV]
  obtain ⟨k, hk⟩ := acc
  have mD : D ∈ φ'.ex := by rw [exs]; exact .tail _ (.head _)
  refine ⟨D, cys, rfl, ⟨_, sb.extBut _ _ hDC (k2 _ _ (Ne.symm hID) hk), rfl, _, rfl⟩, ⟨(R'.exl D mD).2, nf D (.tail _ (.head _))⟩, RepVs.lose sub k' _ _ rzs⟩

theorem sim_use (g : GOk G) (ih : SimEv prog w G n) (ih1 : SimOne prog w G n) : SimUse prog w G (n + 1) := by
  intro A φ H s env sc loc elt gens scope cpos x xp v H' r R F hk e
  obtain ⟨target, iter, ifs, rfl⟩ : ∃ target iter ifs, gens = [⟨target, iter, ifs, 0⟩] := by
    induction gens using List.casesOn with
    | nil => exact nos e
    | cons c cs =>
      obtain ⟨t, i, f, a⟩ := c
      cases a with
      | ofNat a =>
        cases a with
        | zero =>
          induction cs using List.casesOn with
          | nil => exact ⟨_, _, _, rfl⟩
          | cons _ _ => exact nos e
        | succ _ => cases cs <;> exact nos e
      | negSucc _ => cases cs <;> exact nos e
  have e : compAev n sc loc target elt iter ifs scope H = some (v, H') := e
  show wpAny _ _ (comprehension (.ListComp elt [⟨target, iter, ifs, 0⟩] scope cpos) scope env iter.pos (newList []) false (eval iter env) (some (assign (.Name x xp) env)) >>= fun _ => pure ()) _ _ _
  refine wpAny_bind (wpAny_mono (Q := fun _ s' => PostA prog w G env sc (Own env) φ s (kput loc x v) H' s') (E := NoE) ?_ (fun _ _ q => wpAny_pure q) fun _ _ q => q)
  refine comp_open g ih ih1 r R F e fun φ₀ h₀ h₁ tk I D C zs s' hv st₀ kp fr hID hIC hDC F₀ hR hd => ?_
  subst hv
  obtain ⟨H₀, R₀, R₁⟩ := hR
  induction hd with | mk φ' h' h2 tk' cys m st R' k2 hn acc rzs
  have exs : φ'.ex = [I, D, C] ++ φ₀.ex := st.ex
  have nf : ∀ a ∈ [I, D, C], a ∉ φ₀.ex := fun a m q => by obtain ⟨⟨z, e⟩, _⟩ := R₀.exl a q; rw [fr a m] at e; cases e
  have nown : ∀ a, Own env a → a ∉ [I, D, C] := fun a o m => nf a m (F₀.own a o)
  have sub : ∀ a ∈ C :: φ₀.ex, a ∈ φ'.ex := fun a m => by
    rw [exs]
    rcases List.mem_cons.mp m with rfl | m
    · exact .tail _ (.tail _ (.head _))
    · exact List.mem_append_right _ m
  have kc : ∀ b z, (b ∉ φ'.ex ∨ b ∈ C :: φ₀.ex) → h'.get? b = some z → h2.get? b = some z := fun b z q e => by
    refine k2 b z (fun hb => ?_) e
    subst hb
    rcases q with q | q
    · exact q (by rw [exs]; exact .head _)
    · rcases List.mem_cons.mp q with q | q
      · exact hIC q
      · exact nf b (.head _) q
  have Rc := R'.lose sub kc
  have F' : Fr0 G sc env loc φ' h' := (F₀.enter kp fr).stepX st (fun a m => List.mem_append_left _ m) nown
  have Fc : Fr0 G sc env loc ⟨φ'.objs, C :: φ₀.ex⟩ h2 := F'.lose (fun a o => .tail _ (F₀.own a o)) sub kc
  obtain ⟨k, hk'⟩ := acc
  have mD : D ∈ φ'.ex := by rw [exs]; exact .tail _ (.head _)
  have rz : RepV h2 ⟨φ'.objs, C :: φ₀.ex⟩ (.lst zs) (.ref D) := by
    simp only [RepV]
    refine ⟨D, cys, rfl, ⟨_, k2 _ _ (Ne.symm hID) hk', rfl, _, rfl⟩, ⟨(R'.exl D mD).2, fun q => ?_⟩, RepVs.lose sub kc _ _ rzs⟩
    rcases List.mem_cons.mp q with q | q
    · exact hDC q
    · exact nf D (.tail _ (.head _)) q
  have hCL : C ≠ env.locals := fun q => nown env.locals (.inl rfl) (by rw [← q]; exact .tail _ (.tail _ (.head _)))
  refine wpAny_assign_Name (wpAny_mono (store_local' (s := (mkS s h2 tk')) Rc Fc hk rz) (fun _ s4 h4 => ?_) fun _ _ q => q)
  obtain ⟨h4, tk4, rfl, k4, st4, R4, F4⟩ := h4
  refine ⟨m, (hn.at' fun o q => k2 C o (Ne.symm hIC) q).at' fun o q => k4 C o hCL q, fun h5 sb => ?_⟩
  have sub5 : ∀ a ∈ φ₀.ex, a ∈ C :: φ₀.ex := fun a m => .tail _ m
  have k5 : ∀ b z, (b ∉ C :: φ₀.ex ∨ b ∈ φ₀.ex) → h4.get? b = some z → h5.get? b = some z := fun b z q e => sb.extBut b z (fun hb => by
    subst hb
    rcases q with q | q
    · exact q (.head _)
    · exact nf b (.tail _ (.tail _ (.head _))) q) e
  refine ⟨h5, tk4, ⟨φ'.objs, φ₀.ex⟩, (Step.own st₀ F).trans ⟨fun b o nfo nx q => ?_, st.grow, rfl, fun a fa => ?_, fun a o lv => ?_⟩, R4.lose sub5 k5, F4.lose (fun a o => F₀.own a o) sub5 k5⟩
  · have hb : b ∉ [I, D, C] := fun m => by rw [fr b m] at q; cases q
    have hb' : b ≠ I ∧ b ≠ D ∧ b ≠ C := by simpa using hb
    exact sb.extBut b o hb'.2.2 (k4 b o (fun e => nx (.inl e)) (k2 b o hb'.1 (st.keep b o nfo hb (kp b o q))))
  · rcases st.fresh a fa with q | q
    · exact .inl q
    · refine .inr ?_
      cases z : h₀.get? a with
      | none => rfl
      | some o => rw [kp a o z] at q; cases q
  · obtain ⟨o', ho'⟩ := Own.live F4.fr o
    refine ⟨o', sb.extBut a o' (fun e => ?_) ho'⟩
    obtain ⟨z, hz⟩ := lv
    rw [e, fr C (.tail _ (.tail _ (.head _)))] at hz; cases hz

/-- the walk's level n: all that it says holds in the model -/
structure Sim (prog : Program) (w : World) (G : Glb) (n : Nat) : Prop where
  ev : SimEv prog w G n
  opt : SimOpt prog w G n
  one : SimOne prog w G n
  evs : SimEvs prog w G n
  dict : SimDict prog w G n
  dicts : SimDicts prog w G n
  bool : SimBool prog w G n
  test : SimTest prog w G n
  all : SimAll prog w G n
  callN : SimCallN prog w G n
  meth : SimMeth prog w G n
  code : SimCode prog w G n
  exs : SimExs prog w G n
  ex : SimEx prog w G n
  assign : SimAssign prog w G n
  assigns : SimAssigns prog w G n
  use : SimUse prog w G n

theorem sim_ev (g : GOk G) (S : Sim prog w G n) : SimEv prog w G (n + 1) := by
  intro A φ H s env sc loc e v H' r R F q
  induction e using PySem.Expr.casesOn with
  | Constant c k p =>
    refine omC q fun u hu q => ?_
    cases q
    exact sim_const R hu
  | Name x p =>
    refine omC q fun u hu q => ?_
    cases q
    exact sim_name g R F hu
  | BinOp _ _ _ _ => exact ev_bin S.ev r R F q
  | UnaryOp op _ _ =>
    induction op using PySem.UnaryOp.casesOn with
    | USub => exact ev_neg S.ev r R F q
    | _ => exact nos q
  | BoolOp _ _ _ => rw [arm_eval_BoolOp]; exact S.bool r.pred R F q
  | Compare l ops rs p =>
   induction ops using List.casesOn with
   | nil => exact nos q
   | cons op ops =>
   induction ops using List.casesOn with
   | cons _ _ => exact nos q
   | nil =>
   induction rs using List.casesOn with
   | nil => exact nos q
   | cons r' rs =>
   induction rs using List.casesOn with
   | cons _ _ => exact nos q
   | nil =>
    obtain ⟨hset, q⟩ := itl q
    exact ev_cmp S.ev r R F (by simpa using hset) q
  | IfExp _ _ _ _ => exact ev_if S.ev S.test r R F q
  | Subscript v' s' p =>
    induction s' using PySem.Expr.casesOn with
    | Slice lo up st sp =>
      induction st using Option.casesOn with
      | none => exact ev_slice S.ev S.opt r R F q
      | some x => exact ev_sub S.ev r R F (fun lo up sp hs => by cases hs) q
    | _ => exact ev_sub S.ev r R F (fun lo up sp hs => by cases hs) q
  | Attribute o a p =>
    obtain ⟨hb, q⟩ := itl q
    exact ev_attr g S.ev r R F (by simpa using hb) q
  | Call f as ks p =>
    induction f using PySem.Expr.casesOn with
    | Name f fp =>
      induction ks using List.casesOn with
      | nil => exact ev_callN g S.evs S.callN r R F (itr q).2
      | cons _ _ => exact nos q
    | Attribute o m ap =>
      induction ks using List.casesOn with
      | nil =>
        obtain ⟨hc, q⟩ := itr q
        exact ev_meth g S.ev S.evs S.meth r R F hc.2.1 hc.1 hc.2.2 q
      | cons _ _ => exact nos q
    | _ => exact nos q
  | List _ _ => exact ev_list S.evs g r R F q
  | Tuple _ _ _ => exact ev_tuple S.evs r R F q
  | Dict _ _ _ => exact S.dict r.pred R F q
  | ListComp elt gens scope p =>
    induction gens using List.casesOn with
    | nil => exact nos q
    | cons c cs =>
      obtain ⟨t, i, f, a⟩ := c
      cases a with
      | ofNat a =>
        cases a with
        | zero =>
          induction cs using List.casesOn with
          | nil => exact ev_comp g S.ev S.one r R F q
          | cons _ _ => exact nos q
        | succ _ => cases cs <;> exact nos q
      | negSucc _ => cases cs <;> exact nos q
  | _ => exact nos q

theorem sim_all_levels (g : GOk G) : ∀ n, Sim prog w G n
  | 0 => {
      ev := fun r R F e => by exact nos e
      opt := fun r R F e => by unfold aopt at e; cases e
      one := fun r R F e => by unfold acompOne at e; cases e
      evs := fun r R F e => by unfold aevs at e; cases e
      dict := fun r R F e => by unfold adict at e; cases e
      dicts := fun r R F e => by unfold adicts at e; cases e
      bool := fun r R F e => by unfold abool at e; cases e
      test := fun r R F e => by exact nos e
      all := fun r R F e => by unfold aall at e; cases e
      callN := fun e => by unfold acallN at e; cases e
      meth := fun e => by unfold ameth at e; cases e
      code := fun r R ra hok hat e => by unfold acall at e; cases e
      exs := fun r R F e => by unfold aexs at e; cases e
      ex := fun r R F e => by exact nos e
      assign := fun r R F rc e => by unfold aassign at e; cases e
      assigns := fun r R F rs e => by unfold aassigns at e; cases e
      use := fun r R F hk e => by exact nos e }
  | n + 1 =>
    have S := sim_all_levels g n
    { ev := sim_ev g S
      opt := sim_opt S.ev
      one := sim_one S.ev S.test
      evs := sim_evs S.ev S.evs
      dict := sim_dict g S.dicts
      dicts := sim_dicts S.ev S.dicts
      bool := sim_bool S.ev S.bool
      test := sim_test S.ev S.test S.all
      all := sim_all S.test S.all
      callN := sim_callN g S.code
      meth := sim_meth S.code
      code := sim_code g S.exs
      exs := sim_exs S.ex S.exs
      ex := sim_ex g S.ev S.test S.assign S.use S.exs
      assign := sim_assign g S.ev S.assigns
      assigns := sim_assigns S.assign S.assigns
      use := sim_use g S.ev S.one }
end
end Mine

namespace Mine
open PySem PySem.W PyProof.Rows PySem.SeqAt PySem.Calls

noncomputable def FnAtK (K : Frag) (f : Addr) (fd : FD) : Prop :=
  ∃ oc od osl qual kV doc pm an cdv ct, K.lookup f = some ⟨oc, od, .func (fnOf fd.name qual fd.params fd.body fd.scope .none kV doc pm an cdv ct), osl⟩ ∧ codeIn K cdv qual = true
noncomputable def FnK (K : Frag) (x : Str) (i : Nat) : Prop := ∃ fd f, fdef i = some fd ∧ okFD fd = true ∧ nsIn K mainGlobals x = some (some (.ref f)) ∧ FnAtK K f fd
noncomputable def InitK (K : Frag) (C : Addr) (p : Nat) : Prop := ∃ fd f, mdef p 0 = some fd ∧ okFD fd = true ∧ findIn K (.ref C) "__init__" = some (some (.ref f)) ∧ typeIn K (.ref f) = some (.type "function") ∧ FnAtK K f fd
noncomputable def MethK (K : Frag) (C : Addr) (p : Nat) (m : Str) (j : Nat) : Prop := ∃ fd f, mdef p j = some fd ∧ okFD fd = true ∧ findIn K (.ref C) m = some (some (.ref f)) ∧ isFn K (.ref f) = true ∧ FnAtK K f fd
noncomputable def ConK (K : Frag) (x : Str) (i : Int) : Prop := ∃ t, nsIn K mainGlobals x = some (some (.int i t))
noncomputable def FieldK (K : Frag) (C : Addr) (x : Str) : Prop := ∃ attr, findIn K (.ref C) x = some attr ∧ noGet K attr = true ∧ takerIn K C x = some none
noncomputable def ClsK (K : Frag) (C : Addr) (x : Str) : Prop := nsIn K mainGlobals x = some (some (.ref C)) ∧ makesIn K C = true ∧ keepIn K (.ref C) = true ∧ plainOver K C = true ∧ hasDictIn K C = true ∧
  findIn K (.ref C) "__setattr__" = some (some (.builtin "object.__setattr__")) ∧ findIn K (.ref C) "__getattribute__" = some (some (.builtin "object.__getattribute__")) ∧ findIn K (.ref C) "__getattr__" = some none
noncomputable def FreeK (K : Frag) (x : Str) : Prop := nsIn K mainGlobals x = some none
noncomputable def TupK (K : Frag) (x : Str) (l : List Str) : Prop := ∃ a oc od osl n ts, nsIn K mainGlobals x = some (some (.ref a)) ∧ K.lookup a = some ⟨oc, od, .seq (((l.zip ts).map fun p => Value.str p.1 p.2).toArray) n, osl⟩ ∧ oc = .type "tuple" ∧ ts.length = l.length

theorem str_reps {h : Heap} {φ : Phi} : ∀ (l : List Str) (ts : List Tok), ts.length = l.length → RepVs h φ (l.map .str) ((l.zip ts).map fun p => Value.str p.1 p.2)
  | [], ts, _ => by simp only [List.map_nil, List.zip_nil_left, RepVs]
  | x :: l, [], e => by cases e
  | x :: l, t :: ts, e => RepVs.cons (by simp only [RepV]; exact ⟨t, rfl⟩) (str_reps l ts (Nat.succ.inj e))

noncomputable def MethK' (K : Frag) (C : Addr) (q : Nat) (p : Str × Nat) : Prop := ∃ fd f, mdef q p.2 = some fd ∧ okFD fd = true ∧ findIn K (.ref C) p.1 = some (some (.ref f)) ∧ typeIn K (.ref f) = some (.type "function") ∧ FnAtK K f fd
theorem any_field {l : List Str} {x : Str} {P : Str → Prop} (h : ∀ y ∈ l, P y) (e : (l.any fun y => decide (x = y)) = true) : P x := by
  obtain ⟨y, m, q⟩ := List.any_eq_true.mp e
  rw [of_decide_eq_true q]; exact h y m
theorem gok_of {K : Frag} {hb : Heap} {mg mb : Str → Option Value} {c0 c1 : Addr} (X : K.In hb) (nl : hb.NoLimit) (g : hb.Ns mainGlobals mg) (b : hb.Ns builtinsNs mb) (bb : ∀ x : Str, x ≠ "__name__" → mb x = bootBuiltins x)
    (fn : ∀ p ∈ fnNames, FnK K p.1 p.2) (gc : ∀ p ∈ conNames, ConK K p.1 p.2) (tp : TupK K "SPACE_ORDER" ["initial", "handshake", "application"]) (fr : ∀ x ∈ freeNames, FreeK K x) (cl0 : ClsK K c0 "Rtt") (cl1 : ClsK K c1 "NewReno")
    (m0 : ∀ p ∈ rttNames, MethK' K c0 5 p) (m1 : ∀ p ∈ renNames, MethK' K c1 23 p) (f0 : ∀ x ∈ rttFields, FieldK K c0 x) (f1 : ∀ x ∈ renFields, FieldK K c1 x) :
    GOk ⟨K, hb, mg, mb, fun c => if c = 0 then c0 else c1⟩ where
  kin := X
  nolimit := nl
  gns := g
  bns := b
  fn := fun x i fd' e e' => by
    obtain ⟨fd, f, h1, h2, h3, h4⟩ := fn _ (kget_mem e)
    cases Option.some.inj (h1.symm.trans e')
    exact ⟨h2, f, mg_of X g h3, h4⟩
  gc := fun x v e => by
    have e : (match kget conNames x with
      | some i => some (AV.int i)
      | none => if x = "SPACE_ORDER" then some (.tup [.str "initial", .str "handshake", .str "application"]) else none) = some v := e
    cases hk : kget conNames x with
    | some i =>
      rw [hk] at e
      cases e
      obtain ⟨t, ht⟩ := gc _ (kget_mem hk)
      exact ⟨_, mg_of X g ht, by simp only [RepV]; exact ⟨t, rfl⟩⟩
    | none =>
      rw [hk] at e
      obtain ⟨hx, e⟩ := itr e
      cases e
      subst hx
      obtain ⟨a, oc, od, osl, n, ts, e, ho, hoc, hl⟩ := tp
      refine ⟨_, mg_of X g e, ?_⟩
      simp only [RepV]
      exact ⟨a, _, rfl, ⟨_, X _ _ ho, hoc, n, rfl⟩, ⟨(fun ⟨p, hp, _⟩ => nomatch hp), (fun q => nomatch q)⟩, str_reps ["initial", "handshake", "application"] ts hl⟩
  bi := by
    refine all_cons ⟨mg_none_of X g (fr _ ?_), (bb _ ?_).trans ?_⟩ (all_cons ⟨mg_none_of X g (fr _ ?_), (bb _ ?_).trans ?_⟩ (all_cons ⟨mg_none_of X g (fr _ ?_), (bb _ ?_).trans ?_⟩ (all_cons ⟨mg_none_of X g (fr _ ?_), (bb _ ?_).trans ?_⟩
      (all_cons ⟨mg_none_of X g (fr _ ?_), (bb _ ?_).trans ?_⟩ (all_cons ⟨mg_none_of X g (fr _ ?_), (bb _ ?_).trans ?_⟩ (all_cons ⟨mg_none_of X g (fr _ ?_), (bb _ ?_).trans ?_⟩ fun x m => nomatch m))))))
    all_goals decide +kernel
  ty := by
    refine all_cons ⟨mg_none_of X g (fr _ ?_), (bb _ ?_).trans ?_⟩ (all_cons ⟨mg_none_of X g (fr _ ?_), (bb _ ?_).trans ?_⟩ fun x m => nomatch m)
    all_goals decide +kernel
  cl := fun x c e => (show ∀ p ∈ clsNames, mg p.1 = some (.ref (if p.2 = 0 then c0 else c1)) ∧ makesIn K (if p.2 = 0 then c0 else c1) = true ∧ keepIn K (.ref (if p.2 = 0 then c0 else c1)) = true from
    all_cons ⟨mg_of X g cl0.1, cl0.2.1, cl0.2.2.1⟩ (all_cons ⟨mg_of X g cl1.1, cl1.2.1, cl1.2.2.1⟩ all_nil)) _ (kget_mem e)
  init := fun c fd hc e => by
    match c, hc with
    | 0, _ =>
      obtain ⟨fd', f, h1, h2, h3, h4, h5⟩ := m0 _ (.head _)
      cases Option.some.inj (h1.symm.trans e)
      exact ⟨h2, f, h3, h4, h5⟩
    | 1, _ =>
      obtain ⟨fd', f, h1, h2, h3, h4, h5⟩ := m1 _ (.head _)
      cases Option.some.inj (h1.symm.trans e)
      exact ⟨h2, f, h3, h4, h5⟩
  meth := fun c m j fd e e' => by
    refine iteS e (fun h e => ?_) fun h e => iteS e (fun h e => ?_) fun h e => nos e
    · subst h
      obtain ⟨fd', f, h1, h2, h3, h4, h5⟩ := m0 _ (kget_mem e)
      cases Option.some.inj (h1.symm.trans e')
      exact ⟨h2, f, h3, beq_iff_eq.mpr h4, h5⟩
    · subst h
      obtain ⟨fd', f, h1, h2, h3, h4, h5⟩ := m1 _ (kget_mem e)
      cases Option.some.inj (h1.symm.trans e')
      exact ⟨h2, f, h3, beq_iff_eq.mpr h4, h5⟩
  plain := fun c hc => by
    match c, hc with
    | 0, _ => exact cl0.2.2.2
    | 1, _ => exact cl1.2.2.2
  field := fun c x e => by
    have one : ∀ {C : Addr} {x : Str}, FieldK K C x → (∃ attr, findIn K (.ref C) x = some attr ∧ noGet K attr = true) ∧ takerIn K C x = some none := fun {C x} ⟨attr, h1, h2, h3⟩ => ⟨⟨attr, h1, h2⟩, h3⟩
    by_cases h : c = 0
    · subst h; exact one (any_field f0 e)
    · have e : (if c = 1 then renFields.any fun y => decide (x = y) else false) = true := (if_neg h).symm.trans e
      by_cases h1 : c = 1
      · subst h1; exact one (any_field f1 e)
      · rw [if_neg h1] at e; exact nof e

theorem exs_of_call {n : Nat} {fd : FD} {args : List AV} {H : AH} {b : Bool} {H' : AH} (e : acall (n + 1) (some fd) args H = some (.bool b, H')) :
    ∃ loc', aexs n fd.scope.names ((fd.params.args.map (·.arg)).zip args) fd.body H = some (.ret (.bool b), loc', H') := by
  unfold acall at e
  simp only [] at e
  split at e
  case isFalse => cases e
  refine omC3 e fun fl loc' H'' hp e => ?_
  cases fl <;> simp only [Prod.mk.injEq] at e
  · cases e.1
  · cases e.1
  · obtain ⟨e1, e2⟩ := e; subst e1; subst e2; exact ⟨loc', hp⟩

theorem intsAre_rep {h : Heap} {φ : Phi} : ∀ {vs : List Value} {ns : List Int}, IntsAre vs ns → RepVs h φ (ns.map .int) vs := by
  intro vs ns hI
  induction hI with
  | nil => exact RepVs.nil
  | cons => rename_i ih; exact RepVs.cons (by simp only [RepV]; exact ⟨_, rfl⟩) ih

theorem nofoot0 {ex : List Addr} {a : Addr} : ¬ Foot ⟨[], ex⟩ a := fun ⟨_, hp, _⟩ => nomatch hp
theorem start_frame {prog : Program} {w : World} {G : Glb} {h1 : Heap} {L w2 fa : Addr} {w1 : List Value} {ns : List Int} {p name : Str} {scope : Scope} {cd : Value}
    (hL : G.hb.IsList w2 w1.toArray) (hI : IntsAre w1 ns) (F : Fr G.hb L h1 (fun x => List.lookup x [(p, Value.ref w2)]))
    (hk : scope.kind = .function) (hs : (scope.names.all fun x => x.2 != .free && x.2 != .cell && x.1 != ("__debug__" : Str)) = true) :
    Rel prog w G ⟨[], [L]⟩ [] h1 ∧ Fr0 G scope.names (envOf name scope L fa cd) [(p, .lst (ns.map .int))] ⟨[], [L]⟩ h1 := by
  have hbL : G.hb.get? L = none := by
    cases q : G.hb.get? L with
    | none => rfl
    | some o => exact absurd (Nat.lt_of_lt_of_le (Heap.lt_size q) F.above) (Nat.lt_irrefl _)
  have hLl : ∃ o, h1.get? L = some o := by obtain ⟨o, es, ep, ho, _⟩ := F.ns; exact ⟨o, ho⟩
  have kinds : ∀ x k, scope.names.lookup x = some k → k ≠ .free ∧ k ≠ .cell ∧ (x == ("__debug__" : Str)) = false := fun x k q => by
    have := List.all_eq_true.mp hs _ (mem_of_lookup q)
    simp only [Bool.and_eq_true, bne_iff_ne, ne_eq] at this
    exact ⟨this.1.1, this.1.2, beq_eq_false_iff_ne.mpr this.2⟩
  have hw2 : w2 ≠ L := fun e => by obtain ⟨o, ho, _⟩ := hL; rw [e, hbL] at ho; cases ho
  have R : Rel prog w G ⟨[], [L]⟩ [] h1 := by
    refine ⟨rfl, fun a m => ?_, F.keep, fun a f => (nofoot0 f).elim, fun a f => (nofoot0 f).elim, fun i j p q e => (by simp at e), fun a m => ?_, fun k o e => (by simp at e)⟩
    · cases List.mem_singleton.mp m; exact hbL
    · cases List.mem_singleton.mp m; exact ⟨hLl, nofoot0⟩
  have rep : RepV h1 ⟨[], [L]⟩ (.lst (ns.map .int)) (.ref w2) := by
    simp only [RepV]
    refine ⟨w2, w1, rfl, ?_, ⟨nofoot0, fun m => hw2 (List.mem_singleton.mp m)⟩, intsAre_rep hI⟩
    obtain ⟨o, ho, z⟩ := hL
    exact ⟨o, F.keep _ _ ho, z⟩
  refine ⟨R, ⟨⟨hk, rfl, rfl, ⟨_, F.ns, fun x v kx hv => ?_⟩, fun x kx => ?_, (fun x y a ha => nomatch ha), ⟨List.mem_singleton.mpr rfl, nofoot0, hbL⟩, (fun x a ha => nomatch ha), fun x kx => (kinds x _ kx).1 rfl⟩, fun x => ?_, fun x hx => ?_⟩⟩
  · simp only [kget] at hv
    split at hv
    · rename_i e; cases hv; subst e
      exact ⟨_, (by simp), rep⟩
    · cases hv
  · exact ((kinds x _ kx).2.1 rfl).elim
  · rw [kget_lookup]
    have e : (envOf name scope L fa cd).kindOf x = scope.names.lookup x := rfl
    rw [e]
    cases q : scope.names.lookup x with
    | none => trivial
    | some k => cases k <;> first | rfl | trivial | exact absurd rfl (kinds x _ q).1
  · rw [kget_lookup] at hx
    obtain ⟨k, hk⟩ := Option.isSome_iff_exists.mp hx
    exact (kinds x k hk).2.2

theorem finish {prog : Program} {w : World} {G : Glb} (g : GOk G) {A : Around} {fd : FD} {L w2 fa : Addr} {w1 : List Value} {ns : List Int} {p name : Str} {cd : Value} {s : Shared} {H' : AH} {Q : Flow → Shared → Prop} {E : Value → Shared → Prop}
    (hfd : fdef 41 = some fd) (hp : fd.params.args.map (·.arg) = [p]) (hk : fd.scope.kind = .function) (hs : (fd.scope.names.all fun x => x.2 != .free && x.2 != .cell && x.1 != ("__debug__" : Str)) = true)
    (r : Room A 99) (hL : G.hb.IsList w2 w1.toArray) (hI : IntsAre w1 ns) (F : Fr G.hb L s.heap (fun x => List.lookup x [(p, Value.ref w2)]))
    (e : acall 100 (fdef 41) [.lst (ns.map .int)] [] = some (.bool true, H'))
    (post : ∀ h' tk, (∀ b o, G.hb.get? b = some o → h'.get? b = some o) → Q (.ret (.bool true)) (mkS s h' tk)) :
    wpAny (model prog w) A (execs fd.body (envOf name fd.scope L fa cd)) Q E s := by
  rw [hfd] at e
  obtain ⟨loc', e⟩ := exs_of_call e
  rw [hp] at e
  obtain ⟨R, F0⟩ := start_frame (prog := prog) (w := w) (name := name) (fa := fa) (cd := cd) hL hI F hk hs
  refine usePostX ((sim_all_levels g 99).exs r R F0 e) fun fl h' tk φ' st R' F' hf => ?_
  simp only [FlowR, RepV] at hf
  obtain ⟨c, rfl, rfl⟩ := hf
  exact post h' tk R'.base
end Mine

namespace Mine
open PySem PySem.W PyProof.Rows PySem.SeqAt PySem.Calls

theorem there_inv {o : Option (Option Value)} {v : Value} (e : there o = some v) : o = some (some v) := by
  cases o with
  | none => exact nos e
  | some o => exact congrArg some e
theorem vRef_inv {v : Value} {a : Addr} (e : vRef v = some a) : v = .ref a := by
  induction v using PySem.Value.casesOn with
  | ref b => cases e; rfl
  | _ => exact nos e
theorem vTy_inv {v : Value} {s : String} (e : vTy v = some s) : v = .type s := by
  induction v using PySem.Value.casesOn with
  | type b => cases e; rfl
  | _ => exact nos e
theorem vBlt_inv {v : Value} {s : String} (e : vBlt v = some s) : v = .builtin s := by
  induction v using PySem.Value.casesOn with
  | builtin b => cases e; rfl
  | _ => exact nos e
theorem vInt_inv {v : Value} {i : Int} (e : vInt v = some i) : ∃ t, v = .int i t := by
  induction v using PySem.Value.casesOn with
  | int j t => cases e; exact ⟨t, rfl⟩
  | _ => exact nos e
theorem vStr_inv {v : Value} {x : Str} (e : vStr v = some x) : ∃ t, v = .str x t := by
  induction v using PySem.Value.casesOn with
  | str j t => cases e; exact ⟨t, rfl⟩
  | _ => exact nos e
theorem dSeq_inv {d : Data} {a : Array Value} (e : dSeq d = some a) : ∃ n, d = .seq a n := by
  induction d using PySem.Data.casesOn with
  | seq b n => cases e; exact ⟨n, rfl⟩
  | _ => exact nos e
theorem dFun_inv {d : Data} {f : FuncData} (e : dFun d = some f) : d = .func f := by
  induction d using PySem.Data.casesOn with
  | func b => cases e; rfl
  | _ => exact nos e
theorem bStm_inv {d : FuncBody} {b : List Stmt} (e : bStm d = some b) : d = .stmts b := by
  induction d using PySem.FuncBody.casesOn with
  | stmts b' => cases e; rfl
  | _ => exact nos e
theorem noneV_inv {v : Value} (h : noneV v = true) : v = .none := by
  induction v using PySem.Value.casesOn with
  | none => rfl
  | _ => exact nof h
theorem refOf_inv {o : Option (Option Value)} {a : Addr} (e : refOf o = some a) : o = some (some (.ref a)) := obC e fun v hv e => by rw [there_inv hv, vRef_inv e]
theorem fnB_at {K : Frag} {v : Option (Option Value)} {fd : FD} (e : fnB K v = some (fdT fd)) : ∃ f, v = some (some (.ref f)) ∧ typeIn K (.ref f) = some (.type "function") ∧ FnAtK K f fd := by
  refine obC e fun f hf e1 => obC e1 fun o ho e2 => ?_
  clear e e1
  obtain ⟨oc, od, odata, osl⟩ := o
  have e3 := itr e2
  clear e2
  obtain ⟨hty, e4⟩ := e3
  refine obC e4 fun d hd e5 => obC e5 fun b hb e6 => ?_
  clear e4 e5
  obtain ⟨hc, e⟩ := itr e6
  clear e6
  obtain rfl := vTy_inv hty
  obtain rfl := dFun_inv hd
  refine ⟨f, refOf_inv hf, congrArg (Option.map Obj.cls) ho, ?_⟩
  obtain ⟨h1, hc⟩ := Bool.and_eq_true_iff.mp hc
  obtain ⟨h2, hc⟩ := Bool.and_eq_true_iff.mp hc
  obtain ⟨h3, hc⟩ := Bool.and_eq_true_iff.mp hc
  obtain ⟨h4, h5⟩ := Bool.and_eq_true_iff.mp hc
  replace h1 := of_decide_eq_true h1
  replace h4 := of_decide_eq_true h4
  replace h2 := List.isEmpty_iff.mp h2
  replace h3 := noneV_inv h3
  replace hb := bStm_inv hb
  cases d
  dsimp only at hb h1 h2 h3 h4 h5 e
  subst hb h1 h2 h3 h4
  cases e
  exact ⟨_, _, _, _, _, _, _, _, _, _, ho, h5⟩
theorem bltB_at {o : Option (Option Value)} {s : String} (h : bltB o s = true) : o = some (some (.builtin s)) := obC (of_decide_eq_true h) fun v hv e => by rw [there_inv hv, vBlt_inv e]
theorem noneB_at {o : Option (Option Value)} (h : noneB o = true) : o = some none := by
  cases o with
  | none => exact nof h
  | some v => exact congrArg some (Option.isNone_iff_eq_none.mp h)
theorem conB_at {K : Frag} {x : Str} {i : Int} (h : conB K x i = true) : ConK K x i := obC (of_decide_eq_true h) fun v hv e => by
  obtain ⟨t, rfl⟩ := vInt_inv e
  exact ⟨t, there_inv hv⟩
theorem clsB_at {K : Frag} {x : Str} (h : clsB K x = true) : ClsK K (clsOf K x) x := by
  obtain ⟨h1, h⟩ := Bool.and_eq_true_iff.mp h
  obtain ⟨h2, h⟩ := Bool.and_eq_true_iff.mp h
  obtain ⟨h3, h⟩ := Bool.and_eq_true_iff.mp h
  obtain ⟨h4, h⟩ := Bool.and_eq_true_iff.mp h
  obtain ⟨h5, h⟩ := Bool.and_eq_true_iff.mp h
  obtain ⟨h6, h⟩ := Bool.and_eq_true_iff.mp h
  obtain ⟨h7, h8⟩ := Bool.and_eq_true_iff.mp h
  refine ⟨?_, h2, h3, h4, h5, bltB_at h6, bltB_at h7, noneB_at h8⟩
  obtain ⟨a, ha⟩ := Option.isSome_iff_exists.mp h1
  have : clsOf K x = a := by unfold clsOf; rw [ha]; rfl
  rw [this]; exact refOf_inv ha
theorem fieldB_at {K : Frag} {C : Addr} {x : Str} (h : fieldB K C x = true) : FieldK K C x := by
  unfold fieldB at h
  cases e : findIn K (.ref C) x with
  | none => rw [e] at h; exact nof h
  | some attr =>
    rw [e] at h
    have h := Bool.and_eq_true_iff.mp h
    exact ⟨attr, e, h.1, noneB_at h.2⟩
theorem strsV_inv : ∀ {vs : List Value} {l : List Str}, strsV vs = some l → ∃ ts : List Tok, ts.length = l.length ∧ vs = (l.zip ts).map fun p => Value.str p.1 p.2
  | [], l, e => by cases e; exact ⟨[], rfl, rfl⟩
  | v :: r, l, e => by
    refine obC e fun x hx e => omC e fun l' hl e => ?_
    subst e
    obtain ⟨t, rfl⟩ := vStr_inv hx
    obtain ⟨ts, h1, rfl⟩ := strsV_inv hl
    exact ⟨t :: ts, congrArg Nat.succ h1, rfl⟩
theorem tupB_at {K : Frag} {x : Str} {l : List Str} (h : tupB K x = some l) : TupK K x l := by
  refine obC h fun f hf e1 => obC e1 fun o ho e2 => ?_
  clear h e1
  obtain ⟨oc, od, odata, osl⟩ := o
  obtain ⟨hty, e3⟩ := itr e2
  clear e2
  refine obC e3 fun arr ha h => ?_
  clear e3
  obtain ⟨n, hn⟩ := dSeq_inv ha
  obtain ⟨ts, h1, h2⟩ := strsV_inv h
  have hn : odata = .seq arr n := hn
  subst hn
  refine ⟨f, oc, od, osl, n, ts, refOf_inv hf, ?_, vTy_inv hty, h1⟩
  rw [ho, ← h2]

theorem texts_ok : ((fnNames.all fun p => (fdef p.2).any okFD) && ((rttNames.all fun p => (mdef 5 p.2).any okFD) && renNames.all fun p => (mdef 23 p.2).any okFD)) = true := by decide +kernel

theorem any_at {o : Option FD} (h : o.any okFD = true) : ∃ fd, o = some fd ∧ okFD fd = true := by
  cases o with
  | none => cases h
  | some fd => exact ⟨fd, rfl, h⟩

theorem gok_seen {K : Frag} {hb : Heap} {mg mb : Str → Option Value} (X : K.In hb) (e : seenK K = goodK) (nl : hb.NoLimit) (g : hb.Ns mainGlobals mg) (b : hb.Ns builtinsNs mb) (bb : ∀ x : Str, x ≠ "__name__" → mb x = bootBuiltins x) :
    ∃ C, GOk ⟨K, hb, mg, mb, C⟩ := by
  have e1 : (seenK K).1 = true := congrArg Prod.fst e
  unfold seenK at e1
  dsimp only at e1
  have e2 : tupB K "SPACE_ORDER" = some [("initial" : Str), ("handshake" : Str), ("application" : Str)] := congrArg (fun x => x.2.1) e
  have e3 : (seenK K).2.2 = goodK.2.2 := congrArg (fun x => x.2.2) e
  unfold seenK goodK at e3
  dsimp only at e3
  obtain ⟨e3, e4⟩ := List.append_inj e3 (by simp)
  obtain ⟨e4, e5⟩ := List.append_inj e4 (by simp)
  rw [List.map_inj_left] at e3 e4 e5
  simp only [Bool.and_eq_true, List.all_eq_true] at e1
  obtain ⟨c1, c2, c3, c4, c5, c6⟩ := e1
  have ok := texts_ok
  simp only [Bool.and_eq_true, List.all_eq_true] at ok
  obtain ⟨o1, o2, o3⟩ := ok
  have fn : ∀ p ∈ fnNames, FnK K p.1 p.2 := fun p hp => by
    obtain ⟨fd, h1, h2⟩ := any_at (o1 p hp)
    have := e3 p hp
    rw [h1] at this
    obtain ⟨f, h3, _, h4⟩ := fnB_at (fd := fd) this
    exact ⟨fd, f, h1, h2, h3, h4⟩
  have mr : ∀ p ∈ rttNames, ∃ fd f, mdef 5 p.2 = some fd ∧ okFD fd = true ∧ findIn K (.ref (clsOf K "Rtt")) p.1 = some (some (.ref f)) ∧ typeIn K (.ref f) = some (.type "function") ∧ FnAtK K f fd := fun p hp => by
    obtain ⟨fd, h1, h2⟩ := any_at (o2 p hp)
    have := e4 p hp
    rw [h1] at this
    obtain ⟨f, h3, h5, h4⟩ := fnB_at (fd := fd) this
    exact ⟨fd, f, h1, h2, h3, h5, h4⟩
  have mn : ∀ p ∈ renNames, ∃ fd f, mdef 23 p.2 = some fd ∧ okFD fd = true ∧ findIn K (.ref (clsOf K "NewReno")) p.1 = some (some (.ref f)) ∧ typeIn K (.ref f) = some (.type "function") ∧ FnAtK K f fd := fun p hp => by
    obtain ⟨fd, h1, h2⟩ := any_at (o3 p hp)
    have := e5 p hp
    rw [h1] at this
    obtain ⟨f, h3, h5, h4⟩ := fnB_at (fd := fd) this
    exact ⟨fd, f, h1, h2, h3, h5, h4⟩
  exact ⟨_, gok_of (c0 := clsOf K "Rtt") (c1 := clsOf K "NewReno") X nl g b bb fn (fun p hp => conB_at (c1 p hp)) (tupB_at e2) (fun x hx => noneB_at (c2 x hx)) (clsB_at c3) (clsB_at c4) mr mn (fun x hx => fieldB_at (c5 x hx)) fun x hx => fieldB_at (c6 x hx)⟩
end Mine

namespace Mine.Plain
open PySem


theorem bd {α β : Type} {x : Option α} {a : α} {f : α → Option β} {r : Option β} (e : x = some a) (h : f a = r) : x.bind f = r := by subst e; exact h
theorem mp {α β : Type} {x : Option α} {a : α} {f : α → β} (e : x = some a) : x.map f = some (f a) := by subst e; rfl
theorem it {α : Type} {c : Prop} [d : Decidable c] {a b r : α} (h : c) (k : a = r) : @ite α c d a b = r := (if_pos h).trans k
theorem ie {α : Type} {c : Prop} [d : Decidable c] {a b r : α} (h : ¬ c) (k : b = r) : @ite α c d a b = r := (if_neg h).trans k
theorem ief {α : Type} {x : Bool} [d : Decidable (x = true)] {a b r : α} (h : x = false) (k : b = r) : @ite α (x = true) d a b = r := ie (by rw [h]; exact Bool.false_ne_true) k
theorem tf : ¬ (false = true) := Bool.false_ne_true
/-- a line above all the ints of a run -/
noncomputable def BIG : Int := ((2 ^ 3990 : Nat) : Int)
theorem fits_of {i : Int} (a : -BIG ≤ i) (b : i ≤ BIG) : fits i = true := by
  have h : (2 ^ 3990 : Nat) < 2 ^ 4000 := Nat.pow_lt_pow_right (by decide) (by decide)
  unfold BIG at a b
  unfold fits
  generalize (2 ^ 3990 : Nat) = x at a b h
  generalize (2 ^ 4000 : Nat) = y at h
  rw [decide_eq_true_eq]
  omega
theorem BIG_pow {k : Nat} (h : k ≤ 3990) : ((2 ^ k : Nat) : Int) ≤ BIG := by
  unfold BIG
  exact Int.ofNat_le.mpr (Nat.pow_le_pow_right (by decide) h)

noncomputable def Ev (n : Nat) (sc : Sc) (loc : Loc) (e : Expr) (H : AH) (Q : AV → AH → Prop) : Prop := ∃ v H', aev n sc loc e H = some (v, H') ∧ Q v H'
noncomputable def Evs (n : Nat) (sc : Sc) (loc : Loc) (es : List Expr) (H : AH) (Q : List AV → AH → Prop) : Prop := ∃ v H', aevs n sc loc es H = some (v, H') ∧ Q v H'
noncomputable def Op (n : Nat) (sc : Sc) (loc : Loc) (e : Option Expr) (H : AH) (Q : AV → AH → Prop) : Prop := ∃ v H', aopt n sc loc e H = some (v, H') ∧ Q v H'
noncomputable def Bo (n : Nat) (sc : Sc) (loc : Loc) (op : BoolOp) (es : List Expr) (H : AH) (Q : AV → AH → Prop) : Prop := ∃ v H', abool n sc loc op es H = some (v, H') ∧ Q v H'
noncomputable def Te (n : Nat) (sc : Sc) (loc : Loc) (e : Expr) (H : AH) (Q : Bool → AH → Prop) : Prop := ∃ v H', atest n sc loc e H = some (v, H') ∧ Q v H'
noncomputable def Al (n : Nat) (sc : Sc) (loc : Loc) (op : BoolOp) (es : List Expr) (H : AH) (Q : Bool → AH → Prop) : Prop := ∃ v H', aall n sc loc op es H = some (v, H') ∧ Q v H'
noncomputable def Di (n : Nat) (sc : Sc) (loc : Loc) (ks : List (Option Expr)) (vs : List Expr) (H : AH) (Q : List (Str × AV) → AH → Prop) : Prop := ∃ v H', adicts n sc loc ks vs H = some (v, H') ∧ Q v H'
noncomputable def ClN (n : Nat) (f : Str) (args : List AV) (H : AH) (Q : AV → AH → Prop) : Prop := ∃ v H', acallN n f args H = some (v, H') ∧ Q v H'
noncomputable def Me (n : Nat) (r : MRef) (m : Str) (args : List AV) (H : AH) (Q : AV → AH → Prop) : Prop := ∃ v H', ameth n r m args H = some (v, H') ∧ Q v H'
noncomputable def Cl (n : Nat) (fd : Option FD) (args : List AV) (H : AH) (Q : AV → AH → Prop) : Prop := ∃ v H', acall n fd args H = some (v, H') ∧ Q v H'
noncomputable def Xs (n : Nat) (sc : Sc) (loc : Loc) (ss : List Stmt) (H : AH) (Q : AFlow → Loc → AH → Prop) : Prop := ∃ f loc' H', aexs n sc loc ss H = some (f, loc', H') ∧ Q f loc' H'
noncomputable def Ex (n : Nat) (sc : Sc) (loc : Loc) (s : Stmt) (H : AH) (Q : AFlow → Loc → AH → Prop) : Prop := ∃ f loc' H', aex n sc loc s H = some (f, loc', H') ∧ Q f loc' H'
noncomputable def As (n : Nat) (sc : Sc) (loc : Loc) (t : Expr) (v : AV) (H : AH) (Q : Loc → AH → Prop) : Prop := ∃ loc' H', aassign n sc loc t v H = some (loc', H') ∧ Q loc' H'
noncomputable def Ass (n : Nat) (sc : Sc) (loc : Loc) (ts : List Expr) (vs : List AV) (H : AH) (Q : Loc → AH → Prop) : Prop := ∃ loc' H', aassigns n sc loc ts vs H = some (loc', H') ∧ Q loc' H'
noncomputable def Fo (guard : AH → Bool) (n : Nat) (sc : Sc) (x : Str) (body : List Stmt) (its : List AV) (loc : Loc) (H : AH) (Q : AFlow → Loc → AH → Prop) : Prop :=
  ∃ f loc' H', afor guard (fun v loc' H' => aexs n sc (kput loc' x v) body H') its loc H = some (f, loc', H') ∧ Q f loc' H'
noncomputable def On (n : Nat) (names : Sc) (loc : Loc) (target : Expr) (ifs : List Expr) (elt : Expr) (x : AV) (H : AH) (Q : Option AV → AH → Prop) : Prop :=
  ∃ y H', ((atarget target x loc).bind fun loc' => acompOne n names loc' ifs elt H) = some (y, H') ∧ Q y H'
noncomputable def Co (guard : AH → Bool) (n : Nat) (names : Sc) (loc : Loc) (target : Expr) (ifs : List Expr) (elt : Expr) (its : List AV) (H : AH) (Q : List AV → AH → Prop) : Prop :=
  ∃ zs H', acomp guard (fun x H' => (atarget target x loc).bind fun loc' => acompOne n names loc' ifs elt H') its H = some (zs, H') ∧ Q zs H'

section
variable {n : Nat} {sc : Sc} {loc : Loc} {H : AH} {Q : AV → AH → Prop}

theorem Cl.mono {fd : Option FD} {args : List AV} {P : AV → AH → Prop} (h : Cl n fd args H P) (k : ∀ v H', P v H' → Q v H') : Cl n fd args H Q :=
  let ⟨v, H', e, p⟩ := h; ⟨v, H', e, k v H' p⟩
theorem Xs.mono {ss : List Stmt} {P R : AFlow → Loc → AH → Prop} (h : Xs n sc loc ss H P) (k : ∀ f l H', P f l H' → R f l H') : Xs n sc loc ss H R :=
  let ⟨v, l, H', e, p⟩ := h; ⟨v, l, H', e, k v l H' p⟩

theorem ev_const {c : Const} {k : Nat} {p : Pos} {v : AV} (e : aconst c = some v) (q : Q v H) : Ev (n + 1) sc loc (.Constant c k p) H Q :=
  ⟨v, H, by repeat (first | rfl | exact e | refine bd e ?_ | exact mp e | refine it e ?_ | refine ief e ?_ | refine it rfl ?_ | refine ie tf ?_ | rw [e]), q⟩
theorem ev_name {x : Str} {p : Pos} {v : AV} (e : aname sc loc x = some v) (q : Q v H) : Ev (n + 1) sc loc (.Name x p) H Q :=
  ⟨v, H, by repeat (first | rfl | exact e | refine bd e ?_ | exact mp e | refine it e ?_ | refine ief e ?_ | refine it rfl ?_ | refine ie tf ?_ | rw [e]), q⟩
theorem ev_bin {l r : Expr} {op : Operator} {p : Pos} (h : Ev n sc loc l H fun a H1 => Ev n sc loc r H1 fun b H2 => ∃ v, abin op a b = some v ∧ Q v H2) : Ev (n + 1) sc loc (.BinOp l op r p) H Q := by
  obtain ⟨a, H1, e1, b, H2, e2, v, e3, q⟩ := h
  exact ⟨v, H2, by repeat (first | rfl | exact e1 | refine bd e1 ?_ | exact mp e1 | refine it e1 ?_ | refine ief e1 ?_ | exact e2 | refine bd e2 ?_ | exact mp e2 | refine it e2 ?_ | refine ief e2 ?_ | exact e3 | refine bd e3 ?_ | exact mp e3 | refine it e3 ?_ | refine ief e3 ?_ | refine it rfl ?_ | refine ie tf ?_ | rw [e1] | rw [e2] | rw [e3]), q⟩
theorem ev_neg {x : Expr} {p : Pos} (h : Ev n sc loc x H fun a H1 => ∃ i, a = .int i ∧ Q (.int (-i)) H1) : Ev (n + 1) sc loc (.UnaryOp .USub x p) H Q := by
  obtain ⟨a, H1, e1, i, rfl, q⟩ := h
  exact ⟨_, H1, by repeat (first | rfl | exact e1 | refine bd e1 ?_ | exact mp e1 | refine it e1 ?_ | refine ief e1 ?_ | refine it rfl ?_ | refine ie tf ?_ | rw [e1]), q⟩
theorem ev_bool {op : BoolOp} {vs : List Expr} {p : Pos} (h : Bo n sc loc op vs H Q) : Ev (n + 1) sc loc (.BoolOp op vs p) H Q := by
  obtain ⟨a, H1, e1, q⟩ := h
  exact ⟨_, H1, e1, q⟩
theorem ev_cmp {l r : Expr} {op : CmpOp} {p : Pos} (hs : isSet r = false) (h : Ev n sc loc l H fun a H1 => Ev n sc loc r H1 fun b H2 => ∃ c, acmp H2 op a b = some c ∧ Q (.bool c) H2) : Ev (n + 1) sc loc (.Compare l [op] [r] p) H Q := by
  obtain ⟨a, H1, e1, b, H2, e2, v, e3, q⟩ := h
  exact ⟨_, H2, by repeat (first | rfl | exact hs | refine bd hs ?_ | exact mp hs | refine it hs ?_ | refine ief hs ?_ | exact e1 | refine bd e1 ?_ | exact mp e1 | refine it e1 ?_ | refine ief e1 ?_ | exact e2 | refine bd e2 ?_ | exact mp e2 | refine it e2 ?_ | refine ief e2 ?_ | exact e3 | refine bd e3 ?_ | exact mp e3 | refine it e3 ?_ | refine ief e3 ?_ | refine it rfl ?_ | refine ie tf ?_ | rw [hs] | rw [e1] | rw [e2] | rw [e3]), q⟩
theorem ev_if {t b o : Expr} {p : Pos} (h : Te n sc loc t H fun c H1 => (c = true → Ev n sc loc b H1 Q) ∧ (c = false → Ev n sc loc o H1 Q)) : Ev (n + 1) sc loc (.IfExp t b o p) H Q := by
  obtain ⟨c, H1, e1, h1, h2⟩ := h
  cases c with
  | true => obtain ⟨v, H2, e2, q⟩ := h1 rfl; exact ⟨v, H2, by repeat (first | rfl | exact e1 | refine bd e1 ?_ | exact mp e1 | refine it e1 ?_ | refine ief e1 ?_ | exact e2 | refine bd e2 ?_ | exact mp e2 | refine it e2 ?_ | refine ief e2 ?_ | refine it rfl ?_ | refine ie tf ?_ | rw [e1] | rw [e2]), q⟩
  | false => obtain ⟨v, H2, e2, q⟩ := h2 rfl; exact ⟨v, H2, by repeat (first | rfl | exact e1 | refine bd e1 ?_ | exact mp e1 | refine it e1 ?_ | refine ief e1 ?_ | exact e2 | refine bd e2 ?_ | exact mp e2 | refine it e2 ?_ | refine ief e2 ?_ | refine it rfl ?_ | refine ie tf ?_ | rw [e1] | rw [e2]), q⟩
theorem ev_slice {v : Expr} {lo up : Option Expr} {sp p : Pos} (h : Ev n sc loc v H fun a H1 => Op n sc loc lo H1 fun b H2 => Op n sc loc up H2 fun c H3 => ∃ x, aslice a b c = some x ∧ Q x H3) : Ev (n + 1) sc loc (.Subscript v (.Slice lo up none sp) p) H Q := by
  obtain ⟨a, H1, e1, b, H2, e2, c, H3, e3, x, e4, q⟩ := h
  exact ⟨x, H3, by repeat (first | rfl | exact e1 | refine bd e1 ?_ | exact mp e1 | refine it e1 ?_ | refine ief e1 ?_ | exact e2 | refine bd e2 ?_ | exact mp e2 | refine it e2 ?_ | refine ief e2 ?_ | exact e3 | refine bd e3 ?_ | exact mp e3 | refine it e3 ?_ | refine ief e3 ?_ | exact e4 | refine bd e4 ?_ | exact mp e4 | refine it e4 ?_ | refine ief e4 ?_ | refine it rfl ?_ | refine ie tf ?_ | rw [e1] | rw [e2] | rw [e3] | rw [e4]), q⟩
theorem op_none {q : Q .none H} : Op (n + 1) sc loc none H Q := ⟨_, _, rfl, q⟩
theorem op_some {e : Expr} (h : Ev n sc loc e H Q) : Op (n + 1) sc loc (some e) H Q := by
  obtain ⟨a, H1, e1, q⟩ := h
  exact ⟨_, _, e1, q⟩
noncomputable def notSlice : Expr → Bool
  | .Slice .. => false
  | _ => true
theorem ev_sub {v s : Expr} {p : Pos} (hs : notSlice s = true) (h : Ev n sc loc v H fun a H1 => Ev n sc loc s H1 fun b H2 => ∃ x, agetitem H2 a b = some x ∧ Q x H2) : Ev (n + 1) sc loc (.Subscript v s p) H Q := by
  obtain ⟨a, H1, e1, b, H2, e2, x, e3, q⟩ := h
  refine ⟨x, H2, ?_, q⟩
  cases s <;> first | (cases hs; done) | (repeat (first | rfl | exact e1 | refine bd e1 ?_ | exact mp e1 | refine it e1 ?_ | refine ief e1 ?_ | exact e2 | refine bd e2 ?_ | exact mp e2 | refine it e2 ?_ | refine ief e2 ?_ | exact e3 | refine bd e3 ?_ | exact mp e3 | refine it e3 ?_ | refine ief e3 ?_ | refine it rfl ?_ | refine ie tf ?_ | rw [e1] | rw [e2] | rw [e3]))
theorem ev_attr {o : Expr} {a : Str} {p : Pos} (hb : isBare o = false) (h : Ev n sc loc o H fun v H1 => ∃ x, aattr H1 v a = some x ∧ Q x H1) : Ev (n + 1) sc loc (.Attribute o a p) H Q := by
  obtain ⟨v, H1, e1, x, e2, q⟩ := h
  exact ⟨x, H1, by repeat (first | rfl | exact hb | refine bd hb ?_ | exact mp hb | refine it hb ?_ | refine ief hb ?_ | exact e1 | refine bd e1 ?_ | exact mp e1 | refine it e1 ?_ | refine ief e1 ?_ | exact e2 | refine bd e2 ?_ | exact mp e2 | refine it e2 ?_ | refine ief e2 ?_ | refine it rfl ?_ | refine ie tf ?_ | rw [hb] | rw [e1] | rw [e2]), q⟩
theorem ev_call {f : Str} {args : List Expr} {fp p : Pos} (hl : args.length < 10) (hk : kget sc f = some .globalImplicit) (h : Evs n sc loc args H fun vs H1 => ClN n f vs H1 Q) : Ev (n + 1) sc loc (.Call (.Name f fp) args [] p) H Q := by
  obtain ⟨vs, H1, e1, v, H2, e2, q⟩ := h
  exact ⟨v, H2, by repeat (first | rfl | exact hl | refine bd hl ?_ | exact mp hl | refine it hl ?_ | refine ief hl ?_ | exact e1 | refine bd e1 ?_ | exact mp e1 | refine it e1 ?_ | refine ief e1 ?_ | exact e2 | refine bd e2 ?_ | exact mp e2 | refine it e2 ?_ | refine ief e2 ?_ | exact hk | refine bd hk ?_ | exact mp hk | refine it hk ?_ | refine ief hk ?_ | refine it rfl ?_ | refine ie tf ?_ | rw [hl] | rw [e1] | rw [e2] | rw [hk]), q⟩
theorem ev_meth {o : Expr} {m : Str} {args : List Expr} {ap p : Pos} (hl : args.length < 10 ∧ isBare o = false ∧ ap.endLine = p.line)
    (h : Ev n sc loc o H fun v H1 => ∃ r, amget H1 v m = some r ∧ Evs n sc loc args H1 fun vs H2 => Me n r m vs H2 Q) : Ev (n + 1) sc loc (.Call (.Attribute o m ap) args [] p) H Q := by
  obtain ⟨v, H1, e1, r, e2, vs, H2, e3, x, H3, e4, q⟩ := h
  refine ⟨x, H3, ?_, q⟩
  repeat (first | rfl | refine it hl ?_ | exact e1 | refine bd e1 ?_ | exact mp e1 | refine it e1 ?_ | refine ief e1 ?_ | exact e2 | refine bd e2 ?_ | exact mp e2 | refine it e2 ?_ | refine ief e2 ?_ | exact e3 | refine bd e3 ?_ | exact mp e3 | refine it e3 ?_ | refine ief e3 ?_ | exact e4 | refine bd e4 ?_ | exact mp e4 | refine it e4 ?_ | refine ief e4 ?_ | refine it rfl ?_ | refine ie tf ?_ | rw [if_pos hl] | rw [e1] | rw [e2] | rw [e3] | rw [e4])
theorem ev_list {es : List Expr} {p : Pos} (h : Evs n sc loc es H fun vs H1 => vs.length < lenLine ∧ Q (.ref H1.length) (H1 ++ [.list vs])) : Ev (n + 1) sc loc (.List es p) H Q := by
  obtain ⟨vs, H1, e1, hl, q⟩ := h
  exact ⟨_, _, by repeat (first | rfl | exact e1 | refine bd e1 ?_ | exact mp e1 | refine it e1 ?_ | refine ief e1 ?_ | exact hl | refine bd hl ?_ | exact mp hl | refine it hl ?_ | refine ief hl ?_ | refine it rfl ?_ | refine ie tf ?_ | rw [e1] | rw [hl]), q⟩
theorem ev_tup {es : List Expr} {k : Nat} {p : Pos} (h : Evs n sc loc es H fun vs H1 => vs.length < lenLine ∧ Q (.tup vs) H1) : Ev (n + 1) sc loc (.Tuple es k p) H Q := by
  obtain ⟨vs, H1, e1, hl, q⟩ := h
  exact ⟨_, _, by repeat (first | rfl | exact e1 | refine bd e1 ?_ | exact mp e1 | refine it e1 ?_ | refine ief e1 ?_ | exact hl | refine bd hl ?_ | exact mp hl | refine it hl ?_ | refine ief hl ?_ | refine it rfl ?_ | refine ie tf ?_ | rw [e1] | rw [hl]), q⟩
theorem ev_dict0 {p : Pos} (q : Q (.ref H.length) (H ++ [.dictE])) : Ev (n + 2) sc loc (.Dict [] [] p) H Q :=
  ⟨_, _, by rfl, q⟩
theorem ev_dict {k : Option Expr} {ks : List (Option Expr)} {vs : List Expr} {p : Pos} (h : Di n sc loc (k :: ks) vs (H ++ [.dictE]) fun es H1 => es.length ≤ 15 ∧ H1[H.length]? = some .dictE ∧ Q (.ref H.length) (H1.set H.length (.dictS es))) :
    Ev (n + 2) sc loc (.Dict (k :: ks) vs p) H Q := by
  obtain ⟨es, H1, e1, hl, hd, q⟩ := h
  exact ⟨_, _, by repeat (first | rfl | exact e1 | refine bd e1 ?_ | exact mp e1 | refine it e1 ?_ | refine ief e1 ?_ | exact hl | refine bd hl ?_ | exact mp hl | refine it hl ?_ | refine ief hl ?_ | exact hd | refine bd hd ?_ | exact mp hd | refine it hd ?_ | refine ief hd ?_ | refine it rfl ?_ | refine ie tf ?_ | rw [e1] | rw [hl] | rw [hd]), q⟩
theorem di_nil {Q : List (Str × AV) → AH → Prop} (q : Q [] H) : Di (n + 1) sc loc [] [] H Q := ⟨_, _, rfl, q⟩
theorem di_cons {Q : List (Str × AV) → AH → Prop} {x : Str} {k : Nat} {p : Pos} {v : Expr} {ks : List (Option Expr)} {vs : List Expr}
    (h : Ev n sc loc v H fun a H1 => Di n sc loc ks vs H1 fun es H2 => kget es x = none ∧ Q ((x, a) :: es) H2) : Di (n + 1) sc loc (some (.Constant (.str x) k p) :: ks) (v :: vs) H Q := by
  obtain ⟨a, H1, e1, es, H2, e2, hk, q⟩ := h
  exact ⟨_, _, by repeat (first | rfl | exact e1 | refine bd e1 ?_ | exact mp e1 | refine it e1 ?_ | refine ief e1 ?_ | exact e2 | refine bd e2 ?_ | exact mp e2 | refine it e2 ?_ | refine ief e2 ?_ | exact hk | refine bd hk ?_ | exact mp hk | refine it hk ?_ | refine ief hk ?_ | refine it rfl ?_ | refine ie tf ?_ | rw [e1] | rw [e2] | rw [hk]), q⟩

theorem evs_nil {Q : List AV → AH → Prop} (q : Q [] H) : Evs (n + 1) sc loc [] H Q := ⟨_, _, rfl, q⟩
theorem evs_cons {Q : List AV → AH → Prop} {e : Expr} {r : List Expr} (hs : isStarred e = false) (h : Ev n sc loc e H fun v H1 => Evs n sc loc r H1 fun vs H2 => Q (v :: vs) H2) : Evs (n + 1) sc loc (e :: r) H Q := by
  obtain ⟨v, H1, e1, vs, H2, e2, q⟩ := h
  exact ⟨_, _, by repeat (first | rfl | exact hs | refine bd hs ?_ | exact mp hs | refine it hs ?_ | refine ief hs ?_ | exact e1 | refine bd e1 ?_ | exact mp e1 | refine it e1 ?_ | refine ief e1 ?_ | exact e2 | refine bd e2 ?_ | exact mp e2 | refine it e2 ?_ | refine ief e2 ?_ | refine it rfl ?_ | refine ie tf ?_ | rw [hs] | rw [e1] | rw [e2]), q⟩

theorem bo_one {op : BoolOp} {x : Expr} (h : Ev n sc loc x H Q) : Bo (n + 1) sc loc op [x] H Q := by
  obtain ⟨v, H1, e1, q⟩ := h
  exact ⟨_, _, e1, q⟩
theorem bo_and {x y : Expr} {r : List Expr} (h : Ev n sc loc x H fun v H1 => ∃ b, v = .bool b ∧ (b = true → Bo n sc loc .And (y :: r) H1 Q) ∧ (b = false → Q (.bool false) H1)) : Bo (n + 1) sc loc .And (x :: y :: r) H Q := by
  obtain ⟨v, H1, e1, b, rfl, h1, h2⟩ := h
  cases b with
  | true => obtain ⟨w, H2, e2, q⟩ := h1 rfl; exact ⟨w, H2, by repeat (first | rfl | exact e1 | refine bd e1 ?_ | exact mp e1 | refine it e1 ?_ | refine ief e1 ?_ | exact e2 | refine bd e2 ?_ | exact mp e2 | refine it e2 ?_ | refine ief e2 ?_ | refine it rfl ?_ | refine ie tf ?_ | rw [e1] | rw [e2]), q⟩
  | false => exact ⟨_, H1, by repeat (first | rfl | exact e1 | refine bd e1 ?_ | exact mp e1 | refine it e1 ?_ | refine ief e1 ?_ | refine it rfl ?_ | refine ie tf ?_ | rw [e1]), h2 rfl⟩
theorem bo_or {x y : Expr} {r : List Expr} (h : Ev n sc loc x H fun v H1 => ∃ b, v = .bool b ∧ (b = false → Bo n sc loc .Or (y :: r) H1 Q) ∧ (b = true → Q (.bool true) H1)) : Bo (n + 1) sc loc .Or (x :: y :: r) H Q := by
  obtain ⟨v, H1, e1, b, rfl, h1, h2⟩ := h
  cases b with
  | false => obtain ⟨w, H2, e2, q⟩ := h1 rfl; exact ⟨w, H2, by repeat (first | rfl | exact e1 | refine bd e1 ?_ | exact mp e1 | refine it e1 ?_ | refine ief e1 ?_ | exact e2 | refine bd e2 ?_ | exact mp e2 | refine it e2 ?_ | refine ief e2 ?_ | refine it rfl ?_ | refine ie tf ?_ | rw [e1] | rw [e2]), q⟩
  | true => exact ⟨_, H1, by repeat (first | rfl | exact e1 | refine bd e1 ?_ | exact mp e1 | refine it e1 ?_ | refine ief e1 ?_ | refine it rfl ?_ | refine ie tf ?_ | rw [e1]), h2 rfl⟩

section
variable {Q : Bool → AH → Prop}
theorem te_not {x : Expr} {p : Pos} (h : Te n sc loc x H fun b H1 => Q (!b) H1) : Te (n + 1) sc loc (.UnaryOp .Not x p) H Q := by
  obtain ⟨b, H1, e1, q⟩ := h
  exact ⟨_, _, by repeat (first | rfl | exact e1 | refine bd e1 ?_ | exact mp e1 | refine it e1 ?_ | refine ief e1 ?_ | refine it rfl ?_ | refine ie tf ?_ | rw [e1]), q⟩
theorem te_all {op : BoolOp} {vs : List Expr} {p : Pos} (h : Al n sc loc op vs H Q) : Te (n + 1) sc loc (.BoolOp op vs p) H Q := by
  obtain ⟨b, H1, e1, q⟩ := h
  exact ⟨_, _, e1, q⟩
theorem te_cmp {l r : Expr} {op : CmpOp} {p : Pos} (hs : isSet r = false) (h : Ev n sc loc l H fun a H1 => Ev n sc loc r H1 fun b H2 => ∃ c, acmp H2 op a b = some c ∧ Q c H2) : Te (n + 1) sc loc (.Compare l [op] [r] p) H Q := by
  obtain ⟨a, H1, e1, b, H2, e2, v, e3, q⟩ := h
  exact ⟨_, H2, by repeat (first | rfl | exact hs | refine bd hs ?_ | exact mp hs | refine it hs ?_ | refine ief hs ?_ | exact e1 | refine bd e1 ?_ | exact mp e1 | refine it e1 ?_ | refine ief e1 ?_ | exact e2 | refine bd e2 ?_ | exact mp e2 | refine it e2 ?_ | refine ief e2 ?_ | exact e3 | refine bd e3 ?_ | exact mp e3 | refine it e3 ?_ | refine ief e3 ?_ | refine it rfl ?_ | refine ie tf ?_ | rw [hs] | rw [e1] | rw [e2] | rw [e3]), q⟩
theorem te_name {x : Str} {p : Pos} (h : Ev n sc loc (.Name x p) H fun v H1 => ∃ b, v = .bool b ∧ Q b H1) : Te (n + 1) sc loc (.Name x p) H Q := by
  obtain ⟨v, H1, e1, b, rfl, q⟩ := h
  exact ⟨_, _, by repeat (first | rfl | exact e1 | refine bd e1 ?_ | exact mp e1 | refine it e1 ?_ | refine ief e1 ?_ | refine it rfl ?_ | refine ie tf ?_ | rw [e1]), q⟩
theorem te_sub {x y : Expr} {p : Pos} (h : Ev n sc loc (.Subscript x y p) H fun v H1 => ∃ b, v = .bool b ∧ Q b H1) : Te (n + 1) sc loc (.Subscript x y p) H Q := by
  obtain ⟨v, H1, e1, b, rfl, q⟩ := h
  exact ⟨_, _, by repeat (first | rfl | exact e1 | refine bd e1 ?_ | exact mp e1 | refine it e1 ?_ | refine ief e1 ?_ | refine it rfl ?_ | refine ie tf ?_ | rw [e1]), q⟩
theorem te_call {f : Expr} {args : List Expr} {kw : List Keyword} {p : Pos} (h : Ev n sc loc (.Call f args kw p) H fun v H1 => ∃ b, v = .bool b ∧ Q b H1) : Te (n + 1) sc loc (.Call f args kw p) H Q := by
  obtain ⟨v, H1, e1, b, rfl, q⟩ := h
  exact ⟨_, _, by repeat (first | rfl | exact e1 | refine bd e1 ?_ | exact mp e1 | refine it e1 ?_ | refine ief e1 ?_ | refine it rfl ?_ | refine ie tf ?_ | rw [e1]), q⟩
theorem al_and_nil (q : Q true H) : Al (n + 1) sc loc .And [] H Q := ⟨_, _, rfl, q⟩
theorem al_or_nil (q : Q false H) : Al (n + 1) sc loc .Or [] H Q := ⟨_, _, rfl, q⟩
theorem al_and {x : Expr} {r : List Expr} (h : Te n sc loc x H fun b H1 => (b = true → Al n sc loc .And r H1 Q) ∧ (b = false → Q false H1)) : Al (n + 1) sc loc .And (x :: r) H Q := by
  obtain ⟨b, H1, e1, h1, h2⟩ := h
  cases b with
  | true => obtain ⟨w, H2, e2, q⟩ := h1 rfl; exact ⟨w, H2, by repeat (first | rfl | exact e1 | refine bd e1 ?_ | exact mp e1 | refine it e1 ?_ | refine ief e1 ?_ | exact e2 | refine bd e2 ?_ | exact mp e2 | refine it e2 ?_ | refine ief e2 ?_ | refine it rfl ?_ | refine ie tf ?_ | rw [e1] | rw [e2]), q⟩
  | false => exact ⟨_, H1, by repeat (first | rfl | exact e1 | refine bd e1 ?_ | exact mp e1 | refine it e1 ?_ | refine ief e1 ?_ | refine it rfl ?_ | refine ie tf ?_ | rw [e1]), h2 rfl⟩
theorem al_or {x : Expr} {r : List Expr} (h : Te n sc loc x H fun b H1 => (b = false → Al n sc loc .Or r H1 Q) ∧ (b = true → Q true H1)) : Al (n + 1) sc loc .Or (x :: r) H Q := by
  obtain ⟨b, H1, e1, h1, h2⟩ := h
  cases b with
  | false => obtain ⟨w, H2, e2, q⟩ := h1 rfl; exact ⟨w, H2, by repeat (first | rfl | exact e1 | refine bd e1 ?_ | exact mp e1 | refine it e1 ?_ | refine ief e1 ?_ | exact e2 | refine bd e2 ?_ | exact mp e2 | refine it e2 ?_ | refine ief e2 ?_ | refine it rfl ?_ | refine ie tf ?_ | rw [e1] | rw [e2]), q⟩
  | true => exact ⟨_, H1, by repeat (first | rfl | exact e1 | refine bd e1 ?_ | exact mp e1 | refine it e1 ?_ | refine ief e1 ?_ | refine it rfl ?_ | refine ie tf ?_ | rw [e1]), h2 rfl⟩
end

theorem cn_user {f : Str} {i : Nat} {args : List AV} (e : fidx f = some i) (h : Cl n (fdef i) args H Q) : ClN (n + 1) f args H Q := by
  obtain ⟨v, H1, e1, q⟩ := h
  exact ⟨_, _, by unfold acallN; simp only [e, e1], q⟩
theorem cn_cls {f : Str} {c : Nat} {args : List AV} (e : fidx f = none) (e2 : cidx f = some c) (h : Cl n (mdef (cplace c) 0) (.ref H.length :: args) (H ++ [.inst c []]) fun v H1 => v = .none ∧ Q (.ref H.length) H1) : ClN (n + 1) f args H Q := by
  obtain ⟨v, H1, e1, rfl, q⟩ := h
  exact ⟨_, _, by unfold acallN; simp only [e, e2, e1, Option.bind_some], q⟩
theorem cn_bi {f : Str} {args : List AV} {v : AV} {H1 : AH} (e : fidx f = none ∧ cidx f = none) (e3 : abuiltin f args H = some (v, H1)) (q : Q v H1) : ClN (n + 1) f args H Q := by
  exact ⟨_, _, by unfold acallN; simp only [e.1, e.2, e3], q⟩
theorem me_lst {k : Nat} {m : Str} {args : List AV} {v : AV} {H1 : AH} (e : abmethL k m args H = some (v, H1)) (q : Q v H1) : Me (n + 1) (.lst k) m args H Q := ⟨_, _, e, q⟩
theorem me_dct {k : Nat} {m : Str} {args : List AV} {v : AV} {H1 : AH} (e : abmethD k m args H = some (v, H1)) (q : Q v H1) : Me (n + 1) (.dct k) m args H Q := ⟨_, _, e, q⟩
theorem me_usr {k c j : Nat} {m : Str} {args : List AV} (h : Cl n (mdef (cplace c) j) (.ref k :: args) H Q) : Me (n + 1) (.usr k c j) m args H Q := by
  obtain ⟨v, H1, e1, q⟩ := h
  exact ⟨_, _, e1, q⟩

/-- what a call gives by how its body ended -/
noncomputable def retv : AFlow → AV
  | .ret v => v
  | _ => .none
theorem cl_intro {fdo : Option FD} {fd : FD} {args : List AV} (e : fdo = some fd) (hl : fd.params.args.length = args.length)
    (h : Xs n fd.scope.names ((fd.params.args.map (·.arg)).zip args) fd.body H fun f _ H' => Q (retv f) H') : Cl (n + 1) fdo args H Q := by
  obtain ⟨f, l, H1, e1, q⟩ := h
  subst e
  refine ⟨retv f, H1, ?_, q⟩
  repeat (first | rfl | exact hl | refine bd hl ?_ | exact mp hl | refine it hl ?_ | refine ief hl ?_ | exact e1 | refine bd e1 ?_ | exact mp e1 | refine it e1 ?_ | refine ief e1 ?_ | refine it rfl ?_ | refine ie tf ?_ | rw [hl] | rw [e1])

section
variable {Q : AFlow → Loc → AH → Prop}
theorem xs_nil (q : Q .next loc H) : Xs (n + 1) sc loc [] H Q := ⟨_, _, _, rfl, q⟩
/-- what stands behind a statement -/
noncomputable def Then (n : Nat) (sc : Sc) (r : List Stmt) (Q : AFlow → Loc → AH → Prop) (f : AFlow) (loc : Loc) (H : AH) : Prop := match f with
  | .next => Xs n sc loc r H Q
  | .cont => Q .cont loc H
  | .ret v => Q (.ret v) loc H
theorem xs_cons {s : Stmt} {r : List Stmt} (h : Ex n sc loc s H (Then n sc r Q)) : Xs (n + 1) sc loc (s :: r) H Q := by
  obtain ⟨f, l, H1, e1, q⟩ := h
  cases f with
  | next => obtain ⟨f, l, H2, e2, q⟩ := q; exact ⟨_, _, _, by repeat (first | rfl | exact e1 | refine bd e1 ?_ | exact mp e1 | refine it e1 ?_ | refine ief e1 ?_ | exact e2 | refine bd e2 ?_ | exact mp e2 | refine it e2 ?_ | refine ief e2 ?_ | refine it rfl ?_ | refine ie tf ?_ | rw [e1] | rw [e2]), q⟩
  | cont => exact ⟨_, _, _, by repeat (first | rfl | exact e1 | refine bd e1 ?_ | exact mp e1 | refine it e1 ?_ | refine ief e1 ?_ | refine it rfl ?_ | refine ie tf ?_ | rw [e1]), q⟩
  | ret v => exact ⟨_, _, _, by repeat (first | rfl | exact e1 | refine bd e1 ?_ | exact mp e1 | refine it e1 ?_ | refine ief e1 ?_ | refine it rfl ?_ | refine ie tf ?_ | rw [e1]), q⟩
theorem then_next {r : List Stmt} (h : Xs n sc loc r H Q) : Then n sc r Q .next loc H := h
theorem then_cont {r : List Stmt} (h : Q .cont loc H) : Then n sc r Q .cont loc H := h
theorem then_ret {r : List Stmt} {v : AV} (h : Q (.ret v) loc H) : Then n sc r Q (.ret v) loc H := h
theorem ex_assign {t v : Expr} {p : Pos} (hs : (swap2 sc t v || noSwap t v) = true) (h : Ev n sc loc v H fun a H1 => As n sc loc t a H1 fun l H2 => Q .next l H2) : Ex (n + 1) sc loc (.Assign [t] v p) H Q := by
  obtain ⟨a, H1, e1, l, H2, e2, q⟩ := h
  exact ⟨_, _, _, by repeat (first | rfl | exact hs | refine bd hs ?_ | exact mp hs | refine it hs ?_ | refine ief hs ?_ | exact e1 | refine bd e1 ?_ | exact mp e1 | refine it e1 ?_ | refine ief e1 ?_ | exact e2 | refine bd e2 ?_ | exact mp e2 | refine it e2 ?_ | refine ief e2 ?_ | refine it rfl ?_ | refine ie tf ?_ | rw [hs] | rw [e1] | rw [e2]), q⟩
theorem ex_aug {o v : Expr} {a : Str} {op : Operator} {ap p : Pos} (ho : op = .Add ∨ op = .Sub) (h : Ev n sc loc o H fun x H1 => ∃ old, aattr H1 x a = some old ∧ Ev n sc loc v H1 fun y H2 => ∃ z, abin op old y = some z ∧ ∃ H3, asetattr H2 x a z = some H3 ∧ Q .next loc H3) :
    Ex (n + 1) sc loc (.AugAssign (.Attribute o a ap) op v p) H Q := by
  obtain ⟨x, H1, e1, old, e2, y, H2, e3, z, e4, H3, e5, q⟩ := h
  refine ⟨_, _, _, ?_, q⟩
  rcases ho with rfl | rfl <;> (repeat (first | rfl | exact e1 | refine bd e1 ?_ | exact mp e1 | refine it e1 ?_ | refine ief e1 ?_ | exact e2 | refine bd e2 ?_ | exact mp e2 | refine it e2 ?_ | refine ief e2 ?_ | exact e3 | refine bd e3 ?_ | exact mp e3 | refine it e3 ?_ | refine ief e3 ?_ | exact e4 | refine bd e4 ?_ | exact mp e4 | refine it e4 ?_ | refine ief e4 ?_ | exact e5 | refine bd e5 ?_ | exact mp e5 | refine it e5 ?_ | refine ief e5 ?_ | refine it rfl ?_ | refine ie tf ?_ | rw [e1] | rw [e2] | rw [e3] | rw [e4] | rw [e5]))
theorem ex_expr {f : Expr} {args : List Expr} {kw : List Keyword} {cp p : Pos} (h : Ev n sc loc (.Call f args kw cp) H fun _ H1 => Q .next loc H1) : Ex (n + 1) sc loc (.Expr (.Call f args kw cp) p) H Q := by
  obtain ⟨a, H1, e1, q⟩ := h
  exact ⟨_, _, _, by repeat (first | rfl | exact e1 | refine bd e1 ?_ | exact mp e1 | refine it e1 ?_ | refine ief e1 ?_ | refine it rfl ?_ | refine ie tf ?_ | rw [e1]), q⟩
theorem ex_ret {e : Expr} {p : Pos} (h : Ev n sc loc e H fun v H1 => Q (.ret v) loc H1) : Ex (n + 1) sc loc (.Return (some e) p) H Q := by
  obtain ⟨a, H1, e1, q⟩ := h
  exact ⟨_, _, _, by repeat (first | rfl | exact e1 | refine bd e1 ?_ | exact mp e1 | refine it e1 ?_ | refine ief e1 ?_ | refine it rfl ?_ | refine ie tf ?_ | rw [e1]), q⟩
theorem ex_ret0 {p : Pos} (h : Q (.ret .none) loc H) : Ex (n + 1) sc loc (.Return none p) H Q := ⟨_, _, _, rfl, h⟩
theorem ex_cont {p : Pos} (h : Q .cont loc H) : Ex (n + 1) sc loc (.Continue p) H Q := ⟨_, _, _, rfl, h⟩
theorem ex_if {t : Expr} {b o : List Stmt} {p : Pos} (h : Te n sc loc t H fun c H1 => (c = true → Xs n sc loc b H1 Q) ∧ (c = false → Xs n sc loc o H1 Q)) : Ex (n + 1) sc loc (.If t b o p) H Q := by
  obtain ⟨c, H1, e1, h1, h2⟩ := h
  cases c with
  | true => obtain ⟨f, l, H2, e2, q⟩ := h1 rfl; exact ⟨f, l, H2, by repeat (first | rfl | exact e1 | refine bd e1 ?_ | exact mp e1 | refine it e1 ?_ | refine ief e1 ?_ | exact e2 | refine bd e2 ?_ | exact mp e2 | refine it e2 ?_ | refine ief e2 ?_ | refine it rfl ?_ | refine ie tf ?_ | rw [e1] | rw [e2]), q⟩
  | false => obtain ⟨f, l, H2, e2, q⟩ := h2 rfl; exact ⟨f, l, H2, by repeat (first | rfl | exact e1 | refine bd e1 ?_ | exact mp e1 | refine it e1 ?_ | refine ief e1 ?_ | exact e2 | refine bd e2 ?_ | exact mp e2 | refine it e2 ?_ | refine ief e2 ?_ | refine it rfl ?_ | refine ie tf ?_ | rw [e1] | rw [e2]), q⟩
theorem ex_for {x : Str} {xp p : Pos} {iter : Expr} {body : List Stmt} (hk : isLocal sc x = true ∧ isSet iter = false)
    (h : Ev n sc loc iter H fun v H1 => ∃ its, aitems H1 v = some its ∧ isView v = false ∧ its.length < lenLine ∧ Fo (aguard v its) n sc x body its loc H1 Q) : Ex (n + 1) sc loc (.For (.Name x xp) iter body [] p) H Q := by
  obtain ⟨v, H1, e1, its, e2, e3, e4, f, l, H2, e5, q⟩ := h
  exact ⟨f, l, H2, bd e1 (bd e2 (it (by rw [hk.1, hk.2, e3, decide_eq_true e4]; rfl) e5)), q⟩

theorem fo_inv {guard : AH → Bool} {x : Str} {body : List Stmt} (I : List AV → Loc → AH → Prop) : ∀ {its : List AV} {loc : Loc} {H : AH}, I its loc H → (∀ r loc H, I r loc H → guard H = true) →
    (∀ a r loc H, I (a :: r) loc H → Xs n sc (kput loc x a) body H fun f loc' H' => (f = .next ∨ f = .cont) ∧ I r loc' H') → (∀ loc H, I [] loc H → Q .next loc H) → Fo guard n sc x body its loc H Q := by
  intro its
  induction its with
  | nil =>
    intro loc H hI hg _ fin
    exact ⟨.next, loc, H, it (hg _ _ _ hI) rfl, fin _ _ hI⟩
  | cons a r ih =>
    intro loc H hI hg step fin
    obtain ⟨f, l, H1, e1, hf, hI'⟩ := step a r loc H hI
    obtain ⟨f', l', H2, e2, q⟩ := ih hI' hg step fin
    refine ⟨f', l', H2, ?_, q⟩
    rcases hf with rfl | rfl <;> exact it (hg _ _ _ hI) (bd e1 e2)
end

section
variable {Q : Loc → AH → Prop}
theorem as_name {x : Str} {p : Pos} {v : AV} (hk : kget sc x = some .local ∨ kget sc x = some .cell) (q : Q (kput loc x v) H) : As (n + 1) sc loc (.Name x p) v H Q := by
  refine ⟨_, _, ?_, q⟩
  rcases hk with hk | hk <;> (show (match kget sc x with | some .local => some (kput loc x v, H) | some .cell => some (kput loc x v, H) | _ => none) = _; rw [hk])
theorem as_attr {o : Expr} {a : Str} {p : Pos} {v : AV} (h : Ev n sc loc o H fun x H1 => ∃ H2, asetattr H1 x a v = some H2 ∧ Q loc H2) : As (n + 1) sc loc (.Attribute o a p) v H Q := by
  obtain ⟨x, H1, e1, H2, e2, q⟩ := h
  exact ⟨_, _, by repeat (first | rfl | exact e1 | refine bd e1 ?_ | exact mp e1 | refine it e1 ?_ | refine ief e1 ?_ | exact e2 | refine bd e2 ?_ | exact mp e2 | refine it e2 ?_ | refine ief e2 ?_ | refine it rfl ?_ | refine ie tf ?_ | rw [e1] | rw [e2]), q⟩
theorem as_sub {o i : Expr} {p : Pos} {v : AV} (h : Ev n sc loc o H fun x H1 => Ev n sc loc i H1 fun y H2 => ∃ H3, asetitem H2 x y v = some H3 ∧ Q loc H3) : As (n + 1) sc loc (.Subscript o i p) v H Q := by
  obtain ⟨x, H1, e1, y, H2, e2, H3, e3, q⟩ := h
  exact ⟨_, _, by repeat (first | rfl | exact e1 | refine bd e1 ?_ | exact mp e1 | refine it e1 ?_ | refine ief e1 ?_ | exact e2 | refine bd e2 ?_ | exact mp e2 | refine it e2 ?_ | refine ief e2 ?_ | exact e3 | refine bd e3 ?_ | exact mp e3 | refine it e3 ?_ | refine ief e3 ?_ | refine it rfl ?_ | refine ie tf ?_ | rw [e1] | rw [e2] | rw [e3]), q⟩
theorem as_tup {ts : List Expr} {k : Nat} {p : Pos} {vs : List AV} (hl : ts.length = vs.length) (h : Ass n sc loc ts vs H Q) : As (n + 1) sc loc (.Tuple ts k p) (.tup vs) H Q := by
  obtain ⟨l, H1, e1, q⟩ := h
  exact ⟨_, _, by repeat (first | rfl | exact hl | refine bd hl ?_ | exact mp hl | refine it hl ?_ | refine ief hl ?_ | exact e1 | refine bd e1 ?_ | exact mp e1 | refine it e1 ?_ | refine ief e1 ?_ | refine it rfl ?_ | refine ie tf ?_ | rw [hl] | rw [e1]), q⟩
theorem ass_nil (q : Q loc H) : Ass (n + 1) sc loc [] [] H Q := ⟨_, _, rfl, q⟩
theorem ass_cons {t : Expr} {ts : List Expr} {v : AV} {vs : List AV} (hs : isStarred t = false) (h : As n sc loc t v H fun l H1 => Ass n sc l ts vs H1 Q) : Ass (n + 1) sc loc (t :: ts) (v :: vs) H Q := by
  obtain ⟨l, H1, e1, l', H2, e2, q⟩ := h
  exact ⟨_, _, by repeat (first | rfl | exact hs | refine bd hs ?_ | exact mp hs | refine it hs ?_ | refine ief hs ?_ | exact e1 | refine bd e1 ?_ | exact mp e1 | refine it e1 ?_ | refine ief e1 ?_ | exact e2 | refine bd e2 ?_ | exact mp e2 | refine it e2 ?_ | refine ief e2 ?_ | refine it rfl ?_ | refine ie tf ?_ | rw [hs] | rw [e1] | rw [e2]), q⟩
end

theorem ev_comp {elt target iter : Expr} {ifs : List Expr} {scope : Scope} {p : Pos} (hk : (okComp sc scope && okTarget scope.names target && !isSet iter) = true)
    (h : Ev n sc loc iter H fun v H1 => ∃ its, aitems H1 v = some its ∧ (its.length < lenLine ∧ (isView v = true → ifs.isEmpty = true ∧ simpleElt elt = true) ∧ (isView v = false → isName target = true)) ∧
      Co (aguard v its) n scope.names (locFree scope.names loc) target ifs elt its H1 fun zs H2 => Q (.lst zs) H2) : Ev (n + 1) sc loc (.ListComp elt [⟨target, iter, ifs, 0⟩] scope p) H Q := by
  obtain ⟨v, H1, e1, its, e2, e3, zs, H2, e4, q⟩ := h
  refine ⟨_, _, ?_, q⟩
  exact it hk (bd e1 (bd e2 (it e3 (mp e4))))

theorem on_name {names : Sc} {ifs : List Expr} {elt : Expr} {x : Str} {xp : Pos} {v : AV} {Q : Option AV → AH → Prop}
    (h : ∃ y H', acompOne n names (kput loc x v) ifs elt H = some (y, H') ∧ Q y H') : On n names loc (.Name x xp) ifs elt v H Q := by
  obtain ⟨y, H', e, q⟩ := h
  exact ⟨y, H', e, q⟩
theorem on_pair {names : Sc} {ifs : List Expr} {elt : Expr} {x y : Str} {xp yp tp : Pos} {k : Nat} {v w : AV} {Q : Option AV → AH → Prop}
    (h : ∃ u H', acompOne n names (kput (kput loc x v) y w) ifs elt H = some (u, H') ∧ Q u H') : On n names loc (.Tuple [.Name x xp, .Name y yp] k tp) ifs elt (.tup [v, w]) H Q := by
  obtain ⟨u, H', e, q⟩ := h
  exact ⟨u, H', e, q⟩
theorem one_plain {elt : Expr} {Q : Option AV → AH → Prop} (h : Ev n sc loc elt H fun v H1 => Q (some v) H1) : ∃ y H', acompOne (n + 1) sc loc [] elt H = some (y, H') ∧ Q y H' := by
  obtain ⟨v, H1, e1, q⟩ := h
  exact ⟨_, _, by repeat (first | rfl | exact e1 | refine bd e1 ?_ | exact mp e1 | refine it e1 ?_ | refine ief e1 ?_ | refine it rfl ?_ | refine ie tf ?_ | rw [e1]), q⟩
theorem one_if {t elt : Expr} {Q : Option AV → AH → Prop} (h : Te n sc loc t H fun b H1 => (b = true → Ev n sc loc elt H1 fun v H2 => Q (some v) H2) ∧ (b = false → Q none H1)) : ∃ y H', acompOne (n + 1) sc loc [t] elt H = some (y, H') ∧ Q y H' := by
  obtain ⟨b, H1, e1, h1, h2⟩ := h
  cases b with
  | true => obtain ⟨v, H2, e2, q⟩ := h1 rfl; exact ⟨_, _, by repeat (first | rfl | exact e1 | refine bd e1 ?_ | exact mp e1 | refine it e1 ?_ | refine ief e1 ?_ | exact e2 | refine bd e2 ?_ | exact mp e2 | refine it e2 ?_ | refine ief e2 ?_ | refine it rfl ?_ | refine ie tf ?_ | rw [e1] | rw [e2]), q⟩
  | false => exact ⟨_, _, by repeat (first | rfl | exact e1 | refine bd e1 ?_ | exact mp e1 | refine it e1 ?_ | refine ief e1 ?_ | refine it rfl ?_ | refine ie tf ?_ | rw [e1]), h2 rfl⟩

theorem co_inv {guard : AH → Bool} {names : Sc} {target elt : Expr} {ifs : List Expr} (I : List AV → List AV → AH → Prop) : ∀ {its acc : List AV} {H : AH} {Q : List AV → AH → Prop}, I its acc H → (∀ r acc H, I r acc H → guard H = true) →
    (∀ a r acc H, I (a :: r) acc H → On n names loc target ifs elt a H fun y H' => I r (acc ++ y.toList) H') → (∀ zs H, I [] (acc ++ zs) H → Q zs H) → Co guard n names loc target ifs elt its H Q := by
  intro its
  induction its with
  | nil =>
    intro acc H Q hI hg _ fin
    exact ⟨[], H, it (hg _ _ _ hI) rfl, fin _ _ (by simpa using hI)⟩
  | cons a r ih =>
    intro acc H Q hI hg step fin
    obtain ⟨y, H1, e1, hI'⟩ := step a r acc H hI
    obtain ⟨zs, H2, e2, q⟩ := ih (Q := fun zs H => Q (y.toList ++ zs) H) hI' hg step (fun zs H h => fin _ _ (by simpa [List.append_assoc] using h))
    refine ⟨_, H2, ?_, q⟩
    refine it (hg _ _ _ hI) (bd e1 ((mp e2).trans ?_))
    cases y <;> rfl
/-- a comprehension that changes nothing -/
theorem co_pure {guard : AH → Bool} {names : Sc} {target elt : Expr} {ifs : List Expr} (g : AV → Option AV) {its : List AV} {H : AH} {Q : List AV → AH → Prop} (hg : guard H = true)
    (h : ∀ a ∈ its, On n names loc target ifs elt a H fun y H' => y = g a ∧ H' = H) (q : Q (its.filterMap g) H) : Co guard n names loc target ifs elt its H Q := by
  have key : ∀ its : List AV, (∀ a ∈ its, On n names loc target ifs elt a H fun y H' => y = g a ∧ H' = H) →
      acomp guard (fun x H' => (atarget target x loc).bind fun loc' => acompOne n names loc' ifs elt H') its H = some (its.filterMap g, H) := by
    intro its
    induction its with
    | nil => intro _; exact it hg rfl
    | cons a r ih =>
      intro h
      obtain ⟨y, H1, e1, rfl, rfl⟩ := h a (.head _)
      refine it hg (bd e1 ((mp (ih fun b hb => h b (.tail _ hb))).trans ?_))
      simp only [List.filterMap_cons]
      cases g a <;> rfl
  exact ⟨_, _, key its h, q⟩
end


theorem clr {α : Type} {a : α} {P : Prop} (p : P) : a = a → P := fun _ => p
theorem imp_tf {P : Prop} : true = false → P := fun h => nomatch h
theorem imp_ft {P : Prop} : false = true → P := fun h => nomatch h
theorem imp_ntt {P : Prop} : (!true) = true → P := fun h => nomatch h
theorem imp_nff {P : Prop} : (!false) = false → P := fun h => nomatch h
theorem drop_ntf {P : Prop} (p : P) : (!true) = false → P := fun _ => p
theorem drop_nft {P : Prop} (p : P) : (!false) = true → P := fun _ => p
theorem imp_keep {x b : Bool} {P : Prop} (h : x = b → P) : x = b → P := h
theorem fits_id {i : Int} (h : fits i = true) : fits i = true := h
theorem pos_id {j : Int} (h : 0 < j) : 0 < j := h
theorem pow_id {i j : Int} (h : 0 ≤ j ∧ j ≤ 1000 ∧ i.natAbs < 2 ^ 64) : 0 ≤ j ∧ j ≤ 1000 ∧ i.natAbs < 2 ^ 64 := h
theorem boolsplit_id {x : Bool} {P Q : Bool → Prop} (h : ∃ b, AV.bool x = .bool b ∧ P b ∧ Q b) : ∃ b, AV.bool x = .bool b ∧ P b ∧ Q b := h
theorem split_id2 {x : Bool} {P Q : Prop} (h : (x = false → P) ∧ (x = true → Q)) : (x = false → P) ∧ (x = true → Q) := h
theorem split_t {P Q : Prop} (h : P) : (true = true → P) ∧ (true = false → Q) := ⟨fun _ => h, (fun h => (nomatch h))⟩
theorem split_f {P Q : Prop} (h : Q) : (false = true → P) ∧ (false = false → Q) := ⟨(fun h => (nomatch h)), fun _ => h⟩
theorem split_t2 {P Q : Prop} (h : Q) : (true = false → P) ∧ (true = true → Q) := ⟨(fun h => (nomatch h)), fun _ => h⟩
theorem split_f2 {P Q : Prop} (h : P) : (false = false → P) ∧ (false = true → Q) := ⟨fun _ => h, (fun h => (nomatch h))⟩
theorem split_nt {P Q : Prop} (h : Q) : ((!true) = true → P) ∧ ((!true) = false → Q) := ⟨(fun h => (nomatch h)), fun _ => h⟩
theorem split_nf {P Q : Prop} (h : P) : ((!false) = true → P) ∧ ((!false) = false → Q) := ⟨fun _ => h, (fun h => (nomatch h))⟩
theorem split_nt2 {P Q : Prop} (h : P) : ((!true) = false → P) ∧ ((!true) = true → Q) := ⟨fun _ => h, (fun h => (nomatch h))⟩
theorem split_nf2 {P Q : Prop} (h : Q) : ((!false) = false → P) ∧ ((!false) = true → Q) := ⟨(fun h => (nomatch h)), fun _ => h⟩
theorem split_cf {x : Bool} {P Q : Prop} (hx : x = false) (h : Q) : (x = true → P) ∧ (x = false → Q) := by subst hx; exact split_f h
theorem split_ct {x : Bool} {P Q : Prop} (hx : x = true) (h : P) : (x = true → P) ∧ (x = false → Q) := by subst hx; exact split_t h
theorem split_cf2 {x : Bool} {P Q : Prop} (hx : x = false) (h : P) : (x = false → P) ∧ (x = true → Q) := by subst hx; exact split_f2 h
theorem split_ct2 {x : Bool} {P Q : Prop} (hx : x = true) (h : Q) : (x = false → P) ∧ (x = true → Q) := by subst hx; exact split_t2 h
theorem split_x {x : Bool} {P Q : Prop} (h1 : x = true → P) (h2 : x = false → Q) : (x = true → P) ∧ (x = false → Q) := ⟨h1, h2⟩
theorem split_x2 {x : Bool} {P Q : Prop} (h1 : x = false → P) (h2 : x = true → Q) : (x = false → P) ∧ (x = true → Q) := ⟨h1, h2⟩
theorem split_id {x : Bool} {P Q : Prop} (h : (x = true → P) ∧ (x = false → Q)) : (x = true → P) ∧ (x = false → Q) := h
noncomputable def isStore (sc : Sc) (x : Str) : Bool := match kget sc x with
  | some .local | some .cell => true
  | _ => false
theorem as_nameb {n : Nat} {sc : Sc} {loc : Loc} {H : AH} {Q : Loc → AH → Prop} {x : Str} {p : Pos} {v : AV} (hk : isStore sc x = true) (q : Q (kput loc x v) H) : As (n + 1) sc loc (.Name x p) v H Q := by
  refine as_name ?_ q
  unfold isStore at hk
  cases e : kget sc x with
  | none => rw [e] at hk; cases hk
  | some k => rw [e] at hk; cases k <;> first | exact .inl rfl | exact .inr rfl | cases hk
theorem ofString_inj {a b : String} : Str.ofString a = Str.ofString b ↔ a = b := by
  constructor
  · intro h
    rw [Str.ofString_eq_toList, Str.ofString_eq_toList, Str.mk.injEq] at h
    have h2 : a.toList.map Char.toNat = b.toList.map Char.toNat := by
      have := congrArg Array.toList h
      simpa using this
    have inj : ∀ l r : List Char, l.map Char.toNat = r.map Char.toNat → l = r := by
      intro l
      induction l with
      | nil => intro r h; cases r with | nil => rfl | cons _ _ => cases h
      | cons c l ih =>
        intro r h
        cases r with
        | nil => cases h
        | cons d r =>
          simp only [List.map_cons, List.cons.injEq] at h
          rw [ih r h.2]
          have : c = d := Char.ext (UInt32.toNat_inj.mp h.1)
          rw [this]
    have := inj _ _ h2
    exact String.toList_inj.mp this
  · rintro rfl; rfl

theorem kgp (l : List (Str × AV)) (x y : Str) (v : AV) : kget (kput l x v) y = if x = y then some v else kget l y := by
  induction l with
  | nil => simp only [kput, kget]
  | cons p r ih =>
    obtain ⟨k, w⟩ := p
    simp only [kput]
    by_cases hk : k = x
    · subst hk
      rw [if_pos rfl]
      simp only [kget]
      by_cases hy : k = y
      · rw [if_pos hy, if_pos hy]
      · rw [if_neg hy, if_neg hy, if_neg hy]
    · rw [if_neg hk]
      simp only [kget]
      by_cases hy : k = y
      · subst hy; rw [if_pos rfl, if_pos rfl, if_neg (Ne.symm hk)]
      · rw [if_neg hy, if_neg hy, ih]
theorem kgp_same {l : List (Str × AV)} {x : Str} {v : AV} : kget (kput l x v) x = some v := by rw [kgp, if_pos rfl]
theorem kgp_ne {l : List (Str × AV)} {x y : Str} {v w : AV} (h : x ≠ y) (e : kget l y = some w) : kget (kput l x v) y = some w := by rw [kgp, if_neg h]; exact e
theorem kg_head {α : Type} {r : List (Str × α)} {x : Str} {v : α} : kget ((x, v) :: r) x = some v := by unfold kget; rw [if_pos rfl]
theorem kg_tail {α : Type} {r : List (Str × α)} {x y : Str} {v w : α} (h : x ≠ y) (e : kget r y = some w) : kget ((x, v) :: r) y = some w := by unfold kget; rw [if_neg h]; exact e
theorem kget_filter {P : Str × AV → Bool} {x : Str} {v : AV} (hP : ∀ w, P (x, w) = true) : ∀ {loc : Loc}, kget loc x = some v → kget (loc.filter P) x = some v
  | [], h => by cases h
  | (k, w) :: r, h => by
    by_cases hx : k = x
    · subst hx
      unfold kget at h
      rw [if_pos rfl] at h
      rw [List.filter_cons_of_pos (hP w)]
      unfold kget; rw [if_pos rfl]; exact h
    · unfold kget at h
      rw [if_neg hx] at h
      by_cases hc : P (k, w) = true
      · rw [List.filter_cons_of_pos hc]
        unfold kget; rw [if_neg hx]; exact kget_filter hP h
      · rw [List.filter_cons_of_neg hc]; exact kget_filter hP h
theorem kget_locFree {names : Sc} {loc : Loc} {x : Str} {v : AV} (hk : kget names x = some .free) (h : kget loc x = some v) : kget (locFree names loc) x = some v :=
  kget_filter (fun w => by simp only [hk]) h

noncomputable def isLoc (sc : Sc) (x : Str) : Bool := match kget sc x with
  | some .local | some .cell | some .free => true
  | _ => false
theorem aname_loc {sc : Sc} {loc : Loc} {x : Str} {v : AV} (hk : isLoc sc x = true) (h : kget loc x = some v) : aname sc loc x = some v := by
  unfold isLoc at hk
  unfold aname
  cases q : kget sc x with
  | none => rw [q] at hk; cases hk
  | some k => rw [q] at hk; cases k <;> first | exact h | cases hk
theorem aname_glob {sc : Sc} {loc : Loc} {x : Str} {v : AV} (hk : kget sc x = some .globalImplicit) (h : gconst x = some v) : aname sc loc x = some v := by
  unfold aname; rw [hk]; exact h

/-- a name's value, handed on -/
noncomputable def Kob (loc : Loc) (x : Str) (P : AV → Prop) : Prop := ∃ v, kget loc x = some v ∧ P v
theorem kob_same {l : Loc} {x : Str} {v : AV} {P : AV → Prop} (p : P v) : Kob (kput l x v) x P := ⟨v, kgp_same, p⟩
theorem kob_ne {l : Loc} {x y : Str} {v : AV} {P : AV → Prop} (h : x ≠ y) (p : Kob l y P) : Kob (kput l x v) y P := let ⟨w, e, q⟩ := p; ⟨w, kgp_ne h e, q⟩
theorem kob_head {l : Loc} {x : Str} {v : AV} {P : AV → Prop} (p : P v) : Kob ((x, v) :: l) x P := ⟨v, kg_head, p⟩
theorem kob_tail {l : Loc} {x y : Str} {v : AV} {P : AV → Prop} (h : x ≠ y) (p : Kob l y P) : Kob ((x, v) :: l) y P := let ⟨w, e, q⟩ := p; ⟨w, kg_tail h e, q⟩
theorem kob_neb {l : Loc} {x y : Str} {v : AV} {P : AV → Prop} (h : decide (x = y) = false) (p : Kob l y P) : Kob (kput l x v) y P := kob_ne (of_decide_eq_false h) p
theorem kob_tailb {l : Loc} {x y : Str} {v : AV} {P : AV → Prop} (h : decide (x = y) = false) (p : Kob l y P) : Kob ((x, v) :: l) y P := kob_tail (of_decide_eq_false h) p
theorem kgp_neb {l : List (Str × AV)} {x y : Str} {v w : AV} (h : decide (x = y) = false) (e : kget l y = some w) : kget (kput l x v) y = some w := kgp_ne (of_decide_eq_false h) e
theorem kg_tailb {α : Type} {r : List (Str × α)} {x y : Str} {v w : α} (h : decide (x = y) = false) (e : kget r y = some w) : kget ((x, v) :: r) y = some w := kg_tail (of_decide_eq_false h) e
theorem kob_free {names : Sc} {l : Loc} {x : Str} {P : AV → Prop} (h : kget names x = some .free) (p : Kob l x P) : Kob (locFree names l) x P := let ⟨w, e, q⟩ := p; ⟨w, kget_locFree h e, q⟩
theorem kob_of {l : Loc} {x : Str} {v : AV} {P : AV → Prop} (e : kget l x = some v) (p : P v) : Kob l x P := ⟨v, e, p⟩
theorem ev_loc {n : Nat} {sc : Sc} {loc : Loc} {H : AH} {x : Str} {p : Pos} {Q : AV → AH → Prop} (hk : isLoc sc x = true) (h : Kob loc x fun v => Q v H) : Ev (n + 1) sc loc (.Name x p) H Q :=
  let ⟨_, e, q⟩ := h; ev_name (aname_loc hk e) q
theorem ev_glob {n : Nat} {sc : Sc} {loc : Loc} {H : AH} {x : Str} {v : AV} {p : Pos} {Q : AV → AH → Prop} (h : gconst x = some v) (hk : kget sc x = some .globalImplicit) (q : Q v H) : Ev (n + 1) sc loc (.Name x p) H Q :=
  ev_name (aname_glob hk h) q

/-- a constant of the text, by its name -/
noncomputable def Eg (sc : Sc) (x : Str) (P : AV → Prop) : Prop := ∃ v, gconst x = some v ∧ kget sc x = some .globalImplicit ∧ P v
theorem ev_globs {n : Nat} {sc : Sc} {loc : Loc} {H : AH} {x : Str} {p : Pos} {Q : AV → AH → Prop} (h : Eg sc x fun v => Q v H) : Ev (n + 1) sc loc (.Name x p) H Q :=
  let ⟨_, e, hk, q⟩ := h; ev_name (aname_glob hk e) q
theorem eg_of {sc : Sc} {x : Str} {v : AV} {P : AV → Prop} (e : gconst x = some v) (hk : kget sc x = some .globalImplicit) (p : P v) : Eg sc x P := ⟨v, e, hk, p⟩

theorem gc1 : gconst "INITIAL_RTT" = some (.int 333000) := by kernel_rfl
theorem gc2 : gconst "GRANULARITY" = some (.int 1000) := by kernel_rfl
theorem gc3 : gconst "PACKET_THRESHOLD" = some (.int 3) := by kernel_rfl
theorem gc4 : gconst "TIME_TOP" = some (.int 9) := by kernel_rfl
theorem gc5 : gconst "TIME_BOTTOM" = some (.int 8) := by kernel_rfl
theorem gc6 : gconst "INITIAL_PACKETS" = some (.int 10) := by kernel_rfl
theorem gc7 : gconst "INITIAL_OCTETS" = some (.int 14720) := by kernel_rfl
theorem gc8 : gconst "LEAST_PACKETS" = some (.int 2) := by kernel_rfl
theorem gc9 : gconst "LOSS_TOP" = some (.int 1) := by kernel_rfl
theorem gc10 : gconst "LOSS_BOTTOM" = some (.int 2) := by kernel_rfl
theorem gc11 : gconst "SPACE_ORDER" = some (.tup [.str "initial", .str "handshake", .str "application"]) := by kernel_rfl

theorem fi1 : fidx "without_delay" = some 4 := by kernel_rfl
theorem fi2 : fidx "loss_delay" = some 10 := by kernel_rfl
theorem fi3 : fidx "is_lost" = some 11 := by kernel_rfl
theorem fi4 : fidx "detect_lost" = some 12 := by kernel_rfl
theorem fi5 : fidx "newest_time" = some 13 := by kernel_rfl
theorem fi6 : fidx "flight_size" = some 14 := by kernel_rfl
theorem fi7 : fidx "initial_window" = some 21 := by kernel_rfl
theorem fi8 : fidx "least_window" = some 22 := by kernel_rfl
theorem fi9 : fidx "probe_period" = some 26 := by kernel_rfl
theorem fi10 : fidx "earliest_of" = some 27 := by kernel_rfl
theorem fi11 : fidx "probe_times" = some 28 := by kernel_rfl
theorem fi12 : fidx "is_anything_asked" = some 29 := by kernel_rfl
theorem fi13 : fidx "probe_due" = some 30 := by kernel_rfl
theorem fi14 : fidx "_law_take" = some 32 := by kernel_rfl
theorem fi15 : fidx "_law_sampled" = some 33 := by kernel_rfl
theorem fi16 : fidx "_law_acknowledged" = some 34 := by kernel_rfl
theorem fi17 : fidx "_law_missed" = some 35 := by kernel_rfl
theorem fi18 : fidx "_law_struck" = some 36 := by kernel_rfl
theorem fi19 : fidx "_law_probe" = some 37 := by kernel_rfl
theorem fi20 : fidx "_law_send" = some 38 := by kernel_rfl
theorem fi21 : fidx "_law_hear" = some 39 := by kernel_rfl
theorem fi22 : fidx "_law_stands" = some 40 := by kernel_rfl

@[reducible] noncomputable def oi : Option Int → AV
  | none => .none
  | some i => .int i

section
variable {H : AH} {i j : Int} {b : Bool}
theorem abin_add : abin .Add (.int i) (.int j) = some (.int (i + j)) := rfl
theorem abin_sub : abin .Sub (.int i) (.int j) = some (.int (i - j)) := rfl
theorem abin_addb : abin .Add (.int i) (.bool b) = some (.int (i + if b then 1 else 0)) := rfl
theorem abin_mul (hi : fits i = true) (hj : fits j = true) : abin .Mult (.int i) (.int j) = some (.int (i * j)) := it (by rw [hi, hj]; rfl) rfl
theorem abin_fdiv (hp : 0 < j) (hi : fits i = true) (hj : fits j = true) : abin .FloorDiv (.int i) (.int j) = some (.int (i / j)) := by
  have : j ≠ 0 := by omega
  exact it (by rw [hi, hj]; exact ⟨this, rfl⟩) (congrArg (fun z => some (AV.int z)) (Int.fdiv_eq_ediv_of_nonneg _ (Int.le_of_lt hp)))
theorem abin_mod (hp : 0 < j) : abin .Mod (.int i) (.int j) = some (.int (i % j)) := by
  have : j ≠ 0 := by omega
  exact it this (congrArg (fun z => some (AV.int z)) (Int.fmod_eq_emod_of_nonneg _ (Int.le_of_lt hp)))
theorem abin_pow (h : 0 ≤ j ∧ j ≤ 1000 ∧ i.natAbs < 2 ^ 64) : abin .Pow (.int i) (.int j) = some (.int (i ^ j.toNat)) := by
  exact it h rfl

theorem ac_lt : acmp H .Lt (.int i) (.int j) = some (decide (i < j)) := rfl
theorem ac_le : acmp H .LtE (.int i) (.int j) = some (decide (i ≤ j)) := rfl
theorem ac_gt : acmp H .Gt (.int i) (.int j) = some (decide (j < i)) := rfl
theorem ac_ge : acmp H .GtE (.int i) (.int j) = some (decide (j ≤ i)) := rfl
theorem ac_isn : acmp H .Is .none .none = some true := rfl
theorem ac_isi : acmp H .Is (.int i) .none = some false := rfl
theorem ac_isnotn : acmp H .IsNot .none .none = some false := rfl
theorem ac_isnoti : acmp H .IsNot (.int i) .none = some true := rfl
theorem ac_isnott {l : List AV} : acmp H .IsNot (.tup l) .none = some true := rfl
theorem ac_ist {l : List AV} : acmp H .Is (.tup l) .none = some false := rfl
theorem ac_eq : acmp H .Eq (.int i) (.int j) = some (decide (i = j)) := rfl

theorem ab_abs : abuiltin "abs" [.int i] H = some (.int (i.natAbs : Int), H) := by kernel_rfl
theorem ab_min : abuiltin "min" [.int i, .int j] H = some (.int (min i j), H) :=
  have e : abuiltin "min" [.int i, .int j] H = some (.int (if j < i then j else i), H) := by kernel_rfl
  e.trans (congrArg (fun z => some (AV.int z, H)) (by omega))
theorem ab_max : abuiltin "max" [.int i, .int j] H = some (.int (max i j), H) :=
  have e : abuiltin "max" [.int i, .int j] H = some (.int (if i < j then j else i), H) := by kernel_rfl
  e.trans (congrArg (fun z => some (AV.int z, H)) (by omega))
theorem nb_abs : fidx "abs" = none ∧ cidx "abs" = none := ⟨by kernel_rfl, by kernel_rfl⟩
theorem nb_len : fidx "len" = none ∧ cidx "len" = none := ⟨by kernel_rfl, by kernel_rfl⟩
theorem nb_min : fidx "min" = none ∧ cidx "min" = none := ⟨by kernel_rfl, by kernel_rfl⟩
theorem nb_max : fidx "max" = none ∧ cidx "max" = none := ⟨by kernel_rfl, by kernel_rfl⟩
theorem nb_sum : fidx "sum" = none ∧ cidx "sum" = none := ⟨by kernel_rfl, by kernel_rfl⟩
theorem nb_any : fidx "any" = none ∧ cidx "any" = none := ⟨by kernel_rfl, by kernel_rfl⟩
theorem nb_sorted : fidx "sorted" = none ∧ cidx "sorted" = none := ⟨by kernel_rfl, by kernel_rfl⟩
theorem nb_list : fidx "list" = none ∧ cidx "list" = none := ⟨by kernel_rfl, by kernel_rfl⟩
theorem nb_range : fidx "range" = none ∧ cidx "range" = none := ⟨by kernel_rfl, by kernel_rfl⟩
end

section
variable {n : Nat} {sc : Sc} {loc : Loc} {H : AH} {Q : AV → AH → Prop}
theorem ev_int {i : Int} {k : Nat} {p : Pos} (q : Q (.int i) H) : Ev (n + 1) sc loc (.Constant (.int i) k p) H Q := ev_const rfl q
theorem ev_str {i : Str} {k : Nat} {p : Pos} (q : Q (.str i) H) : Ev (n + 1) sc loc (.Constant (.str i) k p) H Q := ev_const rfl q
theorem ev_cb {i : Bool} {k : Nat} {p : Pos} (q : Q (.bool i) H) : Ev (n + 1) sc loc (.Constant (.bool i) k p) H Q := ev_const rfl q
theorem ev_non {k : Nat} {p : Pos} (q : Q .none H) : Ev (n + 1) sc loc (.Constant .none k p) H Q := ev_const rfl q
end
section
variable {n : Nat} {sc : Sc} {loc : Loc} {H : AH}
theorem ev_locv {x : Str} {p : Pos} {v : AV} {Q : AV → AH → Prop} (hk : isLoc sc x = true) (h : kget loc x = some v) (q : Q v H) : Ev (n + 1) sc loc (.Name x p) H Q := ev_loc hk ⟨v, h, q⟩
theorem evs_loc {x : Str} {p : Pos} {v : AV} {r : List Expr} {Q : List AV → AH → Prop} (hk : isLoc sc x = true) (h : kget loc x = some v) (q : Evs (n + 1) sc loc r H fun vs H2 => Q (v :: vs) H2) : Evs (n + 2) sc loc (.Name x p :: r) H Q := evs_cons rfl (ev_locv hk h q)
theorem evs_int {i : Int} {k : Nat} {p : Pos} {r : List Expr} {Q : List AV → AH → Prop} (q : Evs (n + 1) sc loc r H fun vs H2 => Q (.int i :: vs) H2) : Evs (n + 2) sc loc (.Constant (.int i) k p :: r) H Q := evs_cons rfl (ev_int q)
theorem te_cmpl {x : Str} {lp : Pos} {v : AV} {r : Expr} {op : CmpOp} {p : Pos} {Q : Bool → AH → Prop} (hs : isSet r = false) (hk : isLoc sc x = true) (h : kget loc x = some v) (q : Ev (n + 1) sc loc r H fun b H2 => ∃ c, acmp H2 op v b = some c ∧ Q c H2) : Te (n + 2) sc loc (.Compare (.Name x lp) [op] [r] p) H Q := te_cmp hs (ev_locv hk h q)
theorem next_cons {s : Stmt} {r : List Stmt} {Q : AFlow → Loc → AH → Prop} (h : Ex n sc loc s H (Then n sc r Q)) : Then (n + 1) sc (s :: r) Q .next loc H := then_next (xs_cons h)
theorem xs_assign {t v : Expr} {p : Pos} {r : List Stmt} {Q : AFlow → Loc → AH → Prop} (hs : (swap2 sc t v || noSwap t v) = true) (h : Ev n sc loc v H fun a H1 => As n sc loc t a H1 fun l H2 => Then (n + 1) sc r Q .next l H2) : Xs (n + 2) sc loc (.Assign [t] v p :: r) H Q := xs_cons (ex_assign hs h)
theorem next_assign {t v : Expr} {p : Pos} {r : List Stmt} {Q : AFlow → Loc → AH → Prop} (hs : (swap2 sc t v || noSwap t v) = true) (h : Ev n sc loc v H fun a H1 => As n sc loc t a H1 fun l H2 => Then (n + 1) sc r Q .next l H2) : Then (n + 2) sc (.Assign [t] v p :: r) Q .next loc H := then_next (xs_assign hs h)
end

section
variable {n : Nat} {H : AH} {B : Int}

theorem without_delay_spec {a b c : Int} {Q : AV → AH → Prop} (q : Q (.int (if b + c ≤ a then a - c else a)) H) : Cl (n + 10) (fdef 4) [.int a, .int b, .int c] H Q := by
  ((refine cl_intro (fd := ⟨_, _, _, _⟩) rfl rfl ?_); dsimp only [List.map, List.zip, List.zipWith])
  focus (refine xs_cons ?_; refine ex_ret ?_; refine ev_if ?_; refine' te_cmpl rfl (by kernel_rfl) kg_head ?_; refine ev_bin ?_; refine' ev_locv (by kernel_rfl) (kg_tailb (by kernel_rfl) kg_head) ?_; refine' ev_locv (by kernel_rfl) (kg_tailb (by kernel_rfl) (kg_tailb (by kernel_rfl) kg_head)) ?_; refine ⟨_, abin_add, ?_⟩; refine ⟨_, ac_ge, ?_⟩; refine split_x (fun _ => ?_) (fun _ => ?_); refine ev_bin ?_; refine' ev_locv (by kernel_rfl) kg_head ?_; refine' ev_locv (by kernel_rfl) (kg_tailb (by kernel_rfl) (kg_tailb (by kernel_rfl) kg_head)) ?_; refine ⟨_, abin_sub, ?_⟩; refine then_ret ?_; rotate_left; refine' ev_locv (by kernel_rfl) kg_head ?_; refine then_ret ?_; rotate_left)
  all_goals (try simp only [decide_eq_true_eq, decide_eq_false_iff_not, Int.not_le, Int.not_lt, Bool.not_eq_true', Bool.not_eq_false', Bool.not_eq_true, Bool.not_eq_false, ne_eq, Decidable.not_not] at *)
  · rename_i h; rw [if_pos h] at q; exact q
  · rename_i h; rw [if_neg (by omega)] at q; exact q
theorem loss_delay_spec {a b : Int} {Q : AV → AH → Prop} (hB : 1000000 ≤ B ∧ 1048576 * B ≤ BIG) (ha : -B ≤ a ∧ a ≤ B) (hb : -B ≤ b ∧ b ≤ B) (q : Q (.int (max (9 * max a b / 8) 1000)) H) : Cl (n + 12) (fdef 10) [.int a, .int b] H Q := by
  ((refine cl_intro (fd := ⟨_, _, _, _⟩) rfl rfl ?_); dsimp only [List.map, List.zip, List.zipWith])
  focus (refine xs_cons ?_; refine ex_ret ?_; refine ev_call (Nat.le_of_ble_eq_true rfl) (by kernel_rfl) ?_; refine evs_cons rfl ?_; refine ev_bin ?_; refine ev_bin ?_; refine ev_globs (eg_of gc4 (by kernel_rfl) ?_); refine ev_call (Nat.le_of_ble_eq_true rfl) (by kernel_rfl) ?_; refine' evs_loc (by kernel_rfl) kg_head ?_; refine' evs_loc (by kernel_rfl) (kg_tailb (by kernel_rfl) kg_head) ?_; refine evs_nil ?_; refine cn_bi nb_max ab_max ?_; refine ⟨_, abin_mul ?_ ?_, ?_⟩; exact (by kernel_rfl); exact fits_of (by omega) (by omega); refine ev_globs (eg_of gc5 (by kernel_rfl) ?_); refine ⟨_, abin_fdiv ?_ ?_ ?_, ?_⟩; omega; exact fits_of (by omega) (by omega); exact (by kernel_rfl); refine evs_cons rfl ?_; refine ev_globs (eg_of gc2 (by kernel_rfl) ?_); refine evs_nil ?_; refine cn_bi nb_max ab_max ?_; refine then_ret ?_; rotate_left)
  exact q
theorem is_lost_spec {a b c d e : Int} {Q : AV → AH → Prop} (q : Q (.bool (decide (a + 3 ≤ c) || decide (b + e ≤ d))) H) : Cl (n + 12) (fdef 11) [.int a, .int b, .int c, .int d, .int e] H Q := by
  ((refine cl_intro (fd := ⟨_, _, _, _⟩) rfl rfl ?_); dsimp only [List.map, List.zip, List.zipWith])
  focus (refine xs_cons ?_; refine ex_ret ?_; refine ev_bool ?_; refine bo_or ?_; refine ev_cmp rfl ?_; refine' ev_locv (by kernel_rfl) (kg_tailb (by kernel_rfl) (kg_tailb (by kernel_rfl) kg_head)) ?_; refine ev_bin ?_; refine' ev_locv (by kernel_rfl) kg_head ?_; refine ev_globs (eg_of gc3 (by kernel_rfl) ?_); refine ⟨_, abin_add, ?_⟩; refine ⟨_, ac_ge, ?_⟩; refine ⟨_, rfl, ?_, ?_⟩; refine imp_keep fun _ => ?_; refine bo_one ?_; refine ev_cmp rfl ?_; refine ev_bin ?_; refine' ev_locv (by kernel_rfl) (kg_tailb (by kernel_rfl) kg_head) ?_; refine' ev_locv (by kernel_rfl) (kg_tailb (by kernel_rfl) (kg_tailb (by kernel_rfl) (kg_tailb (by kernel_rfl) (kg_tailb (by kernel_rfl) kg_head)))) ?_; refine ⟨_, abin_add, ?_⟩; refine' ev_locv (by kernel_rfl) (kg_tailb (by kernel_rfl) (kg_tailb (by kernel_rfl) (kg_tailb (by kernel_rfl) kg_head))) ?_; refine ⟨_, ac_le, ?_⟩; refine then_ret ?_; rotate_left; refine imp_keep fun _ => ?_; refine then_ret ?_; rotate_left)
  all_goals (try simp only [decide_eq_true_eq, decide_eq_false_iff_not, Int.not_le, Int.not_lt, Bool.not_eq_true', Bool.not_eq_false', Bool.not_eq_true, Bool.not_eq_false, ne_eq, Decidable.not_not] at *)
  · rename_i h; rw [decide_eq_false (by omega), Bool.false_or] at q; exact q
  · rename_i h; rw [decide_eq_true h, Bool.true_or] at q; exact q
theorem initial_window_spec {Q : AV → AH → Prop} (hB : 1000000 ≤ B ∧ 1048576 * B ≤ BIG) (q : Q (.int 12000) H) : Cl (n + 12) (fdef 21) [.int 1200] H Q := by
  ((refine cl_intro (fd := ⟨_, _, _, _⟩) rfl rfl ?_); dsimp only [List.map, List.zip, List.zipWith])
  focus (refine xs_cons ?_; refine ex_ret ?_; refine ev_call (Nat.le_of_ble_eq_true rfl) (by kernel_rfl) ?_; refine evs_cons rfl ?_; refine ev_bin ?_; refine ev_globs (eg_of gc6 (by kernel_rfl) ?_); refine' ev_locv (by kernel_rfl) kg_head ?_; refine ⟨_, abin_mul ?_ ?_, ?_⟩; exact (by kernel_rfl); exact (by kernel_rfl); refine evs_cons rfl ?_; refine ev_call (Nat.le_of_ble_eq_true rfl) (by kernel_rfl) ?_; refine evs_cons rfl ?_; refine ev_globs (eg_of gc7 (by kernel_rfl) ?_); refine evs_cons rfl ?_; refine ev_bin ?_; refine ev_globs (eg_of gc8 (by kernel_rfl) ?_); refine' ev_locv (by kernel_rfl) kg_head ?_; refine ⟨_, abin_mul ?_ ?_, ?_⟩; exact (by kernel_rfl); exact (by kernel_rfl); refine evs_nil ?_; refine cn_bi nb_max ab_max ?_; refine evs_nil ?_; refine cn_bi nb_min ab_min ?_; refine then_ret ?_; rotate_left)
  exact q
theorem least_window_spec {Q : AV → AH → Prop} (hB : 1000000 ≤ B ∧ 1048576 * B ≤ BIG) (q : Q (.int 2400) H) : Cl (n + 12) (fdef 22) [.int 1200] H Q := by
  ((refine cl_intro (fd := ⟨_, _, _, _⟩) rfl rfl ?_); dsimp only [List.map, List.zip, List.zipWith])
  focus (refine xs_cons ?_; refine ex_ret ?_; refine ev_bin ?_; refine ev_globs (eg_of gc8 (by kernel_rfl) ?_); refine' ev_locv (by kernel_rfl) kg_head ?_; refine ⟨_, abin_mul ?_ ?_, ?_⟩; exact (by kernel_rfl); exact (by kernel_rfl); refine then_ret ?_; rotate_left)
  exact q
theorem probe_period_spec {a b k : Int} {Q : AV → AH → Prop} (hB : 1000000 ≤ B ∧ 1048576 * B ≤ BIG) (ha : -(B * 4) ≤ a ∧ a ≤ B * 4) (hb : -B ≤ b ∧ b ≤ B) (hk : 0 ≤ k ∧ k ≤ 20) (q : Q (.int ((a + b) * 2 ^ k.toNat)) H) : Cl (n + 12) (fdef 26) [.int a, .int b, .int k] H Q := by
  have h2 : (2 : Int) ^ k.toNat ≤ 1048576 := by
    have h : k.toNat ≤ 20 := by omega
    have := Nat.pow_le_pow_right (n := 2) (by decide) h
    have e : ((2 ^ k.toNat : Nat) : Int) ≤ ((2 ^ 20 : Nat) : Int) := Int.ofNat_le.mpr this
    simpa using e
  have h3 : (0 : Int) ≤ 2 ^ k.toNat := Int.pow_nonneg (by decide)
  ((refine cl_intro (fd := ⟨_, _, _, _⟩) rfl rfl ?_); dsimp only [List.map, List.zip, List.zipWith])
  focus (refine xs_cons ?_; refine ex_ret ?_; refine ev_bin ?_; refine ev_bin ?_; refine' ev_locv (by kernel_rfl) kg_head ?_; refine' ev_locv (by kernel_rfl) (kg_tailb (by kernel_rfl) kg_head) ?_; refine ⟨_, abin_add, ?_⟩; refine ev_bin ?_; refine ev_int ?_; refine' ev_locv (by kernel_rfl) (kg_tailb (by kernel_rfl) (kg_tailb (by kernel_rfl) kg_head)) ?_; refine ⟨_, abin_pow ?_, ?_⟩; exact ⟨by omega, by omega, by decide⟩; refine ⟨_, abin_mul ?_ ?_, ?_⟩; exact fits_of (by omega) (by omega); exact fits_of (by omega) (by omega); refine then_ret ?_; rotate_left)
  exact q
end


/-- an object's content, handed on -/
noncomputable def Hob (H : AH) (k : Nat) (P : AObj → Prop) : Prop := ∃ o, H[k]? = some o ∧ P o
section
variable {H : AH} {k j : Nat} {o o' : AObj} {P : AObj → Prop}
theorem hob_id (h : Hob H k P) : Hob H k P := h
theorem kp_id {l : List (Str × AV)} {x : Str} {v : AV} {P : List (Str × AV) → Prop} (h : ∃ l', kput l x v = l' ∧ P l') : ∃ l', kput l x v = l' ∧ P l' := h
theorem hob_of (e : H[k]? = some o) (p : P o) : Hob H k P := ⟨o, e, p⟩
theorem get_set_same (e : H[k]? = some o') : (H.set k o)[k]? = some o := by
  have := (List.getElem?_eq_some_iff.mp e).1
  simp [this]
theorem get_set_ne (h : j ≠ k) (e : H[k]? = some o') : (H.set j o)[k]? = some o' := by rw [List.getElem?_set_ne h]; exact e
theorem get_snoc : (H ++ [o])[H.length]? = some o := by simp
theorem get_old (e : H[k]? = some o') : (H ++ [o])[k]? = some o' := by
  rw [List.getElem?_append_left (List.getElem?_eq_some_iff.mp e).1]; exact e
theorem set_snoc : (H ++ [o]).set H.length o' = H ++ [o'] := by simp
theorem hob_same (h : Hob H k fun _ => True) (p : P o) : Hob (H.set k o) k P := let ⟨_, e, _⟩ := h; ⟨o, get_set_same e, p⟩
theorem hob_ne (h : j ≠ k) (p : Hob H k P) : Hob (H.set j o) k P := let ⟨x, e, q⟩ := p; ⟨x, get_set_ne h e, q⟩
theorem hob_snoc (p : P o) : Hob (H ++ [o]) H.length P := ⟨o, get_snoc, p⟩
theorem hob_old (p : Hob H k P) : Hob (H ++ [o]) k P := let ⟨x, e, q⟩ := p; ⟨x, get_old e, q⟩
end

section
variable {H : AH} {k : Nat} {P : AV → Prop} {R : AH → Prop}
theorem gi_s {x : Str} (h : Hob H k fun o => ∃ es, o = .dictS es ∧ Kob es x P) : ∃ v, agetitem H (.ref k) (.str x) = some v ∧ P v := by
  obtain ⟨o, e, es, rfl, v, e2, p⟩ := h
  exact ⟨v, bd e (bd (rfl : sOf (AV.str x) = some x) e2), p⟩
theorem gi_l {i : Int} (h : Hob H k fun o => ∃ l, o = .list l ∧ ∃ p, place i l.length = some p ∧ ∃ v, l[p]? = some v ∧ P v) : ∃ v, agetitem H (.ref k) (.int i) = some v ∧ P v := by
  obtain ⟨o, e, l, rfl, p, e2, v, e3, q⟩ := h
  exact ⟨v, bd e (bd e2 e3), q⟩
theorem gi_i {i : Int} (h : Hob H k fun o => ∃ es, o = .dictI es ∧ ∃ v, kget es i = some v ∧ P v) : ∃ v, agetitem H (.ref k) (.int i) = some v ∧ P v := by
  obtain ⟨o, e, es, rfl, v, e2, q⟩ := h
  exact ⟨v, bd e (bd (rfl : iOf (AV.int i) = some i) e2), q⟩
theorem gi_t {i : Int} {l : List AV} (h : ∃ p, place i l.length = some p ∧ ∃ v, l[p]? = some v ∧ P v) : ∃ v, agetitem H (.tup l) (.int i) = some v ∧ P v := by
  obtain ⟨p, e2, v, e3, q⟩ := h
  exact ⟨v, bd e2 e3, q⟩
theorem at_i {a : Str} (h : Hob H k fun o => ∃ c fs, o = .inst c fs ∧ isField c a = true ∧ Kob fs a P) : ∃ v, aattr H (.ref k) a = some v ∧ P v := by
  obtain ⟨o, e, c, fs, rfl, hf, v, e2, q⟩ := h
  exact ⟨v, by (delta aattr; dsimp only; repeat (first | rfl | exact e | refine bd e ?_ | exact mp e | refine it e ?_ | refine it ⟨rfl, e⟩ ?_ | refine ief e ?_ | exact hf | refine bd hf ?_ | exact mp hf | refine it hf ?_ | refine it ⟨rfl, hf⟩ ?_ | refine ief hf ?_ | exact e2 | refine bd e2 ?_ | exact mp e2 | refine it e2 ?_ | refine it ⟨rfl, e2⟩ ?_ | refine ief e2 ?_ | refine it rfl ?_ | refine ie tf ?_ | refine ie (of_decide_eq_false (by kernel_rfl)) ?_ | refine ie (fun q => absurd q.1 (of_decide_eq_false (by kernel_rfl))) ?_ | rw [e] | rw [hf] | rw [e2])), q⟩
theorem sa_i {a : Str} {v : AV} (h : Hob H k fun o => ∃ c fs, o = .inst c fs ∧ (isField c a = true ∧ fs.length < 100) ∧ ∃ fs', kput fs a v = fs' ∧ R (H.set k (.inst c fs'))) : ∃ H2, asetattr H (.ref k) a v = some H2 ∧ R H2 := by
  obtain ⟨o, e, c, fs, rfl, hf, fs', rfl, q⟩ := h
  exact ⟨_, by (delta asetattr; dsimp only; rw [e]; exact it hf rfl), q⟩
theorem si_s {x : Str} {v : AV} (h : Hob H k fun o => ∃ es, o = .dictS es ∧ es.length < lenLine ∧ ∃ es', kput es x v = es' ∧ R (H.set k (.dictS es'))) : ∃ H2, asetitem H (.ref k) (.str x) v = some H2 ∧ R H2 := by
  obtain ⟨o, e, es, rfl, hl, es', rfl, q⟩ := h
  have e3 : asetO (.dictS es) (.str x) v = some (.dictS (kput es x v)) := it hl rfl
  exact ⟨_, by exact bd (rfl : refOfV (AV.ref k) = some k) (bd e (mp e3)), q⟩
theorem si_l {i : Int} {v : AV} (h : Hob H k fun o => ∃ l, o = .list l ∧ 0 ≤ i ∧ ∃ p, place i l.length = some p ∧ R (H.set k (.list (l.set p v)))) : ∃ H2, asetitem H (.ref k) (.int i) v = some H2 ∧ R H2 := by
  obtain ⟨o, e, l, rfl, h0, p, e2, q⟩ := h
  have e3 : asetO (.list l) (.int i) v = some (.list (l.set p v)) := it h0 (mp e2)
  exact ⟨_, by exact bd (rfl : refOfV (AV.ref k) = some k) (bd e (mp e3)), q⟩
end

section
variable {n : Nat} {H : AH} {k : Nat} {Q : AV → AH → Prop} {P : MRef → Prop}
theorem mg_l {m : Str} (hm : m = "append" ∨ m = "pop") (h : Hob H k fun o => ∃ l, o = .list l ∧ P (.lst k)) : ∃ r, amget H (.ref k) m = some r ∧ P r := by
  obtain ⟨o, e, l, rfl, p⟩ := h
  exact ⟨_, by (delta amget; dsimp only; repeat (first | rfl | exact e | refine bd e ?_ | exact mp e | refine it e ?_ | refine it ⟨rfl, e⟩ ?_ | refine ief e ?_ | refine it hm ?_ | refine it rfl ?_ | refine ie tf ?_ | refine ie (of_decide_eq_false (by kernel_rfl)) ?_ | refine ie (fun q => absurd q.1 (of_decide_eq_false (by kernel_rfl))) ?_ | rw [e])), p⟩
noncomputable def isDict : AObj → Bool
  | .dictE | .dictI _ | .dictS _ => true
  | _ => false
theorem mg_d {m : Str} (hm : m = "pop" ∨ m = "values" ∨ m = "get" ∨ m = "update") (h : Hob H k fun o => isDict o = true ∧ P (.dct k)) : ∃ r, amget H (.ref k) m = some r ∧ P r := by
  obtain ⟨o, e, hd, p⟩ := h
  refine ⟨_, ?_, p⟩
  cases o <;> first | (cases hd; done) | (delta amget; dsimp only; repeat (first | rfl | exact e | refine bd e ?_ | exact mp e | refine it e ?_ | refine it ⟨rfl, e⟩ ?_ | refine ief e ?_ | refine it hm ?_ | refine it rfl ?_ | refine ie tf ?_ | refine ie (of_decide_eq_false (by kernel_rfl)) ?_ | refine ie (fun q => absurd q.1 (of_decide_eq_false (by kernel_rfl))) ?_ | rw [e]))
theorem mg_u {m : Str} (h : Hob H k fun o => ∃ c fs, o = .inst c fs ∧ kget fs m = none ∧ ∃ j, midx c m = some j ∧ P (.usr k c j)) : ∃ r, amget H (.ref k) m = some r ∧ P r := by
  obtain ⟨o, e, c, fs, rfl, hn, j, hj, p⟩ := h
  exact ⟨_, by (delta amget; dsimp only; rw [e]; dsimp only; rw [hj]; exact it (by rw [hn]; rfl) rfl), p⟩
theorem nstr {a b : String} (h : decide (Str.ofString a = Str.ofString b) = false) : ¬ (Str.ofString a = Str.ofString b) := of_decide_eq_false h
theorem me_append {x : AV} (h : Hob H k fun o => ∃ l, o = .list l ∧ l.length < lenLine ∧ Q .none (H.set k (.list (l ++ [x])))) : Me (n + 1) (.lst k) "append" [x] H Q := by
  obtain ⟨o, e, l, rfl, hl, q⟩ := h
  have e : oL H[k]? = some l := by rw [e]; rfl
  exact me_lst (it rfl (bd e (it hl rfl))) q
theorem me_pop0 (h : Hob H k fun o => ∃ x l, o = .list (x :: l) ∧ (x :: l).length < lenLine ∧ Q x (H.set k (.list l))) : Me (n + 1) (.lst k) "pop" [.int 0] H Q := by
  obtain ⟨o, e, x, l, rfl, hl, q⟩ := h
  have e : oL H[k]? = some (x :: l) := by rw [e]; rfl
  exact me_lst (v := x) (H1 := H.set k (.list l)) (ie (nstr (by kernel_rfl)) (it rfl (bd e (it ⟨rfl, hl⟩ rfl)))) q
theorem me_dpop {i : Int} (h : Hob H k fun o => ∃ es, o = .dictI es ∧ es.length < lenLine ∧ ∃ v, kget es i = some v ∧ Q v (H.set k (.dictI (kdel es i)))) : Me (n + 1) (.dct k) "pop" [.int i] H Q := by
  obtain ⟨o, e, es, rfl, hl, v, e2, q⟩ := h
  have e : oI H[k]? = some es := by rw [e]; rfl
  exact me_dct (it rfl (bd (rfl : argI [AV.int i] = some i) (bd e (it hl (mp e2))))) q
theorem me_get {x : Str} (h : Hob H k fun o => ∃ es, o = .dictS es ∧ Q ((kget es x).getD .none) H) : Me (n + 1) (.dct k) "get" [.str x] H Q := by
  obtain ⟨o, e, es, rfl, q⟩ := h
  have e : oS H[k]? = some es := by rw [e]; rfl
  have g : meGet k [.str x] H = some ((kget es x).getD .none, H) := by
    show (match oS H[k]? with
      | some es => some ((kget es x).getD .none, H)
      | none => (oE H[k]?).map fun _ => (AV.none, H)) = _
    rw [e]
  exact me_dct (ie (nstr (by kernel_rfl)) (ie (nstr (by kernel_rfl)) (it rfl g))) q
theorem me_getE {x : Str} (h : Hob H k fun o => o = .dictE ∧ Q .none H) : Me (n + 1) (.dct k) "get" [.str x] H Q := by
  obtain ⟨o, e, rfl, q⟩ := h
  have g : meGet k [.str x] H = some (.none, H) := by
    show (match oS H[k]? with
      | some es => some ((kget es x).getD .none, H)
      | none => (oE H[k]?).map fun _ => (AV.none, H)) = _
    rw [e]; rfl
  exact me_dct (ie (nstr (by kernel_rfl)) (ie (nstr (by kernel_rfl)) (it rfl g))) q
noncomputable def isID : AObj → Bool
  | .dictE | .dictI _ => true
  | _ => false
theorem me_values (h : Hob H k fun o => isID o = true ∧ Q (.view k) H) : Me (n + 1) (.dct k) "values" [] H Q := by
  obtain ⟨o, e, hi, q⟩ := h
  have g : (oI H[k]?).isSome = true ∨ (oE H[k]?).isSome = true := by
    rw [e]
    cases o <;> first | exact .inl rfl | exact .inr rfl | cases hi
  exact me_dct (ie (nstr (by kernel_rfl)) (it rfl (it g rfl))) q
end

@[reducible] noncomputable def renL (w : Int) (th ra : AV) (fl cr : Int) : List (Str × AV) := [("datagram", .int 1200), ("window", .int w), ("threshold", th), ("recovery_at", ra), ("in_flight", .int fl), ("credit", .int cr)]
@[reducible] noncomputable def rttL (la le s8 v4 : Int) (fa : AV) : List (Str × AV) := [("latest", .int la), ("least", .int le), ("smoothed8", .int s8), ("variance4", .int v4), ("first_at", fa)]
section
variable {w fl cr la le s8 v4 x : Int} {th ra fa v : AV}
theorem kp_w : kput (renL w th ra fl cr) "window" (.int x) = renL x th ra fl cr := by kernel_rfl
theorem kp_th : kput (renL w th ra fl cr) "threshold" v = renL w v ra fl cr := by kernel_rfl
theorem kp_ra : kput (renL w th ra fl cr) "recovery_at" v = renL w th v fl cr := by kernel_rfl
theorem kp_fl : kput (renL w th ra fl cr) "in_flight" (.int x) = renL w th ra x cr := by kernel_rfl
theorem kp_cr : kput (renL w th ra fl cr) "credit" (.int x) = renL w th ra fl x := by kernel_rfl
theorem kp_la : kput (rttL la le s8 v4 fa) "latest" (.int x) = rttL x le s8 v4 fa := by kernel_rfl
theorem kp_le : kput (rttL la le s8 v4 fa) "least" (.int x) = rttL la x s8 v4 fa := by kernel_rfl
theorem kp_s8 : kput (rttL la le s8 v4 fa) "smoothed8" (.int x) = rttL la le x v4 fa := by kernel_rfl
theorem kp_v4 : kput (rttL la le s8 v4 fa) "variance4" (.int x) = rttL la le s8 x fa := by kernel_rfl
theorem kp_fa : kput (rttL la le s8 v4 fa) "first_at" v = rttL la le s8 v4 v := by kernel_rfl
theorem kn1 : kget (rttL la le s8 v4 fa) "smoothed" = none := by kernel_rfl
theorem kn2 : kget (rttL la le s8 v4 fa) "variance" = none := by kernel_rfl
theorem kn3 : kget (rttL la le s8 v4 fa) "sample" = none := by kernel_rfl
theorem kn4 : kget (rttL la le s8 v4 fa) "probe_base" = none := by kernel_rfl
theorem kn5 : kget (renL w th ra fl cr) "may_send" = none := by kernel_rfl
theorem kn6 : kget (renL w th ra fl cr) "is_slow_start" = none := by kernel_rfl
theorem kn7 : kget (renL w th ra fl cr) "in_recovery" = none := by kernel_rfl
theorem kn8 : kget (renL w th ra fl cr) "on_sent" = none := by kernel_rfl
theorem kn9 : kget (renL w th ra fl cr) "on_acked" = none := by kernel_rfl
theorem kn10 : kget (renL w th ra fl cr) "widen" = none := by kernel_rfl
theorem kn11 : kget (renL w th ra fl cr) "on_congestion" = none := by kernel_rfl
theorem kn12 : kget (renL w th ra fl cr) "on_lost" = none := by kernel_rfl
theorem mi1 : midx 0 "smoothed" = some 1 := by kernel_rfl
theorem mi2 : midx 0 "variance" = some 2 := by kernel_rfl
theorem mi3 : midx 0 "sample" = some 3 := by kernel_rfl
theorem mi4 : midx 0 "probe_base" = some 4 := by kernel_rfl
theorem mi5 : midx 1 "may_send" = some 1 := by kernel_rfl
theorem mi6 : midx 1 "is_slow_start" = some 2 := by kernel_rfl
theorem mi7 : midx 1 "in_recovery" = some 3 := by kernel_rfl
theorem mi8 : midx 1 "on_sent" = some 4 := by kernel_rfl
theorem mi9 : midx 1 "on_acked" = some 6 := by kernel_rfl
theorem mi10 : midx 1 "widen" = some 7 := by kernel_rfl
theorem mi11 : midx 1 "on_congestion" = some 8 := by kernel_rfl
theorem mi12 : midx 1 "on_lost" = some 9 := by kernel_rfl
end

/-- the law's ledger -/
structure Led where
  nxt : Int
  top : Option Int
  least : Option Int
  latest : Int
  eighths : Int
  fourths : Int
  window : Int
  thr : Option Int
  met : Option Int
  shares : Int
  probes : Int
@[reducible] noncomputable def ledL (l : Led) : List (Str × AV) := [("rows", .ref 6), ("next", .int l.nxt), ("top", oi l.top), ("least", oi l.least), ("latest", .int l.latest), ("eighths", .int l.eighths), ("fourths", .int l.fourths),
  ("window", .int l.window), ("threshold", oi l.thr), ("met", oi l.met), ("shares", .int l.shares), ("probes", .int l.probes)]
section
variable {l : Led} {x : Int}
theorem kl_next : kput (ledL l) "next" (.int x) = ledL { l with nxt := x } := by kernel_rfl
theorem kl_top : kput (ledL l) "top" (.int x) = ledL { l with top := some x } := by kernel_rfl
theorem kl_least : kput (ledL l) "least" (.int x) = ledL { l with least := some x } := by kernel_rfl
theorem kl_latest : kput (ledL l) "latest" (.int x) = ledL { l with latest := x } := by kernel_rfl
theorem kl_eighths : kput (ledL l) "eighths" (.int x) = ledL { l with eighths := x } := by kernel_rfl
theorem kl_fourths : kput (ledL l) "fourths" (.int x) = ledL { l with fourths := x } := by kernel_rfl
theorem kl_window : kput (ledL l) "window" (.int x) = ledL { l with window := x } := by kernel_rfl
theorem kl_thr : kput (ledL l) "threshold" (.int x) = ledL { l with thr := some x } := by kernel_rfl
theorem kl_met : kput (ledL l) "met" (.int x) = ledL { l with met := some x } := by kernel_rfl
theorem kl_shares : kput (ledL l) "shares" (.int x) = ledL { l with shares := x } := by kernel_rfl
theorem kl_probes : kput (ledL l) "probes" (.int x) = ledL { l with probes := x } := by kernel_rfl
end
theorem and_dict {o : AObj} {P : Prop} (h : isDict o = true) (p : P) : isDict o = true ∧ P := ⟨h, p⟩
theorem and_id {o : AObj} {P : Prop} (h : isID o = true) (p : P) : isID o = true ∧ P := ⟨h, p⟩
theorem and_dE {P : Prop} (p : P) : AObj.dictE = .dictE ∧ P := ⟨rfl, p⟩
theorem inst_of {k : Nat} {a : Str} {fs : List (Str × AV)} {P : AV → Prop} (hf : isField k a = true) (h : Kob fs a P) : ∃ c fs', AObj.inst k fs = .inst c fs' ∧ isField c a = true ∧ Kob fs' a P := ⟨_, _, rfl, hf, h⟩
theorem inst_ofs {k : Nat} {a : Str} {fs : List (Str × AV)} {P : Nat → List (Str × AV) → Prop} (hf : isField k a = true ∧ fs.length < 100) (h : P k fs) : ∃ c fs', AObj.inst k fs = .inst c fs' ∧ (isField c a = true ∧ fs'.length < 100) ∧ P c fs' := ⟨_, _, rfl, hf, h⟩
theorem list_id {l0 : List AV} {i : Int} {P : AV → Prop} (h : ∃ l, AObj.list l0 = .list l ∧ ∃ p, place i l.length = some p ∧ ∃ v, l[p]? = some v ∧ P v) : ∃ l, AObj.list l0 = .list l ∧ ∃ p, place i l.length = some p ∧ ∃ v, l[p]? = some v ∧ P v := h
theorem tup_id {l : List AV} {i : Int} {P : AV → Prop} (h : ∃ p, place i l.length = some p ∧ ∃ v, l[p]? = some v ∧ P v) : ∃ p, place i l.length = some p ∧ ∃ v, l[p]? = some v ∧ P v := h
section
variable {l : Led} {w fl cr la le s8 v4 : Int} {th ra fa : AV}
theorem lg1 : kget (ledL l) "next" = some (.int l.nxt) := by kernel_rfl
theorem lg2 : kget (ledL l) "top" = some (oi l.top) := by kernel_rfl
theorem lg3 : kget (ledL l) "least" = some (oi l.least) := by kernel_rfl
theorem lg4 : kget (ledL l) "latest" = some (.int l.latest) := by kernel_rfl
theorem lg5 : kget (ledL l) "eighths" = some (.int l.eighths) := by kernel_rfl
theorem lg6 : kget (ledL l) "fourths" = some (.int l.fourths) := by kernel_rfl
theorem lg7 : kget (ledL l) "window" = some (.int l.window) := by kernel_rfl
theorem lg8 : kget (ledL l) "threshold" = some (oi l.thr) := by kernel_rfl
theorem lg9 : kget (ledL l) "met" = some (oi l.met) := by kernel_rfl
theorem lg10 : kget (ledL l) "shares" = some (.int l.shares) := by kernel_rfl
theorem lg11 : kget (ledL l) "probes" = some (.int l.probes) := by kernel_rfl
theorem rg1 : kget (renL w th ra fl cr) "window" = some (.int w) := by kernel_rfl
theorem rg2 : kget (renL w th ra fl cr) "threshold" = some (th) := by kernel_rfl
theorem rg3 : kget (renL w th ra fl cr) "recovery_at" = some (ra) := by kernel_rfl
theorem rg4 : kget (renL w th ra fl cr) "in_flight" = some (.int fl) := by kernel_rfl
theorem rg5 : kget (renL w th ra fl cr) "credit" = some (.int cr) := by kernel_rfl
theorem tg1 : kget (rttL la le s8 v4 fa) "least" = some (.int le) := by kernel_rfl
theorem tg2 : kget (rttL la le s8 v4 fa) "smoothed8" = some (.int s8) := by kernel_rfl
theorem tg3 : kget (rttL la le s8 v4 fa) "variance4" = some (.int v4) := by kernel_rfl
theorem tg4 : kget (rttL la le s8 v4 fa) "first_at" = some (fa) := by kernel_rfl
end
section
variable {n : Nat} {sc : Sc} {loc : Loc} {H : AH} {k : Nat}
theorem ev_led {o x : Str} {po pk p : Pos} {kk : Nat} {es : List (Str × AV)} {v : AV} {Q : AV → AH → Prop} (hk : isLoc sc o = true) (h1 : kget loc o = some (.ref k)) (h2 : H[k]? = some (.dictS es)) (h3 : kget es x = some v) (q : Q v H) :
    Ev (n + 2) sc loc (.Subscript (.Name o po) (.Constant (.str x) kk pk) p) H Q := ev_sub rfl (ev_locv hk h1 (ev_str (gi_s ⟨_, h2, _, rfl, _, h3, q⟩)))
theorem ev_attrv {o a : Str} {po p : Pos} {c : Nat} {fs : List (Str × AV)} {v : AV} {Q : AV → AH → Prop} (hk : isLoc sc o = true) (h1 : kget loc o = some (.ref k)) (h2 : H[k]? = some (.inst c fs)) (hf : isField c a = true) (h3 : kget fs a = some v) (q : Q v H) :
    Ev (n + 2) sc loc (.Attribute (.Name o po) a p) H Q := ev_attr rfl (ev_locv hk h1 (at_i ⟨_, h2, _, _, rfl, hf, _, h3, q⟩))
theorem as_led {o x : Str} {po pk p : Pos} {kk : Nat} {es es' : List (Str × AV)} {v : AV} {Q : Loc → AH → Prop} (hk : isLoc sc o = true) (h1 : kget loc o = some (.ref k)) (h2 : H[k]? = some (.dictS es)) (hl : es.length < lenLine) (h3 : kput es x v = es') (q : Q loc (H.set k (.dictS es'))) :
    As (n + 2) sc loc (.Subscript (.Name o po) (.Constant (.str x) kk pk) p) v H Q := as_sub (ev_locv hk h1 (ev_str (si_s ⟨_, h2, _, rfl, hl, _, h3, q⟩)))
theorem as_attrv {o a : Str} {po p : Pos} {c : Nat} {fs fs' : List (Str × AV)} {v : AV} {Q : Loc → AH → Prop} (hk : isLoc sc o = true) (h1 : kget loc o = some (.ref k)) (h2 : H[k]? = some (.inst c fs)) (hf : isField c a = true ∧ fs.length < 100) (h3 : kput fs a v = fs') (q : Q loc (H.set k (.inst c fs'))) :
    As (n + 2) sc loc (.Attribute (.Name o po) a p) v H Q := as_attr (ev_locv hk h1 (sa_i ⟨_, h2, _, _, rfl, hf, _, h3, q⟩))
end
/-- what changes nothing -/
noncomputable def Pu (n : Nat) (sc : Sc) (loc : Loc) (H : AH) (e : Expr) (v : AV) : Prop := aev n sc loc e H = some (v, H)
noncomputable def Ar (n : Nat) (sc : Sc) (loc : Loc) (H : AH) (es : List Expr) (vs : List AV) : Prop := aevs n sc loc es H = some (vs, H)
section
variable {n : Nat} {sc : Sc} {loc : Loc} {H : AH} {k : Nat} {p : Pos} {v : AV}
theorem pu_of {e : Expr} (h : Ev n sc loc e H fun v' H' => v' = v ∧ H' = H) : Pu n sc loc H e v := by
  obtain ⟨v', H', e, rfl, rfl⟩ := h; exact e
theorem ev_pu {e : Expr} {Q : AV → AH → Prop} (h : Pu n sc loc H e v) (q : Q v H) : Ev n sc loc e H Q := ⟨v, H, h, q⟩
theorem pu_loc {x : Str} (hk : isLoc sc x = true) (h : kget loc x = some v) : Pu (n + 1) sc loc H (.Name x p) v := pu_of (ev_locv hk h ⟨rfl, rfl⟩)
theorem pu_int {i : Int} : Pu (n + 1) sc loc H (.Constant (.int i) k p) (.int i) := pu_of (ev_int ⟨rfl, rfl⟩)
theorem pu_str {i : Str} : Pu (n + 1) sc loc H (.Constant (.str i) k p) (.str i) := pu_of (ev_str ⟨rfl, rfl⟩)
theorem pu_cb {i : Bool} : Pu (n + 1) sc loc H (.Constant (.bool i) k p) (.bool i) := pu_of (ev_cb ⟨rfl, rfl⟩)
theorem pu_non : Pu (n + 1) sc loc H (.Constant .none k p) .none := pu_of (ev_non ⟨rfl, rfl⟩)
theorem pu_glob {x : Str} (h : gconst x = some v) (hk : kget sc x = some .globalImplicit) : Pu (n + 1) sc loc H (.Name x p) v := pu_of (ev_glob h hk ⟨rfl, rfl⟩)
theorem pu_neg {x : Expr} {i : Int} (h : Pu n sc loc H x (.int i)) : Pu (n + 1) sc loc H (.UnaryOp .USub x p) (.int (-i)) := pu_of (ev_neg (ev_pu h ⟨i, rfl, rfl, rfl⟩))
theorem pu_bin {l r : Expr} {op : Operator} {a b : AV} (h1 : Pu n sc loc H l a) (h2 : Pu n sc loc H r b) (h3 : abin op a b = some v) : Pu (n + 1) sc loc H (.BinOp l op r p) v := pu_of (ev_bin (ev_pu h1 (ev_pu h2 ⟨v, h3, rfl, rfl⟩)))
theorem pu_cmp {l r : Expr} {op : CmpOp} {a b : AV} {c : Bool} (hs : isSet r = false) (h1 : Pu n sc loc H l a) (h2 : Pu n sc loc H r b) (h3 : acmp H op a b = some c) : Pu (n + 1) sc loc H (.Compare l [op] [r] p) (.bool c) := pu_of (ev_cmp hs (ev_pu h1 (ev_pu h2 ⟨c, h3, rfl, rfl⟩)))
theorem pu_sub {l r : Expr} {a b : AV} (hs : notSlice r = true) (h1 : Pu n sc loc H l a) (h2 : Pu n sc loc H r b) (h3 : agetitem H a b = some v) : Pu (n + 1) sc loc H (.Subscript l r p) v := pu_of (ev_sub hs (ev_pu h1 (ev_pu h2 ⟨v, h3, rfl, rfl⟩)))
theorem git {l : List AV} {i : Int} {j : Nat} (h : place i l.length = some j) (h2 : l[j]? = some v) : agetitem H (.tup l) (.int i) = some v := let ⟨_, e, q⟩ := gi_t (H := H) (P := fun w => w = v) ⟨j, h, v, h2, rfl⟩; q ▸ e
theorem gid {es : List (Int × AV)} {i : Int} (h : H[k]? = some (.dictI es)) (h2 : kget es i = some v) : agetitem H (.ref k) (.int i) = some v := let ⟨_, e, q⟩ := gi_i (H := H) (P := fun w => w = v) ⟨_, h, es, rfl, v, h2, rfl⟩; q ▸ e
theorem gis {es : List (Str × AV)} {i : Str} (h : H[k]? = some (.dictS es)) (h2 : kget es i = some v) : agetitem H (.ref k) (.str i) = some v := let ⟨_, e, q⟩ := gi_s (H := H) (P := fun w => w = v) ⟨_, h, es, rfl, v, h2, rfl⟩; q ▸ e
theorem pu_led {o x : Str} {po pk : Pos} {kk : Nat} {es : List (Str × AV)} (hk : isLoc sc o = true) (h1 : kget loc o = some (.ref k)) (h2 : H[k]? = some (.dictS es)) (h3 : kget es x = some v) :
    Pu (n + 2) sc loc H (.Subscript (.Name o po) (.Constant (.str x) kk pk) p) v := pu_of (ev_led hk h1 h2 h3 ⟨rfl, rfl⟩)
theorem pu_attr {o a : Str} {po : Pos} {c : Nat} {fs : List (Str × AV)} (hk : isLoc sc o = true) (h1 : kget loc o = some (.ref k)) (h2 : H[k]? = some (.inst c fs)) (hf : isField c a = true) (h3 : kget fs a = some v) :
    Pu (n + 2) sc loc H (.Attribute (.Name o po) a p) v := pu_of (ev_attrv hk h1 h2 hf h3 ⟨rfl, rfl⟩)
theorem ar_nil : Ar (n + 1) sc loc H [] [] := rfl
theorem evs_ar {es : List Expr} {vs : List AV} {Q : List AV → AH → Prop} (h : Ar n sc loc H es vs) (q : Q vs H) : Evs n sc loc es H Q := ⟨vs, H, h, q⟩
theorem ar_cons {e : Expr} {es : List Expr} {vs : List AV} (hs : isStarred e = false) (h : Pu n sc loc H e v) (r : Ar n sc loc H es vs) : Ar (n + 1) sc loc H (e :: es) (v :: vs) := by
  have := evs_cons (Q := fun vs' H' => vs' = v :: vs ∧ H' = H) hs (ev_pu h (evs_ar r ⟨rfl, rfl⟩))
  obtain ⟨_, _, e, rfl, rfl⟩ := this
  exact e
theorem pu_tup {es : List Expr} {vs : List AV} (h : Ar n sc loc H es vs) (hl : vs.length < lenLine) : Pu (n + 1) sc loc H (.Tuple es k p) (.tup vs) := pu_of (ev_tup (evs_ar h ⟨hl, rfl, rfl⟩))
theorem ev_callA {f : Str} {args : List Expr} {vs : List AV} {fp : Pos} {Q : AV → AH → Prop} (hl : args.length < 10) (hk : kget sc f = some .globalImplicit) (h : Ar n sc loc H args vs) (q : ClN n f vs H Q) : Ev (n + 1) sc loc (.Call (.Name f fp) args [] p) H Q := ev_call hl hk (evs_ar h q)
theorem ev_methu {o m : Str} {args : List Expr} {vs : List AV} {po ap : Pos} {c j : Nat} {fs : List (Str × AV)} {Q : AV → AH → Prop} (hl : args.length < 10 ∧ isBare (.Name o po) = false ∧ ap.endLine = p.line) (hk : isLoc sc o = true) (h1 : kget loc o = some (.ref k)) (h2 : H[k]? = some (.inst c fs))
    (h3 : kget fs m = none) (h4 : midx c m = some j) (h : Ar (n + 1) sc loc H args vs) (q : Cl n (mdef (cplace c) j) (.ref k :: vs) H Q) : Ev (n + 2) sc loc (.Call (.Attribute (.Name o po) m ap) args [] p) H Q :=
  ev_meth hl (ev_locv hk h1 (mg_u ⟨_, h2, _, _, rfl, h3, _, h4, evs_ar h (me_usr q)⟩))
theorem te_cmpp {l r : Expr} {op : CmpOp} {a b : AV} {c : Bool} {Q : Bool → AH → Prop} (hs : isSet r = false) (h1 : Pu n sc loc H l a) (h2 : Pu n sc loc H r b) (h3 : acmp H op a b = some c) (q : Q c H) : Te (n + 1) sc loc (.Compare l [op] [r] p) H Q := te_cmp hs (ev_pu h1 (ev_pu h2 ⟨c, h3, q⟩))
section
variable {r : List Stmt} {Q : AFlow → Loc → AH → Prop} {e : Expr}
theorem xs_letp {x : Str} {xp : Pos} (hs : (swap2 sc (.Name x xp) e || noSwap (.Name x xp) e) = true) (hk : isStore sc x = true) (h : Pu (n + 1) sc loc H e v) (q : Then (n + 2) sc r Q .next (kput loc x v) H) : Xs (n + 3) sc loc (.Assign [.Name x xp] e p :: r) H Q := xs_assign hs (ev_pu h (as_nameb hk q))
theorem next_letp {x : Str} {xp : Pos} (hs : (swap2 sc (.Name x xp) e || noSwap (.Name x xp) e) = true) (hk : isStore sc x = true) (h : Pu (n + 1) sc loc H e v) (q : Then (n + 2) sc r Q .next (kput loc x v) H) : Then (n + 3) sc (.Assign [.Name x xp] e p :: r) Q .next loc H := then_next (xs_letp hs hk h q)
theorem xs_ledp {o x : Str} {po pk sp : Pos} {kk : Nat} {es es' : List (Str × AV)} (hs : (swap2 sc (.Subscript (.Name o po) (.Constant (.str x) kk pk) sp) e || noSwap (.Subscript (.Name o po) (.Constant (.str x) kk pk) sp) e) = true) (h : Pu (n + 2) sc loc H e v)
    (hk : isLoc sc o = true) (h1 : kget loc o = some (.ref k)) (h2 : H[k]? = some (.dictS es)) (hl : es.length < lenLine) (h3 : kput es x v = es') (q : Then (n + 3) sc r Q .next loc (H.set k (.dictS es'))) :
    Xs (n + 4) sc loc (.Assign [.Subscript (.Name o po) (.Constant (.str x) kk pk) sp] e p :: r) H Q := xs_assign hs (ev_pu h (as_led hk h1 h2 hl h3 q))
theorem next_ledp {o x : Str} {po pk sp : Pos} {kk : Nat} {es es' : List (Str × AV)} (hs : (swap2 sc (.Subscript (.Name o po) (.Constant (.str x) kk pk) sp) e || noSwap (.Subscript (.Name o po) (.Constant (.str x) kk pk) sp) e) = true) (h : Pu (n + 2) sc loc H e v)
    (hk : isLoc sc o = true) (h1 : kget loc o = some (.ref k)) (h2 : H[k]? = some (.dictS es)) (hl : es.length < lenLine) (h3 : kput es x v = es') (q : Then (n + 3) sc r Q .next loc (H.set k (.dictS es'))) :
    Then (n + 4) sc (.Assign [.Subscript (.Name o po) (.Constant (.str x) kk pk) sp] e p :: r) Q .next loc H := then_next (xs_ledp hs h hk h1 h2 hl h3 q)
theorem xs_attrp {o a : Str} {po sp : Pos} {c : Nat} {fs fs' : List (Str × AV)} (hs : (swap2 sc (.Attribute (.Name o po) a sp) e || noSwap (.Attribute (.Name o po) a sp) e) = true) (h : Pu (n + 2) sc loc H e v)
    (hk : isLoc sc o = true) (h1 : kget loc o = some (.ref k)) (h2 : H[k]? = some (.inst c fs)) (hf : isField c a = true ∧ fs.length < 100) (h3 : kput fs a v = fs') (q : Then (n + 3) sc r Q .next loc (H.set k (.inst c fs'))) :
    Xs (n + 4) sc loc (.Assign [.Attribute (.Name o po) a sp] e p :: r) H Q := xs_assign hs (ev_pu h (as_attrv hk h1 h2 hf h3 q))
theorem next_attrp {o a : Str} {po sp : Pos} {c : Nat} {fs fs' : List (Str × AV)} (hs : (swap2 sc (.Attribute (.Name o po) a sp) e || noSwap (.Attribute (.Name o po) a sp) e) = true) (h : Pu (n + 2) sc loc H e v)
    (hk : isLoc sc o = true) (h1 : kget loc o = some (.ref k)) (h2 : H[k]? = some (.inst c fs)) (hf : isField c a = true ∧ fs.length < 100) (h3 : kput fs a v = fs') (q : Then (n + 3) sc r Q .next loc (H.set k (.inst c fs'))) :
    Then (n + 4) sc (.Assign [.Attribute (.Name o po) a sp] e p :: r) Q .next loc H := then_next (xs_attrp hs h hk h1 h2 hf h3 q)
theorem ret_pu {m : Nat} (h : Pu n sc loc H e v) (q : Q (.ret v) loc H) : Ex (n + 1) sc loc (.Return (some e) p) H (Then m sc r Q) := ex_ret (ev_pu h q)
end
end

section
variable {n : Nat} {H : AH} {B : Int} {k : Nat} {la le s8 v4 : Int} {fa : AV} {Q : AV → AH → Prop}

theorem smoothed_spec (hk : H[k]? = some (.inst 0 (rttL la le s8 v4 fa))) (hB : 1000000 ≤ B ∧ 1048576 * B ≤ BIG) (hs : -(64 * B) ≤ s8 ∧ s8 ≤ 64 * B) (q : Q (.int (s8 / 8)) H) : Cl (n + 10) (mdef (cplace 0) 1) [.ref k] H Q := by
  ((refine cl_intro (fd := ⟨_, _, _, _⟩) rfl rfl ?_); dsimp only [List.map, List.zip, List.zipWith])
  focus (refine xs_cons ?_; refine' ret_pu (pu_bin (pu_attr (by kernel_rfl) kg_head (by assumption) (by kernel_rfl) (by first | exact lg2 | exact rg2 | exact tg2 | exact kg_tailb (by kernel_rfl) (kg_tailb (by kernel_rfl) kg_head))) pu_int (abin_fdiv (by omega) (fits_of (by omega) (by omega)) (by kernel_rfl))) ?_; rotate_left)
  exact q
theorem variance_spec (hk : H[k]? = some (.inst 0 (rttL la le s8 v4 fa))) (hB : 1000000 ≤ B ∧ 1048576 * B ≤ BIG) (hs : -(64 * B) ≤ v4 ∧ v4 ≤ 64 * B) (q : Q (.int (v4 / 4)) H) : Cl (n + 10) (mdef (cplace 0) 2) [.ref k] H Q := by
  ((refine cl_intro (fd := ⟨_, _, _, _⟩) rfl rfl ?_); dsimp only [List.map, List.zip, List.zipWith])
  focus (refine xs_cons ?_; refine' ret_pu (pu_bin (pu_attr (by kernel_rfl) kg_head (by assumption) (by kernel_rfl) (by first | exact lg3 | exact rg3 | exact tg3 | exact kg_tailb (by kernel_rfl) (kg_tailb (by kernel_rfl) (kg_tailb (by kernel_rfl) kg_head)))) pu_int (abin_fdiv (by omega) (fits_of (by omega) (by omega)) (by kernel_rfl))) ?_; rotate_left)
  exact q
theorem probe_base_spec (hk : H[k]? = some (.inst 0 (rttL la le s8 v4 fa))) (hB : 1000000 ≤ B ∧ 1048576 * B ≤ BIG) (hs : -(64 * B) ≤ s8 ∧ s8 ≤ 64 * B) (q : Q (.int (s8 / 8 + max v4 1000)) H) : Cl (n + 20) (mdef (cplace 0) 4) [.ref k] H Q := by
  ((refine cl_intro (fd := ⟨_, _, _, _⟩) rfl rfl ?_); dsimp only [List.map, List.zip, List.zipWith])
  focus (refine xs_cons ?_; refine ex_ret ?_; refine ev_bin ?_; refine' ev_methu ⟨Nat.le_of_ble_eq_true rfl, rfl, rfl⟩ (by kernel_rfl) kg_head (by assumption) kn1 mi1 ar_nil ?_; rotate_left)
  refine smoothed_spec hk hB hs ?_
  focus (refine' ev_callA (Nat.le_of_ble_eq_true rfl) (by kernel_rfl) (ar_cons rfl (pu_attr (by kernel_rfl) kg_head (by assumption) (by kernel_rfl) (by first | exact lg3 | exact rg3 | exact tg3 | exact kg_tailb (by kernel_rfl) (kg_tailb (by kernel_rfl) (kg_tailb (by kernel_rfl) kg_head)))) (ar_cons rfl (pu_glob gc2 (by kernel_rfl)) ar_nil)) ?_; refine cn_bi nb_max ab_max ?_; refine ⟨_, abin_add, ?_⟩; refine then_ret ?_; rotate_left)
  exact q
theorem sample_first_spec {x w now : Int} {md : AV} (hk : H[k]? = some (.inst 0 (rttL la le s8 v4 .none))) (hB : 1000000 ≤ B ∧ 1048576 * B ≤ BIG) (hx : -B ≤ x ∧ x ≤ B)
    (q : Q .none (H.set k (.inst 0 (rttL x x (8 * x) (2 * x) (.int now))))) : Cl (n + 20) (mdef (cplace 0) 3) [.ref k, .int x, .int w, md, .int now] H Q := by
  ((refine cl_intro (fd := ⟨_, _, _, _⟩) rfl rfl ?_); dsimp only [List.map, List.zip, List.zipWith])
  focus (refine' xs_attrp (by kernel_rfl) (pu_loc (by kernel_rfl) (kg_tailb (by kernel_rfl) kg_head)) (by kernel_rfl) kg_head (by assumption) (by exact ⟨by kernel_rfl, Nat.le_of_ble_eq_true rfl⟩) kp_la ?_; refine next_cons ?_; refine ex_if ?_; refine' te_cmpp rfl (pu_attr (by kernel_rfl) kg_head (get_set_same (by assumption)) (by kernel_rfl) (by first | exact lg4 | exact rg4 | exact tg4 | exact kg_tailb (by kernel_rfl) (kg_tailb (by kernel_rfl) (kg_tailb (by kernel_rfl) (kg_tailb (by kernel_rfl) kg_head))))) pu_non ac_isn ?_; refine split_t ?_; refine' xs_attrp (by kernel_rfl) (pu_loc (by kernel_rfl) (kg_tailb (by kernel_rfl) (kg_tailb (by kernel_rfl) (kg_tailb (by kernel_rfl) (kg_tailb (by kernel_rfl) kg_head))))) (by kernel_rfl) kg_head (get_set_same (by assumption)) (by exact ⟨by kernel_rfl, Nat.le_of_ble_eq_true rfl⟩) kp_fa ?_; refine' next_attrp (by kernel_rfl) (pu_loc (by kernel_rfl) (kg_tailb (by kernel_rfl) kg_head)) (by kernel_rfl) kg_head (get_set_same (get_set_same (by assumption))) (by exact ⟨by kernel_rfl, Nat.le_of_ble_eq_true rfl⟩) kp_le ?_; refine' next_attrp (by kernel_rfl) (pu_bin pu_int (pu_loc (by kernel_rfl) (kg_tailb (by kernel_rfl) kg_head)) (abin_mul (by kernel_rfl) (fits_of (by omega) (by omega)))) (by kernel_rfl) kg_head (get_set_same (get_set_same (get_set_same (by assumption)))) (by exact ⟨by kernel_rfl, Nat.le_of_ble_eq_true rfl⟩) kp_s8 ?_; refine' next_attrp (by kernel_rfl) (pu_bin pu_int (pu_loc (by kernel_rfl) (kg_tailb (by kernel_rfl) kg_head)) (abin_mul (by kernel_rfl) (fits_of (by omega) (by omega)))) (by kernel_rfl) kg_head (get_set_same (get_set_same (get_set_same (get_set_same (by assumption))))) (by exact ⟨by kernel_rfl, Nat.le_of_ble_eq_true rfl⟩) kp_v4 ?_; refine next_cons ?_; refine ex_ret0 ?_; refine then_ret ?_; refine then_ret ?_; rotate_left)
  simp only [List.set_set]
  exact q
/-- a later sample, as the class reckons it -/
theorem sample_next_spec {x w now f : Int} (hk : H[k]? = some (.inst 0 (rttL la le s8 v4 (.int f)))) (hB : 1000000 ≤ B ∧ 1048576 * B ≤ BIG) (hx : -B ≤ x ∧ x ≤ B) (hle : -B ≤ le ∧ le ≤ B) (hw : 0 ≤ w ∧ w ≤ B) (h8 : -(64 * B) ≤ s8 ∧ s8 ≤ 64 * B) (h4 : -(64 * B) ≤ v4 ∧ v4 ≤ 64 * B) {adj : Int} (hadj : adj = if min le x + min w 25000 ≤ x then x - min w 25000 else x)
    (q : Q .none (H.set k (.inst 0 (rttL x (min le x) (s8 - s8 / 8 + adj) (v4 - v4 / 4 + ((s8 / 8 - adj).natAbs : Int)) (.int f))))) : Cl (n + 30) (mdef (cplace 0) 3) [.ref k, .int x, .int w, .int 25000, .int now] H Q := by
  ((refine cl_intro (fd := ⟨_, _, _, _⟩) rfl rfl ?_); dsimp only [List.map, List.zip, List.zipWith])
  focus (refine' xs_attrp (by kernel_rfl) (pu_loc (by kernel_rfl) (kg_tailb (by kernel_rfl) kg_head)) (by kernel_rfl) kg_head (by assumption) (by exact ⟨by kernel_rfl, Nat.le_of_ble_eq_true rfl⟩) kp_la ?_; refine next_cons ?_; refine ex_if ?_; refine' te_cmpp rfl (pu_attr (by kernel_rfl) kg_head (get_set_same (by assumption)) (by kernel_rfl) (by first | exact lg4 | exact rg4 | exact tg4 | exact kg_tailb (by kernel_rfl) (kg_tailb (by kernel_rfl) (kg_tailb (by kernel_rfl) (kg_tailb (by kernel_rfl) kg_head))))) pu_non ac_isi ?_; refine split_f ?_; refine xs_nil ?_; refine next_assign (by kernel_rfl) ?_; refine' ev_callA (Nat.le_of_ble_eq_true rfl) (by kernel_rfl) (ar_cons rfl (pu_attr (by kernel_rfl) kg_head (get_set_same (by assumption)) (by kernel_rfl) (by first | exact lg1 | exact rg1 | exact tg1 | exact kg_tailb (by kernel_rfl) kg_head)) (ar_cons rfl (pu_loc (by kernel_rfl) (kg_tailb (by kernel_rfl) kg_head)) ar_nil)) ?_; refine cn_bi nb_min ab_min ?_; refine' as_attrv (by kernel_rfl) kg_head (get_set_same (by assumption)) (by exact ⟨by kernel_rfl, Nat.le_of_ble_eq_true rfl⟩) kp_le ?_; refine next_cons ?_; refine ex_if ?_; refine' te_cmpp rfl (pu_loc (by kernel_rfl) (kg_tailb (by kernel_rfl) (kg_tailb (by kernel_rfl) (kg_tailb (by kernel_rfl) kg_head)))) pu_non ac_isnoti ?_; refine split_t ?_; refine xs_assign (by kernel_rfl) ?_; refine' ev_callA (Nat.le_of_ble_eq_true rfl) (by kernel_rfl) (ar_cons rfl (pu_loc (by kernel_rfl) (kg_tailb (by kernel_rfl) (kg_tailb (by kernel_rfl) kg_head))) (ar_cons rfl (pu_loc (by kernel_rfl) (kg_tailb (by kernel_rfl) (kg_tailb (by kernel_rfl) (kg_tailb (by kernel_rfl) kg_head)))) ar_nil)) ?_; refine cn_bi nb_min ab_min ?_; refine as_nameb (by kernel_rfl) ?_; refine then_next ?_; refine xs_nil ?_; refine next_assign (by kernel_rfl) ?_; refine' ev_callA (Nat.le_of_ble_eq_true rfl) (by kernel_rfl) (ar_cons rfl (pu_loc (by kernel_rfl) (kgp_neb (by kernel_rfl) (kg_tailb (by kernel_rfl) kg_head))) (ar_cons rfl (pu_attr (by kernel_rfl) (kgp_neb (by kernel_rfl) kg_head) (get_set_same (get_set_same (by assumption))) (by kernel_rfl) (by first | exact lg1 | exact rg1 | exact tg1 | exact kg_tailb (by kernel_rfl) kg_head)) (ar_cons rfl (pu_loc (by kernel_rfl) kgp_same) ar_nil))) ?_; refine cn_user fi1 ?_; rotate_left)
  refine without_delay_spec ?_
  rw [← hadj]
  focus (refine as_nameb (by kernel_rfl) ?_; refine next_assign (by kernel_rfl) ?_; refine ev_call (Nat.le_of_ble_eq_true rfl) (by kernel_rfl) ?_; refine evs_cons rfl ?_; refine ev_bin ?_; refine' ev_methu ⟨Nat.le_of_ble_eq_true rfl, rfl, rfl⟩ (by kernel_rfl) (kgp_neb (by kernel_rfl) (kgp_neb (by kernel_rfl) kg_head)) (get_set_same (get_set_same (by assumption))) kn1 mi1 ar_nil ?_; rotate_left)
  refine' smoothed_spec (by focus (exact get_set_same (by exact get_set_same (by assumption)))) hB h8 ?_
  focus (refine' ev_locv (by kernel_rfl) kgp_same ?_; refine ⟨_, abin_sub, ?_⟩; refine evs_nil ?_; refine cn_bi nb_abs ab_abs ?_; refine as_nameb (by kernel_rfl) ?_; refine' next_attrp (by kernel_rfl) (pu_bin (pu_bin (pu_attr (by kernel_rfl) (kgp_neb (by kernel_rfl) (kgp_neb (by kernel_rfl) (kgp_neb (by kernel_rfl) kg_head))) (get_set_same (get_set_same (by assumption))) (by kernel_rfl) (by first | exact lg3 | exact rg3 | exact tg3 | exact kg_tailb (by kernel_rfl) (kg_tailb (by kernel_rfl) (kg_tailb (by kernel_rfl) kg_head)))) (pu_bin (pu_attr (by kernel_rfl) (kgp_neb (by kernel_rfl) (kgp_neb (by kernel_rfl) (kgp_neb (by kernel_rfl) kg_head))) (get_set_same (get_set_same (by assumption))) (by kernel_rfl) (by first | exact lg3 | exact rg3 | exact tg3 | exact kg_tailb (by kernel_rfl) (kg_tailb (by kernel_rfl) (kg_tailb (by kernel_rfl) kg_head)))) pu_int (abin_fdiv (by omega) (fits_of (by omega) (by omega)) (by kernel_rfl))) abin_sub) (pu_loc (by kernel_rfl) kgp_same) abin_add) (by kernel_rfl) (kgp_neb (by kernel_rfl) (kgp_neb (by kernel_rfl) (kgp_neb (by kernel_rfl) kg_head))) (get_set_same (get_set_same (by assumption))) (by exact ⟨by kernel_rfl, Nat.le_of_ble_eq_true rfl⟩) kp_v4 ?_; refine' next_attrp (by kernel_rfl) (pu_bin (pu_bin (pu_attr (by kernel_rfl) (kgp_neb (by kernel_rfl) (kgp_neb (by kernel_rfl) (kgp_neb (by kernel_rfl) kg_head))) (get_set_same (get_set_same (get_set_same (by assumption)))) (by kernel_rfl) (by first | exact lg2 | exact rg2 | exact tg2 | exact kg_tailb (by kernel_rfl) (kg_tailb (by kernel_rfl) kg_head))) (pu_bin (pu_attr (by kernel_rfl) (kgp_neb (by kernel_rfl) (kgp_neb (by kernel_rfl) (kgp_neb (by kernel_rfl) kg_head))) (get_set_same (get_set_same (get_set_same (by assumption)))) (by kernel_rfl) (by first | exact lg2 | exact rg2 | exact tg2 | exact kg_tailb (by kernel_rfl) (kg_tailb (by kernel_rfl) kg_head))) pu_int (abin_fdiv (by omega) (fits_of (by omega) (by omega)) (by kernel_rfl))) abin_sub) (pu_loc (by kernel_rfl) (kgp_neb (by kernel_rfl) kgp_same)) abin_add) (by kernel_rfl) (kgp_neb (by kernel_rfl) (kgp_neb (by kernel_rfl) (kgp_neb (by kernel_rfl) kg_head))) (get_set_same (get_set_same (get_set_same (by assumption)))) (by exact ⟨by kernel_rfl, Nat.le_of_ble_eq_true rfl⟩) kp_s8 ?_; refine then_next ?_; refine xs_nil ?_; rotate_left)
  simp only [List.set_set]
  exact q
end

/-- in slow start -/
noncomputable def slow (t : Option Int) (w : Int) : Bool := match t with
  | none => true
  | some x => decide (w < x)
/-- within a recovery -/
noncomputable def inrec (m : Option Int) (t : Int) : Bool := match m with
  | none => false
  | some x => decide (t ≤ x)
/-- the window and the shares behind an acknowledgement -/
noncomputable def ackS (w : Int) (t m : Option Int) (cr size time : Int) (lim : Bool) : Int × Int :=
  if (inrec m time || !lim) = true then (w, cr) else if slow t w = true then (w + size, cr) else (w + (cr + 1200 * size) / w, cr + 1200 * size - (cr + 1200 * size) / w * w)
section
variable {n : Nat} {H : AH} {B : Int} {k : Nat} {w fl cr : Int} {t m : Option Int} {th ra : AV} {Q : AV → AH → Prop}

theorem may_send_spec {s : Int} (hk : H[k]? = some (.inst 1 (renL w th ra fl cr))) (q : Q (.bool (decide (fl + s ≤ w))) H) : Cl (n + 10) (mdef (cplace 1) 1) [.ref k, .int s] H Q := by
  ((refine cl_intro (fd := ⟨_, _, _, _⟩) rfl rfl ?_); dsimp only [List.map, List.zip, List.zipWith])
  focus (refine xs_cons ?_; refine' ret_pu (pu_cmp rfl (pu_bin (pu_attr (by kernel_rfl) kg_head (by assumption) (by kernel_rfl) (by first | exact lg4 | exact rg4 | exact tg4 | exact kg_tailb (by kernel_rfl) (kg_tailb (by kernel_rfl) (kg_tailb (by kernel_rfl) (kg_tailb (by kernel_rfl) kg_head))))) (pu_loc (by kernel_rfl) (kg_tailb (by kernel_rfl) kg_head)) abin_add) (pu_attr (by kernel_rfl) kg_head (by assumption) (by kernel_rfl) (by first | exact lg1 | exact rg1 | exact tg1 | exact kg_tailb (by kernel_rfl) kg_head)) ac_le) ?_; rotate_left)
  exact q
theorem is_slow_spec (hk : H[k]? = some (.inst 1 (renL w (oi t) ra fl cr))) (q : Q (.bool (slow t w)) H) : Cl (n + 12) (mdef (cplace 1) 2) [.ref k] H Q := by
  cases t with
  | none =>
    ((refine cl_intro (fd := ⟨_, _, _, _⟩) rfl rfl ?_); dsimp only [List.map, List.zip, List.zipWith])
    focus (refine xs_cons ?_; refine ex_ret ?_; refine ev_bool ?_; refine bo_or ?_; refine' ev_pu (pu_cmp rfl (pu_attr (by kernel_rfl) kg_head (by assumption) (by kernel_rfl) (by first | exact lg2 | exact rg2 | exact tg2 | exact kg_tailb (by kernel_rfl) (kg_tailb (by kernel_rfl) kg_head))) pu_non ac_isn) ?_; refine ⟨_, rfl, ?_, ?_⟩; exact imp_tf; refine clr ?_; refine then_ret ?_; rotate_left)
    exact q
  | some x =>
    ((refine cl_intro (fd := ⟨_, _, _, _⟩) rfl rfl ?_); dsimp only [List.map, List.zip, List.zipWith])
    focus (refine xs_cons ?_; refine ex_ret ?_; refine ev_bool ?_; refine bo_or ?_; refine' ev_pu (pu_cmp rfl (pu_attr (by kernel_rfl) kg_head (by assumption) (by kernel_rfl) (by first | exact lg2 | exact rg2 | exact tg2 | exact kg_tailb (by kernel_rfl) (kg_tailb (by kernel_rfl) kg_head))) pu_non ac_isi) ?_; refine ⟨_, rfl, ?_, ?_⟩; refine clr ?_; refine bo_one ?_; refine' ev_pu (pu_cmp rfl (pu_attr (by kernel_rfl) kg_head (by assumption) (by kernel_rfl) (by first | exact lg1 | exact rg1 | exact tg1 | exact kg_tailb (by kernel_rfl) kg_head)) (pu_attr (by kernel_rfl) kg_head (by assumption) (by kernel_rfl) (by first | exact lg2 | exact rg2 | exact tg2 | exact kg_tailb (by kernel_rfl) (kg_tailb (by kernel_rfl) kg_head))) ac_lt) ?_; refine then_ret ?_; rotate_left; exact imp_ft)
    exact q
theorem in_recovery_spec {s : Int} (hk : H[k]? = some (.inst 1 (renL w th (oi m) fl cr))) (q : Q (.bool (inrec m s)) H) : Cl (n + 12) (mdef (cplace 1) 3) [.ref k, .int s] H Q := by
  cases m with
  | none =>
    ((refine cl_intro (fd := ⟨_, _, _, _⟩) rfl rfl ?_); dsimp only [List.map, List.zip, List.zipWith])
    focus (refine xs_cons ?_; refine ex_ret ?_; refine ev_bool ?_; refine bo_and ?_; refine' ev_pu (pu_cmp rfl (pu_attr (by kernel_rfl) kg_head (by assumption) (by kernel_rfl) (by first | exact lg3 | exact rg3 | exact tg3 | exact kg_tailb (by kernel_rfl) (kg_tailb (by kernel_rfl) (kg_tailb (by kernel_rfl) kg_head)))) pu_non ac_isnotn) ?_; refine ⟨_, rfl, ?_, ?_⟩; exact imp_ft; refine clr ?_; refine then_ret ?_; rotate_left)
    exact q
  | some x =>
    ((refine cl_intro (fd := ⟨_, _, _, _⟩) rfl rfl ?_); dsimp only [List.map, List.zip, List.zipWith])
    focus (refine xs_cons ?_; refine ex_ret ?_; refine ev_bool ?_; refine bo_and ?_; refine' ev_pu (pu_cmp rfl (pu_attr (by kernel_rfl) kg_head (by assumption) (by kernel_rfl) (by first | exact lg3 | exact rg3 | exact tg3 | exact kg_tailb (by kernel_rfl) (kg_tailb (by kernel_rfl) (kg_tailb (by kernel_rfl) kg_head)))) pu_non ac_isnoti) ?_; refine ⟨_, rfl, ?_, ?_⟩; refine clr ?_; refine bo_one ?_; refine' ev_pu (pu_cmp rfl (pu_loc (by kernel_rfl) (kg_tailb (by kernel_rfl) kg_head)) (pu_attr (by kernel_rfl) kg_head (by assumption) (by kernel_rfl) (by first | exact lg3 | exact rg3 | exact tg3 | exact kg_tailb (by kernel_rfl) (kg_tailb (by kernel_rfl) (kg_tailb (by kernel_rfl) kg_head)))) ac_le) ?_; refine then_ret ?_; rotate_left; exact imp_tf)
    exact q
theorem on_sent_spec {s : Int} (hk : H[k]? = some (.inst 1 (renL w th ra fl cr))) (q : Q .none (H.set k (.inst 1 (renL w th ra (fl + s) cr)))) : Cl (n + 12) (mdef (cplace 1) 4) [.ref k, .int s] H Q := by
  ((refine cl_intro (fd := ⟨_, _, _, _⟩) rfl rfl ?_); dsimp only [List.map, List.zip, List.zipWith])
  focus (refine xs_cons ?_; refine ex_aug (.inl rfl) ?_; refine' ev_locv (by kernel_rfl) kg_head ?_; refine at_i ?_; refine' hob_of (by assumption) ?_; refine inst_of (by kernel_rfl) ?_; refine kob_tailb (by kernel_rfl) ?_; refine kob_tailb (by kernel_rfl) ?_; refine kob_tailb (by kernel_rfl) ?_; refine kob_tailb (by kernel_rfl) ?_; refine kob_head ?_; refine' ev_locv (by kernel_rfl) (kg_tailb (by kernel_rfl) kg_head) ?_; refine ⟨_, abin_add, ?_⟩; refine sa_i ?_; refine' hob_of (by assumption) ?_; refine inst_ofs ⟨by kernel_rfl, Nat.le_of_ble_eq_true rfl⟩ ?_; refine ⟨_, kp_fl, ?_⟩; refine then_next ?_; refine xs_nil ?_; rotate_left)
  exact q
theorem widen_spec {s : Int} (hk : H[k]? = some (.inst 1 (renL w th ra fl cr))) (hB : 1000000 ≤ B ∧ 1048576 * B ≤ BIG) (hw : 2400 ≤ w ∧ w ≤ B) (hs : 0 ≤ s ∧ s ≤ 1200) (hc : 0 ≤ cr ∧ cr ≤ B)
    (q : Q .none (H.set k (.inst 1 (renL (w + (cr + 1200 * s) / w) th ra fl (cr + 1200 * s - (cr + 1200 * s) / w * w))))) : Cl (n + 15) (mdef (cplace 1) 7) [.ref k, .int s] H Q := by
  have hd0 : 0 ≤ (cr + 1200 * s) / w := Int.ediv_nonneg (by omega) (by omega)
  have hd1 : (cr + 1200 * s) / w ≤ cr + 1200 * s := Int.ediv_le_self _ (by omega)
  ((refine cl_intro (fd := ⟨_, _, _, _⟩) rfl rfl ?_); dsimp only [List.map, List.zip, List.zipWith])
  focus (refine xs_cons ?_; refine ex_aug (.inl rfl) ?_; refine' ev_locv (by kernel_rfl) kg_head ?_; refine at_i ?_; refine' hob_of (by assumption) ?_; refine inst_of (by kernel_rfl) ?_; refine kob_tailb (by kernel_rfl) ?_; refine kob_tailb (by kernel_rfl) ?_; refine kob_tailb (by kernel_rfl) ?_; refine kob_tailb (by kernel_rfl) ?_; refine kob_tailb (by kernel_rfl) ?_; refine kob_head ?_; refine' ev_pu (pu_bin (pu_attr (by kernel_rfl) kg_head (by assumption) (by kernel_rfl) kg_head) (pu_loc (by kernel_rfl) (kg_tailb (by kernel_rfl) kg_head)) (abin_mul (by kernel_rfl) (fits_of (by omega) (by omega)))) ?_; refine ⟨_, abin_add, ?_⟩; refine sa_i ?_; refine' hob_of (by assumption) ?_; refine inst_ofs ⟨by kernel_rfl, Nat.le_of_ble_eq_true rfl⟩ ?_; refine ⟨_, kp_cr, ?_⟩; refine' next_letp (by kernel_rfl) (by kernel_rfl) (pu_bin (pu_attr (by kernel_rfl) kg_head (get_set_same (by assumption)) (by kernel_rfl) (by first | exact lg5 | exact rg5 | exact kg_tailb (by kernel_rfl) (kg_tailb (by kernel_rfl) (kg_tailb (by kernel_rfl) (kg_tailb (by kernel_rfl) (kg_tailb (by kernel_rfl) kg_head)))))) (pu_attr (by kernel_rfl) kg_head (get_set_same (by assumption)) (by kernel_rfl) (by first | exact lg1 | exact rg1 | exact tg1 | exact kg_tailb (by kernel_rfl) kg_head)) (abin_fdiv (by omega) (fits_of (by omega) (by omega)) (fits_of (by omega) (by omega)))) ?_; refine next_cons ?_; refine ex_aug (.inr rfl) ?_; refine' ev_locv (by kernel_rfl) (kgp_neb (by kernel_rfl) kg_head) ?_; refine at_i ?_; refine hob_same ?_ ?_; refine' hob_of (by assumption) ?_; exact trivial; refine inst_of (by kernel_rfl) ?_; refine kob_tailb (by kernel_rfl) ?_; refine kob_tailb (by kernel_rfl) ?_; refine kob_tailb (by kernel_rfl) ?_; refine kob_tailb (by kernel_rfl) ?_; refine kob_tailb (by kernel_rfl) ?_; refine kob_head ?_; refine' ev_pu (pu_bin (pu_loc (by kernel_rfl) kgp_same) (pu_attr (by kernel_rfl) (kgp_neb (by kernel_rfl) kg_head) (get_set_same (by assumption)) (by kernel_rfl) (by first | exact lg1 | exact rg1 | exact tg1 | exact kg_tailb (by kernel_rfl) kg_head)) (abin_mul (fits_of (by omega) (by omega)) (fits_of (by omega) (by omega)))) ?_; refine ⟨_, abin_sub, ?_⟩; refine sa_i ?_; refine hob_same ?_ ?_; refine' hob_of (by assumption) ?_; exact trivial; refine inst_ofs ⟨by kernel_rfl, Nat.le_of_ble_eq_true rfl⟩ ?_; refine ⟨_, kp_cr, ?_⟩; refine next_cons ?_; refine ex_aug (.inl rfl) ?_; refine' ev_locv (by kernel_rfl) (kgp_neb (by kernel_rfl) kg_head) ?_; refine at_i ?_; refine hob_same ?_ ?_; refine hob_same ?_ ?_; refine' hob_of (by assumption) ?_; exact trivial; exact trivial; refine inst_of (by kernel_rfl) ?_; refine kob_tailb (by kernel_rfl) ?_; refine kob_head ?_; refine' ev_locv (by kernel_rfl) kgp_same ?_; refine ⟨_, abin_add, ?_⟩; refine sa_i ?_; refine hob_same ?_ ?_; refine hob_same ?_ ?_; refine' hob_of (by assumption) ?_; exact trivial; exact trivial; refine inst_ofs ⟨by kernel_rfl, Nat.le_of_ble_eq_true rfl⟩ ?_; refine ⟨_, kp_w, ?_⟩; refine then_next ?_; refine xs_nil ?_; rotate_left)
  simp only [List.set_set]
  exact q
theorem on_acked_spec {s tm now sm : Int} {lim : Bool} (hk : H[k]? = some (.inst 1 (renL w (oi t) (oi m) fl cr))) (hB : 1000000 ≤ B ∧ 1048576 * B ≤ BIG) (hw : 2400 ≤ w ∧ w ≤ B) (hs : 0 ≤ s ∧ s ≤ 1200) (hc : 0 ≤ cr ∧ cr ≤ B)
    (q : Q .none (H.set k (.inst 1 (renL (ackS w t m cr s tm lim).1 (oi t) (oi m) (fl - s) (ackS w t m cr s tm lim).2)))) : Cl (n + 25) (mdef (cplace 1) 6) [.ref k, .int s, .int tm, .bool lim, .int now, .int sm] H Q := by
  ((refine cl_intro (fd := ⟨_, _, _, _⟩) rfl rfl ?_); dsimp only [List.map, List.zip, List.zipWith])
  focus (refine xs_cons ?_; refine ex_aug (.inr rfl) ?_; refine' ev_locv (by kernel_rfl) kg_head ?_; refine at_i ?_; refine' hob_of (by assumption) ?_; refine inst_of (by kernel_rfl) ?_; refine kob_tailb (by kernel_rfl) ?_; refine kob_tailb (by kernel_rfl) ?_; refine kob_tailb (by kernel_rfl) ?_; refine kob_tailb (by kernel_rfl) ?_; refine kob_head ?_; refine' ev_locv (by kernel_rfl) (kg_tailb (by kernel_rfl) kg_head) ?_; refine ⟨_, abin_sub, ?_⟩; refine sa_i ?_; refine' hob_of (by assumption) ?_; refine inst_ofs ⟨by kernel_rfl, Nat.le_of_ble_eq_true rfl⟩ ?_; refine ⟨_, kp_fl, ?_⟩; refine next_cons ?_; refine ex_if ?_; refine te_all ?_; refine al_or ?_; refine te_call ?_; refine' ev_methu ⟨Nat.le_of_ble_eq_true rfl, rfl, rfl⟩ (by kernel_rfl) kg_head (get_set_same (by assumption)) kn7 mi7 (ar_cons rfl (pu_loc (by kernel_rfl) (kg_tailb (by kernel_rfl) (kg_tailb (by kernel_rfl) kg_head))) ar_nil) ?_; rotate_left)
  refine' in_recovery_spec (m := m) (by focus (exact get_set_same (by assumption))) ?_
  focus (refine ⟨_, rfl, ?_, ?_⟩; refine imp_keep fun _ => ?_; refine al_or ?_; refine te_not ?_; refine te_name ?_; refine' ev_locv (by kernel_rfl) (kg_tailb (by kernel_rfl) (kg_tailb (by kernel_rfl) (kg_tailb (by kernel_rfl) kg_head))) ?_; refine ⟨_, rfl, ?_, ?_⟩; refine imp_keep fun _ => ?_; refine al_or_nil ?_; refine split_f ?_; refine xs_nil ?_; refine next_cons ?_; refine ex_if ?_; refine te_call ?_; refine' ev_methu ⟨Nat.le_of_ble_eq_true rfl, rfl, rfl⟩ (by kernel_rfl) kg_head (get_set_same (by assumption)) kn6 mi6 ar_nil ?_; rotate_left; refine imp_keep fun _ => ?_; refine split_t ?_; refine xs_cons ?_; refine ex_ret0 ?_; refine then_ret ?_; refine then_ret ?_; rotate_left; refine imp_keep fun _ => ?_; refine split_t ?_; refine xs_cons ?_; refine ex_ret0 ?_; refine then_ret ?_; refine then_ret ?_; rotate_left)
  · rename_i h1 h2
    simp only [Bool.not_eq_false'] at h2
    subst h2
    refine' is_slow_spec (t := t) (by focus (exact get_set_same (by assumption))) ?_
    focus (refine ⟨_, rfl, ?_, ?_⟩; refine imp_keep fun _ => ?_; refine xs_cons ?_; refine ex_aug (.inl rfl) ?_; refine' ev_locv (by kernel_rfl) kg_head ?_; refine at_i ?_; refine hob_same ?_ ?_; refine' hob_of (by assumption) ?_; exact trivial; refine inst_of (by kernel_rfl) ?_; refine kob_tailb (by kernel_rfl) ?_; refine kob_head ?_; refine' ev_locv (by kernel_rfl) (kg_tailb (by kernel_rfl) kg_head) ?_; refine ⟨_, abin_add, ?_⟩; refine sa_i ?_; refine hob_same ?_ ?_; refine' hob_of (by assumption) ?_; exact trivial; refine inst_ofs ⟨by kernel_rfl, Nat.le_of_ble_eq_true rfl⟩ ?_; refine ⟨_, kp_w, ?_⟩; refine then_next ?_; refine xs_nil ?_; refine then_next ?_; refine xs_nil ?_; rotate_left; refine imp_keep fun _ => ?_; refine xs_cons ?_; refine ex_expr ?_; refine' ev_methu ⟨Nat.le_of_ble_eq_true rfl, rfl, rfl⟩ (by kernel_rfl) kg_head (get_set_same (by assumption)) kn10 mi10 (ar_cons rfl (pu_loc (by kernel_rfl) (kg_tailb (by kernel_rfl) kg_head)) ar_nil) ?_; rotate_left)
    · rename_i h3
      simp only [List.set_set]
      simp only [ackS, h1, h3, Bool.not_true, Bool.or_false, Bool.false_eq_true, if_false, if_true] at q
      exact q
    · rename_i h3
      refine' widen_spec (by focus (exact get_set_same (by assumption))) hB hw hs hc ?_
      focus (refine then_next ?_; refine xs_nil ?_; refine then_next ?_; refine xs_nil ?_; rotate_left)
      simp only [List.set_set]
      simp only [ackS, h1, h3, Bool.not_true, Bool.or_false, Bool.false_eq_true, if_false, if_true] at q
      exact q
  · rename_i h1 h2
    simp only [ackS, h2, Bool.or_true, if_true] at q
    exact q
  · rename_i h1
    simp only [ackS, h1, Bool.true_or, if_true] at q
    exact q
/-- the window, its threshold, the recovery and the shares behind a loss -/
noncomputable def lostS (w : Int) (t m : Option Int) (cr newest now : Int) : Int × Option Int × Option Int × Int :=
  if inrec m newest = true then (w, t, m, cr) else (max (w / 2) 2400, some (max (w / 2) 2400), some now, 0)
theorem on_congestion_spec {s now : Int} (hk : H[k]? = some (.inst 1 (renL w (oi t) (oi m) fl cr))) (hB : 1000000 ≤ B ∧ 1048576 * B ≤ BIG) (hw : 2400 ≤ w ∧ w ≤ B)
    (q : Q .none (H.set k (.inst 1 (renL (lostS w t m cr s now).1 (oi (lostS w t m cr s now).2.1) (oi (lostS w t m cr s now).2.2.1) fl (lostS w t m cr s now).2.2.2)))) : Cl (n + 25) (mdef (cplace 1) 8) [.ref k, .int s, .int now] H Q := by
  ((refine cl_intro (fd := ⟨_, _, _, _⟩) rfl rfl ?_); dsimp only [List.map, List.zip, List.zipWith])
  focus (refine xs_cons ?_; refine ex_if ?_; refine te_call ?_; refine' ev_methu ⟨Nat.le_of_ble_eq_true rfl, rfl, rfl⟩ (by kernel_rfl) kg_head (by assumption) kn7 mi7 (ar_cons rfl (pu_loc (by kernel_rfl) (kg_tailb (by kernel_rfl) kg_head)) ar_nil) ?_; rotate_left)
  refine' in_recovery_spec (m := m) (by focus (assumption)) ?_
  focus (refine ⟨_, rfl, ?_, ?_⟩; refine imp_keep fun _ => ?_; refine xs_cons ?_; refine ex_ret0 ?_; refine then_ret ?_; refine then_ret ?_; rotate_left; refine imp_keep fun _ => ?_; refine xs_nil ?_; refine' next_attrp (by kernel_rfl) (pu_loc (by kernel_rfl) (kg_tailb (by kernel_rfl) (kg_tailb (by kernel_rfl) kg_head))) (by kernel_rfl) kg_head (by assumption) (by exact ⟨by kernel_rfl, Nat.le_of_ble_eq_true rfl⟩) kp_ra ?_; refine' next_attrp (by kernel_rfl) pu_int (by kernel_rfl) kg_head (get_set_same (by assumption)) (by exact ⟨by kernel_rfl, Nat.le_of_ble_eq_true rfl⟩) kp_cr ?_; refine next_assign (by kernel_rfl) ?_; refine ev_call (Nat.le_of_ble_eq_true rfl) (by kernel_rfl) ?_; refine evs_cons rfl ?_; refine' ev_pu (pu_bin (pu_bin (pu_attr (by kernel_rfl) kg_head (get_set_same (get_set_same (by assumption))) (by kernel_rfl) (by first | exact lg1 | exact rg1 | exact tg1 | exact kg_tailb (by kernel_rfl) kg_head)) (pu_glob gc9 (by kernel_rfl)) (abin_mul (fits_of (by omega) (by omega)) (by kernel_rfl))) (pu_glob gc10 (by kernel_rfl)) (abin_fdiv (by omega) (fits_of (by omega) (by omega)) (by kernel_rfl))) ?_; refine evs_cons rfl ?_; refine' ev_callA (Nat.le_of_ble_eq_true rfl) (by kernel_rfl) (ar_cons rfl (pu_attr (by kernel_rfl) kg_head (get_set_same (get_set_same (by assumption))) (by kernel_rfl) kg_head) ar_nil) ?_; refine cn_user fi8 ?_; rotate_left)
  · rename_i h1
    simp only [lostS, h1, if_true] at q
    have e : H.set k (.inst 1 (renL w (oi t) (oi m) fl cr)) = H := by
      have := List.getElem?_eq_some_iff.mp hk
      obtain ⟨hl, he⟩ := this
      rw [← he]; simp
    rw [e] at q
    exact q
  · rename_i h1
    simp only [lostS, h1, Bool.false_eq_true, if_false] at q
    refine' least_window_spec hB ?_
    focus (refine evs_nil ?_; refine cn_bi nb_max ab_max ?_; refine' as_attrv (by kernel_rfl) kg_head (get_set_same (get_set_same (by assumption))) (by exact ⟨by kernel_rfl, Nat.le_of_ble_eq_true rfl⟩) kp_th ?_; refine' next_attrp (by kernel_rfl) (pu_attr (by kernel_rfl) kg_head (get_set_same (get_set_same (get_set_same (by assumption)))) (by kernel_rfl) (by first | exact lg2 | exact rg2 | exact tg2 | exact kg_tailb (by kernel_rfl) (kg_tailb (by kernel_rfl) kg_head))) (by kernel_rfl) kg_head (get_set_same (get_set_same (get_set_same (by assumption)))) (by exact ⟨by kernel_rfl, Nat.le_of_ble_eq_true rfl⟩) kp_w ?_; refine then_next ?_; refine xs_nil ?_; rotate_left)
    simp only [List.set_set, Int.mul_one]
    exact q
theorem on_lost_spec {s nw now : Int} (hk : H[k]? = some (.inst 1 (renL w (oi t) (oi m) fl cr))) (hB : 1000000 ≤ B ∧ 1048576 * B ≤ BIG) (hw : 2400 ≤ w ∧ w ≤ B)
    (q : Q .none (H.set k (.inst 1 (renL (lostS w t m cr nw now).1 (oi (lostS w t m cr nw now).2.1) (oi (lostS w t m cr nw now).2.2.1) (fl - s) (lostS w t m cr nw now).2.2.2)))) : Cl (n + 35) (mdef (cplace 1) 9) [.ref k, .int s, .int nw, .int now] H Q := by
  ((refine cl_intro (fd := ⟨_, _, _, _⟩) rfl rfl ?_); dsimp only [List.map, List.zip, List.zipWith])
  focus (refine xs_cons ?_; refine ex_aug (.inr rfl) ?_; refine' ev_locv (by kernel_rfl) kg_head ?_; refine at_i ?_; refine' hob_of (by assumption) ?_; refine inst_of (by kernel_rfl) ?_; refine kob_tailb (by kernel_rfl) ?_; refine kob_tailb (by kernel_rfl) ?_; refine kob_tailb (by kernel_rfl) ?_; refine kob_tailb (by kernel_rfl) ?_; refine kob_head ?_; refine' ev_locv (by kernel_rfl) (kg_tailb (by kernel_rfl) kg_head) ?_; refine ⟨_, abin_sub, ?_⟩; refine sa_i ?_; refine' hob_of (by assumption) ?_; refine inst_ofs ⟨by kernel_rfl, Nat.le_of_ble_eq_true rfl⟩ ?_; refine ⟨_, kp_fl, ?_⟩; refine next_cons ?_; refine ex_if ?_; refine' te_cmpp rfl (pu_loc (by kernel_rfl) (kg_tailb (by kernel_rfl) (kg_tailb (by kernel_rfl) kg_head))) pu_non ac_isnoti ?_; refine split_t ?_; refine xs_cons ?_; refine ex_expr ?_; refine' ev_methu ⟨Nat.le_of_ble_eq_true rfl, rfl, rfl⟩ (by kernel_rfl) kg_head (get_set_same (by assumption)) kn11 mi11 (ar_cons rfl (pu_loc (by kernel_rfl) (kg_tailb (by kernel_rfl) (kg_tailb (by kernel_rfl) kg_head))) (ar_cons rfl (pu_loc (by kernel_rfl) (kg_tailb (by kernel_rfl) (kg_tailb (by kernel_rfl) (kg_tailb (by kernel_rfl) kg_head)))) ar_nil)) ?_; rotate_left)
  refine' on_congestion_spec (by focus (exact get_set_same (by assumption))) hB hw ?_
  focus (refine then_next ?_; refine xs_nil ?_; refine then_next ?_; refine xs_nil ?_; rotate_left)
  simp only [List.set_set]
  exact q
end


mutual
theorem AV.eqb_refl : ∀ v : AV, AV.eqb v v = true
  | .none => rfl
  | .bool b => beq_self_eq_true _
  | .int i => beq_self_eq_true _
  | .str s => beq_self_eq_true _
  | .tup l => AV.eqbs_refl l
  | .lst l => AV.eqbs_refl l
  | .rng n => beq_self_eq_true _
  | .view n => beq_self_eq_true _
  | .ref n => beq_self_eq_true _
theorem AV.eqbs_refl : ∀ l : List AV, AV.eqbs l l = true
  | [] => rfl
  | a :: l => by show (AV.eqb a a && AV.eqbs l l) = true; rw [AV.eqb_refl a, AV.eqbs_refl l]; rfl
end
theorem aguard_self {v : AV} {its : List AV} {H : AH} (e : aitems H v = some its) : aguard v its H = true := by
  unfold aguard
  rw [e]
  cases v <;> first | rfl | exact AV.eqbs_refl its

/-- a packet's row: number, time, size -/
structure Row where
  num : Int
  time : Int
  size : Int
noncomputable def rowsE (R : List Row) : List (Int × AV) := R.map fun r => (r.num, AV.tup [.int r.time, .int r.size])
noncomputable def sentE (R : List Row) : List (Int × AV) := R.map fun r => (r.num, AV.tup [.int r.time, .int r.size, .bool true, .bool true])
/-- a dict of iL: fresh, or filled once -/
@[reducible] noncomputable def dO : Bool → List (Int × AV) → AObj
  | true, _ => .dictE
  | false, es => .dictI es
noncomputable def nums (R : List Row) : List Int := R.map (·.num)
noncomputable def iL (l : List Int) : List AV := l.map .int

theorem iL_length {l : List Int} : (iL l).length = l.length := by simp [iL]
theorem nums_length {R : List Row} : (nums R).length = R.length := by simp [nums]
theorem rowsE_length {R : List Row} : (rowsE R).length = R.length := by simp [rowsE]
theorem sentE_length {R : List Row} : (sentE R).length = R.length := by simp [sentE]
theorem intsOf_iL : ∀ l : List Int, intsOf (iL l) = some l
  | [] => rfl
  | a :: l => by
    show (intsOf (iL l)).map (a :: ·) = _
    rw [intsOf_iL l]; rfl

section
variable {H : AH} {k : Nat} {v : Bool} {es : List (Int × AV)}
theorem ab_sorted (h : H[k]? = some (dO v es)) (hv : v = true → es = []) (hl : es.length < 64) (hr : rising (es.map (·.1)) = true) : abuiltin "sorted" [.ref k] H = some (.lst (iL (es.map (·.1))), H) := by
  have e : (iL (es.map (·.1))) = es.map fun e => AV.int e.1 := by simp [iL]
  rw [e]
  have kk : abuiltin "sorted" [.ref k] H = (match H[k]? with
      | some (.dictI es) => if es.length < 64 ∧ rising (es.map (·.1)) then some (.lst (es.map fun e => .int e.1), H) else none
      | some .dictE => some (.lst [], H)
      | _ => none) := by kernel_rfl
  refine kk.trans ?_
  cases v with
  | true => rw [hv rfl, show H[k]? = some .dictE from h]; rfl
  | false => rw [show H[k]? = some (.dictI es) from h]; exact it ⟨hl, hr⟩ rfl
theorem it_view (h : H[k]? = some (dO v es)) (hv : v = true → es = []) : aitems H (.view k) = some (es.map (·.2)) := by
  cases v with
  | true => rw [hv rfl]; delta aitems; dsimp only; rw [show H[k]? = some .dictE from h]; rfl
  | false => delta aitems; dsimp only; rw [show H[k]? = some (.dictI es) from h]
theorem it_list {l : List AV} (h : H[k]? = some (.list l)) : aitems H (.ref k) = some l := by delta aitems; dsimp only; rw [h]
theorem si_d {i : Int} {x : AV} {R : AH → Prop} (h : H[k]? = some (dO v es)) (hv : v = true → es = []) (hl : es.length < 100000) (q : R (H.set k (dO false (kput es i x)))) : ∃ H2, asetitem H (.ref k) (.int i) x = some H2 ∧ R H2 := by
  refine ⟨_, ?_, q⟩
  cases v with
  | true =>
    rw [hv rfl]
    have e3 : asetO .dictE (.int i) x = some (.dictI [(i, x)]) := rfl
    exact bd (rfl : refOfV (AV.ref k) = some k) (bd (show H[k]? = some .dictE from h) (mp e3))
  | false =>
    have e3 : asetO (.dictI es) (.int i) x = some (.dictI (kput es i x)) := it hl rfl
    exact bd (rfl : refOfV (AV.ref k) = some k) (bd (show H[k]? = some (.dictI es) from h) (mp e3))
theorem isID_dO : isID (dO v es) = true := by cases v <;> rfl
theorem isDict_dO : isDict (dO v es) = true := by cases v <;> rfl
/-- a filled dict is one -/
theorem dO_false (hv : v = true → es = []) (hn : es ≠ []) : v = false := by
  cases v with
  | true => exact absurd (hv rfl) hn
  | false => rfl
end

theorem kget_rowsE {R : List Row} (nd : (nums R).Nodup) : ∀ {r : Row}, r ∈ R → kget (rowsE R) r.num = some (.tup [.int r.time, .int r.size]) := by
  induction R with
  | nil => intro r h; cases h
  | cons a R ih =>
    intro r h
    have n' : a.num ∉ nums R ∧ (nums R).Nodup := List.nodup_cons.mp nd
    show kget ((a.num, _) :: rowsE R) r.num = _
    rcases List.mem_cons.mp h with rfl | h
    · unfold kget; rw [if_pos rfl]
    · unfold kget
      rw [if_neg (fun e : a.num = r.num => n'.1 (e ▸ List.mem_map_of_mem h))]
      exact ih n'.2 h
theorem kget_sentE {R : List Row} (nd : (nums R).Nodup) : ∀ {r : Row}, r ∈ R → kget (sentE R) r.num = some (.tup [.int r.time, .int r.size, .bool true, .bool true]) := by
  induction R with
  | nil => intro r h; cases h
  | cons a R ih =>
    intro r h
    have n' : a.num ∉ nums R ∧ (nums R).Nodup := List.nodup_cons.mp nd
    show kget ((a.num, _) :: sentE R) r.num = _
    rcases List.mem_cons.mp h with rfl | h
    · unfold kget; rw [if_pos rfl]
    · unfold kget
      rw [if_neg (fun e : a.num = r.num => n'.1 (e ▸ List.mem_map_of_mem h))]
      exact ih n'.2 h
theorem rowsE_keys {R : List Row} : (rowsE R).map (·.1) = nums R := by simp [rowsE, nums]
theorem sentE_keys {R : List Row} : (sentE R).map (·.1) = nums R := by simp [sentE, nums]
theorem rising_nodup : ∀ {l : List Int}, rising l = true → l.Nodup ∧ ∀ a ∈ l.head?, ∀ b ∈ l.tail, a < b
  | [], _ => ⟨.nil, fun _ h => by cases h⟩
  | [a], _ => ⟨List.nodup_cons.mpr ⟨List.not_mem_nil, .nil⟩, fun _ _ b hb => by cases hb⟩
  | a :: b :: r, h => by
    simp only [rising, Bool.and_eq_true, decide_eq_true_eq] at h
    obtain ⟨nd, hlt⟩ := rising_nodup (l := b :: r) h.2
    have hall : ∀ x ∈ b :: r, a < x := by
      intro x hx
      rcases List.mem_cons.mp hx with rfl | hx
      · exact h.1
      · exact Int.lt_trans h.1 (hlt b (by simp) x hx)
    refine ⟨List.nodup_cons.mpr ⟨fun m => Int.lt_irrefl _ (hall a m), nd⟩, fun x hx y hy => ?_⟩
    simp only [List.head?_cons, Option.mem_def, Option.some.injEq] at hx
    subst hx
    exact hall y hy

/-- a row goes -/
noncomputable def del (k : Int) : List Row → List Row
  | [] => []
  | r :: R => if r.num = k then R else r :: del k R
theorem kdel_rowsE (k : Int) : ∀ R : List Row, kdel (rowsE R) k = rowsE (del k R)
  | [] => rfl
  | r :: R => by
    show kdel ((r.num, _) :: rowsE R) k = _
    unfold kdel del
    split
    · rfl
    · rw [kdel_rowsE k R]; rfl
theorem kdel_sentE (k : Int) : ∀ R : List Row, kdel (sentE R) k = sentE (del k R)
  | [] => rfl
  | r :: R => by
    show kdel ((r.num, _) :: sentE R) k = _
    unfold kdel del
    split
    · rfl
    · rw [kdel_sentE k R]; rfl
theorem del_sub (k : Int) : ∀ R : List Row, (del k R).Sublist R
  | [] => .slnil
  | r :: R => by
    unfold del
    split
    · exact .cons _ (List.Sublist.refl R)
    · exact List.Sublist.cons_cons _ (del_sub k R)
theorem mem_del {k : Int} {x : Row} (h : x.num ≠ k) : ∀ {R : List Row}, x ∈ R → x ∈ del k R
  | [], m => by cases m
  | r :: R, m => by
    unfold del
    rcases List.mem_cons.mp m with rfl | m
    · rw [if_neg h]; exact .head _
    · split
      · exact m
      · exact .tail _ (mem_del h m)
theorem notin_del {k : Int} : ∀ {R : List Row}, (nums R).Nodup → k ∉ nums (del k R)
  | [], _ => by simp [del, nums]
  | r :: R, nd => by
    have n' : r.num ∉ nums R ∧ (nums R).Nodup := List.nodup_cons.mp nd
    unfold del
    split
    · rename_i e; exact e ▸ n'.1
    · rename_i e
      intro m
      rcases List.mem_cons.mp m with q | q
      · exact e q.symm
      · exact notin_del n'.2 q
noncomputable def sizes (R : List Row) : Int := (R.map (·.size)).sum
theorem sizes_del {r : Row} : ∀ {R : List Row}, (nums R).Nodup → r ∈ R → sizes (del r.num R) = sizes R - r.size
  | [], _, m => by cases m
  | a :: R, nd, m => by
    have n' : a.num ∉ nums R ∧ (nums R).Nodup := List.nodup_cons.mp nd
    unfold del
    rcases List.mem_cons.mp m with rfl | m
    · rw [if_pos rfl]; simp only [sizes, List.map_cons, List.sum_cons]; omega
    · rw [if_neg (fun e : a.num = r.num => n'.1 (e ▸ List.mem_map_of_mem m))]
      have := sizes_del n'.2 m
      simp only [sizes, List.map_cons, List.sum_cons] at this ⊢
      omega
theorem del_length {r : Row} : ∀ {R : List Row}, r ∈ R → (del r.num R).length + 1 = R.length
  | [], m => by cases m
  | a :: R, m => by
    unfold del
    split
    · simp
    · rename_i e
      rcases List.mem_cons.mp m with rfl | m
      · exact absurd rfl e
      · have := del_length m
        simp only [List.length_cons]; omega
theorem and_len {l : List AV} {P : Prop} (h : l.length < lenLine) (p : P) : l.length < lenLine ∧ P := ⟨h, p⟩
theorem kd_of {es : List (Int × AV)} {i : Int} {v : AV} {P : AV → Prop} (e : kget es i = some v) (p : P v) : ∃ v, kget es i = some v ∧ P v := ⟨v, e, p⟩

theorem iL_nums {S : List Row} : iL (nums S) = S.map fun r => AV.int r.num := by simp [iL, nums]
section
variable {n : Nat} {sc names : Sc} {loc : Loc} {H : AH}
theorem co_map {α : Type} {guard : AH → Bool} {target elt : Expr} {ifs : List Expr} {key : α → AV} (g : α → Option AV) {S : List α} {Q : List AV → AH → Prop} (hg : guard H = true)
    (h : ∀ r ∈ S, On n names loc target ifs elt (key r) H fun y H' => y = g r ∧ H' = H) (q : Q (S.filterMap g) H) : Co guard n names loc target ifs elt (S.map key) H Q := by
  have key' : ∀ S : List α, (∀ a ∈ S, On n names loc target ifs elt (key a) H fun y H' => y = g a ∧ H' = H) →
      acomp guard (fun x H' => (atarget target x loc).bind fun loc' => acompOne n names loc' ifs elt H') (S.map key) H = some (S.filterMap g, H) := by
    intro S
    induction S with
    | nil => intro _; exact it hg rfl
    | cons a r ih =>
      intro h
      obtain ⟨y, H1, e1, rfl, rfl⟩ := h a (.head _)
      refine it hg (bd e1 ((mp (ih fun b hb => h b (.tail _ hb))).trans ?_))
      simp only [List.filterMap_cons]
      cases g a <;> rfl
  exact ⟨_, _, key' S h, q⟩
theorem fo_map {α : Type} {guard : AH → Bool} {x : Str} {body : List Stmt} {key : α → AV} {S : List α} {Q : AFlow → Loc → AH → Prop} (I : List α → Loc → AH → Prop) (h0 : I [] loc H) (hg : ∀ pre loc H, I pre loc H → guard H = true)
    (step : ∀ pre a suf loc H, S = pre ++ a :: suf → I pre loc H → Xs n sc (kput loc x (key a)) body H fun f loc' H' => (f = .next ∨ f = .cont) ∧ I (pre ++ [a]) loc' H') (fin : ∀ loc H, I S loc H → Q .next loc H) :
    Fo guard n sc x body (S.map key) loc H Q := by
  refine fo_inv (fun rem loc H => ∃ pre suf, S = pre ++ suf ∧ rem = suf.map key ∧ I pre loc H) ⟨[], S, rfl, rfl, h0⟩ (fun r loc H ⟨pre, _, _, _, h⟩ => hg pre loc H h) ?_ ?_
  · rintro a r loc H ⟨pre, suf, e1, e2, h⟩
    cases suf with
    | nil => cases e2
    | cons b suf =>
      simp only [List.map_cons, List.cons.injEq] at e2
      obtain ⟨rfl, rfl⟩ := e2
      refine (step pre b suf loc H e1 h).mono fun f l H' ⟨hf, hI⟩ => ⟨hf, pre ++ [b], suf, by rw [e1, List.append_assoc]; rfl, rfl, hI⟩
  · rintro loc H ⟨pre, suf, e1, e2, h⟩
    have : suf = [] := by cases suf with | nil => rfl | cons _ _ => cases e2
    subst this
    rw [List.append_nil] at e1
    subst e1
    exact fin _ _ h
end
section
variable {H : AH}
theorem ab_sum {l : List AV} {is : List Int} (hl : l.length < 100000) (e : intsOf l = some is) : abuiltin "sum" [.lst l] H = some (.int is.sum, H) := by
  have hl : l.length < lenLine := hl
  have kk : abuiltin "sum" [.lst l] H = (if l.length < lenLine then (intsOf l).map fun is => (AV.int is.sum, H) else none) := by kernel_rfl
  exact kk.trans (it hl (mp e))
theorem ab_maxl {l : List AV} {is : List Int} {m : Int} (hl : l.length < 100000) (e : intsOf l = some is) (e2 : maxL is = some m) : abuiltin "max" [.lst l] H = some (.int m, H) := by
  have hl : l.length < lenLine := hl
  have kk : abuiltin "max" [.lst l] H = (if l.length < lenLine then ((intsOf l).bind maxL).map fun i => (AV.int i, H) else none) := by kernel_rfl
  exact kk.trans (it hl (mp (bd e e2)))
theorem ab_minl {l : List AV} {is : List Int} {m : Int} (hl : l.length < 100000) (e : intsOf l = some is) (e2 : minL is = some m) : abuiltin "min" [.lst l] H = some (.int m, H) := by
  have hl : l.length < lenLine := hl
  have kk : abuiltin "min" [.lst l] H = (if l.length < lenLine then ((intsOf l).bind minL).map fun i => (AV.int i, H) else none) := by kernel_rfl
  exact kk.trans (it hl (mp (bd e e2)))
theorem ab_len {l : List AV} {v : AV} (e : asList H v = some l) (hl : l.length < 100000) : abuiltin "len" [v] H = some (.int l.length, H) := by
  have hl : l.length < lenLine := hl
  have kk : abuiltin "len" [v] H = ((asList H v).bind fun l => if l.length < lenLine then some (AV.int l.length, H) else none) := by kernel_rfl
  exact kk.trans (bd e (it hl rfl))
theorem ab_anyb {l : List Bool} (hl : l.length < 100000) : abuiltin "any" [.lst (l.map .bool)] H = some (.bool (l.any id), H) := by
  have hl : (l.map AV.bool).length < lenLine := by rw [List.length_map]; exact hl
  have e : ∀ l : List Bool, boolsOf (l.map .bool) = some l := by
    intro l
    induction l with
    | nil => rfl
    | cons a l ih => show (boolsOf (l.map .bool)).map (a :: ·) = _; rw [ih]; rfl
  have kk : abuiltin "any" [.lst (l.map .bool)] H = (if (l.map AV.bool).length < lenLine then (boolsOf (l.map .bool)).map fun bs => (AV.bool (bs.any id), H) else none) := by kernel_rfl
  exact kk.trans (it hl (mp (e l)))
theorem ab_list {l : List AV} (hl : l.length < 100000) : abuiltin "list" [.lst l] H = some (.ref H.length, H ++ [.list l]) := by
  have hl : l.length < lenLine := hl
  have kk : abuiltin "list" [.lst l] H = (if l.length < lenLine then some (AV.ref H.length, H ++ [.list l]) else none) := by kernel_rfl
  exact kk.trans (it hl rfl)
theorem ab_range {i : Int} (h : 0 ≤ i ∧ i < 100000) : abuiltin "range" [.int i] H = some (.rng i.toNat, H) := by
  have : 0 ≤ i ∧ i < (lenLine : Int) := h
  have kk : abuiltin "range" [.int i] H = (if 0 ≤ i ∧ i < lenLine then some (AV.rng i.toNat, H) else none) := by kernel_rfl
  exact kk.trans (it this rfl)
end

theorem amem_iL {i : Int} : ∀ l : List Int, amem i (iL l) = some (decide (i ∈ l))
  | [] => by simp [iL, amem]
  | a :: l => by
    show amem i (.int a :: iL l) = _
    unfold amem
    rw [amem_iL l]
    simp
theorem ac_notin {H : AH} {i : Int} {l : List Int} : acmp H .NotIn (.int i) (.lst (iL l)) = some (!decide (i ∈ l)) := by
  show (amem i (iL l)).map _ = _
  rw [amem_iL]; rfl
theorem ac_in {H : AH} {i : Int} {l : List Int} : acmp H .In (.int i) (.tup (iL l)) = some (decide (i ∈ l)) := amem_iL l
theorem flatPDs_iL : ∀ l : List Int, flatPDs (iL l) = some (l.map .int)
  | [] => rfl
  | a :: l => by
    show (flatPD (.int a)).bind (fun d => (flatPDs (iL l)).map (d :: ·)) = _
    rw [flatPDs_iL l]; rfl
theorem ac_ne_nil {H : AH} {k : Nat} {l : List Int} (h : H[k]? = some (.list [])) : acmp H .NotEq (.lst (iL l)) (.ref k) = some (!l.isEmpty) := by
  have e1 : toPD H (.lst (iL l)) = some (.list (l.map .int)) := mp (flatPDs_iL l)
  have e2 : toPD H (.ref k) = some (.list []) := by show listPD H (.ref k) = _; delta listPD; dsimp only; rw [h]; rfl
  show (match toPD H (.lst (iL l)) with | some x => (toPD H (.ref k)).map fun y => !PyData.eqv x y | none => none) = _
  rw [e1, e2]
  cases l <;> rfl
theorem ac_ne_nilr {H : AH} {k j : Nat} {l : List Int} (h : H[k]? = some (.list [])) (hj : H[j]? = some (.list (iL l))) : acmp H .NotEq (.ref j) (.ref k) = some (!l.isEmpty) := by
  have e1 : toPD H (.ref j) = some (.list (l.map .int)) := by show listPD H (.ref j) = _; delta listPD; dsimp only; rw [hj]; exact mp (flatPDs_iL l)
  have e2 : toPD H (.ref k) = some (.list []) := by show listPD H (.ref k) = _; delta listPD; dsimp only; rw [h]; rfl
  show (match toPD H (.ref j) with | some x => (toPD H (.ref k)).map fun y => !PyData.eqv x y | none => none) = _
  rw [e1, e2]
  cases l <;> rfl
theorem filterMap_if {α β : Type} (p : α → Bool) (f : α → β) (S : List α) : S.filterMap (fun r => if p r = true then some (f r) else none) = (S.filter p).map f := by
  induction S with
  | nil => rfl
  | cons a S ih =>
    rw [List.filterMap_cons, List.filter_cons]
    by_cases h : p a = true
    · simp only [h, if_true, ih, List.map_cons]
    · simp only [h, if_false, ih, Bool.false_eq_true]
theorem filterMap_all {α β : Type} (f : α → β) (S : List α) : S.filterMap (fun r => some (f r)) = S.map f := by simp
theorem map_iL {α : Type} (f : α → Int) (S : List α) : S.map (fun r => AV.int (f r)) = iL (S.map f) := by simp [iL]

theorem cit_lst {H : AH} {l : List AV} {X Y : Prop} {P : List AV → Prop} (hl : l.length < lenLine) (y : Y) (p : P l) : ∃ its, aitems H (.lst l) = some its ∧ (its.length < lenLine ∧ (isView (.lst l) = true → X) ∧ (isView (.lst l) = false → Y)) ∧ P its :=
  ⟨l, rfl, ⟨hl, (fun h => nomatch h), fun _ => y⟩, p⟩
theorem fit_lst {H : AH} {l : List AV} {P : List AV → Prop} (hl : l.length < lenLine) (p : P l) : ∃ its, aitems H (.lst l) = some its ∧ isView (.lst l) = false ∧ its.length < lenLine ∧ P its := ⟨l, rfl, rfl, hl, p⟩
theorem cit_tup {H : AH} {l : List AV} {X Y : Prop} {P : List AV → Prop} (hl : l.length < lenLine) (y : Y) (p : P l) : ∃ its, aitems H (.tup l) = some its ∧ (its.length < lenLine ∧ (isView (.tup l) = true → X) ∧ (isView (.tup l) = false → Y)) ∧ P its :=
  ⟨l, rfl, ⟨hl, (fun h => nomatch h), fun _ => y⟩, p⟩
theorem fit_tup {H : AH} {l : List AV} {P : List AV → Prop} (hl : l.length < lenLine) (p : P l) : ∃ its, aitems H (.tup l) = some its ∧ isView (.tup l) = false ∧ its.length < lenLine ∧ P its := ⟨l, rfl, rfl, hl, p⟩
theorem cit_view {H : AH} {k : Nat} {v : Bool} {es : List (Int × AV)} {X Y : Prop} {P : List AV → Prop} (h : H[k]? = some (dO v es)) (hv : v = true → es = []) (hl : es.length < 100000) (x : X) (p : P (es.map (·.2))) :
    ∃ its, aitems H (.view k) = some its ∧ (its.length < lenLine ∧ (isView (.view k) = true → X) ∧ (isView (.view k) = false → Y)) ∧ P its :=
  ⟨_, it_view h hv, ⟨by rw [List.length_map]; exact hl, fun _ => x, (fun h => nomatch h)⟩, p⟩

theorem nums_inj : ∀ {R : List Row}, (nums R).Nodup → ∀ {a b : Row}, a ∈ R → b ∈ R → a.num = b.num → a = b
  | [], _, _, _, h, _, _ => by cases h
  | x :: R, nd, a, b, ha, hb, e => by
    have n' : x.num ∉ nums R ∧ (nums R).Nodup := List.nodup_cons.mp nd
    rcases List.mem_cons.mp ha with ha' | ha' <;> rcases List.mem_cons.mp hb with hb' | hb'
    · rw [ha', hb']
    · exact absurd (show x.num ∈ nums R from by rw [← ha', e]; exact List.mem_map_of_mem hb') n'.1
    · exact absurd (show x.num ∈ nums R from by rw [← hb', ← e]; exact List.mem_map_of_mem ha') n'.1
    · exact nums_inj n'.2 ha' hb' e
theorem mem_nums {R : List Row} {k : Int} : k ∈ nums R ↔ ∃ r ∈ R, r.num = k := by simp [nums]
theorem minL_none {l : List Int} (h : minL l = none) : l = [] := by cases l with | nil => rfl | cons _ _ => cases h
theorem maxL_none {l : List Int} (h : maxL l = none) : l = [] := by cases l with | nil => rfl | cons _ _ => cases h

theorem ac_is_oi {H : AH} {o : Option Int} : acmp H .Is (oi o) .none = some o.isNone := by cases o <;> rfl
theorem ac_isnot_oi {H : AH} {o : Option Int} : acmp H .IsNot (oi o) .none = some o.isSome := by cases o <;> rfl

theorem ac_eq_dict {H : AH} {k j : Nat} {v : Bool} {es : List (Int × AV)} (h : H[k]? = some (dO v es)) (hv : v = true → es = []) (hj : H[j]? = some .dictE) (hne : k ≠ j) : acmp H .Eq (.ref k) (.ref j) = some es.isEmpty := by
  cases v with
  | true =>
    have h : H[k]? = some .dictE := h
    have e1 : toPD H (.ref k) = none := by show listPD H (.ref k) = _; delta listPD; dsimp only; rw [h]
    rw [hv rfl]
    show aeq H (.ref k) (.ref j) = _
    delta aeq
    rw [e1]
    show dictEq H (.ref k) (.ref j) = _
    delta dictEq; dsimp only
    rw [h, hj]
    exact it hne rfl
  | false =>
    have h : H[k]? = some (.dictI es) := h
    have e1 : toPD H (.ref k) = none := by show listPD H (.ref k) = _; delta listPD; dsimp only; rw [h]
    show aeq H (.ref k) (.ref j) = _
    delta aeq
    rw [e1]
    show dictEq H (.ref k) (.ref j) = _
    delta dictEq; dsimp only
    rw [h, hj]
    exact it hne rfl
theorem rowsE_vals {R : List Row} : (rowsE R).map (·.2) = R.map fun r => AV.tup [.int r.time, .int r.size] := by simp [rowsE]
theorem sentE_vals {R : List Row} : (sentE R).map (·.2) = R.map fun r => AV.tup [.int r.time, .int r.size, .bool true, .bool true] := by simp [sentE]
theorem lt_of_get {H : AH} {k : Nat} {o : AObj} (h : H[k]? = some o) : k < H.length := (List.getElem?_eq_some_iff.mp h).1

section
variable {n : Nat} {H : AH} {k : Nat} {Q : AV → AH → Prop}
theorem kg1_none {α : Type} {x y : Str} {v : α} (h : x ≠ y) : kget [(x, v)] y = none := ie h rfl
theorem me_getS {x : Str} (h : Hob H k fun o => ∃ es, o = .dictS es ∧ Kob es x fun v => Q v H) : Me (n + 1) (.dct k) "get" [.str x] H Q := by
  obtain ⟨o, e, es, rfl, v, e2, q⟩ := h
  exact me_get ⟨_, e, _, rfl, by rw [e2]; exact q⟩
theorem me_getN {x : Str} (h : Hob H k fun o => ∃ es, o = .dictS es ∧ kget es x = none ∧ Q .none H) : Me (n + 1) (.dct k) "get" [.str x] H Q := by
  obtain ⟨o, e, es, rfl, e2, q⟩ := h
  exact me_get ⟨_, e, _, rfl, by rw [e2]; exact q⟩
theorem si_e {x : Str} {v : AV} {R : AH → Prop} (h : Hob H k fun o => o = .dictE ∧ R (H.set k (.dictS [(x, v)]))) : ∃ H2, asetitem H (.ref k) (.str x) v = some H2 ∧ R H2 := by
  obtain ⟨o, e, rfl, q⟩ := h
  exact ⟨_, by exact bd (rfl : refOfV (AV.ref k) = some k) (bd e (mp (rfl : asetO .dictE (.str x) v = some (.dictS [(x, v)])))), q⟩
/-- a turn's end, in a loop that is gone through item by item -/
noncomputable def Nx (f : AFlow) (P : Prop) : Prop := (f = .next ∨ f = .cont) ∧ P
theorem nx_next {P : Prop} (p : P) : Nx .next P := ⟨.inl rfl, p⟩
theorem nx_cont {P : Prop} (p : P) : Nx .cont P := ⟨.inr rfl, p⟩
theorem fo_nil {guard : AH → Bool} {sc : Sc} {loc : Loc} {x : Str} {body : List Stmt} {Q : AFlow → Loc → AH → Prop} (hg : guard H = true) (q : Q .next loc H) : Fo guard n sc x body [] loc H Q :=
  ⟨.next, loc, H, it hg rfl, q⟩
theorem fo_cons {guard : AH → Bool} {sc : Sc} {loc : Loc} {x : Str} {body : List Stmt} {a : AV} {r : List AV} {Q : AFlow → Loc → AH → Prop} (hg : guard H = true)
    (h : Xs n sc (kput loc x a) body H fun f l H' => Nx f (Fo guard n sc x body r l H' Q)) : Fo guard n sc x body (a :: r) loc H Q := by
  obtain ⟨f, l, H1, e1, hf, f', l', H2, e2, q⟩ := h
  refine ⟨f', l', H2, ?_, q⟩
  rcases hf with rfl | rfl <;> exact it hg (bd e1 e2)
theorem acs_app : acmp H .Eq (.str "application") (.str "application") = some true := by kernel_rfl
end

theorem kg1_noneb {α : Type} {x y : Str} {v : α} (h : decide (x = y) = false) : kget [(x, v)] y = none := kg1_none (of_decide_eq_false h)


/-- which rows are lost, which are waited for -/
noncomputable def lostP (top : Option Int) (now delay : Int) (r : Row) : Bool := match top with
  | none => false
  | some t => decide (r.num ≤ t) && (decide (r.num + 3 ≤ t) || decide (r.time + delay ≤ now))
noncomputable def leftP (top : Option Int) (now delay : Int) (r : Row) : Bool := match top with
  | none => false
  | some t => decide (r.num ≤ t) && !(decide (r.num + 3 ≤ t) || decide (r.time + delay ≤ now))
noncomputable def lostR (top : Option Int) (now delay : Int) (R : List Row) : List Row := R.filter (lostP top now delay)
noncomputable def laterO (top : Option Int) (now delay : Int) (R : List Row) : Option Int := minL ((R.filter (leftP top now delay)).map fun r => r.time + delay)
theorem minL_snoc (l : List Int) (x : Int) : minL (l ++ [x]) = some (match minL l with | none => x | some m => if x < m then x else m) := by
  cases l with
  | nil => rfl
  | cons a l => simp [minL, List.foldl_append]
theorem maxL_snoc (l : List Int) (x : Int) : maxL (l ++ [x]) = some (match maxL l with | none => x | some m => if m < x then x else m) := by
  cases l with
  | nil => rfl
  | cons a l => simp [maxL, List.foldl_append]
theorem lostR_length {top : Option Int} {now delay : Int} {R : List Row} : (lostR top now delay R).length ≤ R.length := List.length_filter_le _ _

theorem lostR_snoc {top : Option Int} {now delay : Int} {R : List Row} {x : Row} : lostR top now delay (R ++ [x]) = lostR top now delay R ++ (if lostP top now delay x = true then [x] else []) := by
  unfold lostR
  rw [List.filter_append]
  by_cases h : lostP top now delay x = true <;> simp [h]
theorem laterO_snoc {top : Option Int} {now delay : Int} {R : List Row} {x : Row} : laterO top now delay (R ++ [x]) =
    if leftP top now delay x = true then some (match laterO top now delay R with | none => x.time + delay | some m => if x.time + delay < m then x.time + delay else m) else laterO top now delay R := by
  unfold laterO
  rw [List.filter_append]
  by_cases h : leftP top now delay x = true
  · rw [if_pos h, List.filter_cons_of_pos h, List.filter_nil, List.map_append, List.map_cons, List.map_nil, minL_snoc]
  · rw [if_neg h, List.filter_cons_of_neg h, List.filter_nil, List.append_nil]

section
variable {n : Nat} {H : AH} {B : Int} {k : Nat} {R : List Row} {v : Bool} {Q : AV → AH → Prop}
theorem detect_lost_spec {top : Option Int} {now delay : Int} (hk : H[k]? = some (dO v (sentE R))) (hv : v = true → sentE R = []) (hl : R.length < 64) (hr : rising (nums R) = true)
    (q : Q (.tup [.ref H.length, oi (laterO top now delay R)]) (H ++ [.list (iL (nums (lostR top now delay R)))])) : Cl (n + 40) (fdef 12) [.ref k, oi top, .int now, .int delay] H Q := by
  ((refine cl_intro (fd := ⟨_, _, _, _⟩) rfl rfl ?_); dsimp only [List.map, List.zip, List.zipWith])
  focus (refine xs_assign (by kernel_rfl) ?_; refine ev_tup ?_; refine evs_cons rfl ?_; refine ev_list ?_; refine evs_nil ?_; refine and_len (Nat.le_of_ble_eq_true rfl) ?_; refine evs_cons rfl ?_; refine ev_non ?_; refine evs_nil ?_; refine and_len (Nat.le_of_ble_eq_true rfl) ?_; refine as_tup rfl ?_; refine ass_cons rfl ?_; refine as_nameb (by kernel_rfl) ?_; refine ass_cons rfl ?_; refine as_nameb (by kernel_rfl) ?_; refine ass_nil ?_; refine next_cons ?_; refine ex_for ⟨by kernel_rfl, rfl⟩ ?_; refine' ev_callA (Nat.le_of_ble_eq_true rfl) (by kernel_rfl) (ar_cons rfl (pu_loc (by kernel_rfl) (kgp_neb (by kernel_rfl) (kgp_neb (by kernel_rfl) kg_head))) ar_nil) ?_; rotate_left)
  refine cn_bi nb_sorted (ab_sorted (get_old hk) hv (by rw [sentE_length]; exact hl) (by rw [sentE_keys]; exact hr)) ?_
  rw [sentE_keys]
  refine ⟨_, rfl, rfl, by (simp only [nums]; (show _ < 100000; (try simp only [List.length_append, List.length_map, List.length_cons, List.length_nil, iL_length, nums_length, rowsE_length, sentE_length]); omega)), ?_⟩
  have nd := (rising_nodup hr).1
  refine fo_inv (fun rem loc H' => ∃ pre suf, R = pre ++ suf ∧ rem = iL (nums suf) ∧ H' = H ++ [.list (iL (nums (lostR top now delay pre)))] ∧ kget loc "sent" = some (.ref k) ∧ kget loc "largest" = some (oi top) ∧ kget loc "now" = some (.int now) ∧
      kget loc "delay" = some (.int delay) ∧ kget loc "lost" = some (.ref H.length) ∧ kget loc "later" = some (oi (laterO top now delay pre))) ?_ ?_ ?_ ?_
  · exact ⟨[], R, rfl, rfl, rfl, by focus (exact kgp_neb (by kernel_rfl) (by exact kgp_neb (by kernel_rfl) (by exact kg_head))), by focus (exact kgp_neb (by kernel_rfl) (by exact kgp_neb (by kernel_rfl) (by exact kg_tailb (by kernel_rfl) (by exact kg_head)))), by focus (exact kgp_neb (by kernel_rfl) (by exact kgp_neb (by kernel_rfl) (by exact kg_tailb (by kernel_rfl) (by exact kg_tailb (by kernel_rfl) (by exact kg_head))))), by focus (exact kgp_neb (by kernel_rfl) (by exact kgp_neb (by kernel_rfl) (by exact kg_tailb (by kernel_rfl) (by exact kg_tailb (by kernel_rfl) (by exact kg_tailb (by kernel_rfl) (by exact kg_head)))))), by focus (exact kgp_neb (by kernel_rfl) (by exact kgp_same)), by rw [show laterO top now delay [] = none from rfl]; focus (exact kgp_same)⟩
  · intro r loc H' _; exact rfl
  · rintro a r loc H' ⟨pre, suf, e1, e2, rfl, h1, h2, h3, h4, h5, h6⟩
    cases suf with
    | nil => cases e2
    | cons x suf =>
      simp only [iL, nums, List.map_cons, List.cons.injEq] at e2
      obtain ⟨rfl, rfl⟩ := e2
      have hm : x ∈ R := by rw [e1]; simp
      have hvf : v = false := dO_false hv (by intro e; have := congrArg List.length e; rw [sentE_length, e1] at this; simp at this)
      subst hvf
      have hx := kget_sentE nd hm
      have hk' : (H ++ [AObj.list (iL (nums (lostR top now delay pre)))])[k]? = some (.dictI (sentE R)) := get_old hk
      have hle : (lostR top now delay pre).length ≤ pre.length := lostR_length
      have hpl : pre.length ≤ R.length := by rw [e1]; simp
      have done : ∀ {f : AFlow} {loc' : Loc} {H' : AH}, (f = .next ∨ f = .cont) → kget loc' "sent" = some (.ref k) → kget loc' "largest" = some (oi top) → kget loc' "now" = some (.int now) → kget loc' "delay" = some (.int delay) → kget loc' "lost" = some (.ref H.length) →
          kget loc' "later" = some (oi (laterO top now delay (pre ++ [x]))) → H' = H ++ [.list (iL (nums (lostR top now delay (pre ++ [x]))))] →
          ((f = .next ∨ f = .cont) ∧ ∃ pre suf_1, R = pre ++ suf_1 ∧ List.map AV.int (List.map (fun x => x.num) suf) = iL (nums suf_1) ∧ H' = H ++ [.list (iL (nums (lostR top now delay pre)))] ∧ kget loc' "sent" = some (.ref k) ∧ kget loc' "largest" = some (oi top) ∧ kget loc' "now" = some (.int now) ∧
            kget loc' "delay" = some (.int delay) ∧ kget loc' "lost" = some (.ref H.length) ∧ kget loc' "later" = some (oi (laterO top now delay pre))) :=
        fun a b c d e f g h => ⟨a, pre ++ [x], suf, by rw [e1, List.append_assoc]; rfl, rfl, h, b, c, d, e, f, g⟩
      rw [lostR_snoc, laterO_snoc] at done
      cases top with
      | none =>
        focus (refine xs_cons ?_; refine ex_if ?_; refine te_all ?_; refine al_or ?_; refine' te_cmpp rfl (pu_loc (by kernel_rfl) (kgp_neb (by kernel_rfl) (by assumption))) pu_non ac_isn ?_; refine split_t2 ?_; refine split_t ?_; refine xs_cons ?_; refine ex_cont ?_; refine then_cont ?_; refine then_cont ?_; rotate_left)
        refine done (.inr rfl) ?_ ?_ ?_ ?_ ?_ ?_ ?_
        iterate 6 (focus (exact kgp_neb (by kernel_rfl) (by assumption)))
        simp [lostP]
      | some t =>
        generalize laterO (some t) now delay pre = L at h6 done
        focus (refine xs_cons ?_; refine ex_if ?_; refine te_all ?_; refine al_or ?_; refine' te_cmpp rfl (pu_loc (by kernel_rfl) (kgp_neb (by kernel_rfl) (by assumption))) pu_non ac_isi ?_; refine split_f2 ?_; refine al_or ?_; refine' te_cmpp rfl (pu_loc (by kernel_rfl) kgp_same) (pu_loc (by kernel_rfl) (kgp_neb (by kernel_rfl) (by assumption))) ac_gt ?_; refine split_x2 (fun _ => ?_) (fun _ => ?_); refine al_or_nil ?_; refine split_f ?_; refine xs_nil ?_; refine' next_letp (by kernel_rfl) (by kernel_rfl) (pu_sub rfl (pu_sub rfl (pu_loc (by kernel_rfl) (kgp_neb (by kernel_rfl) (by assumption))) (pu_loc (by kernel_rfl) kgp_same) (gid (by assumption) (by assumption))) pu_int (by exact git rfl rfl)) ?_; refine next_cons ?_; refine ex_if ?_; refine te_call ?_; refine' ev_callA (Nat.le_of_ble_eq_true rfl) (by kernel_rfl) (ar_cons rfl (pu_loc (by kernel_rfl) (kgp_neb (by kernel_rfl) kgp_same)) (ar_cons rfl (pu_loc (by kernel_rfl) kgp_same) (ar_cons rfl (pu_loc (by kernel_rfl) (kgp_neb (by kernel_rfl) (kgp_neb (by kernel_rfl) (by assumption)))) (ar_cons rfl (pu_loc (by kernel_rfl) (kgp_neb (by kernel_rfl) (kgp_neb (by kernel_rfl) (by assumption)))) (ar_cons rfl (pu_loc (by kernel_rfl) (kgp_neb (by kernel_rfl) (kgp_neb (by kernel_rfl) (by assumption)))) ar_nil))))) ?_; refine cn_user fi3 ?_; rotate_left; refine split_t ?_; refine xs_cons ?_; refine ex_cont ?_; refine then_cont ?_; refine then_cont ?_; rotate_left)
        · rename_i h7
          simp only [decide_eq_false_iff_not, Int.not_lt] at h7
          refine is_lost_spec ?_
          by_cases hp : (decide (x.num + 3 ≤ t) || decide (x.time + delay ≤ now)) = true
          · rw [hp]
            have hl1 : lostP (some t) now delay x = true := by unfold lostP; simp only [hp, Bool.and_true, decide_eq_true_eq]; exact h7
            have hl2 : leftP (some t) now delay x = false := by unfold leftP; simp only [hp, Bool.not_true, Bool.and_false]
            simp only [hl1, hl2, if_true, Bool.false_eq_true, if_false] at done
            focus (refine ⟨_, rfl, ?_, ?_⟩; refine clr ?_; refine xs_cons ?_; refine ex_expr ?_; refine ev_meth ⟨Nat.le_of_ble_eq_true rfl, rfl, rfl⟩ ?_; refine' ev_locv (by kernel_rfl) (kgp_neb (by kernel_rfl) (kgp_neb (by kernel_rfl) (by assumption))) ?_; refine mg_l (.inl rfl) ?_; refine hob_snoc ?_; refine ⟨_, rfl, ?_⟩; refine' evs_loc (by kernel_rfl) (kgp_neb (by kernel_rfl) kgp_same) ?_; refine evs_nil ?_; refine me_append ?_; refine hob_snoc ?_; refine ⟨_, rfl, (by (show _ < 100000; (try simp only [List.length_append, List.length_map, List.length_cons, List.length_nil, iL_length, nums_length, rowsE_length, sentE_length]); omega)), ?_⟩; refine then_next ?_; refine xs_nil ?_; refine then_next ?_; refine xs_nil ?_; rotate_left; exact imp_tf)
            refine done (.inl rfl) ?_ ?_ ?_ ?_ ?_ ?_ ?_
            iterate 6 (focus (exact kgp_neb (by kernel_rfl) (by exact kgp_neb (by kernel_rfl) (by assumption))))
            rw [set_snoc]
            simp [iL, nums]
          · rw [Bool.not_eq_true] at hp
            rw [hp]
            have hl1 : lostP (some t) now delay x = false := by unfold lostP; simp only [hp, Bool.and_false]
            have hl2 : leftP (some t) now delay x = true := by unfold leftP; simp only [hp, Bool.not_false, Bool.and_true, decide_eq_true_eq]; exact h7
            simp only [hl1, hl2, if_true, Bool.false_eq_true, if_false, List.append_nil] at done
            cases L with
            | none =>
              focus (refine ⟨_, rfl, ?_, ?_⟩; exact imp_ft; refine clr ?_; refine xs_cons ?_; refine ex_if ?_; refine te_all ?_; refine al_or ?_; refine' te_cmpp rfl (pu_loc (by kernel_rfl) (kgp_neb (by kernel_rfl) (kgp_neb (by kernel_rfl) (by assumption)))) pu_non ac_isn ?_; refine split_t2 ?_; refine split_t ?_; refine' xs_letp (by kernel_rfl) (by kernel_rfl) (pu_bin (pu_loc (by kernel_rfl) kgp_same) (pu_loc (by kernel_rfl) (kgp_neb (by kernel_rfl) (kgp_neb (by kernel_rfl) (by assumption)))) abin_add) ?_; refine then_next ?_; refine xs_nil ?_; refine then_next ?_; refine xs_nil ?_; refine then_next ?_; refine xs_nil ?_; rotate_left)
              refine done (.inl rfl) ?_ ?_ ?_ ?_ ?_ ?_ rfl
              iterate 6 (focus (first | (exact kgp_neb (by kernel_rfl) (by exact kgp_neb (by kernel_rfl) (by exact kgp_neb (by kernel_rfl) (by assumption)))) | (exact kgp_same)))
            | some m =>
              focus (refine ⟨_, rfl, ?_, ?_⟩; exact imp_ft; refine clr ?_; refine xs_cons ?_; refine ex_if ?_; refine te_all ?_; refine al_or ?_; refine' te_cmpp rfl (pu_loc (by kernel_rfl) (kgp_neb (by kernel_rfl) (kgp_neb (by kernel_rfl) (by assumption)))) pu_non ac_isi ?_; refine split_f2 ?_; refine al_or ?_; refine' te_cmpp rfl (pu_bin (pu_loc (by kernel_rfl) kgp_same) (pu_loc (by kernel_rfl) (kgp_neb (by kernel_rfl) (kgp_neb (by kernel_rfl) (by assumption)))) abin_add) (pu_loc (by kernel_rfl) (kgp_neb (by kernel_rfl) (kgp_neb (by kernel_rfl) (by assumption)))) ac_lt ?_; refine split_x2 (fun _ => ?_) (fun _ => ?_); refine al_or_nil ?_; refine split_f ?_; refine xs_nil ?_; refine then_next ?_; refine xs_nil ?_; refine then_next ?_; refine xs_nil ?_; rotate_left; refine split_t ?_; refine' xs_letp (by kernel_rfl) (by kernel_rfl) (pu_bin (pu_loc (by kernel_rfl) kgp_same) (pu_loc (by kernel_rfl) (kgp_neb (by kernel_rfl) (kgp_neb (by kernel_rfl) (by assumption)))) abin_add) ?_; refine then_next ?_; refine xs_nil ?_; refine then_next ?_; refine xs_nil ?_; refine then_next ?_; refine xs_nil ?_; rotate_left)
              · rename_i h8
                simp only [decide_eq_false_iff_not] at h8
                simp only [if_neg h8] at done
                refine done (.inl rfl) ?_ ?_ ?_ ?_ ?_ ?_ rfl
                iterate 6 (focus (exact kgp_neb (by kernel_rfl) (by exact kgp_neb (by kernel_rfl) (by assumption))))
              · rename_i h8
                simp only [decide_eq_true_eq] at h8
                simp only [if_pos h8] at done
                refine done (.inl rfl) ?_ ?_ ?_ ?_ ?_ ?_ rfl
                iterate 6 (focus (first | (exact kgp_neb (by kernel_rfl) (by exact kgp_neb (by kernel_rfl) (by exact kgp_neb (by kernel_rfl) (by assumption)))) | (exact kgp_same)))
        · rename_i h7
          simp only [decide_eq_true_eq] at h7
          have hl1 : lostP (some t) now delay x = false := by unfold lostP; simp only [Bool.and_eq_false_imp, decide_eq_true_eq]; omega
          have hl2 : leftP (some t) now delay x = false := by unfold leftP; simp only [Bool.and_eq_false_imp, decide_eq_true_eq]; omega
          simp only [hl1, hl2, Bool.false_eq_true, if_false, List.append_nil] at done
          refine done (.inr rfl) ?_ ?_ ?_ ?_ ?_ ?_ rfl
          iterate 6 (focus (exact kgp_neb (by kernel_rfl) (by assumption)))
  · rintro loc H' ⟨pre, suf, e1, e2, rfl, h1, h2, h3, h4, h5, h6⟩
    have : suf = [] := by cases suf with | nil => rfl | cons _ _ => cases e2
    subst this
    rw [List.append_nil] at e1
    subst e1
    focus (refine next_cons ?_; refine' ret_pu (pu_tup (ar_cons rfl (pu_loc (by kernel_rfl) (by assumption)) (ar_cons rfl (pu_loc (by kernel_rfl) (by assumption)) ar_nil)) (by exact (Nat.le_of_ble_eq_true rfl))) ?_; rotate_left)
    exact q

end

section
variable {n : Nat} {H : AH} {B : Int} {k : Nat} {R : List Row} {v : Bool} {Q : AV → AH → Prop}
theorem flight_size_spec {S : List Row} {j : Nat} (hk : H[k]? = some (.dictI (sentE R))) (hj : H[j]? = some (.list (iL (nums S)))) (hl : S.length < 64) (nd : (nums R).Nodup) (hS : ∀ r ∈ S, r ∈ R)
    (q : Q (.int (sizes S)) H) : Cl (n + 30) (fdef 14) [.ref k, .ref j] H Q := by
  ((refine cl_intro (fd := ⟨_, _, _, _⟩) rfl rfl ?_); dsimp only [List.map, List.zip, List.zipWith])
  focus (refine xs_cons ?_; refine ex_ret ?_; refine ev_call (Nat.le_of_ble_eq_true rfl) (by kernel_rfl) ?_; refine evs_cons rfl ?_; refine ev_comp (by kernel_rfl) ?_; refine' ev_locv (by kernel_rfl) (kg_tailb (by kernel_rfl) kg_head) ?_; rotate_left)
  refine ⟨_, it_list hj, ⟨by (show _ < 100000; (try simp only [List.length_append, List.length_map, List.length_cons, List.length_nil, iL_length, nums_length, rowsE_length, sentE_length]); omega), (fun h => nomatch h), fun _ => rfl⟩, ?_⟩
  rw [iL_nums]
  refine co_map (fun r => some (.int r.size)) (by rw [← iL_nums]; exact aguard_self (it_list hj)) ?_ ?_
  · intro r hr
    have hx := kget_sentE nd (hS r hr)
    focus (refine on_name ?_; refine one_if ?_; refine te_sub ?_; refine' ev_pu (pu_sub rfl (pu_sub rfl (pu_loc (by kernel_rfl) (kgp_neb (by kernel_rfl) (kget_locFree (by kernel_rfl) kg_head))) (pu_loc (by kernel_rfl) kgp_same) (gid (by assumption) (by assumption))) pu_int (by exact git rfl rfl)) ?_; refine ⟨_, rfl, ?_, ?_⟩; refine clr ?_; refine' ev_pu (pu_sub rfl (pu_sub rfl (pu_loc (by kernel_rfl) (kgp_neb (by kernel_rfl) (kget_locFree (by kernel_rfl) kg_head))) (pu_loc (by kernel_rfl) kgp_same) (gid (by assumption) (by assumption))) pu_int (by exact git rfl rfl)) ?_; rotate_left; exact imp_tf)
    exact ⟨rfl, rfl⟩
  · rw [filterMap_all, map_iL]
    focus (refine evs_nil ?_; rotate_left)
    refine cn_bi nb_sum (ab_sum (by rw [iL_length, List.length_map]; omega) (intsOf_iL _)) ?_
    focus (refine then_ret ?_; rotate_left)
    exact q
theorem newest_time_spec {S : List Row} {j : Nat} (hk : H[k]? = some (.dictI (sentE R))) (hj : H[j]? = some (.list (iL (nums S)))) (hl : S.length < 64) (nd : (nums R).Nodup) (hS : ∀ r ∈ S, r ∈ R)
    (q : Q (oi (maxL (S.map (·.time)))) H) : Cl (n + 30) (fdef 13) [.ref k, .ref j] H Q := by
  ((refine cl_intro (fd := ⟨_, _, _, _⟩) rfl rfl ?_); dsimp only [List.map, List.zip, List.zipWith])
  focus (refine' xs_letp (by kernel_rfl) (by kernel_rfl) pu_non ?_; refine next_cons ?_; refine ex_for ⟨by kernel_rfl, rfl⟩ ?_; refine' ev_locv (by kernel_rfl) (kgp_neb (by kernel_rfl) (kg_tailb (by kernel_rfl) kg_head)) ?_; rotate_left)
  refine ⟨_, it_list hj, rfl, by (show _ < 100000; (try simp only [List.length_append, List.length_map, List.length_cons, List.length_nil, iL_length, nums_length, rowsE_length, sentE_length]); omega), ?_⟩
  rw [iL_nums]
  refine fo_map (fun pre loc H' => H' = H ∧ kget loc "sent" = some (.ref k) ∧ kget loc "found" = some (oi (maxL (pre.map (·.time))))) ?_ ?_ ?_ ?_
  · exact ⟨rfl, by focus (exact kgp_neb (by kernel_rfl) (by exact kg_head)), by rw [show maxL (List.map (fun r : Row => r.time) []) = none from rfl]; focus (exact kgp_same)⟩
  · rintro pre loc H' ⟨rfl, _⟩
    rw [← iL_nums]; exact aguard_self (it_list hj)
  · rintro pre r suf loc H' e ⟨rfl, h1, h2⟩
    have hr : r ∈ S := by rw [e]; simp
    have hx := kget_sentE nd (hS r hr)
    rw [List.map_append, List.map_cons, List.map_nil, maxL_snoc]
    generalize maxL (pre.map (·.time)) = L at h2 ⊢
    cases L with
    | none =>
      focus (refine xs_cons ?_; refine ex_if ?_; refine te_all ?_; refine al_and ?_; refine te_sub ?_; refine' ev_pu (pu_sub rfl (pu_sub rfl (pu_loc (by kernel_rfl) (kgp_neb (by kernel_rfl) (by assumption))) (pu_loc (by kernel_rfl) kgp_same) (gid (by assumption) (by assumption))) pu_int (by exact git rfl rfl)) ?_; refine ⟨_, rfl, ?_, ?_⟩; refine clr ?_; refine al_and ?_; refine te_all ?_; refine al_or ?_; refine' te_cmpp rfl (pu_loc (by kernel_rfl) (kgp_neb (by kernel_rfl) (by assumption))) pu_non ac_isn ?_; refine split_t2 ?_; refine split_t ?_; refine al_and_nil ?_; refine split_t ?_; refine' xs_letp (by kernel_rfl) (by kernel_rfl) (pu_sub rfl (pu_sub rfl (pu_loc (by kernel_rfl) (kgp_neb (by kernel_rfl) (by assumption))) (pu_loc (by kernel_rfl) kgp_same) (gid (by assumption) (by assumption))) pu_int (by exact git rfl rfl)) ?_; refine then_next ?_; refine xs_nil ?_; refine then_next ?_; refine xs_nil ?_; rotate_left; exact imp_tf)
      exact ⟨.inl rfl, rfl, by focus (exact kgp_neb (by kernel_rfl) (by exact kgp_neb (by kernel_rfl) (by assumption))), by focus (exact kgp_same)⟩
    | some m =>
      focus (refine xs_cons ?_; refine ex_if ?_; refine te_all ?_; refine al_and ?_; refine te_sub ?_; refine' ev_pu (pu_sub rfl (pu_sub rfl (pu_loc (by kernel_rfl) (kgp_neb (by kernel_rfl) (by assumption))) (pu_loc (by kernel_rfl) kgp_same) (gid (by assumption) (by assumption))) pu_int (by exact git rfl rfl)) ?_; refine ⟨_, rfl, ?_, ?_⟩; refine clr ?_; refine al_and ?_; refine te_all ?_; refine al_or ?_; refine' te_cmpp rfl (pu_loc (by kernel_rfl) (kgp_neb (by kernel_rfl) (by assumption))) pu_non ac_isi ?_; refine split_f2 ?_; refine al_or ?_; refine' te_cmpp rfl (pu_sub rfl (pu_sub rfl (pu_loc (by kernel_rfl) (kgp_neb (by kernel_rfl) (by assumption))) (pu_loc (by kernel_rfl) kgp_same) (gid (by assumption) (by assumption))) pu_int (by exact git rfl rfl)) (pu_loc (by kernel_rfl) (kgp_neb (by kernel_rfl) (by assumption))) ac_gt ?_; refine split_x2 (fun _ => ?_) (fun _ => ?_); refine al_or_nil ?_; refine split_f ?_; refine split_f ?_; refine xs_nil ?_; refine then_next ?_; refine xs_nil ?_; rotate_left; refine split_t ?_; refine al_and_nil ?_; refine split_t ?_; refine' xs_letp (by kernel_rfl) (by kernel_rfl) (pu_sub rfl (pu_sub rfl (pu_loc (by kernel_rfl) (kgp_neb (by kernel_rfl) (by assumption))) (pu_loc (by kernel_rfl) kgp_same) (gid (by assumption) (by assumption))) pu_int (by exact git rfl rfl)) ?_; refine then_next ?_; refine xs_nil ?_; refine then_next ?_; refine xs_nil ?_; rotate_left; exact imp_tf)
      · rename_i h8
        simp only [decide_eq_false_iff_not] at h8
        refine ⟨.inl rfl, rfl, by focus (exact kgp_neb (by kernel_rfl) (by assumption)), ?_⟩
        simp only [if_neg h8]
        focus (exact kgp_neb (by kernel_rfl) (by assumption))
      · rename_i h8
        simp only [decide_eq_true_eq] at h8
        refine ⟨.inl rfl, rfl, by focus (exact kgp_neb (by kernel_rfl) (by exact kgp_neb (by kernel_rfl) (by assumption))), ?_⟩
        simp only [if_pos h8]
        focus (exact kgp_same)
  · rintro loc H' ⟨rfl, h1, h2⟩
    focus (refine next_cons ?_; refine' ret_pu (pu_loc (by kernel_rfl) (by assumption)) ?_; rotate_left)
    exact q

/-- the ledger's reading of what is lost -/
theorem law_missed_spec {l : Led} {now : Int} (h5 : H[5]? = some (.dictS (ledL l))) (h6 : H[6]? = some (dO v (rowsE R))) (hv : v = true → rowsE R = []) (hl : R.length < 64) (hr : rising (nums R) = true)
    (hB : 1000000 ≤ B ∧ 1048576 * B ≤ BIG) (h8 : -(64 * B) ≤ l.eighths ∧ l.eighths ≤ 64 * B) (hla : -B ≤ l.latest ∧ l.latest ≤ B) (htop : ∀ t, l.top = some t → ∀ r ∈ R, r.num ≠ t) {wait : Int} (hw : wait = max (9 * max l.latest (l.eighths / 8) / 8) 1000)
    (q : Q (.tup [.lst (iL (nums (lostR l.top now wait R))), oi (laterO l.top now wait R)]) (H ++ [.list []])) : Cl (n + 40) (fdef 35) [.ref 5, .int now] H Q := by
  have nd := (rising_nodup hr).1
  obtain ⟨nxt, top, least, latest, eighths, fourths, window, thr, met, shares, probes⟩ := l
  dsimp only at h8 hla htop hw q
  dsimp only [ledL] at h5
  ((refine cl_intro (fd := ⟨_, _, _, _⟩) rfl rfl ?_); dsimp only [List.map, List.zip, List.zipWith])
  focus (refine xs_assign (by kernel_rfl) ?_; refine ev_call (Nat.le_of_ble_eq_true rfl) (by kernel_rfl) ?_; refine evs_cons rfl ?_; refine ev_bin ?_; refine ev_bin ?_; refine ev_int ?_; refine' ev_callA (Nat.le_of_ble_eq_true rfl) (by kernel_rfl) (ar_cons rfl (pu_led (by kernel_rfl) kg_head (by assumption) (by first | exact lg4 | exact rg4 | exact tg4 | exact kg_tailb (by kernel_rfl) (kg_tailb (by kernel_rfl) (kg_tailb (by kernel_rfl) (kg_tailb (by kernel_rfl) kg_head))))) (ar_cons rfl (pu_bin (pu_led (by kernel_rfl) kg_head (by assumption) (by first | exact lg5 | exact rg5 | exact kg_tailb (by kernel_rfl) (kg_tailb (by kernel_rfl) (kg_tailb (by kernel_rfl) (kg_tailb (by kernel_rfl) (kg_tailb (by kernel_rfl) kg_head)))))) pu_int (abin_fdiv (by omega) (fits_of (by omega) (by omega)) (by kernel_rfl))) ar_nil)) ?_; refine cn_bi nb_max ab_max ?_; refine ⟨_, abin_mul ?_ ?_, ?_⟩; exact (by kernel_rfl); exact fits_of (by omega) (by omega); refine ev_int ?_; refine ⟨_, abin_fdiv ?_ ?_ ?_, ?_⟩; omega; exact fits_of (by omega) (by omega); exact (by kernel_rfl); refine evs_int ?_; refine evs_nil ?_; refine cn_bi nb_max ab_max ?_; refine as_nameb (by kernel_rfl) ?_; refine next_assign (by kernel_rfl) ?_; refine ev_comp (by kernel_rfl) ?_; refine' ev_callA (Nat.le_of_ble_eq_true rfl) (by kernel_rfl) (ar_cons rfl (pu_led (by kernel_rfl) (kgp_neb (by kernel_rfl) kg_head) (by assumption) kg_head) ar_nil) ?_; rotate_left)
  rw [← hw]
  focus (rotate_left)
  refine cn_bi nb_sorted (ab_sorted h6 hv (by rw [rowsE_length]; exact hl) (by rw [rowsE_keys]; exact hr)) ?_
  rw [rowsE_keys, iL_nums]
  refine cit_lst (by (show _ < 100000; (try simp only [List.length_append, List.length_map, List.length_cons, List.length_nil, iL_length, nums_length, rowsE_length, sentE_length]); omega)) rfl ?_
  cases top with
  | none =>
    refine co_map (fun _ => none) rfl ?_ ?_
    · intro r hr
      focus (refine on_name ?_; refine one_if ?_; refine te_all ?_; refine al_and ?_; refine' te_cmpp rfl (pu_led (by kernel_rfl) (kgp_neb (by kernel_rfl) (kget_locFree (by kernel_rfl) (kgp_neb (by kernel_rfl) kg_head))) (by assumption) (by first | exact lg2 | exact rg2 | exact tg2 | exact kg_tailb (by kernel_rfl) (kg_tailb (by kernel_rfl) kg_head))) pu_non ac_isnotn ?_; refine split_f ?_; refine split_f ?_; rotate_left)
      exact ⟨rfl, rfl⟩
    rw [show R.filterMap (fun _ : Row => (none : Option AV)) = [] by simp]
    focus (refine as_nameb (by kernel_rfl) ?_; refine next_assign (by kernel_rfl) ?_; refine ev_comp (by kernel_rfl) ?_; refine' ev_locv (by kernel_rfl) kgp_same ?_; refine cit_lst (Nat.le_of_ble_eq_true rfl) rfl ?_; rotate_left)
    refine co_map (α := Row) (S := []) (key := fun r => .int r.num) (fun _ => none) rfl (fun r h => nomatch h) ?_
    focus (refine as_nameb (by kernel_rfl) ?_; refine next_assign (by kernel_rfl) ?_; refine ev_comp (by kernel_rfl) ?_; refine' ev_locv (by kernel_rfl) (kgp_neb (by kernel_rfl) kgp_same) ?_; refine cit_lst (Nat.le_of_ble_eq_true rfl) rfl ?_; rotate_left)
    refine co_map (α := Row) (S := []) (key := fun r => .int r.num) (fun _ => none) rfl (fun r h => nomatch h) ?_
    focus (refine as_nameb (by kernel_rfl) ?_; refine next_cons ?_; refine ex_ret ?_; refine ev_tup ?_; refine' evs_loc (by kernel_rfl) (kgp_neb (by kernel_rfl) kgp_same) ?_; refine evs_cons rfl ?_; refine ev_if ?_; refine' te_cmpl rfl (by kernel_rfl) kgp_same ?_; refine ev_list ?_; refine evs_nil ?_; refine and_len (Nat.le_of_ble_eq_true rfl) ?_; rotate_left)
    refine ⟨_, ac_ne_nil (l := []) get_snoc, ?_⟩
    focus (refine split_cf rfl ?_; refine ev_non ?_; refine evs_nil ?_; refine and_len (Nat.le_of_ble_eq_true rfl) ?_; refine then_ret ?_; rotate_left)
    have e1 : lostR none now wait R = [] := by simp [lostR, lostP]
    have e2 : laterO none now wait R = none := by unfold laterO; rw [show R.filter (leftP none now wait) = [] from by simp [leftP]]; rfl
    rw [e1, e2] at q
    exact q
  | some t =>
    refine co_map (fun r => if decide (r.num < t) = true then some (.int r.num) else none) rfl ?_ ?_
    · intro r hr
      focus (refine on_name ?_; refine one_if ?_; refine te_all ?_; refine al_and ?_; refine' te_cmpp rfl (pu_led (by kernel_rfl) (kgp_neb (by kernel_rfl) (kget_locFree (by kernel_rfl) (kgp_neb (by kernel_rfl) kg_head))) (by assumption) (by first | exact lg2 | exact rg2 | exact tg2 | exact kg_tailb (by kernel_rfl) (kg_tailb (by kernel_rfl) kg_head))) pu_non ac_isnoti ?_; refine split_t ?_; refine al_and ?_; refine' te_cmpp rfl (pu_loc (by kernel_rfl) kgp_same) (pu_led (by kernel_rfl) (kgp_neb (by kernel_rfl) (kget_locFree (by kernel_rfl) (kgp_neb (by kernel_rfl) kg_head))) (by assumption) (by first | exact lg2 | exact rg2 | exact tg2 | exact kg_tailb (by kernel_rfl) (kg_tailb (by kernel_rfl) kg_head))) ac_lt ?_; refine split_x (fun _ => ?_) (fun _ => ?_); refine al_and_nil ?_; refine split_t ?_; refine' ev_locv (by kernel_rfl) kgp_same ?_; rotate_left; refine split_f ?_; rotate_left)
      · rename_i h9
        exact ⟨by rw [if_pos h9], rfl⟩
      · rename_i h9
        exact ⟨by rw [if_neg (by rw [h9]; decide)], rfl⟩
    rw [filterMap_if]
    have hlen : (R.filter fun r => decide (r.num < t)).length ≤ R.length := List.length_filter_le _ _
    have hsub : ∀ r ∈ R.filter (fun r => decide (r.num < t)), r ∈ R := fun r h => (List.mem_filter.mp h).1
    generalize hS1 : R.filter (fun r => decide (r.num < t)) = S1 at hlen hsub
    focus (refine as_nameb (by kernel_rfl) ?_; refine next_assign (by kernel_rfl) ?_; refine ev_comp (by kernel_rfl) ?_; refine' ev_locv (by kernel_rfl) kgp_same ?_; refine cit_lst (by (show _ < 100000; (try simp only [List.length_append, List.length_map, List.length_cons, List.length_nil, iL_length, nums_length, rowsE_length, sentE_length]); omega)) rfl ?_; rotate_left)
    refine co_map (fun r => if (decide (2 < t - r.num) || decide (wait ≤ now - r.time)) = true then some (.int r.num) else none) rfl ?_ ?_
    · intro r hr
      have hr := hsub r hr
      have hx := kget_rowsE nd hr
      have hvf : v = false := dO_false hv (by intro e; have := congrArg List.length e; rw [rowsE_length] at this; have := List.length_pos_of_mem hr; simp_all)
      subst hvf
      have h6' : H[6]? = some (.dictI (rowsE R)) := h6
      focus (refine on_name ?_; refine one_if ?_; refine te_all ?_; refine al_or ?_; refine' te_cmpp rfl (pu_bin (pu_led (by kernel_rfl) (kgp_neb (by kernel_rfl) (kget_locFree (by kernel_rfl) (kgp_neb (by kernel_rfl) (kgp_neb (by kernel_rfl) kg_head)))) (by assumption) (by first | exact lg2 | exact rg2 | exact tg2 | exact kg_tailb (by kernel_rfl) (kg_tailb (by kernel_rfl) kg_head))) (pu_loc (by kernel_rfl) kgp_same) abin_sub) pu_int ac_gt ?_; refine split_x2 (fun _ => ?_) (fun _ => ?_); refine al_or ?_; refine' te_cmpp rfl (pu_bin (pu_loc (by kernel_rfl) (kgp_neb (by kernel_rfl) (kget_locFree (by kernel_rfl) (kgp_neb (by kernel_rfl) (kgp_neb (by kernel_rfl) (kg_tailb (by kernel_rfl) kg_head)))))) (pu_sub rfl (pu_sub rfl (pu_led (by kernel_rfl) (kgp_neb (by kernel_rfl) (kget_locFree (by kernel_rfl) (kgp_neb (by kernel_rfl) (kgp_neb (by kernel_rfl) kg_head)))) (by assumption) kg_head) (pu_loc (by kernel_rfl) kgp_same) (gid (by assumption) (by assumption))) pu_int (by exact git rfl rfl)) abin_sub) (pu_loc (by kernel_rfl) (kgp_neb (by kernel_rfl) (kget_locFree (by kernel_rfl) (kgp_neb (by kernel_rfl) kgp_same)))) ac_ge ?_; refine split_x2 (fun _ => ?_) (fun _ => ?_); refine al_or_nil ?_; refine split_f ?_; rotate_left; refine split_t ?_; refine' ev_locv (by kernel_rfl) kgp_same ?_; rotate_left; refine split_t ?_; refine' ev_locv (by kernel_rfl) kgp_same ?_; rotate_left)
      · rename_i h9 h10
        exact ⟨by simp only [h9, h10, Bool.or_self, Bool.false_eq_true, if_false], rfl⟩
      · rename_i h9 h10
        exact ⟨by simp only [h10, Bool.or_true, if_true], rfl⟩
      · rename_i h9
        exact ⟨by simp only [h9, Bool.true_or, if_true], rfl⟩
    rw [filterMap_if]
    have hlen2 : (S1.filter fun r => (decide (2 < t - r.num) || decide (wait ≤ now - r.time))).length ≤ S1.length := List.length_filter_le _ _
    have hS : ∀ r ∈ S1, decide (r.num ∈ nums (S1.filter fun r => (decide (2 < t - r.num) || decide (wait ≤ now - r.time)))) = (decide (2 < t - r.num) || decide (wait ≤ now - r.time)) := by
      intro r hr
      rw [Bool.eq_iff_iff, decide_eq_true_iff, mem_nums]
      constructor
      · rintro ⟨x, hx, e⟩
        obtain ⟨hx1, hx2⟩ := List.mem_filter.mp hx
        have := nums_inj nd (hsub x hx1) (hsub r hr) e
        subst this
        exact hx2
      · intro h
        exact ⟨r, List.mem_filter.mpr ⟨hr, h⟩, rfl⟩
    generalize hS2 : (S1.filter fun r => (decide (2 < t - r.num) || decide (wait ≤ now - r.time))) = S2 at hlen2 hS
    rw [← iL_nums (S := S2)]
    focus (refine as_nameb (by kernel_rfl) ?_; refine next_assign (by kernel_rfl) ?_; refine ev_comp (by kernel_rfl) ?_; refine' ev_locv (by kernel_rfl) (kgp_neb (by kernel_rfl) kgp_same) ?_; refine cit_lst (by (show _ < 100000; (try simp only [List.length_append, List.length_map, List.length_cons, List.length_nil, iL_length, nums_length, rowsE_length, sentE_length]); omega)) rfl ?_; rotate_left)
    refine co_map (fun r => if (!(decide (2 < t - r.num) || decide (wait ≤ now - r.time))) = true then some (.int (r.time + wait)) else none) rfl ?_ ?_
    · intro r hr
      have hm := hS r hr
      have hr := hsub r hr
      have hx := kget_rowsE nd hr
      have hvf : v = false := dO_false hv (by intro e; have := congrArg List.length e; rw [rowsE_length] at this; have := List.length_pos_of_mem hr; simp_all)
      subst hvf
      have h6' : H[6]? = some (.dictI (rowsE R)) := h6
      focus (refine on_name ?_; refine one_if ?_; refine' te_cmpp rfl (pu_loc (by kernel_rfl) kgp_same) (pu_loc (by kernel_rfl) (kgp_neb (by kernel_rfl) (kget_locFree (by kernel_rfl) kgp_same))) ac_notin ?_; refine split_x (fun _ => ?_) (fun _ => ?_); refine' ev_pu (pu_bin (pu_sub rfl (pu_sub rfl (pu_led (by kernel_rfl) (kgp_neb (by kernel_rfl) (kget_locFree (by kernel_rfl) (kgp_neb (by kernel_rfl) (kgp_neb (by kernel_rfl) (kgp_neb (by kernel_rfl) kg_head))))) (by assumption) kg_head) (pu_loc (by kernel_rfl) kgp_same) (gid (by assumption) (by assumption))) pu_int (by exact git rfl rfl)) (pu_loc (by kernel_rfl) (kgp_neb (by kernel_rfl) (kget_locFree (by kernel_rfl) (kgp_neb (by kernel_rfl) (kgp_neb (by kernel_rfl) kgp_same))))) abin_add) ?_; rotate_left; rotate_left)
      · rename_i h9
        rw [hm] at h9
        exact ⟨by rw [if_pos h9], rfl⟩
      · rename_i h9
        rw [hm] at h9
        exact ⟨by rw [if_neg (by rw [h9]; decide)], rfl⟩
    rw [filterMap_if, map_iL (fun r : Row => r.time + wait)]
    have e1 : lostR (some t) now wait R = S2 := by
      rw [← hS2, ← hS1, List.filter_filter]
      unfold lostR lostP
      refine List.filter_congr fun r hr => ?_
      have := htop t rfl r hr
      rw [Bool.eq_iff_iff]
      simp only [Bool.and_eq_true, Bool.or_eq_true, decide_eq_true_eq]
      omega
    have e2 : laterO (some t) now wait R = minL ((S1.filter fun r => !(decide (2 < t - r.num) || decide (wait ≤ now - r.time))).map fun r => r.time + wait) := by
      rw [← hS1, List.filter_filter]
      unfold laterO leftP
      congr 2
      refine List.filter_congr fun r hr => ?_
      have := htop t rfl r hr
      rw [Bool.eq_iff_iff]
      simp only [Bool.and_eq_true, Bool.not_eq_true', Bool.or_eq_false_iff, decide_eq_true_eq, decide_eq_false_iff_not]
      omega
    have hlen3 : ((S1.filter fun r => !(decide (2 < t - r.num) || decide (wait ≤ now - r.time))).map fun r => r.time + wait).length ≤ S1.length := by rw [List.length_map]; exact List.length_filter_le _ _
    rw [e1, e2] at q
    generalize ((S1.filter fun r => !(decide (2 < t - r.num) || decide (wait ≤ now - r.time))).map fun r => r.time + wait) = L at q hlen3
    focus (refine as_nameb (by kernel_rfl) ?_; refine next_cons ?_; refine ex_ret ?_; refine ev_tup ?_; refine' evs_loc (by kernel_rfl) (kgp_neb (by kernel_rfl) kgp_same) ?_; refine evs_cons rfl ?_; refine ev_if ?_; refine' te_cmpl rfl (by kernel_rfl) kgp_same ?_; refine ev_list ?_; refine evs_nil ?_; refine and_len (Nat.le_of_ble_eq_true rfl) ?_; rotate_left)
    refine ⟨_, ac_ne_nil get_snoc, ?_⟩
    focus (refine split_x (fun _ => ?_) (fun _ => ?_); refine' ev_callA (Nat.le_of_ble_eq_true rfl) (by kernel_rfl) (ar_cons rfl (pu_loc (by kernel_rfl) kgp_same) ar_nil) ?_; rotate_left; refine ev_non ?_; refine evs_nil ?_; refine and_len (Nat.le_of_ble_eq_true rfl) ?_; refine then_ret ?_; rotate_left)
    · rename_i h9
      cases hm : minL L with
      | none => rw [minL_none hm] at h9; cases h9
      | some m =>
        rw [hm] at q
        refine cn_bi nb_min (ab_minl (by rw [iL_length]; omega) (intsOf_iL L) hm) ?_
        focus (refine evs_nil ?_; refine and_len (Nat.le_of_ble_eq_true rfl) ?_; refine then_ret ?_; rotate_left)
        exact q
    · rename_i h9
      have : L = [] := by cases L with | nil => rfl | cons _ _ => cases h9
      subst this
      exact q
end

theorem set_self {H : AH} {k : Nat} {o : AObj} (h : H[k]? = some o) : H.set k o = H := by
  obtain ⟨hl, he⟩ := List.getElem?_eq_some_iff.mp h
  rw [← he]; simp
section
variable {n : Nat} {H : AH} {B : Int} {k : Nat} {R : List Row} {v : Bool} {Q : AV → AH → Prop}
theorem law_take_spec {c s w : Int} {xs : List Int} (h1 : H[1]? = some (.list [.ref 0, .int c, .int s])) (h0 : H[0]? = some (.list (iL xs))) (hx : xs.length < 1000) (hc : 0 ≤ c ∧ c ≤ 100000) (hB : 1000000 ≤ BIG) (hw : 0 < w)
    (q : ∀ r xs', 0 ≤ r ∧ r < w → xs'.length ≤ xs.length → Q (.int r) ((H.set 1 (.list [.ref 0, .int (c + 1), .int s])).set 0 (.list (iL xs')))) : Cl (n + 30) (fdef 32) [.ref 1, .int w] H Q := by
  have e0 : (H.set 1 (.list [.ref 0, .int (c + 1), .int s]))[0]? = some (.list (iL xs)) := get_set_ne (by decide) h0
  ((refine cl_intro (fd := ⟨_, _, _, _⟩) rfl rfl ?_); dsimp only [List.map, List.zip, List.zipWith])
  focus (refine xs_assign (by kernel_rfl) ?_; refine ev_bin ?_; refine ev_sub rfl ?_; refine' ev_locv (by kernel_rfl) kg_head ?_; refine ev_int ?_; refine gi_l ?_; refine' hob_of (by assumption) ?_; refine' ⟨_, rfl, _, rfl, _, rfl, ?_⟩; refine ev_int ?_; refine ⟨_, abin_add, ?_⟩; refine as_sub ?_; refine' ev_locv (by kernel_rfl) kg_head ?_; refine ev_int ?_; rotate_left)
  refine si_l (hob_of h1 ⟨_, rfl, by decide, 1, rfl, ?_⟩)
  change Then _ _ _ _ _ _ (H.set 1 (.list [.ref 0, .int (c + 1), .int s]))
  focus (refine next_cons ?_; refine ex_if ?_; refine te_cmp rfl ?_; refine ev_call (Nat.le_of_ble_eq_true rfl) (by kernel_rfl) ?_; refine evs_cons rfl ?_; refine ev_sub rfl ?_; refine' ev_locv (by kernel_rfl) kg_head ?_; refine ev_int ?_; refine gi_l ?_; refine hob_same ?_ ?_; refine' hob_of (by assumption) ?_; exact trivial; refine' ⟨_, rfl, _, rfl, _, rfl, ?_⟩; refine evs_nil ?_; rotate_left)
  refine cn_bi nb_len (ab_len (l := iL xs) (by simp only [asList, e0]) (by rw [iL_length]; omega)) ?_
  focus (refine ev_int ?_; refine ⟨_, ac_gt, ?_⟩; refine split_x (fun _ => ?_) (fun _ => ?_); refine xs_cons ?_; refine ex_ret ?_; refine ev_bin ?_; refine ev_call (Nat.le_of_ble_eq_true rfl) (by kernel_rfl) ?_; refine evs_cons rfl ?_; refine ev_meth ⟨Nat.le_of_ble_eq_true rfl, rfl, rfl⟩ ?_; refine ev_sub rfl ?_; refine' ev_locv (by kernel_rfl) kg_head ?_; refine ev_int ?_; refine gi_l ?_; refine hob_same ?_ ?_; refine' hob_of (by assumption) ?_; exact trivial; refine' ⟨_, rfl, _, rfl, _, rfl, ?_⟩; refine mg_l (.inr rfl) ?_; refine' hob_of (by assumption) ?_; refine ⟨_, rfl, ?_⟩; refine evs_int ?_; refine evs_nil ?_; refine me_pop0 ?_; refine' hob_of (by assumption) ?_; rotate_left; refine xs_nil ?_; refine next_cons ?_; refine ex_ret ?_; refine ev_bin ?_; refine ev_bin ?_; refine ev_bin ?_; refine ev_bin ?_; refine ev_int ?_; refine ev_sub rfl ?_; refine' ev_locv (by kernel_rfl) kg_head ?_; refine ev_int ?_; refine gi_l ?_; refine hob_same ?_ ?_; refine' hob_of (by assumption) ?_; exact trivial; refine' ⟨_, rfl, _, rfl, _, rfl, ?_⟩; refine ⟨_, abin_mul ?_ ?_, ?_⟩; exact (by kernel_rfl); exact fits_of (by omega) (by omega); refine ev_bin ?_; refine ev_sub rfl ?_; refine' ev_locv (by kernel_rfl) kg_head ?_; refine ev_int ?_; refine gi_l ?_; refine hob_same ?_ ?_; refine' hob_of (by assumption) ?_; exact trivial; refine' ⟨_, rfl, _, rfl, _, rfl, ?_⟩; refine ev_int ?_; refine ⟨_, abin_fdiv ?_ ?_ ?_, ?_⟩; omega; exact fits_of (by omega) (by omega); exact (by kernel_rfl); refine ⟨_, abin_add, ?_⟩; refine ev_sub rfl ?_; refine' ev_locv (by kernel_rfl) kg_head ?_; refine ev_int ?_; refine gi_l ?_; refine hob_same ?_ ?_; refine' hob_of (by assumption) ?_; exact trivial; refine' ⟨_, rfl, _, rfl, _, rfl, ?_⟩; refine ⟨_, abin_add, ?_⟩; refine' ev_locv (by kernel_rfl) (kg_tailb (by kernel_rfl) kg_head) ?_; refine ⟨_, abin_mod ?_, ?_⟩; assumption; refine then_ret ?_; rotate_left)
  · rename_i hn
    simp only [iL_length, decide_eq_true_eq] at hn
    cases xs with
    | nil => simp at hn
    | cons x xs =>
      refine ⟨.int x, iL xs, rfl, ?_, ?_⟩
      · show (AV.int x :: iL xs).length < 100000
        simp only [List.length_cons, iL_length] at hx ⊢; omega
      focus (refine evs_nil ?_; refine cn_bi nb_abs ab_abs ?_; refine' ev_locv (by kernel_rfl) (kg_tailb (by kernel_rfl) kg_head) ?_; refine ⟨_, abin_mod ?_, ?_⟩; assumption; refine then_ret ?_; refine then_ret ?_; rotate_left)
      refine q _ xs ⟨Int.emod_nonneg _ (by omega), Int.emod_lt_of_pos _ hw⟩ (by simp)
  · rename_i hn
    simp only [iL_length, decide_eq_false_iff_not] at hn
    have hxs : xs = [] := by cases xs with | nil => rfl | cons _ _ => simp at hn
    subst hxs
    have := q ((7 * (c + 1) + (c + 1) / 3 + s) % w) [] ⟨Int.emod_nonneg _ (by omega), Int.emod_lt_of_pos _ hw⟩ (by simp)
    rw [set_self (by exact e0)] at this
    exact this
theorem law_sampled_first_spec {l : Led} {x w now : Int} (h5 : H[5]? = some (.dictS (ledL l))) (hl : l.least = none) (hB : 1000000 ≤ B ∧ 1048576 * B ≤ BIG) (hx : -B ≤ x ∧ x ≤ B)
    (q : Q .none (H.set 5 (.dictS (ledL { l with least := some x, eighths := 8 * x, fourths := 2 * x, latest := x })))) : Cl (n + 30) (fdef 33) [.ref 5, .int x, .int w, .int now] H Q := by
  obtain ⟨nxt, top, least, latest, eighths, fourths, window, thr, met, shares, probes⟩ := l
  dsimp only at hl
  subst hl
  ((refine cl_intro (fd := ⟨_, _, _, _⟩) rfl rfl ?_); dsimp only [List.map, List.zip, List.zipWith])
  focus (refine xs_cons ?_; refine ex_if ?_; refine' te_cmpp rfl (pu_led (by kernel_rfl) kg_head (by assumption) (by first | exact lg3 | exact rg3 | exact tg3 | exact kg_tailb (by kernel_rfl) (kg_tailb (by kernel_rfl) (kg_tailb (by kernel_rfl) kg_head)))) pu_non ac_isn ?_; refine split_t ?_; refine xs_assign (by kernel_rfl) ?_; refine' ev_pu (pu_tup (ar_cons rfl (pu_loc (by kernel_rfl) (kg_tailb (by kernel_rfl) kg_head)) (ar_cons rfl (pu_bin pu_int (pu_loc (by kernel_rfl) (kg_tailb (by kernel_rfl) kg_head)) (abin_mul (by kernel_rfl) (fits_of (by omega) (by omega)))) (ar_cons rfl (pu_bin pu_int (pu_loc (by kernel_rfl) (kg_tailb (by kernel_rfl) kg_head)) (abin_mul (by kernel_rfl) (fits_of (by omega) (by omega)))) ar_nil))) (by exact (Nat.le_of_ble_eq_true rfl))) ?_; refine as_tup rfl ?_; refine ass_cons rfl ?_; refine' as_led (by kernel_rfl) kg_head (by assumption) (by exact Nat.le_of_ble_eq_true rfl) kl_least ?_; refine ass_cons rfl ?_; refine' as_led (by kernel_rfl) kg_head (get_set_same (by assumption)) (by exact Nat.le_of_ble_eq_true rfl) kl_eighths ?_; refine ass_cons rfl ?_; refine' as_led (by kernel_rfl) kg_head (get_set_same (get_set_same (by assumption))) (by exact Nat.le_of_ble_eq_true rfl) kl_fourths ?_; refine ass_nil ?_; refine then_next ?_; refine xs_nil ?_; refine' next_ledp (by kernel_rfl) (pu_loc (by kernel_rfl) (kg_tailb (by kernel_rfl) kg_head)) (by kernel_rfl) kg_head (get_set_same (get_set_same (get_set_same (by assumption)))) (by exact Nat.le_of_ble_eq_true rfl) kl_latest ?_; refine then_next ?_; refine xs_nil ?_; rotate_left)
  simp only [List.set_set]
  exact q
theorem law_sampled_next_spec {l : Led} {x w now e : Int} (h5 : H[5]? = some (.dictS (ledL l))) (hl : l.least = some e) (hB : 1000000 ≤ B ∧ 1048576 * B ≤ BIG) (hx : -B ≤ x ∧ x ≤ B) (h8 : -(64 * B) ≤ l.eighths ∧ l.eighths ≤ 64 * B) (h4 : -(64 * B) ≤ l.fourths ∧ l.fourths ≤ 64 * B)
    {told : Int} (ht : told = if min e x ≤ x - min w 25000 then x - min w 25000 else x)
    (q : Q .none (H.set 5 (.dictS (ledL { l with least := some (min e x), fourths := l.fourths - l.fourths / 4 + max (l.eighths / 8 - told) (0 - (l.eighths / 8 - told)), eighths := l.eighths - l.eighths / 8 + told, latest := x })))) : Cl (n + 30) (fdef 33) [.ref 5, .int x, .int w, .int now] H Q := by
  obtain ⟨nxt, top, least, latest, eighths, fourths, window, thr, met, shares, probes⟩ := l
  dsimp only at hl h8 h4 q
  subst hl
  ((refine cl_intro (fd := ⟨_, _, _, _⟩) rfl rfl ?_); dsimp only [List.map, List.zip, List.zipWith])
  focus (refine xs_cons ?_; refine ex_if ?_; refine' te_cmpp rfl (pu_led (by kernel_rfl) kg_head (by assumption) (by first | exact lg3 | exact rg3 | exact tg3 | exact kg_tailb (by kernel_rfl) (kg_tailb (by kernel_rfl) (kg_tailb (by kernel_rfl) kg_head)))) pu_non ac_isi ?_; refine split_f ?_; refine xs_assign (by kernel_rfl) ?_; refine ev_tup ?_; refine evs_cons rfl ?_; refine' ev_callA (Nat.le_of_ble_eq_true rfl) (by kernel_rfl) (ar_cons rfl (pu_led (by kernel_rfl) kg_head (by assumption) (by first | exact lg3 | exact rg3 | exact tg3 | exact kg_tailb (by kernel_rfl) (kg_tailb (by kernel_rfl) (kg_tailb (by kernel_rfl) kg_head)))) (ar_cons rfl (pu_loc (by kernel_rfl) (kg_tailb (by kernel_rfl) kg_head)) ar_nil)) ?_; refine cn_bi nb_min ab_min ?_; refine evs_cons rfl ?_; refine' ev_callA (Nat.le_of_ble_eq_true rfl) (by kernel_rfl) (ar_cons rfl (pu_loc (by kernel_rfl) (kg_tailb (by kernel_rfl) (kg_tailb (by kernel_rfl) kg_head))) (ar_cons rfl pu_int ar_nil)) ?_; refine cn_bi nb_min ab_min ?_; refine evs_nil ?_; refine and_len (Nat.le_of_ble_eq_true rfl) ?_; refine as_tup rfl ?_; refine ass_cons rfl ?_; refine' as_led (by kernel_rfl) kg_head (by assumption) (by exact Nat.le_of_ble_eq_true rfl) kl_least ?_; refine ass_cons rfl ?_; refine as_nameb (by kernel_rfl) ?_; refine ass_nil ?_; refine next_assign (by kernel_rfl) ?_; refine ev_if ?_; refine' te_cmpp rfl (pu_bin (pu_loc (by kernel_rfl) (kgp_neb (by kernel_rfl) (kg_tailb (by kernel_rfl) kg_head))) (pu_loc (by kernel_rfl) kgp_same) abin_sub) (pu_led (by kernel_rfl) (kgp_neb (by kernel_rfl) kg_head) (get_set_same (by assumption)) (by first | exact lg3 | exact rg3 | exact tg3 | exact kg_tailb (by kernel_rfl) (kg_tailb (by kernel_rfl) (kg_tailb (by kernel_rfl) kg_head)))) ac_ge ?_; refine split_x (fun _ => ?_) (fun _ => ?_); refine' ev_pu (pu_bin (pu_loc (by kernel_rfl) (kgp_neb (by kernel_rfl) (kg_tailb (by kernel_rfl) kg_head))) (pu_loc (by kernel_rfl) kgp_same) abin_sub) ?_; refine as_nameb (by kernel_rfl) ?_; refine' next_letp (by kernel_rfl) (by kernel_rfl) (pu_bin (pu_bin (pu_led (by kernel_rfl) (kgp_neb (by kernel_rfl) (kgp_neb (by kernel_rfl) kg_head)) (get_set_same (by assumption)) (by first | exact lg5 | exact rg5 | exact kg_tailb (by kernel_rfl) (kg_tailb (by kernel_rfl) (kg_tailb (by kernel_rfl) (kg_tailb (by kernel_rfl) (kg_tailb (by kernel_rfl) kg_head)))))) pu_int (abin_fdiv (by omega) (fits_of (by dsimp only; omega) (by dsimp only; omega)) (by kernel_rfl))) (pu_loc (by kernel_rfl) kgp_same) abin_sub) ?_; refine next_assign (by kernel_rfl) ?_; refine ev_bin ?_; refine' ev_pu (pu_bin (pu_led (by kernel_rfl) (kgp_neb (by kernel_rfl) (kgp_neb (by kernel_rfl) (kgp_neb (by kernel_rfl) kg_head))) (get_set_same (by assumption)) (by first | exact lg6 | exact kg_tailb (by kernel_rfl) (kg_tailb (by kernel_rfl) (kg_tailb (by kernel_rfl) (kg_tailb (by kernel_rfl) (kg_tailb (by kernel_rfl) (kg_tailb (by kernel_rfl) kg_head))))))) (pu_bin (pu_led (by kernel_rfl) (kgp_neb (by kernel_rfl) (kgp_neb (by kernel_rfl) (kgp_neb (by kernel_rfl) kg_head))) (get_set_same (by assumption)) (by first | exact lg6 | exact kg_tailb (by kernel_rfl) (kg_tailb (by kernel_rfl) (kg_tailb (by kernel_rfl) (kg_tailb (by kernel_rfl) (kg_tailb (by kernel_rfl) (kg_tailb (by kernel_rfl) kg_head))))))) pu_int (abin_fdiv (by omega) (fits_of (by dsimp only; omega) (by dsimp only; omega)) (by kernel_rfl))) abin_sub) ?_; refine' ev_callA (Nat.le_of_ble_eq_true rfl) (by kernel_rfl) (ar_cons rfl (pu_loc (by kernel_rfl) kgp_same) (ar_cons rfl (pu_bin pu_int (pu_loc (by kernel_rfl) kgp_same) abin_sub) ar_nil)) ?_; refine cn_bi nb_max ab_max ?_; refine ⟨_, abin_add, ?_⟩; refine' as_led (by kernel_rfl) (kgp_neb (by kernel_rfl) (kgp_neb (by kernel_rfl) (kgp_neb (by kernel_rfl) kg_head))) (get_set_same (by assumption)) (by exact Nat.le_of_ble_eq_true rfl) kl_fourths ?_; refine' next_ledp (by kernel_rfl) (pu_bin (pu_bin (pu_led (by kernel_rfl) (kgp_neb (by kernel_rfl) (kgp_neb (by kernel_rfl) (kgp_neb (by kernel_rfl) kg_head))) (get_set_same (get_set_same (by assumption))) (by first | exact lg5 | exact rg5 | exact kg_tailb (by kernel_rfl) (kg_tailb (by kernel_rfl) (kg_tailb (by kernel_rfl) (kg_tailb (by kernel_rfl) (kg_tailb (by kernel_rfl) kg_head)))))) (pu_bin (pu_led (by kernel_rfl) (kgp_neb (by kernel_rfl) (kgp_neb (by kernel_rfl) (kgp_neb (by kernel_rfl) kg_head))) (get_set_same (get_set_same (by assumption))) (by first | exact lg5 | exact rg5 | exact kg_tailb (by kernel_rfl) (kg_tailb (by kernel_rfl) (kg_tailb (by kernel_rfl) (kg_tailb (by kernel_rfl) (kg_tailb (by kernel_rfl) kg_head)))))) pu_int (abin_fdiv (by omega) (fits_of (by dsimp only; omega) (by dsimp only; omega)) (by kernel_rfl))) abin_sub) (pu_loc (by kernel_rfl) (kgp_neb (by kernel_rfl) kgp_same)) abin_add) (by kernel_rfl) (kgp_neb (by kernel_rfl) (kgp_neb (by kernel_rfl) (kgp_neb (by kernel_rfl) kg_head))) (get_set_same (get_set_same (by assumption))) (by exact Nat.le_of_ble_eq_true rfl) kl_eighths ?_; refine then_next ?_; refine xs_nil ?_; refine' next_ledp (by kernel_rfl) (pu_loc (by kernel_rfl) (kgp_neb (by kernel_rfl) (kgp_neb (by kernel_rfl) (kgp_neb (by kernel_rfl) (kg_tailb (by kernel_rfl) kg_head))))) (by kernel_rfl) (kgp_neb (by kernel_rfl) (kgp_neb (by kernel_rfl) (kgp_neb (by kernel_rfl) kg_head))) (get_set_same (get_set_same (get_set_same (by assumption)))) (by exact Nat.le_of_ble_eq_true rfl) kl_latest ?_; refine then_next ?_; refine xs_nil ?_; rotate_left; refine' ev_locv (by kernel_rfl) (kgp_neb (by kernel_rfl) (kg_tailb (by kernel_rfl) kg_head)) ?_; refine as_nameb (by kernel_rfl) ?_; refine' next_letp (by kernel_rfl) (by kernel_rfl) (pu_bin (pu_bin (pu_led (by kernel_rfl) (kgp_neb (by kernel_rfl) (kgp_neb (by kernel_rfl) kg_head)) (get_set_same (by assumption)) (by first | exact lg5 | exact rg5 | exact kg_tailb (by kernel_rfl) (kg_tailb (by kernel_rfl) (kg_tailb (by kernel_rfl) (kg_tailb (by kernel_rfl) (kg_tailb (by kernel_rfl) kg_head)))))) pu_int (abin_fdiv (by omega) (fits_of (by dsimp only; omega) (by dsimp only; omega)) (by kernel_rfl))) (pu_loc (by kernel_rfl) kgp_same) abin_sub) ?_; refine next_assign (by kernel_rfl) ?_; refine ev_bin ?_; refine' ev_pu (pu_bin (pu_led (by kernel_rfl) (kgp_neb (by kernel_rfl) (kgp_neb (by kernel_rfl) (kgp_neb (by kernel_rfl) kg_head))) (get_set_same (by assumption)) (by first | exact lg6 | exact kg_tailb (by kernel_rfl) (kg_tailb (by kernel_rfl) (kg_tailb (by kernel_rfl) (kg_tailb (by kernel_rfl) (kg_tailb (by kernel_rfl) (kg_tailb (by kernel_rfl) kg_head))))))) (pu_bin (pu_led (by kernel_rfl) (kgp_neb (by kernel_rfl) (kgp_neb (by kernel_rfl) (kgp_neb (by kernel_rfl) kg_head))) (get_set_same (by assumption)) (by first | exact lg6 | exact kg_tailb (by kernel_rfl) (kg_tailb (by kernel_rfl) (kg_tailb (by kernel_rfl) (kg_tailb (by kernel_rfl) (kg_tailb (by kernel_rfl) (kg_tailb (by kernel_rfl) kg_head))))))) pu_int (abin_fdiv (by omega) (fits_of (by dsimp only; omega) (by dsimp only; omega)) (by kernel_rfl))) abin_sub) ?_; refine' ev_callA (Nat.le_of_ble_eq_true rfl) (by kernel_rfl) (ar_cons rfl (pu_loc (by kernel_rfl) kgp_same) (ar_cons rfl (pu_bin pu_int (pu_loc (by kernel_rfl) kgp_same) abin_sub) ar_nil)) ?_; refine cn_bi nb_max ab_max ?_; refine ⟨_, abin_add, ?_⟩; refine' as_led (by kernel_rfl) (kgp_neb (by kernel_rfl) (kgp_neb (by kernel_rfl) (kgp_neb (by kernel_rfl) kg_head))) (get_set_same (by assumption)) (by exact Nat.le_of_ble_eq_true rfl) kl_fourths ?_; refine' next_ledp (by kernel_rfl) (pu_bin (pu_bin (pu_led (by kernel_rfl) (kgp_neb (by kernel_rfl) (kgp_neb (by kernel_rfl) (kgp_neb (by kernel_rfl) kg_head))) (get_set_same (get_set_same (by assumption))) (by first | exact lg5 | exact rg5 | exact kg_tailb (by kernel_rfl) (kg_tailb (by kernel_rfl) (kg_tailb (by kernel_rfl) (kg_tailb (by kernel_rfl) (kg_tailb (by kernel_rfl) kg_head)))))) (pu_bin (pu_led (by kernel_rfl) (kgp_neb (by kernel_rfl) (kgp_neb (by kernel_rfl) (kgp_neb (by kernel_rfl) kg_head))) (get_set_same (get_set_same (by assumption))) (by first | exact lg5 | exact rg5 | exact kg_tailb (by kernel_rfl) (kg_tailb (by kernel_rfl) (kg_tailb (by kernel_rfl) (kg_tailb (by kernel_rfl) (kg_tailb (by kernel_rfl) kg_head)))))) pu_int (abin_fdiv (by omega) (fits_of (by dsimp only; omega) (by dsimp only; omega)) (by kernel_rfl))) abin_sub) (pu_loc (by kernel_rfl) (kgp_neb (by kernel_rfl) kgp_same)) abin_add) (by kernel_rfl) (kgp_neb (by kernel_rfl) (kgp_neb (by kernel_rfl) (kgp_neb (by kernel_rfl) kg_head))) (get_set_same (get_set_same (by assumption))) (by exact Nat.le_of_ble_eq_true rfl) kl_eighths ?_; refine then_next ?_; refine xs_nil ?_; refine' next_ledp (by kernel_rfl) (pu_loc (by kernel_rfl) (kgp_neb (by kernel_rfl) (kgp_neb (by kernel_rfl) (kgp_neb (by kernel_rfl) (kg_tailb (by kernel_rfl) kg_head))))) (by kernel_rfl) (kgp_neb (by kernel_rfl) (kgp_neb (by kernel_rfl) (kgp_neb (by kernel_rfl) kg_head))) (get_set_same (get_set_same (get_set_same (by assumption)))) (by exact Nat.le_of_ble_eq_true rfl) kl_latest ?_; refine then_next ?_; refine xs_nil ?_; rotate_left)
  · rename_i h9
    simp only [decide_eq_true_eq] at h9
    rw [if_pos h9] at ht
    subst ht
    simp only [List.set_set]
    exact q
  · rename_i h9
    simp only [decide_eq_false_iff_not] at h9
    rw [if_neg h9] at ht
    subst ht
    simp only [List.set_set]
    exact q

set_option maxHeartbeats 1000000 in
theorem law_acknowledged_spec {l : Led} {r : Row} {lim : Bool} (h5 : H[5]? = some (.dictS (ledL l))) (h6 : H[6]? = some (.dictI (rowsE R))) (hR : R.length < 64) (nd : (nums R).Nodup) (hr : r ∈ R) (hB : 1000000 ≤ B ∧ 1048576 * B ≤ BIG)
    (hw : 2400 ≤ l.window ∧ l.window ≤ B) (hs : 0 ≤ r.size ∧ r.size ≤ 1200) (hc : 0 ≤ l.shares ∧ l.shares ≤ B)
    (q : Q .none ((H.set 6 (.dictI (rowsE (del r.num R)))).set 5 (.dictS (ledL { l with window := (ackS l.window l.thr l.met l.shares r.size r.time lim).1, shares := (ackS l.window l.thr l.met l.shares r.size r.time lim).2 })))) :
    Cl (n + 30) (fdef 34) [.ref 5, .int r.num, .bool lim] H Q := by
  have hx := kget_rowsE nd hr
  obtain ⟨nxt, top, least, latest, eighths, fourths, window, thr, met, shares, probes⟩ := l
  dsimp only at hw hc q
  have hd0 : 0 ≤ (shares + 1200 * r.size) / window := Int.ediv_nonneg (by omega) (by omega)
  have hd1 : (shares + 1200 * r.size) / window ≤ shares + 1200 * r.size := Int.ediv_le_self _ (by omega)
  have h56 : ∀ o, (H.set 6 o).set 5 (.dictS (ledL ⟨nxt, top, least, latest, eighths, fourths, window, thr, met, shares, probes⟩)) = H.set 6 o := fun o => set_self (get_set_ne (by decide) h5)
  have hk := kdel_rowsE r.num R
  ((refine cl_intro (fd := ⟨_, _, _, _⟩) rfl rfl ?_); dsimp only [List.map, List.zip, List.zipWith])
  focus (refine xs_assign (by kernel_rfl) ?_; refine ev_meth ⟨Nat.le_of_ble_eq_true rfl, rfl, rfl⟩ ?_; refine' ev_led (by kernel_rfl) kg_head (by assumption) kg_head ?_; refine mg_d (.inl rfl) ?_; refine' hob_of (by assumption) ?_; refine and_dict rfl ?_; refine' evs_loc (by kernel_rfl) (kg_tailb (by kernel_rfl) kg_head) ?_; refine evs_nil ?_; refine me_dpop ?_; refine' hob_of (by assumption) ?_; refine ⟨_, rfl, (by (show _ < 100000; (try simp only [List.length_append, List.length_map, List.length_cons, List.length_nil, iL_length, nums_length, rowsE_length, sentE_length]); omega)), ?_⟩; refine' kd_of (by assumption) ?_; refine as_tup rfl ?_; refine ass_cons rfl ?_; refine as_nameb (by kernel_rfl) ?_; refine ass_cons rfl ?_; refine as_nameb (by kernel_rfl) ?_; refine ass_nil ?_; refine next_cons ?_; refine ex_if ?_; refine te_all ?_; refine al_or ?_; refine te_not ?_; refine te_name ?_; refine' ev_locv (by kernel_rfl) (kgp_neb (by kernel_rfl) (kgp_neb (by kernel_rfl) (kg_tailb (by kernel_rfl) (kg_tailb (by kernel_rfl) kg_head)))) ?_; refine ⟨_, rfl, ?_, ?_⟩; refine imp_keep fun _ => ?_; refine al_or ?_; refine te_all ?_; refine al_and ?_; refine' te_cmpp rfl (pu_led (by kernel_rfl) (kgp_neb (by kernel_rfl) (kgp_neb (by kernel_rfl) kg_head)) (get_set_ne (by decide) (by assumption)) (by first | exact lg9 | exact kg_tailb (by kernel_rfl) (kg_tailb (by kernel_rfl) (kg_tailb (by kernel_rfl) (kg_tailb (by kernel_rfl) (kg_tailb (by kernel_rfl) (kg_tailb (by kernel_rfl) (kg_tailb (by kernel_rfl) (kg_tailb (by kernel_rfl) (kg_tailb (by kernel_rfl) kg_head)))))))))) pu_non ac_isnot_oi ?_; refine split_x (fun _ => ?_) (fun _ => ?_); refine al_and ?_; refine' te_cmpl rfl (by kernel_rfl) (kgp_neb (by kernel_rfl) kgp_same) ?_; refine' ev_led (by kernel_rfl) (kgp_neb (by kernel_rfl) (kgp_neb (by kernel_rfl) kg_head)) (get_set_ne (by decide) (by assumption)) (by first | exact lg9 | exact kg_tailb (by kernel_rfl) (kg_tailb (by kernel_rfl) (kg_tailb (by kernel_rfl) (kg_tailb (by kernel_rfl) (kg_tailb (by kernel_rfl) (kg_tailb (by kernel_rfl) (kg_tailb (by kernel_rfl) (kg_tailb (by kernel_rfl) (kg_tailb (by kernel_rfl) kg_head))))))))) ?_; rotate_left; refine split_f2 ?_; refine al_or_nil ?_; refine split_f ?_; refine xs_nil ?_; refine next_cons ?_; refine ex_if ?_; refine te_all ?_; refine al_or ?_; refine' te_cmpp rfl (pu_led (by kernel_rfl) (kgp_neb (by kernel_rfl) (kgp_neb (by kernel_rfl) kg_head)) (get_set_ne (by decide) (by assumption)) (by first | exact lg8 | exact kg_tailb (by kernel_rfl) (kg_tailb (by kernel_rfl) (kg_tailb (by kernel_rfl) (kg_tailb (by kernel_rfl) (kg_tailb (by kernel_rfl) (kg_tailb (by kernel_rfl) (kg_tailb (by kernel_rfl) (kg_tailb (by kernel_rfl) kg_head))))))))) pu_non ac_is_oi ?_; refine split_x2 (fun _ => ?_) (fun _ => ?_); refine al_or ?_; refine te_cmp rfl ?_; refine' ev_led (by kernel_rfl) (kgp_neb (by kernel_rfl) (kgp_neb (by kernel_rfl) kg_head)) (get_set_ne (by decide) (by assumption)) (by first | exact lg7 | exact kg_tailb (by kernel_rfl) (kg_tailb (by kernel_rfl) (kg_tailb (by kernel_rfl) (kg_tailb (by kernel_rfl) (kg_tailb (by kernel_rfl) (kg_tailb (by kernel_rfl) (kg_tailb (by kernel_rfl) kg_head))))))) ?_; refine' ev_led (by kernel_rfl) (kgp_neb (by kernel_rfl) (kgp_neb (by kernel_rfl) kg_head)) (get_set_ne (by decide) (by assumption)) (by first | exact lg8 | exact kg_tailb (by kernel_rfl) (kg_tailb (by kernel_rfl) (kg_tailb (by kernel_rfl) (kg_tailb (by kernel_rfl) (kg_tailb (by kernel_rfl) (kg_tailb (by kernel_rfl) (kg_tailb (by kernel_rfl) (kg_tailb (by kernel_rfl) kg_head)))))))) ?_; rotate_left; refine split_t ?_; refine' xs_ledp (by kernel_rfl) (pu_bin (pu_led (by kernel_rfl) (kgp_neb (by kernel_rfl) (kgp_neb (by kernel_rfl) kg_head)) (get_set_ne (by decide) (by assumption)) (by first | exact lg7 | exact kg_tailb (by kernel_rfl) (kg_tailb (by kernel_rfl) (kg_tailb (by kernel_rfl) (kg_tailb (by kernel_rfl) (kg_tailb (by kernel_rfl) (kg_tailb (by kernel_rfl) (kg_tailb (by kernel_rfl) kg_head)))))))) (pu_loc (by kernel_rfl) kgp_same) abin_add) (by kernel_rfl) (kgp_neb (by kernel_rfl) (kgp_neb (by kernel_rfl) kg_head)) (get_set_ne (by decide) (by assumption)) (by exact Nat.le_of_ble_eq_true rfl) kl_window ?_; refine next_cons ?_; refine ex_ret0 ?_; refine then_ret ?_; refine then_ret ?_; rotate_left; refine imp_keep fun _ => ?_; refine split_t ?_; refine xs_cons ?_; refine ex_ret0 ?_; refine then_ret ?_; refine then_ret ?_; rotate_left)
  · rename_i h1 h2
    simp only [Bool.not_eq_false'] at h1
    subst h1
    cases met with
    | none => cases h2
    | some m =>
      clear h2
      focus (refine ⟨_, ac_le, ?_⟩; refine split_x (fun _ => ?_) (fun _ => ?_); refine al_and_nil ?_; refine split_t2 ?_; refine split_t ?_; refine xs_cons ?_; refine ex_ret0 ?_; refine then_ret ?_; refine then_ret ?_; rotate_left; refine split_f2 ?_; refine al_or_nil ?_; refine split_f ?_; refine xs_nil ?_; refine next_cons ?_; refine ex_if ?_; refine te_all ?_; refine al_or ?_; refine' te_cmpp rfl (pu_led (by kernel_rfl) (kgp_neb (by kernel_rfl) (kgp_neb (by kernel_rfl) kg_head)) (get_set_ne (by decide) (by assumption)) (by first | exact lg8 | exact kg_tailb (by kernel_rfl) (kg_tailb (by kernel_rfl) (kg_tailb (by kernel_rfl) (kg_tailb (by kernel_rfl) (kg_tailb (by kernel_rfl) (kg_tailb (by kernel_rfl) (kg_tailb (by kernel_rfl) (kg_tailb (by kernel_rfl) kg_head))))))))) pu_non ac_is_oi ?_; refine split_x2 (fun _ => ?_) (fun _ => ?_); refine al_or ?_; refine te_cmp rfl ?_; refine' ev_led (by kernel_rfl) (kgp_neb (by kernel_rfl) (kgp_neb (by kernel_rfl) kg_head)) (get_set_ne (by decide) (by assumption)) (by first | exact lg7 | exact kg_tailb (by kernel_rfl) (kg_tailb (by kernel_rfl) (kg_tailb (by kernel_rfl) (kg_tailb (by kernel_rfl) (kg_tailb (by kernel_rfl) (kg_tailb (by kernel_rfl) (kg_tailb (by kernel_rfl) kg_head))))))) ?_; refine' ev_led (by kernel_rfl) (kgp_neb (by kernel_rfl) (kgp_neb (by kernel_rfl) kg_head)) (get_set_ne (by decide) (by assumption)) (by first | exact lg8 | exact kg_tailb (by kernel_rfl) (kg_tailb (by kernel_rfl) (kg_tailb (by kernel_rfl) (kg_tailb (by kernel_rfl) (kg_tailb (by kernel_rfl) (kg_tailb (by kernel_rfl) (kg_tailb (by kernel_rfl) (kg_tailb (by kernel_rfl) kg_head)))))))) ?_; rotate_left; refine split_t ?_; refine' xs_ledp (by kernel_rfl) (pu_bin (pu_led (by kernel_rfl) (kgp_neb (by kernel_rfl) (kgp_neb (by kernel_rfl) kg_head)) (get_set_ne (by decide) (by assumption)) (by first | exact lg7 | exact kg_tailb (by kernel_rfl) (kg_tailb (by kernel_rfl) (kg_tailb (by kernel_rfl) (kg_tailb (by kernel_rfl) (kg_tailb (by kernel_rfl) (kg_tailb (by kernel_rfl) (kg_tailb (by kernel_rfl) kg_head)))))))) (pu_loc (by kernel_rfl) kgp_same) abin_add) (by kernel_rfl) (kgp_neb (by kernel_rfl) (kgp_neb (by kernel_rfl) kg_head)) (get_set_ne (by decide) (by assumption)) (by exact Nat.le_of_ble_eq_true rfl) kl_window ?_; refine next_cons ?_; refine ex_ret0 ?_; refine then_ret ?_; refine then_ret ?_; rotate_left)
      · (refine Eq.mp (congrArg (Q AV.none) ?_) q; simp [ackS, inrec, slow, *])
      · rename_i h3 h4
        cases thr with
        | none => cases h4
        | some t =>
          clear h4
          focus (refine ⟨_, ac_lt, ?_⟩; refine split_x2 (fun _ => ?_) (fun _ => ?_); refine al_or_nil ?_; refine split_f ?_; refine xs_nil ?_; refine' next_ledp (by kernel_rfl) (pu_bin (pu_led (by kernel_rfl) (kgp_neb (by kernel_rfl) (kgp_neb (by kernel_rfl) kg_head)) (get_set_ne (by decide) (by assumption)) (by first | exact lg10 | exact kg_tailb (by kernel_rfl) (kg_tailb (by kernel_rfl) (kg_tailb (by kernel_rfl) (kg_tailb (by kernel_rfl) (kg_tailb (by kernel_rfl) (kg_tailb (by kernel_rfl) (kg_tailb (by kernel_rfl) (kg_tailb (by kernel_rfl) (kg_tailb (by kernel_rfl) (kg_tailb (by kernel_rfl) kg_head))))))))))) (pu_bin pu_int (pu_loc (by kernel_rfl) kgp_same) (abin_mul (by kernel_rfl) (fits_of (by omega) (by omega)))) abin_add) (by kernel_rfl) (kgp_neb (by kernel_rfl) (kgp_neb (by kernel_rfl) kg_head)) (get_set_ne (by decide) (by assumption)) (by exact Nat.le_of_ble_eq_true rfl) kl_shares ?_; refine next_assign (by kernel_rfl) ?_; refine ev_bin ?_; refine' ev_led (by kernel_rfl) (kgp_neb (by kernel_rfl) (kgp_neb (by kernel_rfl) kg_head)) (get_set_same (get_set_ne (by decide) (by assumption))) (by first | exact lg10 | exact kg_tailb (by kernel_rfl) (kg_tailb (by kernel_rfl) (kg_tailb (by kernel_rfl) (kg_tailb (by kernel_rfl) (kg_tailb (by kernel_rfl) (kg_tailb (by kernel_rfl) (kg_tailb (by kernel_rfl) (kg_tailb (by kernel_rfl) (kg_tailb (by kernel_rfl) (kg_tailb (by kernel_rfl) kg_head)))))))))) ?_; refine' ev_led (by kernel_rfl) (kgp_neb (by kernel_rfl) (kgp_neb (by kernel_rfl) kg_head)) (get_set_same (get_set_ne (by decide) (by assumption))) (by first | exact lg7 | exact kg_tailb (by kernel_rfl) (kg_tailb (by kernel_rfl) (kg_tailb (by kernel_rfl) (kg_tailb (by kernel_rfl) (kg_tailb (by kernel_rfl) (kg_tailb (by kernel_rfl) (kg_tailb (by kernel_rfl) kg_head))))))) ?_; refine ⟨_, abin_fdiv ?_ ?_ ?_, ?_⟩; (dsimp only; omega); exact fits_of (by dsimp only; omega) (by dsimp only; omega); exact fits_of (by dsimp only; omega) (by dsimp only; omega); refine as_nameb (by kernel_rfl) ?_; refine' next_ledp (by kernel_rfl) (pu_bin (pu_led (by kernel_rfl) (kgp_neb (by kernel_rfl) (kgp_neb (by kernel_rfl) (kgp_neb (by kernel_rfl) kg_head))) (get_set_same (get_set_ne (by decide) (by assumption))) (by first | exact lg10 | exact kg_tailb (by kernel_rfl) (kg_tailb (by kernel_rfl) (kg_tailb (by kernel_rfl) (kg_tailb (by kernel_rfl) (kg_tailb (by kernel_rfl) (kg_tailb (by kernel_rfl) (kg_tailb (by kernel_rfl) (kg_tailb (by kernel_rfl) (kg_tailb (by kernel_rfl) (kg_tailb (by kernel_rfl) kg_head))))))))))) (pu_bin (pu_loc (by kernel_rfl) kgp_same) (pu_led (by kernel_rfl) (kgp_neb (by kernel_rfl) (kgp_neb (by kernel_rfl) (kgp_neb (by kernel_rfl) kg_head))) (get_set_same (get_set_ne (by decide) (by assumption))) (by first | exact lg7 | exact kg_tailb (by kernel_rfl) (kg_tailb (by kernel_rfl) (kg_tailb (by kernel_rfl) (kg_tailb (by kernel_rfl) (kg_tailb (by kernel_rfl) (kg_tailb (by kernel_rfl) (kg_tailb (by kernel_rfl) kg_head)))))))) (abin_mul (fits_of (by dsimp only; omega) (by dsimp only; omega)) (fits_of (by dsimp only; omega) (by dsimp only; omega)))) abin_sub) (by kernel_rfl) (kgp_neb (by kernel_rfl) (kgp_neb (by kernel_rfl) (kgp_neb (by kernel_rfl) kg_head))) (get_set_same (get_set_ne (by decide) (by assumption))) (by exact Nat.le_of_ble_eq_true rfl) kl_shares ?_; refine' next_ledp (by kernel_rfl) (pu_bin (pu_led (by kernel_rfl) (kgp_neb (by kernel_rfl) (kgp_neb (by kernel_rfl) (kgp_neb (by kernel_rfl) kg_head))) (get_set_same (get_set_same (get_set_ne (by decide) (by assumption)))) (by first | exact lg7 | exact kg_tailb (by kernel_rfl) (kg_tailb (by kernel_rfl) (kg_tailb (by kernel_rfl) (kg_tailb (by kernel_rfl) (kg_tailb (by kernel_rfl) (kg_tailb (by kernel_rfl) (kg_tailb (by kernel_rfl) kg_head)))))))) (pu_loc (by kernel_rfl) kgp_same) abin_add) (by kernel_rfl) (kgp_neb (by kernel_rfl) (kgp_neb (by kernel_rfl) (kgp_neb (by kernel_rfl) kg_head))) (get_set_same (get_set_same (get_set_ne (by decide) (by assumption)))) (by exact Nat.le_of_ble_eq_true rfl) kl_window ?_; refine then_next ?_; refine xs_nil ?_; rotate_left; refine split_t ?_; refine' xs_ledp (by kernel_rfl) (pu_bin (pu_led (by kernel_rfl) (kgp_neb (by kernel_rfl) (kgp_neb (by kernel_rfl) kg_head)) (get_set_ne (by decide) (by assumption)) (by first | exact lg7 | exact kg_tailb (by kernel_rfl) (kg_tailb (by kernel_rfl) (kg_tailb (by kernel_rfl) (kg_tailb (by kernel_rfl) (kg_tailb (by kernel_rfl) (kg_tailb (by kernel_rfl) (kg_tailb (by kernel_rfl) kg_head)))))))) (pu_loc (by kernel_rfl) kgp_same) abin_add) (by kernel_rfl) (kgp_neb (by kernel_rfl) (kgp_neb (by kernel_rfl) kg_head)) (get_set_ne (by decide) (by assumption)) (by exact Nat.le_of_ble_eq_true rfl) kl_window ?_; refine next_cons ?_; refine ex_ret0 ?_; refine then_ret ?_; refine then_ret ?_; rotate_left)
          all_goals (refine Eq.mp (congrArg (Q AV.none) ?_) q; simp [ackS, inrec, slow, *])
      · rename_i h3 h4
        cases thr with
        | some t => cases h4
        | none => (refine Eq.mp (congrArg (Q AV.none) ?_) q; simp [ackS, inrec, slow, *])
  · rename_i h1 h2 h3
    simp only [Bool.not_eq_false'] at h1
    subst h1
    cases met with
    | some m => cases h2
    | none =>
      cases thr with
      | none => cases h3
      | some t =>
        clear h2 h3
        focus (refine ⟨_, ac_lt, ?_⟩; refine split_x2 (fun _ => ?_) (fun _ => ?_); refine al_or_nil ?_; refine split_f ?_; refine xs_nil ?_; refine' next_ledp (by kernel_rfl) (pu_bin (pu_led (by kernel_rfl) (kgp_neb (by kernel_rfl) (kgp_neb (by kernel_rfl) kg_head)) (get_set_ne (by decide) (by assumption)) (by first | exact lg10 | exact kg_tailb (by kernel_rfl) (kg_tailb (by kernel_rfl) (kg_tailb (by kernel_rfl) (kg_tailb (by kernel_rfl) (kg_tailb (by kernel_rfl) (kg_tailb (by kernel_rfl) (kg_tailb (by kernel_rfl) (kg_tailb (by kernel_rfl) (kg_tailb (by kernel_rfl) (kg_tailb (by kernel_rfl) kg_head))))))))))) (pu_bin pu_int (pu_loc (by kernel_rfl) kgp_same) (abin_mul (by kernel_rfl) (fits_of (by omega) (by omega)))) abin_add) (by kernel_rfl) (kgp_neb (by kernel_rfl) (kgp_neb (by kernel_rfl) kg_head)) (get_set_ne (by decide) (by assumption)) (by exact Nat.le_of_ble_eq_true rfl) kl_shares ?_; refine next_assign (by kernel_rfl) ?_; refine ev_bin ?_; refine' ev_led (by kernel_rfl) (kgp_neb (by kernel_rfl) (kgp_neb (by kernel_rfl) kg_head)) (get_set_same (get_set_ne (by decide) (by assumption))) (by first | exact lg10 | exact kg_tailb (by kernel_rfl) (kg_tailb (by kernel_rfl) (kg_tailb (by kernel_rfl) (kg_tailb (by kernel_rfl) (kg_tailb (by kernel_rfl) (kg_tailb (by kernel_rfl) (kg_tailb (by kernel_rfl) (kg_tailb (by kernel_rfl) (kg_tailb (by kernel_rfl) (kg_tailb (by kernel_rfl) kg_head)))))))))) ?_; refine' ev_led (by kernel_rfl) (kgp_neb (by kernel_rfl) (kgp_neb (by kernel_rfl) kg_head)) (get_set_same (get_set_ne (by decide) (by assumption))) (by first | exact lg7 | exact kg_tailb (by kernel_rfl) (kg_tailb (by kernel_rfl) (kg_tailb (by kernel_rfl) (kg_tailb (by kernel_rfl) (kg_tailb (by kernel_rfl) (kg_tailb (by kernel_rfl) (kg_tailb (by kernel_rfl) kg_head))))))) ?_; refine ⟨_, abin_fdiv ?_ ?_ ?_, ?_⟩; (dsimp only; omega); exact fits_of (by dsimp only; omega) (by dsimp only; omega); exact fits_of (by dsimp only; omega) (by dsimp only; omega); refine as_nameb (by kernel_rfl) ?_; refine' next_ledp (by kernel_rfl) (pu_bin (pu_led (by kernel_rfl) (kgp_neb (by kernel_rfl) (kgp_neb (by kernel_rfl) (kgp_neb (by kernel_rfl) kg_head))) (get_set_same (get_set_ne (by decide) (by assumption))) (by first | exact lg10 | exact kg_tailb (by kernel_rfl) (kg_tailb (by kernel_rfl) (kg_tailb (by kernel_rfl) (kg_tailb (by kernel_rfl) (kg_tailb (by kernel_rfl) (kg_tailb (by kernel_rfl) (kg_tailb (by kernel_rfl) (kg_tailb (by kernel_rfl) (kg_tailb (by kernel_rfl) (kg_tailb (by kernel_rfl) kg_head))))))))))) (pu_bin (pu_loc (by kernel_rfl) kgp_same) (pu_led (by kernel_rfl) (kgp_neb (by kernel_rfl) (kgp_neb (by kernel_rfl) (kgp_neb (by kernel_rfl) kg_head))) (get_set_same (get_set_ne (by decide) (by assumption))) (by first | exact lg7 | exact kg_tailb (by kernel_rfl) (kg_tailb (by kernel_rfl) (kg_tailb (by kernel_rfl) (kg_tailb (by kernel_rfl) (kg_tailb (by kernel_rfl) (kg_tailb (by kernel_rfl) (kg_tailb (by kernel_rfl) kg_head)))))))) (abin_mul (fits_of (by dsimp only; omega) (by dsimp only; omega)) (fits_of (by dsimp only; omega) (by dsimp only; omega)))) abin_sub) (by kernel_rfl) (kgp_neb (by kernel_rfl) (kgp_neb (by kernel_rfl) (kgp_neb (by kernel_rfl) kg_head))) (get_set_same (get_set_ne (by decide) (by assumption))) (by exact Nat.le_of_ble_eq_true rfl) kl_shares ?_; refine' next_ledp (by kernel_rfl) (pu_bin (pu_led (by kernel_rfl) (kgp_neb (by kernel_rfl) (kgp_neb (by kernel_rfl) (kgp_neb (by kernel_rfl) kg_head))) (get_set_same (get_set_same (get_set_ne (by decide) (by assumption)))) (by first | exact lg7 | exact kg_tailb (by kernel_rfl) (kg_tailb (by kernel_rfl) (kg_tailb (by kernel_rfl) (kg_tailb (by kernel_rfl) (kg_tailb (by kernel_rfl) (kg_tailb (by kernel_rfl) (kg_tailb (by kernel_rfl) kg_head)))))))) (pu_loc (by kernel_rfl) kgp_same) abin_add) (by kernel_rfl) (kgp_neb (by kernel_rfl) (kgp_neb (by kernel_rfl) (kgp_neb (by kernel_rfl) kg_head))) (get_set_same (get_set_same (get_set_ne (by decide) (by assumption)))) (by exact Nat.le_of_ble_eq_true rfl) kl_window ?_; refine then_next ?_; refine xs_nil ?_; rotate_left; refine split_t ?_; refine' xs_ledp (by kernel_rfl) (pu_bin (pu_led (by kernel_rfl) (kgp_neb (by kernel_rfl) (kgp_neb (by kernel_rfl) kg_head)) (get_set_ne (by decide) (by assumption)) (by first | exact lg7 | exact kg_tailb (by kernel_rfl) (kg_tailb (by kernel_rfl) (kg_tailb (by kernel_rfl) (kg_tailb (by kernel_rfl) (kg_tailb (by kernel_rfl) (kg_tailb (by kernel_rfl) (kg_tailb (by kernel_rfl) kg_head)))))))) (pu_loc (by kernel_rfl) kgp_same) abin_add) (by kernel_rfl) (kgp_neb (by kernel_rfl) (kgp_neb (by kernel_rfl) kg_head)) (get_set_ne (by decide) (by assumption)) (by exact Nat.le_of_ble_eq_true rfl) kl_window ?_; refine next_cons ?_; refine ex_ret0 ?_; refine then_ret ?_; refine then_ret ?_; rotate_left)
        all_goals (refine Eq.mp (congrArg (Q AV.none) ?_) q; simp [ackS, inrec, slow, *])
  · rename_i h1 h2 h3
    simp only [Bool.not_eq_false'] at h1
    subst h1
    cases met with
    | some m => cases h2
    | none =>
      cases thr with
      | some t => cases h3
      | none =>
        clear h2 h3
        (refine Eq.mp (congrArg (Q AV.none) ?_) q; simp [ackS, inrec, slow, *])
  · rename_i h1
    simp only [Bool.not_eq_true'] at h1
    subst h1
    (refine Eq.mp (congrArg (Q AV.none) ?_) q; simp [ackS, inrec, slow, *])
end

/-- several rows go -/
noncomputable def delAll (S R : List Row) : List Row := S.foldl (fun R r => del r.num R) R
theorem delAll_snoc (S R : List Row) (x : Row) : delAll (S ++ [x]) R = del x.num (delAll S R) := by simp [delAll]
theorem delAll_sub : ∀ (S R : List Row), (delAll S R).Sublist R
  | [], R => List.Sublist.refl R
  | x :: S, R => (delAll_sub S (del x.num R)).trans (del_sub _ _)
theorem mem_delAll {x : Row} : ∀ {S R : List Row}, x ∈ R → (∀ y ∈ S, y.num ≠ x.num) → x ∈ delAll S R
  | [], _, h, _ => h
  | y :: S, R, h, hn => mem_delAll (S := S) (mem_del (fun e => hn y (.head _) e.symm) h) fun z hz => hn z (.tail _ hz)
theorem nums_sub {S R : List Row} (h : S.Sublist R) : (nums S).Sublist (nums R) := h.map _
theorem nums_nodup {S R : List Row} (h : S.Sublist R) (nd : (nums R).Nodup) : (nums S).Nodup := (nums_sub h).nodup nd
theorem sizes_delAll : ∀ {S R : List Row}, (nums R).Nodup → (nums S).Nodup → (∀ r ∈ S, r ∈ R) → sizes (delAll S R) = sizes R - sizes S
  | [], R, _, _, _ => by simp [delAll, sizes]
  | x :: S, R, nd, ns, h => by
    have n' : x.num ∉ nums S ∧ (nums S).Nodup := List.nodup_cons.mp ns
    have hx := h x (.head _)
    have e : delAll (x :: S) R = delAll S (del x.num R) := rfl
    rw [e, sizes_delAll (nums_nodup (del_sub _ _) nd) n'.2 (fun r hr => mem_del (fun e : r.num = x.num => n'.1 (show x.num ∈ nums S from e ▸ (List.mem_map_of_mem hr : r.num ∈ nums S))) (h r (.tail _ hr))), sizes_del nd hx]
    simp only [sizes, List.map_cons, List.sum_cons]
    omega
theorem pre_ne {S pre suf : List Row} {x : Row} (e : S = pre ++ x :: suf) (ns : (nums S).Nodup) : ∀ y ∈ pre, y.num ≠ x.num := by
  intro y hy he
  rw [e] at ns
  unfold nums at ns
  rw [List.map_append, List.map_cons, List.nodup_append] at ns
  exact ns.2.2 y.num (List.mem_map_of_mem hy) x.num (.head _) he
section
variable {n : Nat} {H : AH} {B : Int} {k : Nat} {R : List Row} {v : Bool} {Q : AV → AH → Prop}
set_option maxHeartbeats 1000000 in
theorem law_struck_spec {l : Led} {S : List Row} {j : Nat} {now last : Int} (h5 : H[5]? = some (.dictS (ledL l))) (h6 : H[6]? = some (.dictI (rowsE R))) (hj : H[j]? = some (.list (iL (nums S)))) (hj6 : 6 ≠ j) (hR : R.length < 64) (hS : S.length < 64)
    (nd : (nums R).Nodup) (ns : (nums S).Nodup) (hsub : ∀ r ∈ S, r ∈ R) (hB : 1000000 ≤ B ∧ 1048576 * B ≤ BIG) (hw : 2400 ≤ l.window ∧ l.window ≤ B) (hlast : maxL (S.map (·.time)) = some last)
    (q : Q .none ((H.set 6 (.dictI (rowsE (delAll S R)))).set 5 (.dictS (ledL { l with window := (lostS l.window l.thr l.met l.shares last now).1, thr := (lostS l.window l.thr l.met l.shares last now).2.1, met := (lostS l.window l.thr l.met l.shares last now).2.2.1, shares := (lostS l.window l.thr l.met l.shares last now).2.2.2 })))) :
    Cl (n + 30) (fdef 36) [.ref 5, .ref j, .int now] H Q := by
  obtain ⟨nxt, top, least, latest, eighths, fourths, window, thr, met, shares, probes⟩ := l
  dsimp only at hw q
  ((refine cl_intro (fd := ⟨_, _, _, _⟩) rfl rfl ?_); dsimp only [List.map, List.zip, List.zipWith])
  focus (refine xs_assign (by kernel_rfl) ?_; refine ev_call (Nat.le_of_ble_eq_true rfl) (by kernel_rfl) ?_; refine evs_cons rfl ?_; refine ev_comp (by kernel_rfl) ?_; refine' ev_locv (by kernel_rfl) (kg_tailb (by kernel_rfl) kg_head) ?_; rotate_left)
  refine ⟨_, it_list hj, ⟨by (show _ < 100000; (try simp only [List.length_append, List.length_map, List.length_cons, List.length_nil, iL_length, nums_length, rowsE_length, sentE_length]); omega), (fun h => nomatch h), fun _ => rfl⟩, ?_⟩
  rw [iL_nums]
  refine co_map (fun r => some (.int r.time)) (by rw [← iL_nums]; exact aguard_self (it_list hj)) ?_ ?_
  · intro r hr
    have hx := kget_rowsE nd (hsub r hr)
    focus (refine on_name ?_; refine one_plain ?_; refine' ev_pu (pu_sub rfl (pu_sub rfl (pu_led (by kernel_rfl) (kgp_neb (by kernel_rfl) (kget_locFree (by kernel_rfl) kg_head)) (by assumption) kg_head) (pu_loc (by kernel_rfl) kgp_same) (gid (by assumption) (by assumption))) pu_int (by exact git rfl rfl)) ?_; rotate_left)
    exact ⟨rfl, rfl⟩
  rw [filterMap_all, map_iL (fun r : Row => r.time)]
  focus (refine evs_nil ?_; rotate_left)
  refine cn_bi nb_max (ab_maxl (by rw [iL_length, List.length_map]; omega) (intsOf_iL _) hlast) ?_
  focus (refine as_nameb (by kernel_rfl) ?_; refine next_cons ?_; refine ex_for ⟨by kernel_rfl, rfl⟩ ?_; refine' ev_locv (by kernel_rfl) (kgp_neb (by kernel_rfl) (kg_tailb (by kernel_rfl) kg_head)) ?_; rotate_left)
  refine ⟨_, it_list hj, rfl, by (show _ < 100000; (try simp only [List.length_append, List.length_map, List.length_cons, List.length_nil, iL_length, nums_length, rowsE_length, sentE_length]); omega), ?_⟩
  rw [iL_nums]
  refine fo_map (fun pre loc H' => H' = H.set 6 (.dictI (rowsE (delAll pre R))) ∧ kget loc "ledger" = some (.ref 5) ∧ kget loc "now" = some (.int now) ∧ kget loc "last" = some (.int last)) ?_ ?_ ?_ ?_
  · refine ⟨(set_self h6).symm, by focus (exact kgp_neb (by kernel_rfl) (by exact kg_head)), by focus (exact kgp_neb (by kernel_rfl) (by exact kg_tailb (by kernel_rfl) (by exact kg_tailb (by kernel_rfl) (by exact kg_head)))), by focus (exact kgp_same)⟩
  · rintro pre loc H' ⟨rfl, _⟩
    rw [← iL_nums]; exact aguard_self (it_list (get_set_ne hj6 hj))
  · rintro pre r suf loc H' e ⟨rfl, h1, h2, h3⟩
    have hr : r ∈ S := by rw [e]; simp
    have hm : r ∈ delAll pre R := mem_delAll (hsub r hr) (pre_ne e ns)
    have hx := kget_rowsE (nums_nodup (delAll_sub pre R) nd) hm
    have hl2 : (delAll pre R).length ≤ R.length := (delAll_sub pre R).length_le
    focus (refine xs_cons ?_; refine ex_expr ?_; refine ev_meth ⟨Nat.le_of_ble_eq_true rfl, rfl, rfl⟩ ?_; refine' ev_led (by kernel_rfl) (kgp_neb (by kernel_rfl) (by assumption)) (get_set_ne (by decide) (by assumption)) kg_head ?_; refine mg_d (.inl rfl) ?_; refine hob_same ?_ ?_; refine' hob_of (by assumption) ?_; exact trivial; refine and_dict rfl ?_; refine' evs_loc (by kernel_rfl) kgp_same ?_; refine evs_nil ?_; refine me_dpop ?_; refine hob_same ?_ ?_; refine' hob_of (by assumption) ?_; exact trivial; refine ⟨_, rfl, (by (show _ < 100000; (try simp only [List.length_append, List.length_map, List.length_cons, List.length_nil, iL_length, nums_length, rowsE_length, sentE_length]); omega)), ?_⟩; refine' kd_of (by assumption) ?_; refine then_next ?_; refine xs_nil ?_; rotate_left)
    refine ⟨.inl rfl, ?_, by focus (exact kgp_neb (by kernel_rfl) (by assumption)), by focus (exact kgp_neb (by kernel_rfl) (by assumption)), by focus (exact kgp_neb (by kernel_rfl) (by assumption))⟩
    rw [List.set_set, kdel_rowsE, delAll_snoc]
  · rintro loc H' ⟨rfl, h1, h2, h3⟩
    have h5' := get_set_ne (o := AObj.dictI (rowsE (delAll S R))) (show 6 ≠ 5 by decide) h5
    cases met with
    | none =>
      focus (refine next_cons ?_; refine ex_if ?_; refine te_all ?_; refine al_or ?_; refine' te_cmpp rfl (pu_led (by kernel_rfl) (by assumption) (by assumption) (by first | exact lg9 | exact kg_tailb (by kernel_rfl) (kg_tailb (by kernel_rfl) (kg_tailb (by kernel_rfl) (kg_tailb (by kernel_rfl) (kg_tailb (by kernel_rfl) (kg_tailb (by kernel_rfl) (kg_tailb (by kernel_rfl) (kg_tailb (by kernel_rfl) (kg_tailb (by kernel_rfl) kg_head)))))))))) pu_non ac_isn ?_; refine split_t2 ?_; refine split_t ?_; refine xs_assign (by kernel_rfl) ?_; refine' ev_callA (Nat.le_of_ble_eq_true rfl) (by kernel_rfl) (ar_cons rfl (pu_bin (pu_led (by kernel_rfl) (by assumption) (by assumption) (by first | exact lg7 | exact kg_tailb (by kernel_rfl) (kg_tailb (by kernel_rfl) (kg_tailb (by kernel_rfl) (kg_tailb (by kernel_rfl) (kg_tailb (by kernel_rfl) (kg_tailb (by kernel_rfl) (kg_tailb (by kernel_rfl) kg_head)))))))) pu_int (abin_fdiv (by omega) (fits_of (by dsimp only; omega) (by dsimp only; omega)) (by kernel_rfl))) (ar_cons rfl pu_int ar_nil)) ?_; refine cn_bi nb_max ab_max ?_; refine' as_led (by kernel_rfl) (by assumption) (by assumption) (by exact Nat.le_of_ble_eq_true rfl) kl_thr ?_; refine next_assign (by kernel_rfl) ?_; refine' ev_pu (pu_tup (ar_cons rfl (pu_led (by kernel_rfl) (by assumption) (get_set_same (by assumption)) (by first | exact lg8 | exact kg_tailb (by kernel_rfl) (kg_tailb (by kernel_rfl) (kg_tailb (by kernel_rfl) (kg_tailb (by kernel_rfl) (kg_tailb (by kernel_rfl) (kg_tailb (by kernel_rfl) (kg_tailb (by kernel_rfl) (kg_tailb (by kernel_rfl) kg_head))))))))) (ar_cons rfl (pu_loc (by kernel_rfl) (by assumption)) (ar_cons rfl pu_int ar_nil))) (by exact (Nat.le_of_ble_eq_true rfl))) ?_; refine as_tup rfl ?_; refine ass_cons rfl ?_; refine' as_led (by kernel_rfl) (by assumption) (get_set_same (by assumption)) (by exact Nat.le_of_ble_eq_true rfl) kl_window ?_; refine ass_cons rfl ?_; refine' as_led (by kernel_rfl) (by assumption) (get_set_same (get_set_same (by assumption))) (by exact Nat.le_of_ble_eq_true rfl) kl_met ?_; refine ass_cons rfl ?_; refine' as_led (by kernel_rfl) (by assumption) (get_set_same (get_set_same (get_set_same (by assumption)))) (by exact Nat.le_of_ble_eq_true rfl) kl_shares ?_; refine ass_nil ?_; refine then_next ?_; refine xs_nil ?_; refine then_next ?_; refine xs_nil ?_; rotate_left)
      refine Eq.mp (congrArg (Q AV.none) ?_) q
      simp [lostS, inrec]
    | some m =>
      focus (refine next_cons ?_; refine ex_if ?_; refine te_all ?_; refine al_or ?_; refine' te_cmpp rfl (pu_led (by kernel_rfl) (by assumption) (by assumption) (by first | exact lg9 | exact kg_tailb (by kernel_rfl) (kg_tailb (by kernel_rfl) (kg_tailb (by kernel_rfl) (kg_tailb (by kernel_rfl) (kg_tailb (by kernel_rfl) (kg_tailb (by kernel_rfl) (kg_tailb (by kernel_rfl) (kg_tailb (by kernel_rfl) (kg_tailb (by kernel_rfl) kg_head)))))))))) pu_non ac_isi ?_; refine split_f2 ?_; refine al_or ?_; refine' te_cmpp rfl (pu_loc (by kernel_rfl) (by assumption)) (pu_led (by kernel_rfl) (by assumption) (by assumption) (by first | exact lg9 | exact kg_tailb (by kernel_rfl) (kg_tailb (by kernel_rfl) (kg_tailb (by kernel_rfl) (kg_tailb (by kernel_rfl) (kg_tailb (by kernel_rfl) (kg_tailb (by kernel_rfl) (kg_tailb (by kernel_rfl) (kg_tailb (by kernel_rfl) (kg_tailb (by kernel_rfl) kg_head)))))))))) ac_gt ?_; refine split_x2 (fun _ => ?_) (fun _ => ?_); refine al_or_nil ?_; refine split_f ?_; refine xs_nil ?_; refine then_next ?_; refine xs_nil ?_; rotate_left; refine split_t ?_; refine xs_assign (by kernel_rfl) ?_; refine' ev_callA (Nat.le_of_ble_eq_true rfl) (by kernel_rfl) (ar_cons rfl (pu_bin (pu_led (by kernel_rfl) (by assumption) (by assumption) (by first | exact lg7 | exact kg_tailb (by kernel_rfl) (kg_tailb (by kernel_rfl) (kg_tailb (by kernel_rfl) (kg_tailb (by kernel_rfl) (kg_tailb (by kernel_rfl) (kg_tailb (by kernel_rfl) (kg_tailb (by kernel_rfl) kg_head)))))))) pu_int (abin_fdiv (by omega) (fits_of (by dsimp only; omega) (by dsimp only; omega)) (by kernel_rfl))) (ar_cons rfl pu_int ar_nil)) ?_; refine cn_bi nb_max ab_max ?_; refine' as_led (by kernel_rfl) (by assumption) (by assumption) (by exact Nat.le_of_ble_eq_true rfl) kl_thr ?_; refine next_assign (by kernel_rfl) ?_; refine' ev_pu (pu_tup (ar_cons rfl (pu_led (by kernel_rfl) (by assumption) (get_set_same (by assumption)) (by first | exact lg8 | exact kg_tailb (by kernel_rfl) (kg_tailb (by kernel_rfl) (kg_tailb (by kernel_rfl) (kg_tailb (by kernel_rfl) (kg_tailb (by kernel_rfl) (kg_tailb (by kernel_rfl) (kg_tailb (by kernel_rfl) (kg_tailb (by kernel_rfl) kg_head))))))))) (ar_cons rfl (pu_loc (by kernel_rfl) (by assumption)) (ar_cons rfl pu_int ar_nil))) (by exact (Nat.le_of_ble_eq_true rfl))) ?_; refine as_tup rfl ?_; refine ass_cons rfl ?_; refine' as_led (by kernel_rfl) (by assumption) (get_set_same (by assumption)) (by exact Nat.le_of_ble_eq_true rfl) kl_window ?_; refine ass_cons rfl ?_; refine' as_led (by kernel_rfl) (by assumption) (get_set_same (get_set_same (by assumption))) (by exact Nat.le_of_ble_eq_true rfl) kl_met ?_; refine ass_cons rfl ?_; refine' as_led (by kernel_rfl) (by assumption) (get_set_same (get_set_same (get_set_same (by assumption)))) (by exact Nat.le_of_ble_eq_true rfl) kl_shares ?_; refine ass_nil ?_; refine then_next ?_; refine xs_nil ?_; refine then_next ?_; refine xs_nil ?_; rotate_left)
      · rename_i h9
        have h9 : last ≤ m := by simpa using h9
        refine Eq.mp (congrArg (Q AV.none) ?_) q
        simp only [lostS, inrec, decide_eq_true h9, if_true]
        exact set_self h5'
      · rename_i h9
        have h9 : ¬ last ≤ m := by simpa using h9
        refine Eq.mp (congrArg (Q AV.none) ?_) q
        simp [lostS, inrec, h9]
/-- when the probe is due, by the ledger -/
noncomputable def probeAt (l : Led) (m : Int) : Int := m + (l.eighths / 8 + max l.fourths 1000 + 25000) * 2 ^ l.probes.toNat
theorem law_probe_none_spec {l : Led} (h5 : H[5]? = some (.dictS (ledL l))) (h6 : H[6]? = some (dO v (rowsE []))) (q : Q .none (H ++ [.dictE])) : Cl (n + 30) (fdef 37) [.ref 5] H Q := by
  ((refine cl_intro (fd := ⟨_, _, _, _⟩) rfl rfl ?_); dsimp only [List.map, List.zip, List.zipWith])
  focus (refine xs_cons ?_; refine ex_if ?_; refine te_cmp rfl ?_; refine' ev_led (by kernel_rfl) kg_head (by assumption) kg_head ?_; refine ev_dict0 ?_; rotate_left)
  refine ⟨_, ac_eq_dict (get_old h6) (fun _ => rfl) get_snoc (Nat.ne_of_lt (lt_of_get h6)), ?_⟩
  focus (refine split_ct rfl ?_; refine xs_cons ?_; refine' ret_pu pu_non ?_; refine then_ret ?_; rotate_left)
  exact q
set_option maxHeartbeats 1000000 in
theorem law_probe_some_spec {l : Led} {m : Int} (h5 : H[5]? = some (.dictS (ledL l))) (h6 : H[6]? = some (.dictI (rowsE R))) (hR : R.length < 64) (hne : R ≠ []) (hm : maxL (R.map (·.time)) = some m) (hB : 1000000 ≤ B ∧ 1048576 * B ≤ BIG)
    (h8 : -(64 * B) ≤ l.eighths ∧ l.eighths ≤ 64 * B) (h4 : -(64 * B) ≤ l.fourths ∧ l.fourths ≤ 64 * B) (hp : 0 ≤ l.probes ∧ l.probes ≤ 20)
    (q : Q (.tup [.int (probeAt l m), .str "application"]) (H ++ [.dictE])) : Cl (n + 30) (fdef 37) [.ref 5] H Q := by
  ((refine cl_intro (fd := ⟨_, _, _, _⟩) rfl rfl ?_); dsimp only [List.map, List.zip, List.zipWith])
  focus (refine xs_cons ?_; refine ex_if ?_; refine te_cmp rfl ?_; refine' ev_led (by kernel_rfl) kg_head (by assumption) kg_head ?_; refine ev_dict0 ?_; rotate_left)
  refine ⟨_, ac_eq_dict (v := false) (get_old h6) (fun h => nomatch h) get_snoc (Nat.ne_of_lt (lt_of_get h6)), ?_⟩
  have hemp : (rowsE R).isEmpty = false := by cases R with | nil => exact absurd rfl hne | cons _ _ => rfl
  rw [hemp]
  have h2 : (2 : Int) ^ l.probes.toNat ≤ 1048576 := by
    have h : l.probes.toNat ≤ 20 := by omega
    have := Nat.pow_le_pow_right (n := 2) (by decide) h
    have e : ((2 ^ l.probes.toNat : Nat) : Int) ≤ ((2 ^ 20 : Nat) : Int) := Int.ofNat_le.mpr this
    simpa using e
  have h3 : (0 : Int) ≤ 2 ^ l.probes.toNat := Int.pow_nonneg (by decide)
  focus (refine split_f ?_; refine xs_nil ?_; refine next_assign (by kernel_rfl) ?_; refine ev_bin ?_; refine ev_bin ?_; refine' ev_pu (pu_bin (pu_led (by kernel_rfl) kg_head (get_old (by assumption)) (by first | exact lg5 | exact rg5 | exact kg_tailb (by kernel_rfl) (kg_tailb (by kernel_rfl) (kg_tailb (by kernel_rfl) (kg_tailb (by kernel_rfl) (kg_tailb (by kernel_rfl) kg_head)))))) pu_int (abin_fdiv (by omega) (fits_of (by omega) (by omega)) (by kernel_rfl))) ?_; refine' ev_callA (Nat.le_of_ble_eq_true rfl) (by kernel_rfl) (ar_cons rfl (pu_led (by kernel_rfl) kg_head (get_old (by assumption)) (by first | exact lg6 | exact kg_tailb (by kernel_rfl) (kg_tailb (by kernel_rfl) (kg_tailb (by kernel_rfl) (kg_tailb (by kernel_rfl) (kg_tailb (by kernel_rfl) (kg_tailb (by kernel_rfl) kg_head))))))) (ar_cons rfl pu_int ar_nil)) ?_; refine cn_bi nb_max ab_max ?_; refine ⟨_, abin_add, ?_⟩; refine ev_int ?_; refine ⟨_, abin_add, ?_⟩; refine as_nameb (by kernel_rfl) ?_; refine next_cons ?_; refine ex_ret ?_; refine ev_tup ?_; refine evs_cons rfl ?_; refine ev_bin ?_; refine ev_call (Nat.le_of_ble_eq_true rfl) (by kernel_rfl) ?_; refine evs_cons rfl ?_; refine ev_comp (by kernel_rfl) ?_; refine ev_meth ⟨Nat.le_of_ble_eq_true rfl, rfl, rfl⟩ ?_; refine' ev_led (by kernel_rfl) (kgp_neb (by kernel_rfl) kg_head) (get_old (by assumption)) kg_head ?_; refine mg_d (.inr (.inl rfl)) ?_; refine hob_old ?_; refine' hob_of (by assumption) ?_; refine and_dict rfl ?_; refine evs_nil ?_; refine me_values ?_; refine hob_old ?_; refine' hob_of (by assumption) ?_; refine and_id rfl ?_; rotate_left)
  refine cit_view (v := false) (es := rowsE R) (get_old h6) (fun h => nomatch h) (by rw [rowsE_length]; omega) ⟨rfl, rfl⟩ ?_
  rw [rowsE_vals]
  refine co_map (fun r => some (.int r.time)) (by rw [← rowsE_vals]; exact aguard_self (it_view (v := false) (get_old h6) (fun h => nomatch h))) ?_ ?_
  · intro r hr
    focus (refine on_pair ?_; refine one_plain ?_; refine' ev_locv (by kernel_rfl) (kgp_neb (by kernel_rfl) kgp_same) ?_; rotate_left)
    exact ⟨rfl, rfl⟩
  rw [filterMap_all, map_iL (fun r : Row => r.time)]
  focus (refine evs_nil ?_; rotate_left)
  refine cn_bi nb_max (ab_maxl (by rw [iL_length, List.length_map]; omega) (intsOf_iL _) hm) ?_
  focus (refine' ev_pu (pu_bin (pu_loc (by kernel_rfl) kgp_same) (pu_bin pu_int (pu_led (by kernel_rfl) (kgp_neb (by kernel_rfl) kg_head) (get_old (by assumption)) (by first | exact lg11 | exact kg_tailb (by kernel_rfl) (kg_tailb (by kernel_rfl) (kg_tailb (by kernel_rfl) (kg_tailb (by kernel_rfl) (kg_tailb (by kernel_rfl) (kg_tailb (by kernel_rfl) (kg_tailb (by kernel_rfl) (kg_tailb (by kernel_rfl) (kg_tailb (by kernel_rfl) (kg_tailb (by kernel_rfl) (kg_tailb (by kernel_rfl) kg_head)))))))))))) (abin_pow (⟨by omega, by omega, by decide⟩))) (abin_mul (fits_of (by omega) (by omega)) (fits_of (by omega) (by omega)))) ?_; refine ⟨_, abin_add, ?_⟩; refine evs_cons rfl ?_; refine ev_str ?_; refine evs_nil ?_; refine and_len (Nat.le_of_ble_eq_true rfl) ?_; refine then_ret ?_; rotate_left)
  exact q
end

section
variable {n : Nat} {H : AH} {B : Int} {j : Nat} {Q : AV → AH → Prop}
theorem asked_spec {mx : Option Int} (hj : H[j]? = some (.dictS [("application", oi mx)])) (q : Q (.bool mx.isSome) H) : Cl (n + 30) (fdef 29) [.ref j] H Q := by
  ((refine cl_intro (fd := ⟨_, _, _, _⟩) rfl rfl ?_); dsimp only [List.map, List.zip, List.zipWith])
  focus (refine xs_cons ?_; refine ex_ret ?_; refine ev_call (Nat.le_of_ble_eq_true rfl) (by kernel_rfl) ?_; refine evs_cons rfl ?_; refine ev_comp (by kernel_rfl) ?_; refine ev_globs (eg_of gc11 (by kernel_rfl) ?_); refine cit_tup (Nat.le_of_ble_eq_true rfl) rfl ?_; rotate_left)
  refine co_map (S := [Str.ofString "initial", Str.ofString "handshake", Str.ofString "application"]) (key := AV.str) (fun s => some (.bool (if s = Str.ofString "application" then mx.isSome else false))) rfl ?_ ?_
  · intro s hs
    simp only [List.mem_cons, List.not_mem_nil, or_false] at hs
    rcases hs with rfl | rfl | rfl
    · focus (refine on_name ?_; refine one_plain ?_; refine ev_cmp rfl ?_; refine ev_meth ⟨Nat.le_of_ble_eq_true rfl, rfl, rfl⟩ ?_; refine' ev_locv (by kernel_rfl) (kgp_neb (by kernel_rfl) (kget_locFree (by kernel_rfl) kg_head)) ?_; refine mg_d (.inr (.inr (.inl rfl))) ?_; refine' hob_of (by assumption) ?_; refine and_dict rfl ?_; refine' evs_loc (by kernel_rfl) kgp_same ?_; refine evs_nil ?_; refine me_getN ?_; refine' hob_of (by assumption) ?_; refine ⟨_, rfl, kg1_noneb (by kernel_rfl), ?_⟩; refine ev_non ?_; refine ⟨_, ac_isnotn, ?_⟩; rotate_left)
      exact ⟨by rw [if_neg (by decide +kernel)], rfl⟩
    · focus (refine on_name ?_; refine one_plain ?_; refine ev_cmp rfl ?_; refine ev_meth ⟨Nat.le_of_ble_eq_true rfl, rfl, rfl⟩ ?_; refine' ev_locv (by kernel_rfl) (kgp_neb (by kernel_rfl) (kget_locFree (by kernel_rfl) kg_head)) ?_; refine mg_d (.inr (.inr (.inl rfl))) ?_; refine' hob_of (by assumption) ?_; refine and_dict rfl ?_; refine' evs_loc (by kernel_rfl) kgp_same ?_; refine evs_nil ?_; refine me_getN ?_; refine' hob_of (by assumption) ?_; refine ⟨_, rfl, kg1_noneb (by kernel_rfl), ?_⟩; refine ev_non ?_; refine ⟨_, ac_isnotn, ?_⟩; rotate_left)
      exact ⟨by rw [if_neg (by decide +kernel)], rfl⟩
    · focus (refine on_name ?_; refine one_plain ?_; refine ev_cmp rfl ?_; refine ev_meth ⟨Nat.le_of_ble_eq_true rfl, rfl, rfl⟩ ?_; refine' ev_locv (by kernel_rfl) (kgp_neb (by kernel_rfl) (kget_locFree (by kernel_rfl) kg_head)) ?_; refine mg_d (.inr (.inr (.inl rfl))) ?_; refine' hob_of (by assumption) ?_; refine and_dict rfl ?_; refine' evs_loc (by kernel_rfl) kgp_same ?_; refine evs_nil ?_; refine me_getS ?_; refine' hob_of (by assumption) ?_; refine ⟨_, rfl, ?_⟩; refine kob_head ?_; refine ev_non ?_; refine ⟨_, ac_isnot_oi, ?_⟩; rotate_left)
      exact ⟨by rw [if_pos rfl], rfl⟩
  rw [filterMap_all]
  have e : List.map (fun s : Str => AV.bool (if s = Str.ofString "application" then mx.isSome else false)) [Str.ofString "initial", Str.ofString "handshake", Str.ofString "application"] = List.map AV.bool [false, false, mx.isSome] := by
    simp [ofString_inj]
  rw [e]
  focus (refine evs_nil ?_; rotate_left)
  refine cn_bi nb_any (ab_anyb (Nat.le_of_ble_eq_true rfl)) ?_
  rw [show ([false, false, mx.isSome] : List Bool).any id = mx.isSome by simp]
  focus (refine then_ret ?_; rotate_left)
  exact q
theorem probe_times_spec {m base c : Int} (hj : H[j]? = some (.dictS [("application", .int m)])) (hB : 1000000 ≤ B ∧ 1048576 * B ≤ BIG) (hb : -(B * 4) ≤ base ∧ base ≤ B * 4) (hc : 0 ≤ c ∧ c ≤ 20)
    (q : Q (.ref H.length) (H ++ [.dictS [("application", .int (m + (base + 25000) * 2 ^ c.toNat))]])) : Cl (n + 40) (fdef 28) [.ref j, .int base, .int 25000, .int c, .bool true] H Q := by
  ((refine cl_intro (fd := ⟨_, _, _, _⟩) rfl rfl ?_); dsimp only [List.map, List.zip, List.zipWith])
  focus (refine xs_assign (by kernel_rfl) ?_; refine ev_dict0 ?_; refine as_nameb (by kernel_rfl) ?_; refine next_cons ?_; refine ex_for ⟨by kernel_rfl, rfl⟩ ?_; refine ev_globs (eg_of gc11 (by kernel_rfl) ?_); refine fit_tup (Nat.le_of_ble_eq_true rfl) ?_; refine fo_cons rfl ?_; refine xs_assign (by kernel_rfl) ?_; refine ev_meth ⟨Nat.le_of_ble_eq_true rfl, rfl, rfl⟩ ?_; refine' ev_locv (by kernel_rfl) (kgp_neb (by kernel_rfl) (kgp_neb (by kernel_rfl) kg_head)) ?_; refine mg_d (.inr (.inr (.inl rfl))) ?_; refine hob_old ?_; refine' hob_of (by assumption) ?_; refine and_dict rfl ?_; refine' evs_loc (by kernel_rfl) kgp_same ?_; refine evs_nil ?_; refine me_getN ?_; refine hob_old ?_; refine' hob_of (by assumption) ?_; refine ⟨_, rfl, kg1_noneb (by kernel_rfl), ?_⟩; refine as_nameb (by kernel_rfl) ?_; refine next_cons ?_; refine ex_if ?_; refine te_all ?_; refine al_or ?_; refine' te_cmpp rfl (pu_loc (by kernel_rfl) kgp_same) pu_non ac_isn ?_; refine split_t2 ?_; refine split_t ?_; refine xs_cons ?_; refine ex_cont ?_; refine then_cont ?_; refine then_cont ?_; refine nx_cont ?_; refine fo_cons rfl ?_; refine xs_assign (by kernel_rfl) ?_; refine ev_meth ⟨Nat.le_of_ble_eq_true rfl, rfl, rfl⟩ ?_; refine' ev_locv (by kernel_rfl) (kgp_neb (by kernel_rfl) (kgp_neb (by kernel_rfl) (kgp_neb (by kernel_rfl) (kgp_neb (by kernel_rfl) kg_head)))) ?_; refine mg_d (.inr (.inr (.inl rfl))) ?_; refine hob_old ?_; refine' hob_of (by assumption) ?_; refine and_dict rfl ?_; refine' evs_loc (by kernel_rfl) kgp_same ?_; refine evs_nil ?_; refine me_getN ?_; refine hob_old ?_; refine' hob_of (by assumption) ?_; refine ⟨_, rfl, kg1_noneb (by kernel_rfl), ?_⟩; refine as_nameb (by kernel_rfl) ?_; refine next_cons ?_; refine ex_if ?_; refine te_all ?_; refine al_or ?_; refine' te_cmpp rfl (pu_loc (by kernel_rfl) kgp_same) pu_non ac_isn ?_; refine split_t2 ?_; refine split_t ?_; refine xs_cons ?_; refine ex_cont ?_; refine then_cont ?_; refine then_cont ?_; refine nx_cont ?_; refine fo_cons rfl ?_; refine xs_assign (by kernel_rfl) ?_; refine ev_meth ⟨Nat.le_of_ble_eq_true rfl, rfl, rfl⟩ ?_; refine' ev_locv (by kernel_rfl) (kgp_neb (by kernel_rfl) (kgp_neb (by kernel_rfl) (kgp_neb (by kernel_rfl) (kgp_neb (by kernel_rfl) (kgp_neb (by kernel_rfl) (kgp_neb (by kernel_rfl) kg_head)))))) ?_; refine mg_d (.inr (.inr (.inl rfl))) ?_; refine hob_old ?_; refine' hob_of (by assumption) ?_; refine and_dict rfl ?_; refine' evs_loc (by kernel_rfl) kgp_same ?_; refine evs_nil ?_; refine me_getS ?_; refine hob_old ?_; refine' hob_of (by assumption) ?_; refine ⟨_, rfl, ?_⟩; refine kob_head ?_; refine as_nameb (by kernel_rfl) ?_; refine next_cons ?_; refine ex_if ?_; refine te_all ?_; refine al_or ?_; refine' te_cmpp rfl (pu_loc (by kernel_rfl) kgp_same) pu_non ac_isi ?_; refine split_f2 ?_; refine al_or ?_; refine te_all ?_; refine al_and ?_; refine' te_cmpl rfl (by kernel_rfl) (kgp_neb (by kernel_rfl) kgp_same) ?_; refine ev_str ?_; refine ⟨_, acs_app, ?_⟩; refine split_t ?_; refine al_and ?_; refine te_not ?_; refine te_name ?_; refine' ev_locv (by kernel_rfl) (kgp_neb (by kernel_rfl) (kgp_neb (by kernel_rfl) (kgp_neb (by kernel_rfl) (kgp_neb (by kernel_rfl) (kgp_neb (by kernel_rfl) (kgp_neb (by kernel_rfl) (kgp_neb (by kernel_rfl) (kg_tailb (by kernel_rfl) (kg_tailb (by kernel_rfl) (kg_tailb (by kernel_rfl) (kg_tailb (by kernel_rfl) kg_head))))))))))) ?_; refine ⟨_, rfl, ?_⟩; refine split_nt ?_; refine split_f2 ?_; refine al_or_nil ?_; refine split_f ?_; refine xs_nil ?_; refine next_assign (by kernel_rfl) ?_; refine ev_if ?_; refine' te_cmpl rfl (by kernel_rfl) (kgp_neb (by kernel_rfl) kgp_same) ?_; refine ev_str ?_; refine ⟨_, acs_app, ?_⟩; refine split_t ?_; refine' ev_locv (by kernel_rfl) (kgp_neb (by kernel_rfl) (kgp_neb (by kernel_rfl) (kgp_neb (by kernel_rfl) (kgp_neb (by kernel_rfl) (kgp_neb (by kernel_rfl) (kgp_neb (by kernel_rfl) (kgp_neb (by kernel_rfl) (kg_tailb (by kernel_rfl) (kg_tailb (by kernel_rfl) kg_head))))))))) ?_; refine as_nameb (by kernel_rfl) ?_; refine next_assign (by kernel_rfl) ?_; refine ev_bin ?_; refine' ev_locv (by kernel_rfl) (kgp_neb (by kernel_rfl) kgp_same) ?_; refine' ev_callA (Nat.le_of_ble_eq_true rfl) (by kernel_rfl) (ar_cons rfl (pu_loc (by kernel_rfl) (kgp_neb (by kernel_rfl) (kgp_neb (by kernel_rfl) (kgp_neb (by kernel_rfl) (kgp_neb (by kernel_rfl) (kgp_neb (by kernel_rfl) (kgp_neb (by kernel_rfl) (kgp_neb (by kernel_rfl) (kgp_neb (by kernel_rfl) (kg_tailb (by kernel_rfl) kg_head)))))))))) (ar_cons rfl (pu_loc (by kernel_rfl) kgp_same) (ar_cons rfl (pu_loc (by kernel_rfl) (kgp_neb (by kernel_rfl) (kgp_neb (by kernel_rfl) (kgp_neb (by kernel_rfl) (kgp_neb (by kernel_rfl) (kgp_neb (by kernel_rfl) (kgp_neb (by kernel_rfl) (kgp_neb (by kernel_rfl) (kgp_neb (by kernel_rfl) (kg_tailb (by kernel_rfl) (kg_tailb (by kernel_rfl) (kg_tailb (by kernel_rfl) kg_head)))))))))))) ar_nil))) ?_; refine cn_user fi9 ?_; rotate_left)
  refine probe_period_spec hB hb ⟨by omega, by omega⟩ hc ?_
  focus (refine ⟨_, abin_add, ?_⟩; refine as_sub ?_; refine' ev_locv (by kernel_rfl) (kgp_neb (by kernel_rfl) (kgp_neb (by kernel_rfl) (kgp_neb (by kernel_rfl) (kgp_neb (by kernel_rfl) (kgp_neb (by kernel_rfl) (kgp_neb (by kernel_rfl) (kgp_neb (by kernel_rfl) kgp_same))))))) ?_; refine' ev_locv (by kernel_rfl) (kgp_neb (by kernel_rfl) (kgp_neb (by kernel_rfl) kgp_same)) ?_; refine si_e ?_; refine hob_snoc ?_; refine and_dE ?_; refine then_next ?_; refine xs_nil ?_; refine nx_next ?_; refine fo_nil rfl ?_; refine next_cons ?_; refine' ret_pu (pu_loc (by kernel_rfl) (kgp_neb (by kernel_rfl) (kgp_neb (by kernel_rfl) (kgp_neb (by kernel_rfl) (kgp_neb (by kernel_rfl) (kgp_neb (by kernel_rfl) (kgp_neb (by kernel_rfl) (kgp_neb (by kernel_rfl) kgp_same)))))))) ?_; rotate_left)
  rw [set_snoc]
  exact q
theorem earliest_spec {m : Int} (hj : H[j]? = some (.dictS [("application", .int m)])) (q : Q (.tup [.int m, .str "application"]) H) : Cl (n + 40) (fdef 27) [.ref j] H Q := by
  ((refine cl_intro (fd := ⟨_, _, _, _⟩) rfl rfl ?_); dsimp only [List.map, List.zip, List.zipWith])
  focus (refine' xs_letp (by kernel_rfl) (by kernel_rfl) pu_non ?_; refine next_cons ?_; refine ex_for ⟨by kernel_rfl, rfl⟩ ?_; refine ev_globs (eg_of gc11 (by kernel_rfl) ?_); refine fit_tup (Nat.le_of_ble_eq_true rfl) ?_; refine fo_cons rfl ?_; refine xs_assign (by kernel_rfl) ?_; refine ev_meth ⟨Nat.le_of_ble_eq_true rfl, rfl, rfl⟩ ?_; refine' ev_locv (by kernel_rfl) (kgp_neb (by kernel_rfl) (kgp_neb (by kernel_rfl) kg_head)) ?_; refine mg_d (.inr (.inr (.inl rfl))) ?_; refine' hob_of (by assumption) ?_; refine and_dict rfl ?_; refine' evs_loc (by kernel_rfl) kgp_same ?_; refine evs_nil ?_; refine me_getN ?_; refine' hob_of (by assumption) ?_; refine ⟨_, rfl, kg1_noneb (by kernel_rfl), ?_⟩; refine as_nameb (by kernel_rfl) ?_; refine next_cons ?_; refine ex_if ?_; refine te_all ?_; refine al_and ?_; refine' te_cmpp rfl (pu_loc (by kernel_rfl) kgp_same) pu_non ac_isnotn ?_; refine split_f ?_; refine split_f ?_; refine xs_nil ?_; refine then_next ?_; refine xs_nil ?_; refine nx_next ?_; refine fo_cons rfl ?_; refine xs_assign (by kernel_rfl) ?_; refine ev_meth ⟨Nat.le_of_ble_eq_true rfl, rfl, rfl⟩ ?_; refine' ev_locv (by kernel_rfl) (kgp_neb (by kernel_rfl) (kgp_neb (by kernel_rfl) (kgp_neb (by kernel_rfl) (kgp_neb (by kernel_rfl) kg_head)))) ?_; refine mg_d (.inr (.inr (.inl rfl))) ?_; refine' hob_of (by assumption) ?_; refine and_dict rfl ?_; refine' evs_loc (by kernel_rfl) kgp_same ?_; refine evs_nil ?_; refine me_getN ?_; refine' hob_of (by assumption) ?_; refine ⟨_, rfl, kg1_noneb (by kernel_rfl), ?_⟩; refine as_nameb (by kernel_rfl) ?_; refine next_cons ?_; refine ex_if ?_; refine te_all ?_; refine al_and ?_; refine' te_cmpp rfl (pu_loc (by kernel_rfl) kgp_same) pu_non ac_isnotn ?_; refine split_f ?_; refine split_f ?_; refine xs_nil ?_; refine then_next ?_; refine xs_nil ?_; refine nx_next ?_; refine fo_cons rfl ?_; refine xs_assign (by kernel_rfl) ?_; refine ev_meth ⟨Nat.le_of_ble_eq_true rfl, rfl, rfl⟩ ?_; refine' ev_locv (by kernel_rfl) (kgp_neb (by kernel_rfl) (kgp_neb (by kernel_rfl) (kgp_neb (by kernel_rfl) (kgp_neb (by kernel_rfl) (kgp_neb (by kernel_rfl) (kgp_neb (by kernel_rfl) kg_head)))))) ?_; refine mg_d (.inr (.inr (.inl rfl))) ?_; refine' hob_of (by assumption) ?_; refine and_dict rfl ?_; refine' evs_loc (by kernel_rfl) kgp_same ?_; refine evs_nil ?_; refine me_getS ?_; refine' hob_of (by assumption) ?_; refine ⟨_, rfl, ?_⟩; refine kob_head ?_; refine as_nameb (by kernel_rfl) ?_; refine next_cons ?_; refine ex_if ?_; refine te_all ?_; refine al_and ?_; refine' te_cmpp rfl (pu_loc (by kernel_rfl) kgp_same) pu_non ac_isnoti ?_; refine split_t ?_; refine al_and ?_; refine te_all ?_; refine al_or ?_; refine' te_cmpp rfl (pu_loc (by kernel_rfl) (kgp_neb (by kernel_rfl) (kgp_neb (by kernel_rfl) (kgp_neb (by kernel_rfl) (kgp_neb (by kernel_rfl) (kgp_neb (by kernel_rfl) (kgp_neb (by kernel_rfl) kgp_same))))))) pu_non ac_isn ?_; refine split_t2 ?_; refine split_t ?_; refine al_and_nil ?_; refine split_t ?_; refine' xs_letp (by kernel_rfl) (by kernel_rfl) (pu_tup (ar_cons rfl (pu_loc (by kernel_rfl) kgp_same) (ar_cons rfl (pu_loc (by kernel_rfl) (kgp_neb (by kernel_rfl) kgp_same)) ar_nil)) (by exact (Nat.le_of_ble_eq_true rfl))) ?_; refine then_next ?_; refine xs_nil ?_; refine then_next ?_; refine xs_nil ?_; refine nx_next ?_; refine fo_nil rfl ?_; refine next_cons ?_; refine' ret_pu (pu_loc (by kernel_rfl) kgp_same) ?_; rotate_left)
  exact q
theorem probe_due_none_spec {base c now : Int} {a b d : Bool} (hj : H[j]? = some (.dictS [("application", .none)])) (q : Q .none H) :
    Cl (n + 60) (fdef 30) [.ref j, .int base, .int 25000, .int c, .bool a, .bool true, .bool d, .int now] H Q := by
  ((refine cl_intro (fd := ⟨_, _, _, _⟩) rfl rfl ?_); dsimp only [List.map, List.zip, List.zipWith])
  focus (refine xs_cons ?_; refine ex_if ?_; refine te_call ?_; refine' ev_callA (Nat.le_of_ble_eq_true rfl) (by kernel_rfl) (ar_cons rfl (pu_loc (by kernel_rfl) kg_head) ar_nil) ?_; refine cn_user fi12 ?_; rotate_left)
  refine asked_spec (mx := none) hj ?_
  focus (refine ⟨_, rfl, ?_⟩; refine split_cf rfl ?_; refine xs_nil ?_; refine next_cons ?_; refine ex_if ?_; refine te_name ?_; refine' ev_locv (by kernel_rfl) (kg_tailb (by kernel_rfl) (kg_tailb (by kernel_rfl) (kg_tailb (by kernel_rfl) (kg_tailb (by kernel_rfl) (kg_tailb (by kernel_rfl) kg_head))))) ?_; refine ⟨_, rfl, ?_⟩; refine split_t ?_; refine xs_cons ?_; refine' ret_pu pu_non ?_; refine then_ret ?_; rotate_left)
  exact q
theorem probe_due_some_spec {m base c now : Int} {b d : Bool} (hj : H[j]? = some (.dictS [("application", .int m)])) (hB : 1000000 ≤ B ∧ 1048576 * B ≤ BIG) (hb : -(B * 4) ≤ base ∧ base ≤ B * 4) (hc : 0 ≤ c ∧ c ≤ 20)
    (q : Q (.tup [.int (m + (base + 25000) * 2 ^ c.toNat), .str "application"]) (H ++ [.dictS [("application", .int (m + (base + 25000) * 2 ^ c.toNat))]])) :
    Cl (n + 60) (fdef 30) [.ref j, .int base, .int 25000, .int c, .bool true, .bool b, .bool d, .int now] H Q := by
  ((refine cl_intro (fd := ⟨_, _, _, _⟩) rfl rfl ?_); dsimp only [List.map, List.zip, List.zipWith])
  focus (refine xs_cons ?_; refine ex_if ?_; refine te_call ?_; refine' ev_callA (Nat.le_of_ble_eq_true rfl) (by kernel_rfl) (ar_cons rfl (pu_loc (by kernel_rfl) kg_head) ar_nil) ?_; refine cn_user fi12 ?_; rotate_left)
  refine asked_spec (mx := some m) hj ?_
  focus (refine ⟨_, rfl, ?_⟩; refine split_ct rfl ?_; refine xs_cons ?_; refine ex_ret ?_; refine ev_call (Nat.le_of_ble_eq_true rfl) (by kernel_rfl) ?_; refine evs_cons rfl ?_; refine' ev_callA (Nat.le_of_ble_eq_true rfl) (by kernel_rfl) (ar_cons rfl (pu_loc (by kernel_rfl) kg_head) (ar_cons rfl (pu_loc (by kernel_rfl) (kg_tailb (by kernel_rfl) kg_head)) (ar_cons rfl (pu_loc (by kernel_rfl) (kg_tailb (by kernel_rfl) (kg_tailb (by kernel_rfl) kg_head))) (ar_cons rfl (pu_loc (by kernel_rfl) (kg_tailb (by kernel_rfl) (kg_tailb (by kernel_rfl) (kg_tailb (by kernel_rfl) kg_head)))) (ar_cons rfl (pu_loc (by kernel_rfl) (kg_tailb (by kernel_rfl) (kg_tailb (by kernel_rfl) (kg_tailb (by kernel_rfl) (kg_tailb (by kernel_rfl) kg_head))))) ar_nil))))) ?_; refine cn_user fi11 ?_; rotate_left)
  refine probe_times_spec hj hB hb hc ?_
  focus (refine evs_nil ?_; refine cn_user fi10 ?_; rotate_left)
  refine earliest_spec get_snoc ?_
  focus (refine then_ret ?_; refine then_ret ?_; rotate_left)
  exact q
end

/-- a state of the law: what is drawn from, the packets under way, the ledger, the sampler's own two -/
structure St where
  xs : List Int
  c : Int
  s : Int
  v : Bool
  R : List Row
  l : Led
  rle : Int
  fa : Option Int
  G : AH
@[reducible] noncomputable def tmpL : List (Str × AV) := [("window", .int 12000), ("threshold", .none), ("met", .none), ("shares", .int 0), ("probes", .int 0)]
noncomputable def heap (S : St) : AH :=
  .list (iL S.xs) :: .list [.ref 0, .int S.c, .int S.s] :: dO S.v (sentE S.R) :: .inst 1 (renL S.l.window (oi S.l.thr) (oi S.l.met) (sizes S.R) S.l.shares) :: .inst 0 (rttL S.l.latest S.rle S.l.eighths S.l.fourths (oi S.fa)) ::
    .dictS (ledL S.l) :: dO S.v (rowsE S.R) :: .dictS tmpL :: S.G
section
variable {S : St}
theorem heap_0 : (heap S)[0]? = some (.list (iL S.xs)) := rfl
theorem heap_1 : (heap S)[1]? = some (.list [.ref 0, .int S.c, .int S.s]) := rfl
theorem heap_2 : (heap S)[2]? = some (dO S.v (sentE S.R)) := rfl
theorem heap_3 : (heap S)[3]? = some (.inst 1 (renL S.l.window (oi S.l.thr) (oi S.l.met) (sizes S.R) S.l.shares)) := rfl
theorem heap_4 : (heap S)[4]? = some (.inst 0 (rttL S.l.latest S.rle S.l.eighths S.l.fourths (oi S.fa))) := rfl
theorem heap_5 : (heap S)[5]? = some (.dictS (ledL S.l)) := rfl
theorem heap_6 : (heap S)[6]? = some (dO S.v (rowsE S.R)) := rfl
theorem heap_len : (heap S).length = S.G.length + 8 := rfl
theorem heap_snoc {o : AObj} : heap S ++ [o] = heap { S with G := S.G ++ [o] } := rfl
end

structure Ok (S : St) (B C N P : Int) : Prop where
  hx : S.xs.length < 1000
  hc : 0 ≤ S.c ∧ S.c ≤ C
  hv : S.v = true → S.R = []
  hr : rising (nums S.R) = true
  hn : ∀ r ∈ S.R, r.num < S.l.nxt
  hsz : ∀ r ∈ S.R, 0 ≤ r.size ∧ r.size ≤ 1200
  htm : ∀ r ∈ S.R, -B ≤ r.time ∧ r.time ≤ B
  hlen : (S.R.length : Int) ≤ S.l.nxt ∧ S.l.nxt ≤ N
  htop : ∀ t, S.l.top = some t → t < S.l.nxt ∧ ∀ r ∈ S.R, r.num ≠ t
  hfa : (S.fa = none ∧ S.l.least = none) ∨ (∃ f, S.fa = some f) ∧ S.l.least = some S.rle
  hrle : -B ≤ S.rle ∧ S.rle ≤ B
  hla : -B ≤ S.l.latest ∧ S.l.latest ≤ B
  h8 : -B ≤ S.l.eighths ∧ S.l.eighths ≤ B
  h4 : -B ≤ S.l.fourths ∧ S.l.fourths ≤ B
  hw : 2400 ≤ S.l.window
  hW : S.l.window + 1201 * (S.R.length : Int) ≤ 12000 + 1201 * S.l.nxt
  hsh : 0 ≤ S.l.shares ∧ S.l.shares < S.l.window
  hp : 0 ≤ S.l.probes ∧ S.l.probes ≤ P

section
variable {S : St} {B C N P : Int}
theorem Ok.nd (o : Ok S B C N P) : (nums S.R).Nodup := (rising_nodup o.hr).1
theorem Ok.vs (o : Ok S B C N P) : S.v = true → sentE S.R = [] := fun h => by rw [o.hv h]; rfl
theorem Ok.vr (o : Ok S B C N P) : S.v = true → rowsE S.R = [] := fun h => by rw [o.hv h]; rfl
theorem Ok.vf (o : Ok S B C N P) {r : Row} (h : r ∈ S.R) : S.v = false := by
  cases q : S.v with
  | false => rfl
  | true => rw [o.hv q] at h; cases h
theorem Ok.wB (o : Ok S B C N P) (hN : N ≤ 60) (hB : 1000000 ≤ B) : 2400 ≤ S.l.window ∧ S.l.window ≤ B := ⟨o.hw, by have := o.hW; have := o.hlen; omega⟩
theorem Ok.len (o : Ok S B C N P) (hN : N ≤ 60) : S.R.length < 64 := by have := o.hlen; omega
/-- looser lines -/
theorem Ok.mono (o : Ok S B C N P) {B' C' N' P' : Int} (hB : B ≤ B') (hC : C ≤ C') (hN : N ≤ N') (hP : P ≤ P') : Ok S B' C' N' P' :=
  { o with
    hc := ⟨o.hc.1, by have := o.hc; omega⟩
    htm := fun r h => by have := o.htm r h; omega
    hlen := ⟨o.hlen.1, by have := o.hlen; omega⟩
    hrle := by have := o.hrle; omega
    hla := by have := o.hla; omega
    h8 := by have := o.h8; omega
    h4 := by have := o.h4; omega
    hp := ⟨o.hp.1, by have := o.hp; omega⟩ }
/-- a draw, and some garbage -/
theorem Ok.draw (o : Ok S B C N P) {xs' : List Int} (h : xs'.length ≤ S.xs.length) {G : AH} : Ok { S with xs := xs', c := S.c + 1, G := G } B (C + 1) N P :=
  { o with hx := Nat.lt_of_le_of_lt h o.hx, hc := ⟨by have := o.hc; show 0 ≤ S.c + 1; omega, by have := o.hc; show S.c + 1 ≤ C + 1; omega⟩ }
theorem Ok.garb (o : Ok S B C N P) {G : AH} : Ok { S with G := G } B C N P := { o with }
end

theorem sizes_snoc (R : List Row) (r : Row) : sizes (R ++ [r]) = sizes R + r.size := by simp [sizes, List.sum_append]
theorem kput_new {α : Type} {l : List (Int × α)} {k : Int} {v : α} (h : ∀ p ∈ l, p.1 ≠ k) : kput l k v = l ++ [(k, v)] := by
  induction l with
  | nil => rfl
  | cons p r ih =>
    obtain ⟨a, b⟩ := p
    unfold kput
    rw [if_neg (h (a, b) (.head _)), ih fun q hq => h q (.tail _ hq)]
    rfl
theorem kput_sentE {R : List Row} {r : Row} (h : ∀ x ∈ R, x.num ≠ r.num) : kput (sentE R) r.num (.tup [.int r.time, .int r.size, .bool true, .bool true]) = sentE (R ++ [r]) := by
  rw [kput_new]
  · simp [sentE]
  · intro p hp
    obtain ⟨x, hx, rfl⟩ := List.mem_map.mp hp
    exact h x hx
theorem kput_rowsE {R : List Row} {r : Row} (h : ∀ x ∈ R, x.num ≠ r.num) : kput (rowsE R) r.num (.tup [.int r.time, .int r.size]) = rowsE (R ++ [r]) := by
  rw [kput_new]
  · simp [rowsE]
  · intro p hp
    obtain ⟨x, hx, rfl⟩ := List.mem_map.mp hp
    exact h x hx
theorem rising_snoc : ∀ {l : List Int} {k : Int}, rising l = true → (∀ x ∈ l, x < k) → rising (l ++ [k]) = true
  | [], k, _, _ => rfl
  | [a], k, _, h => by simp [rising, h a (.head _)]
  | a :: b :: r, k, hr, h => by
    simp only [rising, Bool.and_eq_true, decide_eq_true_eq] at hr
    show (decide (a < b) && rising ((b :: r) ++ [k])) = true
    rw [rising_snoc hr.2 fun x hx => h x (.tail _ hx), decide_eq_true hr.1]; rfl
/-- a packet goes -/
theorem Ok.send {S : St} {B C N P : Int} (o : Ok S B C N P) {now z : Int} (hz : 0 ≤ z ∧ z ≤ 1200) (hnow : -B ≤ now ∧ now ≤ B) :
    Ok { S with v := false, R := S.R ++ [⟨S.l.nxt, now, z⟩], l := { S.l with nxt := S.l.nxt + 1 } } B C (N + 1) P :=
  { o with
    hv := fun h => nomatch h
    hr := by
      show rising (nums (S.R ++ [_])) = true
      unfold nums
      rw [List.map_append]
      refine rising_snoc o.hr fun x hx => ?_
      obtain ⟨r, hr, rfl⟩ := List.mem_map.mp hx
      exact o.hn r hr
    hn := fun r h => by
      rcases List.mem_append.mp h with h | h
      · have := o.hn r h; show r.num < S.l.nxt + 1; omega
      · cases List.mem_singleton.mp h; show S.l.nxt < S.l.nxt + 1; omega
    hsz := fun r h => by
      rcases List.mem_append.mp h with h | h
      · exact o.hsz r h
      · cases List.mem_singleton.mp h; exact hz
    htm := fun r h => by
      rcases List.mem_append.mp h with h | h
      · exact o.htm r h
      · cases List.mem_singleton.mp h; exact hnow
    hlen := by
      have := o.hlen
      show ((S.R ++ [_]).length : Int) ≤ S.l.nxt + 1 ∧ S.l.nxt + 1 ≤ N + 1
      rw [List.length_append]; simp only [List.length_cons, List.length_nil]; omega
    htop := fun t h => by
      obtain ⟨h1, h2⟩ := o.htop t h
      refine ⟨by show t < S.l.nxt + 1; omega, fun r hr => ?_⟩
      rcases List.mem_append.mp hr with hr | hr
      · exact h2 r hr
      · cases List.mem_singleton.mp hr; show S.l.nxt ≠ t; omega
    hW := by
      have := o.hW
      show S.l.window + 1201 * ((S.R ++ [_]).length : Int) ≤ 12000 + 1201 * (S.l.nxt + 1)
      rw [List.length_append]; simp only [List.length_cons, List.length_nil]; omega }
theorem ac_ne_bool_self {H : AH} {b : Bool} : acmp H .NotEq (.bool b) (.bool b) = some false := by cases b <;> rfl

section
variable {n : Nat} {S : St} {B C N P : Int} {Q : AV → AH → Prop}
noncomputable def St.drawn (S : St) (xs' : List Int) : St := { S with xs := xs', c := S.c + 1 }
theorem take_spec {w : Int} (o : Ok S B C N P) (hB : 1000000 ≤ B ∧ 1048576 * B ≤ BIG) (hC : C ≤ 90000) (hw : 0 < w) (q : ∀ r xs', 0 ≤ r ∧ r < w → Ok (S.drawn xs') B (C + 1) N P → Q (.int r) (heap (S.drawn xs'))) : Cl (n + 30) (fdef 32) [.ref 1, .int w] (heap S) Q := by
  refine law_take_spec heap_1 heap_0 o.hx (by have := o.hc; omega) (by omega) hw fun r xs' hr hx => ?_
  exact q r xs' hr (o.draw (G := S.G) hx)
set_option maxHeartbeats 2000000 in
theorem law_send_spec {now : Int} (o : Ok S B C N P) (hB : 1000000 ≤ B ∧ 1048576 * B ≤ BIG) (hN : N ≤ 50) (hC : C ≤ 80000) (hnow : -B ≤ now ∧ now ≤ B)
    (q : ∀ S', Ok S' B (C + 5) (N + 3) P → Q (.bool true) (heap S')) : Cl (n + 60) (fdef 38) [.ref 1, .ref 5, .ref 2, .ref 3, .int now] (heap S) Q := by
  ((refine cl_intro (fd := ⟨_, _, _, _⟩) rfl rfl ?_); dsimp only [List.map, List.zip, List.zipWith])
  focus (refine xs_cons ?_; refine ex_for ⟨by kernel_rfl, rfl⟩ ?_; refine ev_call (Nat.le_of_ble_eq_true rfl) (by kernel_rfl) ?_; refine evs_cons rfl ?_; refine ev_bin ?_; refine ev_int ?_; refine' ev_callA (Nat.le_of_ble_eq_true rfl) (by kernel_rfl) (ar_cons rfl (pu_loc (by kernel_rfl) kg_head) (ar_cons rfl pu_int ar_nil)) ?_; refine cn_user fi14 ?_; rotate_left)
  refine take_spec o hB (by omega) (by decide) fun r xs' hr o1 => ?_
  generalize S.drawn xs' = S1 at o1
  focus (refine ⟨_, abin_add, ?_⟩; refine evs_nil ?_; rotate_left)
  refine cn_bi nb_range (ab_range (by omega)) ?_
  refine ⟨_, rfl, rfl, by show _ < 100000; simp; omega, ?_⟩
  refine fo_map (key := fun i : Nat => AV.int (i : Int)) (fun pre loc H' => ∃ S', H' = heap S' ∧ Ok S' B (C + 1 + pre.length) (N + pre.length) P ∧ kget loc "box" = some (.ref 1) ∧ kget loc "ledger" = some (.ref 5) ∧ kget loc "sent" = some (.ref 2) ∧ kget loc "reno" = some (.ref 3) ∧ kget loc "now" = some (.int now)) ?_ ?_ ?_ ?_
  · exact ⟨S1, rfl, by simpa using o1, by focus (exact kg_head), by focus (exact kg_tailb (by kernel_rfl) (by exact kg_head)), by focus (exact kg_tailb (by kernel_rfl) (by exact kg_tailb (by kernel_rfl) (by exact kg_head))), by focus (exact kg_tailb (by kernel_rfl) (by exact kg_tailb (by kernel_rfl) (by exact kg_tailb (by kernel_rfl) (by exact kg_head)))), by focus (exact kg_tailb (by kernel_rfl) (by exact kg_tailb (by kernel_rfl) (by exact kg_tailb (by kernel_rfl) (by exact kg_tailb (by kernel_rfl) (by exact kg_head)))))⟩
  · intro _ _ _ _; exact rfl
  · rintro pre i suf loc H' e ⟨S', rfl, o2, k1, k2, k3, k4, k5⟩
    have hl : pre.length ≤ 2 := by
      have := congrArg List.length e
      simp at this; omega
    focus (refine xs_assign (by kernel_rfl) ?_; refine ev_sub rfl ?_; refine ev_list ?_; refine evs_int ?_; refine evs_int ?_; refine evs_nil ?_; refine and_len (Nat.le_of_ble_eq_true rfl) ?_; refine' ev_callA (Nat.le_of_ble_eq_true rfl) (by kernel_rfl) (ar_cons rfl (pu_loc (by kernel_rfl) (kgp_neb (by kernel_rfl) (by assumption))) (ar_cons rfl pu_int ar_nil)) ?_; refine cn_user fi14 ?_; rotate_left)
    rw [heap_snoc]
    refine take_spec o2.garb hB (by omega) (by decide) fun r2 xs2 hr2 o3 => ?_
    obtain ⟨z, hz, hget⟩ : ∃ z : Int, (0 ≤ z ∧ z ≤ 1200) ∧ agetitem (heap (St.drawn { S' with G := S'.G ++ [.list [.int 1200, .int 600]] } xs2)) (.ref (heap S').length) (.int r2) = some (.int z) := by
      have hh : (heap (St.drawn { S' with G := S'.G ++ [.list [.int 1200, .int 600]] } xs2))[(heap S').length]? = some (.list [.int 1200, .int 600]) := get_snoc (H := heap (St.drawn S' xs2))
      rcases (show r2 = 0 ∨ r2 = 1 by omega) with rfl | rfl
      · exact ⟨1200, by omega, bd hh (by rfl)⟩
      · exact ⟨600, by omega, bd hh (by rfl)⟩
    refine ⟨_, hget, ?_⟩
    generalize St.drawn { S' with G := S'.G ++ [.list [.int 1200, .int 600]] } xs2 = S2 at o3
    have hlen := o3.len (by omega)
    focus (refine as_nameb (by kernel_rfl) ?_; refine next_assign (by kernel_rfl) ?_; refine ev_cmp rfl ?_; refine ev_bin ?_; refine ev_call (Nat.le_of_ble_eq_true rfl) (by kernel_rfl) ?_; refine evs_cons rfl ?_; refine ev_comp (by kernel_rfl) ?_; refine ev_meth ⟨Nat.le_of_ble_eq_true rfl, rfl, rfl⟩ ?_; refine' ev_led (by kernel_rfl) (kgp_neb (by kernel_rfl) (kgp_neb (by kernel_rfl) (by assumption))) heap_5 kg_head ?_; refine mg_d (.inr (.inl rfl)) ?_; refine hob_of heap_6 ?_; refine and_dict isDict_dO ?_; refine evs_nil ?_; refine me_values ?_; refine hob_of heap_6 ?_; refine and_id isID_dO ?_; rotate_left)
    refine cit_view (v := S2.v) (es := rowsE S2.R) heap_6 o3.vr (by rw [rowsE_length]; omega) ⟨rfl, rfl⟩ ?_
    rw [rowsE_vals]
    refine co_map (fun r => some (.int r.size)) (by rw [← rowsE_vals]; exact aguard_self (it_view heap_6 o3.vr)) ?_ ?_
    · intro r hr
      focus (refine on_name ?_; refine one_plain ?_; refine' ev_pu (pu_sub rfl (pu_loc (by kernel_rfl) kgp_same) pu_int (by exact git rfl rfl)) ?_; rotate_left)
      exact ⟨rfl, rfl⟩
    rw [filterMap_all, map_iL (fun r : Row => r.size)]
    focus (refine evs_nil ?_; rotate_left)
    refine cn_bi nb_sum (ab_sum (by rw [iL_length, List.length_map]; omega) (intsOf_iL _)) ?_
    change Ev _ _ _ _ _ _
    focus (refine' ev_locv (by kernel_rfl) kgp_same ?_; refine ⟨_, abin_add, ?_⟩; refine' ev_led (by kernel_rfl) (kgp_neb (by kernel_rfl) (kgp_neb (by kernel_rfl) (by assumption))) heap_5 (by first | exact lg7 | exact kg_tailb (by kernel_rfl) (kg_tailb (by kernel_rfl) (kg_tailb (by kernel_rfl) (kg_tailb (by kernel_rfl) (kg_tailb (by kernel_rfl) (kg_tailb (by kernel_rfl) (kg_tailb (by kernel_rfl) kg_head))))))) ?_; refine ⟨_, ac_le, ?_⟩; refine as_nameb (by kernel_rfl) ?_; refine next_cons ?_; refine ex_if ?_; refine te_cmp rfl ?_; refine' ev_methu ⟨Nat.le_of_ble_eq_true rfl, rfl, rfl⟩ (by kernel_rfl) (kgp_neb (by kernel_rfl) (kgp_neb (by kernel_rfl) (kgp_neb (by kernel_rfl) (by assumption)))) heap_3 kn5 mi5 (ar_cons rfl (pu_loc (by kernel_rfl) (kgp_neb (by kernel_rfl) kgp_same)) ar_nil) ?_; rotate_left)
    refine may_send_spec heap_3 ?_
    focus (refine' ev_locv (by kernel_rfl) kgp_same ?_; refine ⟨_, ac_ne_bool_self, ?_⟩; refine split_f ?_; refine xs_nil ?_; refine next_cons ?_; refine ex_if ?_; refine te_name ?_; refine' ev_locv (by kernel_rfl) kgp_same ?_; refine ⟨_, rfl, ?_⟩; refine split_x (fun _ => ?_) (fun _ => ?_); refine xs_cons ?_; refine ex_expr ?_; refine' ev_methu ⟨Nat.le_of_ble_eq_true rfl, rfl, rfl⟩ (by kernel_rfl) (kgp_neb (by kernel_rfl) (kgp_neb (by kernel_rfl) (kgp_neb (by kernel_rfl) (by assumption)))) heap_3 kn8 mi8 (ar_cons rfl (pu_loc (by kernel_rfl) (kgp_neb (by kernel_rfl) kgp_same)) ar_nil) ?_; rotate_left; refine xs_nil ?_; refine then_next ?_; refine xs_nil ?_; rotate_left)
    · refine on_sent_spec heap_3 ?_
      focus (refine next_assign (by kernel_rfl) ?_; refine' ev_pu (pu_tup (ar_cons rfl (pu_loc (by kernel_rfl) (kgp_neb (by kernel_rfl) (kgp_neb (by kernel_rfl) (kgp_neb (by kernel_rfl) (by assumption))))) (ar_cons rfl (pu_loc (by kernel_rfl) (kgp_neb (by kernel_rfl) kgp_same)) (ar_cons rfl pu_cb (ar_cons rfl pu_cb ar_nil)))) (by exact (Nat.le_of_ble_eq_true rfl))) ?_; refine as_sub ?_; refine' ev_locv (by kernel_rfl) (kgp_neb (by kernel_rfl) (kgp_neb (by kernel_rfl) (kgp_neb (by kernel_rfl) (by assumption)))) ?_; refine' ev_led (by kernel_rfl) (kgp_neb (by kernel_rfl) (kgp_neb (by kernel_rfl) (kgp_neb (by kernel_rfl) (by assumption)))) (get_set_ne (by decide) heap_5) (by first | exact lg1 | exact rg1 | exact tg1 | exact kg_tailb (by kernel_rfl) kg_head) ?_; rotate_left)
      refine si_d (v := S2.v) (es := sentE S2.R) (get_set_ne (by decide) heap_2) o3.vs (by rw [sentE_length]; omega) ?_
      focus (refine next_assign (by kernel_rfl) ?_; refine' ev_pu (pu_tup (ar_cons rfl (pu_loc (by kernel_rfl) (kgp_neb (by kernel_rfl) (kgp_neb (by kernel_rfl) (kgp_neb (by kernel_rfl) (by assumption))))) (ar_cons rfl (pu_loc (by kernel_rfl) (kgp_neb (by kernel_rfl) kgp_same)) ar_nil)) (by exact (Nat.le_of_ble_eq_true rfl))) ?_; refine as_sub ?_; refine' ev_led (by kernel_rfl) (kgp_neb (by kernel_rfl) (kgp_neb (by kernel_rfl) (kgp_neb (by kernel_rfl) (by assumption)))) (get_set_ne (by decide) (get_set_ne (by decide) heap_5)) kg_head ?_; refine' ev_led (by kernel_rfl) (kgp_neb (by kernel_rfl) (kgp_neb (by kernel_rfl) (kgp_neb (by kernel_rfl) (by assumption)))) (get_set_ne (by decide) (get_set_ne (by decide) heap_5)) (by first | exact lg1 | exact rg1 | exact tg1 | exact kg_tailb (by kernel_rfl) kg_head) ?_; rotate_left)
      refine si_d (v := S2.v) (es := rowsE S2.R) (get_set_ne (by decide) (get_set_ne (by decide) heap_6)) o3.vr (by rw [rowsE_length]; omega) ?_
      focus (refine' next_ledp (by kernel_rfl) (pu_bin (pu_led (by kernel_rfl) (kgp_neb (by kernel_rfl) (kgp_neb (by kernel_rfl) (kgp_neb (by kernel_rfl) (by assumption)))) (get_set_ne (by decide) (get_set_ne (by decide) (get_set_ne (by decide) heap_5))) (by first | exact lg1 | exact rg1 | exact tg1 | exact kg_tailb (by kernel_rfl) kg_head)) pu_int abin_add) (by kernel_rfl) (kgp_neb (by kernel_rfl) (kgp_neb (by kernel_rfl) (kgp_neb (by kernel_rfl) (by assumption)))) (get_set_ne (by decide) (get_set_ne (by decide) (get_set_ne (by decide) heap_5))) (by exact Nat.le_of_ble_eq_true rfl) kl_next ?_; refine then_next ?_; refine xs_nil ?_; refine then_next ?_; refine xs_nil ?_; rotate_left)
      refine ⟨.inl rfl, _, ?_, (o3.send hz hnow).mono (Int.le_refl _) (by simp; omega) (by simp; omega) (Int.le_refl _), by focus (exact kgp_neb (by kernel_rfl) (by exact kgp_neb (by kernel_rfl) (by exact kgp_neb (by kernel_rfl) (by assumption)))), by focus (exact kgp_neb (by kernel_rfl) (by exact kgp_neb (by kernel_rfl) (by exact kgp_neb (by kernel_rfl) (by assumption)))), by focus (exact kgp_neb (by kernel_rfl) (by exact kgp_neb (by kernel_rfl) (by exact kgp_neb (by kernel_rfl) (by assumption)))), by focus (exact kgp_neb (by kernel_rfl) (by exact kgp_neb (by kernel_rfl) (by exact kgp_neb (by kernel_rfl) (by assumption)))), by focus (exact kgp_neb (by kernel_rfl) (by exact kgp_neb (by kernel_rfl) (by exact kgp_neb (by kernel_rfl) (by assumption))))⟩
      have hnew : ∀ x ∈ S2.R, x.num ≠ (⟨S2.l.nxt, now, z⟩ : Row).num := fun x hx => by have := o3.hn x hx; show x.num ≠ S2.l.nxt; omega
      have e1 := kput_sentE hnew
      have e2 := kput_rowsE hnew
      have e3 := sizes_snoc S2.R ⟨S2.l.nxt, now, z⟩
      dsimp only at e1 e2 e3
      rw [e1, e2, ← e3]
      rfl
    · exact ⟨.inl rfl, S2, rfl, o3.mono (Int.le_refl _) (by simp; omega) (by simp; omega) (Int.le_refl _), by focus (exact kgp_neb (by kernel_rfl) (by exact kgp_neb (by kernel_rfl) (by exact kgp_neb (by kernel_rfl) (by assumption)))), by focus (exact kgp_neb (by kernel_rfl) (by exact kgp_neb (by kernel_rfl) (by exact kgp_neb (by kernel_rfl) (by assumption)))), by focus (exact kgp_neb (by kernel_rfl) (by exact kgp_neb (by kernel_rfl) (by exact kgp_neb (by kernel_rfl) (by assumption)))), by focus (exact kgp_neb (by kernel_rfl) (by exact kgp_neb (by kernel_rfl) (by exact kgp_neb (by kernel_rfl) (by assumption)))), by focus (exact kgp_neb (by kernel_rfl) (by exact kgp_neb (by kernel_rfl) (by exact kgp_neb (by kernel_rfl) (by assumption))))⟩
  · rintro loc H' ⟨S', rfl, o2, k1, k2, k3, k4, k5⟩
    rw [List.length_range] at o2
    focus (refine next_cons ?_; refine' ret_pu pu_cb ?_; rotate_left)
    exact q S' (o2.mono (Int.le_refl _) (by omega) (by omega) (Int.le_refl _))
end

theorem Ev.mono {n : Nat} {sc : Sc} {loc : Loc} {e : Expr} {H : AH} {P Q : AV → AH → Prop} (h : Ev n sc loc e H P) (k : ∀ v H', P v H' → Q v H') : Ev n sc loc e H Q := let ⟨v, H', e, p⟩ := h; ⟨v, H', e, k v H' p⟩
theorem Ex.mono {n : Nat} {sc : Sc} {loc : Loc} {s : Stmt} {H : AH} {P Q : AFlow → Loc → AH → Prop} (h : Ex n sc loc s H P) (k : ∀ f l H', P f l H' → Q f l H') : Ex n sc loc s H Q := let ⟨f, l, H', e, p⟩ := h; ⟨f, l, H', e, k f l H' p⟩

theorem rising_iff : ∀ {l : List Int}, rising l = true ↔ l.Pairwise (· < ·)
  | [] => by simp [rising]
  | [a] => by simp [rising]
  | a :: b :: r => by
    have ih := rising_iff (l := b :: r)
    show (decide (a < b) && rising (b :: r)) = true ↔ _
    rw [Bool.and_eq_true, ih, decide_eq_true_eq, List.pairwise_cons (a := a)]
    constructor
    · rintro ⟨h, p⟩
      refine ⟨fun x hx => ?_, p⟩
      rcases List.mem_cons.mp hx with rfl | hx
      · exact h
      · exact Int.lt_trans h ((List.pairwise_cons.mp p).1 x hx)
    · rintro ⟨h, p⟩
      exact ⟨h b (.head _), p⟩
theorem rising_sub {l l' : List Int} (h : l'.Sublist l) (r : rising l = true) : rising l' = true := rising_iff.mpr ((rising_iff.mp r).sublist h)

theorem ackS_ok {w : Int} {t m : Option Int} {cr size time : Int} {lim : Bool} (hw : 2400 ≤ w) (hc : 0 ≤ cr ∧ cr < w) (hs : 0 ≤ size ∧ size ≤ 1200) :
    2400 ≤ (ackS w t m cr size time lim).1 ∧ (ackS w t m cr size time lim).1 ≤ w + 1201 ∧ 0 ≤ (ackS w t m cr size time lim).2 ∧ (ackS w t m cr size time lim).2 < (ackS w t m cr size time lim).1 := by
  unfold ackS
  split
  · dsimp only; omega
  · split
    · dsimp only; omega
    · dsimp only
      have h0 : 0 ≤ (cr + 1200 * size) / w := Int.ediv_nonneg (by omega) (by omega)
      have h1 : (cr + 1200 * size) / w < 601 := Int.ediv_lt_of_lt_mul (by omega) (by omega)
      have h2 : cr + 1200 * size - (cr + 1200 * size) / w * w = (cr + 1200 * size) % w := by
        have := Int.mul_ediv_add_emod (cr + 1200 * size) w
        rw [Int.mul_comm] at this
        omega
      have h3 := Int.emod_nonneg (cr + 1200 * size) (b := w) (by omega)
      have h4 := Int.emod_lt_of_pos (cr + 1200 * size) (b := w) (by omega)
      rw [h2]
      omega
theorem lostS_ok {w : Int} {t m : Option Int} {cr nw now : Int} (hw : 2400 ≤ w) (hc : 0 ≤ cr ∧ cr < w) :
    2400 ≤ (lostS w t m cr nw now).1 ∧ (lostS w t m cr nw now).1 ≤ w ∧ 0 ≤ (lostS w t m cr nw now).2.2.2 ∧ (lostS w t m cr nw now).2.2.2 < (lostS w t m cr nw now).1 := by
  unfold lostS
  split
  · dsimp only; omega
  · dsimp only; omega

/-- rows go -/
theorem Ok.less {S : St} {B C N P : Int} (o : Ok S B C N P) {R' : List Row} (h : R'.Sublist S.R) {w' : Int} {sh' : Int} {t m : Option Int} (hw : 2400 ≤ w') (hW : w' + 1201 * (R'.length : Int) ≤ S.l.window + 1201 * (S.R.length : Int)) (hs : 0 ≤ sh' ∧ sh' < w') :
    Ok { S with v := false, R := R', l := { S.l with window := w', thr := t, met := m, shares := sh' } } B C N P :=
  { o with
    hv := fun h => nomatch h
    hr := rising_sub (nums_sub h) o.hr
    hn := fun r hr => o.hn r (h.subset hr)
    hsz := fun r hr => o.hsz r (h.subset hr)
    htm := fun r hr => o.htm r (h.subset hr)
    hlen := by
      have := o.hlen
      have := h.length_le
      show (R'.length : Int) ≤ S.l.nxt ∧ S.l.nxt ≤ N
      omega
    htop := fun t ht => ⟨(o.htop t ht).1, fun r hr => (o.htop t ht).2 r (h.subset hr)⟩
    hw := hw
    hW := by
      have := o.hW
      show w' + 1201 * (R'.length : Int) ≤ 12000 + 1201 * S.l.nxt
      omega
    hsh := hs }

/-- the state with its top left out -/
noncomputable def St.blind (S : St) : St := { S with l := { S.l with top := none } }
theorem Ok.blind {S : St} {B C N P : Int} (o : Ok S B C N P) : Ok S.blind B C N P := { o with htop := fun t h => nomatch h }
theorem Ok.see {S : St} {B C N P : Int} (o : Ok S.blind B C N P) (h : ∀ t, S.l.top = some t → t < S.l.nxt ∧ ∀ r ∈ S.R, r.num ≠ t) : Ok S B C N P := { o with htop := h }

theorem as_last {l : List AV} (h : l.length < 100000) : aslice (.lst l) (.int (-1)) .none = some (.lst (l.drop (l.length - 1))) := by
  have h : l.length < lenLine := h
  simp [aslice, h]
theorem gi_last {H : AH} {l : List AV} {v : AV} (h : (l ++ [v]).length < 100000) : agetitem H (.lst (l ++ [v])) (.int (-1)) = some v := by
  have h' : l.length + 1 < lenLine := by rw [List.length_append] at h; exact h
  have hp : place (-1) (l ++ [v]).length = some l.length := by
    simp only [place, List.length_append, List.length_cons, List.length_nil, Nat.zero_add, h', if_true]
    rw [if_neg (by decide), if_pos (by omega)]
    congr 1
    omega
  simp only [agetitem, iOf, hp, Option.bind_some]
  simp

theorem Te.mono {n : Nat} {sc : Sc} {loc : Loc} {e : Expr} {H : AH} {P Q : Bool → AH → Prop} (h : Te n sc loc e H P) (k : ∀ v H', P v H' → Q v H') : Te n sc loc e H Q := let ⟨v, H', e, p⟩ := h; ⟨v, H', e, k v H' p⟩
theorem ex_gen {n : Nat} {sc : Sc} {loc : Loc} {s : Stmt} {H : AH} {Q : AFlow → Loc → AH → Prop} (P : Loc → Prop) (hp : P loc) (h : ∀ loc, P loc → Ex n sc loc s H Q) : Ex n sc loc s H Q := h loc hp
theorem b0_of {B X : Int} (h : 1000000 ≤ B ∧ X ≤ BIG) : 0 ≤ B := Int.le_trans (by decide) h.1
theorem ble (c : Int) {B : Int} (b : 0 ≤ B) (hc : 1 ≤ c) : B ≤ c * B := by
  have := Int.mul_le_mul_of_nonneg_right hc b
  rw [Int.one_mul] at this; exact this
theorem bx (c : Int) {B x : Int} (h : -B ≤ x ∧ x ≤ B) (b : 0 ≤ B) (hc : 1 ≤ c) : -(c * B) ≤ x ∧ x ≤ c * B :=
  ⟨Int.le_trans (Int.neg_le_neg (ble c b hc)) h.1, Int.le_trans h.2 (ble c b hc)⟩
theorem bnn {c B : Int} (b : 0 ≤ B) (hc : 1 ≤ c) : 0 ≤ c * B := Int.mul_nonneg (Int.le_trans (by decide) hc) b
theorem b64 {B x c : Int} (h : -B ≤ x ∧ x ≤ B) (b : 0 ≤ B) (hc : 1 ≤ c) : -(64 * (c * B)) ≤ x ∧ x ≤ 64 * (c * B) := bx 64 (bx c h b hc) (bnn b hc) (by decide)
theorem bline (c : Int) {B : Int} (h : 1000000 ≤ B ∧ 1048576 * (64 * B) ≤ BIG) (hc : 1 ≤ c ∧ c ≤ 64) : 1000000 ≤ c * B ∧ 1048576 * (c * B) ≤ BIG :=
  ⟨Int.le_trans h.1 (ble c (b0_of h) hc.1), Int.le_trans (Int.mul_le_mul_of_nonneg_left (Int.mul_le_mul_of_nonneg_right hc.2 (b0_of h)) (by decide)) h.2⟩
theorem bsub (c : Int) {B x y : Int} (hx : -B ≤ x ∧ x ≤ B) (hy : -B ≤ y ∧ y ≤ B) (b : 0 ≤ B) (hc : 2 ≤ c) : -(c * B) ≤ x - y ∧ x - y ≤ c * B := by
  have := Int.mul_le_mul_of_nonneg_right hc b
  omega
theorem b8 {B d : Int} (h : -(4 * B) ≤ d ∧ d ≤ 4 * B) : -(32 * B) ≤ 8 * d ∧ 8 * d ≤ 32 * B := by omega
theorem b2 {B d : Int} (b : 0 ≤ B) (h : -(4 * B) ≤ d ∧ d ≤ 4 * B) : -(32 * B) ≤ 2 * d ∧ 2 * d ≤ 32 * B := by omega
theorem bmin {B x y : Int} (hx : -B ≤ x ∧ x ≤ B) (hy : -B ≤ y ∧ y ≤ B) : -B ≤ min x y ∧ min x y ≤ B := ⟨Int.le_min.mpr ⟨hx.1, hy.1⟩, Int.le_trans (Int.min_le_left _ _) hx.2⟩
theorem bmax {B x y : Int} (hx : -B ≤ x ∧ x ≤ B) (hy : -B ≤ y ∧ y ≤ B) : -B ≤ max x y ∧ max x y ≤ B := ⟨Int.le_trans hx.1 (Int.le_max_left _ _), Int.max_le.mpr ⟨hx.2, hy.2⟩⟩
theorem base_line {B e f : Int} (he : -B ≤ e ∧ e ≤ B) (hf : -B ≤ f ∧ f ≤ B) (hB : 1000000 ≤ B) : -(B * 4) ≤ e / 8 + max f 1000 ∧ e / 8 + max f 1000 ≤ B * 4 := by
  have h := bmax hf (show -B ≤ 1000 ∧ 1000 ≤ B by omega)
  generalize max f 1000 = x at h ⊢
  omega
theorem wait_line {B r : Int} (h : 0 ≤ r ∧ r < 40) (b : 1000000 ≤ B) : 0 ≤ 1000 * r ∧ 1000 * r ≤ B := by omega
theorem adj_line {B d w l : Int} (hd : -(2 * B) ≤ d ∧ d ≤ 2 * B) (hw : 0 ≤ w ∧ w ≤ B) (b : 0 ≤ B) : -(3 * B) ≤ (if l ≤ d - w then d - w else d) ∧ (if l ≤ d - w then d - w else d) ≤ 3 * B := by
  split <;> omega
theorem adj_eq {d w l : Int} : (if l ≤ d - w then d - w else d) = if l + w ≤ d then d - w else d := by
  by_cases h : l ≤ d - w
  · rw [if_pos h, if_pos (by omega)]
  · rw [if_neg h, if_neg (by omega)]
theorem abs_max {x : Int} : (x.natAbs : Int) = max x (0 - x) := by omega
theorem eig_line {B e a : Int} (he : -B ≤ e ∧ e ≤ B) (ha : -(3 * B) ≤ a ∧ a ≤ 3 * B) : -(32 * B) ≤ e - e / 8 + a ∧ e - e / 8 + a ≤ 32 * B := by omega
theorem var_line {B e f a : Int} (he : -B ≤ e ∧ e ≤ B) (hf : -B ≤ f ∧ f ≤ B) (ha : -(3 * B) ≤ a ∧ a ≤ 3 * B) : -(32 * B) ≤ f - f / 4 + max (e / 8 - a) (0 - (e / 8 - a)) ∧ f - f / 4 + max (e / 8 - a) (0 - (e / 8 - a)) ≤ 32 * B := by
  have h1 : -(5 * B) ≤ e / 8 - a ∧ e / 8 - a ≤ 5 * B := by omega
  generalize e / 8 - a = x at h1 ⊢
  have h2 : max x (0 - x) ≤ 5 * B := Int.max_le.mpr ⟨h1.2, by omega⟩
  have h3 : x ≤ max x (0 - x) := Int.le_max_left _ _
  generalize max x (0 - x) = m at h2 h3 ⊢
  omega
section
variable {n : Nat} {S : St} {B C N P : Int} {Q : AV → AH → Prop}
set_option maxHeartbeats 4000000 in
theorem law_hear_spec {now : Int} (o : Ok S B C N P) (hB : 1000000 ≤ B ∧ 1048576 * (64 * B) ≤ BIG) (hN : N ≤ 60) (hC : C ≤ 80000) (hnow : -B ≤ now ∧ now ≤ B) (hP : 0 ≤ P)
    (q : ∀ S', Ok S' (32 * B) (C + 70) N P → Q .none (heap S')) : Cl (n + 60) (fdef 39) [.ref 1, .ref 5, .ref 2, .ref 3, .ref 4, .int now] (heap S) Q := by
  have hB1 : 1000000 ≤ B ∧ 1048576 * B ≤ BIG := by rw [← Int.one_mul B]; exact bline 1 hB ⟨by decide, by decide⟩
  have b0 := b0_of hB
  have hlen := o.len hN
  ((refine cl_intro (fd := ⟨_, _, _, _⟩) rfl rfl ?_); dsimp only [List.map, List.zip, List.zipWith])
  focus (refine xs_assign (by kernel_rfl) ?_; refine' ev_callA (Nat.le_of_ble_eq_true rfl) (by kernel_rfl) (ar_cons rfl (pu_loc (by kernel_rfl) (kg_tailb (by kernel_rfl) (kg_tailb (by kernel_rfl) kg_head))) ar_nil) ?_; rotate_left)
  refine cn_bi nb_sorted (ab_sorted heap_2 o.vs (by rw [sentE_length]; exact hlen) (by rw [sentE_keys]; exact o.hr)) ?_
  rw [sentE_keys, iL_nums]
  focus (refine as_nameb (by kernel_rfl) ?_; refine next_assign (by kernel_rfl) ?_; refine ev_comp (by kernel_rfl) ?_; refine' ev_locv (by kernel_rfl) kgp_same ?_; refine cit_lst (by (show _ < 100000; (try simp only [List.length_append, List.length_map, List.length_cons, List.length_nil, iL_length, nums_length, rowsE_length, sentE_length]); omega)) rfl ?_; rotate_left)
  refine co_inv (fun rem acc H' => ∃ (S' : St) (pre suf T : List Row), S.R = pre ++ suf ∧ rem = suf.map (fun r : Row => AV.int r.num) ∧ acc = T.map (fun r : Row => AV.int r.num) ∧ T.Sublist pre ∧ H' = heap S' ∧ S'.R = S.R ∧ Ok S' B (C + pre.length) N P) (acc := []) ?_ ?_ ?_ ?_
  · exact ⟨S, [], S.R, [], rfl, rfl, rfl, List.Sublist.refl _, rfl, rfl, by simpa using o⟩
  · intro _ _ _ _; exact rfl
  · rintro a r acc H' ⟨S', pre, suf, T, e1, e2, e3, e4, rfl, e5, o1⟩
    cases suf with
    | nil => cases e2
    | cons x suf =>
      simp only [List.map_cons, List.cons.injEq] at e2
      obtain ⟨rfl, rfl⟩ := e2
      have hpl : pre.length ≤ S.R.length := by rw [e1]; simp
      focus (refine on_name ?_; refine one_if ?_; refine te_cmp rfl ?_; refine' ev_callA (Nat.le_of_ble_eq_true rfl) (by kernel_rfl) (ar_cons rfl (pu_loc (by kernel_rfl) (kgp_neb (by kernel_rfl) (kget_locFree (by kernel_rfl) (kgp_neb (by kernel_rfl) kg_head)))) (ar_cons rfl pu_int ar_nil)) ?_; refine cn_user fi14 ?_; rotate_left)
      refine take_spec o1 hB1 (by omega) (by decide) fun r2 xs2 hr2 o2 => ?_
      focus (refine ev_int ?_; refine ⟨_, ac_eq, ?_⟩; refine split_x (fun _ => ?_) (fun _ => ?_); refine' ev_locv (by kernel_rfl) kgp_same ?_; rotate_left; rotate_left)
      · exact ⟨_, pre ++ [x], suf, T ++ [x], by rw [e1, List.append_assoc]; rfl, rfl, by rw [e3, List.map_append]; rfl, e4.append (List.Sublist.refl _), rfl, e5, o2.mono (Int.le_refl _) (by simp; omega) (Int.le_refl _) (Int.le_refl _)⟩
      · exact ⟨_, pre ++ [x], suf, T, by rw [e1, List.append_assoc]; rfl, rfl, by rw [e3]; simp, e4.trans (List.sublist_append_left _ _), rfl, e5, o2.mono (Int.le_refl _) (by simp; omega) (Int.le_refl _) (Int.le_refl _)⟩
  rintro zs H' ⟨S', pre, suf, T, e1, e2, e3, e4, rfl, e5, o1⟩
  have hsuf : suf = [] := by cases suf with | nil => rfl | cons _ _ => cases e2
  subst hsuf
  rw [List.append_nil] at e1
  subst e1
  rw [List.nil_append] at e3
  subst e3
  focus (refine as_nameb (by kernel_rfl) ?_; refine next_assign (by kernel_rfl) ?_; rotate_left)
  refine Ev.mono (P := fun v H' => ∃ (S' : St) (T : List Row), v = .lst (iL (nums T)) ∧ H' = heap S' ∧ T.Sublist S'.R ∧ Ok S' B (C + 64) N P) ?_ ?_
  · rw [← iL_nums (S := T)]
    have hT := e4.length_le
    focus (refine ev_if ?_; refine' te_cmpl rfl (by kernel_rfl) kgp_same ?_; refine ev_list ?_; refine evs_nil ?_; refine and_len (Nat.le_of_ble_eq_true rfl) ?_; rotate_left)
    refine ⟨_, ac_ne_nil get_snoc, ?_⟩
    rw [heap_snoc]
    focus (refine split_x (fun _ => ?_) (fun _ => ?_); refine' ev_locv (by kernel_rfl) kgp_same ?_; rotate_left; refine ev_slice ?_; refine' ev_locv (by kernel_rfl) (kgp_neb (by kernel_rfl) kgp_same) ?_; refine op_some ?_; refine' ev_pu (pu_neg pu_int) ?_; refine op_none (q := ?_); rotate_left)
    · exact ⟨_, T, rfl, rfl, by rw [← e5] at e4; exact e4, o1.garb.mono (Int.le_refl _) (by omega) (Int.le_refl _) (Int.le_refl _)⟩
    · refine ⟨_, as_last (by simp; omega), ?_⟩
      refine ⟨_, S.R.drop (S.R.length - 1), ?_, rfl, by rw [← e5]; exact List.drop_sublist _ _, o1.garb.mono (Int.le_refl _) (by omega) (Int.le_refl _) (Int.le_refl _)⟩
      rw [List.length_map, ← List.map_drop, iL_nums]
  rintro v H' ⟨S1, T, rfl, rfl, hT, o2⟩
  clear o1 e4 e5
  focus (refine as_nameb (by kernel_rfl) ?_; refine next_assign (by kernel_rfl) ?_; refine ev_tup ?_; refine evs_cons rfl ?_; refine ev_bin ?_; refine ev_int ?_; refine' ev_callA (Nat.le_of_ble_eq_true rfl) (by kernel_rfl) (ar_cons rfl (pu_loc (by kernel_rfl) (kgp_neb (by kernel_rfl) (kgp_neb (by kernel_rfl) (kgp_neb (by kernel_rfl) kg_head)))) (ar_cons rfl pu_int ar_nil)) ?_; refine cn_user fi14 ?_; rotate_left)
  refine take_spec o2 hB1 (by omega) (by decide) fun r2 xs2 hr2 o3 => ?_
  have hT : T.Sublist (S1.drawn xs2).R := hT
  generalize S1.drawn xs2 = S2 at o3 hT
  focus (refine ⟨_, abin_mul ?_ ?_, ?_⟩; exact (by kernel_rfl); exact fits_of (by omega) (by omega); refine evs_cons rfl ?_; refine ev_cmp rfl ?_; refine' ev_callA (Nat.le_of_ble_eq_true rfl) (by kernel_rfl) (ar_cons rfl (pu_loc (by kernel_rfl) (kgp_neb (by kernel_rfl) (kgp_neb (by kernel_rfl) (kgp_neb (by kernel_rfl) kg_head)))) (ar_cons rfl pu_int ar_nil)) ?_; refine cn_user fi14 ?_; rotate_left)
  refine take_spec o3 hB1 (by omega) (by decide) fun r4 xs4 hr4 o4 => ?_
  have hT : T.Sublist (S2.drawn xs4).R := hT
  generalize S2.drawn xs4 = S3 at o4 hT
  have hTl : T.length < 64 := Nat.lt_of_le_of_lt hT.length_le (o4.len hN)
  focus (refine ev_int ?_; refine ⟨_, ac_gt, ?_⟩; refine evs_nil ?_; refine and_len (Nat.le_of_ble_eq_true rfl) ?_; refine as_tup rfl ?_; refine ass_cons rfl ?_; refine as_nameb (by kernel_rfl) ?_; refine ass_cons rfl ?_; refine as_nameb (by kernel_rfl) ?_; refine ass_nil ?_; refine next_cons ?_; rotate_left)
  refine ex_gen (fun loc => kget loc "ledger" = some (.ref 5) ∧ kget loc "sent" = some (.ref 2) ∧ kget loc "reno" = some (.ref 3) ∧ kget loc "rtt" = some (.ref 4) ∧ kget loc "now" = some (.int now) ∧ kget loc "told" = some (.lst (iL (nums T))) ∧
    kget loc "waited" = some (.int (1000 * r2)) ∧ kget loc "is_limited" = some (.bool (decide (0 < r4)))) ⟨by focus (exact kgp_neb (by kernel_rfl) (by exact kgp_neb (by kernel_rfl) (by exact kgp_neb (by kernel_rfl) (by exact kgp_neb (by kernel_rfl) (by exact kgp_neb (by kernel_rfl) (by exact kg_tailb (by kernel_rfl) (by exact kg_head))))))), by focus (exact kgp_neb (by kernel_rfl) (by exact kgp_neb (by kernel_rfl) (by exact kgp_neb (by kernel_rfl) (by exact kgp_neb (by kernel_rfl) (by exact kgp_neb (by kernel_rfl) (by exact kg_tailb (by kernel_rfl) (by exact kg_tailb (by kernel_rfl) (by exact kg_head)))))))), by focus (exact kgp_neb (by kernel_rfl) (by exact kgp_neb (by kernel_rfl) (by exact kgp_neb (by kernel_rfl) (by exact kgp_neb (by kernel_rfl) (by exact kgp_neb (by kernel_rfl) (by exact kg_tailb (by kernel_rfl) (by exact kg_tailb (by kernel_rfl) (by exact kg_tailb (by kernel_rfl) (by exact kg_head))))))))), by focus (exact kgp_neb (by kernel_rfl) (by exact kgp_neb (by kernel_rfl) (by exact kgp_neb (by kernel_rfl) (by exact kgp_neb (by kernel_rfl) (by exact kgp_neb (by kernel_rfl) (by exact kg_tailb (by kernel_rfl) (by exact kg_tailb (by kernel_rfl) (by exact kg_tailb (by kernel_rfl) (by exact kg_tailb (by kernel_rfl) (by exact kg_head)))))))))), by focus (exact kgp_neb (by kernel_rfl) (by exact kgp_neb (by kernel_rfl) (by exact kgp_neb (by kernel_rfl) (by exact kgp_neb (by kernel_rfl) (by exact kgp_neb (by kernel_rfl) (by exact kg_tailb (by kernel_rfl) (by exact kg_tailb (by kernel_rfl) (by exact kg_tailb (by kernel_rfl) (by exact kg_tailb (by kernel_rfl) (by exact kg_tailb (by kernel_rfl) (by exact kg_head))))))))))), by focus (exact kgp_neb (by kernel_rfl) (by exact kgp_neb (by kernel_rfl) (by exact kgp_same))), by focus (exact kgp_neb (by kernel_rfl) (by exact kgp_same)), by focus (exact kgp_same)⟩ ?_
  rintro loc ⟨k1, k2, k3, k4, k5, k6, k7, k8⟩
  refine Ex.mono (P := fun f l H' => f = .next ∧ l = loc ∧ ∃ S4 : St, H' = heap S4 ∧ Ok S4.blind (32 * B) (C + 66) N P ∧ T.Sublist S4.R ∧ (∀ t, S4.l.top = some t → t < S4.l.nxt ∧ ∀ r ∈ S4.R, r.num = t → r ∈ T)) ?_ ?_
  · refine ex_if (Te.mono (P := fun b H1 => ∃ G, H1 = heap { S3 with G := G } ∧ (b = true → T ≠ [])) ?_ ?_)
    · focus (refine te_all ?_; refine al_and ?_; refine' te_cmpl rfl (by kernel_rfl) (by assumption) ?_; refine ev_list ?_; refine evs_nil ?_; refine and_len (Nat.le_of_ble_eq_true rfl) ?_; rotate_left)
      refine ⟨_, ac_ne_nil get_snoc, ?_⟩
      rw [heap_snoc]
      rcases List.eq_nil_or_concat T with hT0 | ⟨pre, z, hTz⟩
      · subst hT0
        focus (refine split_cf rfl ?_; refine ⟨_, rfl, ?_⟩; exact imp_ft)
      · rw [List.concat_eq_append] at hTz
        have hne : T ≠ [] := by rw [hTz]; simp
        have hz : iL (nums T) = iL (nums pre) ++ [.int z.num] := by rw [hTz]; simp [iL, nums]
        have hlz : (iL (nums pre) ++ [AV.int z.num]).length < 100000 := by rw [← hz, iL_length, nums_length]; omega
        rw [hz] at k6
        have hem : (!(nums T).isEmpty) = true := by rw [hTz]; simp [nums]
        rw [hem]
        focus (refine split_t ?_; refine al_and ?_; refine te_all ?_; refine al_or ?_; refine' te_cmpp rfl (pu_led (by kernel_rfl) (by assumption) heap_5 (by first | exact lg2 | exact rg2 | exact tg2 | exact kg_tailb (by kernel_rfl) (kg_tailb (by kernel_rfl) kg_head))) pu_non ac_is_oi ?_; refine split_x2 (fun _ => ?_) (fun _ => ?_); refine al_or ?_; refine te_cmp rfl ?_; refine ev_sub rfl ?_; refine' ev_locv (by kernel_rfl) (by assumption) ?_; refine' ev_pu (pu_neg pu_int) ?_; rotate_left; refine split_t ?_; refine al_and_nil ?_; refine ⟨_, rfl, ?_⟩; refine clr ?_; rotate_left)
        · rename_i ht
          refine ⟨_, gi_last hlz, ?_⟩
          obtain ⟨t, ht⟩ : ∃ t, S3.l.top = some t := by
            cases h : S3.l.top with
            | none => rw [h] at ht; cases ht
            | some t => exact ⟨t, rfl⟩
          focus (refine' ev_led (by kernel_rfl) (by assumption) heap_5 (by first | exact lg2 | exact rg2 | exact tg2 | exact kg_tailb (by kernel_rfl) (kg_tailb (by kernel_rfl) kg_head)) ?_; rotate_left)
          dsimp only
          rw [ht]
          focus (refine ⟨_, ac_gt, ?_⟩; refine split_x2 (fun _ => ?_) (fun _ => ?_); refine al_or_nil ?_; refine split_f ?_; refine ⟨_, rfl, ?_⟩; exact imp_ft; refine split_t ?_; refine al_and_nil ?_; refine ⟨_, rfl, ?_⟩; refine clr ?_; rotate_left)
          all_goals exact hne
        · exact hne
    · rintro b H1 ⟨G, rfl, hb⟩
      have o5 := o4.garb (G := G)
      have hT5 : T.Sublist ({ S3 with G := G } : St).R := hT
      generalize ({ S3 with G := G } : St) = S5 at o5 hT5
      refine ⟨fun hb1 => ?_, fun hb1 => ?_⟩
      · have hT0 := hb hb1
        rcases List.eq_nil_or_concat T with h | ⟨pre, z, hTz⟩
        · exact absurd h hT0
        rw [List.concat_eq_append] at hTz
        have hz : iL (nums T) = iL (nums pre) ++ [.int z.num] := by rw [hTz]; simp [iL, nums]
        have hlz : (iL (nums pre) ++ [AV.int z.num]).length < 100000 := by rw [← hz, iL_length, nums_length]; omega
        rw [hz] at k6
        have hzT : z ∈ T := by rw [hTz]; simp
        have hzR : z ∈ S5.R := hT5.subset hzT
        have hzt := o5.htm z hzR
        have hzn := o5.hn z hzR
        have h2 : (heap S5)[2]? = some (.dictI (sentE S5.R)) := by have := heap_2 (S := S5); rw [o5.vf hzR] at this; exact this
        have hx := kget_sentE o5.nd hzR
        have hle := o5.hrle
        have h8 := o5.h8
        have h4 := o5.h4
        have hdone : ∀ S6 : St, S6.R = S5.R → S6.l.nxt = S5.l.nxt → S6.l.top = some z.num → (∀ t, S6.l.top = some t → t < S6.l.nxt ∧ ∀ r ∈ S6.R, r.num = t → r ∈ T) := by
          intro S6 e1 e2 e3 t ht
          rw [e3] at ht
          cases ht
          refine ⟨by rw [e2]; exact hzn, fun r hr e => ?_⟩
          rw [e1] at hr
          rw [nums_inj o5.nd hr hzR e]
          exact hzT
        focus (refine xs_cons ?_; refine ex_expr ?_; refine ev_meth ⟨Nat.le_of_ble_eq_true rfl, rfl, rfl⟩ ?_; refine' ev_locv (by kernel_rfl) (by assumption) ?_; refine mg_u ?_; refine hob_of heap_4 ?_; refine ⟨_, _, rfl, kn3, _, mi3, ?_⟩; refine evs_cons rfl ?_; refine ev_bin ?_; refine' ev_locv (by kernel_rfl) (by assumption) ?_; refine ev_sub rfl ?_; refine ev_sub rfl ?_; refine' ev_locv (by kernel_rfl) (by assumption) ?_; refine ev_sub rfl ?_; refine' ev_locv (by kernel_rfl) (by assumption) ?_; refine' ev_pu (pu_neg pu_int) ?_; rotate_left)
        refine ⟨_, gi_last hlz, ?_⟩
        focus (refine gi_i ?_; refine' hob_of (by assumption) ?_; refine ⟨_, rfl, ?_⟩; refine' kd_of (by assumption) ?_; refine ev_int ?_; refine gi_t ⟨_, rfl, _, rfl, ?_⟩; refine ⟨_, abin_sub, ?_⟩; refine' evs_loc (by kernel_rfl) (by assumption) ?_; refine evs_int ?_; refine' evs_loc (by kernel_rfl) (by assumption) ?_; refine evs_nil ?_; refine me_usr ?_; rotate_left)
        have hx4 := bsub 4 hnow hzt b0 (by decide)
        have hB4 := bline 4 hB ⟨by decide, by decide⟩
        rcases o5.hfa with ⟨hf, hl⟩ | ⟨⟨f, hf⟩, hl⟩
        · have h4' : (heap S5)[4]? = some (.inst 0 (rttL S5.l.latest S5.rle S5.l.eighths S5.l.fourths .none)) := by have := heap_4 (S := S5); rw [hf] at this; exact this
          refine sample_first_spec (B := 4 * B) h4' hB4 hx4 ?_
          focus (refine next_cons ?_; refine ex_expr ?_; refine ev_call (Nat.le_of_ble_eq_true rfl) (by kernel_rfl) ?_; refine' evs_loc (by kernel_rfl) (by assumption) ?_; refine evs_cons rfl ?_; refine ev_bin ?_; refine' ev_locv (by kernel_rfl) (by assumption) ?_; refine ev_sub rfl ?_; refine ev_sub rfl ?_; refine' ev_locv (by kernel_rfl) (by assumption) ?_; refine ev_sub rfl ?_; refine' ev_locv (by kernel_rfl) (by assumption) ?_; refine' ev_pu (pu_neg pu_int) ?_; rotate_left)
          refine ⟨_, gi_last hlz, ?_⟩
          focus (refine gi_i ?_; refine hob_ne (by decide) ?_; refine' hob_of (by assumption) ?_; refine ⟨_, rfl, ?_⟩; refine' kd_of (by assumption) ?_; refine ev_int ?_; refine gi_t ⟨_, rfl, _, rfl, ?_⟩; refine ⟨_, abin_sub, ?_⟩; refine' evs_loc (by kernel_rfl) (by assumption) ?_; refine' evs_loc (by kernel_rfl) (by assumption) ?_; refine evs_nil ?_; refine cn_user fi15 ?_; rotate_left)
          refine law_sampled_first_spec (B := 4 * B) (get_set_ne (by decide) heap_5) hl hB4 hx4 ?_
          focus (refine next_assign (by kernel_rfl) ?_; refine ev_sub rfl ?_; refine' ev_locv (by kernel_rfl) (by assumption) ?_; refine' ev_pu (pu_neg pu_int) ?_; rotate_left)
          refine ⟨_, gi_last hlz, ?_⟩
          focus (refine' as_led (by kernel_rfl) (by assumption) (get_set_same (get_set_ne (by decide) heap_5)) (by exact Nat.le_of_ble_eq_true rfl) kl_top ?_; refine then_next ?_; refine xs_nil ?_; rotate_left)
          refine ⟨rfl, rfl, { S5 with rle := now - z.time, fa := some now, l := { S5.l with least := some (now - z.time), eighths := 8 * (now - z.time), fourths := 2 * (now - z.time), latest := now - z.time, top := some z.num } }, rfl, ?_, hT5, hdone _ rfl rfl rfl⟩
          have o6 : Ok S5.blind (32 * B) (C + 66) N P := o5.blind.mono (ble 32 b0 (by decide)) (by omega) (Int.le_refl _) (Int.le_refl _)
          exact { o6 with
            hfa := .inr ⟨⟨_, rfl⟩, rfl⟩
            hrle := bsub 32 hnow hzt b0 (by decide)
            hla := bsub 32 hnow hzt b0 (by decide)
            h8 := b8 hx4
            h4 := b2 b0 hx4
            htop := fun t h => nomatch h }
        · have h4' : (heap S5)[4]? = some (.inst 0 (rttL S5.l.latest S5.rle S5.l.eighths S5.l.fourths (.int f))) := by have := heap_4 (S := S5); rw [hf] at this; exact this
          generalize hadj : (if min S5.rle (now - z.time) ≤ (now - z.time) - min (1000 * r2) 25000 then (now - z.time) - min (1000 * r2) 25000 else now - z.time) = adj
          have hadj' : adj = if min S5.rle (now - z.time) + min (1000 * r2) 25000 ≤ now - z.time then (now - z.time) - min (1000 * r2) 25000 else now - z.time := by
            rw [← hadj]; exact adj_eq
          have hw := wait_line hr2 hB.1
          have hab : -(3 * B) ≤ adj ∧ adj ≤ 3 * B := by rw [← hadj]; exact adj_line (bsub 2 hnow hzt b0 (by decide)) ⟨Int.le_min.mpr ⟨hw.1, by decide⟩, Int.le_trans (Int.min_le_left _ _) hw.2⟩ b0
          refine sample_next_spec (B := 4 * B) h4' hB4 hx4 (bx 4 hle b0 (by decide)) ⟨hw.1, Int.le_trans hw.2 (ble 4 b0 (by decide))⟩ (b64 h8 b0 (by decide)) (b64 h4 b0 (by decide)) hadj' ?_
          focus (refine next_cons ?_; refine ex_expr ?_; refine ev_call (Nat.le_of_ble_eq_true rfl) (by kernel_rfl) ?_; refine' evs_loc (by kernel_rfl) (by assumption) ?_; refine evs_cons rfl ?_; refine ev_bin ?_; refine' ev_locv (by kernel_rfl) (by assumption) ?_; refine ev_sub rfl ?_; refine ev_sub rfl ?_; refine' ev_locv (by kernel_rfl) (by assumption) ?_; refine ev_sub rfl ?_; refine' ev_locv (by kernel_rfl) (by assumption) ?_; refine' ev_pu (pu_neg pu_int) ?_; rotate_left)
          refine ⟨_, gi_last hlz, ?_⟩
          focus (refine gi_i ?_; refine hob_ne (by decide) ?_; refine' hob_of (by assumption) ?_; refine ⟨_, rfl, ?_⟩; refine' kd_of (by assumption) ?_; refine ev_int ?_; refine gi_t ⟨_, rfl, _, rfl, ?_⟩; refine ⟨_, abin_sub, ?_⟩; refine' evs_loc (by kernel_rfl) (by assumption) ?_; refine' evs_loc (by kernel_rfl) (by assumption) ?_; refine evs_nil ?_; refine cn_user fi15 ?_; rotate_left)
          refine law_sampled_next_spec (B := 4 * B) (get_set_ne (by decide) heap_5) hl hB4 hx4 (b64 h8 b0 (by decide)) (b64 h4 b0 (by decide)) hadj.symm ?_
          focus (refine next_assign (by kernel_rfl) ?_; refine ev_sub rfl ?_; refine' ev_locv (by kernel_rfl) (by assumption) ?_; refine' ev_pu (pu_neg pu_int) ?_; rotate_left)
          refine ⟨_, gi_last hlz, ?_⟩
          focus (refine' as_led (by kernel_rfl) (by assumption) (get_set_same (get_set_ne (by decide) heap_5)) (by exact Nat.le_of_ble_eq_true rfl) kl_top ?_; refine then_next ?_; refine xs_nil ?_; rotate_left)
          have hap : ((S5.l.eighths / 8 - adj).natAbs : Int) = max (S5.l.eighths / 8 - adj) (0 - (S5.l.eighths / 8 - adj)) := abs_max
          rw [hap]
          refine ⟨rfl, rfl, { S5 with rle := min S5.rle (now - z.time), l := { S5.l with least := some (min S5.rle (now - z.time)), fourths := S5.l.fourths - S5.l.fourths / 4 + max (S5.l.eighths / 8 - adj) (0 - (S5.l.eighths / 8 - adj)), eighths := S5.l.eighths - S5.l.eighths / 8 + adj, latest := now - z.time, top := some z.num } }, ?_, ?_, hT5, hdone _ rfl rfl rfl⟩
          · have e : oi S5.fa = .int f := by rw [hf]
            show _ = heap _
            unfold heap
            rw [← e]
            rfl
          have o6 : Ok S5.blind (32 * B) (C + 66) N P := o5.blind.mono (ble 32 b0 (by decide)) (by omega) (Int.le_refl _) (Int.le_refl _)
          exact { o6 with
            hfa := .inr ⟨⟨f, hf⟩, rfl⟩
            hrle := bmin (bx 32 hle b0 (by decide)) (bsub 32 hnow hzt b0 (by decide))
            hla := bsub 32 hnow hzt b0 (by decide)
            h8 := eig_line h8 hab
            h4 := var_line h8 h4 hab
            htop := fun t h => nomatch h }
      · focus (refine xs_nil ?_; rotate_left)
        refine ⟨rfl, rfl, S5, rfl, o5.blind.mono (ble 32 b0 (by decide)) (by omega) (Int.le_refl _) (Int.le_refl _), hT5, fun t ht => ⟨(o5.htop t ht).1, fun r hr e => absurd e ((o5.htop t ht).2 r hr)⟩⟩
  rintro f l H' ⟨rfl, rfl, S4, rfl, o6, hT6, htop⟩
  clear o4 o3 o2
  focus (refine next_cons ?_; refine ex_for ⟨by kernel_rfl, rfl⟩ ?_; refine' ev_locv (by kernel_rfl) (by assumption) ?_; refine fit_lst (by (show _ < 100000; (try simp only [List.length_append, List.length_map, List.length_cons, List.length_nil, iL_length, nums_length, rowsE_length, sentE_length]); omega)) ?_; rotate_left)
  have ndT : (nums T).Nodup := nums_nodup hT6 o6.nd
  rw [iL_nums]
  refine fo_map (fun pre loc H' => ∃ S' : St, H' = heap S' ∧ Ok S'.blind (32 * B) (C + 66) N P ∧ (∀ r ∈ T, r ∈ pre ∨ r ∈ S'.R) ∧ (∀ t, S'.l.top = some t → t < S'.l.nxt ∧ ∀ r ∈ S'.R, r.num = t → r ∈ T ∧ r ∉ pre) ∧
    kget loc "ledger" = some (.ref 5) ∧ kget loc "sent" = some (.ref 2) ∧ kget loc "reno" = some (.ref 3) ∧ kget loc "rtt" = some (.ref 4) ∧ kget loc "now" = some (.int now) ∧ kget loc "told" = some (.lst (iL (nums T))) ∧ kget loc "is_limited" = some (.bool (decide (0 < r4)))) ?_ ?_ ?_ ?_
  · exact ⟨S4, rfl, o6, fun r hr => .inr (hT6.subset hr), fun t ht => ⟨(htop t ht).1, fun r hr e => ⟨(htop t ht).2 r hr e, fun h => nomatch h⟩⟩, k1, k2, k3, k4, k5, k6, k8⟩
  · intro _ _ _ _; exact rfl
  · rintro pre r suf loc H' e ⟨S', rfl, o7, hmem, htop', k1, k2, k3, k4, k5, k6, k8⟩
    have hrT : r ∈ T := by rw [e]; simp
    have hne := pre_ne e ndT
    have hrR : r ∈ S'.R := (hmem r hrT).resolve_left fun h => hne r h rfl
    have hvf : S'.v = false := o7.vf hrR
    have h2 : (heap S')[2]? = some (.dictI (sentE S'.R)) := by have := heap_2 (S := S'); rw [hvf] at this; exact this
    have h6 : (heap S')[6]? = some (.dictI (rowsE S'.R)) := by have := heap_6 (S := S'); rw [hvf] at this; exact this
    have hx : kget (rowsE S'.R) r.num = some (.tup [.int r.time, .int r.size]) := kget_rowsE o7.nd hrR
    have hx2 : kget (sentE S'.R) r.num = some (.tup [.int r.time, .int r.size, .bool true, .bool true]) := kget_sentE o7.nd hrR
    have h8 : -(32 * B) ≤ S'.l.eighths ∧ S'.l.eighths ≤ 32 * B := o7.h8
    have hsz := o7.hsz r hrR
    have hsh : 0 ≤ S'.l.shares ∧ S'.l.shares < S'.l.window := o7.hsh
    have hw : 2400 ≤ S'.l.window ∧ S'.l.window ≤ 32 * B := o7.wB hN (by omega)
    have hlR : S'.R.length < 64 := o7.len hN
    focus (refine xs_assign (by kernel_rfl) ?_; refine' ev_pu (pu_sub rfl (pu_led (by kernel_rfl) (kgp_neb (by kernel_rfl) (by assumption)) heap_5 kg_head) (pu_loc (by kernel_rfl) kgp_same) (gid (by assumption) (by assumption))) ?_; refine as_tup rfl ?_; refine ass_cons rfl ?_; refine as_nameb (by kernel_rfl) ?_; refine ass_cons rfl ?_; refine as_nameb (by kernel_rfl) ?_; refine ass_nil ?_; refine next_cons ?_; refine ex_expr ?_; refine ev_meth ⟨Nat.le_of_ble_eq_true rfl, rfl, rfl⟩ ?_; refine' ev_locv (by kernel_rfl) (kgp_neb (by kernel_rfl) (kgp_neb (by kernel_rfl) (kgp_neb (by kernel_rfl) (by assumption)))) ?_; refine mg_u ?_; refine hob_of heap_3 ?_; refine ⟨_, _, rfl, kn9, _, mi9, ?_⟩; refine' evs_loc (by kernel_rfl) kgp_same ?_; refine' evs_loc (by kernel_rfl) (kgp_neb (by kernel_rfl) kgp_same) ?_; refine' evs_loc (by kernel_rfl) (kgp_neb (by kernel_rfl) (kgp_neb (by kernel_rfl) (kgp_neb (by kernel_rfl) (by assumption)))) ?_; refine' evs_loc (by kernel_rfl) (kgp_neb (by kernel_rfl) (kgp_neb (by kernel_rfl) (kgp_neb (by kernel_rfl) (by assumption)))) ?_; refine evs_cons rfl ?_; refine' ev_methu ⟨Nat.le_of_ble_eq_true rfl, rfl, rfl⟩ (by kernel_rfl) (kgp_neb (by kernel_rfl) (kgp_neb (by kernel_rfl) (kgp_neb (by kernel_rfl) (by assumption)))) heap_4 kn1 mi1 ar_nil ?_; rotate_left)
    refine smoothed_spec (B := 32 * B) (heap_4 (S := S')) (by first | exact bline _ hB ⟨by decide, by decide⟩ | exact b64 h8 b0 (by decide) | exact bx 64 h8 (bnn b0 (by decide)) (by decide) | omega) (by first | exact bline _ hB ⟨by decide, by decide⟩ | exact b64 h8 b0 (by decide) | exact bx 64 h8 (bnn b0 (by decide)) (by decide) | omega) ?_
    focus (refine evs_nil ?_; refine me_usr ?_; rotate_left)
    refine on_acked_spec (B := 32 * B) (t := S'.l.thr) (m := S'.l.met) (heap_3 (S := S')) (by first | exact bline _ hB ⟨by decide, by decide⟩ | exact b64 h8 b0 (by decide) | exact bx 64 h8 (bnn b0 (by decide)) (by decide) | omega) hw hsz (by first | exact bline _ hB ⟨by decide, by decide⟩ | exact b64 h8 b0 (by decide) | exact bx 64 h8 (bnn b0 (by decide)) (by decide) | omega) ?_
    focus (refine next_cons ?_; refine ex_expr ?_; refine' ev_callA (Nat.le_of_ble_eq_true rfl) (by kernel_rfl) (ar_cons rfl (pu_loc (by kernel_rfl) (kgp_neb (by kernel_rfl) (kgp_neb (by kernel_rfl) (kgp_neb (by kernel_rfl) (by assumption))))) (ar_cons rfl (pu_loc (by kernel_rfl) (kgp_neb (by kernel_rfl) (kgp_neb (by kernel_rfl) kgp_same))) (ar_cons rfl (pu_loc (by kernel_rfl) (kgp_neb (by kernel_rfl) (kgp_neb (by kernel_rfl) (kgp_neb (by kernel_rfl) (by assumption))))) ar_nil))) ?_; refine cn_user fi16 ?_; rotate_left)
    refine law_acknowledged_spec (B := 32 * B) (get_set_ne (by decide) (heap_5 (S := S'))) (get_set_ne (by decide) h6) hlR o7.nd hrR (by first | exact bline _ hB ⟨by decide, by decide⟩ | exact b64 h8 b0 (by decide) | exact bx 64 h8 (bnn b0 (by decide)) (by decide) | omega) hw hsz (by first | exact bline _ hB ⟨by decide, by decide⟩ | exact b64 h8 b0 (by decide) | exact bx 64 h8 (bnn b0 (by decide)) (by decide) | omega) ?_
    focus (refine next_cons ?_; refine ex_expr ?_; refine ev_meth ⟨Nat.le_of_ble_eq_true rfl, rfl, rfl⟩ ?_; refine' ev_locv (by kernel_rfl) (kgp_neb (by kernel_rfl) (kgp_neb (by kernel_rfl) (kgp_neb (by kernel_rfl) (by assumption)))) ?_; refine mg_d (.inl rfl) ?_; refine hob_ne (by decide) ?_; refine hob_ne (by decide) ?_; refine hob_ne (by decide) ?_; refine' hob_of (by assumption) ?_; refine and_dict rfl ?_; refine' evs_loc (by kernel_rfl) (kgp_neb (by kernel_rfl) (kgp_neb (by kernel_rfl) kgp_same)) ?_; refine evs_nil ?_; refine me_dpop ?_; refine hob_ne (by decide) ?_; refine hob_ne (by decide) ?_; refine hob_ne (by decide) ?_; refine' hob_of (by assumption) ?_; refine ⟨_, rfl, (by (show _ < 100000; (try simp only [List.length_append, List.length_map, List.length_cons, List.length_nil, iL_length, nums_length, rowsE_length, sentE_length]); omega)), ?_⟩; refine' kd_of (by assumption) ?_; refine then_next ?_; refine xs_nil ?_; rotate_left)
    have ha := ackS_ok (t := S'.l.thr) (m := S'.l.met) (time := r.time) (lim := decide (0 < r4)) hw.1 hsh hsz
    have hdl := del_length hrR
    generalize hk : ackS S'.l.window S'.l.thr S'.l.met S'.l.shares r.size r.time (decide (0 < r4)) = a at ha ⊢
    refine ⟨.inl rfl, { S' with v := false, R := del r.num S'.R, l := { S'.l with window := a.1, shares := a.2 } }, ?_, ?_, ?_, ?_, by focus (exact kgp_neb (by kernel_rfl) (by exact kgp_neb (by kernel_rfl) (by exact kgp_neb (by kernel_rfl) (by assumption)))), by focus (exact kgp_neb (by kernel_rfl) (by exact kgp_neb (by kernel_rfl) (by exact kgp_neb (by kernel_rfl) (by assumption)))), by focus (exact kgp_neb (by kernel_rfl) (by exact kgp_neb (by kernel_rfl) (by exact kgp_neb (by kernel_rfl) (by assumption)))), by focus (exact kgp_neb (by kernel_rfl) (by exact kgp_neb (by kernel_rfl) (by exact kgp_neb (by kernel_rfl) (by assumption)))), by focus (exact kgp_neb (by kernel_rfl) (by exact kgp_neb (by kernel_rfl) (by exact kgp_neb (by kernel_rfl) (by assumption)))), by focus (exact kgp_neb (by kernel_rfl) (by exact kgp_neb (by kernel_rfl) (by exact kgp_neb (by kernel_rfl) (by assumption)))), by focus (exact kgp_neb (by kernel_rfl) (by exact kgp_neb (by kernel_rfl) (by exact kgp_neb (by kernel_rfl) (by assumption))))⟩
    · have hsd : sizes (del r.num S'.R) = sizes S'.R - r.size := sizes_del o7.nd hrR
      rw [kdel_sentE, ← hsd]
      rfl
    · exact o7.less (R' := del r.num S'.R) (t := S'.l.thr) (m := S'.l.met) (del_sub _ _) ha.1 (by show a.1 + 1201 * ((del r.num S'.R).length : Int) ≤ S'.l.window + 1201 * (S'.R.length : Int); omega) ⟨ha.2.2.1, ha.2.2.2⟩
    · intro x hx
      rcases hmem x hx with h | h
      · exact .inl (List.mem_append_left _ h)
      · by_cases hxr : x.num = r.num
        · exact .inl (by rw [nums_inj o7.nd h hrR hxr]; simp)
        · exact .inr (mem_del hxr h)
    · intro t ht
      refine ⟨(htop' t ht).1, fun x hx hxt => ?_⟩
      obtain ⟨h1, h2⟩ := (htop' t ht).2 x ((del_sub _ _).subset hx) hxt
      refine ⟨h1, fun h => ?_⟩
      rcases List.mem_append.mp h with h | h
      · exact h2 h
      · rw [List.mem_singleton.mp h] at hx
        exact notin_del o7.nd (List.mem_map_of_mem hx)
  · rintro loc H' ⟨S', rfl, o7, hmem, htop', k1, k2, k3, k4, k5, k6, k8⟩
    have o8 : Ok S' (32 * B) (C + 66) N P := o7.see fun t ht => ⟨(htop' t ht).1, fun r hr e => ((htop' t ht).2 r hr e).2 ((htop' t ht).2 r hr e).1⟩
    focus (refine next_assign (by kernel_rfl) ?_; refine ev_if ?_; refine' te_cmpl rfl (by kernel_rfl) (by assumption) ?_; refine ev_list ?_; refine evs_nil ?_; refine and_len (Nat.le_of_ble_eq_true rfl) ?_; rotate_left)
    refine ⟨_, ac_ne_nil get_snoc, ?_⟩
    rw [heap_snoc]
    have o9 := o8.garb (G := S'.G ++ [.list []])
    generalize ({ S' with G := S'.G ++ [.list []] } : St) = S9 at o9 ⊢
    focus (refine split_x (fun _ => ?_) (fun _ => ?_); refine ev_int ?_; refine' as_led (by kernel_rfl) (by assumption) heap_5 (by exact Nat.le_of_ble_eq_true rfl) kl_probes ?_; refine then_next ?_; refine xs_nil ?_; rotate_left; refine' ev_led (by kernel_rfl) (by assumption) heap_5 (by first | exact lg11 | exact kg_tailb (by kernel_rfl) (kg_tailb (by kernel_rfl) (kg_tailb (by kernel_rfl) (kg_tailb (by kernel_rfl) (kg_tailb (by kernel_rfl) (kg_tailb (by kernel_rfl) (kg_tailb (by kernel_rfl) (kg_tailb (by kernel_rfl) (kg_tailb (by kernel_rfl) (kg_tailb (by kernel_rfl) (kg_tailb (by kernel_rfl) kg_head))))))))))) ?_; refine' as_led (by kernel_rfl) (by assumption) heap_5 (by exact Nat.le_of_ble_eq_true rfl) kl_next ?_; refine then_next ?_; refine xs_nil ?_; rotate_left)
    · refine q { S9 with l := { S9.l with probes := 0 } } { (o9.mono (Int.le_refl _) (show C + 66 ≤ C + 70 by omega) (Int.le_refl _) (Int.le_refl _)) with hp := ⟨Int.le_refl _, hP⟩ }
    · exact q { S9 with l := { S9.l with probes := S9.l.probes } } (o9.mono (Int.le_refl _) (show C + 66 ≤ C + 70 by omega) (Int.le_refl _) (Int.le_refl _))
end

theorem eqvAll_ints : ∀ l : List Int, PyData.eqvAll (l.map .int) (l.map .int) = true
  | [] => rfl
  | a :: l => by show ((a == a) && PyData.eqvAll (l.map .int) (l.map .int)) = true; rw [beq_self_eq_true, eqvAll_ints l]; rfl
section
variable {H : AH}
theorem ne_self {x y : AV} {d : PyData} (a : toPD H x = some d) (b : toPD H y = some d) (g : PyData.eqv d d = true) : acmp H .NotEq x y = some false := by
  show (match toPD H x with | some x => (toPD H y).map fun y => !PyData.eqv x y | none => none) = _
  rw [a, b]; exact congrArg (fun z => some (!z)) g
theorem ac_ne_none : acmp H .NotEq .none .none = some false := rfl
theorem ac_ne_ii {a b : Int} : acmp H .NotEq (.tup [.int a, .int b]) (.tup [.int a, .int b]) = some false :=
  ne_self (d := .tuple [.int a, .int b]) rfl rfl (by show ((a == a) && ((b == b) && true)) = true; rw [beq_self_eq_true, beq_self_eq_true]; rfl)
theorem flat_app : flatPD (.str "application") = some (.str "application") := by
  show (if ((Str.ofString "application").cps.all fun x => decide (x < 1114112)) = true then some (PyData.str (Str.ofString "application")) else none) = _
  rw [if_pos (by decide +kernel)]
theorem ac_ne_istr {a : Int} : acmp H .NotEq (.tup [.int a, .str "application"]) (.tup [.int a, .str "application"]) = some false := by
  have e : toPD H (.tup [.int a, .str "application"]) = some (.tuple [.int a, .str "application"]) := by
    show (listPDs H [.int a, .str "application"]).map PyData.tuple = _
    have e2 : listPD H (.str "application") = some (.str "application") := flat_app
    simp only [listPDs, e2, Option.bind_some, Option.map_some]
    rfl
  exact ne_self e e (by show ((a == a) && ((Str.ofString "application" == Str.ofString "application") && true)) = true; rw [beq_self_eq_true, beq_self_eq_true]; rfl)
theorem ac_ne_missed {j : Nat} {l : List Int} {o : Option Int} (h : H[j]? = some (.list (iL l))) : acmp H .NotEq (.tup [.ref j, oi o]) (.tup [.lst (iL l), oi o]) = some false := by
  have e1 : listPD H (.ref j) = some (.list (l.map .int)) := by simp [listPD, h, flatPDs_iL]
  have e2 : listPD H (.lst (iL l)) = some (.list (l.map .int)) := by simp [listPD, flatPDs_iL]
  have e3 : ∃ d, listPD H (oi o) = some d ∧ PyData.eqv d d = true := by
    cases o with
    | none => exact ⟨.none, rfl, rfl⟩
    | some i => exact ⟨.int i, rfl, beq_self_eq_true i⟩
  obtain ⟨d, e3, e4⟩ := e3
  have f1 : toPD H (.tup [.ref j, oi o]) = some (.tuple [.list (l.map .int), d]) := by
    show (listPDs H [.ref j, oi o]).map PyData.tuple = _
    simp only [listPDs, e1, e3, Option.bind_some, Option.map_some]
  have f2 : toPD H (.tup [.lst (iL l), oi o]) = some (.tuple [.list (l.map .int), d]) := by
    show (listPDs H [.lst (iL l), oi o]).map PyData.tuple = _
    simp only [listPDs, e2, e3, Option.bind_some, Option.map_some]
  have g : PyData.eqv (.tuple [.list (l.map .int), d]) (.tuple [.list (l.map .int), d]) = true := by
    show (PyData.eqvAll (l.map .int) (l.map .int) && (PyData.eqv d d && true)) = true
    rw [eqvAll_ints, e4]; rfl
  exact ne_self f1 f2 g
theorem ac_eq_told {w fl : Int} {t m : Option Int} : acmp H .Eq (.tup [.int w, oi t, oi m, .int fl]) (.tup [.int w, oi t, oi m, .int fl]) = some true := by
  have k : ∀ o : Option Int, ∃ d, listPD H (oi o) = some d ∧ PyData.eqv d d = true := fun o => match o with
    | none => ⟨.none, rfl, rfl⟩
    | some i => ⟨.int i, rfl, beq_self_eq_true i⟩
  obtain ⟨dt, t1, t2⟩ := k t
  obtain ⟨dm, m1, m2⟩ := k m
  have f : toPD H (.tup [.int w, oi t, oi m, .int fl]) = some (.tuple [.int w, dt, dm, .int fl]) := by
    show (listPDs H [.int w, oi t, oi m, .int fl]).map PyData.tuple = _
    exact mp (bd (a := PyData.int w) rfl (mp (bd t1 (mp (bd m1 (mp (bd (a := PyData.int fl) rfl (mp rfl))))))))
  show aeq H (.tup [.int w, oi t, oi m, .int fl]) (.tup [.int w, oi t, oi m, .int fl]) = _
  delta aeq
  rw [f]
  refine congrArg some ?_
  show ((w == w) && (PyData.eqv dt dt && (PyData.eqv dm dm && ((fl == fl) && true)))) = true
  rw [t2, m2, beq_self_eq_true, beq_self_eq_true]; rfl
theorem set_old {o x : AObj} {k : Nat} (h : k < H.length) : (H ++ [x]).set k o = H.set k o ++ [x] := by simp [List.set_append, h]
end
/-- losses -/
theorem Ok.lose {S : St} {B C N P : Int} (o : Ok S B C N P) {X : List Row} {nw now : Int} :
    Ok { S with v := false, R := delAll X S.R, l := { S.l with window := (lostS S.l.window S.l.thr S.l.met S.l.shares nw now).1, thr := (lostS S.l.window S.l.thr S.l.met S.l.shares nw now).2.1, met := (lostS S.l.window S.l.thr S.l.met S.l.shares nw now).2.2.1, shares := (lostS S.l.window S.l.thr S.l.met S.l.shares nw now).2.2.2 } } B C N P := by
  have h := lostS_ok (t := S.l.thr) (m := S.l.met) (nw := nw) (now := now) o.hw o.hsh
  have hl := (delAll_sub X S.R).length_le
  exact o.less (delAll_sub X S.R) h.1 (by omega) ⟨h.2.2.1, h.2.2.2⟩

theorem heap_hi {S : St} {i : Nat} : (heap S)[i + 8]? = S.G[i]? := rfl
section
variable {n : Nat} {S : St} {B C N P : Int} {Q : AV → AH → Prop}
set_option maxHeartbeats 4000000 in
theorem law_stands_spec {now : Int} (o : Ok S B C N P) (hB : 1000000 ≤ B ∧ 1048576 * (64 * B) ≤ BIG) (hN : N ≤ 60) (hP : P ≤ 20)
    (q : ∀ S', Ok S' B C N P → Q (.bool true) (heap S')) : Cl (n + 80) (fdef 40) [.ref 5, .ref 2, .ref 3, .ref 4, .int now] (heap S) Q := by
  have b0 := b0_of hB
  have hB1 : 1000000 ≤ B ∧ 1048576 * B ≤ BIG := by rw [← Int.one_mul B]; exact bline 1 hB ⟨by decide, by decide⟩
  have hlen := o.len hN
  have h8 := o.h8
  have hla := o.hla
  ((refine cl_intro (fd := ⟨_, _, _, _⟩) rfl rfl ?_); dsimp only [List.map, List.zip, List.zipWith])
  focus (refine xs_assign (by kernel_rfl) ?_; refine ev_call (Nat.le_of_ble_eq_true rfl) (by kernel_rfl) ?_; refine' evs_loc (by kernel_rfl) (kg_tailb (by kernel_rfl) kg_head) ?_; refine evs_cons rfl ?_; refine' ev_led (by kernel_rfl) kg_head heap_5 (by first | exact lg2 | exact rg2 | exact tg2 | exact kg_tailb (by kernel_rfl) (kg_tailb (by kernel_rfl) kg_head)) ?_; refine' evs_loc (by kernel_rfl) (kg_tailb (by kernel_rfl) (kg_tailb (by kernel_rfl) (kg_tailb (by kernel_rfl) (kg_tailb (by kernel_rfl) kg_head)))) ?_; refine evs_cons rfl ?_; refine ev_call (Nat.le_of_ble_eq_true rfl) (by kernel_rfl) ?_; refine evs_cons rfl ?_; refine' ev_attrv (by kernel_rfl) (kg_tailb (by kernel_rfl) (kg_tailb (by kernel_rfl) (kg_tailb (by kernel_rfl) kg_head))) heap_4 (by kernel_rfl) kg_head ?_; refine evs_cons rfl ?_; refine' ev_methu ⟨Nat.le_of_ble_eq_true rfl, rfl, rfl⟩ (by kernel_rfl) (kg_tailb (by kernel_rfl) (kg_tailb (by kernel_rfl) (kg_tailb (by kernel_rfl) kg_head))) heap_4 kn1 mi1 ar_nil ?_; rotate_left)
  refine smoothed_spec (B := B) (heap_4 (S := S)) (by first | exact hB1 | exact bx 64 (by assumption) b0 (by decide) | omega) (by first | exact hB1 | exact bx 64 (by assumption) b0 (by decide) | omega) ?_
  focus (refine evs_nil ?_; refine cn_user fi2 ?_; rotate_left)
  refine loss_delay_spec (B := B) (by first | exact hB1 | exact bx 64 (by assumption) b0 (by decide) | omega) hla (by first | exact hB1 | exact bx 64 (by assumption) b0 (by decide) | omega) ?_
  focus (refine evs_nil ?_; refine cn_user fi4 ?_; rotate_left)
  generalize hwait : max (9 * max S.l.latest (S.l.eighths / 8) / 8) 1000 = wait
  refine detect_lost_spec (heap_2 (S := S)) o.vs hlen o.hr ?_
  rw [heap_snoc]
  generalize hj : (heap S).length = j
  have hj6 : 6 < j := by rw [← hj, heap_len]; omega
  have hJ : (heap { S with G := S.G ++ [.list (iL (nums (lostR S.l.top now wait S.R)))] })[j]? = some (.list (iL (nums (lostR S.l.top now wait S.R)))) := by rw [← hj]; exact get_snoc (H := heap S)
  have o1 := o.garb (G := S.G ++ [.list (iL (nums (lostR S.l.top now wait S.R)))])
  have hR1 : ({ S with G := S.G ++ [.list (iL (nums (lostR S.l.top now wait S.R)))] } : St).R = S.R := rfl
  have hl1 : ({ S with G := S.G ++ [.list (iL (nums (lostR S.l.top now wait S.R)))] } : St).l = S.l := rfl
  generalize ({ S with G := S.G ++ [.list (iL (nums (lostR S.l.top now wait S.R)))] } : St) = S1 at o1 hJ hR1 hl1 ⊢
  rw [← hR1, ← hl1] at hJ ⊢
  rw [← hl1] at hwait h8 hla
  rw [← hR1] at hlen
  focus (refine as_tup rfl ?_; refine ass_cons rfl ?_; refine as_nameb (by kernel_rfl) ?_; refine ass_cons rfl ?_; refine as_nameb (by kernel_rfl) ?_; refine ass_nil ?_; refine next_cons ?_; refine ex_if ?_; refine te_cmp rfl ?_; refine' ev_pu (pu_tup (ar_cons rfl (pu_loc (by kernel_rfl) (kgp_neb (by kernel_rfl) kgp_same)) (ar_cons rfl (pu_loc (by kernel_rfl) kgp_same) ar_nil)) (by exact (Nat.le_of_ble_eq_true rfl))) ?_; refine' ev_callA (Nat.le_of_ble_eq_true rfl) (by kernel_rfl) (ar_cons rfl (pu_loc (by kernel_rfl) (kgp_neb (by kernel_rfl) (kgp_neb (by kernel_rfl) kg_head))) (ar_cons rfl (pu_loc (by kernel_rfl) (kgp_neb (by kernel_rfl) (kgp_neb (by kernel_rfl) (kg_tailb (by kernel_rfl) (kg_tailb (by kernel_rfl) (kg_tailb (by kernel_rfl) (kg_tailb (by kernel_rfl) kg_head))))))) ar_nil)) ?_; refine cn_user fi17 ?_; rotate_left)
  refine law_missed_spec (B := B) (heap_5 (S := S1)) (heap_6 (S := S1)) o1.vr hlen o1.hr (by first | exact hB1 | exact bx 64 (by assumption) b0 (by decide) | omega) (by first | exact hB1 | exact bx 64 (by assumption) b0 (by decide) | omega) hla (fun t ht => (o1.htop t ht).2) hwait.symm ?_
  focus (rotate_left)
  refine ⟨_, ac_ne_missed (get_old hJ), ?_⟩
  have hJ2 := get_old (o := .list []) hJ
  rw [heap_snoc] at hJ2 ⊢
  have o2 := o1.garb (G := S1.G ++ [.list []])
  have hR2 : ({ S1 with G := S1.G ++ [.list []] } : St).R = S1.R := rfl
  have hl2 : ({ S1 with G := S1.G ++ [.list []] } : St).l = S1.l := rfl
  generalize ({ S1 with G := S1.G ++ [.list []] } : St) = S2 at o2 hJ2 hR2 hl2 ⊢
  rw [← hR2, ← hl2] at hJ2 ⊢
  focus (refine split_f ?_; refine xs_nil ?_; refine next_cons ?_; rotate_left)
  refine ex_gen (fun loc => kget loc "ledger" = some (.ref 5) ∧ kget loc "sent" = some (.ref 2) ∧ kget loc "reno" = some (.ref 3) ∧ kget loc "rtt" = some (.ref 4) ∧ kget loc "now" = some (.int now) ∧ kget loc "lost" = some (.ref j))
    ⟨by focus (exact kgp_neb (by kernel_rfl) (by exact kgp_neb (by kernel_rfl) (by exact kg_head))), by focus (exact kgp_neb (by kernel_rfl) (by exact kgp_neb (by kernel_rfl) (by exact kg_tailb (by kernel_rfl) (by exact kg_head)))), by focus (exact kgp_neb (by kernel_rfl) (by exact kgp_neb (by kernel_rfl) (by exact kg_tailb (by kernel_rfl) (by exact kg_tailb (by kernel_rfl) (by exact kg_head))))), by focus (exact kgp_neb (by kernel_rfl) (by exact kgp_neb (by kernel_rfl) (by exact kg_tailb (by kernel_rfl) (by exact kg_tailb (by kernel_rfl) (by exact kg_tailb (by kernel_rfl) (by exact kg_head)))))), by focus (exact kgp_neb (by kernel_rfl) (by exact kgp_neb (by kernel_rfl) (by exact kg_tailb (by kernel_rfl) (by exact kg_tailb (by kernel_rfl) (by exact kg_tailb (by kernel_rfl) (by exact kg_tailb (by kernel_rfl) (by exact kg_head))))))), by focus (exact kgp_neb (by kernel_rfl) (by exact kgp_same))⟩ ?_
  rintro loc ⟨k1, k2, k3, k4, k5, k6⟩
  refine Ex.mono (P := fun f l H' => f = .next ∧ (kget l "ledger" = some (.ref 5) ∧ kget l "sent" = some (.ref 2) ∧ kget l "reno" = some (.ref 3) ∧ kget l "rtt" = some (.ref 4) ∧ kget l "now" = some (.int now)) ∧ ∃ S4 : St, H' = heap S4 ∧ Ok S4 B C N P) ?_ ?_
  · focus (refine ex_if ?_; refine' te_cmpl rfl (by kernel_rfl) (by assumption) ?_; refine ev_list ?_; refine evs_nil ?_; refine and_len (Nat.le_of_ble_eq_true rfl) ?_; rotate_left)
    refine ⟨_, ac_ne_nilr get_snoc (get_old hJ2), ?_⟩
    have hJ3 := get_old (o := .list []) hJ2
    rw [heap_snoc] at hJ3 ⊢
    have o3 := o2.garb (G := S2.G ++ [.list []])
    have hR3 : ({ S2 with G := S2.G ++ [.list []] } : St).R = S2.R := rfl
    have hl3 : ({ S2 with G := S2.G ++ [.list []] } : St).l = S2.l := rfl
    generalize ({ S2 with G := S2.G ++ [.list []] } : St) = S3 at o3 hJ3 hR3 hl3 ⊢
    rw [← hR3, ← hl3] at hJ3 ⊢
    have hXs : (lostR S3.l.top now wait S3.R).Sublist S3.R := List.filter_sublist
    generalize lostR S3.l.top now wait S3.R = X at hJ3 hXs ⊢
    have hX : X.length < 64 := Nat.lt_of_le_of_lt hXs.length_le (o3.len hN)
    have ndX := nums_nodup hXs o3.nd
    have hsub : ∀ r ∈ X, r ∈ S3.R := fun r hr => hXs.subset hr
    focus (refine split_x (fun _ => ?_) (fun _ => ?_); refine xs_cons ?_; refine ex_expr ?_; refine ev_meth ⟨Nat.le_of_ble_eq_true rfl, rfl, rfl⟩ ?_; refine' ev_locv (by kernel_rfl) (by assumption) ?_; refine mg_u ?_; refine hob_of heap_3 ?_; refine ⟨_, _, rfl, kn12, _, mi12, ?_⟩; refine evs_cons rfl ?_; refine' ev_callA (Nat.le_of_ble_eq_true rfl) (by kernel_rfl) (ar_cons rfl (pu_loc (by kernel_rfl) (by assumption)) (ar_cons rfl (pu_loc (by kernel_rfl) (by assumption)) ar_nil)) ?_; refine cn_user fi6 ?_; rotate_left; refine xs_nil ?_; rotate_left)
    · rename_i hne
      cases hm : maxL (X.map (·.time)) with
      | none =>
        have hX0 : X = [] := by simpa using maxL_none hm
        subst hX0
        cases hne
      | some m =>
        have hvf : S3.v = false := by
          cases X with
          | nil => cases hne
          | cons a X => exact o3.vf (hsub a (.head _))
        have h2 : (heap S3)[2]? = some (.dictI (sentE S3.R)) := by have := heap_2 (S := S3); rw [hvf] at this; exact this
        have h6 : (heap S3)[6]? = some (.dictI (rowsE S3.R)) := by have := heap_6 (S := S3); rw [hvf] at this; exact this
        have hw := o3.wB hN (by omega)
        refine flight_size_spec h2 hJ3 hX o3.nd hsub ?_
        focus (refine evs_cons rfl ?_; refine' ev_callA (Nat.le_of_ble_eq_true rfl) (by kernel_rfl) (ar_cons rfl (pu_loc (by kernel_rfl) (by assumption)) (ar_cons rfl (pu_loc (by kernel_rfl) (by assumption)) ar_nil)) ?_; refine cn_user fi5 ?_; rotate_left)
        refine newest_time_spec h2 hJ3 hX o3.nd hsub ?_
        rw [hm]
        focus (refine' evs_loc (by kernel_rfl) (by assumption) ?_; refine evs_nil ?_; refine me_usr ?_; rotate_left)
        refine on_lost_spec (B := B) (t := S3.l.thr) (m := S3.l.met) (heap_3 (S := S3)) (by first | exact hB1 | exact bx 64 (by assumption) b0 (by decide) | omega) hw ?_
        focus (refine next_cons ?_; refine ex_expr ?_; refine' ev_callA (Nat.le_of_ble_eq_true rfl) (by kernel_rfl) (ar_cons rfl (pu_loc (by kernel_rfl) (by assumption)) (ar_cons rfl (pu_loc (by kernel_rfl) (by assumption)) (ar_cons rfl (pu_loc (by kernel_rfl) (by assumption)) ar_nil))) ?_; refine cn_user fi18 ?_; rotate_left)
        refine law_struck_spec (B := B) (S := X) (last := m) (get_set_ne (by decide) (heap_5 (S := S3))) (get_set_ne (by decide) h6) (get_set_ne (by first | exact hB1 | exact bx 64 (by assumption) b0 (by decide) | omega) hJ3) (by first | exact hB1 | exact bx 64 (by assumption) b0 (by decide) | omega) (o3.len hN) hX o3.nd ndX hsub (by first | exact hB1 | exact bx 64 (by assumption) b0 (by decide) | omega) hw hm ?_
        focus (refine next_cons ?_; refine ex_for ⟨by kernel_rfl, rfl⟩ ?_; refine' ev_locv (by kernel_rfl) (by assumption) ?_; rotate_left)
        have hj8 : j = S.G.length + 8 := by rw [← hj, heap_len]
        have hG : S3.G[S.G.length]? = some (.list (iL (nums X))) := by rw [hj8, heap_hi] at hJ3; exact hJ3
        refine ⟨_, it_list (get_set_ne (by omega) (get_set_ne (by omega) (get_set_ne (by omega) hJ3))), rfl, by (show _ < 100000; (try simp only [List.length_append, List.length_map, List.length_cons, List.length_nil, iL_length, nums_length, rowsE_length, sentE_length]); omega), ?_⟩
        rw [iL_nums]
        have o4 : Ok { S3 with v := false, R := delAll X S3.R, l := { S3.l with window := (lostS S3.l.window S3.l.thr S3.l.met S3.l.shares m now).1, thr := (lostS S3.l.window S3.l.thr S3.l.met S3.l.shares m now).2.1, met := (lostS S3.l.window S3.l.thr S3.l.met S3.l.shares m now).2.2.1, shares := (lostS S3.l.window S3.l.thr S3.l.met S3.l.shares m now).2.2.2 } } B C N P := o3.lose
        have hsz := sizes_delAll o3.nd ndX hsub
        generalize hlo : lostS S3.l.window S3.l.thr S3.l.met S3.l.shares m now = lo at o4 ⊢
        refine fo_map (fun pre loc H' => H' = (heap { S3 with v := false, R := delAll X S3.R, l := { S3.l with window := lo.1, thr := lo.2.1, met := lo.2.2.1, shares := lo.2.2.2 } }).set 2 (.dictI (sentE (delAll pre S3.R))) ∧
          kget loc "ledger" = some (.ref 5) ∧ kget loc "sent" = some (.ref 2) ∧ kget loc "reno" = some (.ref 3) ∧ kget loc "rtt" = some (.ref 4) ∧ kget loc "now" = some (.int now)) ?_ ?_ ?_ ?_
        · refine ⟨?_, k1, k2, k3, k4, k5⟩
          unfold heap
          rw [hvf, hsz]
          rfl
        · rintro pre loc H' ⟨rfl, _⟩
          rw [← iL_nums]
          exact aguard_self (it_list (get_set_ne (by omega) (by rw [hj8, heap_hi]; exact hG)))
        · rintro pre r suf loc H' e ⟨rfl, k1, k2, k3, k4, k5⟩
          have hr : r ∈ X := by rw [e]; simp
          have hm : r ∈ delAll pre S3.R := mem_delAll (hsub r hr) (pre_ne e ndX)
          have hx := kget_sentE (nums_nodup (delAll_sub pre S3.R) o3.nd) hm
          have hl2 : (delAll pre S3.R).length ≤ S3.R.length := (delAll_sub pre S3.R).length_le
          have hl3 := o3.len hN
          focus (refine xs_cons ?_; refine ex_expr ?_; refine ev_meth ⟨Nat.le_of_ble_eq_true rfl, rfl, rfl⟩ ?_; refine' ev_locv (by kernel_rfl) (kgp_neb (by kernel_rfl) (by assumption)) ?_; refine mg_d (.inl rfl) ?_; refine hob_same ?_ ?_; refine hob_of heap_2 ?_; exact trivial; refine and_dict rfl ?_; refine' evs_loc (by kernel_rfl) kgp_same ?_; refine evs_nil ?_; refine me_dpop ?_; refine hob_same ?_ ?_; refine hob_of heap_2 ?_; exact trivial; refine ⟨_, rfl, (by (show _ < 100000; (try simp only [List.length_append, List.length_map, List.length_cons, List.length_nil, iL_length, nums_length, rowsE_length, sentE_length]); omega)), ?_⟩; refine' kd_of (by assumption) ?_; refine then_next ?_; refine xs_nil ?_; rotate_left)
          refine ⟨.inl rfl, ?_, by focus (exact kgp_neb (by kernel_rfl) (by assumption)), by focus (exact kgp_neb (by kernel_rfl) (by assumption)), by focus (exact kgp_neb (by kernel_rfl) (by assumption)), by focus (exact kgp_neb (by kernel_rfl) (by assumption)), by focus (exact kgp_neb (by kernel_rfl) (by assumption))⟩
          rw [List.set_set, kdel_sentE, delAll_snoc]
        · rintro loc H' ⟨rfl, k1, k2, k3, k4, k5⟩
          focus (refine then_next ?_; refine xs_nil ?_; rotate_left)
          exact ⟨rfl, ⟨k1, k2, k3, k4, k5⟩, _, rfl, o4⟩
    · exact ⟨rfl, ⟨k1, k2, k3, k4, k5⟩, S3, rfl, o3⟩
  rintro f l H' ⟨rfl, ⟨k1, k2, k3, k4, k5⟩, S4, rfl, o4⟩
  clear o1 o2 hJ hJ2 k6
  focus (refine next_assign (by kernel_rfl) ?_; refine ev_comp (by kernel_rfl) ?_; refine ev_meth ⟨Nat.le_of_ble_eq_true rfl, rfl, rfl⟩ ?_; refine' ev_locv (by kernel_rfl) (by assumption) ?_; refine mg_d (.inr (.inl rfl)) ?_; refine hob_of heap_2 ?_; refine and_dict isDict_dO ?_; refine evs_nil ?_; refine me_values ?_; refine hob_of heap_2 ?_; refine and_id isID_dO ?_; rotate_left)
  have hlen4 := o4.len hN
  refine cit_view (v := S4.v) (es := sentE S4.R) (heap_2 (S := S4)) o4.vs (by rw [sentE_length]; omega) ⟨rfl, rfl⟩ ?_
  rw [sentE_vals]
  refine co_map (fun r => some (.int r.time)) (by rw [← sentE_vals]; exact aguard_self (it_view (heap_2 (S := S4)) o4.vs)) ?_ ?_
  · intro r hr
    focus (refine on_name ?_; refine one_plain ?_; refine' ev_pu (pu_sub rfl (pu_loc (by kernel_rfl) kgp_same) pu_int (by exact git rfl rfl)) ?_; rotate_left)
    exact ⟨rfl, rfl⟩
  rw [filterMap_all, map_iL (fun r : Row => r.time)]
  focus (refine as_nameb (by kernel_rfl) ?_; refine next_assign (by kernel_rfl) ?_; refine ev_dict ?_; refine di_cons ?_; rotate_left)
  refine Ev.mono (P := fun v H' => v = oi (maxL (S4.R.map (·.time))) ∧ H' = heap S4 ++ [.dictE] ++ [.list []]) ?_ ?_
  · focus (refine ev_if ?_; refine' te_cmpl rfl (by kernel_rfl) kgp_same ?_; refine ev_list ?_; refine evs_nil ?_; refine and_len (Nat.le_of_ble_eq_true rfl) ?_; rotate_left)
    refine ⟨_, ac_ne_nil get_snoc, ?_⟩
    focus (refine split_x (fun _ => ?_) (fun _ => ?_); refine' ev_callA (Nat.le_of_ble_eq_true rfl) (by kernel_rfl) (ar_cons rfl (pu_loc (by kernel_rfl) kgp_same) ar_nil) ?_; rotate_left; refine ev_non ?_; rotate_left)
    · rename_i hne
      cases hm : maxL (S4.R.map (·.time)) with
      | none => rw [maxL_none hm] at hne; cases hne
      | some m =>
        refine cn_bi nb_max (ab_maxl (by rw [iL_length, List.length_map]; omega) (intsOf_iL _) hm) ?_
        exact ⟨rfl, rfl⟩
    · rename_i hne
      have h0 : S4.R.map (·.time) = [] := by
        cases h : S4.R.map (·.time) with
        | nil => rfl
        | cons a l => rw [h] at hne; cases hne
      rw [h0]
      exact ⟨rfl, rfl⟩
  rintro v H' ⟨rfl, rfl⟩
  focus (refine di_nil ?_; rotate_left)
  refine ⟨rfl, Nat.le_of_ble_eq_true rfl, get_old get_snoc, ?_⟩
  rw [set_old (by rw [List.length_append]; exact Nat.lt_succ_self _), set_snoc]
  have hA : (heap S4 ++ [.dictS [("application", oi (maxL (S4.R.map (·.time))))]] ++ [.list []])[(heap S4).length]? = some (.dictS [("application", oi (maxL (S4.R.map (·.time))))]) := get_old get_snoc
  generalize (heap S4).length = j5 at hA ⊢
  rw [heap_snoc, heap_snoc] at hA ⊢
  have o5 := (o4.garb (G := S4.G ++ [.dictS [("application", oi (maxL (S4.R.map (·.time))))]])).garb (G := S4.G ++ [.dictS [("application", oi (maxL (S4.R.map (·.time))))]] ++ [.list []])
  have hR5 : ({ S4 with G := S4.G ++ [.dictS [("application", oi (maxL (S4.R.map (·.time))))]] ++ [.list []] } : St).R = S4.R := rfl
  change (heap { S4 with G := S4.G ++ [.dictS [("application", oi (maxL (S4.R.map (·.time))))]] ++ [.list []] })[j5]? = _ at hA
  change As _ _ _ _ _ (heap { S4 with G := S4.G ++ [.dictS [("application", oi (maxL (S4.R.map (·.time))))]] ++ [.list []] }) _
  change Ok { S4 with G := S4.G ++ [.dictS [("application", oi (maxL (S4.R.map (·.time))))]] ++ [.list []] } B C N P at o5
  generalize ({ S4 with G := S4.G ++ [.dictS [("application", oi (maxL (S4.R.map (·.time))))]] ++ [.list []] } : St) = S5 at o5 hA hR5 ⊢
  rw [← hR5] at hA
  have h85 := o5.h8
  have h45 := o5.h4
  have hp5 := o5.hp
  have hlen5 := o5.len hN
  focus (refine as_nameb (by kernel_rfl) ?_; refine next_cons ?_; rotate_left)
  refine ex_gen (fun loc => kget loc "ledger" = some (.ref 5) ∧ kget loc "sent" = some (.ref 2) ∧ kget loc "reno" = some (.ref 3) ∧ kget loc "rtt" = some (.ref 4) ∧ kget loc "now" = some (.int now) ∧ kget loc "asked" = some (.ref j5))
    ⟨by focus (exact kgp_neb (by kernel_rfl) (by exact kgp_neb (by kernel_rfl) (by assumption))), by focus (exact kgp_neb (by kernel_rfl) (by exact kgp_neb (by kernel_rfl) (by assumption))), by focus (exact kgp_neb (by kernel_rfl) (by exact kgp_neb (by kernel_rfl) (by assumption))), by focus (exact kgp_neb (by kernel_rfl) (by exact kgp_neb (by kernel_rfl) (by assumption))), by focus (exact kgp_neb (by kernel_rfl) (by exact kgp_neb (by kernel_rfl) (by assumption))), by focus (exact kgp_same)⟩ ?_
  clear k1 k2 k3 k4 k5
  rintro loc ⟨k1, k2, k3, k4, k5, k6⟩
  refine Ex.mono (P := fun f l H' => f = .next ∧ l = loc ∧ ∃ S6 : St, H' = heap S6 ∧ Ok S6 B C N P) ?_ ?_
  · focus (refine ex_if ?_; refine te_cmp rfl ?_; refine ev_call (Nat.le_of_ble_eq_true rfl) (by kernel_rfl) ?_; refine' evs_loc (by kernel_rfl) (by assumption) ?_; refine evs_cons rfl ?_; refine' ev_methu ⟨Nat.le_of_ble_eq_true rfl, rfl, rfl⟩ (by kernel_rfl) (by assumption) heap_4 kn4 mi4 ar_nil ?_; rotate_left)
    refine probe_base_spec (B := B) (heap_4 (S := S5)) (by first | exact hB1 | exact bx 64 (by assumption) b0 (by decide) | omega) (by first | exact hB1 | exact bx 64 (by assumption) b0 (by decide) | omega) ?_
    focus (refine evs_int ?_; refine evs_cons rfl ?_; refine' ev_led (by kernel_rfl) (by assumption) heap_5 (by first | exact lg11 | exact kg_tailb (by kernel_rfl) (kg_tailb (by kernel_rfl) (kg_tailb (by kernel_rfl) (kg_tailb (by kernel_rfl) (kg_tailb (by kernel_rfl) (kg_tailb (by kernel_rfl) (kg_tailb (by kernel_rfl) (kg_tailb (by kernel_rfl) (kg_tailb (by kernel_rfl) (kg_tailb (by kernel_rfl) (kg_tailb (by kernel_rfl) kg_head))))))))))) ?_; refine evs_cons rfl ?_; refine ev_cb ?_; refine evs_cons rfl ?_; refine ev_cb ?_; refine evs_cons rfl ?_; refine ev_cb ?_; refine' evs_loc (by kernel_rfl) (by assumption) ?_; refine evs_nil ?_; refine cn_user fi13 ?_; rotate_left)
    cases hm : maxL (S5.R.map (·.time)) with
    | none =>
      have hR0 : S5.R = [] := by simpa using maxL_none hm
      rw [hm] at hA
      refine probe_due_none_spec (b := true) hA ?_
      focus (refine' ev_callA (Nat.le_of_ble_eq_true rfl) (by kernel_rfl) (ar_cons rfl (pu_loc (by kernel_rfl) (by assumption)) ar_nil) ?_; refine cn_user fi19 ?_; rotate_left)
      refine law_probe_none_spec (v := S5.v) (heap_5 (S := S5)) (by have := heap_6 (S := S5); rw [hR0] at this; exact this) ?_
      focus (refine ⟨_, ac_ne_none, ?_⟩; refine split_f ?_; refine xs_nil ?_; rotate_left)
      exact ⟨rfl, rfl, _, heap_snoc, o5.garb⟩
    | some m =>
      have hR0 : S5.R ≠ [] := by intro h; rw [h] at hm; cases hm
      have hvf : S5.v = false := by
        cases h : S5.v with
        | false => rfl
        | true => exact absurd (o5.hv h) hR0
      rw [hm] at hA
      refine probe_due_some_spec (B := B) hA (by first | exact hB1 | exact bx 64 (by assumption) b0 (by decide) | omega) (by first | exact hB1 | exact bx 64 (by assumption) b0 (by decide) | omega) (by first | exact hB1 | exact bx 64 (by assumption) b0 (by decide) | omega) ?_
      rw [heap_snoc]
      focus (refine' ev_callA (Nat.le_of_ble_eq_true rfl) (by kernel_rfl) (ar_cons rfl (pu_loc (by kernel_rfl) (by assumption)) ar_nil) ?_; refine cn_user fi19 ?_; rotate_left)
      refine law_probe_some_spec (B := B) (R := S5.R) (m := m) (by exact heap_5 (S := S5)) (by have := heap_6 (S := S5); rw [hvf] at this; exact this) hlen5 hR0 hm (by first | exact hB1 | exact bx 64 (by assumption) b0 (by decide) | omega) (by first | exact hB1 | exact bx 64 (by assumption) b0 (by decide) | omega) (by first | exact hB1 | exact bx 64 (by assumption) b0 (by decide) | omega) (by first | exact hB1 | exact bx 64 (by assumption) b0 (by decide) | omega) ?_
      rw [heap_snoc]
      focus (refine ⟨_, ac_ne_istr, ?_⟩; refine split_f ?_; refine xs_nil ?_; rotate_left)
      exact ⟨rfl, rfl, _, rfl, o5.garb.garb⟩
  rintro f l H' ⟨rfl, rfl, S6, rfl, o6⟩
  focus (refine next_cons ?_; rotate_left)
  have h86 := o6.h8
  have h46 := o6.h4
  have hlen6 := o6.len hN
  focus (refine ex_if ?_; refine te_cmp rfl ?_; refine ev_tup ?_; refine evs_cons rfl ?_; refine' ev_methu ⟨Nat.le_of_ble_eq_true rfl, rfl, rfl⟩ (by kernel_rfl) (by assumption) heap_4 kn1 mi1 ar_nil ?_; rotate_left)
  refine smoothed_spec (B := B) (heap_4 (S := S6)) (by first | exact hB1 | exact bx 64 (by assumption) b0 (by decide) | omega) (by first | exact hB1 | exact bx 64 (by assumption) b0 (by decide) | omega) ?_
  focus (refine evs_cons rfl ?_; refine' ev_methu ⟨Nat.le_of_ble_eq_true rfl, rfl, rfl⟩ (by kernel_rfl) (by assumption) heap_4 kn2 mi2 ar_nil ?_; rotate_left)
  refine variance_spec (B := B) (heap_4 (S := S6)) (by first | exact hB1 | exact bx 64 (by assumption) b0 (by decide) | omega) (by first | exact hB1 | exact bx 64 (by assumption) b0 (by decide) | omega) ?_
  focus (refine evs_nil ?_; refine and_len (Nat.le_of_ble_eq_true rfl) ?_; refine' ev_pu (pu_tup (ar_cons rfl (pu_bin (pu_led (by kernel_rfl) (by assumption) heap_5 (by first | exact lg5 | exact rg5 | exact kg_tailb (by kernel_rfl) (kg_tailb (by kernel_rfl) (kg_tailb (by kernel_rfl) (kg_tailb (by kernel_rfl) (kg_tailb (by kernel_rfl) kg_head)))))) pu_int (abin_fdiv (by omega) (fits_of (by omega) (by omega)) (by kernel_rfl))) (ar_cons rfl (pu_bin (pu_led (by kernel_rfl) (by assumption) heap_5 (by first | exact lg6 | exact kg_tailb (by kernel_rfl) (kg_tailb (by kernel_rfl) (kg_tailb (by kernel_rfl) (kg_tailb (by kernel_rfl) (kg_tailb (by kernel_rfl) (kg_tailb (by kernel_rfl) kg_head))))))) pu_int (abin_fdiv (by omega) (fits_of (by omega) (by omega)) (by kernel_rfl))) ar_nil)) (by exact (Nat.le_of_ble_eq_true rfl))) ?_; refine ⟨_, ac_ne_ii, ?_⟩; refine split_f ?_; refine xs_nil ?_; refine next_assign (by kernel_rfl) ?_; refine ev_call (Nat.le_of_ble_eq_true rfl) (by kernel_rfl) ?_; refine evs_cons rfl ?_; refine ev_comp (by kernel_rfl) ?_; refine ev_meth ⟨Nat.le_of_ble_eq_true rfl, rfl, rfl⟩ ?_; refine' ev_led (by kernel_rfl) (by assumption) heap_5 kg_head ?_; refine mg_d (.inr (.inl rfl)) ?_; refine hob_of heap_6 ?_; refine and_dict isDict_dO ?_; refine evs_nil ?_; refine me_values ?_; refine hob_of heap_6 ?_; refine and_id isID_dO ?_; rotate_left)
  refine cit_view (v := S6.v) (es := rowsE S6.R) (heap_6 (S := S6)) o6.vr (by rw [rowsE_length]; omega) ⟨rfl, rfl⟩ ?_
  rw [rowsE_vals]
  refine co_map (fun r => some (.int r.size)) (by rw [← rowsE_vals]; exact aguard_self (it_view (heap_6 (S := S6)) o6.vr)) ?_ ?_
  · intro r hr
    focus (refine on_pair ?_; refine one_plain ?_; refine' ev_locv (by kernel_rfl) kgp_same ?_; rotate_left)
    exact ⟨rfl, rfl⟩
  rw [filterMap_all, map_iL (fun r : Row => r.size)]
  focus (refine evs_nil ?_; rotate_left)
  refine cn_bi nb_sum (ab_sum (by rw [iL_length, List.length_map]; omega) (intsOf_iL _)) ?_
  focus (refine as_nameb (by kernel_rfl) ?_; refine' next_letp (by kernel_rfl) (by kernel_rfl) (pu_tup (ar_cons rfl (pu_attr (by kernel_rfl) (kgp_neb (by kernel_rfl) (by assumption)) heap_3 (by kernel_rfl) (by first | exact lg1 | exact rg1 | exact tg1 | exact kg_tailb (by kernel_rfl) kg_head)) (ar_cons rfl (pu_attr (by kernel_rfl) (kgp_neb (by kernel_rfl) (by assumption)) heap_3 (by kernel_rfl) (by first | exact lg2 | exact rg2 | exact tg2 | exact kg_tailb (by kernel_rfl) (kg_tailb (by kernel_rfl) kg_head))) (ar_cons rfl (pu_attr (by kernel_rfl) (kgp_neb (by kernel_rfl) (by assumption)) heap_3 (by kernel_rfl) (by first | exact lg3 | exact rg3 | exact tg3 | exact kg_tailb (by kernel_rfl) (kg_tailb (by kernel_rfl) (kg_tailb (by kernel_rfl) kg_head)))) (ar_cons rfl (pu_attr (by kernel_rfl) (kgp_neb (by kernel_rfl) (by assumption)) heap_3 (by kernel_rfl) (by first | exact lg4 | exact rg4 | exact tg4 | exact kg_tailb (by kernel_rfl) (kg_tailb (by kernel_rfl) (kg_tailb (by kernel_rfl) (kg_tailb (by kernel_rfl) kg_head))))) ar_nil)))) (by exact (Nat.le_of_ble_eq_true rfl))) ?_; refine next_cons ?_; refine ex_ret ?_; refine ev_cmp rfl ?_; refine' ev_locv (by kernel_rfl) kgp_same ?_; refine' ev_pu (pu_tup (ar_cons rfl (pu_led (by kernel_rfl) (kgp_neb (by kernel_rfl) (kgp_neb (by kernel_rfl) (by assumption))) heap_5 (by first | exact lg7 | exact kg_tailb (by kernel_rfl) (kg_tailb (by kernel_rfl) (kg_tailb (by kernel_rfl) (kg_tailb (by kernel_rfl) (kg_tailb (by kernel_rfl) (kg_tailb (by kernel_rfl) (kg_tailb (by kernel_rfl) kg_head)))))))) (ar_cons rfl (pu_led (by kernel_rfl) (kgp_neb (by kernel_rfl) (kgp_neb (by kernel_rfl) (by assumption))) heap_5 (by first | exact lg8 | exact kg_tailb (by kernel_rfl) (kg_tailb (by kernel_rfl) (kg_tailb (by kernel_rfl) (kg_tailb (by kernel_rfl) (kg_tailb (by kernel_rfl) (kg_tailb (by kernel_rfl) (kg_tailb (by kernel_rfl) (kg_tailb (by kernel_rfl) kg_head))))))))) (ar_cons rfl (pu_led (by kernel_rfl) (kgp_neb (by kernel_rfl) (kgp_neb (by kernel_rfl) (by assumption))) heap_5 (by first | exact lg9 | exact kg_tailb (by kernel_rfl) (kg_tailb (by kernel_rfl) (kg_tailb (by kernel_rfl) (kg_tailb (by kernel_rfl) (kg_tailb (by kernel_rfl) (kg_tailb (by kernel_rfl) (kg_tailb (by kernel_rfl) (kg_tailb (by kernel_rfl) (kg_tailb (by kernel_rfl) kg_head)))))))))) (ar_cons rfl (pu_loc (by kernel_rfl) (kgp_neb (by kernel_rfl) kgp_same)) ar_nil)))) (by exact (Nat.le_of_ble_eq_true rfl))) ?_; rotate_left)
  refine ⟨_, ac_eq_told, ?_⟩
  focus (refine then_ret ?_; rotate_left)
  exact q S6 o6
end

section
variable {a b c d e f v : AV}
theorem kr1 : kput ([] : List (Str × AV)) (Str.ofString "datagram") v = [(Str.ofString "datagram", v)] := rfl
theorem kr2 : kput [(Str.ofString "datagram", a)] (Str.ofString "window") v = [(Str.ofString "datagram", a), (Str.ofString "window", v)] := by simp [kput, ofString_inj]
theorem kr3 : kput [(Str.ofString "datagram", a), (Str.ofString "window", b)] (Str.ofString "threshold") v = [(Str.ofString "datagram", a), (Str.ofString "window", b), (Str.ofString "threshold", v)] := by simp [kput, ofString_inj]
theorem kr4 : kput [(Str.ofString "datagram", a), (Str.ofString "window", b), (Str.ofString "threshold", c)] (Str.ofString "recovery_at") v = [(Str.ofString "datagram", a), (Str.ofString "window", b), (Str.ofString "threshold", c), (Str.ofString "recovery_at", v)] := by simp [kput, ofString_inj]
theorem kr5 : kput [(Str.ofString "datagram", a), (Str.ofString "window", b), (Str.ofString "threshold", c), (Str.ofString "recovery_at", d)] (Str.ofString "in_flight") v = [(Str.ofString "datagram", a), (Str.ofString "window", b), (Str.ofString "threshold", c), (Str.ofString "recovery_at", d), (Str.ofString "in_flight", v)] := by simp [kput, ofString_inj]
theorem kr6 : kput [(Str.ofString "datagram", a), (Str.ofString "window", b), (Str.ofString "threshold", c), (Str.ofString "recovery_at", d), (Str.ofString "in_flight", e)] (Str.ofString "credit") v = [(Str.ofString "datagram", a), (Str.ofString "window", b), (Str.ofString "threshold", c), (Str.ofString "recovery_at", d), (Str.ofString "in_flight", e), (Str.ofString "credit", v)] := by simp [kput, ofString_inj]
theorem kt1 : kput ([] : List (Str × AV)) (Str.ofString "latest") v = [(Str.ofString "latest", v)] := rfl
theorem kt2 : kput [(Str.ofString "latest", a)] (Str.ofString "least") v = [(Str.ofString "latest", a), (Str.ofString "least", v)] := by simp [kput, ofString_inj]
theorem kt3 : kput [(Str.ofString "latest", a), (Str.ofString "least", b)] (Str.ofString "smoothed8") v = [(Str.ofString "latest", a), (Str.ofString "least", b), (Str.ofString "smoothed8", v)] := by simp [kput, ofString_inj]
theorem kt4 : kput [(Str.ofString "latest", a), (Str.ofString "least", b), (Str.ofString "smoothed8", c)] (Str.ofString "variance4") v = [(Str.ofString "latest", a), (Str.ofString "least", b), (Str.ofString "smoothed8", c), (Str.ofString "variance4", v)] := by simp [kput, ofString_inj]
theorem kt5 : kput [(Str.ofString "latest", a), (Str.ofString "least", b), (Str.ofString "smoothed8", c), (Str.ofString "variance4", d)] (Str.ofString "first_at") v = [(Str.ofString "latest", a), (Str.ofString "least", b), (Str.ofString "smoothed8", c), (Str.ofString "variance4", d), (Str.ofString "first_at", v)] := by simp [kput, ofString_inj]
end
theorem cls_ren : fidx "NewReno" = none ∧ cidx "NewReno" = some 1 := ⟨by kernel_rfl, by kernel_rfl⟩
theorem cls_rtt : fidx "Rtt" = none ∧ cidx "Rtt" = some 0 := ⟨by kernel_rfl, by kernel_rfl⟩
theorem as_take {l : List AV} (h : l.length < 100000) : aslice (.lst l) .none (.int 60) = some (.lst (l.take 60)) := by
  have h : l.length < lenLine := h
  simp [aslice, h]
theorem me_update {n : Nat} {H : AH} {k j : Nat} {es fs : List (Str × AV)} {Q : AV → AH → Prop} (hk : H[k]? = some (.dictS es)) (hj : H[j]? = some (.dictS fs)) (hl : es.length + fs.length < 100000) (hne : k ≠ j)
    (q : Q .none (H.set k (.dictS (fs.foldl (fun a e => kput a e.1 e.2) es)))) : Me (n + 1) (.dct k) "update" [.ref j] H Q := by
  have e1 : oS H[k]? = some es := by rw [hk]; rfl
  have e2 : oS H[j]? = some fs := by rw [hj]; rfl
  exact me_dct (ie (nstr (by kernel_rfl)) (ie (nstr (by kernel_rfl)) (ie (nstr (by kernel_rfl)) (it rfl (bd (rfl : argR [AV.ref j] = some j) (bd e1 (bd e2 (it ⟨hl, hne⟩ rfl)))))))) q
/-- the ledger at the start -/
noncomputable def led0 : Led := ⟨0, none, none, 0, 2664000, 666000, 12000, none, none, 0, 0⟩
theorem led0_is : (tmpL.foldl (fun a e => kput a e.1 e.2) [("rows", .ref 6), ("next", .int 0), ("top", .none), ("least", .none), ("latest", .int 0), ("eighths", .int 2664000), ("fourths", .int 666000)] : List (Str × AV)) = ledL led0 := by
  simp [kput, ofString_inj, led0]
theorem minL_mem : ∀ {l : List Int} {m : Int}, minL l = some m → m ∈ l
  | [], _, h => by cases h
  | a :: r, m, h => by
    have key : ∀ (r : List Int) (a : Int), r.foldl (fun m x => if x < m then x else m) a ∈ a :: r := by
      intro r
      induction r with
      | nil => intro a; exact .head _
      | cons b r ih =>
        intro a
        rw [List.foldl_cons]
        by_cases hb : b < a
        · rw [if_pos hb]
          exact .tail _ (ih b)
        · rw [if_neg hb]
          rcases List.mem_cons.mp (ih a) with h | h
          · rw [h]; exact .head _
          · exact .tail _ (.tail _ h)
    simp only [minL, Option.some.injEq] at h
    rw [← h]; exact key r a
theorem maxL_mem : ∀ {l : List Int} {m : Int}, maxL l = some m → m ∈ l
  | [], _, h => by cases h
  | a :: r, m, h => by
    have key : ∀ (r : List Int) (a : Int), r.foldl (fun m x => if m < x then x else m) a ∈ a :: r := by
      intro r
      induction r with
      | nil => intro a; exact .head _
      | cons b r ih =>
        intro a
        rw [List.foldl_cons]
        by_cases hb : a < b
        · rw [if_pos hb]
          exact .tail _ (ih b)
        · rw [if_neg hb]
          rcases List.mem_cons.mp (ih a) with h | h
          · rw [h]; exact .head _
          · exact .tail _ (.tail _ h)
    simp only [maxL, Option.some.injEq] at h
    rw [← h]; exact key r a
theorem mul_line {x b k K : Int} (hx : -b ≤ x ∧ x ≤ b) (hk : 0 ≤ k ∧ k ≤ K) : -(b * K) ≤ x * k ∧ x * k ≤ b * K := by
  have hb : 0 ≤ b := by omega
  have h1 : x * k ≤ b * k := Int.mul_le_mul_of_nonneg_right hx.2 hk.1
  have h2 : b * k ≤ b * K := Int.mul_le_mul_of_nonneg_left hk.2 hb
  have h3 : -b * k ≤ x * k := Int.mul_le_mul_of_nonneg_right hx.1 hk.1
  rw [Int.neg_mul] at h3
  omega
theorem two_pow_line {p : Int} (h : 0 ≤ p ∧ p ≤ 15) : 0 ≤ (2 : Int) ^ p.toNat ∧ (2 : Int) ^ p.toNat ≤ 32768 := by
  refine ⟨Int.pow_nonneg (by decide), ?_⟩
  have h : p.toNat ≤ 15 := by omega
  have := Nat.pow_le_pow_right (n := 2) (by decide) h
  have e : ((2 ^ p.toNat : Nat) : Int) ≤ ((2 ^ 15 : Nat) : Int) := Int.ofNat_le.mpr this
  simpa using e
theorem probeAt_line {l : Led} {m B : Int} (hm : -B ≤ m ∧ m ≤ B) (h8 : -B ≤ l.eighths ∧ l.eighths ≤ B) (h4 : -B ≤ l.fourths ∧ l.fourths ≤ B) (hp : 0 ≤ l.probes ∧ l.probes ≤ 15) (hB : 1000000 ≤ B) : -(65537 * B) ≤ probeAt l m ∧ probeAt l m ≤ 65537 * B := by
  have h := mul_line (x := l.eighths / 8 + max l.fourths 1000 + 25000) (b := 2 * B) (by omega) (two_pow_line hp)
  unfold probeAt
  omega
theorem laterO_line {top : Option Int} {now wait m B : Int} {R : List Row} (h : laterO top now wait R = some m) (ht : ∀ r ∈ R, -B ≤ r.time ∧ r.time ≤ B) : -B + wait ≤ m ∧ m ≤ B + wait := by
  have := minL_mem h
  obtain ⟨r, hr, rfl⟩ := List.mem_map.mp this
  have := ht r (List.mem_filter.mp hr).1
  omega

section
variable {n : Nat} {H : AH} {S : St} {B C N P : Int} {k : Nat} {Q : AV → AH → Prop}
theorem newreno_init {B : Int} (hk : H[k]? = some (.inst 1 [])) (hB : 1000000 ≤ B ∧ 1048576 * B ≤ BIG) (q : Q .none (H.set k (.inst 1 (renL 12000 .none .none 0 0)))) : Cl (n + 30) (mdef (cplace 1) 0) [.ref k, .int 1200] H Q := by
  ((refine cl_intro (fd := ⟨_, _, _, _⟩) rfl rfl ?_); dsimp only [List.map, List.zip, List.zipWith])
  focus (refine' xs_attrp (by kernel_rfl) (pu_loc (by kernel_rfl) (kg_tailb (by kernel_rfl) kg_head)) (by kernel_rfl) kg_head (by assumption) (by exact ⟨by kernel_rfl, Nat.le_of_ble_eq_true rfl⟩) kr1 ?_; refine next_assign (by kernel_rfl) ?_; refine' ev_callA (Nat.le_of_ble_eq_true rfl) (by kernel_rfl) (ar_cons rfl (pu_loc (by kernel_rfl) (kg_tailb (by kernel_rfl) kg_head)) ar_nil) ?_; refine cn_user fi7 ?_; rotate_left)
  refine initial_window_spec hB ?_
  focus (refine' as_attrv (by kernel_rfl) kg_head (get_set_same (by assumption)) (by exact ⟨by kernel_rfl, Nat.le_of_ble_eq_true rfl⟩) kr2 ?_; refine' next_attrp (by kernel_rfl) pu_non (by kernel_rfl) kg_head (get_set_same (get_set_same (by assumption))) (by exact ⟨by kernel_rfl, Nat.le_of_ble_eq_true rfl⟩) kr3 ?_; refine' next_attrp (by kernel_rfl) pu_non (by kernel_rfl) kg_head (get_set_same (get_set_same (get_set_same (by assumption)))) (by exact ⟨by kernel_rfl, Nat.le_of_ble_eq_true rfl⟩) kr4 ?_; refine' next_attrp (by kernel_rfl) pu_int (by kernel_rfl) kg_head (get_set_same (get_set_same (get_set_same (get_set_same (by assumption))))) (by exact ⟨by kernel_rfl, Nat.le_of_ble_eq_true rfl⟩) kr5 ?_; refine' next_attrp (by kernel_rfl) pu_int (by kernel_rfl) kg_head (get_set_same (get_set_same (get_set_same (get_set_same (get_set_same (by assumption)))))) (by exact ⟨by kernel_rfl, Nat.le_of_ble_eq_true rfl⟩) kr6 ?_; refine then_next ?_; refine xs_nil ?_; rotate_left)
  simp only [List.set_set]
  exact q
theorem rtt_init {B : Int} (hk : H[k]? = some (.inst 0 [])) (hB : 1000000 ≤ B ∧ 1048576 * B ≤ BIG) (q : Q .none (H.set k (.inst 0 (rttL 0 0 2664000 666000 .none)))) : Cl (n + 30) (mdef (cplace 0) 0) [.ref k] H Q := by
  ((refine cl_intro (fd := ⟨_, _, _, _⟩) rfl rfl ?_); dsimp only [List.map, List.zip, List.zipWith])
  focus (refine' xs_attrp (by kernel_rfl) pu_int (by kernel_rfl) kg_head (by assumption) (by exact ⟨by kernel_rfl, Nat.le_of_ble_eq_true rfl⟩) kt1 ?_; refine' next_attrp (by kernel_rfl) pu_int (by kernel_rfl) kg_head (get_set_same (by assumption)) (by exact ⟨by kernel_rfl, Nat.le_of_ble_eq_true rfl⟩) kt2 ?_; refine' next_attrp (by kernel_rfl) (pu_bin pu_int (pu_glob gc1 (by kernel_rfl)) (abin_mul (by kernel_rfl) (by kernel_rfl))) (by kernel_rfl) kg_head (get_set_same (get_set_same (by assumption))) (by exact ⟨by kernel_rfl, Nat.le_of_ble_eq_true rfl⟩) kt3 ?_; refine' next_attrp (by kernel_rfl) (pu_bin pu_int (pu_glob gc1 (by kernel_rfl)) (abin_mul (by kernel_rfl) (by kernel_rfl))) (by kernel_rfl) kg_head (get_set_same (get_set_same (get_set_same (by assumption)))) (by exact ⟨by kernel_rfl, Nat.le_of_ble_eq_true rfl⟩) kt4 ?_; refine' next_attrp (by kernel_rfl) pu_non (by kernel_rfl) kg_head (get_set_same (get_set_same (get_set_same (get_set_same (by assumption))))) (by exact ⟨by kernel_rfl, Nat.le_of_ble_eq_true rfl⟩) kt5 ?_; refine then_next ?_; refine xs_nil ?_; rotate_left)
  simp only [List.set_set]
  exact q
/-- the bound of a turn -/
noncomputable def lineOf (k : Nat) : Int := 16777216 * 16777216 ^ k
theorem lineOf_succ (k : Nat) : lineOf (k + 1) = 16777216 * lineOf k := by unfold lineOf; rw [Int.pow_succ]; omega
theorem lineOf_big {k : Nat} (h : k ≤ 14) : 16777216 ≤ lineOf k ∧ 1152921504606846976 * lineOf k ≤ BIG := by
  have e : ∀ k, lineOf k = ((2 ^ (24 + 24 * k) : Nat) : Int) := by
    intro k
    induction k with
    | zero => rfl
    | succ k ih =>
      have h : (2 : Nat) ^ (24 + 24 * (k + 1)) = 2 ^ 24 * 2 ^ (24 + 24 * k) := by rw [← Nat.pow_add]; congr 1; omega
      rw [lineOf_succ, ih, h, Int.natCast_mul]
      rfl
  have h1 : (2 ^ 24 : Nat) ≤ 2 ^ (24 + 24 * k) := Nat.pow_le_pow_right (by decide) (by omega)
  have h2 : (2 ^ 60 * 2 ^ (24 + 24 * k) : Nat) ≤ 2 ^ 3990 := by rw [← Nat.pow_add]; exact Nat.pow_le_pow_right (by decide) (by omega)
  rw [e]
  refine ⟨Int.ofNat_le.mpr h1, ?_⟩
  have h3 : ((2 ^ 60 * 2 ^ (24 + 24 * k) : Nat) : Int) ≤ BIG := Int.ofNat_le.mpr h2
  rw [Int.natCast_mul] at h3
  exact h3
theorem bxx (a b : Int) {A x : Int} (h : -(a * A) ≤ x ∧ x ≤ a * A) (h0 : 0 ≤ A) (hab : a ≤ b) : -(b * A) ≤ x ∧ x ≤ b * A := by
  have := Int.mul_le_mul_of_nonneg_right hab h0
  exact ⟨Int.le_trans (Int.neg_le_neg this) h.1, Int.le_trans h.2 this⟩
theorem tl1 {A x : Int} (h : -(2 * A) ≤ x ∧ x ≤ 2 * A) (b : 0 ≤ A) : -(16777216 * A) ≤ x ∧ x ≤ 16777216 * A := bxx 2 _ h b (by decide)
theorem tl2 {A x m : Int} (h : -(2 * A) ≤ x ∧ x ≤ 2 * A) (hm : -(512 * A) ≤ m ∧ m ≤ 512 * A) (b : 0 ≤ A) : -(16777216 * A) ≤ max x m ∧ max x m ≤ 16777216 * A := bmax (tl1 h b) (bxx 512 _ hm b (by decide))
theorem tl3 {A x m : Int} (h : -(2 * A) ≤ x ∧ x ≤ 2 * A) (hm : -(65537 * (64 * A)) ≤ m ∧ m ≤ 65537 * (64 * A)) (b : 0 ≤ A) : -(16777216 * A) ≤ max x m ∧ max x m ≤ 16777216 * A := bmax (tl1 h b) (by rw [← Int.mul_assoc] at hm; exact bxx (65537 * 64) _ hm b (by decide))
theorem tl0 {A x : Int} (h : -(2 * A) ≤ x ∧ x ≤ 2 * A) (b : 0 ≤ A) : -(16777216 * A) ≤ max x x ∧ max x x ≤ 16777216 * A := bmax (tl1 h b) (tl1 h b)
theorem bigB (c : Int) {A : Int} (h : 16777216 ≤ A ∧ 1152921504606846976 * A ≤ BIG) (hc : 1 ≤ c ∧ c ≤ 1099511627776) : 1000000 ≤ c * A ∧ 1048576 * (c * A) ≤ BIG := by
  have a0 : 0 ≤ A := Int.le_trans (by decide) h.1
  refine ⟨Int.le_trans (Int.le_trans (by decide) h.1) (ble c a0 hc.1), Int.le_trans ?_ h.2⟩
  rw [← Int.mul_assoc]
  exact Int.mul_le_mul_of_nonneg_right (Int.mul_le_mul_of_nonneg_left hc.2 (by decide)) a0
theorem bigA (c : Int) {A : Int} (h : 16777216 ≤ A ∧ 1152921504606846976 * A ≤ BIG) (hc : 1 ≤ c ∧ c ≤ 17179869184) : 1000000 ≤ c * A ∧ 1048576 * (64 * (c * A)) ≤ BIG := by
  have a0 : 0 ≤ A := Int.le_trans (by decide) h.1
  refine ⟨Int.le_trans (Int.le_trans (by decide) h.1) (ble c a0 hc.1), Int.le_trans ?_ h.2⟩
  rw [← Int.mul_assoc, ← Int.mul_assoc]
  exact Int.mul_le_mul_of_nonneg_right (Int.mul_le_mul_of_nonneg_left hc.2 (by decide)) a0
theorem pr0 {p k : Int} (h : 0 ≤ p ∧ p ≤ k) : 0 ≤ p + (if false = true then 1 else 0) ∧ p + (if false = true then 1 else 0) ≤ k + 1 := by
  rw [if_neg Bool.false_ne_true]; omega
theorem pr1 {p k : Int} (h : 0 ≤ p ∧ p ≤ k) : 0 ≤ p + (if true = true then 1 else 0) ∧ p + (if true = true then 1 else 0) ≤ k + 1 := by
  rw [if_pos rfl]; omega
theorem missed_line {A e l wait m : Int} (hA : 16777216 ≤ A) (h8 : -(64 * A) ≤ e ∧ e ≤ 64 * A) (hl : -(64 * A) ≤ l ∧ l ≤ 64 * A) (hw : max (9 * max l (e / 8) / 8) 1000 = wait) (hm : -(64 * A) + wait ≤ m ∧ m ≤ 64 * A + wait) : -(512 * A) ≤ m ∧ m ≤ 512 * A := by
  have h1 : max l (e / 8) ≤ 64 * A := Int.max_le.mpr ⟨hl.2, by omega⟩
  generalize max l (e / 8) = x at hw h1
  have h2 : wait ≤ 100 * A := by rw [← hw]; exact Int.max_le.mpr ⟨by omega, by omega⟩
  have h3 : 1000 ≤ wait := by rw [← hw]; exact Int.le_max_right _ _
  omega
set_option maxHeartbeats 4000000 in
theorem law_plain {xs : List Int} (hx : xs.length ≤ 63) (q : ∀ H', Q (.bool true) H') : Cl 100 (fdef 41) [.lst (iL xs)] [] Q := by
  have hB : 1000000 ≤ lineOf 0 ∧ 1048576 * lineOf 0 ≤ BIG := by have := lineOf_big (k := 0) (by decide); omega
  ((refine cl_intro (fd := ⟨_, _, _, _⟩) rfl rfl ?_); dsimp only [List.map, List.zip, List.zipWith])
  focus (refine xs_assign (by kernel_rfl) ?_; refine ev_tup ?_; refine evs_cons rfl ?_; refine ev_list ?_; refine evs_cons rfl ?_; refine ev_call (Nat.le_of_ble_eq_true rfl) (by kernel_rfl) ?_; refine evs_cons rfl ?_; refine ev_slice ?_; refine' ev_locv (by kernel_rfl) kg_head ?_; refine op_none (q := ?_); refine op_some ?_; refine ev_int ?_; rotate_left)
  refine ⟨_, as_take (by rw [iL_length]; omega), ?_⟩
  focus (refine evs_nil ?_; rotate_left)
  refine cn_bi nb_list (ab_list (by simp; omega)) ?_
  focus (refine evs_int ?_; refine evs_cons rfl ?_; refine ev_bin ?_; refine ev_call (Nat.le_of_ble_eq_true rfl) (by kernel_rfl) ?_; refine evs_cons rfl ?_; refine ev_slice ?_; refine' ev_locv (by kernel_rfl) kg_head ?_; refine op_none (q := ?_); refine op_some ?_; refine ev_int ?_; rotate_left)
  refine ⟨_, as_take (by rw [iL_length]; omega), ?_⟩
  focus (refine evs_nil ?_; rotate_left)
  have ht : (iL xs).take 60 = iL (xs.take 60) := by simp [iL, List.map_take]
  rw [ht]
  refine cn_bi nb_sum (ab_sum (by rw [iL_length]; simp; omega) (intsOf_iL _)) ?_
  focus (refine ev_int ?_; refine ⟨_, abin_mod ?_, ?_⟩; omega; refine evs_nil ?_; refine and_len (Nat.le_of_ble_eq_true rfl) ?_; refine evs_int ?_; refine evs_nil ?_; refine and_len (Nat.le_of_ble_eq_true rfl) ?_; refine as_tup rfl ?_; refine ass_cons rfl ?_; refine as_nameb (by kernel_rfl) ?_; refine ass_cons rfl ?_; refine as_nameb (by kernel_rfl) ?_; refine ass_nil ?_; refine next_assign (by kernel_rfl) ?_; refine ev_tup ?_; refine evs_cons rfl ?_; refine ev_dict0 ?_; refine evs_cons rfl ?_; refine' ev_callA (Nat.le_of_ble_eq_true rfl) (by kernel_rfl) (ar_cons rfl pu_int ar_nil) ?_; rotate_left)
  refine cn_cls cls_ren.1 cls_ren.2 ?_
  refine newreno_init get_snoc hB ?_
  refine ⟨rfl, ?_⟩
  rw [set_snoc]
  focus (refine evs_cons rfl ?_; refine ev_call (Nat.le_of_ble_eq_true rfl) (by kernel_rfl) ?_; refine evs_nil ?_; rotate_left)
  refine cn_cls cls_rtt.1 cls_rtt.2 ?_
  refine rtt_init get_snoc hB ?_
  refine ⟨rfl, ?_⟩
  rw [set_snoc]
  focus (refine evs_nil ?_; refine and_len (Nat.le_of_ble_eq_true rfl) ?_; refine as_tup rfl ?_; refine ass_cons rfl ?_; refine as_nameb (by kernel_rfl) ?_; refine ass_cons rfl ?_; refine as_nameb (by kernel_rfl) ?_; refine ass_cons rfl ?_; refine as_nameb (by kernel_rfl) ?_; refine ass_nil ?_; refine next_assign (by kernel_rfl) ?_; refine ev_dict ?_; refine di_cons ?_; refine ev_dict0 ?_; refine di_cons ?_; refine ev_int ?_; refine di_cons ?_; refine ev_non ?_; refine di_cons ?_; refine ev_non ?_; refine di_cons ?_; refine ev_int ?_; refine di_cons ?_; refine ev_int ?_; refine di_cons ?_; refine ev_int ?_; refine di_nil ?_; rotate_left)
  iterate 7 (refine ⟨by simp [kget, ofString_inj], ?_⟩)
  refine ⟨Nat.le_of_ble_eq_true rfl, get_old get_snoc, ?_⟩
  rw [set_old (by rw [List.length_append]; exact Nat.lt_succ_self _), set_snoc]
  focus (refine as_nameb (by kernel_rfl) ?_; refine next_cons ?_; refine ex_expr ?_; refine ev_meth ⟨Nat.le_of_ble_eq_true rfl, rfl, rfl⟩ ?_; refine' ev_locv (by kernel_rfl) kgp_same ?_; refine mg_d (.inr (.inr (.inr rfl))) ?_; refine hob_old ?_; refine hob_snoc ?_; refine and_dict rfl ?_; refine evs_cons rfl ?_; refine ev_dict ?_; refine di_cons ?_; refine ev_int ?_; refine di_cons ?_; refine ev_non ?_; refine di_cons ?_; refine ev_non ?_; refine di_cons ?_; refine ev_int ?_; refine di_cons ?_; refine ev_int ?_; refine di_nil ?_; rotate_left)
  iterate 5 (refine ⟨by simp [kget, ofString_inj], ?_⟩)
  refine ⟨Nat.le_of_ble_eq_true rfl, get_snoc, ?_⟩
  rw [set_snoc]
  focus (refine evs_nil ?_; rotate_left)
  refine me_update (es := [("rows", .ref 6), ("next", .int 0), ("top", .none), ("least", .none), ("latest", .int 0), ("eighths", .int 2664000), ("fourths", .int 666000)]) (fs := tmpL) rfl rfl (by decide) (by simp) ?_
  rw [led0_is]
  focus (refine next_cons ?_; refine ex_for ⟨by kernel_rfl, rfl⟩ ?_; refine' ev_callA (Nat.le_of_ble_eq_true rfl) (by kernel_rfl) (ar_cons rfl pu_int ar_nil) ?_; rotate_left)
  refine cn_bi nb_range (ab_range (by decide)) ?_
  refine ⟨_, rfl, rfl, by show _ < 100000; simp, ?_⟩
  change Fo _ _ _ _ _ _ _ (heap ⟨xs.take 60, 0, (xs.take 60).sum % 997, true, [], led0, 0, none, []⟩) _
  refine fo_map (key := fun i : Nat => AV.int (i : Int)) (fun pre loc H' => ∃ (S : St) (now : Int), H' = heap S ∧ Ok S (lineOf pre.length) (80 * pre.length) (3 * pre.length) pre.length ∧ (-lineOf pre.length ≤ now ∧ now ≤ lineOf pre.length) ∧
    kget loc "box" = some (.ref 1) ∧ kget loc "ledger" = some (.ref 5) ∧ kget loc "sent" = some (.ref 2) ∧ kget loc "reno" = some (.ref 3) ∧ kget loc "rtt" = some (.ref 4) ∧ kget loc "now" = some (.int now)) ?_ ?_ ?_ ?_
  · refine ⟨_, 0, rfl, ?_, by have := lineOf_big (k := 0) (by decide); simp only [List.length_nil]; omega, by focus (exact kgp_neb (by kernel_rfl) (by exact kgp_neb (by kernel_rfl) (by exact kgp_neb (by kernel_rfl) (by exact kgp_neb (by kernel_rfl) (by exact kgp_neb (by kernel_rfl) (by exact kgp_same)))))), by focus (exact kgp_same), by focus (exact kgp_neb (by kernel_rfl) (by exact kgp_neb (by kernel_rfl) (by exact kgp_neb (by kernel_rfl) (by exact kgp_same)))), by focus (exact kgp_neb (by kernel_rfl) (by exact kgp_neb (by kernel_rfl) (by exact kgp_same))), by focus (exact kgp_neb (by kernel_rfl) (by exact kgp_same)), by focus (exact kgp_neb (by kernel_rfl) (by exact kgp_neb (by kernel_rfl) (by exact kgp_neb (by kernel_rfl) (by exact kgp_neb (by kernel_rfl) (by exact kgp_same)))))⟩
    have := lineOf_big (k := 0) (by decide)
    simp only [List.length_nil]
    exact {
      hx := by simp; omega
      hc := by simp
      hv := fun _ => rfl
      hr := rfl
      hn := fun r h => nomatch h
      hsz := fun r h => nomatch h
      htm := fun r h => nomatch h
      hlen := by simp [led0]
      htop := fun t h => nomatch h
      hfa := .inl ⟨rfl, rfl⟩
      hrle := by dsimp only; omega
      hla := by dsimp only [led0]; omega
      h8 := by dsimp only [led0]; omega
      h4 := by dsimp only [led0]; omega
      hw := by simp [led0]
      hW := by simp [led0]
      hsh := by simp [led0]
      hp := by simp [led0] }
  · intro _ _ _ _; exact rfl
  · rintro pre i suf loc H' e ⟨S, now, rfl, o, hnow, k1, k2, k3, k4, k5, k6⟩
    have hl : pre.length ≤ 13 := by
      have := congrArg List.length e
      simp at this; omega
    rw [List.length_append, List.length_cons, List.length_nil, Nat.zero_add, lineOf_succ]
    generalize hk : pre.length = k at o hnow hl ⊢
    have hA := lineOf_big (k := k) (by omega)
    generalize lineOf k = A at o hnow hA ⊢
    focus (refine xs_assign (by kernel_rfl) ?_; refine ev_bin ?_; refine' ev_locv (by kernel_rfl) (kgp_neb (by kernel_rfl) (by assumption)) ?_; refine ev_bin ?_; refine ev_int ?_; refine' ev_callA (Nat.le_of_ble_eq_true rfl) (by kernel_rfl) (ar_cons rfl (pu_loc (by kernel_rfl) (kgp_neb (by kernel_rfl) (by assumption))) (ar_cons rfl pu_int ar_nil)) ?_; refine cn_user fi14 ?_; rotate_left)
    have a0 : 0 ≤ A := Int.le_trans (by decide) hA.1
    have hA1 : 1000000 ≤ A ∧ 1048576 * A ≤ BIG := ⟨Int.le_trans (by decide) hA.1, Int.le_trans (Int.mul_le_mul_of_nonneg_right (by decide) a0) hA.2⟩
    refine take_spec o hA1 (by omega) (by decide) fun r1 xs1 hr1 o1 => ?_
    generalize S.drawn xs1 = S1 at o1 ⊢
    focus (refine ⟨_, abin_mul ?_ ?_, ?_⟩; exact (by kernel_rfl); exact fits_of (by omega) (by omega); refine ⟨_, abin_add, ?_⟩; refine as_nameb (by kernel_rfl) ?_; refine next_assign (by kernel_rfl) ?_; refine' ev_callA (Nat.le_of_ble_eq_true rfl) (by kernel_rfl) (ar_cons rfl (pu_loc (by kernel_rfl) (kgp_neb (by kernel_rfl) (kgp_neb (by kernel_rfl) (by assumption)))) (ar_cons rfl pu_int ar_nil)) ?_; refine cn_user fi14 ?_; rotate_left)
    have hnow1 : -(2 * A) ≤ now + 1000 * r1 ∧ now + 1000 * r1 ≤ 2 * A := by omega
    generalize now + 1000 * r1 = now1 at hnow1 ⊢
    refine take_spec o1 hA1 (by omega) (by decide) fun r6 xs6 hr6 o2 => ?_
    have o3 : Ok (S1.drawn xs6) (2 * A) (80 * k + 2) (3 * k) k := o2.mono (by omega) (by omega) (Int.le_refl _) (Int.le_refl _)
    generalize S1.drawn xs6 = S2 at o3 ⊢
    focus (refine as_nameb (by kernel_rfl) ?_; refine next_cons ?_; rotate_left)
    refine ex_gen (fun loc => kget loc "box" = some (.ref 1) ∧ kget loc "ledger" = some (.ref 5) ∧ kget loc "sent" = some (.ref 2) ∧ kget loc "reno" = some (.ref 3) ∧ kget loc "rtt" = some (.ref 4) ∧ kget loc "now" = some (.int now1) ∧ kget loc "form" = some (.int r6))
      ⟨by focus (exact kgp_neb (by kernel_rfl) (by exact kgp_neb (by kernel_rfl) (by exact kgp_neb (by kernel_rfl) (by assumption)))), by focus (exact kgp_neb (by kernel_rfl) (by exact kgp_neb (by kernel_rfl) (by exact kgp_neb (by kernel_rfl) (by assumption)))), by focus (exact kgp_neb (by kernel_rfl) (by exact kgp_neb (by kernel_rfl) (by exact kgp_neb (by kernel_rfl) (by assumption)))), by focus (exact kgp_neb (by kernel_rfl) (by exact kgp_neb (by kernel_rfl) (by exact kgp_neb (by kernel_rfl) (by assumption)))), by focus (exact kgp_neb (by kernel_rfl) (by exact kgp_neb (by kernel_rfl) (by exact kgp_neb (by kernel_rfl) (by assumption)))), by focus (exact kgp_neb (by kernel_rfl) (by exact kgp_same)), by focus (exact kgp_same)⟩ ?_
    clear k1 k2 k3 k4 k5 k6 o o1 o2
    rintro loc ⟨k1, k2, k3, k4, k5, k6, k7⟩
    refine Ex.mono (P := fun f l H' => f = .next ∧ l = loc ∧ ∃ S3 : St, H' = heap S3 ∧ Ok S3 (2 * A) (80 * k + 7) (3 * k + 3) k) ?_ ?_
    · focus (refine ex_if ?_; refine te_all ?_; refine al_and ?_; refine' te_cmpp rfl (pu_loc (by kernel_rfl) (by assumption)) pu_int ac_lt ?_; refine split_x (fun _ => ?_) (fun _ => ?_); refine al_and ?_; refine te_not ?_; refine te_call ?_; refine' ev_callA (Nat.le_of_ble_eq_true rfl) (by kernel_rfl) (ar_cons rfl (pu_loc (by kernel_rfl) (by assumption)) (ar_cons rfl (pu_loc (by kernel_rfl) (by assumption)) (ar_cons rfl (pu_loc (by kernel_rfl) (by assumption)) (ar_cons rfl (pu_loc (by kernel_rfl) (by assumption)) (ar_cons rfl (pu_loc (by kernel_rfl) (by assumption)) ar_nil))))) ?_; refine cn_user fi20 ?_; rotate_left; refine split_f ?_; refine xs_nil ?_; rotate_left)
      · refine law_send_spec o3 (by first | exact bigA _ hA ⟨by decide, by decide⟩ | exact bigB _ hA ⟨by decide, by decide⟩ | exact bx 64 h8 (bnn a0 (by decide)) (by decide) | exact bx 64 h4 (bnn a0 (by decide)) (by decide) | omega) (by first | exact bigA _ hA ⟨by decide, by decide⟩ | exact bigB _ hA ⟨by decide, by decide⟩ | exact bx 64 h8 (bnn a0 (by decide)) (by decide) | exact bx 64 h4 (bnn a0 (by decide)) (by decide) | omega) (by first | exact bigA _ hA ⟨by decide, by decide⟩ | exact bigB _ hA ⟨by decide, by decide⟩ | exact bx 64 h8 (bnn a0 (by decide)) (by decide) | exact bx 64 h4 (bnn a0 (by decide)) (by decide) | omega) hnow1 fun S3 o4 => ?_
        focus (refine ⟨_, rfl, ?_⟩; refine split_nt ?_; refine split_f ?_; refine xs_nil ?_; rotate_left)
        exact ⟨rfl, rfl, S3, rfl, o4⟩
      · exact ⟨rfl, rfl, S2, rfl, o3.mono (Int.le_refl _) (by omega) (by omega) (Int.le_refl _)⟩
    rintro f l H' ⟨rfl, rfl, S3, rfl, o4⟩
    focus (refine next_cons ?_; rotate_left)
    refine Ex.mono (P := fun f l' H' => f = .next ∧ l' = l ∧ ∃ S4 : St, H' = heap S4 ∧ Ok S4 (64 * A) (80 * k + 77) (3 * k + 3) k) ?_ ?_
    · focus (refine ex_if ?_; refine' te_cmpl rfl (by kernel_rfl) (by assumption) ?_; refine' ev_pu (pu_tup (ar_cons rfl pu_int (ar_cons rfl pu_int ar_nil)) (by exact (Nat.le_of_ble_eq_true rfl))) ?_; refine ⟨_, rfl, ?_⟩; refine split_x (fun _ => ?_) (fun _ => ?_); refine xs_cons ?_; refine ex_expr ?_; refine' ev_callA (Nat.le_of_ble_eq_true rfl) (by kernel_rfl) (ar_cons rfl (pu_loc (by kernel_rfl) (by assumption)) (ar_cons rfl (pu_loc (by kernel_rfl) (by assumption)) (ar_cons rfl (pu_loc (by kernel_rfl) (by assumption)) (ar_cons rfl (pu_loc (by kernel_rfl) (by assumption)) (ar_cons rfl (pu_loc (by kernel_rfl) (by assumption)) (ar_cons rfl (pu_loc (by kernel_rfl) (by assumption)) ar_nil)))))) ?_; refine cn_user fi21 ?_; rotate_left; refine xs_nil ?_; rotate_left)
      · refine law_hear_spec o4 (by first | exact bigA _ hA ⟨by decide, by decide⟩ | exact bigB _ hA ⟨by decide, by decide⟩ | exact bx 64 h8 (bnn a0 (by decide)) (by decide) | exact bx 64 h4 (bnn a0 (by decide)) (by decide) | omega) (by first | exact bigA _ hA ⟨by decide, by decide⟩ | exact bigB _ hA ⟨by decide, by decide⟩ | exact bx 64 h8 (bnn a0 (by decide)) (by decide) | exact bx 64 h4 (bnn a0 (by decide)) (by decide) | omega) (by first | exact bigA _ hA ⟨by decide, by decide⟩ | exact bigB _ hA ⟨by decide, by decide⟩ | exact bx 64 h8 (bnn a0 (by decide)) (by decide) | exact bx 64 h4 (bnn a0 (by decide)) (by decide) | omega) hnow1 (by first | exact bigA _ hA ⟨by decide, by decide⟩ | exact bigB _ hA ⟨by decide, by decide⟩ | exact bx 64 h8 (bnn a0 (by decide)) (by decide) | exact bx 64 h4 (bnn a0 (by decide)) (by decide) | omega) fun S4 o5 => ?_
        focus (refine then_next ?_; refine xs_nil ?_; rotate_left)
        exact ⟨rfl, rfl, S4, rfl, o5.mono (by omega) (by omega) (Int.le_refl _) (Int.le_refl _)⟩
      · exact ⟨rfl, rfl, S3, rfl, o4.mono (by omega) (by omega) (Int.le_refl _) (Int.le_refl _)⟩
    rintro f l H' ⟨rfl, rfl, S4, rfl, o5⟩
    focus (refine next_cons ?_; rotate_left)
    refine Ex.mono (P := fun f l' H' => f = .next ∧ (∃ now2, (-(16777216 * A) ≤ now2 ∧ now2 ≤ 16777216 * A) ∧ kget l' "box" = some (.ref 1) ∧ kget l' "ledger" = some (.ref 5) ∧ kget l' "sent" = some (.ref 2) ∧ kget l' "reno" = some (.ref 3) ∧ kget l' "rtt" = some (.ref 4) ∧ kget l' "now" = some (.int now2)) ∧
      ∃ S5 : St, H' = heap S5 ∧ Ok S5 (64 * A) (80 * k + 77) (3 * k + 3) (k + 1)) ?_ ?_
    · have h8 := o5.h8
      have h4 := o5.h4
      have hla := o5.hla
      have hp := o5.hp
      have hlen := o5.len (by omega)
      focus (refine ex_if ?_; refine' te_cmpp rfl (pu_loc (by kernel_rfl) (by assumption)) pu_int ac_eq ?_; refine split_x (fun _ => ?_) (fun _ => ?_); refine xs_assign (by kernel_rfl) ?_; refine ev_tup ?_; refine evs_cons rfl ?_; refine ev_sub rfl ?_; refine' ev_callA (Nat.le_of_ble_eq_true rfl) (by kernel_rfl) (ar_cons rfl (pu_loc (by kernel_rfl) (by assumption)) (ar_cons rfl (pu_loc (by kernel_rfl) (by assumption)) ar_nil)) ?_; refine cn_user fi17 ?_; rotate_left; refine xs_nil ?_; rotate_left)
      · generalize hwait : max (9 * max S4.l.latest (S4.l.eighths / 8) / 8) 1000 = wait
        refine law_missed_spec (B := 64 * A) (heap_5 (S := S4)) (heap_6 (S := S4)) o5.vr hlen o5.hr (by first | exact bigA _ hA ⟨by decide, by decide⟩ | exact bigB _ hA ⟨by decide, by decide⟩ | exact bx 64 h8 (bnn a0 (by decide)) (by decide) | exact bx 64 h4 (bnn a0 (by decide)) (by decide) | omega) (by first | exact bigA _ hA ⟨by decide, by decide⟩ | exact bigB _ hA ⟨by decide, by decide⟩ | exact bx 64 h8 (bnn a0 (by decide)) (by decide) | exact bx 64 h4 (bnn a0 (by decide)) (by decide) | omega) hla (fun t ht => (o5.htop t ht).2) hwait.symm ?_
        have o6 := o5.garb (G := S4.G ++ [.list []])
        rw [heap_snoc]
        have hR5 : ({ S4 with G := S4.G ++ [.list []] } : St).R = S4.R := rfl
        have hl5 : ({ S4 with G := S4.G ++ [.list []] } : St).l = S4.l := rfl
        generalize ({ S4 with G := S4.G ++ [.list []] } : St) = S5 at o6 hR5 hl5 ⊢
        have hline : ∀ m, laterO S4.l.top now1 wait S4.R = some m → -(512 * A) ≤ m ∧ m ≤ 512 * A := by
          intro m hm
          exact missed_line hA.1 o5.h8 o5.hla hwait (laterO_line hm o5.htm)
        rw [← hl5] at h8 h4 hp
        generalize laterO S4.l.top now1 wait S4.R = L at hline ⊢
        focus (refine ev_int ?_; refine gi_t ⟨_, rfl, _, rfl, ?_⟩; refine evs_cons rfl ?_; refine' ev_callA (Nat.le_of_ble_eq_true rfl) (by kernel_rfl) (ar_cons rfl (pu_loc (by kernel_rfl) (by assumption)) ar_nil) ?_; refine cn_user fi19 ?_; rotate_left)
        cases hm : maxL (S5.R.map (·.time)) with
        | none =>
          have hR0 : S5.R = [] := by simpa using maxL_none hm
          refine law_probe_none_spec (v := S5.v) (heap_5 (S := S5)) (by have := heap_6 (S := S5); rw [hR0] at this; exact this) ?_
          have o7 := o6.garb (G := S5.G ++ [.dictE])
          rw [heap_snoc]
          have hp : 0 ≤ ({ S5 with G := S5.G ++ [.dictE] } : St).l.probes ∧ ({ S5 with G := S5.G ++ [.dictE] } : St).l.probes ≤ (k : Int) := hp
          generalize ({ S5 with G := S5.G ++ [.dictE] } : St) = S6 at o7 hp ⊢
          cases L with
          | none =>
            focus (refine evs_nil ?_; refine and_len (Nat.le_of_ble_eq_true rfl) ?_; refine as_tup rfl ?_; refine ass_cons rfl ?_; refine as_nameb (by kernel_rfl) ?_; refine ass_cons rfl ?_; refine as_nameb (by kernel_rfl) ?_; refine ass_nil ?_; refine next_assign (by kernel_rfl) ?_; refine ev_bin ?_; refine' ev_led (by kernel_rfl) (kgp_neb (by kernel_rfl) (kgp_neb (by kernel_rfl) (by assumption))) heap_5 (by first | exact lg11 | exact kg_tailb (by kernel_rfl) (kg_tailb (by kernel_rfl) (kg_tailb (by kernel_rfl) (kg_tailb (by kernel_rfl) (kg_tailb (by kernel_rfl) (kg_tailb (by kernel_rfl) (kg_tailb (by kernel_rfl) (kg_tailb (by kernel_rfl) (kg_tailb (by kernel_rfl) (kg_tailb (by kernel_rfl) (kg_tailb (by kernel_rfl) kg_head))))))))))) ?_; refine ev_bool ?_; refine bo_and ?_; refine' ev_pu (pu_cmp rfl (pu_loc (by kernel_rfl) (kgp_neb (by kernel_rfl) kgp_same)) pu_non ac_isn) ?_; refine ⟨_, rfl, ?_⟩; refine split_t ?_; refine bo_one ?_; refine' ev_pu (pu_cmp rfl (pu_loc (by kernel_rfl) kgp_same) pu_non ac_isnotn) ?_; refine ⟨_, abin_add, ?_⟩; refine' as_led (by kernel_rfl) (kgp_neb (by kernel_rfl) (kgp_neb (by kernel_rfl) (by assumption))) heap_5 (by exact Nat.le_of_ble_eq_true rfl) kl_probes ?_; refine next_assign (by kernel_rfl) ?_; refine ev_if ?_; refine' te_cmpp rfl (pu_loc (by kernel_rfl) (kgp_neb (by kernel_rfl) kgp_same)) pu_non ac_isnotn ?_; refine split_f ?_; refine ev_if ?_; refine' te_cmpp rfl (pu_loc (by kernel_rfl) kgp_same) pu_non ac_isnotn ?_; refine split_f ?_; refine' ev_locv (by kernel_rfl) (kgp_neb (by kernel_rfl) (kgp_neb (by kernel_rfl) (by assumption))) ?_; refine as_nameb (by kernel_rfl) ?_; refine next_assign (by kernel_rfl) ?_; refine' ev_callA (Nat.le_of_ble_eq_true rfl) (by kernel_rfl) (ar_cons rfl (pu_loc (by kernel_rfl) (kgp_neb (by kernel_rfl) (kgp_neb (by kernel_rfl) (kgp_neb (by kernel_rfl) (by assumption))))) (ar_cons rfl (pu_loc (by kernel_rfl) kgp_same) ar_nil)) ?_; refine cn_bi nb_max ab_max ?_; refine as_nameb (by kernel_rfl) ?_; refine then_next ?_; refine xs_nil ?_; rotate_left)
            refine ⟨rfl, ⟨_, ?_, by focus (exact kgp_neb (by kernel_rfl) (by exact kgp_neb (by kernel_rfl) (by exact kgp_neb (by kernel_rfl) (by exact kgp_neb (by kernel_rfl) (by assumption))))), by focus (exact kgp_neb (by kernel_rfl) (by exact kgp_neb (by kernel_rfl) (by exact kgp_neb (by kernel_rfl) (by exact kgp_neb (by kernel_rfl) (by assumption))))), by focus (exact kgp_neb (by kernel_rfl) (by exact kgp_neb (by kernel_rfl) (by exact kgp_neb (by kernel_rfl) (by exact kgp_neb (by kernel_rfl) (by assumption))))), by focus (exact kgp_neb (by kernel_rfl) (by exact kgp_neb (by kernel_rfl) (by exact kgp_neb (by kernel_rfl) (by exact kgp_neb (by kernel_rfl) (by assumption))))), by focus (exact kgp_neb (by kernel_rfl) (by exact kgp_neb (by kernel_rfl) (by exact kgp_neb (by kernel_rfl) (by exact kgp_neb (by kernel_rfl) (by assumption))))), by focus (exact kgp_same)⟩, { S6 with l := { S6.l with probes := S6.l.probes + if false = true then 1 else 0 } }, rfl, { (o7.mono (P' := (k : Int) + 1) (Int.le_refl _) (Int.le_refl _) (Int.le_refl _) (by omega)) with hp := by first | exact pr0 hp | exact pr1 hp }⟩
            first | exact tl1 hnow1 a0 | exact tl0 hnow1 a0 | exact tl3 hnow1 hpl a0 | omega
          | some m =>
            have hml := hline m rfl
            focus (refine evs_nil ?_; refine and_len (Nat.le_of_ble_eq_true rfl) ?_; refine as_tup rfl ?_; refine ass_cons rfl ?_; refine as_nameb (by kernel_rfl) ?_; refine ass_cons rfl ?_; refine as_nameb (by kernel_rfl) ?_; refine ass_nil ?_; refine next_assign (by kernel_rfl) ?_; refine ev_bin ?_; refine' ev_led (by kernel_rfl) (kgp_neb (by kernel_rfl) (kgp_neb (by kernel_rfl) (by assumption))) heap_5 (by first | exact lg11 | exact kg_tailb (by kernel_rfl) (kg_tailb (by kernel_rfl) (kg_tailb (by kernel_rfl) (kg_tailb (by kernel_rfl) (kg_tailb (by kernel_rfl) (kg_tailb (by kernel_rfl) (kg_tailb (by kernel_rfl) (kg_tailb (by kernel_rfl) (kg_tailb (by kernel_rfl) (kg_tailb (by kernel_rfl) (kg_tailb (by kernel_rfl) kg_head))))))))))) ?_; refine ev_bool ?_; refine bo_and ?_; refine' ev_pu (pu_cmp rfl (pu_loc (by kernel_rfl) (kgp_neb (by kernel_rfl) kgp_same)) pu_non ac_isi) ?_; refine ⟨_, rfl, ?_⟩; refine split_f ?_; refine ⟨_, abin_add, ?_⟩; refine' as_led (by kernel_rfl) (kgp_neb (by kernel_rfl) (kgp_neb (by kernel_rfl) (by assumption))) heap_5 (by exact Nat.le_of_ble_eq_true rfl) kl_probes ?_; refine next_assign (by kernel_rfl) ?_; refine ev_if ?_; refine' te_cmpp rfl (pu_loc (by kernel_rfl) (kgp_neb (by kernel_rfl) kgp_same)) pu_non ac_isnoti ?_; refine split_t ?_; refine' ev_locv (by kernel_rfl) (kgp_neb (by kernel_rfl) kgp_same) ?_; refine as_nameb (by kernel_rfl) ?_; refine next_assign (by kernel_rfl) ?_; refine' ev_callA (Nat.le_of_ble_eq_true rfl) (by kernel_rfl) (ar_cons rfl (pu_loc (by kernel_rfl) (kgp_neb (by kernel_rfl) (kgp_neb (by kernel_rfl) (kgp_neb (by kernel_rfl) (by assumption))))) (ar_cons rfl (pu_loc (by kernel_rfl) kgp_same) ar_nil)) ?_; refine cn_bi nb_max ab_max ?_; refine as_nameb (by kernel_rfl) ?_; refine then_next ?_; refine xs_nil ?_; rotate_left)
            refine ⟨rfl, ⟨_, ?_, by focus (exact kgp_neb (by kernel_rfl) (by exact kgp_neb (by kernel_rfl) (by exact kgp_neb (by kernel_rfl) (by exact kgp_neb (by kernel_rfl) (by assumption))))), by focus (exact kgp_neb (by kernel_rfl) (by exact kgp_neb (by kernel_rfl) (by exact kgp_neb (by kernel_rfl) (by exact kgp_neb (by kernel_rfl) (by assumption))))), by focus (exact kgp_neb (by kernel_rfl) (by exact kgp_neb (by kernel_rfl) (by exact kgp_neb (by kernel_rfl) (by exact kgp_neb (by kernel_rfl) (by assumption))))), by focus (exact kgp_neb (by kernel_rfl) (by exact kgp_neb (by kernel_rfl) (by exact kgp_neb (by kernel_rfl) (by exact kgp_neb (by kernel_rfl) (by assumption))))), by focus (exact kgp_neb (by kernel_rfl) (by exact kgp_neb (by kernel_rfl) (by exact kgp_neb (by kernel_rfl) (by exact kgp_neb (by kernel_rfl) (by assumption))))), by focus (exact kgp_same)⟩, { S6 with l := { S6.l with probes := S6.l.probes + if false = true then 1 else 0 } }, rfl, { (o7.mono (P' := (k : Int) + 1) (Int.le_refl _) (Int.le_refl _) (Int.le_refl _) (by omega)) with hp := by first | exact pr0 hp | exact pr1 hp }⟩
            first | exact tl2 hnow1 hml a0 | exact tl1 hnow1 a0 | exact tl0 hnow1 a0 | exact tl3 hnow1 hpl a0 | omega
        | some mm =>
          have hR0 : S5.R ≠ [] := by intro h; rw [h] at hm; cases hm
          have hvf : S5.v = false := by
            cases h : S5.v with
            | false => rfl
            | true => exact absurd (o6.hv h) hR0
          have hmm : -(64 * A) ≤ mm ∧ mm ≤ 64 * A := by
            obtain ⟨r, hr, rfl⟩ := List.mem_map.mp (maxL_mem hm)
            exact o6.htm r hr
          have hpl := probeAt_line (l := S5.l) hmm h8 h4 (by first | exact bigA _ hA ⟨by decide, by decide⟩ | exact bigB _ hA ⟨by decide, by decide⟩ | exact bx 64 h8 (bnn a0 (by decide)) (by decide) | exact bx 64 h4 (bnn a0 (by decide)) (by decide) | omega) (by first | exact bigA _ hA ⟨by decide, by decide⟩ | exact bigB _ hA ⟨by decide, by decide⟩ | exact bx 64 h8 (bnn a0 (by decide)) (by decide) | exact bx 64 h4 (bnn a0 (by decide)) (by decide) | omega)
          refine law_probe_some_spec (B := 64 * A) (R := S5.R) (m := mm) (heap_5 (S := S5)) (by have := heap_6 (S := S5); rw [hvf] at this; exact this) (o6.len (by first | exact bigA _ hA ⟨by decide, by decide⟩ | exact bigB _ hA ⟨by decide, by decide⟩ | exact bx 64 h8 (bnn a0 (by decide)) (by decide) | exact bx 64 h4 (bnn a0 (by decide)) (by decide) | omega)) hR0 hm (by first | exact bigA _ hA ⟨by decide, by decide⟩ | exact bigB _ hA ⟨by decide, by decide⟩ | exact bx 64 h8 (bnn a0 (by decide)) (by decide) | exact bx 64 h4 (bnn a0 (by decide)) (by decide) | omega) (by first | exact bigA _ hA ⟨by decide, by decide⟩ | exact bigB _ hA ⟨by decide, by decide⟩ | exact bx 64 h8 (bnn a0 (by decide)) (by decide) | exact bx 64 h4 (bnn a0 (by decide)) (by decide) | omega) (by first | exact bigA _ hA ⟨by decide, by decide⟩ | exact bigB _ hA ⟨by decide, by decide⟩ | exact bx 64 h8 (bnn a0 (by decide)) (by decide) | exact bx 64 h4 (bnn a0 (by decide)) (by decide) | omega) (by first | exact bigA _ hA ⟨by decide, by decide⟩ | exact bigB _ hA ⟨by decide, by decide⟩ | exact bx 64 h8 (bnn a0 (by decide)) (by decide) | exact bx 64 h4 (bnn a0 (by decide)) (by decide) | omega) ?_
          have o7 := o6.garb (G := S5.G ++ [.dictE])
          rw [heap_snoc]
          generalize probeAt S5.l mm = due at hpl ⊢
          have hp : 0 ≤ ({ S5 with G := S5.G ++ [.dictE] } : St).l.probes ∧ ({ S5 with G := S5.G ++ [.dictE] } : St).l.probes ≤ (k : Int) := hp
          generalize ({ S5 with G := S5.G ++ [.dictE] } : St) = S6 at o7 hp ⊢
          cases L with
          | none =>
            focus (refine evs_nil ?_; refine and_len (Nat.le_of_ble_eq_true rfl) ?_; refine as_tup rfl ?_; refine ass_cons rfl ?_; refine as_nameb (by kernel_rfl) ?_; refine ass_cons rfl ?_; refine as_nameb (by kernel_rfl) ?_; refine ass_nil ?_; refine next_assign (by kernel_rfl) ?_; refine ev_bin ?_; refine' ev_led (by kernel_rfl) (kgp_neb (by kernel_rfl) (kgp_neb (by kernel_rfl) (by assumption))) heap_5 (by first | exact lg11 | exact kg_tailb (by kernel_rfl) (kg_tailb (by kernel_rfl) (kg_tailb (by kernel_rfl) (kg_tailb (by kernel_rfl) (kg_tailb (by kernel_rfl) (kg_tailb (by kernel_rfl) (kg_tailb (by kernel_rfl) (kg_tailb (by kernel_rfl) (kg_tailb (by kernel_rfl) (kg_tailb (by kernel_rfl) (kg_tailb (by kernel_rfl) kg_head))))))))))) ?_; refine ev_bool ?_; refine bo_and ?_; refine' ev_pu (pu_cmp rfl (pu_loc (by kernel_rfl) (kgp_neb (by kernel_rfl) kgp_same)) pu_non ac_isn) ?_; refine ⟨_, rfl, ?_⟩; refine split_t ?_; refine bo_one ?_; refine' ev_pu (pu_cmp rfl (pu_loc (by kernel_rfl) kgp_same) pu_non ac_isnott) ?_; refine ⟨_, abin_add, ?_⟩; refine' as_led (by kernel_rfl) (kgp_neb (by kernel_rfl) (kgp_neb (by kernel_rfl) (by assumption))) heap_5 (by exact Nat.le_of_ble_eq_true rfl) kl_probes ?_; refine next_assign (by kernel_rfl) ?_; refine ev_if ?_; refine' te_cmpp rfl (pu_loc (by kernel_rfl) (kgp_neb (by kernel_rfl) kgp_same)) pu_non ac_isnotn ?_; refine split_f ?_; refine ev_if ?_; refine' te_cmpp rfl (pu_loc (by kernel_rfl) kgp_same) pu_non ac_isnott ?_; refine split_t ?_; refine' ev_pu (pu_sub rfl (pu_loc (by kernel_rfl) kgp_same) pu_int (by exact git rfl rfl)) ?_; refine as_nameb (by kernel_rfl) ?_; refine next_assign (by kernel_rfl) ?_; refine' ev_callA (Nat.le_of_ble_eq_true rfl) (by kernel_rfl) (ar_cons rfl (pu_loc (by kernel_rfl) (kgp_neb (by kernel_rfl) (kgp_neb (by kernel_rfl) (kgp_neb (by kernel_rfl) (by assumption))))) (ar_cons rfl (pu_loc (by kernel_rfl) kgp_same) ar_nil)) ?_; refine cn_bi nb_max ab_max ?_; refine as_nameb (by kernel_rfl) ?_; refine then_next ?_; refine xs_nil ?_; rotate_left)
            refine ⟨rfl, ⟨_, ?_, by focus (exact kgp_neb (by kernel_rfl) (by exact kgp_neb (by kernel_rfl) (by exact kgp_neb (by kernel_rfl) (by exact kgp_neb (by kernel_rfl) (by assumption))))), by focus (exact kgp_neb (by kernel_rfl) (by exact kgp_neb (by kernel_rfl) (by exact kgp_neb (by kernel_rfl) (by exact kgp_neb (by kernel_rfl) (by assumption))))), by focus (exact kgp_neb (by kernel_rfl) (by exact kgp_neb (by kernel_rfl) (by exact kgp_neb (by kernel_rfl) (by exact kgp_neb (by kernel_rfl) (by assumption))))), by focus (exact kgp_neb (by kernel_rfl) (by exact kgp_neb (by kernel_rfl) (by exact kgp_neb (by kernel_rfl) (by exact kgp_neb (by kernel_rfl) (by assumption))))), by focus (exact kgp_neb (by kernel_rfl) (by exact kgp_neb (by kernel_rfl) (by exact kgp_neb (by kernel_rfl) (by exact kgp_neb (by kernel_rfl) (by assumption))))), by focus (exact kgp_same)⟩, { S6 with l := { S6.l with probes := S6.l.probes + if true = true then 1 else 0 } }, rfl, { (o7.mono (P' := (k : Int) + 1) (Int.le_refl _) (Int.le_refl _) (Int.le_refl _) (by omega)) with hp := by first | exact pr0 hp | exact pr1 hp }⟩
            first | exact tl1 hnow1 a0 | exact tl0 hnow1 a0 | exact tl3 hnow1 hpl a0 | omega
          | some m =>
            have hml := hline m rfl
            focus (refine evs_nil ?_; refine and_len (Nat.le_of_ble_eq_true rfl) ?_; refine as_tup rfl ?_; refine ass_cons rfl ?_; refine as_nameb (by kernel_rfl) ?_; refine ass_cons rfl ?_; refine as_nameb (by kernel_rfl) ?_; refine ass_nil ?_; refine next_assign (by kernel_rfl) ?_; refine ev_bin ?_; refine' ev_led (by kernel_rfl) (kgp_neb (by kernel_rfl) (kgp_neb (by kernel_rfl) (by assumption))) heap_5 (by first | exact lg11 | exact kg_tailb (by kernel_rfl) (kg_tailb (by kernel_rfl) (kg_tailb (by kernel_rfl) (kg_tailb (by kernel_rfl) (kg_tailb (by kernel_rfl) (kg_tailb (by kernel_rfl) (kg_tailb (by kernel_rfl) (kg_tailb (by kernel_rfl) (kg_tailb (by kernel_rfl) (kg_tailb (by kernel_rfl) (kg_tailb (by kernel_rfl) kg_head))))))))))) ?_; refine ev_bool ?_; refine bo_and ?_; refine' ev_pu (pu_cmp rfl (pu_loc (by kernel_rfl) (kgp_neb (by kernel_rfl) kgp_same)) pu_non ac_isi) ?_; refine ⟨_, rfl, ?_⟩; refine split_f ?_; refine ⟨_, abin_add, ?_⟩; refine' as_led (by kernel_rfl) (kgp_neb (by kernel_rfl) (kgp_neb (by kernel_rfl) (by assumption))) heap_5 (by exact Nat.le_of_ble_eq_true rfl) kl_probes ?_; refine next_assign (by kernel_rfl) ?_; refine ev_if ?_; refine' te_cmpp rfl (pu_loc (by kernel_rfl) (kgp_neb (by kernel_rfl) kgp_same)) pu_non ac_isnoti ?_; refine split_t ?_; refine' ev_locv (by kernel_rfl) (kgp_neb (by kernel_rfl) kgp_same) ?_; refine as_nameb (by kernel_rfl) ?_; refine next_assign (by kernel_rfl) ?_; refine' ev_callA (Nat.le_of_ble_eq_true rfl) (by kernel_rfl) (ar_cons rfl (pu_loc (by kernel_rfl) (kgp_neb (by kernel_rfl) (kgp_neb (by kernel_rfl) (kgp_neb (by kernel_rfl) (by assumption))))) (ar_cons rfl (pu_loc (by kernel_rfl) kgp_same) ar_nil)) ?_; refine cn_bi nb_max ab_max ?_; refine as_nameb (by kernel_rfl) ?_; refine then_next ?_; refine xs_nil ?_; rotate_left)
            refine ⟨rfl, ⟨_, ?_, by focus (exact kgp_neb (by kernel_rfl) (by exact kgp_neb (by kernel_rfl) (by exact kgp_neb (by kernel_rfl) (by exact kgp_neb (by kernel_rfl) (by assumption))))), by focus (exact kgp_neb (by kernel_rfl) (by exact kgp_neb (by kernel_rfl) (by exact kgp_neb (by kernel_rfl) (by exact kgp_neb (by kernel_rfl) (by assumption))))), by focus (exact kgp_neb (by kernel_rfl) (by exact kgp_neb (by kernel_rfl) (by exact kgp_neb (by kernel_rfl) (by exact kgp_neb (by kernel_rfl) (by assumption))))), by focus (exact kgp_neb (by kernel_rfl) (by exact kgp_neb (by kernel_rfl) (by exact kgp_neb (by kernel_rfl) (by exact kgp_neb (by kernel_rfl) (by assumption))))), by focus (exact kgp_neb (by kernel_rfl) (by exact kgp_neb (by kernel_rfl) (by exact kgp_neb (by kernel_rfl) (by exact kgp_neb (by kernel_rfl) (by assumption))))), by focus (exact kgp_same)⟩, { S6 with l := { S6.l with probes := S6.l.probes + if false = true then 1 else 0 } }, rfl, { (o7.mono (P' := (k : Int) + 1) (Int.le_refl _) (Int.le_refl _) (Int.le_refl _) (by omega)) with hp := by first | exact pr0 hp | exact pr1 hp }⟩
            first | exact tl2 hnow1 hml a0 | exact tl1 hnow1 a0 | exact tl0 hnow1 a0 | exact tl3 hnow1 hpl a0 | omega
      · exact ⟨rfl, ⟨now1, tl1 hnow1 a0, k1, k2, k3, k4, k5, k6⟩, S4, rfl, o5.mono (Int.le_refl _) (Int.le_refl _) (Int.le_refl _) (by omega)⟩
    rintro f l H' ⟨rfl, ⟨now2, hnow2, k1, k2, k3, k4, k5, k6⟩, S5, rfl, o6⟩
    focus (refine next_cons ?_; refine ex_if ?_; refine te_not ?_; refine te_call ?_; refine' ev_callA (Nat.le_of_ble_eq_true rfl) (by kernel_rfl) (ar_cons rfl (pu_loc (by kernel_rfl) (by assumption)) (ar_cons rfl (pu_loc (by kernel_rfl) (by assumption)) (ar_cons rfl (pu_loc (by kernel_rfl) (by assumption)) (ar_cons rfl (pu_loc (by kernel_rfl) (by assumption)) (ar_cons rfl (pu_loc (by kernel_rfl) (by assumption)) ar_nil))))) ?_; refine cn_user fi22 ?_; rotate_left)
    refine law_stands_spec (B := 16777216 * A) (o6.mono (by first | exact bigA _ hA ⟨by decide, by decide⟩ | exact bigB _ hA ⟨by decide, by decide⟩ | exact bx 64 h8 (bnn a0 (by decide)) (by decide) | exact bx 64 h4 (bnn a0 (by decide)) (by decide) | omega) (Int.le_refl _) (Int.le_refl _) (Int.le_refl _)) (by first | exact bigA _ hA ⟨by decide, by decide⟩ | exact bigB _ hA ⟨by decide, by decide⟩ | exact bx 64 h8 (bnn a0 (by decide)) (by decide) | exact bx 64 h4 (bnn a0 (by decide)) (by decide) | omega) (by first | exact bigA _ hA ⟨by decide, by decide⟩ | exact bigB _ hA ⟨by decide, by decide⟩ | exact bx 64 h8 (bnn a0 (by decide)) (by decide) | exact bx 64 h4 (bnn a0 (by decide)) (by decide) | omega) (by first | exact bigA _ hA ⟨by decide, by decide⟩ | exact bigB _ hA ⟨by decide, by decide⟩ | exact bx 64 h8 (bnn a0 (by decide)) (by decide) | exact bx 64 h4 (bnn a0 (by decide)) (by decide) | omega) fun S6 o7 => ?_
    focus (refine ⟨_, rfl, ?_⟩; refine split_nt ?_; refine xs_nil ?_; refine then_next ?_; refine xs_nil ?_; rotate_left)
    refine ⟨.inl rfl, S6, now2, rfl, o7.mono (Int.le_refl _) (by omega) (by omega) (by omega), hnow2, k1, k2, k3, k4, k5, k6⟩
  · rintro loc H' ⟨S, now, rfl, o, hnow, k1, k2, k3, k4, k5, k6⟩
    focus (refine next_cons ?_; refine' ret_pu pu_cb ?_; rotate_left)
    exact q _
end

end Mine.Plain

namespace Mine
open PySem PySem.W PyProof.Rows PySem.SeqAt PySem.Calls
set_option maxHeartbeats 8000000 in
theorem joined (pl : ∀ ns : List Int, ns.length ≤ 63 → ∃ H', acall 100 (fdef 41) [.lst (ns.map .int)] [] = some (.bool true, H')) : PySem.Challenge.rw_nz0350_01.Holds := by
  refine holds_law well_said fun said => ?_
  refine holds_open (r := PySem.Challenge.rw_nz0350_01.row) (q := vw) (loose := []) (Xt := xt) (XP := XL vw []) (Yf := hook.obs) (Ya := hook.val) (YP := hook.says) (N := 3700) top_runs hook.of hook.keeps (fun s e => xl_of s (Bool.and_eq_true_iff.mp e).1) XL.keeps (by rfl) (by rfl) (by rfl)
    (fun s e => recFacts_of (Bool.and_eq_true_iff.mp e).2) (by rfl) said (by decide +kernel) ⟨rfl, rfl, rfl, rfl, rfl, by decide +kernel⟩ ?hw ?hc
  case hw => w_witness2
  intro w s₀ s₁ mg mb G Y fa o pm cd doc dV kV ho hd hcd hD hmg hg args vals as hpre hlay hrd hwl hlo
  w_strict (refine Ground.open G ?_)
  intro T B D TE TW
  try (refine guard_noD D (by decide +kernel) ?_; clear D)
  obtain ⟨_, _, M⟩ := bmod_of_top T
  have TA := at_of_top T
  try (obtain ⟨_, _, he, B0⟩ := based_of_top T rfl hmg ho hd; have he' : cd = _ := he; subst he'; clear he)
  clear hmg
  w_strict (wrow_args hpre hlay hrd hwl hlo)
  all_goals (
    first | refine callC_kw (enter_call ?_) | refine enter_call ?_ | refine callC_kw (enter_callW ?_) | refine enter_callW ?_ | w_how
    w_top on
    try refine codeAny_mono ?_ (fun _ _ g => GoodW.toG g)
    have K0 := below_caller (Top.heap T)
    w_call any ho hd hcd hD T F
    clear hd TA
    k_drop
    skip)
  rename_i w9 w8 w7 w6 ns hs hlay0 hL1 hr1 hl2 w4 w3 w2 w1 w0 hL ra ww1 r0 hI hr hc1 hc2 h1 N0
  have hlen : ns.length ≤ 63 := by omega
  obtain ⟨K, KX, ek⟩ := Y
  obtain ⟨C, g⟩ := gok_seen KX ek T.nolimit T.g T.b T.builtins
  clear TE TW B hcd hD
  obtain ⟨H', e⟩ := pl ns hlen
  have F' : Fr s₁.heap s₁.heap.objs.size h1 (fun x => List.lookup x [((PySem.Str.ofString "script"), Value.ref w2)]) := F
  refine finish (fd := ⟨_, _, _, _⟩) g rfl rfl rfl (by decide +kernel) ⟨rfl, Nat.le_of_ble_eq_true rfl, Nat.le_of_ble_eq_true rfl⟩ hL hI F' e (fun h' tk kb => ?_)
  refine ⟨.inl ⟨_, .bool true, [], rfl, fun _ => rfl, ?_, by kernel_rfl, fun _ => ⟨.nil, fun _ h => nomatch h⟩⟩, kb, rfl, hg⟩
  exact .bool true
end Mine


theorem PySem.Challenge.cw_nz0350_01_holds : PySem.Challenge.rw_nz0350_01.Holds :=
  Mine.joined fun ns h => by
    obtain ⟨v, H', e, hv⟩ := Mine.Plain.law_plain (Q := fun v _ => v = .bool true) h fun _ => rfl
    subst hv
    exact ⟨H', e⟩
