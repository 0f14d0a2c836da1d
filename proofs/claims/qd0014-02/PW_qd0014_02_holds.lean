import PyProof.Rows.All
import PyProof.SliceList
import PyProof.P3Eq
import Wide.All
import OpenK.AllK
import KE.KSuper
import Wide.FinOn
import PySem.Challenge.RW_qd0014_02
set_option Elab.async false
set_option linter.all false

section
namespace Mine
open PySem

/-- the goal, set aside -/
theorem byZ {T : Prop} (h : ∀ Z : Prop, (T → Z) → Z) : T := h T id

inductive PV where
  | none
  | bool (b : Bool)
  | int (i : Int)
  | str (s : Str)
  | txt (n : Nat)
  | tup (l : List PV)
  | lst (l : List PV)
  | rng (a b : Int)
  | loc (k : Nat)
  | con (v : Value)
  

inductive MO where
  | list (l : List PV)
  | dict0
  | dictI (es : List (Int × PV))
  | dictS (es : List (Str × PV))
  | inst (c : Addr) (fs : List (Str × PV))
  | pair
  

noncomputable def S (s : String) : Str := Str.ofString s

structure St where
  objs : Nat → Option MO
  next : Nat

inductive R (α : Type) where
  | ok (a : α)
  | exc

inductive Fl where
  | next
  | ret (v : PV)

noncomputable abbrev Locs := List (Str × PV)

noncomputable def M (α : Type) : Type := St → Option (R α × St)
noncomputable def M.ret {α : Type} (a : α) : M α := fun st => some (.ok a, st)
noncomputable def M.bind {α β : Type} (m : M α) (f : α → M β) : M β := fun st => match m st with
  | Option.none => Option.none
  | some (.exc, st') => some (.exc, st')
  | some (.ok a, st') => f a st'
noncomputable def M.fail {α : Type} : M α := fun _ => Option.none
noncomputable def M.exc {α : Type} : M α := fun st => some (.exc, st)
noncomputable def M.of {α : Type} (o : Option α) : M α := match o with
  | some a => M.ret a
  | Option.none => M.fail

noncomputable def ifB {α : Type} (c : Bool) (x y : M α) : M α := match c with
  | true => x
  | false => y
noncomputable def getO (k : Nat) : M MO := fun st => match st.objs k with
  | some o => some (.ok o, st)
  | Option.none => Option.none
noncomputable def setO (k : Nat) (o : Option MO) : M Unit := fun st => some (.ok (), { st with objs := fun j => if j = k then o else st.objs j })
noncomputable def newO (o : MO) : M Nat := fun st => some (.ok st.next, { objs := fun j => if j = st.next then some o else st.objs j, next := st.next + 1 })

structure Fn where
  params : List Str
  body : List Stmt
  sc : Scope

structure Cfg where
  glob : Str → Option PV
  fns : Addr → Option Fn
  meth : Addr → Str → Option Addr
  inits : Addr → Option Addr
  lim : Addr
  muta : PySem.Expr → Bool
  attr : Addr → Str → Bool
  hd : Bool := false


-- looks at values
noncomputable def truthP : PV → Option Bool
  | .bool b => some b
  | .int i => some (decide (i ≠ 0))
  | _ => Option.none

noncomputable def numOf : PV → Option Int
  | .int i => some i
  | .bool b => some (if b then 1 else 0)
  | _ => Option.none

noncomputable def bigN : Nat := 10 ^ 5000
noncomputable def bitsOk (a : Int) : Bool := decide (a.natAbs < bigN)

noncomputable def binI (op : Operator) (x y : Int) : Option PV := match op with
  | .Add => some (.int (x + y))
  | .Sub => some (.int (x - y))
  | .Mult => if bitsOk x && bitsOk y then some (.int (x * y)) else Option.none
  | .FloorDiv => if y = 0 ∨ 1073741824 ≤ y.natAbs then Option.none else some (.int (Int.fdiv x y))
  | .Mod => if y = 0 then Option.none else some (.int (Int.fmod x y))
  | .Pow => if (x = 10 || x = 2) && decide (0 ≤ y) && decide (y ≤ 1000) then some (.int (x ^ y.toNat)) else Option.none
  | _ => Option.none
noncomputable def intO : PV → Option Int
  | .int i => some i
  | _ => Option.none
noncomputable def txtO : PV → Option Nat
  | .txt n => some n
  | _ => Option.none
noncomputable def strO : PV → Option Str
  | .str x => some x
  | _ => Option.none
noncomputable def binP (op : Operator) (a b : PV) : Option PV := match intO a with
  | some x => (intO b).bind fun y => binI op x y
  | Option.none => (strO a).bind fun x => (txtO b).bind fun n => if op = .Add ∧ x.length + n ≤ 100000 then some (.txt (x.length + n)) else Option.none

noncomputable def unP (op : UnaryOp) (a : PV) : Option PV := if op = .USub then (intO a).map fun x => .int (-x) else Option.none

noncomputable def mapO {α β : Type} (f : α → Option β) : List α → Option (List β)
  | [] => some []
  | x :: r => match f x with
    | Option.none => Option.none
    | some y => match mapO f r with
      | Option.none => Option.none
      | some l => some (y :: l)
noncomputable def tupO : PV → Option (List PV)
  | .tup l => some l
  | _ => Option.none
noncomputable def lstV : PV → Option (List PV)
  | .lst l => some l
  | _ => Option.none
noncomputable def toPy0 : PV → Option PyData
  | .none => some .none
  | .bool b => some (.bool b)
  | .int i => some (.int i)
  | .str x => if PyData.strOk x then some (.str x) else Option.none
  | _ => Option.none
/-- a value as data, at most so deep -/
noncomputable def toPy (n : Nat) (p : PV) : Option PyData := match n with
  | 0 => toPy0 p
  | n + 1 => match tupO p with
    | some l => (mapO (toPy n) l).map .tuple
    | Option.none => match lstV p with
      | some l => (mapO (toPy n) l).map .list
      | Option.none => toPy0 p
noncomputable def eqv (a b : PV) : Option Bool := match toPy 8 a with
  | Option.none => Option.none
  | some x => match toPy 8 b with
    | Option.none => Option.none
    | some y => some (PyData.eqv x y)

noncomputable def intsOf (l : List PV) : Option (List Int) := mapO intO l
inductive Key where
  | I (i : Int)
  | T (x : Str)
noncomputable def keyOf (a : PV) : Option Key := match intO a with
  | some i => some (.I i)
  | Option.none => (strO a).map .T
noncomputable def findG {K : Type} [DecidableEq K] (es : List (K × PV)) (k : K) : Option PV := (es.find? fun p => p.1 = k).map (·.2)
noncomputable def putG {K : Type} [DecidableEq K] (es : List (K × PV)) (k : K) (v : PV) : List (K × PV) :=
  if es.any (fun p => p.1 = k) then es.map (fun p => if p.1 = k then (p.1, v) else p) else es ++ [(k, v)]
/-- a dict's entries, those of one kind of key -/
noncomputable def dictIO : MO → Option (List (Int × PV))
  | .dict0 => some []
  | .dictI es => some es
  | _ => Option.none
noncomputable def dictSO : MO → Option (List (Str × PV))
  | .dict0 => some []
  | .dictS es => some es
  | _ => Option.none
noncomputable def findD (o : MO) (k : Key) : Option (Option PV) := match k with
  | .I i => (dictIO o).map fun es => findG es i
  | .T x => (dictSO o).map fun es => findG es x
noncomputable def putD (o : MO) (k : Key) (v : PV) : Option MO := match k with
  | .I i => (dictIO o).bind fun es => if es.length < 1000 then some (.dictI (putG es i v)) else Option.none
  | .T x => (dictSO o).bind fun es => if es.length < 1000 then some (.dictS (putG es x v)) else Option.none
noncomputable def strsP (ps : List (PV × PV)) : Option (List (Str × PV)) := mapO (fun p => (strO p.1).map fun x => (x, p.2)) ps
/-- a display's dict -/
noncomputable def dispO (ps : List (PV × PV)) : Option MO := if ps.length = 0 ∨ 15 < ps.length then Option.none else (strsP ps).map fun qs => .dictS (qs.foldl (fun l q => putG l q.1 q.2) [])

/-- what a method's name stands for -/
inductive MK where
  | fn (f : Addr)
  | append
  | get
noncomputable def locO : PV → Option Nat
  | .loc k => some k
  | _ => Option.none
noncomputable def conO : PV → Option Value
  | .con w => some w
  | _ => Option.none
noncomputable def listO : MO → Option (List PV)
  | .list l => some l
  | _ => Option.none
noncomputable def instO : MO → Option (Addr × List (Str × PV))
  | .inst c fs => some (c, fs)
  | _ => Option.none
noncomputable def zeroO : MO → Bool
  | .dict0 => true
  | _ => false
noncomputable def methK (C : Cfg) (o : PV) (m : Str) : M MK := (M.of (locO o)).bind fun k => (getO k).bind fun ob => match instO ob with
  | some q => if (q.2.lookup m).isSome then M.fail else (M.of (C.meth q.1 m)).bind fun f => M.ret (.fn f)
  | Option.none => if m = S "append" then (M.of (listO ob)).bind fun _ => M.ret .append else if m = S "get" then (M.of (dictIO ob)).bind fun _ => M.ret .get else M.fail
noncomputable def derefP (v : PV) : M PV := match locO v with
  | some k => (getO k).bind fun o => (M.of (listO o)).bind fun l => M.ret (.lst l)
  | Option.none => M.ret v
noncomputable def derefV (st : St) (v : PV) : Option PV := match locO v with
  | some k => (st.objs k).bind fun o => (listO o).map .lst
  | Option.none => some v
noncomputable def derefTup (v : PV) : M PV := match tupO v with
  | some l => fun st => match mapO (derefV st) l with
    | some l' => some (.ok (.tup l'), st)
    | Option.none => Option.none
  | Option.none => derefP v
noncomputable def intP {α : Type} (v : PV) (f : Int → M α) : M α := match intO v with
  | some i => f i
  | Option.none => M.fail
noncomputable def cmpI : CmpOp → Option (Int → Int → Bool)
  | .Lt => some fun x y => decide (x < y)
  | .LtE => some fun x y => decide (x ≤ y)
  | .Gt => some fun x y => decide (y < x)
  | .GtE => some fun x y => decide (y ≤ x)
  | _ => Option.none
noncomputable def cmpE (neg : Bool) (a b : PV) : M PV := (derefTup a).bind fun a => (derefTup b).bind fun b => M.of ((eqv a b).map fun x => .bool (x != neg))
noncomputable def cmpP (op : CmpOp) (a b : PV) : M PV := if op = .Eq then cmpE false a b else if op = .NotEq then cmpE true a b else match cmpI op with
  | some f => intP a fun x => intP b fun y => M.ret (.bool (f x y))
  | Option.none => M.fail

noncomputable def idx? (l : List PV) (i : Int) : Option PV :=
  if 1000000 ≤ i.natAbs then Option.none else if 0 ≤ i then l[i.toNat]? else if -(l.length : Int) ≤ i then l[(i + l.length).toNat]? else Option.none

noncomputable def idxP (l : List PV) (i : PV) : M PV := intP i fun i => M.of (idx? l i)
noncomputable def itemO (ob : MO) (i : PV) : M PV := match listO ob with
  | some l => idxP l i
  | Option.none => (M.of (keyOf i)).bind fun d => (M.of (findD ob d)).bind fun r => M.of r
/-- a tuple's or a list's items -/
noncomputable def seqO : PV → Option (List PV)
  | .tup l => some l
  | .lst l => some l
  | _ => Option.none
noncomputable def itemP (o i : PV) : M PV := match seqO o with
  | some l => idxP l i
  | Option.none => (M.of (locO o)).bind fun k => (getO k).bind fun ob => itemO ob i
noncomputable def locL (v : PV) : M (List PV) := (M.of (locO v)).bind fun k => (getO k).bind fun o => M.of (listO o)
noncomputable def seqOf (v : PV) : M (List PV) := match seqO v with
  | some l => M.ret l
  | Option.none => locL v

noncomputable def maxL : List Int → Option Int
  | [] => Option.none
  | x :: r => some (r.foldl (fun a b => if a < b then b else a) x)
noncomputable def minL : List Int → Option Int
  | [] => Option.none
  | x :: r => some (r.foldl (fun a b => if b < a then b else a) x)
noncomputable def sole {α : Type} (l : List α) : Option α := match l with
  | [] => Option.none
  | x :: r => match r with
    | [] => some x
    | _ :: _ => Option.none
noncomputable def two {α : Type} (l : List α) : Option (α × α) := match l with
  | [] => Option.none
  | x :: r => (sole r).map fun y => (x, y)
noncomputable def tup2 (v : PV) : Option (PV × PV) := (tupO v).bind two
noncomputable def pairsOf (l : List PV) : Option (List (PV × PV)) := mapO tup2 l
noncomputable def insI (x : Int) : List Int → List Int
  | [] => [x]
  | y :: r => if y < x then y :: insI x r else x :: y :: r
noncomputable def sortI : List Int → List Int
  | [] => []
  | x :: r => insI x (sortI r)
noncomputable def upTo (a : Int) : Nat → List PV
  | 0 => []
  | n + 1 => .int a :: upTo (a + 1) n
noncomputable def putF (fs : List (Str × PV)) (x : Str) (v : PV) : List (Str × PV) := match fs with
  | [] => [(x, v)]
  | e :: r => if e.1 = x then (x, v) :: r else e :: putF r x v

noncomputable def isCon : PV → Bool
  | .con _ => true
  | _ => false
noncomputable def getA (C : Cfg) (o : PV) (x : Str) : M PV := (M.of (locO o)).bind fun k => (getO k).bind fun o => (M.of (instO o)).bind fun q => (M.of (q.2.lookup x)).bind fun v => if C.attr q.1 x = true ∧ isCon v = false then M.ret v else M.fail
noncomputable def setI (o i v : PV) : M Unit := (M.of (locO o)).bind fun k => (getO k).bind fun o => match listO o with
  | some l => intP i fun i => if 0 ≤ i ∧ i.toNat < l.length ∧ i < 1000000 then setO k (some (.list (l.set i.toNat v))) else M.fail
  | Option.none => (M.of (keyOf i)).bind fun d => (M.of (putD o d v)).bind fun o' => setO k (some o')
noncomputable def setA (C : Cfg) (o : PV) (x : Str) (v : PV) : M Unit := (M.of (locO o)).bind fun k => (getO k).bind fun o => (M.of (instO o)).bind fun q => if C.attr q.1 x ∧ q.2.length < 100 then setO k (some (.inst q.1 (putF q.2 x v))) else M.fail
noncomputable def noneV (v : PV) : Bool := match v with
  | .none => true
  | _ => false

noncomputable def listOf (v : PV) : M (List PV) := match lstV v with
  | some l => M.ret l
  | Option.none => locL v
-- built-in functions on values
noncomputable def arg1 {α : Type} (args : List PV) (f : PV → M α) : M α := match args with
  | [] => M.fail
  | v :: r => match r with
    | [] => f v
    | _ :: _ => M.fail
noncomputable def arg2 {α : Type} (args : List PV) (f : PV → PV → M α) : M α := match args with
  | [] => M.fail
  | v :: r => arg1 r (f v)
noncomputable def lenP (v : PV) : M PV := (seqOf v).bind fun l => if l.length < 1000000 then M.ret (.int l.length) else M.fail
noncomputable def tyO : Value → Option String
  | .type T => some T
  | _ => Option.none
noncomputable def tyName (v : PV) : Option String := (conO v).bind tyO
noncomputable def shp : PV → Option Nat
  | .tup _ => some 0
  | .int _ => some 1
  | .bool _ => some 2
  | _ => Option.none
noncomputable def isiP (v t : PV) : M PV := (M.of (tyName t)).bind fun T => (M.of (shp v)).bind fun k => if T = "tuple" then M.ret (.bool (k == 0)) else if T = "bool" then M.ret (.bool (k == 2)) else M.fail
noncomputable def bestL (mx : Bool) (l : List PV) : Option PV := (intsOf l).bind fun is => (if mx then maxL is else minL is).map .int
noncomputable def bestP (mx hd : Bool) (v : PV) : M PV := match tupO v with
  | some l => if hd then M.fail else M.of (bestL mx l)
  | Option.none => (listOf v).bind fun l => M.of (bestL mx l)
noncomputable def bestA (mx hd : Bool) (args : List PV) : M PV := arg1 args (bestP mx hd)
noncomputable def sumP (v : PV) : M PV := (listOf v).bind fun l => M.of ((intsOf l).map fun is => .int (is.foldl (· + ·) 0))
noncomputable def sortedP (hd : Bool) (v : PV) : M PV := if hd then M.fail else (M.of (locO v)).bind fun k => (getO k).bind fun o => (M.of (dictIO o)).bind fun es => if es.length < 64 then M.ret (.lst ((sortI (es.map (·.1))).map .int)) else M.fail
noncomputable def absP (i : Int) : M PV := M.ret (.int (if i < 0 then -i else i))
noncomputable def builtinP (hd : Bool) (id : String) (args : List PV) : M PV :=
  if id = "len" then arg1 args lenP
  else if id = "isinstance" then arg2 args isiP
  else if id = "abs" then arg1 args fun v => intP v absP
  else if id = "max" then bestA true hd args
  else if id = "min" then bestA false hd args
  else if id = "sum" then arg1 args sumP
  else if id = "sorted" then arg1 args (sortedP hd)
  else M.fail

noncomputable def putAllI (es : List (Int × PV)) : List (PV × PV) → Option (List (Int × PV))
  | [] => some es
  | p :: r => (intO p.1).bind fun i => putAllI (putG es i p.2) r
noncomputable def dictP (hd : Bool) (v : PV) : M PV := if hd then M.fail else (M.of (tupO v)).bind fun l => (M.of (pairsOf l)).bind fun ps => if 1000 < ps.length then M.fail else (M.of (putAllI [] ps)).bind fun es => (newO (if es.isEmpty then .dict0 else .dictI es)).bind fun k => M.ret (.loc k)
noncomputable def typeP (hd : Bool) (id : String) (args : List PV) : M PV :=
  if id = "int" then arg1 args fun v => M.of ((numOf v).map .int)
  else if id = "tuple" then arg1 args fun v => (seqOf v).bind fun l => if l.length ≤ 100000 then M.ret (.tup l) else M.fail
  else if id = "list" then arg1 args fun v => (seqOf v).bind fun l => if l.length ≤ 100000 then M.ret (.lst l) else M.fail
  else if id = "str" then arg1 args fun v => intP v fun i => if 0 ≤ i ∧ i < 10 then M.ret (.txt 8) else M.fail
  else if id = "range" then (if args.length = 1 then arg1 args fun v => intP v fun b => M.ret (.rng 0 b) else arg2 args fun v w => intP v fun a => intP w fun b => M.ret (.rng a b))
  else if id = "dict" then arg1 args (dictP hd)
  else M.fail

noncomputable def constP : Const → Option PV
  | .none => some .none
  | .bool b => some (.bool b)
  | .int i => some (.int i)
  | .str s => some (.str s)
  | _ => Option.none

noncomputable def nameP (C : Cfg) (sc : Scope) (ρ : Locs) (x : Str) : M PV := match sc.names.lookup x with
  | some .local => M.of (ρ.lookup x)
  | some .cell => M.of (ρ.lookup x)
  | some .globalImplicit => M.of (C.glob x)
  | _ => M.fail

noncomputable def freeze1 (st : St) (n0 : Nat) : PV → PV
  | .loc k => if k < n0 then .loc k else match st.objs k with
    | some (.list l) => .lst l
    | _ => .loc k
  | v => v
noncomputable def freeze (st : St) (n0 : Nat) : PV → PV
  | .tup l => .tup (l.map (freeze1 st n0))
  | v => freeze1 st n0 v
noncomputable def dropTo (st : St) (n0 : Nat) : St := { st with objs := fun k => if k < n0 then st.objs k else Option.none }

noncomputable def retV (r : Fl × Locs) : PV := match r.1 with
  | .ret v => v
  | _ => .none
noncomputable def cutM (m : M PV) : M PV := fun st => match m st with
  | Option.none => Option.none
  | some (.exc, st') => some (.exc, dropTo st' st.next)
  | some (.ok v, st') => some (.ok (freeze st' st.next v), dropTo st' st.next)
noncomputable def tryRun {α β : Type} (m : M α) (k : α → M β) (h : M β) : M β := fun st => match m st with
  | Option.none => Option.none
  | some (.ok v, st') => k v st'
  | some (.exc, st') => h st'

noncomputable def nameV (e : PySem.Expr) : Option Str := match e with
  | .Name x _ => some x
  | _ => Option.none
noncomputable def tupV (e : PySem.Expr) : Option (List PySem.Expr) := match e with
  | .Tuple es _ _ => some es
  | _ => Option.none
/-- a target that is two names -/
noncomputable def pairN (e : PySem.Expr) : Option (Str × Str) := (tupV e).bind fun es => (two es).bind fun p => (nameV p.1).bind fun x => (nameV p.2).map fun y => (x, y)
noncomputable def bindT (hd : Bool) (ρ : Locs) (t : PySem.Expr) (v : PV) : Option Locs := match nameV t with
  | some x => if (ρ.lookup x).isSome then Option.none else some ((x, v) :: ρ)
  | Option.none => match pairN t with
    | some (x, y) => (match tup2 v with
      | some (a, b) => if hd = true ∨ x = y ∨ (ρ.lookup x).isSome = true ∨ (ρ.lookup y).isSome = true then Option.none else some ((y, b) :: (x, a) :: ρ)
      | Option.none => Option.none)
    | Option.none => Option.none
noncomputable def isVar (sc : Scope) (x : Str) : Bool := sc.names.lookup x == some .local || sc.names.lookup x == some .cell
noncomputable def tgtOk (sc : Scope) (t : PySem.Expr) : Bool := match nameV t with
  | some x => isVar sc x
  | Option.none => match pairN t with
    | some (x, y) => isVar sc x && isVar sc y
    | Option.none => false
noncomputable def compOk (sc sc' : Scope) (g : Comprehension) : Bool :=
  sc'.kind == .function && decide (sc'.names.map (·.1)).Nodup &&
  (sc'.names.all fun p => (p.2 != .free || sc.names.lookup p.1 == some .cell)) &&
  g.is_async == 0 && tgtOk sc' g.target
noncomputable def nameAt (sc : Scope) (line : Nat) : PySem.Expr → Option Str
  | .Name id pos => if sc.names.lookup id == some .local && pos.line == line then some id else Option.none
  | _ => Option.none
noncomputable def starred : PySem.Expr → Bool
  | .Starred .. => true
  | _ => false
/-- how a pair's stores go: none, not said; else the names that go from behind -/
noncomputable def swap2 (sc : Scope) (ts vs : List PySem.Expr) : Option (Option (List Str)) :=
    if !(ts.length == 2 || ts.length == 3) || vs.length != ts.length then some Option.none
    else if vs.any starred then some Option.none
    else if (ts.filterMap (nameAt sc ((ts.head?.map (·.pos.line)).getD 0))).length != ts.length || (ts.filterMap (nameAt sc ((ts.head?.map (·.pos.line)).getD 0))).eraseDups.length != (ts.filterMap (nameAt sc ((ts.head?.map (·.pos.line)).getD 0))).length then some Option.none
    else if vs.all (foldedForSure 8) then some Option.none
    else if vs.all (constantsAlone 8) then Option.none
    else some (some (ts.filterMap (nameAt sc ((ts.head?.map (·.pos.line)).getD 0))))
noncomputable def swapW (sc : Scope) (t e : PySem.Expr) : Option (Option (List Str)) := match t with
  | .Tuple ts _ _ => (match tupV e with
    | some vs => swap2 sc ts vs
    | Option.none => some Option.none)
  | .Name _ _ => some Option.none
  | .Subscript _ _ _ => some Option.none
  | .Attribute _ _ _ => some Option.none
  | _ => Option.none

noncomputable def loopF {β : Type} (f : PV → Locs → M (Fl × Locs)) : List PV → Locs → M (Fl × Locs)
  | [], ρ => M.ret (.next, ρ)
  | x :: xs, ρ => (f x ρ).bind fun r => match r.1 with
    | .next => loopF (β := β) f xs r.2
    | .ret v => M.ret (.ret v, r.2)
noncomputable def loopU (ck fin : M Unit) (f : PV → M Unit) : List PV → M Unit
  | [] => fin
  | x :: xs => ck.bind fun _ => (f x).bind fun _ => loopU ck fin f xs
noncomputable def chkO (k : Nat) : M Unit := (getO k).bind fun o => match o with
  | .pair => M.ret ()
  | _ => M.fail
/-- what an exception may not leave -/
noncomputable def noExc {α : Type} (m : M α) : M α := fun st => match m st with
  | some (.ok a, st') => some (.ok a, st')
  | _ => Option.none
noncomputable def appO (k : Nat) (v : PV) : M Unit := (getO k).bind fun o => match o with
  | .list l => if l.length < 100000 then setO k (some (.list (l ++ [v]))) else M.fail
  | _ => M.fail
noncomputable def takeO (k : Nat) : M PV := (getO k).bind fun o => match o with
  | .list l => (setO k Option.none).bind fun _ => M.ret (.lst l)
  | _ => M.fail
inductive Src where
  | val (v : PV)
  | zip (k : Nat) (xs ys : List PV)
noncomputable def onItems {α : Type} (hd : Bool) (v : PV) (body : List PV → M α) : M α := match v with
  | .tup l => if hd then M.fail else body l
  | .lst l => body l
  | .rng a b => if hd ∨ 1000000 < a.natAbs ∨ 1000000 < b.natAbs then M.fail else body (upTo a (b - a).toNat)
  | _ => M.fail
noncomputable def onSrc {α : Type} (hd : Bool) (s : Src) (body : M Unit → M Unit → List PV → M α) : M α := match s with
  | .val v => onItems hd v (body (M.ret ()) (M.ret ()))
  | .zip k xs ys => if hd then M.fail else body (chkO k) ((chkO k).bind fun _ => setO k Option.none) ((xs.zip ys).map fun p => .tup [p.1, p.2])

noncomputable def sliceOf (l : List PV) (lo hi st : Option Int) : List PV :=
  (PySem.sliceRange (PySem.sliceBounds lo hi st l.length).1 (PySem.sliceBounds lo hi st l.length).2.1 (PySem.sliceBounds lo hi st l.length).2.2).filterMap (l[·]?)
noncomputable def plainArg (e : PySem.Expr) : Bool := !starred e
noncomputable def plainArgs (es : List PySem.Expr) : Bool := es.all plainArg && es.length < 20
noncomputable def callV1 (e : PySem.Expr) : Option (PySem.Expr × List PySem.Expr × List Keyword) := match e with
  | .Call f args kw _ => some (f, args, kw)
  | _ => Option.none
noncomputable def plainBase (e : PySem.Expr) : Bool := match callV1 e with
  | some (f, args, kw) => !((nameV f).isSome && args.isEmpty && kw.isEmpty)
  | Option.none => true
noncomputable def cmp1 (ops : List CmpOp) (rs : List PySem.Expr) : Option (CmpOp × PySem.Expr) := (sole ops).bind fun op => (sole rs).map fun r => (op, r)
noncomputable def attrV (e : PySem.Expr) : Option (PySem.Expr × Str × Pos) := match e with
  | .Attribute o m p => some (o, m, p)
  | _ => Option.none
noncomputable def sliceV (e : PySem.Expr) : Option (Option PySem.Expr × Option PySem.Expr × Option PySem.Expr) := match e with
  | .Slice lo up st _ => some (lo, up, st)
  | _ => Option.none
noncomputable def bodyV (s : Stmt) : Option (Str × PySem.Expr) := match s with
  | .Assign ts e _ => (sole ts).bind fun t => (nameV t).map fun x => (x, e)
  | _ => Option.none
noncomputable def handV (h : ExceptHandler) : Option (PySem.Expr × List Stmt) := match h with
  | .ExceptHandler t n b _ => if n.isSome || b.isEmpty then Option.none else t.map fun t => (t, b)
noncomputable def refO : Value → Option Addr
  | .ref a => some a
  | _ => Option.none
noncomputable def limA (C : Cfg) (v : PV) : Bool := match (conO v).bind refO with
  | some a => decide (a = C.lim)
  | Option.none => false

noncomputable def isComp : PySem.Expr → Bool
  | .ListComp .. => true
  | .SetComp .. => true
  | .DictComp .. => true
  | _ => false
noncomputable def compScope (sc sc' : Scope) : Scope := { sc' with names := sc'.names.map fun p => if p.2 == .free && sc.names.lookup p.1 == some .cell then (p.1, .cell) else p }
noncomputable def stripL (sc' : Scope) (ρ : Locs) : Locs := ρ.filter fun p => match sc'.names.lookup p.1 with
  | some .free => true
  | _ => false

noncomputable def whileF (test : Locs → M Bool) (body : Locs → M (Fl × Locs)) : Nat → Locs → M (Fl × Locs)
  | 0, _ => M.fail
  | k + 1, ρ => (test ρ).bind fun b => match b with
    | true => (body ρ).bind fun r => match r.1 with
      | .next => whileF test body k r.2
      | .ret v => M.ret (.ret v, r.2)
    | false => M.ret (.next, ρ)

noncomputable def limV (l : List PV) : M Unit := arg1 l fun v => (M.of (txtO v)).bind fun _ => M.ret ()
noncomputable def zipC (e : PySem.Expr) : Bool := match callV1 e with
  | some (f, _, _) => (match nameV f with
    | some z => decide (z = S "zip")
    | Option.none => false)
  | Option.none => false
noncomputable def isZip (v : PV) : Bool := match tyName v with
  | some T => decide (T = "zip")
  | Option.none => false
noncomputable def zipV (l : List PV) : M Src := arg2 l fun a b => (M.of (lstV a)).bind fun xs => (M.of (lstV b)).bind fun ys => (newO .pair).bind fun k => M.ret (.zip k xs ys)
noncomputable def oneV (v : PV) : Bool := match v with
  | .none => true
  | .int _ => true
  | _ => false
inductive PartV where
  | text (x : Str)
  | val (e : PySem.Expr)
  | bad
noncomputable def partV (p : PySem.Expr) : PartV := match p with
  | .Constant c _ _ => (match c with
    | .str x => .text x
    | _ => .bad)
  | .FormattedValue e k sp _ => if k = -1 ∧ sp.isNone then .val e else .bad
  | _ => .bad

mutual
noncomputable def evalE (C : Cfg) (n : Nat) (sc : Scope) (ρ : Locs) (e : PySem.Expr) : M PV := match n with
  | 0 => M.fail
  | n + 1 => match e with
    | .Constant c _ _ => M.of (constP c)
    | .Name x _ => if x = S "__debug__" then M.fail else nameP C sc ρ x
    | .BoolOp op es _ => boolE C n sc ρ op es
    | .BinOp l op r _ => (evalE C n sc ρ l).bind fun a => (evalE C n sc ρ r).bind fun b => M.of (binP op a b)
    | .UnaryOp op x _ => (evalE C n sc ρ x).bind fun a => M.of (unP op a)
    | .IfExp t b o _ => (evalT C n sc ρ t).bind fun c => match c with
      | true => evalE C n sc ρ b
      | false => evalE C n sc ρ o
    | .Dict ks vs _ => if ks.isEmpty then (if vs.isEmpty then (newO .dict0).bind fun k => M.ret (.loc k) else M.fail) else noExc ((newO .dict0).bind fun k => (evalPairs C n sc ρ ks vs).bind fun ps => (getO k).bind fun o => if zeroO o then (M.of (dispO ps)).bind fun o' => (setO k (some o')).bind fun _ => M.ret (.loc k) else M.fail)
    | .List es pos => if 1000 < es.length then M.fail else (evalEs C n sc ρ es).bind fun vs => match C.muta (.List es pos) with
      | true => (newO (.list vs)).bind fun k => M.ret (.loc k)
      | false => M.ret (.lst vs)
    | .Tuple es _ _ => if 1000 < es.length then M.fail else (evalEs C n sc ρ es).bind fun vs => M.ret (.tup vs)
    | .ListComp elt gens sc' pos => (match sole gens with
      | Option.none => M.fail
      | some g => if compOk sc sc' g = false then M.fail else noExc ((srcE C n sc ρ g.target g.iter).bind fun src => (newO (.list [])).bind fun k =>
          (onSrc C.hd src fun ck fin => loopU ck fin fun x => compTurn C n (compScope sc sc') elt g (stripL sc' ρ) k x).bind fun _ =>
        match C.muta (.ListComp elt gens sc' pos) with
        | true => M.ret (.loc k)
        | false => takeO k))
    | .Compare l ops rs _ => (match cmp1 ops rs with
      | some q => (evalE C n sc ρ l).bind fun a => (evalE C n sc ρ q.2).bind fun b => cmpP q.1 a b
      | Option.none => M.fail)
    | .Call f args kw pos => if kw.isEmpty = false ∨ plainArgs args = false then M.fail else (match attrV f with
      | some (o, m, pos') => if plainBase o = false ∨ (pos'.endLine == pos.line) = false then M.fail else (evalE C n sc ρ o).bind fun ov => (methK C ov m).bind fun mk => (evalEs C n sc ρ args).bind fun vs => methApp C n ov mk vs
      | Option.none => (evalE C n sc ρ f).bind fun fv => (evalEs C n sc ρ args).bind fun vs => callV C n fv vs)
    | .Attribute o x _ => if plainBase o = false then M.fail else (evalE C n sc ρ o).bind fun ov => getA C ov x
    | .Subscript o i _ => (match sliceV i with
      | some (lo, up, st) => (evalE C n sc ρ o).bind fun ov => ((evalO C n sc ρ lo).bind fun l => (evalO C n sc ρ up).bind fun u => (evalO C n sc ρ st).bind fun z => M.ret (l, u, z)).bind fun q => (M.of (lstV ov)).bind fun xs => if q.2.2 = some 0 ∨ 100000 < xs.length then M.fail else M.ret (.lst (sliceOf xs q.1 q.2.1 q.2.2))
      | Option.none => (evalE C n sc ρ o).bind fun ov => (evalE C n sc ρ i).bind fun iv => itemP ov iv)
    | .JoinedStr ps _ => if ps.length < 2 ∨ 50 < ps.length then M.fail else joinE C n sc ρ ps
    | _ => M.fail
noncomputable def evalO (C : Cfg) (n : Nat) (sc : Scope) (ρ : Locs) (e : Option PySem.Expr) : M (Option Int) := match n with
  | 0 => M.fail
  | n + 1 => match e with
    | Option.none => M.ret Option.none
    | some e => (evalE C n sc ρ e).bind fun v => intP v fun i => M.ret (some i)
noncomputable def joinE (C : Cfg) (n : Nat) (sc : Scope) (ρ : Locs) (ps : List PySem.Expr) : M PV := match n with
  | 0 => M.fail
  | n + 1 => match ps with
    | [] => M.ret (.txt 100000)
    | p :: r => (match partV p with
      | .text x => if x.length ≤ 1000 then joinE C n sc ρ r else M.fail
      | .val e => (evalE C n sc ρ e).bind fun v => intP v fun i => if 0 ≤ i ∧ i ≤ 1000 then joinE C n sc ρ r else M.fail
      | .bad => M.fail)
noncomputable def boolE (C : Cfg) (n : Nat) (sc : Scope) (ρ : Locs) (op : BoolOp) (es : List PySem.Expr) : M PV := match n with
  | 0 => M.fail
  | n + 1 => match es with
    | [] => M.fail
    | e :: r => (match r with
      | [] => evalE C n sc ρ e
      | _ :: _ => (evalE C n sc ρ e).bind fun v => (M.of (truthP v)).bind fun t => match op with
        | .And => ifB t (boolE C n sc ρ op r) (M.ret v)
        | .Or => ifB t (M.ret v) (boolE C n sc ρ op r))
noncomputable def evalT (C : Cfg) (n : Nat) (sc : Scope) (ρ : Locs) (e : PySem.Expr) : M Bool := match n with
  | 0 => M.fail
  | n + 1 => match e with
    | .UnaryOp op x pos => if op = .Not then (evalT C n sc ρ x).bind fun b => M.ret (!b) else (evalE C n sc ρ (.UnaryOp op x pos)).bind fun v => M.of (truthP v)
    | .BoolOp op es _ => allT C n sc ρ op es
    | .IfExp _ _ _ _ => M.fail
    | .Compare l ops rs _ => (match cmp1 ops rs with
      | some q => (evalE C n sc ρ l).bind fun a => (evalE C n sc ρ q.2).bind fun b => (cmpP q.1 a b).bind fun v => M.of (truthP v)
      | Option.none => M.fail)
    | e => (evalE C n sc ρ e).bind fun v => M.of (truthP v)
noncomputable def allT (C : Cfg) (n : Nat) (sc : Scope) (ρ : Locs) (op : BoolOp) (es : List PySem.Expr) : M Bool := match n with
  | 0 => M.fail
  | n + 1 => match es with
    | [] => M.ret (op == .And)
    | e :: r => (evalT C n sc ρ e).bind fun t => match op with
      | .And => ifB t (allT C n sc ρ op r) (M.ret false)
      | .Or => ifB t (M.ret true) (allT C n sc ρ op r)
noncomputable def evalEs (C : Cfg) (n : Nat) (sc : Scope) (ρ : Locs) (es : List PySem.Expr) : M (List PV) := match n with
  | 0 => M.fail
  | n + 1 => match es with
    | [] => M.ret []
    | e :: r => (evalE C n sc ρ e).bind fun v => (evalEs C n sc ρ r).bind fun vs => M.ret (v :: vs)
noncomputable def evalPairs (C : Cfg) (n : Nat) (sc : Scope) (ρ : Locs) (ks : List (Option PySem.Expr)) (vs : List PySem.Expr) : M (List (PV × PV)) := match n with
  | 0 => M.fail
  | n + 1 => match ks with
    | [] => (match vs with
      | [] => M.ret []
      | _ :: _ => M.fail)
    | q :: ks => (match vs with
      | [] => M.fail
      | v :: vs => (match q with
        | Option.none => M.fail
        | some k => (evalE C n sc ρ k).bind fun kv => (evalE C n sc ρ v).bind fun vv => (evalPairs C n sc ρ ks vs).bind fun r => M.ret ((kv, vv) :: r)))
noncomputable def srcE (C : Cfg) (n : Nat) (sc : Scope) (ρ : Locs) (target e : PySem.Expr) : M Src := match n with
  | 0 => M.fail
  | n + 1 => if zipC e then (match callV1 e with
      | some (f, args, kw) => if (pairN target).isNone ∨ C.hd = true ∨ plainArgs args = false ∨ kw.isEmpty = false then M.fail else (evalE C n sc ρ f).bind fun zv => if isZip zv then (evalEs C n sc ρ args).bind zipV else M.fail
      | Option.none => M.fail)
    else (evalE C n sc ρ e).bind fun v => M.ret (.val v)
noncomputable def compTurn (C : Cfg) (n : Nat) (sc : Scope) (elt : PySem.Expr) (g : Comprehension) (ρ : Locs) (k : Nat) (x : PV) : M Unit := match n with
  | 0 => M.fail
  | n + 1 => (M.of (bindT C.hd ρ g.target x)).bind fun ρ => (allT C n sc ρ .And g.ifs).bind fun b => match b with
    | false => M.ret ()
    | true => (evalE C n sc ρ elt).bind fun v => appO k v
noncomputable def methApp (C : Cfg) (n : Nat) (o : PV) (mk : MK) (args : List PV) : M PV := match n with
  | 0 => M.fail
  | n + 1 => match mk with
    | .fn f => cutM (runF C n f (o :: args))
    | .append => (M.of (locO o)).bind fun k => arg1 args fun v => (getO k).bind fun ob => (M.of (listO ob)).bind fun l => if l.length < 1000 then (setO k (some (.list (l ++ [v])))).bind fun _ => M.ret .none else M.fail
    | .get => (M.of (locO o)).bind fun k => arg2 args fun i d => intP i fun i => (getO k).bind fun ob => (M.of (dictIO ob)).bind fun es => M.ret ((findG es i).getD d)
noncomputable def callV (C : Cfg) (n : Nat) (f : PV) (args : List PV) : M PV := match n with
  | 0 => M.fail
  | n + 1 => match conO f with
    | Option.none => M.fail
    | some v => match v with
      | .builtin id => builtinP C.hd id args
      | .type id => typeP C.hd id args
      | .ref a => (match args with
        | [] => if C.hd then M.fail else (match C.inits a with
          | some i => (newO (.inst a [])).bind fun k => (runF C n i [.loc k]).bind fun v => if noneV v then M.ret (.loc k) else M.fail
          | Option.none => M.fail)
        | _ :: _ => cutM (runF C n a args))
      | _ => M.fail
noncomputable def runF (C : Cfg) (n : Nat) (f : Addr) (args : List PV) : M PV := match n with
  | 0 => M.fail
  | n + 1 => match C.fns f with
    | Option.none => M.fail
    | some fn => if fn.params.length = args.length then (execs C n fn.sc (fn.params.zip args).reverse fn.body).bind fun r => M.ret (retV r)
      else M.fail
noncomputable def assignT (C : Cfg) (n : Nat) (sc : Scope) (ρ : Locs) (t : PySem.Expr) (v : PV) : M Locs := match n with
  | 0 => M.fail
  | n + 1 => match t with
    | .Name x _ => if isVar sc x then M.ret ((x, v) :: ρ) else M.fail
    | .Subscript o i _ => (evalE C n sc ρ o).bind fun ov => (evalE C n sc ρ i).bind fun iv => (setI ov iv v).bind fun _ => M.ret ρ
    | .Attribute o x _ => (evalE C n sc ρ o).bind fun ov => (setA C ov x v).bind fun _ => M.ret ρ
    | .Tuple ts _ _ => if C.hd ∨ ts.all plainArg = false then M.fail else match tupO v with
      | some l => if l.length = ts.length then assignTs C n sc ρ ts l else M.fail
      | Option.none => M.fail
    | _ => M.fail
noncomputable def assignTs (C : Cfg) (n : Nat) (sc : Scope) (ρ : Locs) (ts : List PySem.Expr) (vs : List PV) : M Locs := match n with
  | 0 => M.fail
  | n + 1 => match ts with
    | [] => (match vs with
      | [] => M.ret ρ
      | _ :: _ => M.fail)
    | t :: ts => (match vs with
      | [] => M.fail
      | v :: vs => (assignT C n sc ρ t v).bind fun ρ => assignTs C n sc ρ ts vs)
noncomputable def exec (C : Cfg) (n : Nat) (sc : Scope) (ρ : Locs) (s : Stmt) : M (Fl × Locs) := match n with
  | 0 => M.fail
  | n + 1 => match s with
    | .Expr e _ => if isComp e then M.fail else (evalE C n sc ρ e).bind fun v => if oneV v then M.ret (.next, ρ) else M.fail
    | .Return v _ => (match v with
      | some e => (evalE C n sc ρ e).bind fun v => M.ret (.ret v, ρ)
      | Option.none => M.fail)
    | .Assign ts e _ => (match sole ts with
      | some t => (match swapW sc t e with
        | Option.none => M.fail
        | some sw => (match sw with
          | some names => if C.hd then M.fail else (evalE C n sc ρ e).bind fun v => (M.of (tupO v)).bind fun l => if l.length = names.length then M.ret (.next, names.zip l ++ ρ) else M.fail
          | Option.none => (evalE C n sc ρ e).bind fun v => (assignT C n sc ρ t v).bind fun ρ => M.ret (.next, ρ)))
      | Option.none => M.fail)
    | .If t b o _ => (evalT C n sc ρ t).bind fun c => match c with
      | true => execs C n sc ρ b
      | false => execs C n sc ρ o
    | .For t e body orelse _ => if C.hd = true ∨ orelse.isEmpty = false then M.fail else (evalE C n sc ρ e).bind fun v => onItems C.hd v fun l => loopF (β := Unit) (fun x ρ => (assignT C n sc ρ t x).bind fun ρ => execs C n sc ρ body) l ρ
    | .While t body orelse _ => if orelse.isEmpty = false then M.fail else noExc (whileF (fun ρ => evalT C n sc ρ t) (fun ρ => execs C n sc ρ body) (10 ^ 40) ρ)
    | .Raise e c _ => (match e with
      | some e => (match callV1 e with
        | some (f, args, kw) => if C.hd = true ∨ c.isSome = true ∨ plainArgs args = false ∨ kw.isEmpty = false ∨ (nameV f).isNone = true then M.fail else (evalE C n sc ρ f).bind fun fv => if limA C fv then ((evalEs C n sc ρ args).bind limV).bind fun _ => M.exc else M.fail
        | Option.none => M.fail)
      | Option.none => M.fail)
    | .Try b hs o f _ => if C.hd = true ∨ o.isEmpty = false ∨ f.isEmpty = false then M.fail else (match sole b with
      | some s => (match bodyV s with
        | some (y, e) => (match sole hs with
          | some h => (match handV h with
            | some (t, hb) => if isComp e then M.fail else tryRun (evalE C n sc ρ e) (fun v => if isVar sc y then M.ret (.next, (y, v) :: ρ) else M.fail)
                (noExc ((evalE { C with hd := true } n sc ρ t).bind fun fv => if limA C fv then execs { C with hd := true } n sc ρ hb else M.fail))
            | Option.none => M.fail)
          | Option.none => M.fail)
        | Option.none => M.fail)
      | Option.none => M.fail)
    | _ => M.fail
noncomputable def execs (C : Cfg) (n : Nat) (sc : Scope) (ρ : Locs) (ss : List Stmt) : M (Fl × Locs) := match n with
  | 0 => M.fail
  | n + 1 => match ss with
    | [] => M.ret (.next, ρ)
    | s :: r => (exec C n sc ρ s).bind fun f => match f.1 with
      | .next => execs C n sc f.2 r
      | .ret v => M.ret (.ret v, f.2)
end

noncomputable abbrev callF (C : Cfg) (n : Nat) (f : Addr) (args : List PV) : M PV := cutM (runF C n f args)
end Mine
end

section
namespace Mine
open PySem

noncomputable abbrev Map := Nat → Option (Addr × Addr)

structure Cf where
  μ : Map
  st : St
  h : Heap

noncomputable def Own (μ : Map) (st : St) (a : Addr) : Prop := ∃ k x, (st.objs k).isSome = true ∧ μ k = some x ∧ (a = x.1 ∨ a = x.2)

noncomputable def RngAt (h : Heap) (r : Addr) (a b : Int) : Prop := ∃ t u v, h.get? r = some { cls := .type "range", dict := Option.none, data := .fields #[.int a t, .int b u, .int 1 v], slots := #[] }

noncomputable def TupAt (h : Heap) (a : Addr) (vs : List Value) : Prop := h.IsTuple a vs.toArray ∧ ∀ o, h.get? a = some o → o.dict = Option.none

/-- a sequence's value -/
inductive RSeq (O : Addr → Prop) (T : Addr → List Value → Prop) (R : List Value → Prop) (v : Value) : Prop
  | mk (a : Addr) (vs : List Value) (e : v = .ref a) (t : T a vs) (n : ¬ O a) (r : R vs)
inductive RRng (O : Addr → Prop) (T : Addr → Prop) (v : Value) : Prop
  | mk (r : Addr) (e : v = .ref r) (t : T r) (n : ¬ O r)
inductive RTxt (n : Nat) (v : Value) : Prop
  | mk (s : Str) (t : Tok) (e : v = .str s t) (h : s.length ≤ n)
inductive RLoc (m : Option (Addr × Addr)) (v : Value) : Prop
  | mk (x : Addr × Addr) (h : m = some x) (e : v = .ref x.1)
inductive RCons (P : Value → Prop) (R : List Value → Prop) (vs : List Value) : Prop
  | mk (v : Value) (r : List Value) (e : vs = v :: r) (p : P v) (q : R r)
inductive GetV (P : Value → Prop) (o : Option Value) : Prop
  | mk (v : Value) (e : o = some v) (p : P v)
noncomputable abbrev LstAt (h : Heap) (a : Addr) (vs : List Value) : Prop := h.IsList a vs.toArray
mutual
noncomputable def Rel (h : Heap) (μ : Map) (O : Addr → Prop) : PV → Value → Prop
  | .none, v => v = .none
  | .bool b, v => v = .bool b
  | .int i, v => ∃ t, v = .int i t
  | .str s, v => ∃ t, v = .str s t
  | .txt n, v => RTxt n v
  | .tup l, v => RSeq O (TupAt h) (RelL h μ O l) v
  | .lst l, v => RSeq O (LstAt h) (RelL h μ O l) v
  | .rng a b, v => RRng O (fun r => RngAt h r a b) v
  | .loc k, v => RLoc (μ k) v
  | .con c, v => v = c
noncomputable def RelL (h : Heap) (μ : Map) (O : Addr → Prop) : List PV → List Value → Prop
  | [], vs => vs = []
  | p :: l, vs => RCons (Rel h μ O p) (RelL h μ O l) vs
end

theorem RelL.length {h : Heap} {μ : Map} {O : Addr → Prop} : ∀ {l : List PV} {vs : List Value}, RelL h μ O l vs → vs.length = l.length
  | [], _, e => congrArg List.length e
  | _ :: _, _, ⟨_, _, e, _, hr⟩ => (congrArg List.length e).trans (congrArg (· + 1) (RelL.length hr))

/-- what may turn beside the objects that the store owns -/
noncomputable def Scr (h : Heap) (X : Addr → Prop) : Prop := ∀ a, X a → ∀ o, h.get? a = some o → (∃ es n, o.data = .dict es n) ∨ (∃ v, o.data = .cell v) ∨ (o.cls ≠ .type "tuple" ∧ o.cls ≠ .type "list" ∧ o.cls ≠ .type "range")

structure Le (X : Addr → Prop) (c c' : Cf) : Prop where
  ext : ∀ k x, c.μ k = some x → c'.μ k = some x
  own : ∀ a, Own c'.μ c'.st a → Own c.μ c.st a ∨ c.h.objs.size ≤ a
  size : c.h.objs.size ≤ c'.h.objs.size
  step : ∀ a o, c.h.get? a = some o → ¬ Own c.μ c.st a → ¬ X a → ∃ sl, c'.h.get? a = some { o with slots := sl } ∧ ((∀ es n, o.data ≠ .dict es n) → sl = o.slots)

noncomputable def NoX : Addr → Prop := fun _ => False

theorem Le.refl (X : Addr → Prop) (c : Cf) : Le X c c := ⟨fun _ _ e => e, fun _ e => .inl e, Nat.le_refl _, fun a o e _ _ => ⟨o.slots, e, fun _ => rfl⟩⟩
theorem Le.weak {X Y : Addr → Prop} {c c' : Cf} (L : Le X c c') (hXY : ∀ a, X a → Y a) : Le Y c c' :=
  ⟨L.ext, L.own, L.size, fun a o e n y => L.step a o e n fun x => y (hXY a x)⟩
theorem Le.trans {X : Addr → Prop} {c₁ c₂ c₃ : Cf} (L : Le X c₁ c₂) (K : Le X c₂ c₃) : Le X c₁ c₃ := by
  refine ⟨fun k x e => K.ext k x (L.ext k x e), fun a e => ?_, Nat.le_trans L.size K.size, fun a o e n x => ?_⟩
  · rcases K.own a e with q | q
    · exact L.own a q
    · exact .inr (Nat.le_trans L.size q)
  · obtain ⟨sl, e', f'⟩ := L.step a o e n x
    obtain ⟨sl', e'', f''⟩ := K.step a _ e' (fun q => by
      rcases L.own a q with q | q
      · exact n q
      · exact absurd (Heap.lt_size e) (Nat.not_lt.mpr q)) x
    exact ⟨sl', e'', fun q => (f'' q).trans (f' q)⟩
/-- a call: what turns besides was made in the call -/
theorem Le.through {X : Addr → Prop} {c₁ c₂ c₃ : Cf} (L : Le NoX c₁ c₂) (hX : ∀ a, X a → c₁.h.objs.size ≤ a) (K : Le X c₂ c₃) : Le NoX c₁ c₃ := by
  refine ⟨fun k x e => K.ext k x (L.ext k x e), fun a e => ?_, Nat.le_trans L.size K.size, fun a o e n _ => ?_⟩
  · rcases K.own a e with q | q
    · exact L.own a q
    · exact .inr (Nat.le_trans L.size q)
  · obtain ⟨sl, e', f'⟩ := L.step a o e n (fun x => x)
    obtain ⟨sl', e'', f''⟩ := K.step a _ e' (fun q => by
      rcases L.own a q with q | q
      · exact n q
      · exact absurd (Heap.lt_size e) (Nat.not_lt.mpr q)) (fun x => absurd (Heap.lt_size e) (Nat.not_lt.mpr (hX a x)))
    exact ⟨sl', e'', fun q => (f'' q).trans (f' q)⟩

theorem notOwn_up {X : Addr → Prop} {c c' : Cf} (L : Le X c c') {a : Addr} {o : Obj} (e : c.h.get? a = some o) (n : ¬ Own c.μ c.st a) : ¬ Own c'.μ c'.st a := fun q => by
  rcases L.own a q with q | q
  · exact n q
  · exact absurd (Heap.lt_size e) (Nat.not_lt.mpr q)

theorem IsTuple.up {X : Addr → Prop} {c c' : Cf} (L : Le X c c') (hX : Scr c.h X) {a : Addr} {its : List Value} (x : TupAt c.h a its) (n : ¬ Own c.μ c.st a) : TupAt c'.h a its ∧ ¬ Own c'.μ c'.st a := by
  obtain ⟨⟨o, ho, hc, k, hd⟩, hdn⟩ := x
  have nx : ¬ X a := fun q => by
    rcases hX a q o ho with ⟨_, _, z⟩ | ⟨_, z⟩ | ⟨z1, z2, z3⟩
    · rw [hd] at z; cases z
    · rw [hd] at z; cases z
    · first | exact z1 hc | exact z2 hc
  obtain ⟨sl, e, _⟩ := L.step a o ho n nx
  exact ⟨⟨⟨_, e, hc, k, hd⟩, fun o' e' => by rw [e] at e'; cases e'; exact hdn o ho⟩, notOwn_up L ho n⟩
theorem IsList.up {X : Addr → Prop} {c c' : Cf} (L : Le X c c') (hX : Scr c.h X) {a : Addr} {its : Array Value} (x : c.h.IsList a its) (n : ¬ Own c.μ c.st a) : c'.h.IsList a its ∧ ¬ Own c'.μ c'.st a := by
  obtain ⟨o, ho, hc, k, hd⟩ := x
  have nx : ¬ X a := fun q => by
    rcases hX a q o ho with ⟨_, _, z⟩ | ⟨_, z⟩ | ⟨z1, z2, z3⟩
    · rw [hd] at z; cases z
    · rw [hd] at z; cases z
    · first | exact z1 hc | exact z2 hc
  obtain ⟨sl, e, _⟩ := L.step a o ho n nx
  exact ⟨⟨_, e, hc, k, hd⟩, notOwn_up L ho n⟩
theorem RngAt.up {X : Addr → Prop} {c c' : Cf} (L : Le X c c') (hX : Scr c.h X) {r : Addr} {a b : Int} (x : RngAt c.h r a b) (n : ¬ Own c.μ c.st r) : RngAt c'.h r a b ∧ ¬ Own c'.μ c'.st r := by
  obtain ⟨t, u, v, ho⟩ := x
  have nx : ¬ X r := fun q => by
    rcases hX r q _ ho with ⟨_, _, z⟩ | ⟨_, z⟩ | ⟨z1, z2, z3⟩
    · cases z
    · cases z
    · exact z3 rfl
  obtain ⟨sl, e, q⟩ := L.step r _ ho n nx
  rw [q (fun _ _ w => by cases w)] at e
  exact ⟨⟨t, u, v, e⟩, notOwn_up L ho n⟩

noncomputable abbrev RelC (c : Cf) : PV → Value → Prop := Rel c.h c.μ (Own c.μ c.st)
noncomputable abbrev RelLC (c : Cf) : List PV → List Value → Prop := RelL c.h c.μ (Own c.μ c.st)

mutual
theorem Rel.up {X : Addr → Prop} {c c' : Cf} (L : Le X c c') (hX : Scr c.h X) : ∀ (p : PV) (v : Value), RelC c p v → RelC c' p v
  | .none, _, e => e
  | .bool _, _, e => e
  | .int _, _, e => e
  | .str _, _, e => e
  | .txt _, _, e => e
  | .con _, _, e => e
  | .tup l, _, ⟨a, vs, hv, ht, n, hl⟩ => ⟨a, vs, hv, (IsTuple.up L hX ht n).1, (IsTuple.up L hX ht n).2, RelL.up L hX l vs hl⟩
  | .lst l, _, ⟨a, vs, hv, ht, n, hl⟩ => ⟨a, vs, hv, (IsList.up L hX ht n).1, (IsList.up L hX ht n).2, RelL.up L hX l vs hl⟩
  | .rng _ _, _, ⟨r, hv, ht, n⟩ => ⟨r, hv, (RngAt.up L hX ht n).1, (RngAt.up L hX ht n).2⟩
  | .loc k, _, ⟨x, hx, hv⟩ => ⟨x, L.ext k x hx, hv⟩
theorem RelL.up {X : Addr → Prop} {c c' : Cf} (L : Le X c c') (hX : Scr c.h X) : ∀ (l : List PV) (vs : List Value), RelLC c l vs → RelLC c' l vs
  | [], _, e => e
  | p :: l, _, ⟨v, r, hv, hp, hr⟩ => ⟨v, r, hv, Rel.up L hX p v hp, RelL.up L hX l r hr⟩
end

section
variable {h : Heap} {μ : Map} {O : Addr → Prop}
theorem Rel.none' {v : Value} (e : Rel h μ O .none v) : v = .none := e
theorem Rel.bool' {b : Bool} {v : Value} (e : Rel h μ O (.bool b) v) : v = .bool b := e
theorem Rel.int' {i : Int} {v : Value} (e : Rel h μ O (.int i) v) : ∃ t, v = .int i t := e
theorem Rel.str' {x : Str} {v : Value} (e : Rel h μ O (.str x) v) : ∃ t, v = .str x t := e
theorem Rel.txt' {n : Nat} {v : Value} (e : Rel h μ O (.txt n) v) : RTxt n v := e
theorem Rel.con' {w v : Value} (e : Rel h μ O (.con w) v) : v = w := e
theorem Rel.tup' {l : List PV} {v : Value} (e : Rel h μ O (.tup l) v) : RSeq O (TupAt h) (RelL h μ O l) v := e
theorem Rel.lst' {l : List PV} {v : Value} (e : Rel h μ O (.lst l) v) : RSeq O (LstAt h) (RelL h μ O l) v := e
theorem Rel.rng' {a b : Int} {v : Value} (e : Rel h μ O (.rng a b) v) : RRng O (fun r => RngAt h r a b) v := e
theorem Rel.loc' {k : Nat} {v : Value} (e : Rel h μ O (.loc k) v) : RLoc (μ k) v := e
theorem RelL.nil' {vs : List Value} (e : RelL h μ O [] vs) : vs = [] := e
theorem RelL.cons' {p : PV} {l : List PV} {vs : List Value} (e : RelL h μ O (p :: l) vs) : RCons (Rel h μ O p) (RelL h μ O l) vs := e
theorem Rel.mkTup {l : List PV} {a : Addr} {vs : List Value} (t : TupAt h a vs) (n : ¬ O a) (r : RelL h μ O l vs) : Rel h μ O (.tup l) (.ref a) := ⟨a, vs, rfl, t, n, r⟩
theorem Rel.mkLst {l : List PV} {a : Addr} {vs : List Value} (t : h.IsList a vs.toArray) (n : ¬ O a) (r : RelL h μ O l vs) : Rel h μ O (.lst l) (.ref a) := ⟨a, vs, rfl, t, n, r⟩
theorem Rel.mkLoc {k : Nat} {x : Addr × Addr} (e : μ k = some x) : Rel h μ O (.loc k) (.ref x.1) := ⟨x, e, rfl⟩
theorem Rel.mkTxt {n : Nat} {s : Str} {t : Tok} (e : s.length ≤ n) : Rel h μ O (.txt n) (.str s t) := ⟨s, t, rfl, e⟩
theorem Rel.mkRng {a b : Int} {r : Addr} (t : RngAt h r a b) (n : ¬ O r) : Rel h μ O (.rng a b) (.ref r) := ⟨r, rfl, t, n⟩
theorem RelL.mkNil : RelL h μ O [] [] := rfl
theorem RelL.mkCons {p : PV} {l : List PV} {v : Value} {r : List Value} (a : Rel h μ O p v) (b : RelL h μ O l r) : RelL h μ O (p :: l) (v :: r) := ⟨v, r, rfl, a, b⟩
end
end Mine
end

section
namespace Mine
open PySem

inductive All2 {α β : Type} (R : α → β → Prop) : List α → List β → Prop
  | nil : All2 R [] []
  | cons {a : α} {b : β} {l : List α} {m : List β} : R a b → All2 R l m → All2 R (a :: l) (b :: m)
theorem All2.length {α β : Type} {R : α → β → Prop} : ∀ {l : List α} {m : List β}, All2 R l m → l.length = m.length
  | _, _, .nil => rfl
  | _, _, .cons _ t => by simp [All2.length t]
theorem All2.mono {α β : Type} {R R' : α → β → Prop} (h : ∀ a b, R a b → R' a b) : ∀ {l : List α} {m : List β}, All2 R l m → All2 R' l m
  | _, _, .nil => .nil
  | _, _, .cons x t => .cons (h _ _ x) (t.mono h)

end Mine
end

section
namespace Mine
open PySem

/-- what the whole rests on -/
structure Setup where
  prog : Program
  w : World
  lim : Addr
  B : Heap


noncomputable def RelE (c : Cf) (e : Str × PV) (d : DictEntry) : Prop := (∃ t, d.key = .str e.1 t) ∧ RelC c e.2 d.val

section
variable (U : Setup)

inductive OList (c : Cf) (l : List PV) (x : Addr × Addr) : Prop
  | mk (vs : List Value) (h : c.h.IsList x.1 vs.toArray) (r : RelLC c l vs) (d : ∀ o, c.h.get? x.1 = some o → o.dict = Option.none)
inductive OZero (c : Cf) (x : Addr × Addr) : Prop
  | mk (o : Obj) (ep : Nat) (h : c.h.get? x.1 = some o) (e : o.ExactDict) (d : o.data = .dict #[] ep)
inductive ODict {prog : Program} {w : World} {K : Type} [DecidableEq K] (knd : KeyKind prog w K) (c : Cf) (es : List (K × PV)) (x : Addr × Addr) : Prop
  | mk (kvs : List (K × Value)) (h : c.h.DictOf knd x.1 kvs) (r : All2 (fun e k => e.1 = k.1 ∧ RelC c e.2 k.2) es kvs)
inductive OPair (c : Cf) (x : Addr × Addr) : Prop
  | mk (a b : Value) (h : c.h.get? x.1 = some { cls := .type "tuple", data := .seq #[a, b] })
inductive OInst (c : Cf) (C : Addr) (fs : List (Str × PV)) (x : Addr × Addr) : Prop
  | mk (o : Obj) (n : Nat) (es : List DictEntry) (h : c.h.get? x.1 = some o) (k : o.cls = .ref C) (d : o.dict = some x.2) (p : o.data = .plain) (ne : x.1 ≠ x.2) (g : c.h.get? x.2 = some (PySem.W.dictOf es n)) (r : All2 (RelE c) fs es)
noncomputable def ORel (c : Cf) : MO → Addr × Addr → Prop
  | .list l, x => OList c l x
  | .dict0, x => OZero c x
  | .dictI es, x => ODict (intKind U.prog U.w) c es x
  | .dictS es, x => ODict (strKind U.prog U.w) c es x
  | .pair, x => OPair c x
  | .inst C fs, x => OInst c C fs x

structure Good (c : Cf) : Prop where
  stays : U.B.StaysIn c.h
  objs : ∀ k o, c.st.objs k = some o → ∃ x, c.μ k = some x ∧ ORel U c o x ∧ (x.2 = x.1 ∨ ∃ C fs, o = .inst C fs)
  idsO : ∀ k, (c.st.objs k).isSome = true → k < c.st.next
  idsM : ∀ k, (c.μ k).isSome = true → k < c.st.next
  apart : ∀ k k' x x', (c.st.objs k).isSome = true → (c.st.objs k').isSome = true → c.μ k = some x → c.μ k' = some x' → k ≠ k' → x.1 ≠ x'.1 ∧ x.1 ≠ x'.2 ∧ x.2 ≠ x'.1 ∧ x.2 ≠ x'.2
  fresh : ∀ a, Own c.μ c.st a → U.B.get? a = none ∧ a < c.h.objs.size

/-- two states alike but for heap and tokens -/
noncomputable def Same (s s' : Shared) : Prop := s' = { s with heap := s'.heap, toks := s'.toks }
theorem Same.refl (s : Shared) : Same s s := rfl
theorem Same.trans {s₁ s₂ s₃ : Shared} (x : Same s₁ s₂) (y : Same s₂ s₃) : Same s₁ s₃ := by
  unfold Same at *; rw [y, x]
theorem Same.mk (s : Shared) (h : Heap) (t : Nat) : Same s { s with heap := h, toks := t } := rfl

inductive FrAt (c : Cf) (a : Addr) : Prop
  | mk (n1 : ¬ Own c.μ c.st a) (n2 : U.B.get? a = none) (o : Obj) (es : Array DictEntry) (n : Nat) (g : c.h.get? a = some o) (d : o.data = .dict es n)
theorem FrAt.n1' {U : Setup} {c : Cf} {a : Addr} (x : FrAt U c a) : ¬ Own c.μ c.st a := let ⟨h, _, _, _, _, _, _⟩ := x; h
theorem FrAt.n2' {U : Setup} {c : Cf} {a : Addr} (x : FrAt U c a) : U.B.get? a = none := let ⟨_, h, _, _, _, _, _⟩ := x; h
inductive FrAll (A : Around) (c : Cf) : Prop
  | mk (l : List Env) (h : A.frames = some l) (f : c.h.FunFrames {} l) (n : ∀ a ∈ l.filterMap (·.frame), FrAt U c a)
/-- the frames around are there -/
structure FramesIn (A : Around) (c : Cf) : Prop where
  all : FrAll U A c

/-- where an exception's record of its way stands -/
inductive Trk (h : Heap) (lo : Nat) (L e : Addr) (vs : Array Value) : Prop
  | no (h1 : vs[1]? = some .none)
  | yes (T : Addr) (oT : Obj) (ts : Array Value) (fl : Value) (h1 : vs[1]? = some (.ref T)) (ne : T ≠ e) (low : lo ≤ T) (g : h.get? T = some oT) (k : oT.cls = .type "traceback") (d : oT.data = .fields ts) (f : ts[3]? = some fl) (z : fl = .none ∨ fl = rawInt L)
theorem Trk.low' {h : Heap} {lo lo' : Nat} {L e : Addr} {vs : Array Value} (x : Trk h lo L e vs) (hl : lo' ≤ lo) : Trk h lo' L e vs := by
  cases x with
  | no h1 => exact .no h1
  | yes T oT ts fl h1 ne low g k d f z => exact .yes T oT ts fl h1 ne (Nat.le_trans hl low) g k d f z
/-- an exception of class `C` on its way, made since `lo`; `L` is the frame that it may fly in -/
inductive Exn (h : Heap) (lo : Nat) (C : Addr) (L : Addr) (e : Addr) : Prop
  | mk (low : lo ≤ e) (oe : Obj) (vs : Array Value) (g : h.get? e = some oe) (k : oe.cls = .ref C) (d : oe.data = .fields vs) (c : vs[2]? = some .none) (t : Trk h lo L e vs)
theorem Exn.low {h : Heap} {lo lo' : Nat} {C L e : Addr} (x : Exn h lo C L e) (hl : lo' ≤ lo) : Exn h lo' C L e :=
  let ⟨h1, oe, vs, g, k, d, cc, t⟩ := x
  ⟨Nat.le_trans hl h1, oe, vs, g, k, d, cc, t.low' hl⟩

/-- how the walk may leave a configuration -/
noncomputable def Ends (X : Addr → Prop) (c c' : Cf) : Prop := Le X c c' ∧ Good U c'

noncomputable def OkM {α β : Type} (A : Around) (X : Addr → Prop) (c : Cf) (t : Sem α) (m : M β) (P : Cf → β → α → Prop) (L : Addr) : Prop :=
  Good U c → ∀ s : Shared, s.heap = c.h → ∀ r st', m c.st = some (r, st') → ∀ (Q : α → Shared → Prop) (E : Value → Shared → Prop),
    (∀ b a c' s', r = .ok b → c'.st = st' → s'.heap = c'.h → Same s s' → Ends U X c c' → P c' b a → Q a s') →
    (∀ e c' s', r = .exc → c'.st = st' → s'.heap = c'.h → Same s s' → Ends U X c c' → Exn c'.h c.h.objs.size U.lim L e → FramesIn U A c' → E (.ref e) s') →
    wpAny (model U.prog U.w) A t Q E s

variable {U} {A : Around} {X : Addr → Prop} {c : Cf}

theorem bind_cases {α β : Type} {m : M α} {f : α → M β} {st st' : Mine.St} {r : R β} (h : m.bind f st = some (r, st')) : (m st = some (.exc, st') ∧ r = .exc) ∨ ∃ a st₁, m st = some (.ok a, st₁) ∧ f a st₁ = some (r, st') := by
  unfold M.bind at h
  cases hx : m st with
  | none => rw [hx] at h; cases h
  | some p =>
    obtain ⟨q, st₁⟩ := p
    rw [hx] at h
    cases q with
    | exc => cases h; exact .inl ⟨rfl, rfl⟩
    | ok a => exact .inr ⟨a, st₁, rfl, h⟩
theorem OkM.bind {α β γ δ : Type} {t : Sem α} {m : M γ} {k : α → Sem β} {f : γ → M δ} {P : Cf → γ → α → Prop} {P' : Cf → δ → β → Prop} {L : Addr}
    (h : OkM U A X c t m P L) (hk : ∀ c' b a, Le X c c' → Good U c' → P c' b a → OkM U A X c' (k a) (f b) P' L) : OkM U A X c (t >>= k) (m.bind f) P' L := by
  intro G s hs r st' hm
  rcases bind_cases hm with ⟨hx, rfl⟩ | ⟨b, st₁, hx, hm⟩
  · exact fun Q E hQ hE => wpAny_bind (h G s hs _ _ hx _ E (fun b a c' s' e => nomatch e) (fun e c' s' _ q1 q2 q3 q4 q5 q6 => hE e c' s' rfl q1 q2 q3 q4 q5 q6))
  · intro Q E hQ hE
    refine wpAny_bind (h G s hs _ _ hx _ E (fun b' a c' s' e q1 q2 q3 q4 q5 => ?_) (fun e c' s' q => nomatch q))
    cases e
    subst q1
    exact hk c' b a q4.1 q4.2 q5 q4.2 s' q2 r st' hm Q E (fun b' a' c'' s'' w1 w2 w3 w4 w5 w6 => hQ b' a' c'' s'' w1 w2 w3 (q3.trans w4) ⟨q4.1.trans w5.1, w5.2⟩ w6)
        (fun e c'' s'' w1 w2 w3 w4 w5 w6 w7 => hE e c'' s'' w1 w2 w3 (q3.trans w4) ⟨q4.1.trans w5.1, w5.2⟩ (w6.low q4.1.size) w7)

/-- a run that ends well, seen -/
theorem OkM.seen {α β : Type} {t : Sem α} {m : M β} {b : β} {st₁ : Mine.St} {P : Cf → β → α → Prop} {L : Addr} (e : m c.st = some (.ok b, st₁))
    (h : Good U c → ∀ s : Shared, s.heap = c.h → ∀ (Q : α → Shared → Prop) (E : Value → Shared → Prop), (∀ a c' s', c'.st = st₁ → s'.heap = c'.h → Same s s' → Ends U X c c' → P c' b a → Q a s') → wpAny (model U.prog U.w) A t Q E s) : OkM U A X c t m P L := by
  intro G s hs r st' hm
  rw [e] at hm
  cases hm
  exact fun Q E hQ _ => h G s hs Q E fun a c' s' => hQ b a c' s' rfl
theorem OkM.leafR {α β : Type} {t : Sem α} {b : β} {P : Cf → β → α → Prop} {L : Addr}
    (h : Good U c → ∀ s : Shared, s.heap = c.h → ∀ (Q : α → Shared → Prop) (E : Value → Shared → Prop), (∀ a c' s', c'.st = c.st → s'.heap = c'.h → Same s s' → Ends U X c c' → P c' b a → Q a s') → wpAny (model U.prog U.w) A t Q E s) : OkM U A X c t (M.ret b) P L := OkM.seen rfl h
theorem OkM.pure {α β : Type} {a : α} {b : β} {P : Cf → β → α → Prop} {L : Addr} (h : P c b a) : OkM U A X c (Pure.pure a) (M.ret b) P L :=
  OkM.leafR fun G s hs _ _ hQ => wpAny_pure (hQ a c s rfl hs (Same.refl s) ⟨Le.refl X c, G⟩ h)

theorem OkM.fail {α β : Type} {t : Sem α} {P : Cf → β → α → Prop} {L : Addr} : OkM U A X c t M.fail P L := fun _ _ _ _ _ hm => nomatch hm
theorem OkM.at {α β : Type} {t : Sem α} {m m' : M β} {P : Cf → β → α → Prop} {L : Addr} (e : m = m') (h : OkM U A X c t m' P L) : OkM U A X c t m P L := e ▸ h
theorem OkM.at2 {α β : Type} {t t' : Sem α} {m m' : M β} {P : Cf → β → α → Prop} {L : Addr} (e' : t = t') (e : m = m') (h : OkM U A X c t' m' P L) : OkM U A X c t m P L := e ▸ e' ▸ h
theorem OkM.failAt {α β : Type} {t : Sem α} {m : M β} {P : Cf → β → α → Prop} {L : Addr} (e : m = M.fail) : OkM U A X c t m P L := OkM.at e OkM.fail
theorem OkM.ite {α β : Type} {t : Sem α} {p : Prop} [Decidable p] {m m' : M β} {P : Cf → β → α → Prop} {L : Addr} (h1 : p → OkM U A X c t m P L) (h2 : ¬ p → OkM U A X c t m' P L) : OkM U A X c t (if p then m else m') P L := by
  by_cases h : p
  · rw [if_pos h]; exact h1 h
  · rw [if_neg h]; exact h2 h
theorem OkM.iteF {α β : Type} {t : Sem α} {p : Prop} [Decidable p] {m : M β} {P : Cf → β → α → Prop} {L : Addr} (h : ¬ p → OkM U A X c t m P L) : OkM U A X c t (if p then M.fail else m) P L := OkM.ite (fun _ => .fail) h
theorem OkM.iteT {α β : Type} {t : Sem α} {p : Prop} [Decidable p] {m : M β} {P : Cf → β → α → Prop} {L : Addr} (h : p → OkM U A X c t m P L) : OkM U A X c t (if p then m else M.fail) P L := OkM.ite h fun _ => .fail

theorem OkM.of_wp {α β : Type} {t t' : Sem α} {m : M β} {P : Cf → β → α → Prop} {L : Addr} (h : OkM U A X c t m P L)
    (hw : ∀ Q E s, wpAny (model U.prog U.w) A t Q E s → wpAny (model U.prog U.w) A t' Q E s) : OkM U A X c t' m P L :=
  fun G s hs r st' hm Q E hQ hE => hw _ _ _ (h G s hs r st' hm Q E hQ hE)

theorem OkM.of {α β : Type} {t : Sem α} {o : Option β} {P : Cf → β → α → Prop} {L : Addr} (h : ∀ b, o = some b → OkM U A X c t (M.ret b) P L) : OkM U A X c t (M.of o) P L :=
  match o, h with
  | .none, _ => .fail
  | .some b, h => h b rfl
theorem OkM.ofIte {α β : Type} {t : Sem α} {p : Prop} [Decidable p] {b : β} {P : Cf → β → α → Prop} {L : Addr} (h : p → OkM U A X c t (M.ret b) P L) : OkM U A X c t (M.of (if p then some b else Option.none)) P L := by
  by_cases q : p
  · rw [if_pos q]; exact h q
  · rw [if_neg q]; exact OkM.fail
theorem OkM.ofIteN {α β : Type} {t : Sem α} {p : Prop} [Decidable p] {b : β} {P : Cf → β → α → Prop} {L : Addr} (h : ¬ p → OkM U A X c t (M.ret b) P L) : OkM U A X c t (M.of (if p then Option.none else some b)) P L := by
  by_cases q : p
  · rw [if_pos q]; exact OkM.fail
  · rw [if_neg q]; exact h q
/-- a look at what is known -/
theorem OkM.ofB {α β γ : Type} {t : Sem α} {o : Option γ} {f : γ → M β} {P : Cf → β → α → Prop} {L : Addr} (h : ∀ b, o = some b → OkM U A X c t (f b) P L) : OkM U A X c t ((M.of o).bind f) P L :=
  match o, h with
  | .none, _ => .fail
  | .some b, h => h b rfl
theorem OkM.optM {α β γ : Type} {t : Sem α} {o : Option γ} {f : γ → M β} {m : M β} {P : Cf → β → α → Prop} {L : Addr} (h : ∀ b, o = some b → OkM U A X c t (f b) P L) (h' : o = Option.none → OkM U A X c t m P L) : OkM U A X c t (match o with | some b => f b | Option.none => m) P L :=
  match o, h, h' with
  | .none, _, h' => h' rfl
  | .some b, h, _ => h b rfl
theorem OkM.optF {α β γ : Type} {t : Sem α} {o : Option γ} {f : γ → M β} {P : Cf → β → α → Prop} {L : Addr} (h : ∀ b, o = some b → OkM U A X c t (f b) P L) : OkM U A X c t (match o with | Option.none => M.fail | some b => f b) P L :=
  match o, h with
  | .none, _ => .fail
  | .some b, h => h b rfl

theorem OkM.holding {α β : Type} {vs : List Value} {t : Sem α} {m : M β} {P : Cf → β → α → Prop} {L : Addr} (h : OkM U A X c t m P L) : OkM U A X c (PySem.holding vs t) m P L :=
  h.of_wp fun _ _ _ x => wpAny_holding x
theorem OkM.operate {β : Type} {vs : List Value} {t : Sem Value} {m : M β} {P : Cf → β → Value → Prop} {L : Addr} (h : OkM U A X c t m P L) : OkM U A X c (PySem.operate vs t) m P L :=
  h.of_wp fun _ _ _ x => wpAny_operateT x
theorem OkM.standAt {α β : Type} {pos : Pos} {t : Unit → Sem α} {m : M β} {P : Cf → β → α → Prop} {L : Addr} (h : OkM U A X c (t ()) m P L) : OkM U A X c (PySem.standAt pos >>= t) m P L :=
  h.of_wp fun _ _ _ x => wpAny_bind (wpAny_standAt x)

theorem OkM.mono {α β : Type} {t : Sem α} {m : M β} {P P' : Cf → β → α → Prop} {L : Addr} (h : OkM U A X c t m P L) (hP : ∀ c' b a, Le X c c' → Good U c' → P c' b a → P' c' b a) : OkM U A X c t m P' L :=
  fun G s hs r st' hm Q E hQ hE => h G s hs r st' hm Q E (fun b a c' s' w1 w2 w3 w4 w5 w6 => hQ b a c' s' w1 w2 w3 w4 w5 (hP _ _ _ w5.1 w5.2 w6)) hE

theorem OkM.weak {α β : Type} {Y : Addr → Prop} {t : Sem α} {m : M β} {P : Cf → β → α → Prop} {L : Addr} (h : OkM U A X c t m P L) (hXY : ∀ a, X a → Y a) : OkM U A Y c t m P L :=
  fun G s hs r st' hm Q E hQ hE => h G s hs r st' hm Q E (fun b a c' s' w1 w2 w3 w4 w5 w6 => hQ b a c' s' w1 w2 w3 w4 ⟨w5.1.weak hXY, w5.2⟩ w6) (fun e c' s' w1 w2 w3 w4 w5 w6 w7 => hE e c' s' w1 w2 w3 w4 ⟨w5.1.weak hXY, w5.2⟩ w6 w7)

/-- a step that draws tokens and touches nothing -/
theorem OkM.still {α β : Type} {t : Sem α} {b : β} {P : Cf → β → α → Prop} {L : Addr}
    (h : ∀ (s : Shared) (Q : α → Shared → Prop) E, s.heap = c.h → (∀ a tk, P c b a → Q a { s with toks := tk }) → wpAny (model U.prog U.w) A t Q E s) : OkM U A X c t (M.ret b) P L :=
  OkM.leafR fun G s hs Q E hQ => h s Q E hs fun a tk hp => hQ a c _ rfl hs (Same.mk s s.heap tk) ⟨Le.refl X c, G⟩ hp

theorem Rel.upN {c c' : Cf} (L : Le NoX c c') {p : PV} {v : Value} (h : RelC c p v) : RelC c' p v := Rel.up L (fun _ x => x.elim) p v h
theorem RelL.upN {c c' : Cf} (L : Le NoX c c') {p : List PV} {v : List Value} (h : RelLC c p v) : RelLC c' p v := RelL.up L (fun _ x => x.elim) p v h

end
end Mine
end

section
namespace Mine
open PySem

section
variable {U : Setup} {A : Around} {X : Addr → Prop} {c c' : Cf}

theorem ORel.up (L : Le X c c') (hX : Scr c.h X) {o : MO} {x : Addr × Addr} (e1 : c'.h.get? x.1 = c.h.get? x.1) (e2 : c'.h.get? x.2 = c.h.get? x.2) (h : ORel U c o x) : ORel U c' o x := by
  cases o with
  | list l =>
    obtain ⟨vs, ⟨o, ho, hc⟩, hl, hn⟩ := h
    exact ⟨vs, ⟨o, e1.trans ho, hc⟩, RelL.up L hX _ _ hl, fun o e => hn o (e1.symm.trans e)⟩
  | dict0 =>
    obtain ⟨o, ep, ho, h⟩ := h
    exact ⟨o, ep, e1.trans ho, h, ‹_›⟩
  | dictI es =>
    obtain ⟨kvs, ⟨o, es', ep, ho, h⟩, hl⟩ := h
    exact ⟨kvs, ⟨o, es', ep, e1.trans ho, h⟩, hl.mono fun _ _ q => ⟨q.1, Rel.up L hX _ _ q.2⟩⟩
  | dictS es =>
    obtain ⟨kvs, ⟨o, es', ep, ho, h⟩, hl⟩ := h
    exact ⟨kvs, ⟨o, es', ep, e1.trans ho, h⟩, hl.mono fun _ _ q => ⟨q.1, Rel.up L hX _ _ q.2⟩⟩
  | pair =>
    obtain ⟨a, b, h⟩ := h
    exact ⟨a, b, e1.trans h⟩
  | inst C fs =>
    obtain ⟨o, n, es, ho, h1, h2, h3, h4, hd, hl⟩ := h
    exact ⟨o, n, es, e1.trans ho, h1, h2, h3, h4, e2.trans hd, hl.mono fun _ _ q => ⟨q.1, Rel.up L hX _ _ q.2⟩⟩

theorem Own.of {c : Cf} {k : Nat} {o : MO} {x : Addr × Addr} (h : c.st.objs k = some o) (hm : c.μ k = some x) : Own c.μ c.st x.1 ∧ Own c.μ c.st x.2 :=
  ⟨⟨k, x, by rw [h]; rfl, hm, .inl rfl⟩, ⟨k, x, by rw [h]; rfl, hm, .inr rfl⟩⟩

/-- the heap turned beside the owned objects -/
theorem Good.turn {h : Heap} (G : Good U c) (L : Le X c { c with h := h }) (hX : Scr c.h X) (hB : U.B.StaysIn h) (hown : ∀ a, Own c.μ c.st a → h.get? a = c.h.get? a) : Good U { c with h := h } := by
  refine ⟨hB, fun k o hk => ?_, G.idsO, G.idsM, G.apart, fun a ha => ⟨(G.fresh a ha).1, Nat.lt_of_lt_of_le (G.fresh a ha).2 L.size⟩⟩
  obtain ⟨x, hx, ho, hi⟩ := G.objs k o hk
  exact ⟨x, hx, ho.up L hX (hown _ (Own.of hk hx).1) (hown _ (Own.of hk hx).2), hi⟩

/-- what a frame's variables are at -/
noncomputable def XOf (env : Env) (a : Addr) : Prop := a = env.locals ∨ ∃ n, env.cells.lookup n = some a

inductive NsAt (c : Cf) (env : Env) (ρ : Locs) : Prop
  | mk (m : Str → Option Value) (h : c.h.Ns env.locals m) (r : ∀ x pv, env.kindOf x = some .local → ρ.lookup x = some pv → GetV (RelC c pv) (m x))
inductive CellAt (c : Cf) (env : Env) (ρ : Locs) (x : Str) : Prop
  | mk (a : Addr) (v : Option Value) (e : env.cells.lookup x = some a) (h : c.h.IsCell a v) (r : ∀ pv, ρ.lookup x = some pv → GetV (RelC c pv) v)
/-- what is handled -/
inductive HandOf (c : Cf) (x : Value) : Prop
  | mk (a : Addr) (o : Obj) (ws : Array Value) (e : x = .ref a) (g : c.h.get? a = some o) (d : o.data = .fields ws) (z : ws[2]? = some .none) (n : ¬ Own c.μ c.st a)
noncomputable def HandIn (A : Around) (c : Cf) : Prop := ∀ e, A.handled = some e → HandOf c e
theorem HandOf.up {c c' : Cf} {x : Value} (H : HandOf c x) (L : Le NoX c c') : HandOf c' x := by
  obtain ⟨a, o, vs, h1, h2, h3, h4, h5⟩ := H
  obtain ⟨sl, h6, _⟩ := L.step a o h2 h5 (fun x => x)
  exact ⟨a, _, vs, h1, h6, h3, h4, notOwn_up L h2 h5⟩
theorem HandIn.up {c c' : Cf} (H : HandIn A c) (L : Le NoX c c') : HandIn A c' := fun e he => (H e he).up L
structure Fk (U : Setup) (hd : Bool) (A : Around) (env : Env) (ρ : Locs) (c : Cf) : Prop where
  kind : env.scope.kind = .function
  globals : env.globals = mainGlobals
  builtins : env.builtins = builtinsNs
  ns : NsAt c env ρ
  cell : ∀ x, env.kindOf x = some .cell → CellAt c env ρ x
  apart : env.cells.Pairwise fun x y => x.2 ≠ y.2
  off : ∀ n a, env.cells.lookup n = some a → a ≠ env.locals ∧ ∃ v, c.h.IsCell a v
  mine : ∀ a, XOf env a → ¬ Own c.μ c.st a ∧ U.B.get? a = none
  frames : FramesIn U A c
  hand : (hd = false → A.handled = none) ∧ HandIn A c

theorem NsUp {h h' : Heap} {a : Addr} {m : Str → Option Value} (x : h.Ns a m) (k : ∀ o, h.get? a = some o → ∃ sl, h'.get? a = some { o with slots := sl }) : h'.Ns a m := by
  obtain ⟨o, es, ep, ho, hd, r⟩ := x
  obtain ⟨sl, e⟩ := k o ho
  exact ⟨_, es, ep, e, hd, r⟩
theorem CellUp {h h' : Heap} {a : Addr} {v : Option Value} (x : h.IsCell a v) (k : ∀ o, h.get? a = some o → ∃ sl, h'.get? a = some { o with slots := sl }) : h'.IsCell a v := by
  obtain ⟨o, ho, hd⟩ := x
  obtain ⟨sl, e⟩ := k o ho
  exact ⟨_, e, hd⟩

theorem FramesIn.up (F : FramesIn U A c) (hX : ∀ a, X a → ∀ l, A.frames = some l → a ∉ l.filterMap (·.frame)) (L : Le X c c') : FramesIn U A c' := by
  obtain ⟨l, hl, hf, hn⟩ := F.all
  have key : ∀ l' : List Env, (∀ a ∈ l'.filterMap (·.frame), a ∈ l.filterMap (·.frame)) → c.h.FunFrames {} l' → c'.h.FunFrames {} l' := by
    intro l'
    induction l' with
    | nil => intro _ _; trivial
    | cons env rest ih =>
      rintro hm ⟨hk, ⟨La, o, hfr, hnn, ho, hd⟩, hr⟩
      have hLa : La ∈ l.filterMap (·.frame) := hm La (by rw [List.filterMap_cons, hfr]; exact List.mem_cons_self)
      obtain ⟨sl, e, _⟩ := L.step La o ho (hn La hLa).1 (fun q => hX La q l hl hLa)
      exact ⟨hk, ⟨La, _, hfr, hnn, e, hd⟩, ih (fun a ha => hm a (by rw [List.filterMap_cons, hfr]; exact List.mem_cons_of_mem _ ha)) hr⟩
  refine ⟨l, hl, key l (fun _ h => h) hf, fun a ha => ?_⟩
  obtain ⟨n1, n2, o, es, n, ho, hd⟩ := hn a ha
  obtain ⟨sl, e, _⟩ := L.step a o ho n1 (fun q => hX a q l hl ha)
  exact ⟨notOwn_up L ho n1, n2, _, es, n, e, hd⟩

theorem Fk.upN {hd : Bool} {env : Env} {ρ : Locs} (F : Fk U hd A env ρ c) (L : Le NoX c c') : Fk U hd A env ρ c' := by
  have st : ∀ a, XOf env a → ∀ o, c.h.get? a = some o → ∃ sl, c'.h.get? a = some { o with slots := sl } := fun a ha o ho => let ⟨sl, e, _⟩ := L.step a o ho (F.mine a ha).1 (fun x => x); ⟨sl, e⟩
  have inH : ∀ a, XOf env a → ∃ o, c.h.get? a = some o := fun a ha => by
    rcases ha with rfl | ⟨n, hn⟩
    · obtain ⟨m, ⟨o, _, _, ho, _⟩, _⟩ := F.ns; exact ⟨o, ho⟩
    · obtain ⟨_, v, o, ho, _⟩ := F.off n a hn; exact ⟨o, ho⟩
  refine ⟨F.kind, F.globals, F.builtins, ?_, ?_, F.apart, ?_, ?_, F.frames.up (fun _ x => x.elim) L, F.hand.1, HandIn.up F.hand.2 L⟩
  · obtain ⟨m, hn, hm⟩ := F.ns
    exact ⟨m, NsUp hn (st _ (.inl rfl)), fun x pv h1 h2 => let ⟨v, e, r⟩ := hm x pv h1 h2; ⟨v, e, r.upN L⟩⟩
  · intro x hx
    obtain ⟨a, v, h1, h2, h3⟩ := F.cell x hx
    exact ⟨a, v, h1, CellUp h2 (st _ (.inr ⟨x, h1⟩)), fun pv h => let ⟨u, e, r⟩ := h3 pv h; ⟨u, e, r.upN L⟩⟩
  · intro n a hn
    obtain ⟨h1, v, h2⟩ := F.off n a hn
    exact ⟨h1, v, CellUp h2 (st _ (.inr ⟨n, hn⟩))⟩
  · intro a ha
    obtain ⟨o, ho⟩ := inH a ha
    exact ⟨notOwn_up L ho (F.mine a ha).1, (F.mine a ha).2⟩
end
end Mine
end

section
namespace Mine
open PySem

section
variable {U : Setup} {M : Model} {A : Around} {E : Value → Shared → Prop} {s : Shared} {env : Env} {outer : List Env} {L e : Addr}

/-- all but `e` stay; frames may turn in their slots -/
noncomputable def Beside (l : List Env) (h h' : Heap) (e : Addr) : Prop :=
  h.objs.size ≤ h'.objs.size ∧ ∀ a o, a ≠ e → h.get? a = some o → (∃ sl, h'.get? a = some { o with slots := sl }) ∧ (a ∉ l.filterMap (·.frame) → h'.get? a = some o)

theorem entry_own {oe : Obj} {vs : Array Value} {head : Value} {hadNext : Bool} {Q : Unit → Shared → Prop}
    (hfr : A.frames = some (env :: outer)) (hl : s.heap.FunFrames {} (env :: outer)) (hf : env.frame = some L) (he : s.heap.get? e = some oe) (hd : oe.data = .fields vs) (hsz : 1 < vs.size)
    (h : ∀ h' T oT ts, T = s.heap.objs.size → Beside (env :: outer) s.heap h' e → h'.get? T = some oT → oT.cls = .type "traceback" → oT.data = .fields ts → ts[3]? = some (rawInt L) →
      h'.get? e = some (oe.mapFields (·.setIfInBounds 1 (.ref T))) → Q () { s with heap := h' }) :
    wpAny M A (do let a ← frameOf env; let pl ← entryPlaceOf L hadNext; let b ← EntryCells.newEntry head a .none (rawInt L) .none pl; setField (.ref e) 1 b) Q E s := by
  have hne : e ∉ (env :: outer).filterMap (·.frame) := fun hm => by
    obtain ⟨_, o, ho, hnf⟩ := hl.mem hm
    rw [he] at ho; cases ho; exact hnf vs hd
  refine wpAny_bind (wpAny_frameOf_fun hfr hl hf fun h₁ hs₁ => ?_)
  refine wpAny_bind (wpAny_entryPlaceOf fun pl hpl => ?_)
  unfold EntryCells.newEntry newFields
  refine wpAny_bind (wpAny_newObj_type ?_ (hpl.sizeOk5 _ _ _ _ _))
  generalize hts : ([head, .ref L, .none, rawInt L, .none] ++ (if pl.isEmpty then List.replicate 6 Value.none else pl)).toArray = ts
  have h3 : ts[3]? = some (rawInt L) := by rw [← hts]; simp
  have he₁ : h₁.get? e = some oe := (hs₁.2.1 e hne).trans he
  have he₂ := Heap.get?_push_of_some { cls := .type "traceback", dict := none, data := .fields ts } he₁
  refine wpAny_setField he₂ hd hsz ?_
  have hTe : h₁.objs.size ≠ e := Nat.ne_of_gt (Heap.lt_size he₁)
  refine h _ h₁.objs.size { cls := .type "traceback", dict := none, data := .fields ts } ts hs₁.1 ⟨?_, fun a o ha ho => ?_⟩ ?_ rfl rfl h3 ?_
  · show _ ≤ (Heap.update _ _ _).objs.size
    rw [Heap.size_after_update, Heap.size_push, hs₁.1]; exact Nat.le_succ _
  · obtain ⟨sl, hsl⟩ := hs₁.2.2 a o ho
    refine ⟨⟨sl, ?_⟩, fun hn => ?_⟩
    · rw [Heap.get?_update_other _ _ (Ne.symm ha)]; exact Heap.get?_push_of_some _ hsl
    · rw [Heap.get?_update_other _ _ (Ne.symm ha)]; exact Heap.get?_push_of_some _ ((hs₁.2.1 a hn).trans ho)
  · rw [Heap.get?_update_other _ _ (Ne.symm hTe)]; exact Heap.get?_push_size _ rfl
  · exact Heap.get?_update_self _ he₂ (Obj.isFreed_of_fields (Obj.data_mapFields hd _))

/-- a record of the way, made since `lo` -/
noncomputable def Mark (lo : Nat) (a : Addr) (o : Obj) : Prop := o.cls = .type "traceback" ∧ lo ≤ a ∧ ∃ ts, o.data = .fields ts

inductive StaX (lo : Nat) (C e : Addr) (h' : Heap) (fl : Value → Prop) : Prop
  | mk (low : lo ≤ e) (oe : Obj) (vs : Array Value) (T : Addr) (oT : Obj) (ts : Array Value) (f : Value) (g1 : h'.get? e = some oe) (g2 : oe.cls = .ref C) (g3 : oe.data = .fields vs) (g4 : vs[2]? = some .none) (g5 : vs[1]? = some (.ref T)) (g6 : T ≠ e) (g7 : lo ≤ T)
    (g8 : h'.get? T = some oT) (g9 : oT.cls = .type "traceback") (g10 : oT.data = .fields ts) (g11 : ts[3]? = some f) (g12 : fl f)
theorem StaX.low' {lo : Nat} {C e : Addr} {h' : Heap} {fl : Value → Prop} (x : StaX lo C e h' fl) : lo ≤ e := let ⟨h, _, _, _, _, _, _, _, _, _, _, _, _, _, _, _, _, _, _⟩ := x; h
/-- what an exception's stations leave -/
structure Sta (l : List Env) (lo : Nat) (C e : Addr) (h h' : Heap) (fl : Value → Prop) : Prop where
  size : h.objs.size ≤ h'.objs.size
  keep : ∀ a o, a ≠ e → ¬ Mark lo a o → h.get? a = some o → (∃ sl, h'.get? a = some { o with slots := sl }) ∧ (a ∉ l.filterMap (·.frame) → h'.get? a = some o)
  exn : StaX lo C e h' fl

theorem Sta.toExn {l : List Env} {lo : Nat} {C L' : Addr} {h h' : Heap} {fl : Value → Prop} (x : Sta l lo C e h h' fl) (hfl : ∀ f, fl f → f = .none ∨ f = rawInt L') : Exn h' lo C L' e := by
  obtain ⟨h1, oe, vs, T, oT, ts, f, g1, g2, g3, g4, g5, g6, g7, g8, g9, g10, g11, g12⟩ := x.exn
  exact ⟨h1, oe, vs, g1, g2, g3, g4, .yes T oT ts f g5 g6 g7 g8 g9 g10 g11 (hfl f g12)⟩

theorem sta_note {lo : Nat} {C : Addr} {Q : Unit → Shared → Prop} (hfr : A.frames = some (env :: outer)) (hl : s.heap.FunFrames {} (env :: outer)) (hf : env.frame = some L) (hx : Exn s.heap lo C L e) (hlo : lo ≤ s.heap.objs.size)
    (h : ∀ h', Sta (env :: outer) lo C e s.heap h' (· = rawInt L) → Q () { s with heap := h' }) : wpAny M A (noteFrame (.ref e) env) Q E s := by
  obtain ⟨h1, oe, vs, he, hc, hd, h2, h3⟩ := hx
  have hsz : 1 < vs.size := by
    have := (Array.getElem?_eq_some_iff.mp h2).1; omega
  have hmf : ∀ T : Addr, (oe.mapFields (·.setIfInBounds 1 (Value.ref T))).data = .fields (vs.setIfInBounds 1 (.ref T)) := fun T => Obj.data_mapFields hd _
  unfold noteFrame
  simp only [hf]
  rcases h3 with h3 | ⟨T, oT, ts, fl, h3, g1, g2, g3, gc, g4, g5, g6⟩
  · refine wpAny_bind (wpAny_field he hd h3 ?_)
    rw [if_neg (by decide)]
    refine entry_own hfr hl hf he hd hsz fun h' T oT ts hT hb w1 wc w2 w3 w4 => h h' ⟨hb.1, fun a o ha _ ho => hb.2 a o ha ho, ⟨h1, _, _, T, oT, ts, _, w4, (Obj.cls_mapFields _ _).trans hc, hmf T, ?_, ?_, ?_, ?_, w1, wc, w2, w3, rfl⟩⟩
    · rw [Array.getElem?_setIfInBounds_ne (by decide)]; exact h2
    · simp [hsz]
    · rw [hT]; exact Nat.ne_of_gt (Heap.lt_size he)
    · rw [hT]; exact hlo
  · refine wpAny_bind (wpAny_field he hd h3 ?_)
    rw [if_pos (show (Value.ref T != Value.none) = true from by simp)]
    refine wpAny_bind (wpAny_field g3 g4 g5 ?_)
    by_cases hq : (fl == rawInt L) = true
    · rw [if_pos hq]
      exact wpAny_pure (h s.heap ⟨Nat.le_refl _, fun a o _ _ ho => ⟨⟨o.slots, ho⟩, fun _ => ho⟩, h1, oe, vs, T, oT, ts, fl, he, hc, hd, h2, h3, g1, g2, g3, gc, g4, g5, eq_of_beq hq⟩)
    · rw [if_neg hq]
      refine wpAny_bind (wpAny_setField g3 g4 (Array.getElem?_eq_some_iff.mp g5).1 ?_)
      have other : ∀ b, b ≠ T → (s.heap.update T (Obj.mapFields (·.setIfInBounds 3 Value.none))).get? b = s.heap.get? b := fun b hb => Heap.get?_update_other _ _ (Ne.symm hb)
      have nT : ∀ a o, (∀ vs, o.data ≠ .fields vs) → s.heap.get? a = some o → a ≠ T := by
        rintro a o ha ho rfl
        rw [g3] at ho; cases ho; exact ha ts g4
      have hsz' : (s.heap.update T (Obj.mapFields (·.setIfInBounds 3 Value.none))).objs.size = s.heap.objs.size := Heap.size_after_update ..
      refine entry_own (s := { s with heap := s.heap.update T (Obj.mapFields (·.setIfInBounds 3 Value.none)) }) hfr (hl.of_keeps fun b o hb hn => ⟨o, (other b (nT b o hn hb)).trans hb, rfl⟩) hf ((other e (Ne.symm g1)).trans he) hd hsz
        fun h' T' oT' ts' hT' hb w1 wc w2 w3 w4 => h h' ⟨Nat.le_trans (Nat.le_of_eq hsz'.symm) hb.1, fun a o ha hm ho => hb.2 a o ha ((other a ?_).trans ho), ⟨h1, _, _, T', oT', ts', _, w4, (Obj.cls_mapFields _ _).trans hc, hmf T', ?_, ?_, ?_, ?_, w1, wc, w2, w3, rfl⟩⟩
      · rintro rfl
        rw [g3] at ho; cases ho
        exact hm ⟨gc, g2, ts, g4⟩
      · rw [Array.getElem?_setIfInBounds_ne (by decide)]; exact h2
      · simp [hsz]
      · rw [hT']; show (Heap.update _ _ _).objs.size ≠ _; rw [hsz']; exact Nat.ne_of_gt (Heap.lt_size he)
      · rw [hT']; show _ ≤ (Heap.update _ _ _).objs.size; rw [hsz']; exact hlo

/-- the flight's mark is set -/
theorem sta_flight {l : List Env} {lo : Nat} {C : Addr} {fr : Option Addr} {Q : Unit → Shared → Prop} {fl : Value → Prop} {h₀ : Heap} (hlo : lo ≤ h₀.objs.size) (hx : Sta l lo C e h₀ s.heap fl)
    (h : ∀ h', Sta l lo C e h₀ h' (· = fr.elim .none fun f => rawInt f) → Q () { s with heap := h' }) : wpAny M A (setFlight (.ref e) fr) Q E s := by
  obtain ⟨x1, x2, h1, oe, vs, T, oT, ts, f, g1, g2, g3, g4, g5, g6, g7, g8, gc, g9, g10, g11⟩ := hx
  have hsz3 : 3 < ts.size := (Array.getElem?_eq_some_iff.mp g10).1
  unfold setFlight
  refine wpAny_bind (wpAny_field g1 g3 g5 ?_)
  rw [if_pos (show (Value.ref T != Value.none) = true from by simp)]
  refine wpAny_setField g8 g9 hsz3 (h _ ?_)
  have other : ∀ b, b ≠ T → (s.heap.update T (Obj.mapFields (·.setIfInBounds 3 (fr.elim .none fun f => rawInt f)))).get? b = s.heap.get? b := fun b hb => Heap.get?_update_other _ _ (Ne.symm hb)
  refine ⟨Nat.le_trans x1 (Nat.le_of_eq (Heap.size_after_update ..).symm), fun a o ha hm ho => ?_, h1, oe, vs, T, _, _, _, (other e (Ne.symm g6)).trans g1, g2, g3, g4, g5, g6, g7,
    Heap.get?_update_self _ g8 (Obj.isFreed_of_fields (Obj.data_mapFields g9 _)), (Obj.cls_mapFields _ _).trans gc, Obj.data_mapFields g9 _, by simp [hsz3], rfl⟩
  have hne : a ≠ T := by
    rintro rfl
    obtain ⟨⟨sl, q⟩, _⟩ := x2 _ o ha hm ho
    rw [g8] at q; cases q
    exact hm ⟨gc, g7, ts, g9⟩
  obtain ⟨⟨sl, q⟩, q'⟩ := x2 a o ha hm ho
  exact ⟨⟨sl, (other a hne).trans q⟩, fun hn => (other a hne).trans (q' hn)⟩

theorem Sta.refl {l : List Env} {lo : Nat} {C : Addr} {h : Heap} (hx : Exn h lo C L e) (ht : ∀ oe vs, h.get? e = some oe → oe.data = .fields vs → vs[1]? ≠ some .none) : Sta l lo C e h h (fun f => f = .none ∨ f = rawInt L) := by
  obtain ⟨h1, oe, vs, g1, g2, g3, g4, g5⟩ := hx
  rcases g5 with g5 | ⟨T, oT, ts, fl, g5, g6, g7, g8, g9, g10, g11, g12⟩
  · exact absurd g5 (ht _ _ g1 g3)
  · exact ⟨Nat.le_refl _, fun a o _ _ ho => ⟨⟨o.slots, ho⟩, fun _ => ho⟩, h1, oe, vs, T, oT, ts, fl, g1, g2, g3, g4, g5, g6, g7, g8, g9, g10, g11, g12⟩

/-- what stands at an owned place -/
inductive KOb (c : Cf) (a : Addr) : Prop
  | mk (ob : Obj) (g : c.h.get? a = some ob) (k : ob.cls ≠ .type "traceback") (d : ∀ vs, ob.data ≠ .fields vs)
theorem KOb.seq {c : Cf} {a : Addr} {o : Obj} {vs : Array Value} {n : Nat} {T : String} (g : c.h.get? a = some o) (hc : o.cls = .type T) (hT : T ≠ "traceback") (hd : o.data = .seq vs n) : KOb c a :=
  ⟨o, g, by rw [hc]; intro q; injection q with q; exact hT q, fun vs => by rw [hd]; intro q; cases q⟩
theorem KOb.dict {c : Cf} {a : Addr} {o : Obj} {es : Array DictEntry} {n : Nat} (g : c.h.get? a = some o) (hc : o.cls = .type "dict") (hd : o.data = .dict es n) : KOb c a :=
  ⟨o, g, by rw [hc]; decide, fun vs => by rw [hd]; intro q; cases q⟩
theorem ORel.kind1 {c : Cf} {o : MO} {x : Addr × Addr} (h : ORel U c o x) : KOb c x.1 := by
  cases o with
  | list l => exact let ⟨vs, ⟨o, ho, hc, n, hd⟩, _, _⟩ := h; .seq ho hc (by decide) hd
  | dict0 => exact let ⟨o, ep, ho, hc, hd⟩ := h; .dict ho hc.1 hd
  | dictI es => exact let ⟨kvs, ⟨o, es', ep, ho, hc, hd, _⟩, _⟩ := h; .dict ho hc.1 hd
  | dictS es => exact let ⟨kvs, ⟨o, es', ep, ho, hc, hd, _⟩, _⟩ := h; .dict ho hc.1 hd
  | pair => exact let ⟨u, v, ho⟩ := h; .seq ho rfl (by decide) rfl
  | inst C fs => exact let ⟨o, n, es, ho, h1, h2, h3, h4, hd, hl⟩ := h; ⟨o, ho, by rw [h1]; simp, fun vs => by rw [h3]; simp⟩

theorem Good.own_kind {c : Cf} (G : Good U c) {a : Addr} (ha : Own c.μ c.st a) : KOb c a := by
  obtain ⟨k, y, hk, hy, hay⟩ := ha
  obtain ⟨o, ho⟩ := Option.isSome_iff_exists.mp hk
  obtain ⟨y', hy', hO, hi⟩ := G.objs k o ho
  rw [hy] at hy'; cases hy'
  rcases hay with rfl | rfl
  · exact hO.kind1
  · rcases hi with hi | ⟨C, fs, rfl⟩
    · rw [hi]; exact hO.kind1
    · exact let ⟨o, n, es, ho, h1, h2, h3, h4, hd, hl⟩ := hO; .dict hd rfl rfl

/-- what a configuration keeps at a station -/
theorem Sta.keeps {c c₀ : Cf} {X : Addr → Prop} {l : List Env} {C e : Addr} {h' : Heap} {fl : Value → Prop} (x : Sta l c₀.h.objs.size C e c.h h' fl) (hl : A.frames = some l) (F : FramesIn U A c) (D : Ends U X c₀ c) (G₀ : Good U c₀)
    (he : ∃ oe vs, c.h.get? e = some oe ∧ oe.cls = .ref C ∧ oe.data = .fields vs) : Ends U X c₀ { c with h := h' } ∧ FramesIn U A { c with h := h' } := by
  obtain ⟨l₀, hl₀, hf, hn⟩ := F.all
  rw [hl] at hl₀; cases hl₀
  obtain ⟨L₀, G⟩ := D
  obtain ⟨oe, vs, he, hce, hde⟩ := he
  have nE : ∀ a o, (∀ vs, o.data ≠ .fields vs) → c.h.get? a = some o → a ≠ e := by
    rintro a o ha ho rfl
    rw [he] at ho; cases ho; exact ha vs hde
  have own : ∀ a, Own c.μ c.st a → h'.get? a = c.h.get? a := by
    intro a ha
    have na : a ∉ l.filterMap (·.frame) := fun hm => (hn a hm).n1' ha
    obtain ⟨o, ho, hc, hd⟩ := G.own_kind ha
    rw [ho]
    exact (x.keep a o (nE a o hd ho) (fun m => hc m.1) ho).2 na
  have low : ∀ a o, a < c₀.h.objs.size → c.h.get? a = some o → (∃ sl, h'.get? a = some { o with slots := sl }) ∧ (a ∉ l.filterMap (·.frame) → h'.get? a = some o) := fun a o ha ho =>
    x.keep a o (Nat.ne_of_lt (Nat.lt_of_lt_of_le ha x.exn.low')) (fun m => absurd m.2.1 (Nat.not_le.mpr ha)) ho
  have L1 : Le X c₀ { c with h := h' } := ⟨L₀.ext, L₀.own, Nat.le_trans L₀.size x.size, fun a o ho n q => by
    obtain ⟨sl, e1, f1⟩ := L₀.step a o ho n q
    by_cases hda : ∀ es n, o.data ≠ .dict es n
    · have e2 := (low a _ (Heap.lt_size ho) e1).2 fun hm => by
        obtain ⟨_, _, o', es, n, ho', hd'⟩ := hn a hm
        rw [e1] at ho'; cases ho'; exact hda es n hd'
      exact ⟨sl, e2, f1⟩
    · obtain ⟨⟨sl', e2⟩, _⟩ := low a _ (Heap.lt_size ho) e1
      exact ⟨sl', e2, fun q => absurd q hda⟩⟩
  have fr : FramesIn U A { c with h := h' } := ⟨l, hl, hf.of_keeps fun b o hb hd => by
    obtain ⟨⟨sl, e1⟩, _⟩ := x.keep b o (nE b o hd hb) (fun m => hd _ m.2.2.choose_spec) hb
    exact ⟨_, e1, rfl⟩, fun a ha => by
      obtain ⟨n1, n2, o, es, n, ho, hd⟩ := hn a ha
      obtain ⟨⟨sl, e1⟩, _⟩ := x.keep a o (nE a o (fun vs q => by rw [hd] at q; cases q) ho) (fun m => by obtain ⟨_, q⟩ := m.2.2; rw [hd] at q; cases q) ho
      exact ⟨n1, n2, _, es, n, e1, hd⟩⟩
  refine ⟨⟨L1, G.turn (X := fun a => a = e ∨ ∃ o, c.h.get? a = some o ∧ Mark c₀.h.objs.size a o) ⟨fun _ _ q => q, fun _ q => .inl q, x.size, fun a o ho _ q => ?_⟩ ?_ ?_ own⟩, fr⟩
  · obtain ⟨⟨sl, e1⟩, e2⟩ := x.keep a o (fun w => q (.inl w)) (fun w => q (.inr ⟨o, ho, w⟩)) ho
    by_cases hda : ∀ es n, o.data ≠ .dict es n
    · exact ⟨o.slots, e2 fun hm => (by
        obtain ⟨_, _, o', es, n, ho', hd'⟩ := hn a hm
        rw [ho] at ho'; cases ho'; exact hda es n hd'), fun _ => rfl⟩
    · exact ⟨sl, e1, fun w => absurd w hda⟩
  · intro a ha o ho
    refine .inr (.inr ?_)
    rcases ha with rfl | ⟨o', ho', m⟩
    · rw [he] at ho; cases ho; rw [hce]; simp
    · rw [ho'] at ho; cases ho; rw [m.1]; simp
  · intro a o ho
    have := G₀.stays a o ho
    exact (low a o (Heap.lt_size this) (G.stays a o ho)).2 fun hm => by rw [(hn a hm).n2'] at ho; cases ho

end
end Mine
end

section
namespace Mine
open PySem PyProof PyProof.Rows

section
variable {U : Setup} {A : Around} {X : Addr → Prop} {c : Cf} {L : Addr}

noncomputable abbrev RelV : Cf → PV → Value → Prop := fun c p v => RelC c p v

theorem rel_int {c : Cf} {i : Int} {v : Value} (h : RelC c (.int i) v) : ∃ t, v = .int i t := h
theorem rel_bool {c : Cf} {b : Bool} {v : Value} (h : RelC c (.bool b) v) : v = .bool b := h
theorem rel_none {c : Cf} {v : Value} (h : RelC c .none v) : v = .none := h
theorem rel_str {c : Cf} {x : Str} {v : Value} (h : RelC c (.str x) v) : ∃ t, v = .str x t := h
theorem mkrel_int {c : Cf} {i : Int} {t : Tok} : RelC c (.int i) (.int i t) := ⟨t, rfl⟩
theorem mkrel_bool {c : Cf} {b : Bool} : RelC c (.bool b) (.bool b) := rfl
theorem mkrel_none {c : Cf} : RelC c .none .none := rfl
theorem mkrel_str {c : Cf} {x : Str} {t : Tok} : RelC c (.str x) (.str x t) := ⟨t, rfl⟩

theorem bigN_le : bigN ≤ 2 ^ (2 ^ 20) := by
  unfold bigN
  refine Nat.le_trans (Nat.pow_le_pow_left (show 10 ≤ 2 ^ 4 by omega) 5000) ?_
  rw [← Nat.pow_mul]
  exact Nat.pow_le_pow_right (by omega) (by omega)
theorem bits_ok {x : Int} (h : bitsOk x = true) : Builtin.Int.intBits x ≤ 2 ^ 20 := by
  simp only [bitsOk, decide_eq_true_eq] at h
  exact intBits_le (Nat.lt_of_lt_of_le h bigN_le)

theorem intO_of {a : PV} {i : Int} (h : intO a = some i) : a = .int i := by cases a <;> first | (cases h; done) | (cases h; rfl)
theorem strO_of {a : PV} {x : Str} (h : strO a = some x) : a = .str x := by cases a <;> first | (cases h; done) | (cases h; rfl)
theorem txtO_of {a : PV} {n : Nat} (h : txtO a = some n) : a = .txt n := by cases a <;> first | (cases h; done) | (cases h; rfl)
theorem locO_of {a : PV} {k : Nat} (h : locO a = some k) : a = .loc k := by cases a <;> first | (cases h; done) | (cases h; rfl)
theorem tupO_of {a : PV} {l : List PV} (h : tupO a = some l) : a = .tup l := by cases a <;> first | (cases h; done) | (cases h; rfl)
theorem lstV_of {a : PV} {l : List PV} (h : lstV a = some l) : a = .lst l := by cases a <;> first | (cases h; done) | (cases h; rfl)
theorem conO_of {a : PV} {w : Value} (h : conO a = some w) : a = .con w := by cases a <;> first | (cases h; done) | (cases h; rfl)
theorem listO_of {o : MO} {l : List PV} (h : listO o = some l) : o = .list l := by cases o <;> first | (cases h; done) | (cases h; rfl)
theorem instO_of {o : MO} {q : Addr × List (Str × PV)} (h : instO o = some q) : o = .inst q.1 q.2 := by cases o <;> first | (cases h; done) | (cases h; rfl)
/-- a number, for a step -/
theorem OkM.intP {α β : Type} {t : Sem α} {p : PV} {f : Int → M β} {P : Cf → β → α → Prop} (h : ∀ i, p = .int i → OkM U A X c t (f i) P L) : OkM U A X c t (Mine.intP p f) P L := by
  unfold Mine.intP
  cases e : intO p with
  | none => exact OkM.fail
  | some i => exact h i (intO_of e)

theorem leaf_binI (op : Operator) {x y : Int} {t t' : Tok} : OkM U A X c (binaryOp op (.int x t) (.int y t')) (M.of (binI op x y)) RelV L := by
  cases op with
  | Add => exact OkM.still fun s Q E hs hq => P.add_int (hq _ _ mkrel_int)
  | Sub => exact OkM.still fun s Q E hs hq => P.sub_int (hq _ _ mkrel_int)
  | Mult => exact OkM.at (m' := M.of (if (bitsOk x && bitsOk y) = true then some (.int (x * y)) else Option.none)) (by kernel_rfl) <| OkM.ofIte fun h => OkM.still fun s Q E hs hq => P.mul_int (hq _ _ mkrel_int) (IntMulOk.of_bits (bits_ok (Bool.and_eq_true_iff.mp h).1) (bits_ok (Bool.and_eq_true_iff.mp h).2))
  | FloorDiv => exact OkM.ofIteN fun h => OkM.still fun s Q E hs hq => floordiv_int (fun e => h (.inl e)) (hq _ _ mkrel_int) (.inl (noPylong_small (by omega)))
  | Mod => exact OkM.ofIteN fun h => OkM.still fun s Q E hs hq => mod_int' h (hq _ _ mkrel_int)
  | Pow =>
    refine OkM.ofIte fun h => ?_
    simp only [Bool.and_eq_true, Bool.or_eq_true, decide_eq_true_eq] at h
    exact OkM.still fun s Q E hs hq => pow_int_small h.1.2 (by omega) (by rcases h.1.1 with h | h <;> subst h <;> decide) (hq _ _ mkrel_int)
  | _ => exact OkM.fail

theorem leaf_truth {a : PV} {u : Value} (ha : RelC c a u) : OkM U A X c (truthy u) (M.of (truthP a)) (fun _ b v => v = b) L := by
  cases a with
  | bool b =>
    cases rel_bool ha
    exact OkM.still fun s Q E hs hq => wpAny_truthy_bool (by have := hq _ s.toks rfl; exact this)
  | int i =>
    obtain ⟨t, rfl⟩ := rel_int ha
    have e : (i != 0) = decide (i ≠ 0) := by by_cases h : i = 0 <;> simp [h]
    exact OkM.still fun s Q E hs hq => P.truthy_int (by have := hq _ s.toks rfl; rw [e]; exact this)
  | _ => exact OkM.fail

theorem leaf_un (op : UnaryOp) {a : PV} {u : Value} (ha : RelC c a u) : OkM U A X c (unaryOp op u) (M.of (unP op a)) RelV L := by
  unfold unP
  by_cases h : op = .USub
  · subst h
    rw [if_pos rfl]
    cases a with
    | int i =>
      obtain ⟨t, rfl⟩ := rel_int ha
      exact OkM.still fun s Q E hs hq => P.neg_int (hq _ _ mkrel_int)
    | _ => exact OkM.fail
  · rw [if_neg h]
    exact OkM.fail
end
end Mine
end

section
namespace Mine
open PySem
section
variable {C : Cfg} {n : Nat} {sc : Scope} {ρ : Locs}
theorem evalE_0 {e : Expr} : evalE C 0 sc ρ e = M.fail := by kernel_rfl
theorem evalE_Constant {k : Const} {kd : Nat} {pos : Pos} : evalE C (n + 1) sc ρ (.Constant k kd pos) = M.of (constP k) := by kernel_rfl
theorem evalE_Name {x : Str} {pos : Pos} : evalE C (n + 1) sc ρ (.Name x pos) = if x = S "__debug__" then M.fail else nameP C sc ρ x := by kernel_rfl
theorem evalE_BoolOp {op : BoolOp} {es : List Expr} {pos : Pos} : evalE C (n + 1) sc ρ (.BoolOp op es pos) = boolE C n sc ρ op es := by kernel_rfl
theorem evalE_BinOp {l r : Expr} {op : Operator} {pos : Pos} : evalE C (n + 1) sc ρ (.BinOp l op r pos) = (evalE C n sc ρ l).bind fun a => (evalE C n sc ρ r).bind fun b => M.of (binP op a b) := by kernel_rfl
theorem evalE_UnaryOp {x : Expr} {op : UnaryOp} {pos : Pos} : evalE C (n + 1) sc ρ (.UnaryOp op x pos) = (evalE C n sc ρ x).bind fun a => M.of (unP op a) := by kernel_rfl
theorem evalE_IfExp {t b o : Expr} {pos : Pos} : evalE C (n + 1) sc ρ (.IfExp t b o pos) = (evalT C n sc ρ t).bind fun c => match c with | true => evalE C n sc ρ b | false => evalE C n sc ρ o := by kernel_rfl
theorem evalE_Dict {ks : List (Option Expr)} {vs : List Expr} {pos : Pos} : evalE C (n + 1) sc ρ (.Dict ks vs pos) = if ks.isEmpty then (if vs.isEmpty then (newO .dict0).bind fun k => M.ret (.loc k) else M.fail) else noExc ((newO .dict0).bind fun k => (evalPairs C n sc ρ ks vs).bind fun ps => (getO k).bind fun o => if zeroO o then (M.of (dispO ps)).bind fun o' => (setO k (some o')).bind fun _ => M.ret (.loc k) else M.fail) := by kernel_rfl
theorem evalE_List {es : List Expr} {pos : Pos} : evalE C (n + 1) sc ρ (.List es pos) = if 1000 < es.length then M.fail else (evalEs C n sc ρ es).bind fun vs => match C.muta (.List es pos) with | true => (newO (.list vs)).bind fun k => M.ret (.loc k) | false => M.ret (.lst vs) := by kernel_rfl
theorem evalE_Tuple {es : List Expr} {k : Nat} {pos : Pos} : evalE C (n + 1) sc ρ (.Tuple es k pos) = if 1000 < es.length then M.fail else (evalEs C n sc ρ es).bind fun vs => M.ret (.tup vs) := by kernel_rfl
theorem evalE_ListComp {elt : Expr} {gens : List Comprehension} {sc' : Scope} {pos : Pos} : evalE C (n + 1) sc ρ (.ListComp elt gens sc' pos) = match sole gens with
      | Option.none => M.fail
      | some g => if compOk sc sc' g = false then M.fail else noExc ((srcE C n sc ρ g.target g.iter).bind fun src => (newO (.list [])).bind fun k =>
          (onSrc C.hd src fun ck fin => loopU ck fin fun x => Mine.compTurn C n (compScope sc sc') elt g (stripL sc' ρ) k x).bind fun _ =>
        match C.muta (.ListComp elt gens sc' pos) with
        | true => M.ret (.loc k)
        | false => takeO k) := by kernel_rfl
theorem evalE_Compare {l : Expr} {ops : List CmpOp} {rs : List Expr} {pos : Pos} : evalE C (n + 1) sc ρ (.Compare l ops rs pos) = match cmp1 ops rs with
      | some q => (evalE C n sc ρ l).bind fun a => (evalE C n sc ρ q.2).bind fun b => cmpP q.1 a b
      | Option.none => M.fail := by kernel_rfl
theorem evalE_Call {f : Expr} {args : List Expr} {kw : List Keyword} {pos : Pos} : evalE C (n + 1) sc ρ (.Call f args kw pos) = if kw.isEmpty = false ∨ plainArgs args = false then M.fail else match attrV f with
      | some (o, m, pos') => if plainBase o = false ∨ (pos'.endLine == pos.line) = false then M.fail else (evalE C n sc ρ o).bind fun ov => (methK C ov m).bind fun mk => (evalEs C n sc ρ args).bind fun vs => methApp C n ov mk vs
      | Option.none => (evalE C n sc ρ f).bind fun fv => (evalEs C n sc ρ args).bind fun vs => callV C n fv vs := by kernel_rfl
theorem evalE_Attribute {o : Expr} {x : Str} {pos : Pos} : evalE C (n + 1) sc ρ (.Attribute o x pos) = if plainBase o = false then M.fail else (evalE C n sc ρ o).bind fun ov => getA C ov x := by kernel_rfl
theorem evalE_Subscript {o i : Expr} {pos : Pos} : evalE C (n + 1) sc ρ (.Subscript o i pos) = match sliceV i with
      | some (lo, up, st) => (evalE C n sc ρ o).bind fun ov => ((evalO C n sc ρ lo).bind fun l => (evalO C n sc ρ up).bind fun u => (evalO C n sc ρ st).bind fun z => M.ret (l, u, z)).bind fun q => (M.of (lstV ov)).bind fun xs => if q.2.2 = some 0 ∨ 100000 < xs.length then M.fail else M.ret (.lst (sliceOf xs q.1 q.2.1 q.2.2))
      | Option.none => (evalE C n sc ρ o).bind fun ov => (evalE C n sc ρ i).bind fun iv => itemP ov iv := by kernel_rfl
theorem evalE_Joined {ps : List Expr} {pos : Pos} : evalE C (n + 1) sc ρ (.JoinedStr ps pos) = if ps.length < 2 ∨ 50 < ps.length then M.fail else joinE C n sc ρ ps := by kernel_rfl
theorem evalE_Set {e : List Expr} {k : Nat} {p : Pos} : evalE C n sc ρ (.Set e k p) = M.fail := by cases n <;> kernel_rfl
theorem evalE_Starred {e : Expr} {p : Pos} : evalE C n sc ρ (.Starred e p) = M.fail := by cases n <;> kernel_rfl
theorem evalO_none : evalO C (n + 1) sc ρ Option.none = M.ret Option.none := by kernel_rfl
theorem evalO_some {e : Expr} : evalO C (n + 1) sc ρ (some e) = (evalE C n sc ρ e).bind fun v => intP v fun i => M.ret (some i) := by kernel_rfl
theorem evalEs_nil : evalEs C (n + 1) sc ρ [] = M.ret [] := by kernel_rfl
theorem evalEs_cons {e : Expr} {r : List Expr} : evalEs C (n + 1) sc ρ (e :: r) = (evalE C n sc ρ e).bind fun v => (evalEs C n sc ρ r).bind fun vs => M.ret (v :: vs) := by kernel_rfl
theorem boolE_one {op : BoolOp} {e : Expr} : boolE C (n + 1) sc ρ op [e] = evalE C n sc ρ e := by kernel_rfl
theorem boolE_cons {op : BoolOp} {e e' : Expr} {r : List Expr} : boolE C (n + 1) sc ρ op (e :: e' :: r) = (evalE C n sc ρ e).bind fun v => (M.of (truthP v)).bind fun t => match op with
        | .And => ifB t (boolE C n sc ρ op (e' :: r)) (M.ret v)
        | .Or => ifB t (M.ret v) (boolE C n sc ρ op (e' :: r)) := by kernel_rfl
theorem allT_nil {op : BoolOp} : allT C (n + 1) sc ρ op [] = M.ret (op == .And) := by kernel_rfl
theorem allT_cons {op : BoolOp} {e : Expr} {r : List Expr} : allT C (n + 1) sc ρ op (e :: r) = (evalT C n sc ρ e).bind fun t => match op with
      | .And => ifB t (allT C n sc ρ op r) (M.ret false)
      | .Or => ifB t (M.ret true) (allT C n sc ρ op r) := by kernel_rfl
end
end Mine
end

section
namespace Mine
open PySem PyProof PyProof.Rows

noncomputable def Room (A : Around) (n : Nat) : Prop := A.depth + n ≤ 900 ∧ A.units + 20 * n ≤ 9000
theorem Room.down {A : Around} {n : Nat} (h : Room A (n + 1)) : Room A n := ⟨by have := h.1; omega, by have := h.2; omega⟩

inductive FnOkAt (B : Heap) (a : Addr) (fn : Fn) : Prop
  | mk (o : Obj) (fd : FuncData) (h : B.get? a = some o) (d : o.data = .func fd) (b : fd.body = .stmts fn.body) (sc : fd.scope = fn.sc) (cl : fd.closure = []) (gl : fd.globals = mainGlobals) (bu : fd.builtins = builtinsNs) (cr : B.CodeRec fd.code fd.qualname)
    (k : fn.sc.kind = .function) (co : fn.sc.isCoroutine = false) (ge : fn.sc.isGenerator = false) (bi : ∀ vals : List Value, vals.length = fn.params.length → bindArgs fd ⟨vals, []⟩ = pure (fn.params.zip vals))
    (ps : ∀ x ∈ fn.params, fn.sc.names.lookup x = some .local ∨ fn.sc.names.lookup x = some .cell)
inductive NamesOk (B : Heap) (C : Cfg) : Prop
  | mk (mg mb : Str → Option Value) (g : B.Ns mainGlobals mg) (b : B.Ns builtinsNs mb) (r : ∀ x pv, C.glob x = some pv → (∃ v, mg x = some v ∧ ∀ c, RelC c pv v) ∨ (mg x = none ∧ ∃ v, mb x = some v ∧ ∀ c, RelC c pv v))
inductive FragOk (B : Heap) (C : Cfg) : Prop
  | mk (K : W.Frag) (i : K.In B) (a : ∀ cl x, C.attr cl x = true → W.plainGet K cl x = true ∧ W.hasDictIn K cl = true ∧ ∃ a, W.findIn K (.ref cl) x = some a ∧ W.noGet K a = true)
    (f : ∀ a, (C.fns a).isSome = true ∨ (C.inits a).isSome = true → W.keepIn K (.ref a) = true)
    (m : ∀ cl m f, C.meth cl m = some f → (C.fns f).isSome = true ∧ W.plainGet K cl m = true ∧ W.findIn K (.ref cl) m = some (some (.ref f)) ∧ W.isFn K (.ref f) = true)
    (l1 : W.keepIn K (.ref C.lim) = true) (l2 : W.exmOne K (.ref C.lim) (.ref C.lim) = some true) (l3 : W.subIn K (.ref C.lim) (.type "BaseException") = some true)
    (s : ∀ cl x, C.attr cl x = true → W.findIn K (.ref cl) "__setattr__" = some (some (.builtin "object.__setattr__")) ∧ W.plainOver K cl = true ∧ W.takerIn K cl x = some none ∧ W.hasDictIn K cl = true)
    (n : ∀ a f, C.inits a = some f → W.makesIn K a = true ∧ W.findIn K (.ref a) "__init__" = some (some (.ref f)) ∧ W.typeIn K (.ref f) = some (.type "function"))
/-- what the names of the program stand for -/
structure Top (U : Setup) (C : Cfg) : Prop where
  lim : C.lim = U.lim
  names : NamesOk U.B C
  sys : (U.B.get? sysModules).isSome = true
  nolimit : U.B.NoLimit
  fns : ∀ a fn, C.fns a = some fn → FnOkAt U.B a fn
  frag : FragOk U.B C

section
variable {U : Setup} {C : Cfg} {A : Around} {X : Addr → Prop} {c : Cf} {L : Addr} {env : Env} {ρ : Locs} {n : Nat}

noncomputable def EvOk (U : Setup) (C : Cfg) (n : Nat) : Prop := ∀ A env ρ c e L, Room A n → Fk U C.hd A env ρ c → OkM U A NoX c (eval e env) (evalE C n env.scope ρ e) RelV L
noncomputable def TrOk (U : Setup) (C : Cfg) (n : Nat) : Prop := ∀ A env ρ c e L, Room A n → Fk U C.hd A env ρ c → OkM U A NoX c (isTrue e env (eval e env)) (evalT C n env.scope ρ e) (fun _ b v => v = b) L
noncomputable def AllOk (U : Setup) (C : Cfg) (n : Nat) : Prop := ∀ A env ρ c op es L, Room A n → Fk U C.hd A env ρ c → OkM U A NoX c (allTrue op es env) (allT C n env.scope ρ op es) (fun _ b v => v = b) L
noncomputable def BoOk (U : Setup) (C : Cfg) (n : Nat) : Prop := ∀ A env ρ c op es pos L, Room A n → Fk U C.hd A env ρ c → OkM U A NoX c (boolOp pos op (evalEach es env)) (boolE C n env.scope ρ op es) RelV L
noncomputable def EsOk (U : Setup) (C : Cfg) (n : Nat) : Prop := ∀ A env ρ c es pos L, Room A n → Fk U C.hd A env ρ c → OkM U A NoX c (spliced (backTo pos (starEach es env))) (evalEs C n env.scope ρ es) (fun c' ps vs => RelLC c' ps vs) L

theorem loadName_impl {x : Str} (hk : env.scope.kind = .function) (hx : env.scope.names.lookup x = some .globalImplicit) : loadName env x = loadGlobal env x := by
  unfold loadName
  simp only [Env.blockKind, hk, Env.kindOf, hx, ScopeKind.isAnnotationScope, Bool.false_and, Bool.false_eq_true, if_false]
theorem Fk.load (T : Top U C) (F : Fk U C.hd A env ρ c) (G : Good U c) {x : Str} : OkM U A NoX c (loadName env x) (nameP C env.scope ρ x) RelV L := by
  unfold nameP
  cases hk : env.scope.names.lookup x with
  | none => exact OkM.fail
  | some k =>
    cases k with
    | «local» =>
      refine OkM.of fun pv hpv => ?_
      obtain ⟨m, hn, hm⟩ := F.ns
      obtain ⟨v, h1, h2⟩ := hm x pv hk hpv
      exact OkM.still fun s Q E hs hq => wpAny_loadName_local F.kind hk (hs ▸ hn) h1 (hq v s.toks h2)
    | cell =>
      refine OkM.of fun pv hpv => ?_
      obtain ⟨a, v, h1, h2, h3⟩ := F.cell x hk
      obtain ⟨u, rfl, h4⟩ := h3 pv hpv
      exact OkM.still fun s Q E hs hq => wpAny_loadName_cell F.kind hk h1 (hs ▸ h2) (hq u s.toks h4)
    | globalImplicit =>
      refine OkM.of fun pv hpv => ?_
      obtain ⟨mg, mb, hg, hb, hx⟩ := T.names
      refine OkM.at2 (loadName_impl F.kind hk) rfl (OkM.still fun s Q E hs hq => ?_)
      have g1 : s.heap.Ns env.globals mg := by rw [F.globals, hs]; exact hg.keeps G.stays
      rcases hx x pv hpv with ⟨v, h1, h2⟩ | ⟨h0, v, h1, h2⟩
      · exact Calls.loadGlobal_global g1 h1 (hq v s.toks (h2 _))
      · exact Calls.loadGlobal_builtin g1 h0 (by rw [F.builtins, hs]; exact hb.keeps G.stays) h1 (hq v s.toks (h2 _))
    | _ => exact OkM.fail

theorem okGood {α β : Type} {t : Sem α} {m : M β} {P : Cf → β → α → Prop} (h : Good U c → OkM U A X c t m P L) : OkM U A X c t m P L := fun G => h G G

theorem ev_Name (T : Top U C) (F : Fk U C.hd A env ρ c) {x : Str} {pos : Pos} : OkM U A NoX c (eval (.Name x pos) env) (evalE C (n + 1) env.scope ρ (.Name x pos)) RelV L :=
  OkM.at evalE_Name (OkM.iteF fun hx => okGood fun G => (F.load T G).of_wp fun Q E s h => wpAny_Name h (beq_eq_false_iff_ne.mpr hx))

theorem ev_Constant {k : Const} {kd : Nat} {pos : Pos} : OkM U A NoX c (eval (.Constant k kd pos) env) (evalE C (n + 1) env.scope ρ (.Constant k kd pos)) RelV L := by
  refine OkM.at evalE_Constant ?_
  cases k with
  | none => exact OkM.still fun s Q E hs hq => wpAny_Constant_none (hq _ s.toks mkrel_none)
  | bool b => exact OkM.still fun s Q E hs hq => wpAny_Constant_bool (hq _ s.toks mkrel_bool)
  | int i => exact OkM.still fun s Q E hs hq => wpAny_Constant_int (hq _ _ mkrel_int)
  | str x => exact OkM.still fun s Q E hs hq => wpAny_Constant_str (hq _ _ mkrel_str)
  | _ => exact OkM.fail

theorem boolOp_cons {pos : Pos} {op : BoolOp} {t t' : Sem Value} {r : List (Sem Value)} : boolOp pos op (t :: t' :: r) = (do
    let v ← t
    standAt pos
    match op, ← holding [v] (truthy v) with
    | .And, false => pure v
    | .Or, true => pure v
    | _, _ => boolOp pos op (t' :: r)) := rfl
theorem bo_ok (hE : EvOk U C n) (hB : BoOk U C n) : BoOk U C (n + 1) := by
  intro A env ρ c op es pos L R F
  cases es with
  | nil => exact OkM.failAt (by kernel_rfl)
  | cons e r =>
    cases r with
    | nil => exact OkM.at boolE_one (hE _ _ _ _ _ _ R.down F)
    | cons e' r =>
      refine OkM.at2 boolOp_cons boolE_cons ((hE _ _ _ _ _ _ R.down F).bind fun c₁ pv v L₁ G₁ hv => OkM.standAt ?_)
      refine OkM.bind (P := fun _ b v => v = b) (OkM.holding (leaf_truth hv)) fun c₂ b t L₂ G₂ ht => ?_
      subst ht
      have key : OkM U A NoX c₂ (boolOp pos op (evalEach (e' :: r) env)) (boolE C n env.scope ρ op (e' :: r)) RelV L := hB _ _ _ _ _ _ _ _ R.down ((F.upN L₁).upN L₂)
      cases op <;> cases t
      · exact OkM.pure (hv.upN L₂)
      · exact key
      · exact key
      · exact OkM.pure (hv.upN L₂)

theorem ev_BoolOp (hB : BoOk U C n) (R : Room A (n + 1)) (F : Fk U C.hd A env ρ c) {op : BoolOp} {es : List Expr} {pos : Pos} : OkM U A NoX c (eval (.BoolOp op es pos) env) (evalE C (n + 1) env.scope ρ (.BoolOp op es pos)) RelV L :=
  OkM.at evalE_BoolOp (hB _ _ _ _ _ _ _ _ R.down F)

theorem eval_Unary {op : UnaryOp} {x : Expr} {pos : Pos} : eval (.UnaryOp op x pos) env = (do let v ← eval x env; standAt pos; holding [v] (unaryOp op v)) := rfl
theorem ev_UnaryOp (hE : EvOk U C n) (R : Room A (n + 1)) (F : Fk U C.hd A env ρ c) {op : UnaryOp} {x : Expr} {pos : Pos} : OkM U A NoX c (eval (.UnaryOp op x pos) env) (evalE C (n + 1) env.scope ρ (.UnaryOp op x pos)) RelV L :=
  OkM.at2 eval_Unary evalE_UnaryOp ((hE _ _ _ _ _ _ R.down F).bind fun c₁ pv v L₁ G₁ hv => OkM.standAt (OkM.holding (leaf_un _ hv)))

theorem eval_IfE {t b o : Expr} {pos : Pos} : eval (.IfExp t b o pos) env = (do if ← isTrue t env (eval t env) then eval b env else eval o env) := rfl
theorem ev_IfExp (hE : EvOk U C n) (hT : TrOk U C n) (R : Room A (n + 1)) (F : Fk U C.hd A env ρ c) {t b o : Expr} {pos : Pos} : OkM U A NoX c (eval (.IfExp t b o pos) env) (evalE C (n + 1) env.scope ρ (.IfExp t b o pos)) RelV L := by
  refine OkM.at2 eval_IfE evalE_IfExp ((hT _ _ _ _ _ _ R.down F).bind fun c₁ pv v L₁ G₁ hv => ?_)
  subst hv
  cases v
  · exact hE _ _ _ _ _ _ R.down (F.upN L₁)
  · exact hE _ _ _ _ _ _ R.down (F.upN L₁)

theorem starEach_cons {e : Expr} {r : List Expr} {pos : Pos} (h : starred e = false) : backTo pos (starEach (e :: r) env) = (false, eval e env) :: backTo pos (starEach r env) := by
  cases e <;> first | rfl | cases h
theorem spliced_cons {t : Sem Value} {l : List (Bool × Sem Value)} : spliced ((false, t) :: l) = (do let v ← t; return v :: (← holding [v] (spliced l))) := rfl
theorem starred_of {e : Expr} (h : starred e = true) : ∃ x p, e = .Starred x p := by
  cases e <;> first | (cases h; done) | exact ⟨_, _, rfl⟩
theorem es_ok (hE : EvOk U C n) (hS : EsOk U C n) : EsOk U C (n + 1) := by
  intro A env ρ c es pos L R F
  cases es with
  | nil => exact OkM.at evalEs_nil (OkM.pure RelL.mkNil)
  | cons e r =>
    refine OkM.at evalEs_cons ?_
    cases hst : starred e with
    | true =>
      obtain ⟨x, p, rfl⟩ := starred_of hst
      rw [evalE_Starred]; exact OkM.fail
    | false =>
      refine OkM.at2 ((congrArg spliced (starEach_cons hst)).trans spliced_cons) rfl ((hE _ _ _ _ _ _ R.down F).bind fun c₁ pv v L₁ G₁ hv => ?_)
      exact OkM.bind (OkM.holding (hS _ _ _ _ _ _ _ R.down (F.upN L₁))) fun c₂ ps vs L₂ G₂ hvs => OkM.pure (RelL.mkCons (hv.upN L₂) hvs)
end
end Mine
end

section
namespace Mine
open PySem
open Sem (wp)

/-- the heap never shrinks -/
noncomputable def hz (s : Shared) : Nat := s.heap.objs.size
theorem hz_gen (s : Shared) (g : Nat) (x) : hz (s.setGen g x) = hz s := rfl

theorem runs_hz {M : Model} {Γ : Ctx} {p : Pos} {t : Sem Fin} {fs : List Frame} {s s' : Shared} {e : End} (h : Runs M Γ p t fs s e s') : hz s ≤ hz s' := by
  induction h <;> (try simp only [hz, Shared.setGen, Heap.size_after_update, Heap.size_push] at *) <;> omega

theorem wakes_hz {M : Model} {Γ : Ctx} {p : Pos} {g : Nat} {r : Resume} {s s' : Shared} {res : GenResult} (h : Wakes M Γ p g r s res s') : hz s ≤ hz s' := by
  unfold Wakes at h
  split at h
  · exact h.elim
  · split at h
    · obtain ⟨e₁, s₁, hr, _, _, rfl⟩ := h; exact (runs_hz hr : hz (s.setGen g .running) ≤ hz s₁)
    · rw [h.2]; exact Nat.le_refl _
    · rw [h.2]; exact Nat.le_refl _
  · obtain ⟨e₁, s₁, hr, _, _, rfl⟩ := h; exact (runs_hz hr : hz (s.setGen g .running) ≤ hz s₁)
  · rw [h.2]; exact Nat.le_refl _
  · rw [h.2]; exact Nat.le_refl _

theorem wp_hz {α : Type} (M : Model) (Γ : Ctx) (n : Nat) (t : Sem α) : ∀ (Q : α → Pos → Shared → Prop) (E : Value → Pos → Shared → Prop) (p : Pos) (s : Shared), n ≤ hz s → wp M Γ t Q E p s →
    wp M Γ t (fun a p' s' => n ≤ hz s' ∧ Q a p' s') (fun e p' s' => n ≤ hz s' ∧ E e p' s') p s := by
  induction t with
  | pure a => intro Q E p s hn h; exact ⟨hn, h⟩
  | raise e => intro Q E p s hn h; exact ⟨hn, h⟩
  | unsupported _ => intro Q E p s _ h; exact h
  | finish _ => intro Q E p s _ h; exact h
  | rule _ k ih => intro Q E p s hn h; exact ih () Q E p s hn h
  | «at» p' k ih => intro Q E p s hn h; exact ih () Q E p' s hn h
  | load a _ k ih => intro Q E p s hn h; obtain ⟨o, ho, h⟩ := h; exact ⟨o, ho, ih o Q E p s hn h⟩
  | update a _ f k ih => intro Q E p s hn h; exact ⟨h.1, ih () Q E p _ (by show n ≤ (Heap.update _ _ _).objs.size; rw [Heap.size_after_update]; exact hn) h.2⟩
  | loadIfAlive a k ih => intro Q E p s hn h; exact ih _ Q E p s hn h
  | point _ k ih => intro Q E p s hn h; exact ih () Q E p s hn h
  | register _ _ => intro Q E p s _ h; exact h
  | alloc o k ih => intro Q E p s hn h; exact ih _ Q E p _ (by show n ≤ (Heap.push _ _).objs.size; rw [Heap.size_push]; exact Nat.le_succ_of_le hn) h
  | fresh k ih => intro Q E p s hn h; exact ih _ Q E p _ hn h
  | ask k ih => intro Q E p s hn h; exact ih _ Q E p s hn h
  | choose src m k ih => intro Q E p s hn h; exact ⟨h.1, ih _ Q E p _ hn h.2⟩
  | os q _ k ih => intro Q E p s hn h; exact ih _ Q E p _ hn h
  | call c hd _ _ k ih => intro Q E p s hn h; obtain ⟨r, s', hr, h⟩ := h; exact ⟨r, s', hr, ih r Q E p s' (Nat.le_trans hn (runs_hz hr)) h⟩
  | handled own k ih => intro Q E p s hn h; exact ih _ Q E p s hn h
  | genState g k ih => intro Q E p s hn h; obtain ⟨st, hs, h⟩ := h; exact ⟨st, hs, ih _ Q E p s hn h⟩
  | newGen c k ih => intro Q E p s hn h; exact ih _ Q E p _ hn h
  | resume g r _ k ih => intro Q E p s hn h; obtain ⟨res, s', hw, h⟩ := h; exact ⟨res, s', hw, ih res Q E p s' (Nat.le_trans hn (wakes_hz hw)) h⟩
  | yield _ _ _ _ => intro Q E p s _ h; exact h
  | stack k ih => intro Q E p s hn h; exact ih _ Q E p s hn h
  | fork _ _ => intro Q E p s _ h; exact h
  | thread k ih => intro Q E p s hn h; exact ih _ Q E p s hn h
  | await _ _ _ _ _ => intro Q E p s _ h; exact h

theorem with_hz {α : Type} {M : Model} {A : Around} {s : Shared} {t : Sem α} {Q : α → Shared → Prop} {E : Value → Shared → Prop}
    (h : wpAny M A t (fun a s' => s.heap.objs.size ≤ s'.heap.objs.size → Q a s') (fun e s' => s.heap.objs.size ≤ s'.heap.objs.size → E e s') s) : wpAny M A t Q E s :=
  fun Γ p hΓ => Sem.wp_mono M Γ t (fun _ _ _ x => x.2 x.1) (fun _ _ _ x => x.2 x.1) p s (wp_hz M Γ _ t _ _ p s (Nat.le_refl _) (h Γ p hΓ))
end Mine
end

section
namespace Mine
open PySem PyProof PyProof.Rows

section
variable {U : Setup} {C : Cfg} {A : Around} {X : Addr → Prop} {c : Cf} {L : Addr} {env : Env} {ρ : Locs} {n : Nat}

/-- the heap grew -/
theorem Le.grow {h : Heap} (hk : ∀ b o, c.h.get? b = some o → h.get? b = some o) (hs : c.h.objs.size ≤ h.objs.size) : Le X c { c with h := h } :=
  ⟨fun _ _ e => e, fun _ e => .inl e, hs, fun a o e _ _ => ⟨o.slots, hk a o e, fun _ => rfl⟩⟩
theorem Good.grow (G : Good U c) {h : Heap} (hk : ∀ b o, c.h.get? b = some o → h.get? b = some o) (hs : c.h.objs.size ≤ h.objs.size) : Good U { c with h := h } := by
  refine G.turn (X := NoX) (Le.grow hk hs) (fun _ x => x.elim) (fun b o e => hk b o (G.stays b o e)) fun a ha => ?_
  obtain ⟨o, ho, _⟩ := G.own_kind ha
  rw [ho]; exact hk a o ho

theorem OkM.grow {α β : Type} {t : Sem α} {b : β} {P : Cf → β → α → Prop}
    (h : Good U c → ∀ (s : Shared) (Q : α → Shared → Prop) E, s.heap = c.h → (∀ a h' tk, (∀ b o, c.h.get? b = some o → h'.get? b = some o) → (c.h.objs.size ≤ h'.objs.size → P { c with h := h' } b a) → Q a { s with heap := h', toks := tk }) → wpAny (model U.prog U.w) A t Q E s) :
    OkM U A X c t (M.ret b) P L :=
  OkM.leafR fun G s hs Q E hQ => with_hz (h G s _ _ hs fun a h' tk hk hp hz =>
    have hz : c.h.objs.size ≤ h'.objs.size := hs ▸ hz
    hQ a { c with h := h' } _ rfl rfl (Same.mk s h' tk) ⟨Le.grow hk hz, G.grow hk hz⟩ (hp hz))

theorem notOwn_new (G : Good U c) : ¬ Own c.μ c.st c.h.objs.size := fun h => Nat.lt_irrefl _ (G.fresh _ h).2

theorem push_keep {s : Shared} (hs : s.heap = c.h) (ob : Obj) : ∀ b o, c.h.get? b = some o → (s.heap.push ob).get? b = some o := fun b o e => by rw [hs]; exact Heap.get?_push_of_some _ e
theorem sz_line {vs : List Value} (h : vs.length ≤ 100000) : vs.toArray.size ≤ sizeLine := by rw [sizeLine_eq, List.size_toArray]; omega
theorem notOwn_at (G : Good U c) {s : Shared} (hs : s.heap = c.h) : ¬ Own c.μ c.st s.heap.objs.size := by rw [hs]; exact notOwn_new G
theorem ok_newTuple {ps : List PV} {vs : List Value} (h : RelLC c ps vs) (hl : vs.length ≤ 100000) : OkM U A NoX c (newTuple vs) (M.ret (.tup ps)) RelV L :=
  OkM.grow fun G s Q E hs hq => wpAny_newObj_type (hq _ _ s.toks (push_keep hs _) fun hz =>
    Rel.mkTup ⟨⟨_, Heap.get?_push_size _ rfl, rfl, _, rfl⟩, fun o e => by rw [Heap.get?_push_size _ rfl] at e; cases e; rfl⟩ (notOwn_at G hs) (h.upN (Le.grow (push_keep hs _) hz))) (sz_line hl)

theorem ok_newFrozen {ps : List PV} {vs : List Value} (h : RelLC c ps vs) (hl : vs.length ≤ 100000) : OkM U A NoX c (newList vs) (M.ret (.lst ps)) RelV L :=
  OkM.grow fun G s Q E hs hq => wpAny_newObj_type (hq _ _ s.toks (push_keep hs _) fun hz =>
    Rel.mkLst ⟨_, Heap.get?_push_size _ rfl, rfl, _, rfl⟩ (notOwn_at G hs) (h.upN (Le.grow (push_keep hs _) hz))) (sz_line hl)

/-- a new object of the store, at a new place -/
noncomputable def Cf.add (c : Cf) (o : MO) (h : Heap) (x : Addr × Addr) : Cf :=
  ⟨fun k => if k = c.st.next then some x else c.μ k, { objs := fun j => if j = c.st.next then some o else c.st.objs j, next := c.st.next + 1 }, h⟩

theorem Cf.add_loc {o : MO} {h : Heap} {a b : Addr} : RelC (c.add o h (a, b)) (.loc c.st.next) (.ref a) := ⟨(a, b), if_pos rfl, rfl⟩
theorem Cf.add_le (G : Good U c) {o : MO} {h : Heap} {x : Addr × Addr} (hk : ∀ b ob, c.h.get? b = some ob → h.get? b = some ob) (hs : c.h.objs.size ≤ h.objs.size) (h1 : c.h.objs.size ≤ x.1) (h2 : c.h.objs.size ≤ x.2) :
    Le NoX c (c.add o h x) := by
  refine ⟨fun k y e => ?_, fun a ha => ?_, hs, fun a ob e _ _ => ⟨ob.slots, hk a ob e, fun _ => rfl⟩⟩
  · have := G.idsM k (by rw [e]; rfl)
    simp only [Cf.add]
    rw [if_neg (by omega)]; exact e
  · obtain ⟨k, y, h3, h4, h5⟩ := ha
    simp only [Cf.add] at h3 h4
    by_cases hkn : k = c.st.next
    · rw [if_pos hkn] at h4
      cases h4
      rcases h5 with rfl | rfl
      · exact .inr h1
      · exact .inr h2
    · rw [if_neg hkn] at h3 h4
      exact .inl ⟨k, y, h3, h4, h5⟩

theorem Cf.add_good (G : Good U c) {o : MO} {h : Heap} {x : Addr × Addr} (hk : ∀ b ob, c.h.get? b = some ob → h.get? b = some ob) (hs : c.h.objs.size ≤ h.objs.size) (h1 : c.h.objs.size ≤ x.1) (h2 : c.h.objs.size ≤ x.2)
    (h1' : x.1 < h.objs.size) (h2' : x.2 < h.objs.size) (ho : ORel U (c.add o h x) o x) (hi : x.2 = x.1 ∨ ∃ C fs, o = .inst C fs) : Good U (c.add o h x) := by
  have L := Cf.add_le G (o := o) hk hs h1 h2
  have old : ∀ k, k ≠ c.st.next → (c.add o h x).st.objs k = c.st.objs k ∧ (c.add o h x).μ k = c.μ k := fun k hk => ⟨by simp only [Cf.add]; rw [if_neg hk], by simp only [Cf.add]; rw [if_neg hk]⟩
  have lo : ∀ k y, (c.st.objs k).isSome = true → c.μ k = some y → y.1 < c.h.objs.size ∧ y.2 < c.h.objs.size := fun k y a b =>
    ⟨(G.fresh y.1 ⟨k, y, a, b, .inl rfl⟩).2, (G.fresh y.2 ⟨k, y, a, b, .inr rfl⟩).2⟩
  refine ⟨fun b ob e => hk b ob (G.stays b ob e), fun k ob hob => ?_, fun k hob => ?_, fun k hob => ?_, fun k k' y y' a b hy hy' hne => ?_, fun a ha => ?_⟩
  · by_cases hkn : k = c.st.next
    · subst hkn
      simp only [Cf.add, if_true] at hob
      cases hob
      exact ⟨x, by simp [Cf.add], ho, hi⟩
    · rw [(old k hkn).1] at hob
      obtain ⟨y, hy, hO, hI⟩ := G.objs k ob hob
      refine ⟨y, (old k hkn).2.trans hy, hO.up L (fun _ q => q.elim) ?_ ?_, hI⟩
      · obtain ⟨o', e, _⟩ := G.own_kind (Own.of hob hy).1
        rw [e]; exact hk _ _ e
      · obtain ⟨o', e, _⟩ := G.own_kind (Own.of hob hy).2
        rw [e]; exact hk _ _ e
  · by_cases hkn : k = c.st.next
    · subst hkn; exact Nat.lt_succ_self _
    · rw [(old k hkn).1] at hob
      exact Nat.lt_succ_of_lt (G.idsO k hob)
  · by_cases hkn : k = c.st.next
    · subst hkn; exact Nat.lt_succ_self _
    · rw [(old k hkn).2] at hob
      exact Nat.lt_succ_of_lt (G.idsM k hob)
  · by_cases hkn : k = c.st.next <;> by_cases hkn' : k' = c.st.next
    · exact absurd (hkn.trans hkn'.symm) hne
    · subst hkn
      simp only [Cf.add, if_true] at hy; cases hy
      rw [(old k' hkn').1] at b; rw [(old k' hkn').2] at hy'
      have q := lo k' y' b hy'
      exact ⟨Nat.ne_of_gt (Nat.lt_of_lt_of_le q.1 h1), Nat.ne_of_gt (Nat.lt_of_lt_of_le q.2 h1), Nat.ne_of_gt (Nat.lt_of_lt_of_le q.1 h2), Nat.ne_of_gt (Nat.lt_of_lt_of_le q.2 h2)⟩
    · subst hkn'
      simp only [Cf.add, if_true] at hy'; cases hy'
      rw [(old k hkn).1] at a; rw [(old k hkn).2] at hy
      have q := lo k y a hy
      exact ⟨Nat.ne_of_lt (Nat.lt_of_lt_of_le q.1 h1), Nat.ne_of_lt (Nat.lt_of_lt_of_le q.1 h2), Nat.ne_of_lt (Nat.lt_of_lt_of_le q.2 h1), Nat.ne_of_lt (Nat.lt_of_lt_of_le q.2 h2)⟩
    · rw [(old k hkn).1] at a; rw [(old k hkn).2] at hy
      rw [(old k' hkn').1] at b; rw [(old k' hkn').2] at hy'
      exact G.apart k k' y y' a b hy hy' hne
  · rcases L.own a ha with q | q
    · exact ⟨(G.fresh a q).1, Nat.lt_of_lt_of_le (G.fresh a q).2 hs⟩
    · refine ⟨?_, ?_⟩
      · cases e : U.B.get? a with
        | none => rfl
        | some ob => exact absurd (Heap.lt_size (G.stays a ob e)) (Nat.not_lt.mpr q)
      · obtain ⟨k, y, h3, h4, h5⟩ := ha
        by_cases hkn : k = c.st.next
        · subst hkn
          simp only [Cf.add, if_true] at h4; cases h4
          rcases h5 with rfl | rfl
          · exact h1'
          · exact h2'
        · rw [(old k hkn).1] at h3; rw [(old k hkn).2] at h4
          have := lo k y h3 h4
          show a < h.objs.size
          rcases h5 with rfl | rfl
          · exact Nat.lt_of_lt_of_le this.1 hs
          · exact Nat.lt_of_lt_of_le this.2 hs
end
end Mine
end

section
namespace Mine
open PySem PyProof PyProof.Rows

section
variable {U : Setup} {C : Cfg} {A : Around} {X : Addr → Prop} {c : Cf} {L : Addr} {env : Env} {ρ : Locs} {n : Nat}

mutual
theorem Rel.loose {h : Heap} {μ : Map} {O : Addr → Prop} : ∀ (p : PV) (v : Value), Rel h μ O p v → Rel h μ NoX p v
  | .none, _, e => e
  | .bool _, _, e => e
  | .int _, _, e => e
  | .str _, _, e => e
  | .txt _, _, e => e
  | .con _, _, e => e
  | .tup l, _, ⟨a, vs, hv, ht, _, hl⟩ => ⟨a, vs, hv, ht, fun x => x, RelL.loose l vs hl⟩
  | .lst l, _, ⟨a, vs, hv, ht, _, hl⟩ => ⟨a, vs, hv, ht, fun x => x, RelL.loose l vs hl⟩
  | .rng _ _, _, ⟨r, hv, ht, _⟩ => ⟨r, hv, ht, fun x => x⟩
  | .loc _, _, e => e
theorem RelL.loose {h : Heap} {μ : Map} {O : Addr → Prop} : ∀ (l : List PV) (vs : List Value), RelL h μ O l vs → RelL h μ NoX l vs
  | [], _, e => e
  | p :: l, _, ⟨v, r, hv, hp, hr⟩ => ⟨v, r, hv, Rel.loose p v hp, RelL.loose l r hr⟩
end

inductive ObjAt (U : Setup) (c : Cf) (k : Nat) (o : MO) (v : Value) : Prop
  | mk (x : Addr × Addr) (e : v = .ref x.1) (m : c.μ k = some x) (r : ORel U c o x)
theorem obj_at (G : Good U c) {k : Nat} {o : MO} {v : Value} (hk : c.st.objs k = some o) (h : RelC c (.loc k) v) : ObjAt U c k o v := by
  obtain ⟨x, hx, rfl⟩ := h.loc'
  obtain ⟨y, hy, ho, _⟩ := G.objs k _ hk
  rw [hx] at hy; cases hy
  exact ⟨x, rfl, hx, ho⟩
inductive ListAt (c : Cf) (k : Nat) (l : List PV) (v : Value) : Prop
  | mk (x : Addr × Addr) (vs : List Value) (e : v = .ref x.1) (m : c.μ k = some x) (h : c.h.IsList x.1 vs.toArray) (r : RelLC c l vs)
theorem list_at (G : Good U c) {k : Nat} {l : List PV} {v : Value} (hk : c.st.objs k = some (.list l)) (h : RelC c (.loc k) v) : ListAt c k l v := by
  obtain ⟨x, e, hx, vs, h1, h2, _⟩ := obj_at G hk h
  exact ⟨x, vs, e, hx, h1, h2⟩

/-- a look at the store -/
inductive Peek {γ : Type} (c : Cf) (m : M γ) (P : γ → Prop) : Prop
  | no (e : m c.st = none)
  | yes (b : γ) (e : m c.st = some (.ok b, c.st)) (p : P b)
section
variable {γ δ : Type} {m : M γ} {f : γ → M δ} {P : γ → Prop} {Q : δ → Prop}
theorem Peek.ret {b : γ} (h : P b) : Peek c (M.ret b) P := .yes b rfl h
theorem Peek.fail : Peek c M.fail P := .no rfl
theorem Peek.of {o : Option γ} (h : ∀ b, o = some b → P b) : Peek c (M.of o) P := match o, h with
  | .none, _ => .no rfl
  | .some b, h => .yes b rfl (h b rfl)
theorem Peek.getO {k : Nat} {P : MO → Prop} (h : ∀ o, c.st.objs k = some o → P o) : Peek c (Mine.getO k) P := by
  cases e : c.st.objs k with
  | none => exact .no (by show (match c.st.objs k with | some o => some (R.ok o, c.st) | none => none) = none; rw [e])
  | some o => exact .yes o (by show (match c.st.objs k with | some o => some (R.ok o, c.st) | none => none) = _; rw [e]) (h o e)
theorem Peek.bind (h : Peek c m P) (hk : ∀ b, P b → Peek c (f b) Q) : Peek c (m.bind f) Q := by
  cases h with
  | no e => exact .no (by unfold M.bind; rw [e])
  | yes b e p =>
    cases hk b p with
    | no e' => exact .no (by unfold M.bind; rw [e]; exact e')
    | yes d e' q => exact .yes d (by unfold M.bind; rw [e]; exact e') q
theorem OkM.peek {α : Type} {t : Sem α} {P' : Cf → δ → α → Prop} (h : Good U c → Peek c m P) (hk : ∀ b, P b → OkM U A X c t (f b) P' L) : OkM U A X c t (m.bind f) P' L := by
  intro G
  cases h G with
  | no e =>
    intro s _ r st' hm
    unfold M.bind at hm
    rw [e] at hm
    exact nomatch hm
  | yes b e p =>
    have eq : m.bind f c.st = f b c.st := by unfold M.bind; rw [e]
    intro s hs r st' hm
    exact hk b p G s hs r st' (eq ▸ hm)
theorem OkM.getO {α : Type} {t : Sem α} {k : Nat} {f : MO → M δ} {P' : Cf → δ → α → Prop} (h : Good U c → ∀ o, c.st.objs k = some o → OkM U A X c t (f o) P' L) : OkM U A X c t ((Mine.getO k).bind f) P' L :=
  fun G => OkM.peek (fun _ => Peek.getO fun o ho => ho) (fun o ho => h G o ho) G
end

theorem derefP_ok (G : Good U c) {a : PV} {u : Value} (h : RelC c a u) : Peek c (derefP a) fun a' => Rel c.h c.μ NoX a' u := by
  unfold derefP
  cases e : locO a with
  | none => exact .ret (Rel.loose _ _ h)
  | some k =>
    cases locO_of e
    refine Peek.getO (fun o ho => ho) |>.bind fun o ho => (Peek.of fun l hl => hl).bind fun l hl => .ret ?_
    cases listO_of hl
    obtain ⟨x, vs, rfl, _, h1, h2⟩ := list_at G ho h
    exact Rel.mkLst h1 (fun x => x) (RelL.loose _ _ h2)

theorem derefV_ok (G : Good U c) {p p' : PV} {v : Value} (h : RelC c p v) (e : derefV c.st p = some p') : Rel c.h c.μ NoX p' v := by
  unfold derefV at e
  cases hk : locO p with
  | none => rw [hk] at e; cases e; exact Rel.loose _ _ h
  | some k =>
    rw [hk] at e
    cases locO_of hk
    obtain ⟨o, ho, e⟩ := Option.bind_eq_some_iff.mp e
    obtain ⟨l, hl, rfl⟩ := Option.map_eq_some_iff.mp e
    cases listO_of hl
    obtain ⟨x, vs, rfl, _, h1, h2⟩ := list_at G ho h
    exact Rel.mkLst h1 (fun x => x) (RelL.loose _ _ h2)
theorem mapO_cons {α β : Type} {f : α → Option β} {x : α} {r : List α} {ys : List β} (h : mapO f (x :: r) = some ys) : ∃ y l, f x = some y ∧ mapO f r = some l ∧ ys = y :: l := by
  unfold mapO at h
  cases h1 : f x with
  | none => rw [h1] at h; cases h
  | some y =>
    rw [h1] at h
    cases h2 : mapO f r with
    | none => rw [h2] at h; cases h
    | some l => rw [h2] at h; cases h; exact ⟨y, l, rfl, rfl, rfl⟩
theorem derefIn_ok (G : Good U c) : ∀ {l l' : List PV} {vs : List Value}, RelLC c l vs → mapO (derefV c.st) l = some l' → RelL c.h c.μ NoX l' vs
  | [], _, _, h, e => by cases e; exact h
  | p :: l, _, _, ⟨v, r, hv, hp, hr⟩, e => by
    obtain ⟨y, l', h1, h2, rfl⟩ := mapO_cons e
    subst hv
    exact RelL.mkCons (derefV_ok G hp h1) (derefIn_ok G hr h2)

theorem derefTup_ok (G : Good U c) {a : PV} {u : Value} (h : RelC c a u) : Peek c (derefTup a) fun a' => Rel c.h c.μ NoX a' u := by
  unfold derefTup
  cases e : tupO a with
  | none => exact derefP_ok G h
  | some l =>
    cases tupO_of e
    obtain ⟨a, vs, rfl, ht, n, hl⟩ := h.tup'
    cases hd : mapO (derefV c.st) l with
    | none => exact .no (by show (match mapO (derefV c.st) l with | some l' => some (R.ok (PV.tup l'), c.st) | none => none) = none; rw [hd])
    | some l' => exact .yes (.tup l') (by show (match mapO (derefV c.st) l with | some l' => some (R.ok (PV.tup l'), c.st) | none => none) = _; rw [hd]) (Rel.mkTup ht (fun x => x) (derefIn_ok G hl hd))

/-- what a value reads as -/
structure RdP (h : Heap) (v : Value) (d : PyData) (n : Nat) : Prop where
  rd : ∃ as, Reads h v d as
  lay : d.canLay0 = true
  dep : d.depth ≤ n
structure RdL (h : Heap) (vs : List Value) (ds : List PyData) (n : Nat) : Prop where
  rd : ∃ as, ReadsAll h vs ds as
  lay : PyData.canLayAll0 ds = true
  dep : PyData.depthAll ds ≤ n
theorem reads0 {h : Heap} {μ : Map} {O : Addr → Prop} {n : Nat} {p : PV} {v : Value} {d : PyData} (hr : Rel h μ O p v) (ht : toPy0 p = some d) : RdP h v d n := by
  cases p with
  | none => cases ht; cases hr.none'; exact ⟨⟨_, .none⟩, rfl, Nat.zero_le _⟩
  | bool b => cases ht; cases hr.bool'; exact ⟨⟨_, .bool _⟩, rfl, Nat.zero_le _⟩
  | int i => cases ht; obtain ⟨t, rfl⟩ := hr.int'; exact ⟨⟨_, .int _ _⟩, rfl, Nat.zero_le _⟩
  | str x =>
    have ht' : (if PyData.strOk x then some (PyData.str x) else none) = some d := ht
    by_cases q : PyData.strOk x = true
    · rw [if_pos q] at ht'; cases ht'; obtain ⟨t, rfl⟩ := hr.str'; exact ⟨⟨_, .str _ _⟩, q, Nat.zero_le _⟩
    · rw [if_neg q] at ht'; cases ht'
  | _ => cases ht
theorem reads_all {h : Heap} {μ : Map} {O : Addr → Prop} {n : Nat} (ih : ∀ (p : PV) (v : Value) (d : PyData), Rel h μ O p v → toPy n p = some d → RdP h v d n) : ∀ {l : List PV} {vs : List Value} {ds : List PyData}, RelL h μ O l vs → mapO (toPy n) l = some ds → RdL h vs ds n
  | [], _, _, e, ht => by cases ht; cases e.nil'; exact ⟨⟨_, .nil⟩, rfl, Nat.zero_le _⟩
  | p :: l, _, _, ⟨v, r, hv, hp, hr⟩, ht => by
    subst hv
    obtain ⟨d, ds, h1, h2, rfl⟩ := mapO_cons ht
    obtain ⟨⟨as, r1⟩, c1, d1⟩ := ih p v d hp h1
    obtain ⟨⟨bs, r2⟩, c2, d2⟩ := reads_all ih hr h2
    exact ⟨⟨_, .cons r1 r2⟩, by simp [PyData.canLayAll0, c1, c2], Nat.max_le.mpr ⟨d1, d2⟩⟩
theorem reads_of {h : Heap} {μ : Map} {O : Addr → Prop} : ∀ (n : Nat) (p : PV) (v : Value) (d : PyData), Rel h μ O p v → toPy n p = some d → RdP h v d n
  | 0, _, _, _, hr, ht => reads0 hr ht
  | n + 1, p, v, d, hr, ht => by
    unfold toPy at ht
    cases e1 : tupO p with
    | some l =>
      rw [e1] at ht
      cases tupO_of e1
      obtain ⟨ds, h1, rfl⟩ := Option.map_eq_some_iff.mp ht
      obtain ⟨a, vs, rfl, ⟨⟨o, ho, hc, k, hd⟩, _⟩, _, hl⟩ := hr.tup'
      obtain ⟨⟨as, r1⟩, c1, d1⟩ := reads_all (reads_of n) hl h1
      exact ⟨⟨_, .tuple ho hc hd (by simpa using r1)⟩, c1, Nat.succ_le_succ d1⟩
    | none =>
      rw [e1] at ht
      cases e2 : lstV p with
      | some l =>
        rw [e2] at ht
        cases lstV_of e2
        obtain ⟨ds, h1, rfl⟩ := Option.map_eq_some_iff.mp ht
        obtain ⟨a, vs, rfl, ⟨o, ho, hc, k, hd⟩, _, hl⟩ := hr.lst'
        obtain ⟨⟨as, r1⟩, c1, d1⟩ := reads_all (reads_of n) hl h1
        exact ⟨⟨_, .list ho hc hd (by simpa using r1)⟩, c1, Nat.succ_le_succ d1⟩
      | none => rw [e2] at ht; exact reads0 hr ht

theorem shaped_of {h : Heap} {v : Value} {d : PyData} (x : RdP h v d 8) : SeqAt.shaped d = true := by
  unfold SeqAt.shaped; rw [x.lay, Bool.true_and, decide_eq_true_eq]; exact Nat.le_trans x.dep (by decide)

theorem keyOf_int {a : PV} {i : Int} (h : keyOf a = some (.I i)) : a = .int i := by
  unfold keyOf at h
  cases e : intO a with
  | some j => rw [e] at h; cases h; exact intO_of e
  | none => rw [e] at h; obtain ⟨_, _, q⟩ := Option.map_eq_some_iff.mp h; cases q
theorem keyOf_str {a : PV} {x : Str} (h : keyOf a = some (.T x)) : a = .str x := by
  unfold keyOf at h
  cases e : intO a with
  | some j => rw [e] at h; cases h
  | none => rw [e] at h; obtain ⟨_, e', q⟩ := Option.map_eq_some_iff.mp h; cases q; exact strO_of e'
theorem intsOf_map : ∀ {l : List PV} {is : List Int}, intsOf l = some is → l = is.map .int
  | [], _, h => by cases h; rfl
  | p :: l, _, h => by
    obtain ⟨y, js, h1, h2, rfl⟩ := mapO_cons h
    rw [intO_of h1, intsOf_map h2]; rfl
end
end Mine
end

section
namespace Mine
open PySem PyProof PyProof.Rows

section
variable {U : Setup} {C : Cfg} {A : Around} {X : Addr → Prop} {c : Cf} {L : Addr} {env : Env} {ρ : Locs} {n : Nat}

theorem Room.units {A : Around} {n : Nat} (R : Room A n) : A.units + 500 < cLine := by
  have := R.2
  unfold cLine; omega

theorem leaf_cmpE (hu : A.units + 64 < cLine) {neg : Bool} {a b : PV} {u v : Value} (ha : RelC c a u) (hb : RelC c b v) (hw : ∀ {x y : PyData} {as bs : List Addr} {s : Shared} {Q : Value → Shared → Prop} {E : Value → Shared → Prop}, Reads s.heap u x as → Reads s.heap v y bs → SeqAt.shaped x = true → SeqAt.shaped y = true → Q (.bool (PyData.eqv x y != neg)) s → wpAny (model U.prog U.w) A (compareOp (if neg then .NotEq else .Eq) u v) Q E s) :
    OkM U A NoX c (compareOp (if neg then .NotEq else .Eq) u v) (cmpE neg a b) RelV L := by
  refine OkM.peek (fun G => derefTup_ok G ha) fun a' ra => OkM.peek (fun G => derefTup_ok G hb) fun b' rb => OkM.of fun pv hpv => ?_
  obtain ⟨e, he, rfl⟩ := Option.map_eq_some_iff.mp hpv
  unfold eqv at he
  cases h1 : toPy 8 a' with
  | none => rw [h1] at he; cases he
  | some x =>
    cases h2 : toPy 8 b' with
    | none => rw [h1, h2] at he; cases he
    | some y =>
      rw [h1, h2] at he; cases he
      have r1 := reads_of 8 _ _ _ ra h1
      have r2 := reads_of 8 _ _ _ rb h2
      obtain ⟨as, q1⟩ := r1.rd
      obtain ⟨bs, q2⟩ := r2.rd
      exact OkM.still fun s Q E hs hq => hw (hs ▸ q1) (hs ▸ q2) (shaped_of r1) (shaped_of r2) (hq _ s.toks mkrel_bool)

theorem leaf_cmp0 (R : Room A n) {op : CmpOp} {a b : PV} {u v : Value} (ha : RelC c a u) (hb : RelC c b v) : OkM U A NoX c (compareOp op u v) (cmpP op a b) RelV L := by
  have hu : A.units + 64 < cLine := by have := R.units; omega
  have num : ∀ {op : CmpOp} {f : Int → Int → Bool}, (∀ {i j : Int} {t t' : Tok} {s : Shared} {Q : Value → Shared → Prop} {E : Value → Shared → Prop}, Q (.bool (f i j)) s → wpAny (model U.prog U.w) A (compareOp op (.int i t) (.int j t')) Q E s) → OkM U A NoX c (compareOp op u v) (intP a fun x => intP b fun y => M.ret (.bool (f x y))) RelV L := fun hw =>
    OkM.intP fun i hi => OkM.intP fun j hj => by
      subst hi hj
      obtain ⟨t, rfl⟩ := rel_int ha; obtain ⟨t', rfl⟩ := rel_int hb
      exact OkM.still fun s Q E hs hq => hw (hq _ s.toks mkrel_bool)
  cases op with
  | Eq => exact OkM.at (by kernel_rfl) (leaf_cmpE (neg := false) hu ha hb fun r1 r2 s1 s2 q => SeqAt.compareEq_shaped r1 r2 s1 s2 hu (by rw [Bool.bne_false] at q; exact q))
  | NotEq => exact OkM.at (by kernel_rfl) (leaf_cmpE (neg := true) hu ha hb fun r1 r2 s1 s2 q => SeqAt.compareNe_shaped r1 r2 s1 s2 hu (by rw [Bool.bne_true] at q; exact q))
  | Lt => exact OkM.at (by kernel_rfl) (num fun q => P.lt_int q)
  | LtE => exact OkM.at (by kernel_rfl) (num fun q => P.le_int q)
  | Gt => exact OkM.at (by kernel_rfl) (num fun q => P.gt_int q)
  | GtE => exact OkM.at (by kernel_rfl) (num fun q => P.ge_int q)
  | _ => exact OkM.failAt (by kernel_rfl)

/-- what a comparison does -/
noncomputable def CmpOk (U : Setup) : Prop := ∀ A n c op a b u v L, Room A n → RelC c a u → RelC c b v → OkM U A NoX c (compareOp op u v) (cmpP op a b) RelV L

theorem noSet {r : Expr} (hr : ∀ e k p, r ≠ Expr.Set e k p) {op : CmpOp} : behindInMarks op r = false := by
  cases r <;> first | rfl | exact absurd rfl (hr _ _ _)

theorem marked1 {op : CmpOp} {r : Expr} (hr : ∀ e k p, r ≠ Expr.Set e k p) : markedEach [op] [r] (evalEach [r] env) = [eval r env] := by
  show [markedBehindIn op r (eval r env)] = _
  rw [markedBehindIn_of_false (noSet hr)]
theorem okEval_set {sc : Scope} {e : Expr} {α β : Type} {t : Sem α} {f : PV → M β} {P : Cf → β → α → Prop} (h : (∀ es k p, e ≠ Expr.Set es k p) → OkM U A X c t ((evalE C n sc ρ e).bind f) P L) : OkM U A X c t ((evalE C n sc ρ e).bind f) P L := by
  by_cases hs : ∀ es k p, e ≠ Expr.Set es k p
  · exact h hs
  · have : ∃ es k p, e = Expr.Set es k p := by
      apply Classical.byContradiction
      intro hn
      exact hs fun es k p he => hn ⟨es, k, p, he⟩
    obtain ⟨es, k, p, rfl⟩ := this
    rw [evalE_Set]
    exact OkM.fail

/-- two evaluations, then a step -/
theorem ev_two (hE : EvOk U C n) (R : Room A (n + 1)) (F : Fk U C.hd A env ρ c) {l r : Expr} {α β : Type} {t : Value → Value → Sem α} {f : PV → PV → M β} {P : Cf → β → α → Prop}
    (h : ∀ c₂ a b u v, Le NoX c c₂ → Good U c₂ → Fk U C.hd A env ρ c₂ → RelC c₂ a u → RelC c₂ b v → OkM U A NoX c₂ (t u v) (f a b) P L) {pos : Pos} :
    OkM U A NoX c (do let u ← eval l env; let v ← holding [u] (eval r env); standAt pos; t u v) ((evalE C n env.scope ρ l).bind fun a => (evalE C n env.scope ρ r).bind fun b => f a b) P L := by
  refine (hE _ _ _ _ _ _ R.down F).bind fun c₁ a u L₁ G₁ ha => ?_
  refine OkM.bind (OkM.holding (hE _ _ _ _ _ _ R.down (F.upN L₁))) fun c₂ b v L₂ G₂ hb => OkM.standAt ?_
  exact h c₂ a b u v (L₁.trans L₂) G₂ ((F.upN L₁).upN L₂) (ha.upN L₂) hb

theorem ok_truthOf {α β : Type} {t : Sem Value} {m : M PV} {k : Bool → Sem α} {f : Bool → M β} {P : Cf → β → α → Prop} (h : OkM U A NoX c t m RelV L)
    (hk : ∀ c' b, Le NoX c c' → Good U c' → OkM U A NoX c' (k b) (f b) P L) (vs : Value → List Value) :
    OkM U A NoX c (do let v ← t; let b ← holding (vs v) (truthy v); k b) (m.bind fun v => (M.of (truthP v)).bind f) P L := by
  refine h.bind fun c₁ pv v L₁ G₁ hv => ?_
  refine OkM.bind (OkM.holding (leaf_truth hv)) fun c₂ b t L₂ G₂ ht => ?_
  subst ht
  exact hk c₂ t (L₁.trans L₂) G₂
end
end Mine
end

section
namespace Mine
open PySem PyProof PyProof.Rows

section
variable {U : Setup} {C : Cfg} {A : Around} {X : Addr → Prop} {c : Cf} {L : Addr} {env : Env} {ρ : Locs} {n : Nat}

theorem eval_CompareN (l ops rs pos) : eval (.Compare l ops rs pos) env = (do compareChain pos (← eval l env) ops (markedEach ops rs (evalEach rs env))) := rfl
theorem isTrue_CompareN (l ops rs pos w) : isTrue (.Compare l ops rs pos) env w = (do testChain pos (← eval l env) ops (markedEach ops rs (evalEach rs env))) := rfl

theorem OkM.release {α β : Type} {vs keep : List Value} {t : Unit → Sem α} {m : M β} {P : Cf → β → α → Prop} (h : OkM U A X c (t ()) m P L) : OkM U A X c (PySem.release vs keep >>= t) m P L :=
  h.of_wp fun _ _ _ x => wpAny_bind (wpAny_release x)

theorem sole_of {α : Type} {l : List α} {x : α} (h : sole l = some x) : l = [x] := by
  cases l with
  | nil => cases h
  | cons y r => cases r <;> cases h; rfl
theorem cmp1_of {ops : List CmpOp} {rs : List Expr} {q : CmpOp × Expr} (h : cmp1 ops rs = some q) : ops = [q.1] ∧ rs = [q.2] := by
  obtain ⟨op, h1, h⟩ := Option.bind_eq_some_iff.mp h
  obtain ⟨r, h2, rfl⟩ := Option.map_eq_some_iff.mp h
  exact ⟨sole_of h1, sole_of h2⟩

theorem chain1 {pos : Pos} {u : Value} {op : CmpOp} {r : Expr} (hr : ∀ e k p, r ≠ Expr.Set e k p) : compareChain pos u [op] (markedEach [op] [r] (evalEach [r] env)) = (do let rv ← holding [u] (eval r env); standAt pos; operate [u, rv] (compareOp op u rv)) := by
  rw [marked1 hr]; rfl
theorem chainT {pos : Pos} {u : Value} {op : CmpOp} {r : Expr} (hr : ∀ e k p, r ≠ Expr.Set e k p) : testChain pos u [op] (markedEach [op] [r] (evalEach [r] env)) = (do let rv ← holding [u] (eval r env); standAt pos; let cc ← operate [u, rv] (compareOp op u rv); holding [cc] (truthy cc)) := by
  rw [marked1 hr]; rfl
theorem ev_Compare (hC : CmpOk U) (hE : EvOk U C n) (R : Room A (n + 1)) (F : Fk U C.hd A env ρ c) {l : Expr} {ops : List CmpOp} {rs : List Expr} {pos : Pos} :
    OkM U A NoX c (eval (.Compare l ops rs pos) env) (evalE C (n + 1) env.scope ρ (.Compare l ops rs pos)) RelV L := by
  refine OkM.at2 (eval_CompareN ..) evalE_Compare ?_
  cases hv : cmp1 ops rs with
  | none => exact OkM.fail
  | some q =>
    obtain ⟨rfl, rfl⟩ := cmp1_of hv
    exact (hE _ _ _ _ _ _ R.down F).bind fun c₁ a u L₁ G₁ ha => okEval_set fun hr => OkM.at2 (chain1 hr) rfl <|
      OkM.bind (OkM.holding (hE _ _ _ _ _ _ R.down (F.upN L₁))) fun c₂ b v L₂ G₂ hb => OkM.standAt (OkM.operate (hC _ _ _ _ _ _ _ _ _ R (ha.upN L₂) hb))

/-- a test that is just an expression -/
noncomputable def isPlainT : Expr → Bool
  | .UnaryOp .. => false
  | .BoolOp .. => false
  | .IfExp .. => false
  | .Compare .. => false
  | _ => true
theorem evalT_plain {sc : Scope} {e : Expr} (h : isPlainT e = true) : evalT C (n + 1) sc ρ e = (evalE C n sc ρ e).bind fun v => M.of (truthP v) := by
  cases e <;> first | (cases h; done) | kernel_rfl
theorem isTrue_plain {e : Expr} (h : isPlainT e = true) : isTrue e env (eval e env) = (do let v ← eval e env; standAt e.pos; holding [v] (truthy v)) := by
  cases e <;> first | (cases h; done) | rfl
theorem isTrue_un {op : UnaryOp} {x : Expr} {pos : Pos} (h : op ≠ .Not) : isTrue (.UnaryOp op x pos) env (eval (.UnaryOp op x pos) env) = (do let v ← eval (.UnaryOp op x pos) env; standAt (Expr.UnaryOp op x pos).pos; holding [v] (truthy v)) := by
  cases op <;> first | rfl | exact absurd rfl h
theorem tr_plain (hE : EvOk U C n) {A : Around} {env : Env} {ρ : Locs} {c : Cf} {e : Expr} {L : Addr} (R : Room A (n + 1)) (F : Fk U C.hd A env ρ c) (he : isTrue e env (eval e env) = (do let v ← eval e env; standAt e.pos; holding [v] (truthy v))) :
    OkM U A NoX c (isTrue e env (eval e env)) ((evalE C n env.scope ρ e).bind fun v => M.of (truthP v)) (fun _ b v => v = b) L :=
  OkM.at2 he rfl <| (hE _ _ _ _ _ _ R.down F).bind fun c₁ a u L₁ G₁ ha => OkM.standAt (OkM.holding (leaf_truth ha))
theorem tr_p (hE : EvOk U C n) {A : Around} {env : Env} {ρ : Locs} {c : Cf} {L : Addr} (R : Room A (n + 1)) (F : Fk U C.hd A env ρ c) (e : Expr) (h : isPlainT e = true) : OkM U A NoX c (isTrue e env (eval e env)) (evalT C (n + 1) env.scope ρ e) (fun _ b v => v = b) L :=
  OkM.at (evalT_plain h) (tr_plain hE R F (isTrue_plain h))
theorem tr_ok (hC : CmpOk U) (hE : EvOk U C n) (hT : TrOk U C n) (hA : AllOk U C n) : TrOk U C (n + 1) := by
  intro A env ρ c e L R F
  cases e with
  | UnaryOp op x pos =>
    refine OkM.at (m' := if op = .Not then (evalT C n env.scope ρ x).bind fun b => M.ret (!b) else (evalE C n env.scope ρ (.UnaryOp op x pos)).bind fun v => M.of (truthP v)) (by kernel_rfl) (OkM.ite (fun hop => ?_) fun hop => tr_plain hE R F (isTrue_un hop))
    subst hop
    exact OkM.at2 (t' := do return !(← isTrue x env (eval x env))) rfl rfl ((hT _ _ _ _ _ _ R.down F).bind fun c₁ b v L₁ G₁ hv => OkM.pure (congrArg _ hv))
  | BoolOp op es pos => exact OkM.at (by kernel_rfl) (hA _ _ _ _ _ _ _ R.down F)
  | IfExp _ _ _ _ => exact OkM.failAt (by kernel_rfl)
  | Compare l ops rs pos =>
    refine OkM.at2 (isTrue_CompareN ..) (show _ = (match cmp1 ops rs with
      | some q => (evalE C n env.scope ρ l).bind fun a => (evalE C n env.scope ρ q.2).bind fun b => (cmpP q.1 a b).bind fun v => M.of (truthP v)
      | Option.none => M.fail) from by kernel_rfl) ?_
    cases hv : cmp1 ops rs with
    | none => exact OkM.fail
    | some q =>
      obtain ⟨rfl, rfl⟩ := cmp1_of hv
      exact (hE _ _ _ _ _ _ R.down F).bind fun c₁ a u L₁ G₁ ha => okEval_set fun hr => OkM.at2 (chainT hr) rfl <|
        OkM.bind (OkM.holding (hE _ _ _ _ _ _ R.down (F.upN L₁))) fun c₂ b v L₂ G₂ hb => OkM.standAt <|
        OkM.bind (OkM.operate (hC _ _ _ _ _ _ _ _ _ R (ha.upN L₂) hb)) fun c₃ q w L₃ G₃ hq => OkM.holding (leaf_truth hq)
  | _ => exact tr_p hE R F _ rfl

theorem allTrue_cons {op : BoolOp} {e : Expr} {r : List Expr} : allTrue op (e :: r) env = (do
      match op, ← isTrue e env (eval e env) with
      | .And, false => pure false
      | .Or, true => pure true
      | _, _ => allTrue op r env) := rfl
theorem all_ok (hT : TrOk U C n) (hA : AllOk U C n) : AllOk U C (n + 1) := by
  intro A env ρ c op es L R F
  cases es with
  | nil => exact OkM.at2 (t' := Pure.pure (op == .And)) (by cases op <;> rfl) allT_nil (OkM.pure rfl)
  | cons e r =>
    refine OkM.at2 allTrue_cons allT_cons ((hT _ _ _ _ _ _ R.down F).bind fun c₁ b v L₁ G₁ hv => ?_)
    subst hv
    have key := hA _ _ _ _ op r L R.down (F.upN L₁)
    cases op <;> cases v
    · exact OkM.pure rfl
    · exact key
    · exact key
    · exact OkM.pure rfl

theorem RelLC.len {c : Cf} {l : List PV} {vs : List Value} (h : RelLC c l vs) : vs.length = l.length := RelL.length h

theorem evalEs_len {sc : Scope} : ∀ (m : Nat) (es : List Expr) (st st' : St) (vs : List PV), evalEs C m sc ρ es st = some (.ok vs, st') → vs.length = es.length
  | 0, _, _, _, _, h => nomatch h
  | m + 1, [], _, _, _, h => by rw [evalEs_nil] at h; cases h; rfl
  | m + 1, e :: r, _, _, _, h => by
    rw [evalEs_cons] at h
    rcases bind_cases h with ⟨_, q⟩ | ⟨v, st₁, _, h⟩
    · cases q
    · rcases bind_cases h with ⟨_, q⟩ | ⟨ws, st₂, h2, h⟩
      · cases q
      · cases h
        rw [List.length_cons, List.length_cons, evalEs_len m r _ _ _ h2]

/-- a run's own outcome is known -/
theorem OkM.known {α β : Type} {t : Sem α} {m : M β} {P : Cf → β → α → Prop} (h : OkM U A X c t m P L) {Z : β → Prop} (hz : ∀ b st', m c.st = some (.ok b, st') → Z b) : OkM U A X c t m (fun c' b a => P c' b a ∧ Z b) L :=
  fun G s hs r st' hm Q E hQ hE => h G s hs r st' hm Q E (fun b a c' s' w1 w2 w3 w4 w5 w6 => hQ b a c' s' w1 w2 w3 w4 w5 ⟨w6, hz b st' (w1 ▸ hm)⟩) hE

theorem eval_Tup {es : List Expr} {k : Nat} {pos : Pos} : eval (.Tuple es k pos) env = (do standAt pos; newTuple (← spliced (backTo pos (starEach es env)))) := rfl
theorem ev_Tuple (hS : EsOk U C n) (R : Room A (n + 1)) (F : Fk U C.hd A env ρ c) {es : List Expr} {k : Nat} {pos : Pos} :
    OkM U A NoX c (eval (.Tuple es k pos) env) (evalE C (n + 1) env.scope ρ (.Tuple es k pos)) RelV L :=
  OkM.at2 eval_Tup evalE_Tuple <| OkM.iteF fun hle => OkM.standAt <|
    OkM.bind ((hS _ _ _ _ _ pos _ R.down F).known (Z := fun vs => vs.length = es.length) fun b st' hb => evalEs_len _ _ _ _ _ hb) fun c₁ ps vs L₁ G₁ hv =>
      ok_newTuple hv.1 (by rw [RelLC.len hv.1, hv.2]; omega)

theorem ok_newList {ps : List PV} {vs : List Value} (h : RelLC c ps vs) (hl : vs.length ≤ 100000) : OkM U A NoX c (newList vs) ((newO (.list ps)).bind fun k => M.ret (.loc k)) RelV L := by
  refine OkM.seen (b := PV.loc c.st.next) (st₁ := (c.add (.list ps) c.h (0, 0)).st) rfl fun G s hs Q E hQ => wpAny_newObj_type ?_ (sz_line hl)
  have hk := push_keep hs { cls := .type "list", data := .seq vs.toArray }
  have hz : c.h.objs.size ≤ (s.heap.push { cls := .type "list", data := .seq vs.toArray }).objs.size := by rw [Heap.size_push, hs]; exact Nat.le_succ _
  have hlt : s.heap.objs.size < (s.heap.push { cls := .type "list", data := .seq vs.toArray }).objs.size := by rw [Heap.size_push]; exact Nat.lt_succ_self _
  have h1 : c.h.objs.size ≤ s.heap.objs.size := by rw [hs]; exact Nat.le_refl _
  have L1 := Cf.add_le G (o := .list ps) (x := (s.heap.objs.size, s.heap.objs.size)) hk hz h1 h1
  refine hQ _ (c.add (.list ps) (s.heap.push { cls := .type "list", data := .seq vs.toArray }) (s.heap.objs.size, s.heap.objs.size)) _ rfl rfl (Same.mk s _ _) ⟨L1, ?_⟩ Cf.add_loc
  exact Cf.add_good G hk hz h1 h1 hlt hlt ⟨vs, ⟨_, Heap.get?_push_size _ rfl, rfl, _, rfl⟩, h.upN L1, fun o e => by
      have e' : (s.heap.push { cls := .type "list", data := .seq vs.toArray }).get? s.heap.objs.size = some o := e
      rw [Heap.get?_push_size _ rfl] at e'; cases e'; rfl⟩ (.inl rfl)

theorem eval_Lst {es : List Expr} {pos : Pos} : eval (.List es pos) env = (do standAt pos; newList (← spliced (backTo pos (starEach es env)))) := rfl
theorem ev_List (hS : EsOk U C n) (R : Room A (n + 1)) (F : Fk U C.hd A env ρ c) {es : List Expr} {pos : Pos} :
    OkM U A NoX c (eval (.List es pos) env) (evalE C (n + 1) env.scope ρ (.List es pos)) RelV L := by
  refine OkM.at2 eval_Lst evalE_List <| OkM.iteF fun hle => OkM.standAt <|
    OkM.bind ((hS _ _ _ _ _ pos _ R.down F).known (Z := fun vs => vs.length = es.length) fun b st' hb => evalEs_len _ _ _ _ _ hb) fun c₁ ps vs L₁ G₁ hv => ?_
  have hl : vs.length ≤ 100000 := by rw [RelLC.len hv.1, hv.2]; omega
  cases C.muta (.List es pos)
  · exact ok_newFrozen hv.1 hl
  · exact ok_newList hv.1 hl
end
end Mine
end

section
namespace Mine
open PySem PyProof PyProof.Rows

section
variable {U : Setup} {C : Cfg} {A : Around} {X : Addr → Prop} {c : Cf} {L : Addr} {env : Env} {ρ : Locs} {n : Nat}

theorem leaf_binA (op : Operator) {a b : PV} {u v : Value} (ha : RelC c a u) (hb : RelC c b v) : OkM U A X c (binaryOp op u v) (M.of (binP op a b)) RelV L := by
  unfold binP
  cases e1 : intO a with
  | some x =>
    cases e2 : intO b with
    | none => exact OkM.fail
    | some y =>
      cases intO_of e1; cases intO_of e2
      obtain ⟨t, rfl⟩ := rel_int ha; obtain ⟨t', rfl⟩ := rel_int hb
      exact leaf_binI op
  | none =>
    cases e2 : strO a with
    | none => exact OkM.fail
    | some x =>
      cases e3 : txtO b with
      | none => exact OkM.fail
      | some n =>
        cases strO_of e2; cases txtO_of e3
        refine OkM.ofIte fun h => ?_
        obtain ⟨rfl, hl⟩ := h
        obtain ⟨t, rfl⟩ := rel_str ha
        obtain ⟨y, t', rfl, hx⟩ := hb.txt'
        exact OkM.still fun s Q E hs hq => add_str (fun t'' k => hq _ _ (Rel.mkTxt (by rw [Str.length_append]; omega))) (by rw [sizeLine_eq]; omega)

theorem ev_BinOp (hE : EvOk U C n) (R : Room A (n + 1)) (F : Fk U C.hd A env ρ c) {l r : Expr} {op : Operator} {pos : Pos} :
    OkM U A NoX c (eval (.BinOp l op r pos) env) (evalE C (n + 1) env.scope ρ (.BinOp l op r pos)) RelV L :=
  OkM.at2 (eval_BinOp ..) evalE_BinOp <| ev_two hE R F fun c₂ a b u v L₂ G₂ F₂ ha hb => OkM.operate (leaf_binA op ha hb)

theorem base_plain {o : Expr} {x : Str} {w : Sem Value} (h : plainBase o = true) : attributeBase o x env w = w := by
  cases o with
  | Call f args kw pos =>
    cases f <;> first | rfl | (cases args <;> first | rfl | (cases kw <;> first | rfl | cases h))
  | _ => rfl

theorem fields_look {x : Str} : ∀ {fs : List (Str × PV)} {es : List DictEntry}, All2 (RelE c) fs es →
    match fs.lookup x with
    | some pv => ∃ v, W.getL x es = some (some v) ∧ RelC c pv v
    | none => W.getL x es = some none
  | _, _, .nil => by simp [W.getL]
  | _, _, .cons (a := f) (b := e) (l := fs) (m := es) h t => by
    obtain ⟨y, p⟩ := f
    obtain ⟨⟨tk, hk⟩, hv⟩ := h
    have ih := fields_look (x := x) t
    have ref : e.refKey = false := by simp only [DictEntry.refKey, hk]
    simp only [List.lookup_cons]
    by_cases hxy : x = y
    · subst hxy
      simp only [beq_self_eq_true]
      exact ⟨e.val, by simp [W.getL, hk, Value.isStr], hv⟩
    · have h1 : (x == y) = false := beq_eq_false_iff_ne.mpr hxy
      have h2 : e.key.isStr x = false := by simp only [hk, Value.isStr]; exact beq_eq_false_iff_ne.mpr (Ne.symm hxy)
      have h3 : W.getL x (e :: es) = W.getL x es := by
        unfold W.getL
        rw [List.find?_cons, h2]
        simp only [List.any_cons, ref, Bool.false_or]
      rw [h1, h3]; exact ih

inductive InstV (c : Cf) (k : Nat) (cl : Addr) (fs : List (Str × PV)) (v : Value) : Prop
  | mk (x : Addr × Addr) (o : Obj) (n : Nat) (es : List DictEntry) (e : v = .ref x.1) (m : c.μ k = some x) (i : W.InstAt c.h x.1 o cl (some (W.dictOf es n))) (r : All2 (RelE c) fs es)
theorem inst_at (G : Good U c) {k : Nat} {cl : Addr} {fs : List (Str × PV)} {v : Value} (hk : c.st.objs k = some (.inst cl fs)) (h : RelC c (.loc k) v) : InstV c k cl fs v := by
  obtain ⟨x, e, hx, o, n, es, h1, h2, h3, h4, h5, h6, h7⟩ := obj_at G hk h
  refine ⟨x, o, n, es, e, hx, ⟨h1, h2, ?_, ?_⟩, h7⟩
  · obtain ⟨oc, od, oda, os⟩ := o
    cases h4; rfl
  · rw [h3]; exact h6

theorem leaf_attr (T : Top U C) {o : PV} {u : Value} {x : Str} {ex : Bool} (ha : RelC c o u) : OkM U A NoX c (getAttr u x ex) (getA C o x) RelV L := by
  refine OkM.ofB fun k hk => OkM.getO fun G ob ho => OkM.ofB fun q hq => OkM.ofB fun pv hf => OkM.iteT fun hc => ?_
  cases locO_of hk
  cases instO_of hq
  obtain ⟨K, hK, hA, _, _, _, _, _, _, _⟩ := T.frag
  obtain ⟨p1, p2, a, p3, p4⟩ := hA _ x hc.1
  obtain ⟨y, ob', m, es, rfl, hy, I, hl⟩ := inst_at G ho ha
  have look := fields_look (x := x) hl
  rw [hf] at look
  obtain ⟨v, g1, g2⟩ := look
  refine OkM.still fun s Q E hs hq => W.get_value (K := K) (C := q.1) (od := some (W.dictOf es m)) (hK.keeps (hs ▸ G.stays)) (hs ▸ I) (W.plainGet_of p1).1 (W.findObj_own p2 p3 p4 g1) ?_ (hq v _ g2)
  cases pv with
  | none => cases g2.none'; rfl
  | bool b => cases g2.bool'; rfl
  | int i => obtain ⟨t, rfl⟩ := g2.int'; rfl
  | str x => obtain ⟨t, rfl⟩ := g2.str'; rfl
  | txt n => obtain ⟨s, t, rfl, _⟩ := g2.txt'; rfl
  | tup l => obtain ⟨a, vs, rfl, _, _, _⟩ := g2.tup'; rfl
  | lst l => obtain ⟨a, vs, rfl, _, _, _⟩ := g2.lst'; rfl
  | rng a b => obtain ⟨r, rfl, _, _⟩ := g2.rng'; rfl
  | loc k => obtain ⟨x, _, rfl⟩ := g2.loc'; rfl
  | con w => cases hc.2

theorem OkM.temp {α β : Type} {b : Expr} {o r : Value} {t : Unit → Sem α} {m : M β} {P : Cf → β → α → Prop} (h : OkM U A X c (t ()) m P L) : OkM U A X c (letTemporaryGo b o r >>= t) m P L :=
  h.of_wp fun _ _ _ x => wpAny_bind (wpAny_letTemporaryGo x)

theorem ret_bind {α : Type} (m : M α) : m.bind M.ret = m := by
  funext st
  unfold M.bind M.ret
  cases m st with
  | none => rfl
  | some p => obtain ⟨q, s'⟩ := p; cases q <;> rfl

theorem eval_Attr {o : Expr} {x : Str} {pos : Pos} (hb : plainBase o = true) : eval (.Attribute o x pos) env = (do
    let ov ← eval o env
    standAt pos.atName
    let r ← holding [ov] (getAttr ov x true)
    letTemporaryGo o ov r
    pure r) := by
  show (do let ov ← attributeBase o x env (eval o env); _) = _
  rw [base_plain hb]
theorem ev_Attribute (T : Top U C) (hE : EvOk U C n) (R : Room A (n + 1)) (F : Fk U C.hd A env ρ c) {o : Expr} {x : Str} {pos : Pos} :
    OkM U A NoX c (eval (.Attribute o x pos) env) (evalE C (n + 1) env.scope ρ (.Attribute o x pos)) RelV L :=
  OkM.at evalE_Attribute <| OkM.iteF fun hb => OkM.at2 (eval_Attr (by simpa using hb)) rfl <| (hE _ _ _ _ _ _ R.down F).bind fun c₁ a u L₁ G₁ ha => OkM.standAt <|
    OkM.at (ret_bind (getA C a x)).symm <| OkM.bind (OkM.holding (leaf_attr T ha)) fun c₂ b v L₂ G₂ hv => OkM.temp (OkM.pure hv)
end
end Mine
end

section
namespace Mine
open PySem PyProof PyProof.Rows

section
variable {U : Setup} {C : Cfg} {A : Around} {X : Addr → Prop} {c : Cf} {L : Addr} {env : Env} {ρ : Locs} {n : Nat}

theorem RelL.get {h : Heap} {μ : Map} {O : Addr → Prop} : ∀ {l : List PV} {vs : List Value} {j : Nat} {p : PV}, RelL h μ O l vs → l[j]? = some p → GetV (Rel h μ O p) vs[j]?
  | [], _, j, p, _, e => by simp at e
  | q :: l, _, 0, p, ⟨v, r, hv, hp, hr⟩, e => by cases e; subst hv; exact ⟨v, rfl, hp⟩
  | q :: l, _, j + 1, p, ⟨v, r, hv, hp, hr⟩, e => by subst hv; exact RelL.get (j := j) hr e

theorem seqIndex_at {i : Int} {n j : Nat} (h : (if i < 0 then i + (n : Int) else i) = (j : Int)) (hj : j < n) : seqIndex? i n = some j := by
  simp only [seqIndex?, h]
  rw [if_pos (by simp only [Bool.and_eq_true, decide_eq_true_eq]; omega), Int.toNat_natCast]

inductive IdxAt (c : Cf) (vs : List Value) (i : Int) (p : PV) : Prop
  | mk (b : i.natAbs < 1000000) (j : Nat) (v : Value) (s : seqIndex? i vs.toArray.size = some j) (g : vs.toArray[j]? = some v) (r : RelC c p v) (d : if 0 ≤ i then j = i.toNat else (-(vs.toArray.size : Int) ≤ i ∧ j = (i + vs.toArray.size).toNat))
theorem idx_at {l : List PV} {vs : List Value} {i : Int} {p : PV} (h : RelLC c l vs) (e : idx? l i = some p) : IdxAt c vs i p := by
  unfold idx? at e
  have hlen := RelL.length h
  by_cases h9 : 1000000 ≤ i.natAbs
  · rw [if_pos h9] at e; cases e
  · rw [if_neg h9] at e
    by_cases h0 : 0 ≤ i
    · rw [if_pos h0] at e
      obtain ⟨v, h1, h2⟩ := RelL.get h e
      have hlt := (List.getElem?_eq_some_iff.mp h1).1
      exact ⟨by omega, i.toNat, v, seqIndex_at (by rw [if_neg (by omega)]; omega) hlt, List.getElem?_toArray.trans h1, h2, by rw [if_pos h0]⟩
    · rw [if_neg h0] at e
      by_cases h3 : -(l.length : Int) ≤ i
      · rw [if_pos h3, ← hlen] at e
        rw [← hlen] at h3
        obtain ⟨v, h1, h2⟩ := RelL.get h e
        have hlt := (List.getElem?_eq_some_iff.mp h1).1
        exact ⟨by omega, _, v, seqIndex_at (by rw [if_pos (by omega)]; show i + (vs.length : Int) = _; omega) hlt, List.getElem?_toArray.trans h1, h2, by rw [if_neg h0]; exact ⟨h3, rfl⟩⟩
      · rw [if_neg h3] at e; cases e

theorem sub_false {slice : Expr} {o i : Value} {M : Model} {Q : Value → Shared → Prop} {E : Value → Shared → Prop} {s : Shared} (h : wpAny M A (getItem o i) Q E s) : wpAny M A (subscripted slice false o i) Q E s := by
  cases slice with
  | Slice lo up st p => cases st <;> exact wpAny_operateT h
  | _ => exact wpAny_operateT h

theorem sub_tail {value slice : Expr} {o i : Value} {T id : String} {m : M PV} (hT : ∀ s : Shared, s.heap = c.h → s.TypeIs o T) (hl : typeLookup (.type T) "__getitem__" = pure (some (.builtin id)))
    (h : OkM U A NoX c (getItem o i) m RelV L) : OkM U A NoX c (subscriptTail value slice o i) m RelV L := by
  intro G s hs r st' hm Q E hQ hE
  unfold subscriptTail
  refine wpAny_bind ?_
  rw [getitemInPython_of_ne (hT s hs).not_modules]
  refine wpAny_bind (wpAny_specialOf (hT s hs) hl ?_)
  have fin : wpAny (model U.prog U.w) A (subscripted slice false o i) (fun r s₃ => wpAny (model U.prog U.w) A (letTemporaryGo value o r >>= fun _ => pure r) Q E s₃) E s :=
    sub_false (h G s hs r st' hm _ E (fun b a c' s' w1 w2 w3 w4 w5 w6 => wpAny_bind (wpAny_letTemporaryGo (wpAny_pure (hQ b a c' s' w1 w2 w3 w4 w5 w6)))) hE)
  first
    | exact wpAny_pure (wpAny_bind fin)
    | exact wpAny_bind (wpAny_pure (wpAny_bind fin))
    | exact wpAny_bind fin

theorem leaf_item_tup {l : List PV} {i : Int} {u v : Value} (ha : RelC c (.tup l) u) (hb : RelC c (.int i) v) {value slice : Expr} :
    OkM U A NoX c (subscriptTail value slice u v) (M.of (idx? l i)) RelV L := by
  obtain ⟨t, rfl⟩ := rel_int hb
  obtain ⟨a, vs, rfl, ht, _, hl⟩ := ha.tup'
  refine OkM.of fun p hp => ?_
  obtain ⟨hb, j, x, h1, h2, h3, _⟩ := idx_at hl hp
  exact sub_tail (T := "tuple") (id := "tuple.__getitem__") (fun s hs => (Heap.IsTuple.typeIs (hs ▸ ht.1 : s.heap.IsTuple a vs.toArray))) slot_tuple_getitem.lookup <|
    OkM.still fun s Q E hs hq => getItem_tuple (hs ▸ ht.1) (by omega) (by omega) h1 h2 (hq _ s.toks h3)

theorem leaf_item_list {l : List PV} {vs : List Value} {a : Addr} {i : Int} {v : Value} (ht : c.h.IsList a vs.toArray) (hl : RelLC c l vs) (hb : RelC c (.int i) v) {value slice : Expr} :
    OkM U A NoX c (subscriptTail value slice (.ref a) v) (M.of (idx? l i)) RelV L := by
  obtain ⟨t, rfl⟩ := rel_int hb
  refine OkM.of fun p hp => ?_
  obtain ⟨hb, j, x, h1, h2, h3, h4⟩ := idx_at hl hp
  refine sub_tail (T := "list") (id := "list.__getitem__") (fun s hs => (Heap.IsList.typeIs (hs ▸ ht : s.heap.IsList a vs.toArray))) slot_list_getitem.lookup (OkM.still fun s Q E hs hq => ?_)
  by_cases h0 : 0 ≤ i
  · rw [if_pos h0] at h4; subst h4
    exact wpAny_getItem_list (hs ▸ ht) h0 (by omega) h2 (hq _ s.toks h3)
  · rw [if_neg h0] at h4; obtain ⟨h4, rfl⟩ := h4
    exact wpAny_getItem_list_neg (hs ▸ ht) (by omega) h4 (by omega) h2 (hq _ s.toks h3)

/-- an entry found -/
inductive Hit {K : Type} [DecidableEq K] (c : Cf) (kvs : List (K × Value)) (k : K) (p : PV) : Prop
  | mk (v : Value) (e : valueAt kvs k = some v) (r : RelC c p v)
theorem findG_hit {K : Type} [DecidableEq K] {k : K} {p : PV} : ∀ {es : List (K × PV)} {kvs : List (K × Value)}, All2 (fun e x => e.1 = x.1 ∧ RelC c e.2 x.2) es kvs → findG es k = some p → Hit c kvs k p
  | _, _, .nil, e => nomatch e
  | _, _, .cons (a := e) (b := x) (l := es) (m := kvs) h t, hf => by
    unfold findG at hf
    rw [List.find?_cons] at hf
    by_cases hk : e.1 = k
    · rw [decide_eq_true hk] at hf
      cases hf
      refine ⟨x.2, ?_, h.2⟩
      unfold valueAt
      rw [List.find?_cons, decide_eq_true (h.1 ▸ hk)]; rfl
    · rw [decide_eq_false hk] at hf
      obtain ⟨v, g1, g2⟩ := findG_hit t hf
      refine ⟨v, ?_, g2⟩
      unfold valueAt at g1 ⊢
      rw [List.find?_cons, decide_eq_false (h.1 ▸ hk)]; exact g1
theorem findG_miss {K : Type} [DecidableEq K] {k : K} : ∀ {es : List (K × PV)} {kvs : List (K × Value)}, All2 (fun e x => e.1 = x.1 ∧ RelC c e.2 x.2) es kvs → findG es k = none → valueAt kvs k = none
  | _, _, .nil, _ => rfl
  | _, _, .cons (a := e) (b := x) (l := es) (m := kvs) h t, hf => by
    unfold findG at hf
    rw [List.find?_cons] at hf
    by_cases hk : e.1 = k
    · rw [decide_eq_true hk] at hf; cases hf
    · rw [decide_eq_false hk] at hf
      have ih := findG_miss t hf
      unfold valueAt at ih ⊢
      rw [List.find?_cons, decide_eq_false (h.1 ▸ hk)]; exact ih
theorem dictIO_of {o : MO} {es : List (Int × PV)} (h : dictIO o = some es) : (o = .dict0 ∧ es = []) ∨ o = .dictI es := by
  cases o <;> first | (cases h; exact .inl ⟨rfl, rfl⟩) | (cases h; exact .inr rfl) | cases h
theorem dictSO_of {o : MO} {es : List (Str × PV)} (h : dictSO o = some es) : (o = .dict0 ∧ es = []) ∨ o = .dictS es := by
  cases o <;> first | (cases h; exact .inl ⟨rfl, rfl⟩) | (cases h; exact .inr rfl) | cases h

theorem leaf_item (T : Top U C) (R : Room A n) {o i : PV} {u v : Value} (ha : RelC c o u) (hb : RelC c i v) {value slice : Expr} :
    OkM U A NoX c (subscriptTail value slice u v) (itemP o i) RelV L := by
  cases o with
  | tup l => exact OkM.at (m' := idxP l i) rfl (OkM.intP fun j hj => by cases hj; exact leaf_item_tup ha hb)
  | lst l =>
    obtain ⟨a, vs, rfl, ht, _, hl⟩ := ha.lst'
    exact OkM.at (m' := idxP l i) rfl (OkM.intP fun j hj => by cases hj; exact leaf_item_list ht hl hb)
  | loc k =>
    refine OkM.at (m' := (getO k).bind fun ob => itemO ob i) rfl (OkM.getO fun G ob hk => ?_)
    unfold itemO
    cases hl : listO ob with
    | some l =>
      cases listO_of hl
      obtain ⟨x, vs, rfl, hx, h1, h2⟩ := list_at G hk ha
      exact OkM.intP fun j hj => by cases hj; exact leaf_item_list h1 h2 hb
    | none =>
      refine OkM.ofB fun key hkey => OkM.ofB fun r hf => OkM.of fun pv hpv => ?_
      subst hpv
      obtain ⟨x, rfl, hx, hO⟩ := obj_at G hk ha
      cases key with
      | I j =>
        cases keyOf_int hkey
        obtain ⟨t, rfl⟩ := rel_int hb
        obtain ⟨es, he, hg⟩ := Option.map_eq_some_iff.mp hf
        rcases dictIO_of he with ⟨_, rfl⟩ | rfl
        · cases hg
        · obtain ⟨kvs, hd, hl⟩ := hO
          obtain ⟨w, g1, g2⟩ := findG_hit hl hg
          exact sub_tail (T := "dict") (id := "dict.__getitem__") (fun s hs => (Heap.DictOf.typeIs (hs ▸ hd))) slot_dict_getitem.lookup <|
            OkM.still fun s Q E hs hq => wpAny_getItem_of (knd := intKind U.prog U.w) (by simp [intKind, Value.isInt]) (Heap.DictOf.mapOf (hs ▸ hd)) g1 (hq _ _ g2)
      | T y =>
        cases keyOf_str hkey
        obtain ⟨t, rfl⟩ := rel_str hb
        obtain ⟨es, he, hg⟩ := Option.map_eq_some_iff.mp hf
        rcases dictSO_of he with ⟨_, rfl⟩ | rfl
        · cases hg
        · obtain ⟨kvs, hd, hl⟩ := hO
          obtain ⟨w, g1, g2⟩ := findG_hit hl hg
          exact sub_tail (T := "dict") (id := "dict.__getitem__") (fun s hs => (Heap.DictOf.typeIs (hs ▸ hd))) slot_dict_getitem.lookup <|
            OkM.still fun s Q E hs hq => wpAny_getItem_of (knd := strKind U.prog U.w) (strKind_is _ _ _ _) (Heap.DictOf.mapOf (hs ▸ hd)) g1 (hq _ _ g2)
  | _ => exact OkM.failAt (by kernel_rfl)
end
end Mine
end

section
namespace Mine
open PySem PyProof PyProof.Rows

section
variable {U : Setup} {C : Cfg} {A : Around} {X : Addr → Prop} {c : Cf} {L : Addr} {env : Env} {ρ : Locs} {n : Nat}

noncomputable def EoOk (U : Setup) (C : Cfg) (n : Nat) : Prop := ∀ A env ρ c e L, Room A n → Fk U C.hd A env ρ c → OkM U A NoX c (valueOrNone (evalOpt e env)) (evalO C n env.scope ρ e) (fun _ o v => IsPart v o) L

theorem eo_ok (hE : EvOk U C n) : EoOk U C (n + 1) := by
  intro A env ρ c e L R F
  cases e with
  | none => exact OkM.at2 (t' := Pure.pure .none) rfl evalO_none (OkM.pure .none)
  | some e =>
    refine OkM.at2 (t' := eval e env) rfl evalO_some ((hE _ _ _ _ _ _ R.down F).bind (k := Pure.pure) (fun c₁ a u L₁ G₁ ha => OkM.intP fun i hi => ?_) |>.at2 (bind_pure _).symm rfl)
    cases hi
    obtain ⟨t, rfl⟩ := rel_int ha
    exact OkM.pure (.int _ _)

theorem RelL.pick {h : Heap} {μ : Map} {O : Addr → Prop} {l : List PV} {vs : List Value} (hl : RelL h μ O l vs) : ∀ is : List Nat, RelL h μ O (is.filterMap (l[·]?)) (is.filterMap (vs[·]?))
  | [] => RelL.mkNil
  | i :: is => by
    have ih := RelL.pick hl is
    rw [List.filterMap_cons, List.filterMap_cons]
    cases hp : l[i]? with
    | none =>
      rw [List.getElem?_eq_none_iff.mpr (RelL.length hl ▸ List.getElem?_eq_none_iff.mp hp)]; exact ih
    | some p =>
      obtain ⟨v, h1, h2⟩ := RelL.get hl hp
      rw [h1]
      exact RelL.mkCons h2 ih

theorem RelL.slice {h : Heap} {μ : Map} {O : Addr → Prop} {l : List PV} {vs : List Value} {lo hi st : Option Int} (hl : RelL h μ O l vs) : RelL h μ O (sliceOf l lo hi st) (slicePick vs.toArray lo hi st).toList := by
  have := RelL.pick hl (sliceRange (sliceBounds lo hi st l.length).1 (sliceBounds lo hi st l.length).2.1 (sliceBounds lo hi st l.length).2.2)
  rw [sliceOf, slicePick, List.size_toArray, RelL.length hl, List.toList_toArray]
  simpa only [List.getElem?_toArray] using this

theorem leaf_slice {l : List PV} {u : Value} {sl : Addr} {vl vu vz : Value} {lo hi st : Option Int} (ha : RelC c (.lst l) u) (hs : c.h.IsSliceOf sl vl vu vz) (pl : IsPart vl lo) (pu : IsPart vu hi) (ps : IsPart vz st)
    (h0 : st ≠ some 0) (hz : l.length ≤ 100000) {value slice : Expr} : OkM U A NoX c (subscriptTail value slice u (.ref sl)) (M.ret (PV.lst (sliceOf l lo hi st))) RelV L := by
  obtain ⟨a, vs, rfl, ht, _, hl⟩ := ha.lst'
  refine sub_tail (T := "list") (id := "list.__getitem__") (fun s hs => (Heap.IsList.typeIs (hs ▸ ht : s.heap.IsList a vs.toArray))) slot_list_getitem.lookup ?_
  exact OkM.grow fun G s Q E hs' hq => wpAny_getItem_list_slice (hs' ▸ ht) (hs' ▸ hs) pl pu ps h0 (hq _ _ s.toks (push_keep hs' _) fun hz =>
    Rel.mkLst (vs := (slicePick vs.toArray lo hi st).toList) ⟨_, Heap.get?_push_size _ rfl, rfl, 0, by simp⟩ (notOwn_at G hs') (RelL.slice (RelL.upN (Le.grow (push_keep hs' _) hz) hl))) (by rw [sizeLine_eq, List.size_toArray, RelL.length hl]; omega)

inductive SlV (c : Cf) (q : Option Int × Option Int × Option Int) (v : Value) : Prop
  | mk (sl : Addr) (vl vu vz : Value) (e : v = .ref sl) (h : c.h.IsSliceOf sl vl vu vz) (pl : IsPart vl q.1) (pu : IsPart vu q.2.1) (pz : IsPart vz q.2.2)
theorem slice_ok (hO : EoOk U C n) (R : Room A (n + 1)) (F : Fk U C.hd A env ρ c) {lo up st : Option Expr} : OkM U A NoX c (do
      let l ← valueOrNone (evalOpt lo env)
      let u ← holding [l] (valueOrNone (evalOpt up env))
      let s ← holding [l, u] (valueOrNone (evalOpt st env))
      newFields "slice" [l, u, s]) ((evalO C n env.scope ρ lo).bind fun l => (evalO C n env.scope ρ up).bind fun u => (evalO C n env.scope ρ st).bind fun z => M.ret (l, u, z)) SlV L :=
  (hO _ _ _ _ _ _ R.down F).bind fun c₂ l vl L₂ G₂ hl => OkM.bind (OkM.holding (hO _ _ _ _ _ _ R.down (F.upN L₂))) fun c₃ h vh L₃ G₃ hh =>
    OkM.bind (OkM.holding (hO _ _ _ _ _ _ R.down ((F.upN L₂).upN L₃))) fun c₄ z vz L₄ G₄ hz => OkM.grow fun G s Q E hs hq =>
      wpAny_newObj_type (hq _ _ s.toks (push_keep hs _) fun hz' => ⟨_, vl, vh, vz, rfl, Heap.IsSliceOf.new _ _ _ _, hl, hh, hz⟩) (by show _ ≤ _; rw [sizeLine_eq]; simp)

theorem eval_Sub {o i : Expr} {pos : Pos} : eval (.Subscript o i pos) env = (do
    let ov ← eval o env
    let iv ← holding [ov] (eval i env)
    standAt pos
    subscriptTail o i ov iv) := rfl
theorem sliceV_of {i : Expr} {q : Option Expr × Option Expr × Option Expr} (h : sliceV i = some q) : ∃ p, i = .Slice q.1 q.2.1 q.2.2 p := by
  cases i <;> first | (cases h; done) | (cases h; exact ⟨_, rfl⟩)
theorem ev_Subscript (T : Top U C) (hE : EvOk U C n) (hO : EoOk U C n) (R : Room A (n + 1)) (F : Fk U C.hd A env ρ c) {o i : Expr} {pos : Pos} :
    OkM U A NoX c (eval (.Subscript o i pos) env) (evalE C (n + 1) env.scope ρ (.Subscript o i pos)) RelV L := by
  refine OkM.at2 eval_Sub evalE_Subscript ?_
  cases hs : sliceV i with
  | some q =>
    obtain ⟨p, rfl⟩ := sliceV_of hs
    refine (hE _ _ _ _ _ _ R.down F).bind fun c₁ a u L₁ G₁ ha => OkM.bind (OkM.holding (slice_ok hO R (F.upN L₁))) fun c₂ q v L₂ G₂ hv => OkM.standAt <| OkM.ofB fun l hl => OkM.iteF fun hz => ?_
    cases lstV_of hl
    obtain ⟨sl, vl, vu, vz, rfl, h1, h2, h3, h4⟩ := hv
    exact leaf_slice (ha.upN L₂) h1 h2 h3 h4 (fun e => hz (.inl e)) (by omega)
  | none => exact ev_two hE R F fun c₂ a b u v L₂ G₂ F₂ ha hb => leaf_item T R ha hb
end
end Mine
end

section
namespace Mine
open PySem PyProof PyProof.Rows

section
variable {U : Setup} {C : Cfg} {A : Around} {X : Addr → Prop} {c : Cf} {L : Addr} {env : Env} {ρ : Locs} {n : Nat}

inductive FlRel (c : Cf) : Fl → Flow → Prop
  | next : FlRel c .next .next
  | ret {p v} : RelC c p v → FlRel c (.ret p) (.ret v)

noncomputable def RelF (U : Setup) (hd : Bool) (A : Around) (env : Env) : Cf → Fl × Locs → Flow → Prop := fun c r f => FlRel c r.1 f ∧ Fk U hd A env r.2 c

noncomputable def SsOk (U : Setup) (C : Cfg) (n : Nat) : Prop := ∀ A env ρ c ss L outer, Room A n → Fk U C.hd A env ρ c → env.frame = some L → A.frames = some (env :: outer) →
  OkM U A (XOf env) c (PySem.execs ss env) (Mine.execs C n env.scope ρ ss) (RelF U C.hd A env) L
noncomputable def FnOk (U : Setup) (C : Cfg) (n : Nat) : Prop := ∀ A c f ps vs L, Room A n → FramesIn U A c → HandIn A c → (C.hd = false → A.handled = none) →
  RelLC c ps vs → OkM U A NoX c (call (.ref f) vs) (callF C n f ps) RelV L

/-- the store, cut back -/
noncomputable def Cf.cut (c : Cf) (n0 : Nat) : Cf := ⟨c.μ, dropTo c.st n0, c.h⟩
theorem cut_obj {c : Cf} {n0 k : Nat} {o : MO} (h : (c.cut n0).st.objs k = some o) : k < n0 ∧ c.st.objs k = some o := by
  have h' : (if k < n0 then c.st.objs k else none) = some o := h
  by_cases q : k < n0
  · rw [if_pos q] at h'; exact ⟨q, h'⟩
  · rw [if_neg q] at h'; cases h'
theorem cut_some {c : Cf} {n0 k : Nat} (h : ((c.cut n0).st.objs k).isSome = true) : (c.st.objs k).isSome = true := by
  obtain ⟨o, ho⟩ := Option.isSome_iff_exists.mp h
  rw [(cut_obj ho).2]; rfl
theorem cut_own {c : Cf} {n0 : Nat} {a : Addr} (h : Own (c.cut n0).μ (c.cut n0).st a) : Own c.μ c.st a :=
  let ⟨k, x, h1, h2, h3⟩ := h
  ⟨k, x, cut_some h1, h2, h3⟩
theorem cut_le {c : Cf} {n0 : Nat} : Le NoX c (c.cut n0) := ⟨fun _ _ e => e, fun a h => .inl (cut_own h), Nat.le_refl _, fun a o e _ _ => ⟨o.slots, e, fun _ => rfl⟩⟩
theorem cut_good {c : Cf} {n0 : Nat} (G : Good U c) : Good U (c.cut n0) :=
  ⟨G.stays, fun k o ho =>
    let ⟨x, hx, hO, hi⟩ := G.objs k o (cut_obj ho).2
    ⟨x, hx, hO.up cut_le (fun _ q => q.elim) rfl rfl, hi⟩, fun k h => G.idsO k (cut_some h), G.idsM, fun k k' x x' a b => G.apart k k' x x' (cut_some a) (cut_some b), fun a ha => G.fresh a (cut_own ha)⟩

theorem cut_apart {c : Cf} {n0 k : Nat} (G : Good U c) {x : Addr × Addr} (hk : (c.st.objs k).isSome = true) (hx : c.μ k = some x) (hn : ¬ k < n0) : ¬ Own (c.cut n0).μ (c.cut n0).st x.1 := fun ⟨k', y, q1, q2, q3⟩ => by
  obtain ⟨o, ho⟩ := Option.isSome_iff_exists.mp q1
  have hlt := (cut_obj ho).1
  have := G.apart k k' x y hk (cut_some q1) hx q2 (fun e => hn (e ▸ hlt))
  rcases q3 with q3 | q3
  · exact this.1 q3
  · exact this.2.1 q3
theorem freeze1_rel {c : Cf} {n0 : Nat} (G : Good U c) {p : PV} {v : Value} (h : RelC c p v) : RelC (c.cut n0) (freeze1 c.st n0 p) v := by
  have same : RelC (c.cut n0) p v := h.upN cut_le
  cases p with
  | loc k =>
    show RelC (c.cut n0) (if k < n0 then .loc k else match c.st.objs k with | some (.list l) => .lst l | _ => .loc k) v
    by_cases hk : k < n0
    · rw [if_pos hk]; exact same
    · rw [if_neg hk]
      cases hl : c.st.objs k with
      | none => exact same
      | some o =>
        cases o with
        | list l =>
          obtain ⟨x, vs, rfl, hx, h1, h2⟩ := list_at G hl h
          exact Rel.mkLst h1 (cut_apart G (by rw [hl]; rfl) hx hk) (h2.upN cut_le)
        | _ => exact same
  | _ => exact same

theorem freeze1L_rel {c : Cf} {n0 : Nat} (G : Good U c) : ∀ {l : List PV} {vs : List Value}, RelLC c l vs → RelLC (c.cut n0) (l.map (freeze1 c.st n0)) vs
  | [], _, h => h
  | _ :: _, _, ⟨v, r, e, hp, hr⟩ => ⟨v, r, e, freeze1_rel G hp, freeze1L_rel G hr⟩

theorem freeze_rel {c : Cf} {n0 : Nat} (G : Good U c) {p : PV} {v : Value} (h : RelC c p v) : RelC (c.cut n0) (freeze c.st n0 p) v := by
  cases p with
  | tup l => exact let ⟨a, vs, e, ht, hn, hl⟩ := h.tup'; ⟨a, vs, e, ht, fun q => hn (cut_own q), freeze1L_rel G hl⟩
  | _ => exact freeze1_rel G h

theorem cellsFrom_some {x : Str} : ∀ {names : List (Str × NameKind)} {n : Nat} {acc : List (Str × Addr)}, ((x, NameKind.cell) ∈ names ∨ (acc.lookup x).isSome = true) → ((cellsFrom n names acc).lookup x).isSome = true
  | [], n, acc, h => by
    rcases h with h | h
    · cases h
    · exact h
  | (y, k) :: r, n, acc, h => by
    unfold cellsFrom
    split
    · rename_i hk
      refine cellsFrom_some ?_
      by_cases hxy : x = y
      · subst hxy; right; simp [List.lookup_cons]
      · rcases h with h | h
        · rcases List.mem_cons.mp h with e | h
          · cases e; exact absurd rfl hxy
          · exact .inl h
        · right
          rw [List.lookup_cons, beq_eq_false_iff_ne.mpr hxy]; exact h
    · rename_i hk
      refine cellsFrom_some ?_
      rcases h with h | h
      · rcases List.mem_cons.mp h with e | h
        · cases e; exact absurd rfl hk
        · exact .inl h
      · exact .inr h

/-- how parameters come to their variables -/
theorem bind_look {c : Cf} {m : Str → Option Value} {p x : Str} {a pv : PV} {v : Value} {ρ : Locs} (hp : RelC c a v) (h : ρ.lookup x = some pv → GetV (RelC c pv) (m x)) (hl : ((p, a) :: ρ).lookup x = some pv) : GetV (RelC c pv) (if x = p then some v else m x) := by
  rw [List.lookup_cons] at hl
  by_cases q : x = p
  · rw [beq_iff_eq.mpr q] at hl
    cases hl
    exact ⟨v, if_pos q, hp⟩
  · rw [beq_eq_false_iff_ne.mpr q] at hl
    obtain ⟨w, e, r⟩ := h hl
    exact ⟨w, (if_neg q).trans e, r⟩
theorem bindL_rel {kind : Str → Option NameKind} {x : Str} {pv : PV} (hx : kind x = some .local) : ∀ {ps : List Str} {as : List PV} {vs : List Value} {m : Str → Option Value} {ρ : Locs}, RelLC c as vs → (ρ.lookup x = some pv → GetV (RelC c pv) (m x)) →
    ((ps.zip as).reverse ++ ρ).lookup x = some pv → GetV (RelC c pv) (bindL kind (ps.zip vs) m x)
  | [], _, _, _, _, _, h, hl => h hl
  | _ :: _, [], _, _, _, e, h, hl => by cases e; exact h hl
  | p :: ps, a :: as, _, m, ρ, ⟨v, r, e, hp, hr⟩, h, hl => by
    subst e
    rw [List.zip_cons_cons, List.reverse_cons, List.append_assoc] at hl
    refine bindL_rel (ps := ps) (ρ := (p, a) :: ρ) hx hr (fun hl => ?_) hl
    by_cases q : kind p = some .local
    · rw [if_pos q]; exact bind_look hp h hl
    · rw [if_neg q]
      rw [List.lookup_cons, beq_eq_false_iff_ne.mpr (fun e : x = p => q (e ▸ hx))] at hl
      exact h hl
theorem bindC_rel {kind : Str → Option NameKind} {x : Str} {pv : PV} (hx : kind x = some .cell) : ∀ {ps : List Str} {as : List PV} {vs : List Value} {m : Str → Option Value} {ρ : Locs}, RelLC c as vs → (ρ.lookup x = some pv → GetV (RelC c pv) (m x)) →
    ((ps.zip as).reverse ++ ρ).lookup x = some pv → GetV (RelC c pv) (bindC kind (ps.zip vs) m x)
  | [], _, _, _, _, _, h, hl => h hl
  | _ :: _, [], _, _, _, e, h, hl => by cases e; exact h hl
  | p :: ps, a :: as, _, m, ρ, ⟨v, r, e, hp, hr⟩, h, hl => by
    subst e
    rw [List.zip_cons_cons, List.reverse_cons, List.append_assoc] at hl
    refine bindC_rel (ps := ps) (ρ := (p, a) :: ρ) hx hr (fun hl => ?_) hl
    by_cases q : kind p = some .local
    · rw [if_pos q]
      rw [List.lookup_cons, beq_eq_false_iff_ne.mpr (fun e : x = p => by rw [← e, hx] at q; cases q)] at hl
      exact h hl
    · rw [if_neg q]; exact bind_look hp h hl

theorem callEnvC_scope (fd : FuncData) (L a : Addr) : (callEnvC fd L a).scope = fd.scope ∧ (callEnvC fd L a).locals = L ∧ (callEnvC fd L a).globals = fd.globals ∧ (callEnvC fd L a).builtins = fd.builtins ∧ (callEnvC fd L a).frame = some L ∧
    (callEnvC fd L a).cells = cellsFrom (L + 1) fd.scope.names [] := ⟨rfl, rfl, rfl, rfl, rfl, rfl⟩

/-- within a call -/
structure FnIn (U : Setup) (hd : Bool) (A : Around) (c : Cf) (env : Env) (ρ : Locs) (s s₁ : Shared) : Prop where
  same : Same s s₁
  le : Le NoX c { c with h := s₁.heap }
  good : Good U { c with h := s₁.heap }
  low : ∀ a, XOf env a → c.h.objs.size ≤ a
  fk : Fk U hd (A.deeper env) env ρ { c with h := s₁.heap }
theorem noB_of (G : Good U c) {a : Addr} (ha : c.h.objs.size ≤ a) : U.B.get? a = none := by
  cases e : U.B.get? a with
  | none => rfl
  | some ob => exact absurd (Heap.lt_size (G.stays a ob e)) (Nat.not_lt.mpr ha)
theorem noOwn_of (G : Good U c) {a : Addr} (ha : c.h.objs.size ≤ a) : ¬ Own c.μ c.st a := fun q => absurd (G.fresh a q).2 (Nat.not_lt.mpr ha)
theorem fn_enter {hd : Bool} {fd : FuncData} {f : Addr} {fn : Fn} {ps : List PV} {vs : List Value} {s s₁ : Shared} (hs : s.heap = c.h) (G : Good U c) (FR : FramesIn U A c) (HA : HandIn A c) (hh : hd = false → A.handled = none) (hv : RelLC c ps vs)
    (hsc : fd.scope = fn.sc) (hk : fn.sc.kind = .function) (hglo : fd.globals = mainGlobals) (hbui : fd.builtins = builtinsNs)
    (I : InCallC s (callEnvC fd s.heap.objs.size f).locals (bindL (callEnvC fd s.heap.objs.size f).kindOf (fn.params.zip vs) fun _ => none) (callEnvC fd s.heap.objs.size f).cells (bindC (callEnvC fd s.heap.objs.size f).kindOf (fn.params.zip vs) fun _ => none) s₁) :
    FnIn U hd A c (callEnvC fd s.heap.objs.size f) (fn.params.zip ps).reverse s s₁ := by
  have hkeep : ∀ b o, c.h.get? b = some o → s₁.heap.get? b = some o := fun b o e => I.toInCall.keep b o (hs ▸ e)
  have hLs : c.h.objs.size ≤ s.heap.objs.size := by rw [hs]; exact Nat.le_refl _
  have hsz : c.h.objs.size ≤ s₁.heap.objs.size := Nat.le_trans hLs (Nat.le_of_lt I.toInCall.ns.lt)
  have L₁ : Le NoX c { c with h := s₁.heap } := Le.grow hkeep hsz
  have hX : ∀ a, XOf (callEnvC fd s.heap.objs.size f) a → c.h.objs.size ≤ a := by
    rintro a (rfl | ⟨x, hx⟩)
    · exact hLs
    · exact Nat.le_trans hLs (Nat.le_of_lt (I.above x a (mem_of_lookup hx)))
  have hv₁ := hv.upN L₁
  refine ⟨?_, L₁, G.grow hkeep hsz, hX, ⟨by rw [(callEnvC_scope fd _ f).1, hsc]; exact hk, hglo, hbui, ⟨_, I.toInCall.ns, fun x pv hx hl => bindL_rel hx hv₁ (ρ := []) (fun h => nomatch h) (by rw [List.append_nil]; exact hl)⟩, fun x hx => ?_, I.apart, fun x a hx => ?_, fun a ha => ⟨noOwn_of G (hX a ha), noB_of G (hX a ha)⟩, ?_, hh, HA.up L₁⟩⟩
  · obtain ⟨h₁, tk, rfl⟩ := I.toInCall.same; exact Same.mk _ _ _
  · have hmem : (x, NameKind.cell) ∈ fd.scope.names := mem_of_lookup hx
    obtain ⟨a, ha⟩ := Option.isSome_iff_exists.mp (cellsFrom_some (n := s.heap.objs.size + 1) (acc := []) (.inl hmem))
    exact ⟨a, _, ha, I.cell x a ha, fun pv hl => bindC_rel hx hv₁ (ρ := []) (fun h => nomatch h) (by rw [List.append_nil]; exact hl)⟩
  · refine ⟨fun e => ?_, _, I.cell x a hx⟩
    have := I.above x a (mem_of_lookup hx)
    rw [e] at this
    exact Nat.lt_irrefl _ this
  · obtain ⟨l, hl, hf, hn⟩ := (FR.up (fun _ q => q.elim) L₁).all
    refine ⟨_, Around.frames_deeper hl, Heap.FunFrames.cons (L := (callEnvC fd s.heap.objs.size f).locals) ?_ rfl I.toInCall.ns rfl hf, fun a ha => ?_⟩
    · rw [(callEnvC_scope fd _ f).1, hsc, hk]; decide
    · rw [List.filterMap_cons] at ha
      rcases List.mem_cons.mp ha with rfl | ha
      · obtain ⟨o, es, ep, ho, hd', _⟩ := I.toInCall.ns
        exact ⟨noOwn_of G hLs, noB_of G hLs, o, es, ep, ho, hd'⟩
      · exact hn a ha

/-- a function's call, as code -/
noncomputable def OkC (U : Setup) (A : Around) (c : Cf) (f : Addr) (vs : List Value) (m : M PV) (L : Addr) : Prop :=
  Good U c → ∀ s : Shared, s.heap = c.h → ∀ r st', m c.st = some (r, st') → ∀ R : Result → Shared → Prop,
    (∀ b a c' s', r = .ok b → c'.st = st' → s'.heap = c'.h → Same s s' → Ends U NoX c c' → RelC c' b a → R (.ok (.ret a)) s') →
    (∀ e c' s', r = .exc → c'.st = st' → s'.heap = c'.h → Same s s' → Ends U NoX c c' → Exn c'.h c.h.objs.size U.lim L e → FramesIn U A c' → R (.error (.ref e)) s') →
    codeAny (model U.prog U.w) A (.call (.ref f) ⟨vs, []⟩) R s
theorem OkC.ok {f : Addr} {vs : List Value} {m : M PV} (h : OkC U A c f vs m L) : OkM U A NoX c (call (.ref f) vs) m RelV L :=
  fun G s hs r st' hm Q E hQ hE => wpAny_call (h G s hs r st' hm _ hQ hE)
noncomputable def RunOk (U : Setup) (C : Cfg) (n : Nat) : Prop := ∀ A c f ps vs L, Room A n → FramesIn U A c → HandIn A c → (C.hd = false → A.handled = none) →
  RelLC c ps vs → OkC U A c f vs (runF C n f ps) L

theorem OkC.at {f : Addr} {vs : List Value} {m m' : M PV} (e : m = m') (h : OkC U A c f vs m' L) : OkC U A c f vs m L := e ▸ h
theorem OkC.fail {f : Addr} {vs : List Value} : OkC U A c f vs M.fail L := fun _ _ _ _ _ hm => nomatch hm
theorem OkM.cut {t : Sem Value} {m : M PV} (h : OkM U A NoX c t m RelV L) (FR : FramesIn U A c) : OkM U A NoX c t (cutM m) RelV L := by
  intro G s hs r st' hm
  unfold cutM at hm
  cases hx : m c.st with
  | none => rw [hx] at hm; cases hm
  | some q =>
    obtain ⟨q, st₁⟩ := q
    rw [hx] at hm
    cases q with
    | ok b =>
      cases hm
      exact fun Q E hQ hE => h G s hs _ st₁ hx Q E (fun b a c' s' e w1 w2 w3 w4 w5 => by
        cases e; subst w1
        exact hQ _ a (c'.cut c.st.next) s' rfl rfl w2 w3 ⟨w4.1.trans cut_le, cut_good w4.2⟩ (freeze_rel w4.2 w5)) (fun e c' s' e' => nomatch e')
    | exc =>
      cases hm
      exact fun Q E hQ hE => h G s hs _ st₁ hx Q E (fun b a c' s' e => nomatch e) (fun e c' s' e' w1 w2 w3 w4 w5 w6 => by
        subst w1
        exact hE e (c'.cut c.st.next) s' rfl rfl w2 w3 ⟨w4.1.trans cut_le, cut_good w4.2⟩ w5 (w6.up (fun _ q => q.elim) cut_le))

theorem RunOk.fn (h : RunOk U C n) : FnOk U C n := fun A c f ps vs L R FR HA hd hv => (h A c f ps vs L R FR HA hd hv).ok.cut FR

theorem Exn.obj {h : Heap} {lo : Nat} {C L e : Addr} (x : Exn h lo C L e) : ∃ oe vs, h.get? e = some oe ∧ oe.cls = .ref C ∧ oe.data = .fields vs := let ⟨_, oe, vs, g1, g2, g3, _, _⟩ := x; ⟨oe, vs, g1, g2, g3⟩
/-- a call's end with an exception -/
theorem run_exc {hd : Bool} {env : Env} {l : List Env} {s s₁ s' : Shared} {c' : Cf} {e : Addr} {E : Value → Shared → Prop} (I : FnIn U hd A c env ρ s s₁) (hl : A.frames = some l) (he2 : env.frame = some env.locals) (FR : FramesIn U A c) (w2 : s'.heap = c'.h) (w3 : Same s₁ s')
    (w4 : Ends U (XOf env) { c with h := s₁.heap } c') (w5 : Exn c'.h s₁.heap.objs.size U.lim env.locals e) (w6 : FramesIn U (A.deeper env) c')
    (h : ∀ h₃, Same s { s' with heap := h₃ } → Ends U NoX c { c' with h := h₃ } → Exn h₃ c.h.objs.size U.lim L e → FramesIn U A { c' with h := h₃ } → E (.ref e) { s' with heap := h₃ }) :
    ∀ E', wpAny (model U.prog U.w) (A.deeper env) (leaving env (.ref e)) (fun _ s => E (.ref e) s) E' s' := by
  intro E'
  obtain ⟨l', hl', hff, hnn⟩ := w6.all
  rw [Around.frames_deeper hl] at hl'; cases hl'
  refine wpAny_bind (sta_note (L := env.locals) (Around.frames_deeper hl) (w2 ▸ hff) he2 (w2 ▸ w5) (w2 ▸ w4.1.size) fun h₂ st₂ => ?_)
  refine sta_flight (w2 ▸ w4.1.size) st₂ fun h₃ st₃ => ?_
  rw [w2] at st₃
  obtain ⟨D', FR'⟩ := Sta.keeps (A := A.deeper env) st₃ (Around.frames_deeper hl) w6 w4 I.good w5.obj
  have Lc : Le NoX c { c' with h := h₃ } := I.le.through I.low D'.1
  exact h h₃ ((I.same.trans w3).trans (Same.mk _ _ _)) ⟨Lc, D'.2⟩ ((st₃.toExn (L' := L) fun f hf => .inl hf).low I.le.size) (FR.up (fun _ q => q.elim) Lc)
theorem runF_eq {f : Addr} {ps : List PV} : runF C (n + 1) f ps = match C.fns f with
    | Option.none => M.fail
    | some fn => if fn.params.length = ps.length then (Mine.execs C n fn.sc (fn.params.zip ps).reverse fn.body).bind fun r => M.ret (retV r) else M.fail := by kernel_rfl
theorem FlRel.retV {c : Cf} {r : Fl × Locs} {f : Flow} : FlRel c r.1 f → RelC c (Mine.retV r) (match f with | .ret v => v | _ => .none) := by
  intro h
  obtain ⟨fl, ρ⟩ := r
  cases h with
  | ret h => exact h
  | next => exact mkrel_none
theorem run_ok (T : Top U C) (hS : SsOk U C n) : RunOk U C (n + 1) := by
  intro A c f ps vs L R FR HA hd hv
  refine OkC.at runF_eq ?_
  cases hf : C.fns f with
  | none => exact OkC.fail
  | some fn =>
    by_cases hlen : fn.params.length = ps.length
    · refine OkC.at (if_pos hlen) ?_
      obtain ⟨o, fd, ho, hdat, hbody, hsc, hclo, hglo, hbui, hcr, hk, hco, hge, hbind, hkind⟩ := T.fns f fn hf
      intro G s hs r st' hm Rz hQ hE
      have hks : ∀ x ∈ fn.params.zip vs, fd.scope.names.lookup x.1 = some .local ∨ (fd.scope.names.lookup x.1 = some .cell ∧ ((cellsFrom (s.heap.objs.size + 1) fd.scope.names []).lookup x.1).isSome = true) := fun x hx => by
        rw [hsc]
        exact (hkind x.1 (List.of_mem_zip hx).1).imp id fun h => ⟨h, cellsFrom_some (.inl (mem_of_lookup h))⟩
      refine codeAny_call_cells (fd := fd) (body := fn.body) (binds := fn.params.zip vs) (by have := R.1; unfold recursionLimit; omega) (hs ▸ G.stays _ _ ho) hdat ((T.nolimit.keeps G.stays).keeps (by rw [hs]; exact fun _ _ e => e))
        ((hcr.keeps G.stays).keeps (by rw [hs]; exact fun _ _ e => e)) hbody (hbind vs (by rw [RelL.length hv]; exact hlen.symm)) hclo hks (fun s₁ I => ?_) (by rw [hsc]; exact hco) (by rw [hsc]; exact hge) (by rw [hsc]; exact hk)
      have I := fn_enter hs G FR HA hd hv hsc hk hglo hbui I
      obtain ⟨l, hl, _, _⟩ := FR.all
      have he1 : (callEnvC fd s.heap.objs.size f).scope = fn.sc := hsc
      have he2 : (callEnvC fd s.heap.objs.size f).frame = some (callEnvC fd s.heap.objs.size f).locals := rfl
      generalize callEnvC fd s.heap.objs.size f = env at I he1 he2 ⊢
      have hR : Room (A.deeper env) n := ⟨by have := R.1; show A.depth + 1 + n ≤ _; omega, by have := R.2; show A.units + 3 + 20 * n ≤ _; omega⟩
      have body := hS (A.deeper env) env (fn.params.zip ps).reverse { c with h := s₁.heap } fn.body env.locals l hR I.fk he2 (Around.frames_deeper hl) I.good s₁ rfl
      rw [he1] at body
      rcases bind_cases hm with ⟨hx, rfl⟩ | ⟨q, st₁, hx, hm⟩
      · exact body _ st' hx _ _ (fun b a c' s' e => nomatch e) fun e c' s' _ w1 w2 w3 w4 w5 w6 =>
          run_exc (E := fun e s => Rz (.error e) s) I hl he2 FR w2 w3 w4 w5 w6 (fun h₃ a b x d => hE e { c' with h := h₃ } _ rfl w1 rfl a b x d) _
      · cases hm
        exact body _ _ hx _ _ (fun b a c' s' e w1 w2 w3 w4 w5 => by
          cases e
          exact hQ _ _ c' s' rfl w1 w2 (I.same.trans w3) ⟨I.le.through I.low w4.1, w4.2⟩ w5.1.retV) fun e c' s' q => nomatch q
    · exact OkC.at (if_neg hlen) .fail
end
end Mine
end

section
namespace Mine
open PySem PyProof PyProof.Rows

section
variable {U : Setup} {C : Cfg} {A : Around} {X : Addr → Prop} {c : Cf} {L : Addr} {env : Env} {ρ : Locs} {n : Nat}

theorem plain_cons {e : Expr} {r : List Expr} (h : (e :: r).all plainArg = true) : starred e = false ∧ r.all plainArg = true := by
  rw [List.all_cons, Bool.and_eq_true] at h
  exact ⟨(Bool.not_eq_true' _).mp h.1, h.2⟩
theorem plain_back {pos : Pos} : ∀ {es : List Expr}, es.all plainArg = true → (backTo pos (starEach es env)).any (·.1) = false
  | [], _ => rfl
  | e :: r, h => by rw [starEach_cons (plain_cons h).1, List.any_cons, plain_back (plain_cons h).2]; rfl

theorem ok_evalArgs (hS : EsOk U C n) (R : Room A n) (F : Fk U C.hd A env ρ c) {f : Value} {args : List Expr} {pos : Pos} (hp : args.all plainArg = true) :
    OkM U A NoX c (evalArgs f true (backTo pos (starEach args env)) []) (evalEs C n env.scope ρ args) (fun c' ps a => a.kw = [] ∧ RelLC c' ps a.pos) L := by
  intro G s hs r st' hm Q E hQ hE
  have key := hS A env ρ c args pos L R F G s hs r st' hm (fun vs s' => Q ⟨vs, []⟩ s') E (fun b a c' s' w1 w2 w3 w4 w5 w6 => hQ b _ c' s' w1 w2 w3 w4 w5 ⟨rfl, w6⟩) hE
  cases args with
  | nil =>
    unfold evalArgs
    show wpAny _ A (spliced [] >>= _) Q E s
    exact wpAny_bind (wpAny_mono key (fun vs s' h' => wpAny_bind (wpAny_pure (wpAny_holding (wpAny_bind (wpAny_pure (wpAny_bind (wpAny_pure (wpAny_pure h')))))))) fun _ _ x => x)
  | cons e r =>
    rw [starEach_cons (plain_cons hp).1] at key ⊢
    exact Calls.evalArgs_plain key

theorem ok_callWith (hS : EsOk U C n) (R : Room A n) (F : Fk U C.hd A env ρ c) {f : Value} {first : List Value} {args : List Expr} {pos : Pos} {β : Type} {m : List PV → M β} {P : Cf → β → Value → Prop} (hp : plainArgs args = true) (KeepOk : Prop)
    (hk : ∀ h, U.B.StaysIn h → KeepOk → ∃ k, (k = Keeper.frame ∨ k = Keeper.machine ∨ k = Keeper.boundFrame) ∧ W.Looks (model U.prog U.w) h (keeperOf f) k)
    (hm : ∀ ps st q, m ps st = some q → KeepOk)
    (hcall : ∀ c' ps vs, Le NoX c c' → Good U c' → Fk U C.hd A env ρ c' → RelLC c' ps vs → OkM U A NoX c' (call f (first ++ vs)) (m ps) P L) :
    OkM U A NoX c (callWith pos f first (backTo pos (starEach args env)) []) ((evalEs C n env.scope ρ args).bind m) P L := by
  have hp := (Bool.and_eq_true_iff.mp hp).1
  intro G s hs r st' hrun Q E hQ hE
  refine W.callWith_of (P := fun h => U.B.StaysIn h ∧ KeepOk) (by rw [plain_back hp]; rfl) (fun h hh => hk h hh.1 hh.2) ?_
  rcases bind_cases hrun with ⟨hx, rfl⟩ | ⟨ps, st₁, hx, hrun⟩
  · exact ok_evalArgs hS R F hp G s hs _ _ hx _ E (fun b a c' s' e => nomatch e) (fun e c' s' _ w1 w2 w3 w4 w5 w6 => hE e c' s' rfl w1 w2 w3 w4 w5 w6)
  · refine ok_evalArgs (L := L) hS R F hp G s hs _ _ hx _ E (fun b a c' s' e w1 w2 w3 w4 w5 => ?_) (fun e c' s' q => nomatch q)
    cases e
    subst w1
    refine ⟨⟨by rw [w2]; exact w4.2.stays, hm ps _ _ hrun⟩, ?_⟩
    rw [w5.1]
    exact hcall c' ps a.pos w4.1 w4.2 (F.upN w4.1) w5.2 w4.2 s' w2 r st' hrun Q E (fun b' a' c'' s'' x1 x2 x3 x4 x5 x6 => hQ b' a' c'' s'' x1 x2 x3 (w3.trans x4) ⟨w4.1.trans x5.1, x5.2⟩ x6)
        (fun e c'' s'' x1 x2 x3 x4 x5 x6 x7 => hE e c'' s'' x1 x2 x3 (w3.trans x4) ⟨w4.1.trans x5.1, x5.2⟩ (x6.low w4.1.size) x7)

noncomputable def CvOk (U : Setup) (C : Cfg) (n : Nat) : Prop := ∀ A c pf f ps vs L, Room A n → FramesIn U A c → HandIn A c → (C.hd = false → A.handled = none) →
  RelC c pf f → RelLC c ps vs → OkM U A NoX c (call f vs) (callV C n pf ps) RelV L

theorem keep_val {f : Value} (h : ∀ a, f ≠ .ref a) (hp : Heap) {M : Model} : ∃ k, (k = Keeper.frame ∨ k = Keeper.machine ∨ k = Keeper.boundFrame) ∧ W.Looks M hp (keeperOf f) k := by
  refine ⟨.machine, .inr (.inl rfl), ?_⟩
  rw [show keeperOf f = pure .machine by cases f <;> first | rfl | exact absurd rfl (h _)]
  exact W.Looks.now

theorem attrV_none {f : Expr} (h : attrV f = none) : ∀ o m p, f ≠ .Attribute o m p := by
  rintro o m p rfl
  cases h

theorem callV_ref {a : Addr} {args : List PV} : callV C (n + 1) (.con (.ref a)) args = match args with
        | [] => if C.hd then M.fail else (match C.inits a with
          | some i => (newO (.inst a [])).bind fun k => (runF C n i [.loc k]).bind fun v => if noneV v then M.ret (.loc k) else M.fail
          | Option.none => M.fail)
        | _ :: _ => cutM (runF C n a args) := by kernel_rfl
theorem callV_keep {pf : PV} {a : Addr} {c : Cf} {ps : List PV} {st : St} {q : R PV × St} (hf : RelC c pf (.ref a)) (hq : callV C n pf ps st = some q) : (C.fns a).isSome = true ∨ (C.inits a).isSome = true := by
  cases n with
  | zero => exact nomatch hq
  | succ n =>
    cases pf with
    | con w =>
      cases hf.con'
      rw [callV_ref] at hq
      cases ps with
      | nil =>
        cases hi : C.inits a with
        | some i => exact .inr rfl
        | none => rw [hi] at hq; cases hh : C.hd <;> rw [hh] at hq <;> exact nomatch hq
      | cons p r =>
        cases hfn : C.fns a with
        | some fn => exact .inl rfl
        | none =>
          unfold cutM at hq
          cases n with
          | zero => exact nomatch hq
          | succ n => rw [runF_eq, hfn] at hq; exact nomatch hq
    | _ => exact nomatch hq
theorem eval_CallP {f : Expr} {args : List Expr} {pos : Pos} (hf : ∀ o m p, f ≠ .Attribute o m p) : eval (.Call f args [] pos) env = (do callWith pos (← eval f env) [] (backTo pos (starEach args env)) []) := by
  cases f <;> first | rfl | exact absurd rfl (hf _ _ _)
theorem ev_CallP (T : Top U C) (hE : EvOk U C n) (hS : EsOk U C n) (hV : CvOk U C n) (R : Room A (n + 1)) (F : Fk U C.hd A env ρ c) {f : Expr} {args : List Expr} {pos : Pos} (hf : ∀ o m p, f ≠ .Attribute o m p) (hp : plainArgs args = true) :
    OkM U A NoX c (eval (.Call f args [] pos) env) ((evalE C n env.scope ρ f).bind fun fv => (evalEs C n env.scope ρ args).bind fun vs => callV C n fv vs) RelV L := by
  refine OkM.at2 (eval_CallP hf) rfl ((hE _ _ _ _ _ _ R.down F).bind fun c₁ pf fv L₁ G₁ hfv => ?_)
  obtain ⟨K, hK, _, hKeep, _, _, _, _, _, _⟩ := T.frag
  refine ok_callWith hS R.down (F.upN L₁) hp (∀ a, fv = .ref a → W.keepIn K (.ref a) = true) (fun h hB hk => ?_) (fun ps st q hq a ha => ?_) fun c₂ ps vs L₂ G₂ F₂ hvs => hV _ _ _ _ _ _ _ R.down F₂.frames F₂.hand.2 F₂.hand.1 (hfv.upN L₂) hvs
  · by_cases ha : ∃ a, fv = .ref a
    · obtain ⟨a, rfl⟩ := ha
      exact W.keeps_K (hk a rfl) h (hK.keeps hB)
    · exact keep_val (fun a e => ha ⟨a, e⟩) h
  · subst ha
    exact hKeep a (callV_keep hfv hq)
end
end Mine
end

section
namespace Mine
open PySem PyProof PyProof.Rows

section
variable {U : Setup} {C : Cfg} {A : Around} {X : Addr → Prop} {c : Cf} {L : Addr} {env : Env} {ρ : Locs} {n : Nat}

/-- an object of the store turns -/
noncomputable def Cf.put (c : Cf) (k : Nat) (o : MO) (h : Heap) : Cf := ⟨c.μ, { c.st with objs := fun j => if j = k then some o else c.st.objs j }, h⟩

theorem put_live {k : Nat} {o : MO} {h : Heap} (hl : (c.st.objs k).isSome = true) (j : Nat) : ((c.put k o h).st.objs j).isSome = (c.st.objs j).isSome := by
  show (if j = k then some o else c.st.objs j).isSome = _
  by_cases e : j = k
  · rw [if_pos e, e, hl]; rfl
  · rw [if_neg e]
theorem put_own {k : Nat} {o : MO} {h : Heap} (hl : (c.st.objs k).isSome = true) (a : Addr) : Own (c.put k o h).μ (c.put k o h).st a ↔ Own c.μ c.st a :=
  ⟨fun ⟨j, x, h1, h2⟩ => ⟨j, x, (put_live hl j).symm.trans h1, h2⟩, fun ⟨j, x, h1, h2⟩ => ⟨j, x, (put_live hl j).trans h1, h2⟩⟩

theorem put_le {k : Nat} {o : MO} {h : Heap} {x : Addr × Addr} (hx : c.μ k = some x) (hl : (c.st.objs k).isSome = true) (hoth : ∀ b ob, b ≠ x.1 → b ≠ x.2 → c.h.get? b = some ob → h.get? b = some ob) (hs : c.h.objs.size ≤ h.objs.size) :
    Le X c (c.put k o h) :=
  ⟨fun _ _ e => e, fun a ha => .inl ((put_own hl a).mp ha), hs, fun a ob e hn _ => ⟨ob.slots, hoth a ob (fun q => hn (q ▸ ⟨k, x, hl, hx, .inl rfl⟩)) (fun q => hn (q ▸ ⟨k, x, hl, hx, .inr rfl⟩)) e, fun _ => rfl⟩⟩

theorem put_good (G : Good U c) {k : Nat} {o : MO} {h : Heap} {x : Addr × Addr} (hx : c.μ k = some x) (hl : (c.st.objs k).isSome = true) (hoth : ∀ b ob, b ≠ x.1 → b ≠ x.2 → c.h.get? b = some ob → h.get? b = some ob) (hs : c.h.objs.size ≤ h.objs.size)
    (ho : ORel U (c.put k o h) o x) (hi : x.2 = x.1 ∨ ∃ C fs, o = .inst C fs) : Good U (c.put k o h) := by
  have L := put_le (X := NoX) (o := o) hx hl hoth hs
  have own1 : Own c.μ c.st x.1 := ⟨k, x, hl, hx, .inl rfl⟩
  have own2 : Own c.μ c.st x.2 := ⟨k, x, hl, hx, .inr rfl⟩
  refine ⟨fun b ob e => ?_, fun k' o' hk' => ?_, fun k' hk' => G.idsO k' (by rw [put_live hl] at hk'; exact hk'), G.idsM, fun k₁ k₂ y y' a b => G.apart k₁ k₂ y y' (by rw [put_live hl] at a; exact a) (by rw [put_live hl] at b; exact b),
    fun a ha => ⟨(G.fresh a ((put_own hl a).mp ha)).1, Nat.lt_of_lt_of_le (G.fresh a ((put_own hl a).mp ha)).2 hs⟩⟩
  · refine hoth b ob ?_ ?_ (G.stays b ob e)
    · rintro rfl; rw [(G.fresh _ own1).1] at e; cases e
    · rintro rfl; rw [(G.fresh _ own2).1] at e; cases e
  · by_cases hkk : k' = k
    · subst hkk
      cases ((if_pos rfl).symm.trans hk' : some o = some o')
      exact ⟨x, hx, ho, hi⟩
    · have hk' : c.st.objs k' = some o' := (if_neg hkk).symm.trans hk'
      obtain ⟨y, hy, hO, hI⟩ := G.objs k' o' hk'
      have ap := G.apart k' k y x (by rw [hk']; rfl) hl hy hx hkk
      refine ⟨y, hy, hO.up L (fun _ q => q.elim) ?_ ?_, hI⟩
      · obtain ⟨ob, e, _⟩ := G.own_kind (Own.of hk' hy).1
        rw [e]; exact hoth _ _ ap.1 ap.2.1 e
      · obtain ⟨ob, e, _⟩ := G.own_kind (Own.of hk' hy).2
        rw [e]; exact hoth _ _ ap.2.2.1 ap.2.2.2 e

theorem dict_mapSeq (o : Obj) (f) : (o.mapSeq f).dict = o.dict := by
  obtain ⟨c, d, dt, sl⟩ := o; cases dt <;> rfl

/-- a list of the store turns by its items alone -/
theorem put_list (G : Good U c) {k : Nat} {l l' : List PV} {x : Addr × Addr} {vs vs' : List Value} {f : Array Value → Array Value} (hk : c.st.objs k = some (.list l)) (hx : c.μ k = some x) (hl : c.h.IsList x.1 vs.toArray)
    (hf : f vs.toArray = vs'.toArray) (hr : RelLC c l' vs') : Ends U X c (c.put k (.list l') (c.h.update x.1 (Obj.mapSeq f))) := by
  obtain ⟨y, hy, hO, hi⟩ := G.objs k _ hk
  rw [hx] at hy; cases hy
  have hx2 : x.2 = x.1 := by
    rcases hi with hi | ⟨_, _, q⟩
    · exact hi
    · cases q
  obtain ⟨_, _, _, hdn⟩ := hO
  obtain ⟨o, ho, hc, n, hd⟩ := hl
  have hlive : (c.st.objs k).isSome = true := by rw [hk]; rfl
  have hoth : ∀ b ob, b ≠ x.1 → b ≠ x.2 → c.h.get? b = some ob → (c.h.update x.1 (Obj.mapSeq f)).get? b = some ob := fun b ob h1 _ e => (Heap.get?_update_other _ _ (Ne.symm h1)).trans e
  have hs : c.h.objs.size ≤ (c.h.update x.1 (Obj.mapSeq f)).objs.size := Nat.le_of_eq (Heap.size_after_update ..).symm
  obtain ⟨n', hd'⟩ := Obj.data_mapSeq hd f
  have hget : (c.h.update x.1 (Obj.mapSeq f)).get? x.1 = some (o.mapSeq f) := Heap.get?_update_self _ ho (Obj.isFreed_of_seq hd')
  refine ⟨put_le hx hlive hoth hs, put_good G hx hlive hoth hs ⟨vs', ⟨_, hget, (Obj.cls_mapSeq ..).trans hc, n', ?_⟩, ?_, fun ob e => ?_⟩ (.inl hx2)⟩
  · rw [hd', hf]
  · exact RelL.up (put_le (X := NoX) hx hlive hoth hs) (fun _ q => q.elim) _ _ hr
  · have e' : (c.h.update x.1 (Obj.mapSeq f)).get? x.1 = some ob := e
    rw [hget] at e'; cases e'
    rw [dict_mapSeq]; exact hdn o ho

theorem wp_append {l : Addr} {o : Obj} {items : Array Value} {k : Nat} {x : Value} {Q : Value → Shared → Prop} {E : Value → Shared → Prop} {s : Shared} {prog : Program} {w : World} (ho : s.heap.get? l = some o) (hc : o.cls = .type "list") (hd : o.data = .seq items k)
    (hQ : Q .none { s with heap := s.heap.update l (Obj.mapSeq (·.push x)) }) (hsz : items.size ≤ sizeLine) : wpAny (model prog w) A (call (.builtin "list.append") [.ref l, x]) Q E s := by
  refine wpAny_call_entry slot_list_append ⟨o, ho, hc⟩ entry_list_append ?_ (args_list_append _ _)
  show wpAny _ _ (updateSeq l (·.push x) >>= fun _ => ret .none) _ _ s
  exact wpAny_bind (wpAny_updateSeq ho hd (wpAny_pure ⟨.none, rfl, hQ⟩))

theorem wp_setItem_list {l : Addr} {o : Obj} {items : Array Value} {k : Int} {m : Nat} {t : Tok} {v : Value} {Q : Unit → Shared → Prop} {E : Value → Shared → Prop} {s : Shared} {prog : Program} {w : World} (ho : s.heap.get? l = some o) (hc : o.cls = .type "list") (hd : o.data = .seq items m)
    (h0 : 0 ≤ k) (hfit : k < 2 ^ 63) (hn : k < items.size)
    (hQ : Q () { s with heap := s.heap.update l (Obj.mapSeq (·.setIfInBounds k.toNat v)) }) :
    wpAny (model prog w) A (setItem (.ref l) (.int k t) v) Q E s := by
  have hl : s.heap.IsList l items := ⟨o, ho, hc, m, hd⟩
  unfold setItem
  try with_reducible refine wpAny_holding ?_
  first | refine wpAny_bind (wpAny_pure ?_) | skip
  refine wpAny_bind (wpAny_sequenceKey hl.typeIs (by decide) ?_)
  refine wpAny_bind (wpAny_callSpecial?_slot (name := Str.ofString "__setitem__") hl.typeIs slot_list_setitem
    (wpAny_call_entry slot_list_setitem hl.typeIs entry_list_setitem ?_ (args_list_setitem _ _ _)))
  show wpAny _ _ (Builtin.List.listSubscript? (.int k t) >>= _) _ _ s
  refine wpAny_bind (wpAny_listSubscript_int (fitsIndex_of h0 hfit) ?_)
  clear hfit
  obtain ⟨j, rfl⟩ := Int.eq_ofNat_of_zero_le h0
  have hj : j < items.size := by omega
  have hx' : items[j]? = some items[j] := Array.getElem?_eq_getElem hj
  show wpAny _ _ ((seqItemAt l j >>= fun r => pure (r.map (j, ·))) >>= _) _ _ s
  refine wpAny_bind (wpAny_bind (wpAny_seqItemAt ho hd (wpAny_pure ?_)))
  rw [hx']
  show wpAny _ _ (setSeqItemAt l j v >>= _) _ _ s
  refine wpAny_bind (wpAny_setSeqItemAt ho hd ?_)
  first
    | exact wpAny_bind (wpAny_pure (wpAny_pure ⟨.none, rfl, wpAny_pure hQ⟩))
    | exact wpAny_pure ⟨.none, rfl, wpAny_pure hQ⟩
end
end Mine
end

section
namespace Mine
open PySem PyProof PyProof.Rows

section
variable {U : Setup} {C : Cfg} {A : Around} {X : Addr → Prop} {c : Cf} {L : Addr} {env : Env} {ρ : Locs} {n : Nat}

inductive MkRel (C : Cfg) (u : Value) : MK → Value × List Value → Prop
  | fn {f} : (C.fns f).isSome = true → MkRel C u (.fn f) (.ref f, [u])
  | append : MkRel C u .append (.builtin "list.append", [u])
  | get : MkRel C u .get (.builtin "dict.get", [u])

theorem dict0_of {prog : Program} {w : World} {K : Type} [DecidableEq K] (knd : KeyKind prog w K) {x : Addr × Addr} (h : OZero c x) : c.h.DictOf knd x.1 [] := by
  obtain ⟨o, ep, ho, he, hd⟩ := h
  exact ⟨o, #[], ep, ho, he, hd, (fun e h => by simp at h), .nil, List.nodup_nil⟩
/-- a dict with keys that are numbers -/
theorem dictI_at {ob : MO} {es : List (Int × PV)} (h : dictIO ob = some es) {x : Addr × Addr} (hO : ORel U c ob x) : ODict (intKind U.prog U.w) c es x := by
  rcases dictIO_of h with ⟨rfl, rfl⟩ | rfl
  · exact ⟨[], dict0_of _ hO, .nil⟩
  · exact hO

theorem leaf_method (T : Top U C) {o : PV} {u : Value} {m : Str} {pl : Sem Bool} (ha : RelC c o u) : OkM U A NoX c (getMethod u m pl) (methK C o m) (fun _ mk fx => MkRel C u mk fx) L := by
  refine OkM.ofB fun k hk => OkM.getO fun G ob ho => ?_
  cases locO_of hk
  cases hi : instO ob with
  | some q =>
    cases instO_of hi
    refine OkM.iteF fun hlk => OkM.ofB fun f hm => ?_
    obtain ⟨K, hK, _, _, hM, _, _, _, _, _⟩ := T.frag
    obtain ⟨p0, p1, p2, p3⟩ := hM _ m f hm
    obtain ⟨y, ob', mm, es, rfl, hy, I, hl⟩ := inst_at G ho ha
    have look := fields_look (x := m) hl
    rw [Option.not_isSome_iff_eq_none.mp hlk] at look
    refine OkM.still fun s Q E hs hq => W.method_fn (K := K) (C := q.1) (od := some (W.dictOf es mm)) (hK.keeps (hs ▸ G.stays)) (hs ▸ I) (W.plainGet_of p1).1 (W.plainGet_of p1).2 p2 (beq_iff_eq.mp p3) ?_ (hq _ s.toks (.fn p0))
    show (W.lookIn m (W.dictOf es mm)).map _ = _
    rw [W.lookIn_dict]
    simp only at look
    rw [look]; rfl
  | none =>
    refine OkM.ite (fun hm => OkM.ofB fun l hl => ?_) fun _ => OkM.iteT fun hm => OkM.ofB fun es he => ?_
    · subst hm
      cases listO_of hl
      obtain ⟨x, rfl, hx, vs, h1, h2, h3⟩ := obj_at G ho ha
      exact OkM.still fun s Q E hs hq => getMethod_builtin (hs ▸ h1 : s.heap.IsList x.1 vs.toArray).typeIs PySem.F.plainAttrs_list (id := "list.append") slot_list_append PySem.F.type_list_append (by
        rintro a ⟨⟩
        obtain ⟨o, ho, _⟩ := h1
        exact ⟨o, hs ▸ ho, h3 o ho⟩) (hq _ s.toks .append)
    · subst hm
      obtain ⟨x, rfl, hx, hO⟩ := obj_at G ho ha
      obtain ⟨kvs, ⟨o, es, ep, ho, he, hd, _⟩, _⟩ := dictI_at he hO
      exact OkM.still fun s Q E hs hq => getMethod_builtin ⟨o, hs ▸ ho, he.1⟩ PySem.F.plainAttrs_dict PySem.F.slot_dict_get PySem.F.type_dict_get (by rintro a ⟨⟩; exact ⟨o, hs ▸ ho, he.2.1⟩) (hq _ s.toks .get)

theorem RelL.snoc {h : Heap} {μ : Map} {O : Addr → Prop} {p : PV} {v : Value} (h2 : Rel h μ O p v) : ∀ {l : List PV} {vs : List Value}, RelL h μ O l vs → RelL h μ O (l ++ [p]) (vs ++ [v])
  | [], _, h1 => by cases h1; exact RelL.mkCons h2 RelL.mkNil
  | _ :: _, _, ⟨_, _, e, hp, hr⟩ => by subst e; exact RelL.mkCons hp (RelL.snoc h2 hr)

theorem not_sys (T : Top U C) (G : Good U c) {a : Addr} (h : Own c.μ c.st a) : (a == sysModules) = false := by
  refine beq_eq_false_iff_ne.mpr ?_
  rintro rfl
  have := T.sys
  rw [(G.fresh _ h).1] at this; cases this

theorem arg1_ok {α β : Type} {ps : List PV} {vs : List Value} (hv : RelLC c ps vs) {t : List Value → Sem α} {f : PV → M β} {P : Cf → β → α → Prop} (h : ∀ p v, RelC c p v → OkM U A X c (t [v]) (f p) P L) : OkM U A X c (t vs) (arg1 ps f) P L := by
  cases ps with
  | nil => exact OkM.fail
  | cons p r =>
    cases r with
    | nil =>
      obtain ⟨v, r, rfl, hp, hr⟩ := hv.cons'
      cases hr.nil'
      exact h p v hp
    | cons _ _ => exact OkM.fail
theorem arg2_ok {α β : Type} {ps : List PV} {vs : List Value} (hv : RelLC c ps vs) {t : List Value → Sem α} {f : PV → PV → M β} {P : Cf → β → α → Prop} (h : ∀ p q v w, RelC c p v → RelC c q w → OkM U A X c (t [v, w]) (f p q) P L) : OkM U A X c (t vs) (arg2 ps f) P L := by
  cases ps with
  | nil => exact OkM.fail
  | cons p r =>
    obtain ⟨v, ws, rfl, hp, hr⟩ := hv.cons'
    exact arg1_ok hr (t := fun ws => t (v :: ws)) fun q w hq => h p q v w hp hq

theorem app_ok {k : Nat} {u v : Value} {p : PV} (ha : RelC c (.loc k) u) (hp : RelC c p v) : OkM U A NoX c (call (.builtin "list.append") [u, v]) ((getO k).bind fun ob => (M.of (listO ob)).bind fun l => if l.length < 1000 then (setO k (some (.list (l ++ [p])))).bind fun _ => M.ret .none else M.fail) RelV L := by
  refine OkM.getO fun G ob hk => OkM.ofB fun l hl => OkM.iteT fun hlen => ?_
  cases listO_of hl
  obtain ⟨x, rfl, hx, ws, h1, h2, h3⟩ := obj_at G hk ha
  obtain ⟨oo, ho, hc, kk, hd⟩ := id h1
  have D := put_list (X := NoX) (l' := l ++ [p]) (vs' := ws ++ [v]) (f := (·.push v)) G hk hx h1 (by simp) (RelL.snoc hp h2)
  exact OkM.seen (b := PV.none) (st₁ := (c.put k (.list (l ++ [p])) c.h).st) rfl fun _ s hs Q E hQ => wp_append (hs ▸ ho) hc hd
    (hQ _ (c.put k (.list (l ++ [p])) (c.h.update x.1 (Obj.mapSeq (·.push v)))) _ rfl (by show s.heap.update _ _ = _; rw [hs]; rfl) (Same.mk s _ _) D mkrel_none) (by rw [sizeLine_eq, List.size_toArray, RelL.length h2]; omega)
theorem get_ok' (T : Top U C) {k : Nat} {i : Int} {u v w : Value} {d : PV} (ha : RelC c (.loc k) u) (hi : RelC c (.int i) v) (hd : RelC c d w) : OkM U A NoX c (call (.builtin "dict.get") [u, v, w]) ((getO k).bind fun ob => (M.of (dictIO ob)).bind fun es => M.ret ((findG es i).getD d)) RelV L := by
  refine OkM.getO fun G ob hk => OkM.ofB fun es he => ?_
  obtain ⟨t, rfl⟩ := rel_int hi
  obtain ⟨x, rfl, hx, hO⟩ := obj_at G hk ha
  obtain ⟨kvs, hD, hl⟩ := dictI_at he hO
  refine OkM.still fun s Q E hs hq => ?_
  have hm' : s.heap.MapOf (intKind U.prog U.w) x.1 (valueAt kvs) := Heap.DictOf.mapOf (hs ▸ hD)
  refine call_meetsIn PySem.F.slot_dict_get hm'.typeIs PySem.F.entry_dict_get (PySem.F.args_dict_get_3 _ _ _) (meets_dict_get_default (intKind U.prog U.w) x.1 (intKind_is _ _ i t) (not_sys T G (Own.of hk hx).1) w) ⟨_, hm', ?_⟩
  cases hf : findG es i with
  | none =>
    rw [hf] at hq
    rw [findG_miss hl hf]; exact hq _ _ hd
  | some pv =>
    rw [hf] at hq
    obtain ⟨y, g1, g2⟩ := findG_hit hl hf
    rw [g1]; exact hq _ _ g2
theorem meth_app (T : Top U C) (hF : FnOk U C n) (R : Room A (n + 1)) (FR : FramesIn U A c) (H : HandIn A c) (hh : C.hd = false → A.handled = none) {o : PV} {u : Value} {mk : MK} {fx : Value × List Value} {ps : List PV} {vs : List Value}
    (ha : RelC c o u) (hm : MkRel C u mk fx) (hv : RelLC c ps vs) : OkM U A NoX c (call fx.1 (fx.2 ++ vs)) (methApp C (n + 1) o mk ps) RelV L := by
  cases hm with
  | fn hf => exact OkM.at (by kernel_rfl) (hF _ _ _ _ _ _ R.down FR H hh (RelL.mkCons ha hv))
  | append => exact OkM.at (m' := (M.of (locO o)).bind fun k => arg1 ps fun v => (getO k).bind fun ob => (M.of (listO ob)).bind fun l => if l.length < 1000 then (setO k (some (.list (l ++ [v])))).bind fun _ => M.ret .none else M.fail) (by kernel_rfl) <|
                OkM.ofB fun k hk => by cases locO_of hk; exact arg1_ok hv (t := fun vs => call (.builtin "list.append") (u :: vs)) fun p v hp => app_ok ha hp
  | get => exact OkM.at (m' := (M.of (locO o)).bind fun k => arg2 ps fun i d => intP i fun i => (getO k).bind fun ob => (M.of (dictIO ob)).bind fun es => M.ret ((findG es i).getD d)) (by kernel_rfl) <|
                OkM.ofB fun k hk => by cases locO_of hk; exact arg2_ok hv (t := fun vs => call (.builtin "dict.get") (u :: vs)) fun p q v w hp hq => OkM.intP fun i hi => by subst hi; exact get_ok' T ha hp hq

theorem call_form {o : Expr} {m : Str} {apos pos : Pos} {args : List Expr} (hb : plainBase o = true) (hp : plainArgs args = true) (hl : (apos.endLine == pos.line) = true) :
    eval (.Call (.Attribute o m apos) args [] pos) env = (do
      let ov ← eval o env
      standAt apos.atName
      let (f, first) ← holding [ov] (getMethod ov m (do return (← importBound o env).getD true))
      callWith pos f first (backTo pos (starEach args env)) []) := by
  rw [arm_eval_Call, base_plain hb]
  have hall : (backTo pos (starEach args env)).all (fun x => !x.1) = true := by
    simp only [plainArgs, Bool.and_eq_true] at hp
    have := plain_back (env := env) (pos := pos) hp.1
    rw [List.all_eq_not_any_not]
    simp only [Bool.not_not]
    rw [this]; rfl
  have hlen : args.length < 20 := by simp only [plainArgs, Bool.and_eq_true, decide_eq_true_eq] at hp; exact hp.2
  have hform : methodCallForm (args.length + ([] : List Keyword).length) (backTo pos (starEach args env)) (backToKw pos (keywordEach [] env)) = true := by
    unfold methodCallForm
    rw [hall]
    show (true && true && decide (args.length + 0 + (if (backToKw pos (keywordEach [] env)).isEmpty then 0 else 1) < 30)) = true
    rw [show (backToKw pos (keywordEach [] env)).isEmpty = true from rfl, if_pos rfl]
    simp only [Bool.true_and, decide_eq_true_eq]; omega
  have hpos : methodCallPos true o env apos pos = pure pos := by unfold methodCallPos; simp [hl]
  unfold methodCall
  rw [hform, hpos]
  rfl

theorem ev_CallM (T : Top U C) (hE : EvOk U C n) (hS : EsOk U C n) (hF : ∀ m, n = m + 1 → FnOk U C m) (R : Room A (n + 1)) (F : Fk U C.hd A env ρ c) {o : Expr} {m : Str} {apos : Pos} {args : List Expr} {pos : Pos} (hp : plainArgs args = true) :
    OkM U A NoX c (eval (.Call (.Attribute o m apos) args [] pos) env) (if plainBase o = false ∨ (apos.endLine == pos.line) = false then M.fail else (evalE C n env.scope ρ o).bind fun ov => (methK C ov m).bind fun mk => (evalEs C n env.scope ρ args).bind fun vs => methApp C n ov mk vs) RelV L := by
  refine OkM.iteF fun hc => ?_
  have hb : plainBase o = true := by cases h : plainBase o; exact absurd (.inl h) hc; rfl
  have hl : (apos.endLine == pos.line) = true := by cases h : apos.endLine == pos.line; exact absurd (.inr h) hc; rfl
  refine OkM.at2 (call_form hb hp hl) rfl ((hE _ _ _ _ _ _ R.down F).bind fun c₁ pf u L₁ G₁ hu => OkM.standAt (OkM.bind (OkM.holding (leaf_method T hu)) fun c₂ mk fx L₂ G₂ hm => ?_))
  obtain ⟨K, hK, _, hKeep, _, _, _, _, _, _⟩ := T.frag
  refine ok_callWith hS R.down ((F.upN L₁).upN L₂) hp True (fun h hB _ => ?_) (fun _ _ _ _ => trivial) fun c₃ ps vs L₃ G₃ F₃ hvs => ?_
  · cases hm with
    | fn hf => exact W.keeps_K (hKeep _ (.inl hf)) h (hK.keeps hB)
    | append => exact keep_val (fun a e => by cases e) h
    | get => exact keep_val (fun a e => by cases e) h
  · cases n with
    | zero => exact OkM.failAt (by kernel_rfl)
    | succ n => exact meth_app T (hF n rfl) R.down F₃.frames F₃.hand.2 F₃.hand.1 ((hu.upN L₂).upN L₃) hm hvs (L := L)

theorem attrV_of {f : Expr} {q : Expr × Str × Pos} (h : attrV f = some q) : f = .Attribute q.1 q.2.1 q.2.2 := by
  cases f <;> first | (cases h; done) | (cases h; rfl)
theorem ev_Call (T : Top U C) (hE : EvOk U C n) (hS : EsOk U C n) (hV : CvOk U C n) (hF : ∀ m, n = m + 1 → FnOk U C m) (R : Room A (n + 1)) (F : Fk U C.hd A env ρ c) {f : Expr} {args : List Expr} {kw : List Keyword} {pos : Pos} :
    OkM U A NoX c (eval (.Call f args kw pos) env) (evalE C (n + 1) env.scope ρ (.Call f args kw pos)) RelV L := by
  refine OkM.at evalE_Call (OkM.iteF fun hc => ?_)
  have hk : kw = [] := by cases kw with | nil => rfl | cons _ _ => exact absurd (.inl rfl) hc
  have hp : plainArgs args = true := by cases h : plainArgs args; exact absurd (.inr h) hc; rfl
  subst hk
  cases ha : attrV f with
  | some q =>
    cases attrV_of ha
    exact ev_CallM T hE hS hF R F hp
  | none => exact ev_CallP T hE hS hV R F (attrV_none ha) hp
end
end Mine
end

section
namespace Mine
open PySem PyProof PyProof.Rows

section
variable {prog : Program} {w : World} {A : Around} {E : Value → Shared → Prop} {s : Shared}

theorem entry_unchain : entryFor table "proto.unchain" = some Builtin.«proto.unchain» := entryFor_of_tree (by kernel_rfl)

/-- what is held while a handler runs -/
noncomputable def HandAt (A : Around) (h : Heap) : Prop := ∀ x, A.handled = some x → ∃ a o ws, x = .ref a ∧ h.get? a = some o ∧ o.data = .fields ws ∧ ws[2]? = some .none

theorem raise_any {α : Type} {e : Addr} {oe : Obj} {ws : Array Value} {Q : α → Shared → Prop} (H : HandAt A s.heap) (hfresh : ∀ x, A.handled = some x → x ≠ .ref e) (he : s.heap.get? e = some oe) (hd : oe.data = .fields ws) (hsz : 2 < ws.size)
    (h : ∀ h', Heap.SameBut e s.heap h' → (∃ o', h'.get? e = some o' ∧ o'.cls = oe.cls) → E (.ref e) { s with heap := h' }) : wpAny (model prog w) A (raiseNew (.ref e)) Q E s := by
  simp only [raiseNew]
  refine wpAny_bind (wpAny_handled ?_)
  cases hA : A.handled with
  | none => exact wpAny_bind (wpAny_pure (wpAny_throw (h s.heap (Heap.SameBut.refl ..) ⟨oe, he, rfl⟩)))
  | some x =>
    obtain ⟨a, o, vs, rfl, ho, hdo, h2⟩ := H x hA
    have hne : ((Value.ref a) != (Value.ref e)) = true := by
      have := hfresh _ hA
      simpa using this
    dsimp only
    rw [if_pos hne]
    have un : ∀ (Q' : Value → Shared → Prop), Q' .none s → wpAny (model prog w) A (runValue (.builtin "proto.unchain" ⟨[.ref e, .ref a, .ref a, .bool false], []⟩)) Q' E s := by
      intro Q' hq
      refine wpAny_runValue (codeAny_builtin entry_unchain ?_)
      show wpAny _ _ (field (.ref a) 2 >>= _) _ _ s
      refine wpAny_bind (wpAny_field ho hdo h2 ?_)
      show wpAny _ _ (ret .none) _ _ s
      exact wpAny_pure hq
    refine wpAny_bind (wpAny_holding (un _ ?_))
    refine wpAny_bind ?_
    unfold updateField
    refine wpAny_bind (wpAny_load he ?_)
    rw [hd]
    dsimp only
    rw [if_pos hsz]
    refine wpAny_update he (wpAny_throw (h _ (Heap.SameBut.update ..) ⟨_, Heap.get?_update_self _ he (Obj.isFreed_of_fields (Obj.data_mapFields hd _)), Obj.cls_mapFields ..⟩))

theorem next_list_end {it l : Addr} {i : Nat} {items : Array Value} {Q : Option Value → Shared → Prop} (H : HandAt A s.heap) (hi : ∀ x, A.handled = some x → x ≠ .ref it)
    (hit : s.heap.IsListIter it l i) (hl : s.heap.IsList l items) (hx : items[i]? = none)
    (hQ : ∀ h', Heap.ExtBut it s.heap h' → Q none { s with heap := h' }) : wpAny (model prog w) A (pyNext (.ref it)) Q E s := by
  obtain ⟨o, ho, hc, hd⟩ := id hit
  obtain ⟨ol, hol, _, nl, hdl⟩ := hl
  have hlt : ∀ x, A.handled = some x → ∃ a, x = .ref a ∧ a < s.heap.objs.size := fun x hx => by
    obtain ⟨a, oa, ws, rfl, ha, _⟩ := H x hx
    exact ⟨a, rfl, Heap.lt_size ha⟩
  unfold pyNext
  refine wpAny_bind (wpAny_attempt (wpAny_callSpecial?_slot (name := Str.ofString "__next__") hit.typeIs slot_listiter_next
    (wpAny_call_entry slot_listiter_next hit.typeIs entry_listiter_next ?_ (args_listiter_next _))))
  show wpAny _ _ (field (.ref it) 0 >>= _) _ _ s
  refine wpAny_bind (wpAny_field ho hd (x := .ref l) rfl ?_)
  show wpAny _ _ (if (Value.ref l == Value.none) = true then _ else _) _ _ s
  rw [if_neg (show ¬ ((Value.ref l == Value.none) = true) from Bool.false_ne_true)]
  show wpAny _ _ (field (.ref it) 1 >>= _) _ _ s
  refine wpAny_bind (wpAny_field ho hd (x := .int i 0) rfl ?_)
  show wpAny _ _ (seqItems? (.ref l) >>= _) _ _ s
  refine wpAny_bind (wpAny_seqItems hol hdl ?_)
  simp only [Int.toNat_natCast, hx]
  refine wpAny_bind (wpAny_rule (wpAny_bind (wpAny_setField ho hd (by simp) ?_)))
  show wpAny _ _ (newExc (.type "StopIteration") [] >>= _) _ _ _
  refine wpAny_bind ?_
  simp only [newExc, newTuple]
  refine wpAny_bind (wpAny_newObj_type ?_ (by size_fits))
  refine wpAny_bind (m := firstArgMember _ _) (wpAny_of_eq (a := Value.none) (by first | rfl | (simp only [firstArgMember]; rfl)) ?_)
  refine wpAny_newObj_type ?_ (by size_fits)
  have other : ∀ b ob, b ≠ it → s.heap.get? b = some ob → (s.heap.update it (Obj.mapFields (·.setIfInBounds 0 .none))).get? b = some ob := fun b ob hb e => (Heap.get?_update_other _ _ (Ne.symm hb)).trans e
  have hsz : (s.heap.update it (Obj.mapFields (·.setIfInBounds 0 .none))).objs.size = s.heap.objs.size := Heap.size_after_update ..
  refine raise_any (fun x hx' => ?_) (fun x hx' => ?_) (Heap.get?_push_size _ rfl) rfl (by simp <;> omega) fun h' hs' ho' => ?_
  · obtain ⟨a, oa, ws, rfl, ha, hda, h2⟩ := H x hx'
    exact ⟨a, oa, ws, rfl, Heap.get?_push_of_some _ (Heap.get?_push_of_some _ (other a oa (fun e => hi _ hx' (by rw [e])) ha)), hda, h2⟩
  · obtain ⟨a, rfl, hlt'⟩ := hlt x hx'
    intro e
    injection e with e
    have : (Heap.push (s.heap.update it (Obj.mapFields (·.setIfInBounds 0 .none))) { cls := .type "tuple", dict := none, data := .seq ([] : List Value).toArray }).objs.size = s.heap.objs.size + 1 := by rw [Heap.size_push, hsz]
    have e' : a = s.heap.objs.size + 1 := e.trans this
    rw [e'] at hlt'
    exact absurd hlt' (by simp)
  · obtain ⟨o', ho', hc'⟩ := ho'
    refine wpAny_bind (wpAny_isInstance (T := "StopIteration") (b := true) ⟨o', ho', hc'⟩ isSubtype_stop ?_)
    refine wpAny_pure (hQ _ fun b ob hb e => ?_)
    refine hs'.extBut b ob ?_ (Heap.get?_push_of_some _ (Heap.get?_push_of_some _ (other b ob hb e)))
    have hb' := Heap.lt_size e
    intro e'
    have : (Heap.push (s.heap.update it (Obj.mapFields (·.setIfInBounds 0 .none))) { cls := .type "tuple", dict := none, data := .seq ([] : List Value).toArray }).objs.size = s.heap.objs.size + 1 := by rw [Heap.size_push, hsz]
    rw [e', this] at hb'
    exact absurd hb' (by simp)

theorem HandAt.keeps {h h' : Heap} (H : HandAt A h) (k : ∀ a o, A.handled = some (.ref a) → h.get? a = some o → h'.get? a = some o) : HandAt A h' := fun x hx => by
  obtain ⟨a, o, ws, rfl, ho, r⟩ := H x hx
  exact ⟨a, o, ws, rfl, k a o hx ho, r⟩

/-- the walk along a list, whatever is handled -/
theorem walksL (I ax : Addr) (hne : ax ≠ I) (items : Array Value) (hI : ∀ x, A.handled = some x → x ≠ .ref I) (fpx : List Addr) (hfp : ∀ a, A.handled = some (.ref a) → a ∈ fpx) :
    Walks prog w A I (I :: ax :: fpx) [I] items.size (fun i v => items[i]? = some v) (fun i h => h.IsListIter I ax i ∧ h.IsList ax items ∧ HandAt A h) where
  sub := fun b hb => by simp at hb; simp [hb]
  frame := fun _ _ _ st hk => ⟨st.1.at fun o e => hk I (by simp) o e, st.2.1.at fun o e => hk ax (by simp) o e, st.2.2.keeps fun a o ha e => hk a (by simp [hfp a ha]) o e⟩
  item := fun i s Q E hi st hQ => by
    refine wpAny_pyNext_list_item st.1 st.2.1 (x := items[i]) (by simp [hi]) fun h' hit' hs' => ?_
    exact hQ _ h' s.toks (by simp [hi]) ⟨hit', st.2.1.extBut hs'.extBut hne, st.2.2.keeps fun a o ha e => hs'.extBut a o (fun q => hI _ ha (by rw [q])) e⟩ fun b o hb e => hs'.extBut b o (fun h => hb (by simp [h])) e
  done := fun s Q E st hQ => next_list_end st.2.2 hI st.1 st.2.1 (by simp) fun h' he' => hQ h' s.toks fun b o hb e => he' b o (fun h => hb (by simp [h])) e
  self := fun _ _ _ _ st hQ => wpAny_pyIter_listiter st.1 hQ
end
end Mine
end

section
namespace Mine
open PySem PyProof PyProof.Rows

section
variable {U : Setup} {C : Cfg} {A : Around} {X : Addr → Prop} {c : Cf} {L : Addr} {env : Env} {ρ : Locs} {n : Nat}

inductive SeqAt (c : Cf) (l : List PV) (v : Value) : Prop
  | mk (a : Addr) (vs : List Value) (e : v = .ref a) (r : RelLC c l vs) (k : c.h.IsTuple a vs.toArray ∨ c.h.IsList a vs.toArray)
inductive LstV (c : Cf) (l : List PV) (v : Value) : Prop
  | mk (a : Addr) (vs : List Value) (e : v = .ref a) (r : RelLC c l vs) (k : c.h.IsList a vs.toArray)
theorem locL_ok (G : Good U c) {p : PV} {v : Value} (hv : RelC c p v) : Peek c (locL p) fun l => LstV c l v := by
  unfold locL
  refine (Peek.of fun k hk => hk).bind fun k hk => (Peek.getO fun o ho => ho).bind fun o ho => Peek.of fun l hl => ?_
  cases locO_of hk
  cases listO_of hl
  obtain ⟨x, vs, e, _, h1, h2⟩ := list_at G ho hv
  exact ⟨x.1, vs, e, h2, h1⟩
theorem seq_peek (G : Good U c) {p : PV} {v : Value} (hv : RelC c p v) : Peek c (seqOf p) fun l => SeqAt c l v := by
  unfold seqOf
  cases p with
  | tup l => exact .ret (let ⟨a, vs, e, ht, _, hl⟩ := hv.tup'; ⟨a, vs, e, hl, .inl ht.1⟩)
  | lst l => exact .ret (let ⟨a, vs, e, ht, _, hl⟩ := hv.lst'; ⟨a, vs, e, hl, .inr ht⟩)
  | loc k => 
    cases locL_ok G hv with
    | no e => exact .no e
    | yes b e h => exact .yes b e (let ⟨a, vs, e, r, k⟩ := h; ⟨a, vs, e, r, .inr k⟩)
  | _ => exact .fail
theorem list_peek (G : Good U c) {p : PV} {v : Value} (hv : RelC c p v) : Peek c (listOf p) fun l => LstV c l v := by
  unfold listOf
  cases e : lstV p with
  | some l => cases lstV_of e; exact .ret (let ⟨a, vs, e, ht, _, hl⟩ := hv.lst'; ⟨a, vs, e, hl, ht⟩)
  | none => exact locL_ok G hv

noncomputable def numL (is : List Int) (i : Nat) : Int := (is[i]?).getD 0

theorem nums_at : ∀ {l : List PV} {is : List Int} {vs : List Value}, RelLC c l vs → intsOf l = some is → vs.length = is.length ∧ ∀ i v, vs.toArray[i]? = some v → ∃ t, v = Value.int (numL is i) t := by
  intro l is vs hr hi
  have hl := intsOf_map hi
  subst hl
  refine ⟨by rw [RelL.length hr, List.length_map], fun i v hv => ?_⟩
  rw [List.getElem?_toArray] at hv
  have hlt := (List.getElem?_eq_some_iff.mp hv).1
  rw [RelL.length hr, List.length_map] at hlt
  obtain ⟨w, h1, h2⟩ := RelL.get (j := i) (p := .int is[i]) hr (by simp [hlt])
  rw [hv] at h1; cases h1
  obtain ⟨t, rfl⟩ := rel_int h2
  exact ⟨t, by simp [numL, hlt]⟩

theorem best_fold (f : Int → Int → Bool) (x : Int) (r : List Int) : ∀ k, k ≤ r.length → numL (x :: r) (argBest (fun i j => f (numL (x :: r) i) (numL (x :: r) j)) k) = (r.take k).foldl (fun a b => if f b a then b else a) x ∧ argBest (fun i j => f (numL (x :: r) i) (numL (x :: r) j)) k ≤ k := by
  intro k
  induction k with
  | zero => intro _; simp [argBest, numL]
  | succ k ih =>
    intro hk
    obtain ⟨h1, h2⟩ := ih (by omega)
    have hlt : k < r.length := by omega
    have hx : numL (x :: r) (k + 1) = r[k] := by simp [numL, hlt]
    have ht : r.take (k + 1) = r.take k ++ [r[k]] := List.take_succ_eq_append_getElem hlt
    rw [ht, List.foldl_append]
    simp only [argBest, List.foldl_cons, List.foldl_nil]
    rw [← h1, ← hx]
    generalize argBest (fun i j => f (numL (x :: r) i) (numL (x :: r) j)) k = q at h2 ⊢
    by_cases hf : f (numL (x :: r) (k + 1)) (numL (x :: r) q) = true
    · rw [if_pos hf, if_pos hf]; exact ⟨rfl, Nat.le_refl _⟩
    · rw [if_neg hf, if_neg hf]; exact ⟨rfl, Nat.le_succ_of_le h2⟩

theorem max_val {is : List Int} {m : Int} (h : maxL is = some m) : 0 < is.length ∧ numL is (argBest (fun i j => decide (numL is i > numL is j)) (is.length - 1)) = m := by
  cases is with
  | nil => cases h
  | cons x r =>
    simp only [maxL, Option.some.injEq] at h
    refine ⟨by simp, ?_⟩
    have := (best_fold (fun a b => decide (a > b)) x r r.length (Nat.le_refl _)).1
    rw [List.take_length] at this
    simp only [List.length_cons, Nat.add_sub_cancel]
    rw [this, ← h]
    congr 1
    funext a b
    simp
theorem min_val {is : List Int} {m : Int} (h : minL is = some m) : 0 < is.length ∧ numL is (argBest (fun i j => decide (numL is i < numL is j)) (is.length - 1)) = m := by
  cases is with
  | nil => cases h
  | cons x r =>
    simp only [minL, Option.some.injEq] at h
    refine ⟨by simp, ?_⟩
    have := (best_fold (fun a b => decide (a < b)) x r r.length (Nat.le_refl _)).1
    rw [List.take_length] at this
    simp only [List.length_cons, Nat.add_sub_cancel]
    rw [this, ← h]
    congr 1
    funext a b
    simp

/-- an iterator made, ready to be walked -/
inductive IterAt (U : Setup) (A : Around) (h : Heap) (v : Value) (items : Array Value) : Prop
  | mk (o : Obj) (k : ∀ (B : Around) (s : Shared) (E : Value → Shared → Prop) (Q : Value → Shared → Prop), B.handled = A.handled → s.heap = h →
      (∀ I fp St, I = s.heap.objs.size → Walks U.prog U.w B I fp [I] items.size (fun i v => items[i]? = some v) St → St 0 (s.heap.push o) → (∀ b ∈ fp, b < (s.heap.push o).objs.size) → Q (.ref I) { s with heap := s.heap.push o }) → wpAny (model U.prog U.w) B (pyIter v) Q E s)
theorem iterL (H : HandAt A c.h) {l : Addr} {items : Array Value} (hl : c.h.IsList l items) : IterAt U A c.h (.ref l) items := by
  refine ⟨{ cls := .type "list_iterator", data := .fields #[.ref l, .int 0 0] }, fun B s E Q hB hs h => ?_⟩
  rw [← hs] at H hl
  obtain ⟨o, ho, _⟩ := id hl
  have hlt := Heap.lt_size ho
  have hI : ∀ x, B.handled = some x → x ≠ .ref s.heap.objs.size := fun x hx => by
    obtain ⟨a, oa, ws, rfl, ha, _⟩ := H x (hB ▸ hx)
    intro e; injection e with e
    exact absurd (e ▸ Heap.lt_size ha) (Nat.lt_irrefl _)
  refine wpAny_pyIter_list hl (h s.heap.objs.size _ _ rfl (walksL _ l (Nat.ne_of_lt hlt) items hI (A.handled.toList.filterMap refO) fun a ha => ?_) ⟨⟨_, Heap.get?_push_size _ rfl, rfl, rfl⟩, hl.push _, ?_⟩ fun b hb => ?_)
  · rw [hB] at ha; rw [ha]; exact (List.mem_singleton.mpr rfl : a ∈ [a])
  · intro x hx
    obtain ⟨a, oa, ws, rfl, ha, r⟩ := H x (hB ▸ hx)
    exact ⟨a, oa, ws, rfl, Heap.get?_push_of_some _ ha, r⟩
  · rw [Heap.size_push]
    rcases List.mem_cons.mp hb with rfl | hb
    · exact Nat.lt_succ_self _
    rcases List.mem_cons.mp hb with rfl | hb
    · exact Nat.lt_succ_of_lt hlt
    · obtain ⟨x, hx, e⟩ := List.mem_filterMap.mp hb
      obtain ⟨a, oa, ws, rfl, ha, _⟩ := H x (Option.mem_toList.mp hx)
      cases e
      exact Nat.lt_succ_of_lt (Heap.lt_size ha)
theorem iterT (hh : A.handled = none) {l : Addr} {items : Array Value} (hl : c.h.IsTuple l items) : IterAt U A c.h (.ref l) items := by
  refine ⟨{ cls := .type "tuple_iterator", data := .fields #[.ref l, .int 0 0] }, fun B s E Q hB hs h => ?_⟩
  rw [← hs] at hl
  obtain ⟨o, ho, hc, k, hd⟩ := id hl
  have hlt := Heap.lt_size ho
  refine wpAny_pyIter_tuple hl (h s.heap.objs.size _ _ rfl (Walks.tuple (hB.trans hh) _ l (Nat.ne_of_lt hlt) items) ⟨⟨_, Heap.get?_push_size _ rfl, rfl, rfl⟩, ⟨o, Heap.get?_push_of_some _ ho, hc, k, hd⟩⟩ fun b hb => ?_)
  rw [Heap.size_push]
  rcases List.mem_cons.mp hb with rfl | hb
  · exact Nat.lt_succ_self _
  · cases List.mem_singleton.mp hb
    exact Nat.lt_succ_of_lt hlt

theorem HandIn.at {c : Cf} (H : HandIn A c) : HandAt A c.h := fun x hx => by
  obtain ⟨a, o, ws, h1, h2, h3, h4, _⟩ := H x hx
  exact ⟨a, o, ws, h1, h2, h3, h4⟩

theorem old_pushed {h h' : Heap} {o : Obj} (hk : ∀ b ob, b ∉ [h.objs.size] → (h.push o).get? b = some ob → h'.get? b = some ob) : ∀ b ob, h.get? b = some ob → h'.get? b = some ob := fun b ob e => by
  refine hk b ob (fun hm => ?_) (Heap.get?_push_of_some _ e)
  simp only [List.mem_singleton] at hm
  exact absurd (hm ▸ Heap.lt_size e) (Nat.lt_irrefl _)

theorem best_any (mx : Bool) {l : List PV} {vs : List Value} {v : Value} (hit : IterAt U A c.h v vs.toArray) (hl : RelLC c l vs) : OkM U A NoX c (call (.builtin (if mx then "max" else "min")) [v]) (M.of (bestL mx l)) RelV L := by
  refine OkM.of fun pv hpv => ?_
  obtain ⟨is, hi, hpv⟩ := Option.bind_eq_some_iff.mp hpv
  obtain ⟨m, hm, rfl⟩ := Option.map_eq_some_iff.mp hpv
  obtain ⟨h1, h2⟩ := nums_at hl hi
  obtain ⟨o, hit⟩ := hit
  refine OkM.grow fun G s Q E hs hq => ?_
  cases mx with
  | true =>
    obtain ⟨g1, g2⟩ := max_val hm
    refine call_max_walk (hit _ s _ _ rfl hs fun I fp St hI W hst hfp => ⟨I, fp, _, _, _, _, _, rfl, W, hst, hfp, by rw [List.size_toArray, h1]; exact g1, CmpOf.ints_gt (numL is) h2, fun v h' tk hP hk => ?_⟩)
    subst hI
    obtain ⟨t, rfl⟩ := h2 _ _ hP
    rw [List.size_toArray, h1, g2]
    exact hq _ h' tk (by rw [← hs]; exact old_pushed hk) fun _ => mkrel_int
  | false =>
    obtain ⟨g1, g2⟩ := min_val hm
    refine call_min_walk (hit _ s _ _ rfl hs fun I fp St hI W hst hfp => ⟨I, fp, _, _, _, _, _, rfl, W, hst, hfp, by rw [List.size_toArray, h1]; exact g1, CmpOf.ints_lt (numL is) h2, fun v h' tk hP hk => ?_⟩)
    subst hI
    obtain ⟨t, rfl⟩ := h2 _ _ hP
    rw [List.size_toArray, h1, g2]
    exact hq _ h' tk (by rw [← hs]; exact old_pushed hk) fun _ => mkrel_int
end
end Mine
end

section
namespace Mine
open PySem PyProof PyProof.Rows

section
variable {U : Setup} {C : Cfg} {A : Around} {X : Addr → Prop} {c : Cf} {L : Addr} {env : Env} {ρ : Locs} {n : Nat}

theorem preSum_fold (is : List Int) : preSum (numL is) is.length = is.foldl (· + ·) 0 := by
  have key : ∀ k, k ≤ is.length → preSum (numL is) k = (is.take k).foldl (· + ·) 0 := by
    intro k
    induction k with
    | zero => intro _; rfl
    | succ k ih =>
      intro hk
      have hlt : k < is.length := by omega
      rw [List.take_succ_eq_append_getElem hlt, List.foldl_append, ← ih (by omega)]
      simp [preSum, numL, hlt]
  rw [key _ (Nat.le_refl _), List.take_length]

theorem fun_sum {l : List PV} {vs : List Value} {v : Value} (hit : IterAt U A c.h v vs.toArray) (hl : RelLC c l vs) : OkM U A NoX c (call (.builtin "sum") [v]) (M.of ((intsOf l).map fun is => .int (is.foldl (· + ·) 0))) RelV L := by
  refine OkM.of fun pv hpv => ?_
  obtain ⟨is, hi, rfl⟩ := Option.map_eq_some_iff.mp hpv
  obtain ⟨h1, h2⟩ := nums_at hl hi
  obtain ⟨o, hit⟩ := hit
  refine OkM.grow fun G s Q E hs hq => ?_
  refine call_sum_walkAnyS (hit _ s _ _ rfl hs fun I fp St hI W hst hfp => ⟨I, fp, _, _, _, _, _, numL is, rfl, W.toS, hst, hfp, h2, fun s' t' hm => ?_⟩)
  subst hI
  rw [List.size_toArray, h1, preSum_fold]
  rw [Moved.eq_with hm]
  exact hq _ s'.heap s'.toks (by rw [← hs]; exact old_pushed hm.heap) fun _ => mkrel_int

theorem fun_len {p : PV} {v : Value} (hv : RelC c p v) : OkM U A NoX c (call (.builtin "len") [v]) (lenP p) RelV L := by
  unfold lenP
  refine OkM.peek (fun G => seq_peek G hv) fun l h => OkM.iteT fun hlt => ?_
  obtain ⟨a, vs, e, hl, ha⟩ := h
  subst e
  have hlen := RelL.length hl
  refine OkM.still fun s Q E hs hq => ?_
  have hq' := hq (.int vs.toArray.size (s.toks + 1)) (s.toks + 1 + 1) (by rw [List.size_toArray, hlen]; exact mkrel_int)
  rcases ha with ha | ha
  · exact len_tuple (hs ▸ ha) (by rw [List.size_toArray, hlen]; omega) hq'
  · exact Calls.call_len_list (hs ▸ ha) (by rw [List.size_toArray, hlen]; omega) hq'

theorem sortI_perm : ∀ l : List Int, (sortI l).Perm l := by
  have ins : ∀ (x : Int) (l : List Int), (insI x l).Perm (x :: l) := by
    intro x l
    induction l with
    | nil => exact List.Perm.refl _
    | cons y r ih =>
      unfold insI
      split
      · exact (List.Perm.cons y ih).trans (List.Perm.swap x y r)
      · exact List.Perm.refl _
  intro l
  induction l with
  | nil => exact List.Perm.refl _
  | cons x r ih => exact (ins x _).trans (List.Perm.cons x ih)
theorem sortI_asc : ∀ l : List Int, (sortI l).Pairwise (· ≤ ·) := by
  have ins : ∀ (x : Int) (l : List Int), l.Pairwise (· ≤ ·) → (insI x l).Pairwise (· ≤ ·) ∧ ∀ z ∈ insI x l, z = x ∨ z ∈ l := by
    intro x l
    induction l with
    | nil => intro _; exact ⟨List.pairwise_singleton _ _, fun z hz => by simp [insI] at hz; exact .inl hz⟩
    | cons y r ih =>
      intro h
      obtain ⟨h1, h2⟩ := List.pairwise_cons.mp h
      obtain ⟨i1, i2⟩ := ih h2
      unfold insI
      split
      · rename_i hy
        refine ⟨List.pairwise_cons.mpr ⟨fun z hz => ?_, i1⟩, fun z hz => ?_⟩
        · rcases i2 z hz with rfl | hz
          · omega
          · exact h1 z hz
        · rcases List.mem_cons.mp hz with rfl | hz
          · exact .inr List.mem_cons_self
          · rcases i2 z hz with rfl | hz
            · exact .inl rfl
            · exact .inr (List.mem_cons_of_mem _ hz)
      · rename_i hy
        refine ⟨List.pairwise_cons.mpr ⟨fun z hz => ?_, h⟩, fun z hz => ?_⟩
        · rcases List.mem_cons.mp hz with rfl | hz
          · omega
          · have := h1 z hz; omega
        · rcases List.mem_cons.mp hz with rfl | hz
          · exact .inl rfl
          · exact .inr hz
  intro l
  induction l with
  | nil => exact List.Pairwise.nil
  | cons x r ih => exact (ins x _ ih).1

theorem ints_relL : ∀ {ns : List Int} {vs : List Value}, IntsAre vs ns → RelLC c (ns.map .int) vs
  | _, _, .nil => RelL.mkNil
  | _, _, .cons a t r => RelL.mkCons mkrel_int (ints_relL r)

theorem fun_sorted (T : Top U C) (hh : A.handled = none) {x : Addr × Addr} {es : List (Int × PV)} {kvs : List (Int × Value)} (hS : (x.1 == sysModules) = false) (hd : c.h.DictOf (intKind U.prog U.w) x.1 kvs)
    (hl : All2 (fun e k => e.1 = k.1 ∧ RelC c e.2 k.2) es kvs) (h64 : es.length < 64) : OkM U A NoX c (call (.builtin "sorted") [.ref x.1]) (M.ret (.lst ((sortI (es.map (·.1))).map .int))) RelV L := by
  obtain ⟨ep, hat⟩ := hd.dictAt
  have hlen := hl.length
  have hkeys : kvs.map (·.1) = es.map (·.1) := by
    clear hat hd h64 hlen
    induction hl with
    | nil => rfl
    | cons h _ ih => simp only [List.map_cons, ih, h.1]
  refine OkM.grow fun G s Q E hs hq => ?_
  refine Calls.call_function_entry kind_sorted plain_sorted entry_sorted (args_sorted1 _) ?_
  unfold Builtin.«sorted»
  refine wpAny_bind (m := checkCount "sorted" 1 1 _) (wpAny_pure ?_)
  refine wpAny_bind (W.kdu_collect (A := A.in1) (W.kdl_dict (knd := intKind U.prog U.w) (kvs := kvs) (ep := ep) hS) hh (hs ▸ hat) (by rw [sizeLine_eq]; omega) fun h' tk acc hk hacc => ?_)
  have hal : acc.toList.length = kvs.length := by rw [Array.length_toList]; exact hacc.1
  refine wpAny_bind (wpAny_newList ?_ (by rw [hal, sizeLine_eq]; omega))
  have hI : IntsAre acc.toList (kvs.map (·.1)) := by
    have key : ∀ (l : List Value) (ks : List (Int × Value)), l.length = ks.length → (∀ (j : Nat) (v : Value), l[j]? = some v → ∃ k y, ks[j]? = some (k, y) ∧ (intKind U.prog U.w).is k v = true) → IntsAre l (ks.map (·.1)) := by
      intro l
      induction l with
      | nil =>
        intro ks h _
        cases ks with
        | nil => exact .nil
        | cons _ _ => cases h
      | cons v r ih =>
        intro ks h hj
        cases ks with
        | nil => cases h
        | cons p ks =>
          obtain ⟨k, y, e1, e2⟩ := hj 0 v rfl
          simp only [List.getElem?_cons_zero, Option.some.injEq] at e1
          subst e1
          obtain ⟨t, rfl⟩ := Value.isInt_shape e2
          refine .cons _ _ (ih ks (by simpa using h) fun j v hv => hj (j + 1) v (by simpa using hv))
    exact key _ _ hal fun j v e => hacc.2 j v (by rw [← Array.getElem?_toList]; exact e)
  have hoL : (h'.push (seqObj "list" acc.toList.toArray 0)).get? h'.objs.size = some (seqObj "list" acc.toList.toArray 0) := Heap.get?_push_size _ rfl
  refine wpAny_bind (wpAny_holding (wpAny_call_entry PyProof.Rows.slot_list_sort ⟨_, hoL, rfl⟩ PyProof.Rows.entry_list_sort (list_sort_tree (n := 0) (vs := acc.toList) hoL hI (by omega) fun out ns' hI' hp hP => ⟨.none, rfl, ?_⟩) (PyProof.Rows.args_list_sort _)))
  have hns : ns' = sortI (es.map (·.1)) := by
    refine W.lks_uniq (hp.trans ?_) hP (sortI_asc _)
    rw [hkeys]; exact (sortI_perm _).symm
  refine wpAny_pure ⟨_, rfl, hq _ _ _ (fun b o e => ?_) fun hz => ?_⟩
  · have h1 := hk b o (hs ▸ e)
    have hne : h'.objs.size ≠ b := Nat.ne_of_gt (Heap.lt_size h1)
    unfold sortedHeap
    rw [Heap.get?_update_other _ _ hne]
    refine Heap.get?_push_of_some _ (Heap.get?_push_of_some _ ?_)
    rw [Heap.get?_update_other _ _ hne]
    exact Heap.get?_push_of_some _ h1
  · have g1 := get?_update_seq hoL (fun _ => (#[] : Array Value))
    have g2 := get?_update_seq (Heap.get?_push_of_some (seqObj "list" #[] 0) (Heap.get?_push_of_some (seqObj "tuple" acc.toList.toArray 0) g1)) (fun _ => out)
    refine Rel.mkLst (vs := out.toList) ⟨_, g2, rfl, _, rfl⟩ (fun q => ?_) ?_
    · have h1 := (G.fresh _ q).2
      obtain ⟨o, ho, _⟩ := G.own_kind q
      have := Heap.lt_size (hk _ _ (hs ▸ ho))
      exact Nat.lt_irrefl _ this
    · subst hns
      exact ints_relL (c := { c with h := _ }) hI'

theorem isi_case {T : String} {k : Nat} {p : PV} {v : Value} (hs : shp p = some k) (hp : RelC c p v) {r : Bool}
    (h0 : k = 0 → ∀ a vs, c.h.IsTuple a vs → OkM U A NoX c (call (.builtin "isinstance") [.ref a, .type T]) (M.ret (.bool r)) RelV L)
    (h1 : k = 1 → ∀ i t, OkM U A NoX c (call (.builtin "isinstance") [.int i t, .type T]) (M.ret (.bool r)) RelV L)
    (h2 : k = 2 → ∀ b, OkM U A NoX c (call (.builtin "isinstance") [.bool b, .type T]) (M.ret (.bool r)) RelV L) : OkM U A NoX c (call (.builtin "isinstance") [v, .type T]) (M.ret (.bool r)) RelV L := by
  cases p with
  | tup l => cases hs; obtain ⟨a, vs, rfl, ht, _⟩ := hp.tup'; exact h0 rfl a _ ht.1
  | int i => cases hs; obtain ⟨t, rfl⟩ := rel_int hp; exact h1 rfl i t
  | bool b => cases hs; cases rel_bool hp; exact h2 rfl b
  | _ => cases hs
theorem tyName_of {q : PV} {T : String} (h : tyName q = some T) : q = .con (.type T) := by
  obtain ⟨w, h1, h2⟩ := Option.bind_eq_some_iff.mp h
  cases conO_of h1
  cases w <;> first | (cases h2; done) | (cases h2; rfl)
theorem fun_isi {p q : PV} {v w : Value} (hp : RelC c p v) (hq : RelC c q w) : OkM U A NoX c (call (.builtin "isinstance") [v, w]) (isiP p q) RelV L := by
  refine OkM.ofB fun T hT => OkM.ofB fun k hk => ?_
  cases tyName_of hT
  cases hq.con'
  refine OkM.ite (fun h => ?_) fun _ => OkM.iteT fun h => ?_
  · subst h
    exact isi_case hk hp (fun e a vs ⟨o, ho, hc, _⟩ => by subst e; exact OkM.still fun s Q E hs hq => IsiPair.tuple_tuple (hs ▸ ho) hc (hq _ s.toks mkrel_bool))
      (fun e i t => by subst e; exact OkM.still fun s Q E hs hq => IsiPair.int_tuple (hq _ _ mkrel_bool)) (fun e b => by subst e; exact OkM.still fun s Q E hs hq => IsiPair.bool_tuple (hq _ _ mkrel_bool))
  · subst h
    exact isi_case hk hp (fun e a vs ⟨o, ho, hc, _⟩ => by subst e; exact OkM.still fun s Q E hs hq => IsiPair.tuple_bool (hs ▸ ho) hc (hq _ _ mkrel_bool))
      (fun e i t => by subst e; exact OkM.still fun s Q E hs hq => IsiPair.int_bool (hq _ _ mkrel_bool)) (fun e b => by subst e; exact OkM.still fun s Q E hs hq => IsiPair.bool_bool (hq _ s.toks mkrel_bool))

theorem hd_no {h : Bool} (hh : h = false → A.handled = none) (q : ¬ h = true) : A.handled = none := hh (eq_false_of_ne_true q)
theorem fun_best1 (H : HandIn A c) (hh : C.hd = false → A.handled = none) (mx : Bool) {p : PV} {v : Value} (hp : RelC c p v) : OkM U A NoX c (call (.builtin (if mx then "max" else "min")) [v]) (bestP mx C.hd p) RelV L := by
  unfold bestP
  cases e : tupO p with
  | some l =>
    cases tupO_of e
    obtain ⟨a, vs, rfl, ha, _, hl⟩ := hp.tup'
    exact OkM.iteF fun hd => best_any mx (iterT (hd_no hh hd) ha.1) hl
  | none =>
    refine OkM.peek (fun G => list_peek G hp) fun l h => ?_
    obtain ⟨a, vs, e, hl, ha⟩ := h
    subst e
    exact best_any mx (iterL H.at ha) hl

theorem fun_sortedP (T : Top U C) (hh : C.hd = false → A.handled = none) {p : PV} {v : Value} (hp : RelC c p v) : OkM U A NoX c (call (.builtin "sorted") [v]) (sortedP C.hd p) RelV L := by
  refine OkM.iteF fun hd => OkM.ofB fun k hk => OkM.getO fun G ob ho => OkM.ofB fun es he => OkM.iteT fun h64 => ?_
  cases locO_of hk
  obtain ⟨x, rfl, hx, hO⟩ := obj_at G ho hp
  obtain ⟨kvs, hdd, hl⟩ := dictI_at he hO
  exact fun_sorted T (hd_no hh hd) (not_sys T G (Own.of ho hx).1) hdd hl h64

theorem if_eq {α β : Type} {t : Sem α} {id k : String} {m m' : M β} {P : Cf → β → α → Prop} (h1 : id = k → OkM U A X c t m P L) (h2 : OkM U A X c t m' P L) : OkM U A X c t (if id = k then m else m') P L := OkM.ite h1 fun _ => h2
theorem fun_builtin (T : Top U C) (H : HandIn A c) (hh : C.hd = false → A.handled = none) {id : String} {ps : List PV} {vs : List Value} (hv : RelLC c ps vs) : OkM U A NoX c (call (.builtin id) vs) (builtinP C.hd id ps) RelV L := by
  refine if_eq (fun h => ?_) (if_eq (fun h => ?_) (if_eq (fun h => ?_) (if_eq (fun h => ?_) (if_eq (fun h => ?_) (if_eq (fun h => ?_) (if_eq (fun h => ?_) OkM.fail))))))
  · subst h; exact arg1_ok (t := fun vs => call (.builtin "len") vs) hv fun p v hp => fun_len hp
  · subst h; exact arg2_ok (t := fun vs => call (.builtin "isinstance") vs) hv fun p q v w hp hq => fun_isi hp hq
  · subst h
    refine arg1_ok (t := fun vs => call (.builtin "abs") vs) hv fun p v hp => OkM.intP fun i hi => ?_
    subst hi
    obtain ⟨t, rfl⟩ := rel_int hp
    exact OkM.still fun s Q E hs hq => call_abs_int fun u tk => hq _ tk mkrel_int
  · subst h; exact arg1_ok (t := fun vs => call (.builtin "max") vs) hv fun p v hp => fun_best1 H hh true hp
  · subst h; exact arg1_ok (t := fun vs => call (.builtin "min") vs) hv fun p v hp => fun_best1 H hh false hp
  · subst h
    exact arg1_ok (t := fun vs => call (.builtin "sum") vs) hv fun p v hp => OkM.peek (fun G => list_peek G hp) fun l ⟨a, vs, e, hl, ha⟩ => by subst e; exact fun_sum (iterL H.at ha) hl
  · subst h; exact arg1_ok (t := fun vs => call (.builtin "sorted") vs) hv fun p v hp => fun_sortedP T hh hp
end
end Mine
end

section
namespace Mine
open PySem PyProof PyProof.Rows

section
variable {U : Setup} {C : Cfg} {A : Around} {X : Addr → Prop} {c : Cf} {L : Addr} {env : Env} {ρ : Locs} {n : Nat}

theorem tup_new {l : List PV} {vs : List Value} {a : Addr} (ht : c.h.IsList a vs.toArray) (hl : RelLC c l vs) : OkM U A NoX c (call (.type "tuple") [.ref a]) (if l.length ≤ 100000 then M.ret (.tup l) else M.fail) RelV L :=
  OkM.iteT fun hn => OkM.grow fun G s Q E hs hq => call_tuple_list (hs ▸ ht) (fun h' hk => hq _ _ s.toks (fun b o e => Heap.get?_push_of_some _ (hk b o (hs ▸ e))) fun hz =>
    Rel.mkTup ⟨⟨_, Heap.get?_push_size _ rfl, rfl, _, rfl⟩, fun o e => by rw [Heap.get?_push_size _ rfl] at e; cases e; rfl⟩ (fun q => by
      obtain ⟨o, ho, _⟩ := G.own_kind q
      exact Nat.lt_irrefl _ (Heap.lt_size (hk _ _ (hs ▸ ho)))) (RelL.upN (Le.grow (fun b o e => Heap.get?_push_of_some _ (hk b o (hs ▸ e))) hz) hl)) (sz_line (by rw [RelL.length hl]; exact hn))
theorem typ_tuple {p : PV} {v : Value} (hv : RelC c p v) : OkM U A NoX c (call (.type "tuple") [v]) ((seqOf p).bind fun l => if l.length ≤ 100000 then M.ret (.tup l) else M.fail) RelV L := by
  cases p with
  | tup l =>
    refine OkM.at (m' := if l.length ≤ 100000 then M.ret (.tup l) else M.fail) rfl (OkM.iteT fun _ => ?_)
    obtain ⟨a, vs, rfl, ht, _⟩ := hv.tup'
    exact OkM.still fun s Q E hs hq => call_tuple_same (hs ▸ ht.1) (hq _ s.toks hv)
  | lst l =>
    refine OkM.at (m' := if l.length ≤ 100000 then M.ret (.tup l) else M.fail) rfl ?_
    obtain ⟨a, vs, rfl, ht, _, hl⟩ := hv.lst'
    exact tup_new ht hl
  | loc k =>
    exact OkM.peek (fun G => locL_ok G hv) fun l ⟨a, vs, e, hl, ht⟩ => by subst e; exact tup_new ht hl
  | _ => exact OkM.fail

theorem lst_new {T : String} {o : Obj} {k : Nat} {a : Addr} {l : List PV} {vs : List Value} (hl : RelLC c l vs) (hn : l.length ≤ 100000) (hT : T = "list" ∨ T = "tuple") (ho : c.h.get? a = some o) (hc : o.cls = .type T) (hd : o.data = .seq vs.toArray k) : OkM U A NoX c (call (.type "list") [.ref a]) (M.ret (.lst l)) RelV L :=
  OkM.grow fun G s Q E hs hq => call_list_seq a hT (hs ▸ ho) hc hd (fun h' c' hk hg => hq _ h' s.toks (fun b o e => hk b o (hs ▸ e)) fun hz =>
    Rel.mkLst ⟨_, hg, rfl, _, rfl⟩ (fun q => by
      have := (G.fresh _ q).2
      rw [hs] at this
      exact Nat.lt_irrefl _ this) (RelL.upN (Le.grow (fun b o e => hk b o (hs ▸ e)) hz) hl)) (sz_line (by rw [RelL.length hl]; exact hn))
theorem typ_list {p : PV} {v : Value} (hv : RelC c p v) : OkM U A NoX c (call (.type "list") [v]) ((seqOf p).bind fun l => if l.length ≤ 100000 then M.ret (.lst l) else M.fail) RelV L := by
  refine OkM.peek (fun G => seq_peek G hv) fun l ⟨a, vs, e, hl, ha⟩ => OkM.iteT fun hn => ?_
  subst e
  rcases ha with ⟨o, ho, hc, k, hd⟩ | ⟨o, ho, hc, k, hd⟩
  · exact lst_new hl hn (.inr rfl) ho hc hd
  · exact lst_new hl hn (.inl rfl) ho hc hd

theorem typ_int {p : PV} {v : Value} (hv : RelC c p v) : OkM U A NoX c (call (.type "int") [v]) (M.of ((numOf p).map .int)) RelV L := by
  cases p with
  | bool b => cases rel_bool hv; exact OkM.still fun s Q E hs hq => call_int_bool (hq _ _ mkrel_int)
  | int i => obtain ⟨t, rfl⟩ := rel_int hv; exact OkM.still fun s Q E hs hq => call_int_int (hq _ s.toks mkrel_int)
  | _ => exact OkM.fail

theorem typ_str {i : Int} {v : Value} (hv : RelC c (.int i) v) : OkM U A NoX c (call (.type "str") [v]) (if 0 ≤ i ∧ i < 10 then M.ret (.txt 8) else M.fail) RelV L := by
  split
  · rename_i hi
    obtain ⟨t, rfl⟩ := rel_int hv
    refine OkM.still fun s Q E hs hq => PySem.P.str_of_int ?_ (hq _ _ ?_)
    · have : i.natAbs < 10 := by omega
      exact Nat.lt_of_le_of_lt (Nat.log2_le_self _) (by omega)
    · refine Rel.mkTxt ?_
      obtain ⟨j, rfl⟩ := Int.eq_ofNat_of_zero_le hi.1
      have hj : j < 10 := by omega
      have : ∀ k : Fin 10, (Str.ofString (toString ((k.val : Nat) : Int))).length ≤ 8 := by decide +kernel
      exact this ⟨j, hj⟩
  · exact OkM.fail

theorem typ_range {a b : Int} {s : Shared} {t u v : Tok} (G : Good U c) (hs : s.heap = c.h) : RelC { c with h := s.heap.push { cls := .type "range", dict := none, data := .fields #[.int a t, .int b u, .int 1 v], slots := #[] } } (.rng a b) (.ref s.heap.objs.size) := by
  exact Rel.mkRng ⟨t, u, v, Heap.get?_push_size _ rfl⟩ (notOwn_at G hs)

theorem typ_range1 {b : Int} {v : Value} (hv : RelC c (.int b) v) : OkM U A NoX c (call (.type "range") [v]) (M.ret (.rng 0 b)) RelV L := by
  obtain ⟨t, rfl⟩ := rel_int hv
  refine OkM.grow fun G s Q E hs hq => call_range_1 (hq _ _ _ (fun b o e => by rw [hs]; exact Heap.get?_push_of_some _ e) fun _ => ?_)
  exact typ_range G hs
theorem typ_range2 {a b : Int} {v w : Value} (hv : RelC c (.int a) v) (hw : RelC c (.int b) w) : OkM U A NoX c (call (.type "range") [v, w]) (M.ret (.rng a b)) RelV L := by
  obtain ⟨t, rfl⟩ := rel_int hv; obtain ⟨u, rfl⟩ := rel_int hw
  refine OkM.grow fun G s Q E hs hq => call_range_2 (hq _ _ _ (fun b o e => by rw [hs]; exact Heap.get?_push_of_some _ e) fun _ => ?_)
  exact typ_range G hs
end
end Mine
end

section
namespace Mine
open PySem PyProof PyProof.Rows

section
variable {prog : Program} {w : World} {A : Around} {E : Value → Shared → Prop} {s : Shared}

theorem keys_miss : typeLookup (.type "tuple") (Str.ofString "keys") = pure none := by rw [typeLookup_type, builtinLookup_eq_fast]; kernel_rfl

set_option maxRecDepth 8000 in
theorem no_keys {a : Addr} {o : Obj} {xs : Array Value} {k : Nat} {Q : Option Value → Shared → Prop} (hx : s.heap.get? a = some o) (hc : o.cls = .type "tuple") (hdat : o.data = .seq xs k) (hd : o.dict = none) (hA : A.handled = none)
    (h : ∀ h' tk, (∀ b ob, s.heap.get? b = some ob → h'.get? b = some ob) → Q none { s with heap := h', toks := tk }) : wpAny (model prog w) A (getAttr? (.ref a) (Str.ofString "keys")) Q E s := by
  obtain ⟨c, dct, dat, sl⟩ := o
  simp only at hc hdat hd
  subst hc hdat hd
  obtain ⟨hp, g, d, tk, os⟩ := s
  have hT : ∀ tk', (⟨hp, g, d, tk', os⟩ : Shared).TypeIs (.ref a) "tuple" := fun _ => ⟨_, hx, rfl⟩
  have f1 := sub_AttributeError
  have f3 := PySem.F.slot_tuple_getattribute.lookup
  have f4 := PySem.F.slot_tuple_getattribute.bind (.ref a)
  have f5 := am_tuple_getattr_none
  unfold getAttr? getAttrBy? getAttrBy
  repeat (any_goals (first | assumption | exact hT _ | ((with_reducible show wpAny _ _ (call (Value.builtin "tuple.__getattribute__") _ _) _ _ _); refine call_meets PySem.F.slot_tuple_getattribute (hT _) am_entry_tuple_getattribute (PySem.F.args_tuple_getattribute_2 _ _) (meets_getattribute_miss_tuple a xs k sl (Str.ofString "keys") _ keys_miss (by decide +kernel) (by rw [sizeLine_eq]; decide +kernel)) ⟨hx, hA, fun h' tk' e hx' => ?_⟩) | wp_step))
  obtain ⟨t', u', he⟩ := hx'.there
  show wpAny _ _ (getattributeRaised _ _ _ _ _ _ _) _ _ _
  unfold getattributeRaised
  repeat (any_goals (first | assumption | wp_step))
  exact h _ _ hx'.keeps

theorem entry_update_loop : entryFor table "dict.update.loop" = some Builtin.«dict.update.loop» := entryFor_of_tree (by kernel_rfl)
theorem plain_update_loop : plainId "dict.update.loop" = true := by decide +kernel

noncomputable def PairAt (h : Heap) (v : Value) (k : Int) (y : Value) : Prop := ∃ p o n t, v = .ref p ∧ h.get? p = some o ∧ o.cls = .type "tuple" ∧ o.data = .seq #[.int k t, y] n

theorem typeOf_tup {p : Addr} {o : Obj} {Q : Value → Shared → Prop} (ho : s.heap.get? p = some o) (hc : o.cls = .type "tuple") (h : Q (.type "tuple") s) : wpAny (model prog w) A (typeOf (.ref p)) Q E s :=
  wpAny_typeOf (T := "tuple") ⟨o, ho, hc⟩ h

/-- a dict is filled from pairs -/
theorem dict_loop (hh : A.handled = none) {d it t : Addr} {items : Array Value} (hdi : d ≠ it) (hdt : d ≠ t) (hit : it ≠ t) : ∀ (ks : List (Int × Value)) (j i : Nat) (kvs : List (Int × Value)) (s : Shared) (R : Result → Shared → Prop),
    items.size = j + ks.length → s.heap.IsTupleIter it t j → s.heap.IsTuple t items → s.heap.DictOf (intKind prog w) d kvs → kvs.length + ks.length ≤ 100000 →
    (∀ m k y, ks[m]? = some (k, y) → ∃ v, items[j + m]? = some v ∧ PairAt s.heap v k y) →
    (∀ h' tk, h'.DictOf (intKind prog w) d (ks.foldl (fun l p => stored l p.1 p.2) kvs) → (∀ b o, b ≠ d → b ≠ it → s.heap.get? b = some o → h'.get? b = some o) → R (.ok (.ret .none)) { s with heap := h', toks := tk }) →
    codeAny (model prog w) A (.builtin "dict.update.loop" ⟨[.ref d, .ref it, rawInt i, .none], []⟩) R s
  | [], j, i, kvs, s, R, hsz, hI, hT, hD, _, _, hR => by
    refine codeAny_builtin entry_update_loop ?_
    rw [Around.under_plainId plain_update_loop _]
    show wpAny _ _ (pyNext (.ref it) >>= _) _ _ s
    refine wpAny_bind (wpAny_pyNext_tuple_end hh hI hT (by rw [Array.getElem?_eq_none]; simp at hsz; omega) fun h' hx => ?_)
    show wpAny _ _ (ret .none) _ _ _
    refine wpAny_pure (hR h' s.toks ?_ fun b o hbd hbi e => hx b o hbi e)
    exact hD.extBut hx hdi
  | (k, y) :: ks, j, i, kvs, s, R, hsz, hI, hT, hD, hlen, hP, hR => by
    refine codeAny_builtin entry_update_loop ?_
    rw [Around.under_plainId plain_update_loop _]
    show wpAny _ _ (pyNext (.ref it) >>= _) _ _ s
    obtain ⟨v, hv, p, o, nn, tt, rfl, ho, hc, hd⟩ := hP 0 k y rfl
    have hpd : p ≠ d := by
      rintro rfl
      obtain ⟨o', _, _, ho', hex, _⟩ := hD
      rw [ho] at ho'; cases ho'
      rw [hex.1] at hc; exact absurd hc (by decide)
    have hpi : p ≠ it := by
      rintro rfl
      obtain ⟨o', ho', hc', _⟩ := hI
      rw [ho] at ho'; cases ho'
      rw [hc'] at hc; exact absurd hc (by decide)
    refine wpAny_bind (wpAny_pyNext_tuple_item hI hT (by simpa using hv) fun h₁ hI₁ hs₁ => ?_)
    have hD₁ : h₁.DictOf (intKind prog w) d kvs := hD.sameBut hs₁ hdi
    have ho₁ : h₁.get? p = some o := (hs₁.2 p hpi).trans ho
    dsimp only
    refine wpAny_bind (wpAny_holding ?_)
    refine wpAny_bind (wpAny_tryCatch ?_)
    unfold Builtin.Dict.pairItems
    refine wpAny_bind (typeOf_tup ho₁ hc ?_)
    rw [if_pos (by decide)]
    refine wpAny_bind (wpAny_seqItems ho₁ hd ?_)
    refine wpAny_pure ?_
    dsimp only [Option.getD]
    show wpAny _ _ (holding [.int k tt, y] (dictSet d (.int k tt) y)) _ _ _
    refine wpAny_holding (wpAny_dictSet_pairs (knd := intKind prog w) (s := { s with heap := h₁ }) (intKind_is _ _ k tt) hD₁ (fun h₂ hD₂ hs₂ => ?_) (by rw [sizeLine_eq]; simp at hlen; omega))
    refine wpAny_pure ⟨plainId_quiet plain_update_loop _, ?_⟩
    have hT₂ : h₂.IsTuple t items := by
      obtain ⟨o', ho', r⟩ := hT
      exact ⟨o', (hs₂.2 t (Ne.symm hdt)).trans ((hs₁.2 t (Ne.symm hit)).trans ho'), r⟩
    have hI₂ : h₂.IsTupleIter it t (j + 1) := by
      obtain ⟨o', ho', r⟩ := hI₁
      exact ⟨o', (hs₂.2 it (Ne.symm hdi)).trans ho', r⟩
    refine dict_loop hh hdi hdt hit ks (j + 1) (i + 1) (stored kvs k y) _ R (by simp at hsz; omega) hI₂ hT₂ hD₂ ?_ (fun m k' y' hm => ?_) fun h' tk hD' hk => ?_
    · have : (stored kvs k y).length ≤ kvs.length + 1 := by
        unfold stored; split <;> simp
      simp at hlen; omega
    · obtain ⟨v', hv', p', o'', n'', t'', rfl, ho'', hc'', hd''⟩ := hP (m + 1) k' y' (by simpa using hm)
      refine ⟨_, by rw [show j + 1 + m = j + (m + 1) from by omega]; exact hv', p', o'', n'', t'', rfl, ?_, hc'', hd''⟩
      have h1 : p' ≠ d := by
        rintro rfl
        obtain ⟨oo, _, _, hoo, hex, _⟩ := hD
        rw [ho''] at hoo; cases hoo
        rw [hex.1] at hc''; exact absurd hc'' (by decide)
      have h2 : p' ≠ it := by
        rintro rfl
        obtain ⟨oo, hoo, hcc, _⟩ := hI
        rw [ho''] at hoo; cases hoo
        rw [hcc] at hc''; exact absurd hc'' (by decide)
      exact (hs₂.2 p' h1).trans ((hs₁.2 p' h2).trans ho'')
    · exact hR h' tk hD' fun b ob hbd hbi e => hk b ob hbd hbi ((hs₂.2 b hbd).trans ((hs₁.2 b hbi).trans e))

theorem call_dict_pairs (hh : A.handled = none) {t : Addr} {o : Obj} {items : Array Value} {kk : Nat} {ks : List (Int × Value)} {Q : Value → Shared → Prop} (ho : s.heap.get? t = some o) (hc : o.cls = .type "tuple") (hdat : o.data = .seq items kk) (hdn : o.dict = none)
    (hsz : items.size = ks.length) (hlen : ks.length ≤ 100000) (hP : ∀ (m : Nat) (k : Int) (y : Value), ks[m]? = some (k, y) → ∃ v, items[m]? = some v ∧ PairAt s.heap v k y)
    (hQ : ∀ h' tk, h'.DictOf (intKind prog w) s.heap.objs.size (ks.foldl (fun l p => stored l p.1 p.2) []) → (∀ b o, s.heap.get? b = some o → h'.get? b = some o) → Q (.ref s.heap.objs.size) { s with heap := h', toks := tk }) :
    wpAny (model prog w) A (call (.type "dict") [.ref t]) Q E s := by
  refine callType_codes (Q₁ := fun obj s₁ => obj = .ref s.heap.objs.size ∧ s₁ = { s with heap := s.heap.push { cls := .type "dict", data := .dict #[] } }) PySem.F.kt_called_dict (PySem.F.kt_typeCall_dict_1 _) PySem.F.entry_dict_init (kt_code_dict_new _ ⟨rfl, rfl⟩) ?_
  rintro obj s₁ ⟨rfl, rfl⟩
  have hnew : (s.heap.push { cls := .type "dict", data := .dict #[] }).DictOf (intKind prog w) s.heap.objs.size [] := Heap.DictOf.new s.heap
  have ho' : (s.heap.push { cls := .type "dict", data := .dict #[] }).get? t = some o := Heap.get?_push_of_some _ ho
  have hlt : t < s.heap.objs.size := Heap.lt_size ho
  refine ⟨hnew.typeIs, PySem.F.args_dict_init_2 _ _, ?_⟩
  unfold Builtin.«dict.__init__»
  refine wpAny_bind ?_
  unfold Builtin.Dict.selfAndRest
  refine wpAny_bind (wpAny_notOrdered_dict hnew.typeIs ?_)
  show wpAny _ _ (pure (s.heap.objs.size, [Value.ref t])) _ _ _
  refine wpAny_pure ?_
  show wpAny _ _ (Builtin.Dict.updateFrom "dict.__init__" s.heap.objs.size (.ref t) [] .none) _ _ _
  unfold Builtin.Dict.updateFrom
  refine wpAny_bind (typeOf_tup ho' hc ?_)
  rw [if_pos (by decide)]
  refine wpAny_bind (no_keys ho' hc hdat hdn hh fun h₁ tk₁ hk₁ => ?_)
  rw [if_pos (by rfl)]
  refine wpAny_bind (wpAny_rule ?_)
  have hT₁ : h₁.IsTuple t items := ⟨o, hk₁ _ _ ho', hc, kk, hdat⟩
  refine wpAny_bind (wpAny_pyIter_tuple hT₁ ?_)
  have hs1 : s.heap.objs.size < h₁.objs.size := by
    obtain ⟨o', _, _, hg, _⟩ := hnew
    exact Heap.lt_size (hk₁ _ _ hg)
  refine wpAny_pure ⟨plainId_quiet plain_update_loop _, ?_⟩
  refine dict_loop (prog := prog) (w := w) (A := A.in1) hh (Nat.ne_of_lt hs1) (Nat.ne_of_gt hlt) (Nat.ne_of_gt (Nat.lt_trans hlt hs1)) ks 0 0 [] { s with heap := h₁.push { cls := .type "tuple_iterator", data := .fields #[.ref t, .int 0 0] }, toks := tk₁ } _ (by omega) ⟨_, Heap.get?_push_size _ rfl, rfl, rfl⟩ ⟨o, Heap.get?_push_of_some _ (hk₁ _ _ ho'), hc, kk, hdat⟩
    ((hnew.extBut (b := h₁.objs.size) (fun b ob _ e => hk₁ b ob e) (Nat.ne_of_lt hs1)).push _) (by simpa using hlen) (fun m k y hm => ?_) fun h' tk hD hk => ?_
  · obtain ⟨v, hv, p, op, nn, tt, rfl, hp, hpc, hpd⟩ := hP m k y hm
    exact ⟨_, by simpa using hv, p, op, nn, tt, rfl, Heap.get?_push_of_some _ (hk₁ _ _ (Heap.get?_push_of_some _ hp)), hpc, hpd⟩
  · refine ⟨rfl, hQ h' tk hD fun b ob e => ?_⟩
    have hb := Heap.lt_size e
    exact hk b ob (Nat.ne_of_lt hb) (Nat.ne_of_lt (Nat.lt_trans hb hs1)) (Heap.get?_push_of_some _ (hk₁ _ _ (Heap.get?_push_of_some _ e)))
end
end Mine
end

section
namespace Mine
open PySem PyProof PyProof.Rows

section
variable {U : Setup} {C : Cfg} {A : Around} {X : Addr → Prop} {c : Cf} {L : Addr} {env : Env} {ρ : Locs} {n : Nat}

inductive PairIn (c : Cf) (p q : PV) (v : Value) : Prop
  | mk (a : Addr) (x y : Value) (e : v = .ref a) (t : TupAt c.h a [x, y]) (h1 : RelC c p x) (h2 : RelC c q y)
theorem two_cons {α : Type} {l : List α} {p : α × α} (h : two l = some p) : l = [p.1, p.2] := by
  match l, h with
  | [x, y], h => cases h; rfl
theorem tup2_of {v : PV} {p : PV × PV} (h : tup2 v = some p) : v = .tup [p.1, p.2] := by
  obtain ⟨l, h1, h2⟩ := Option.bind_eq_some_iff.mp h
  cases tupO_of h1
  rw [two_cons h2]
theorem pair_in {z : PV} {p : PV × PV} {v : Value} (e : tup2 z = some p) (h : RelC c z v) : PairIn c p.1 p.2 v := by
  cases tup2_of e
  obtain ⟨a, vs, rfl, ht, _, hl⟩ := h.tup'
  obtain ⟨x, r, rfl, hx, hr⟩ := hl.cons'
  obtain ⟨y, r', rfl, hy, hr'⟩ := hr.cons'
  cases hr'.nil'
  exact ⟨a, x, y, rfl, ht, hx, hy⟩

theorem put_rel {K : Type} [DecidableEq K] {es : List (K × PV)} {kvs : List (K × Value)} {k : K} {p : PV} {v : Value} (h : All2 (fun e x => e.1 = x.1 ∧ RelC c e.2 x.2) es kvs) (hv : RelC c p v) :
    All2 (fun e x => e.1 = x.1 ∧ RelC c e.2 x.2) (putG es k p) (stored kvs k v) := by
  have any : es.any (fun q => decide (q.1 = k)) = kvs.any (fun q => decide (q.1 = k)) := by
    induction h with
    | nil => rfl
    | cons h _ ih => simp only [List.any_cons, ih, h.1]
  unfold putG stored
  rw [any]
  split
  · rename_i hcc
    clear hcc any
    induction h with
    | nil => exact .nil
    | @cons a b l m h _ ih =>
      simp only [List.map_cons]
      refine .cons ?_ ih
      by_cases hk : a.1 = k
      · have hb : b.1 = k := h.1 ▸ hk
        simp only [hk, hb, if_true]; exact ⟨trivial, hv⟩
      · have hb : ¬ b.1 = k := h.1 ▸ hk
        simp only [hk, hb, if_false]; exact h
  · rename_i hcc
    clear hcc any
    induction h with
    | nil => exact .cons ⟨rfl, hv⟩ .nil
    | cons h _ ih => exact .cons h ih

theorem all_ints : ∀ {ps : List (PV × PV)} {es es' : List (Int × PV)}, putAllI es ps = some es' → ∃ qs : List (Int × PV), ps = qs.map (fun q => (PV.int q.1, q.2)) ∧ es' = qs.foldl (fun l q => putG l q.1 q.2) es
  | [], es, es', h => by cases h; exact ⟨[], rfl, rfl⟩
  | (p, q) :: ps, es, es', h => by
    obtain ⟨i, hi, h⟩ := Option.bind_eq_some_iff.mp h
    cases intO_of hi
    obtain ⟨qs, h1, h2⟩ := all_ints h
    exact ⟨(_, q) :: qs, by rw [h1]; rfl, h2⟩

theorem fold_rel : ∀ {qs : List (Int × PV)} {ks : List (Int × Value)} {es : List (Int × PV)} {kvs : List (Int × Value)}, All2 (fun e x => e.1 = x.1 ∧ RelC c e.2 x.2) qs ks → All2 (fun e x => e.1 = x.1 ∧ RelC c e.2 x.2) es kvs →
    All2 (fun e x => e.1 = x.1 ∧ RelC c e.2 x.2) (qs.foldl (fun l q => putG l q.1 q.2) es) (ks.foldl (fun l q => stored l q.1 q.2) kvs)
  | _, _, es, kvs, .nil, h => h
  | _, _, es, kvs, .cons (a := a) (b := b) h t, h0 => by
    simp only [List.foldl_cons]
    exact fold_rel t (h.1 ▸ put_rel h0 h.2)

inductive ValsOf (c : Cf) (qs : List (Int × PV)) (vs : List Value) : Prop
  | mk (ks : List (Int × Value)) (n1 : vs.length = qs.length) (n2 : ks.length = qs.length) (r : All2 (fun e x => e.1 = x.1 ∧ RelC c e.2 x.2) qs ks) (p : ∀ (m : Nat) (k : Int) (y : Value), ks[m]? = some (k, y) → GetV (PairAt c.h · k y) vs[m]?)
theorem vals_of : ∀ {qs : List (Int × PV)} {l : List PV} {vs : List Value}, RelLC c l vs → pairsOf l = some (qs.map (fun q => (PV.int q.1, q.2))) → ValsOf c qs vs
  | [], [], _, h, _ => by cases h.nil'; exact ⟨[], rfl, rfl, .nil, fun m k y h => nomatch h⟩
  | _ :: _, [], _, _, e => by cases e
  | [], _ :: _, _, _, e => by obtain ⟨_, _, _, _, q⟩ := mapO_cons e; cases q
  | q :: qs, z :: l, _, h, e => by
    obtain ⟨v, vs, rfl, hz, hr⟩ := h.cons'
    obtain ⟨p, ps, e1, e2, e3⟩ := mapO_cons e
    obtain ⟨e4, e5⟩ := List.cons.inj e3
    subst e4
    obtain ⟨ks, n1, n2, h2, h3⟩ := vals_of (qs := qs) hr (e2.trans (congrArg some e5.symm))
    obtain ⟨a, x, y, rfl, ⟨⟨o, ho, hc, nn, hd⟩, _⟩, g3, g4⟩ := pair_in e1 hz
    obtain ⟨t, rfl⟩ := rel_int g3
    refine ⟨(q.1, y) :: ks, congrArg (· + 1) n1, congrArg (· + 1) n2, .cons ⟨rfl, g4⟩ h2, fun m k y' hk => ?_⟩
    cases m with
    | zero => cases hk; exact ⟨_, rfl, a, o, nn, t, rfl, ho, hc, hd⟩
    | succ m => exact h3 m k y' hk

theorem dict_new {es : List (Int × PV)} {kvs : List (Int × Value)} {x : Addr × Addr} (h : All2 (fun e k => e.1 = k.1 ∧ RelC c e.2 k.2) es kvs) (hD : c.h.DictOf (intKind U.prog U.w) x.1 kvs) : ORel U c (if es.isEmpty then .dict0 else .dictI es) x := by
  cases h with
  | nil =>
    obtain ⟨o', es', ep, g1, g2, g3, g4, g5, g6⟩ := hD
    have : es' = #[] := by
      cases hes' : es'.toList with
      | nil => exact Array.toList_eq_nil_iff.mp hes'
      | cons _ _ => rw [hes'] at g5; cases g5
    subst this
    exact ⟨o', ep, g1, g2, g3⟩
  | cons a t => exact ⟨_, hD, .cons a t⟩
theorem typ_dict (hh : A.handled = none) {l : List PV} {v : Value} (hv : RelC c (.tup l) v) {ps : List (PV × PV)} (h1 : pairsOf l = some ps) (hlen : ¬ 1000 < ps.length) {es : List (Int × PV)} (h2 : putAllI [] ps = some es) : OkM U A NoX c (call (.type "dict") [v])
    ((newO (if es.isEmpty then .dict0 else .dictI es)).bind fun k => M.ret (.loc k)) RelV L := by
  obtain ⟨a, vs, rfl, ⟨⟨o, ho, hc, kk, hd⟩, hdn⟩, _, hl⟩ := hv.tup'
  obtain ⟨qs, rfl, rfl⟩ := all_ints h2
  obtain ⟨ks, k0, k1, k2, k3⟩ := vals_of hl h1
  rw [List.length_map] at hlen
  have hfold := fold_rel (es := []) (kvs := []) k2 .nil
  generalize qs.foldl (fun l q => putG l q.1 q.2) [] = es at hfold ⊢
  refine OkM.seen (b := .loc c.st.next) (st₁ := (c.add (if es.isEmpty then .dict0 else .dictI es) c.h (0, 0)).st) rfl fun G s hs Q E hQ => ?_
  refine with_hz (call_dict_pairs (ks := ks) hh (hs ▸ ho) hc hd (hdn o ho) (by rw [List.size_toArray, k0, k1]) (by omega) (fun m k y hm => ?_) fun h' tk hD hk hz => ?_)
  · obtain ⟨w, g1, g2⟩ := k3 m k y hm
    exact ⟨w, by simpa using g1, hs ▸ g2⟩
  · rw [hs] at hk hz
    have hge : c.h.objs.size ≤ s.heap.objs.size := by rw [hs]; exact Nat.le_refl _
    have hlt : s.heap.objs.size < h'.objs.size := by
      obtain ⟨o', _, _, hg, _⟩ := hD
      exact Heap.lt_size hg
    have L1 := Cf.add_le G (o := if es.isEmpty then .dict0 else .dictI es) (x := (s.heap.objs.size, s.heap.objs.size)) hk hz hge hge
    exact hQ _ (c.add (if es.isEmpty then .dict0 else .dictI es) h' (s.heap.objs.size, s.heap.objs.size)) _ rfl rfl (Same.mk s _ _) ⟨L1, Cf.add_good G hk hz hge hge hlt hlt (dict_new (hfold.mono fun _ _ q => ⟨q.1, q.2.upN L1⟩) hD) (.inl rfl)⟩ Cf.add_loc

theorem fun_type (hh : C.hd = false → A.handled = none) {id : String} {ps : List PV} {vs : List Value} (hv : RelLC c ps vs) : OkM U A NoX c (call (.type id) vs) (typeP C.hd id ps) RelV L := by
  refine if_eq (fun h => ?_) (if_eq (fun h => ?_) (if_eq (fun h => ?_) (if_eq (fun h => ?_) (if_eq (fun h => ?_) (if_eq (fun h => ?_) OkM.fail)))))
  · subst h; exact arg1_ok (t := fun vs => call (.type "int") vs) hv fun p v hp => typ_int hp
  · subst h; exact arg1_ok (t := fun vs => call (.type "tuple") vs) hv fun p v hp => typ_tuple hp
  · subst h; exact arg1_ok (t := fun vs => call (.type "list") vs) hv fun p v hp => typ_list hp
  · subst h; exact arg1_ok (t := fun vs => call (.type "str") vs) hv fun p v hp => OkM.intP fun i hi => by subst hi; exact typ_str hp
  · subst h
    refine OkM.ite (fun _ => ?_) fun _ => ?_
    · exact arg1_ok (t := fun vs => call (.type "range") vs) hv fun p v hp => OkM.intP fun i hi => by subst hi; exact typ_range1 hp
    · exact arg2_ok (t := fun vs => call (.type "range") vs) hv fun p q v w hp hq => OkM.intP fun i hi => OkM.intP fun j hj => by subst hi hj; exact typ_range2 hp hq
  · subst h
    refine arg1_ok (t := fun vs => call (.type "dict") vs) hv fun p v hp => ?_
    unfold dictP
    refine OkM.iteF fun hd => OkM.ofB fun l hl => OkM.ofB fun ps h1 => OkM.iteF fun hn => OkM.ofB fun es h2 => ?_
    cases tupO_of hl
    exact typ_dict (hd_no hh hd) hp h1 hn h2
end
end Mine
end

section
namespace Mine
open PySem PyProof PyProof.Rows

section
variable {U : Setup} {C : Cfg} {A : Around} {X : Addr → Prop} {c : Cf} {L : Addr} {env : Env} {ρ : Locs} {n : Nat}

noncomputable def mkA (A : Around) (a : Addr) (vs : List Value) : Around := A.under (.builtin "type.__call__" ⟨.ref a :: vs, []⟩)
theorem mkA_facts (A : Around) (a : Addr) (vs : List Value) : (mkA A a vs).depth = A.depth + 1 ∧ (mkA A a vs).units = A.units + 1 ∧ (mkA A a vs).frames = A.frames ∧ (mkA A a vs).handled = A.handled := ⟨rfl, rfl, rfl, rfl⟩

/-- the heap after a class made its object -/
noncomputable def heapI (h : Heap) (a : Addr) : Heap := (h.push W.emptyDict).push (W.instObj a h.objs.size)
inductive NewInst (U : Setup) (c : Cf) (a : Addr) (c₁ : Cf) : Prop
  | mk (L : Le NoX c c₁) (G : Good U c₁) (m : RelC c₁ (.loc c.st.next) (.ref (c.h.objs.size + 1))) (h : c₁.h = heapI c.h a) (s : c₁.st = (c.add (.inst a []) c.h (0, 0)).st)
theorem new_inst (G : Good U c) (a : Addr) : ∃ c₁, NewInst U c a c₁ := by
  have hkeep : ∀ b ob, c.h.get? b = some ob → (heapI c.h a).get? b = some ob := fun b ob e => Heap.get?_push_of_some _ (Heap.get?_push_of_some _ e)
  have hz : (heapI c.h a).objs.size = c.h.objs.size + 2 := by unfold heapI; simp only [Heap.size_push]
  have hx : (heapI c.h a).get? (c.h.objs.size + 1) = some (W.instObj a c.h.objs.size) := by unfold heapI; heap_get
  have hd : (heapI c.h a).get? c.h.objs.size = some W.emptyDict := Heap.get?_push_of_some _ (Heap.get?_push_at rfl rfl)
  exact ⟨c.add (.inst a []) (heapI c.h a) (c.h.objs.size + 1, c.h.objs.size), Cf.add_le G hkeep (by omega) (Nat.le_succ _) (Nat.le_refl _),
    Cf.add_good G hkeep (by omega) (Nat.le_succ _) (Nat.le_refl _) (by rw [hz]; exact Nat.lt_succ_self _) (by rw [hz]; exact Nat.lt_succ_of_lt (Nat.lt_succ_self _)) ⟨_, 0, [], hx, rfl, rfl, rfl, Nat.succ_ne_self _, hd, .nil⟩ (.inr ⟨_, _, rfl⟩), Cf.add_loc, rfl, rfl⟩
/-- a class is called: a new object, and its `__init__` runs on it -/
theorem mk_ok (T : Top U C) (hR : RunOk U C n) (R : Room A (n + 1)) (FR : FramesIn U A c) (hA : A.handled = none) {a i : Addr} (hi : C.inits a = some i) :
    OkM U A NoX c (call (.ref a) []) ((newO (.inst a [])).bind fun k => (runF C n i [.loc k]).bind fun v => if noneV v then M.ret (.loc k) else M.fail) RelV L := by
  obtain ⟨K, hK, _, _, _, _, _, _, _, hI⟩ := T.frag
  obtain ⟨k1, k2, k3⟩ := hI a i hi
  intro G s hs r st' hm Q E hQ hE
  obtain ⟨c₁, L1, G1, hmu, hh, hst⟩ := new_inst G a
  have hm : ((runF C n i [.loc c.st.next]).bind fun v => if noneV v then M.ret (.loc c.st.next) else M.fail) c₁.st = some (r, st') := hst ▸ hm
  obtain ⟨h, g, d, t, os⟩ := s
  cases hs
  have X0 := hK.keeps G.stays
  refine wpAny_call (W.make_core (W.makes_of X0 k1) (W.looks_findIn X0 k2) (fun self => W.bind_fn X0 self k3) (.inl rfl) ?_)
  show codeAny _ (mkA A a []) _ _ ⟨heapI c.h a, g, d, t, os⟩
  obtain ⟨a1, a2, a3, a4⟩ := mkA_facts A a []
  have back : ∀ {c'}, FramesIn U (mkA A a []) c' → FramesIn U A c' := fun q => let ⟨l, q1, q2, q3⟩ := q.all; ⟨l, a3 ▸ q1, q2, q3⟩
  have FR1 : FramesIn U (mkA A a []) c₁ := let ⟨l, q1, q2, q3⟩ := (FR.up (fun _ q => q.elim) L1).all; ⟨l, a3 ▸ q1, q2, q3⟩
  have hA1 : (mkA A a []).handled = none := a4.trans hA
  have run := hR (mkA A a []) c₁ i [.loc c.st.next] [.ref (c.h.objs.size + 1)] L ⟨by have := R.1; rw [a1]; omega, by have := R.2; rw [a2]; omega⟩ FR1 (fun e he => absurd (he.symm.trans hA1) nofun) (fun _ => hA1) (RelL.mkCons hmu RelL.mkNil) G1 ⟨_, g, d, t, os⟩ hh.symm
  rcases bind_cases hm with ⟨hr, rfl⟩ | ⟨v, st₂, hr, hm3⟩
  · exact run _ _ hr _ (fun b a c' s' e => nomatch e) fun e c' s' _ w1 w2 w3 w4 w5 w6 => hE e c' s' rfl w1 w2 ((Same.mk _ _ _).trans w3) ⟨L1.trans w4.1, w4.2⟩ (w5.low L1.size) (back w6)
  · cases v with
    | none =>
      cases hm3
      exact run _ _ hr _ (fun b a c' s' e w1 w2 w3 w4 w5 => by
        cases e
        exact ⟨w5.none', hQ _ _ c' s' rfl w1 w2 ((Same.mk _ _ _).trans w3) ⟨L1.trans w4.1, w4.2⟩ (hmu.upN w4.1)⟩) fun e c' s' e => nomatch e
    | _ => cases hm3

theorem callV_con {v : Value} {args : List PV} : callV C (n + 1) (.con v) args = match v with
      | .builtin id => builtinP C.hd id args
      | .type id => typeP C.hd id args
      | .ref a => (match args with
        | [] => if C.hd then M.fail else (match C.inits a with
          | some i => (newO (.inst a [])).bind fun k => (runF C n i [.loc k]).bind fun v => if noneV v then M.ret (.loc k) else M.fail
          | Option.none => M.fail)
        | _ :: _ => cutM (runF C n a args))
      | _ => M.fail := by kernel_rfl
theorem cv_ok (T : Top U C) (hR : RunOk U C n) : CvOk U C (n + 1) := by
  intro A c pf f ps vs L R FR H hh hf hv
  cases pf with
  | con w =>
    cases hf.con'
    refine OkM.at callV_con ?_
    cases f with
    | builtin id => exact fun_builtin T H hh hv
    | type id => exact fun_type hh hv
    | ref a =>
      cases ps with
      | nil =>
        cases hv.nil'
        refine OkM.iteF fun hd => ?_
        cases hi : C.inits a with
        | some i => exact mk_ok T hR R FR (hd_no hh hd) hi
        | none => exact OkM.fail
      | cons p r => exact hR.fn _ _ _ _ _ _ R.down FR H hh hv
    | _ => exact OkM.fail
  | _ => exact OkM.failAt (by kernel_rfl)
end
end Mine
end

section
namespace Mine
open PySem PyProof PyProof.Rows

section
variable {U : Setup} {C : Cfg} {A : Around} {X : Addr → Prop} {c : Cf} {L : Addr} {env : Env} {ρ : Locs} {n : Nat}

noncomputable def JoOk (U : Setup) (C : Cfg) (n : Nat) : Prop := ∀ A env ρ c ps (out : Str) L, Room A n → Fk U C.hd A env ρ c → out.length + 1000 * ps.length ≤ 100000 → OkM U A NoX c (joinParts out (evalEach ps env)) (joinE C n env.scope ρ ps) RelV L

theorem text_len : ∀ k : Fin 1001, (Str.ofString (toString ((k.val : Nat) : Int))).length ≤ 8 := by decide +kernel

theorem joinE_nil : joinE C (n + 1) env.scope ρ [] = M.ret (.txt 100000) := by kernel_rfl
theorem joinE_cons {p : Expr} {r : List Expr} : joinE C (n + 1) env.scope ρ (p :: r) = match partV p with
      | .text x => if x.length ≤ 1000 then joinE C n env.scope ρ r else M.fail
      | .val e => (evalE C n env.scope ρ e).bind fun v => intP v fun i => if 0 ≤ i ∧ i ≤ 1000 then joinE C n env.scope ρ r else M.fail
      | .bad => M.fail := by kernel_rfl
theorem partV_text {p : Expr} {x : Str} (h : partV p = .text x) : ∃ kd pos, p = .Constant (.str x) kd pos := by
  cases p with
  | Constant c kd pos => cases c <;> first | (cases h; done) | (cases h; exact ⟨_, _, rfl⟩)
  | FormattedValue e k sp pos =>
    have h : (if k = -1 ∧ sp.isNone then PartV.val e else .bad) = .text x := h
    by_cases q : k = -1 ∧ sp.isNone
    · rw [if_pos q] at h; cases h
    · rw [if_neg q] at h; cases h
  | _ => cases h
theorem partV_val {p e : Expr} (h : partV p = .val e) : ∃ pos, p = .FormattedValue e (-1) none pos := by
  cases p with
  | Constant c kd pos => cases c <;> cases h
  | FormattedValue e' k sp pos =>
    have h : (if k = -1 ∧ sp.isNone then PartV.val e' else .bad) = .val e := h
    by_cases q : k = -1 ∧ sp.isNone
    · rw [if_pos q] at h; cases h
      obtain ⟨rfl, hs⟩ := q
      rw [Option.isNone_iff_eq_none] at hs
      subst hs
      exact ⟨_, rfl⟩
    · rw [if_neg q] at h; cases h
  | _ => cases h
theorem jo_step (hJ : JoOk U C n) (R : Room A (n + 1)) {out x : Str} {t : Tok} {r : List Expr} (F : Fk U C.hd A env ρ c) (hx : x.length ≤ 1000) (hl : out.length + 1000 * (r.length + 1) ≤ 100000) :
      OkM U A NoX c (do
        let some s ← asStr? (.str x t) | unsupported "internal:joinedstr"
        if out.length + s.length > sizeLine then unsupported "str:memory"
        joinParts (out ++ s) (evalEach r env)) (joinE C n env.scope ρ r) RelV L := by
  refine (hJ A env ρ c r (out ++ x) L R.down F (by rw [Str.length_append]; omega)).of_wp fun Q E s h => ?_
  refine wpAny_bind (wpAny_pure ?_)
  show wpAny _ _ (if out.length + x.length > sizeLine then _ else _) _ _ _
  rw [if_neg (by rw [sizeLine_eq]; omega)]
  exact h
theorem joinParts_cons {out : Str} {p : Expr} {r : List Expr} : joinParts out (evalEach (p :: r) env) = (do
    let some s ← asStr? (← eval p env) | unsupported "internal:joinedstr"
    if out.length + s.length > sizeLine then unsupported "str:memory"
    joinParts (out ++ s) (evalEach r env)) := rfl
theorem jo_ok (hE : EvOk U C n) (hJ : JoOk U C n) : JoOk U C (n + 1) := by
  intro A env ρ c ps out L R F hlen
  cases ps with
  | nil => exact OkM.at joinE_nil (OkM.still fun s Q E hs hq => wpAny_mkStr (hq _ _ (Rel.mkTxt (by simp at hlen; omega))) (by rw [sizeLine_eq]; simp at hlen; omega))
  | cons p r =>
    refine OkM.at2 joinParts_cons joinE_cons ?_
    cases hp : partV p with
    | bad => exact OkM.fail
    | text x =>
      obtain ⟨kd, pos, rfl⟩ := partV_text hp
      refine OkM.iteT fun hx => ?_
      refine OkM.bind (m := M.ret ()) (f := fun _ => joinE C n env.scope ρ r) (P := fun _ _ v => ∃ t, v = .str x t) (OkM.still fun s Q E hs hq => wpAny_Constant_str (hq _ _ ⟨_, rfl⟩)) fun c₁ _ v L₁ G₁ hv => ?_
      obtain ⟨t, rfl⟩ := hv
      exact jo_step hJ R (F.upN L₁) hx hlen
    | val e =>
      obtain ⟨pos, rfl⟩ := partV_val hp
      rw [arm_eval_FormattedValue]
      refine OkM.at2 (PySem.Sem.bind_assoc _ _ _) rfl ((hE _ _ _ _ _ _ R.down F).bind fun c₁ pv v L₁ G₁ hv => OkM.intP fun i hi => OkM.iteT fun hb => ?_)
      subst hi
      obtain ⟨t, rfl⟩ := rel_int hv
      refine OkM.bind (m := M.ret ()) (f := fun _ => joinE C n env.scope ρ r) (P := fun _ _ v => ∃ t, v = .str (Str.ofString (toString i)) t) (OkM.standAt (OkM.still fun s Q E hs hq => ?_)) fun c₂ _ v L₂ G₂ hv => ?_
      · show wpAny _ _ (do let v' ← holding [.int i t] (pure (.int i t)); formatField v' Str.empty) Q E s
        refine wpAny_bind (wpAny_holding (wpAny_pure (wpAny_formatField_int ?_ (hq _ _ ⟨_, rfl⟩))))
        have : i.natAbs < 1001 := by omega
        exact Nat.lt_of_le_of_lt (Nat.log2_le_self _) (by omega)
      · obtain ⟨t, rfl⟩ := hv
        refine jo_step hJ R ((F.upN L₁).upN L₂) ?_ hlen
        obtain ⟨j, rfl⟩ := Int.eq_ofNat_of_zero_le hb.1
        exact Nat.le_trans (text_len ⟨j, by omega⟩) (by omega)

theorem ev_Joined (hJ : JoOk U C n) (R : Room A (n + 1)) (F : Fk U C.hd A env ρ c) {ps : List Expr} {pos : Pos} : OkM U A NoX c (eval (.JoinedStr ps pos) env) (evalE C (n + 1) env.scope ρ (.JoinedStr ps pos)) RelV L := by
  refine OkM.at evalE_Joined (OkM.iteF fun hl => ?_)
  match ps with
  | [] => exact absurd (.inl (Nat.zero_lt_succ _)) hl
  | [_] => exact absurd (.inl (Nat.lt_succ_self _)) hl
  | p :: q :: r =>
    rw [arm_eval_JoinedStr]
    exact hJ _ _ _ _ _ _ _ R.down F (by show (0 : Nat) + _ ≤ _; omega)
end
end Mine
end

section
namespace Mine
open PySem PyProof PyProof.Rows

section
variable {U : Setup} {C : Cfg} {A : Around} {X : Addr → Prop} {c c' : Cf} {L : Addr} {env : Env} {ρ : Locs} {n : Nat} {hd : Bool}

theorem Fk.scr (F : Fk U hd A env ρ c) : Scr c.h (XOf env) := by
  rintro a (rfl | ⟨x, hx⟩) o ho
  · obtain ⟨m, ⟨o', es, ep, ho', hd', _⟩, _⟩ := F.ns
    rw [ho] at ho'; cases ho'
    exact .inl ⟨es, ep, hd'⟩
  · obtain ⟨_, v, o', ho', hd'⟩ := F.off x a hx
    rw [ho] at ho'; cases ho'
    exact .inr (.inl ⟨v, hd'⟩)

/-- one of a frame's places turns -/
noncomputable def StX (env : Env) (x : Str) (a : Addr) : Prop := (env.kindOf x = some .local ∧ a = env.locals) ∨ (env.kindOf x = some .cell ∧ env.cells.lookup x = some a)
theorem StX.of {x : Str} {a : Addr} (h : StX env x a) : XOf env a := by
  rcases h with ⟨_, h⟩ | ⟨_, h⟩
  · exact .inl h
  · exact .inr ⟨x, h⟩
theorem Scr.sub {h : Heap} {Y : Addr → Prop} (S : Scr h X) (k : ∀ a, Y a → X a) : Scr h Y := fun a ya => S a (k a ya)
theorem turn_le {h : Heap} {b : Addr} (hb : X b) (hs : Heap.SameBut b c.h h) : Le X c { c with h := h } :=
  ⟨fun _ _ e => e, fun _ e => .inl e, Nat.le_of_eq hs.1.symm, fun a o e _ hx => ⟨o.slots, by rw [hs.2 a (fun q => hx (q ▸ hb))]; exact e, fun _ => rfl⟩⟩
theorem turn_good (G : Good U c) (F : Fk U hd A env ρ c) {h : Heap} {b : Addr} (hb : XOf env b) (hs : Heap.SameBut b c.h h) : Good U { c with h := h } := by
  obtain ⟨nb, nB⟩ := F.mine b hb
  refine G.turn (turn_le (X := XOf env) hb hs) F.scr (fun a o e => ?_) fun a ha => hs.2 a (fun q => nb (q ▸ ha))
  rw [hs.2 a (fun q => by rw [q] at e; rw [nB] at e; cases e)]
  exact G.stays a o e

theorem frames_turn {h h' base : Heap} (k : ∀ b o, h.get? b = some o → (∀ vs, o.data ≠ .fields vs) → ∃ o', h'.get? b = some o' ∧ ∀ vs, o'.data ≠ .fields vs) : ∀ {l : List Env}, h.FunFrames base l → h'.FunFrames base l
  | [], _ => trivial
  | env :: rest, ⟨hk, ⟨La, o, hf, hn, ho, hd⟩, hr⟩ => by
    obtain ⟨o', e1, e2⟩ := k La o ho hd
    exact ⟨hk, ⟨La, o', hf, hn, e1, e2⟩, frames_turn k hr⟩

/-- what a frame's place turned into -/
inductive TwAt (h h' : Heap) (b : Addr) : Prop
  | dict (o o' : Obj) (es es' : Array DictEntry) (n n' : Nat) (g : h.get? b = some o) (d : o.data = .dict es n) (g' : h'.get? b = some o') (d' : o'.data = .dict es' n')
  | cell (v v' : Option Value) (x : h.IsCell b v) (x' : h'.IsCell b v')
theorem TwAt.nf {h h' : Heap} {b : Addr} (t : TwAt h h' b) : ∃ o', h'.get? b = some o' ∧ ∀ vs, o'.data ≠ .fields vs := by
  cases t with
  | dict o o' es es' n n' g d g' d' => exact ⟨o', g', fun vs e => by rw [d'] at e; cases e⟩
  | cell v v' x x' => exact let ⟨o', g', d'⟩ := x'; ⟨o', g', fun vs e => by rw [d'] at e; cases e⟩
theorem TwAt.nf0 {h h' : Heap} {b : Addr} (t : TwAt h h' b) {o : Obj} {vs : Array Value} (g : h.get? b = some o) (d : o.data = .fields vs) : False := by
  cases t with
  | dict o₀ o' es es' n n' g₀ d₀ g' d' => rw [g] at g₀; cases g₀; rw [d] at d₀; cases d₀
  | cell v v' x x' => obtain ⟨o', g', d'⟩ := x; rw [g] at g'; cases g'; rw [d] at d'; cases d'
theorem TwAt.isCell {h h' : Heap} {b : Addr} (t : TwAt h h' b) {v : Option Value} (x : h.IsCell b v) : ∃ v, h'.IsCell b v := by
  cases t with
  | dict o o' es es' n n' g d g' d' => obtain ⟨o₁, g₁, d₁⟩ := x; rw [g] at g₁; cases g₁; rw [d] at d₁; cases d₁
  | cell v v' x x' => exact ⟨v', x'⟩
theorem TwAt.isDict {h h' : Heap} {b : Addr} (t : TwAt h h' b) {o : Obj} {es : Array DictEntry} {n : Nat} (g : h.get? b = some o) (d : o.data = .dict es n) : ∃ o es n, h'.get? b = some o ∧ o.data = .dict es n := by
  cases t with
  | dict _ o' es es' n n' g d g' d' => exact ⟨o', es', n', g', d'⟩
  | cell v v' x x' => obtain ⟨o', g', d'⟩ := x; rw [g] at g'; cases g'; rw [d] at d'; cases d'
theorem Fk.turn (F : Fk U hd A env ρ c) {h : Heap} {b : Addr} {ρ' : Locs} (hs : Heap.SameBut b c.h h) (t : TwAt c.h h b) (hn : NsAt { c with h := h } env ρ') (hc : ∀ x, env.kindOf x = some .cell → CellAt { c with h := h } env ρ' x) : Fk U hd A env ρ' { c with h := h } := by
  refine ⟨F.kind, F.globals, F.builtins, hn, hc, F.apart, fun y a hy => ?_, F.mine, ?_, F.hand.1, fun e he => ?_⟩
  · obtain ⟨h1, w, h2⟩ := F.off y a hy
    by_cases e : a = b
    · subst e; exact ⟨h1, t.isCell h2⟩
    · exact ⟨h1, w, h2.sameBut hs e⟩
  · obtain ⟨l, hl, hf, hnn⟩ := F.frames.all
    refine ⟨l, hl, frames_turn (fun a o ha hnf => ?_) hf, fun a ha => ?_⟩
    · by_cases e : a = b
      · subst e; exact t.nf
      · exact ⟨o, (hs.2 a e).trans ha, hnf⟩
    · obtain ⟨n1, n2, o, es, n, ho, hd⟩ := hnn a ha
      by_cases e : a = b
      · subst e
        obtain ⟨o', es', n', g', d'⟩ := t.isDict ho hd
        exact ⟨n1, n2, o', es', n', g', d'⟩
      · exact ⟨n1, n2, o, es, n, (hs.2 a e).trans ho, hd⟩
  · obtain ⟨a, o, vs, h1, h2, h3, h4, h5⟩ := F.hand.2 e he
    exact ⟨a, o, vs, h1, (hs.2 a fun q => t.nf0 (q ▸ h2) h3).trans h2, h3, h4, h5⟩

theorem look_ne {x y : Str} {p : PV} {ρ : Locs} (h : y ≠ x) : List.lookup y ((x, p) :: ρ) = ρ.lookup y := by rw [List.lookup_cons, beq_eq_false_iff_ne.mpr h]
theorem look_eq {x : Str} {p : PV} {ρ : Locs} : List.lookup x ((x, p) :: ρ) = some p := by rw [List.lookup_cons, beq_self_eq_true]
theorem isVar_of {sc : Scope} {x : Str} (h : isVar sc x = true) : sc.names.lookup x = some .local ∨ sc.names.lookup x = some .cell := (Bool.or_eq_true_iff.mp h).imp eq_of_beq eq_of_beq
theorem GetV.up {c' : Cf} (L : Le X c c') (S : Scr c.h X) {p : PV} {o : Option Value} (h : GetV (RelC c p) o) : GetV (RelC c' p) o := let ⟨v, e, r⟩ := h; ⟨v, e, Rel.up L S _ _ r⟩
theorem store_m (F : Fk U C.hd A env ρ c) {x : Str} {p : PV} {v : Value} (hx : isVar env.scope x = true) (hv : RelC c p v) : OkM U A (StX env x) c (storeName env x v) (M.ret ((x, p) :: ρ)) (fun c' ρ' _ => Fk U C.hd A env ρ' c') L := by
  refine OkM.leafR fun G s hs Q E hQ => ?_
  obtain ⟨m, hn, hmm⟩ := F.ns
  have hsc : Scr c.h (StX env x) := F.scr.sub fun _ => StX.of
  rcases isVar_of hx with hk | hk
  · refine wpAny_storeName_local hk (hs ▸ hn) (fun h' hn' hs' => ?_) (by rw [F.kind]; rfl)
    rw [hs] at hs'
    have hX : StX env x env.locals := .inl ⟨hk, rfl⟩
    have L1 := turn_le (c := c) hX hs'
    refine hQ _ { c with h := h' } _ rfl rfl (Same.mk s _ _) ⟨L1, turn_good G F hX.of hs'⟩ (F.turn hs' ?_ ⟨_, hn', fun y pv hy hl => ?_⟩ fun y hy => ?_)
    · obtain ⟨o, es, ep, g, d, _⟩ := hn
      obtain ⟨o', es', ep', g', d', _⟩ := hn'
      exact .dict o o' es es' ep ep' g d g' d'
    · by_cases hxy : y = x
      · subst hxy
        rw [look_eq] at hl; cases hl
        exact ⟨v, if_pos rfl, Rel.up L1 hsc _ _ hv⟩
      · rw [look_ne hxy] at hl
        rw [if_neg hxy]
        exact (hmm y pv hy hl).up L1 hsc
    · obtain ⟨a, w, h1, h2, h3⟩ := F.cell y hy
      refine ⟨a, w, h1, h2.sameBut hs' (F.off y a h1).1, fun pv hl => ?_⟩
      rw [look_ne (by rintro rfl; rw [Env.kindOf, hk] at hy; cases hy)] at hl
      exact (h3 pv hl).up L1 hsc
  · obtain ⟨b, v₀, hb1, hb2, _⟩ := F.cell x hk
    refine wpAny_storeName_cell F.kind hk hb1 (hs ▸ hb2) fun h' hc' hs' => ?_
    rw [hs] at hs'
    have hX : StX env x b := .inr ⟨hk, hb1⟩
    have L1 := turn_le (c := c) hX hs'
    refine hQ _ { c with h := h' } _ rfl rfl (Same.mk s _ _) ⟨L1, turn_good G F hX.of hs'⟩ (F.turn hs' (.cell _ _ hb2 hc') ⟨m, hn.sameBut hs' (Ne.symm (F.off x b hb1).1), fun y pv hy hl => ?_⟩ fun y hy => ?_)
    · rw [look_ne (by rintro rfl; rw [Env.kindOf, hk] at hy; cases hy)] at hl
      exact (hmm y pv hy hl).up L1 hsc
    · by_cases hyx : y = x
      · subst hyx
        refine ⟨b, some v, hb1, hc', fun pv hl => ?_⟩
        rw [look_eq] at hl; cases hl
        exact ⟨v, rfl, Rel.up L1 hsc _ _ hv⟩
      · obtain ⟨a, w, h1, h2, h3⟩ := F.cell y hy
        refine ⟨a, w, h1, h2.sameBut hs' (fun q => hyx (name_of_addr F.apart (mem_of_lookup h1) (q ▸ mem_of_lookup hb1))), fun pv hl => ?_⟩
        rw [look_ne hyx] at hl
        exact (h3 pv hl).up L1 hsc
theorem ok_store (F : Fk U C.hd A env ρ c) {x : Str} {p : PV} {v : Value} (hv : RelC c p v) : OkM U A (StX env x) c (storeName env x v)
    (if isVar env.scope x then M.ret ((x, p) :: ρ) else M.fail) (fun c' ρ' _ => Fk U C.hd A env ρ' c') L := OkM.iteT fun hx => store_m F hx hv
/-- the same step, told otherwise -/
theorem OkM.retAs {α β γ : Type} {t : Sem α} {b : β} {b' : γ} {P : Cf → β → α → Prop} {P' : Cf → γ → α → Prop} (h : OkM U A X c t (M.ret b) P L) (hP : ∀ c' a, Le X c c' → P c' b a → P' c' b' a) : OkM U A X c t (M.ret b') P' L := by
  intro G s hs r st' hm Q E hQ hE
  cases hm
  exact h G s hs _ _ rfl Q E (fun b a c' s' e w1 w2 w3 w4 w5 => by cases e; exact hQ _ a c' s' rfl w1 w2 w3 w4 (hP c' a w4.1 w5)) fun e c' s' q => nomatch q
end
end Mine
end

section
namespace Mine
open PySem PyProof PyProof.Rows

section
variable {U : Setup} {C : Cfg} {A : Around} {X : Addr → Prop} {c : Cf} {L : Addr} {env : Env} {ρ : Locs} {n : Nat}

theorem put_same {k : Nat} {o : MO} {h : Heap} {x : Addr × Addr} (G : Good U c) (hk : (c.st.objs k).isSome = true) (hx : c.μ k = some x) (hs : Heap.SameBut x.1 c.h h) (ho : ∀ c', Le NoX c c' → c'.h = h → ORel U c' o x) (hi : x.2 = x.1) :
    Ends U X c (c.put k o h) := by
  have hoth : ∀ b ob, b ≠ x.1 → b ≠ x.2 → c.h.get? b = some ob → h.get? b = some ob := fun b ob h1 _ e => (hs.2 b h1).trans e
  exact ⟨put_le hx hk hoth (Nat.le_of_eq hs.1.symm), put_good G hx hk hoth (Nat.le_of_eq hs.1.symm) (ho _ (put_le hx hk hoth (Nat.le_of_eq hs.1.symm)) rfl) (.inl hi)⟩

theorem RelL.set {h : Heap} {μ : Map} {O : Addr → Prop} {p : PV} {v : Value} (h2 : Rel h μ O p v) : ∀ {l : List PV} {vs : List Value} {j : Nat}, RelL h μ O l vs → RelL h μ O (l.set j p) (vs.set j v)
  | [], _, _, h1 => by cases h1.nil'; exact RelL.mkNil
  | q :: l, _, 0, ⟨w, r, e, hp, hr⟩ => by subst e; exact RelL.mkCons h2 hr
  | q :: l, _, j + 1, ⟨w, r, e, hp, hr⟩ => by subst e; exact RelL.mkCons hp (RelL.set h2 hr)

theorem flat_at (G : Good U c) {k : Nat} {ob : MO} {x : Addr × Addr} (hk : c.st.objs k = some ob) (hx : c.μ k = some x) (hi : instO ob = none) : x.2 = x.1 := by
  obtain ⟨y, hy, _, hI⟩ := G.objs k ob hk
  rw [hx] at hy; cases hy
  rcases hI with hI | ⟨_, _, rfl⟩
  · exact hI
  · cases hi
theorem dictS_at {ob : MO} {es : List (Str × PV)} (h : dictSO ob = some es) {x : Addr × Addr} (hO : ORel U c ob x) : ODict (strKind U.prog U.w) c es x := by
  rcases dictSO_of h with ⟨rfl, rfl⟩ | rfl
  · exact ⟨[], dict0_of _ hO, .nil⟩
  · exact hO
theorem set_list (G : Good U c) {k : Nat} {l : List PV} {i : Int} {p : PV} {u w v : Value} (hk : c.st.objs k = some (.list l)) (ho : RelC c (.loc k) u) (hi : RelC c (.int i) w) (hv : RelC c p v) (hlt : 0 ≤ i ∧ i.toNat < l.length ∧ i < 1000000) :
    OkM U A NoX c (setItem u w v) (setO k (some (.list (l.set i.toNat p)))) (fun _ _ _ => True) L := by
  obtain ⟨t, rfl⟩ := rel_int hi
  obtain ⟨x, rfl, hx, vs, h1, h2, h3⟩ := obj_at G hk ho
  obtain ⟨oo, hoo, hc, kk, hd⟩ := id h1
  have hlen := RelL.length h2
  have D := put_list (X := NoX) (l' := l.set i.toNat p) (vs' := vs.set i.toNat v) (f := (·.setIfInBounds i.toNat v)) G hk hx h1 (by simp) (RelL.set hv h2)
  exact OkM.seen (b := ()) (st₁ := (c.put k (.list (l.set i.toNat p)) c.h).st) rfl fun _ s hs Q E hQ => wp_setItem_list (hs ▸ hoo) hc hd hlt.1 (by omega) (by rw [List.size_toArray, hlen]; omega)
    (hQ _ (c.put k (.list (l.set i.toNat p)) (c.h.update x.1 (Obj.mapSeq (·.setIfInBounds i.toNat v)))) _ rfl (by show s.heap.update _ _ = _; rw [hs]; rfl) (Same.mk s _ _) D trivial)
theorem set_dict {K : Type} [DecidableEq K] {knd : KeyKind U.prog U.w K} {k : Nat} {ob ob' : MO} {es : List (K × PV)} {key : K} {x : Addr × Addr} {p : PV} {w v : Value} (G : Good U c) (hk : c.st.objs k = some ob) (hx : c.μ k = some x) (hI : instO ob = none) (hO : ODict knd c es x) (hl : es.length < 1000) (hw : knd.is key w = true) (hv : RelC c p v)
    (hor : ∀ c', ODict knd c' (putG es key p) x → ORel U c' ob' x) : OkM U A NoX c (setItem (.ref x.1) w v) (setO k (some ob')) (fun _ _ _ => True) L := by
  obtain ⟨kvs, hD, h⟩ := hO
  have hlen := h.length
  exact OkM.seen (b := ()) (st₁ := (c.put k ob' c.h).st) rfl fun _ s hs Q E hQ => wpAny_setItem_pairs (knd := knd) hw (hs ▸ hD) (fun h' hd' hsb =>
    hQ _ (c.put k ob' h') _ rfl rfl (Same.mk s _ _) (put_same G (by rw [hk]; rfl) hx (hs ▸ hsb) (fun c' L1 e => hor c' ⟨_, e ▸ hd', put_rel (h.mono fun _ _ q => ⟨q.1, q.2.upN L1⟩) (hv.upN L1)⟩) (flat_at G hk hx hI)) trivial) (by rw [sizeLine_eq]; omega)

theorem leaf_setItem {o i p : PV} {u w v : Value} (ho : RelC c o u) (hi : RelC c i w) (hv : RelC c p v) : OkM U A NoX c (setItem u w v) (setI o i p) (fun _ _ _ => True) L := by
  refine OkM.ofB fun k hk => OkM.getO fun G ob hob => ?_
  cases locO_of hk
  cases e : listO ob with
  | some l =>
    cases listO_of e
    exact OkM.intP fun i hii => OkM.iteT fun hlt => by subst hii; exact set_list G hob ho hi hv hlt
  | none =>
    refine OkM.ofB fun key hkey => OkM.ofB fun ob' hf => ?_
    obtain ⟨x, rfl, hx, hO⟩ := obj_at G hob ho
    cases key with
    | I i =>
      cases keyOf_int hkey
      obtain ⟨t, rfl⟩ := rel_int hi
      obtain ⟨es, he, hf⟩ := Option.bind_eq_some_iff.mp hf
      by_cases hl : es.length < 1000
      · rw [if_pos hl] at hf; cases hf
        exact set_dict G hob hx (by cases ob <;> first | rfl | cases he) (dictI_at he hO) hl (intKind_is _ _ _ t) hv fun _ h => h
      · rw [if_neg hl] at hf; cases hf
    | T y =>
      cases keyOf_str hkey
      obtain ⟨t, rfl⟩ := rel_str hi
      obtain ⟨es, he, hf⟩ := Option.bind_eq_some_iff.mp hf
      by_cases hl : es.length < 1000
      · rw [if_pos hl] at hf; cases hf
        exact set_dict G hob hx (by cases ob <;> first | rfl | cases he) (dictS_at he hO) hl (strKind_is _ _ _ t) hv fun _ h => h
      · rw [if_neg hl] at hf; cases hf
end
end Mine
end

section
namespace Mine
open PySem PyProof PyProof.Rows

section
variable {U : Setup} {C : Cfg} {A : Around} {X : Addr → Prop} {c : Cf} {L : Addr} {env : Env} {ρ : Locs} {n : Nat}

theorem putL_rel {x : Str} {p : PV} {v : Value} {hsh : Int} {tk : Tok} (hv : RelC c p v) : ∀ {fs : List (Str × PV)} {es : List DictEntry}, All2 (RelE c) fs es → All2 (RelE c) (putF fs x p) (W.putL x hsh (.str x tk) v es)
  | _, _, .nil => .cons ⟨⟨tk, rfl⟩, hv⟩ .nil
  | _, _, .cons (a := f) (b := e) ⟨⟨tk', hk⟩, h2⟩ t => by
    simp only [putF, W.putL]
    by_cases hx : f.1 = x
    · have h1 : e.key.isStr x = true := by rw [hk, hx]; simp [Value.isStr]
      rw [if_pos hx, h1, if_pos rfl]
      exact .cons ⟨⟨tk', hx ▸ hk⟩, hv⟩ t
    · have h1 : e.key.isStr x = false := by rw [hk]; simp only [Value.isStr]; exact beq_eq_false_iff_ne.mpr hx
      rw [if_neg hx, h1, if_neg (by decide)]
      exact .cons ⟨⟨tk', hk⟩, h2⟩ (putL_rel hv t)

theorem putL_len {x : Str} {v key : Value} {hsh : Int} : ∀ {es : List DictEntry}, (W.putL x hsh key v es).length ≤ es.length + 1
  | [] => Nat.le_refl _
  | e :: r => by
    simp only [W.putL]
    split
    · simp
    · simp only [List.length_cons]; exact Nat.succ_le_succ putL_len

theorem no_refs {fs : List (Str × PV)} {es : List DictEntry} (h : All2 (RelE c) fs es) : es.any (·.refKey) = false := by
  induction h with
  | nil => rfl
  | cons h _ ih =>
    obtain ⟨⟨tk, hk⟩, _⟩ := h
    rw [List.any_cons, ih]
    simp only [DictEntry.refKey, hk]; rfl

theorem osa_put {K : W.Frag} {R : Result → Shared → Prop} {s : Shared} {x dx cl : Addr} {ox : Obj} {es : List DictEntry} {m : Nat} {name : Str} {tk : Tok} {v : Value} {prog : Program} {w : World} (X : K.In s.heap)
    (I : W.InstAt s.heap x ox cl (some (W.dictOf es m))) (hd : ox.dict = some dx) (hp : W.plainOver K cl = true) (ht : W.takerIn K cl name = some none) (hh : W.hasDictIn K cl = true)
    (D : s.heap.get? dx = some (W.dictOf es m)) (hr : es.any (·.refKey) = false) (hz : es.length ≤ 1000)
    (h : R (.ok (.ret .none)) { s with heap := s.heap.update dx (Obj.putName name (PyData.keyHash w.params name) (.str name s.toks) v), toks := s.toks + 1 }) :
    codeAny (model prog w) A (.call (.builtin "object.__setattr__") ⟨[.ref x, .str name tk, v], []⟩) R s := by
  refine W.osa_open X I hp ht fun b => ?_
  obtain ⟨cd, hc, hd'⟩ := W.any_some hh
  have D' : (s.heap.update dx (Obj.putName name (PyData.keyHash w.params name) (.str name s.toks) v)).get? dx = some (W.dictOf (W.putL name (PyData.keyHash w.params name) (.str name s.toks) v es) (W.putN name es m)) := by
    have e := W.putName_dict name (PyData.keyHash w.params name) (.str name s.toks) v es m
    rw [Heap.get?_update_self _ D (by rw [e]; rfl), e]
  obtain ⟨hx, hcl, hn, -⟩ := I
  obtain ⟨oc, odi, oda, osl⟩ := ox
  dsimp only at hcl hd
  subst hcl hd
  refine wpAny_bind (wpAny_pure (wpAny_bind (wpAny_bind (wpAny_loadPart hx (wpAny_bind ((W.looks_clsIn X hc).here ?_))))))
  rw [hd']
  refine wpAny_pure (a := some dx) (wpAny_bind (wpAny_pure (wpAny_bind ?_)))
  unfold nsSet
  refine wpAny_bind (wpAny_bind (wpAny_askSetting (wpAny_pure (wpAny_bind (wpAny_mkText (wpAny_bind (wpAny_loadPart D ?_)))))))
  dsimp only
  have cc : (!es.toArray.any (·.key.isStr name) && es.toArray.any (·.refKey)) = false := by
    rw [← Array.any_toList, ← Array.any_toList, hr, Bool.and_false]
  rw [aRefKeyMayBeTheName_at, cc]
  refine wpAny_updatePart D ?_
  refine wpAny_bind (wpAny_lookBehind D' (pastItsLine_dict (by rw [List.size_toArray, sizeLine_eq]; have := putL_len (x := name) (v := v) (key := .str name s.toks) (hsh := PyData.keyHash w.params name) (es := es); omega)) ?_)
  exact wpAny_pure h

theorem leaf_setAttr (T : Top U C) {o p : PV} {u v : Value} {x : Str} (ho : RelC c o u) (hv : RelC c p v) : OkM U A NoX c (setAttr u x v) (setA C o x p) (fun _ _ _ => True) L := by
  refine OkM.ofB fun k hk => OkM.getO fun G ob hob => OkM.ofB fun q hq => OkM.iteT fun hat => ?_
  cases locO_of hk
  cases instO_of hq
  obtain ⟨K, hK, _, _, _, _, _, _, hS, _⟩ := T.frag
  obtain ⟨q1, q2, q3, q4⟩ := hS q.1 x hat.1
  obtain ⟨y, rfl, hy, oo, m, es, h1, h2, h3, h4, h5, h6, h7⟩ := obj_at G hob ho
  have I : W.InstAt c.h y.1 oo q.1 (some (W.dictOf es m)) := by
    refine ⟨h1, h2, ?_, ?_⟩
    · obtain ⟨oc, od, oda, os⟩ := oo
      cases h4; rfl
    · rw [h3]; exact h6
  have hlive : (c.st.objs k).isSome = true := by rw [hob]; rfl
  have hlen := h7.length
  refine OkM.seen (b := ()) (st₁ := (c.put k (.inst q.1 (putF q.2 x p)) c.h).st) rfl fun _ s hs Q E hQ => ?_
  have X0 := hK.keeps G.stays
  refine W.set_plain (hs ▸ X0) (hs ▸ I) q1 (osa_put (s := { s with toks := s.toks + 1 }) (hs ▸ X0) (hs ▸ I) h3 q2 q3 q4 (hs ▸ h6) (no_refs h7) (by have := hat.2; omega) ?_)
  have e := W.putName_dict x (PyData.keyHash U.w.params x) (.str x (s.toks + 1)) v es m
  have hget := Heap.get?_update_self (Obj.putName x (PyData.keyHash U.w.params x) (.str x (s.toks + 1)) v) h6 (by rw [e]; rfl)
  rw [e] at hget
  have hoth : ∀ b ob, b ≠ y.2 → c.h.get? b = some ob → (c.h.update y.2 (Obj.putName x (PyData.keyHash U.w.params x) (.str x (s.toks + 1)) v)).get? b = some ob := fun b ob hb e => (Heap.get?_update_other _ _ (Ne.symm hb)).trans e
  have hsz : c.h.objs.size ≤ (c.h.update y.2 (Obj.putName x (PyData.keyHash U.w.params x) (.str x (s.toks + 1)) v)).objs.size := Nat.le_of_eq (Heap.size_after_update ..).symm
  have heq : s.heap.update y.2 (Obj.putName x (PyData.keyHash U.w.params x) (.str x (s.toks + 1)) v) = c.h.update y.2 (Obj.putName x (PyData.keyHash U.w.params x) (.str x (s.toks + 1)) v) := by rw [hs]
  generalize c.h.update y.2 (Obj.putName x (PyData.keyHash U.w.params x) (.str x (s.toks + 1)) v) = H' at hget hoth hsz heq
  have L1 := put_le (X := NoX) (o := .inst q.1 (putF q.2 x p)) hy hlive (fun b ob _ hb e => hoth b ob hb e) hsz
  have G1 := put_good G hy hlive (fun b ob _ hb e => hoth b ob hb e) hsz (o := .inst q.1 (putF q.2 x p)) ⟨oo, _, _, hoth _ _ h5 h1, h2, h3, h4, h5, hget, putL_rel (hv.upN L1) (h7.mono fun _ _ q => ⟨q.1, q.2.upN L1⟩)⟩ (.inr ⟨_, _, rfl⟩)
  exact hQ _ (c.put k (.inst q.1 (putF q.2 x p)) H') _ rfl heq (Same.mk s _ _) ⟨L1, G1⟩ trivial
end
end Mine
end

section
namespace Mine
open PySem PyProof PyProof.Rows

section
variable {U : Setup} {C : Cfg} {A : Around} {X : Addr → Prop} {c c' : Cf} {L : Addr} {env : Env} {ρ : Locs} {n : Nat}

/-- what is no dict stays whole -/
theorem Le.exact (K : Le X c c') {a : Addr} {o : Obj} (h : c.h.get? a = some o) (n : ¬ Own c.μ c.st a) (x : ¬ X a) (hd : ∀ es n, o.data ≠ .dict es n) : c'.h.get? a = some o := by
  obtain ⟨sl, e, q⟩ := K.step a o h n x
  rw [q hd] at e
  exact e

/-- what was made since counts not -/
theorem Le.fresh {n0 : Nat} (h0 : c.h.objs.size ≤ n0) (K : Le (fun a => X a ∨ n0 ≤ a) c c') : Le X c c' :=
  ⟨K.ext, K.own, K.size, fun a o e n x => K.step a o e n fun q => by
    rcases q with q | q
    · exact x q
    · exact absurd (Heap.lt_size e) (Nat.not_lt.mpr (Nat.le_trans h0 q))⟩

/-- what an iterator turns: itself, and new things -/
theorem turn_ends {W : Addr → Prop} {h : Heap} (G : Good U c) (hs : c.h.objs.size ≤ h.objs.size) (hk : ∀ b o, ¬ W b → c.h.get? b = some o → h.get? b = some o) (hw : ∀ a, W a → ¬ Own c.μ c.st a ∧ U.B.get? a = none) (hX : Scr c.h W) :
    Ends U W c { c with h := h } := by
  have L1 : Le W c { c with h := h } := ⟨fun _ _ e => e, fun _ e => .inl e, hs, fun a o e _ x => ⟨o.slots, hk a o x e, fun _ => rfl⟩⟩
  refine ⟨L1, G.turn L1 hX (fun a o e => hk a o (fun q => by rw [(hw a q).2] at e; cases e) (G.stays a o e)) fun a ha => ?_⟩
  obtain ⟨o, ho, _⟩ := G.own_kind ha
  rw [ho]; exact hk a o (fun q => (hw a q).1 ha) ho

/-- an iterator hands out `l` -/
structure Feeds (U : Setup) (A : Around) (I : Addr) (W : Addr → Prop) (l : List PV) (tgt : Expr → Prop) (ck fin : M Unit) (Chk : Mine.St → Prop) (St : Cf → Nat → Prop) (Mid : Cf → Nat → Value → Prop) : Prop where
  chk : ∀ {st : Mine.St} {r : R Unit} {st' : Mine.St}, ck st = some (r, st') → r = .ok () ∧ st' = st ∧ Chk st
  up : ∀ {X : Addr → Prop} {c c' : Cf} {i : Nat}, Le X c c' → Scr c.h X → (∀ a, W a → ¬ X a) → St c i → St c' i
  low : ∀ {c : Cf} {i : Nat}, St c i → (∀ a, W a → ¬ Own c.μ c.st a ∧ U.B.get? a = none ∧ ∃ o vs, c.h.get? a = some o ∧ o.data = .fields vs) ∧ Scr c.h W ∧ ∀ a, A.handled = some (.ref a) → ¬ W a
  item : ∀ {c : Cf} {i : Nat} {p : PV} {s : Shared} {Q : Option Value → Shared → Prop} {E : Value → Shared → Prop}, Good U c → St c i → Chk c.st → l[i]? = some p → s.heap = c.h →
    (∀ v h' tk, Ends U W c { c with h := h' } → RelC { c with h := h' } p v → Mid { c with h := h' } i v → Q (some v) { s with heap := h', toks := tk }) → wpAny (model U.prog U.w) A (pyNext (.ref I)) Q E s
  go : ∀ {c : Cf} {i : Nat} {v : Value} {t : Expr} {s : Shared} {Q : Unit → Shared → Prop} {E : Value → Shared → Prop}, Good U c → tgt t → Mid c i v → s.heap = c.h →
    (∀ h', Ends U W c { c with h := h' } → St { c with h := h' } (i + 1) → Q () { s with heap := h' }) → wpAny (model U.prog U.w) A (letOwnedTupleGo t (.ref I) v) Q E s
  wk : ∀ {c : Cf} {i : Nat} {v : Value}, Mid c i v → Scr c.h W ∧ ∀ a, W a → ∃ o vs, c.h.get? a = some o ∧ o.data = .fields vs
  done : ∀ {c : Cf} {s : Shared} {r : R Unit} {st' : Mine.St} {Q : Option Value → Shared → Prop} {E : Value → Shared → Prop}, Good U c → HandIn A c → St c l.length → s.heap = c.h → fin c.st = some (r, st') →
    (∀ h' tk, r = .ok () → Ends U W c ⟨c.μ, st', h'⟩ → Q none { s with heap := h', toks := tk }) → wpAny (model U.prog U.w) A (pyNext (.ref I)) Q E s
  self : ∀ {c : Cf} {i : Nat} {s : Shared} {Q : Value → Shared → Prop} {E : Value → Shared → Prop}, St c i → s.heap = c.h → Q (.ref I) s → wpAny (model U.prog U.w) A (pyIter (.ref I)) Q E s

theorem ret_chk {st : Mine.St} {r : R Unit} {st' : Mine.St} (h : (M.ret () : M Unit) st = some (r, st')) : r = .ok () ∧ st' = st ∧ True := by
  simp only [M.ret, Option.some.injEq, Prod.mk.injEq] at h
  exact ⟨h.1.symm, h.2.symm, trivial⟩

theorem letGo_other {t : Expr} {I : Addr} {v : Value} {o : Obj} {T : String} {s : Shared} {Q : Unit → Shared → Prop} {E : Value → Shared → Prop} {M : Model} (ho : s.heap.get? I = some o) (hc : o.cls = .type T)
    (hT : ["enumerate", "zip", "dict_itemiterator", "dict_reverseitemiterator", "odict_iterator", "itertools.zip_longest", "itertools.pairwise"].contains T = false) (h : Q () s) : wpAny M A (letOwnedTupleGo t (.ref I) v) Q E s := by
  unfold letOwnedTupleGo
  split
  all_goals first
    | exact wpAny_pure h
    | (cases v
       all_goals first
         | exact wpAny_pure h
         | (refine wpAny_bind (wpAny_load ho ?_)
            obtain ⟨cls, dd, data, sl⟩ := o
            simp only at hc
            subst hc
            cases data
            all_goals first
              | exact wpAny_pure h
              | (dsimp only
                 rw [hT, Bool.false_and]
                 simp only [Bool.false_eq_true, if_false]
                 exact wpAny_pure h)))

theorem handAt (H : HandIn A c) : HandAt A c.h := fun x hx => by
  obtain ⟨a, o, ws, h1, h2, h3, h4, _⟩ := H x hx
  exact ⟨a, o, ws, h1, h2, h3, h4⟩

theorem iter_up (K : Le X c c') {I : Addr} {o : Obj} {vs : Array Value} (ho : c.h.get? I = some o) (hd : o.data = .fields vs) (n : ¬ Own c.μ c.st I) (x : ¬ X I) : c'.h.get? I = some o ∧ ¬ Own c'.μ c'.st I :=
  ⟨K.exact ho n x (fun es m q => by rw [hd] at q; cases q), notOwn_up K ho n⟩

theorem one_scr {h : Heap} {I : Addr} {o : Obj} {T : String} (ho : h.get? I = some o) (hc : o.cls = .type T) (hT : T ≠ "tuple" ∧ T ≠ "list" ∧ T ≠ "range") : Scr h (· = I) := by
  rintro a rfl o' ho'
  rw [ho] at ho'; cases ho'
  refine .inr (.inr ?_)
  rw [hc]
  refine ⟨?_, ?_, ?_⟩ <;> (intro e; injection e with e) <;> simp_all

/-- along a list -/
noncomputable def StL (U : Setup) (A : Around) (I ax : Addr) (vs : List Value) (l : List PV) (c : Cf) (i : Nat) : Prop :=
  c.h.IsListIter I ax i ∧ c.h.IsList ax vs.toArray ∧ ¬ Own c.μ c.st I ∧ ¬ Own c.μ c.st ax ∧ U.B.get? I = none ∧ RelLC c l vs ∧ ax ≠ I ∧ ∀ x, A.handled = some x → x ≠ .ref I

theorem StL.turn {I ax : Addr} {vs : List Value} {l : List PV} {i j : Nat} {h' : Heap} (S : StL U A I ax vs l c i) (D : Ends U (· = I) c { c with h := h' }) (hI : h'.IsListIter I ax j) : StL U A I ax vs l { c with h := h' } j := by
  obtain ⟨hit, hl, n1, n2, hB, hr, hne, hh⟩ := S
  obtain ⟨o, ho, hc, hd⟩ := id hit
  have scr := one_scr ho hc (by decide)
  exact ⟨hI, (IsList.up D.1 scr hl n2).1, n1, n2, hB, RelL.up D.1 scr _ _ hr, hne, hh⟩

theorem feeds_list {I ax : Addr} {vs : List Value} {l : List PV} : Feeds U A I (· = I) l (fun _ => True) (M.ret ()) (M.ret ()) (fun _ => True) (StL U A I ax vs l) (fun c i _ => StL U A I ax vs l c (i + 1)) where
  chk := fun h => ret_chk h
  up := by
    rintro X c c' i K scr hx ⟨⟨o, ho, hc, hd⟩, hl, n1, n2, hB, hr, hne, hh⟩
    have h1 := iter_up K ho hd n1 (hx _ rfl)
    exact ⟨⟨o, h1.1, hc, hd⟩, (IsList.up K scr hl n2).1, h1.2, (IsList.up K scr hl n2).2, hB, RelL.up K scr _ _ hr, hne, hh⟩
  low := by
    rintro c i ⟨⟨o, ho, hc, hd⟩, hl, n1, n2, hB, hr, hne, hh⟩
    exact ⟨by rintro a rfl; exact ⟨n1, hB, o, _, ho, hd⟩, one_scr ho hc (by decide), by rintro a ha rfl; exact hh _ ha rfl⟩
  item := by
    intro c i p s Q E G S _ hp hs hQ
    obtain ⟨hit, hl, n1, n2, hB, hr, hne, hh⟩ := id S
    obtain ⟨v, hv, hrel⟩ := RelL.get hr hp
    refine wpAny_pyNext_list_item (hs ▸ hit) (hs ▸ hl) (x := v) (by simpa using hv) fun h' hit' hs' => ?_
    rw [hs] at hs'
    obtain ⟨o, ho, hc, hd⟩ := id hit
    have scr := one_scr ho hc (by decide)
    have D : Ends U (· = I) c { c with h := h' } := turn_ends G (Nat.le_of_eq hs'.1.symm) (fun b o hb e => (hs'.2 b hb).trans e) (by rintro a rfl; exact ⟨n1, hB⟩) scr
    exact hQ v h' s.toks D (Rel.up D.1 scr _ _ hrel) (S.turn D hit')
  go := by
    intro c i v t s Q E G _ S hs hQ
    obtain ⟨⟨o, ho, hc, hd⟩, _⟩ := id S
    refine letGo_other (hs ▸ ho) hc (by decide) ?_
    have := hQ s.heap (by rw [hs]; exact ⟨Le.refl _ _, G⟩) (by rw [hs]; exact S)
    exact this
  wk := by
    rintro c i v ⟨⟨o, ho, hc, hd⟩, _⟩
    exact ⟨one_scr ho hc (by decide), by rintro a rfl; exact ⟨o, _, ho, hd⟩⟩
  done := by
    intro c s r st' Q E G H S hs hf hQ
    obtain ⟨rfl, rfl, _⟩ := ret_chk hf
    obtain ⟨hit, hl, n1, n2, hB, hr, hne, hh⟩ := id S
    obtain ⟨o, ho, hc, hd⟩ := id hit
    refine with_hz (next_list_end (hs ▸ handAt H) hh (hs ▸ hit) (hs ▸ hl) (by simp [RelL.length hr]) fun h' he hz => ?_)
    have := hQ h' s.toks rfl (turn_ends G (by rw [← hs]; exact hz) (fun b o hb e => he b o hb (hs ▸ e)) (by rintro a rfl; exact ⟨n1, hB⟩) (one_scr ho hc (by decide)))
    exact this
  self := by
    intro c i s Q E S hs hQ
    exact wpAny_pyIter_listiter (hs ▸ S.1) hQ

/-- along a tuple -/
noncomputable def StT (U : Setup) (A : Around) (I ax : Addr) (vs : List Value) (l : List PV) (c : Cf) (i : Nat) : Prop :=
  c.h.IsTupleIter I ax i ∧ TupAt c.h ax vs ∧ ¬ Own c.μ c.st I ∧ ¬ Own c.μ c.st ax ∧ U.B.get? I = none ∧ RelLC c l vs ∧ ax ≠ I

theorem StT.turn {I ax : Addr} {vs : List Value} {l : List PV} {i j : Nat} {h' : Heap} (S : StT U A I ax vs l c i) (D : Ends U (· = I) c { c with h := h' }) (hI : h'.IsTupleIter I ax j) : StT U A I ax vs l { c with h := h' } j := by
  obtain ⟨hit, hl, n1, n2, hB, hr, hne⟩ := S
  obtain ⟨o, ho, hc, hd⟩ := id hit
  have scr := one_scr ho hc (by decide)
  exact ⟨hI, (IsTuple.up D.1 scr hl n2).1, n1, n2, hB, RelL.up D.1 scr _ _ hr, hne⟩

theorem feeds_tuple (hh : A.handled = none) {I ax : Addr} {vs : List Value} {l : List PV} : Feeds U A I (· = I) l (fun _ => True) (M.ret ()) (M.ret ()) (fun _ => True) (StT U A I ax vs l) (fun c i _ => StT U A I ax vs l c (i + 1)) where
  chk := fun h => ret_chk h
  up := by
    rintro X c c' i K scr hx ⟨⟨o, ho, hc, hd⟩, hl, n1, n2, hB, hr, hne⟩
    have h1 := iter_up K ho hd n1 (hx _ rfl)
    exact ⟨⟨o, h1.1, hc, hd⟩, (IsTuple.up K scr hl n2).1, h1.2, (IsTuple.up K scr hl n2).2, hB, RelL.up K scr _ _ hr, hne⟩
  low := by
    rintro c i ⟨⟨o, ho, hc, hd⟩, hl, n1, n2, hB, hr, hne⟩
    exact ⟨by rintro a rfl; exact ⟨n1, hB, o, _, ho, hd⟩, one_scr ho hc (by decide), fun a ha => by rw [hh] at ha; cases ha⟩
  item := by
    intro c i p s Q E G S _ hp hs hQ
    obtain ⟨hit, hl, n1, n2, hB, hr, hne⟩ := id S
    obtain ⟨v, hv, hrel⟩ := RelL.get hr hp
    refine wpAny_pyNext_tuple_item (hs ▸ hit) (hs ▸ hl.1) (x := v) (by simpa using hv) fun h' hit' hs' => ?_
    rw [hs] at hs'
    obtain ⟨o, ho, hc, hd⟩ := id hit
    have scr := one_scr ho hc (by decide)
    have D : Ends U (· = I) c { c with h := h' } := turn_ends G (Nat.le_of_eq hs'.1.symm) (fun b o hb e => (hs'.2 b hb).trans e) (by rintro a rfl; exact ⟨n1, hB⟩) scr
    exact hQ v h' s.toks D (Rel.up D.1 scr _ _ hrel) (S.turn D hit')
  go := by
    intro c i v t s Q E G _ S hs hQ
    obtain ⟨⟨o, ho, hc, hd⟩, _⟩ := id S
    refine letGo_other (hs ▸ ho) hc (by decide) ?_
    have := hQ s.heap (by rw [hs]; exact ⟨Le.refl _ _, G⟩) (by rw [hs]; exact S)
    exact this
  wk := by
    rintro c i v ⟨⟨o, ho, hc, hd⟩, _⟩
    exact ⟨one_scr ho hc (by decide), by rintro a rfl; exact ⟨o, _, ho, hd⟩⟩
  done := by
    intro c s r st' Q E G H S hs hf hQ
    obtain ⟨rfl, rfl, _⟩ := ret_chk hf
    obtain ⟨hit, hl, n1, n2, hB, hr, hne⟩ := id S
    obtain ⟨o, ho, hc, hd⟩ := id hit
    refine with_hz (wpAny_pyNext_tuple_end hh (hs ▸ hit) (hs ▸ hl.1) (by simp [RelL.length hr]) fun h' he hz => ?_)
    have := hQ h' s.toks rfl (turn_ends G (by rw [← hs]; exact hz) (fun b o hb e => he b o hb (hs ▸ e)) (by rintro a rfl; exact ⟨n1, hB⟩) (one_scr ho hc (by decide)))
    exact this
  self := by
    intro c i s Q E S hs hQ
    exact wpAny_pyIter_tupleiter (hs ▸ S.1) hQ

/-- along a range -/
noncomputable def StR (U : Setup) (I : Addr) (a : Int) (n : Nat) (c : Cf) (i : Nat) : Prop := IsRangeIter c.h I (a + (i : Int)) ((n : Int) - (i : Int)) 1 ∧ ¬ Own c.μ c.st I ∧ U.B.get? I = none

theorem upTo_get : ∀ {n : Nat} {a : Int} {i : Nat} {p : PV}, (upTo a n)[i]? = some p → i < n ∧ p = .int (a + (i : Int))
  | 0, a, i, p, h => by simp [upTo] at h
  | n + 1, a, 0, p, h => by
    simp only [upTo, List.getElem?_cons_zero, Option.some.injEq] at h
    subst h; exact ⟨by omega, by simp⟩
  | n + 1, a, i + 1, p, h => by
    simp only [upTo, List.getElem?_cons_succ] at h
    obtain ⟨h1, h2⟩ := upTo_get h
    exact ⟨by omega, by rw [h2]; congr 1; push_cast; omega⟩
theorem upTo_length : ∀ {n : Nat} {a : Int}, (upTo a n).length = n
  | 0, _ => rfl
  | n + 1, a => by simp [upTo, upTo_length]

theorem feeds_range (hh : A.handled = none) {I : Addr} {a : Int} {n : Nat} : Feeds U A I (· = I) (upTo a n) (fun _ => True) (M.ret ()) (M.ret ()) (fun _ => True) (StR U I a n) (fun c i _ => StR U I a n c (i + 1)) where
  chk := fun h => ret_chk h
  up := by
    rintro X c c' i K scr hx ⟨hit, n1, hB⟩
    have h1 := iter_up K hit rfl n1 (hx _ rfl)
    exact ⟨h1.1, h1.2, hB⟩
  low := by
    rintro c i ⟨hit, n1, hB⟩
    exact ⟨by rintro a rfl; exact ⟨n1, hB, _, _, hit, rfl⟩, one_scr hit rfl (by decide), fun a ha => by rw [hh] at ha; cases ha⟩
  item := by
    intro c i p s Q E G S _ hp hs hQ
    obtain ⟨hit, n1, hB⟩ := id S
    obtain ⟨hi, rfl⟩ := upTo_get hp
    refine wpAny_pyNext_range_item (hs ▸ hit) (by omega) fun h' hit' hs' => ?_
    rw [hs] at hs'
    have scr := one_scr hit rfl (by decide)
    have D : Ends U (· = I) c { c with h := h' } := turn_ends G (Nat.le_of_eq hs'.1.symm) (fun b o hb e => (hs'.2 b hb).trans e) (by rintro a rfl; exact ⟨n1, hB⟩) scr
    refine hQ _ h' _ D mkrel_int ⟨?_, n1, hB⟩
    have e1 : a + ((i + 1 : Nat) : Int) = a + (i : Int) + 1 := by push_cast; omega
    have e2 : (n : Int) - ((i + 1 : Nat) : Int) = (n : Int) - (i : Int) - 1 := by push_cast; omega
    show IsRangeIter h' I (a + ((i + 1 : Nat) : Int)) ((n : Int) - ((i + 1 : Nat) : Int)) 1
    rw [e1, e2]; exact hit'
  go := by
    intro c i v t s Q E G _ S hs hQ
    refine letGo_other (o := _) (hs ▸ S.1) rfl (by decide) ?_
    have := hQ s.heap (by rw [hs]; exact ⟨Le.refl _ _, G⟩) (by rw [hs]; exact S)
    exact this
  wk := by
    rintro c i v ⟨hit, _⟩
    exact ⟨one_scr hit rfl (by decide), by rintro a rfl; exact ⟨_, _, hit, rfl⟩⟩
  done := by
    intro c s r st' Q E G H S hs hf hQ
    obtain ⟨rfl, rfl, _⟩ := ret_chk hf
    obtain ⟨hit, n1, hB⟩ := id S
    rw [upTo_length] at hit
    refine with_hz (wpAny_pyNext_range_end hh (hs ▸ hit) (by omega) fun h' he hz => ?_)
    have := hQ h' s.toks rfl (turn_ends G (by rw [← hs]; exact hz) (fun b o hb e => he b o hb (hs ▸ e)) (by rintro a rfl; exact ⟨n1, hB⟩) (one_scr hit rfl (by decide)))
    exact this
  self := by
    intro c i s Q E S hs hQ
    exact wpAny_pyIter_rangeiter (hs ▸ S.1) hQ
end
end Mine
end

section
namespace Mine
open PySem PyProof PyProof.Rows

section
variable {U : Setup} {C : Cfg} {A : Around} {X : Addr → Prop} {c c' : Cf} {L : Addr} {env : Env} {ρ : Locs} {n : Nat}

structure ZA where
  z : Addr
  TI : Addr
  TO : Addr
  i1 : Addr
  i2 : Addr
  l1 : Addr
  l2 : Addr
  k : Nat
  xs : List Value
  ys : List Value
  ps : List PV
  qs : List PV

noncomputable def ZA.W (Z : ZA) (a : Addr) : Prop := a = Z.z ∨ a = Z.i1 ∨ a = Z.i2

structure ZSt (U : Setup) (Z : ZA) (f0 : Value) (i : Nat) (c : Cf) : Prop where
  zip : IsZip c.h Z.z Z.TI Z.TO f0
  ti : IsPair c.h Z.TI (.ref Z.i1) (.ref Z.i2)
  mu : c.μ Z.k = some (Z.TO, Z.TO)
  it1 : c.h.IsListIter Z.i1 Z.l1 i
  it2 : c.h.IsListIter Z.i2 Z.l2 i
  li1 : c.h.IsList Z.l1 Z.xs.toArray
  li2 : c.h.IsList Z.l2 Z.ys.toArray
  apart : ZipApart Z.z Z.TI Z.TO Z.i1 Z.i2 Z.l1 Z.l2
  no : ∀ a, a = Z.z ∨ a = Z.TI ∨ a = Z.i1 ∨ a = Z.i2 ∨ a = Z.l1 ∨ a = Z.l2 → ¬ Own c.μ c.st a
  nb : ∀ a, Z.W a → U.B.get? a = none
  r1 : RelLC c Z.ps Z.xs
  r2 : RelLC c Z.qs Z.ys

theorem ZSt.scr {Z : ZA} {f0 : Value} {i : Nat} (S : ZSt U Z f0 i c) : Scr c.h Z.W := by
  rintro a (rfl | rfl | rfl) o ho
  · have : c.h.get? Z.z = _ := S.zip; rw [ho] at this; cases this; exact .inr (.inr (by refine ⟨?_, ?_, ?_⟩ <;> simp))
  · obtain ⟨o', ho', hc, _⟩ := S.it1; rw [ho] at ho'; cases ho'; exact .inr (.inr (by rw [hc]; refine ⟨?_, ?_, ?_⟩ <;> simp))
  · obtain ⟨o', ho', hc, _⟩ := S.it2; rw [ho] at ho'; cases ho'; exact .inr (.inr (by rw [hc]; refine ⟨?_, ?_, ?_⟩ <;> simp))

theorem ZSt.flds {Z : ZA} {f0 : Value} {i : Nat} (S : ZSt U Z f0 i c) : ∀ a, Z.W a → ∃ o vs, c.h.get? a = some o ∧ o.data = .fields vs := by
  rintro a (rfl | rfl | rfl)
  · exact ⟨_, _, S.zip, rfl⟩
  · obtain ⟨o, ho, _, hd⟩ := S.it1
    exact ⟨o, _, ho, hd⟩
  · obtain ⟨o, ho, _, hd⟩ := S.it2
    exact ⟨o, _, ho, hd⟩

theorem ZSt.up {Z : ZA} {f0 : Value} {i : Nat} (K : Le X c c') (scr : Scr c.h X) (hx : ∀ a, Z.W a → ¬ X a) (S : ZSt U Z f0 i c) : ZSt U Z f0 i c' := by
  obtain ⟨o1, ho1, hc1, hd1⟩ := id S.it1
  obtain ⟨o2, ho2, hc2, hd2⟩ := id S.it2
  have tiX : ¬ X Z.TI := fun q => by
    rcases scr _ q _ S.ti with ⟨_, _, w⟩ | ⟨_, w⟩ | ⟨w, _⟩
    · cases w
    · cases w
    · exact w rfl
  have g1 := iter_up K ho1 hd1 (S.no _ (by simp)) (hx _ (.inr (.inl rfl)))
  have g2 := iter_up K ho2 hd2 (S.no _ (by simp)) (hx _ (.inr (.inr rfl)))
  have gz := iter_up K S.zip rfl (S.no _ (by simp)) (hx _ (.inl rfl))
  have l1 := IsList.up K scr S.li1 (S.no _ (by simp))
  have l2 := IsList.up K scr S.li2 (S.no _ (by simp))
  refine ⟨gz.1, K.exact S.ti (S.no _ (by simp)) tiX (fun es m q => by cases q), K.ext _ _ S.mu, ⟨o1, g1.1, hc1, hd1⟩, ⟨o2, g2.1, hc2, hd2⟩, l1.1, l2.1, S.apart, ?_, S.nb, RelL.up K scr _ _ S.r1, RelL.up K scr _ _ S.r2⟩
  rintro a (rfl | rfl | rfl | rfl | rfl | rfl)
  · exact gz.2
  · exact notOwn_up K S.ti (S.no _ (by simp))
  · exact g1.2
  · exact g2.2
  · exact l1.2
  · exact l2.2

/-- the ghost lies there -/
theorem zip_to {Z : ZA} {f0 : Value} {i : Nat} (G : Good U c) (S : ZSt U Z f0 i c) (hk : c.st.objs Z.k = some .pair) : Own c.μ c.st Z.TO ∧ ∃ a b, IsPair c.h Z.TO a b := by
  obtain ⟨x, hx, hO, _⟩ := G.objs _ _ hk
  rw [S.mu] at hx; cases hx
  exact ⟨(Own.of hk S.mu).1, let ⟨a, b, h⟩ := hO; ⟨a, b, h⟩⟩

theorem zip_le {Z : ZA} {f0 : Value} {i : Nat} {h' : Heap} (G : Good U c) (S : ZSt U Z f0 i c) (hk : c.st.objs Z.k = some .pair) (hs : c.h.objs.size ≤ h'.objs.size)
    (hoth : ∀ b o, b ≠ Z.z → b ≠ Z.TO → b ≠ Z.i1 → b ≠ Z.i2 → c.h.get? b = some o → h'.get? b = some o) : Le Z.W c { c with h := h' } :=
  ⟨fun _ _ e => e, fun _ e => .inl e, hs, fun a o e n x => ⟨o.slots, hoth a o (fun q => x (.inl q)) (fun q => n (q ▸ (zip_to G S hk).1)) (fun q => x (.inr (.inl q))) (fun q => x (.inr (.inr q))) e, fun _ => rfl⟩⟩

theorem zip_stays {Z : ZA} {f0 : Value} {i : Nat} {h' : Heap} (G : Good U c) (S : ZSt U Z f0 i c) (hk : c.st.objs Z.k = some .pair)
    (hoth : ∀ b o, b ≠ Z.z → b ≠ Z.TO → b ≠ Z.i1 → b ≠ Z.i2 → c.h.get? b = some o → h'.get? b = some o) : U.B.StaysIn h' ∧
    ∀ j y, j ≠ Z.k → (c.st.objs j).isSome = true → c.μ j = some y → h'.get? y.1 = c.h.get? y.1 ∧ h'.get? y.2 = c.h.get? y.2 := by
  have to := zip_to G S hk
  refine ⟨fun a o e => ?_, fun j y hj hjs hy => ?_⟩
  · have nz : ∀ b, Z.W b → a ≠ b := fun b hb q => by rw [q, S.nb b hb] at e; cases e
    exact hoth a o (nz _ (.inl rfl)) (fun q => by rw [q, (G.fresh _ to.1).1] at e; cases e) (nz _ (.inr (.inl rfl))) (nz _ (.inr (.inr rfl))) (G.stays a o e)
  · have ap := G.apart j Z.k y _ hjs (by rw [hk]; rfl) hy S.mu hj
    have key : ∀ a, Own c.μ c.st a → a ≠ Z.TO → h'.get? a = c.h.get? a := fun a ha hto => by
      obtain ⟨o, ho, _⟩ := G.own_kind ha
      rw [ho]
      exact hoth a o (fun q => S.no _ (by simp) (q ▸ ha)) hto (fun q => S.no _ (by simp) (q ▸ ha)) (fun q => S.no _ (by simp) (q ▸ ha)) ho
    exact ⟨key _ ⟨j, y, hjs, hy, .inl rfl⟩ ap.1, key _ ⟨j, y, hjs, hy, .inr rfl⟩ ap.2.2.1⟩

theorem zip_ends {Z : ZA} {f0 : Value} {i : Nat} {h' : Heap} (G : Good U c) (S : ZSt U Z f0 i c) (hk : c.st.objs Z.k = some .pair) (hs : c.h.objs.size ≤ h'.objs.size)
    (hoth : ∀ b o, b ≠ Z.z → b ≠ Z.TO → b ≠ Z.i1 → b ≠ Z.i2 → c.h.get? b = some o → h'.get? b = some o) (hto : ∃ a b, IsPair h' Z.TO a b) : Ends U Z.W c { c with h := h' } := by
  have K := zip_le G S hk hs hoth
  have st := zip_stays G S hk hoth
  refine ⟨K, st.1, fun j o hj => ?_, G.idsO, G.idsM, G.apart, fun a ha => ⟨(G.fresh a ha).1, Nat.lt_of_lt_of_le (G.fresh a ha).2 hs⟩⟩
  obtain ⟨y, hy, hO, hi⟩ := G.objs j o hj
  refine ⟨y, hy, ?_, hi⟩
  by_cases hjk : j = Z.k
  · subst hjk
    have hj' : c.st.objs Z.k = some o := hj
    rw [hk] at hj'; cases hj'
    rw [S.mu] at hy; cases hy
    exact let ⟨a, b, h⟩ := hto; ⟨a, b, h⟩
  · have := st.2 j y hjk (by rw [show c.st.objs j = some o from hj]; rfl) hy
    exact hO.up K S.scr this.1 this.2

/-- an object of the store goes -/
noncomputable def dropSt (st : Mine.St) (k : Nat) : Mine.St := { st with objs := fun j => if j = k then Option.none else st.objs j }
theorem drop_obj {st : Mine.St} {k j : Nat} {o : MO} (h : (dropSt st k).objs j = some o) : j ≠ k ∧ st.objs j = some o := by
  simp only [dropSt] at h
  by_cases hjk : j = k
  · rw [if_pos hjk] at h; cases h
  · rw [if_neg hjk] at h; exact ⟨hjk, h⟩
theorem drop_own {μ : Map} {st : Mine.St} {k : Nat} {a : Addr} (h : Own μ (dropSt st k) a) : Own μ st a := by
  obtain ⟨j, y, h1, h2, h3⟩ := h
  obtain ⟨o, ho⟩ := Option.isSome_iff_exists.mp h1
  exact ⟨j, y, by rw [(drop_obj ho).2]; rfl, h2, h3⟩

theorem zip_done {Z : ZA} {f0 : Value} {i : Nat} {h' : Heap} (G : Good U c) (S : ZSt U Z f0 i c) (hk : c.st.objs Z.k = some .pair) (hs : c.h.objs.size ≤ h'.objs.size)
    (hoth : ∀ b o, b ≠ Z.z → b ≠ Z.TO → b ≠ Z.i1 → b ≠ Z.i2 → c.h.get? b = some o → h'.get? b = some o) : Ends U Z.W c ⟨c.μ, dropSt c.st Z.k, h'⟩ := by
  have K := zip_le G S hk hs hoth
  have st := zip_stays G S hk hoth
  have K' : Le Z.W c ⟨c.μ, dropSt c.st Z.k, h'⟩ := ⟨fun _ _ e => e, fun a e => .inl (drop_own e), hs, K.step⟩
  have so : ∀ j, ((dropSt c.st Z.k).objs j).isSome = true → (c.st.objs j).isSome = true := fun j h => by
    obtain ⟨o, ho⟩ := Option.isSome_iff_exists.mp h
    rw [(drop_obj ho).2]; rfl
  refine ⟨K', st.1, fun j o hj => ?_, fun j h => G.idsO j (so j h), G.idsM, fun j j' y y' a b => G.apart j j' y y' (so j a) (so j' b), fun a ha => ⟨(G.fresh a (drop_own ha)).1, Nat.lt_of_lt_of_le (G.fresh a (drop_own ha)).2 hs⟩⟩
  obtain ⟨hjk, hj'⟩ := drop_obj hj
  obtain ⟨y, hy, hO, hi⟩ := G.objs j o hj'
  have := st.2 j y hjk (by rw [hj']; rfl) hy
  exact ⟨y, hy, hO.up K' S.scr this.1 this.2, hi⟩

theorem chkO_ok {k : Nat} {st : Mine.St} {r : R Unit} {st' : Mine.St} (h : chkO k st = some (r, st')) : r = .ok () ∧ st' = st ∧ st.objs k = some .pair := by
  simp only [chkO, M.bind, getO] at h
  cases hk : st.objs k with
  | none => rw [hk] at h; cases h
  | some o =>
    rw [hk] at h
    cases o <;> simp only [M.ret, M.fail, Option.some.injEq, Prod.mk.injEq, reduceCtorEq] at h
    exact ⟨h.1.symm, h.2.symm, rfl⟩

theorem zip_get {ps qs : List PV} {i : Nat} {p : PV} (h : ((ps.zip qs).map fun p => PV.tup [p.1, p.2])[i]? = some p) : ∃ a b, ps[i]? = some a ∧ qs[i]? = some b ∧ p = .tup [a, b] := by
  rw [List.getElem?_map] at h
  cases hz : (ps.zip qs)[i]? with
  | none => rw [hz] at h; cases h
  | some w =>
    rw [hz] at h
    obtain ⟨a, b⟩ := w
    simp only [Option.map_some, Option.some.injEq] at h
    rw [List.getElem?_zip_eq_some] at hz
    exact ⟨a, b, hz.1, hz.2, h.symm⟩

theorem feeds_zip (hh : A.handled = none) {Z : ZA} : Feeds U A Z.z Z.W ((Z.ps.zip Z.qs).map fun p => .tup [p.1, p.2]) (fun t => ∃ es k p, t = Expr.Tuple es k p) (chkO Z.k) ((chkO Z.k).bind fun _ => setO Z.k none) (fun st => st.objs Z.k = some .pair)
    (fun c i => ZSt U Z .none i c) (fun c i v => ∃ T, v = .ref T ∧ ZSt U Z (rawInt T) (i + 1) c) where
  chk := chkO_ok
  up := fun K scr hx S => S.up K scr hx
  low := by
    intro c i S
    refine ⟨fun a ha => ⟨?_, S.nb a ha, S.flds a ha⟩, S.scr, fun a ha => by rw [hh] at ha; cases ha⟩
    rcases ha with rfl | rfl | rfl <;> exact S.no _ (by simp)
  item := by
    intro c i p s Q E G S hk hp hs hQ
    obtain ⟨p1, p2, h1, h2, rfl⟩ := zip_get hp
    obtain ⟨v1, g1, r1⟩ := RelL.get S.r1 h1
    obtain ⟨v2, g2, r2⟩ := RelL.get S.r2 h2
    obtain ⟨ho, a, b, hto⟩ := zip_to G S hk
    refine wpAny_pyNext_zip_item S.apart (hs ▸ S.zip) (hs ▸ S.ti) (hs ▸ hto) (hs ▸ S.it1) (hs ▸ S.it2) (hs ▸ S.li1) (hs ▸ S.li2) (x := v1) (y := v2) (by simpa using g1) (by simpa using g2) fun h' a1 a2 a3 a4 a5 a6 a7 => ?_
    rw [hs] at a1 a5 a6 a7 ⊢
    have D := zip_ends G S hk (by omega) a7 ⟨_, _, a2⟩
    have lt : ∀ a o, c.h.get? a = some o → c.h.objs.size ≠ a := fun a o e => Nat.ne_of_gt (Heap.lt_size e)
    have nw : ¬ Own c.μ c.st c.h.objs.size := notOwn_new G
    have D1 := S.apart
    refine hQ _ h' s.toks D ?_ ⟨_, rfl, a1, a7 _ _ D1.TIz D1.TITO D1.TIi1 D1.TIi2 S.ti, S.mu, a3, a4, ?_, ?_, D1, S.no, S.nb, RelL.up D.1 S.scr _ _ S.r1, RelL.up D.1 S.scr _ _ S.r2⟩
    · simp only [RelC, Rel, RelL]
      refine ⟨_, [v1, v2], rfl, ⟨⟨_, a5, rfl, _, rfl⟩, fun o e => ?_⟩, nw, v1, [v2], rfl, Rel.up D.1 S.scr _ _ r1, v2, [], rfl, Rel.up D.1 S.scr _ _ r2, rfl⟩
      have e' : h'.get? c.h.objs.size = some o := e
      have a5' : h'.get? c.h.objs.size = _ := a5
      rw [a5'] at e'; cases e'; rfl
    · obtain ⟨o, ho, r⟩ := S.li1
      exact ⟨o, a7 _ _ D1.l1z D1.l1TO D1.l1i1 D1.l1i2 ho, r⟩
    · obtain ⟨o, ho, r⟩ := S.li2
      exact ⟨o, a7 _ _ D1.l2z D1.l2TO D1.l2i1 D1.l2i2 ho, r⟩
  go := by
    rintro c i v t s Q E G ⟨es, k, p, rfl⟩ ⟨T, rfl, S⟩ hs hQ
    refine wpAny_letOwnedTupleGo_zip (hs ▸ S.zip) fun h' hz' hs' => ?_
    rw [hs] at hs'
    have D1 := S.apart
    have e := turn_ends (W := Z.W) (h := h') G (Nat.le_of_eq hs'.1.symm) (fun b o hb e => (hs'.2 b (fun q => hb (.inl q))).trans e) (fun a ha => ⟨(by rcases ha with rfl | rfl | rfl <;> exact S.no _ (by simp)), S.nb a ha⟩) S.scr
    obtain ⟨o1, ho1, q1⟩ := S.it1
    obtain ⟨o2, ho2, q2⟩ := S.it2
    obtain ⟨o3, ho3, q3⟩ := S.li1
    obtain ⟨o4, ho4, q4⟩ := S.li2
    have := hQ h' e ⟨hz', (hs'.2 _ D1.TIz).trans S.ti, S.mu, ⟨o1, (hs'.2 _ D1.i1z).trans ho1, q1⟩, ⟨o2, (hs'.2 _ D1.i2z).trans ho2, q2⟩, ⟨o3, (hs'.2 _ D1.l1z).trans ho3, q3⟩, ⟨o4, (hs'.2 _ D1.l2z).trans ho4, q4⟩, D1, S.no, S.nb,
      RelL.up e.1 S.scr _ _ S.r1, RelL.up e.1 S.scr _ _ S.r2⟩
    exact this
  wk := by
    rintro c i v ⟨T, rfl, S⟩
    exact ⟨S.scr, S.flds⟩
  done := by
    intro c s r st' Q E G H S hs hf hQ
    simp only [M.bind] at hf
    cases hc : chkO Z.k c.st with
    | none => rw [hc] at hf; cases hf
    | some w =>
      obtain ⟨r', st''⟩ := w
      obtain ⟨rfl, rfl, hk⟩ := chkO_ok hc
      rw [hc] at hf
      simp only [setO, Option.some.injEq, Prod.mk.injEq] at hf
      obtain ⟨rfl, rfl⟩ := hf
      obtain ⟨ho, a, b, hto⟩ := zip_to G S hk
      refine with_hz (wpAny_pyNext_zip_end hh S.apart (hs ▸ S.zip) (hs ▸ S.ti) (hs ▸ hto) (hs ▸ S.it1) (hs ▸ S.it2) (hs ▸ S.li1) (hs ▸ S.li2) ?_ fun h' a7 hz => ?_)
      · rw [List.length_map, List.length_zip]
        have e1 := RelL.length S.r1
        have e2 := RelL.length S.r2
        rcases Nat.le_total Z.ps.length Z.qs.length with h | h
        · exact .inl (by simp; omega)
        · exact .inr (by simp; omega)
      · rw [hs] at a7
        have := hQ h' s.toks rfl (zip_done G S hk (by rw [← hs]; exact hz) a7)
        exact this
  self := by
    intro c i s Q E S hs hQ
    exact wpAny_pyIter_zip (hs ▸ S.zip) hQ
end
end Mine
end

section
namespace Mine
open PySem PyProof PyProof.Rows

section
variable {U : Setup} {C : Cfg} {A : Around} {X : Addr → Prop} {c c' : Cf} {L : Addr} {env : Env} {ρ : Locs} {n : Nat}

theorem OkM.bindN {α β γ δ : Type} {t : Sem α} {m : M γ} {k : α → Sem β} {f : γ → M δ} {P : Cf → γ → α → Prop} {P' : Cf → δ → β → Prop}
    (h : OkM U A NoX c t m P L) (hk : ∀ c' b a, Le NoX c c' → Good U c' → P c' b a → OkM U A X c' (k a) (f b) P' L) : OkM U A X c (t >>= k) (m.bind f) P' L :=
  OkM.bind ((h.mono (P' := fun c' b a => P c' b a ∧ Le NoX c c') fun c' b a L1 _ p => ⟨p, L1⟩).weak fun _ q => q.elim) fun c' b a _ G p => hk c' b a p.2 G p.1

noncomputable def AsOk (U : Setup) (C : Cfg) (n : Nat) : Prop := ∀ A env ρ c t p v L, Room A n → Fk U C.hd A env ρ c → RelC c p v →
  OkM U A (XOf env) c (assign t env v) (assignT C n env.scope ρ t p) (fun c' ρ' _ => Fk U C.hd A env ρ' c') L
noncomputable def AssOk (U : Setup) (C : Cfg) (n : Nat) : Prop := ∀ A env ρ c ts ps vs L, Room A n → Fk U C.hd A env ρ c → RelLC c ps vs → ts.all plainArg = true →
  OkM U A (XOf env) c (assignInOrder ((assignEach ts env).map (·.2)) vs) (assignTs C n env.scope ρ ts ps) (fun c' ρ' _ => Fk U C.hd A env ρ' c') L

theorem newI_none (G : Good U c) {a : Addr} (h : c.h.objs.size ≤ a) : ¬ Own c.μ c.st a ∧ U.B.get? a = none := by
  refine ⟨fun q => absurd (G.fresh a q).2 (Nat.not_lt.mpr h), ?_⟩
  cases e : U.B.get? a with
  | none => rfl
  | some ob => exact absurd (Heap.lt_size (G.stays a ob e)) (Nat.not_lt.mpr h)

theorem ok_unpack (hh : A.handled = none) {v : Value} {l : List PV} (hv : RelC c (.tup l) v) : OkM U A NoX c (unpackItems v l.length none) (M.ret l) (fun c' ps vs => RelLC c' ps vs) L := by
  refine OkM.grow fun G s Q E hs hq => ?_
  obtain ⟨a, vs, rfl, ht, hn, hl⟩ := hv.tup'
  have hlen := RelL.length hl
  have key := wpAny_unpackItems_tuple (prog := U.prog) (w := U.w) (E := E) (Q := Q) hh (hs ▸ ht.1 : s.heap.IsTuple a vs.toArray) fun h' he => by
    have hk : ∀ b o, c.h.get? b = some o → h'.get? b = some o := fun b o e => he b o (Nat.ne_of_lt (hs ▸ Heap.lt_size e)) (hs ▸ e)
    have := hq vs h' s.toks hk fun hz => hl.upN (Le.grow hk hz)
    simpa using this
  rw [List.size_toArray, hlen] at key
  exact key

inductive AsgEach (ts : List Expr) (env : Env) : Prop
  | mk (e1 : (assignEach ts env).map (·.2) = ts.map (fun t => assign t env)) (e2 : (assignEach ts env).length = ts.length) (e3 : (assignEach ts env).findIdx? (·.1) = none)
theorem assignEach_cons {t : Expr} {r : List Expr} (h : plainArg t = true) : assignEach (t :: r) env = (false, assign t env) :: assignEach r env := by
  cases t <;> first | rfl | cases h
theorem plainArg_cons {t : Expr} {r : List Expr} (h : (t :: r).all plainArg = true) : plainArg t = true ∧ r.all plainArg = true := Bool.and_eq_true_iff.mp h
theorem assign_each {env : Env} : ∀ {ts : List Expr}, ts.all plainArg = true → AsgEach ts env
  | [], _ => ⟨rfl, rfl, rfl⟩
  | t :: r, h => by
    obtain ⟨h1, h2, h3⟩ := assign_each (env := env) (plainArg_cons h).2
    have e := assignEach_cons (env := env) (r := r) (plainArg_cons h).1
    exact ⟨by rw [e]; exact congrArg (_ :: ·) h1, by rw [e]; exact congrArg (· + 1) h2, by rw [e, List.findIdx?_cons, h3]; rfl⟩
theorem assignTs_cons {sc : Scope} {t : Expr} {ts : List Expr} {v : PV} {vs : List PV} : assignTs C (n + 1) sc ρ (t :: ts) (v :: vs) = (assignT C n sc ρ t v).bind fun ρ => assignTs C n sc ρ ts vs := by kernel_rfl

theorem ass_ok (hA : AsOk U C n) (hB : AssOk U C n) : AssOk U C (n + 1) := by
  intro A env ρ c ts ps vs L R F hv hp
  obtain ⟨e1, _, _⟩ := assign_each (env := env) hp
  rw [e1]
  cases ts with
  | nil =>
    cases ps with
    | nil => exact OkM.at (m' := M.ret ρ) (by kernel_rfl) (OkM.pure F)
    | cons p ps => exact OkM.failAt (by kernel_rfl)
  | cons t ts =>
    cases ps with
    | nil => exact OkM.failAt (by kernel_rfl)
    | cons p ps =>
      refine OkM.at assignTs_cons ?_
      obtain ⟨v, r, rfl, h1, h2⟩ := hv.cons'
      have scr := F.scr
      show OkM U A (XOf env) c (do PySem.holding r (assign t env v); assignInOrder (ts.map fun t => assign t env) r) _ _ L
      refine OkM.bind (OkM.holding (hA _ _ _ _ _ _ _ _ R.down F h1)) fun c₁ ρ₁ _ L₁ G₁ F₁ => ?_
      have := hB _ _ _ _ ts ps r L R.down F₁ (RelL.up L₁ scr _ _ h2) (plainArg_cons hp).2
      obtain ⟨e1, _, _⟩ := assign_each (env := env) (plainArg_cons hp).2
      rw [e1] at this
      exact this

section
variable {sc : Scope} {v : PV}
theorem assignT_Name {x : Str} {pos : Pos} : assignT C (n + 1) sc ρ (.Name x pos) v = if isVar sc x then M.ret ((x, v) :: ρ) else M.fail := by kernel_rfl
theorem assignT_Subscript {o i : Expr} {pos : Pos} : assignT C (n + 1) sc ρ (.Subscript o i pos) v = (evalE C n sc ρ o).bind fun ov => (evalE C n sc ρ i).bind fun iv => (setI ov iv v).bind fun _ => M.ret ρ := by kernel_rfl
theorem assignT_Attribute {o : Expr} {x : Str} {pos : Pos} : assignT C (n + 1) sc ρ (.Attribute o x pos) v = (evalE C n sc ρ o).bind fun ov => (setA C ov x v).bind fun _ => M.ret ρ := by kernel_rfl
theorem assignT_Tuple {ts : List Expr} {k : Nat} {pos : Pos} : assignT C (n + 1) sc ρ (.Tuple ts k pos) v = if C.hd ∨ ts.all plainArg = false then M.fail else match tupO v with
      | some l => if l.length = ts.length then assignTs C n sc ρ ts l else M.fail
      | Option.none => M.fail := by kernel_rfl
end
theorem assign_Name {x : Str} {pos : Pos} {v : Value} : assign (.Name x pos) env v = (do standAt pos; bindName env x v) := rfl
theorem ne_false {b : Bool} (h : ¬ b = false) : b = true := by cases b; exact absurd rfl h; rfl
theorem as_ok (T : Top U C) (hE : EvOk U C n) (hB : AssOk U C n) : AsOk U C (n + 1) := by
  intro A env ρ c t p v L R F hv
  cases t with
  | Name x pos => exact OkM.at2 assign_Name assignT_Name (OkM.standAt (((ok_store F hv).weak fun a q => StX.of q).of_wp fun Q E s h => wpAny_bindName h))
  | Subscript o i pos =>
    refine OkM.at2 (assign_Subscript ..) assignT_Subscript ?_
    refine OkM.bindN (OkM.holding (hE _ _ _ _ _ _ R.down F)) fun c₁ po ov L₁ G₁ ho => ?_
    refine OkM.bindN (OkM.holding (hE _ _ _ _ _ _ R.down (F.upN L₁))) fun c₂ pi iv L₂ G₂ hi => OkM.standAt ?_
    refine OkM.bindN (OkM.holding (leaf_setItem (ho.upN L₂) hi ((hv.upN L₁).upN L₂))) fun c₃ _ _ L₃ G₃ _ => ?_
    exact OkM.still fun s Q E hs hq => wpAny_release (hq () s.toks (((F.upN L₁).upN L₂).upN L₃))
  | Attribute o x pos =>
    refine OkM.at2 (assign_Attribute ..) assignT_Attribute ?_
    refine OkM.bindN (OkM.holding (hE _ _ _ _ _ _ R.down F)) fun c₁ po ov L₁ G₁ ho => OkM.standAt ?_
    refine OkM.bindN (OkM.holding (leaf_setAttr T ho (hv.upN L₁))) fun c₂ _ _ L₂ G₂ _ => ?_
    exact OkM.still fun s Q E hs hq => wpAny_release (hq () s.toks ((F.upN L₁).upN L₂))
  | Tuple ts k pos =>
    refine OkM.at2 (arm_assign_Tuple ..) assignT_Tuple (OkM.iteF fun hc => ?_)
    have hpl : ts.all plainArg = true := ne_false fun q => hc (.inr q)
    have hh := hd_no F.hand.1 fun q => hc (.inl q)
    cases ht : tupO p with
    | none => exact OkM.fail
    | some l =>
      cases tupO_of ht
      refine OkM.iteT fun hlen => OkM.standAt ?_
      unfold unpack
      obtain ⟨e1, e2, e3⟩ := assign_each (env := env) hpl
      rw [e2, e3, ← hlen]
      exact OkM.at (m' := (M.ret l).bind fun l => assignTs C n env.scope ρ ts l) rfl (OkM.bindN (OkM.holding (ok_unpack hh hv)) fun c₁ ps vs L₁ G₁ hr => hB _ _ _ _ _ _ _ _ R.down (F.upN L₁) hr hpl)
  | _ => exact OkM.failAt (by kernel_rfl)
end
end Mine
end

section
namespace Mine
open PySem PyProof PyProof.Rows

section
variable {U : Setup} {C : Cfg} {A : Around} {X : Addr → Prop} {c c' : Cf} {L : Addr} {env : Env} {ρ : Locs} {n : Nat}

noncomputable def ExOk (U : Setup) (C : Cfg) (n : Nat) : Prop := ∀ A env ρ c st L outer, Room A n → Fk U C.hd A env ρ c → env.frame = some L → A.frames = some (env :: outer) →
  OkM U A (XOf env) c (PySem.exec st env) (Mine.exec C n env.scope ρ st) (RelF U C.hd A env) L

inductive Pushed (U : Setup) (c : Cf) (s : Shared) (o : Obj) : Prop
  | mk (g : (s.heap.push o).get? s.heap.objs.size = some o) (le : Le NoX c { c with h := s.heap.push o }) (good : Good U { c with h := s.heap.push o }) (no : ¬ Own c.μ c.st s.heap.objs.size) (nb : U.B.get? s.heap.objs.size = none) (ne : ∀ b ob, c.h.get? b = some ob → b ≠ s.heap.objs.size) (hi : c.h.objs.size ≤ s.heap.objs.size)
theorem push_facts {o : Obj} {s : Shared} (hs : s.heap = c.h) (G : Good U c) (hf : o.isFreed = false) : Pushed U c s o := by
  have hk := push_keep hs o
  have hz : c.h.objs.size ≤ (s.heap.push o).objs.size := by rw [Heap.size_push, hs]; exact Nat.le_succ _
  have h0 : c.h.objs.size ≤ s.heap.objs.size := by rw [hs]; exact Nat.le_refl _
  exact ⟨Heap.get?_push_size _ hf, Le.grow hk hz, G.grow hk hz, (newI_none G h0).1, (newI_none G h0).2, fun b ob e => by rw [hs]; exact Nat.ne_of_lt (Heap.lt_size e), h0⟩

theorem fits_small {i : Int} (h : i.natAbs ≤ 4000000) : Builtin.Range.rangeFitsLong i = true := by
  unfold Builtin.Range.rangeFitsLong
  simp only [Bool.and_eq_true, decide_eq_true_eq]
  constructor <;> omega
theorem rng_size {a b : Int} : Builtin.Range.rangeSize a b 1 = ((b - a).toNat : Int) := by
  unfold Builtin.Range.rangeSize
  simp only [Int.ediv_one]
  by_cases hab : a < b
  · simp only [hab, if_true]; rw [if_pos (by decide)]; omega
  · simp only [hab, if_false]; rw [if_pos (by decide)]; omega
theorem rng_small {a b : Int} (h1 : a.natAbs ≤ 1000000) (h2 : b.natAbs ≤ 1000000) : Builtin.Range.small a b 1 = true := by
  unfold Builtin.Range.small
  rw [rng_size, fits_small (i := a) (by omega), fits_small (i := b) (by omega), fits_small (i := 1) (by omega), fits_small (by omega), fits_small (i := b + (1 - 1)) (by omega)]
  simp
/-- an iterator is made -/
theorem on_items {β : Type} {hd : Bool} {p : PV} {v : Value} (hv : RelC c p v) {body : List PV → M β} (G : Good U c) {s : Shared} (hs : s.heap = c.h) (H : HandIn A c) (hh : hd = false → A.handled = none)
    {r : R β} {st₀ st' : Mine.St} (hm : onItems hd p body st₀ = some (r, st')) {Q : Value → Shared → Prop} {E : Value → Shared → Prop}
    (h : ∀ (s₁ : Shared) I l St Mid, Feeds U A I (· = I) l (fun _ => True) (M.ret ()) (M.ret ()) (fun _ => True) St Mid → c.h.objs.size ≤ I → St { c with h := s₁.heap } 0 → Same s s₁ → Ends U NoX c { c with h := s₁.heap } → body l st₀ = some (r, st') → Q (.ref I) s₁) :
    wpAny (model U.prog U.w) A (pyIter v) Q E s := by
  cases p with
  | tup l =>
    have hm : (if hd = true then M.fail else body l) st₀ = some (r, st') := hm
    by_cases q : hd = true
    · rw [if_pos q] at hm; cases hm
    rw [if_neg q] at hm
    obtain ⟨a, vs, rfl, ht, hn, hl⟩ := hv.tup'
    obtain ⟨f1, f2, f3, f4, f4', f5, f6⟩ := push_facts (o := { cls := .type "tuple_iterator", data := .fields #[.ref a, .int 0 0] }) hs G rfl
    obtain ⟨o, ho, _⟩ := id ht.1
    exact wpAny_pyIter_tuple (hs ▸ ht.1) (h _ _ l _ _ (feeds_tuple (ax := a) (vs := vs) (hd_no hh q)) f6 ⟨⟨_, f1, rfl, rfl⟩, (IsTuple.up f2 (fun _ q => q.elim) ht hn).1, f4, hn, f4', hl.upN f2, f5 _ _ ho⟩ (Same.mk s _ _) ⟨f2, f3⟩ hm)
  | lst l =>
    obtain ⟨a, vs, rfl, ht, hn, hl⟩ := hv.lst'
    obtain ⟨f1, f2, f3, f4, f4', f5, f6⟩ := push_facts (o := { cls := .type "list_iterator", data := .fields #[.ref a, .int 0 0] }) hs G rfl
    obtain ⟨o, ho, _⟩ := id ht
    refine wpAny_pyIter_list (hs ▸ ht) (h _ _ l _ _ (feeds_list (ax := a) (vs := vs)) f6 ⟨⟨_, f1, rfl, rfl⟩, (IsList.up f2 (fun _ q => q.elim) ht hn).1, f4, hn, f4', hl.upN f2, f5 _ _ ho, fun x hx e => ?_⟩ (Same.mk s _ _) ⟨f2, f3⟩ hm)
    obtain ⟨b, ob, ws, e', hb, _⟩ := H x hx
    rw [e'] at e
    cases e
    exact f5 _ _ hb rfl
  | rng a b =>
    have hm : (if hd ∨ 1000000 < a.natAbs ∨ 1000000 < b.natAbs then M.fail else body (upTo a (b - a).toNat)) st₀ = some (r, st') := hm
    by_cases q : hd = true ∨ 1000000 < a.natAbs ∨ 1000000 < b.natAbs
    · rw [if_pos q] at hm; cases hm
    rw [if_neg q] at hm
    obtain ⟨a', rfl, ⟨t, u, w, ho⟩, hn⟩ := hv.rng'
    obtain ⟨f1, f2, f3, f4, f4', f5, f6⟩ := push_facts (o := { cls := .type "range_iterator", data := .fields #[rawInt a, rawInt (Builtin.Range.rangeSize a b 1), rawInt 1] }) hs G rfl
    refine wpAny_pyIter_range (hs ▸ ho) (rng_small (by omega) (by omega)) (h _ _ (upTo a (b - a).toNat) _ _ (feeds_range (hd_no hh fun w => q (.inl w))) f6 ⟨?_, f4, f4'⟩ (Same.mk s _ _) ⟨f2, f3⟩ hm)
    rw [← rng_size]
    simp only [Int.natCast_zero, Int.add_zero, Int.sub_zero]
    exact f1
  | _ => cases hm

/-- at an exception's end -/
theorem came_back {l : List Env} {lo : Nat} {e : Addr} {M : Model} {E : Value → Shared → Prop} {s : Shared} {h₀ : Heap} {fl : Value → Prop} (hf : env.frame = some L) (hlo : lo ≤ h₀.objs.size) (S : Sta l lo U.lim e h₀ s.heap fl)
    (h : ∀ h', Sta l lo U.lim e h₀ h' (· = rawInt L) → E (.ref e) { s with heap := h' }) : cameBackBy M A env E (.ref e) s := by
  obtain ⟨_, oe, vs, T, oT, ts, f, g1, g2, g3, g4, g5, _⟩ := S.exn
  unfold cameBackBy
  refine wpAny_bind (wpAny_field g1 g3 g5 ?_)
  rw [if_neg (show ¬ (Value.ref T == Value.none) = true from by simp)]
  rw [hf]
  refine sta_flight hlo S fun h' S' => h h' S'

/-- an iterator turns; the frame's things lie below -/
theorem Fk.upW {W : Addr → Prop} {hd : Bool} {c₀ : Cf} {ρ₀ : Locs} (F₀ : Fk U hd A env ρ₀ c₀) (F : Fk U hd A env ρ c) (K : Le W c c') (scr : Scr c.h W) (hW : ∀ a, W a → c₀.h.objs.size ≤ a) : Fk U hd A env ρ c' := by
  have xl : ∀ a, XOf env a → ¬ W a := fun a ha q => by
    refine absurd (hW a q) (Nat.not_le.mpr ?_)
    rcases ha with rfl | ⟨x, hx⟩
    · obtain ⟨m, ⟨o, _, _, ho, _⟩, _⟩ := F₀.ns; exact Heap.lt_size ho
    · obtain ⟨_, v, o, ho, _⟩ := F₀.off x a hx; exact Heap.lt_size ho
  have st : ∀ a, XOf env a → ∀ o, c.h.get? a = some o → ∃ sl, c'.h.get? a = some { o with slots := sl } := fun a ha o ho => let ⟨sl, e, _⟩ := K.step a o ho (F.mine a ha).1 (xl a ha); ⟨sl, e⟩
  have inH : ∀ a, XOf env a → ∃ o, c.h.get? a = some o := fun a ha => by
    rcases ha with rfl | ⟨n, hn⟩
    · obtain ⟨m, ⟨o, _, _, ho, _⟩, _⟩ := F.ns; exact ⟨o, ho⟩
    · obtain ⟨_, v, o, ho, _⟩ := F.off n a hn; exact ⟨o, ho⟩
  refine ⟨F.kind, F.globals, F.builtins, ?_, ?_, F.apart, ?_, ?_, F.frames.up (fun a q l hl hm => ?_) K, F.hand.1, ?_⟩
  · obtain ⟨m, hn, hm⟩ := F.ns
    exact ⟨m, NsUp hn (st _ (.inl rfl)), fun x pv h1 h2 => let ⟨v, e, r⟩ := hm x pv h1 h2; ⟨v, e, Rel.up K scr _ _ r⟩⟩
  · intro x hx
    obtain ⟨a, v, h1, h2, h3⟩ := F.cell x hx
    exact ⟨a, v, h1, CellUp h2 (st _ (.inr ⟨x, h1⟩)), fun pv h => let ⟨u, e, r⟩ := h3 pv h; ⟨u, e, Rel.up K scr _ _ r⟩⟩
  · intro n a hn
    obtain ⟨h1, v, h2⟩ := F.off n a hn
    exact ⟨h1, v, CellUp h2 (st _ (.inr ⟨n, hn⟩))⟩
  · intro a ha
    obtain ⟨o, ho⟩ := inH a ha
    exact ⟨notOwn_up K ho (F.mine a ha).1, (F.mine a ha).2⟩
  · obtain ⟨l', hl', _, hn'⟩ := F₀.frames.all
    rw [hl] at hl'; cases hl'
    obtain ⟨_, _, o, _, _, ho, _⟩ := hn' a hm
    exact absurd (hW a q) (Nat.not_le.mpr (Heap.lt_size ho))
  · intro e he
    obtain ⟨a, o, vs, h1, h2, h3, h4, h5⟩ := F.hand.2 e he
    obtain ⟨a', o', _, h1', h2', _⟩ := F₀.hand.2 e he
    rw [h1] at h1'; cases h1'
    obtain ⟨sl, h6, _⟩ := K.step a o h2 h5 (fun q => absurd (hW a q) (Nat.not_le.mpr (Heap.lt_size h2')))
    exact ⟨a, _, vs, h1, h6, h3, h4, notOwn_up K h2 h5⟩

noncomputable abbrev XF (env : Env) (n0 : Nat) : Addr → Prop := fun a => XOf env a ∨ n0 ≤ a

/-- an exception is noted in a block of the frame's own -/
theorem noted_at {outer : List Env} {c₀ : Cf} {e : Addr} {s' : Shared} {E' : Value → Shared → Prop} (hf : env.frame = some L) (hA : A.frames = some (env :: outer)) (hs : s'.heap = c'.h) (FR : FramesIn U A c') (hx : Exn c'.h c₀.h.objs.size U.lim L e) (hz : c₀.h.objs.size ≤ c'.h.objs.size)
    (h : ∀ h', Sta (env :: outer) c₀.h.objs.size U.lim e c'.h h' (· = rawInt L) → E' (.ref e) { s' with heap := h' }) : notedBy (model U.prog U.w) A env E' (.ref e) s' := by
  obtain ⟨l, hl, hff, _⟩ := FR.all
  rw [hA] at hl; cases hl
  unfold notedBy
  exact sta_note hA (hs ▸ hff) hf (hs ▸ hx) (hs ▸ hz) fun h' S => h h' (hs ▸ S)

/-- one step in another -/
theorem OkM.nest {α β γ δ : Type} {t : Sem α} {m : M γ} {k : α → Sem β} {f : γ → M δ} {P : Cf → γ → α → Prop} {P' : Cf → δ → β → Prop}
    (h : OkM U A X c t m P L) (hk : ∀ c' b a, Le X c c' → Good U c' → P c' b a → OkM U A X c' (k a) (f b) P' L) (G : Good U c) {s : Shared} (hs : s.heap = c.h) {r : R δ} {st' : Mine.St} (hm : m.bind f c.st = some (r, st')) {Q : β → Shared → Prop} {E : Value → Shared → Prop}
    (hQ : ∀ b a c' s', r = .ok b → c'.st = st' → s'.heap = c'.h → Same s s' → Ends U X c c' → P' c' b a → Q a s')
    (hE : ∀ e c' s', r = .exc → c'.st = st' → s'.heap = c'.h → Same s s' → Ends U X c c' → Exn c'.h c.h.objs.size U.lim L e → FramesIn U A c' → E (.ref e) s') : wpAny (model U.prog U.w) A t (fun a s' => wpAny (model U.prog U.w) A (k a) Q E s') E s := by
  rcases bind_cases hm with ⟨hx, rfl⟩ | ⟨b, st₁, hx, hm⟩
  · exact h G s hs _ _ hx _ E (fun b a c' s' e => nomatch e) fun e c' s' _ q1 q2 q3 q4 q5 q6 => hE e c' s' rfl q1 q2 q3 q4 q5 q6
  · refine h G s hs _ _ hx _ E (fun b' a c' s' e q1 q2 q3 q4 q5 => ?_) fun e c' s' q => nomatch q
    cases e
    subst q1
    exact hk c' b a q4.1 q4.2 q5 q4.2 s' q2 r st' hm Q E (fun b' a' c'' s'' w1 w2 w3 w4 w5 w6 => hQ b' a' c'' s'' w1 w2 w3 (q3.trans w4) ⟨q4.1.trans w5.1, w5.2⟩ w6)
        (fun e c'' s'' w1 w2 w3 w4 w5 w6 w7 => hE e c'' s'' w1 w2 w3 (q3.trans w4) ⟨q4.1.trans w5.1, w5.2⟩ (w6.low q4.1.size) w7)

/-- where a walk stands -/
inductive OnWay (U : Setup) (hd : Bool) (A : Around) (env : Env) (X : Addr → Prop) (c₀ : Cf) (s₀ : Shared) (ρ : Locs) (c : Cf) (s : Shared) : Prop
  | mk (F : Fk U hd A env ρ c) (hs : s.heap = c.h) (S : Same s₀ s) (D : Ends U X c₀ c)
theorem Fk.below {hd : Bool} (F : Fk U hd A env ρ c) {a : Addr} (h : XOf env a) : a < c.h.objs.size := by
  rcases h with rfl | ⟨x, hx⟩
  · obtain ⟨m, ⟨o, _, _, ho, _⟩, _⟩ := F.ns; exact Heap.lt_size ho
  · obtain ⟨_, v, o, ho, _⟩ := F.off x _ hx; exact Heap.lt_size ho
theorem loopF_cons {f : PV → Locs → M (Fl × Locs)} {x : PV} {xs : List PV} : loopF (β := Unit) f (x :: xs) ρ = (f x ρ).bind fun r => match r.1 with
    | .next => loopF (β := Unit) f xs r.2
    | .ret v => M.ret (.ret v, r.2) := rfl
inductive ForAt (U : Setup) (hd : Bool) (A : Around) (env : Env) (c₀ : Cf) (s₀ : Shared) (l : List PV) (St : Cf → Nat → Prop) (f : PV → Locs → M (Fl × Locs)) (r : R (Fl × Locs)) (st' : Mine.St) (k : Nat) (s : Shared) : Prop
  | mk (i : Nat) (c : Cf) (ρ : Locs) (e : k = l.length - i) (hi : i ≤ l.length) (hSt : St c i) (W : OnWay U hd A env (XF env c₀.h.objs.size) c₀ s₀ ρ c s) (hm : loopF (β := Unit) f (l.drop i) ρ c.st = some (r, st'))
theorem for_loop (hAs : AsOk U C n) (hSs : SsOk U C n) {I : Addr} {l : List PV} {St : Cf → Nat → Prop} {Mid : Cf → Nat → Value → Prop} (FD : Feeds U A I (· = I) l (fun _ => True) (M.ret ()) (M.ret ()) (fun _ => True) St Mid)
    {t : Expr} {body : List Stmt} {outer : List Env} (R : Room A n) (hf : env.frame = some L) (hA : A.frames = some (env :: outer)) {c₀ : Cf} {ρ₀ : Locs} {s₀ : Shared} (F₀ : Fk U C.hd A env ρ₀ c₀) (hI : c₀.h.objs.size ≤ I)
    {r : Mine.R (Fl × Locs)} {st' : Mine.St} {RR : Result → Shared → Prop}
    (hok : ∀ fl ρ' f c' s', r = .ok (fl, ρ') → c'.st = st' → OnWay U C.hd A env (XF env c₀.h.objs.size) c₀ s₀ ρ' c' s' → FlRel c' fl f → RR (.ok f) s')
    (hex : ∀ e c' s', r = .exc → c'.st = st' → Same s₀ s' → Ends U (XF env c₀.h.objs.size) c₀ c' → FramesIn U A c' → Sta (env :: outer) c₀.h.objs.size U.lim e c'.h s'.heap (· = rawInt L) → (∃ oe vs, c'.h.get? e = some oe ∧ oe.cls = .ref U.lim ∧ oe.data = .fields vs) → RR (.error (.ref e)) s')
    (s : Shared) (c : Cf) (hSt : St c 0) (W : OnWay U C.hd A env (XF env c₀.h.objs.size) c₀ s₀ ρ c s)
    (hm : loopF (β := Unit) (fun x ρ => (assignT C n env.scope ρ t x).bind fun ρ => Mine.execs C n env.scope ρ body) l ρ c.st = some (r, st')) :
    codeAny (model U.prog U.w) A (.forLoop t (.ref I) body [] env) RR s := by
  refine codeAny_forLoop_any (ForAt U C.hd A env c₀ s₀ l St (fun x ρ => (assignT C n env.scope ρ t x).bind fun ρ => Mine.execs C n env.scope ρ body) r st') ?_ l.length ⟨0, c, ρ, rfl, Nat.zero_le _, hSt, W, hm⟩
  clear hSt W hm
  rintro k s ⟨i, c, ρ, rfl, hi, hSt, ⟨F, hs, hS, hD⟩, hm⟩
  by_cases hlt : i < l.length
  · rw [List.drop_eq_getElem_cons hlt, loopF_cons] at hm
    refine FD.item hD.2 hSt trivial (List.getElem?_eq_getElem hlt) hs fun v h₁ tk₁ D₁ r₁ M₁ => ?_
    refine FD.go D₁.2 trivial M₁ rfl fun h₂ D₂ S₂ => ?_
    have scr₁ := (FD.wk M₁).1
    have F₂ : Fk U C.hd A env ρ { c with h := h₂ } := F₀.upW (F₀.upW F D₁.1 (FD.low hSt).2.1 (fun a q => q ▸ hI)) D₂.1 scr₁ (fun a q => q ▸ hI)
    have D02 : Ends U (XF env c₀.h.objs.size) c₀ { c with h := h₂ } := ⟨hD.1.trans ((D₁.1.trans D₂.1).weak fun a q => .inr (q ▸ hI)), D₂.2⟩
    have run : OkM U A (XOf env) { c with h := h₂ } (assign t env v) (assignT C n env.scope ρ t l[i]) _ L := hAs A env ρ _ t _ v L R F₂ (Rel.up D₂.1 scr₁ _ _ r₁)
    rcases bind_cases hm with ⟨hm1, rfl⟩ | ⟨⟨fl, ρ₄⟩, st₄, hm1, hmr⟩
    · refine run.nest (fun c₃ ρ₃ _ L₃ G₃ F₃ => hSs A env _ c₃ body L outer R F₃ hf hA) D₂.2 rfl hm1 (fun b a c' s' e => nomatch e) fun e c' s' _ w1 w2 w3 w4 w5 w6 => ?_
      have DD : Ends U (XF env c₀.h.objs.size) c₀ c' := ⟨D02.1.trans (w4.1.weak fun a q => .inl q), w4.2⟩
      exact noted_at (c₀ := c₀) hf hA w2 w6 (w5.low D02.1.size) DD.1.size fun h' S => hex e c' _ rfl w1 (hS.trans ((Same.mk s _ _).trans (w3.trans (Same.mk _ _ _)))) DD w6 S w5.obj
    · refine run.nest (fun c₃ ρ₃ _ L₃ G₃ F₃ => hSs A env _ c₃ body L outer R F₃ hf hA) D₂.2 rfl hm1 (fun b f c₄ s₄ e v1 v2 v3 v4 v5 => ?_) fun e c' s' q => nomatch q
      cases e; subst v1
      obtain ⟨hfl, F₄⟩ := v5
      have W4 : OnWay U C.hd A env (XF env c₀.h.objs.size) c₀ s₀ ρ₄ c₄ s₄ := ⟨F₄, v2, hS.trans ((Same.mk s _ _).trans v3), D02.1.trans (v4.1.weak fun a q => .inl q), v4.2⟩
      cases hfl with
      | next => exact ⟨l.length - (i + 1), by omega, i + 1, c₄, ρ₄, rfl, hlt, FD.up v4.1 F₂.scr (fun a e q => absurd (F₀.below q) (Nat.not_lt.mpr (e ▸ hI))) S₂, W4, hmr⟩
      | ret hv =>
        cases hmr
        exact hok _ _ _ c₄ s₄ rfl rfl W4 (.ret hv)
  · cases Nat.le_antisymm hi (Nat.not_lt.mp hlt)
    rw [List.drop_length] at hm
    cases hm
    refine FD.done hD.2 F.hand.2 hSt hs rfl fun h₁ tk₁ _ D₁ => wpAny_execs_nil ?_
    exact hok _ _ _ { c with h := h₁ } _ rfl rfl ⟨F₀.upW F D₁.1 (FD.low hSt).2.1 (fun a q => q ▸ hI), rfl, hS.trans (Same.mk s _ _), hD.1.trans (D₁.1.weak fun a q => .inr (q ▸ hI)), D₁.2⟩ .next

theorem foldedSet_plain {iter : Expr} (hs : ∀ es k p, iter ≠ Expr.Set es k p) (x : Value) : foldedSetIterable iter env x = pure x := by
  cases iter <;> first | rfl | exact absurd rfl (hs _ _ _)

theorem exec_ForM {sc : Scope} {t e : Expr} {body orelse : List Stmt} {pos : Pos} : Mine.exec C (n + 1) sc ρ (.For t e body orelse pos) = if C.hd = true ∨ orelse.isEmpty = false then M.fail else (evalE C n sc ρ e).bind fun v => onItems C.hd v fun l => loopF (β := Unit) (fun x ρ => (assignT C n sc ρ t x).bind fun ρ => Mine.execs C n sc ρ body) l ρ := by kernel_rfl
theorem nil_of {α : Type} {l : List α} (h : l.isEmpty = true) : l = [] := by cases l; rfl; cases h
theorem set_or (e : Expr) : (∃ es k p, e = Expr.Set es k p) ∨ ∀ es k p, e ≠ Expr.Set es k p := by
  cases e <;> first | exact .inl ⟨_, _, _, rfl⟩ | exact .inr fun _ _ _ q => nomatch q
theorem ex_For (hE : EvOk U C n) (hAs : AsOk U C n) (hSs : SsOk U C n) (R : Room A (n + 1)) (F : Fk U C.hd A env ρ c) {outer : List Env} (hf : env.frame = some L) (hA : A.frames = some (env :: outer)) {t iter : Expr} {body orelse : List Stmt} {pos : Pos} :
    OkM U A (XOf env) c (PySem.exec (.For t iter body orelse pos) env) (Mine.exec C (n + 1) env.scope ρ (.For t iter body orelse pos)) (RelF U C.hd A env) L := by
  refine OkM.at exec_ForM (OkM.iteF fun hc => ?_)
  cases nil_of (ne_false fun q => hc (.inr q))
  rcases set_or iter with ⟨es, k, p, rfl⟩ | hset
  · rw [evalE_Set]; exact OkM.fail
  rw [exec_For]
  refine OkM.standAt (OkM.bindN (hE _ _ _ _ _ _ R.down F) fun c₁ p v L₁ G₁ hv => ?_)
  have F₁ := F.upN L₁
  intro G s hs r st' hm Q E hQ hE'
  refine wpAny_bind (wpAny_of_eq (foldedSet_plain hset v) (wpAny_bind (wpAny_standAt (wpAny_bind (wpAny_holding ?_)))))
  refine on_items hv G hs F₁.hand.2 F₁.hand.1 hm fun s₁ I l St Mid FD hI hSt hS D hb => ?_
  refine wpAny_runOwn ?_
  refine for_loop (s₀ := s) hAs hSs FD R.down hf hA F₁ hI (fun fl ρ' f c' s' e w1 W w5 => ?_) (fun e c' s' q w1 w2 w3 w4 w5 w6 => ?_) s₁ _ hSt ⟨F₁.upN D.1, rfl, hS, D.1.weak fun _ q => q.elim, D.2⟩ hb
  · obtain ⟨F', w2, w3, w4⟩ := W
    exact hQ _ _ c' s' e w1 w2 w3 ⟨Le.fresh (Nat.le_refl _) w4.1, w4.2⟩ ⟨w5, F'⟩
  · refine came_back hf w3.1.size w5 fun h' S' => ?_
    obtain ⟨D', FR'⟩ := Sta.keeps S' hA w4 w3 G w6
    exact hE' e { c' with h := h' } _ q w1 rfl (w2.trans (Same.mk _ _ _)) ⟨Le.fresh (Nat.le_refl _) D'.1, D'.2⟩ (S'.toExn fun f hf => .inr hf) FR'
end
end Mine
end

section
namespace Mine
open PySem PyProof PyProof.Rows

section
variable {U : Setup} {C : Cfg} {A : Around} {X : Addr → Prop} {c c' : Cf} {L : Addr} {env : Env} {ρ : Locs} {n : Nat}

noncomputable abbrev forTests (ifs : List Expr) (b : Bool) (cenv : Env) : Sem Bool :=
  forIn ifs b fun c r => if r = true then do let ok ← isTrue c cenv (eval c cenv); pure (ForInStep.yield ok) else pure (ForInStep.yield r)

theorem forTests_false (cenv : Env) : ∀ ifs : List Expr, forTests ifs false cenv = pure false
  | [] => rfl
  | c :: r => by
    unfold forTests
    rw [List.forIn_cons]
    simp only [Bool.false_eq_true, if_false, pure_bind]
    exact forTests_false cenv r
theorem forTests_cons {e : Expr} {r : List Expr} : forTests (e :: r) true env = (isTrue e env (eval e env) >>= fun ok => forTests r ok env) := by
  unfold forTests
  rw [List.forIn_cons]
  simp only [if_true, bind_assoc, pure_bind]
theorem tests_ok : ∀ {n : Nat}, (∀ m, m < n → TrOk U C m) → ∀ {ifs : List Expr} {c : Cf}, Room A n → Fk U C.hd A env ρ c → OkM U A NoX c (forTests ifs true env) (allT C n env.scope ρ .And ifs) (fun _ b v => v = b) L
  | 0, _, _, _, _, _ => OkM.failAt (by kernel_rfl)
  | n + 1, hT, [], c, R, F => OkM.at allT_nil (OkM.pure rfl)
  | n + 1, hT, e :: r, c, R, F => by
    refine OkM.at2 forTests_cons allT_cons ((hT n (Nat.lt_succ_self _) _ _ _ _ _ _ R.down F).bind fun c₁ b v L₁ G₁ hv => ?_)
    subst hv
    cases v
    · rw [forTests_false]
      exact OkM.pure rfl
    · exact tests_ok (fun m hm => hT m (Nat.lt_succ_of_lt hm)) R.down (F.upN L₁)

/-- where a turn's variables lie -/
noncomputable def TgtLow (cenv : Env) (N : Nat) (x : Str) : Prop := isVar cenv.scope x = true ∧ ∀ a, StX cenv x a → N ≤ a
noncomputable def CX (cenv : Env) (N : Nat) (a : Addr) : Prop := ∃ x, TgtLow cenv N x ∧ StX cenv x a
theorem CX.low {N : Nat} {a : Addr} (h : CX env N a) : N ≤ a := let ⟨_, h1, h2⟩ := h; h1.2 a h2
theorem CX.of {N : Nat} {a : Addr} (h : CX env N a) : XOf env a := let ⟨_, _, h2⟩ := h; h2.of

theorem Fk.less {hd : Bool} {x : Str} {p : PV} (F : Fk U hd A env ((x, p) :: ρ) c) (h : ¬ (ρ.lookup x).isSome = true) : Fk U hd A env ρ c := by
  have key : ∀ y pv, ρ.lookup y = some pv → ((x, p) :: ρ).lookup y = some pv := fun y pv e => by
    have : y ≠ x := by rintro rfl; rw [e] at h; exact h rfl
    rw [look_ne this]; exact e
  refine ⟨F.kind, F.globals, F.builtins, ?_, ?_, F.apart, F.off, F.mine, F.frames, F.hand⟩
  · obtain ⟨m, hn, hm⟩ := F.ns
    exact ⟨m, hn, fun y pv h1 h2 => hm y pv h1 (key y pv h2)⟩
  · intro y hy
    obtain ⟨a, v, h1, h2, h3⟩ := F.cell y hy
    exact ⟨a, v, h1, h2, fun pv h => h3 pv (key y pv h)⟩

/-- a turn's target -/
inductive tgtLow (env : Env) (N : Nat) : Expr → Prop
  | name {x : Str} {p : Pos} (h : TgtLow env N x) : tgtLow env N (.Name x p)
  | pair {x y : Str} {px py p : Pos} {k : Nat} (h1 : TgtLow env N x) (h2 : TgtLow env N y) : tgtLow env N (.Tuple [.Name x px, .Name y py] k p)

theorem nameV_of {t : Expr} {x : Str} (h : nameV t = some x) : ∃ p, t = .Name x p := by
  cases t <;> first | (cases h; done) | (cases h; exact ⟨_, rfl⟩)
theorem tupV_of {t : Expr} {es : List Expr} (h : tupV t = some es) : ∃ k p, t = .Tuple es k p := by
  cases t <;> first | (cases h; done) | (cases h; exact ⟨_, _, rfl⟩)
theorem pairN_of {t : Expr} {q : Str × Str} (h : pairN t = some q) : ∃ px py k p, t = .Tuple [.Name q.1 px, .Name q.2 py] k p := by
  obtain ⟨es, h1, h⟩ := Option.bind_eq_some_iff.mp h
  obtain ⟨⟨a, b⟩, h2, h⟩ := Option.bind_eq_some_iff.mp h
  obtain ⟨x, h3, h⟩ := Option.bind_eq_some_iff.mp h
  obtain ⟨y, h4, rfl⟩ := Option.map_eq_some_iff.mp h
  obtain ⟨k, p, rfl⟩ := tupV_of h1
  cases two_cons h2
  obtain ⟨px, rfl⟩ := nameV_of h3
  obtain ⟨py, rfl⟩ := nameV_of h4
  exact ⟨px, py, k, p, rfl⟩

theorem bindTo (F : Fk U C.hd A env ρ c) {N : Nat} {x : Str} {pos : Pos} (hx : TgtLow env N x) {p : PV} {v : Value} (hv : RelC c p v) : OkM U A (CX env N) c (assign (.Name x pos) env v) (M.ret ()) (fun c' _ _ => Fk U C.hd A env ((x, p) :: ρ) c') L :=
  OkM.at2 assign_Name rfl (OkM.standAt (((OkM.retAs (store_m F hx.1 hv) fun _ _ _ F' => F').weak fun a q => ⟨x, hx, q⟩).of_wp fun Q E s h => wpAny_bindName h))
theorem bind_ok {N : Nat} (F : Fk U C.hd A env ρ c) {t : Expr} (ht : tgtLow env N t) {p : PV} {v : Value} (hv : RelC c p v) :
    OkM U A (CX env N) c (assign t env v) (M.of (bindT C.hd ρ t p)) (fun c' ρ' _ => Fk U C.hd A env ρ' c' ∧ ∀ c'', Fk U C.hd A env ρ' c'' → Fk U C.hd A env ρ c'') L := by
  cases ht with
  | @name x pos ht => exact OkM.at (m' := M.of (if (ρ.lookup x).isSome then Option.none else some ((x, p) :: ρ))) rfl (OkM.ofIteN fun hl => OkM.retAs (bindTo F ht hv) fun c' _ _ F' => ⟨F', fun c'' F'' => F''.less hl⟩)
  | @pair x y px py pos k hx hy =>
    refine OkM.at (m' := M.of (match tup2 p with
      | some (a, b) => if C.hd = true ∨ x = y ∨ (ρ.lookup x).isSome = true ∨ (ρ.lookup y).isSome = true then Option.none else some ((y, b) :: (x, a) :: ρ)
      | Option.none => Option.none)) rfl ?_
    cases htv : tup2 p with
    | none => exact OkM.fail
    | some q =>
      obtain ⟨a, b⟩ := q
      cases tup2_of htv
      refine OkM.ofIteN fun hl => OkM.at2 (arm_assign_Tuple ..) rfl (OkM.standAt ?_)
      show OkM U A _ c (do let its ← PySem.holding [v] (unpackItems v 2 none); assignInOrder [assign (.Name x px) env, assign (.Name y py) env] its) ((M.ret ()).bind fun _ => (M.ret ()).bind fun _ => (M.ret ()).bind fun _ => M.ret ((y, b) :: (x, a) :: ρ)) _ L
      refine OkM.bindN (P := fun c' _ vs => RelLC c' [a, b] vs) (OkM.holding (OkM.retAs (ok_unpack (hd_no F.hand.1 fun q => hl (.inl q)) hv (l := [a, b])) fun _ _ _ h => h)) fun c₁ _ vs L₁ G₁ hr => ?_
      obtain ⟨u, r, rfl, h1, hr1⟩ := hr.cons'
      obtain ⟨w, r', rfl, h2, hr2⟩ := hr1.cons'
      cases hr2.nil'
      have F₁ := F.upN L₁
      show OkM U A _ c₁ (do PySem.holding [w] (assign (.Name x px) env u); assignInOrder [assign (.Name y py) env] [w]) _ _ L
      refine OkM.bind (P := fun c' _ _ => Fk U C.hd A env ((x, a) :: ρ) c' ∧ RelC c' b w) (OkM.holding (OkM.retAs (bindTo F₁ hx h1) fun c' _ K F' => ⟨F', Rel.up K (F₁.scr.sub fun _ => CX.of) _ _ h2⟩)) fun c₂ _ _ L₂ G₂ q => ?_
      show OkM U A _ c₂ (do PySem.holding [] (assign (.Name y py) env w); assignInOrder [] []) _ _ L
      refine OkM.bind (OkM.holding (bindTo q.1 hy q.2)) fun c₃ _ _ L₃ G₃ F₃ => OkM.pure ⟨F₃, fun c'' F'' => ?_⟩
      refine Fk.less (x := x) (p := a) (Fk.less (x := y) (p := b) F'' ?_) fun q => hl (.inr (.inr (.inl q)))
      rw [look_ne fun e => hl (.inr (.inl e.symm))]
      exact fun q => hl (.inr (.inr (.inr q)))
end
end Mine
end

section
namespace Mine
open PySem PyProof PyProof.Rows

section
variable {U : Setup} {C : Cfg} {A : Around} {X : Addr → Prop} {c c' : Cf} {L : Addr} {env : Env} {ρ : Locs} {n : Nat}

inductive ZipS (U : Setup) (t : Expr) (N0 : Nat) (c : Cf) (k : Nat) (ps qs : List PV) (v : Value) : Prop
  | mk (tt : ∃ es j p, t = Expr.Tuple es j p) (Z : ZA) (e1 : Z.k = k) (e2 : Z.ps = ps) (e3 : Z.qs = qs) (e4 : v = .ref Z.z) (S : ZSt U Z .none 0 c) (w : ∀ a, Z.W a → N0 ≤ a)
/-- what a loop runs along -/
noncomputable def RelS (U : Setup) (t : Expr) (N0 : Nat) (c : Cf) : Src → Value → Prop
  | .val p, v => RelC c p v
  | .zip k ps qs, v => ZipS U t N0 c k ps qs v
theorem RelS.low {t : Expr} {N N' : Nat} {c : Cf} (h : N' ≤ N) : ∀ {s : Src} {v : Value}, RelS U t N c s v → RelS U t N' c s v
  | .val _, _, q => q
  | .zip _ _ _, _, ⟨q1, Z, q2, q3, q4, q5, q6, q7⟩ => ⟨q1, Z, q2, q3, q4, q5, q6, fun a ha => Nat.le_trans h (q7 a ha)⟩

noncomputable def SrOk (U : Setup) (C : Cfg) (n : Nat) : Prop := ∀ A env ρ c t e L, Room A n → Fk U C.hd A env ρ c → OkM U A NoX c (eval e env) (srcE C n env.scope ρ t e) (fun c' s v => RelS U t c.h.objs.size c' s v) L

/-- an iterator is made, whatever it runs along -/
theorem on_src {β : Type} {t : Expr} {sr : Src} {v : Value} {N : Nat} (hv : RelS U t N c sr v) (hN : N ≤ c.h.objs.size) {body : M Unit → M Unit → List PV → M β} (G : Good U c) {s : Shared} (hs : s.heap = c.h) (H : HandIn A c) (hh : C.hd = false → A.handled = none)
    {r : R β} {st₀ st' : Mine.St} (hm : onSrc C.hd sr body st₀ = some (r, st')) {Q : Value → Shared → Prop} {E : Value → Shared → Prop}
    (h : ∀ (s₁ : Shared) I W l tgt ck fin Chk St Mid, Feeds U A I W l tgt ck fin Chk St Mid → tgt t → (∀ a, W a → N ≤ a) → St { c with h := s₁.heap } 0 → Same s s₁ → Ends U NoX c { c with h := s₁.heap } →
      body ck fin l st₀ = some (r, st') → Q (.ref I) s₁) :
    wpAny (model U.prog U.w) A (pyIter v) Q E s := by
  cases sr with
  | val p => exact on_items hv G hs H hh hm fun s₁ I l St Mid FD hI hSt hS D hb => h s₁ I _ l _ _ _ _ St Mid FD trivial (fun a q => q ▸ Nat.le_trans hN hI) hSt hS D hb
  | zip k ps qs =>
    have hm : (if C.hd then M.fail else body (chkO k) ((chkO k).bind fun _ => setO k Option.none) ((ps.zip qs).map fun p => .tup [p.1, p.2])) st₀ = some (r, st') := hm
    by_cases hhd : C.hd = true
    · rw [if_pos hhd] at hm; cases hm
    rw [if_neg hhd] at hm
    obtain ⟨ht, Z, rfl, rfl, rfl, rfl, S, hW⟩ := hv
    have FD := feeds_zip (U := U) (hd_no hh hhd) (Z := Z)
    exact FD.self S hs (h s Z.z Z.W _ _ _ _ _ _ _ FD ht hW (by rw [hs]; exact S) (Same.refl s) (by rw [hs]; exact ⟨Le.refl _ _, G⟩) hm)

/-- a turn of a comprehension behind the item -/
noncomputable def turnSem (elt : Expr) (g : Comprehension) (acc : Value) (cenv : Env) (v : Value) : Sem Unit :=
  assign g.target cenv v >>= fun _ => forTests g.ifs true cenv >>= fun ok =>
  if ok = true then eval elt cenv >>= fun x => call (.builtin "list.append") [acc, x] >>= fun _ => pure () else pure ()

theorem compTurn_eq {elt : Expr} {g : Comprehension} {scope : Scope} {pos : Pos} {it acc : Value} (ha : g.is_async = 0) :
    PySem.compTurn (.ListComp elt [g] scope pos) 0 it acc env = (standAt g.iter.pos >>= fun _ => pyNext it >>= fun r =>
      match r with
      | none => pure (.done .next)
      | some v => letOwnedTupleGo g.target it v >>= fun _ => turnSem elt g acc env v >>= fun _ => again (.compLoop (.ListComp elt [g] scope pos) 0 it acc env)) := by
  unfold PySem.compTurn
  have e0 : ([g] : List Comprehension)[0]? = some g := rfl
  have e1 : ([g] : List Comprehension)[0 + 1]? = none := rfl
  simp only [e0, e1, ha, bne_self_eq_false, Bool.false_eq_true, if_false]
  congr 1
  funext _
  congr 1
  funext r
  cases r with
  | none => rfl
  | some v =>
    simp only [turnSem, bind_assoc]
    congr 1
    funext _
    congr 1
    funext _
    congr 1
    funext ok
    cases ok with
    | false => simp only [Bool.false_eq_true, if_false, pure_bind]
    | true => simp only [if_true, bind_assoc, pure_bind]

/-- one turn of a comprehension -/
noncomputable def CtOk (U : Setup) (C : Cfg) (n : Nat) : Prop := ∀ (A : Around) (cenv : Env) (ρ : Locs) (c : Cf) (elt : Expr) (g : Comprehension) (k : Nat) (D : Addr) (x : PV) (v : Value) (L : Addr) (N : Nat), Room A n → Fk U C.hd A cenv ρ c → tgtLow cenv N g.target →
  c.μ k = some (D, D) → RelC c x v →
  OkM U A (CX cenv N) c (turnSem elt g (.ref D) cenv v) (Mine.compTurn C n cenv.scope elt g ρ k x) (fun c' _ _ => Fk U C.hd A cenv ρ c') L

theorem append_ok {k : Nat} {D : Addr} {p : PV} {v : Value} (hk : c.μ k = some (D, D)) (hv : RelC c p v) :
    OkM U A NoX c (call (.builtin "list.append") [.ref D, v] >>= fun _ => pure ()) (appO k p) (fun _ _ _ => True) L := by
  refine OkM.getO fun G ob hob => ?_
  cases ob with
  | list l =>
    refine OkM.iteT fun hlen => ?_
    obtain ⟨y, hy, ⟨ws, h1, h2, h3⟩, _⟩ := G.objs k _ hob
    rw [hk] at hy; cases hy
    obtain ⟨oo, ho, hc, kk, hd⟩ := id h1
    have D1 := put_list (X := NoX) (l' := l ++ [p]) (vs' := ws ++ [v]) (f := (·.push v)) G hob hk h1 (by simp) (RelL.snoc hv h2)
    exact OkM.seen (b := ()) (st₁ := (c.put k (.list (l ++ [p])) c.h).st) rfl fun _ s hs Q E hQ => wpAny_bind (wp_append (hs ▸ ho) hc hd
      (wpAny_pure (hQ _ (c.put k (.list (l ++ [p])) (c.h.update D (Obj.mapSeq (·.push v)))) _ rfl (by show s.heap.update _ _ = _; rw [hs]; rfl) (Same.mk s _ _) D1 trivial)) (by rw [sizeLine_eq, List.size_toArray, RelL.length h2]; omega))
  | _ => exact OkM.fail

theorem compStart_ok {elt : Expr} {scope : Scope} {pos : Pos} {g : Comprehension} {I : Addr} {acc : Value} {RR : Result → Shared → Prop} {s : Shared} {prog : Program} {w : World} (ha : g.is_async = 0)
    (h0 : codeAny (model prog w) A (.compLoop (.ListComp elt [g] scope pos) 0 (.ref I) acc env) RR s)
    (hself : ∀ (Q : Value → Shared → Prop) E, Q (.ref I) s → wpAny (model prog w) A (pyIter (.ref I)) Q E s) :
    codeAny (model prog w) A (.compStart (.ListComp elt [g] scope pos) 0 (.ref I) acc env) RR s := by
  refine codeAny_of_tree ?_
  show wpAny _ _ ((PySem.compStart (.ListComp elt [g] scope pos) 0 (.ref I) acc env).onRaise (fun x => do noteFrame x env; standAt theWindowsPlace)) _ _ s
  refine wpAny_notedAt ?_
  unfold PySem.compStart
  have e : (clausesOf (.ListComp elt [g] scope pos))[0]? = some g := rfl
  simp only [e, Option.elim, ha, bne_self_eq_false, Bool.false_eq_true, if_false]
  refine wpAny_bind (wpAny_askSetting (wpAny_ite ?_))
  split
  · first
      | exact wpAny_bind (wpAny_pure (wpAny_pure (And.intro rfl h0)))
      | exact wpAny_pure (And.intro rfl h0)
  · refine wpAny_bind (wpAny_rule (wpAny_bind (wpAny_standAt (wpAny_bind (hself _ _ ?_)))))
    exact wpAny_pure (And.intro rfl h0)

/-- an iterator turns: its things are no frame's -/
theorem Fk.upD {W : Addr → Prop} {hd : Bool} (F : Fk U hd A env ρ c) (K : Le W c c') (scr : Scr c.h W) (hW : ∀ a, W a → ∃ o vs, c.h.get? a = some o ∧ o.data = .fields vs) (hH : ∀ a, A.handled = some (.ref a) → ¬ W a) : Fk U hd A env ρ c' := by
  have xl : ∀ a, XOf env a → ¬ W a := fun a ha q => by
    obtain ⟨o, vs, ho, hd⟩ := hW a q
    rcases ha with rfl | ⟨x, hx⟩
    · obtain ⟨m, ⟨o', es, ep, ho', hd', _⟩, _⟩ := F.ns
      rw [ho] at ho'; cases ho'; rw [hd] at hd'; cases hd'
    · obtain ⟨_, v, o', ho', hd'⟩ := F.off x a hx
      rw [ho] at ho'; cases ho'; rw [hd] at hd'; cases hd'
  have st : ∀ a, XOf env a → ∀ o, c.h.get? a = some o → ∃ sl, c'.h.get? a = some { o with slots := sl } := fun a ha o ho => let ⟨sl, e, _⟩ := K.step a o ho (F.mine a ha).1 (xl a ha); ⟨sl, e⟩
  have inH : ∀ a, XOf env a → ∃ o, c.h.get? a = some o := fun a ha => by
    rcases ha with rfl | ⟨n, hn⟩
    · obtain ⟨m, ⟨o, _, _, ho, _⟩, _⟩ := F.ns; exact ⟨o, ho⟩
    · obtain ⟨_, v, o, ho, _⟩ := F.off n a hn; exact ⟨o, ho⟩
  refine ⟨F.kind, F.globals, F.builtins, ?_, ?_, F.apart, ?_, ?_, F.frames.up (fun a q l hl hm => ?_) K, F.hand.1, ?_⟩
  · obtain ⟨m, hn, hm⟩ := F.ns
    exact ⟨m, NsUp hn (st _ (.inl rfl)), fun x pv h1 h2 => let ⟨v, e, r⟩ := hm x pv h1 h2; ⟨v, e, Rel.up K scr _ _ r⟩⟩
  · intro x hx
    obtain ⟨a, v, h1, h2, h3⟩ := F.cell x hx
    exact ⟨a, v, h1, CellUp h2 (st _ (.inr ⟨x, h1⟩)), fun pv h => let ⟨u, e, r⟩ := h3 pv h; ⟨u, e, Rel.up K scr _ _ r⟩⟩
  · intro n a hn
    obtain ⟨h1, v, h2⟩ := F.off n a hn
    exact ⟨h1, v, CellUp h2 (st _ (.inr ⟨n, hn⟩))⟩
  · intro a ha
    obtain ⟨o, ho⟩ := inH a ha
    exact ⟨notOwn_up K ho (F.mine a ha).1, (F.mine a ha).2⟩
  · obtain ⟨l', hl', _, hn'⟩ := F.frames.all
    rw [hl] at hl'; cases hl'
    obtain ⟨_, _, o', es, m, ho', hd'⟩ := hn' a hm
    obtain ⟨o, vs, ho, hd⟩ := hW a q
    rw [ho] at ho'; cases ho'; rw [hd] at hd'; cases hd'
  · intro e he
    obtain ⟨a, o, vs, h1, h2, h3, h4, h5⟩ := F.hand.2 e he
    obtain ⟨sl, h6, _⟩ := K.step a o h2 h5 (hH a (h1 ▸ he))
    exact ⟨a, _, vs, h1, h6, h3, h4, notOwn_up K h2 h5⟩

noncomputable abbrev CF (env : Env) (N n0 : Nat) : Addr → Prop := fun a => CX env N a ∨ n0 ≤ a

theorem Fk.noFld {hd : Bool} (F : Fk U hd A env ρ c) {a : Addr} (h : XOf env a) {o : Obj} {vs : Array Value} (ho : c.h.get? a = some o) (hd : o.data = .fields vs) : False := by
  rcases h with rfl | ⟨x, hx⟩
  · obtain ⟨m, ⟨o', es, ep, ho', hd', _⟩, _⟩ := F.ns
    rw [ho] at ho'; cases ho'; rw [hd] at hd'; cases hd'
  · obtain ⟨_, v, o', ho', hd'⟩ := F.off x a hx
    rw [ho] at ho'; cases ho'; rw [hd] at hd'; cases hd'
inductive CompAt (U : Setup) (hd : Bool) (A : Around) (env : Env) (ρ : Locs) (N : Nat) (c₀ : Cf) (s₀ : Shared) (l : List PV) (St : Cf → Nat → Prop) (k : Nat) (D : Addr) (f : List PV → M Unit) (st' : Mine.St) (j : Nat) (s : Shared) : Prop
  | mk (i : Nat) (c : Cf) (e : j = l.length - i) (hi : i ≤ l.length) (hSt : St c i) (W : OnWay U hd A env (CF env N c₀.h.objs.size) c₀ s₀ ρ c s) (hk : c.μ k = some (D, D)) (hm : f (l.drop i) c.st = some (.ok (), st'))
theorem comp_loop (hCt : CtOk U C n) {I : Addr} {W : Addr → Prop} {l : List PV} {tgt : Expr → Prop} {ck fin : M Unit} {Chk : Mine.St → Prop} {St : Cf → Nat → Prop} {Mid : Cf → Nat → Value → Prop} (FD : Feeds U A I W l tgt ck fin Chk St Mid)
    {elt : Expr} {scope : Scope} {pos : Pos} {g : Comprehension} {k : Nat} {D : Addr} {N : Nat} (ha : g.is_async = 0) (ht : tgt g.target) (R : Room A n)
    (hlow : tgtLow env N g.target) {c₀ : Cf} {s₀ : Shared} (hW : ∀ a, W a → c₀.h.objs.size ≤ a)
    {st' : Mine.St} {RR : Result → Shared → Prop}
    (hok : ∀ c' s', c'.st = st' → OnWay U C.hd A env (CF env N c₀.h.objs.size) c₀ s₀ ρ c' s' → c'.μ k = some (D, D) → RR (.ok .next) s')
    (s : Shared) (c : Cf) (hSt : St c 0) (hk : c.μ k = some (D, D)) (Wy : OnWay U C.hd A env (CF env N c₀.h.objs.size) c₀ s₀ ρ c s)
    (hm : loopU ck fin (fun x => Mine.compTurn C n env.scope elt g ρ k x) l c.st = some (.ok (), st')) :
    codeAny (model U.prog U.w) A (.compLoop (.ListComp elt [g] scope pos) 0 (.ref I) (.ref D) env) RR s := by
  refine codeAny_loop rfl (CompAt U C.hd A env ρ N c₀ s₀ l St k D (loopU ck fin (fun x => Mine.compTurn C n env.scope elt g ρ k x)) st') ?_ l.length ⟨0, c, rfl, Nat.zero_le _, hSt, Wy, hk, hm⟩
  clear hSt Wy hm hk
  rintro j s ⟨i, c, rfl, hi, hSt, ⟨F, hs, hS, hD⟩, hk, hm⟩
  show wpAny _ A ((PySem.compTurn (.ListComp elt [g] scope pos) 0 (.ref I) (.ref D) env).onRaise (fun x => do noteFrame x env; theTreesLotGoes x)) _ _ s
  refine wpAny_noted ?_
  rw [compTurn_eq ha]
  refine wpAny_bind (wpAny_standAt (wpAny_bind ?_))
  obtain ⟨low, scr, hH⟩ := FD.low hSt
  have hWd : ∀ a, W a → ∃ o vs, c.h.get? a = some o ∧ o.data = .fields vs := fun a ha => (low a ha).2.2
  by_cases hlt : i < l.length
  · rw [List.drop_eq_getElem_cons hlt] at hm
    rcases bind_cases (show (ck.bind fun _ => (Mine.compTurn C n env.scope elt g ρ k l[i]).bind fun _ => loopU ck fin (fun x => Mine.compTurn C n env.scope elt g ρ k x) (l.drop (i + 1))) c.st = _ from hm) with ⟨_, q⟩ | ⟨u, st₁, hm1, hm2⟩
    · cases q
    obtain ⟨_, hst1, hchk⟩ := FD.chk hm1
    subst hst1
    refine FD.item hD.2 hSt hchk (List.getElem?_eq_getElem hlt) hs fun v h₁ tk₁ D₁ r₁ M₁ => ?_
    refine wpAny_bind (FD.go D₁.2 ht M₁ rfl fun h₂ D₂ S₂ => ?_)
    have scr₁ := FD.wk M₁
    have F₂ : Fk U C.hd A env ρ { c with h := h₂ } := (F.upD D₁.1 scr hWd hH).upD D₂.1 scr₁.1 scr₁.2 hH
    rcases bind_cases hm2 with ⟨_, q⟩ | ⟨u', st₂, hm3, hm4⟩
    · cases q
    refine wpAny_bind (hCt A env ρ { c with h := h₂ } elt g k D l[i] v 0 N R F₂ hlow hk (Rel.up D₂.1 scr₁.1 _ _ r₁) D₂.2 _ rfl _ _ hm3 _ _ (fun b a c₃ s₃ e w1 w2 w3 w4 F₃ => ?_) fun e c' s' q => nomatch q)
    cases e; subst w1
    refine wpAny_pure ⟨rfl, l.length - (i + 1), by omega, i + 1, c₃, rfl, hlt, FD.up w4.1 (F₂.scr.sub fun a q => CX.of q) (fun a q q' => ?_) S₂, ⟨F₃, w2, hS.trans ((Same.mk s _ _).trans w3), hD.1.trans (((D₁.1.trans D₂.1).weak fun a q => .inr (hW a q)).trans (w4.1.weak fun a q => .inl q)), w4.2⟩, w4.1.ext _ _ hk, hm4⟩
    obtain ⟨o, vs, ho, hd⟩ := ((FD.low S₂).1 a q).2.2
    exact F₂.noFld (CX.of q') ho hd
  · cases Nat.le_antisymm hi (Nat.not_lt.mp hlt)
    rw [List.drop_length] at hm
    exact FD.done hD.2 F.hand.2 hSt hs hm fun h₁ tk₁ _ D₁ => wpAny_pure (hok ⟨c.μ, st', h₁⟩ _ rfl ⟨F.upD D₁.1 scr hWd hH, rfl, hS.trans (Same.mk s _ _), hD.1.trans (D₁.1.weak fun a q => .inr (hW a q)), D₁.2⟩ hk)
end
end Mine
end

section
namespace Mine
open PySem PyProof PyProof.Rows

section
variable {U : Setup} {C : Cfg} {A : Around} {X : Addr → Prop} {c c' : Cf} {L : Addr} {env : Env} {ρ : Locs} {n : Nat}

inductive NoExc {α : Type} (m : M α) (st : Mine.St) (r : R α) (st' : Mine.St) : Prop
  | mk (a : α) (e : r = .ok a) (h : m st = some (.ok a, st'))
theorem noExc_ok {α : Type} {m : M α} {st st' : Mine.St} {r : R α} (h : noExc m st = some (r, st')) : NoExc m st r st' := by
  unfold noExc at h
  cases hx : m st with
  | none => rw [hx] at h; cases h
  | some q =>
    obtain ⟨q, st''⟩ := q
    rw [hx] at h
    cases q with
    | ok a => cases h; exact ⟨a, rfl, hx⟩
    | exc => cases h

theorem compTurn_M {sc : Scope} {elt : Expr} {g : Comprehension} {k : Nat} {x : PV} : Mine.compTurn C (n + 1) sc elt g ρ k x = (M.of (bindT C.hd ρ g.target x)).bind fun ρ => (allT C n sc ρ .And g.ifs).bind fun b => match b with
    | false => M.ret ()
    | true => (evalE C n sc ρ elt).bind fun v => appO k v := by kernel_rfl
theorem ct_ok (hT : ∀ m, m < n → TrOk U C m) (hE : EvOk U C n) : CtOk U C (n + 1) := by
  intro A cenv ρ c elt g k D x v L N R F hlow hk hv
  refine OkM.at compTurn_M (OkM.bind (bind_ok F hlow hv) fun c₁ ρ₁ _ L₁ G₁ q => ?_)
  obtain ⟨F₁, less⟩ := q
  refine OkM.bindN (tests_ok hT R.down F₁) fun c₂ b ok L₂ G₂ hb => ?_
  subst hb
  have F₂ := F₁.upN L₂
  cases ok with
  | false => exact OkM.pure (less _ F₂)
  | true => exact OkM.bindN (hE _ _ _ _ _ _ R.down F₂) fun c₃ p w L₃ G₃ hw => ((append_ok (L₃.ext _ _ (L₂.ext _ _ (L₁.ext _ _ hk))) hw).mono fun c' b a K G _ => less _ ((F₂.upN L₃).upN K)).weak fun _ q => q.elim

theorem Own.add {o : MO} {h : Heap} {x : Addr} {a : Addr} (q : Own (c.add o h (x, x)).μ (c.add o h (x, x)).st a) : Own c.μ c.st a ∨ a = x := by
  obtain ⟨j, y, q1, q2, q3⟩ := q
  have q1 : (if j = c.st.next then some o else c.st.objs j).isSome = true := q1
  have q2 : (if j = c.st.next then some (x, x) else c.μ j) = some y := q2
  by_cases hj : j = c.st.next
  · rw [if_pos hj] at q2; cases q2
    rcases q3 with rfl | rfl <;> exact .inr rfl
  · rw [if_neg hj] at q1 q2
    exact .inl ⟨j, y, q1, q2, q3⟩
/-- zip makes its object -/
theorem zip_make {u v : Value} {xs ys : List PV} (ha : RelC c (.lst xs) u) (hb : RelC c (.lst ys) v) {t : Expr} (ht : ∃ es j p, t = Expr.Tuple es j p) :
    OkM U A NoX c (call (.type "zip") [u, v]) ((newO .pair).bind fun k => M.ret (.zip k xs ys)) (fun c' s v => RelS U t c.h.objs.size c' s v) L := by
  obtain ⟨l1, vs, rfl, h1, n1, r1⟩ := ha.lst'
  obtain ⟨l2, ws, rfl, h2, n2, r2⟩ := hb.lst'
  refine OkM.seen (b := .zip c.st.next xs ys) (st₁ := (c.add .pair c.h (0, 0)).st) rfl fun G s hs Q E hQ => ?_
  refine call_zip_2 (hs ▸ h1) (hs ▸ h2) fun h' z1 z2 z3 z4 z5 z6 hk => ?_
  rw [hs] at z1 z2 z3 z4 z5 z6 hk ⊢
  have lt1 : l1 < c.h.objs.size := by obtain ⟨o, ho, _⟩ := h1; exact Heap.lt_size ho
  have lt2 : l2 < c.h.objs.size := by obtain ⟨o, ho, _⟩ := h2; exact Heap.lt_size ho
  have fresh : ∀ a, Own c.μ c.st a → a < c.h.objs.size := fun a q => (G.fresh a q).2
  have nb : ∀ a, c.h.objs.size ≤ a → U.B.get? a = none := fun a ha => (newI_none G ha).2
  have hsz : c.h.objs.size ≤ h'.objs.size := by rw [z6]; exact Nat.le_add_right _ _
  have L1 := Cf.add_le G (o := .pair) (x := (c.h.objs.size + 3, c.h.objs.size + 3)) hk hsz (Nat.le_add_right _ _) (Nat.le_add_right _ _)
  have G1 : Good U (c.add .pair h' (c.h.objs.size + 3, c.h.objs.size + 3)) := Cf.add_good G hk hsz (Nat.le_add_right _ _) (Nat.le_add_right _ _) (by rw [z6]; exact Nat.add_lt_add_left (by decide) _) (by rw [z6]; exact Nat.add_lt_add_left (by decide) _) ⟨_, _, z3⟩ (.inl rfl)
  have hne : ∀ i j, i ≠ j → c.h.objs.size + i ≠ c.h.objs.size + j := fun i j h q => h (Nat.add_left_cancel q)
  have e1 : ∀ i, l1 ≠ c.h.objs.size + i := fun i => Nat.ne_of_lt (Nat.lt_add_right _ lt1)
  have e2 : ∀ i, l2 ≠ c.h.objs.size + i := fun i => Nat.ne_of_lt (Nat.lt_add_right _ lt2)
  have no : ∀ i, i ≠ 3 → ¬ Own (c.add .pair h' (c.h.objs.size + 3, c.h.objs.size + 3)).μ (c.add .pair h' (c.h.objs.size + 3, c.h.objs.size + 3)).st (c.h.objs.size + i) := fun i hi q => by
    rcases q.add with q | q
    · exact absurd (fresh _ q) (Nat.not_lt.mpr (Nat.le_add_right _ _))
    · exact hne _ _ hi q
  refine hQ _ (c.add .pair h' (c.h.objs.size + 3, c.h.objs.size + 3)) _ rfl rfl (Same.mk s _ _) ⟨L1, G1⟩ ⟨ht, ⟨c.h.objs.size + 4, c.h.objs.size + 2, c.h.objs.size + 3, c.h.objs.size, c.h.objs.size + 1, l1, l2, c.st.next, vs, ws, xs, ys⟩, rfl, rfl, rfl, rfl, ?_, ?_⟩
  · refine ⟨z1, z2, if_pos rfl, z4, z5, ?_, ?_, ⟨?_, ?_, ?_, ?_, ?_, ?_, ?_, ?_, ?_, ?_, ?_, ?_, ?_, ?_, ?_, ?_, ?_, ?_⟩, ?_, ?_, r1.upN L1, r2.upN L1⟩
    · obtain ⟨o, ho, q⟩ := h1; exact ⟨o, hk _ _ ho, q⟩
    · obtain ⟨o, ho, q⟩ := h2; exact ⟨o, hk _ _ ho, q⟩
    all_goals first | exact hne _ _ (by decide) | exact hne 0 _ (by decide) | exact hne _ 0 (by decide) | exact e1 _ | exact e1 0 | exact e2 _ | exact e2 0 | skip
    · rintro a (rfl | rfl | rfl | rfl | rfl | rfl)
      · exact no 4 (by decide)
      · exact no 2 (by decide)
      · exact no 0 (by decide)
      · exact no 1 (by decide)
      · exact fun q => q.add.elim n1 (e1 3)
      · exact fun q => q.add.elim n2 (e2 3)
    · rintro a (rfl | rfl | rfl)
      · exact nb _ (Nat.le_add_right _ 4)
      · exact nb _ (Nat.le_refl _)
      · exact nb _ (Nat.le_add_right _ 1)
  · rintro a (rfl | rfl | rfl)
    · exact Nat.le_add_right _ 4
    · exact Nat.le_refl _
    · exact Nat.le_add_right _ 1

theorem srcE_eq {sc : Scope} {t e : Expr} : srcE C (n + 1) sc ρ t e = if zipC e then (match callV1 e with
      | some (f, args, kw) => if (pairN t).isNone ∨ C.hd = true ∨ plainArgs args = false ∨ kw.isEmpty = false then M.fail else (evalE C n sc ρ f).bind fun zv => if isZip zv then (evalEs C n sc ρ args).bind zipV else M.fail
      | Option.none => M.fail)
    else (evalE C n sc ρ e).bind fun v => M.ret (.val v) := by kernel_rfl
theorem src_not_set {n : Nat} {sc : Scope} {t e : Expr} {st : Mine.St} {r : R Src} {st' : Mine.St} (h : srcE C n sc ρ t e st = some (r, st')) : ∀ es k p, e ≠ Expr.Set es k p := by
  rintro es k p rfl
  cases n with
  | zero => exact nomatch (show (M.fail : M Src) st = _ from h)
  | succ n =>
    rw [srcE_eq] at h
    have h : ((evalE C n sc ρ (.Set es k p)).bind fun v => M.ret (Src.val v)) st = some (r, st') := h
    rw [evalE_Set] at h
    exact nomatch h

theorem sr_plain (hE : EvOk U C n) (R : Room A n) (F : Fk U C.hd A env ρ c) {t e : Expr} {N : Nat} : OkM U A NoX c (eval e env) ((evalE C n env.scope ρ e).bind fun v => M.ret (.val v)) (fun c' s v => RelS U t N c' s v) L := by
  have := OkM.bind (k := fun v => (Pure.pure v : Sem Value)) (f := fun v => M.ret (Src.val v)) (P' := fun c' s v => RelS U t N c' s v) (hE A env ρ c e L R F) fun c' p v _ _ hv => OkM.pure hv
  rwa [bind_pure] at this

theorem callV1_of {e : Expr} {q : Expr × List Expr × List Keyword} (h : callV1 e = some q) : ∃ p, e = .Call q.1 q.2.1 q.2.2 p := by
  cases e <;> first | (cases h; done) | (cases h; exact ⟨_, rfl⟩)
theorem isZip_of {p : PV} (h : isZip p = true) : p = .con (.type "zip") := by
  unfold isZip at h
  cases ht : tyName p with
  | none => rw [ht] at h; cases h
  | some T =>
    rw [ht] at h
    cases of_decide_eq_true h
    exact tyName_of ht
theorem zipC_name {f : Expr} {args : List Expr} {kw : List Keyword} {p : Pos} (h : zipC (.Call f args kw p) = true) : ∃ z pz, f = .Name z pz := by
  cases hn : nameV f with
  | none =>
    have h : (match nameV f with
      | some z => decide (z = S "zip")
      | Option.none => false) = true := h
    rw [hn] at h; cases h
  | some z => obtain ⟨p, rfl⟩ := nameV_of hn; exact ⟨z, p, rfl⟩
theorem sr_ok (hE : EvOk U C n) (hS : EsOk U C n) : SrOk U C (n + 1) := by
  intro A env ρ c t e L R F
  refine OkM.at srcE_eq (OkM.ite (fun hz => ?_) fun _ => sr_plain hE R.down F)
  cases hcv : callV1 e with
  | none => exact OkM.fail
  | some q =>
    obtain ⟨f, args, kw⟩ := q
    obtain ⟨p', rfl⟩ := callV1_of hcv
    refine OkM.iteF fun hc => ?_
    have hpl : plainArgs args = true := ne_false fun h => hc (.inr (.inr (.inl h)))
    cases nil_of (ne_false fun h => hc (.inr (.inr (.inr h))))
    have ht : ∃ es j p, t = Expr.Tuple es j p := by
      cases hpt : pairN t with
      | none => exact absurd (.inl (by rw [hpt]; rfl)) hc
      | some q =>
        obtain ⟨px, py, k, p, rfl⟩ := pairN_of hpt
        exact ⟨_, _, _, rfl⟩
    obtain ⟨z, pz, rfl⟩ := zipC_name hz
    refine OkM.at2 (show eval (.Call (.Name z pz) args [] p') env = (do callWith p' (← eval (.Name z pz) env) [] (backTo p' (starEach args env)) (backToKw p' (keywordEach [] env))) from rfl) rfl (OkM.bind (hE _ _ _ _ _ _ R.down F) fun c₁ pf fv L₁ G₁ hfv => OkM.iteT fun hzip => ?_)
    cases isZip_of hzip
    cases hfv.con'
    show OkM U A NoX c₁ (callWith p' (.type "zip") [] (backTo p' (starEach args env)) []) _ _ L
    refine (ok_callWith (P := fun c' s v => RelS U t c₁.h.objs.size c' s v) hS R.down (F.upN L₁) hpl True (fun h _ _ => keep_val (fun a e => by cases e) h) (fun _ _ _ _ => trivial) fun c₂ ps vs L₂ G₂ F₂ hvs => ?_).mono fun c' s v K _ q => q.low L₁.size
    refine arg2_ok (t := fun vs => call (.type "zip") vs) hvs fun p q v w hp hq => OkM.ofB fun xs h1 => OkM.ofB fun ys h2 => ?_
    cases lstV_of h1
    cases lstV_of h2
    exact (zip_make hp hq ht).mono fun c' s v K _ q => q.low L₂.size
end
end Mine
end

section
namespace Mine
open PySem PyProof PyProof.Rows

section
variable {U : Setup} {C : Cfg} {A : Around} {X : Addr → Prop} {c c' : Cf} {L : Addr} {env : Env} {ρ : Locs} {n : Nat}

/-- the cells that a comprehension sees -/
noncomputable def cloL (cells : List (Str × Addr)) (names : List (Str × NameKind)) : List (Str × Addr) :=
  ((names.filter fun p => p.2 == .free).map fun p => (p.1, (cells.lookup p.1).getD 0)).reverse

theorem closure_eq {scope : Scope} (h : ∀ p ∈ scope.names, p.2 = .free → (env.cells.lookup p.1).isSome = true) : closureFor scope env = pure (cloL env.cells scope.names) := by
  have key : ∀ (names : List (Str × NameKind)) (acc : List (Str × Addr)), (∀ p ∈ names, p.2 = .free → (env.cells.lookup p.1).isSome = true) →
      (forIn names acc fun (x : Str × NameKind) (cs : List (Str × Addr)) => (if x.2 == NameKind.free then do let a ← cellOf env x.1; pure (ForInStep.yield ((x.1, a) :: cs)) else pure (ForInStep.yield cs) : Sem _)) =
        pure (((names.filter fun p => p.2 == .free).map fun p => (p.1, (env.cells.lookup p.1).getD 0)).reverse ++ acc) := by
    intro names
    induction names with
    | nil => intro acc _; rfl
    | cons p r ih =>
      intro acc h
      rw [List.forIn_cons]
      by_cases hk : p.2 = .free
      · have hs := h p List.mem_cons_self hk
        obtain ⟨a, ha⟩ := Option.isSome_iff_exists.mp hs
        have hb : (p.2 == NameKind.free) = true := by rw [hk]; rfl
        have hc : cellOf env p.1 = pure a := by unfold cellOf; rw [ha]
        simp only [hb, if_true, hc, pure_bind]
        rw [ih _ fun q hq => h q (List.mem_cons_of_mem _ hq)]
        rw [List.filter_cons, if_pos hb]
        simp [ha]
      · have hb : (p.2 == NameKind.free) = false := by
          cases hp : p.2 <;> first | rfl | exact absurd hp hk
        simp only [hb, Bool.false_eq_true, if_false, pure_bind]
        rw [ih _ fun q hq => h q (List.mem_cons_of_mem _ hq)]
        rw [List.filter_cons, if_neg (by rw [hb]; decide)]
  have := key scope.names [] h
  unfold closureFor cloL
  simp only [List.append_nil] at this
  rw [← this]
  simp only [bind_pure]
  try rfl

theorem cellsFrom_app : ∀ (names : List (Str × NameKind)) (n : Nat) (acc : List (Str × Addr)), cellsFrom n names acc = cellsFrom n names [] ++ acc
  | [], n, acc => rfl
  | (x, k) :: r, n, acc => by
    unfold cellsFrom
    split
    · rw [cellsFrom_app r (n + 1) ((x, n) :: acc), cellsFrom_app r (n + 1) [(x, n)], List.append_assoc]; rfl
    · exact cellsFrom_app r n acc

theorem cellsFrom_mem : ∀ (names : List (Str × NameKind)) (n : Nat) (acc : List (Str × Addr)) {x : Str} {a : Addr}, (x, a) ∈ cellsFrom n names acc → (x, a) ∈ acc ∨ (x, NameKind.cell) ∈ names
  | [], n, acc, x, a, h => .inl h
  | (y, k) :: r, n, acc, x, a, h => by
    unfold cellsFrom at h
    split at h
    · rename_i hk
      rcases cellsFrom_mem r _ _ h with h | h
      · rcases List.mem_cons.mp h with h | h
        · cases h
          right
          have : k = .cell := by cases k <;> first | rfl | cases hk
          rw [this]; exact List.mem_cons_self
        · exact .inl h
      · exact .inr (List.mem_cons_of_mem _ h)
    · rcases cellsFrom_mem r _ _ h with h | h
      · exact .inl h
      · exact .inr (List.mem_cons_of_mem _ h)

theorem lookup_none_of {α : Type} : ∀ {l : List (Str × α)} {x : Str}, (∀ a, (x, a) ∉ l) → l.lookup x = none
  | [], _, _ => rfl
  | (y, b) :: r, x, h => by
    rw [List.lookup_cons]
    have hxy : (x == y) = false := beq_eq_false_iff_ne.mpr fun e => h b (by rw [e]; exact List.mem_cons_self)
    rw [hxy]
    exact lookup_none_of fun a ha => h a (List.mem_cons_of_mem _ ha)

theorem lookup_app {α : Type} : ∀ {l m : List (Str × α)} {x : Str}, (l ++ m).lookup x = (l.lookup x).or (m.lookup x)
  | [], m, x => rfl
  | (y, b) :: r, m, x => by
    rw [List.cons_append, List.lookup_cons, List.lookup_cons]
    cases x == y
    · exact lookup_app
    · rfl

theorem nodup_lookup : ∀ {names : List (Str × NameKind)} {x : Str} {k : NameKind}, (names.map (·.1)).Nodup → (x, k) ∈ names → names.lookup x = some k
  | [], _, _, _, h => by cases h
  | (y, j) :: r, x, k, hn, h => by
    rw [List.map_cons, List.nodup_cons] at hn
    rw [List.lookup_cons]
    rcases List.mem_cons.mp h with h | h
    · cases h; simp
    · have : x ≠ y := by
        rintro rfl
        exact hn.1 (List.mem_map.mpr ⟨(x, k), ‹(x, k) ∈ r›, rfl⟩)
      rw [beq_eq_false_iff_ne.mpr this]
      exact nodup_lookup hn.2 h

theorem cloL_mem {cells : List (Str × Addr)} {names : List (Str × NameKind)} {x : Str} {a : Addr} (h : (x, a) ∈ cloL cells names) : (x, NameKind.free) ∈ names ∧ a = (cells.lookup x).getD 0 := by
  unfold cloL at h
  rw [List.mem_reverse, List.mem_map] at h
  obtain ⟨⟨y, k⟩, hm, e⟩ := h
  rw [List.mem_filter] at hm
  obtain ⟨h1, h2⟩ := hm
  cases e
  have : k = .free := by cases k <;> first | rfl | cases h2
  exact ⟨this ▸ h1, rfl⟩

theorem cloL_look {cells : List (Str × Addr)} {names : List (Str × NameKind)} {x : Str} {a : Addr} (hx : (x, NameKind.free) ∈ names) (ha : cells.lookup x = some a) : (cloL cells names).lookup x = some a := by
  have hm : (x, a) ∈ cloL cells names := by
    unfold cloL
    rw [List.mem_reverse, List.mem_map]
    exact ⟨(x, .free), List.mem_filter.mpr ⟨hx, rfl⟩, by simp [ha]⟩
  cases hl : (cloL cells names).lookup x with
  | none =>
    exfalso
    have : ∀ {l : List (Str × Addr)}, (x, a) ∈ l → l.lookup x ≠ none := by
      intro l
      induction l with
      | nil => intro h; cases h
      | cons p r ih =>
        intro h
        rw [show p = (p.1, p.2) from rfl, List.lookup_cons]
        by_cases e : x = p.1
        · rw [beq_iff_eq.mpr e]; simp
        · rw [beq_eq_false_iff_ne.mpr e]
          rcases List.mem_cons.mp h with h | h
          · exact absurd (by rw [← h]) e
          · exact ih h
    exact this hm hl
  | some b =>
    have := cloL_mem (mem_of_lookup hl)
    rw [this.2, ha]; rfl

theorem cloL_apart {cells : List (Str × Addr)} {names : List (Str × NameKind)} (hn : (names.map (·.1)).Nodup) (hc : cells.Pairwise fun x y => x.2 ≠ y.2) (hs : ∀ p ∈ names, p.2 = NameKind.free → (cells.lookup p.1).isSome = true) :
    (cloL cells names).Pairwise fun x y => x.2 ≠ y.2 := by
  unfold cloL
  rw [List.pairwise_reverse, List.pairwise_map]
  have h1 : names.Pairwise fun x y => x.1 ≠ y.1 := by
    rw [List.Nodup, List.pairwise_map] at hn
    exact hn
  refine ((h1.filter _).imp_of_mem ?_)
  intro x y hx hy hne e
  rw [List.mem_filter] at hx hy
  have kx : x.2 = .free := by cases h : x.2 <;> first | rfl | (have := hx.2; rw [h] at this; cases this)
  have ky : y.2 = .free := by cases h : y.2 <;> first | rfl | (have := hy.2; rw [h] at this; cases this)
  obtain ⟨a, ha⟩ := Option.isSome_iff_exists.mp (hs x hx.1 kx)
  obtain ⟨b, hb⟩ := Option.isSome_iff_exists.mp (hs y hy.1 ky)
  simp only [ha, hb, Option.getD_some] at e
  exact hne (name_of_addr hc (mem_of_lookup ha) (e ▸ mem_of_lookup hb))

theorem relabel_eq {scope : Scope} (hk : env.scope.kind = .function) : relabel scope env = compScope env.scope scope := by
  unfold relabel compScope
  congr 1
  refine List.map_congr_left fun p _ => ?_
  obtain ⟨x, k⟩ := p
  simp only [hk, Env.kindOf]
  simp

theorem comp_look {sc sc' : Scope} (hf : ∀ p ∈ sc'.names, p.2 = NameKind.free → sc.names.lookup p.1 = some .cell) {x : Str} : (compScope sc sc').names.lookup x = (sc'.names.lookup x).map fun k => if k = .free then .cell else k := by
  unfold compScope
  simp only
  revert hf
  induction sc'.names with
  | nil => intro _; rfl
  | cons p r ih =>
    intro hf
    obtain ⟨y, k⟩ := p
    rw [List.map_cons, List.lookup_cons]
    have ih' := ih fun q hq => hf q (List.mem_cons_of_mem _ hq)
    by_cases hk : k = .free
    · subst hk
      have := hf (y, .free) List.mem_cons_self rfl
      simp only at this
      simp only [this, beq_self_eq_true, Bool.and_self, if_true]
      rw [List.lookup_cons]
      cases x == y
      · exact ih'
      · rfl
    · have hb : (k == NameKind.free) = false := by cases k <;> first | rfl | exact absurd rfl hk
      simp only [hb, Bool.false_and, Bool.false_eq_true, if_false]
      rw [List.lookup_cons]
      cases x == y
      · exact ih'
      · simp [hk]

theorem filter_look {f : Str → Bool} {x : Str} {pv : PV} : ∀ {l : Locs}, (l.filter fun p => f p.1).lookup x = some pv → l.lookup x = some pv ∧ f x = true
  | [], h => by simp at h
  | (y, q) :: r, h => by
    rw [List.filter_cons] at h
    by_cases hxy : x = y
    · subst hxy
      cases hf : f x with
      | true =>
        simp only [hf, if_true, List.lookup_cons, beq_self_eq_true] at h ⊢
        exact ⟨h, trivial⟩
      | false =>
        exfalso
        simp only [hf, Bool.false_eq_true, if_false] at h
        have hm := mem_of_lookup h
        rw [List.mem_filter] at hm
        have := hm.2
        simp only [hf] at this
        cases this
    · have hne : (x == y) = false := beq_eq_false_iff_ne.mpr hxy
      rw [List.lookup_cons, hne]
      cases hf : f y with
      | true =>
        simp only [hf, if_true, List.lookup_cons, hne] at h
        exact filter_look h
      | false =>
        simp only [hf, Bool.false_eq_true, if_false] at h
        exact filter_look h

theorem strip_look {sc' : Scope} {x : Str} {pv : PV} (h : (stripL sc' ρ).lookup x = some pv) : ρ.lookup x = some pv ∧ sc'.names.lookup x = some .free := by
  obtain ⟨h1, h2⟩ := filter_look (f := fun y => match sc'.names.lookup y with | some .free => true | _ => false) h
  refine ⟨h1, ?_⟩
  cases hl : sc'.names.lookup x with
  | none => rw [hl] at h2; cases h2
  | some k => rw [hl] at h2; cases k <;> first | rfl | cases h2
end
end Mine
end

section
namespace Mine
open PySem PyProof PyProof.Rows

section
variable {U : Setup} {C : Cfg} {A : Around} {X : Addr → Prop} {c c' : Cf} {L : Addr} {env : Env} {ρ : Locs} {n : Nat}

theorem pushCells_size : ∀ (names : List (Str × NameKind)) (h : Heap), h.objs.size ≤ (pushCells h names).objs.size
  | [], h => Nat.le_refl _
  | (_, k) :: r, h => by
    unfold pushCells
    split
    · exact Nat.le_trans (by rw [Heap.size_push]; exact Nat.le_succ _) (pushCells_size r _)
    · exact pushCells_size r h

theorem wp_newEnv {M : Model} {scope : Scope} {globals : Addr} {cl : List (Str × Addr)} {qual : Str} {Q : Env → Shared → Prop} {E : Value → Shared → Prop} {s : Shared}
    (h : Q (newEnv scope s.heap.objs.size globals (cellsFrom (s.heap.objs.size + 1) scope.names cl) qual none .none (some env) builtinsNs) { s with heap := pushCells (s.heap.push { cls := .type "dict", data := .dict #[] }) scope.names }) :
    wpAny M A (newFunctionEnv scope globals cl [] qual none .none (some env)) Q E s := by
  simp only [newFunctionEnv, Option.isSome_some, if_true]
  refine wpAny_bind (wpAny_alloc ?_)
  refine wpAny_bind (wpAny_layCells _ (fun name kind cells => by cases hkc : kind == NameKind.cell <;> simp [hkc]) _ _ _ _ ?_)
  rw [show ({ s with heap := s.heap.push { cls := .type "dict", data := .dict #[] } } : Shared).heap.objs.size = s.heap.objs.size + 1 from Heap.size_push ..]
  rw [List.forIn_nil]
  exact wpAny_bind (wpAny_pure (wpAny_pure h))

structure CompOk (sc sc' : Scope) (g : Comprehension) : Prop where
  kind : sc'.kind = .function
  nodup : (sc'.names.map (·.1)).Nodup
  free : ∀ p ∈ sc'.names, p.2 = NameKind.free → sc.names.lookup p.1 = some .cell
  sync : g.is_async = 0
  tgt : tgtOk sc' g.target = true
theorem compOk_of {sc sc' : Scope} {g : Comprehension} (h : compOk sc sc' g = true) : CompOk sc sc' g := by
  obtain ⟨h, h5⟩ := Bool.and_eq_true_iff.mp h
  obtain ⟨h, h4⟩ := Bool.and_eq_true_iff.mp h
  obtain ⟨h, h3⟩ := Bool.and_eq_true_iff.mp h
  obtain ⟨h1, h2⟩ := Bool.and_eq_true_iff.mp h
  refine ⟨eq_of_beq h1, of_decide_eq_true h2, fun p hp hf => ?_, eq_of_beq h4, h5⟩
  have := List.all_eq_true.mp h3 p hp
  rw [hf] at this
  exact eq_of_beq this

noncomputable abbrev cenvOf (sc' : Scope) (env : Env) (Cd : Addr) : Env := { newEnv sc' Cd env.globals (cellsFrom (Cd + 1) sc'.names (cloL env.cells sc'.names)) env.qual none .none (some env) builtinsNs with scope := relabel sc' env }

inductive CellV (c : Cf) (env : Env) (x : Str) (a : Addr) : Prop
  | mk (v : Option Value) (h : c.h.IsCell a v) (e : env.cells.lookup x = some a)
theorem clo_at {hd : Bool} {g : Comprehension} {sc' : Scope} (K : CompOk env.scope sc' g) (F : Fk U hd A env ρ c) {x : Str} {a : Addr} (h : (x, a) ∈ cloL env.cells sc'.names) : CellV c env x a := by
  obtain ⟨h1, h2⟩ := cloL_mem h
  obtain ⟨b, v, h3, h4, _⟩ := F.cell x (K.free _ h1 rfl)
  rw [h3] at h2
  cases h2
  exact ⟨v, h4, h3⟩
inductive CellIn (sc' : Scope) (env : Env) (N : Nat) (H : Heap) (c : Cf) (x : Str) (a : Addr) : Prop
  | new (h : (x, a) ∈ cellsFrom (N + 1) sc'.names []) (e : H.IsCell a none) (l : N < a)
  | old (v : Option Value) (h : c.h.IsCell a v) (e : env.cells.lookup x = some a)
inductive EnvOk (U : Setup) (hd : Bool) (A : Around) (env : Env) (ρ : Locs) (c : Cf) (g : Comprehension) (sc' : Scope) (H : Heap) : Prop
  | mk (L : Le NoX c { c with h := H }) (G : Good U { c with h := H }) (F : Fk U hd A (cenvOf sc' env c.h.objs.size) (stripL sc' ρ) { c with h := H }) (T : tgtLow (cenvOf sc' env c.h.objs.size) c.h.objs.size g.target)
theorem comp_env {hd : Bool} {g : Comprehension} {sc' : Scope} (K : CompOk env.scope sc' g) (G : Good U c) (F : Fk U hd A env ρ c) {H : Heap} (hH : H = pushCells (c.h.push { cls := .type "dict", data := .dict #[] }) sc'.names) : EnvOk U hd A env ρ c g sc' H := by
  have hk : ∀ b o, c.h.get? b = some o → H.get? b = some o := fun b o e => by rw [hH]; exact pushCells_keeps _ _ b o (Heap.get?_push_of_some _ e)
  have hz : c.h.objs.size ≤ H.objs.size := by rw [hH]; exact Nat.le_trans (by rw [Heap.size_push]; exact Nat.le_succ _) (pushCells_size _ _)
  have L1 : Le NoX c { c with h := H } := Le.grow hk hz
  have hnew : CellsOk H (c.h.objs.size + 1) (cellsFrom (c.h.objs.size + 1) sc'.names []) := by
    have := cellsFrom_ok sc'.names (c.h.push { cls := .type "dict", data := .dict #[] }) (c.h.objs.size + 1) [] ⟨fun _ _ h => (by cases h), List.Pairwise.nil⟩ (by rw [Heap.size_push]; exact Nat.le_refl _)
    rw [Heap.size_push] at this
    rw [hH]; exact this
  have hns : H.Ns c.h.objs.size (fun _ => none) := by
    have : (c.h.push { cls := .type "dict", data := .dict #[] }).Ns c.h.objs.size (fun _ => none) := Heap.Ns.new c.h (.type "dict")
    rw [hH]; exact this.keeps (pushCells_keeps _ _)
  clear hH
  have hcs : (cenvOf sc' env c.h.objs.size).cells = cellsFrom (c.h.objs.size + 1) sc'.names [] ++ cloL env.cells sc'.names := cellsFrom_app _ _ _
  have rl : (cenvOf sc' env c.h.objs.size).scope = compScope env.scope sc' := relabel_eq F.kind
  have look : ∀ x, (cenvOf sc' env c.h.objs.size).kindOf x = (sc'.names.lookup x).map fun k => if k = .free then .cell else k := fun x => by
    unfold Env.kindOf
    rw [rl]; exact comp_look K.free
  have nn := fun a (ha : c.h.objs.size ≤ a) => newI_none G ha
  have cslook : ∀ x, (cenvOf sc' env c.h.objs.size).cells.lookup x = ((cellsFrom (c.h.objs.size + 1) sc'.names []).lookup x).or ((cloL env.cells sc'.names).lookup x) := fun x => by
    rw [hcs]; exact lookup_app
  have inn : ∀ x a, (cenvOf sc' env c.h.objs.size).cells.lookup x = some a → CellIn sc' env c.h.objs.size H c x a := fun x a hx => by
    have hx := mem_of_lookup hx
    rw [hcs] at hx
    rcases List.mem_append.mp hx with h | h
    · obtain ⟨h1, h2⟩ := hnew.empty x a h
      exact .new h h1 h2
    · obtain ⟨v, h1, h2⟩ := clo_at K F h
      exact .old v h1 h2
  have one : ∀ x, isVar sc' x = true → TgtLow (cenvOf sc' env c.h.objs.size) c.h.objs.size x := fun x hx => by
    have hv := isVar_of hx
    refine ⟨?_, fun a ha => ?_⟩
    · unfold isVar
      rw [rl, comp_look K.free]
      rcases hv with h | h <;> rw [h] <;> rfl
    · rcases ha with ⟨_, rfl⟩ | ⟨h1, h2⟩
      · exact Nat.le_refl _
      · have hc : sc'.names.lookup x = some .cell := by
          rw [look] at h1
          rcases hv with h | h
          · rw [h] at h1; cases h1
          · exact h
        obtain ⟨b, hb⟩ := Option.isSome_iff_exists.mp (cellsFrom_some (n := c.h.objs.size + 1) (acc := []) (.inl (mem_of_lookup hc)))
        rw [cslook, hb, Option.some_or] at h2
        cases h2
        exact Nat.le_of_succ_le (hnew.empty x _ (mem_of_lookup hb)).2
  refine ⟨L1, G.grow hk hz, ⟨?_, F.globals, F.builtins, ⟨fun _ => none, hns, fun x pv hx hl => ?_⟩, fun x hx => ?_, ?_, fun x a hx => ?_, fun a ha => ?_, F.frames.up (fun _ q => q.elim) L1, F.hand.1, fun e he => ?_⟩, ?_⟩
  · rw [rl]; exact K.kind
  · rw [look, (strip_look hl).2] at hx
    cases hx
  · rw [look] at hx
    cases hl : sc'.names.lookup x with
    | none => rw [hl] at hx; cases hx
    | some k =>
      have hm := mem_of_lookup hl
      by_cases hkf : k = .free
      · subst hkf
        obtain ⟨a, v, h1, h2, h3⟩ := F.cell x (K.free _ hm rfl)
        refine ⟨a, v, ?_, h2.keeps hk, fun pv hpv => (h3 pv (strip_look hpv).1).up L1 (fun _ q => q.elim)⟩
        rw [cslook]
        have : (cellsFrom (c.h.objs.size + 1) sc'.names []).lookup x = none := lookup_none_of fun b hb => by
          rcases cellsFrom_mem _ _ _ hb with h | h
          · cases h
          · have := nodup_lookup K.nodup h
            rw [hl] at this; cases this
        rw [this, Option.none_or]
        exact cloL_look hm h1
      · rw [hl] at hx
        have hx : some (if k = .free then NameKind.cell else k) = some .cell := hx
        rw [if_neg hkf] at hx
        cases hx
        obtain ⟨a, ha⟩ := Option.isSome_iff_exists.mp (cellsFrom_some (n := c.h.objs.size + 1) (acc := []) (.inl hm))
        refine ⟨a, none, ?_, (hnew.empty x a (mem_of_lookup ha)).1, fun pv hpv => ?_⟩
        · rw [cslook, ha, Option.some_or]
        · have := (strip_look hpv).2
          rw [hl] at this; cases this
  · rw [hcs, List.pairwise_append]
    refine ⟨hnew.apart, cloL_apart K.nodup F.apart (fun p hp hf => by obtain ⟨a, v, h1, _⟩ := F.cell p.1 (K.free p hp hf); rw [h1]; rfl), fun p hp q hq e => ?_⟩
    obtain ⟨v, h1, _⟩ := clo_at K F (x := q.1) (a := q.2) hq
    have h2 := (hnew.empty p.1 p.2 hp).2
    rw [e] at h2
    exact absurd h1.lt (Nat.not_lt.mpr (Nat.le_of_succ_le h2))
  · cases inn x a hx with
    | new _ h1 h2 => exact ⟨Nat.ne_of_gt h2, none, h1⟩
    | old v h1 _ => exact ⟨Nat.ne_of_lt h1.lt, v, h1.keeps hk⟩
  · rcases ha with rfl | ⟨x, hx⟩
    · exact nn _ (Nat.le_refl _)
    · cases inn x a hx with
      | new _ _ h2 => exact nn _ (Nat.le_of_lt h2)
      | old v _ h2 => exact F.mine a (.inr ⟨x, h2⟩)
  · obtain ⟨a, o, ws, h1, h2, h3⟩ := F.hand.2 e he
    exact ⟨a, o, ws, h1, hk _ _ h2, h3, ‹_›, ‹_›⟩
  · have := K.tgt
    generalize g.target = t at this ⊢
    unfold tgtOk at this
    cases hn : nameV t with
    | some x =>
      rw [hn] at this
      obtain ⟨p, rfl⟩ := nameV_of hn
      exact .name (one x this)
    | none =>
      rw [hn] at this
      cases hp : pairN t with
      | none => rw [hp] at this; cases this
      | some q =>
        rw [hp] at this
        obtain ⟨px, py, k, p, rfl⟩ := pairN_of hp
        obtain ⟨t1, t2⟩ := Bool.and_eq_true_iff.mp this
        exact .pair (one _ t1) (one _ t2)
end
end Mine
end

section
namespace Mine
open PySem PyProof PyProof.Rows

section
variable {U : Setup} {C : Cfg} {A : Around} {X : Addr → Prop} {c c' : Cf} {L : Addr} {env : Env} {ρ : Locs} {n : Nat}

/-- a list leaves the store -/
theorem drop_ends (G : Good U c) {k : Nat} {l : List PV} {D : Addr} (hk : c.st.objs k = some (.list l)) (hx : c.μ k = some (D, D)) :
    Ends U NoX c ⟨c.μ, dropSt c.st k, c.h⟩ ∧ RelC ⟨c.μ, dropSt c.st k, c.h⟩ (.lst l) (.ref D) := by
  have L1 : Le NoX c ⟨c.μ, dropSt c.st k, c.h⟩ := ⟨fun _ _ e => e, fun a e => .inl (drop_own e), Nat.le_refl _, fun a o e _ _ => ⟨o.slots, e, fun _ => rfl⟩⟩
  have so : ∀ j, ((dropSt c.st k).objs j).isSome = true → (c.st.objs j).isSome = true := fun j h => by
    obtain ⟨o, ho⟩ := Option.isSome_iff_exists.mp h
    rw [(drop_obj ho).2]; rfl
  have G1 : Good U ⟨c.μ, dropSt c.st k, c.h⟩ := by
    refine ⟨G.stays, fun j o hj => ?_, fun j h => G.idsO j (so j h), G.idsM, fun j j' y y' a b => G.apart j j' y y' (so j a) (so j' b), fun a ha => G.fresh a (drop_own ha)⟩
    obtain ⟨_, hj'⟩ := drop_obj hj
    obtain ⟨y, hy, hO, hi⟩ := G.objs j o hj'
    exact ⟨y, hy, hO.up L1 (fun _ q => q.elim) rfl rfl, hi⟩
  refine ⟨⟨L1, G1⟩, ?_⟩
  obtain ⟨y, hy, hO, _⟩ := G.objs k _ hk
  rw [hx] at hy; cases hy
  obtain ⟨vs, h1, h2, _⟩ := hO
  simp only [RelC, Rel]
  refine ⟨D, vs, rfl, h1, ?_, h2.upN L1⟩
  rintro ⟨j, y, q1, q2, q3⟩
  obtain ⟨o, ho⟩ := Option.isSome_iff_exists.mp q1
  obtain ⟨hjk, ho'⟩ := drop_obj ho
  have := G.apart k j _ y (by rw [hk]; rfl) (by rw [ho']; rfl) hx q2 (Ne.symm hjk)
  rcases q3 with q3 | q3
  · exact this.1 q3
  · exact this.2.1 q3

inductive TakeOk (k : Nat) (st : Mine.St) (r : R PV) (st' : Mine.St) : Prop
  | mk (l : List PV) (h : st.objs k = some (.list l)) (e : r = .ok (.lst l)) (d : st' = dropSt st k)
theorem take_ok {k : Nat} {st st' : Mine.St} {r : R PV} (h : takeO k st = some (r, st')) : TakeOk k st r st' := by
  rcases bind_cases h with ⟨h, _⟩ | ⟨o, st₁, h1, h2⟩
  · unfold getO at h
    cases hk : st.objs k <;> (rw [hk] at h; exact nomatch h)
  unfold getO at h1
  cases hk : st.objs k with
  | none => rw [hk] at h1; exact nomatch h1
  | some o' =>
  rw [hk] at h1
  cases h1
  cases o with
  | list l => cases h2; exact ⟨l, hk, rfl, rfl⟩
  | _ => exact nomatch h2

/-- what is left at a comprehension's end -/
noncomputable def endK (b : Bool) (k : Nat) : M PV := match b with
  | true => M.ret (.loc k)
  | false => takeO k

inductive EndEnds (U : Setup) (c : Cf) (D : Addr) (r : R PV) (st' : Mine.St) : Prop
  | mk (p : PV) (e : r = .ok p) (h : Ends U NoX c ⟨c.μ, st', c.h⟩) (v : RelC ⟨c.μ, st', c.h⟩ p (.ref D))
theorem end_ends (G : Good U c) {b : Bool} {k : Nat} {D : Addr} {r : R PV} {st' : Mine.St} (hx : c.μ k = some (D, D)) (h : endK b k c.st = some (r, st')) : EndEnds U c D r st' := by
  cases b with
  | true => cases h; exact ⟨_, rfl, ⟨Le.refl _ _, G⟩, Rel.mkLoc hx⟩
  | false =>
    obtain ⟨l, hk, rfl, rfl⟩ := take_ok h
    have := drop_ends G hk hx
    exact ⟨_, rfl, this.1, this.2⟩

noncomputable abbrev compM (C : Cfg) (n : Nat) (sc : Scope) (ρ : Locs) (elt : Expr) (g : Comprehension) (sc' : Scope) (b : Bool) : M PV :=
  (srcE C n sc ρ g.target g.iter).bind fun src => (newO (.list [])).bind fun k => (onSrc C.hd src fun ck fin => loopU ck fin fun x => Mine.compTurn C n (compScope sc sc') elt g (stripL sc' ρ) k x).bind fun _ => endK b k

/-- where a comprehension ends -/
inductive CompEnd (U : Setup) (c : Cf) (s : Shared) (r : Mine.R PV) (st' : Mine.St) (D Cd : Addr) (s' : Shared) : Prop
  | mk (p : PV) (c' : Cf) (e : r = .ok p) (e1 : c'.st = st') (e2 : s'.heap = c'.h) (e3 : Same s s') (En : Ends U NoX c c') (v : RelC c' p (.ref D)) (z : c.h.objs.size ≤ Cd) (m : Str → Option Value) (ns : c'.h.Ns Cd m) (no : ¬ Own c'.μ c'.st Cd) (nb : U.B.get? Cd = none)
theorem comp_core (hSr : SrOk U C n) (hCt : CtOk U C n) (R : Room A n) (F : Fk U C.hd A env ρ c) {elt : Expr} {g : Comprehension} {sc' : Scope} {pos : Pos} (hco : CompOk env.scope sc' g) {b : Bool}
    (G : Good U c) {s : Shared} (hs : s.heap = c.h) {r : Mine.R PV} {st' : Mine.St} (hm : noExc (compM C n env.scope ρ elt g sc' b) c.st = some (r, st'))
    {use : Option (Value → Sem Unit)} {Q : Value → Shared → Prop} {E : Value → Shared → Prop}
    (hfin : ∀ D Cd s', CompEnd U c s r st' D Cd s' → compPost (model U.prog U.w) A E use Q (.ref D) Cd (.ok .next) s') :
    wpAny (model U.prog U.w) A (comprehension (.ListComp elt [g] sc' pos) sc' env (firstIterPos [g] pos) (newList []) (firstAsync [g]) (firstIter [g] env) use) Q E s := by
  obtain ⟨p, rfl, hm0⟩ := noExc_ok hm
  clear hm
  rcases bind_cases hm0 with ⟨_, q⟩ | ⟨sr, st₁, hm1, hm2⟩
  · exact nomatch q
  clear hm0
  have hset := src_not_set hm1
  rw [show firstAsync [g] = false from by
    obtain ⟨t, i, f, a⟩ := g
    cases hco.sync
    rfl]
  have hfree : ∀ p ∈ sc'.names, p.2 = NameKind.free → (env.cells.lookup p.1).isSome = true := fun p hp hf => by
    obtain ⟨a, v, h1, _⟩ := F.cell p.1 (hco.free p hp hf); rw [h1]; rfl
  refine wpAny_comprehension_free rfl (foldedSet_plain hset) (closure_eq hfree) hco.kind (fun x hx hl => ?_) ?_
  · have := nodup_lookup hco.nodup (show (x.1, x.2) ∈ sc'.names from hx)
    rw [hl] at this; exact this
  rw [show firstIter [g] env = eval g.iter env from by cases g; rfl]
  refine hSr A env ρ c g.target g.iter 0 R F G s hs _ _ hm1 _ _ (fun bb x c₁ s₁ e w1 w2 w3 w4 hrs => ?_) fun e c' s' q => nomatch q
  cases e; subst w1
  have F₁ := F.upN w4.1
  clear hm1 hfree hset
  rcases bind_cases hm2 with ⟨q, _⟩ | ⟨k, st₂, hm3, hm4⟩
  · exact nomatch q
  cases hm3
  rcases bind_cases hm4 with ⟨_, q⟩ | ⟨u, st₃, hm5, hm6⟩
  · exact nomatch q
  clear hm2 hm4
  refine on_src hrs w4.1.size w4.2 w2 (fun e he => F₁.hand.2 e he) F₁.hand.1 hm5 fun s₂ I W l tgt ck fin Chk St Mid FD htgt hW hSt hS D₂ hb => ?_
  clear hm5 hrs
  -- the list
  refine wpAny_newObj_type ?_ (by size_fits)
  have f1 : (s₂.heap.push { cls := .type "list", data := .seq ([] : List Value).toArray }).get? s₂.heap.objs.size = some { cls := .type "list", data := .seq ([] : List Value).toArray } := Heap.get?_push_size _ rfl
  generalize hH2 : s₂.heap.push { cls := .type "list", data := .seq ([] : List Value).toArray } = H2 at f1 ⊢
  have hk2 : ∀ b o, s₂.heap.get? b = some o → H2.get? b = some o := fun b o e => by rw [← hH2]; exact Heap.get?_push_of_some _ e
  have hz2 : H2.objs.size = s₂.heap.objs.size + 1 := by rw [← hH2, Heap.size_push]
  clear hH2
  have L₃ := Cf.add_le D₂.2 (o := .list []) (x := (s₂.heap.objs.size, s₂.heap.objs.size)) hk2 (by rw [hz2]; exact Nat.le_succ _) (Nat.le_refl _) (Nat.le_refl _)
  have G₃ : Good U (Cf.add { c₁ with h := s₂.heap } (.list []) H2 (s₂.heap.objs.size, s₂.heap.objs.size)) := Cf.add_good D₂.2 hk2 (by rw [hz2]; exact Nat.le_succ _) (Nat.le_refl _) (Nat.le_refl _) (by rw [hz2]; exact Nat.lt_succ_self _) (by rw [hz2]; exact Nat.lt_succ_self _)
    ⟨[], ⟨_, f1, rfl, _, rfl⟩, RelL.mkNil, fun o e => by
      have e' : H2.get? s₂.heap.objs.size = some o := e
      rw [f1] at e'; cases e'; rfl⟩ (.inl rfl)
  clear f1 hk2 hz2
  have h3mu : (Cf.add { c₁ with h := s₂.heap } (.list []) H2 (s₂.heap.objs.size, s₂.heap.objs.size)).μ c₁.st.next = some (s₂.heap.objs.size, s₂.heap.objs.size) := if_pos rfl
  have h3h : (Cf.add { c₁ with h := s₂.heap } (.list []) H2 (s₂.heap.objs.size, s₂.heap.objs.size)).h = H2 := rfl
  have hb : _ = _ := hb
  generalize hc3 : Cf.add { c₁ with h := s₂.heap } (.list []) H2 (s₂.heap.objs.size, s₂.heap.objs.size) = c₃ at L₃ G₃ h3mu h3h
  have h3st : loopU ck fin (fun x => Mine.compTurn C n (compScope env.scope sc') elt g (stripL sc' ρ) c₁.st.next x) l c₃.st = some (.ok u, st₃) := by rw [← hc3]; exact hb
  clear hb
  have F₃ : Fk U C.hd A env ρ c₃ := (F₁.upN D₂.1).upN L₃
  have St₃ : St c₃ 0 := FD.up L₃ (fun _ q => q.elim) (fun _ _ q => q) hSt
  have Lc3 : Le NoX c c₃ := (w4.1.trans D₂.1).trans L₃
  have hS3 := w3.trans hS
  have hW3 : ∀ a, W a → c.h.objs.size ≤ a := hW
  clear L₃ hSt D₂ w4 F₁ w2 w3 hc3 hS hW
  -- the frame
  refine wp_newEnv ?_
  obtain ⟨L₄, G₄, F₄, T₄⟩ := comp_env (H := pushCells (c₃.h.push { cls := .type "dict", data := .dict #[] }) sc'.names) hco G₃ F₃ rfl
  have St₄ : St { c₃ with h := pushCells (c₃.h.push { cls := .type "dict", data := .dict #[] }) sc'.names } 0 := FD.up L₄ (fun _ q => q.elim) (fun _ _ q => q) St₃
  have e4 : (cenvOf sc' env c₃.h.objs.size).scope = compScope env.scope sc' := relabel_eq F.kind
  show codeAny _ A (.compStart (.ListComp elt [g] sc' pos) 0 (.ref I) (.ref s₂.heap.objs.size) { newEnv sc' H2.objs.size env.globals (cellsFrom (H2.objs.size + 1) sc'.names (cloL env.cells sc'.names)) env.qual none .none (some env) builtinsNs with scope := relabel sc' env }) _ { s₂ with heap := pushCells (H2.push { cls := .type "dict", data := .dict #[] }) sc'.names }
  rw [← h3h]
  refine compStart_ok (env := cenvOf sc' env c₃.h.objs.size) (g := g) hco.sync ?_ fun Q E hq => FD.self St₄ rfl hq
  refine comp_loop (env := cenvOf sc' env c₃.h.objs.size) (c₀ := c) (s₀ := s) (N := c₃.h.objs.size) (g := g) hCt FD hco.sync htgt R T₄ hW3 (fun c' s' v1 Wy hkD => ?_) _ _ St₄ h3mu ⟨F₄, rfl, hS3.trans (Same.mk _ _ _), (Lc3.trans L₄).weak fun _ q => q.elim, G₄⟩ (by rw [e4]; exact h3st)
  subst v1
  obtain ⟨F', v2, v3, v4⟩ := Wy
  obtain ⟨p', hp, E1, hrel⟩ := end_ends v4.2 hkD hm6
  have mine := F'.mine c₃.h.objs.size (.inl rfl)
  obtain ⟨m, hn, _⟩ := F'.ns
  cases hp
  exact hfin _ c₃.h.objs.size s' ⟨_, ⟨c'.μ, st', c'.h⟩, rfl, rfl, v2, v3, ⟨(Le.fresh (Nat.le_refl _) (v4.1.weak fun a q => q.elim (fun q => .inr (Nat.le_trans Lc3.size q.low)) .inr)).trans E1.1, E1.2⟩, hrel, Lc3.size, m, hn, fun q => mine.1 ((E1.1.own _ q).elim id fun q => by
      obtain ⟨o, _, _, ho, _⟩ := hn
      exact absurd (Heap.lt_size ho) (Nat.not_lt.mpr q)), mine.2⟩

theorem cd_turn {Cd : Addr} {h' : Heap} (G : Good U c) (hn : ∃ m, c.h.Ns Cd m) (hno : ¬ Own c.μ c.st Cd) (hB : U.B.get? Cd = none) (hs : Heap.SameBut Cd c.h h') : Ends U (· = Cd) c { c with h := h' } ∧ Scr c.h (· = Cd) := by
  have scr : Scr c.h (· = Cd) := by
    rintro a rfl o ho
    obtain ⟨m, o', es, ep, ho', hd, _⟩ := hn
    rw [ho] at ho'; cases ho'
    exact .inl ⟨es, ep, hd⟩
  exact ⟨turn_ends G (Nat.le_of_eq hs.1.symm) (fun b o hb e => (hs.2 b hb).trans e) (by rintro a rfl; exact ⟨hno, hB⟩) scr, scr⟩

theorem list_comp (hSr : SrOk U C n) (hCt : CtOk U C n) (R : Room A (n + 1)) (F : Fk U C.hd A env ρ c) {elt : Expr} {gens : List Comprehension} {sc' : Scope} {pos : Pos} :
    OkM U A NoX c (eval (.ListComp elt gens sc' pos) env) (evalE C (n + 1) env.scope ρ (.ListComp elt gens sc' pos)) RelV L := by
  rw [evalE_ListComp]
  cases hg : sole gens with
  | none => exact OkM.fail
  | some g =>
  cases sole_of hg
  refine OkM.iteF (m := noExc (compM C n env.scope ρ elt g sc' (C.muta (.ListComp elt [g] sc' pos)))) fun hco => ?_
  have hco := compOk_of (ne_false hco)
  intro G s hs r st' hm Q E hQ _
  rw [eval_ListComp]
  refine comp_core (b := C.muta (.ListComp elt [g] sc' pos)) hSr hCt R.down F hco G hs hm fun D Cd s' ce => ?_
  obtain ⟨p, c', w1, w2, w3, w4, w5, w6, w7, m, hn, w9, w10⟩ := ce
  refine ⟨m, w3 ▸ hn, fun h' hsb => ?_⟩
  rw [w3] at hsb
  obtain ⟨D1, scr⟩ := cd_turn w5.2 ⟨m, hn⟩ w9 w10 hsb
  exact hQ p _ { c' with h := h' } _ w1 w2 rfl (w4.trans (Same.mk _ _ _)) ⟨Le.fresh (Nat.le_refl _) ((w5.1.weak fun _ q => q.elim).trans (D1.1.weak fun a (q : a = _) => .inr (q ▸ w7))), D1.2⟩ (Rel.up D1.1 scr _ _ w6)

/-- a comprehension whose value goes to a name of the frame at once -/
theorem list_comp_use (hSr : SrOk U C n) (hCt : CtOk U C n) (R : Room A (n + 1)) (F : Fk U C.hd A env ρ c) {elt : Expr} {gens : List Comprehension} {sc' : Scope} {pos : Pos} {x : Str} {xp : Pos} :
    OkM U A (XOf env) c (evalThenUse (.ListComp elt gens sc' pos) env (fun v => assign (.Name x xp) env v)) ((evalE C (n + 1) env.scope ρ (.ListComp elt gens sc' pos)).bind fun p => if isVar env.scope x then M.ret ((x, p) :: ρ) else M.fail) (fun c' ρ' _ => Fk U C.hd A env ρ' c') L := by
  rw [evalE_ListComp]
  cases hg : sole gens with
  | none => exact OkM.fail
  | some g =>
  cases sole_of hg
  by_cases hco : compOk env.scope sc' g = false
  · show OkM U A _ c _ ((if compOk env.scope sc' g = false then _ else _ : M PV).bind _) _ L
    rw [if_pos hco]; exact OkM.fail
  show OkM U A _ c _ ((if compOk env.scope sc' g = false then _ else _ : M PV).bind _) _ L
  rw [if_neg hco]
  have hco := compOk_of (ne_false hco)
  intro G s hs r st' hm Q E hQ hE
  show wpAny _ A (comprehension (.ListComp elt [g] sc' pos) sc' env (firstIterPos [g] pos) (newList []) (firstAsync [g]) (firstIter [g] env) (some fun v => assign (.Name x xp) env v) >>= fun _ => pure ()) Q E s
  rcases bind_cases hm with ⟨hm1, _⟩ | ⟨p, st₁, hm1, hm2⟩
  · obtain ⟨_, q, _⟩ := noExc_ok hm1
    cases q
  refine wpAny_bind (comp_core (b := C.muta (.ListComp elt [g] sc' pos)) hSr hCt R.down F hco G hs hm1 fun D Cd s' ce => ?_)
  obtain ⟨p', c', w1, w2, w3, w4, w5, w6, w7, m, hn, w9, w10⟩ := ce
  cases w1
  subst w2
  have F' := F.upN w5.1
  have hCdX : ¬ XOf env Cd := fun q => by
    refine absurd w7 (Nat.not_le.mpr ?_)
    rcases q with rfl | ⟨y, hy⟩
    · obtain ⟨m, ⟨o, _, _, ho, _⟩, _⟩ := F.ns; exact Heap.lt_size ho
    · obtain ⟨_, v, o, ho, _⟩ := F.off y _ hy; exact Heap.lt_size ho
  show wpAny _ A (assign (.Name x xp) env (.ref D)) _ E s'
  rw [assign_Name]
  refine wpAny_bind (wpAny_standAt (wpAny_bindName ?_))
  refine ok_store (L := 0) F' (x := x) w6 w5.2 s' w3 _ _ hm2 _ _ (fun ρ' a c₃ s₃ v1 v2 v3 v4 v5 F₃ => ?_) fun e c₃ s₃ q => ?_
  · obtain ⟨o, es, ep, ho, hd, hrest⟩ := id hn
    obtain ⟨sl, e1, _⟩ := v5.1.step Cd o ho w9 (fun q => hCdX q.of)
    have hn3 : c₃.h.Ns Cd m := NsUp hn fun o' ho' => by
      rw [ho] at ho'; cases ho'; exact ⟨sl, e1⟩
    refine ⟨m, v3 ▸ hn3, fun h' hsb => wpAny_pure ?_⟩
    rw [v3] at hsb
    obtain ⟨D1, scr⟩ := cd_turn v5.2 ⟨m, hn3⟩ (notOwn_up v5.1 ho w9) w10 hsb
    exact hQ ρ' () { c₃ with h := h' } _ v1 v2 rfl ((w4.trans v4).trans (Same.mk _ _ _)) ⟨Le.fresh (Nat.le_refl _) (((w5.1.weak fun _ q => q.elim).trans (v5.1.weak fun a q => .inl q.of)).trans (D1.1.weak fun a (q : a = _) => .inr (q ▸ w7))), D1.2⟩ (F.upW F₃ D1.1 scr fun a q => q ▸ w7)
  · by_cases hx : isVar env.scope x = true
    · subst q; have hm2 : (if isVar env.scope x then M.ret ((x, p) :: ρ) else M.fail) c'.st = _ := hm2
      rw [if_pos hx] at hm2; exact nomatch hm2
    · have hm2 : (if isVar env.scope x then M.ret ((x, p) :: ρ) else M.fail) c'.st = _ := hm2
      rw [if_neg hx] at hm2; exact nomatch hm2
end
end Mine
end

section
namespace Mine
open PySem PyProof PyProof.Rows

section
variable {U : Setup} {C : Cfg} {A : Around} {X : Addr → Prop} {c c' : Cf} {L : Addr} {env : Env} {ρ : Locs} {n : Nat}

theorem exec_ReturnM {sc : Scope} {e : Expr} {pos : Pos} : Mine.exec C (n + 1) sc ρ (.Return (some e) pos) = (evalE C n sc ρ e).bind fun v => M.ret (.ret v, ρ) := by kernel_rfl
theorem ex_Return (hE : EvOk U C n) (R : Room A (n + 1)) (F : Fk U C.hd A env ρ c) {v : Option Expr} {pos : Pos} :
    OkM U A (XOf env) c (PySem.exec (.Return v pos) env) (Mine.exec C (n + 1) env.scope ρ (.Return v pos)) (RelF U C.hd A env) L := by
  cases v with
  | none => exact OkM.failAt (by kernel_rfl)
  | some e => exact OkM.at2 (t' := (do standAt pos; let v ← eval e env; pure (.ret v))) rfl exec_ReturnM (OkM.standAt (OkM.bindN (hE _ _ _ _ _ _ R.down F) fun c₁ p v L₁ G₁ hv => OkM.pure ⟨.ret hv, F.upN L₁⟩))

theorem exec_IfM {sc : Scope} {t : Expr} {b o : List Stmt} {pos : Pos} : Mine.exec C (n + 1) sc ρ (.If t b o pos) = (evalT C n sc ρ t).bind fun c => match c with
      | true => Mine.execs C n sc ρ b
      | false => Mine.execs C n sc ρ o := by kernel_rfl
theorem ex_If (hT : TrOk U C n) (hS : SsOk U C n) (R : Room A (n + 1)) (F : Fk U C.hd A env ρ c) {outer : List Env} (hf : env.frame = some L) (hA : A.frames = some (env :: outer)) {t : Expr} {b o : List Stmt} {pos : Pos} :
    OkM U A (XOf env) c (PySem.exec (.If t b o pos) env) (Mine.exec C (n + 1) env.scope ρ (.If t b o pos)) (RelF U C.hd A env) L := by
  refine OkM.at2 (t' := (do standAt pos; if ← isTrue t env (eval t env) then PySem.execs b env else PySem.execs o env)) rfl exec_IfM (OkM.standAt (OkM.bindN (hT _ _ _ _ _ _ R.down F) fun c₁ q v L₁ G₁ hv => ?_))
  subst hv
  cases v <;> exact hS _ _ _ _ _ _ _ R.down (F.upN L₁) hf hA

theorem not_comp_swaps {e : Expr} (he : isComp e = false) {t : Option Expr} {line : Nat} : swapsWith e t line env = pure false := by
  cases e <;> first | rfl | exact nomatch he

theorem oneV_flat {p : PV} {v : Value} (h1 : oneV p = true) (hv : RelC c p v) : ∀ a, v ≠ .ref a := by
  cases p with
  | none => cases hv.none'; exact fun a q => nomatch q
  | int i => obtain ⟨t, rfl⟩ := hv.int'; exact fun a q => nomatch q
  | _ => exact nomatch h1
theorem exec_ExprM {sc : Scope} {e : Expr} {pos : Pos} : Mine.exec C (n + 1) sc ρ (.Expr e pos) = if isComp e then M.fail else (evalE C n sc ρ e).bind fun v => if oneV v then M.ret (.next, ρ) else M.fail := by kernel_rfl
theorem ex_Expr (hE : EvOk U C n) (R : Room A (n + 1)) (F : Fk U C.hd A env ρ c) {e : Expr} {pos : Pos} :
    OkM U A (XOf env) c (PySem.exec (.Expr e pos) env) (Mine.exec C (n + 1) env.scope ρ (.Expr e pos)) (RelF U C.hd A env) L := by
  refine OkM.at exec_ExprM (OkM.iteF fun hc => ?_)
  rw [exec_Expr env e pos (by unfold interactive; rw [F.kind]; rfl) (not_comp_swaps ((Bool.not_eq_true _).mp hc))]
  refine OkM.standAt (OkM.bindN (hE _ _ _ _ _ _ R.down F) fun c₁ p v L₁ G₁ hv => OkM.iteT fun h1 => ?_)
  rw [dropValue_plain (oneV_flat h1 hv)]
  exact OkM.pure ⟨.next, F.upN L₁⟩

theorem execs_nilM {sc : Scope} : Mine.execs C (n + 1) sc ρ [] = M.ret (.next, ρ) := by kernel_rfl
theorem execs_consM {sc : Scope} {s : Stmt} {r : List Stmt} : Mine.execs C (n + 1) sc ρ (s :: r) = (Mine.exec C n sc ρ s).bind fun f => match f.1 with
      | .next => Mine.execs C n sc f.2 r
      | .ret v => M.ret (.ret v, f.2) := by kernel_rfl
theorem ss_ok (hX : ExOk U C n) (hS : SsOk U C n) : SsOk U C (n + 1) := by
  intro A env ρ c ss L outer R F hf hA
  cases ss with
  | nil => exact OkM.at2 (t' := pure .next) rfl execs_nilM (OkM.pure ⟨.next, F⟩)
  | cons s r =>
    refine OkM.at2 (t' := (do match ← PySem.exec s env with | .next => PySem.execs r env | f => pure f)) rfl execs_consM (OkM.bind (hX _ _ _ _ _ _ _ R.down F hf hA) fun c₁ fl f L₁ G₁ h => ?_)
    obtain ⟨fl, ρ₁⟩ := fl
    obtain ⟨h1, F₁⟩ := h
    cases h1 with
    | next => exact hS _ _ _ _ _ _ _ R.down F₁ hf hA
    | ret hv => exact OkM.pure ⟨.ret hv, F₁⟩

theorem whileF_succ {t : Locs → M Bool} {b : Locs → M (Fl × Locs)} {m : Nat} : whileF t b (m + 1) ρ = (t ρ).bind fun q => match q with
    | true => (b ρ).bind fun r => match r.1 with
      | .next => whileF t b m r.2
      | .ret v => M.ret (.ret v, r.2)
    | false => M.ret (.next, ρ) := rfl
inductive WhAt (U : Setup) (hd : Bool) (A : Around) (env : Env) (c₀ : Cf) (s₀ : Shared) (f : Nat → Locs → M (Fl × Locs)) (r : Fl × Locs) (st' : Mine.St) (m : Nat) (s : Shared) : Prop
  | mk (c : Cf) (ρ : Locs) (W : OnWay U hd A env (XOf env) c₀ s₀ ρ c s) (hm : f m ρ c.st = some (.ok r, st'))
theorem while_loop (hT : TrOk U C n) (hSs : SsOk U C n) {t : Expr} {body : List Stmt} {outer : List Env} (R : Room A n) (hf : env.frame = some L) (hA : A.frames = some (env :: outer)) {c₀ : Cf} {s₀ : Shared}
    {r : Fl × Locs} {st' : Mine.St} {RR : Result → Shared → Prop}
    (hok : ∀ f c' s', c'.st = st' → OnWay U C.hd A env (XOf env) c₀ s₀ r.2 c' s' → FlRel c' r.1 f → RR (.ok f) s')
    (m : Nat) (s : Shared) (c : Cf) (W : OnWay U C.hd A env (XOf env) c₀ s₀ ρ c s)
    (hm : whileF (fun ρ => evalT C n env.scope ρ t) (fun ρ => Mine.execs C n env.scope ρ body) m ρ c.st = some (.ok r, st')) :
    codeAny (model U.prog U.w) A (.whileLoop t body [] env) RR s := by
  refine codeAny_whileLoop (WhAt U C.hd A env c₀ s₀ (whileF (fun ρ => evalT C n env.scope ρ t) (fun ρ => Mine.execs C n env.scope ρ body)) r st') ?_ m ⟨c, ρ, W, hm⟩
  clear W hm
  rintro m s ⟨c, ρ, ⟨F, hs, hS, hD⟩, hm⟩
  cases m with
  | zero => exact nomatch hm
  | succ m =>
    rw [whileF_succ] at hm
    rcases bind_cases hm with ⟨_, q⟩ | ⟨b, st₁, hm1, hm2⟩
    · exact nomatch q
    refine hT A env ρ c t L R F hD.2 s hs _ _ hm1 _ _ (fun b' a c₁ s₁ e w1 w2 w3 w4 w5 => ?_) fun e c' s' q => nomatch q
    cases e; subst w1; subst w5
    have F₁ := F.upN w4.1
    have D₁ : Ends U (XOf env) c₀ c₁ := ⟨hD.1.trans (w4.1.weak fun _ q => q.elim), w4.2⟩
    cases a with
    | false =>
      cases hm2
      exact wpAny_execs_nil (hok _ c₁ s₁ rfl ⟨F₁, w2, hS.trans w3, D₁⟩ .next)
    | true =>
      rcases bind_cases hm2 with ⟨_, q⟩ | ⟨⟨fl, ρ₂⟩, st₂, hm3, hm4⟩
      · exact nomatch q
      refine hSs A env ρ c₁ body L outer R F₁ hf hA w4.2 s₁ w2 _ _ hm3 _ _ (fun b' f c₂ s₂ e v1 v2 v3 v4 v5 => ?_) fun e c' s' q => nomatch q
      cases e; subst v1
      obtain ⟨hfl, F₂⟩ := v5
      have W₂ : OnWay U C.hd A env (XOf env) c₀ s₀ ρ₂ c₂ s₂ := ⟨F₂, v2, hS.trans (w3.trans v3), D₁.1.trans v4.1, v4.2⟩
      cases hfl with
      | next => exact ⟨m, Nat.lt_succ_self _, c₂, ρ₂, W₂, hm4⟩
      | ret hv => cases hm4; exact hok _ c₂ s₂ rfl W₂ (.ret hv)

theorem exec_WhileM {sc : Scope} {t : Expr} {body orelse : List Stmt} {pos : Pos} : Mine.exec C (n + 1) sc ρ (.While t body orelse pos) = if orelse.isEmpty = false then M.fail else noExc (whileF (fun ρ => evalT C n sc ρ t) (fun ρ => Mine.execs C n sc ρ body) (10 ^ 40) ρ) := by kernel_rfl
theorem ex_While (hT : TrOk U C n) (hSs : SsOk U C n) (R : Room A (n + 1)) (F : Fk U C.hd A env ρ c) {outer : List Env} (hf : env.frame = some L) (hA : A.frames = some (env :: outer)) {t : Expr} {body orelse : List Stmt} {pos : Pos} :
    OkM U A (XOf env) c (PySem.exec (.While t body orelse pos) env) (Mine.exec C (n + 1) env.scope ρ (.While t body orelse pos)) (RelF U C.hd A env) L := by
  refine OkM.at exec_WhileM (OkM.iteF fun hc => ?_)
  cases nil_of (ne_false hc)
  intro G s hs r st' hm Q E hQ _
  obtain ⟨a, rfl, hm1⟩ := noExc_ok hm
  refine wpAny_While (while_loop (s₀ := s) (c₀ := c) (m := 10 ^ 40) (r := a) hT hSs R.down hf hA (fun f c' s' w1 W w5 => ?_) s c ⟨F, hs, Same.refl s, Le.refl _ _, G⟩ hm1)
  obtain ⟨F', w2, w3, w4⟩ := W
  exact hQ _ _ c' s' rfl w1 w2 w3 w4 ⟨w5, F'⟩
end
end Mine
end

section
namespace Mine
open PySem PyProof PyProof.Rows

section
variable {U : Setup} {C : Cfg} {A : Around} {X : Addr → Prop} {c c' : Cf} {L : Addr} {env : Env} {ρ : Locs} {n : Nat}

theorem exec_Assign1 (t value : Expr) (pos : Pos) : PySem.exec (.Assign [t] value pos) env = (do
    standAt pos
    if ← swapsWith value (some t) pos.line env then do
      evalThenUse value env fun v => assignAll v ((assignEach [t] env).map (·.2))
      pure .next
    else do
      let v ← eval value env
      assignStores env v (← swappedStores [t] value env) ((assignEach [t] env).map (·.2))) := rfl

/-- what a target is -/
inductive TgtV : Expr → Prop
  | name (x : Str) (p : Pos) : TgtV (.Name x p)
  | tup (ts : List Expr) (k : Nat) (p : Pos) : TgtV (.Tuple ts k p)
  | sub (o i : Expr) (p : Pos) : TgtV (.Subscript o i p)
  | att (o : Expr) (x : Str) (p : Pos) : TgtV (.Attribute o x p)
theorem tgt_of {sc : Scope} {t e : Expr} {r : Option (List Str)} (h : swapW sc t e = some r) : TgtV t := by
  cases t <;> first | (cases h; done) | constructor
theorem swapW_tup {sc : Scope} {ts : List Expr} {k : Nat} {p : Pos} {e : Expr} : swapW sc (.Tuple ts k p) e = match tupV e with
    | some vs => swap2 sc ts vs
    | Option.none => some Option.none := rfl
theorem swap_none {e t : Expr} (h : tupV e = none) : swappedStores [t] e env = pure none := by
  cases t <;> first | rfl | (cases e <;> first | rfl | cases h)
theorem swap_eq (hk : env.scope.kind = .function) {t e : Expr} {r : Option (List Str)} (h : swapW env.scope t e = some r) : swappedStores [t] e env = pure r := by
  have bk : env.blockKind = .function := by
    unfold Env.blockKind
    rw [hk]; rfl
  cases hv : tupV e with
  | none => cases tgt_of h <;> first | (cases h; exact swap_none hv) | (rw [swapW_tup, hv] at h; cases h; exact swap_none hv)
  | some vs =>
    obtain ⟨d, f, rfl⟩ := tupV_of hv
    cases tgt_of h with
    | tup ts k p =>
      have h : swap2 env.scope ts vs = some r := h
      unfold swap2 at h
      unfold swappedStores
      simp only [bk, bne_self_eq_false, Bool.or_false]
      have e1 : ∀ f : Expr → Bool, (∀ x, f x = starred x) → vs.any f = vs.any starred := fun f hf => by rw [show f = starred from funext hf]
      have e2 : ∀ f : Expr → Option Str, (∀ x, f x = nameAt env.scope ((ts.head?.map (·.pos.line)).getD 0) x) → ts.filterMap f = ts.filterMap (nameAt env.scope ((ts.head?.map (·.pos.line)).getD 0)) := fun f hf => by rw [show f = nameAt env.scope ((ts.head?.map (·.pos.line)).getD 0) from funext hf]
      rw [e1 _ (by intro x; cases x <;> rfl)]
      rw [e2 _ (by intro x; cases x <;> rfl)]
      generalize ts.filterMap (nameAt env.scope ((ts.head?.map (·.pos.line)).getD 0)) = Z at h ⊢
      split at h
      · rename_i h1
        cases h
        rw [if_pos h1]
      · rename_i h1
        rw [if_neg h1]
        split at h
        · rename_i h2
          cases h
          rw [if_pos h2]
        · rename_i h2
          rw [if_neg h2]
          split at h
          · rename_i h3
            cases h
            rw [if_pos h3]
          · rename_i h3
            rw [if_neg h3]
            split at h
            · rename_i h4
              cases h
              rw [if_pos h4]
            · rename_i h4
              rw [if_neg h4]
              split at h
              · cases h
              · rename_i h5
                cases h
                rw [if_neg h5]
    | _ => cases h; rfl

theorem name_local {sc : Scope} {k : Nat} {y : Expr} {x : Str} (hy : nameAt sc k y = some x) : sc.names.lookup x = some .local := by
  cases y with
  | Name id p =>
    have hy : (if sc.names.lookup id == some .local && p.line == k then some id else none) = some x := hy
    split at hy
    · rename_i hc
      cases hy
      exact eq_of_beq (Bool.and_eq_true_iff.mp hc).1
    · cases hy
  | _ => exact nomatch hy
theorem swap2_names {sc : Scope} {ts vs : List Expr} {names : List Str} (h : swap2 sc ts vs = some (some names)) : ts.filterMap (nameAt sc ((ts.head?.map (·.pos.line)).getD 0)) = names := by
  unfold swap2 at h
  generalize ts.filterMap (nameAt sc ((ts.head?.map (·.pos.line)).getD 0)) = Z at h ⊢
  split at h
  · cases h
  split at h
  · cases h
  split at h
  · cases h
  split at h
  · cases h
  split at h
  · cases h
  cases h; rfl
theorem swap_local {sc : Scope} {t e : Expr} {names : List Str} (h : swapW sc t e = some (some names)) : ∀ x ∈ names, sc.names.lookup x = some .local := by
  cases tgt_of h with
  | tup ts k p =>
    rw [swapW_tup] at h
    cases hv : tupV e with
    | none => rw [hv] at h; cases h
    | some vs =>
      rw [hv] at h
      rw [← swap2_names h]
      intro x hx
      obtain ⟨y, _, hy⟩ := List.mem_filterMap.mp hx
      exact name_local hy
  | _ => cases h

theorem stores_ok : ∀ {ns : List Str} {ls : List PV} {vs : List Value} {ρ : Locs} {c : Cf}, Fk U C.hd A env ρ c → RelLC c ls vs → ns.length = ls.length → (∀ x ∈ ns, env.scope.names.lookup x = some .local) →
    OkM U A (XOf env) c (assignInOrder (ns.map fun n => bindName env n) vs) (M.ret ()) (fun c' _ _ => Fk U C.hd A env ((ns.zip ls).reverse ++ ρ) c') L
  | [], ls, vs, ρ, c, F, _, _, _ => OkM.pure F
  | x :: ns, [], vs, ρ, c, F, _, hl, _ => nomatch hl
  | x :: ns, p :: ls, vs, ρ, c, F, hv, hl, hk => by
    obtain ⟨v, r, rfl, h1, h2⟩ := hv.cons'
    show OkM U A (XOf env) c (do PySem.holding r (bindName env x v); assignInOrder (ns.map fun n => bindName env n) r) ((M.ret ()).bind fun _ => M.ret ()) _ L
    have hx : isVar env.scope x = true := by
      unfold isVar
      rw [hk x List.mem_cons_self]; rfl
    refine OkM.bind (P := fun c' _ _ => Fk U C.hd A env ((x, p) :: ρ) c' ∧ RelLC c' ls r) (OkM.holding (((OkM.retAs (store_m F hx h1) fun c' _ K F' => ⟨F', RelL.up K (F.scr.sub fun _ => StX.of) _ _ h2⟩).weak fun a q => StX.of q).of_wp fun Q E s h => wpAny_bindName h)) fun c₁ _ _ L₁ G₁ q => ?_
    rw [show ((x :: ns).zip (p :: ls)).reverse ++ ρ = (ns.zip ls).reverse ++ ((x, p) :: ρ) from by rw [List.zip_cons_cons, List.reverse_cons, List.append_assoc]; rfl]
    exact stores_ok q.1 q.2 (Nat.succ.inj hl) fun y hy => hk y (List.mem_cons_of_mem _ hy)

theorem RelL.reverse {h : Heap} {μ : Map} {O : Addr → Prop} : ∀ {l : List PV} {vs : List Value}, RelL h μ O l vs → RelL h μ O l.reverse vs.reverse
  | [], vs, h1 => by cases h1.nil'; exact h1
  | p :: l, vs, h1 => by
    obtain ⟨v, r, rfl, hp, hr⟩ := h1.cons'
    rw [List.reverse_cons, List.reverse_cons]
    exact RelL.snoc hp (RelL.reverse hr)

theorem zip_rev {α β : Type} : ∀ {l : List α} {m : List β}, l.length = m.length → (l.reverse.zip m.reverse).reverse = l.zip m
  | [], m, _ => by simp
  | a :: l, [], h => nomatch h
  | a :: l, b :: m, h => by
    have h' : l.length = m.length := Nat.succ.inj h
    rw [List.reverse_cons, List.reverse_cons, List.zip_append (by rw [List.length_reverse, List.length_reverse]; exact h'), List.reverse_append, zip_rev h']
    rfl

noncomputable abbrev roadS (t e : Expr) (env : Env) : Sem Flow := do
  let v ← eval e env
  assignStores env v (← swappedStores [t] e env) ((assignEach [t] env).map (·.2))
noncomputable def roadM (C : Cfg) (n : Nat) (sc : Scope) (ρ : Locs) (t e : Expr) (sw : Option (List Str)) : M (Fl × Locs) := match sw with
  | some names => if C.hd then M.fail else (evalE C n sc ρ e).bind fun v => (M.of (tupO v)).bind fun l => if l.length = names.length then M.ret (.next, names.zip l ++ ρ) else M.fail
  | Option.none => (evalE C n sc ρ e).bind fun v => (assignT C n sc ρ t v).bind fun ρ => M.ret (.next, ρ)
theorem exec_AssignM {sc : Scope} {t e : Expr} {pos : Pos} : Mine.exec C (n + 1) sc ρ (.Assign [t] e pos) = match swapW sc t e with
    | Option.none => M.fail
    | some sw => roadM C n sc ρ t e sw := by kernel_rfl
theorem exec_AssignN {sc : Scope} {ts : List Expr} {e : Expr} {pos : Pos} (h : sole ts = none) : Mine.exec C (n + 1) sc ρ (.Assign ts e pos) = M.fail :=
  (show Mine.exec C (n + 1) sc ρ (.Assign ts e pos) = match sole ts with
    | some t => (match swapW sc t e with
      | Option.none => M.fail
      | some sw => roadM C n sc ρ t e sw)
    | Option.none => M.fail from by kernel_rfl).trans (by rw [h])
theorem one_each {sc : Scope} {t e : Expr} {r : Option (List Str)} (h : swapW sc t e = some r) : (assignEach [t] env).map (·.2) = [assign t env] := by
  cases tgt_of h <;> rfl

theorem road_ok (hE : EvOk U C n) (hAs : AsOk U C n) (R : Room A n) (F : Fk U C.hd A env ρ c) {t e : Expr} {sw : Option (List Str)} (hsw : swapW env.scope t e = some sw) :
    OkM U A (XOf env) c (roadS t e env) (roadM C n env.scope ρ t e sw) (RelF U C.hd A env) L := by
  have hse := swap_eq F.kind hsw
  have hea := one_each (env := env) hsw
  cases sw with
  | none =>
    refine OkM.bindN (hE _ _ _ _ _ _ R F) fun c₁ p v L₁ G₁ hv => ?_
    rw [hse, hea]
    show OkM U A (XOf env) c₁ (assign t env v >>= fun _ => pure Flow.next) _ _ L
    exact OkM.bind (hAs _ _ _ _ _ _ _ _ R (F.upN L₁) hv) fun c₂ ρ₂ _ L₂ G₂ F₂ => OkM.pure ⟨.next, F₂⟩
  | some names =>
    refine OkM.iteF fun hhd => ?_
    refine OkM.bindN (hE _ _ _ _ _ _ R F) fun c₁ p v L₁ G₁ hv => ?_
    rw [hse, hea]
    show OkM U A _ c₁ (assignStores env v (some names) [assign t env]) _ _ L
    unfold assignStores
    refine OkM.ofB fun l hl => OkM.iteT fun hlen => ?_
    cases tupO_of hl
    refine OkM.of_wp (t := (do
        let items ← unpackItems v names.length none
        assignInOrder (names.reverse.map fun n => bindName env n) items.reverse
        pure .next)) ?_ (fun Q E s h => wpAny_bind (wpAny_rule h))
    rw [← hlen]
    refine OkM.at (m' := (M.ret ()).bind fun _ => (M.ret ()).bind fun _ => M.ret (.next, names.zip l ++ ρ)) rfl (OkM.bindN (P := fun c' _ vs => RelLC c' l vs) (OkM.retAs (ok_unpack (hd_no F.hand.1 hhd) hv) fun _ _ _ h => h) fun c₂ _ vs L₂ G₂ hr => ?_)
    refine OkM.bind (stores_ok ((F.upN L₁).upN L₂) (RelL.reverse hr) (by rw [List.length_reverse, List.length_reverse, hlen]) fun x hx => swap_local hsw x (List.mem_reverse.mp hx)) fun c₃ _ _ L₃ G₃ q => ?_
    rw [zip_rev hlen.symm] at q
    exact OkM.pure ⟨.next, q⟩

theorem asg_plain {t e : Expr} {pos : Pos} {m : M (Fl × Locs)} {P : Cf → Fl × Locs → Flow → Prop} (h : OkM U A X c (roadS t e env) m P L) (hq : swapsWith e (some t) pos.line env = pure false) : OkM U A X c (PySem.exec (.Assign [t] e pos) env) m P L := by
  rw [exec_Assign1]
  refine OkM.standAt ?_
  rw [hq]
  exact h
theorem road_fail {sc : Scope} {t e : Expr} {sw : Option (List Str)} (h : evalE C n sc ρ e = M.fail) : roadM C n sc ρ t e sw = M.fail := by
  unfold roadM
  cases sw with
  | none => rw [h]; rfl
  | some names => rw [h]; exact ite_self _
theorem comp_kinds {e : Expr} (h : isComp e = true) : (∃ elt gens sc' p, e = Expr.ListComp elt gens sc' p) ∨ ∀ (C : Cfg) n sc ρ, evalE C n sc ρ e = M.fail := by
  cases e <;> first | (cases h; done) | exact .inl ⟨_, _, _, _, rfl⟩ | exact .inr fun C n sc ρ => by cases n <;> kernel_rfl
theorem name_or (t : Expr) : (∃ x p, t = Expr.Name x p) ∨ ∀ elt gens sc' p line, swapsWith (.ListComp elt gens sc' p) (some t) line env = pure false := by
  cases t <;> first | exact .inl ⟨_, _, rfl⟩ | exact .inr fun _ _ _ _ _ => rfl
theorem asg_use {elt : Expr} {gens : List Comprehension} {sc' : Scope} {cp xp pos : Pos} {x : Str} {m : M Locs} {P : Cf → Locs → Unit → Prop} {P' : Cf → Fl × Locs → Flow → Prop} (h : OkM U A X c (evalThenUse (.ListComp elt gens sc' cp) env fun v => assign (.Name x xp) env v) m P L) (hP : ∀ c' ρ', P c' ρ' () → P' c' (.next, ρ') .next) (hq : swapsWith (.ListComp elt gens sc' cp) (some (.Name x xp)) pos.line env = pure true) :
    OkM U A X c (PySem.exec (.Assign [.Name x xp] (.ListComp elt gens sc' cp) pos) env) (m.bind fun ρ => M.ret (.next, ρ)) P' L := by
  rw [exec_Assign1]
  refine OkM.standAt ?_
  rw [hq]
  show OkM U A X c ((evalThenUse (.ListComp elt gens sc' cp) env fun v => assign (.Name x xp) env v) >>= fun _ => pure Flow.next) _ _ L
  exact OkM.bind h fun c₁ ρ₁ _ L₁ G₁ F₁ => OkM.pure (hP _ _ F₁)
theorem assignT_NameM {sc : Scope} {x : Str} {p : Pos} {v : PV} : assignT C (n + 1) sc ρ (.Name x p) v = if isVar sc x then M.ret ((x, v) :: ρ) else M.fail := by kernel_rfl
theorem M.assoc3 {α β γ : Type} (m : M α) (f : α → M β) (g : β → M γ) : (m.bind f).bind g = m.bind fun a => (f a).bind g := by
  funext st
  unfold M.bind
  cases m st with
  | none => rfl
  | some p => obtain ⟨q, st'⟩ := p; cases q <;> rfl
theorem ex_Assign (hE : EvOk U C n) (hAs : AsOk U C n) (hSr : ∀ m, n = m + 1 → SrOk U C m) (hCt : ∀ m, n = m + 1 → CtOk U C m) (R : Room A (n + 1)) (F : Fk U C.hd A env ρ c) {ts : List Expr} {e : Expr} {pos : Pos} :
    OkM U A (XOf env) c (PySem.exec (.Assign ts e pos) env) (Mine.exec C (n + 1) env.scope ρ (.Assign ts e pos)) (RelF U C.hd A env) L := by
  cases hts : sole ts with
  | none => exact OkM.failAt (exec_AssignN hts)
  | some t =>
  cases sole_of hts
  rw [exec_AssignM]
  cases hsw : swapW env.scope t e with
  | none => exact OkM.fail
  | some sw =>
  have road := road_ok (L := L) hE hAs R.down F hsw
  cases hc : isComp e with
  | false => exact asg_plain road (not_comp_swaps hc)
  | true =>
  rcases comp_kinds hc with ⟨elt, gens, sc', cp, rfl⟩ | hno
  · rcases name_or (env := env) t with ⟨x, xp, rfl⟩ | ht
    · cases hsw
      obtain ⟨b, hq⟩ : ∃ b, swapsWith (.ListComp elt gens sc' cp) (some (.Name x xp)) pos.line env = pure b := ⟨_, rfl⟩
      cases b with
      | false => exact asg_plain road hq
      | true =>
        cases n with
        | zero => exact OkM.failAt (road_fail (by kernel_rfl))
        | succ m =>
          refine OkM.at ?_ (asg_use (list_comp_use (L := L) (hSr m rfl) (hCt m rfl) R.down F) (fun c' ρ' F' => ⟨.next, F'⟩) hq)
          rw [M.assoc3]
          rfl
    · exact asg_plain road (ht _ _ _ _ _)
  · exact OkM.failAt (road_fail (hno _ _ _ _))
end
end Mine
end

section
namespace Mine
open PySem PyProof PyProof.Rows

section
variable {U : Setup} {C : Cfg} {A : Around} {X : Addr → Prop} {c c' : Cf} {L : Addr} {env : Env} {ρ : Locs} {n : Nat}

noncomputable abbrev RelP (c : Cf) (p : PV × PV) (w : Value × Value) : Prop := RelC c p.1 w.1 ∧ RelC c p.2 w.2
noncomputable def PrOk (U : Setup) (C : Cfg) (n : Nat) : Prop := ∀ A env ρ c ks vs pos L, Room A n → Fk U C.hd A env ρ c →
  OkM U A NoX c (PySem.evalPairs (pairTrees ks vs env pos)) (Mine.evalPairs C n env.scope ρ ks vs) (fun c' ps ws => All2 (RelP c') ps ws) L

theorem pairs_cons {sc : Scope} {k v : Expr} {ks : List (Option Expr)} {vs : List Expr} : Mine.evalPairs C (n + 1) sc ρ (some k :: ks) (v :: vs) = (evalE C n sc ρ k).bind fun kv => (evalE C n sc ρ v).bind fun vv => (Mine.evalPairs C n sc ρ ks vs).bind fun r => M.ret ((kv, vv) :: r) := by kernel_rfl
theorem pairs_nil {sc : Scope} : Mine.evalPairs C (n + 1) sc ρ [] [] = M.ret [] := by kernel_rfl
/-- a display's parts: some, or none, or no good -/
inductive PairV (C : Cfg) (sc : Scope) (ρ : Locs) (n : Nat) : List (Option Expr) → List Expr → Prop
  | nil : PairV C sc ρ n [] []
  | cons (k : Expr) (ks : List (Option Expr)) (v : Expr) (vs : List Expr) : PairV C sc ρ n (some k :: ks) (v :: vs)
  | bad {ks vs} (h : Mine.evalPairs C (n + 1) sc ρ ks vs = M.fail) : PairV C sc ρ n ks vs
theorem pair_view {sc : Scope} : ∀ ks vs, PairV C sc ρ n ks vs
  | [], [] => .nil
  | some k :: ks, v :: vs => .cons k ks v vs
  | none :: _, [] => .bad (by kernel_rfl)
  | none :: _, _ :: _ => .bad (by kernel_rfl)
  | [], _ :: _ => .bad (by kernel_rfl)
  | some _ :: _, [] => .bad (by kernel_rfl)
theorem pr_ok (hE : EvOk U C n) (hP : PrOk U C n) : PrOk U C (n + 1) := by
  intro A env ρ c ks vs pos L R F
  cases pair_view (C := C) (sc := env.scope) (ρ := ρ) (n := n) ks vs with
  | nil => exact OkM.at2 (t' := pure []) rfl pairs_nil (OkM.pure .nil)
  | bad h => exact OkM.failAt h
  | cons k ks v vs =>
    refine OkM.at2 (t' := (eval k env >>= fun kv => PySem.holding [kv] (do let x ← eval v env; standAt pos; pure x) >>= fun vv => PySem.holding [kv, vv] (PySem.evalPairs (pairTrees ks vs env pos)) >>= fun r => pure ((kv, vv) :: r))) rfl pairs_cons ?_
    refine OkM.bindN (hE _ _ _ _ _ _ R.down F) fun c₁ p kv L₁ G₁ hk => ?_
    refine OkM.bindN (OkM.holding (m := evalE C n env.scope ρ v) (P := RelV) (by
      rw [← ret_bind (evalE C n env.scope ρ v)]
      exact OkM.bind (hE _ _ _ _ _ _ R.down (F.upN L₁)) fun c₂ q w _ _ hq => OkM.standAt (OkM.pure hq))) fun c₂ q vv L₂ G₂ hq => ?_
    exact OkM.bindN (OkM.holding (hP _ _ _ _ _ _ _ _ R.down ((F.upN L₁).upN L₂))) fun c₃ ps ws L₃ G₃ h => OkM.pure (.cons ⟨(hk.upN L₂).upN L₃, hq.upN L₃⟩ h)

inductive Shape (ks : List (Option Expr)) (vs : List Expr) (ps : List (PV × PV)) : Prop
  | mk (a : ks.all (·.isSome) = true) (b : ks.length = vs.length) (c : ps.length = ks.length)
theorem pairs_shape {sc : Scope} : ∀ {m : Nat} {ks : List (Option Expr)} {vs : List Expr} {st st' : Mine.St} {ps : List (PV × PV)}, Mine.evalPairs C m sc ρ ks vs st = some (.ok ps, st') → Shape ks vs ps
  | 0, ks, vs, st, st', ps, h => nomatch (show (M.fail : M (List (PV × PV))) st = _ from h)
  | m + 1, ks, vs, st, st', ps, h => by
    cases pair_view (C := C) (sc := sc) (ρ := ρ) (n := m) ks vs with
    | nil => rw [pairs_nil] at h; cases h; exact ⟨rfl, rfl, rfl⟩
    | bad e => rw [e] at h; exact nomatch h
    | cons k ks v vs =>
      rw [pairs_cons] at h
      rcases bind_cases h with ⟨_, q⟩ | ⟨_, _, _, h⟩
      · exact nomatch q
      rcases bind_cases h with ⟨_, q⟩ | ⟨_, _, _, h⟩
      · exact nomatch q
      rcases bind_cases h with ⟨_, q⟩ | ⟨r, _, h1, h⟩
      · exact nomatch q
      cases h
      obtain ⟨e1, e2, e3⟩ := pairs_shape h1
      exact ⟨e1, congrArg (· + 1) e2, congrArg (· + 1) e3⟩

inductive StrsOf (U : Setup) (c : Cf) (ws : List (Value × Value)) (qs : List (Str × PV)) : Prop
  | mk (kvs : List (Str × Value)) (h : Carries (strKind U.prog U.w) ws kvs) (r : All2 (fun e k => e.1 = k.1 ∧ RelC c e.2 k.2) qs kvs)
theorem strs_of {ps : List (PV × PV)} {ws : List (Value × Value)} (hr : All2 (RelP c) ps ws) : ∀ {qs : List (Str × PV)}, strsP ps = some qs → StrsOf U c ws qs := by
  induction hr with
  | nil => intro qs h; cases h; exact ⟨[], trivial, .nil⟩
  | @cons p w l m h1 _ ih =>
    intro qs h
    obtain ⟨y, l', e1, e2, rfl⟩ := mapO_cons h
    obtain ⟨x, hx, rfl⟩ := Option.map_eq_some_iff.mp e1
    obtain ⟨kvs, k1, k2⟩ := ih e2
    obtain ⟨w1, w2⟩ := w
    obtain ⟨tk, rfl⟩ : ∃ t, w1 = .str x t := by
      have h2 := h1.1
      rw [strO_of hx] at h2
      exact h2.str'
    exact ⟨(x, w2) :: kvs, ⟨strKind_is _ _ _ tk, rfl, k1⟩, .cons ⟨rfl, h1.2⟩ k2⟩

theorem fold_relS {K : Type} [DecidableEq K] : ∀ {qs : List (K × PV)} {ks : List (K × Value)} {es : List (K × PV)} {kvs : List (K × Value)}, All2 (fun e x => e.1 = x.1 ∧ RelC c e.2 x.2) qs ks → All2 (fun e x => e.1 = x.1 ∧ RelC c e.2 x.2) es kvs →
    All2 (fun e x => e.1 = x.1 ∧ RelC c e.2 x.2) (qs.foldl (fun l q => putG l q.1 q.2) es) (merged kvs ks)
  | _, _, es, kvs, .nil, h => h
  | _, _, es, kvs, .cons (a := a) (b := b) h t, h0 => by
    simp only [List.foldl_cons, merged]
    exact fold_relS t (h.1 ▸ put_rel h0 h.2)

inductive New0 (U : Setup) (c : Cf) (H : Heap) : Prop
  | mk (L : Le NoX c (c.add .dict0 H (c.h.objs.size, c.h.objs.size))) (G : Good U (c.add .dict0 H (c.h.objs.size, c.h.objs.size)))
theorem new0 (G : Good U c) : New0 U c (c.h.push { cls := .type "dict", data := .dict #[] }) := by
  have hk : ∀ b ob, c.h.get? b = some ob → (c.h.push { cls := .type "dict", data := .dict #[] }).get? b = some ob := fun b ob e => Heap.get?_push_of_some _ e
  have hz : (c.h.push { cls := .type "dict", data := .dict #[] }).objs.size = c.h.objs.size + 1 := by rw [Heap.size_push]
  have hz' : c.h.objs.size ≤ (c.h.push { cls := .type "dict", data := .dict #[] }).objs.size := by rw [hz]; exact Nat.le_succ _
  exact ⟨Cf.add_le G hk hz' (Nat.le_refl _) (Nat.le_refl _), Cf.add_good G hk hz' (Nat.le_refl _) (Nat.le_refl _) (by rw [hz]; exact Nat.lt_succ_self _) (by rw [hz]; exact Nat.lt_succ_self _) ⟨_, _, Heap.get?_push_size _ rfl, ⟨rfl, rfl, rfl⟩, rfl⟩ (.inl rfl)⟩
theorem ok_newDict {pos : Pos} : OkM U A NoX c (eval (.Dict [] [] pos) env) ((newO .dict0).bind fun k => M.ret (.loc k)) RelV L := by
  refine OkM.seen (b := .loc c.st.next) (st₁ := (c.add .dict0 c.h (0, 0)).st) rfl fun G s hs Q E hQ => wpAny_Dict_empty ?_
  obtain ⟨L1, G1⟩ := new0 G
  rw [hs]
  exact hQ _ (c.add .dict0 (c.h.push { cls := .type "dict", data := .dict #[] }) (c.h.objs.size, c.h.objs.size)) _ rfl rfl (Same.mk s _ _) ⟨L1, G1⟩ (Rel.mkLoc (x := (c.h.objs.size, c.h.objs.size)) (if_pos rfl))

theorem zeroO_of {o : MO} (h : zeroO o = true) : o = .dict0 := by cases o <;> first | rfl | cases h
inductive DispOk (ps : List (PV × PV)) (o : MO) : Prop
  | mk (qs : List (Str × PV)) (h : strsP ps = some qs) (z : ps.length ≠ 0) (l : ps.length ≤ 15) (e : o = .dictS (qs.foldl (fun l q => putG l q.1 q.2) []))
theorem disp_of {ps : List (PV × PV)} {o : MO} (h : dispO ps = some o) : DispOk ps o := by
  unfold dispO at h
  split at h
  · cases h
  rename_i hl
  obtain ⟨qs, h1, rfl⟩ := Option.map_eq_some_iff.mp h
  exact ⟨qs, h1, fun q => hl (.inl q), Nat.not_lt.mp fun q => hl (.inr q), rfl⟩
inductive DispRun (m : M (List (PV × PV))) (st : Mine.St) (r : R PV) (st' : Mine.St) : Prop
  | mk (ps : List (PV × PV)) (st₁ : Mine.St) (qs : List (Str × PV)) (h : m ⟨fun j => if j = st.next then some .dict0 else st.objs j, st.next + 1⟩ = some (.ok ps, st₁)) (o : st₁.objs st.next = some .dict0) (q : strsP ps = some qs) (z : ps.length ≠ 0) (l : ps.length ≤ 15)
    (e : r = .ok (.loc st.next)) (d : st' = { st₁ with objs := fun j => if j = st.next then some (.dictS (qs.foldl (fun l q => putG l q.1 q.2) [])) else st₁.objs j })
theorem disp_run {m : M (List (PV × PV))} {st st' : Mine.St} {r : R PV} (hm : noExc ((newO .dict0).bind fun k => m.bind fun ps => (getO k).bind fun o => if zeroO o then (M.of (dispO ps)).bind fun o' => (setO k (some o')).bind fun _ => M.ret (.loc k) else M.fail) st = some (r, st')) : DispRun m st r st' := by
  obtain ⟨p, rfl, hm0⟩ := noExc_ok hm
  clear hm
  rcases bind_cases hm0 with ⟨_, q⟩ | ⟨k, st₁, hm1, hm4⟩
  · exact nomatch q
  cases hm1
  rcases bind_cases hm4 with ⟨_, q⟩ | ⟨ps, st₂, hm2, hm5⟩
  · exact nomatch q
  rcases bind_cases hm5 with ⟨_, q⟩ | ⟨ob, st₃, hm3, hm6⟩
  · exact nomatch q
  unfold getO at hm3
  cases hob : st₂.objs st.next with
  | none => rw [hob] at hm3; exact nomatch hm3
  | some ob' =>
  rw [hob] at hm3
  cases hm3
  split at hm6
  · rename_i hz
    cases zeroO_of hz
    rcases bind_cases hm6 with ⟨_, q⟩ | ⟨o', st₄, hm7, hm8⟩
    · exact nomatch q
    cases hd : dispO ps with
    | none => rw [hd] at hm7; exact nomatch hm7
    | some o'' =>
    rw [hd] at hm7
    cases hm7
    cases hm8
    obtain ⟨qs, h1, h2, h3, rfl⟩ := disp_of hd
    exact ⟨ps, _, qs, hm2, hob, h1, h2, h3, rfl, rfl⟩
  · exact nomatch hm6
theorem ev_Dict (hP : PrOk U C n) (R : Room A (n + 1)) (F : Fk U C.hd A env ρ c) {ks : List (Option Expr)} {vs : List Expr} {pos : Pos} :
    OkM U A NoX c (eval (.Dict ks vs pos) env) (evalE C (n + 1) env.scope ρ (.Dict ks vs pos)) RelV L := by
  refine OkM.at evalE_Dict (OkM.ite (fun hks => OkM.iteT fun hvs => ?_) fun hks => ?_)
  · cases nil_of hks
    cases nil_of hvs
    exact ok_newDict
  intro G s hs r st' hm Q E hQ _
  obtain ⟨ps, st₁, qs, hm2, hob, hqs, hz, hl, rfl, rfl⟩ := disp_run hm
  clear hm
  obtain ⟨e1, e2, e3⟩ := pairs_shape hm2
  obtain ⟨L1, G1⟩ := new0 G
  rw [e3] at hz hl
  refine wpAny_Dict_walk (knd := strKind U.prog U.w) e1 e2 (fun q => hz (by rw [q]; rfl)) (by omega) ?_
  rw [hs]
  refine hP A env ρ _ ks vs pos L R.down (F.upN L1) G1 { s with heap := c.h.push { cls := .type "dict", data := .dict #[] } } rfl _ _ hm2 _ _ (fun b ws c₂ s₂ e w1 w2 w3 w4 w5 => ?_) fun e c' s' q => nomatch q
  cases e; subst w1
  obtain ⟨kvs, k1, k2⟩ := strs_of (U := U) w5 hqs
  have hmu : c₂.μ c.st.next = some (c.h.objs.size, c.h.objs.size) := w4.1.ext _ _ (if_pos rfl)
  obtain ⟨y, hy, hO, _⟩ := w4.2.objs _ _ hob
  rw [hmu] at hy; cases hy
  refine ⟨kvs, k1, w2 ▸ dict0_of (strKind U.prog U.w) hO, fun h' hd' hsb => ?_⟩
  have E2 := put_same (X := NoX) (o := .dictS (qs.foldl (fun l q => putG l q.1 q.2) [])) w4.2 (by rw [hob]; rfl) hmu (w2 ▸ hsb) (fun c' K e => ⟨_, e ▸ hd', fold_relS (k2.mono fun _ _ q => ⟨q.1, q.2.upN K⟩) .nil⟩) rfl
  exact hQ _ _ (c₂.put c.st.next (.dictS (qs.foldl (fun l q => putG l q.1 q.2) [])) h') _ rfl rfl rfl ((Same.mk s _ _).trans (w3.trans (Same.mk _ _ _))) ⟨(L1.trans w4.1).trans E2.1, E2.2⟩ (Rel.mkLoc (x := (c.h.objs.size, c.h.objs.size)) hmu)
end
end Mine
end

section
namespace Mine
open PySem PyProof PyProof.Rows

section
variable {U : Setup} {C : Cfg} {A : Around} {X : Addr → Prop} {c c' : Cf} {L : Addr} {env : Env} {ρ : Locs} {n : Nat}

/-- an exception, just made -/
inductive NewExn (Cl : Addr) (N : Nat) (h : Heap) (r : Value) : Prop
  | mk (e : Addr) (oe : Obj) (vs : Array Value) (e1 : r = .ref e) (low : N ≤ e) (g : h.get? e = some oe) (k : oe.cls = .ref Cl) (d : oe.data = .fields vs) (h1 : vs[1]? = some .none) (h2 : vs[2]? = some .none)
theorem NewExn.low' {Cl : Addr} {N N' : Nat} {h : Heap} {r : Value} (hN : N' ≤ N) : NewExn Cl N h r → NewExn Cl N' h r
  | ⟨e, oe, vs, e1, low, g, k, d, h1, h2⟩ => ⟨e, oe, vs, e1, Nat.le_trans hN low, g, k, d, h1, h2⟩
/-- the exception's own class, called with a text -/
noncomputable def LimOk (U : Setup) (C : Cfg) : Prop := ∀ A c n L m v, Room A n → A.handled = none → FramesIn U A c → RelC c (.txt m) v →
  OkM U A NoX c (call (.ref C.lim) [v]) (M.ret ()) (fun c' _ r => NewExn C.lim c.h.objs.size c'.h r) L

theorem refO_of {v : Value} {a : Addr} (h : refO v = some a) : v = .ref a := by cases v <;> first | (cases h; done) | (cases h; rfl)
theorem limA_of {v : PV} (h : limA C v = true) : v = .con (.ref C.lim) := by
  unfold limA at h
  cases e : (conO v).bind refO with
  | none => rw [e] at h; cases h
  | some a =>
    rw [e] at h
    obtain ⟨w, h1, h2⟩ := Option.bind_eq_some_iff.mp e
    rw [conO_of h1, refO_of h2, of_decide_eq_true h]

/-- an exception goes off -/
theorem raise_at (T : Top U C) (G : Good U c) {r : Value} {N : Nat} (hv : NewExn C.lim N c.h r) (hh : A.handled = none) {s : Shared} (hs : s.heap = c.h) {pos : Pos} {Q : Flow → Shared → Prop} {E : Value → Shared → Prop} (hE : E r s) :
    wpAny (model U.prog U.w) A (do
      standAt pos
      let e ← PySem.holding [] (excFromValue r "exceptions must derive from BaseException")
      let e ← if ← isType r then PySem.holding [e] (raisedFor r e) else raisedInstance e
      setFlight e none
      raiseNew e) Q E s := by
  obtain ⟨e, oe, vs, rfl, hle, hoe, hcls, hdat, h1, h2⟩ := hv
  obtain ⟨K, hK, _, _, _, hkeep, hexm, hbase, _⟩ := T.frag
  have KX : K.In s.heap := hs ▸ hK.keeps G.stays
  have hoe' : s.heap.get? e = some oe := hs ▸ hoe
  have LT : W.Looks (model U.prog U.w) s.heap (typeOf (.ref e)) (.ref C.lim) := hcls ▸ (W.Looks.ld hoe').andThen .now
  have LI : W.Looks (model U.prog U.w) s.heap (isType (.ref e)) false := by
    refine (W.Looks.ld hoe').andThen ?_
    rw [hdat]; exact .now
  have LB : W.Looks (model U.prog U.w) s.heap (isInstance (.ref e) (.type "BaseException")) true := LT.andThen (W.looks_subIn KX hbase)
  have hkit : W.kitCls K (.ref C.lim) (.ref C.lim) = some true := by
    unfold W.exmOne at hexm
    split at hexm
    · exact hexm
    · cases hexm
  obtain ⟨LTT, _, _⟩ := W.kit_cls (M := model U.prog U.w) KX hkit
  refine wpAny_bind (wpAny_standAt (wpAny_bind (wpAny_holding ?_)))
  unfold excFromValue isExcClass
  refine wpAny_bind (wpAny_bind (m := isType (.ref e)) (LI.here ?_))
  refine wpAny_pure (wpAny_bind (m := isInstance (.ref e) (.type "BaseException")) (LB.here ?_))
  refine wpAny_pure ?_
  refine wpAny_bind (m := isType (.ref e)) (LI.here ?_)
  show wpAny _ A (raisedInstance (.ref e) >>= _) _ _ _
  unfold raisedInstance
  refine wpAny_bind (wpAny_bind (m := typeOf (.ref e)) (LT.here (wpAny_bind (m := typeOf (.ref C.lim)) (LTT.here ?_))))
  rw [if_pos (show (Value.type "type" == Value.type "type") = true from beq_self_eq_true _)]
  refine wpAny_pure ?_
  unfold setFlight
  refine wpAny_bind (wpAny_bind (wpAny_field hoe' hdat h1 ?_))
  rw [if_neg (show ¬ (Value.none != Value.none) = true from by decide)]
  refine wpAny_pure ?_
  refine wpAny_bind (wpAny_handled ?_)
  rw [hh]
  exact wpAny_bind (wpAny_pure (wpAny_throw hE))

theorem limV_ok (hLim : LimOk U C) (R : Room A (n + 1)) (hh : A.handled = none) (FR : FramesIn U A c) {ps : List PV} {vs : List Value} (hv : RelLC c ps vs) : OkM U A NoX c (call (.ref C.lim) vs) (limV ps) (fun c' _ r => NewExn C.lim c.h.objs.size c'.h r) L := by
  refine arg1_ok (t := fun vs => call (.ref C.lim) vs) hv fun p v hp => OkM.ofB fun k hk => ?_
  cases txtO_of hk
  exact hLim _ _ _ _ _ _ R hh FR hp

theorem lim_call (T : Top U C) (hLim : LimOk U C) (hE : EvOk U C n) (hS : EsOk U C n) (R : Room A (n + 1)) (F : Fk U C.hd A env ρ c) (hh : A.handled = none) {z : Str} {pz p' : Pos} {args : List Expr} (hpl : plainArgs args = true) :
    OkM U A NoX c (eval (.Call (.Name z pz) args [] p') env) ((evalE C n env.scope ρ (.Name z pz)).bind fun fv => if limA C fv then (evalEs C n env.scope ρ args).bind limV else M.fail) (fun c' _ r => NewExn C.lim c.h.objs.size c'.h r) L := by
  obtain ⟨K, hK, _, _, _, hkeep, _, _, _⟩ := T.frag
  refine OkM.at2 (show eval (.Call (.Name z pz) args [] p') env = (do callWith p' (← eval (.Name z pz) env) [] (backTo p' (starEach args env)) (backToKw p' (keywordEach [] env))) from rfl) rfl (OkM.bind (hE _ _ _ _ _ _ R.down F) fun c₁ pf fv L₁ G₁ hfv => OkM.iteT fun hl => ?_)
  cases limA_of hl
  cases hfv.con'
  show OkM U A NoX c₁ (callWith p' (.ref C.lim) [] (backTo p' (starEach args env)) []) _ _ L
  exact (ok_callWith (first := []) (m := limV) (P := fun c' _ r => NewExn C.lim c₁.h.objs.size c'.h r) hS R.down (F.upN L₁) hpl True (fun h hB _ => W.keeps_K hkeep h (hK.keeps hB)) (fun _ _ _ _ => trivial) fun c₂ ps vs L₂ G₂ F₂ hvs => (limV_ok hLim R hh F₂.frames hvs).mono fun c' _ r _ _ q => q.low' L₂.size).mono fun c' _ r _ _ q => q.low' L₁.size

theorem exec_RaiseM {sc : Scope} {f : Expr} {args : List Expr} {kw : List Keyword} {p pos : Pos} {y : Option Expr} : Mine.exec C (n + 1) sc ρ (.Raise (some (.Call f args kw p)) y pos) = if C.hd = true ∨ y.isSome = true ∨ plainArgs args = false ∨ kw.isEmpty = false ∨ (nameV f).isNone = true then M.fail else (evalE C n sc ρ f).bind fun fv => if limA C fv then ((evalEs C n sc ρ args).bind limV).bind fun _ => M.exc else M.fail := by kernel_rfl
theorem exec_RaiseN {sc : Scope} {x y : Option Expr} {pos : Pos} (h : ∀ f args kw p, x ≠ some (.Call f args kw p)) : Mine.exec C (n + 1) sc ρ (.Raise x y pos) = M.fail := by
  cases x with
  | none => kernel_rfl
  | some e =>
    have h : callV1 e = none := by
      cases hc : callV1 e with
      | none => rfl
      | some q => obtain ⟨p, rfl⟩ := callV1_of hc; exact absurd rfl (h _ _ _ _)
    exact (show Mine.exec C (n + 1) sc ρ (.Raise (some e) y pos) = match callV1 e with
        | some (f, args, kw) => if C.hd = true ∨ y.isSome = true ∨ plainArgs args = false ∨ kw.isEmpty = false ∨ (nameV f).isNone = true then M.fail else (evalE C n sc ρ f).bind fun fv => if limA C fv then ((evalEs C n sc ρ args).bind limV).bind fun _ => M.exc else M.fail
        | Option.none => M.fail from by kernel_rfl).trans (by rw [h])
theorem raise_sem {e : Expr} {pos : Pos} : PySem.exec (.Raise (some e) none pos) env = (do standAt pos; let v ← eval e env; (do
    standAt pos
    let x ← PySem.holding [] (excFromValue v "exceptions must derive from BaseException")
    let x ← if ← isType v then PySem.holding [x] (raisedFor v x) else raisedInstance x
    setFlight x none
    raiseNew x)) := by
  show (do standAt pos; raiseStmt env (some (do let v ← eval e env; standAt pos; pure v)) none) = _
  unfold raiseStmt
  simp only [bind_assoc, pure_bind, Option.toList]
theorem ex_Raise (T : Top U C) (hLim : LimOk U C) (hE : EvOk U C n) (hS : EsOk U C n) (R : Room A (n + 1)) (F : Fk U C.hd A env ρ c) {x y : Option Expr} {pos : Pos} :
    OkM U A (XOf env) c (PySem.exec (.Raise x y pos) env) (Mine.exec C (n + 1) env.scope ρ (.Raise x y pos)) (RelF U C.hd A env) L := by
  by_cases hx : ∃ f args kw p, x = some (.Call f args kw p)
  · obtain ⟨f, args, kw, p', rfl⟩ := hx
    refine OkM.at exec_RaiseM (OkM.iteF fun hc => ?_)
    cases nil_of (ne_false fun h => hc (.inr (.inr (.inr (.inl h)))))
    cases y with
    | some y => exact absurd (.inr (.inl rfl)) hc
    | none =>
    cases hn : nameV f with
    | none => exact absurd (.inr (.inr (.inr (.inr (by rw [hn]; rfl))))) hc
    | some z =>
    obtain ⟨pz, rfl⟩ := nameV_of hn
    have hh := F.hand.1 ((Bool.not_eq_true _).mp fun h => hc (.inl h))
    have mk := lim_call (L := L) T hLim hE hS R F hh (z := z) (pz := pz) (p' := p') (args := args) (ne_false fun h => hc (.inr (.inr (.inl h))))
    clear hc hn
    rw [raise_sem]
    refine OkM.at (m' := ((evalE C n env.scope ρ (.Name z pz)).bind fun fv => if limA C fv then (evalEs C n env.scope ρ args).bind limV else M.fail).bind fun _ => M.exc) ?_ (OkM.standAt ?_)
    · refine Eq.trans (congrArg (M.bind _) (funext fun fv => ?_)) (M.assoc3 _ _ _).symm
      by_cases q : limA C fv = true
      · rw [if_pos q, if_pos q]
      · rw [if_neg q, if_neg q]; rfl
    intro G s hs r st' hm Q E hQ hE'
    refine wpAny_bind ?_
    rcases bind_cases hm with ⟨hm1, rfl⟩ | ⟨u, st₁, hm1, hm2⟩
    · exact mk G s hs _ _ hm1 _ _ (fun b a c' s' e => nomatch e) fun e c' s' _ w1 w2 w3 w4 w5 w6 => hE' e c' s' rfl w1 w2 w3 ⟨w4.1.weak fun _ q => q.elim, w4.2⟩ w5 w6
    cases hm2
    refine mk G s hs _ _ hm1 _ _ (fun b v c₁ s₁ e w1 w2 w3 w4 hv => raise_at T w4.2 hv hh w2 ?_) fun e c' s' q => nomatch q
    obtain ⟨e, oe, vs, rfl, hle, hoe, hcls, hdat, h1, h2⟩ := hv
    exact hE' e c₁ s₁ rfl w1 w2 w3 ⟨w4.1.weak fun _ q => q.elim, w4.2⟩ ⟨hle, oe, vs, hoe, T.lim ▸ hcls, hdat, h2, .no h1⟩ (F.upN w4.1).frames
  · exact OkM.failAt (exec_RaiseN fun f args kw p q => hx ⟨f, args, kw, p, q⟩)
end
end Mine
end

section
namespace Mine
open PySem PyProof PyProof.Rows

section
variable {U : Setup} {C : Cfg} {A : Around} {X : Addr → Prop} {c c' : Cf} {L : Addr} {env : Env} {ρ : Locs} {n : Nat}

theorem Good.no_own (G : Good U c) {a : Addr} {o : Obj} {vs : Array Value} (ho : c.h.get? a = some o) (hd : o.data = .fields vs) : ¬ Own c.μ c.st a := fun q => by
  obtain ⟨ob, h1, _, h2⟩ := G.own_kind q
  rw [ho] at h1; cases h1
  exact h2 vs hd
theorem no_dict {o : Obj} {vs : Array Value} (hd : o.data = .fields vs) (es : Array DictEntry) (m : Nat) : o.data ≠ .dict es m := fun q => by rw [hd] at q; cases q

theorem Exn.up {lo : Nat} {Cl e : Addr} (x : Exn c.h lo Cl L e) (G : Good U c) (K : Le NoX c c') : Exn c'.h lo Cl L e := by
  obtain ⟨h1, oe, vs, h2, h3, h4, h5, h6⟩ := x
  refine ⟨h1, oe, vs, K.exact h2 (G.no_own h2 h4) (fun q => q) (no_dict h4), h3, h4, h5, ?_⟩
  cases h6 with
  | no h6 => exact .no h6
  | yes T oT ts fl g1 g2 g3 g4 g5 g6 g7 g8 => exact .yes T oT ts fl g1 g2 g3 (K.exact g4 (G.no_own g4 g6) (fun q => q) (no_dict g6)) g5 g6 g7 g8

/-- what flies, seen -/
inductive ExnAt (U : Setup) (c : Cf) (e : Addr) : Prop
  | mk (oe : Obj) (vs : Array Value) (g : c.h.get? e = some oe) (k : oe.cls = .ref U.lim) (d : oe.data = .fields vs) (z : vs[2]? = some .none) (n : ¬ Own c.μ c.st e)
theorem exn_at (G : Good U c) {lo : Nat} {e : Addr} (x : Exn c.h lo U.lim L e) : ExnAt U c e := by
  obtain ⟨_, oe, vs, h2, h3, h4, h5, _⟩ := x
  exact ⟨oe, vs, h2, h3, h4, h5, G.no_own h2 h4⟩
theorem FramesIn.marked {A B : Around} (F : FramesIn U A c) (h : B.frames = A.frames := by rfl) : FramesIn U B c := let ⟨l, h1, f, n⟩ := F.all; ⟨⟨l, h.trans h1, f, n⟩⟩
/-- the same frame, an exception in hand -/
theorem Fk.mark {hd : Bool} {e : Addr} (F : Fk U hd A env ρ c) (h : ExnAt U c e) : Fk U true (A.mark (some (.ref e))) env ρ c := by
  obtain ⟨oe, vs, h1, _, h2, h3, h4⟩ := h
  refine ⟨F.kind, F.globals, F.builtins, F.ns, F.cell, F.apart, F.off, F.mine, F.frames.marked, fun q => (nomatch q), fun x hx => ?_⟩
  cases (show (some (Value.ref e)).or A.handled = some x from hx)
  exact ⟨e, oe, vs, rfl, h1, h2, h3, h4⟩
theorem Fk.unmark {hd hd' : Bool} {e : Addr} (F : Fk U hd' (A.mark (some (.ref e))) env ρ c) (hh : A.handled = none) : Fk U hd A env ρ c :=
  ⟨F.kind, F.globals, F.builtins, F.ns, F.cell, F.apart, F.off, F.mine, F.frames.marked, fun _ => hh, fun x hx => by rw [hh] at hx; cases hx⟩

/-- an exception's way is known -/
noncomputable def Told (h : Heap) (e : Addr) : Prop := ∀ oe vs, h.get? e = some oe → oe.data = .fields vs → vs[1]? ≠ some .none
theorem sta_told {l : List Env} {lo : Nat} {Cl e : Addr} {h h' : Heap} {fl : Value → Prop} (S : Sta l lo Cl e h h' fl) : Told h' e := by
  intro oe vs q1 q2 q3
  obtain ⟨_, oe', vs', T', oT, ts, ff, k1, k2, k3, k4, k5, _⟩ := S.exn
  rw [k1] at q1; cases q1
  rw [k3] at q2; cases q2
  rw [k5] at q3; cases q3
/-- the clause for the exception -/
theorem handle_ok (T : Top U C) (hE' : EvOk U { C with hd := true } n) (hSs' : SsOk U { C with hd := true } n) (R : Room A n) {outer : List Env} (hf : env.frame = some L) (hA : A.frames = some (env :: outer)) (hh : A.handled = none)
    {c₀ : Cf} {ρ : Locs} (G₀ : Good U c₀) (F₀ : Fk U C.hd A env ρ c₀) {t : Expr} {b₀ : Stmt} {suite : List Stmt} {hpos : Pos} {e : Addr} {s : Shared} {Q : Flow → Shared → Prop} {E : Value → Shared → Prop}
    (hs : s.heap = c.h) (D : Ends U NoX c₀ c) (hx : Exn c.h c₀.h.objs.size U.lim L e) (ht : Told c.h e) {r : Mine.R (Fl × Locs)} {st' : Mine.St}
    (hm : noExc ((evalE { C with hd := true } n env.scope ρ t).bind fun fv => if limA C fv then Mine.execs { C with hd := true } n env.scope ρ (b₀ :: suite) else M.fail) c.st = some (r, st'))
    (hQ : ∀ b f c' s', r = .ok b → c'.st = st' → s'.heap = c'.h → Same s s' → Ends U (XOf env) c₀ c' → RelF U C.hd A env c' b f → Q f s') :
    wpAny (model U.prog U.w) A (handleBy (.ref e) env [.ExceptHandler (some t) none (b₀ :: suite) hpos]) Q E s := by
  obtain ⟨b, rfl, hm1⟩ := noExc_ok hm
  clear hm
  have Fm : Fk U true (A.mark (some (.ref e))) env ρ c := (F₀.upN D.1).mark (exn_at D.2 hx)
  have Rm : Room (A.mark (some (.ref e))) n := R
  rcases bind_cases hm1 with ⟨_, q⟩ | ⟨fv, st₁, hm2, hm3⟩
  · exact nomatch q
  clear hm1
  refine wpAny_handleBy_cons (codeAny_handlers_test ?_) (by intro q; cases q)
  refine hE' _ env ρ c t L Rm Fm D.2 s hs _ _ hm2 _ _ (fun b' a c₁ s₁ q w1 w2 w3 w4 w5 => ?_) fun e c' s' q => nomatch q
  cases q; subst w1
  clear hm2 Fm
  by_cases hl : limA C fv = true
  · rw [if_pos hl] at hm3
    cases limA_of hl
    cases w5.con'
    have hx1 := hx.up D.2 w4.1
    have D1 : Ends U NoX c₀ c₁ := ⟨D.1.trans w4.1, w4.2⟩
    obtain ⟨oe, vs, g1, g2, g3, g4, g5⟩ := exn_at w4.2 hx1
    obtain ⟨K, hK, _, _, _, _, hexm, _⟩ := T.frag
    refine (W.exm_one (w2 ▸ hK.keeps w4.2.stays) (show W.Looks (model U.prog U.w) s₁.heap (typeOf (.ref e)) (.ref C.lim) from by
      rw [T.lim, ← g2]
      exact (W.Looks.ld (w2 ▸ g1)).andThen .now) hexm).here ?_
    refine codeAny_handlers_suite ?_
    have S1 : Sta (env :: outer) c₀.h.objs.size U.lim e c₁.h s₁.heap (fun f => f = .none ∨ f = rawInt L) := by
      rw [w2]
      refine Sta.refl hx1 fun oe' vs' q1 q2 => ?_
      obtain ⟨ob, ws, k1, _, k2, _, k3⟩ := exn_at D.2 hx
      have := w4.1.exact k1 k3 (fun q => q) (no_dict k2)
      rw [q1] at this; cases this
      exact ht _ _ k1 q2
    clear hK hexm ht D w4 hx
    refine sta_flight D1.1.size S1 fun h' S' => ?_
    have D2 := (Sta.keeps S' hA (F₀.upN D1.1).frames D1 G₀ ⟨oe, vs, g1, g2, g3⟩).1
    refine hSs' _ env ρ { c₁ with h := h' } (b₀ :: suite) L outer Rm ((F₀.upN D2.1).mark (exn_at (L := L) D2.2 (S'.toExn fun f hf => .inl hf))) hf hA D2.2 _ rfl _ _ hm3 _ _ (fun b' f c₂ s₂ q v1 v2 v3 v4 v5 => ?_) fun e c' s' q => nomatch q
    cases q
    exact hQ _ _ c₂ s₂ rfl v1 v2 ((w3.trans (Same.mk _ _ _)).trans v3) ⟨(D2.1.weak fun _ q => q.elim).trans v4.1, v4.2⟩ ⟨v5.1, v5.2.unmark hh⟩
  · rw [if_neg hl] at hm3; exact nomatch hm3

noncomputable abbrev tryM (C : Cfg) (n : Nat) (sc : Scope) (ρ : Locs) (y : Str) (e t : Expr) (hb : List Stmt) : M (Fl × Locs) := tryRun (evalE C n sc ρ e) (fun v => if isVar sc y then M.ret (.next, (y, v) :: ρ) else M.fail)
  (noExc ((evalE { C with hd := true } n sc ρ t).bind fun fv => if limA C fv then Mine.execs { C with hd := true } n sc ρ hb else M.fail))
theorem exec_TryM {sc : Scope} {b : List Stmt} {hs : List ExceptHandler} {o f : List Stmt} {pos : Pos} : Mine.exec C (n + 1) sc ρ (.Try b hs o f pos) = if C.hd = true ∨ o.isEmpty = false ∨ f.isEmpty = false then M.fail else match sole b with
      | some s => (match bodyV s with
        | some (y, e) => (match sole hs with
          | some h => (match handV h with
            | some (t, hb) => if isComp e then M.fail else tryM C n sc ρ y e t hb
            | Option.none => M.fail)
          | Option.none => M.fail)
        | Option.none => M.fail)
      | Option.none => M.fail := by kernel_rfl

/-- the body: an expression, and what becomes of it -/
theorem try_body (T : Top U C) (hE : EvOk U C n) (hE' : EvOk U { C with hd := true } n) (hSs' : SsOk U { C with hd := true } n) (R : Room A n) (G : Good U c) (F : Fk U C.hd A env ρ c) {outer : List Env} (hf : env.frame = some L) (hA : A.frames = some (env :: outer)) (hh : A.handled = none)
    {y : Str} {e t : Expr} {b₀ : Stmt} {suite : List Stmt} {hpos : Pos} {sh : Shared} (hs : sh.heap = c.h) {r : Mine.R (Fl × Locs)} {st' : Mine.St} (hm : tryM C n env.scope ρ y e t (b₀ :: suite) c.st = some (r, st'))
    {Q : Flow → Shared → Prop} {E : Value → Shared → Prop} (hQ : ∀ b f c' s', r = .ok b → c'.st = st' → s'.heap = c'.h → Same sh s' → Ends U (XOf env) c c' → RelF U C.hd A env c' b f → Q f s')
    {K : Value → Shared → Prop} (hK : ∀ v p c₁ s₁, (if isVar env.scope y then M.ret (.next, (y, p) :: ρ) else M.fail) c₁.st = some (r, st') → s₁.heap = c₁.h → Same sh s₁ → Ends U NoX c c₁ → RelC c₁ p v → K v s₁) :
    wpAny (model U.prog U.w) A (eval e env) K (fun x s₁ => wpAny (model U.prog U.w) A (noteFrame x env) (fun _ s₂ => wpAny (model U.prog U.w) A (setFlight x none) (fun _ s₃ => wpAny (model U.prog U.w) A (handleBy x env [.ExceptHandler (some t) none (b₀ :: suite) hpos]) Q E s₃) E s₂) E s₁) sh := by
  unfold tryM tryRun at hm
  cases hx : evalE C n env.scope ρ e c.st with
  | none => rw [hx] at hm; exact nomatch hm
  | some p =>
    obtain ⟨q, st₁⟩ := p
    rw [hx] at hm
    cases q with
    | ok p =>
      refine hE _ _ _ _ e L R F G sh hs _ _ hx _ _ (fun b v c₁ s₁ q w1 w2 w3 w4 w5 => ?_) fun e c' s' q => nomatch q
      cases q; subst w1
      exact hK v p c₁ s₁ hm w2 w3 w4 w5
    | exc =>
      refine hE _ _ _ _ e L R F G sh hs _ _ hx _ _ (fun b v c₁ s₁ q => nomatch q) fun x c' s' _ w1 w2 w3 w4 w5 w6 => ?_
      obtain ⟨l, hl, hff, _⟩ := w6.all
      rw [hA] at hl; cases hl
      refine sta_note (L := L) hA (w2 ▸ hff) hf (w2 ▸ w5) (w2 ▸ w4.1.size) fun h₂ S₂ => ?_
      refine sta_flight (w2 ▸ w4.1.size) S₂ fun h₃ S₃ => ?_
      rw [w2] at S₃
      subst w1
      exact handle_ok (c := { c' with h := h₃ }) (c₀ := c) T hE' hSs' R hf hA hh G F rfl (Sta.keeps S₃ hA w6 w4 G w5.obj).1 (S₃.toExn fun f hf => .inl hf) (sta_told S₃) hm fun b f c₄ s₄ q v1 v2 v3 v4 v5 => hQ b f c₄ s₄ q v1 v2 (w3.trans ((Same.mk _ _ _).trans v3)) v4 v5

theorem try_one (T : Top U C) (hE : EvOk U C n) (hE' : EvOk U { C with hd := true } n) (hSs' : SsOk U { C with hd := true } n) (R : Room A n) (F : Fk U C.hd A env ρ c) {outer : List Env} (hf : env.frame = some L) (hA : A.frames = some (env :: outer)) (hh : A.handled = none)
    {y : Str} {xp ap hpos pos : Pos} {e t : Expr} {b₀ : Stmt} {suite : List Stmt} (hcomp : isComp e = false) :
    OkM U A (XOf env) c (PySem.exec (.Try [.Assign [.Name y xp] e ap] [.ExceptHandler (some t) none (b₀ :: suite) hpos] [] [] pos) env) (tryM C n env.scope ρ y e t (b₀ :: suite)) (RelF U C.hd A env) L := by
  intro G sh hsh r st' hm Q E hQ hE''
  refine wpAny_Try_except (wpAny_execs_cons ?_)
  rw [exec_Assign1, not_comp_swaps hcomp]
  refine wpAny_bind (wpAny_standAt ?_)
  show wpAny _ A (roadS (.Name y xp) e env) _ _ _
  refine wpAny_bind (try_body T hE hE' hSs' R G F hf hA hh hsh hm hQ fun v p c₁ s₁ hm w2 w3 w4 w5 => ?_)
  rw [swap_eq F.kind (t := .Name y xp) (e := e) (r := none) rfl]
  show wpAny _ A (assign (.Name y xp) env v >>= fun _ => pure Flow.next) _ _ s₁
  rw [assign_Name]
  refine wpAny_bind (wpAny_bind (wpAny_standAt (wpAny_bindName ?_)))
  by_cases hv : isVar env.scope y = true
  · rw [if_pos hv] at hm
    cases hm
    refine store_m (L := L) (F.upN w4.1) hv w5 w4.2 s₁ w2 _ _ rfl _ _ (fun ρ' a c₂ s₂ q v1 v2 v3 v4 v5 => ?_) fun e c' s' q => nomatch q
    cases q
    exact wpAny_pure (wpAny_execs_nil (wpAny_execs_nil (hQ _ _ c₂ s₂ rfl v1 v2 (w3.trans v3) ⟨(w4.1.weak fun _ q => q.elim).trans (v4.1.weak fun a q => q.of), v4.2⟩ ⟨.next, v5⟩)))
  · rw [if_neg hv] at hm; exact nomatch hm

theorem body_of {s : Stmt} {y : Str} {e : Expr} (h : bodyV s = some (y, e)) : ∃ xp ap, s = .Assign [.Name y xp] e ap := by
  cases s with
  | Assign ts e' ap =>
    obtain ⟨t, h1, h2⟩ := Option.bind_eq_some_iff.mp (show (sole ts).bind (fun t => (nameV t).map fun x => (x, e')) = some (y, e) from h)
    obtain ⟨x, h3, h4⟩ := Option.map_eq_some_iff.mp h2
    cases h4
    obtain ⟨xp, rfl⟩ := nameV_of h3
    cases sole_of h1
    exact ⟨xp, ap, rfl⟩
  | _ => exact nomatch h
theorem hand_of {h : ExceptHandler} {t : Expr} {hb : List Stmt} (e : handV h = some (t, hb)) : ∃ b₀ suite p, h = .ExceptHandler (some t) none (b₀ :: suite) p ∧ hb = b₀ :: suite := by
  obtain ⟨t', n', b', p'⟩ := h
  cases n' with
  | some _ => exact nomatch e
  | none =>
  cases b' with
  | nil => exact nomatch e
  | cons b₀ suite =>
  cases t' with
  | none => exact nomatch e
  | some t' => cases e; exact ⟨b₀, suite, p', rfl, rfl⟩
theorem ex_Try (T : Top U C) (hE : EvOk U C n) (hE' : EvOk U { C with hd := true } n) (hSs' : SsOk U { C with hd := true } n) (R : Room A (n + 1)) (F : Fk U C.hd A env ρ c) {outer : List Env} (hf : env.frame = some L) (hA : A.frames = some (env :: outer))
    {b : List Stmt} {hs : List ExceptHandler} {o f : List Stmt} {pos : Pos} :
    OkM U A (XOf env) c (PySem.exec (.Try b hs o f pos) env) (Mine.exec C (n + 1) env.scope ρ (.Try b hs o f pos)) (RelF U C.hd A env) L := by
  refine OkM.at exec_TryM (OkM.iteF fun hc => ?_)
  cases nil_of (ne_false fun h => hc (.inr (.inl h)))
  cases nil_of (ne_false fun h => hc (.inr (.inr h)))
  have hh := F.hand.1 ((Bool.not_eq_true _).mp fun h => hc (.inl h))
  cases hb : sole b with
  | none => exact OkM.fail
  | some s =>
  cases sole_of hb
  dsimp only
  cases hbv : bodyV s with
  | none => exact OkM.fail
  | some q =>
  obtain ⟨y, e⟩ := q
  dsimp only
  cases hsh : sole hs with
  | none => exact OkM.fail
  | some h =>
  cases sole_of hsh
  dsimp only
  cases hhv : handV h with
  | none => exact OkM.fail
  | some q =>
  obtain ⟨t, hb'⟩ := q
  obtain ⟨xp, ap, rfl⟩ := body_of hbv
  obtain ⟨b₀, suite, hpos, rfl, rfl⟩ := hand_of hhv
  exact OkM.iteF fun hcomp => try_one T hE hE' hSs' R.down F hf hA hh ((Bool.not_eq_true _).mp hcomp)
end
end Mine
end

section
namespace Mine
open PySem PyProof PyProof.Rows

section
variable {U : Setup} {C : Cfg} {A : Around} {X : Addr → Prop} {c c' : Cf} {L : Addr} {env : Env} {ρ : Locs} {n : Nat}

theorem cmp_ok : CmpOk U := fun _ _ _ _ _ _ _ _ _ R ha hb => leaf_cmp0 R ha hb

structure Main (U : Setup) (C : Cfg) (n : Nat) : Prop where
  ev : EvOk U C n
  tr : TrOk U C n
  al : AllOk U C n
  bo : BoOk U C n
  es : EsOk U C n
  eo : EoOk U C n
  jo : JoOk U C n
  pr : PrOk U C n
  sr : SrOk U C n
  ct : CtOk U C n
  fn : RunOk U C n
  cv : CvOk U C n
  as : AsOk U C n
  ass : AssOk U C n
  ex : ExOk U C n
  ss : SsOk U C n

theorem main_zero : Main U C 0 where
  ev := fun _ _ _ _ _ _ _ _ => OkM.failAt evalE_0
  tr := fun _ _ _ _ _ _ _ _ => OkM.failAt (by kernel_rfl)
  al := fun _ _ _ _ _ _ _ _ _ => OkM.failAt (by kernel_rfl)
  bo := fun _ _ _ _ _ _ _ _ _ _ => OkM.failAt (by kernel_rfl)
  es := fun _ _ _ _ _ _ _ _ _ => OkM.failAt (by kernel_rfl)
  eo := fun _ _ _ _ _ _ _ _ => OkM.failAt (by kernel_rfl)
  jo := fun _ _ _ _ _ _ _ _ _ _ => OkM.failAt (by kernel_rfl)
  pr := fun _ _ _ _ _ _ _ _ _ _ => OkM.failAt (by kernel_rfl)
  sr := fun _ _ _ _ _ _ _ _ _ => OkM.failAt (by kernel_rfl)
  ct := fun _ _ _ _ _ _ _ _ _ _ _ _ _ _ _ _ _ => OkM.failAt (by kernel_rfl)
  fn := fun _ _ _ _ _ _ _ _ _ _ _ => OkC.at (by kernel_rfl) OkC.fail
  cv := fun _ _ _ _ _ _ _ _ _ _ _ _ _ => OkM.failAt (by kernel_rfl)
  as := fun _ _ _ _ _ _ _ _ _ _ _ => OkM.failAt (by kernel_rfl)
  ass := fun _ _ _ _ _ _ _ _ _ _ _ _ => OkM.failAt (by kernel_rfl)
  ex := fun _ _ _ _ _ _ _ _ _ _ _ => OkM.failAt (by kernel_rfl)
  ss := fun _ _ _ _ _ _ _ _ _ _ _ => OkM.failAt (by kernel_rfl)

theorem main_step (T : Top U C) (hLim : LimOk U C) (h : ∀ m, m ≤ n → Main U C m) (h' : ∀ m, m ≤ n → Main U { C with hd := true } m) : Main U C (n + 1) := by
  have H := h n (Nat.le_refl _)
  have H' := h' n (Nat.le_refl _)
  have hF : ∀ m, n = m + 1 → FnOk U C m := fun m e => (h m (by omega)).fn.fn
  refine ⟨?_, tr_ok cmp_ok H.ev H.tr H.al, all_ok H.tr H.al, bo_ok H.ev H.bo, es_ok H.ev H.es, eo_ok H.ev, jo_ok H.ev H.jo, pr_ok H.ev H.pr, sr_ok H.ev H.es, ct_ok (fun m hm => (h m (Nat.le_of_lt hm)).tr) H.ev, run_ok T H.ss, cv_ok T H.fn, as_ok T H.ev H.ass, ass_ok H.as H.ass, ?_, ss_ok H.ex H.ss⟩
  · intro A env ρ c e L R F
    cases e with
    | Constant k kd pos => exact ev_Constant
    | Name x pos => exact ev_Name T F
    | BoolOp op es pos => exact ev_BoolOp H.bo R F
    | BinOp l op r pos => exact ev_BinOp H.ev R F
    | UnaryOp op x pos => exact ev_UnaryOp H.ev R F
    | IfExp t b o pos => exact ev_IfExp H.ev H.tr R F
    | Dict ks vs pos => exact ev_Dict H.pr R F
    | List es pos => exact ev_List H.es R F
    | Tuple es k pos => exact ev_Tuple H.es R F
    | ListComp elt gens sc' pos => exact list_comp H.sr H.ct R F
    | Compare l ops rs pos => exact ev_Compare cmp_ok H.ev R F
    | Call f args kw pos => exact ev_Call T H.ev H.es H.cv hF R F
    | Attribute o x pos => exact ev_Attribute T H.ev R F
    | Subscript o i pos => exact ev_Subscript T H.ev H.eo R F
    | JoinedStr ps pos => exact ev_Joined H.jo R F
    | _ => exact OkM.failAt (by kernel_rfl)
  · intro A env ρ c st L outer R F hf hA
    cases st with
    | Expr e pos => exact ex_Expr H.ev R F
    | Return v pos => exact ex_Return H.ev R F
    | Assign ts e pos => exact ex_Assign H.ev H.as (fun m e => (h m (by omega)).sr) (fun m e => (h m (by omega)).ct) R F
    | If t b o pos => exact ex_If H.tr H.ss R F hf hA
    | For t e body orelse pos => exact ex_For H.ev H.as H.ss R F hf hA
    | While t body orelse pos => exact ex_While H.tr H.ss R F hf hA
    | Raise e c pos => exact ex_Raise T hLim H.ev H.es R F
    | Try b hs o f pos => exact ex_Try T H.ev H'.ev H'.ss R F hf hA
    | _ => exact OkM.failAt (by kernel_rfl)

theorem main_ok (T : Top U C) (hLim : LimOk U C) : ∀ n m, m ≤ n → Main U C m ∧ Main U { C with hd := true } m := by
  have T' : Top U { C with hd := true } := ⟨T.lim, let ⟨mg, mb, g, b, r⟩ := T.names; ⟨mg, mb, g, b, r⟩, T.sys, T.nolimit, T.fns, let ⟨K, i, a, f, m, l1, l2, l3, s, n⟩ := T.frag; ⟨K, i, a, f, m, l1, l2, l3, s, n⟩⟩
  intro n
  induction n with
  | zero => intro m hm; rw [Nat.le_zero.mp hm]; exact ⟨main_zero, main_zero⟩
  | succ n ih =>
    intro m hm
    rcases Nat.lt_or_ge n m with hlt | hge
    · rw [show m = n + 1 by omega]
      exact ⟨main_step T hLim (fun m hm => (ih m hm).1) fun m hm => (ih m hm).2, main_step (C := { C with hd := true }) T' hLim (fun m hm => (ih m hm).2) fun m hm => (ih m hm).2⟩
    · exact ih m hge
end
end Mine
end

section
open PySem PySem.W PySem.W.X PyProof.Rows
set_option maxRecDepth 100000
set_option maxHeartbeats 0
namespace Mine
noncomputable abbrev pw2 : Program := PySem.Challenge.pw_qd0014_02
noncomputable def isDefC (s : Stmt) : Bool := match s with
  | .Assign [.Name n _] _ _ => n != "__name__"
  | _ => true
noncomputable def q2 : Program := { pw2 with main := { pw2.main with body := pw2.main.body.filter isDefC } }
noncomputable def defIn (x : Str) (b : List Stmt) : Option (Arguments × List Stmt × Scope) := b.findSome? fun s => match s with
  | .FunctionDef n a b _ _ _ sc _ _ _ => if n = x then some (a, b, sc) else none
  | _ => none
noncomputable def clsIn' (x : Str) (b : List Stmt) : Option (List Stmt) := b.findSome? fun s => match s with
  | .ClassDef n _ _ b _ _ _ _ _ _ _ => if n = x then some b else none
  | _ => none
noncomputable def noDef : Arguments × List Stmt × Scope := (⟨[], [], none, [], [], none, []⟩, [], { kind := .module, names := [], isGenerator := false, isCoroutine := false, more := [] })
noncomputable def tdef (x : String) : Arguments × List Stmt × Scope := (defIn (S x) pw2.main.body).getD noDef
noncomputable def mdef (c x : String) : Arguments × List Stmt × Scope := ((clsIn' (S c) pw2.main.body).bind (defIn (S x))).getD noDef
noncomputable def fdK (d : Arguments × List Stmt × Scope) (name qual : Str) (globals : Addr) (clo : List (Str × Addr)) (dflt kwd doc mod : Value) (ann : Option Addr) (code cloT : Value) (blt : Addr) : FuncData :=
  ⟨name, qual, d.1, .stmts d.2.1, d.2.2, globals, clo, dflt, kwd, doc, mod, ann, code, cloT, blt⟩
noncomputable def eK (P : Params) (x : Str) (t : Tok) (v : Value) : DictEntry := ⟨PyData.keyHash P x, .str x t, v⟩
noncomputable def sv (x : String) (t : Nat) : Value := .str (S x) t
noncomputable def fT (t : String) (l : List Value) : Obj := ⟨.type t, none, .fields l.toArray, [].toArray⟩
noncomputable def tN (l : List Value) : Obj := ⟨.type "tuple", none, .seq l.toArray 0, [].toArray⟩
noncomputable def fN (l : List Value) : Obj := ⟨.none, none, .fields l.toArray, [].toArray⟩
noncomputable def pN (d : Arguments × List Stmt × Scope) (x q : String) : Obj := ⟨.none, none, .func (fdK d (S x) (S q) 0 [] .none .none .none .none none .none .none 0), [].toArray⟩
noncomputable def gN (d : Arguments × List Stmt × Scope) (x q : String) (m : Value) (a : Addr) : Obj := ⟨.type "function", none, .func (fdK d (S x) (S q) 3 [] .none .none .none m none (.ref a) .none 0), [].toArray⟩
noncomputable def pT (x : String) : Obj := pN (tdef x) x x
noncomputable def dK (n : Nat) (l : List DictEntry) : Obj := ⟨.type "dict", none, .dict l.toArray n, [].toArray⟩
noncomputable def frm (a b c : Addr) (m : Value) (k : Addr) : Obj := ⟨.type "frame", none, .plain, [some (.ref a), some (.ref b), some (.ref c), none, some m, none, some (.ref k)].toArray⟩
noncomputable def K2 (P : Params) : W.Frag := [
  (1, dK 2 [eK P (S "builtins") 162 (.ref 4), eK P (S "__main__") 163 (.ref 5)]),
  (2, ⟨.none, none, (.dict [eK P (S "type.__subclasses__.Exception.0") 311 (.int 110 0), eK P (S "type.__subclasses__.Exception.n") 312 (.int 1 0)].toArray 2), [].toArray⟩),
  (3, dK 29 [eK P (S "__name__") 165 (sv "law_qd0014_02" 516), eK P (S "__doc__") 166 .none, eK P (S "__package__") 167 .none, eK P (S "__loader__") 168 (.builtin "__main__.__loader__#opaque"), eK P (S "__spec__") 169 .none, eK P (S "__annotations__") 170 (.ref 6), eK P (S "__builtins__") 171 (.ref 4), eK P (S "__file__") 173 (sv "/claim/cut.py" 172), eK P (S "__cached__") 174 .none, eK P (S "_wall") 193 (.ref 21), eK P (S "least") 202 (.ref 28), eK P (S "greatest") 209 (.ref 35), eK P (S "Flat") 274 (.ref 80), eK P (S "FdError") 314 (.ref 110), eK P (S "LimitFault") 330 (.ref 123), eK P (S "MOST_SHOWN") 334 (.int 1000 333), eK P (S "within_figures") 341 (.ref 132), eK P (S "is_made") 351 (.ref 139), eK P (S "sum_of") 358 (.ref 146), eK P (S "plus") 364 (.ref 151), eK P (S "common_of") 374 (.ref 158), eK P (S "Gatherer") 515 (.ref 264), eK P (S "_law_next") 526 (.ref 275), eK P (S "_law_thing") 537 (.ref 282), eK P (S "_law_told") 543 (.ref 287), eK P (S "_law_is_told") 549 (.ref 292), eK P (S "_law_reached") 555 (.ref 297), eK P (S "_law_common") 561 (.ref 302), eK P (S "law") 567 (.ref 307)]),
  (27, fT "code" [sv "least" 196, sv "least" 197, sv "/claim/cut.py" 198, .int 5 0, .int 1 0, .int 0 0, .int 0 0, .int 3 0, .ref 22, .bool true, .int 181 0, .ref 23, .none, .ref 24, .ref 25, .ref 26, .int 200 0, .int 5 0, sv "/claim/cut.py" 201]),
  (28, gN (tdef "least") "least" "least" (sv "fdsolve.domains" 194) 27),
  (34, fT "code" [sv "greatest" 203, sv "greatest" 204, sv "/claim/cut.py" 205, .int 7 0, .int 1 0, .int 0 0, .int 0 0, .int 3 0, .ref 29, .bool true, .int 181 0, .ref 30, .none, .ref 31, .ref 32, .ref 33, .int 207 0, .int 7 0, sv "/claim/cut.py" 208]),
  (35, gN (tdef "greatest") "greatest" "greatest" (sv "fdsolve.domains" 194) 34),
  (48, fT "code" [sv "__init__" 224, sv "Flat.__init__" 225, sv "/claim/cut.py" 226, .int 12 0, .int 1 0, .int 0 0, .int 0 0, .int 3 0, .ref 43, .bool true, .int 181 0, .ref 44, .none, .ref 45, .ref 46, .ref 47, .int 228 0, .int 12 0, sv "/claim/cut.py" 229]),
  (49, gN (mdef "Flat" "__init__") "__init__" "Flat.__init__" (sv "fdsolve.flat" 210) 48),
  (55, fT "code" [sv "new_var" 231, sv "Flat.new_var" 232, sv "/claim/cut.py" 233, .int 18 0, .int 3 0, .int 0 0, .int 0 0, .int 3 0, .ref 50, .bool true, .int 181 0, .ref 51, .none, .ref 52, .ref 53, .ref 54, .int 237 0, .int 18 0, sv "/claim/cut.py" 238]),
  (56, gN (mdef "Flat" "new_var") "new_var" "Flat.new_var" (sv "fdsolve.flat" 210) 55),
  (76, fT "code" [sv "domain_of" 255, sv "Flat.domain_of" 256, sv "/claim/cut.py" 257, .int 28 0, .int 2 0, .int 0 0, .int 0 0, .int 3 0, .ref 71, .bool true, .int 181 0, .ref 72, .none, .ref 73, .ref 74, .ref 75, .int 260 0, .int 28 0, sv "/claim/cut.py" 261]),
  (77, gN (mdef "Flat" "domain_of") "domain_of" "Flat.domain_of" (sv "fdsolve.flat" 210) 76),
  (79, dK 4 [eK P (S "__module__") 219 (sv "fdsolve.flat" 210), eK P (S "__firstlineno__") 223 (.int 10 222), eK P (S "__init__") 230 (.ref 49), eK P (S "new_var") 239 (.ref 56), eK P (S "post") 247 (.ref 63), eK P (S "size") 254 (.ref 70), eK P (S "domain_of") 262 (.ref 77), eK P (S "__static_attributes__") 267 (.ref 78), eK P (S "__dict__") 269 (.ref 81), eK P (S "__weakref__") 271 (.ref 82), eK P (S "__doc__") 272 .none]),
  (80, ⟨(.type "type"), none, (.cls ⟨(S "Flat"), [.type "object"], [.ref 80, .type "object"], 79, (S "Flat"), true, [], [], false, none, false⟩), [none, none, (some (sv "Flat" 212)), (some (sv "Flat" 220)), (some (.builtin "object.__new__")), (some (.bool true))].toArray⟩),
  (88, ⟨(.type "cell"), none, (.cell (some (.ref 110))), [].toArray⟩),
  (99, fT "code" [sv "__init__" 289, sv "FdError.__init__" 290, sv "/claim/cut.py" 291, .int 33 0, .int 2 0, .int 0 0, .int 0 0, .int 3 0, .ref 94, .bool true, .int 181 0, .ref 95, .none, .ref 96, .ref 97, .ref 98, .int 295 0, .int 33 0, sv "/claim/cut.py" 296]),
  (100, ⟨(.type "function"), none, (.func (fdK (mdef "FdError" "__init__") (S "__init__") (S "FdError.__init__") 3 [((S "__class__"), 88)] .none .none .none (sv "fdsolve.errors" 275) none (.ref 99) (.ref 93) 0)), [].toArray⟩),
  (109, dK 4 [eK P (S "__module__") 284 (sv "fdsolve.errors" 275), eK P (S "__firstlineno__") 288 (.int 31 287), eK P (S "__init__") 297 (.ref 100), eK P (S "told") 304 (.ref 107), eK P (S "__static_attributes__") 306 (.ref 108), eK P (S "__weakref__") 309 (.ref 111), eK P (S "__doc__") 310 .none]),
  (110, ⟨(.type "type"), none, (.cls ⟨(S "FdError"), [.type "Exception"], [.ref 110, .type "Exception", .type "BaseException", .type "object"], 109, (S "FdError"), true, [], [.ref 123], false, none, false⟩), [(some (.ref 85)), none, (some (sv "FdError" 277)), (some (sv "FdError" 285)), (some (.builtin "Exception.__new__")), (some (.bool true))].toArray⟩),
  (122, dK 2 [eK P (S "__module__") 322 (sv "fdsolve.errors" 275), eK P (S "__firstlineno__") 326 (.int 39 325), eK P (S "__static_attributes__") 327 (.ref 121), eK P (S "__doc__") 328 .none]),
  (123, ⟨(.type "type"), none, (.cls ⟨(S "LimitFault"), [.ref 110], [.ref 123, .ref 110, .type "Exception", .type "BaseException", .type "object"], 122, (S "LimitFault"), true, [], [], false, none, false⟩), [(some (.ref 114)), none, (some (sv "LimitFault" 315)), (some (sv "LimitFault" 323)), (some (.builtin "Exception.__new__")), (some (.bool true))].toArray⟩),
  (131, fT "code" [sv "within_figures" 335, sv "within_figures" 336, sv "/claim/cut.py" 337, .int 43 0, .int 1 0, .int 0 0, .int 0 0, .int 3 0, .ref 126, .bool true, .int 181 0, .ref 127, .none, .ref 128, .ref 129, .ref 130, .int 339 0, .int 43 0, sv "/claim/cut.py" 340]),
  (132, gN (tdef "within_figures") "within_figures" "within_figures" (sv "fdsolve.values" 331) 131),
  (138, fT "code" [sv "is_made" 344, sv "is_made" 345, sv "/claim/cut.py" 346, .int 48 0, .int 2 0, .int 0 0, .int 0 0, .int 3 0, .ref 133, .bool true, .int 181 0, .ref 134, .none, .ref 135, .ref 136, .ref 137, .int 349 0, .int 48 0, sv "/claim/cut.py" 350]),
  (139, gN (tdef "is_made") "is_made" "is_made" (sv "fdsolve.sums" 342) 138),
  (145, fT "code" [sv "sum_of" 352, sv "sum_of" 353, sv "/claim/cut.py" 354, .int 50 0, .int 1 0, .int 0 0, .int 0 0, .int 3 0, .ref 140, .bool true, .int 181 0, .ref 141, .none, .ref 142, .ref 143, .ref 144, .int 356 0, .int 50 0, sv "/claim/cut.py" 357]),
  (146, gN (tdef "sum_of") "sum_of" "sum_of" (sv "fdsolve.sums" 342) 145),
  (150, fT "code" [sv "plus" 359, sv "plus" 360, sv "/claim/cut.py" 361, .int 56 0, .int 3 0, .int 0 0, .int 0 0, .int 3 0, .ref 147, .bool true, .int 181 0, .ref 148, .none, .none, .none, .ref 149, .int 362 0, .int 56 0, sv "/claim/cut.py" 363]),
  (151, gN (tdef "plus") "plus" "plus" (sv "fdsolve.sums" 342) 150),
  (157, fT "code" [sv "common_of" 365, sv "common_of" 366, sv "/claim/cut.py" 367, .int 63 0, .int 1 0, .int 0 0, .int 0 0, .int 3 0, .ref 152, .bool true, .int 181 0, .ref 153, .none, .ref 154, .ref 155, .ref 156, .int 372 0, .int 63 0, sv "/claim/cut.py" 373]),
  (158, gN (tdef "common_of") "common_of" "common_of" (sv "fdsolve.sums" 342) 157),
  (171, fT "code" [sv "__init__" 387, sv "Gatherer.__init__" 388, sv "/claim/cut.py" 389, .int 72 0, .int 1 0, .int 0 0, .int 0 0, .int 3 0, .ref 166, .bool true, .int 181 0, .ref 167, .none, .ref 168, .ref 169, .ref 170, .int 391 0, .int 72 0, sv "/claim/cut.py" 392]),
  (172, gN (mdef "Gatherer" "__init__") "__init__" "Gatherer.__init__" (sv "fdsolve.sums" 342) 171),
  (185, fT "code" [sv "bounds" 403, sv "Gatherer.bounds" 404, sv "/claim/cut.py" 405, .int 79 0, .int 2 0, .int 0 0, .int 0 0, .int 3 0, .ref 180, .bool true, .int 181 0, .ref 181, .none, .ref 182, .ref 183, .ref 184, .int 414 0, .int 79 0, sv "/claim/cut.py" 415]),
  (186, gN (mdef "Gatherer" "bounds") "bounds" "Gatherer.bounds" (sv "fdsolve.sums" 342) 185),
  (263, dK 4 [eK P (S "__module__") 382 (sv "fdsolve.sums" 342), eK P (S "__firstlineno__") 386 (.int 70 385), eK P (S "__init__") 393 (.ref 172), eK P (S "once") 402 (.ref 179), eK P (S "bounds") 416 (.ref 186), eK P (S "var_of") 424 (.ref 193), eK P (S "vars_of") 432 (.ref 200), eK P (S "strength_of") 440 (.ref 207), eK P (S "row") 446 (.ref 212), eK P (S "row_truth") 455 (.ref 219), eK P (S "told_truth") 463 (.ref 226), eK P (S "all_of") 471 (.ref 233), eK P (S "any_of") 479 (.ref 240), eK P (S "unlike") 488 (.ref 247), eK P (S "require_some") 496 (.ref 254), eK P (S "require_row") 505 (.ref 261), eK P (S "__static_attributes__") 508 (.ref 262), eK P (S "__dict__") 510 (.ref 265), eK P (S "__weakref__") 512 (.ref 266), eK P (S "__doc__") 513 .none]),
  (264, ⟨(.type "type"), none, (.cls ⟨(S "Gatherer"), [.type "object"], [.ref 264, .type "object"], 263, (S "Gatherer"), true, [], [], false, none, false⟩), [none, none, (some (sv "Gatherer" 375)), (some (sv "Gatherer" 383)), (some (.builtin "object.__new__")), (some (.bool true))].toArray⟩),
  (274, fT "code" [sv "_law_next" 518, sv "_law_next" 519, sv "/claim/cut.py" 520, .int 131 0, .int 2 0, .int 0 0, .int 0 0, .int 3 0, .ref 269, .bool true, .int 181 0, .ref 270, .none, .ref 271, .ref 272, .ref 273, .int 524 0, .int 131 0, sv "/claim/cut.py" 525]),
  (275, gN (tdef "_law_next") "_law_next" "_law_next" (sv "law_qd0014_02" 516) 274),
  (281, fT "code" [sv "_law_thing" 527, sv "_law_thing" 528, sv "/claim/cut.py" 529, .int 135 0, .int 1 0, .int 0 0, .int 0 0, .int 3 0, .ref 276, .bool true, .int 181 0, .ref 277, .none, .ref 278, .ref 279, .ref 280, .int 535 0, .int 135 0, sv "/claim/cut.py" 536]),
  (282, gN (tdef "_law_thing") "_law_thing" "_law_thing" (sv "law_qd0014_02" 516) 281),
  (286, fT "code" [sv "_law_told" 538, sv "_law_told" 539, sv "/claim/cut.py" 540, .int 149 0, .int 1 0, .int 0 0, .int 0 0, .int 3 0, .ref 283, .bool true, .int 181 0, .ref 284, .none, .none, .none, .ref 285, .int 541 0, .int 149 0, sv "/claim/cut.py" 542]),
  (287, gN (tdef "_law_told") "_law_told" "_law_told" (sv "law_qd0014_02" 516) 286),
  (291, fT "code" [sv "_law_is_told" 544, sv "_law_is_told" 545, sv "/claim/cut.py" 546, .int 152 0, .int 4 0, .int 0 0, .int 0 0, .int 3 0, .ref 288, .bool true, .int 181 0, .ref 289, .none, .none, .none, .ref 290, .int 547 0, .int 152 0, sv "/claim/cut.py" 548]),
  (292, gN (tdef "_law_is_told") "_law_is_told" "_law_is_told" (sv "law_qd0014_02" 516) 291),
  (296, fT "code" [sv "_law_reached" 550, sv "_law_reached" 551, sv "/claim/cut.py" 552, .int 160 0, .int 2 0, .int 0 0, .int 0 0, .int 3 0, .ref 293, .bool true, .int 181 0, .ref 294, .none, .none, .none, .ref 295, .int 553 0, .int 160 0, sv "/claim/cut.py" 554]),
  (297, gN (tdef "_law_reached") "_law_reached" "_law_reached" (sv "law_qd0014_02" 516) 296),
  (301, fT "code" [sv "_law_common" 556, sv "_law_common" 557, sv "/claim/cut.py" 558, .int 165 0, .int 1 0, .int 0 0, .int 0 0, .int 3 0, .ref 298, .bool true, .int 181 0, .ref 299, .none, .none, .none, .ref 300, .int 559 0, .int 165 0, sv "/claim/cut.py" 560]),
  (302, gN (tdef "_law_common") "_law_common" "_law_common" (sv "law_qd0014_02" 516) 301),
  (306, fT "code" [sv "law" 562, sv "law" 563, sv "/claim/cut.py" 564, .int 169 0, .int 1 0, .int 0 0, .int 0 0, .int 3 0, .ref 303, .bool true, .int 181 0, .ref 304, .none, .none, .none, .ref 305, .int 565 0, .int 169 0, sv "/claim/cut.py" 566]),
  (307, gN (tdef "law") "law" "law" (sv "law_qd0014_02" 516) 306)]
noncomputable def as2 : List Addr := [1, 2, 3, 27, 28, 34, 35, 48, 49, 55, 56, 76, 77, 79, 80, 88, 99, 100, 109, 110, 122, 123, 131, 132, 138, 139, 145, 146, 150, 151, 157, 158, 171, 172, 185, 186, 263, 264, 274, 275, 281, 282, 286, 287, 291, 292, 296, 297, 301, 302, 306, 307]
theorem as2_ok : ∀ P, as2 = (K2 P).map (·.1) := fun _ => by kernel_rfl
end Mine
end
section
open PySem PySem.W PySem.W.X PyProof.Rows
set_option maxRecDepth 100000
set_option maxHeartbeats 0
namespace Mine
noncomputable def k2 (P : Params) (a : Nat) : Obj := ((K2 P).lookup a).getD default
noncomputable def o12 : Obj := fN [.int 1 0, .int 0 0, .ref 20, .int 5 0, .int 0 0, .ref 27, .int 7 0, .int 0 0, .ref 34, .int 10 0, .int 0 0, .ref 41, .int 31 0, .int 0 0, .ref 91, .int 39 0, .int 0 0, .ref 119, .int 43 0, .int 0 0, .ref 131, .int 48 0, .int 0 0, .ref 138, .int 50 0, .int 0 0, .ref 145, .int 56 0, .int 0 0, .ref 150, .int 63 0, .int 0 0, .ref 157, .int 70 0, .int 0 0, .ref 164, .int 131 0, .int 0 0, .ref 274, .int 135 0, .int 0 0, .ref 281, .int 149 0, .int 0 0, .ref 286, .int 152 0, .int 0 0, .ref 291, .int 160 0, .int 0 0, .ref 296, .int 165 0, .int 0 0, .ref 301, .int 169 0, .int 0 0, .ref 306]
/-- all that lies in the heap behind the top -/
noncomputable def HF (P : Params) : List Obj := [
  boot_o_0 P, k2 P 1, k2 P 2, k2 P 3, boot_o_4 P, boot_o_5 P, boot_o_6 P, boot_o_7 P, boot_o_8 P, boot_o_9 P, boot_o_10 P, tN [], o12,
  fT "code" [sv "<module>" 182, sv "<module>" 183, sv "/claim/cut.py" 184, .int 1 0, .int 0 0, .int 0 0, .int 0 0, .int 0 0, .ref 11, .bool false, .int 181 0, .ref 12, .none, .none, .none, .none, .int 185 0, .int 1 0, sv "/claim/cut.py" 186],
  frm 13 3 3 (sv "__main__" 164) 0, tN [], fN [], tN [sv "k" 190], tN [], pT "_wall",
  fT "code" [sv "_wall" 187, sv "_wall" 188, sv "/claim/cut.py" 189, .int 1 0, .int 1 0, .int 0 0, .int 0 0, .int 3 0, .ref 15, .bool true, .int 181 0, .ref 16, .none, .ref 17, .ref 18, .ref 19, .int 191 0, .int 1 0, sv "/claim/cut.py" 192],
  gN (tdef "_wall") "_wall" "_wall" (sv "__main__" 164) 20, tN [], fN [], tN [sv "d" 199], tN [], pT "least", k2 P 27, k2 P 28, tN [], fN [],
  tN [sv "d" 206], tN [], pT "greatest", k2 P 34, k2 P 35, tN [], fT "builtin_function_or_method" [.builtin "type.__prepare__", .type "type"],
  dK 9 [eK P (S "__module__") 219 (sv "fdsolve.flat" 210), eK P (S "__qualname__") 221 (sv "Flat" 220), eK P (S "__firstlineno__") 223 (.int 10 222), eK P (S "__init__") 230 (.ref 49), eK P (S "new_var") 239 (.ref 56), eK P (S "post") 247 (.ref 63), eK P (S "size") 254 (.ref 70), eK P (S "domain_of") 262 (.ref 77), eK P (S "__static_attributes__") 267 (.ref 78)],
  tN [],
  fN [.int 12 0, .int 4 0, .ref 48, .int 18 0, .int 4 0, .ref 55, .int 22 0, .int 4 0, .ref 62, .int 25 0, .int 4 0, .ref 69, .int 28 0, .int 4 0, .ref 76],
  fT "code" [sv "Flat" 214, sv "Flat" 215, sv "/claim/cut.py" 216, .int 10 0, .int 0 0, .int 0 0, .int 0 0, .int 0 0, .ref 39, .bool false, .int 181 0, .ref 40, .none, .none, .none, .none, .int 217 0, .int 10 0, sv "/claim/cut.py" 218],
  frm 41 3 38 (sv "fdsolve.flat" 210) 0, tN [], fN [], tN [sv "self" 227], tN [], pN (mdef "Flat" "__init__") "__init__" "Flat.__init__", k2 P 48,
  k2 P 49, tN [], fN [], tN [sv "self" 234, sv "name" 235, sv "domain" 236], tN [], pN (mdef "Flat" "new_var") "new_var" "Flat.new_var", k2 P 55,
  k2 P 56, tN [], fN [], tN [sv "self" 243, sv "told" 244], tN [], pN (mdef "Flat" "post") "post" "Flat.post",
  fT "code" [sv "post" 240, sv "Flat.post" 241, sv "/claim/cut.py" 242, .int 22 0, .int 2 0, .int 0 0, .int 0 0, .int 3 0, .ref 57, .bool true, .int 181 0, .ref 58, .none, .ref 59, .ref 60, .ref 61, .int 245 0, .int 22 0, sv "/claim/cut.py" 246],
  gN (mdef "Flat" "post") "post" "Flat.post" (sv "fdsolve.flat" 210) 62, tN [], fN [], tN [sv "self" 251], tN [],
  pN (mdef "Flat" "size") "size" "Flat.size",
  fT "code" [sv "size" 248, sv "Flat.size" 249, sv "/claim/cut.py" 250, .int 25 0, .int 1 0, .int 0 0, .int 0 0, .int 3 0, .ref 64, .bool true, .int 181 0, .ref 65, .none, .ref 66, .ref 67, .ref 68, .int 252 0, .int 25 0, sv "/claim/cut.py" 253],
  gN (mdef "Flat" "size") "size" "Flat.size" (sv "fdsolve.flat" 210) 69, tN [], fN [], tN [sv "self" 258, sv "x" 259], tN [],
  pN (mdef "Flat" "domain_of") "domain_of" "Flat.domain_of", k2 P 76, k2 P 77, tN [sv "goal" 263, sv "shown" 264, sv "tolds" 265, sv "vars" 266],
  k2 P 79, k2 P 80, fT "getset_descriptor" [sv "__dict__" 268, .ref 80, .builtin "function.__dict__", .builtin "function.__dict__#set"],
  fT "getset_descriptor" [sv "__weakref__" 270, .ref 80, .builtin "ExceptionGroup.__weakref__", .none], fT "super" [.ref 80, .ref 80, .ref 80],
  fT "builtin_function_or_method" [.builtin "object.__init_subclass__", .ref 80], tN [.type "Exception"],
  fT "builtin_function_or_method" [.builtin "type.__prepare__", .type "type"],
  dK 7 [eK P (S "__module__") 284 (sv "fdsolve.errors" 275), eK P (S "__qualname__") 286 (sv "FdError" 285), eK P (S "__firstlineno__") 288 (.int 31 287), eK P (S "__init__") 297 (.ref 100), eK P (S "told") 304 (.ref 107), eK P (S "__static_attributes__") 306 (.ref 108), eK P (S "__classcell__") 307 (.ref 88)],
  k2 P 88, tN [], fN [.int 33 0, .int 4 0, .ref 99, .int 37 0, .int 4 0, .ref 106],
  fT "code" [sv "FdError" 279, sv "FdError" 280, sv "/claim/cut.py" 281, .int 31 0, .int 0 0, .int 0 0, .int 0 0, .int 0 0, .ref 89, .bool false, .int 181 0, .ref 90, .none, .none, .none, .none, .int 282 0, .int 31 0, sv "/claim/cut.py" 283],
  frm 91 3 87 (sv "fdsolve.errors" 275) 0, tN [.ref 88], tN [sv "__class__" 292], fN [], tN [sv "self" 293, sv "what" 294], tN [],
  pN (mdef "FdError" "__init__") "__init__" "FdError.__init__", k2 P 99, k2 P 100, tN [], fN [], tN [sv "self" 301], tN [],
  pN (mdef "FdError" "told") "told" "FdError.told",
  fT "code" [sv "told" 298, sv "FdError.told" 299, sv "/claim/cut.py" 300, .int 37 0, .int 1 0, .int 0 0, .int 0 0, .int 3 0, .ref 101, .bool true, .int 181 0, .ref 102, .none, .ref 103, .ref 104, .ref 105, .int 302 0, .int 37 0, sv "/claim/cut.py" 303],
  gN (mdef "FdError" "told") "told" "FdError.told" (sv "fdsolve.errors" 275) 106, tN [sv "what" 305], k2 P 109, k2 P 110,
  fT "getset_descriptor" [sv "__weakref__" 308, .ref 110, .builtin "ExceptionGroup.__weakref__", .none], fT "super" [.ref 110, .ref 110, .ref 110],
  fT "builtin_function_or_method" [.builtin "object.__init_subclass__", .ref 110], tN [.ref 110],
  fT "builtin_function_or_method" [.builtin "type.__prepare__", .type "type"],
  dK 4 [eK P (S "__module__") 322 (sv "fdsolve.errors" 275), eK P (S "__qualname__") 324 (sv "LimitFault" 323), eK P (S "__firstlineno__") 326 (.int 39 325), eK P (S "__static_attributes__") 327 (.ref 121)],
  tN [], fN [],
  fT "code" [sv "LimitFault" 317, sv "LimitFault" 318, sv "/claim/cut.py" 319, .int 39 0, .int 0 0, .int 0 0, .int 0 0, .int 0 0, .ref 117, .bool false, .int 181 0, .ref 118, .none, .none, .none, .none, .int 320 0, .int 39 0, sv "/claim/cut.py" 321],
  frm 119 3 116 (sv "fdsolve.errors" 275) 0, tN [], k2 P 122, k2 P 123, fT "super" [.ref 123, .ref 123, .ref 123],
  fT "builtin_function_or_method" [.builtin "object.__init_subclass__", .ref 123], tN [], fN [], tN [sv "number" 338], tN [], pT "within_figures",
  k2 P 131, k2 P 132, tN [], fN [], tN [sv "value" 347, sv "kind" 348], tN [], pT "is_made", k2 P 138, k2 P 139, tN [], fN [], tN [sv "value" 355],
  tN [], pT "sum_of", k2 P 145, k2 P 146, tN [], fN [], pT "plus", k2 P 150, k2 P 151, tN [], fN [],
  tN [sv "numbers" 368, sv "found" 369, sv "a" 370, sv "rest" 371], tN [], pT "common_of", k2 P 157, k2 P 158, tN [],
  fT "builtin_function_or_method" [.builtin "type.__prepare__", .type "type"],
  dK 18 [eK P (S "__module__") 382 (sv "fdsolve.sums" 342), eK P (S "__qualname__") 384 (sv "Gatherer" 383), eK P (S "__firstlineno__") 386 (.int 70 385), eK P (S "__init__") 393 (.ref 172), eK P (S "once") 402 (.ref 179), eK P (S "bounds") 416 (.ref 186), eK P (S "var_of") 424 (.ref 193), eK P (S "vars_of") 432 (.ref 200), eK P (S "strength_of") 440 (.ref 207), eK P (S "row") 446 (.ref 212), eK P (S "row_truth") 455 (.ref 219), eK P (S "told_truth") 463 (.ref 226), eK P (S "all_of") 471 (.ref 233), eK P (S "any_of") 479 (.ref 240), eK P (S "unlike") 488 (.ref 247), eK P (S "require_some") 496 (.ref 254), eK P (S "require_row") 505 (.ref 261), eK P (S "__static_attributes__") 508 (.ref 262)],
  tN [],
  fN [.int 72 0, .int 4 0, .ref 171, .int 76 0, .int 4 0, .ref 178, .int 79 0, .int 4 0, .ref 185, .int 87 0, .int 4 0, .ref 192, .int 90 0, .int 4 0, .ref 199, .int 93 0, .int 4 0, .ref 206, .int 96 0, .int 4 0, .ref 211, .int 110 0, .int 4 0, .ref 218, .int 113 0, .int 4 0, .ref 225, .int 116 0, .int 4 0, .ref 232, .int 119 0, .int 4 0, .ref 239, .int 122 0, .int 4 0, .ref 246, .int 125 0, .int 4 0, .ref 253, .int 128 0, .int 4 0, .ref 260],
  fT "code" [sv "Gatherer" 377, sv "Gatherer" 378, sv "/claim/cut.py" 379, .int 70 0, .int 0 0, .int 0 0, .int 0 0, .int 0 0, .ref 162, .bool false, .int 181 0, .ref 163, .none, .none, .none, .none, .int 380 0, .int 70 0, sv "/claim/cut.py" 381],
  frm 164 3 161 (sv "fdsolve.sums" 342) 0, tN [], fN [], tN [sv "self" 390], tN [], pN (mdef "Gatherer" "__init__") "__init__" "Gatherer.__init__",
  k2 P 171, k2 P 172, tN [], fN [], tN [sv "self" 397, sv "key" 398, sv "domain" 399], tN [], pN (mdef "Gatherer" "once") "once" "Gatherer.once",
  fT "code" [sv "once" 394, sv "Gatherer.once" 395, sv "/claim/cut.py" 396, .int 76 0, .int 3 0, .int 0 0, .int 0 0, .int 3 0, .ref 173, .bool true, .int 181 0, .ref 174, .none, .ref 175, .ref 176, .ref 177, .int 400 0, .int 76 0, sv "/claim/cut.py" 401],
  gN (mdef "Gatherer" "once") "once" "Gatherer.once" (sv "fdsolve.sums" 342) 178, tN [], fN [],
  tN [sv "self" 406, sv "value" 407, sv "total" 408, sv "low" 409, sv "high" 410, sv "x" 411, sv "a" 412, sv "ends" 413], tN [],
  pN (mdef "Gatherer" "bounds") "bounds" "Gatherer.bounds", k2 P 185, k2 P 186, tN [], fN [], tN [sv "self" 420, sv "value" 421], tN [],
  pN (mdef "Gatherer" "var_of") "var_of" "Gatherer.var_of",
  fT "code" [sv "var_of" 417, sv "Gatherer.var_of" 418, sv "/claim/cut.py" 419, .int 87 0, .int 2 0, .int 0 0, .int 0 0, .int 3 0, .ref 187, .bool true, .int 181 0, .ref 188, .none, .ref 189, .ref 190, .ref 191, .int 422 0, .int 87 0, sv "/claim/cut.py" 423],
  gN (mdef "Gatherer" "var_of") "var_of" "Gatherer.var_of" (sv "fdsolve.sums" 342) 192, tN [], fN [], tN [sv "self" 428, sv "some" 429], tN [],
  pN (mdef "Gatherer" "vars_of") "vars_of" "Gatherer.vars_of",
  fT "code" [sv "vars_of" 425, sv "Gatherer.vars_of" 426, sv "/claim/cut.py" 427, .int 90 0, .int 2 0, .int 0 0, .int 0 0, .int 3 0, .ref 194, .bool true, .int 181 0, .ref 195, .none, .ref 196, .ref 197, .ref 198, .int 430 0, .int 90 0, sv "/claim/cut.py" 431],
  gN (mdef "Gatherer" "vars_of") "vars_of" "Gatherer.vars_of" (sv "fdsolve.sums" 342) 199, tN [], fN [], tN [sv "self" 436, sv "some" 437], tN [],
  pN (mdef "Gatherer" "strength_of") "strength_of" "Gatherer.strength_of",
  fT "code" [sv "strength_of" 433, sv "Gatherer.strength_of" 434, sv "/claim/cut.py" 435, .int 93 0, .int 2 0, .int 0 0, .int 0 0, .int 3 0, .ref 201, .bool true, .int 181 0, .ref 202, .none, .ref 203, .ref 204, .ref 205, .int 438 0, .int 93 0, sv "/claim/cut.py" 439],
  gN (mdef "Gatherer" "strength_of") "strength_of" "Gatherer.strength_of" (sv "fdsolve.sums" 342) 206, tN [], fN [],
  pN (mdef "Gatherer" "row") "row" "Gatherer.row",
  fT "code" [sv "row" 441, sv "Gatherer.row" 442, sv "/claim/cut.py" 443, .int 96 0, .int 3 0, .int 0 0, .int 0 0, .int 3 0, .ref 208, .bool true, .int 181 0, .ref 209, .none, .none, .none, .ref 210, .int 444 0, .int 96 0, sv "/claim/cut.py" 445],
  gN (mdef "Gatherer" "row") "row" "Gatherer.row" (sv "fdsolve.sums" 342) 211, tN [], fN [], tN [sv "self" 450, sv "kind" 451, sv "value" 452], tN [],
  pN (mdef "Gatherer" "row_truth") "row_truth" "Gatherer.row_truth",
  fT "code" [sv "row_truth" 447, sv "Gatherer.row_truth" 448, sv "/claim/cut.py" 449, .int 110 0, .int 3 0, .int 0 0, .int 0 0, .int 3 0, .ref 213, .bool true, .int 181 0, .ref 214, .none, .ref 215, .ref 216, .ref 217, .int 453 0, .int 110 0, sv "/claim/cut.py" 454],
  gN (mdef "Gatherer" "row_truth") "row_truth" "Gatherer.row_truth" (sv "fdsolve.sums" 342) 218, tN [], fN [], tN [sv "self" 459, sv "told" 460], tN [],
  pN (mdef "Gatherer" "told_truth") "told_truth" "Gatherer.told_truth",
  fT "code" [sv "told_truth" 456, sv "Gatherer.told_truth" 457, sv "/claim/cut.py" 458, .int 113 0, .int 2 0, .int 0 0, .int 0 0, .int 3 0, .ref 220, .bool true, .int 181 0, .ref 221, .none, .ref 222, .ref 223, .ref 224, .int 461 0, .int 113 0, sv "/claim/cut.py" 462],
  gN (mdef "Gatherer" "told_truth") "told_truth" "Gatherer.told_truth" (sv "fdsolve.sums" 342) 225, tN [], fN [], tN [sv "self" 467, sv "truths" 468],
  tN [], pN (mdef "Gatherer" "all_of") "all_of" "Gatherer.all_of",
  fT "code" [sv "all_of" 464, sv "Gatherer.all_of" 465, sv "/claim/cut.py" 466, .int 116 0, .int 2 0, .int 0 0, .int 0 0, .int 3 0, .ref 227, .bool true, .int 181 0, .ref 228, .none, .ref 229, .ref 230, .ref 231, .int 469 0, .int 116 0, sv "/claim/cut.py" 470],
  gN (mdef "Gatherer" "all_of") "all_of" "Gatherer.all_of" (sv "fdsolve.sums" 342) 232, tN [], fN [], tN [sv "self" 475, sv "truths" 476], tN [],
  pN (mdef "Gatherer" "any_of") "any_of" "Gatherer.any_of",
  fT "code" [sv "any_of" 472, sv "Gatherer.any_of" 473, sv "/claim/cut.py" 474, .int 119 0, .int 2 0, .int 0 0, .int 0 0, .int 3 0, .ref 234, .bool true, .int 181 0, .ref 235, .none, .ref 236, .ref 237, .ref 238, .int 477 0, .int 119 0, sv "/claim/cut.py" 478],
  gN (mdef "Gatherer" "any_of") "any_of" "Gatherer.any_of" (sv "fdsolve.sums" 342) 239, tN [], fN [], tN [sv "self" 483, sv "one" 484, sv "other" 485],
  tN [], pN (mdef "Gatherer" "unlike") "unlike" "Gatherer.unlike",
  fT "code" [sv "unlike" 480, sv "Gatherer.unlike" 481, sv "/claim/cut.py" 482, .int 122 0, .int 3 0, .int 0 0, .int 0 0, .int 3 0, .ref 241, .bool true, .int 181 0, .ref 242, .none, .ref 243, .ref 244, .ref 245, .int 486 0, .int 122 0, sv "/claim/cut.py" 487],
  gN (mdef "Gatherer" "unlike") "unlike" "Gatherer.unlike" (sv "fdsolve.sums" 342) 246, tN [], fN [], tN [sv "self" 492, sv "truths" 493], tN [],
  pN (mdef "Gatherer" "require_some") "require_some" "Gatherer.require_some",
  fT "code" [sv "require_some" 489, sv "Gatherer.require_some" 490, sv "/claim/cut.py" 491, .int 125 0, .int 2 0, .int 0 0, .int 0 0, .int 3 0, .ref 248, .bool true, .int 181 0, .ref 249, .none, .ref 250, .ref 251, .ref 252, .int 494 0, .int 125 0, sv "/claim/cut.py" 495],
  gN (mdef "Gatherer" "require_some") "require_some" "Gatherer.require_some" (sv "fdsolve.sums" 342) 253, tN [], fN [],
  tN [sv "self" 500, sv "kind" 501, sv "value" 502], tN [], pN (mdef "Gatherer" "require_row") "require_row" "Gatherer.require_row",
  fT "code" [sv "require_row" 497, sv "Gatherer.require_row" 498, sv "/claim/cut.py" 499, .int 128 0, .int 3 0, .int 0 0, .int 0 0, .int 3 0, .ref 255, .bool true, .int 181 0, .ref 256, .none, .ref 257, .ref 258, .ref 259, .int 503 0, .int 128 0, sv "/claim/cut.py" 504],
  gN (mdef "Gatherer" "require_row") "require_row" "Gatherer.require_row" (sv "fdsolve.sums" 342) 260, tN [sv "flat" 506, sv "made" 507], k2 P 263,
  k2 P 264, fT "getset_descriptor" [sv "__dict__" 509, .ref 264, .builtin "function.__dict__", .builtin "function.__dict__#set"],
  fT "getset_descriptor" [sv "__weakref__" 511, .ref 264, .builtin "ExceptionGroup.__weakref__", .none], fT "super" [.ref 264, .ref 264, .ref 264],
  fT "builtin_function_or_method" [.builtin "object.__init_subclass__", .ref 264], tN [], fN [], tN [sv "feed" 521, sv "many" 522, sv "k" 523], tN [],
  pT "_law_next", k2 P 274, k2 P 275, tN [], fN [], tN [sv "feed" 530, sv "way" 531, sv "found" 532, sv "place" 533, sv "great" 534], tN [],
  pT "_law_thing", k2 P 281, k2 P 282, tN [], fN [], pT "_law_told", k2 P 286, k2 P 287, tN [], fN [], pT "_law_is_told", k2 P 291, k2 P 292, tN [],
  fN [], pT "_law_reached", k2 P 296, k2 P 297, tN [], fN [], pT "_law_common", k2 P 301, k2 P 302, tN [], fN [], pT "law", k2 P 306, k2 P 307]
/-- the top's own statements, its names and its code -/
noncomputable def bE : List Stmt := behindTheImports pw2
noncomputable def envT : Env := { scope := pw2.main.scope, locals := mainNs, globals := mainNs, cells := [], code := .ref 13, frame := some 14 }
noncomputable abbrev cT : Code := .body bE envT
noncomputable abbrev annT : Option Value := some (.ref 6)
noncomputable abbrev pos0 : Pos := ⟨0, 0, 0, 0⟩
noncomputable def plant : List Obj → Nat → BT → BT
  | [], _, t => t
  | o :: l, i, t => plant l (i + 1) (t.ins i o)
noncomputable def stT (l : List Obj) (n k : Nat) (os : OsState) : SharedT := ⟨plant l 0 .nil, n, {}, #[], boot_drawn, k, os⟩
/-- a dict with its first entries alone, the first of them so -/
noncomputable def cutD (k : Nat) (v : Value) (o : Obj) : Obj := match o with
  | ⟨c, d, .dict es _, sl⟩ => match es.toList with
    | e :: l => ⟨c, d, .dict (⟨e.hash, e.key, v⟩ :: l.take (k - 1)).toArray k, sl⟩
    | [] => o
  | _ => o
noncomputable def cutF (k : Nat) (o : Obj) : Obj := match o with
  | ⟨c, d, .fields xs, sl⟩ => ⟨c, d, .fields (xs.toList.take k).toArray, sl⟩
  | _ => o
/-- the states between the pieces -/
noncomputable def stA (P : Params) (os : OsState) : SharedT := stT (((((HF P).take 15).set 2 (boot_o_2 P)).set 3 (boot_o_3 P)).set 12 (cutF 0 o12)) 15 187 os
noncomputable def st5 (P : Params) (os : OsState) : SharedT := stT (((((HF P).take 85).set 2 (boot_o_2 P)).set 3 (cutD 13 (sv "fdsolve.flat" 210) (k2 P 3))).set 12 (cutF 12 o12)) 85 275 os
noncomputable def gs5 : List Stmt := bE.take 6
noncomputable abbrev pos5 : Pos := ⟨10, 0, 29, 30⟩
noncomputable def st8 (P : Params) (os : OsState) : SharedT := stT ((((HF P).take 126).set 3 (cutD 15 (sv "fdsolve.errors" 275) (k2 P 3))).set 12 (cutF 18 o12)) 126 331 os
noncomputable def gs8 : List Stmt := (bE.drop 6).take 3
noncomputable abbrev pos8 : Pos := ⟨39, 0, 40, 8⟩
noncomputable def st16 (P : Params) (os : OsState) : SharedT := stT ((((HF P).take 159).set 3 (cutD 21 (sv "fdsolve.sums" 342) (k2 P 3))).set 12 (cutF 33 o12)) 159 375 os
noncomputable def gs16 : List Stmt := (bE.drop 9).take 8
noncomputable abbrev pos16 : Pos := ⟨63, 0, 69, 16⟩
noncomputable def st17 (P : Params) (os : OsState) : SharedT := stT ((((HF P).take 269).set 3 (cutD 22 (sv "fdsolve.sums" 342) (k2 P 3))).set 12 (cutF 36 o12)) 269 516 os
noncomputable def gs17 : List Stmt := (bE.drop 17).take 1
noncomputable abbrev pos17 : Pos := ⟨70, 0, 129, 17⟩
noncomputable def st25 (P : Params) (os : OsState) : SharedT := stT (HF P) 308 568 os
noncomputable def gs25 : List Stmt := (bE.drop 18)
noncomputable abbrev pos25 : Pos := ⟨169, 0, 192, 44⟩
noncomputable def hpF (P : Params) : Heap := ⟨(HF P).toArray, {}⟩
noncomputable abbrev shF (w : World) (os : OsState) : Shared := ⟨hpF w.params, #[], boot_drawn, 568, os⟩
end Mine
end
section
open PySem PySem.W PySem.W.X PyProof.Rows
set_option maxRecDepth 100000
set_option maxHeartbeats 0
namespace Mine
theorem seg_pre (w : World) (os : OsState) : topGo treeTable pw2 w 11 annT 12 ⟨boot_heap w.params, #[], boot_drawn, boot_toks, os⟩ (topStub pw2) = some ((stA w.params os).abs, ⟨denote treeTable cT, cT, pos0, [topFrame pos0]⟩) := by kernel_rfl!
theorem seg_block (w : World) (os : OsState) : segRunT treeTable pw2 w 11 annT 1 1 (stA w.params os) (blockOf bE envT cT pos0 [topFrame pos0]) = some (.next, stA w.params os, cT, pos0) := by kernel_rfl!
theorem seg5 (w : World) (os : OsState) : segRunT treeTable pw2 w 11 annT 1 458 (stA w.params os) (piecesOf gs5 envT cT pos0 [topFrame pos0]) = some (.next, st5 w.params os, cT, pos5) := by kernel_rfl!
theorem seg8 (w : World) (os : OsState) : segRunT treeTable pw2 w 11 annT 1 498 (st5 w.params os) (piecesOf gs8 envT cT pos5 [topFrame pos0]) = some (.next, st8 w.params os, cT, pos8) := by kernel_rfl!
theorem seg16 (w : World) (os : OsState) : segRunT treeTable pw2 w 11 annT 1 174 (st8 w.params os) (piecesOf gs16 envT cT pos8 [topFrame pos0]) = some (.next, st16 w.params os, cT, pos16) := by kernel_rfl!
theorem seg17 (w : World) (os : OsState) : segRunT treeTable pw2 w 11 annT 1 645 (st16 w.params os) (piecesOf gs17 envT cT pos16 [topFrame pos0]) = some (.next, st17 w.params os, cT, pos17) := by kernel_rfl!
theorem seg25 (w : World) (os : OsState) : segRunT treeTable pw2 w 11 annT 1 204 (st17 w.params os) (piecesOf gs25 envT cT pos17 [topFrame pos0]) = some (.next, st25 w.params os, cT, pos25) := by kernel_rfl!
end Mine
end
section
open PySem PySem.W PySem.W.X PyProof.Rows
set_option maxRecDepth 100000
set_option maxHeartbeats 0
namespace Mine
theorem abs_fin (P : Params) (os : OsState) : (st25 P os).abs = ⟨hpF P, #[], boot_drawn, 568, os⟩ := by kernel_rfl!
theorem seg_fin (w : World) (os : OsState) : topRun treeTable pw2 w 11 annT 2 (shF w os) ⟨doneF .next, cT, pos25, [topFrame pos0]⟩ = some (shF w os) := by kernel_rfl!
theorem look1 (w : World) (os : OsState) : (staticsOk (importedModules pw2.main.body) (boot_heap w.params) (hpF w.params) && namesBound pw2 (hpF w.params) && gensDone (shF w os) && laidKept (boot_heap w.params) (hpF w.params)) = true := by kernel_rfl!
theorem look2 (w : World) (os : OsState) : openSeen q2 [] (importedModules pw2.main.body) (fun s => xlAt q2 [] s && recOk [] s) true (shF w os) = openGood q2 [] := by kernel_rfl!
theorem look3 (w : World) (os : OsState) : Hook.obs (kHook K2 as2 as2_ok) (shF w os) = Hook.val (kHook K2 as2 as2_ok) w := by kernel_rfl!
theorem gs_all : bE = gs5 ++ (gs8 ++ (gs16 ++ (gs17 ++ (gs25 ++ [])))) := by kernel_rfl
theorem run2 (w : World) (os : OsState) : topRun treeTable pw2 w 11 annT (12 + (1 + (458 + (498 + (174 + (645 + (204 + 2))))))) ⟨boot_heap w.params, #[], boot_drawn, boot_toks, os⟩ (topStub pw2) = some (shF w os) := by
  have k := seg_fin w os
  unfold shF at k
  rw [← abs_fin] at k
  have h := (piece_app (segRun_of (seg5 w os)) (piece_app (segRun_of (seg8 w os)) (piece_app (segRun_of (seg16 w os)) (piece_app (segRun_of (seg17 w os)) (piece_app (segRun_of (seg25 w os)) (piece_nil k))))))
  rw [← gs_all, abs_fin] at h
  exact go_top (seg_pre w os) (piece_block (segRun_of (seg_block w os)) h)
theorem left2 : LeftO pw2 q2 [] (fun s => xlAt q2 [] s && recOk [] s) (Hook.obs (kHook K2 as2 as2_ok)) (Hook.val (kHook K2 as2 as2_ok)) 4100 :=
  LeftO.of_pieces (H₁ := hpF) (boot_open (by kernel_rfl) (by kernel_rfl) fun s => by kernel_rfl) (fun w => by kernel_rfl) run2 (by kernel_rfl) fun w => funext fun os => Prod.ext (look1 w os) (Prod.ext (look2 w os) (look3 w os))
end Mine
end

section
open PySem PySem.W PySem.W.X PyProof.Rows PySem.Calls
set_option Elab.async false
set_option maxRecDepth 100000
set_option maxHeartbeats 0
namespace Mine
theorem lim_new {w : World} {A : Around} {h : Heap} {g : Array GenState} {d : Drawn} {t : Nat} {os : OsState} (X : (K2 w.params).In h) {v : Value} {Q : Value → Shared → Prop} {E : Value → Shared → Prop}
    (hQ : Q (.ref (h.objs.size + 1)) ⟨(h.push { cls := .type "tuple", data := .seq [v].toArray }).push { cls := .ref 123, data := .fields #[.ref h.objs.size, .none, .none, .none, .bool false, .none] }, g, d, t, os⟩) :
    wpAny (model pw2 w) A (call (.builtin "Exception.__new__") [.ref 123, v]) Q E ⟨h, g, d, t, os⟩ := by
  obtain ⟨oc, od, cd, sl, hC, hdel⟩ : ∃ oc od cd sl, h.get? 123 = some ⟨oc, od, .cls cd, sl⟩ ∧ cd.hasDel = false := ⟨_, _, _, _, X 123 _ rfl, rfl⟩
  have F := PySem.F.excBase_Exception
  have hstar := F.noStar
  have hm : Looks (model pw2 w) h (mroOf (.ref 123)) [.ref 123, .ref 110, .type "Exception", .type "BaseException", .type "object"] := (looks_clsIn X rfl).andThen .now
  have made : Looks (model pw2 w) h (Bind.madeBy (.ref 123)) (some "Exception.__new__") := by
    intro A Q E s k q
    unfold Bind.madeBy
    refine wpAny_bind (hm A _ E s k ?_)
    rw [List.forIn_cons]
    refine wpAny_bind (wpAny_bind (wpAny_bind (wpAny_bind (wpAny_loadPart (k _ _ (X 123 _ rfl)) (wpAny_pure ?_)))))
    exact wpAny_pure (wpAny_pure (wpAny_pure q))
  have base : Looks (model pw2 w) h (Bind.staticBase (.ref 123)) (.ref 123) := by
    intro A Q E s k q
    unfold Bind.staticBase
    refine wpAny_bind (hm A _ E s k ?_)
    rw [List.forIn_cons]
    exact wpAny_bind (wpAny_bind (wpAny_bind (made A _ E s k (wpAny_pure (wpAny_pure (wpAny_pure q))))))
  have s1 : Looks (model pw2 w) h (isSubtype (.ref 123) (.type "Exception")) true := looks_subIn X (by kernel_rfl)
  have s2 : Looks (model pw2 w) h (isSubtype (.ref 123) (.type "AttributeError")) false := looks_subIn X (by kernel_rfl)
  have s3 : Looks (model pw2 w) h (isSubtype (.ref 123) (.type "NameError")) false := looks_subIn X (by kernel_rfl)
  have s4 : Looks (model pw2 w) h (isSubtype (.ref 123) (.type "BaseException")) true := looks_subIn X (by kernel_rfl)
  have here : ∀ id, Manifest.canonical "Exception.__new__" = Manifest.canonical id → Looks (model pw2 w) h (Bind.madeHere id (.ref 123)) () := fun id e => base.andThen (made.andThen (Looks.of_pure (by simp only [Option.map_some, e, bne_self_eq_false, Bool.false_eq_true, if_false])))
  have h1 := here _ rfl
  have h2 := here _ F.canon
  refine wpAny_call (codeAny_call_builtin_code (Code.quiet_builtin _ F.quiet) ?_)
  simp only [checkBuiltinCall, F.newKind, F.newSplit, F.newRow]
  repeat (first | refine wpAny_loadPart_at hC ?_ | (with_reducible refine Looks.at (by assumption) ?_) | simp only [bne_self_eq_false, Bool.false_eq_true, if_false] | wp_step)
  have hends := F.ends
  refine codeAny_builtinAt F.entry ?_
  unfold Builtin.«BaseException.__new__»
  refine PySem.wpAt_bind ?_
  show PySem.wpAt _ _ _ (stack >>= _) _ _ _
  refine PySem.wpAt_bind (PySem.wpAt_stack fun p below => PySem.wpAt_of_wpAny ?_)
  wp_walk
  refine PySem.wpAt_of_wpAny ?_
  rw [F.owner]
  repeat (first | with_reducible refine wpAny_loadPart_at hC ?_ | (with_reducible refine Looks.at (by assumption) ?_) | wp_step)
  all_goals (try (show Q _ _; rw [Heap.size_push]; exact hQ))
  all_goals (rename_i z; exact Bool.noConfusion (hdel.symm.trans z))
end Mine
end

section
open PySem PySem.W PySem.W.X PyProof.Rows PySem.Calls
set_option Elab.async false
set_option maxRecDepth 100000
set_option maxHeartbeats 0
namespace Mine
noncomputable abbrev exc1 (b : Addr) : Obj := { cls := .ref 123, data := .fields #[.ref b, .none, .none, .none, .bool false, .none] }
theorem lim_make {w : World} {A : Around} {h : Heap} {g : Array GenState} {d : Drawn} {t : Nat} {os : OsState} (X : (K2 w.params).In h)
   {v : Value} {R : Result → Shared → Prop}
   (hQ : ∀ a b h', h'.get? a = some (exc1 b) → (∀ y o, h.get? y = some o → h'.get? y = some o) → h.objs.size ≤ a → codeAny (model pw2 w) (A.under (.builtin "type.__call__" ⟨[.ref 123, v], []⟩)) (.call (.ref 100) ⟨[.ref a, v], []⟩) (InitBack a R) ⟨h', g, d, t, os⟩) :
   codeAny (model pw2 w) A (.call (.ref 123) ⟨[v], []⟩) R ⟨h, g, d, t, os⟩ := by
  obtain ⟨oc, od, cd, sl, hC⟩ : ∃ oc od cd sl, h.get? 123 = some ⟨oc, od, .cls cd, sl⟩ := ⟨_, _, _, _, X 123 _ rfl⟩
  have call : Looks (model pw2 w) h (specialOf (.ref 123) "__call__") (some (.builtin "type.__call__")) := looks_specialIn X (by kernel_rfl)
  have typ : Looks (model pw2 w) h (isInstance (.ref 123) (.type "type")) true := looks_instIn X (by kernel_rfl)
  refine codeAny_of_tree ?_
  show wpAny _ _ (callAny (.ref 123) _) _ _ _
  refine nd_load hC ?_
  show wpAny _ _ (callAny.viaDunder (.ref 123) _) _ _ _
  unfold callAny.viaDunder
  refine wpAny_bind (call.at ?_)
  dsimp only
  rw [tc_bind]
  refine wpAny_bind (wpAny_pure (wpAny_bind (wpAny_pure ?_)))
  refine wpAny_pure (a := Fin.again (.call (.builtin "type.__call__") ⟨[.ref 123, v], []⟩)) (And.intro rfl ?_)
  refine codeAny_call_builtin_at (Code.quiet_builtin _ (by decide +kernel)) entry_typeCall (check_slot tc_kind tc_split typ (tc_args _ _ _) ?_)
  unfold Builtin.«type.__call__»
  have hm : Looks (model pw2 w) h (mroOf (.ref 123)) [.ref 123, .ref 110, .type "Exception", .type "BaseException", .type "object"] := (looks_clsIn X rfl).andThen .now
  have made : Looks (model pw2 w) h (Bind.madeBy (.ref 123)) (some "Exception.__new__") := by
    intro A Q E s k q
    unfold Bind.madeBy
    refine wpAny_bind (hm A _ E s k ?_)
    rw [List.forIn_cons]
    refine wpAny_bind (wpAny_bind (wpAny_bind (wpAny_bind (wpAny_loadPart (k _ _ (X 123 _ rfl)) (wpAny_pure ?_)))))
    exact wpAny_pure (wpAny_pure (wpAny_pure q))
  have k : ∀ y o, h.get? y = some o → ((h.push { cls := .type "tuple", data := .seq [v].toArray }).push (exc1 h.objs.size)).get? y = some o := fun y o e => Heap.get?_push_of_some _ (Heap.get?_push_of_some _ e)
  have X' := X.keeps k
  have hx : ((h.push { cls := .type "tuple", data := .seq [v].toArray }).push (exc1 h.objs.size)).get? (h.objs.size + 1) = some (exc1 h.objs.size) := by heap_get
  have t1 : Looks (model pw2 w) _ (typeOf (.ref (h.objs.size + 1))) (.ref 123) := (Looks.ld hx).andThen .now
  have s1 : Looks (model pw2 w) _ (isSubtype (.ref 123) (.ref 123)) true := looks_subIn X' (by kernel_rfl)
  have i1 : Looks (model pw2 w) _ (typeLookup (.ref 123) "__init__") (some (.ref 100)) := looks_findIn X' (by kernel_rfl)
  have b1 := bind_fn (M := model pw2 w) X' (.ref (h.objs.size + 1)) (f := 100) (by kernel_rfl)
  repeat (first | (with_reducible refine lim_new X ?_) | (with_reducible refine wpAny_call ?_) | (with_reducible refine nd_load hx ?_) | simp only [List.isEmpty_cons, Bool.false_eq_true, if_false, Bool.not_true] | lk)
  refine codeAny_mono (hQ _ _ _ hx k (Nat.le_succ _)) fun r s' z => ?_
  rcases r with e | (v | _ | _ | _) <;> first | exact z | exact z.elim | skip
  obtain ⟨rfl, z⟩ := z
  exact wpAny_pure (wpAny_pure z)
end Mine
end

section
open PySem PySem.W PySem.W.X PyProof.Rows PySem.Calls
set_option Elab.async false
set_option maxRecDepth 100000
set_option maxHeartbeats 0
namespace Mine
theorem lim_set {w : World} {A : Around} {h : Heap} {g : Array GenState} {d : Drawn} {t : Nat} {os : OsState} (X : (K2 w.params).In h) {x : Addr} {vs : Array Value} {v : Value} {Q : Unit → Shared → Prop} {E : Value → Shared → Prop}
    (hx : h.get? x = some ⟨.ref 123, none, .fields vs, #[]⟩)
    (hq : ∀ h' t' dx, h'.get? x = some ⟨.ref 123, some dx, .fields vs, #[]⟩ → (∀ b o, b ≠ x → h.get? b = some o → h'.get? b = some o) → h.objs.size ≤ h'.objs.size → Q () ⟨h', g, d, t', os⟩) :
    wpAny (model pw2 w) A (setAttr (.ref x) (S "what") v) Q E ⟨h, g, d, t, os⟩ := by
  have I : InstAt h x ⟨.ref 123, none, .fields vs, #[]⟩ 123 none := ⟨hx, rfl, rfl, trivial⟩
  have hm : Looks (model pw2 w) h (mroOf (.ref 123)) [.ref 123, .ref 110, .type "Exception", .type "BaseException", .type "object"] := (looks_clsIn X rfl).andThen .now
  have sub : Looks (model pw2 w) h (isInstance (.ref x) (.type "object")) true := I.type.andThen (looks_subIn X (by kernel_rfl))
  have hn : Looks (model pw2 w) h (typeLookup (.ref 123) (S "what")) none := looks_findIn X (by kernel_rfl)
  have SF := PySem.F.store_Exception
  refine set_plain X I (by kernel_rfl) ?_
  refine codeAny_call_builtin SF.slot.plain SF.entry (@check_slot (model pw2 w) _ _ ⟨h, g, d, t + 1, os⟩ "object.__setattr__" "object" "__setattr__" (.ref x) [.str (S "what") t, v] [] _ SF.kind SF.split sub (SF.args (.ref x) (.str (S "what") t) v) ?_)
  rw [osa_eq, refuse_eq]
  refine wpAny_bind (wpAny_bind (I.type.here (wpAny_bind (hm.here ?_))))
  rw [refuseLoop_ref, refuseLoop_ref, SF.passes]
  refine wpAny_pure (wpAny_bind (I.type.here (wpAny_bind (hn.here (wpAny_bind (wpAny_pure ?_))))))
  refine wpAny_bind (wpAny_pure (wpAny_bind (wpAny_bind (wpAny_loadPart hx (wpAny_bind ((looks_clsIn X rfl).here ?_))))))
  have hx₁ : (h.push { cls := .type "dict", data := .dict #[] }).get? x = some _ := Heap.get?_push_of_some _ hx
  have hxs : x ≠ h.objs.size := Nat.ne_of_lt (Heap.lt_size hx)
  refine wpAny_bind (wpAny_alloc' ?_)
  refine wpAny_bind (wpAny_update' hx₁ ?_)
  refine wpAny_pure ?_
  have hgd : ((h.push { cls := .type "dict", data := .dict #[] }).update x fun o => { cls := o.cls, dict := some h.objs.size, data := o.data, slots := o.slots }).get? h.objs.size
      = some { cls := .type "dict", data := .dict #[] } := (Heap.get?_update_ne _ _ _ _ hxs.symm).trans (Heap.get?_push_at rfl rfl)
  have hnd : ((h.push { cls := .type "dict", data := .dict #[] }).update x fun o => { cls := o.cls, dict := some h.objs.size, data := o.data, slots := o.slots }).Ns h.objs.size (fun _ => none) :=
    ⟨_, #[], _, hgd, rfl, fun e he => absurd he (by simp), fun _ => rfl⟩
  refine wpAny_bind (wpAny_pure (wpAny_bind (wpAny_nsSet1 (Heap.Ns1.of_empty hnd) fun h' hn' hs => ?_)))
  obtain ⟨oD, esD, epD, hoD, hdD, hcD⟩ := hn'.count (Within.cons (S "what") v Within.nil)
  refine wpAny_bind (wpAny_lookBehind hoD (by rw [hdD]; exact pastItsLine_dict (Nat.le_trans hcD (by rw [List.length_cons, List.length_nil, sizeLine_eq]; omega))) ?_)
  refine wpAny_pure ?_
  refine hq h' _ h.objs.size ?_ (fun b ob hbx hb => ?_) ?_
  · exact (hs.2 x hxs).trans (Heap.get?_update_self _ hx₁ rfl)
  · exact (hs.2 b (Nat.ne_of_lt (Heap.lt_size hb))).trans ((Heap.get?_update_ne _ _ _ _ hbx).trans (Heap.get?_push_of_some _ hb))
  · exact Nat.le_of_lt (Heap.lt_size hoD)

noncomputable abbrev wrapO (x : Addr) : Obj := { cls := .type "method-wrapper", data := .fields #[.builtin "Exception.__init__", .ref x] }
set_option hygiene false in
local macro_rules | `(tactic| x_close) => `(tactic| (rename_i D; exact hQ _ _ D))
theorem get_run {w : World} {A : Around} {h : Heap} {g : Array GenState} {d : Drawn} {t : Nat} {os : OsState} (X : (K2 w.params).In h) {x : Addr} {vs : Array Value}
    (hx : h.get? x = some ⟨.ref 123, none, .fields vs, #[]⟩) {Q : Value → Shared → Prop} {E : Value → Shared → Prop}
    (hQ : ∀ a h', Mem h h' [] [(a, wrapO x)] → Q (.ref a) ⟨h', g, d, t, os⟩) : wpAny (model pw2 w) A (call (.builtin "wrapper_descriptor.__get__") [.builtin "Exception.__init__", .ref x, .ref 123]) Q E ⟨h, g, d, t, os⟩ := by
  x_run
end Mine
end

section
open PySem PySem.W PySem.W.X PyProof.Rows PySem.Calls
set_option Elab.async false
set_option maxRecDepth 100000
set_option maxHeartbeats 0
namespace Mine
theorem mro_after : (([.ref 123, .ref 110, .type "Exception", .type "BaseException", .type "object"] : List Value).dropWhile (· != .ref 110)).drop 1 = [.type "Exception", .type "BaseException", .type "object"] := by kernel_rfl
theorem wd_type : typeOf (.builtin "Exception.__init__") = pure (.type "wrapper_descriptor") := by kernel_rfl
theorem wd_get : typeLookup (.type "wrapper_descriptor") "__get__" = pure (some (.builtin "wrapper_descriptor.__get__")) := by rw [typeLookup_type, builtinLookup_eq_fast]; kernel_rfl
theorem lim_ga {prog : Program} {w : World} {A : Around} {h : Heap} {g : Array GenState} {d : Drawn} {t : Nat} {os : OsState} {K : Frag} (X : K.In h) {x so D C : Addr} {l₀ l : List Value} {tk : Tok}
    (hso : h.get? so = some { cls := .type "super", dict := none, data := .fields #[.ref D, .ref x, .ref C], slots := #[] }) (hno : Looks (model prog w) h (opaqueClassAbove (.ref C)) none)
    (hC : Looks (model prog w) h (mroOf (.ref C)) l₀) (hl : (l₀.dropWhile (· != .ref D)).drop 1 = l)
    (hf : alongIn K "__init__" l = some (some (.builtin "Exception.__init__"))) (hxC : x ≠ C) {Q : Fin → Shared → Prop} {E : Value → Shared → Prop}
    (hg : wpAny (model prog w) A (call (.builtin "wrapper_descriptor.__get__") [.builtin "Exception.__init__", .ref x, .ref C]) (fun v s' => Q (.done (.ret v)) s') E ⟨h, g, d, t, os⟩) :
    wpAny (model prog w) A (Builtin.«super.__getattribute__» ⟨[.ref so, .str "__init__" tk], []⟩) Q E ⟨h, g, d, t, os⟩ := by
  have hne : (Value.ref x == Value.ref C) = false := by simp [hxC]
  have hdt : ({ cls := .type "super", dict := none, data := .fields #[.ref D, .ref x, .ref C], slots := #[] } : Obj).data = .fields #[.ref D, .ref x, .ref C] := rfl
  have f0 : (#[.ref D, .ref x, .ref C] : Array Value)[0]? = some (.ref D) := rfl
  have f1 : (#[.ref D, .ref x, .ref C] : Array Value)[1]? = some (.ref x) := rfl
  have f2 : (#[.ref D, .ref x, .ref C] : Array Value)[2]? = some (.ref C) := rfl
  have hn : (("__init__" : Str) == ("__class__" : Str)) = false := by decide +kernel
  unfold Builtin.«super.__getattribute__»
  iterate 40 (first
    | (with_reducible refine wpAny_field hso hdt f0 ?_) | (with_reducible refine wpAny_field hso hdt f1 ?_) | (with_reducible refine wpAny_field hso hdt f2 ?_)
    | (with_reducible refine ks_wpAny_notOpaque hno ?_)
    | (with_reducible refine Looks.at hC ?_; rw [hl])
    | (refine ks_forIn_along X (fun _ _ => rfl) rfl ?_ hf)
    | (with_reducible refine wpAny_of_eq wd_type ?_) | (with_reducible refine wpAny_of_eq wd_get ?_)
    | (simp only [hn, hne, Bool.or_false, Bool.false_eq_true, if_false])
    | (with_reducible refine wpAny_mono hg (fun v s' z => ?_) fun _ _ z => z)
    | wp_step
    | dsimp only
    | skip)
  all_goals exact z

theorem lim_gm {prog : Program} {w : World} {A : Around} {h : Heap} {g : Array GenState} {d : Drawn} {t : Nat} {os : OsState} {K : Frag} (X : K.In h) {x so D C : Addr} {l₀ l : List Value}
    (hso : h.get? so = some { cls := .type "super", dict := none, data := .fields #[.ref D, .ref x, .ref C], slots := #[] }) (hno : Looks (model prog w) h (opaqueClassAbove (.ref C)) none)
    (hC : Looks (model prog w) h (mroOf (.ref C)) l₀) (hl : (l₀.dropWhile (· != .ref D)).drop 1 = l)
    (hf : alongIn K "__init__" l = some (some (.builtin "Exception.__init__"))) (hxC : x ≠ C) {pl : Sem Bool} {Q : Value × List Value → Shared → Prop} {E : Value → Shared → Prop}
    (hg : ∀ A' (Q' : Value → Shared → Prop), (∀ r s', Q (.ref r, []) s' → Q' (.ref r) s') → wpAny (model prog w) A' (call (.builtin "wrapper_descriptor.__get__") [.builtin "Exception.__init__", .ref x, .ref C]) Q' (fun _ _ => False) ⟨h, g, d, t + 1, os⟩) :
    wpAny (model prog w) A (getMethod (.ref so) "__init__" pl) Q E ⟨h, g, d, t, os⟩ := by
  have hlk := PySem.F.ks_slot_super_ga.lookup
  have hcan := PySem.F.ks_canon_super_ga
  have hT : ∀ t', (⟨h, g, d, t', os⟩ : Shared).TypeIs (.ref so) "super" := fun _ => ⟨_, hso, rfl⟩
  unfold getMethod
  refine wpAny_bind (wpAny_specialOf (hT _) hlk ?_)
  show wpAny _ _ (if (Manifest.canonical "super.__getattribute__" != "object.__getattribute__") = true then _ else _) _ _ _
  rw [if_pos hcan]
  unfold getAttr getAttrBy
  refine wpAny_bind (wpAny_bind (wpAny_mkText (wpAny_holding (wpAny_bind (wpAny_typeOf (hT _) (wpAny_bind (wpAny_of_eq hlk ?_)))))))
  show wpAny _ _ (getAttrByItsOwn (.ref so) (.str "__init__" t) (.type "super") (.builtin "super.__getattribute__") true false) _ _ _
  unfold getAttrByItsOwn hookBefore callGetattribute boundAndCalled
  refine wpAny_bind (wpAny_of_eq (show (if onTheHeap (.type "super") then typeLookup (.type "super") "__getattr__" else pure none) = pure none from rfl) ?_)
  refine wpAny_bind (wpAny_attempt (wpAny_holding ?_))
  show wpAny _ _ (bindSpecial (.builtin "super.__getattribute__") (.ref so) >>= _) _ _ _
  refine wpAny_bind (wpAny_of_eq (PySem.F.ks_slot_super_ga.bind _) ?_)
  refine wpAny_mono (Q := fun v s' => ∃ r, v = .ref r ∧ Q (.ref r, []) s') (E := fun _ _ => False)
    (wpAny_call_entry PySem.F.ks_slot_super_ga (hT _) PySem.F.ks_entry_super_ga (lim_ga X hso hno hC hl hf hxC (hg _ _ fun r s' z => ⟨_, rfl, ⟨_, rfl, z⟩⟩)) (PySem.F.ks_gaArgs_super _ _)) (fun v s' hv => ?_) fun _ _ z => z.elim
  obtain ⟨r, rfl, hv⟩ := hv
  exact wpAny_pure (wpAny_pure hv)
end Mine
end

section
open PySem PySem.W PySem.W.X PyProof.Rows PySem.Calls
set_option Elab.async false
set_option maxRecDepth 100000
set_option maxHeartbeats 0
namespace Mine
theorem lim_base {prog : Program} {w : World} {A : Around} {E : Value → Shared → Prop} {s : Shared} {e t0 : Addr} {ob : Obj} {vs : Array Value} {v : Value} {Q : Fin → Shared → Prop} (he : s.heap.get? e = some ob) (hd : ob.data = .fields vs) (h0 : vs[0]? = some (.ref t0))
    (h : Q (.done (.ret .none)) { s with heap := (s.heap.push { cls := .type "tuple", data := .seq #[v] }).update e (Obj.mapFields (·.setIfInBounds 0 (.ref s.heap.objs.size))) }) :
    wpAny (model prog w) A (Builtin.«BaseException.__init__» ⟨[.ref e, v], []⟩) Q E s := by
  unfold Builtin.«BaseException.__init__»
  dsimp only
  rw [if_neg (by simp)]
  unfold newTuple Builtin.BaseException.bexcPut
  have hsz : 0 < vs.size := (Array.getElem?_eq_some_iff.mp h0).1
  have he₁ := Heap.get?_push_of_some (h := s.heap) { cls := .type "tuple", data := .seq #[v] } he
  refine wpAny_bind (wpAny_newObj_type (wpAny_bind (wpAny_bind (wpAny_field he₁ hd h0 (wpAny_bind (wpAny_setField he₁ hd hsz ?_))))) (by size_fits))
  exact wpAny_letGo (wpAny_pure h)
theorem bound_ok {M : Model} {A : Around} {E : Value → Shared → Prop} {h : Heap} {g : Array GenState} {d : Drawn} {t : Nat} {os : OsState} {x : Addr} {ox : Obj} {oc : Value} {od : Option Addr} {sl : Array (Option Value)} {cd : ClassData} {v : Value} {Q : Unit → Shared → Prop}
    (hx : h.get? x = some ox) (hc : ox.cls = .ref 123) (hC : h.get? 123 = some ⟨oc, od, .cls cd, sl⟩) (hq : Q () ⟨h, g, d, t, os⟩) : wpAny M A (checkBoundCall "Exception.__init__" ⟨[.ref x, v], []⟩) Q E ⟨h, g, d, t, os⟩ := by
  have F := PySem.F.excCall_Exception
  unfold checkBoundCall
  rw [F.initRow]
  dsimp only
  rw [F.initKind]
  dsimp only
  rw [if_pos (by decide)]
  repeat (first | (with_reducible refine wpAny_loadPart_at hx ?_; rw [hc]) | (with_reducible refine wpAny_loadPart_at hC ?_) | wp_step)
  exact hq
theorem lim_bi {prog : Program} {w : World} {A : Around} {E : Value → Shared → Prop} {s : Shared} {r x t0 : Addr} {v b5 : Value} {Q : Value → Shared → Prop} {oc : Value} {od : Option Addr} {sl : Array (Option Value)} {cd : ClassData} (hC : s.heap.get? 123 = some ⟨oc, od, .cls cd, sl⟩) (hr : s.heap.get? r = some (wrapO x))
    (hx : s.heap.get? x = some ⟨.ref 123, none, .fields #[.ref t0, .none, .none, .none, .bool false, b5], #[]⟩)
    (h : ∀ h' t1, h'.get? x = some ⟨.ref 123, none, .fields #[.ref t1, .none, .none, .none, .bool false, b5], #[]⟩ → (∀ b o, b ≠ x → s.heap.get? b = some o → h'.get? b = some o) → s.heap.objs.size ≤ h'.objs.size → Q .none { s with heap := h' }) :
    wpAny (model prog w) A (call (.ref r) [v]) Q E s := by
  refine wpAny_call (codeAny_of_tree ?_)
  show wpAny _ A.in1 (callAny (.ref r) ⟨[v], []⟩) _ _ _
  unfold callAny
  refine wpAny_bind (wpAny_load hr ?_)
  show wpAny _ _ (checkBoundCall "Exception.__init__" ⟨[.ref x, v], []⟩ >>= _) _ _ _
  refine wpAny_bind (bound_ok hx rfl hC ?_)
  refine (wpAny_pure ⟨Code.quiet_builtin _ (by decide +kernel), codeAny_builtin PySem.F.excCall_Exception.initEntry (lim_base hx rfl rfl ?_)⟩)
  refine h _ s.heap.objs.size ?_ (fun b o hb ho => ?_) ?_
  · rw [Heap.get?_update_self _ (Heap.get?_push_of_some _ hx) rfl]; rfl
  · rw [Heap.get?_update_other _ _ (Ne.symm hb)]; exact Heap.get?_push_of_some _ ho
  · rw [Heap.size_after_update, Heap.size_push]; exact Nat.le_succ _
end Mine
end

section
open PySem PySem.W PySem.W.X PyProof.Rows PySem.Calls
set_option Elab.async false
set_option maxRecDepth 100000
set_option maxHeartbeats 0
namespace Mine
theorem init_body : (mdef "FdError" "__init__").2.1 = [.Expr (.Call (.Attribute (.Call (.Name "super" ⟨34, 8, 34, 13⟩) [] [] ⟨34, 8, 34, 15⟩) "__init__" ⟨34, 8, 34, 24⟩) [.Name "what" ⟨34, 25, 34, 29⟩] [] ⟨34, 8, 34, 30⟩) ⟨34, 8, 34, 30⟩, .Assign [.Attribute (.Name "self" ⟨35, 8, 35, 12⟩) "what" ⟨35, 8, 35, 17⟩] (.Name "what" ⟨35, 20, 35, 24⟩) ⟨35, 8, 35, 24⟩] := by kernel_rfl
noncomputable def fd100 : FuncData := fdK (mdef "FdError" "__init__") (S "__init__") (S "FdError.__init__") 3 [((S "__class__"), 88)] .none .none .none (.str (S "fdsolve.errors") 275) none (.ref 99) (.ref 93) 0
theorem wrap_keeper {M : Model} {h : Heap} {r x : Addr} (hr : h.get? r = some (wrapO x)) : ∃ k, (k = Keeper.frame ∨ k = Keeper.machine ∨ k = Keeper.boundFrame) ∧ Looks M h (keeperOf (.ref r)) k :=
  ⟨.machine, .inr (.inl rfl), (Looks.ld (part := none) hr).andThen .now⟩
theorem lim_frame {w : World} {A : Around} (hroom : A.depth < recursionLimit) {h : Heap} {g : Array GenState} {d : Drawn} {t : Nat} {os : OsState} (X : (K2 w.params).In h) (NL : h.NoLimit) {mg mb : Str → Option Value} (TG : h.Ns mainGlobals mg) (TB : h.Ns builtinsNs mb) (hmb : mb "super" = some (.type "super"))
    {x t0 : Addr} {v b5 : Value} {R : Result → Shared → Prop} (hx : h.get? x = some ⟨.ref 123, none, .fields #[.ref t0, .none, .none, .none, .bool false, b5], #[]⟩) (hxK : ∀ a o, (K2 w.params).lookup a = some o → a ≠ x)
    (hR : ∀ h' t' t1 dx, h'.get? x = some ⟨.ref 123, some dx, .fields #[.ref t1, .none, .none, .none, .bool false, b5], #[]⟩ → (∀ b o, b ≠ x → h.get? b = some o → h'.get? b = some o) → h.objs.size ≤ h'.objs.size → R (.ok (.ret .none)) ⟨h', g, d, t', os⟩) :
    codeAny (model pw2 w) A (.call (.ref 100) ⟨[.ref x, v], []⟩) R ⟨h, g, d, t, os⟩ := by
  have hb := init_body
  have hbind : bindArgs fd100 ⟨[.ref x, v], []⟩ = pure [(S "self", .ref x), (S "what", v)] := by kernel_rfl
  have hxl := Heap.lt_size hx
  refine ks_codeAny_call_defAt (fd := fd100) (o := ⟨.type "function", none, .func fd100, [].toArray⟩) (binds := [(S "self", .ref x), (S "what", v)]) hroom (X 100 _ (by kernel_rfl)) rfl NL (codeRec_of X (by kernel_rfl)) (show fd100.body = .stmts _ from congrArg FuncBody.stmts hb) (.of_eq hbind) (by
    have e : fd100.scope.names = [(S "self", .local), (S "what", .local), (S "__class__", .free), (S "super", .globalImplicit)] := by kernel_rfl
    rw [e]; decide) (by
    have e : fd100.scope.names = [(S "self", .local), (S "what", .local), (S "__class__", .free), (S "super", .globalImplicit)] := by kernel_rfl
    rw [e]; intro y hy
    rcases List.mem_cons.mp hy with rfl | hy
    · rfl
    · rcases List.mem_cons.mp hy with rfl | hy
      · rfl
      · cases hy) (fun h₀ hns hk₀ => ?_) (by kernel_rfl) (by kernel_rfl) (by kernel_rfl)
  have X0 : (K2 w.params).In h₀ := X.keeps hk₀
  have kS : (callEnv fd100 h.objs.size 100).kindOf "super" = some .globalImplicit := by kernel_rfl
  have kC : (callEnv fd100 h.objs.size 100).kindOf "__class__" = some .free := by kernel_rfl
  have kSelf : (callEnv fd100 h.objs.size 100).kindOf "self" = some .local := by kernel_rfl
  have kW : (callEnv fd100 h.objs.size 100).kindOf "what" = some .local := by kernel_rfl
  have kF : (callEnv fd100 h.objs.size 100).scope.kind = .function := by kernel_rfl
  obtain ⟨ar, har, hn⟩ : ∃ ar : Arg, (fd100.params.posonlyargs ++ fd100.params.args).head? = some ar ∧ ar.arg = S "self" := ⟨_, rfl, rfl⟩
  have c110 : h₀.get? 110 = some _ := X0 110 _ (by rfl)
  have c123 : h₀.get? 123 = some _ := X0 123 _ (by rfl)
  have ns : mg "super" = none := mg_none_of X TG (by kernel_rfl)
  have hx0 := hk₀ _ _ hx
  refine ks_wpAt_execs_cons (ks_wpAt_Expr_any (ks_wpAt_MethodCall (pl := ?pl) (ks_wpAt_super_base (f := 100) (cc := 99) (fd := fd100) kS kC (by decide +kernel) rfl (X0 100 _ (by rfl)) rfl har rfl (X0 99 _ (by rfl)) rfl rfl (by kernel_rfl) (by kernel_rfl) ?_) ?he) ?hi ?hs)
  case he => rfl
  case hi => rfl
  case hs => rfl
  refine ks_loadName_global kF kS (loadGlobal_builtin (mg := mg) (mb := mb) (TG.keeps hk₀) ns (TB.keeps hk₀) hmb ⟨rfl, ?_⟩)
  refine wpAny_loadName_free (c := 88) kF kC (by kernel_rfl) ⟨_, X0 88 _ (by rfl), rfl⟩ ?_
  rw [hn]
  refine wpAny_loadName_local kF kSelf hns rfl ?_
  refine ks_wpAny_isType_cls c110 rfl ⟨rfl, ?_⟩
  refine ks_wpAny_call_super c110 rfl hx0 rfl (fun c e => by cases e) (looks_subIn X0 (by kernel_rfl)) (fun h1 hso k1 => ?_)
  have X1 : (K2 w.params).In h1 := X0.keeps k1
  have hx1 := k1 _ _ hx0
  refine lim_gm X1 hso (looks_opaque X1 (by kernel_rfl)) ((looks_clsIn X1 rfl).andThen .now) mro_after (by kernel_rfl) (ks_ne X1 (⟨hx1, rfl, rfl, trivial⟩ : W.InstAt h1 x _ 123 none) rfl) (fun A' Q' z => get_run X1 hx1 fun r h2 D => z r _ ?_)
  have k2 : ∀ b o, h1.get? b = some o → h2.get? b = some o := fun b o e => D.keep b o e (by simp [away])
  have hr2 := (D.nw (r, wrapO x) (.head _)).1
  have hx2 := k2 _ _ hx1
  have c123' : h2.get? 123 = some _ := k2 _ _ (k1 _ _ c123)
  have hLx : h.objs.size ≠ x := Nat.ne_of_gt hxl
  refine callWith_of (P := fun hh => hh.get? r = some (wrapO x)) (by rfl) (fun hh e => wrap_keeper e) (Calls.evalArgs_plain ?_)
  refine wpAny_bind (wpAny_Name (wpAny_loadName_local kF kW ((hns.keeps k1).keeps k2) rfl ?_) (by decide))
  refine wpAny_bind (wpAny_pure (wpAny_bind (wpAny_holding (wpAny_pure (wpAny_pure ?_)))))
  refine ⟨hr2, ?_⟩
  refine lim_bi c123' hr2 hx2 (fun h3 t1 hx3 k3 z3 => ?_)
  have kk : ∀ b o, b ≠ x → h₀.get? b = some o → h3.get? b = some o := fun b o hb e => k3 b o hb (k2 _ _ (k1 _ _ e))
  have X3 : (K2 w.params).In h3 := fun a o e => kk a o (hxK a o e) (X0 a o e)
  have ns3 : h3.Ns h.objs.size (fun y => [(S "self", Value.ref x), (S "what", v)].reverse.lookup y) := by
    obtain ⟨o, es, ep, e, q⟩ := hns
    exact ⟨o, es, ep, kk _ _ hLx e, q⟩
  refine ks_wpAt_execs_cons (ks_wpAt_Assign_Attr (wpAt_of_wpAny (wpAny_Name (wpAny_loadName_local kF kW ns3 rfl ?_) (by decide))) (by rfl))
  refine wpAny_Name (wpAny_loadName_local kF kSelf ns3 rfl ?_) (by decide)
  refine lim_set X3 hx3 (fun h4 t4 dx hx4 k4 z4 => ?_)
  refine wpAt_of_wpAny (wpAny_pure (hR h4 _ t1 dx hx4 (fun b o hb e => k4 b o hb (kk b o hb (hk₀ b o e))) ?_))
  have z1 : h.objs.size < h2.objs.size := by
    obtain ⟨o, es, ep, e, q⟩ := hns
    exact Heap.lt_size (k2 _ _ (k1 _ _ e))
  exact Nat.le_trans (Nat.le_of_lt z1) (Nat.le_trans z3 z4)
end Mine
end

section
open PySem PySem.W PySem.W.X PyProof.Rows PySem.Calls
set_option maxRecDepth 100000
set_option maxHeartbeats 0
namespace Mine
noncomputable def cR (a : Addr) : PV := .con (.ref a)
noncomputable def globL : List (Str × PV) := [(S "least", cR 28), (S "greatest", cR 35), (S "Flat", cR 80), (S "LimitFault", cR 123), (S "MOST_SHOWN", .int 1000), (S "within_figures", cR 132), (S "is_made", cR 139), (S "sum_of", cR 146), (S "plus", cR 151), (S "common_of", cR 158), (S "Gatherer", cR 264),
  (S "_law_next", cR 275), (S "_law_thing", cR 282), (S "_law_told", cR 287), (S "_law_is_told", cR 292), (S "_law_reached", cR 297), (S "_law_common", cR 302)]
noncomputable def bltL : List (Str × Value) := [(S "len", .builtin "len"), (S "isinstance", .builtin "isinstance"), (S "abs", .builtin "abs"), (S "max", .builtin "max"), (S "min", .builtin "min"), (S "sum", .builtin "sum"), (S "sorted", .builtin "sorted"),
  (S "int", .type "int"), (S "tuple", .type "tuple"), (S "list", .type "list"), (S "str", .type "str"), (S "range", .type "range"), (S "dict", .type "dict"), (S "bool", .type "bool"), (S "zip", .type "zip")]
noncomputable def fnL : List (Addr × (Arguments × List Stmt × Scope)) := [(28, tdef "least"), (35, tdef "greatest"), (49, mdef "Flat" "__init__"), (56, mdef "Flat" "new_var"), (77, mdef "Flat" "domain_of"), (132, tdef "within_figures"), (139, tdef "is_made"), (146, tdef "sum_of"), (151, tdef "plus"), (158, tdef "common_of"),
  (172, mdef "Gatherer" "__init__"), (186, mdef "Gatherer" "bounds"), (275, tdef "_law_next"), (282, tdef "_law_thing"), (287, tdef "_law_told"), (292, tdef "_law_is_told"), (297, tdef "_law_reached"), (302, tdef "_law_common"), (307, tdef "law")]
noncomputable def methL : List ((Addr × Str) × Addr) := [((80, S "new_var"), 56), ((80, S "domain_of"), 77), ((264, S "bounds"), 186)]
noncomputable def attrL : List (Addr × Str) := [(80, S "vars"), (80, S "tolds"), (80, S "goal"), (80, S "shown"), (264, S "flat"), (264, S "made")]
noncomputable def initL : List (Addr × Addr) := [(80, 49), (264, 172)]
noncomputable def fnAt (d : Arguments × List Stmt × Scope) : Fn := ⟨d.1.args.map (·.arg), d.2.1, d.2.2⟩
noncomputable def zeroE (e : PySem.Expr) : Bool := match e with
  | .Constant c _ _ => (match c with
    | .int i => i == 0
    | _ => false)
  | _ => false
noncomputable def muta2 (e : PySem.Expr) : Bool := match e with
  | .List es _ => es.all zeroE
  | .ListComp elt _ _ _ => (match callV1 elt with
    | some (f, _, _) => (match nameV f with
      | some x => decide (x = S "_law_thing")
      | Option.none => false)
    | Option.none => false)
  | _ => false
noncomputable def cfg2 : Cfg where
  glob x := match globL.lookup x with
    | some p => some p
    | Option.none => (bltL.lookup x).map .con
  fns a := (fnL.lookup a).map fnAt
  meth c x := methL.lookup (c, x)
  inits a := initL.lookup a
  lim := 123
  muta := muta2
  attr c x := attrL.contains (c, x)
end Mine
end

section
open PySem PySem.W PySem.W.X PyProof.Rows PySem.Calls
set_option Elab.async false
set_option maxRecDepth 100000
set_option maxHeartbeats 0
namespace Mine
noncomputable def setup2 (w : World) (B : Heap) : Setup := ⟨pw2, w, 123, B⟩

theorem lookup_mem {α β : Type} [BEq α] [LawfulBEq α] : ∀ {l : List (α × β)} {a : α} {b : β}, l.lookup a = some b → (a, b) ∈ l
  | [], _, _, h => by cases h
  | (x, y) :: r, a, b, h => by
    rw [List.lookup_cons] at h
    split at h
    · rename_i e; cases h; rw [beq_iff_eq.mp e]; exact .head _
    · exact .tail _ (lookup_mem h)

theorem lim_ok {w : World} {B : Heap} (X : (K2 w.params).In B) (NL : B.NoLimit) {mg mb : Str → Option Value} (TG : B.Ns mainGlobals mg) (TB : B.Ns builtinsNs mb) (hmb : mb "super" = some (.type "super")) {C : Cfg} (hC : C.lim = 123) : LimOk (setup2 w B) C := by
  intro A c n L m v R hA FR hv G s hs r st' hm Q E hQ hE
  simp only [M.ret, Option.some.injEq, Prod.mk.injEq] at hm
  obtain ⟨rfl, rfl⟩ := hm
  simp only [RelC, Rel] at hv
  obtain ⟨x, tk, rfl, _⟩ := hv
  obtain ⟨h, g, d, t, os⟩ := s
  simp only at hs
  subst hs
  have k0 : ∀ b o, B.get? b = some o → c.h.get? b = some o := G.stays
  rw [hC]
  refine wpAny_call (lim_make (X.keeps k0) fun a b h' ha k1 hsz => ?_)
  have X' := (X.keeps k0).keeps k1
  refine lim_frame (t0 := b) (b5 := .none) (by have := R.1; show A.depth + 1 < _; unfold recursionLimit; omega) X' ((NL.keeps k0).keeps k1) ((TG.keeps k0).keeps k1) ((TB.keeps k0).keeps k1) hmb ha (fun y o e q => ?_) (fun h2 t2 t1 dx hx2 k2 z2 => ⟨rfl, ?_⟩)
  · subst q
    exact absurd (Heap.lt_size (X.keeps k0 _ _ e)) (Nat.not_lt.mpr hsz)
  · have kk : ∀ b o, c.h.get? b = some o → h2.get? b = some o := fun y o e => k2 y o (fun q => by subst q; exact absurd (Heap.lt_size e) (Nat.not_lt.mpr hsz)) (k1 _ _ e)
    have zz : c.h.objs.size ≤ h2.objs.size := Nat.le_trans hsz (Nat.le_of_lt (Heap.lt_size hx2))
    exact hQ () (.ref a) { c with h := h2 } _ rfl rfl rfl (Same.mk _ _ _) ⟨Le.grow kk zz, G.grow kk zz⟩ ⟨a, _, _, rfl, hsz, hx2, by rw [hC], rfl, rfl, rfl⟩
end Mine
end

section
open PySem PySem.W PySem.W.X PyProof.Rows PySem.Calls
set_option Elab.async false
set_option maxRecDepth 100000
set_option maxHeartbeats 0
namespace Mine
noncomputable def scOk (d : Arguments × List Stmt × Scope) : Bool := d.2.2.kind == .function && !d.2.2.isCoroutine && !d.2.2.isGenerator && d.1.args.all fun x => d.2.2.names.lookup x.arg == some .local || d.2.2.names.lookup x.arg == some .cell
theorem fn_at {K : W.Frag} {B : Heap} (X : K.In B) {a : Addr} {d : Arguments × List Stmt × Scope} {nm ql : Str} {md cd : Value} (e : K.lookup a = some ⟨.type "function", none, .func (fdK d nm ql 3 [] .none .none .none md none cd .none 0), [].toArray⟩)
    (hc : W.codeIn K cd ql = true) (hs : scOk d = true) (hb : ∀ vals : List Value, vals.length = d.1.args.length → bindArgs (fdK d nm ql 3 [] .none .none .none md none cd .none 0) ⟨vals, []⟩ = pure ((d.1.args.map (·.arg)).zip vals)) : FnOkAt B a (fnAt d) := by
  unfold scOk at hs
  simp only [Bool.and_eq_true, beq_iff_eq, Bool.not_eq_true', List.all_eq_true, Bool.or_eq_true] at hs
  obtain ⟨⟨⟨h1, h2⟩, h3⟩, h4⟩ := hs
  refine ⟨_, _, X _ _ e, rfl, rfl, rfl, rfl, rfl, rfl, codeRec_of X hc, h1, h2, h3, fun vals hv => hb vals (by rw [hv]; exact List.length_map ..), fun x hx => ?_⟩
  obtain ⟨y, hy, rfl⟩ := List.mem_map.mp hx
  exact h4 y hy

theorem len1 {α : Type} {l : List α} (h : l.length = 1) : ∃ a, l = [a] := by
  match l, h with
  | [a], _ => exact ⟨a, rfl⟩
theorem len2 {α : Type} {l : List α} (h : l.length = 2) : ∃ a b, l = [a, b] := by
  match l, h with
  | [a, b], _ => exact ⟨a, b, rfl⟩
theorem len3 {α : Type} {l : List α} (h : l.length = 3) : ∃ a b c, l = [a, b, c] := by
  match l, h with
  | [a, b, c], _ => exact ⟨a, b, c, rfl⟩
theorem len4 {α : Type} {l : List α} (h : l.length = 4) : ∃ a b c d, l = [a, b, c, d] := by
  match l, h with
  | [a, b, c, d], _ => exact ⟨a, b, c, d, rfl⟩
theorem fns_ok {w : World} {B : Heap} (X : (K2 w.params).In B) : ∀ p ∈ fnL, FnOkAt B p.1 (fnAt p.2) := by
  intro p hp
  unfold fnL at hp
  iterate 19 (
    rcases List.mem_cons.mp hp with rfl | hp
    · refine fn_at X (by rfl) (by kernel_rfl) (by kernel_rfl) (fun vals hv => ?_)
      first
        | (obtain ⟨a, rfl⟩ := len1 hv; kernel_rfl)
        | (obtain ⟨a, b, rfl⟩ := len2 hv; kernel_rfl)
        | (obtain ⟨a, b, c, rfl⟩ := len3 hv; kernel_rfl)
        | (obtain ⟨a, b, c, d, rfl⟩ := len4 hv; kernel_rfl))
  cases hp
end Mine
end

section
open PySem PySem.W PySem.W.X PyProof.Rows PySem.Calls
set_option Elab.async false
set_option maxRecDepth 100000
set_option maxHeartbeats 0
namespace Mine
theorem glob_ok {w : World} {B : Heap} (X : (K2 w.params).In B) {mg : Str → Option Value} (TG : B.Ns mainGlobals mg) : ∀ p ∈ globL, ∃ v, mg p.1 = some v ∧ ∀ c : Cf, RelC c p.2 v := by
  intro p hp
  unfold globL at hp
  iterate 17 (
    rcases List.mem_cons.mp hp with rfl | hp
    · exact ⟨_, mg_of X TG (by rfl), fun c => by first | exact (rfl : _ = _) | exact ⟨_, rfl⟩⟩)
  cases hp
theorem blt_ok {w : World} {B : Heap} (X : (K2 w.params).In B) {mg mb : Str → Option Value} (TG : B.Ns mainGlobals mg) (hmb : ∀ x : Str, x ≠ "__name__" → mb x = bootBuiltins x) : ∀ p ∈ bltL, mg p.1 = none ∧ mb p.1 = some p.2 := by
  intro p hp
  unfold bltL at hp
  iterate 15 (
    rcases List.mem_cons.mp hp with rfl | hp
    · exact ⟨mg_none_of X TG (by kernel_rfl), (hmb _ (by decide +kernel)).trans (by kernel_rfl)⟩)
  cases hp
theorem attr_ok {w : World} : ∀ p ∈ attrL, (W.plainGet (K2 w.params) p.1 p.2 = true ∧ W.hasDictIn (K2 w.params) p.1 = true ∧ ∃ a, W.findIn (K2 w.params) (.ref p.1) p.2 = some a ∧ W.noGet (K2 w.params) a = true) ∧
    (W.findIn (K2 w.params) (.ref p.1) "__setattr__" = some (some (.builtin "object.__setattr__")) ∧ W.plainOver (K2 w.params) p.1 = true ∧ W.takerIn (K2 w.params) p.1 p.2 = some none ∧ W.hasDictIn (K2 w.params) p.1 = true) := by
  intro p hp
  unfold attrL at hp
  iterate 6 (
    rcases List.mem_cons.mp hp with rfl | hp
    · exact ⟨⟨by kernel_rfl, by kernel_rfl, none, by kernel_rfl, by kernel_rfl⟩, by kernel_rfl, by kernel_rfl, by kernel_rfl, by kernel_rfl⟩)
  cases hp
theorem meth_ok {w : World} : ∀ p ∈ methL, (fnL.lookup p.2).isSome = true ∧ W.plainGet (K2 w.params) p.1.1 p.1.2 = true ∧ W.findIn (K2 w.params) (.ref p.1.1) p.1.2 = some (some (.ref p.2)) ∧ W.isFn (K2 w.params) (.ref p.2) = true := by
  intro p hp
  unfold methL at hp
  iterate 3 (
    rcases List.mem_cons.mp hp with rfl | hp
    · exact ⟨by kernel_rfl, by kernel_rfl, by kernel_rfl, by kernel_rfl⟩)
  cases hp
theorem init_ok {w : World} : ∀ p ∈ initL, W.keepIn (K2 w.params) (.ref p.1) = true ∧ W.makesIn (K2 w.params) p.1 = true ∧ W.findIn (K2 w.params) (.ref p.1) "__init__" = some (some (.ref p.2)) ∧ W.typeIn (K2 w.params) (.ref p.2) = some (.type "function") := by
  intro p hp
  unfold initL at hp
  iterate 2 (
    rcases List.mem_cons.mp hp with rfl | hp
    · exact ⟨by kernel_rfl, by kernel_rfl, by kernel_rfl, by kernel_rfl⟩)
  cases hp
theorem fkeep_ok {w : World} : ∀ p ∈ fnL, W.keepIn (K2 w.params) (.ref p.1) = true := by
  intro p hp
  unfold fnL at hp
  iterate 19 (
    rcases List.mem_cons.mp hp with rfl | hp
    · kernel_rfl)
  cases hp
theorem top_ok {w : World} {B : Heap} (X : (K2 w.params).In B) (NL : B.NoLimit) {mg mb : Str → Option Value} (TG : B.Ns mainGlobals mg) (TB : B.Ns builtinsNs mb) (hmb : ∀ x : Str, x ≠ "__name__" → mb x = bootBuiltins x) : Top (setup2 w B) cfg2 where
  lim := rfl
  names := by
    refine ⟨mg, mb, TG, TB, fun x pv h => ?_⟩
    unfold cfg2 at h
    simp only at h
    split at h
    · rename_i p hp
      cases h
      exact .inl (glob_ok X TG _ (lookup_mem hp))
    · obtain ⟨v, hv, rfl⟩ := Option.map_eq_some_iff.mp h
      obtain ⟨a, b⟩ := blt_ok X TG hmb _ (lookup_mem hv)
      exact .inr ⟨a, v, b, fun c => (rfl : _ = _)⟩
  sys := by
    show (B.get? 1).isSome = true
    rw [X 1 _ (by rfl)]; rfl
  nolimit := NL
  fns := fun a fn h => by
    obtain ⟨d, hd, rfl⟩ := Option.map_eq_some_iff.mp (show (fnL.lookup a).map fnAt = some fn from h)
    exact fns_ok X _ (lookup_mem hd)
  frag := by
    refine ⟨K2 w.params, X, fun cl x h => (attr_ok _ (List.contains_iff_mem.mp h)).1, fun a h => ?_, fun cl m f h => ?_, by kernel_rfl, by kernel_rfl, by kernel_rfl, fun cl x h => (attr_ok _ (List.contains_iff_mem.mp h)).2, fun a f h => (init_ok _ (lookup_mem h)).2⟩
    · rcases h with h | h
      · obtain ⟨fn, h⟩ := Option.isSome_iff_exists.mp h
        obtain ⟨d, hd, rfl⟩ := Option.map_eq_some_iff.mp (show (fnL.lookup a).map fnAt = some fn from h)
        exact fkeep_ok _ (lookup_mem hd)
      · obtain ⟨f, h⟩ := Option.isSome_iff_exists.mp h
        exact (init_ok _ (lookup_mem h)).1
    · obtain ⟨a, b, c, d⟩ := meth_ok (w := w) _ (lookup_mem h)
      refine ⟨?_, b, c, d⟩
      show ((fnL.lookup f).map fnAt).isSome = true
      rw [Option.isSome_map]; exact a
end Mine
end

section
namespace Mine
open PySem
set_option autoImplicit false

/-- what a run comes to -/
noncomputable def Ev {α : Type} (m : M α) (st : St) (Q : R α → St → Prop) : Prop := ∃ r st', m st = some (r, st') ∧ Q r st'
/-- old places stay -/
structure Fr (st st' : St) : Prop where
  le : st.next ≤ st'.next
  at_ : ∀ k, k < st.next → st'.objs k = st.objs k
theorem Fr.rfl {st : St} : Fr st st := ⟨Nat.le_refl _, fun _ _ => Eq.refl _⟩
theorem Fr.trans {a b c : St} (h : Fr a b) (g : Fr b c) : Fr a c := ⟨Nat.le_trans h.le g.le, fun k q => (g.at_ k (Nat.lt_of_lt_of_le q h.le)).trans (h.at_ k q)⟩
theorem Fr.get {st st' : St} (h : Fr st st') {k : Nat} {o : Option MO} (e : st.objs k = o) (q : k < st.next) : st'.objs k = o := (h.at_ k q).trans e
theorem Ev.mono {α : Type} {m : M α} {st : St} {Q Q' : R α → St → Prop} (h : Ev m st Q) (hq : ∀ r st', Q r st' → Q' r st') : Ev m st Q' := by
  obtain ⟨r, st', e, q⟩ := h
  exact ⟨r, st', e, hq _ _ q⟩
theorem Ev.ret {α : Type} {a : α} {st : St} {Q : R α → St → Prop} (h : Q (.ok a) st) : Ev (M.ret a) st Q := ⟨_, _, rfl, h⟩
theorem Ev.exc {α : Type} {st : St} {Q : R α → St → Prop} (h : Q .exc st) : Ev M.exc st Q := ⟨_, _, rfl, h⟩
theorem Ev.bind {α β : Type} {m : M α} {f : α → M β} {st : St} {P : R α → St → Prop} {Q : R β → St → Prop} (h : Ev m st P) (hf : ∀ a st', P (.ok a) st' → Ev (f a) st' Q) (he : ∀ st', P .exc st' → Q .exc st') : Ev (m.bind f) st Q := by
  obtain ⟨r, st', e, p⟩ := h
  cases r with
  | exc => exact ⟨.exc, st', by show M.bind m f st = _; unfold M.bind; rw [e], he _ p⟩
  | ok a =>
    obtain ⟨r, s2, e2, q⟩ := hf a st' p
    exact ⟨r, s2, by show M.bind m f st = _; unfold M.bind; rw [e]; exact e2, q⟩
/-- it gives v, and old places stay -/
noncomputable abbrev Giv {α : Type} (m : M α) (st : St) (P : α → Prop) : Prop := Ev m st fun r st' => (∃ a, r = .ok a ∧ P a) ∧ Fr st st'
noncomputable abbrev Gives {α : Type} (m : M α) (st : St) (v : α) : Prop := Ev m st fun r st' => r = .ok v ∧ Fr st st'
theorem Gives.bind {α β : Type} {m : M α} {f : α → M β} {st : St} {v : α} {Q : R β → St → Prop} (h : Gives m st v) (hf : ∀ st', Fr st st' → Ev (f v) st' Q) : Ev (m.bind f) st Q :=
  Ev.bind h (fun a st' q => by obtain ⟨e, w⟩ := q; cases e; exact hf _ w) (fun st' q => by cases q.1)
/-- it gives v wherever it starts -/
noncomputable def Pur {α : Type} (m : M α) (v : α) : Prop := ∀ st, Gives m st v
theorem Pur.ret {α : Type} {v : α} : Pur (M.ret v) v := fun _ => .ret ⟨rfl, .rfl⟩
theorem Pur.bind {α β : Type} {m : M α} {f : α → M β} {v : α} {w : β} (h : Pur m v) (hf : Pur (f v) w) : Pur (m.bind f) w := fun st =>
  (h st).bind fun _ F => (hf _).mono fun _ _ q => ⟨q.1, F.trans q.2⟩
theorem Pur.cut {m : M PV} {v : PV} (h : Pur m v) (hv : ∀ st n, freeze st n v = v) : Pur (cutM m) v := fun st => by
  obtain ⟨r, st', e, rfl, w⟩ := h st
  exact ⟨.ok v, dropTo st' st.next, by show cutM m st = _; unfold cutM; rw [e]; show some (R.ok (freeze st' st.next v), _) = _; rw [hv], rfl, w.le, fun k q => by show (if k < st.next then _ else _) = _; rw [if_pos q, w.at_ k q]⟩
theorem Fr.drop {st st' : St} (w : Fr st st') : Fr st (dropTo st' st.next) := ⟨w.le, fun k q => by show (if k < st.next then _ else _) = _; rw [if_pos q, w.at_ k q]⟩
theorem Ev.cut {m : M PV} {st : St} {Q : R PV → St → Prop} (h : Ev m st fun r st' => match r with
    | .ok v => Q (.ok (freeze st' st.next v)) (dropTo st' st.next)
    | .exc => Q .exc (dropTo st' st.next)) : Ev (cutM m) st Q := by
  obtain ⟨r, st', e, q⟩ := h
  cases r with
  | exc => exact ⟨.exc, _, by show cutM m st = _; unfold cutM; rw [e], q⟩
  | ok v => exact ⟨.ok (freeze st' st.next v), _, by show cutM m st = _; unfold cutM; rw [e], q⟩
-- the heap
theorem Ev.getO {k : Nat} {o : MO} {st : St} {β : Type} {f : MO → M β} {Q : R β → St → Prop} (e : st.objs k = some o) (h : Ev (f o) st Q) : Ev ((Mine.getO k).bind f) st Q := by
  obtain ⟨r, st', e', q⟩ := h
  exact ⟨r, st', by show M.bind (Mine.getO k) f st = _; unfold M.bind Mine.getO; rw [e]; exact e', q⟩
noncomputable def St.put (st : St) (k : Nat) (o : Option MO) : St := { st with objs := fun j => if j = k then o else st.objs j }
theorem Ev.setO {k : Nat} {o : Option MO} {st : St} {β : Type} {f : Unit → M β} {Q : R β → St → Prop} (h : Ev (f ()) (st.put k o) Q) : Ev ((Mine.setO k o).bind f) st Q := h
noncomputable def St.new (st : St) (o : MO) : St := { objs := fun j => if j = st.next then some o else st.objs j, next := st.next + 1 }
theorem Ev.newO {o : MO} {st : St} {β : Type} {f : Nat → M β} {Q : R β → St → Prop} (h : Ev (f st.next) (st.new o) Q) : Ev ((Mine.newO o).bind f) st Q := h
theorem St.put_at {st : St} {k : Nat} {o : Option MO} : (st.put k o).objs k = o := if_pos rfl
theorem St.put_ne {st : St} {k j : Nat} {o : Option MO} (h : j ≠ k) : (st.put k o).objs j = st.objs j := if_neg h
theorem St.new_at {st : St} {o : MO} : (st.new o).objs st.next = some o := if_pos rfl
theorem St.new_fr {st : St} {o : MO} : Fr st (st.new o) := ⟨Nat.le_succ _, fun k q => if_neg (Nat.ne_of_lt q)⟩
theorem Fr.put {st st' : St} {k : Nat} {o : Option MO} (h : Fr st st') (q : st.next ≤ k) : Fr st (st'.put k o) := ⟨h.le, fun j w => (if_neg (Nat.ne_of_lt (Nat.lt_of_lt_of_le w q))).trans (h.at_ j w)⟩
/-- all but one place stay -/
structure Fr1 (a : Nat) (st st' : St) : Prop where
  le : st.next ≤ st'.next
  at_ : ∀ k, k < st.next → k ≠ a → st'.objs k = st.objs k
theorem Fr.fr1 {a : Nat} {st st' : St} (h : Fr st st') : Fr1 a st st' := ⟨h.le, fun k q _ => h.at_ k q⟩
theorem Fr1.trans {a : Nat} {x y z : St} (h : Fr1 a x y) (g : Fr1 a y z) : Fr1 a x z := ⟨Nat.le_trans h.le g.le, fun k q n => (g.at_ k (Nat.lt_of_lt_of_le q h.le) n).trans (h.at_ k q n)⟩
theorem Fr1.put {a : Nat} {st : St} {o : Option MO} : Fr1 a st (st.put a o) := ⟨Nat.le_refl _, fun _ _ n => if_neg n⟩
theorem Fr1.fr {a : Nat} {st st' : St} (h : Fr1 a st st') (q : st.next ≤ a) : Fr st st' := ⟨h.le, fun k w => h.at_ k w (Nat.ne_of_lt (Nat.lt_of_lt_of_le w q))⟩
theorem Fr1.cut {a : Nat} {x y z : St} (h : Fr x y) (g : Fr1 a y z) (q : x.next ≤ a) : Fr x z := ⟨Nat.le_trans h.le g.le, fun k w => (g.at_ k (Nat.lt_of_lt_of_le w h.le) (Nat.ne_of_lt (Nat.lt_of_lt_of_le w q))).trans (h.at_ k w)⟩
-- loops
theorem Ev.loopU {f : PV → M Unit} (P : List PV → St → Prop) : ∀ {l : List PV} {st : St}, P l st → (∀ x xs st, P (x :: xs) st → Ev (f x) st fun r st' => r = .ok () ∧ P xs st') →
    Ev (Mine.loopU (M.ret ()) (M.ret ()) f l) st fun r st' => r = .ok () ∧ P [] st'
  | [], st, h, _ => .ret ⟨rfl, h⟩
  | x :: xs, st, h, hf => Ev.bind (m := f x) (P := fun r st' => r = .ok () ∧ P xs st') (hf x xs st h) (fun a st' q => Ev.loopU P q.2 hf) (fun st' q => by cases q.1)
theorem Ev.loopF {f : PV → Locs → M (Fl × Locs)} (P : List PV → Locs → St → Prop) : ∀ {l : List PV} {ρ : Locs} {st : St}, P l ρ st →
    (∀ x xs ρ st, P (x :: xs) ρ st → Ev (f x ρ) st fun r st' => ∃ ρ', r = .ok (.next, ρ') ∧ P xs ρ' st') →
    Ev (Mine.loopF (β := Unit) f l ρ) st fun r st' => ∃ ρ', r = .ok (.next, ρ') ∧ P [] ρ' st'
  | [], ρ, st, h, _ => .ret ⟨ρ, rfl, h⟩
  | x :: xs, ρ, st, h, hf => Ev.bind (P := fun r st' => ∃ ρ', r = .ok (.next, ρ') ∧ P xs ρ' st') (hf x xs ρ st h) (fun a st' q => by
      obtain ⟨ρ', e, q⟩ := q
      cases e
      exact Ev.loopF P q hf) (fun st' q => by obtain ⟨_, q, _⟩ := q; cases q)
theorem Ev.noExc {α : Type} {m : M α} {st : St} {Q : R α → St → Prop} (h : Ev m st fun r st' => (∃ a, r = .ok a) ∧ Q r st') : Ev (Mine.noExc m) st Q := by
  obtain ⟨r, st', e, ⟨a, rfl⟩, q⟩ := h
  exact ⟨_, _, by show Mine.noExc m st = _; unfold Mine.noExc; rw [e], q⟩
end Mine
end

section
namespace Mine
open PySem
set_option autoImplicit false
/-- from st0 on, m gives v -/
noncomputable def G {α : Type} (st0 : St) (m : M α) (v : α) : Prop := ∀ st, Fr st0 st → Gives m st v
section
variable {α β : Type} {st0 : St}
theorem G.at {st : St} {m : M α} {v : α} (h : G st m v) : Gives m st v := h st .rfl
theorem G.up {st1 : St} {m : M α} {v : α} (h : G st0 m v) (w : Fr st0 st1) : G st1 m v := fun st q => h st (w.trans q)
theorem G.ret {v : α} : G st0 (M.ret v) v := fun _ _ => .ret ⟨rfl, .rfl⟩
theorem G.of {v : α} {o : Option α} (h : o = some v) : G st0 (M.of o) v := by subst h; exact G.ret
theorem G.bind {m : M α} {f : α → M β} {v : α} {w : β} (h : G st0 m v) (hf : G st0 (f v) w) : G st0 (m.bind f) w := fun st q =>
  (h st q).bind fun _ F => (hf _ (q.trans F)).mono fun _ _ r => ⟨r.1, F.trans r.2⟩
theorem G.cut {m : M PV} {v : PV} (h : G st0 m v) (hv : ∀ st n, freeze st n v = v) : G st0 (cutM m) v := fun st q => by
  obtain ⟨r, st', e, rfl, w⟩ := h st q
  exact ⟨.ok v, dropTo st' st.next, by show cutM m st = _; unfold cutM; rw [e]; show some (R.ok (freeze st' st.next v), _) = _; rw [hv], rfl, w.drop⟩
theorem G.cast {m m' : M α} {v : α} (e : m = m') (h : G st0 m' v) : G st0 m v := e ▸ h
theorem G.ifB {c : Bool} {x y : M α} {v : α} (h1 : c = true → G st0 x v) (h2 : c = false → G st0 y v) : G st0 (Mine.ifB c x y) v := by
  cases c
  · exact h2 rfl
  · exact h1 rfl
theorem G.get {k : Nat} {o : MO} {f : MO → M β} {v : β} (e : st0.objs k = some o) (q : k < st0.next) (h : G st0 (f o) v) : G st0 ((getO k).bind f) v := fun st w => Ev.getO (w.get e q) (h st w)
theorem G.noExc {m : M α} {v : α} (h : G st0 m v) : G st0 (Mine.noExc m) v := fun st q => Ev.noExc ((h st q).mono fun _ _ p => ⟨⟨_, p.1⟩, p⟩)
/-- a turn of a comprehension adds vs to the list at a -/
noncomputable def Tn (st0 : St) (a : Nat) (m : M Unit) (vs : List PV) : Prop := ∀ st acc, Fr st0 st → a < st.next → st.objs a = some (.list acc) → acc.length < 1000 →
  Ev m st fun r st' => r = .ok () ∧ Fr1 a st st' ∧ st'.objs a = some (.list (acc ++ vs))
theorem Tn.app {a : Nat} {v : PV} : Tn st0 a (appO a v) [v] := fun st acc _ _ e hl => by
  unfold appO
  refine Ev.getO e ?_
  show Ev (if acc.length < 100000 then _ else _) st _
  rw [if_pos (by omega)]
  exact ⟨_, _, rfl, rfl, Fr1.put, if_pos rfl⟩
theorem Tn.non {a : Nat} : Tn st0 a (M.ret ()) [] := fun st acc _ _ e _ => .ret ⟨rfl, Fr.rfl.fr1, by rw [List.append_nil]; exact e⟩
theorem Tn.bind {a : Nat} {m : M α} {f : α → M Unit} {v : α} {vs : List PV} (h : G st0 m v) (hf : Tn st0 a (f v) vs) : Tn st0 a (m.bind f) vs := fun st acc q l e hl =>
  (h st q).bind fun st1 F => (hf st1 acc (q.trans F) (Nat.lt_of_lt_of_le l F.le) (F.get e l) hl).mono fun _ _ p => ⟨p.1, F.fr1.trans p.2.1, p.2.2⟩
theorem Tn.ifB {a : Nat} {c : Bool} {x y : M Unit} {vs ws : List PV} (h1 : c = true → Tn st0 a x vs) (h2 : c = false → Tn st0 a y ws) : Tn st0 a (Mine.ifB c x y) (if c = true then vs else ws) := by
  cases c
  · exact h2 rfl
  · exact h1 rfl
theorem Tn.loop {a : Nat} {f : PV → M Unit} {g : PV → List PV} (qa : st0.next ≤ a) : ∀ {l : List PV} {st : St} {acc : List PV}, (∀ x, x ∈ l → (g x).length ≤ 1 ∧ Tn st0 a (f x) (g x)) → Fr st0 st → a < st.next → st.objs a = some (.list acc) → acc.length + l.length < 1000 →
    Ev (loopU (M.ret ()) (M.ret ()) f l) st fun r st' => r = .ok () ∧ Fr1 a st st' ∧ st'.objs a = some (.list (acc ++ l.flatMap g))
  | [], st, acc, _, _, _, e, _ => .ret ⟨rfl, Fr.rfl.fr1, by rw [List.flatMap_nil, List.append_nil]; exact e⟩
  | x :: xs, st, acc, hf, q, l, e, hl => by
    have h := hf x (.head _)
    rw [List.length_cons] at hl
    refine Ev.bind (m := f x) (h.2 st acc q l e (by omega)) (fun _ st1 p => ?_) (fun st' p => by cases p.1)
    have q1 : Fr st0 st1 := Fr1.cut q p.2.1 qa
    refine (Tn.loop qa (fun y hy => hf y (.tail _ hy)) q1 (Nat.lt_of_lt_of_le l p.2.1.le) p.2.2 (by rw [List.length_append]; omega)).mono fun r st' p' => ⟨p'.1, p.2.1.trans p'.2.1, ?_⟩
    rw [p'.2.2, List.flatMap_cons, List.append_assoc]
/-- a list comprehension that is not kept as a place -/
theorem G.comp {f : Nat → PV → M Unit} {l : List PV} (g : PV → List PV) (hl : l.length < 1000) (hf : ∀ a x, x ∈ l → (g x).length ≤ 1 ∧ Tn st0 a (f a x) (g x)) :
    G st0 (Mine.noExc ((newO (.list [])).bind fun a => (loopU (M.ret ()) (M.ret ()) (f a) l).bind fun _ => takeO a)) (.lst (l.flatMap g)) := fun st q => by
  refine Ev.noExc (Ev.newO ?_)
  refine Ev.bind (Tn.loop (st0 := st0) q.le (fun x hx => hf _ x hx) (q.trans St.new_fr) (Nat.lt_succ_self _) St.new_at (by simpa using hl)) (fun _ st1 p => ?_) (fun st' p => by cases p.1)
  unfold takeO
  refine Ev.getO p.2.2 ?_
  refine ⟨_, _, rfl, ⟨_, rfl⟩, rfl, ?_⟩
  exact (Fr1.cut St.new_fr p.2.1 (Nat.le_refl _)).put (Nat.le_refl _)
end
-- statements
noncomputable abbrev nth (L : List Stmt) (k : Nat) : Stmt := L.getD k (.Continue ⟨0, 0, 0, 0⟩)
section
variable {C : Cfg} {n : Nat} {sc : Scope} {ρ : Locs} {st st0 : St}
/-- what is to come of a statement, for the rest to be so -/
noncomputable def Nx (Q : R (Fl × Locs) → St → Prop) (k : Locs → M (Fl × Locs)) : R (Fl × Locs) → St → Prop
  | .exc, st' => Q .exc st'
  | .ok f, st' => match f.1 with
    | .next => Ev (k f.2) st' Q
    | _ => Q (.ok f) st'
theorem Ev.stmt {L : List Stmt} (k : Nat) (h : k < L.length) {Q : R (Fl × Locs) → St → Prop} (hs : Ev (exec C n sc ρ (nth L k)) st (Nx Q fun ρ => execs C n sc ρ (L.drop (k + 1)))) : Ev (execs C (n + 1) sc ρ (L.drop k)) st Q := by
  rw [List.drop_eq_getElem_cons h]
  rw [show nth L k = L[k] by unfold nth; rw [List.getD_eq_getElem?_getD, List.getElem?_eq_getElem h]; rfl] at hs
  refine Ev.bind (m := exec C n sc ρ L[k]) hs (fun f st' q => ?_) (fun st' q => q)
  obtain ⟨f, ρ'⟩ := f
  cases f with
  | next => exact q
  | ret v => exact .ret q
theorem Ev.done {L : List Stmt} {k : Nat} (h : L.length ≤ k) {Q : R (Fl × Locs) → St → Prop} (hq : Q (.ok (.next, ρ)) st) : Ev (execs C (n + 1) sc ρ (L.drop k)) st Q := by
  rw [List.drop_eq_nil_of_le h]
  exact .ret hq
theorem G.next {L : List Stmt} (k : Nat) (h : k < L.length) {ρ' : Locs} {w : Fl × Locs} (hs : G st0 (exec C n sc ρ (nth L k)) (.next, ρ')) (hr : G st0 (execs C n sc ρ' (L.drop (k + 1))) w) : G st0 (execs C (n + 1) sc ρ (L.drop k)) w := fun st q =>
  Ev.stmt k h ((hs st q).mono fun r st1 p => by
    obtain ⟨rfl, F⟩ := p
    exact (hr st1 (q.trans F)).mono fun _ _ p => ⟨p.1, F.trans p.2⟩)
theorem G.stop {L : List Stmt} (k : Nat) (h : k < L.length) {v : PV} (hs : G st0 (exec C n sc ρ (nth L k)) (.ret v, ρ)) : G st0 (execs C (n + 1) sc ρ (L.drop k)) (.ret v, ρ) := fun st q =>
  Ev.stmt k h ((hs st q).mono fun r st1 p => by
    obtain ⟨rfl, F⟩ := p
    exact ⟨rfl, F⟩)
theorem Ev.fn {f : Addr} {args : List PV} {d : Fn} (h : C.fns f = some d) (hl : d.params.length = args.length) {Q : R PV → St → Prop} (hs : Ev (execs C n d.sc (d.params.zip args).reverse (d.body.drop 0)) st fun r st' => match r with
    | .exc => Q .exc st'
    | .ok f => Q (.ok (retV f)) st') : Ev (runF C (n + 1) f args) st Q := by
  show Ev (match C.fns f with | Option.none => _ | some fn => _) st Q
  rw [h]
  show Ev (if _ then _ else _) st Q
  rw [if_pos hl]
  exact Ev.bind (m := execs C n d.sc (d.params.zip args).reverse d.body) hs (fun f st' q => .ret q) (fun st' q => q)
theorem G.fn {f : Addr} {args : List PV} {d : Fn} (h : C.fns f = some d) (hl : d.params.length = args.length) {v : PV} {ρ' : Locs} (hs : G st0 (execs C n d.sc (d.params.zip args).reverse (d.body.drop 0)) (.ret v, ρ')) : G st0 (runF C (n + 1) f args) v := fun st q =>
  Ev.fn h hl ((hs st q).mono fun r st1 p => by
    obtain ⟨rfl, F⟩ := p
    exact ⟨rfl, F⟩)
end
end Mine
end

section
namespace Mine
open PySem
set_option autoImplicit false
/-- a row of five -/
structure Row where
  a0 : Int
  a1 : Int
  a2 : Int
  a3 : Int
  c : Int
noncomputable def Row.pv (r : Row) : PV := .lst [.int r.a0, .int r.a1, .int r.a2, .int r.a3, .int r.c]
noncomputable def Row.all (r : Row) : List (Int × Int) := [(0, r.a0), (1, r.a1), (2, r.a2), (3, r.a3)]
noncomputable def Row.terms (r : Row) : List (Int × Int) := r.all.filter fun p => decide (p.2 ≠ 0)
noncomputable def tPV (l : List (Int × Int)) : List PV := l.map fun p => .tup [.int p.1, .int p.2]
noncomputable def Row.sum (r : Row) : PV := .tup [.str (S "sum"), .tup (tPV r.terms), .int r.c]
noncomputable def Row.told (r : Row) : PV := if r.terms = [] then .int r.c else r.sum
noncomputable abbrev bd (a : Addr) : List Stmt := ((fnL.lookup a).map (·.2.1)).getD []
noncomputable abbrev sk (a : Addr) : Scope := ((fnL.lookup a).map (·.2.2)).getD noDef.2.2
theorem Ev.run {f : Addr} (ps : List Str) (h : cfg2.fns f = some ⟨ps, bd f, sk f⟩) {args : List PV} (ρ : Locs) (hl : ps.length = args.length) (hr : (ps.zip args).reverse = ρ) {n : Nat} {st : St} {Q : R PV → St → Prop} (hs : Ev (execs cfg2 n (sk f) ρ ((bd f).drop 0)) st fun r st' => match r with
    | .exc => Q .exc st'
    | .ok f => Q (.ok (retV f)) st') : Ev (runF cfg2 (n + 1) f args) st Q := by
  subst hr
  exact Ev.fn h hl hs
theorem G.run {f : Addr} (ps : List Str) (h : cfg2.fns f = some ⟨ps, bd f, sk f⟩) {args : List PV} (ρ : Locs) (hl : ps.length = args.length) (hr : (ps.zip args).reverse = ρ) {n : Nat} {st0 : St} {v : PV} {ρ' : Locs} (hs : G st0 (execs cfg2 n (sk f) ρ ((bd f).drop 0)) (.ret v, ρ')) : G st0 (runF cfg2 (n + 1) f args) v := by
  subst hr
  exact G.fn h hl hs
end Mine
end

section
namespace Mine
open PySem
set_option autoImplicit false
set_option maxRecDepth 100000
theorem call_tup (C : Cfg) (n : Nat) {l : List PV} (hl : l.length ≤ 100000) : callV C (n + 1) (.con (.type "tuple")) [.lst l] = M.ret (.tup l) := by
  have e : callV C (n + 1) (.con (.type "tuple")) [.lst l] = (if l.length ≤ 100000 then M.ret (.tup l) else M.fail) := by kernel_rfl
  rw [e, if_pos hl]
noncomputable def tDat (l : List (Int × Int)) : List PyData := l.map fun p => .tuple [.int p.1, .int p.2]
theorem toPy_t (n : Nat) : ∀ l : List (Int × Int), mapO (toPy (n + 2)) (tPV l) = some (tDat l)
  | [] => rfl
  | p :: r => by
    have e : mapO (toPy (n + 2)) (tPV (p :: r)) = (match mapO (toPy (n + 2)) (tPV r) with | none => none | some l => some (PyData.tuple [.int p.1, .int p.2] :: l)) := by kernel_rfl
    rw [e]
    rw [toPy_t n r]
    rfl
theorem told_flat (r : Row) : ([.int 0, .int (0 + 1), .int (0 + 1 + 1), .int (0 + 1 + 1 + 1)] : List PV).flatMap (fun x => match x with
    | .int i => (tPV (r.all.filter fun p => decide (p.1 = i) && decide (p.2 ≠ 0)))
    | _ => []) = tPV r.terms := by
  unfold Row.terms Row.all tPV
  by_cases h0 : r.a0 = 0 <;> by_cases h1 : r.a1 = 0 <;> by_cases h2 : r.a2 = 0 <;> by_cases h3 : r.a3 = 0 <;> simp [h0, h1, h2, h3]
theorem eqv_int (a b : Int) : eqv (.int a) (.int b) = some (a == b) := by kernel_rfl
theorem eq_int (a b : Int) : cmpP .Eq (.int a) (.int b) = M.ret (.bool (a == b)) := by
  have e : cmpP .Eq (.int a) (.int b) = M.ret (.bool ((a == b) != false)) := by kernel_rfl
  rw [e, Bool.bne_false]
noncomputable def gTold (r : Row) (x : PV) : List PV := match x with
  | .int i => tPV (r.all.filter fun p => decide (p.1 = i) && decide (p.2 ≠ 0))
  | _ => []
theorem ne_int {st0 : St} {a b : Int} : G st0 ((cmpP .NotEq (.int a) (.int b)).bind fun v => M.of (truthP v)) (decide (a ≠ b)) := by
  have e : (cmpP .NotEq (.int a) (.int b)).bind (fun v => M.of (truthP v)) = M.ret ((a == b) != true) := by kernel_rfl
  rw [e]
  have : ((a == b) != true) = decide (a ≠ b) := by by_cases h : a = b <;> simp [h]
  rw [this]; exact G.ret
noncomputable abbrev tdT (w : PV) (k : Nat) (x : PV) : M Unit := (((itemP w x).bind fun a => (cmpP CmpOp.NotEq a (PV.int 0)).bind fun v => M.of (truthP v)).bind fun t => ifB t (M.ret true) (M.ret false)).bind fun b =>
      ifB b (((((itemP w x).bind fun v => M.ret [v]).bind fun vs => M.ret (x :: vs)).bind fun vs => M.ret (PV.tup vs)).bind fun v => appO k v) (M.ret ())
theorem told_turn {r : Row} {w : PV} {st0 : St} (k : Nat) {i a : Int} (hp : G st0 (itemP w (.int i)) (.int a)) (hg : gTold r (.int i) = if decide (a ≠ 0) = true then [.tup [.int i, .int a]] else []) : (gTold r (.int i)).length ≤ 1 ∧ Tn st0 k (tdT w k (.int i)) (gTold r (.int i)) := by
  rw [hg]
  refine ⟨by split <;> simp, Tn.bind (v := decide (a ≠ 0)) ?_ (Tn.ifB (fun _ => Tn.bind (G.bind (G.bind (G.bind hp G.ret) G.ret) G.ret) Tn.app) fun _ => Tn.non)⟩
  exact G.bind (G.bind hp ne_int) (by cases decide (a ≠ 0) <;> exact G.ret)
theorem told_turns {r : Row} {w : PV} {st0 : St} (hw : ∀ q, q ∈ r.all → G st0 (itemP w (.int q.1)) (.int q.2)) (k : Nat) : ∀ x, x ∈ ([.int 0, .int (0 + 1), .int (0 + 1 + 1), .int (0 + 1 + 1 + 1)] : List PV) → (gTold r x).length ≤ 1 ∧ Tn st0 k (tdT w k x) (gTold r x) := by
  intro x hx
  have hg : ∀ a : Int, ∀ i : Int, (tPV (if decide (a ≠ 0) = true then [(i, a)] else [])) = if decide (a ≠ 0) = true then [.tup [.int i, .int a]] else [] := by intro a i; split <;> rfl
  simp only [List.mem_cons, List.not_mem_nil, or_false] at hx
  rcases hx with e | e | e | e <;> subst e
  · exact told_turn k (hw (0, r.a0) (.head _)) (by rw [← hg]; simp [gTold, Row.all, List.filter_cons])
  · exact told_turn k (hw (1, r.a1) (.tail _ (.head _))) (by rw [← hg]; simp [gTold, Row.all, List.filter_cons])
  · exact told_turn k (hw (2, r.a2) (.tail _ (.tail _ (.head _)))) (by rw [← hg]; simp [gTold, Row.all, List.filter_cons])
  · exact told_turn k (hw (3, r.a3) (.tail _ (.tail _ (.tail _ (.head _))))) (by rw [← hg]; simp [gTold, Row.all, List.filter_cons])
theorem tPV_len (r : Row) : (tPV r.terms).length ≤ 4 := by
  unfold tPV Row.terms
  rw [List.length_map]
  exact List.length_filter_le _ _
theorem frz_told (r : Row) (st : St) (n : Nat) : freeze st n r.told = r.told := by
  have h : ∀ l : List (Int × Int), (tPV l).map (freeze1 st n) = tPV l := by
    intro l
    unfold tPV
    rw [List.map_map]
    rfl
  unfold Row.told
  split
  · rfl
  · rfl
theorem toPy_tup (l : List (Int × Int)) : toPy 8 (.tup (tPV l)) = some (.tuple (tDat l)) := by
  show (mapO (toPy 7) (tPV l)).map _ = _
  rw [toPy_t]
  rfl
theorem deref_t : ∀ (st : St) (l : List (Int × Int)), mapO (derefV st) (tPV l) = some (tPV l)
  | _, [] => rfl
  | st, p :: r => by
    have e : mapO (derefV st) (tPV (p :: r)) = (match mapO (derefV st) (tPV r) with | none => none | some l => some (PV.tup [.int p.1, .int p.2] :: l)) := by kernel_rfl
    rw [e, deref_t st r]
    rfl
theorem derefTup_t (l : List (Int × Int)) : derefTup (.tup (tPV l)) = M.ret (.tup (tPV l)) := by
  funext st
  show (match mapO (derefV st) (tPV l) with | some l' => _ | none => _) = _
  rw [deref_t]
  rfl
theorem ne_nil (l : List (Int × Int)) : ((cmpP .NotEq (.tup (tPV l)) (.tup [])).bind fun v => M.of (truthP v)) = M.ret (!l.isEmpty) := by
  have e : ((cmpP .NotEq (.tup (tPV l)) (.tup [])).bind fun v => M.of (truthP v)) = ((derefTup (.tup (tPV l))).bind fun a => M.of ((eqv a (.tup [])).map fun x => .bool (x != true))).bind fun v => M.of (truthP v) := by kernel_rfl
  rw [e, derefTup_t]
  show (M.of ((match toPy 8 (.tup (tPV l)) with | none => none | some x => _).map _)).bind _ = _
  rw [toPy_tup]
  cases l <;> kernel_rfl
theorem told_gen (n : Nat) {r : Row} {w : PV} {st0 : St} (hw : ∀ q, q ∈ r.all → G st0 (itemP w (.int q.1)) (.int q.2)) (h4 : G st0 (itemP w (.int 4)) (.int r.c)) : G st0 (cutM (runF cfg2 (n + 60) 287 [w])) r.told := by
  refine G.cut (G.run [S "row"] (by kernel_rfl) [(S "row", w)] rfl rfl (G.next (L := bd 287) (ρ' := [(S "some", .tup (tPV r.terms)), (S "row", w)]) 0 (by decide +kernel) ?_ (G.stop (L := bd 287) 1 (by decide +kernel) ?_))) (frz_told r)
  · refine G.cast (m' := (((noExc ((newO (.list [])).bind fun k => (loopU (M.ret ()) (M.ret ()) (tdT w k) [.int 0, .int (0 + 1), .int (0 + 1 + 1), .int (0 + 1 + 1 + 1)]).bind fun _ => takeO k)).bind fun v => M.ret [v]).bind fun vs => callV cfg2 (n + 56) (.con (.type "tuple")) vs).bind fun v => M.ret (Fl.next, [(S "some", v), (S "row", w)])) (by kernel_rfl) ?_
    refine G.bind (G.bind (G.bind (G.comp (gTold r) (by decide) fun a x hx => told_turns hw a x hx) G.ret) ?_) G.ret
    rw [show ([.int 0, .int (0 + 1), .int (0 + 1 + 1), .int (0 + 1 + 1 + 1)] : List PV).flatMap (gTold r) = tPV r.terms from told_flat r]
    exact G.cast (call_tup cfg2 _ (Nat.le_trans (tPV_len r) (by decide))) G.ret
  · refine G.cast (m' := (((cmpP .NotEq (.tup (tPV r.terms)) (.tup [])).bind fun v => M.of (truthP v)).bind fun c => ifB c (((((itemP w (.int 4)).bind fun v => M.ret [v]).bind fun vs => M.ret (PV.tup (tPV r.terms) :: vs)).bind fun vs => M.ret (PV.str (S "sum") :: vs)).bind fun vs => M.ret (PV.tup vs)) (itemP w (.int 4))).bind fun v => M.ret (.ret v, [(S "some", .tup (tPV r.terms)), (S "row", w)])) (by kernel_rfl) ?_
    refine G.bind (G.bind (G.cast (ne_nil r.terms) G.ret) ?_) G.ret
    unfold Row.told
    cases h : r.terms with
    | nil => exact h4
    | cons p t =>
      rw [if_neg (by intro q; cases q)]
      unfold Row.sum
      rw [h]
      exact G.bind (G.bind (G.bind (G.bind h4 G.ret) G.ret) G.ret) G.ret
theorem told_ok (n : Nat) (r : Row) (st0 : St) : G st0 (cutM (runF cfg2 (n + 60) 287 [r.pv])) r.told := by
  refine told_gen n (fun q hq => ?_) G.ret
  unfold Row.all at hq
  simp only [List.mem_cons, List.not_mem_nil, or_false] at hq
  rcases hq with e | e | e | e <;> subst e <;> exact G.ret
end Mine
end

section
namespace Mine
open PySem
set_option autoImplicit false
set_option maxRecDepth 100000
inductive Thing : PV → Row → Prop
  | bit (p : Int) (h : p = 0 ∨ p = 1 ∨ p = 2 ∨ p = 3) : Thing (.tup [.str (S "bit"), .int p, .bool true]) ⟨if p = 0 then 1 else 0, if p = 1 then 1 else 0, if p = 2 then 1 else 0, if p = 3 then 1 else 0, 0⟩
  | con (p : Int) (h : p = 0 ∨ p = 1 ∨ p = 2 ∨ p = 3) : Thing (.tup [.str (S "bit"), .int p, .bool false]) ⟨if p = 0 then -1 else 0, if p = 1 then -1 else 0, if p = 2 then -1 else 0, if p = 3 then -1 else 0, 1⟩
  | truth (b : Bool) : Thing (.bool b) ⟨0, 0, 0, 0, if b then 1 else 0⟩
  | told (r : Row) : Thing r.told r
theorem Fr.dr (st : St) : Fr st (dropTo st st.next) := Fr.rfl.drop
theorem Fr.dr2 (st : St) : Fr st (dropTo (dropTo st st.next) st.next) := (Fr.dr st).drop
theorem Fr.dr3 (st : St) : Fr st (dropTo (dropTo (dropTo st st.next) st.next) st.next) := (Fr.dr2 st).drop
theorem sum_int (n : Nat) (t : Int) (st0 : St) : G st0 (cutM (runF cfg2 (n + 60) 146 [.int t])) (.tup [.str (S "sum"), .tup [], .int t]) := fun st _ => ⟨_, _, (by kernel_rfl : _ = some (_, dropTo (dropTo (dropTo st st.next) st.next) st.next)), rfl, Fr.dr3 st⟩
theorem sum_bool (n : Nat) (t : Bool) (st0 : St) : G st0 (cutM (runF cfg2 (n + 60) 146 [.bool t])) (.tup [.str (S "sum"), .tup [], .int (if t then 1 else 0)]) := fun st _ => ⟨_, _, (by kernel_rfl : _ = some (_, dropTo (dropTo (dropTo st st.next) st.next) st.next)), rfl, Fr.dr3 st⟩
theorem sum_sum (n : Nat) (l : List PV) (c : Int) (st0 : St) : G st0 (cutM (runF cfg2 (n + 60) 146 [.tup [.str (S "sum"), .tup l, .int c]])) (.tup [.str (S "sum"), .tup l, .int c]) := fun st _ => ⟨_, _, (by kernel_rfl : _ = some (_, dropTo (dropTo st st.next) st.next)), rfl, Fr.dr2 st⟩
theorem sum_bit (n : Nat) (p : Int) (st0 : St) : G st0 (cutM (runF cfg2 (n + 60) 146 [.tup [.str (S "bit"), .int p, .bool true]])) (.tup [.str (S "sum"), .tup [.tup [.int p, .int 1]], .int 0]) := fun st _ => ⟨_, _, (by kernel_rfl : _ = some (_, dropTo (dropTo (dropTo st st.next) st.next) st.next)), rfl, Fr.dr3 st⟩
theorem sum_con (n : Nat) (p : Int) (st0 : St) : G st0 (cutM (runF cfg2 (n + 60) 146 [.tup [.str (S "bit"), .int p, .bool false]])) (.tup [.str (S "sum"), .tup [.tup [.int p, .int (-1)]], .int 1]) := fun st _ => ⟨_, _, (by kernel_rfl : _ = some (_, dropTo (dropTo (dropTo st st.next) st.next) st.next)), rfl, Fr.dr3 st⟩
theorem sum_ok (n : Nat) {v : PV} {r : Row} (h : Thing v r) (st0 : St) : G st0 (cutM (runF cfg2 (n + 60) 146 [v])) r.sum := by
  cases h with
  | bit p h => rcases h with rfl | rfl | rfl | rfl <;> exact sum_bit n _ st0
  | con p h => rcases h with rfl | rfl | rfl | rfl <;> exact sum_con n _ st0
  | truth b => exact sum_bool n b st0
  | told =>
    unfold Row.told
    split
    · rename_i h
      unfold Row.sum
      rw [h]
      exact sum_int n _ st0
    · exact sum_sum n _ _ st0
noncomputable def big (t : Int) : Bool := decide (10 ^ 1000 ≤ if t < 0 then -t else t)
theorem fig_if (n : Nat) (t : Int) : exec cfg2 (n + 58) (sk 132) [(S "number", .int t)] (nth (bd 132) 0) = ifB (big t) M.exc (M.ret (.next, [(S "number", .int t)])) := by kernel_rfl
theorem fig_ok (n : Nat) {t : Int} (h : big t = false) (st0 : St) : G st0 (cutM (runF cfg2 (n + 60) 132 [.int t])) (.int t) :=
  G.cut (G.run [S "number"] (by kernel_rfl) [(S "number", .int t)] rfl rfl (G.next (L := bd 132) 0 (by decide +kernel) (G.cast ((fig_if n t).trans (by rw [h]; rfl)) G.ret) (G.stop (L := bd 132) 1 (by decide +kernel) (G.cast (by kernel_rfl) G.ret)))) fun _ _ => rfl
theorem fig_no (n : Nat) {t : Int} (h : big t = true) (st : St) : Ev (cutM (runF cfg2 (n + 60) 132 [.int t])) st fun r st' => r = .exc ∧ Fr st st' :=
  Ev.cut (Ev.run [S "number"] (by kernel_rfl) [(S "number", .int t)] rfl rfl (Ev.stmt (L := bd 132) 0 (by decide +kernel) ⟨.exc, st, (by rw [(fig_if n t).trans (by rw [h]; rfl : _ = M.exc)]; rfl), rfl, Fr.dr st⟩))
theorem least_ok (n : Nat) (a b : Int) (st0 : St) : G st0 (cutM (runF cfg2 (n + 60) 28 [.tup [.tup [.int a, .int b]]])) (.int a) := fun st _ => ⟨_, _, (by kernel_rfl : _ = some (_, dropTo st st.next)), rfl, Fr.dr st⟩
theorem greatest_ok (n : Nat) (a b : Int) (st0 : St) : G st0 (cutM (runF cfg2 (n + 60) 35 [.tup [.tup [.int a, .int b]]])) (.int b) := fun st _ => ⟨_, _, (by kernel_rfl : _ = some (_, dropTo st st.next)), rfl, Fr.dr st⟩
end Mine
end

section
namespace Mine
open PySem
set_option autoImplicit false
set_option maxRecDepth 100000
noncomputable def dE : PySem.Expr := .Constant .none 0 ⟨0, 0, 0, 0⟩
noncomputable def sE (s : Stmt) : PySem.Expr := match s with
  | .Assign _ e _ => e
  | .Return e _ => e.getD dE
  | .Expr e _ => e
  | .For _ e _ _ _ => e
  | .If e _ _ _ => e
  | .While e _ _ _ => e
  | _ => dE
noncomputable def sT (s : Stmt) : PySem.Expr := match s with
  | .Assign l _ _ => l.headD dE
  | .For e _ _ _ _ => e
  | _ => dE
noncomputable def sB (s : Stmt) : List Stmt := match s with
  | .For _ _ b _ _ => b
  | .If _ b _ _ => b
  | .While _ b _ _ => b
  | _ => []
noncomputable def sO (s : Stmt) : List Stmt := match s with
  | .If _ _ o _ => o
  | _ => []
/-- the k-th part of an expression -/
noncomputable def xA (e : PySem.Expr) (k : Nat) : PySem.Expr := match e with
  | .Call f as _ _ => (f :: as).getD k dE
  | .Tuple es _ _ => es.getD k dE
  | .BinOp l _ r _ => [l, r].getD k dE
  | .Compare l _ rs _ => (l :: rs).getD k dE
  | .Attribute o _ _ => o
  | .Subscript o i _ => [o, i].getD k dE
  | .BoolOp _ es _ => es.getD k dE
  | .UnaryOp _ e _ => e
  | .IfExp t b o _ => [t, b, o].getD k dE
  | .ListComp e gs _ _ => (e :: gs.map (·.iter)).getD k dE
  | _ => dE
noncomputable def swapK (ρ : Locs) (nm : List Str) (v : PV) : M (Fl × Locs) := (M.of (tupO v)).bind fun l => if l.length = nm.length then M.ret (.next, nm.zip l ++ ρ) else M.fail
noncomputable def cG (e : PySem.Expr) : Comprehension := match e with
  | .ListComp _ (g :: _) _ _ => g
  | _ => ⟨dE, dE, [], 0⟩
noncomputable def cS (e : PySem.Expr) : Scope := match e with
  | .ListComp _ _ sc _ => sc
  | _ => noDef.2.2
section
variable {C : Cfg} {n : Nat} {sc : Scope} {ρ ρ' : Locs} {st st0 : St} {s : Stmt} {e : PySem.Expr}
theorem G.asg {v : PV} (h : exec C (n + 1) sc ρ s = (evalE C n sc ρ (sE s)).bind fun v => (assignT C n sc ρ (sT s) v).bind fun ρ => M.ret (.next, ρ)) (he : G st0 (evalE C n sc ρ (sE s)) v) (ht : assignT C n sc ρ (sT s) v = M.ret ρ') : G st0 (exec C (n + 1) sc ρ s) (.next, ρ') :=
  G.cast h (G.bind he (by rw [ht]; exact G.ret))
theorem G.retn {v : PV} (h : exec C (n + 1) sc ρ s = (evalE C n sc ρ (sE s)).bind fun v => M.ret (.ret v, ρ)) (he : G st0 (evalE C n sc ρ (sE s)) v) : G st0 (exec C (n + 1) sc ρ s) (.ret v, ρ) := G.cast h (G.bind he G.ret)
theorem G.pair {v w : PV} (h : evalE C (n + 4) sc ρ e = ((evalE C (n + 2) sc ρ (xA e 0)).bind fun v => ((evalE C (n + 1) sc ρ (xA e 1)).bind fun w => M.ret [w]).bind fun vs => M.ret (v :: vs)).bind fun vs => M.ret (.tup vs)) (h1 : G st0 (evalE C (n + 2) sc ρ (xA e 0)) v) (h2 : G st0 (evalE C (n + 1) sc ρ (xA e 1)) w) : G st0 (evalE C (n + 4) sc ρ e) (.tup [v, w]) :=
  G.cast h (G.bind (G.bind h1 (G.bind (G.bind h2 G.ret) G.ret)) G.ret)
theorem G.swap {l : List PV} (nm : List Str) (h : exec C (n + 1) sc ρ s = (evalE C n sc ρ (sE s)).bind (swapK ρ nm)) (he : G st0 (evalE C n sc ρ (sE s)) (.tup l)) (hl : l.length = nm.length) : G st0 (exec C (n + 1) sc ρ s) (.next, nm.zip l ++ ρ) :=
  G.cast h (G.bind he (by show G st0 (if _ then _ else _) _; rw [if_pos hl]; exact G.ret))
/-- a comprehension with one row of turns -/
theorem G.lcomp {v : PV} {l : List PV} (g : PV → List PV) (h : evalE C (n + 1) sc ρ e = Mine.noExc ((srcE C n sc ρ (cG e).target (xA e 1)).bind fun src => (newO (.list [])).bind fun k =>
          (onSrc C.hd src fun ck fin => loopU ck fin fun x => compTurn C n (compScope sc (cS e)) (xA e 0) (cG e) (stripL (cS e) ρ) k x).bind fun _ => takeO k))
    (hs : G st0 (srcE C n sc ρ (cG e).target (xA e 1)) (.val v)) (hi : ∀ body : List PV → M Unit, onItems C.hd v body = body l) (hl : l.length < 1000)
    (hf : ∀ k x, x ∈ l → (g x).length ≤ 1 ∧ Tn st0 k (compTurn C n (compScope sc (cS e)) (xA e 0) (cG e) (stripL (cS e) ρ) k x) (g x)) : G st0 (evalE C (n + 1) sc ρ e) (.lst (l.flatMap g)) := by
  refine G.cast h fun st q => Ev.noExc ?_
  refine ((hs st q).bind fun st1 F => ?_)
  have hc := (G.comp (st0 := st1) (f := fun k x => compTurn C n (compScope sc (cS e)) (xA e 0) (cG e) (stripL (cS e) ρ) k x) g hl (fun k x hx => ⟨(hf k x hx).1, fun st2 acc q2 => (hf k x hx).2 st2 acc ((q.trans F).trans q2)⟩)) st1 .rfl
  obtain ⟨r, st', e', rfl, w⟩ := hc
  refine ⟨.ok _, st', ?_, ⟨_, rfl⟩, rfl, F.trans w⟩
  have e2 : ∀ k, (onSrc C.hd (.val v) fun ck fin => loopU ck fin fun x => compTurn C n (compScope sc (cS e)) (xA e 0) (cG e) (stripL (cS e) ρ) k x) = loopU (M.ret ()) (M.ret ()) (fun x => compTurn C n (compScope sc (cS e)) (xA e 0) (cG e) (stripL (cS e) ρ) k x) l := fun k => hi _
  have e3 : ((newO (.list [])).bind fun k => (onSrc C.hd (.val v) fun ck fin => loopU ck fin fun x => compTurn C n (compScope sc (cS e)) (xA e 0) (cG e) (stripL (cS e) ρ) k x).bind fun _ => takeO k) = ((newO (.list [])).bind fun k => (loopU (M.ret ()) (M.ret ()) (fun x => compTurn C n (compScope sc (cS e)) (xA e 0) (cG e) (stripL (cS e) ρ) k x) l).bind fun _ => takeO k) := congrArg _ (funext fun k => by rw [e2])
  rw [e3]
  unfold Mine.noExc at e'
  revert e'
  cases ((newO (.list [])).bind fun k => (loopU (M.ret ()) (M.ret ()) (fun x => compTurn C n (compScope sc (cS e)) (xA e 0) (cG e) (stripL (cS e) ρ) k x) l).bind fun _ => takeO k) st1 with
  | none => intro e'; cases e'
  | some p =>
    obtain ⟨r, s'⟩ := p
    cases r with
    | exc => intro e'; cases e'
    | ok a => exact id
theorem Tn.turn {k : Nat} {elt : PySem.Expr} {gn : Comprehension} {x v : PV} {b : Bool} (y : Str) (h : compTurn C (n + 1) sc elt gn ρ k x = (M.of (if (ρ.lookup y).isSome then none else some ((y, x) :: ρ))).bind fun ρ => (allT C n sc ρ .And gn.ifs).bind fun b => (match b with | true => (evalE C n sc ρ elt).bind fun v => appO k v | false => M.ret ()))
    (hy : ρ.lookup y = none) (hb : G st0 (allT C n sc ((y, x) :: ρ) .And gn.ifs) b) (hv : b = true → G st0 (evalE C n sc ((y, x) :: ρ) elt) v) : Tn st0 k (compTurn C (n + 1) sc elt gn ρ k x) (if b = true then [v] else []) := by
  rw [h, hy]
  refine Tn.bind (v := (y, x) :: ρ) G.ret (Tn.bind hb ?_)
  cases b with
  | true => exact Tn.bind (hv rfl) Tn.app
  | false => exact Tn.non
theorem strip_free {sc' : Scope} {x : Str} (h : sc'.names.lookup x = some .free) : (stripL sc' ρ).lookup x = ρ.lookup x := by
  unfold stripL
  induction ρ with
  | nil => rfl
  | cons p r ih =>
    obtain ⟨y, w⟩ := p
    rw [List.filter_cons, List.lookup_cons]
    by_cases e : x = y
    · subst e
      simp only [h, if_true, List.lookup_cons, beq_self_eq_true]
    · have e' : (x == y) = false := beq_eq_false_iff_ne.mpr e
      rw [e']
      dsimp only
      split
      · rw [List.lookup_cons, e']; exact ih
      · exact ih
theorem strip_none {sc' : Scope} {x : Str} (h : (sc'.names.lookup x == some .free) = false) : (stripL sc' ρ).lookup x = none := by
  unfold stripL
  induction ρ with
  | nil => rfl
  | cons p r ih =>
    obtain ⟨y, w⟩ := p
    rw [List.filter_cons]
    dsimp only
    split
    · rename_i q
      rw [List.lookup_cons]
      have e' : (x == y) = false := by
        rw [beq_eq_false_iff_ne]
        rintro rfl
        revert q h
        cases sc'.names.lookup x with
        | none => intro h q; cases q
        | some k => cases k <;> intro h q <;> first | (exact absurd h (by decide)) | cases q
      rw [e']
      exact ih
    · exact ih
end
theorem plus0 (n : Nat) {a b : PV} {r s : Row} (ha : Thing a r) (hb : Thing b s) (f : Int) (st0 : St) : G st0 (exec cfg2 (n + 78) (sk 151) [(S "factor", .int f), (S "other", b), (S "one", a)] (nth (bd 151) 0)) (.next, (S "one", r.sum) :: (S "other", s.sum) :: [(S "factor", .int f), (S "other", b), (S "one", a)]) := by
  refine G.swap [S "one", S "other"] (by kernel_rfl) (G.pair (v := r.sum) (w := s.sum) (by kernel_rfl) ?_ ?_) rfl
  · exact G.cast (m' := cutM (runF cfg2 (n + 73) 146 [a])) (by kernel_rfl) (sum_ok (n + 13) ha st0)
  · exact G.cast (m' := cutM (runF cfg2 (n + 72) 146 [b])) (by kernel_rfl) (sum_ok (n + 12) hb st0)
end Mine
end

section
namespace Mine
open PySem
set_option autoImplicit false
set_option maxRecDepth 100000
theorem insI_comm (a b : Int) : ∀ s : List Int, insI a (insI b s) = insI b (insI a s)
  | [] => by
    show (if b < a then [b, a] else [a, b]) = (if a < b then [a, b] else [b, a])
    split <;> split <;> first | rfl | omega | (have : a = b := by omega
                                               subst this; rfl)
  | y :: r => by
    have ih := insI_comm a b r
    have e : ∀ x z : Int, ∀ l, insI x (z :: l) = if z < x then z :: insI x l else x :: z :: l := fun _ _ _ => rfl
    rw [e b y r, e a y r]
    by_cases hb : y < b <;> by_cases ha : y < a
    · rw [if_pos hb, if_pos ha, e, e, if_pos ha, if_pos hb, ih]
    · rw [if_pos hb, if_neg ha, e, if_neg ha, e b a, if_pos (by omega), e b y, if_pos hb]
    · rw [if_neg hb, if_pos ha, e b y, if_neg hb, e a b, if_pos (by omega), e a y, if_pos ha]
    · rw [if_neg hb, if_neg ha, e a b, e b a, e a y, e b y, if_neg ha, if_neg hb]
      by_cases h : a = b
      · subst h; rfl
      · by_cases q : b < a
        · rw [if_pos q, if_neg (by omega)]
        · rw [if_neg q, if_pos (by omega)]
theorem sortI_snoc (k : Int) : ∀ l : List Int, sortI (l ++ [k]) = insI k (sortI l)
  | [] => rfl
  | x :: r => by
    show insI x (sortI (r ++ [k])) = insI k (insI x (sortI r))
    rw [sortI_snoc k r, insI_comm]
theorem find_put {es : List (Int × PV)} {k : Int} {w : PV} (i : Int) : findG (putG es k w) i = if i = k then some w else findG es i := by
  have hm : ∀ l : List (Int × PV), findG (l.map fun p => if p.1 = k then (p.1, w) else p) i = if i = k then (if l.any (fun p => p.1 = k) then some w else none) else findG l i := by
    intro l
    induction l with
    | nil => simp [findG]
    | cons p r ih =>
      unfold findG at ih ⊢
      rw [List.map_cons, List.find?_cons, List.find?_cons, List.any_cons]
      by_cases hp : p.1 = k
      · rw [if_pos hp]
        by_cases hi : i = k
        · subst hi; simp [hp]
        · have : k ≠ i := fun q => hi q.symm
          rw [if_neg hi] at ih ⊢
          simp only [hp, this, decide_false, ih]
      · rw [if_neg hp]
        by_cases hi : i = k
        · subst hi
          rw [if_pos rfl] at ih ⊢
          simp only [hp, decide_false, Bool.false_or, ih]
        · rw [if_neg hi] at ih ⊢
          by_cases hq : p.1 = i
          · simp only [hq, decide_true, Option.map_some]
          · simp only [hq, decide_false, ih]
  unfold putG
  split
  · rename_i h
    rw [hm, h]
    rfl
  · rename_i h
    unfold findG
    rw [List.find?_append]
    by_cases hi : i = k
    · subst hi
      have : es.find? (fun p => decide (p.1 = i)) = none := by
        rw [List.find?_eq_none]
        intro p hp hq
        exact h (List.any_eq_true.mpr ⟨p, hp, hq⟩)
      rw [this, if_pos rfl]
      simp
    · rw [if_neg hi]
      have : k ≠ i := fun q => hi q.symm
      simp [this]
theorem keys_put {es : List (Int × PV)} {k : Int} {w : PV} : (putG es k w).map (·.1) = if (findG es k).isSome then es.map (·.1) else es.map (·.1) ++ [k] := by
  have e : (findG es k).isSome = es.any (fun p => p.1 = k) := by
    unfold findG
    rw [Option.isSome_map, List.isSome_find?]
  rw [e]
  unfold putG
  split
  · rw [List.map_map]
    exact List.map_congr_left fun p _ => by
      show (if p.1 = k then (p.1, w) else p).1 = p.1
      split <;> rfl
  · rw [List.map_append]
    rfl
noncomputable def pick (f : Int → Bool) : List Int := [0, 1, 2, 3].filter f
structure D (es : List (Int × PV)) (g : Int → Option Int) (m : Nat) : Prop where
  find : ∀ i, findG es i = (g i).map PV.int
  keys : sortI (es.map (·.1)) = pick fun i => (g i).isSome
  len : es.length ≤ m
noncomputable def four (k : Int) : Prop := k = 0 ∨ k = 1 ∨ k = 2 ∨ k = 3
theorem D.nil : D [] (fun _ => none) 0 := ⟨fun _ => rfl, by rfl, Nat.le_refl _⟩
theorem pick4 : ∀ b0 b1 b2 b3 : Bool,
    (b0 = false → insI 0 ((if b0 then [0] else []) ++ ((if b1 then [1] else []) ++ ((if b2 then [2] else []) ++ (if b3 then [3] else [])))) = [0] ++ ((if b1 then [1] else []) ++ ((if b2 then [2] else []) ++ (if b3 then [3] else [])))) ∧
    (b1 = false → insI 1 ((if b0 then [0] else []) ++ ((if b1 then [1] else []) ++ ((if b2 then [2] else []) ++ (if b3 then [3] else [])))) = (if b0 then [0] else []) ++ ([1] ++ ((if b2 then [2] else []) ++ (if b3 then [3] else [])))) ∧
    (b2 = false → insI 2 ((if b0 then [0] else []) ++ ((if b1 then [1] else []) ++ ((if b2 then [2] else []) ++ (if b3 then [3] else [])))) = (if b0 then [0] else []) ++ ((if b1 then [1] else []) ++ ([2] ++ (if b3 then [3] else [])))) ∧
    (b3 = false → insI 3 ((if b0 then [0] else []) ++ ((if b1 then [1] else []) ++ ((if b2 then [2] else []) ++ (if b3 then [3] else [])))) = (if b0 then [0] else []) ++ ((if b1 then [1] else []) ++ ((if b2 then [2] else []) ++ [3]))) := by decide
theorem pick_eq (f : Int → Bool) : pick f = (if f 0 then [0] else []) ++ ((if f 1 then [1] else []) ++ ((if f 2 then [2] else []) ++ (if f 3 then [3] else []))) := by
  unfold pick
  cases h0 : f 0 <;> cases h1 : f 1 <;> cases h2 : f 2 <;> cases h3 : f 3 <;> simp [h0, h1, h2, h3]
theorem D.put {es : List (Int × PV)} {g : Int → Option Int} {m : Nat} (h : D es g m) {k v : Int} (hk : four k) : D (putG es k (.int v)) (fun i => if i = k then some v else g i) (m + 1) := by
  have hs : (putG es k (.int v)).length ≤ m + 1 := by
    have := h.len
    unfold putG
    split
    · rw [List.length_map]; omega
    · rw [List.length_append, List.length_cons, List.length_nil]; omega
  refine ⟨fun i => ?_, ?_, hs⟩
  · rw [find_put, h.find]
    split <;> rfl
  · rw [keys_put]
    split
    · rename_i q
      rw [h.keys]
      rw [h.find, Option.isSome_map] at q
      unfold pick
      refine List.filter_congr fun i _ => ?_
      show _ = (if i = k then some v else g i).isSome
      split
      · rename_i e; rw [e, q]; rfl
      · rfl
    · rename_i q
      rw [sortI_snoc, h.keys, pick_eq, pick_eq]
      rw [h.find, Option.isSome_map, Bool.not_eq_true] at q
      have P := pick4 (g 0).isSome (g 1).isSome (g 2).isSome (g 3).isSome
      rcases hk with rfl | rfl | rfl | rfl
      · exact P.1 q
      · exact P.2.1 q
      · exact P.2.2.1 q
      · exact P.2.2.2 q
noncomputable def dob (es : List (Int × PV)) : MO := if es.isEmpty then .dict0 else .dictI es
theorem dob_put {es : List (Int × PV)} {k : Int} {v : PV} (h : es.length < 1000) : putD (dob es) (.I k) v = some (dob (putG es k v)) := by
  cases es with
  | nil => rfl
  | cons p r =>
    have e : putD (dob (p :: r)) (.I k) v = if (p :: r).length < 1000 then some (.dictI (putG (p :: r) k v)) else none := rfl
    rw [e, if_pos h]
    have : (putG (p :: r) k v).isEmpty = false := by
      unfold putG
      split <;> rfl
    unfold dob
    rw [this]
    rfl
end Mine
end

section
namespace Mine
open PySem
set_option autoImplicit false
set_option maxRecDepth 100000
noncomputable def Row.at (r : Row) (i : Int) : Int := if i = 0 then r.a0 else if i = 1 then r.a1 else if i = 2 then r.a2 else if i = 3 then r.a3 else 0
noncomputable def Row.plus (r s : Row) (f : Int) : Row := ⟨r.a0 + f * s.a0, r.a1 + f * s.a1, r.a2 + f * s.a2, r.a3 + f * s.a3, r.c + f * s.c⟩
theorem at_plus (r s : Row) (f : Int) {i : Int} (h : four i) : (r.plus s f).at i = r.at i + f * s.at i := by
  rcases h with rfl | rfl | rfl | rfl <;> rfl
noncomputable def W (s : Row) (l : List (Int × Int)) : Prop := l.Pairwise (fun p q => p.1 ≠ q.1) ∧ ∀ q, q ∈ l → four q.1 ∧ q.2 = s.at q.1
theorem W_terms (r : Row) : W r r.terms := by
  refine ⟨List.Pairwise.filter _ ?_, fun q hq => ?_⟩
  · exact (List.pairwise_map (f := fun q : Int × Int => q.1) (R := (· ≠ ·))).mp (by show List.Pairwise (· ≠ ·) [(0 : Int), 1, 2, 3]; decide)
  · have hq := (List.mem_filter.mp hq).1
    unfold Row.all at hq
    simp only [List.mem_cons, List.not_mem_nil, or_false] at hq
    rcases hq with rfl | rfl | rfl | rfl
    · exact ⟨.inl rfl, rfl⟩
    · exact ⟨.inr (.inl rfl), rfl⟩
    · exact ⟨.inr (.inr (.inl rfl)), rfl⟩
    · exact ⟨.inr (.inr (.inr rfl)), rfl⟩
theorem mem_terms (r : Row) {i : Int} (h : four i) (hn : i ∉ r.terms.map (·.1)) : r.at i = 0 := by
  by_cases q : r.at i = 0
  · exact q
  · refine absurd (List.mem_map.mpr ⟨(i, r.at i), List.mem_filter.mpr ⟨?_, decide_eq_true q⟩, rfl⟩) hn
    rcases h with rfl | rfl | rfl | rfl
    · exact .head _
    · exact .tail _ (.head _)
    · exact .tail _ (.tail _ (.head _))
    · exact .tail _ (.tail _ (.tail _ (.head _)))
theorem putAll_ok (s : Row) : ∀ (l : List (Int × Int)) (es : List (Int × PV)) (g : Int → Option Int) (m : Nat), (∀ q, q ∈ l → four q.1 ∧ q.2 = s.at q.1) → D es g m →
    ∃ es' g', putAllI es (l.map fun p => (.int p.1, .int p.2)) = some es' ∧ D es' g' (m + l.length) ∧ ∀ i, (g' i).getD 0 = if i ∈ l.map (·.1) then s.at i else (g i).getD 0
  | [], es, g, m, _, h => ⟨es, g, rfl, h, fun i => by rw [List.map_nil, if_neg List.not_mem_nil]⟩
  | p :: l, es, g, m, hl, h => by
    have hp := hl p (.head _)
    obtain ⟨es', g', e, hD, hg⟩ := putAll_ok s l _ _ _ (fun q hq => hl q (.tail _ hq)) (h.put (v := p.2) hp.1)
    refine ⟨es', g', e, ?_, fun i => ?_⟩
    · rw [List.length_cons, Nat.add_comm l.length, ← Nat.add_assoc]; exact hD
    · rw [hg, List.map_cons]
      by_cases q : i ∈ l.map (·.1)
      · rw [if_pos q, if_pos (.tail _ q)]
      · rw [if_neg q]
        by_cases w : i = p.1
        · subst w; rw [if_pos rfl, if_pos (.head _), hp.2]; rfl
        · rw [if_neg w, if_neg (fun z => by cases z with | head => exact w rfl | tail _ z => exact q z)]
noncomputable def K (g : Int → Option Int) (r : Row) : Prop := ∀ i, four i → (g i).getD 0 = r.at i
theorem pairs_t : ∀ l : List (Int × Int), pairsOf (tPV l) = some (l.map fun p => (.int p.1, .int p.2))
  | [] => rfl
  | p :: r => by
    have e : pairsOf (tPV (p :: r)) = (match pairsOf (tPV r) with | none => none | some l => some ((PV.int p.1, PV.int p.2) :: l)) := by kernel_rfl
    rw [e, pairs_t r]
    rfl
theorem terms_len (r : Row) : r.terms.length ≤ 4 := List.length_filter_le _ _
theorem dict_ok (r : Row) {st : St} {Q : R PV → St → Prop} (h : ∀ es g, D es g 4 → K g r → Q (.ok (.loc st.next)) (st.new (dob es))) : Ev (dictP false (.tup (tPV r.terms))) st Q := by
  obtain ⟨es, g, e, hD, hg⟩ := putAll_ok r r.terms [] (fun _ => none) 0 (W_terms r).2 .nil
  have e1 : dictP false (.tup (tPV r.terms)) = (M.of (pairsOf (tPV r.terms))).bind fun ps => if 1000 < ps.length then M.fail else (M.of (putAllI [] ps)).bind fun es => (newO (dob es)).bind fun k => M.ret (.loc k) := by kernel_rfl
  rw [e1, pairs_t]
  show Ev (if 1000 < (r.terms.map _).length then _ else _) st Q
  have hl := terms_len r
  rw [if_neg (by rw [List.length_map]; omega), e]
  refine Ev.newO (f := fun k => M.ret (PV.loc k)) (Ev.ret (a := PV.loc st.next) (h es g ⟨hD.find, hD.keys, Nat.le_trans hD.len (by omega)⟩ fun i hi => ?_))
  rw [hg]
  split
  · rfl
  · rename_i q
    exact (mem_terms r hi q).symm
theorem mul_ok {x y : Int} (hx : bitsOk x = true) (hy : bitsOk y = true) : binP .Mult (.int x) (.int y) = some (.int (x * y)) := by
  show (if (bitsOk x && bitsOk y) = true then _ else _) = _
  rw [hx, hy]
  rfl
theorem get_ok {es : List (Int × PV)} {k : Nat} {st : St} (ho : st.objs k = some (dob es)) (hk : k < st.next) (n : Nat) (p : Int) (v : PV) : G st ((methK cfg2 (.loc k) (S "get")).bind fun mk => methApp cfg2 (n + 1) (.loc k) mk [.int p, v]) ((findG es p).getD v) := by
  cases es with
  | nil =>
    refine G.bind (v := .get) (G.get ho hk (G.cast (m' := M.ret .get) (by kernel_rfl) G.ret)) ?_
    exact G.get ho hk G.ret
  | cons a r =>
    refine G.bind (v := .get) (G.get ho hk (G.cast (m' := M.ret .get) (by kernel_rfl) G.ret)) ?_
    exact G.get ho hk G.ret
theorem set_ok {es : List (Int × PV)} {k : Nat} {st : St} (ho : st.objs k = some (dob es)) (p : Int) (v : PV) (hl : es.length < 1000) {β : Type} {f : Unit → M β} {Q : R β → St → Prop} (h : Ev (f ()) (st.put k (some (dob (putG es p v)))) Q) : Ev ((setI (.loc k) (.int p) v).bind f) st Q := by
  have e : setI (.loc k) (.int p) v st = some (.ok (), st.put k (some (dob (putG es p v)))) := by
    have e1 : setI (.loc k) (.int p) v = (getO k).bind fun o => match listO o with
      | some l => if 0 ≤ p ∧ p.toNat < l.length ∧ p < 1000000 then setO k (some (.list (l.set p.toNat v))) else M.fail
      | none => (M.of (putD o (.I p) v)).bind fun o' => setO k (some o') := by kernel_rfl
    rw [e1]
    unfold M.bind getO
    rw [ho]
    have hp := dob_put (k := p) (v := v) hl
    cases es with
    | nil => rfl
    | cons a r =>
      show M.bind (M.of (putD (.dictI (a :: r)) (.I p) v)) _ st = _
      rw [show putD (.dictI (a :: r)) (.I p) v = _ from hp]
      rfl
  obtain ⟨r, s', e2, q⟩ := h
  refine ⟨r, s', ?_, q⟩
  show M.bind _ _ st = _
  unfold M.bind
  rw [e]
  exact e2
noncomputable abbrev plS (k : Nat) : Stmt := nth (bd 151) k
noncomputable def plTurn (n : Nat) (x : PV) (ρ : Locs) : M (Fl × Locs) := (assignT cfg2 (n + 75) (sk 151) ρ (sT (plS 2)) x).bind fun ρ => execs cfg2 (n + 75) (sk 151) ρ (sB (plS 2))
theorem Ev.asg {C : Cfg} {n : Nat} {sc : Scope} {ρ : Locs} {s : Stmt} {st : St} {Q : R (Fl × Locs) → St → Prop} {P : R PV → St → Prop} (h : exec C (n + 1) sc ρ s = (evalE C n sc ρ (sE s)).bind fun v => (assignT C n sc ρ (sT s) v).bind fun ρ => M.ret (.next, ρ)) (he : Ev (evalE C n sc ρ (sE s)) st P)
    (hq : ∀ v st', P (.ok v) st' → Ev ((assignT C n sc ρ (sT s) v).bind fun ρ => M.ret (.next, ρ)) st' Q) (hx : ∀ st', P .exc st' → Q .exc st') : Ev (exec C (n + 1) sc ρ s) st Q := by
  rw [h]
  exact Ev.bind he hq hx
theorem Ev.cast {α : Type} {m m' : M α} {st : St} {Q : R α → St → Prop} (e : m = m') (h : Ev m' st Q) : Ev m st Q := e ▸ h
theorem plus_turn (n : Nat) {ρ : Locs} {k : Nat} {es : List (Int × PV)} {p a f x : Int} {st : St} (e1 : ρ.lookup (S "parts") = some (.loc k)) (e2 : ρ.lookup (S "factor") = some (.int f)) (hf : bitsOk f = true) (ha : bitsOk a = true) (ho : st.objs k = some (dob es)) (hk : k < st.next) (hl : es.length < 1000)
    (hx : (findG es p).getD (.int 0) = .int (x - f * a)) : Ev (plTurn n (.tup [.int p, .int a]) ρ) st fun r st' => (big x = true ∧ r = .exc ∧ Fr st st') ∨ (big x = false ∧ r = .ok (.next, (S "a", .int a) :: (S "x", .int p) :: ρ) ∧ Fr1 k st st' ∧ st'.objs k = some (dob (putG es p (.int x)))) := by
  unfold plTurn
  rw [show assignT cfg2 (n + 75) (sk 151) ρ (sT (plS 2)) (.tup [.int p, .int a]) = M.ret ((S "a", .int a) :: (S "x", .int p) :: ρ) from by kernel_rfl]
  show Ev (execs cfg2 (n + 75) (sk 151) _ ((sB (plS 2)).drop 0)) st _
  refine Ev.stmt 0 (by decide +kernel) (Ev.asg (P := fun r st' => (big x = true ∧ r = .exc ∧ Fr st st') ∨ (big x = false ∧ r = .ok (.int x) ∧ Fr st st')) (by kernel_rfl) (Ev.cast (m' := (((((M.of (ρ.lookup (S "parts"))).bind fun ov => (methK cfg2 ov (S "get")).bind fun mk => methApp cfg2 (n + 69) ov mk [.int p, .int 0]).bind fun v => ((M.of (ρ.lookup (S "factor"))).bind fun b => M.of (binP .Mult b (.int a))).bind fun b => M.of (binP .Add v b)).bind fun v => M.ret [v]).bind fun vs => callV cfg2 (n + 72) (.con (.ref 132)) vs)) (by kernel_rfl) ?_) ?_ ?_)
  · have hA : G st ((((M.of (ρ.lookup (S "parts"))).bind fun ov => (methK cfg2 ov (S "get")).bind fun mk => methApp cfg2 (n + 69) ov mk [.int p, .int 0]).bind fun v => ((M.of (ρ.lookup (S "factor"))).bind fun b => M.of (binP .Mult b (.int a))).bind fun b => M.of (binP .Add v b)).bind fun v => M.ret [v]) [.int x] := by
      refine G.bind (G.bind (G.bind (G.of e1) (get_ok ho hk (n + 68) p (.int 0))) (G.bind (G.bind (G.of e2) (G.of (mul_ok hf ha))) (G.of (v := .int x) ?_))) G.ret
      rw [hx]
      show some (PV.int (x - f * a + f * a)) = _
      rw [Int.sub_add_cancel]
    refine hA.at.bind fun st1 F => ?_
    refine Ev.cast (m' := cutM (runF cfg2 (n + 71) 132 [.int x])) (by kernel_rfl) ?_
    cases hb : big x with
    | true => exact (fig_no (n + 11) hb st1).mono fun r st' q => .inl ⟨rfl, q.1, F.trans q.2⟩
    | false => exact (fig_ok (n + 11) hb st1).at.mono fun r st' q => .inr ⟨rfl, q.1, F.trans q.2⟩
  · rintro v st1 (⟨_, q, _⟩ | ⟨hb, q, F⟩)
    · cases q
    · cases q
      refine Ev.cast (m' := ((M.of (ρ.lookup (S "parts"))).bind fun ov => (setI ov (.int p) (.int x)).bind fun _ => M.ret ((S "a", .int a) :: (S "x", .int p) :: ρ)).bind fun ρ => M.ret (.next, ρ)) (by kernel_rfl) ?_
      rw [e1]
      refine Ev.bind (P := fun r st' => r = .ok ((S "a", .int a) :: (S "x", .int p) :: ρ) ∧ st' = st1.put k (some (dob (putG es p (.int x))))) (set_ok (F.get ho hk) p _ hl (.ret ⟨rfl, rfl⟩)) ?_ ?_
      · rintro a' st2 ⟨q, rfl⟩
        cases q
        refine .ret (Ev.done (L := sB (plS 2)) (k := 1) (by decide +kernel) (.inr ⟨hb, rfl, F.fr1.trans .put, St.put_at⟩))
      · rintro st2 ⟨q, _⟩
        cases q
  · rintro st1 (⟨hb, q, F⟩ | ⟨_, q, _⟩)
    · exact .inl ⟨hb, rfl, F⟩
    · cases q
end Mine
end

section
namespace Mine
open PySem
set_option autoImplicit false
set_option maxRecDepth 100000
theorem D.up {es : List (Int × PV)} {g : Int → Option Int} {m m' : Nat} (h : D es g m) (q : m ≤ m') : D es g m' := ⟨h.find, h.keys, Nat.le_trans h.len q⟩
theorem plus_loop (n : Nat) (r s : Row) (f c : Int) (k : Nat) (hf : bitsOk f = true) (hs : ∀ i, four i → bitsOk (s.at i) = true) : ∀ (l : List (Int × Int)) (es : List (Int × PV)) (g : Int → Option Int) (m : Nat) (ρ : Locs) (st : St), W s l → D es g m → m + l.length < 50 →
    (∀ i, four i → (g i).getD 0 = if i ∈ l.map (·.1) then r.at i else (r.plus s f).at i) → ρ.lookup (S "parts") = some (.loc k) → ρ.lookup (S "factor") = some (.int f) → ρ.lookup (S "constant") = some (.int c) → st.objs k = some (dob es) → k < st.next →
    Ev (loopF (β := Unit) (plTurn n) (tPV l) ρ) st fun res st' => Fr1 k st st' ∧ (((∃ q, q ∈ l ∧ big ((r.plus s f).at q.1) = true) ∧ res = .exc) ∨ ((∀ q, q ∈ l → big ((r.plus s f).at q.1) = false) ∧ ∃ ρ' es' g', res = .ok (.next, ρ') ∧ ρ'.lookup (S "parts") = some (.loc k) ∧ ρ'.lookup (S "constant") = some (.int c) ∧ D es' g' 50 ∧ K g' (r.plus s f) ∧ st'.objs k = some (dob es')))
  | [], es, g, m, ρ, st, _, hD, hm, hI, e1, _, e3, ho, _ => .ret ⟨Fr.rfl.fr1, .inr ⟨fun _ h => absurd h List.not_mem_nil, ρ, es, g, rfl, e1, e3, hD.up (by omega), fun i hi => by rw [hI i hi, List.map_nil, if_neg List.not_mem_nil], ho⟩⟩
  | (p, a) :: l, es, g, m, ρ, st, hW, hD, hm, hI, e1, e2, e3, ho, hk => by
    obtain ⟨hp, rfl⟩ : four p ∧ a = s.at p := hW.2 (p, a) (.head _)
    have hW' : W s l := ⟨(List.pairwise_cons.mp hW.1).2, fun q hq => hW.2 q (.tail _ hq)⟩
    have hnot : p ∉ l.map (·.1) := fun h => by
      obtain ⟨q, hq, e⟩ := List.mem_map.mp h
      exact (List.pairwise_cons.mp hW.1).1 q hq e.symm
    rw [List.length_cons] at hm
    have hv : (g p).getD 0 = r.at p := (hI p hp).trans (if_pos (List.mem_cons_self ..))
    have hl := hD.len
    refine Ev.bind (m := plTurn n (.tup [.int p, .int (s.at p)]) ρ) (plus_turn n (x := (r.plus s f).at p) e1 e2 hf (hs p hp) ho hk (by omega) ?_) (fun w st1 h => ?_) fun st1 h => ?_
    · rw [hD.find, at_plus r s f hp, Int.add_sub_cancel, ← hv]
      cases g p <;> rfl
    · rcases h with ⟨_, q, _⟩ | ⟨hb, q, F, ho'⟩
      · cases q
      · cases q
        refine (plus_loop n r s f c k hf hs l _ _ (m + 1) _ st1 hW' (hD.put hp) (by omega) (fun i hi => ?_) ?_ ?_ ?_ ho' (Nat.lt_of_lt_of_le hk F.le)).mono fun res st' h => ⟨F.trans h.1, ?_⟩
        · by_cases e : i = p
          · subst e; rw [if_pos rfl, if_neg hnot]; rfl
          · rw [if_neg e, hI i hi, List.map_cons]
            by_cases q : i ∈ l.map (·.1)
            · rw [if_pos q, if_pos (.tail _ q)]
            · rw [if_neg q, if_neg (fun z => by cases z with | head => exact e rfl | tail _ z => exact q z)]
        · exact e1
        · exact e2
        · exact e3
        · rcases h.2 with ⟨⟨q, hq, hb'⟩, e⟩ | ⟨ha, e⟩
          · exact .inl ⟨⟨q, .tail _ hq, hb'⟩, e⟩
          · refine .inr ⟨fun q hq => ?_, e⟩
            cases hq with
            | head => exact hb
            | tail _ hq => exact ha q hq
    · rcases h with ⟨hb, _, F⟩ | ⟨_, q, _⟩
      · exact ⟨F.fr1, .inl ⟨⟨_, .head _, hb⟩, rfl⟩⟩
      · cases q
noncomputable def gPlus (d : Row) (x : PV) : List PV := match x with
  | .int i => if decide (d.at i ≠ 0) = true then [.tup [.int i, .int (d.at i)]] else []
  | _ => []
theorem terms_four (d : Row) : tPV d.terms = gPlus d (.int 0) ++ (gPlus d (.int 1) ++ (gPlus d (.int 2) ++ gPlus d (.int 3))) := by
  have h : ∀ (i a : Int) (l : List (Int × Int)) , tPV (((i, a) :: l).filter fun p => decide (p.2 ≠ 0)) = (if decide (a ≠ 0) = true then [.tup [.int i, .int a]] else []) ++ tPV (l.filter fun p => decide (p.2 ≠ 0)) := by
    intro i a l
    rw [List.filter_cons]
    dsimp only
    split <;> rfl
  unfold Row.terms Row.all
  rw [h, h, h, h]
  exact congrArg (_ ++ ·) (congrArg (_ ++ ·) (congrArg (_ ++ ·) (List.append_nil _)))
theorem flat_plus {g : Int → Option Int} {d : Row} (h : K g d) : ((pick fun i => (g i).isSome).map PV.int).flatMap (gPlus d) = tPV d.terms := by
  have hz : ∀ i, four i → ((if (g i).isSome = true then [i] else []).map PV.int).flatMap (gPlus d) = gPlus d (.int i) := by
    intro i hi
    have := h i hi
    cases e : g i with
    | none =>
      rw [e] at this
      show [] = if decide (d.at i ≠ 0) = true then _ else _
      rw [if_neg (by rw [← this]; decide)]
    | some v => exact List.append_nil _
  rw [pick_eq, List.map_append, List.map_append, List.map_append, List.flatMap_append, List.flatMap_append, List.flatMap_append, terms_four, hz 0 (.inl rfl), hz 1 (.inr (.inl rfl)), hz 2 (.inr (.inr (.inl rfl))), hz 3 (.inr (.inr (.inr rfl)))]
theorem item_dob {es : List (Int × PV)} {k : Nat} {st : St} (ho : st.objs k = some (dob es)) (hk : k < st.next) {i : Int} {v : PV} (h : findG es i = some v) : G st (itemP (.loc k) (.int i)) v := by
  cases es with
  | nil => cases h
  | cons a r => exact G.get ho hk (G.cast (m' := (M.of (some (findG (a :: r) i))).bind fun r => M.of r) (by kernel_rfl) (by rw [h]; exact G.bind G.ret G.ret))
theorem sorted_dob {es : List (Int × PV)} {k : Nat} {st : St} (ho : st.objs k = some (dob es)) (hk : k < st.next) (hl : es.length ≤ 60) : G st (sortedP false (.loc k)) (.lst ((sortI (es.map (·.1))).map .int)) := by
  cases es with
  | nil => exact G.get ho hk G.ret
  | cons a r =>
    refine G.get ho hk ?_
    show G st (if (a :: r).length < 64 then _ else _) _
    rw [if_pos (by omega)]
    exact G.ret
end Mine
end

section
namespace Mine
open PySem
set_option autoImplicit false
set_option maxRecDepth 100000
theorem plus_turns (n : Nat) {ρ : Locs} {k : Nat} {es : List (Int × PV)} {g : Int → Option Int} {d : Row} {st : St} (e1 : ρ.lookup (S "parts") = some (.loc k)) (hD : D es g 50) (hK : K g d) (ho : st.objs k = some (dob es)) (hk : k < st.next) (a : Nat) (x : PV) (hx : x ∈ (pick fun i => (g i).isSome).map PV.int) :
    (gPlus d x).length ≤ 1 ∧ Tn st a (compTurn cfg2 (n + 71) (compScope (sk 151) (cS (xA (sE (plS 3)) 1))) (xA (xA (sE (plS 3)) 1) 0) (cG (xA (sE (plS 3)) 1)) (stripL (cS (xA (sE (plS 3)) 1)) ρ) a x) (gPlus d x) := by
  obtain ⟨i, hi, rfl⟩ := List.mem_map.mp hx
  have hi' := List.mem_filter.mp hi
  have hf : four i := by
    have := hi'.1
    simp only [List.mem_cons, List.not_mem_nil, or_false] at this
    exact this
  have hv : findG es i = some (.int (d.at i)) := by
    rw [hD.find, ← hK i hf]
    cases e : g i with
    | none => rw [e] at hi'; cases hi'.2
    | some v => rfl
  refine ⟨by show (if _ then _ else _ : List PV).length ≤ 1; split <;> simp, ?_⟩
  have e2 : (stripL (cS (xA (sE (plS 3)) 1)) ρ).lookup (S "parts") = some (.loc k) := (strip_free (by kernel_rfl)).trans e1
  refine Tn.turn (S "x") (by kernel_rfl) (strip_none (by kernel_rfl)) ?_ fun _ => ?_
  · refine G.cast (m' := (((M.of ((stripL (cS (xA (sE (plS 3)) 1)) ρ).lookup (S "parts"))).bind fun ov => itemP ov (.int i)).bind fun a => (cmpP .NotEq a (.int 0)).bind fun v => M.of (truthP v)).bind fun t => ifB t (M.ret true) (M.ret false)) (by kernel_rfl) ?_
    rw [e2]
    refine G.bind (G.bind (v := .int (d.at i)) (G.bind G.ret (item_dob ho hk hv)) ne_int) ?_
    cases decide (d.at i ≠ 0) <;> exact G.ret
  · refine G.cast (m' := ((((M.of ((stripL (cS (xA (sE (plS 3)) 1)) ρ).lookup (S "parts"))).bind fun ov => itemP ov (.int i)).bind fun v => M.ret [v]).bind fun vs => M.ret (PV.int i :: vs)).bind fun vs => M.ret (PV.tup vs)) (by kernel_rfl) ?_
    rw [e2]
    exact G.bind (G.bind (G.bind (v := .int (d.at i)) (G.bind G.ret (item_dob ho hk hv)) G.ret) G.ret) G.ret
theorem plus3 (n : Nat) {ρ : Locs} {k : Nat} {es : List (Int × PV)} {g : Int → Option Int} {d : Row} {st : St} (e1 : ρ.lookup (S "parts") = some (.loc k)) (hD : D es g 50) (hK : K g d) (ho : st.objs k = some (dob es)) (hk : k < st.next) :
    G st (exec cfg2 (n + 75) (sk 151) ρ (plS 3)) (.next, (S "found", .tup (tPV d.terms)) :: ρ) := by
  refine G.asg (v := .tup (tPV d.terms)) (by kernel_rfl) (G.cast (m' := ((evalE cfg2 (n + 72) (sk 151) ρ (xA (sE (plS 3)) 1)).bind fun v => M.ret [v]).bind fun vs => callV cfg2 (n + 73) (.con (.type "tuple")) vs) (by kernel_rfl) ?_) (by kernel_rfl)
  have hp := flat_plus hK
  refine G.bind (G.bind (v := .lst (tPV d.terms)) ?_ G.ret) (G.cast (call_tup cfg2 _ (Nat.le_trans (tPV_len d) (by decide))) G.ret)
  rw [← hp]
  refine G.lcomp (v := .lst ((pick fun i => (g i).isSome).map PV.int)) (gPlus d) (by kernel_rfl) ?_ (fun _ => rfl) ?_ (plus_turns n e1 hD hK ho hk)
  · refine G.cast (m' := (((M.of (ρ.lookup (S "parts"))).bind fun v => M.ret [v]).bind fun vs => callV cfg2 (n + 69) (.con (.builtin "sorted")) vs).bind fun v => M.ret (Src.val v)) (by kernel_rfl) ?_
    refine G.bind (v := .lst ((pick fun i => (g i).isSome).map PV.int)) (G.bind (G.bind (G.of e1) G.ret) (G.cast (m' := sortedP false (.loc k)) (by kernel_rfl) ?_)) G.ret
    rw [← hD.keys]
    exact sorted_dob ho hk (Nat.le_trans hD.len (by decide))
  · rw [List.length_map]
    exact Nat.lt_of_le_of_lt (List.length_filter_le _ _) (by decide)
theorem plus4 (n : Nat) {ρ : Locs} {d : Row} {st : St} (e1 : ρ.lookup (S "constant") = some (.int d.c)) : G st (exec cfg2 (n + 74) (sk 151) ((S "found", .tup (tPV d.terms)) :: ρ) (plS 4)) (.ret d.told, (S "found", .tup (tPV d.terms)) :: ρ) := by
  refine G.retn (by kernel_rfl) (G.cast (m' := ((cmpP .NotEq (.tup (tPV d.terms)) (.tup [])).bind fun v => M.of (truthP v)).bind fun c => ifB c
    (((((M.of (ρ.lookup (S "constant"))).bind fun v => M.ret [v]).bind fun vs => M.ret (PV.tup (tPV d.terms) :: vs)).bind fun vs => M.ret (PV.str (S "sum") :: vs)).bind fun vs => M.ret (PV.tup vs)) (M.of (ρ.lookup (S "constant")))) (by kernel_rfl) ?_)
  rw [e1]
  refine G.bind (G.cast (ne_nil _) G.ret) ?_
  unfold Row.told Row.sum
  cases d.terms with
  | nil => exact G.ret
  | cons p t => exact G.bind (G.bind (G.bind (G.bind G.ret G.ret) G.ret) G.ret) G.ret
theorem plus1 (n : Nat) {r s : Row} {f : Int} {ρ : Locs} (hf : bitsOk f = true) (hc : bitsOk s.c = true) {st : St} {Q : R (Fl × Locs) → St → Prop}
    (hx : ∀ st', big (r.c + f * s.c) = true → Fr st st' → Q .exc st')
    (hq : ∀ k st' es g, big (r.c + f * s.c) = false → Fr st st' → st.next ≤ k → k < st'.next → st'.objs k = some (dob es) → D es g 4 → K g r → Q (.ok (.next, (S "constant", .int (r.c + f * s.c)) :: (S "parts", .loc k) :: (S "one", r.sum) :: (S "other", s.sum) :: (S "factor", .int f) :: ρ)) st') :
    Ev (exec cfg2 (n + 77) (sk 151) ((S "one", r.sum) :: (S "other", s.sum) :: (S "factor", .int f) :: ρ) (plS 1)) st Q := by
  refine Ev.asg (P := fun r' st' => Fr st st' ∧ ((big (r.c + f * s.c) = true ∧ r' = .exc) ∨ (big (r.c + f * s.c) = false ∧ ∃ k es g, r' = .ok (.tup [.loc k, .int (r.c + f * s.c)]) ∧ st.next ≤ k ∧ k < st'.next ∧ st'.objs k = some (dob es) ∧ D es g 4 ∧ K g r))) (by kernel_rfl)
    (Ev.cast (m' := ((dictP false (.tup (tPV r.terms))).bind fun v => ((cutM (runF cfg2 (n + 71) 132 [.int (r.c + f * s.c)])).bind fun v => M.ret [v]).bind fun vs => M.ret (v :: vs)).bind fun vs => M.ret (.tup vs)) ?_ ?_) ?_ ?_
  · refine (show evalE cfg2 (n + 76) (sk 151) ((S "one", r.sum) :: (S "other", s.sum) :: (S "factor", .int f) :: ρ) (sE (plS 1)) = ((dictP false (.tup (tPV r.terms))).bind fun v => (((((M.of (binP .Mult (.int f) (.int s.c))).bind fun b => M.of (binP .Add (.int r.c) b)).bind fun v => M.ret [v]).bind fun vs => callV cfg2 (n + 72) (.con (.ref 132)) vs).bind fun v => M.ret [v]).bind fun vs => M.ret (v :: vs)).bind fun vs => M.ret (.tup vs) from by kernel_rfl).trans ?_
    rw [mul_ok hf hc]
    kernel_rfl
  · refine Ev.bind (P := fun r' st' => Fr st st' ∧ ((big (r.c + f * s.c) = true ∧ r' = .exc) ∨ (big (r.c + f * s.c) = false ∧ ∃ k es g, r' = .ok [.loc k, .int (r.c + f * s.c)] ∧ st.next ≤ k ∧ k < st'.next ∧ st'.objs k = some (dob es) ∧ D es g 4 ∧ K g r))) (Ev.bind (P := fun r' st' => ∃ es g, D es g 4 ∧ K g r ∧ r' = .ok (.loc st.next) ∧ st' = st.new (dob es)) (dict_ok r fun es g hD hK => ⟨es, g, hD, hK, rfl, rfl⟩) ?_ ?_) ?_ ?_
    · rintro v st1 ⟨es, g, hD, hK, q, rfl⟩
      cases q
      cases hb : big (r.c + f * s.c) with
      | true =>
        refine Ev.bind (P := fun r' st' => r' = .exc ∧ Fr st st') (Ev.bind (P := fun r' st' => r' = .exc ∧ Fr st st') ((fig_no (n + 11) hb _).mono fun r st' q => ⟨q.1, St.new_fr.trans q.2⟩) ?_ ?_) ?_ ?_
        · rintro a st' ⟨q, _⟩; cases q
        · exact fun st' q => ⟨rfl, q.2⟩
        · rintro a st' ⟨q, _⟩; cases q
        · exact fun st' q => ⟨q.2, .inl ⟨rfl, rfl⟩⟩
      | false =>
        refine (G.at (G.bind (w := [PV.int (r.c + f * s.c)]) (fig_ok (n + 11) hb (st.new (dob es))) G.ret)).bind fun st' F => .ret ⟨St.new_fr.trans F, .inr ⟨rfl, st.next, es, g, rfl, Nat.le_refl _, Nat.lt_of_lt_of_le (Nat.lt_succ_self _) F.le, F.get St.new_at (Nat.lt_succ_self _), hD, hK⟩⟩
    · rintro st' ⟨_, _, _, _, q, _⟩; cases q
    · rintro v st' ⟨F, ⟨_, q⟩ | ⟨hb, k, es, g, q, z⟩⟩
      · cases q
      · cases q; exact .ret ⟨F, .inr ⟨hb, k, es, g, rfl, z⟩⟩
    · rintro st' ⟨F, ⟨hb, _⟩ | ⟨hb, k, es, g, q, z⟩⟩
      · exact ⟨F, .inl ⟨hb, rfl⟩⟩
      · cases q
  · rintro v st' ⟨F, ⟨_, q⟩ | ⟨hb, k, es, g, q, h1, h2, h3, h4, h5⟩⟩
    · cases q
    · cases q
      exact Ev.cast (m' := M.ret (.next, (S "constant", .int (r.c + f * s.c)) :: (S "parts", .loc k) :: (S "one", r.sum) :: (S "other", s.sum) :: (S "factor", .int f) :: ρ)) (by kernel_rfl) (.ret (hq k st' es g hb F h1 h2 h3 h4 h5))
  · rintro st' ⟨F, ⟨hb, _⟩ | ⟨hb, k, es, g, q, _⟩⟩
    · exact hx st' hb F
    · cases q
end Mine
end

section
namespace Mine
open PySem
set_option autoImplicit false
set_option maxRecDepth 100000
theorem Ev.nextG {C : Cfg} {n : Nat} {sc : Scope} {ρ ρ' : Locs} {st : St} {L : List Stmt} (k : Nat) (h : k < L.length) {Q : R (Fl × Locs) → St → Prop} (hs : G st (exec C n sc ρ (nth L k)) (.next, ρ')) (hr : ∀ st1, Fr st st1 → Ev (execs C n sc ρ' (L.drop (k + 1))) st1 Q) : Ev (execs C (n + 1) sc ρ (L.drop k)) st Q :=
  Ev.stmt k h (hs.at.mono fun r st1 p => by
    obtain ⟨rfl, F⟩ := p
    exact hr st1 F)
theorem Ev.stopG {C : Cfg} {n : Nat} {sc : Scope} {ρ ρ' : Locs} {v : PV} {st : St} {L : List Stmt} (k : Nat) (h : k < L.length) {Q : R (Fl × Locs) → St → Prop} (hs : G st (exec C n sc ρ (nth L k)) (.ret v, ρ')) (hr : ∀ st1, Fr st st1 → Q (.ok (.ret v, ρ')) st1) : Ev (execs C (n + 1) sc ρ (L.drop k)) st Q :=
  Ev.stmt k h (hs.at.mono fun r st1 p => by
    obtain ⟨rfl, F⟩ := p
    exact hr st1 F)
theorem plus_ok (n : Nat) {a b : PV} {r s : Row} (ha : Thing a r) (hb : Thing b s) {f : Int} (hf : bitsOk f = true) (hs : ∀ i, four i → bitsOk (s.at i) = true) (hc : bitsOk s.c = true) (st : St) :
    Ev (cutM (runF cfg2 (n + 80) 151 [a, b, .int f])) st fun res st' => Fr st st' ∧ (((big (r.plus s f).c = true ∨ ∃ q, q ∈ s.terms ∧ big ((r.plus s f).at q.1) = true) ∧ res = .exc) ∨ ((big (r.plus s f).c = false ∧ ∀ q, q ∈ s.terms → big ((r.plus s f).at q.1) = false) ∧ res = .ok (r.plus s f).told)) := by
  refine Ev.cut (Ev.run [S "one", S "other", S "factor"] (by kernel_rfl) [(S "factor", .int f), (S "other", b), (S "one", a)] rfl rfl ?_)
  refine Ev.nextG 0 (by decide +kernel) (plus0 n ha hb f st) fun st1 F1 => ?_
  refine Ev.stmt 1 (by decide +kernel) (plus1 n hf hc (fun st2 hb F => ?_) fun k st2 es g hg F hk1 hk2 ho hD hK => ?_)
  · exact ⟨(F1.trans F).drop, .inl ⟨.inl hb, rfl⟩⟩
  · refine Ev.stmt 2 (by decide +kernel) (Ev.cast (m' := loopF (β := Unit) (plTurn n) (tPV s.terms) ((S "constant", .int (r.c + f * s.c)) :: (S "parts", .loc k) :: (S "one", r.sum) :: (S "other", s.sum) :: (S "factor", .int f) :: [(S "other", b), (S "one", a)])) (by kernel_rfl) ((plus_loop n r s f (r.c + f * s.c) k hf hs s.terms es g 4 _ st2 (W_terms s) hD (by have := terms_len s; omega) (fun i hi => ?_) (by rfl) (by rfl) (by rfl) ho hk2).mono fun res st3 h => ?_))
    · rw [hK i hi]
      split
      · rfl
      · rename_i q
        rw [at_plus r s f hi, mem_terms s hi q, Int.mul_zero, Int.add_zero]
    · have F2 : Fr st st3 := Fr1.cut (F1.trans F) h.1 (Nat.le_trans F1.le hk1)
      rcases h.2 with ⟨hb, rfl⟩ | ⟨hg2, ρ', es', g', rfl, e1, e3, hD', hK', ho'⟩
      · exact ⟨F2.drop, .inl ⟨.inr hb, rfl⟩⟩
      · refine Ev.nextG 3 (by decide +kernel) (plus3 n e1 hD' hK' ho' (Nat.lt_of_lt_of_le hk2 h.1.le)) fun st4 F4 => ?_
        refine Ev.stopG 4 (by decide +kernel) (plus4 n (d := r.plus s f) e3) fun st5 F5 => ?_
        exact ⟨((F2.trans F4).trans F5).drop, .inr ⟨⟨hg, hg2⟩, congrArg R.ok (frz_told _ _ _)⟩⟩
end Mine
end

section
namespace Mine
open PySem
set_option autoImplicit false
set_option maxRecDepth 100000
theorem ints_map : ∀ l : List Int, intsOf (l.map PV.int) = some l
  | [] => rfl
  | x :: r => by
    have e : intsOf ((x :: r).map PV.int) = (match intsOf (r.map PV.int) with | none => none | some l => some (x :: l)) := by kernel_rfl
    rw [e, ints_map r]
theorem fold_max : ∀ (r : List Int) (x : Int), r.foldl (fun a b => if a < b then b else a) x ∈ x :: r ∧ ∀ y, y ∈ x :: r → y ≤ r.foldl (fun a b => if a < b then b else a) x
  | [], x => ⟨.head _, fun y h => by cases h with | head => exact Int.le_refl _ | tail _ h => cases h⟩
  | z :: r, x => by
    have h := fold_max r (if x < z then z else x)
    rw [List.foldl_cons]
    constructor
    · rcases List.mem_cons.mp h.1 with e | e
      · rw [e]
        split
        · exact .tail _ (.head _)
        · exact .head _
      · exact .tail _ (.tail _ e)
    · intro y hy
      have h0 := h.2 _ (.head _)
      rcases List.mem_cons.mp hy with rfl | hy
      · exact Int.le_trans (by split <;> omega) h0
      · rcases List.mem_cons.mp hy with rfl | hy
        · exact Int.le_trans (by split <;> omega) h0
        · exact h.2 _ (.tail _ hy)
theorem fold_min : ∀ (r : List Int) (x : Int), r.foldl (fun a b => if b < a then b else a) x ∈ x :: r ∧ ∀ y, y ∈ x :: r → r.foldl (fun a b => if b < a then b else a) x ≤ y
  | [], x => ⟨.head _, fun y h => by cases h with | head => exact Int.le_refl _ | tail _ h => cases h⟩
  | z :: r, x => by
    have h := fold_min r (if z < x then z else x)
    rw [List.foldl_cons]
    constructor
    · rcases List.mem_cons.mp h.1 with e | e
      · rw [e]
        split
        · exact .tail _ (.head _)
        · exact .head _
      · exact .tail _ (.tail _ e)
    · intro y hy
      have h0 := h.2 _ (.head _)
      rcases List.mem_cons.mp hy with rfl | hy
      · exact Int.le_trans h0 (by split <;> omega)
      · rcases List.mem_cons.mp hy with rfl | hy
        · exact Int.le_trans h0 (by split <;> omega)
        · exact h.2 _ (.tail _ hy)
theorem best_max (hd : Bool) {l : List Int} {m : Int} (hm : m ∈ l) (h : ∀ y, y ∈ l → y ≤ m) : bestA true hd [.lst (l.map .int)] = M.ret (.int m) := by
  have e : bestA true hd [.lst (l.map .int)] = M.of ((intsOf (l.map .int)).bind fun is => (maxL is).map .int) := by kernel_rfl
  rw [e, ints_map]
  cases l with
  | nil => cases hm
  | cons x r =>
    have q := fold_max r x
    show M.of (some (PV.int _)) = _
    rw [Int.le_antisymm (h _ q.1) (q.2 _ hm)]
    rfl
theorem best_min (hd : Bool) {l : List Int} {m : Int} (hm : m ∈ l) (h : ∀ y, y ∈ l → m ≤ y) : bestA false hd [.lst (l.map .int)] = M.ret (.int m) := by
  have e : bestA false hd [.lst (l.map .int)] = M.of ((intsOf (l.map .int)).bind fun is => (minL is).map .int) := by kernel_rfl
  rw [e, ints_map]
  cases l with
  | nil => cases hm
  | cons x r =>
    have q := fold_min r x
    show M.of (some (PV.int _)) = _
    rw [Int.le_antisymm (q.2 _ hm) (h _ q.1)]
    rfl
noncomputable def ab (i : Int) : Int := if i < 0 then -i else i
noncomputable def gAb (x : PV) : List PV := match x with
  | .int i => [.int (ab i)]
  | _ => []
theorem flat_ab : ∀ l : List Int, (l.map PV.int).flatMap gAb = (l.map ab).map PV.int
  | [] => rfl
  | x :: r => by
    show PV.int (ab x) :: (r.map PV.int).flatMap gAb = _
    rw [flat_ab r]
    rfl
theorem abs_comp {st0 : St} {l : List Int} (hl : l.length < 1000) : G st0 (Mine.noExc ((newO (.list [])).bind fun k => (loopU (M.ret ()) (M.ret ()) (fun x => (intP x fun i => M.ret (.int (ab i))).bind fun v => appO k v) (l.map .int)).bind fun _ => takeO k)) (.lst ((l.map ab).map .int)) := by
  rw [← flat_ab]
  refine G.comp gAb (by rw [List.length_map]; exact hl) fun a x hx => ?_
  obtain ⟨i, _, rfl⟩ := List.mem_map.mp hx
  exact ⟨Nat.le_refl _, Tn.app⟩
noncomputable def Row.li (r : Row) : List Int := [r.a0, r.a1, r.a2, r.a3, r.c]
/-- the greatest of the sizes, held against the bound -/
theorem max_big (hd : Bool) {st0 : St} (l : List Int) (hn : l ≠ []) (hl : l.length < 1000) : ∃ m : Int, G st0 (((Mine.noExc ((newO (.list [])).bind fun k => (loopU (M.ret ()) (M.ret ()) (fun x => (intP x fun i => M.ret (.int (ab i))).bind fun v => appO k v) (l.map .int)).bind fun _ => takeO k)).bind fun v => M.ret [v]).bind fun vs => bestA true hd vs) (.int m) ∧ decide (10 ^ 1000 ≤ m) = l.any big := by
  cases l with
  | nil => exact absurd rfl hn
  | cons x r =>
    have q := fold_max (r.map ab) (ab x)
    refine ⟨_, G.bind (G.bind (abs_comp hl) G.ret) (G.cast (best_max hd (l := (x :: r).map ab) q.1 q.2) G.ret), ?_⟩
    rw [Bool.eq_iff_iff, decide_eq_true_eq, List.any_eq_true]
    constructor
    · intro h
      obtain ⟨y, hy, e⟩ := List.mem_map.mp (show _ ∈ (x :: r).map ab from q.1)
      exact ⟨y, hy, decide_eq_true (show 10 ^ 1000 ≤ ab y by rw [e]; exact h)⟩
    · rintro ⟨y, hy, h⟩
      exact Int.le_trans (of_decide_eq_true h) (q.2 _ (List.mem_map.mpr ⟨y, hy, rfl⟩))
theorem eqvAll_t : ∀ l : List (Int × Int), PyData.eqvAll (tDat l) (tDat l) = true
  | [] => rfl
  | p :: r => by
    have e : PyData.eqvAll (tDat (p :: r)) (tDat (p :: r)) = (((p.1 == p.1) && ((p.2 == p.2) && true)) && PyData.eqvAll (tDat r) (tDat r)) := by kernel_rfl
    rw [e, eqvAll_t r, beq_self_eq_true, beq_self_eq_true]
    rfl
theorem eq_told (d : Row) : cmpP .Eq d.told d.told = M.ret (.bool true) := by
  unfold Row.told
  split
  · have e : cmpP .Eq (.int d.c) (.int d.c) = M.ret (.bool ((d.c == d.c) != false)) := by kernel_rfl
    rw [e, beq_self_eq_true]
    rfl
  · have e : cmpP .Eq d.sum d.sum = M.of ((eqv d.sum d.sum).map fun x => .bool (x != false)) := by kernel_rfl
    have t : toPy 8 d.sum = some (.tuple [.str (S "sum"), .tuple (tDat d.terms), .int d.c]) := by
      have : toPy 8 d.sum = ((mapO (toPy 6) (tPV d.terms)).map PyData.tuple).bind fun x => some (.tuple [.str (S "sum"), x, .int d.c]) := by
        have : ∀ o : Option PyData, (match (some (PyData.str (S "sum"))) with | none => none | some y => match (match o with | none => none | some y => match some [PyData.int d.c] with | none => none | some l => some (y :: l)) with | none => none | some l => some (y :: l)).map PyData.tuple = o.bind fun x => some (.tuple [.str (S "sum"), x, .int d.c]) := by
          intro o; cases o <;> rfl
        refine Eq.trans ?_ (this _)
        kernel_rfl
      rw [this, toPy_t]
      rfl
    rw [e]
    unfold eqv
    rw [t]
    show M.of (some (PV.bool ((PyData.eqv (.tuple [.str (S "sum"), .tuple (tDat d.terms), .int d.c]) (.tuple [.str (S "sum"), .tuple (tDat d.terms), .int d.c])) != false))) = _
    have q : PyData.eqv (.tuple [.str (S "sum"), .tuple (tDat d.terms), .int d.c]) (.tuple [.str (S "sum"), .tuple (tDat d.terms), .int d.c]) = (PyData.eqvAll (tDat d.terms) (tDat d.terms) && ((d.c == d.c) && true)) := by kernel_rfl
    rw [q, eqvAll_t, beq_self_eq_true]
    rfl
theorem isi_told (d : Row) : isiP d.told (.con (.type "bool")) = M.ret (.bool false) ∧ ∃ t, isiP d.told (.con (.type "tuple")) = M.ret (.bool t) := by
  unfold Row.told
  split
  · exact ⟨by kernel_rfl, false, by kernel_rfl⟩
  · exact ⟨by kernel_rfl, true, by kernel_rfl⟩
end Mine
end

section
namespace Mine
open PySem
set_option autoImplicit false
set_option maxRecDepth 100000
noncomputable def tryH (s : Stmt) : List Stmt := match s with
  | .Try _ hs _ _ _ => (match hs with
    | .ExceptHandler _ _ b _ :: _ => b
    | _ => [])
  | _ => []
noncomputable def tryE (s : Stmt) : PySem.Expr := match s with
  | .Try b _ _ _ _ => sE (nth b 0)
  | _ => dE
noncomputable def tryT (s : Stmt) : PySem.Expr := match s with
  | .Try _ hs _ _ _ => (match hs with
    | .ExceptHandler t _ _ _ :: _ => t.getD dE
    | _ => dE)
  | _ => dE
theorem Ev.try_ {α β : Type} {m : M α} {k : α → M β} {h : M β} {st : St} {Q : R β → St → Prop} (hm : Ev m st fun r st' => match r with
    | .ok v => Ev (k v) st' Q
    | .exc => Ev h st' Q) : Ev (tryRun m k h) st Q := by
  obtain ⟨r, st', e, q⟩ := hm
  cases r with
  | exc => obtain ⟨r2, s2, e2, q2⟩ := q; exact ⟨r2, s2, by show tryRun m k h st = _; unfold tryRun; rw [e]; exact e2, q2⟩
  | ok v => obtain ⟨r2, s2, e2, q2⟩ := q; exact ⟨r2, s2, by show tryRun m k h st = _; unfold tryRun; rw [e]; exact e2, q2⟩
noncomputable abbrev cfgH : Cfg := { cfg2 with hd := true }
noncomputable abbrev mxC (hd : Bool) (l : List Int) : M PV := ((Mine.noExc ((newO (.list [])).bind fun k => (loopU (M.ret ()) (M.ret ()) (fun x => (intP x fun i => M.ret (.int (ab i))).bind fun v => appO k v) (l.map .int)).bind fun _ => takeO k)).bind fun v => M.ret [v]).bind fun vs => bestA true hd vs
theorem mx_ge (hd : Bool) {st0 : St} (l : List Int) (hn : l ≠ []) (hl : l.length < 1000) : G st0 ((mxC hd l).bind fun a => cmpP .GtE a (.int (10 ^ 1000))) (.bool (l.any big)) := by
  obtain ⟨m, h, e⟩ := max_big hd (st0 := st0) l hn hl
  rw [← e]
  exact G.bind h G.ret
noncomputable abbrev isR (a b : PV) (f : Int) : Locs := [(S "often", .int f), (S "other", b), (S "one", a)]
theorem is_told_hand (n : Nat) (a b : PV) (f : Int) (d : Row) (st0 : St) : G st0 (Mine.noExc ((evalE cfgH (n + 87) (sk 292) ((S "due", d.pv) :: isR a b f) (tryT (nth (bd 292) 0))).bind fun fv => if limA cfg2 fv then execs cfgH (n + 87) (sk 292) ((S "due", d.pv) :: isR a b f) (nth (tryH (nth (bd 292) 0)) 0 :: (tryH (nth (bd 292) 0)).drop 1) else M.fail)) (.ret (.bool (d.li.any big)), (S "due", d.pv) :: isR a b f) := by
  refine G.noExc (G.bind (v := cR 123) (G.cast (m' := M.ret (cR 123)) (by kernel_rfl) G.ret) (G.cast (m' := execs cfgH (n + 87) (sk 292) ((S "due", d.pv) :: isR a b f) ((tryH (nth (bd 292) 0)).drop 0)) ((if_pos (by kernel_rfl)).trans (congrArg _ (by kernel_rfl))) ?_))
  refine (G.stop (L := tryH (nth (bd 292) 0)) 0 (by decide +kernel) (G.retn (by kernel_rfl) (G.cast (m' := (mxC true d.li).bind fun a => cmpP .GtE a (.int (10 ^ 1000))) (by kernel_rfl) (mx_ge true _ (by intro h; cases h) (by show 5 < 1000; decide)))))
theorem exec_try {C : Cfg} {n : Nat} {sc : Scope} {ρ : Locs} {x : Str} {e t : PySem.Expr} {b : Stmt} {bs : List Stmt} {p1 p2 p3 p4 : Pos} (hh : C.hd = false) (hc : isComp e = false) (hv : isVar sc x = true) :
    exec C (n + 1) sc ρ (.Try [.Assign [.Name x p1] e p2] [.ExceptHandler (some t) none (b :: bs) p3] [] [] p4) = tryRun (evalE C n sc ρ e) (fun v => M.ret (.next, (x, v) :: ρ)) (Mine.noExc ((evalE { C with hd := true } n sc ρ t).bind fun fv => if limA C fv then execs { C with hd := true } n sc ρ (b :: bs) else M.fail)) := by
  have h : exec C (n + 1) sc ρ (.Try [.Assign [.Name x p1] e p2] [.ExceptHandler (some t) none (b :: bs) p3] [] [] p4) = if isComp e = true then M.fail else tryRun (evalE C n sc ρ e) (fun v => if isVar sc x then M.ret (.next, (x, v) :: ρ) else M.fail) (Mine.noExc ((evalE { C with hd := true } n sc ρ t).bind fun fv => if limA C fv then execs { C with hd := true } n sc ρ (b :: bs) else M.fail)) := by
    cases C
    subst hh
    kernel_rfl
  rw [h, hc, hv]
  rfl
noncomputable def tryA (s : Stmt) : Stmt := match s with
  | .Try b _ _ _ _ => nth b 0
  | _ => s
noncomputable def tryX (s : Stmt) : ExceptHandler := match s with
  | .Try _ hs _ _ _ => hs.headD (.ExceptHandler none none [] ⟨0, 0, 0, 0⟩)
  | _ => .ExceptHandler none none [] ⟨0, 0, 0, 0⟩
theorem try_eq : nth (bd 292) 0 = .Try [.Assign [.Name (S "found") (sT (tryA (nth (bd 292) 0))).pos] (tryE (nth (bd 292) 0)) (tryA (nth (bd 292) 0)).pos] [.ExceptHandler (some (tryT (nth (bd 292) 0))) none (nth (tryH (nth (bd 292) 0)) 0 :: (tryH (nth (bd 292) 0)).drop 1) (tryX (nth (bd 292) 0)).pos] [] [] (nth (bd 292) 0).pos := by kernel_rfl
theorem is_told0 (n : Nat) (a b : PV) (f : Int) (d : PV) : exec cfg2 (n + 88) (sk 292) ((S "due", d) :: isR a b f) (nth (bd 292) 0) = tryRun (evalE cfg2 (n + 87) (sk 292) ((S "due", d) :: isR a b f) (tryE (nth (bd 292) 0))) (fun v => M.ret (.next, (S "found", v) :: (S "due", d) :: isR a b f)) (Mine.noExc ((evalE cfgH (n + 87) (sk 292) ((S "due", d) :: isR a b f) (tryT (nth (bd 292) 0))).bind fun fv => if limA cfg2 fv then execs cfgH (n + 87) (sk 292) ((S "due", d) :: isR a b f) (nth (tryH (nth (bd 292) 0)) 0 :: (tryH (nth (bd 292) 0)).drop 1) else M.fail)) :=
  (congrArg (exec cfg2 (n + 88) (sk 292) ((S "due", d) :: isR a b f)) try_eq).trans (exec_try rfl (by kernel_rfl) (by kernel_rfl))
theorem is_told1 (n : Nat) (a b : PV) (f : Int) (d : Row) (st0 : St) (hB : d.li.any big = false) : G st0 (exec cfg2 (n + 87) (sk 292) ((S "found", d.told) :: (S "due", d.pv) :: isR a b f) (nth (bd 292) 1)) (.next, (S "found", d.told) :: (S "due", d.pv) :: isR a b f) := by
  refine G.cast (m' := (((mxC false d.li).bind fun a => (cmpP .GtE a (.int (10 ^ 1000))).bind fun v => M.of (truthP v)).bind fun t => ifB t (M.ret true) (((isiP d.told (.con (.type "bool"))).bind fun v => M.of (truthP v)).bind fun t => ifB t (M.ret true) (M.ret false))).bind fun t => ifB t (execs cfg2 (n + 86) (sk 292) ((S "found", d.told) :: (S "due", d.pv) :: isR a b f) (sB (nth (bd 292) 1))) (M.ret (.next, (S "found", d.told) :: (S "due", d.pv) :: isR a b f))) (by kernel_rfl) ?_
  obtain ⟨m, h, e⟩ := max_big false (st0 := st0) d.li (by intro h; cases h) (by show 5 < 1000; decide)
  rw [(isi_told d).1]
  refine G.bind (v := false) (G.bind (v := false) (G.bind h ?_) (G.bind (v := false) G.ret G.ret)) G.ret
  rw [← hB, ← e]
  exact G.ret
theorem is_told2 (n : Nat) (a b : PV) (f : Int) (d : Row) (st0 : St) : G st0 (exec cfg2 (n + 86) (sk 292) ((S "found", d.told) :: (S "due", d.pv) :: isR a b f) (nth (bd 292) 2)) (.ret (.bool true), (S "found", d.told) :: (S "due", d.pv) :: isR a b f) := by
  refine G.retn (by kernel_rfl) (G.cast (m' := ((cutM (runF cfg2 (n + 80) 287 [d.pv])).bind fun b => cmpP .Eq d.told b).bind fun v => (M.of (truthP v)).bind fun t => ifB t ((isiP d.told (.con (.type "tuple"))).bind fun a => (((cutM (runF cfg2 (n + 77) 287 [d.pv])).bind fun v => M.ret [v, .con (.type "tuple")]).bind fun vs => callV cfg2 (n + 80) (.con (.builtin "isinstance")) vs).bind fun b => cmpP .Eq a b) (M.ret v)) (by kernel_rfl) ?_)
  obtain ⟨t, ht⟩ := (isi_told d).2
  refine G.bind (v := .bool true) (G.bind (told_ok (n + 20) d st0) (G.cast (eq_told d) G.ret)) (G.bind (v := true) G.ret ?_)
  show G st0 ((isiP d.told (.con (.type "tuple"))).bind _) _
  rw [ht]
  refine G.bind (v := .bool t) G.ret (G.bind (v := .bool t) (G.bind (G.bind (told_ok (n + 17) d st0) G.ret) (G.cast (m' := isiP d.told (.con (.type "tuple"))) (by kernel_rfl) (G.cast ht G.ret))) ?_)
  cases t <;> exact G.cast (m' := M.ret (.bool true)) (by kernel_rfl) G.ret
end Mine
end

section
namespace Mine
open PySem
set_option autoImplicit false
set_option maxRecDepth 100000
theorem li_mem {d : Row} {x : Int} (h : x ∈ d.li) : x = d.c ∨ ∃ i, four i ∧ x = d.at i := by
  unfold Row.li at h
  simp only [List.mem_cons, List.not_mem_nil, or_false] at h
  rcases h with h | h | h | h | h
  · exact .inr ⟨0, .inl rfl, h⟩
  · exact .inr ⟨1, .inr (.inl rfl), h⟩
  · exact .inr ⟨2, .inr (.inr (.inl rfl)), h⟩
  · exact .inr ⟨3, .inr (.inr (.inr rfl)), h⟩
  · exact .inl h
theorem mem_li (d : Row) {i : Int} (h : four i) : d.at i ∈ d.li := by
  rcases h with rfl | rfl | rfl | rfl
  · exact .head _
  · exact .tail _ (.head _)
  · exact .tail _ (.tail _ (.head _))
  · exact .tail _ (.tail _ (.tail _ (.head _)))
theorem c_li (d : Row) : d.c ∈ d.li := .tail _ (.tail _ (.tail _ (.tail _ (.head _))))
theorem is_told_ok (n : Nat) {a b : PV} {r s : Row} (ha : Thing a r) (hb : Thing b s) {f : Int} (hf : bitsOk f = true) (hs : ∀ i, four i → bitsOk (s.at i) = true) (hc : bitsOk s.c = true) (hr : ∀ i, four i → big (r.at i) = false) (st0 : St) :
    G st0 (cutM (runF cfg2 (n + 90) 292 [a, b, .int f, (r.plus s f).pv])) (.bool true) := by
  intro st q
  refine Ev.cut (Ev.run [S "one", S "other", S "often", S "due"] (by kernel_rfl) ((S "due", (r.plus s f).pv) :: isR a b f) rfl rfl ?_)
  refine Ev.stmt 0 (by decide +kernel) (Ev.cast (is_told0 n a b f _) (Ev.try_ (Ev.cast (m' := cutM (runF cfg2 (n + 85) 151 [a, b, .int f])) (by kernel_rfl) ((plus_ok (n + 5) ha hb hf hs hc st).mono fun res st1 h => ?_))))
  obtain ⟨F, ⟨hbad, rfl⟩ | ⟨⟨hg1, hg2⟩, rfl⟩⟩ := h
  · have hB : (r.plus s f).li.any big = true := by
      rw [List.any_eq_true]
      rcases hbad with h | ⟨q, hq, h⟩
      · exact ⟨_, c_li _, h⟩
      · exact ⟨_, mem_li _ ((W_terms s).2 q hq).1, h⟩
    refine (is_told_hand n a b f (r.plus s f) st1).at.mono fun res st2 h => ?_
    obtain ⟨rfl, F2⟩ := h
    rw [hB]
    exact ⟨rfl, (F.trans F2).drop⟩
  · have hB : (r.plus s f).li.any big = false := by
      rw [List.any_eq_false]
      intro x hx hb'
      rcases li_mem hx with rfl | ⟨i, hi, rfl⟩
      · rw [hg1] at hb'; cases hb'
      · by_cases z : s.at i = 0
        · rw [at_plus r s f hi, z, Int.mul_zero, Int.add_zero, hr i hi] at hb'
          cases hb'
        · have hm : i ∈ s.terms.map (·.1) := by
            by_cases w : i ∈ s.terms.map (·.1)
            · exact w
            · exact absurd (mem_terms s hi w) z
          obtain ⟨q, hq, rfl⟩ := List.mem_map.mp hm
          rw [hg2 q hq] at hb'
          cases hb'
    refine .ret ?_
    show Ev (execs _ _ _ _ ((bd 292).drop 1)) st1 _
    refine Ev.nextG 1 (by decide +kernel) (is_told1 n a b f (r.plus s f) st1 hB) fun st2 F2 => ?_
    refine Ev.stopG 2 (by decide +kernel) (is_told2 n a b f (r.plus s f) st2) fun st3 F3 => ?_
    exact ⟨rfl, ((F.trans F2).trans F3).drop⟩
end Mine
end

section
namespace Mine
open PySem
set_option autoImplicit false
set_option maxRecDepth 100000
noncomputable abbrev fdO (cs : List Int) (k : Int) : MO := .dictS [(S "cells", .lst (cs.map .int)), (S "spot", .int k)]
/-- the feed, of which at most b cells are read -/
noncomputable def Fd (cs : List Int) (b : Nat) (st : St) : Prop := 0 < st.next ∧ ∃ k : Nat, k ≤ b ∧ st.objs 0 = some (fdO cs k)
theorem Fd.fr {cs : List Int} {b : Nat} {st st' : St} (h : Fd cs b st) (F : Fr st st') : Fd cs b st' := ⟨Nat.lt_of_lt_of_le h.1 F.le, let ⟨k, hk, e⟩ := h.2; ⟨k, hk, F.get e h.1⟩⟩
theorem Fd.up {cs : List Int} {b b' : Nat} {st : St} (h : Fd cs b st) (q : b ≤ b') : Fd cs b' st := ⟨h.1, let ⟨k, hk, e⟩ := h.2; ⟨k, Nat.le_trans hk q, e⟩⟩
theorem G.ifT {C : Cfg} {n : Nat} {sc : Scope} {ρ : Locs} {st0 : St} {e : PySem.Expr} {c : Bool} {v : PV} (h : evalE C (n + 1) sc ρ e = (evalT C n sc ρ (xA e 0)).bind fun c => match c with | true => evalE C n sc ρ (xA e 1) | false => evalE C n sc ρ (xA e 2))
    (hc : G st0 (evalT C n sc ρ (xA e 0)) c) (h1 : c = true → G st0 (evalE C n sc ρ (xA e 1)) v) (h2 : c = false → G st0 (evalE C n sc ρ (xA e 2)) v) : G st0 (evalE C (n + 1) sc ρ e) v := by
  refine G.cast h (G.bind hc ?_)
  cases c
  · exact h2 rfl
  · exact h1 rfl
theorem bits_small {k : Nat} (h : k ≤ 1000000) : bitsOk (k : Int) = true := by
  unfold bitsOk bigN
  exact decide_eq_true (Nat.lt_of_le_of_lt (show (k : Int).natAbs ≤ 1000000 by omega) (by decide +kernel))
theorem next_val (n : Nat) {cs : List Int} {k : Nat} (many : Int) (hm : 0 < many) (hk : k ≤ 1000) (hl : cs.length ≤ 1000) {st : St} (e : st.objs 0 = some (fdO cs (k + 1))) (h0 : 0 < st.next) : ∃ r : Int, 0 ≤ r ∧ r < many ∧ G st (evalE cfg2 (n + 55) (sk 275) [(S "k", .int k), (S "many", .int many), (S "feed", .loc 0)] (sE (nth (bd 275) 2))) (.int r) := by
  have hc : G st (itemP (.loc 0) (.str (S "cells"))) (.lst (cs.map .int)) := G.get e h0 (G.cast (m' := M.ret (.lst (cs.map .int))) (by kernel_rfl) G.ret)
  have hlen : G st (lenP (.lst (cs.map .int))) (.int cs.length) := by
    refine G.cast (m' := if (cs.map PV.int).length < 1000000 then M.ret (.int (cs.map PV.int).length) else M.fail) (by kernel_rfl) ?_
    rw [List.length_map, if_pos (by omega)]
    exact G.ret
  have key : ∃ x : Int, G st (evalE cfg2 (n + 54) (sk 275) [(S "k", .int k), (S "many", .int many), (S "feed", .loc 0)] (xA (sE (nth (bd 275) 2)) 0)) (.int x) := by
    have ht : G st (evalT cfg2 (n + 53) (sk 275) [(S "k", .int k), (S "many", .int many), (S "feed", .loc 0)] (xA (xA (sE (nth (bd 275) 2)) 0) 0)) (decide ((k : Int) < cs.length)) := by
      refine G.cast (m' := (((itemP (.loc 0) (.str (S "cells"))).bind fun v => M.ret [v]).bind fun vs => callV cfg2 (n + 51) (.con (.builtin "len")) vs).bind fun b => (cmpP .Lt (.int k) b).bind fun v => M.of (truthP v)) (by kernel_rfl) ?_
      exact G.bind (v := .int cs.length) (G.bind (G.bind hc G.ret) (G.cast (m' := lenP (.lst (cs.map .int))) (by kernel_rfl) hlen)) (G.bind (v := .bool (decide ((k : Int) < cs.length))) G.ret G.ret)
    by_cases q : k < cs.length
    · refine ⟨cs[k], G.ifT (by kernel_rfl) ht (fun _ => ?_) (fun h => absurd (of_decide_eq_false h) (fun w => w (by omega)))⟩
      refine G.cast (m' := (itemP (.loc 0) (.str (S "cells"))).bind fun ov => itemP ov (.int k)) (by kernel_rfl) (G.bind hc ?_)
      refine G.cast (m' := M.of (if 1000000 ≤ (k : Int).natAbs then none else if 0 ≤ (k : Int) then (cs.map PV.int)[(k : Int).toNat]? else if -((cs.map PV.int).length : Int) ≤ k then (cs.map PV.int)[((k : Int) + (cs.map PV.int).length).toNat]? else none)) (by kernel_rfl) (G.of ?_)
      rw [if_neg (by omega), if_pos (by omega), show (k : Int).toNat = k from rfl, List.getElem?_map, List.getElem?_eq_getElem q]
      rfl
    · refine ⟨5 * k + Int.fdiv k 3 + 1 + cs.length, G.ifT (by kernel_rfl) ht (fun h => absurd (of_decide_eq_true h) (by omega)) (fun _ => ?_)⟩
      refine G.cast (m' := (((M.of (binP .Mult (.int 5) (.int k))).bind fun a => M.of (binP .Add a (.int (Int.fdiv k 3)))).bind fun a => M.of (binP .Add a (.int 1))).bind fun a => (((itemP (.loc 0) (.str (S "cells"))).bind fun v => M.ret [v]).bind fun vs => callV cfg2 (n + 50) (.con (.builtin "len")) vs).bind fun b => M.of (binP .Add a b)) (by kernel_rfl) ?_
      rw [mul_ok (by decide +kernel) (bits_small (by omega))]
      exact G.bind (G.bind (G.bind G.ret G.ret) G.ret) (G.bind (v := .int cs.length) (G.bind (G.bind hc G.ret) (G.cast (m' := lenP (.lst (cs.map .int))) (by kernel_rfl) hlen)) G.ret)
  obtain ⟨x, hx⟩ := key
  refine ⟨Int.fmod x many, Int.fmod_nonneg_of_pos x hm, Int.fmod_lt_of_pos x hm, ?_⟩
  refine G.cast (m' := (evalE cfg2 (n + 54) (sk 275) [(S "k", .int k), (S "many", .int many), (S "feed", .loc 0)] (xA (sE (nth (bd 275) 2)) 0)).bind fun a => M.of (binP .Mod a (.int many))) (by kernel_rfl) (G.bind hx (G.of ?_))
  show (if many = 0 then none else some (PV.int (Int.fmod x many))) = _
  rw [if_neg (by omega)]
theorem Ev.setS {α β : Type} {m : M Unit} {a : α} {f : α → M β} {st st' : St} {Q : R β → St → Prop} (e : m st = some (.ok (), st')) (h : Ev (f a) st' Q) : Ev ((m.bind fun _ => M.ret a).bind f) st Q := by
  obtain ⟨r, s2, e2, q⟩ := h
  refine ⟨r, s2, ?_, q⟩
  show M.bind (M.bind m _) f st = _
  unfold M.bind
  rw [e]
  exact e2
theorem next_ok (n : Nat) {cs : List Int} {b : Nat} {many : Int} (hm : 0 < many) (hb : b ≤ 900) (hl : cs.length ≤ 1000) {st : St} (h : Fd cs b st) : Ev (cutM (runF cfg2 (n + 60) 275 [.loc 0, .int many])) st fun res st' => (∃ r : Int, 0 ≤ r ∧ r < many ∧ res = .ok (.int r)) ∧ Fr1 0 st st' ∧ Fd cs (b + 1) st' := by
  obtain ⟨h0, k, hk, e⟩ := h
  refine Ev.cut (Ev.run [S "feed", S "many"] (by kernel_rfl) [(S "many", .int many), (S "feed", .loc 0)] rfl rfl ?_)
  refine Ev.nextG (ρ' := [(S "k", .int k), (S "many", .int many), (S "feed", .loc 0)]) 0 (by decide +kernel) (G.asg (by kernel_rfl) (G.cast (m' := itemP (.loc 0) (.str (S "spot"))) (by kernel_rfl) (G.get e h0 (G.cast (m' := M.ret (.int k)) (by kernel_rfl) G.ret))) (by kernel_rfl)) fun st1 F1 => ?_
  have e1 := F1.get e h0
  have e3 : setI (.loc 0) (.str (S "spot")) (.int (k + 1)) st1 = some (.ok (), st1.put 0 (some (fdO cs (k + 1)))) := by
    show M.bind (getO 0) _ st1 = _
    unfold M.bind getO
    rw [e1]
    kernel_rfl
  refine Ev.stmt 1 (by decide +kernel) (Ev.cast (m' := ((setI (.loc 0) (.str (S "spot")) (.int (k + 1))).bind fun _ => M.ret [(S "k", .int k), (S "many", .int many), (S "feed", .loc 0)]).bind fun ρ => M.ret (.next, ρ)) (by kernel_rfl) ?_)
  · refine Ev.setS e3 (Ev.ret (a := (Fl.next, [(S "k", PV.int k), (S "many", PV.int many), (S "feed", PV.loc 0)])) ?_)
    show Ev (execs _ _ _ _ ((bd 275).drop 2)) _ _
    obtain ⟨r, hr0, hr1, hr⟩ := next_val n (st := st1.put 0 (some (fdO cs (k + 1)))) many hm (by omega) hl St.put_at (Nat.lt_of_lt_of_le h0 F1.le)
    refine Ev.stopG (L := bd 275) 2 (by decide +kernel) (G.retn (by kernel_rfl) hr) fun st2 F2 => ?_
    have e2 := F2.get (St.put_at (st := st1)) (Nat.lt_of_lt_of_le h0 F1.le)
    have F : Fr1 0 st st2 := (F1.fr1.trans .put).trans F2.fr1
    have hn := Nat.lt_of_lt_of_le h0 F.le
    exact ⟨⟨r, hr0, hr1, rfl⟩, ⟨F.le, fun j q w => (if_pos q).trans (F.at_ j q w)⟩, hn, k + 1, by omega, (if_pos h0).trans e2⟩
end Mine
end

section
namespace Mine
open PySem
set_option autoImplicit false
set_option maxRecDepth 100000
/-- it ends, with no exception -/
noncomputable def Ok {α : Type} (m : M α) (st : St) (P : α → St → Prop) : Prop := ∃ a st', m st = some (.ok a, st') ∧ P a st'
section
variable {α β : Type} {st : St}
theorem Ok.ret {a : α} {P : α → St → Prop} (h : P a st) : Ok (M.ret a) st P := ⟨a, st, rfl, h⟩
theorem Ok.bind {m : M α} {f : α → M β} {P : α → St → Prop} {Q : β → St → Prop} (h : Ok m st P) (hf : ∀ a st', P a st' → Ok (f a) st' Q) : Ok (m.bind f) st Q := by
  obtain ⟨a, s1, e, p⟩ := h
  obtain ⟨b, s2, e2, q⟩ := hf a s1 p
  exact ⟨b, s2, by show M.bind m f st = _; unfold M.bind; rw [e]; exact e2, q⟩
theorem Ok.mono {m : M α} {P Q : α → St → Prop} (h : Ok m st P) (hq : ∀ a st', P a st' → Q a st') : Ok m st Q := by
  obtain ⟨a, s1, e, p⟩ := h
  exact ⟨a, s1, e, hq _ _ p⟩
theorem Ok.cast {m m' : M α} {P : α → St → Prop} (e : m = m') (h : Ok m' st P) : Ok m st P := e ▸ h
theorem Ok.g {m : M α} {v : α} {P : α → St → Prop} (h : G st m v) (hp : ∀ st1, Fr st st1 → P v st1) : Ok m st P := by
  obtain ⟨r, s1, e, rfl, F⟩ := h.at
  exact ⟨v, s1, e, hp _ F⟩
theorem Ok.gb {m : M α} {f : α → M β} {v : α} {P : β → St → Prop} (h : G st m v) (hp : ∀ st1, Fr st st1 → Ok (f v) st1 P) : Ok (m.bind f) st P := by
  refine Ok.bind (P := fun a st1 => a = v ∧ Fr st st1) (Ok.g h fun st1 F => ⟨rfl, F⟩) fun a st1 q => ?_
  obtain ⟨rfl, F⟩ := q
  exact hp _ F
theorem Ok.ev {m : M α} {Q : R α → St → Prop} (h : Ok m st fun a st' => Q (.ok a) st') : Ev m st Q := by
  obtain ⟨a, s1, e, p⟩ := h
  exact ⟨_, s1, e, p⟩
theorem Ok.cut {m : M PV} {P : PV → St → Prop} (h : Ok m st fun v st' => P (freeze st' st.next v) (dropTo st' st.next)) : Ok (cutM m) st P := by
  obtain ⟨a, s1, e, p⟩ := h
  exact ⟨_, _, by show cutM m st = _; unfold cutM; rw [e], p⟩
theorem Ok.noExc {m : M α} {P : α → St → Prop} (h : Ok m st P) : Ok (Mine.noExc m) st P := by
  obtain ⟨a, s1, e, p⟩ := h
  exact ⟨a, s1, by show Mine.noExc m st = _; unfold Mine.noExc; rw [e], p⟩
theorem Ok.setS {m : M Unit} {a : α} {f : α → M β} {st' : St} {Q : β → St → Prop} (e : m st = some (.ok (), st')) (h : Ok (f a) st' Q) : Ok ((m.bind fun _ => M.ret a).bind f) st Q := by
  obtain ⟨r, s2, e2, q⟩ := h
  refine ⟨r, s2, ?_, q⟩
  show M.bind (M.bind m _) f st = _
  unfold M.bind
  rw [e]
  exact e2
theorem Ok.setN {m : M Unit} {ρ : Locs} {st' : St} {Q : Fl × Locs → St → Prop} (e : m st = some (.ok (), st')) (h : Q (.next, ρ) st') : Ok ((m.bind fun _ => M.ret ρ).bind fun ρ => M.ret (.next, ρ)) st Q := Ok.setS e (.ret h)
theorem Ok.eq {m : M α} {a : α} {st' : St} {P : α → St → Prop} (e : m st = some (.ok a, st')) (h : P a st') : Ok m st P := ⟨a, st', e, h⟩
theorem Ok.newO {o : MO} {f : Nat → M β} {Q : β → St → Prop} (h : Ok (f st.next) (st.new o) Q) : Ok ((Mine.newO o).bind f) st Q := h
end
section
variable {C : Cfg} {n : Nat} {sc : Scope} {ρ : Locs} {st : St} {L : List Stmt} {s : Stmt}
noncomputable def NxO (P : Fl × Locs → St → Prop) (k : Locs → M (Fl × Locs)) (f : Fl × Locs) (st' : St) : Prop := match f.1 with
  | .next => Ok (k f.2) st' P
  | _ => P f st'
theorem Ok.stmt (k : Nat) (h : k < L.length) {P : Fl × Locs → St → Prop} (hs : Ok (exec C n sc ρ (nth L k)) st (NxO P fun ρ => execs C n sc ρ (L.drop (k + 1)))) : Ok (execs C (n + 1) sc ρ (L.drop k)) st P := by
  rw [List.drop_eq_getElem_cons h]
  rw [show nth L k = L[k] by unfold nth; rw [List.getD_eq_getElem?_getD, List.getElem?_eq_getElem h]; rfl] at hs
  refine Ok.bind (m := exec C n sc ρ L[k]) hs (fun f st' q => ?_)
  obtain ⟨f, ρ'⟩ := f
  cases f with
  | next => exact q
  | ret v => exact .ret q
theorem Ok.done {k : Nat} (h : L.length ≤ k) {P : Fl × Locs → St → Prop} (hq : P (.next, ρ) st) : Ok (execs C (n + 1) sc ρ (L.drop k)) st P := by
  rw [List.drop_eq_nil_of_le h]
  exact .ret hq
theorem Ok.run {f : Addr} (ps : List Str) (h : cfg2.fns f = some ⟨ps, bd f, sk f⟩) {args : List PV} (ρ : Locs) (hl : ps.length = args.length) (hr : (ps.zip args).reverse = ρ) {P : PV → St → Prop} (hs : Ok (execs cfg2 n (sk f) ρ ((bd f).drop 0)) st fun r st' => P (retV r) st') : Ok (runF cfg2 (n + 1) f args) st P := by
  subst hr
  show Ok (match cfg2.fns f with | Option.none => _ | some fn => _) st P
  rw [h]
  show Ok (if _ then _ else _) st P
  rw [if_pos hl]
  exact Ok.bind (m := execs cfg2 n (sk f) (ps.zip args).reverse (bd f)) hs fun r st' q => .ret q
theorem Ok.nextG {ρ' : Locs} (k : Nat) (h : k < L.length) {P : Fl × Locs → St → Prop} (hs : G st (exec C n sc ρ (nth L k)) (.next, ρ')) (hr : ∀ st1, Fr st st1 → Ok (execs C n sc ρ' (L.drop (k + 1))) st1 P) : Ok (execs C (n + 1) sc ρ (L.drop k)) st P :=
  Ok.stmt k h (Ok.g hs hr)
theorem Ok.stopG {ρ' : Locs} {v : PV} (k : Nat) (h : k < L.length) {P : Fl × Locs → St → Prop} (hs : G st (exec C n sc ρ (nth L k)) (.ret v, ρ')) (hr : ∀ st1, Fr st st1 → P (.ret v, ρ') st1) : Ok (execs C (n + 1) sc ρ (L.drop k)) st P :=
  Ok.stmt k h (Ok.g hs hr)
theorem Ok.asg {Q : Fl × Locs → St → Prop} {P : PV → St → Prop} (h : exec C (n + 1) sc ρ s = (evalE C n sc ρ (sE s)).bind fun v => (assignT C n sc ρ (sT s) v).bind fun ρ => M.ret (.next, ρ)) (he : Ok (evalE C n sc ρ (sE s)) st P)
    (hq : ∀ v st', P v st' → Ok ((assignT C n sc ρ (sT s) v).bind fun ρ => M.ret (.next, ρ)) st' Q) : Ok (exec C (n + 1) sc ρ s) st Q := by
  rw [h]
  exact Ok.bind he hq
theorem Ok.if_ {P : Bool → St → Prop} {Q : Fl × Locs → St → Prop} (h : exec C (n + 1) sc ρ s = (evalT C n sc ρ (sE s)).bind fun c => match c with | true => execs C n sc ρ (sB s) | false => execs C n sc ρ (sO s)) (hc : Ok (evalT C n sc ρ (sE s)) st P)
    (h1 : ∀ st', P true st' → Ok (execs C n sc ρ ((sB s).drop 0)) st' Q) (h2 : ∀ st', P false st' → Ok (execs C n sc ρ ((sO s).drop 0)) st' Q) : Ok (exec C (n + 1) sc ρ s) st Q := by
  rw [h]
  refine Ok.bind hc fun c st' q => ?_
  cases c
  · exact h2 _ q
  · exact h1 _ q
theorem Ok.loopF {f : PV → Locs → M (Fl × Locs)} (P : List PV → Locs → St → Prop) : ∀ {l : List PV} {ρ : Locs} {st : St}, P l ρ st →
    (∀ x xs ρ st, P (x :: xs) ρ st → Ok (f x ρ) st fun r st' => r.1 = .next ∧ P xs r.2 st') →
    Ok (Mine.loopF (β := Unit) f l ρ) st fun r st' => r.1 = .next ∧ P [] r.2 st'
  | [], ρ, st, h, _ => .ret ⟨rfl, h⟩
  | x :: xs, ρ, st, h, hf => Ok.bind (m := f x ρ) (hf x xs ρ st h) fun a st' q => by
      obtain ⟨a, ρ'⟩ := a
      obtain ⟨rfl, q⟩ := q
      exact Ok.loopF P q hf
theorem Ok.loopU {f : PV → M Unit} (P : List PV → St → Prop) : ∀ {l : List PV} {st : St}, P l st → (∀ x xs st, P (x :: xs) st → Ok (f x) st fun _ st' => P xs st') →
    Ok (Mine.loopU (M.ret ()) (M.ret ()) f l) st fun _ st' => P [] st'
  | [], st, h, _ => .ret h
  | x :: xs, st, h, hf => Ok.bind (m := f x) (hf x xs st h) fun _ st' q => Ok.loopU P q hf
theorem Ok.appO {k : Nat} {v : PV} {l : List PV} {Q : Unit → St → Prop} (e : st.objs k = some (.list l)) (hl : l.length < 100000) (h : Q () (st.put k (some (.list (l ++ [v]))))) : Ok (Mine.appO k v) st Q := by
  refine ⟨(), _, ?_, h⟩
  show M.bind (getO k) _ st = _
  unfold M.bind getO
  rw [e]
  show (if l.length < 100000 then _ else _ : M Unit) st = _
  rw [if_pos hl]
  rfl
end
theorem next_o (n : Nat) {cs : List Int} {b : Nat} {many : Int} (hm : 0 < many) (hb : b ≤ 900) (hl : cs.length ≤ 1000) {st : St} (h : Fd cs b st) : Ok (cutM (runF cfg2 (n + 60) 275 [.loc 0, .int many])) st fun v st' => (∃ r : Int, 0 ≤ r ∧ r < many ∧ v = .int r) ∧ Fr1 0 st st' ∧ Fd cs (b + 1) st' := by
  obtain ⟨r, st', e, ⟨x, h0, h1, rfl⟩, q⟩ := next_ok n hm hb hl h
  exact ⟨_, st', e, ⟨x, h0, h1, rfl⟩, q⟩
end Mine
end

section
namespace Mine
open PySem
set_option autoImplicit false
set_option maxRecDepth 100000
theorem ab_nat (t : Int) : (if t < 0 then -t else t) = (t.natAbs : Int) := by split <;> omega
theorem big_nat (t : Int) : big t = decide (10 ^ 1000 ≤ t.natAbs) := by
  unfold big
  rw [ab_nat]
  have : (10 : Int) ^ 1000 = ((10 ^ 1000 : Nat) : Int) := (Int.natCast_pow 10 1000).symm
  rw [this, Bool.eq_iff_iff, decide_eq_true_eq, decide_eq_true_eq, Int.ofNat_le]
theorem small_of {t : Int} {N : Nat} (h : t.natAbs ≤ N) (hN : N < 10 ^ 1000) : big t = false := by
  rw [big_nat]
  exact decide_eq_false (Nat.not_le.mpr (Nat.lt_of_le_of_lt h hN))
theorem bits_of {t : Int} (h : big t = false) : bitsOk t = true := by
  rw [big_nat] at h
  exact decide_eq_true (Nat.lt_trans (Nat.not_le.mp (of_decide_eq_false h)) (by decide +kernel))
theorem bits_le {t : Int} {N : Nat} (h : t.natAbs ≤ N) (hN : N < bigN) : bitsOk t = true := decide_eq_true (Nat.lt_of_le_of_lt h hN)
/-- no place of a row is too great -/
noncomputable def Sm (r : Row) : Prop := ∀ x, x ∈ r.li → big x = false
noncomputable def Row.l (r : Row) : List PV := [.int r.a0, .int r.a1, .int r.a2, .int r.a3, .int r.c]
noncomputable def Row.set (r : Row) (i v : Int) : Row := ⟨if i = 0 then v else r.a0, if i = 1 then v else r.a1, if i = 2 then v else r.a2, if i = 3 then v else r.a3, if i = 4 then v else r.c⟩
theorem row_set {r : Row} {f : Nat} {st : St} (ho : st.objs f = some (.list r.l)) {i : Int} (hi : four i ∨ i = 4) (v : Int) : setI (.loc f) (.int i) (.int v) st = some (.ok (), st.put f (some (.list (r.set i v).l))) := by
  show M.bind (getO f) _ st = _
  unfold M.bind getO
  rw [ho]
  rcases hi with (rfl | rfl | rfl | rfl) | rfl <;> kernel_rfl
theorem set_li {r : Row} {i v x : Int} (h : x ∈ (r.set i v).li) : x = v ∨ x ∈ r.li := by
  unfold Row.li Row.set at h
  simp only [List.mem_cons, List.not_mem_nil, or_false] at h
  unfold Row.li
  simp only [List.mem_cons, List.not_mem_nil, or_false]
  rcases h with h | h | h | h | h <;> (split at h <;> simp [h])
theorem Fr1.putO {a k : Nat} {st st' : St} {o : Option MO} (h : Fr1 a st st') (q : st.next ≤ k) : Fr1 a st (st'.put k o) := ⟨h.le, fun j w n => (if_neg (Nat.ne_of_lt (Nat.lt_of_lt_of_le w q))).trans (h.at_ j w n)⟩
theorem Fr1.drop {a : Nat} {st st' : St} (w : Fr1 a st st') : Fr1 a st (dropTo st' st.next) := ⟨w.le, fun k q n => (if_pos q).trans (w.at_ k q n)⟩
theorem Fd.drop {cs : List Int} {b n : Nat} {st : St} (h : Fd cs b st) (q : 0 < n) : Fd cs b (dropTo st n) := ⟨h.1, let ⟨k, hk, e⟩ := h.2; ⟨k, hk, (if_pos q).trans e⟩⟩
theorem Fd.put {cs : List Int} {b k : Nat} {o : Option MO} {st : St} (h : Fd cs b st) (q : k ≠ 0) : Fd cs b (st.put k o) := ⟨h.1, let ⟨j, hj, e⟩ := h.2; ⟨j, hj, (if_neg (fun w => q w.symm)).trans e⟩⟩
noncomputable abbrev rT (f : Nat) (w : Int) : Locs := [(S "way", .int w), (S "found", .loc f), (S "feed", .loc 0)]
noncomputable def Row.zero : Row := ⟨0, 0, 0, 0, 0⟩
/-- what a thing is, with its row in the list at f -/
noncomputable def ThP (cs : List Int) (B f : Nat) (st : St) (x : Fl × Locs) (st' : St) : Prop := (∃ v r, x.1 = .ret (.tup [v, .loc f]) ∧ Thing v r ∧ Sm r ∧ st'.objs f = some (.list r.l)) ∧ Fr1 0 st st' ∧ Fd cs B st'
section
variable {cs : List Int} {b f : Nat} {st st1 : St}
noncomputable def xL (e : PySem.Expr) : List PySem.Expr := match e with
  | .Tuple es _ _ => es
  | _ => []
theorem sm_set {r : Row} {N : Nat} (h : ∀ x, x ∈ r.li → x.natAbs ≤ N) {i v : Int} (hv : v.natAbs ≤ N) : ∀ x, x ∈ (r.set i v).li → x.natAbs ≤ N := fun x hx => by
  rcases set_li hx with rfl | hx
  · exact hv
  · exact h x hx
theorem sm_zero (N : Nat) : ∀ x, x ∈ Row.zero.li → x.natAbs ≤ N := fun x hx => by
  unfold Row.li Row.zero at hx
  simp only [List.mem_cons, List.not_mem_nil, or_false, or_self] at hx
  subst hx
  exact Nat.zero_le _
theorem sm_of {r : Row} {N : Nat} (h : ∀ x, x ∈ r.li → x.natAbs ≤ N) (hN : N < 10 ^ 1000) : Sm r := fun x hx => small_of (h x hx) hN
/-- a bit or its contrary -/
theorem thing_bit (n : Nat) (hl : cs.length ≤ 1000) (hb : b ≤ 800) (w x y : Int) (hw : (w = 0 ∧ x = 1 ∧ y = 0) ∨ (w = 1 ∧ x = -1 ∧ y = 1)) (F : Fr1 0 st st1) (hf : st.next ≤ f) (hf1 : f < st1.next) (h0 : f ≠ 0) (ho : st1.objs f = some (.list Row.zero.l)) (hd : Fd cs b st1) :
    Ok (execs cfg2 (n + 96) (sk 282) (rT f w) ((sB (nth (bd 282) 1)).drop 0)) st1 (ThP cs (b + 1) f st) := by
  refine Ok.stmt 0 (by decide +kernel) (Ok.asg (P := fun v st' => (∃ r : Int, 0 ≤ r ∧ r < 4 ∧ v = .int r) ∧ Fr1 0 st1 st' ∧ Fd cs (b + 1) st') (by kernel_rfl) (Ok.cast (m' := cutM (runF cfg2 (n + 92) 275 [.loc 0, .int 4])) (by kernel_rfl) (next_o (n + 32) (by decide) (by omega) hl hd)) ?_)
  rintro v st2 ⟨⟨p, hp0, hp1, rfl⟩, F2, hd2⟩
  have hp : four p := by unfold four; omega
  have ho2 : st2.objs f = some (.list Row.zero.l) := (F2.at_ f hf1 h0).trans ho
  refine Ok.cast (m' := M.ret (.next, (S "place", .int p) :: rT f w)) (by kernel_rfl) (.ret ?_)
  show Ok (execs _ _ _ _ ((sB (nth (bd 282) 1)).drop 1)) _ _
  have e3 := row_set ho2 (.inl hp) x
  have e4 := row_set (st := st2.put f (some (.list (Row.zero.set p x).l))) (r := Row.zero.set p x) St.put_at (i := 4) (.inr rfl) y
  refine Ok.stmt 1 (by decide +kernel) ?_
  refine Ok.cast (m' := (((setI (.loc f) (.int p) (.int x)).bind fun _ => M.ret ((S "place", .int p) :: rT f w)).bind fun ρ => assignTs cfg2 (n + 91) (sk 282) ρ ((xL (sT (nth (sB (nth (bd 282) 1)) 1))).drop 1) [.int y]).bind fun ρ => M.ret (.next, ρ)) (by rcases hw with ⟨rfl, rfl, rfl⟩ | ⟨rfl, rfl, rfl⟩ <;> kernel_rfl) ?_
  refine Ok.bind (P := fun ρ st' => ρ = (S "place", .int p) :: rT f w ∧ st' = (st2.put f (some (.list (Row.zero.set p x).l))).put f (some (.list ((Row.zero.set p x).set 4 y).l))) (Ok.setS e3 (Ok.cast (m' := (((setI (.loc f) (.int 4) (.int y)).bind fun _ => M.ret ((S "place", .int p) :: rT f w)).bind fun ρ => M.ret ρ)) (by kernel_rfl) (Ok.setS e4 (.ret ⟨rfl, rfl⟩)))) ?_
  rintro _ st3 ⟨rfl, rfl⟩
  refine .ret ?_
  show Ok (execs _ _ _ _ ((sB (nth (bd 282) 1)).drop 2)) _ _
  refine Ok.stmt 2 (by decide +kernel) (Ok.cast (m' := M.ret (.ret (.tup [.tup [.str (S "bit"), .int p, .bool (decide (w = 0))], .loc f]), (S "place", .int p) :: rT f w)) (by rcases hw with ⟨rfl, rfl, rfl⟩ | ⟨rfl, rfl, rfl⟩ <;> kernel_rfl) (.ret ?_))
  refine ⟨⟨_, (Row.zero.set p x).set 4 y, rfl, ?_, ?_, St.put_at⟩, ((F.trans F2).putO hf).putO hf, (hd2.put h0).put h0⟩
  · rcases hw with ⟨rfl, rfl, rfl⟩ | ⟨rfl, rfl, rfl⟩
    · exact Thing.bit p hp
    · exact Thing.con p hp
  · refine sm_of (N := 1) (sm_set (sm_set (sm_zero 1) ?_) ?_) (by decide +kernel) <;> rcases hw with ⟨rfl, rfl, rfl⟩ | ⟨rfl, rfl, rfl⟩ <;> decide
end
end Mine
end

section
namespace Mine
open PySem
set_option autoImplicit false
set_option maxRecDepth 100000
section
variable {cs : List Int} {b f : Nat} {st st1 : St}
theorem row_item {r : Row} (ho : st.objs f = some (.list r.l)) (hf : f < st.next) : G st (itemP (.loc f) (.int 4)) (.int r.c) := G.get ho hf (G.cast (m' := M.ret (.int r.c)) (by kernel_rfl) G.ret)
theorem row_items {r : Row} (ho : st.objs f = some (.list r.l)) (hf : f < st.next) : ∀ q, q ∈ r.all → G st (itemP (.loc f) (.int q.1)) (.int q.2) := by
  intro q hq
  unfold Row.all at hq
  simp only [List.mem_cons, List.not_mem_nil, or_false] at hq
  rcases hq with e | e | e | e <;> subst e <;> exact G.get ho hf (G.cast (m' := M.ret _) (by kernel_rfl) G.ret)
theorem thing_truth (n : Nat) (hl : cs.length ≤ 1000) (hb : b ≤ 800) (F : Fr1 0 st st1) (hf : st.next ≤ f) (hf1 : f < st1.next) (h0 : f ≠ 0) (ho : st1.objs f = some (.list Row.zero.l)) (hd : Fd cs b st1) :
    Ok (execs cfg2 (n + 96) (sk 282) (rT f 2) ((sB (nth (bd 282) 2)).drop 0)) st1 (ThP cs (b + 1) f st) := by
  refine Ok.stmt 0 (by decide +kernel) (Ok.cast (m' := (cutM (runF cfg2 (n + 92) 275 [.loc 0, .int 2])).bind fun v => ((setI (.loc f) (.int 4) v).bind fun _ => M.ret (rT f 2)).bind fun ρ => M.ret (.next, ρ)) (by kernel_rfl) (Ok.bind (next_o (n + 32) (by decide) (by omega) hl hd) ?_))
  rintro v st2 ⟨⟨p, hp0, hp1, rfl⟩, F2, hd2⟩
  have ho2 : st2.objs f = some (.list Row.zero.l) := (F2.at_ f hf1 h0).trans ho
  refine Ok.setN (row_set ho2 (.inr rfl) p) ?_
  show Ok (execs _ _ _ _ ((sB (nth (bd 282) 2)).drop 1)) _ _
  refine Ok.stopG (ρ' := rT f 2) (v := .tup [.bool (p == 1), .loc f]) 1 (by decide +kernel) (G.cast (m' := ((((itemP (.loc f) (.int 4)).bind fun a => cmpP .Eq a (.int 1)).bind fun v => M.ret [v, .loc f]).bind fun vs => M.ret (.tup vs)).bind fun v => M.ret (.ret v, rT f 2)) (by kernel_rfl) ?_) fun st3 F3 => ?_
  · exact G.bind (G.bind (G.bind (v := PV.bool (p == 1)) (G.bind (row_item St.put_at (Nat.lt_of_lt_of_le hf1 F2.le)) (G.cast (eq_int p 1) G.ret)) G.ret) G.ret) G.ret
  · refine ⟨⟨_, Row.zero.set 4 p, rfl, ?_, sm_of (N := 1) (sm_set (sm_zero 1) (by omega)) (by decide +kernel), F3.get St.put_at (Nat.lt_of_lt_of_le hf1 F2.le)⟩, ((F.trans F2).putO hf).trans F3.fr1, (hd2.put h0).fr F3⟩
    have : p = 0 ∨ p = 1 := by omega
    rcases this with rfl | rfl
    · exact Thing.truth false
    · exact Thing.truth true
/-- the loop of a sum: what holds with so many places to go -/
noncomputable def LpT (cs : List Int) (B f : Nat) (w g : Int) (st : St) (xs : List PV) (ρ : Locs) (st' : St) : Prop :=
  (∀ x, x ∈ xs → ∃ i, x = PV.int i ∧ (four i ∨ i = 4)) ∧ (ρ.lookup (S "feed") = some (.loc 0) ∧ ρ.lookup (S "way") = some (.int w) ∧ ρ.lookup (S "great") = some (.int g) ∧ ρ.lookup (S "found") = some (.loc f)) ∧
  (∃ r : Row, (∀ x, x ∈ r.li → x.natAbs ≤ 3 * 10 ^ 499) ∧ st'.objs f = some (.list r.l)) ∧ f < st'.next ∧ Fr1 0 st st' ∧ ∃ c, c + xs.length ≤ B ∧ Fd cs c st'
theorem thing_turn (n : Nat) (hl : cs.length ≤ 1000) {B : Nat} (hB : B ≤ 900) {w g : Int} (hg : g.natAbs ≤ 10 ^ 499) (hf : st.next ≤ f) (h0 : f ≠ 0) (x : PV) (xs : List PV) (ρ : Locs) (st' : St) (h : LpT cs B f w g st (x :: xs) ρ st') :
    Ok ((assignT cfg2 (n + 94) (sk 282) ρ (sT (nth (bd 282) 4)) x).bind fun ρ => execs cfg2 (n + 94) (sk 282) ρ (sB (nth (bd 282) 4))) st' fun r st2 => r.1 = .next ∧ LpT cs B f w g st xs r.2 st2 := by
  obtain ⟨hx, ⟨e1, e2, e3, e4⟩, ⟨r, hr, ho⟩, hf1, F, c, hc, hd⟩ := h
  obtain ⟨i, rfl, hi⟩ := hx x (.head _)
  rw [List.length_cons] at hc
  rw [show assignT cfg2 (n + 94) (sk 282) ρ (sT (nth (bd 282) 4)) (.int i) = M.ret ((S "place", .int i) :: ρ) from by kernel_rfl]
  show Ok (execs cfg2 (n + 94) (sk 282) _ ((sB (nth (bd 282) 4)).drop 0)) st' _
  refine Ok.stmt 0 (by decide +kernel) (Ok.if_ (P := fun _ st2 => Fr st' st2) (by kernel_rfl) ?_ (fun st2 F2 => ?_) (fun st2 F2 => ?_))
  · refine Ok.g (G.cast (m' := ((M.of (ρ.lookup (S "way"))).bind fun a => (cmpP .Eq a (.int 4)).bind fun v => M.of (truthP v)).bind fun t => ifB t (M.ret true) (((cmpP .Eq (.int i) (.int 4)).bind fun v => M.of (truthP v)).bind fun t => ifB t (M.ret true) (M.ret false))) (v := (w == 4) || (i == 4)) (by kernel_rfl) ?_) fun _ F => F
    rw [e2]
    refine G.bind (v := w == 4) (G.bind G.ret (G.bind (v := PV.bool (w == 4)) (G.cast (eq_int w 4) G.ret) G.ret)) ?_
    cases w == 4
    · show G st' (((cmpP .Eq (.int i) (.int 4)).bind fun v => M.of (truthP v)).bind fun t => ifB t (M.ret true) (M.ret false)) _
      refine G.bind (v := i == 4) (G.bind (v := PV.bool (i == 4)) (G.cast (eq_int i 4) G.ret) G.ret) ?_
      cases i == 4 <;> exact G.ret
    · exact G.ret
  · have ho2 := F2.get ho hf1
    refine Ok.stmt 0 (by decide +kernel) (Ok.cast (m' := (((((M.of (ρ.lookup (S "feed"))).bind fun v => M.ret [v, .int 7]).bind fun vs => callV cfg2 (n + 87) (.con (.ref 275)) vs).bind fun a => M.of (binP .Sub a (.int 3))).bind fun a => (M.of (ρ.lookup (S "great"))).bind fun b => M.of (binP .Mult a b)).bind fun v => ((M.of (ρ.lookup (S "found"))).bind fun ov => (setI ov (.int i) v).bind fun _ => M.ret ((S "place", .int i) :: ρ)).bind fun ρ => M.ret (.next, ρ)) (by kernel_rfl) ?_)
    rw [e1, e3, e4]
    refine Ok.bind (P := fun v st3 => (∃ p : Int, p.natAbs ≤ 3 * 10 ^ 499 ∧ v = .int p) ∧ Fr1 0 st2 st3 ∧ Fd cs (c + 1) st3) (Ok.bind (P := fun v st3 => (∃ p : Int, p.natAbs ≤ 3 ∧ v = .int p) ∧ Fr1 0 st2 st3 ∧ Fd cs (c + 1) st3) (Ok.bind (P := fun v st3 => (∃ p : Int, 0 ≤ p ∧ p < 7 ∧ v = .int p) ∧ Fr1 0 st2 st3 ∧ Fd cs (c + 1) st3) (Ok.cast (m' := cutM (runF cfg2 (n + 86) 275 [.loc 0, .int 7])) (by kernel_rfl) (next_o (n + 26) (by decide) (by omega) hl (hd.fr F2))) ?_) ?_) ?_
    · rintro v st3 ⟨⟨p, hp0, hp1, rfl⟩, q⟩
      exact Ok.ret (a := PV.int (p - 3)) ⟨⟨_, by omega, rfl⟩, q⟩
    · rintro v st3 ⟨⟨p, hp, rfl⟩, q⟩
      have hb : (p * g).natAbs ≤ 3 * 10 ^ 499 := by rw [Int.natAbs_mul]; exact Nat.mul_le_mul hp hg
      show Ok (M.of (binP .Mult (.int p) (.int g))) st3 _
      rw [mul_ok (bits_le hp (by decide +kernel)) (bits_le hg (by decide +kernel))]
      exact Ok.ret (a := PV.int (p * g)) ⟨⟨_, hb, rfl⟩, q⟩
    · rintro v st3 ⟨⟨p, hp, rfl⟩, F3, hd3⟩
      refine Ok.cast (m' := ((setI (.loc f) (.int i) (.int p)).bind fun _ => M.ret ((S "place", .int i) :: ρ)).bind fun ρ => M.ret (.next, ρ)) (by kernel_rfl) (Ok.setN (row_set ((F3.at_ f (Nat.lt_of_lt_of_le hf1 F2.le) h0).trans ho2) hi p) ?_)
      exact Ok.done (by decide +kernel) (Ok.done (by decide +kernel) ⟨rfl, fun y hy => hx y (.tail _ hy), ⟨e1, e2, e3, e4⟩, ⟨r.set i p, sm_set hr hp, St.put_at⟩, Nat.lt_of_lt_of_le hf1 (Nat.le_trans F2.le F3.le), ((F.trans F2.fr1).trans F3).putO hf, c + 1, by omega, hd3.put h0⟩)
  · exact Ok.done (by decide +kernel) (Ok.done (by decide +kernel) ⟨rfl, fun y hy => hx y (.tail _ hy), ⟨e1, e2, e3, e4⟩, ⟨r, hr, F2.get ho hf1⟩, Nat.lt_of_lt_of_le hf1 F2.le, F.trans F2.fr1, c, by omega, hd.fr F2⟩)
end
end Mine
end

section
namespace Mine
open PySem
set_option autoImplicit false
set_option maxRecDepth 100000
section
variable {cs : List Int} {b f : Nat} {st st1 : St}
theorem frz1_thing {u : PV} {r : Row} (h : Thing u r) (st : St) (n : Nat) : freeze1 st n u = u := by
  cases h with
  | bit p h => rfl
  | con p h => rfl
  | truth b => rfl
  | told =>
    unfold Row.told
    split <;> rfl
/-- what a thing comes to -/
noncomputable def ThQ (cs : List Int) (B : Nat) (st : St) (v : PV) (st' : St) : Prop := (∃ u r, v = .tup [u, r.pv] ∧ Thing u r ∧ Sm r) ∧ Fr1 0 st st' ∧ Fd cs B st'
theorem ThP.q {B B' f : Nat} {x : Fl × Locs} {st' : St} (h0 : 0 < st.next) (hf : st.next ≤ f) (hB : B ≤ B') (h : ThP cs B f st x st') : ThQ cs B' st (freeze st' st.next (retV x)) (dropTo st' st.next) := by
  obtain ⟨⟨v, r, e, ht, hs, ho⟩, F, hd⟩ := h
  obtain ⟨fl, ρ⟩ := x
  dsimp only at e
  subst e
  refine ⟨⟨v, r, ?_, ht, hs⟩, F.drop, (hd.up hB).drop h0⟩
  show PV.tup [freeze1 st' st.next v, if f < st.next then .loc f else match st'.objs f with | some (.list l) => .lst l | _ => .loc f] = _
  rw [frz1_thing ht, if_neg (by omega), ho]
  rfl
theorem thing_sum (n : Nat) (hl : cs.length ≤ 1000) (hb : b ≤ 800) (w : Int) (hw : w = 3 ∨ w = 4) (F : Fr1 0 st st1) (hf : st.next ≤ f) (hf1 : f < st1.next) (h0 : f ≠ 0) (ho : st1.objs f = some (.list Row.zero.l)) (hd : Fd cs b st1) :
    Ok (execs cfg2 (n + 97) (sk 282) (rT f w) ((bd 282).drop 3)) st1 (ThP cs (b + 6) f st) := by
  refine Ok.stmt 3 (by decide +kernel) (Ok.cast (m' := ((cutM (runF cfg2 (n + 92) 275 [.loc 0, .int 3])).bind fun iv => itemP (.tup [.int 1, .int (10 ^ 18), .int (10 ^ 499)]) iv).bind fun v => M.ret (.next, (S "great", v) :: rT f w)) (by rcases hw with rfl | rfl <;> kernel_rfl) (Ok.bind (P := fun v st' => (∃ g : Int, g.natAbs ≤ 10 ^ 499 ∧ v = .int g) ∧ Fr1 0 st1 st' ∧ Fd cs (b + 1) st') (Ok.bind (next_o (n + 32) (by decide) (by omega) hl hd) ?_) ?_))
  · rintro v st2 ⟨⟨p, hp0, hp1, rfl⟩, q⟩
    have : p = 0 ∨ p = 1 ∨ p = 2 := by omega
    rcases this with rfl | rfl | rfl
    · exact Ok.cast (m' := M.ret (.int 1)) (by kernel_rfl) (.ret ⟨⟨1, by decide +kernel, rfl⟩, q⟩)
    · exact Ok.cast (m' := M.ret (.int (10 ^ 18))) (by kernel_rfl) (.ret ⟨⟨10 ^ 18, by decide +kernel, rfl⟩, q⟩)
    · exact Ok.cast (m' := M.ret (.int (10 ^ 499))) (by kernel_rfl) (.ret ⟨⟨10 ^ 499, by decide +kernel, rfl⟩, q⟩)
  rintro v st2 ⟨⟨g, hg, rfl⟩, F2, hd2⟩
  refine .ret ?_
  show Ok (execs _ _ _ _ ((bd 282).drop 4)) _ _
  have ho2 : st2.objs f = some (.list Row.zero.l) := (F2.at_ f hf1 h0).trans ho
  refine Ok.stmt 4 (by decide +kernel) (Ok.cast (m' := loopF (β := Unit) (fun x ρ => (assignT cfg2 (n + 94) (sk 282) ρ (sT (nth (bd 282) 4)) x).bind fun ρ => execs cfg2 (n + 94) (sk 282) ρ (sB (nth (bd 282) 4))) [.int 0, .int 1, .int 2, .int 3, .int 4] ((S "great", .int g) :: rT f w)) (by rcases hw with rfl | rfl <;> kernel_rfl) ((Ok.loopF (LpT cs (b + 6) f w g st) ?_ (fun x xs ρ st' h => thing_turn n hl (by omega) hg hf h0 x xs ρ st' h)).mono ?_))
  · refine ⟨fun x hx => ?_, ⟨by rfl, by rfl, by rfl, by rfl⟩, ⟨Row.zero, sm_zero _, ho2⟩, Nat.lt_of_lt_of_le hf1 F2.le, F.trans F2, b + 1, by show b + 1 + 5 ≤ b + 6; omega, hd2⟩
    simp only [List.mem_cons, List.not_mem_nil, or_false] at hx
    rcases hx with rfl | rfl | rfl | rfl | rfl
    · exact ⟨_, rfl, .inl (.inl rfl)⟩
    · exact ⟨_, rfl, .inl (.inr (.inl rfl))⟩
    · exact ⟨_, rfl, .inl (.inr (.inr (.inl rfl)))⟩
    · exact ⟨_, rfl, .inl (.inr (.inr (.inr rfl)))⟩
    · exact ⟨_, rfl, .inr rfl⟩
  · rintro ⟨fl, ρ⟩ st3 ⟨rfl, _, ⟨_, _, _, e4⟩, ⟨r, hr, ho3⟩, hf3, F3, c, hc, hd3⟩
    show Ok (execs _ _ _ _ ((bd 282).drop 5)) _ _
    refine Ok.stopG (ρ' := ρ) (v := .tup [r.told, .loc f]) 5 (by decide +kernel) (G.retn (by kernel_rfl) (G.pair (by kernel_rfl) (G.cast (m' := ((M.of (ρ.lookup (S "found"))).bind fun v => M.ret [v]).bind fun vs => callV cfg2 (n + 90) (.con (.ref 287)) vs) (by kernel_rfl) ?_) (G.cast (m' := M.of (ρ.lookup (S "found"))) (by kernel_rfl) (G.of e4)))) fun st4 F4 => ?_
    · rw [e4]
      exact G.bind (G.bind G.ret G.ret) (G.cast (m' := cutM (runF cfg2 (n + 89) 287 [.loc f])) (by kernel_rfl) (told_gen (n + 29) (row_items ho3 hf3) (row_item ho3 hf3)))
    · exact ⟨⟨_, r, rfl, .told r, sm_of hr (by decide +kernel), F4.get ho3 hf3⟩, F3.trans F4.fr1, (hd3.fr F4).up (by have : c + 0 ≤ b + 6 := hc; omega)⟩
theorem Ok.swap {C : Cfg} {n : Nat} {sc : Scope} {ρ : Locs} {s : Stmt} {P : PV → St → Prop} {Q : Fl × Locs → St → Prop} (nm : List Str) (h : exec C (n + 1) sc ρ s = (evalE C n sc ρ (sE s)).bind (swapK ρ nm)) (he : Ok (evalE C n sc ρ (sE s)) st P)
    (hq : ∀ v st', P v st' → ∃ l, v = .tup l ∧ l.length = nm.length ∧ Q (.next, nm.zip l ++ ρ) st') : Ok (exec C (n + 1) sc ρ s) st Q := by
  rw [h]
  refine Ok.bind he fun v st' p => ?_
  obtain ⟨l, rfl, hl, q⟩ := hq v st' p
  show Ok (if _ then _ else _) st' Q
  rw [if_pos hl]
  exact .ret q
theorem Ok.pair {C : Cfg} {n : Nat} {sc : Scope} {ρ : Locs} {e : PySem.Expr} {P Q : PV → St → Prop} (h : evalE C (n + 4) sc ρ e = ((evalE C (n + 2) sc ρ (xA e 0)).bind fun v => ((evalE C (n + 1) sc ρ (xA e 1)).bind fun w => M.ret [w]).bind fun vs => M.ret (v :: vs)).bind fun vs => M.ret (.tup vs)) (h1 : Ok (evalE C (n + 2) sc ρ (xA e 0)) st P)
    (h2 : ∀ v st1, P v st1 → Ok (evalE C (n + 1) sc ρ (xA e 1)) st1 fun w st2 => Q (.tup [v, w]) st2) : Ok (evalE C (n + 4) sc ρ e) st Q := by
  rw [h]
  refine Ok.bind (P := fun vs st' => Q (.tup vs) st') (Ok.bind h1 fun v st1 p => Ok.bind (P := fun vs st' => Q (.tup (v :: vs)) st') (Ok.bind (h2 v st1 p) fun w st2 q => .ret q) fun vs st2 q => .ret q) fun vs st2 q => .ret q
theorem thing_if (n f : Nat) (w : Int) (k : Nat) (b : Bool) (h : exec cfg2 (n + 1) (sk 282) (rT f w) (nth (bd 282) k) = M.bind (M.ret b) fun c => match c with | true => execs cfg2 n (sk 282) (rT f w) (sB (nth (bd 282) k)) | false => execs cfg2 n (sk 282) (rT f w) []) {st : St} {Q : Fl × Locs → St → Prop} (hq : Ok (match b with | true => execs cfg2 n (sk 282) (rT f w) ((sB (nth (bd 282) k)).drop 0) | false => execs cfg2 n (sk 282) (rT f w) []) st Q) : Ok (exec cfg2 (n + 1) (sk 282) (rT f w) (nth (bd 282) k)) st Q := by
  rw [h]
  cases b <;> exact hq
theorem ThP.nx {B B' f : Nat} {x : Fl × Locs} {st' : St} (hB : B ≤ B') {k : Locs → M (Fl × Locs)} (h : ThP cs B f st x st') : NxO (ThP cs B' f st) k x st' := by
  obtain ⟨⟨v, r, e, ht, hs, ho⟩, F, hd⟩ := h
  obtain ⟨fl, ρ⟩ := x
  dsimp only at e
  subst e
  exact ⟨⟨v, r, rfl, ht, hs, ho⟩, F, hd.up hB⟩
theorem thing_ok (n : Nat) (hl : cs.length ≤ 1000) (hb : b ≤ 700) (h : Fd cs b st) : Ok (cutM (runF cfg2 (n + 101) 282 [.loc 0])) st (ThQ cs (b + 8) st) := by
  refine Ok.cut (Ok.run [S "feed"] (by kernel_rfl) [(S "feed", .loc 0)] rfl rfl ?_)
  refine Ok.stmt 0 (by decide +kernel) (Ok.swap (P := fun v st' => ∃ w f, (0 : Int) ≤ w ∧ w < 5 ∧ v = .tup [.int w, .loc f] ∧ Fr1 0 st st' ∧ st.next ≤ f ∧ f < st'.next ∧ st'.objs f = some (.list Row.zero.l) ∧ Fd cs (b + 1) st') [S "way", S "found"] (by kernel_rfl) (Ok.pair (by kernel_rfl) (Ok.cast (m' := cutM (runF cfg2 (n + 94) 275 [.loc 0, .int 5])) (by kernel_rfl) (next_o (n + 34) (by decide) (by omega) hl h)) ?_) ?_)
  · rintro v st1 ⟨⟨w, hw0, hw1, rfl⟩, F, hd⟩
    refine Ok.cast (m' := (newO (.list Row.zero.l)).bind fun k => M.ret (.loc k)) (by kernel_rfl) (Ok.newO (f := fun k => M.ret (PV.loc k)) (Ok.ret (a := PV.loc st1.next) ?_))
    exact ⟨w, st1.next, hw0, hw1, rfl, F.trans St.new_fr.fr1, F.le, Nat.lt_succ_self _, St.new_at, hd.fr St.new_fr⟩
  · rintro v st1 ⟨w, f, hw0, hw1, rfl, F, hf, hf1, ho, hd⟩
    refine ⟨_, rfl, rfl, ?_⟩
    have h0 : f ≠ 0 := by have := h.1; omega
    show Ok (execs cfg2 (n + 99) (sk 282) (rT f w) ((bd 282).drop 1)) st1 _
    refine Ok.mono (P := ThP cs (b + 8) f st) ?_ fun x st' q => q.q h.1 hf (Nat.le_refl _)
    have hw : w = 0 ∨ w = 1 ∨ w = 2 ∨ (w = 3 ∨ w = 4) := by omega
    rcases hw with rfl | rfl | rfl | hw
    · exact Ok.stmt 1 (by decide +kernel) (thing_if (n + 97) f 0 1 true (by kernel_rfl) ((thing_bit (n + 1) hl (by omega) 0 1 0 (.inl ⟨rfl, rfl, rfl⟩) F hf hf1 h0 ho hd).mono fun x st' q => q.nx (by omega)))
    · exact Ok.stmt 1 (by decide +kernel) (thing_if (n + 97) f 1 1 true (by kernel_rfl) ((thing_bit (n + 1) hl (by omega) 1 (-1) 1 (.inr ⟨rfl, rfl, rfl⟩) F hf hf1 h0 ho hd).mono fun x st' q => q.nx (by omega)))
    · refine Ok.stmt 1 (by decide +kernel) (thing_if (n + 97) f 2 1 false (by kernel_rfl) (.ret ?_))
      exact Ok.stmt 2 (by decide +kernel) (thing_if (n + 96) f 2 2 true (by kernel_rfl) ((thing_truth n hl (by omega) F hf hf1 h0 ho hd).mono fun x st' q => q.nx (by omega)))
    · refine Ok.stmt 1 (by decide +kernel) (thing_if (n + 97) f w 1 false (by rcases hw with rfl | rfl <;> kernel_rfl) (.ret ?_))
      refine Ok.stmt 2 (by decide +kernel) (thing_if (n + 96) f w 2 false (by rcases hw with rfl | rfl <;> kernel_rfl) (.ret ?_))
      exact (thing_sum n hl (by omega) w hw F hf hf1 h0 ho hd).mono fun x st' q => ⟨q.1, q.2.1, q.2.2.up (by omega)⟩
end
end Mine
end

section
namespace Mine
open PySem
set_option autoImplicit false
set_option maxRecDepth 100000
/-- the gatherer at g, its vars' ends -/
structure Ga (g : Nat) (lo hi : Int → Int) (st : St) : Prop where
  ex : ∃ (fl vs : Nat) (md t1 t2 t3 : PV) (L : List PV), st.objs g = some (.inst 264 [(S "flat", .loc fl), (S "made", md)]) ∧ st.objs fl = some (.inst 80 [(S "vars", .loc vs), (S "tolds", t1), (S "goal", t2), (S "shown", t3)]) ∧ st.objs vs = some (.list L) ∧
    g < st.next ∧ fl < st.next ∧ vs < st.next ∧ ∀ i, four i → ∃ nm, idx? L i = some (.tup [nm, .tup [.tup [.int (lo i), .int (hi i)]]])
theorem Ga.fr {g : Nat} {lo hi : Int → Int} {st st' : St} (h : Ga g lo hi st) (F : Fr st st') : Ga g lo hi st' := by
  obtain ⟨fl, vs, md, t1, t2, t3, L, h1, h2, h3, h4, h5, h6, h7⟩ := h.ex
  exact ⟨fl, vs, md, t1, t2, t3, L, F.get h1 h4, F.get h2 h5, F.get h3 h6, Nat.lt_of_lt_of_le h4 F.le, Nat.lt_of_lt_of_le h5 F.le, Nat.lt_of_lt_of_le h6 F.le, h7⟩
theorem G.done {C : Cfg} {n : Nat} {sc : Scope} {ρ : Locs} {st : St} {L : List Stmt} {k : Nat} (h : L.length ≤ k) : G st (execs C (n + 1) sc ρ (L.drop k)) (.next, ρ) := by
  rw [List.drop_eq_nil_of_le h]
  exact G.ret
noncomputable def mnE (a b : Int) : Int := if b < a then b else a
noncomputable def mxE (a b : Int) : Int := if a < b then b else a
section
variable {g : Nat} {lo hi : Int → Int} {st : St}
theorem dom_ok (n : Nat) (h : Ga g lo hi st) {x : Int} (hx : four x) {ρ : Locs} (e : ρ.lookup (S "self") = some (.loc g)) : G st (((M.of (ρ.lookup (S "self"))).bind fun ov => getA cfg2 ov (S "flat")).bind fun ov => (methK cfg2 ov (S "domain_of")).bind fun mk => methApp cfg2 (n + 70) ov mk [.int x]) (.tup [.tup [.int (lo x), .int (hi x)]]) := by
  obtain ⟨fl, vs, md, t1, t2, t3, L, h1, h2, h3, h4, h5, h6, h7⟩ := h.ex
  obtain ⟨nm, hn⟩ := h7 x hx
  rw [e]
  refine G.bind (v := .loc fl) (G.bind G.ret (G.get h1 h4 (G.cast (m' := M.ret (.loc fl)) (by kernel_rfl) G.ret))) ?_
  refine G.bind (v := .fn 77) (G.get h2 h5 (G.cast (m' := M.ret (.fn 77)) (by kernel_rfl) G.ret)) ?_
  refine G.cast (m' := cutM (runF cfg2 (n + 69) 77 [.loc fl, .int x])) (by kernel_rfl) (G.cut (G.run [S "self", S "x"] (by kernel_rfl) [(S "x", .int x), (S "self", .loc fl)] rfl rfl (G.stop (L := bd 77) 0 (by decide +kernel) (G.retn (by kernel_rfl) (G.cast (m' := ((getA cfg2 (.loc fl) (S "vars")).bind fun ov => itemP ov (.int x)).bind fun ov => itemP ov (.int 1)) (by kernel_rfl) (G.bind (v := .tup [nm, .tup [.tup [.int (lo x), .int (hi x)]]]) (G.bind (v := .loc vs) (G.get h2 h5 (G.cast (m' := M.ret (.loc vs)) (by kernel_rfl) G.ret)) (G.cast (m' := (getO vs).bind fun o => itemO o (.int x)) (by kernel_rfl) (G.get h3 h6 (G.cast (m' := M.of (idx? L x)) (by kernel_rfl) (G.of hn))))) (G.cast (m' := M.ret (.tup [.tup [.int (lo x), .int (hi x)]])) (by kernel_rfl) G.ret)))))) fun _ _ => rfl)
noncomputable abbrev bnS (k : Nat) : Stmt := nth (bd 186) k
noncomputable abbrev bnT (k : Nat) : Stmt := nth (sB (bnS 2)) k
theorem end_ok (n : Nat) (h : Ga g lo hi st) {x a : Int} (hx : four x) (ha : bitsOk a = true) {ρ : Locs} (e : ρ.lookup (S "self") = some (.loc g)) (w : Addr) (f : Int → Int) (hw : ∀ m, callV cfg2 (m + 61) (.con (.ref w)) [.tup [.tup [.int (lo x), .int (hi x)]]] = cutM (runF cfg2 (m + 60) w [.tup [.tup [.int (lo x), .int (hi x)]]]))
    (hf : ∀ m, G st (cutM (runF cfg2 (m + 60) w [.tup [.tup [.int (lo x), .int (hi x)]]])) (.int (f x))) (hb : bitsOk (f x) = true) :
    G st (((((((M.of (ρ.lookup (S "self"))).bind fun ov => getA cfg2 ov (S "flat")).bind fun ov => (methK cfg2 ov (S "domain_of")).bind fun mk => methApp cfg2 (n + 70) ov mk [.int x]).bind fun v => M.ret [v]).bind fun vs => callV cfg2 (n + 72) (.con (.ref w)) vs).bind fun b => M.of (binP .Mult (.int a) b))) (.int (a * f x)) := by
  refine G.bind (v := .int (f x)) (G.bind (G.bind (dom_ok n h hx e) G.ret) (G.cast (hw (n + 11)) (hf (n + 11)))) (G.of (mul_ok ha hb))

theorem bnd_a (n : Nat) {ρ : Locs} {x a : Int} (e1 e2 : PV) (st : St) (h1 : G st (((((((M.of (ρ.lookup (S "self"))).bind fun ov => getA cfg2 ov (S "flat")).bind fun ov => (methK cfg2 ov (S "domain_of")).bind fun mk => methApp cfg2 (n + 71) ov mk [.int x]).bind fun v => M.ret [v]).bind fun vs => callV cfg2 (n + 73) (.con (.ref 28)) vs).bind fun b => M.of (binP .Mult (.int a) b))) e1)
   (h2 : G st (((((((M.of (ρ.lookup (S "self"))).bind fun ov => getA cfg2 ov (S "flat")).bind fun ov => (methK cfg2 ov (S "domain_of")).bind fun mk => methApp cfg2 (n + 70) ov mk [.int x]).bind fun v => M.ret [v]).bind fun vs => callV cfg2 (n + 72) (.con (.ref 35)) vs).bind fun b => M.of (binP .Mult (.int a) b))) e2) :
    G st (exec cfg2 (n + 78) (sk 186) ((S "a", .int a) :: (S "x", .int x) :: ρ) (bnT 0)) (.next, (S "ends", .tup [e1, e2]) :: (S "a", .int a) :: (S "x", .int x) :: ρ) := by
  refine G.asg (by kernel_rfl) (G.pair (v := e1) (w := e2) (by kernel_rfl) ?_ ?_) (by kernel_rfl)
  · exact G.cast (by kernel_rfl) h1
  · exact G.cast (by kernel_rfl) h2
theorem best_tup (mx : Bool) (a b : Int) : bestA mx false [.tup [.int a, .int b]] = M.ret (.int (if mx then mxE a b else mnE a b)) := by cases mx <;> kernel_rfl
theorem bnd_b (n : Nat) {ρ : Locs} (a b p q : Int) (st : St) (h1 : ρ.lookup (S "low") = some (.int p)) (h2 : ρ.lookup (S "high") = some (.int q)) :
    G st (exec cfg2 (n + 77) (sk 186) ((S "ends", .tup [.int a, .int b]) :: ρ) (bnT 1)) (.next, (S "low", .int (p + mnE a b)) :: (S "high", .int (q + mxE a b)) :: (S "ends", .tup [.int a, .int b]) :: ρ) := by
  refine G.swap [S "low", S "high"] (by kernel_rfl) (G.pair (v := .int (p + mnE a b)) (w := .int (q + mxE a b)) (by kernel_rfl) ?_ ?_) rfl
  · refine G.cast (m' := (M.of (ρ.lookup (S "low"))).bind fun u => (bestA false false [.tup [.int a, .int b]]).bind fun b => M.of (binP .Add u b)) (by kernel_rfl) ?_
    rw [h1, best_tup]
    exact G.bind G.ret (G.bind G.ret G.ret)
  · refine G.cast (m' := (M.of (ρ.lookup (S "high"))).bind fun u => (bestA true false [.tup [.int a, .int b]]).bind fun b => M.of (binP .Add u b)) (by kernel_rfl) ?_
    rw [h2, best_tup]
    exact G.bind G.ret (G.bind G.ret G.ret)
theorem bnd_turn (n : Nat) (h : Ga g lo hi st) {x a p q : Int} (hx : four x) (ha : bitsOk a = true) (hl : bitsOk (lo x) = true) (hh : bitsOk (hi x) = true) {ρ : Locs} (e : ρ.lookup (S "self") = some (.loc g)) (ep : ρ.lookup (S "low") = some (.int p)) (eq : ρ.lookup (S "high") = some (.int q)) :
    ∃ ρ', (ρ'.lookup (S "self") = some (.loc g) ∧ ρ'.lookup (S "low") = some (.int (p + mnE (a * lo x) (a * hi x))) ∧ ρ'.lookup (S "high") = some (.int (q + mxE (a * lo x) (a * hi x)))) ∧
    G st ((assignT cfg2 (n + 79) (sk 186) ρ (sT (bnS 2)) (.tup [.int x, .int a])).bind fun ρ => execs cfg2 (n + 79) (sk 186) ρ (sB (bnS 2))) (.next, ρ') := by
  rw [show assignT cfg2 (n + 79) (sk 186) ρ (sT (bnS 2)) (.tup [.int x, .int a]) = M.ret ((S "a", .int a) :: (S "x", .int x) :: ρ) from by kernel_rfl]
  refine ⟨(S "low", .int (p + mnE (a * lo x) (a * hi x))) :: (S "high", .int (q + mxE (a * lo x) (a * hi x))) :: (S "ends", .tup [.int (a * lo x), .int (a * hi x)]) :: (S "a", .int a) :: (S "x", .int x) :: ρ, ⟨e, by rfl, by rfl⟩, ?_⟩
  show G st (execs cfg2 (n + 79) (sk 186) _ ((sB (bnS 2)).drop 0)) _
  exact G.next (L := sB (bnS 2)) 0 (by decide +kernel) (bnd_a n _ _ st (end_ok (n + 1) h hx ha e 28 lo (fun m => by kernel_rfl) (fun m => least_ok m _ _ st) hl) (end_ok n h hx ha e 35 hi (fun m => by kernel_rfl) (fun m => greatest_ok m _ _ st) hh)) (G.next (L := sB (bnS 2)) 1 (by decide +kernel) (bnd_b n _ _ p q st ep eq) (G.done (by decide +kernel)))
end
end Mine
end

section
namespace Mine
open PySem
set_option autoImplicit false
set_option maxRecDepth 100000
noncomputable def sm (f : Int × Int → Int) (l : List (Int × Int)) : Int := match l with
  | [] => 0
  | z :: r => f z + sm f r
theorem sm_filter (f : Int × Int → Int) (h : ∀ i, f (i, 0) = 0) : ∀ l : List (Int × Int), sm f (l.filter fun p => decide (p.2 ≠ 0)) = sm f l
  | [] => rfl
  | (i, a) :: l => by
    have ih := sm_filter f h l
    rw [List.filter_cons]
    dsimp only
    split
    · show f (i, a) + sm f _ = f (i, a) + sm f l
      rw [ih]
    · rename_i q
      have : a = 0 := by by_cases z : a = 0; exact z; exact absurd (decide_eq_true z) q
      subst this
      show sm f _ = f (i, 0) + sm f l
      rw [ih, h, Int.zero_add]
theorem G.loop {f : PV → Locs → M (Fl × Locs)} {st : St} (P : List PV → Locs → Prop) : ∀ {l : List PV} {ρ : Locs}, P l ρ → (∀ x xs ρ, P (x :: xs) ρ → ∃ ρ', G st (f x ρ) (.next, ρ') ∧ P xs ρ') → ∃ ρ', G st (loopF (β := Unit) f l ρ) (.next, ρ') ∧ P [] ρ'
  | [], ρ, h, _ => ⟨ρ, G.ret, h⟩
  | x :: xs, ρ, h, hf => by
    obtain ⟨ρ1, g1, p1⟩ := hf x xs ρ h
    obtain ⟨ρ2, g2, p2⟩ := G.loop P p1 hf
    exact ⟨ρ2, G.bind (m := f x ρ) g1 g2, p2⟩
noncomputable def mnA (lo hi : Int → Int) (z : Int × Int) : Int := mnE (z.2 * lo z.1) (z.2 * hi z.1)
noncomputable def mxA (lo hi : Int → Int) (z : Int × Int) : Int := mxE (z.2 * lo z.1) (z.2 * hi z.1)
section
variable {g : Nat} {lo hi : Int → Int} {st : St}
theorem bnd_loop (n : Nat) (h : Ga g lo hi st) (he : ∀ i, four i → bitsOk (lo i) = true ∧ bitsOk (hi i) = true) (r : Row) (hr : ∀ i, four i → bitsOk (r.at i) = true) {ρ : Locs} (e : ρ.lookup (S "self") = some (.loc g)) (ep : ρ.lookup (S "low") = some (.int r.c)) (eq : ρ.lookup (S "high") = some (.int r.c)) :
    ∃ ρ', G st (loopF (β := Unit) (fun x ρ => (assignT cfg2 (n + 79) (sk 186) ρ (sT (bnS 2)) x).bind fun ρ => execs cfg2 (n + 79) (sk 186) ρ (sB (bnS 2))) (tPV r.terms) ρ) (.next, ρ') ∧ ρ'.lookup (S "low") = some (.int (r.c + sm (mnA lo hi) r.all)) ∧ ρ'.lookup (S "high") = some (.int (r.c + sm (mxA lo hi) r.all)) := by
  have H := G.loop (st := st) (f := fun x ρ => (assignT cfg2 (n + 79) (sk 186) ρ (sT (bnS 2)) x).bind fun ρ => execs cfg2 (n + 79) (sk 186) ρ (sB (bnS 2))) (l := tPV r.terms)
    (fun xs ρ => ∃ (l : List (Int × Int)) (p q : Int), xs = tPV l ∧ (∀ z, z ∈ l → four z.1 ∧ z.2 = r.at z.1) ∧ (ρ.lookup (S "self") = some (.loc g) ∧ ρ.lookup (S "low") = some (.int p) ∧ ρ.lookup (S "high") = some (.int q)) ∧ p + sm (mnA lo hi) l = r.c + sm (mnA lo hi) r.terms ∧ q + sm (mxA lo hi) l = r.c + sm (mxA lo hi) r.terms)
    ⟨r.terms, r.c, r.c, rfl, (W_terms r).2, ⟨e, ep, eq⟩, rfl, rfl⟩ (by
      rintro x xs ρ ⟨l, p, q, h1, h2, ⟨e1, e2, e3⟩, h4, h5⟩
      cases l with
      | nil => cases h1
      | cons z l =>
        obtain ⟨hx, ha⟩ := h2 z (.head _)
        cases h1
        obtain ⟨ρ', ⟨f1, f2, f3⟩, g2⟩ := bnd_turn n h hx (show bitsOk z.2 = true by rw [ha]; exact hr _ hx) (he _ hx).1 (he _ hx).2 e1 e2 e3
        refine ⟨ρ', g2, l, _, _, rfl, fun z hz => h2 z (.tail _ hz), ⟨f1, f2, f3⟩, ?_, ?_⟩
        · rw [← h4, Int.add_assoc]; rfl
        · rw [← h5, Int.add_assoc]; rfl)
  obtain ⟨ρ', g1, l, p, q, h1, h2, h3, h4, h5⟩ := H
  obtain rfl : l = [] := by cases l with | nil => rfl | cons a b => cases h1
  have z1 : sm (mnA lo hi) r.terms = sm (mnA lo hi) r.all := sm_filter _ (fun i => by unfold mnA mnE; simp) _
  have z2 : sm (mxA lo hi) r.terms = sm (mxA lo hi) r.all := sm_filter _ (fun i => by unfold mxA mxE; simp) _
  refine ⟨ρ', g1, ?_, ?_⟩
  · rw [← z1, ← h4, h3.2.1]; exact congrArg _ (congrArg _ (Int.add_zero p).symm)
  · rw [← z2, ← h5, h3.2.2]; exact congrArg _ (congrArg _ (Int.add_zero q).symm)
theorem bnd_for (n : Nat) (r : Row) (v g : PV) : exec cfg2 (n + 80) (sk 186) [(S "low", .int r.c), (S "high", .int r.c), (S "total", r.sum), (S "value", v), (S "self", g)] (bnS 2) = loopF (β := Unit) (fun x ρ => (assignT cfg2 (n + 79) (sk 186) ρ (sT (bnS 2)) x).bind fun ρ => execs cfg2 (n + 79) (sk 186) ρ (sB (bnS 2))) (tPV r.terms) [(S "low", .int r.c), (S "high", .int r.c), (S "total", r.sum), (S "value", v), (S "self", g)] := by kernel_rfl
theorem bounds_ok (n : Nat) {v : PV} {r : Row} (hv : Thing v r) (h : Ga g lo hi st) (he : ∀ i, four i → bitsOk (lo i) = true ∧ bitsOk (hi i) = true) (hr : ∀ i, four i → bitsOk (r.at i) = true) :
    G st (cutM (runF cfg2 (n + 90) 186 [.loc g, v])) (.tup [.int (r.c + sm (mnA lo hi) r.all), .int (r.c + sm (mxA lo hi) r.all)]) := by
  obtain ⟨ρ', g1, e1, e2⟩ := bnd_loop (n + 6) h he r hr (ρ := [(S "low", .int r.c), (S "high", .int r.c), (S "total", r.sum), (S "value", v), (S "self", .loc g)]) rfl rfl rfl
  refine G.cut (G.run (ρ' := ρ') [S "self", S "value"] (by kernel_rfl) [(S "value", v), (S "self", .loc g)] rfl rfl ?_) fun _ _ => rfl
  refine G.next (L := bd 186) (ρ' := [(S "total", r.sum), (S "value", v), (S "self", .loc g)]) 0 (by decide +kernel) (G.asg (v := r.sum) (by kernel_rfl) (G.cast (m' := cutM (runF cfg2 (n + 85) 146 [v])) (by kernel_rfl) (sum_ok (n + 25) hv st)) (by kernel_rfl)) ?_
  refine G.next (L := bd 186) (ρ' := [(S "low", .int r.c), (S "high", .int r.c), (S "total", r.sum), (S "value", v), (S "self", .loc g)]) 1 (by decide +kernel) (G.cast (by kernel_rfl) G.ret) ?_
  refine G.next (L := bd 186) 2 (by decide +kernel) (G.cast (bnd_for (n + 6) r v _) g1) ?_
  refine G.stop (L := bd 186) 3 (by decide +kernel) (G.retn (by kernel_rfl) (G.pair (v := .int (r.c + sm (mnA lo hi) r.all)) (w := .int (r.c + sm (mxA lo hi) r.all)) (by kernel_rfl) (G.cast (m' := M.of (ρ'.lookup (S "low"))) (by kernel_rfl) (G.of e1)) (G.cast (m' := M.of (ρ'.lookup (S "high"))) (by kernel_rfl) (G.of e2))))
end
end Mine
end

section
namespace Mine
open PySem
set_option autoImplicit false
set_option maxRecDepth 100000
theorem app_eq {C : Cfg} (n : Nat) {k : Nat} {l : List PV} {v : PV} {st : St} (e : st.objs k = some (.list l)) (hl : l.length < 1000) : methApp C (n + 1) (.loc k) .append [v] st = some (.ok .none, st.put k (some (.list (l ++ [v])))) := by
  show M.bind (getO k) _ st = _
  unfold M.bind getO
  rw [e]
  exact (congrFun (if_pos hl) st).trans rfl
theorem appK_eq {k : Nat} {l : List PV} {st : St} (e : st.objs k = some (.list l)) : methK cfg2 (.loc k) (S "append") st = some (.ok .append, st) := by
  show M.bind (getO k) _ st = _
  unfold M.bind getO
  rw [e]
  kernel_rfl
/-- the statement o.append(..) -/
theorem Ok.append {n k : Nat} {l : List PV} {st : St} {ρ : Locs} {m0 : M PV} {m : M (List PV)} {Q : Fl × Locs → St → Prop} (e0 : m0 st = some (.ok (.loc k), st)) (e : st.objs k = some (.list l)) (hl : l.length < 1000) (hm : Ok m st fun vs st1 => ∃ v, vs = [v] ∧ st1.objs k = some (.list l) ∧ Q (.next, ρ) (st1.put k (some (.list (l ++ [v]))))) :
    Ok ((m0.bind fun ov => (methK cfg2 ov (S "append")).bind fun mk => m.bind fun vs => methApp cfg2 (n + 1) ov mk vs).bind fun v => if oneV v = true then M.ret (.next, ρ) else M.fail) st Q := by
  refine Ok.bind (P := fun r st2 => r = .none ∧ Q (.next, ρ) st2) (Ok.bind (P := fun r st1 => r = .loc k ∧ st1 = st) (Ok.eq e0 ⟨rfl, rfl⟩) ?_) ?_
  · rintro _ _ ⟨rfl, rfl⟩
    rename_i st
    refine Ok.bind (m := methK cfg2 (.loc k) (S "append")) (P := fun r st1 => r = .append ∧ st1 = st) (Ok.eq (appK_eq e) ⟨rfl, rfl⟩) ?_
    rintro _ _ ⟨rfl, rfl⟩
    refine Ok.bind hm ?_
    rintro _ st1 ⟨v, rfl, e1, q⟩
    exact Ok.eq (app_eq n e1 hl) ⟨rfl, q⟩
  · rintro _ st2 ⟨rfl, q⟩
    exact .ret q
noncomputable def bt (m p : Int) : Int := Int.fmod (Int.fdiv m (2 ^ p.toNat)) 2
theorem bt_01 (m p : Int) : bt m p = 0 ∨ bt m p = 1 := by
  have h0 := Int.fmod_nonneg_of_pos (Int.fdiv m (2 ^ p.toNat)) (b := 2) (by decide)
  have h1 := Int.fmod_lt_of_pos (Int.fdiv m (2 ^ p.toNat)) (b := 2) (by decide)
  unfold bt
  omega
noncomputable def vE (lo hi : Int → Int) (m p : Int) : Int := if bt m p = 0 then lo p else hi p
theorem two_item {b : Int} (h : b = 0 ∨ b = 1) (x y : Int) : itemP (.tup [.int x, .int y]) (.int b) = M.ret (.int (if b = 0 then x else y)) := by
  rcases h with rfl | rfl <;> kernel_rfl
noncomputable abbrev rcS : Stmt := nth (sB (nth (bd 297) 1)) 0
noncomputable abbrev rcL : PySem.Expr := xA (xA (xA (sE rcS) 1) 1) 1
noncomputable abbrev rcK : Scope := compScope (sk 297) (cS rcL)
section
variable {lo hi : Int → Int} {st : St} {e : Nat} {E : List PV} {d : Row}
theorem rch_elt (n : Nat) {ρ : Locs} {m p : Int} (hp : four p) (h1 : ρ.lookup (S "row") = some d.pv) (h2 : ρ.lookup (S "ends") = some (.loc e)) (h3 : ρ.lookup (S "mask") = some (.int m)) (ho : st.objs e = some (.list E)) (hk : e < st.next) (hE : ∀ i, four i → idx? E i = some (.tup [.int (lo i), .int (hi i)])) (hd : bitsOk (d.at p) = true) (hv : bitsOk (vE lo hi m p) = true) :
    G st (evalE cfg2 (n + 70) rcK ((S "place", .int p) :: ρ) (xA rcL 0)) (.int (d.at p * vE lo hi m p)) := by
  refine G.cast (m' := ((M.of (ρ.lookup (S "row"))).bind fun ov => itemP ov (.int p)).bind fun a => (((M.of (ρ.lookup (S "ends"))).bind fun ov => itemP ov (.int p)).bind fun ov => (((M.of (ρ.lookup (S "mask"))).bind fun a => (M.of (binP .Pow (.int 2) (.int p))).bind fun b => M.of (binP .FloorDiv a b)).bind fun a => M.of (binP .Mod a (.int 2))).bind fun iv => itemP ov iv).bind fun b => M.of (binP .Mult a b)) (by kernel_rfl) ?_
  rw [h1, h2, h3]
  have hb : ((M.of (binP .Pow (.int 2) (.int p))).bind fun b => M.of (binP .FloorDiv (.int m) b)) = M.ret (.int (Int.fdiv m (2 ^ p.toNat))) := by
    rcases hp with rfl | rfl | rfl | rfl <;> kernel_rfl
  have ha : itemP d.pv (.int p) = M.ret (.int (d.at p)) := by
    rcases hp with rfl | rfl | rfl | rfl <;> kernel_rfl
  refine G.bind (v := .int (d.at p)) (G.bind G.ret (G.cast ha G.ret)) (G.bind (v := .int (vE lo hi m p)) (G.bind (v := .tup [.int (lo p), .int (hi p)]) (G.bind G.ret (G.get ho hk (G.cast (m' := M.of (idx? E p)) (by kernel_rfl) (G.of (hE p hp))))) (G.bind (v := .int (bt m p)) (G.bind (v := .int (Int.fdiv m (2 ^ p.toNat))) (G.bind G.ret (G.cast hb G.ret)) G.ret) (G.cast (two_item (bt_01 m p) _ _) G.ret))) (G.of (mul_ok hd hv)))
noncomputable def gR (d : Row) (lo hi : Int → Int) (m : Int) (x : PV) : List PV := match x with
  | .int p => [.int (d.at p * vE lo hi m p)]
  | _ => []
noncomputable def rch (d : Row) (lo hi : Int → Int) (m : Int) : Int := d.c + (((0 + d.at 0 * vE lo hi m 0) + d.at 1 * vE lo hi m 1) + d.at 2 * vE lo hi m 2 + d.at 3 * vE lo hi m 3)
theorem rch_comp (n : Nat) {ρ : Locs} {m : Int} (h1 : ρ.lookup (S "row") = some d.pv) (h2 : ρ.lookup (S "ends") = some (.loc e)) (h3 : ρ.lookup (S "mask") = some (.int m)) (ho : st.objs e = some (.list E)) (hk : e < st.next) (hE : ∀ i, four i → idx? E i = some (.tup [.int (lo i), .int (hi i)])) (hd : ∀ p, four p → bitsOk (d.at p) = true) (hv : ∀ p, four p → bitsOk (vE lo hi m p) = true) :
    G st (evalE cfg2 (n + 72) (sk 297) ρ rcL) (.lst [.int (d.at 0 * vE lo hi m 0), .int (d.at 1 * vE lo hi m 1), .int (d.at 2 * vE lo hi m 2), .int (d.at 3 * vE lo hi m 3)]) := by
  refine G.lcomp (v := .rng 0 4) (l := [.int 0, .int 1, .int 2, .int 3]) (gR d lo hi m) (by kernel_rfl) (G.cast (m' := M.ret (.val (.rng 0 4))) (by kernel_rfl) G.ret) (fun b => by kernel_rfl) (by decide) fun k x hx => ?_
  have hf : ∃ p, x = .int p ∧ four p := by
    simp only [List.mem_cons, List.not_mem_nil, or_false] at hx
    rcases hx with rfl | rfl | rfl | rfl
    · exact ⟨_, rfl, .inl rfl⟩
    · exact ⟨_, rfl, .inr (.inl rfl)⟩
    · exact ⟨_, rfl, .inr (.inr (.inl rfl))⟩
    · exact ⟨_, rfl, .inr (.inr (.inr rfl))⟩
  obtain ⟨p, rfl, hp⟩ := hf
  refine ⟨Nat.le_refl _, Tn.turn (b := true) (S "place") (by kernel_rfl) (strip_none (by kernel_rfl)) (G.cast (m' := M.ret true) (by kernel_rfl) G.ret) fun _ => ?_⟩
  exact rch_elt n hp ((strip_free (by kernel_rfl)).trans h1) ((strip_free (by kernel_rfl)).trans h2) ((strip_free (by kernel_rfl)).trans h3) ho hk hE (hd p hp) (hv p hp)
end
end Mine
end

section
namespace Mine
open PySem
set_option autoImplicit false
set_option maxRecDepth 100000
noncomputable def i16 : List Int := [0, 1, 2, 3, 4, 5, 6, 7, 8, 9, 10, 11, 12, 13, 14, 15]
noncomputable abbrev rcR (e k : Nat) (d : Row) : Locs := [(S "found", .loc k), (S "ends", .loc e), (S "row", d.pv)]
section
variable {lo hi : Int → Int} {st : St} {e : Nat} {E : List PV} {d : Row}
/-- the loop's state -/
noncomputable def LpR (lo hi : Int → Int) (d : Row) (e k : Nat) (st : St) (xs : List PV) (ρ : Locs) (st' : St) : Prop :=
  (ρ.lookup (S "found") = some (.loc k) ∧ ρ.lookup (S "ends") = some (.loc e) ∧ ρ.lookup (S "row") = some d.pv) ∧ k < st'.next ∧ Fr st st' ∧ ∃ l acc : List Int, xs = l.map .int ∧ st'.objs k = some (.list (acc.map .int)) ∧ acc ++ l.map (rch d lo hi) = i16.map (rch d lo hi)
theorem rch_turn (n : Nat) {k : Nat} (hke : st.next ≤ k) (ho : st.objs e = some (.list E)) (he : e < st.next) (hE : ∀ i, four i → idx? E i = some (.tup [.int (lo i), .int (hi i)])) (hd : ∀ p, four p → bitsOk (d.at p) = true) (hv : ∀ m p, four p → bitsOk (vE lo hi m p) = true) (x : PV) (xs : List PV) (ρ : Locs) (st1 : St) (h : LpR lo hi d e k st (x :: xs) ρ st1) :
    Ok ((assignT cfg2 (n + 79) (sk 297) ρ (sT (nth (bd 297) 1)) x).bind fun ρ => execs cfg2 (n + 79) (sk 297) ρ (sB (nth (bd 297) 1))) st1 fun r st2 => r.1 = .next ∧ LpR lo hi d e k st xs r.2 st2 := by
  obtain ⟨⟨e1, e2, e3⟩, hk, F, l, acc, hx, hok, hacc⟩ := h
  cases l with
  | nil => cases hx
  | cons m l =>
  cases hx
  have hlen : acc.length + (l.length + 1) = 16 := by
    have := congrArg List.length hacc
    simpa using (show (acc ++ (m :: l).map (rch d lo hi)).length = 16 from this.trans (by rw [List.length_map]; rfl))
  rw [show assignT cfg2 (n + 79) (sk 297) ρ (sT (nth (bd 297) 1)) (.int m) = M.ret ((S "mask", .int m) :: ρ) from by kernel_rfl]
  show Ok (execs cfg2 (n + 79) (sk 297) _ ((sB (nth (bd 297) 1)).drop 0)) st1 _
  refine Ok.stmt 0 (by decide +kernel) (Ok.cast (m' := ((M.of (ρ.lookup (S "found"))).bind fun ov => (methK cfg2 ov (S "append")).bind fun mk => ((((M.of (ρ.lookup (S "row"))).bind fun ov => itemP ov (.int 4)).bind fun a => (((evalE cfg2 (n + 72) (sk 297) ((S "mask", .int m) :: ρ) rcL).bind fun v => M.ret [v]).bind fun vs => callV cfg2 (n + 73) (.con (.builtin "sum")) vs).bind fun b => M.of (binP .Add a b)).bind fun v => M.ret [v]).bind fun vs => methApp cfg2 (n + 75 + 1) ov mk vs).bind fun v => if oneV v = true then M.ret (.next, (S "mask", .int m) :: ρ) else M.fail) (by kernel_rfl) (Ok.append (by rw [e1]; rfl) hok (by rw [List.length_map]; omega) ?_))
  refine Ok.g (v := [.int (rch d lo hi m)]) ?_ fun st2 F2 => ⟨_, rfl, F2.get hok hk, ?_⟩
  · rw [e3]
    refine G.bind (v := .int (rch d lo hi m)) (G.bind (v := .int d.c) (G.cast (m' := M.ret (.int d.c)) (by kernel_rfl) G.ret) (G.bind (G.bind (G.bind (rch_comp n e3 e2 rfl (F.get ho he) (Nat.lt_of_lt_of_le he F.le) hE hd (hv m)) G.ret) (G.cast (m' := M.ret (.int (((0 + d.at 0 * vE lo hi m 0) + d.at 1 * vE lo hi m 1) + d.at 2 * vE lo hi m 2 + d.at 3 * vE lo hi m 3))) (by kernel_rfl) G.ret)) G.ret)) G.ret
  · exact Ok.done (by decide +kernel) ⟨rfl, ⟨e1, e2, e3⟩, Nat.lt_of_lt_of_le hk F2.le, (F.trans F2).put hke, l, acc ++ [rch d lo hi m], rfl, by rw [List.map_append]; exact St.put_at, by rw [← hacc, List.append_assoc]; rfl⟩
theorem best_loc (mx : Bool) {k : Nat} {l : List Int} (ho : st.objs k = some (.list (l.map .int))) (hk : k < st.next) {m : Int} (hm : m ∈ l) (h : if mx then ∀ y, y ∈ l → y ≤ m else ∀ y, y ∈ l → m ≤ y) : G st (bestA mx false [.loc k]) (.int m) := by
  refine G.cast (m' := ((getO k).bind fun o => M.of (listO o)).bind fun l => M.of (bestL mx l)) (by kernel_rfl) (G.bind (v := l.map .int) (G.get ho hk G.ret) ?_)
  cases mx
  · exact G.cast (m' := bestA false false [.lst (l.map .int)]) (by kernel_rfl) (G.cast (best_min false hm h) G.ret)
  · exact G.cast (m' := bestA true false [.lst (l.map .int)]) (by kernel_rfl) (G.cast (best_max false hm h) G.ret)
theorem reached_ok (n : Nat) (ho : st.objs e = some (.list E)) (he : e < st.next) (hE : ∀ i, four i → idx? E i = some (.tup [.int (lo i), .int (hi i)])) (hd : ∀ p, four p → bitsOk (d.at p) = true) (hv : ∀ p, four p → bitsOk (lo p) = true ∧ bitsOk (hi p) = true) {a b : Int}
    (ha : a ∈ i16.map (rch d lo hi)) (ha' : ∀ y, y ∈ i16.map (rch d lo hi) → a ≤ y) (hb : b ∈ i16.map (rch d lo hi)) (hb' : ∀ y, y ∈ i16.map (rch d lo hi) → y ≤ b) :
    Ok (cutM (runF cfg2 (n + 90) 297 [d.pv, .loc e])) st fun v st' => v = .tup [.int a, .int b] ∧ Fr st st' := by
  refine Ok.cut (Ok.run [S "row", S "ends"] (by kernel_rfl) [(S "ends", .loc e), (S "row", d.pv)] rfl rfl ?_)
  refine Ok.stmt 0 (by decide +kernel) (Ok.cast (m' := (newO (.list [])).bind fun k => M.ret (.next, rcR e k d)) (by kernel_rfl) (Ok.newO (f := fun k => M.ret (Fl.next, rcR e k d)) (.ret ?_)))
  show Ok (execs cfg2 (n + 88) (sk 297) (rcR e st.next d) ((bd 297).drop 1)) _ _
  refine Ok.stmt 1 (by decide +kernel) (Ok.cast (m' := loopF (β := Unit) (fun x ρ => (assignT cfg2 (n + 86) (sk 297) ρ (sT (nth (bd 297) 1)) x).bind fun ρ => execs cfg2 (n + 86) (sk 297) ρ (sB (nth (bd 297) 1))) (i16.map .int) (rcR e st.next d)) (by kernel_rfl) ((Ok.loopF (LpR lo hi d e st.next st) ?_ fun x xs ρ st' h => rch_turn (n + 7) (Nat.le_refl _) ho he hE hd (fun m p hp => ?_) x xs ρ st' h).mono ?_))
  · exact ⟨⟨by rfl, by rfl, by rfl⟩, Nat.lt_succ_self _, St.new_fr, i16, [], rfl, St.new_at, rfl⟩
  · unfold vE; split
    · exact (hv p hp).1
    · exact (hv p hp).2
  · rintro ⟨fl, ρ⟩ st1 ⟨rfl, ⟨e1, e2, e3⟩, hk, F, l, acc, hx, hok, hacc⟩
    obtain rfl : l = [] := by cases l with | nil => rfl | cons a b => cases hx
    rw [List.map_nil, List.append_nil] at hacc
    subst hacc
    show Ok (execs cfg2 (n + 87) (sk 297) ρ ((bd 297).drop 2)) _ _
    refine Ok.stopG (ρ' := ρ) (v := .tup [.int a, .int b]) 2 (by decide +kernel) (G.retn (by kernel_rfl) (G.pair (v := .int a) (w := .int b) (by kernel_rfl) (G.cast (m' := ((M.of (ρ.lookup (S "found"))).bind fun v => M.ret [v]).bind fun vs => bestA false false vs) (by kernel_rfl) ?_) (G.cast (m' := ((M.of (ρ.lookup (S "found"))).bind fun v => M.ret [v]).bind fun vs => bestA true false vs) (by kernel_rfl) ?_))) fun st2 F2 => ⟨rfl, (F.trans F2).drop⟩
    · rw [e1]
      exact G.bind (G.bind G.ret G.ret) (best_loc false hok hk ha ha')
    · rw [e1]
      exact G.bind (G.bind G.ret G.ret) (best_loc true hok hk hb hb')
end
theorem mul_mn (a x y : Int) : mnE (a * x) (a * y) ≤ a * x ∧ mnE (a * x) (a * y) ≤ a * y ∧ a * x ≤ mxE (a * x) (a * y) ∧ a * y ≤ mxE (a * x) (a * y) := by
  unfold mnE mxE
  refine ⟨?_, ?_, ?_, ?_⟩ <;> split <;> omega
theorem bits16 : ∀ b0 b1 b2 b3 : Bool, ∃ m, m ∈ i16 ∧ bt m 0 = (if b0 then 1 else 0) ∧ bt m 1 = (if b1 then 1 else 0) ∧ bt m 2 = (if b2 then 1 else 0) ∧ bt m 3 = (if b3 then 1 else 0) := by
  intro b0 b1 b2 b3
  refine ⟨(if b0 then 1 else 0) + (if b1 then 2 else 0) + (if b2 then 4 else 0) + (if b3 then 8 else 0), ?_⟩
  revert b0 b1 b2 b3
  unfold i16 bt
  decide +kernel
theorem pick_mn (a x y : Int) : ∃ b : Bool, ∀ m p (lo hi : Int → Int), lo p = x → hi p = y → bt m p = (if b then 1 else 0) → a * vE lo hi m p = mnE (a * x) (a * y) := by
  refine ⟨decide (a * y < a * x), fun m p lo hi h1 h2 h => ?_⟩
  unfold vE mnE
  rw [h]
  by_cases q : a * y < a * x
  · rw [if_pos q]; simp [q, h2]
  · rw [if_neg q]; simp [q, h1]
theorem pick_mx (a x y : Int) : ∃ b : Bool, ∀ m p (lo hi : Int → Int), lo p = x → hi p = y → bt m p = (if b then 1 else 0) → a * vE lo hi m p = mxE (a * x) (a * y) := by
  refine ⟨decide (a * x < a * y), fun m p lo hi h1 h2 h => ?_⟩
  unfold vE mxE
  rw [h]
  by_cases q : a * x < a * y
  · rw [if_pos q]; simp [q, h2]
  · rw [if_neg q]; simp [q, h1]
theorem sm4 (f : Int × Int → Int) (d : Row) : sm f d.all = f (0, d.at 0) + (f (1, d.at 1) + (f (2, d.at 2) + (f (3, d.at 3) + 0))) := rfl
theorem vE_le (d : Row) (lo hi : Int → Int) (m p : Int) : mnA lo hi (p, d.at p) ≤ d.at p * vE lo hi m p ∧ d.at p * vE lo hi m p ≤ mxA lo hi (p, d.at p) := by
  have h := mul_mn (d.at p) (lo p) (hi p)
  show mnE (d.at p * lo p) (d.at p * hi p) ≤ _ ∧ _ ≤ mxE (d.at p * lo p) (d.at p * hi p)
  unfold vE
  split <;> omega
theorem eq4 (c a0 a1 a2 a3 : Int) : c + (((0 + a0) + a1) + a2 + a3) = c + (a0 + (a1 + (a2 + (a3 + 0)))) := by omega
theorem le4 {c a0 a1 a2 a3 b0 b1 b2 b3 : Int} (h0 : a0 ≤ b0) (h1 : a1 ≤ b1) (h2 : a2 ≤ b2) (h3 : a3 ≤ b3) : c + (a0 + (a1 + (a2 + (a3 + 0)))) ≤ c + (b0 + (b1 + (b2 + (b3 + 0)))) := by omega
theorem rch4 (d : Row) (lo hi : Int → Int) (m : Int) : rch d lo hi m = d.c + (d.at 0 * vE lo hi m 0 + (d.at 1 * vE lo hi m 1 + (d.at 2 * vE lo hi m 2 + (d.at 3 * vE lo hi m 3 + 0)))) := eq4 _ _ _ _ _
theorem ends_mn (d : Row) (lo hi : Int → Int) : d.c + sm (mnA lo hi) d.all ∈ i16.map (rch d lo hi) ∧ ∀ y, y ∈ i16.map (rch d lo hi) → d.c + sm (mnA lo hi) d.all ≤ y := by
  rw [sm4]
  refine ⟨?_, fun y hy => ?_⟩
  · obtain ⟨b0, h0⟩ := pick_mn (d.at 0) (lo 0) (hi 0)
    obtain ⟨b1, h1⟩ := pick_mn (d.at 1) (lo 1) (hi 1)
    obtain ⟨b2, h2⟩ := pick_mn (d.at 2) (lo 2) (hi 2)
    obtain ⟨b3, h3⟩ := pick_mn (d.at 3) (lo 3) (hi 3)
    obtain ⟨m, hm, q0, q1, q2, q3⟩ := bits16 b0 b1 b2 b3
    refine List.mem_map.mpr ⟨m, hm, ?_⟩
    rw [rch4, h0 m 0 lo hi rfl rfl q0, h1 m 1 lo hi rfl rfl q1, h2 m 2 lo hi rfl rfl q2, h3 m 3 lo hi rfl rfl q3]
    rfl
  · obtain ⟨m, hm, rfl⟩ := List.mem_map.mp hy
    rw [rch4]
    exact le4 (vE_le d lo hi m 0).1 (vE_le d lo hi m 1).1 (vE_le d lo hi m 2).1 (vE_le d lo hi m 3).1
theorem ends_mx (d : Row) (lo hi : Int → Int) : d.c + sm (mxA lo hi) d.all ∈ i16.map (rch d lo hi) ∧ ∀ y, y ∈ i16.map (rch d lo hi) → y ≤ d.c + sm (mxA lo hi) d.all := by
  rw [sm4]
  refine ⟨?_, fun y hy => ?_⟩
  · obtain ⟨b0, h0⟩ := pick_mx (d.at 0) (lo 0) (hi 0)
    obtain ⟨b1, h1⟩ := pick_mx (d.at 1) (lo 1) (hi 1)
    obtain ⟨b2, h2⟩ := pick_mx (d.at 2) (lo 2) (hi 2)
    obtain ⟨b3, h3⟩ := pick_mx (d.at 3) (lo 3) (hi 3)
    obtain ⟨m, hm, q0, q1, q2, q3⟩ := bits16 b0 b1 b2 b3
    refine List.mem_map.mpr ⟨m, hm, ?_⟩
    rw [rch4, h0 m 0 lo hi rfl rfl q0, h1 m 1 lo hi rfl rfl q1, h2 m 2 lo hi rfl rfl q2, h3 m 3 lo hi rfl rfl q3]
    rfl
  · obtain ⟨m, hm, rfl⟩ := List.mem_map.mp hy
    rw [rch4]
    exact le4 (vE_le d lo hi m 0).2 (vE_le d lo hi m 1).2 (vE_le d lo hi m 2).2 (vE_le d lo hi m 3).2
end Mine
end

section
namespace Mine
open PySem
set_option autoImplicit false
set_option maxRecDepth 100000
noncomputable abbrev cmW : Stmt := nth (sB (nth (bd 158) 1)) 1
noncomputable abbrev cmB : Stmt := nth (sB cmW) 0
noncomputable def ten40 : Nat := 10 ^ 40
theorem cm_test (n : Nat) {ρ : Locs} {v : Nat} {st : St} (h : ρ.lookup (S "rest") = some (.int v)) : G st (evalT cfg2 (n + 70) (sk 158) ρ (sE cmW)) (decide (0 < (v : Int))) := by
  refine G.cast (m' := (M.of (ρ.lookup (S "rest"))).bind fun a => (cmpP .Gt a (.int 0)).bind fun v => M.of (truthP v)) (by kernel_rfl) ?_
  rw [h]
  exact G.bind G.ret (G.bind (v := .bool (decide (0 < (v : Int)))) G.ret G.ret)
theorem cm_step (n : Nat) {ρ : Locs} {u v : Nat} {st : St} (hv : v ≠ 0) (h1 : ρ.lookup (S "found") = some (.int u)) (h2 : ρ.lookup (S "rest") = some (.int v)) : G st (execs cfg2 (n + 70) (sk 158) ρ ((sB cmW).drop 0)) (.next, (S "found", .int v) :: (S "rest", .int (u % v : Nat)) :: ρ) := by
  refine G.next (L := sB cmW) 0 (by decide +kernel) (G.swap [S "found", S "rest"] (by kernel_rfl) (G.pair (v := .int v) (w := .int (u % v : Nat)) (by kernel_rfl) (G.cast (m' := M.of (ρ.lookup (S "rest"))) (by kernel_rfl) (G.of h2)) (G.cast (m' := (M.of (ρ.lookup (S "found"))).bind fun a => (M.of (ρ.lookup (S "rest"))).bind fun b => M.of (binP .Mod a b)) (by kernel_rfl) ?_)) rfl) (G.done (by decide +kernel))
  rw [h1, h2]
  refine G.bind G.ret (G.bind G.ret (G.of ?_))
  show (if (v : Int) = 0 then none else some (PV.int (Int.fmod u v))) = _
  rw [if_neg (by omega), Int.fmod_eq_emod_of_nonneg _ (Int.natCast_nonneg v), Int.natCast_emod]
theorem cm_while (n : Nat) {st : St} : ∀ (K v u : Nat) (ρ : Locs), v < K → ρ.lookup (S "found") = some (.int u) → ρ.lookup (S "rest") = some (.int v) →
    ∃ ρ', G st (whileF (fun ρ => evalT cfg2 (n + 70) (sk 158) ρ (sE cmW)) (fun ρ => execs cfg2 (n + 70) (sk 158) ρ (sB cmW)) K ρ) (.next, ρ') ∧ ρ'.lookup (S "found") = some (.int (Nat.gcd u v : Nat))
  | 0, v, u, ρ, h, _, _ => absurd h (Nat.not_lt_zero _)
  | K + 1, v, u, ρ, h, h1, h2 => by
    by_cases q : v = 0
    · subst q
      refine ⟨ρ, G.bind (m := evalT cfg2 (n + 70) (sk 158) ρ (sE cmW)) (cm_test n h2) G.ret, ?_⟩
      rw [h1, Nat.gcd_zero_right]
    · have hlt := Nat.mod_lt u (Nat.pos_of_ne_zero q)
      obtain ⟨ρ', g, e⟩ := cm_while n (st := st) K (u % v) v ((S "found", .int v) :: (S "rest", .int (u % v : Nat)) :: ρ) (by omega) rfl rfl
      refine ⟨ρ', G.bind (m := evalT cfg2 (n + 70) (sk 158) ρ (sE cmW)) (cm_test n h2) ?_, ?_⟩
      · rw [decide_eq_true (show 0 < (v : Int) by omega)]
        exact G.bind (m := execs cfg2 (n + 70) (sk 158) ρ (sB cmW)) (cm_step n q h1 h2) g
      · rw [e, Nat.gcd_comm u v, Nat.gcd_rec v u, Nat.gcd_comm]
theorem ab_natAbs (a : Int) : ab a = (a.natAbs : Int) := by unfold ab; split <;> omega
noncomputable def gcdL (g : Nat) (l : List Int) : Nat := match l with
  | [] => g
  | a :: r => gcdL (Nat.gcd a.natAbs g) r
theorem gcd_lt {u v B : Nat} (hu : u < B) (hv : v < B) : Nat.gcd u v < B := by
  by_cases q : u = 0
  · subst q; rw [Nat.gcd_zero_left]; exact hv
  · exact Nat.lt_of_le_of_lt (Nat.gcd_le_left v (Nat.pos_of_ne_zero q)) hu
theorem cm_loop (n : Nat) {st : St} : ∀ (l : List Int) (g : Nat) (ρ : Locs), (∀ a, a ∈ l → a.natAbs < ten40) → g < ten40 → ρ.lookup (S "found") = some (.int g) →
    ∃ ρ', G st (loopF (β := Unit) (fun x ρ => (assignT cfg2 (n + 79) (sk 158) ρ (sT (nth (bd 158) 1)) x).bind fun ρ => execs cfg2 (n + 79) (sk 158) ρ (sB (nth (bd 158) 1))) (l.map .int) ρ) (.next, ρ') ∧ ρ'.lookup (S "found") = some (.int (gcdL g l : Nat))
  | [], g, ρ, _, _, h => ⟨ρ, G.ret, h⟩
  | a :: l, g, ρ, hl, hg, h => by
    have ha := hl a (.head _)
    obtain ⟨ρ1, g1, e1⟩ := cm_while (n + 6) (st := st) ten40 g a.natAbs ((S "found", .int (a.natAbs : Nat)) :: (S "rest", .int g) :: (S "a", .int a) :: ρ) hg rfl rfl
    obtain ⟨ρ2, g2, e2⟩ := cm_loop n (st := st) l (Nat.gcd a.natAbs g) ρ1 (fun b hb => hl b (.tail _ hb)) (gcd_lt ha hg) e1
    refine ⟨ρ2, G.bind (m := (assignT cfg2 (n + 79) (sk 158) ρ (sT (nth (bd 158) 1)) (.int a)).bind fun ρ => execs cfg2 (n + 79) (sk 158) ρ (sB (nth (bd 158) 1))) (v := (.next, ρ1)) ?_ g2, e2⟩
    rw [show assignT cfg2 (n + 79) (sk 158) ρ (sT (nth (bd 158) 1)) (.int a) = M.ret ((S "a", .int a) :: ρ) from by kernel_rfl]
    show G st (execs cfg2 (n + 79) (sk 158) _ ((sB (nth (bd 158) 1)).drop 0)) _
    refine G.next (L := sB (nth (bd 158) 1)) 0 (by decide +kernel) (G.swap [S "found", S "rest"] (by kernel_rfl) (G.pair (v := .int (a.natAbs : Nat)) (w := .int g) (by kernel_rfl) (G.cast (m' := M.ret (.int (ab a))) (by kernel_rfl) (by rw [ab_natAbs]; exact G.ret)) (G.cast (m' := M.of (ρ.lookup (S "found"))) (by kernel_rfl) (G.of h))) rfl) ?_
    refine G.next (L := sB (nth (bd 158) 1)) 1 (by decide +kernel) (G.cast (m' := Mine.noExc (whileF (fun ρ => evalT cfg2 (n + 76) (sk 158) ρ (sE cmW)) (fun ρ => execs cfg2 (n + 76) (sk 158) ρ (sB cmW)) ten40 ((S "found", .int (a.natAbs : Nat)) :: (S "rest", .int g) :: (S "a", .int a) :: ρ))) (by kernel_rfl) (G.noExc ?_)) (G.done (by decide +kernel))
    exact g1
theorem common_ok (n : Nat) {st : St} {l : List Int} (hl : ∀ a, a ∈ l → a.natAbs < ten40) : G st (cutM (runF cfg2 (n + 90) 158 [.lst (l.map .int)])) (.int (gcdL 0 l : Nat)) := by
  obtain ⟨ρ', g1, e1⟩ := cm_loop (n + 7) (st := st) l 0 [(S "found", .int 0), (S "numbers", .lst (l.map .int))] hl (by decide +kernel) rfl
  refine G.cut (G.run (ρ' := ρ') [S "numbers"] (by kernel_rfl) [(S "numbers", .lst (l.map .int))] rfl rfl ?_) fun _ _ => rfl
  refine G.next (L := bd 158) (ρ' := [(S "found", .int 0), (S "numbers", .lst (l.map .int))]) 0 (by decide +kernel) (G.cast (by kernel_rfl) G.ret) ?_
  refine G.next (L := bd 158) 1 (by decide +kernel) (G.cast (m' := loopF (β := Unit) (fun x ρ => (assignT cfg2 (n + 86) (sk 158) ρ (sT (nth (bd 158) 1)) x).bind fun ρ => execs cfg2 (n + 86) (sk 158) ρ (sB (nth (bd 158) 1))) (l.map .int) [(S "found", .int 0), (S "numbers", .lst (l.map .int))]) (by kernel_rfl) g1) ?_
  exact G.stop (L := bd 158) 2 (by decide +kernel) (G.retn (by kernel_rfl) (G.cast (m' := M.of (ρ'.lookup (S "found"))) (by kernel_rfl) (G.of e1)))
end Mine
end

section
namespace Mine
open PySem
set_option autoImplicit false
set_option maxRecDepth 100000
theorem dvd_gcdL {d : Nat} : ∀ {l : List Int} {g : Nat}, d ∣ gcdL g l ↔ d ∣ g ∧ ∀ a, a ∈ l → d ∣ a.natAbs
  | [], g => ⟨fun h => ⟨h, fun _ q => nomatch q⟩, fun h => h.1⟩
  | a :: r, g => by
    show d ∣ gcdL (Nat.gcd a.natAbs g) r ↔ _
    rw [dvd_gcdL, Nat.dvd_gcd_iff]
    constructor
    · rintro ⟨⟨h1, h2⟩, h3⟩
      exact ⟨h2, fun b hb => by cases hb with | head => exact h1 | tail _ hb => exact h3 b hb⟩
    · rintro ⟨h1, h2⟩
      exact ⟨⟨h2 a (.head _), h1⟩, fun b hb => h2 b (.tail _ hb)⟩
theorem gcdL_rev (l : List Int) : gcdL 0 l.reverse = gcdL 0 l := by
  refine Nat.dvd_antisymm (dvd_gcdL.mpr ⟨Nat.dvd_zero _, fun a ha => ?_⟩) (dvd_gcdL.mpr ⟨Nat.dvd_zero _, fun a ha => ?_⟩)
  · exact (dvd_gcdL.mp (Nat.dvd_refl _)).2 a (List.mem_reverse.mpr ha)
  · exact (dvd_gcdL.mp (Nat.dvd_refl _)).2 a (List.mem_reverse.mp ha)
theorem gcdL_mul (t : Int) : ∀ (l : List Int) (g : Nat), gcdL (g * t.natAbs) (l.map (· * t)) = gcdL g l * t.natAbs
  | [], g => rfl
  | a :: l, g => by
    show gcdL (Nat.gcd (a * t).natAbs (g * t.natAbs)) (l.map (· * t)) = gcdL (Nat.gcd a.natAbs g) l * t.natAbs
    rw [Int.natAbs_mul, Nat.gcd_mul_right, gcdL_mul t l]
noncomputable def gF (p : Int → Bool) (x : PV) : List PV := match x with
  | .int i => if p i = true then [.int i] else []
  | _ => []
theorem flat_gF (p : Int → Bool) : ∀ l : List Int, (l.map PV.int).flatMap (gF p) = (l.filter p).map PV.int
  | [] => rfl
  | a :: l => by
    rw [List.map_cons, List.flatMap_cons, flat_gF p l, List.filter_cons]
    show (if p a = true then [PV.int a] else []) ++ _ = _
    split <;> rfl
theorem toPy_i (n : Nat) : ∀ l : List Int, mapO (toPy (n + 1)) (l.map .int) = some (l.map .int)
  | [] => rfl
  | a :: l => by
    have e : mapO (toPy (n + 1)) ((a :: l).map .int) = (match mapO (toPy (n + 1)) (l.map .int) with | none => none | some r => some (PyData.int a :: r)) := by kernel_rfl
    rw [e, toPy_i n l]
    rfl
theorem toPy_l (l : List Int) : toPy 8 (.lst (l.map .int)) = some (.list (l.map .int)) := by
  show (mapO (toPy 7) (l.map .int)).map _ = _
  rw [toPy_i]
  rfl
section
variable {st0 : St}
theorem G.eqNil (l : List Int) : G st0 (((newO (.list [])).bind fun k => M.ret (.loc k)).bind fun b => (cmpP .Eq (.lst (l.map .int)) b).bind fun v => M.of (truthP v)) l.isEmpty := fun st q => by
  refine ⟨.ok l.isEmpty, st.new (.list []), ?_, rfl, St.new_fr⟩
  refine Eq.trans (show _ = M.bind (M.bind (derefTup (.loc st.next)) fun b => M.of ((eqv (.lst (l.map .int)) b).map fun x => PV.bool (x != false))) (fun v => M.of (truthP v)) (st.new (.list [])) from by kernel_rfl) ?_
  have e : derefTup (.loc st.next) (st.new (.list [])) = some (.ok (.lst []), st.new (.list [])) := by
    show M.bind (getO st.next) _ _ = _
    unfold M.bind getO
    rw [St.new_at]
    rfl
  unfold M.bind
  rw [e]
  unfold eqv
  rw [toPy_l]
  cases l <;> kernel_rfl
noncomputable abbrev lcA : PySem.Expr := xA (sE (nth (bd 302) 0)) 0
noncomputable abbrev lcB : PySem.Expr := xA (sE (nth (bd 302) 1)) 1
noncomputable abbrev lcC : PySem.Expr := xA ((cG lcB).ifs.headD dE) 0
noncomputable def notDiv (d i : Int) : Bool := decide (Int.fmod i d ≠ 0)
theorem lc_a (n : Nat) {l : List Int} (hl : l.length < 1000) {ρ : Locs} (h : ρ.lookup (S "many") = some (.lst (l.map .int))) : G st0 (evalE cfg2 (n + 76) (sk 302) ρ lcA) (.lst ((l.filter fun i => decide (i ≠ 0)).map .int)) := by
  rw [← flat_gF]
  refine G.lcomp (v := .lst (l.map .int)) _ (by kernel_rfl) (G.cast (m' := (M.of (ρ.lookup (S "many"))).bind fun v => M.ret (.val v)) (by kernel_rfl) (by rw [h]; exact G.bind G.ret G.ret)) (fun b => rfl) (by rw [List.length_map]; exact hl) fun k x hx => ?_
  obtain ⟨i, _, rfl⟩ := List.mem_map.mp hx
  refine ⟨by show (if _ then _ else _ : List PV).length ≤ 1; split <;> simp, Tn.turn (b := decide (i ≠ 0)) (S "k") (by kernel_rfl) (strip_none (by kernel_rfl)) ?_ fun _ => G.cast (m' := M.ret (.int i)) (by kernel_rfl) G.ret⟩
  refine G.cast (m' := ((cmpP .NotEq (.int i) (.int 0)).bind fun v => M.of (truthP v)).bind fun t => ifB t (M.ret true) (M.ret false)) (by kernel_rfl) (G.bind ne_int ?_)
  cases decide (i ≠ 0) <;> exact G.ret
theorem lc_c (n : Nat) {l : List Int} (hl : l.length < 1000) {ρ : Locs} {d : Int} (hd : d ≠ 0) (h1 : ρ.lookup (S "many") = some (.lst (l.map .int))) (h2 : ρ.lookup (S "d") = some (.int d)) : G st0 (evalE cfg2 (n + 70) (compScope (sk 302) (cS lcB)) ρ lcC) (.lst ((l.filter (notDiv d)).map .int)) := by
  rw [← flat_gF]
  refine G.lcomp (v := .lst (l.map .int)) _ (by kernel_rfl) (G.cast (m' := (M.of (ρ.lookup (S "many"))).bind fun v => M.ret (.val v)) (by kernel_rfl) (by rw [h1]; exact G.bind G.ret G.ret)) (fun b => rfl) (by rw [List.length_map]; exact hl) fun k x hx => ?_
  obtain ⟨i, _, rfl⟩ := List.mem_map.mp hx
  refine ⟨by show (if _ then _ else _ : List PV).length ≤ 1; split <;> simp, Tn.turn (b := notDiv d i) (S "k") (by kernel_rfl) (strip_none (by kernel_rfl)) ?_ fun _ => G.cast (m' := M.ret (.int i)) (by kernel_rfl) G.ret⟩
  have e : (stripL (cS lcC) ρ).lookup (S "d") = some (.int d) := (strip_free (by kernel_rfl)).trans h2
  refine G.cast (m' := ((((M.of ((stripL (cS lcC) ρ).lookup (S "d"))).bind fun b => M.of (binP .Mod (.int i) b))).bind fun a => (cmpP .NotEq a (.int 0)).bind fun v => M.of (truthP v)).bind fun t => ifB t (M.ret true) (M.ret false)) (by kernel_rfl) ?_
  rw [e]
  refine G.bind (v := notDiv d i) (G.bind (v := .int (Int.fmod i d)) (G.bind G.ret (G.of ?_)) ne_int) ?_
  · show (if d = 0 then none else some (PV.int (Int.fmod i d))) = _
    rw [if_neg hd]
  · cases notDiv d i <;> exact G.ret
noncomputable def i12 : List Int := [1, 2, 3, 4, 5, 6, 7, 8, 9, 10, 11, 12]
noncomputable def divAll (l : List Int) (d : Int) : Bool := (l.filter (notDiv d)).isEmpty
theorem lc_b (n : Nat) {l : List Int} (hl : l.length < 1000) {ρ : Locs} (h : ρ.lookup (S "many") = some (.lst (l.map .int))) : G st0 (evalE cfg2 (n + 74) (sk 302) ρ lcB) (.lst ((i12.filter (divAll l)).map .int)) := by
  rw [← flat_gF]
  refine G.lcomp (v := .rng 1 13) _ (by kernel_rfl) (G.cast (m' := M.ret (.val (.rng 1 13))) (by kernel_rfl) G.ret) (fun b => by kernel_rfl) (by rw [List.length_map]; decide +kernel) fun k x hx => ?_
  obtain ⟨d, hd, rfl⟩ := List.mem_map.mp hx
  have hd0 : d ≠ 0 := by
    rintro rfl
    exact absurd hd (by decide +kernel)
  refine ⟨by show (if _ then _ else _ : List PV).length ≤ 1; split <;> simp, Tn.turn (b := divAll l d) (S "d") (by kernel_rfl) (strip_none (by kernel_rfl)) ?_ fun _ => G.cast (m' := M.ret (.int d)) (by kernel_rfl) G.ret⟩
  refine G.cast (m' := ((evalE cfg2 (n + 70) (compScope (sk 302) (cS lcB)) ((S "d", .int d) :: stripL (cS lcB) ρ) lcC).bind fun a => ((newO (.list [])).bind fun k => M.ret (.loc k)).bind fun b => (cmpP .Eq a b).bind fun v => M.of (truthP v)).bind fun t => ifB t (M.ret true) (M.ret false)) (by kernel_rfl) (G.bind (v := divAll l d) (G.bind (lc_c n hl hd0 ((strip_free (by kernel_rfl)).trans h) rfl) (G.eqNil _)) ?_)
  cases divAll l d <;> exact G.ret
end
end Mine
end

section
namespace Mine
open PySem
set_option autoImplicit false
set_option maxRecDepth 100000
theorem divAll_iff (l : List Int) {d : Int} : divAll l d = true ↔ d.natAbs ∣ gcdL 0 l := by
  unfold divAll
  rw [List.isEmpty_iff, List.filter_eq_nil_iff, dvd_gcdL]
  refine ⟨fun h => ⟨Nat.dvd_zero _, fun a ha => ?_⟩, fun h a ha => ?_⟩
  · have := h a ha
    unfold notDiv at this
    rw [decide_eq_true_eq, Decidable.not_not] at this
    exact Int.natAbs_dvd_natAbs.mpr (Int.dvd_of_fmod_eq_zero this)
  · unfold notDiv
    rw [decide_eq_true_eq, Decidable.not_not]
    exact Int.fmod_eq_zero_of_dvd (Int.natAbs_dvd_natAbs.mp (h.2 a ha))
theorem i12_iff {d : Int} : d ∈ i12 ↔ 0 < d ∧ d ≤ 12 := by
  constructor
  · intro h
    have : ∀ d, d ∈ i12 → 0 < d ∧ d ≤ 12 := by decide +kernel
    exact this d h
  · rintro ⟨h1, h2⟩
    obtain ⟨k, rfl⟩ : ∃ k : Nat, d = k := ⟨d.toNat, by omega⟩
    have : ∀ k : Nat, k < 13 → 0 < k → (k : Int) ∈ i12 := by decide +kernel
    exact this k (by omega) (by omega)
theorem lc_max {l : List Int} (hl : ∀ a, a ∈ l → a.natAbs ≤ 12) (hn : (l.filter fun i => decide (i ≠ 0)).isEmpty = false) : ((gcdL 0 l : Nat) : Int) ∈ i12.filter (divAll l) ∧ ∀ y, y ∈ i12.filter (divAll l) → y ≤ (gcdL 0 l : Nat) := by
  have hx : ∃ a, a ∈ l ∧ a ≠ 0 := by
    cases e : l.filter fun i => decide (i ≠ 0) with
    | nil => rw [e] at hn; cases hn
    | cons a r =>
      have := List.mem_filter.mp (show a ∈ l.filter fun i => decide (i ≠ 0) by rw [e]; exact .head _)
      exact ⟨a, this.1, of_decide_eq_true this.2⟩
  obtain ⟨a, ha, h0⟩ := hx
  have hd := (dvd_gcdL.mp (Nat.dvd_refl (gcdL 0 l))).2
  have hp : 0 < a.natAbs := Int.natAbs_pos.mpr h0
  have h1 : gcdL 0 l ≤ 12 := Nat.le_trans (Nat.le_of_dvd hp (hd a ha)) (hl a ha)
  have h2 : 0 < gcdL 0 l := Nat.pos_of_dvd_of_pos (hd a ha) hp
  refine ⟨List.mem_filter.mpr ⟨i12_iff.mpr (by omega), (divAll_iff l).mpr (by rw [Int.natAbs_natCast]; exact Nat.dvd_refl _)⟩, fun y hy => ?_⟩
  obtain ⟨h3, h4⟩ := List.mem_filter.mp hy
  obtain ⟨h5, h6⟩ := i12_iff.mp h3
  have := Nat.le_of_dvd h2 ((divAll_iff l).mp h4)
  omega
theorem gcd_zero {l : List Int} (hn : (l.filter fun i => decide (i ≠ 0)).isEmpty = true) : gcdL 0 l = 0 := by
  refine Nat.eq_zero_of_zero_dvd (dvd_gcdL.mpr ⟨Nat.dvd_zero _, fun a ha => ?_⟩)
  rw [List.isEmpty_iff, List.filter_eq_nil_iff] at hn
  have := hn a ha
  rw [decide_eq_true_eq, Decidable.not_not] at this
  rw [this]
  exact Nat.dvd_zero _
theorem G.nx {C : Cfg} {n : Nat} {sc : Scope} {ρ : Locs} {st0 : St} {L : List Stmt} (k : Nat) (h : k < L.length) {w : Fl × Locs} {v : PV} (hw : w = (.ret v, ρ)) (hs : G st0 (exec C n sc ρ (nth L k)) w) : G st0 (execs C (n + 1) sc ρ (L.drop k)) w := by
  subst hw
  exact G.stop k h hs
theorem lawc_ok (n : Nat) {st : St} {l : List Int} (hl : l.length < 1000) (h12 : ∀ a, a ∈ l → a.natAbs ≤ 12) : G st (cutM (runF cfg2 (n + 80) 302 [.lst (l.map .int)])) (.int (gcdL 0 l : Nat)) := by
  refine G.cut (G.run (ρ' := [(S "many", .lst (l.map .int))]) [S "many"] (by kernel_rfl) [(S "many", .lst (l.map .int))] rfl rfl ?_) fun _ _ => rfl
  have e0 : exec cfg2 (n + 78) (sk 302) [(S "many", .lst (l.map .int))] (nth (bd 302) 0) = ((evalE cfg2 (n + 76) (sk 302) [(S "many", .lst (l.map .int))] lcA).bind fun a => ((newO (.list [])).bind fun k => M.ret (.loc k)).bind fun b => (cmpP .Eq a b).bind fun v => M.of (truthP v)).bind fun t => ifB t (M.ret (.ret (.int 0), [(S "many", .lst (l.map .int))])) (M.ret (.next, [(S "many", .lst (l.map .int))])) := by kernel_rfl
  have g0 : G st ((evalE cfg2 (n + 76) (sk 302) [(S "many", .lst (l.map .int))] lcA).bind fun a => ((newO (.list [])).bind fun k => M.ret (.loc k)).bind fun b => (cmpP .Eq a b).bind fun v => M.of (truthP v)) (l.filter fun i => decide (i ≠ 0)).isEmpty := G.bind (lc_a n hl rfl) (G.eqNil (l.filter fun i => decide (i ≠ 0)))
  cases hn : (l.filter fun i => decide (i ≠ 0)).isEmpty with
  | true =>
    rw [hn] at g0
    refine G.stop (L := bd 302) 0 (by decide +kernel) (G.cast e0 (G.bind g0 ?_))
    rw [gcd_zero hn]
    exact G.ret
  | false =>
    rw [hn] at g0
    refine G.next (L := bd 302) 0 (by decide +kernel) (G.cast e0 (G.bind g0 G.ret)) (G.stop (L := bd 302) 1 (by decide +kernel) (G.retn (by kernel_rfl) (G.cast (m' := ((evalE cfg2 (n + 74) (sk 302) [(S "many", .lst (l.map .int))] lcB).bind fun v => M.ret [v]).bind fun vs => bestA true false vs) (by kernel_rfl) (G.bind (G.bind (lc_b n hl rfl) G.ret) ?_))))
    have h := lc_max h12 hn
    exact G.cast (best_max false h.1 h.2) G.ret
end Mine
end

section
namespace Mine
open PySem
set_option autoImplicit false
set_option maxRecDepth 100000
section
variable {α β : Type} {st : St}
theorem Ok.get {k : Nat} {o : MO} {f : MO → M β} {Q : β → St → Prop} (e : st.objs k = some o) (h : Ok (f o) st Q) : Ok ((getO k).bind f) st Q := by
  obtain ⟨r, s2, e2, q⟩ := h
  refine ⟨r, s2, ?_, q⟩
  show M.bind (getO k) f st = _
  unfold M.bind getO
  rw [e]
  exact e2
theorem Ok.set {k : Nat} {o : Option MO} {f : Unit → M β} {Q : β → St → Prop} (h : Ok (f ()) (st.put k o) Q) : Ok ((setO k o).bind f) st Q := h
theorem Ok.of {a : α} {o : Option α} {P : α → St → Prop} (e : o = some a) (h : P a st) : Ok (M.of o) st P := by subst e; exact .ret h
end
/-- old places stay, but for 0 and p -/
structure Fr2 (p : Nat) (st st' : St) : Prop where
  le : st.next ≤ st'.next
  at_ : ∀ k, k < st.next → k ≠ 0 → k ≠ p → st'.objs k = st.objs k
theorem Fr2.rfl {p : Nat} {st : St} : Fr2 p st st := ⟨Nat.le_refl _, fun _ _ _ _ => Eq.refl _⟩
theorem Fr2.trans {p : Nat} {x y z : St} (h : Fr2 p x y) (g : Fr2 p y z) : Fr2 p x z := ⟨Nat.le_trans h.le g.le, fun k q n m => (g.at_ k (Nat.lt_of_lt_of_le q h.le) n m).trans (h.at_ k q n m)⟩
theorem Fr.fr2 {p : Nat} {x y : St} (h : Fr x y) : Fr2 p x y := ⟨h.le, fun k q _ _ => h.at_ k q⟩
theorem Fr1.fr2 {p : Nat} {x y : St} (h : Fr1 0 x y) : Fr2 p x y := ⟨h.le, fun k q n _ => h.at_ k q n⟩
theorem Fr2.put {p : Nat} {st : St} {o : Option MO} : Fr2 p st (st.put p o) := ⟨Nat.le_refl _, fun _ _ _ m => if_neg m⟩
theorem Fr2.get {p : Nat} {x y : St} (h : Fr2 p x y) {k : Nat} {o : Option MO} (e : x.objs k = o) (q : k < x.next) (n : k ≠ 0) (m : k ≠ p) : y.objs k = o := (h.at_ k q n m).trans e
theorem slice_map (cells : List Int) (lo hi sp : Option Int) : ∃ cs : List Int, sliceOf (cells.map .int) lo hi sp = cs.map .int ∧ cs.length ≤ cells.length := by
  refine ⟨(sliceRange (sliceBounds lo hi sp cells.length).1 (sliceBounds lo hi sp cells.length).2.1 (sliceBounds lo hi sp cells.length).2.2).filterMap (cells[·]?), ?_, ?_⟩
  · unfold sliceOf
    rw [List.length_map, List.map_filterMap]
    exact congrArg (List.filterMap · _) (funext fun i => List.getElem?_map)
  · have h := slicePick_size_le (cells.map fun i => Value.int i 0).toArray lo hi sp
    unfold slicePick at h
    rw [List.size_toArray, List.size_toArray, List.length_map] at h
    refine Nat.le_trans (Nat.le_of_eq ?_) h
    have e : (fun i : Nat => (cells.map fun i => Value.int i 0).toArray[i]?) = fun i : Nat => (cells[i]?).map fun i => Value.int i 0 := funext fun i => by rw [List.getElem?_toArray, List.getElem?_map]
    rw [e, ← List.map_filterMap, List.length_map]
theorem feed_ok (n : Nat) {cells : List Int} (hl : cells.length ≤ 1000) {st : St} (h0 : st.next = 0) : Ok (exec cfg2 (n + 78) (sk 307) [(S "script", .lst (cells.map .int))] (nth (bd 307) 0)) st fun r st' => r = (.next, [(S "feed", .loc 0), (S "script", .lst (cells.map .int))]) ∧ ∃ cs : List Int, cs.length ≤ 1000 ∧ Fd cs 0 st' := by
  obtain ⟨cs, e, hc⟩ := slice_map cells none (some 50) none
  refine Ok.cast (m' := (Mine.noExc ((newO MO.dict0).bind fun k => (((((if (none : Option Int) = some 0 ∨ 100000 < (cells.map PV.int).length then M.fail else M.ret (PV.lst (sliceOf (cells.map .int) none (some 50) none)))).bind fun v => M.ret [v]).bind fun vs => callV cfg2 (n + 74) (.con (.type "list")) vs).bind fun vv => M.ret [(PV.str (S "cells"), vv), (PV.str (S "spot"), PV.int 0)]).bind fun ps =>
    (getO k).bind fun o => if zeroO o then (M.of (dispO ps)).bind fun o' => (setO k (some o')).bind fun _ => M.ret (.loc k) else M.fail)).bind fun v => M.ret (.next, [(S "feed", v), (S "script", .lst (cells.map .int))])) (by kernel_rfl) ?_
  rw [if_neg (by rw [List.length_map]; rintro (h | h); cases h; omega), e]
  refine Ok.bind (P := fun r st' => r = .loc 0 ∧ ∃ cs : List Int, cs.length ≤ 1000 ∧ Fd cs 0 st') (Ok.noExc (Ok.newO (Ok.gb (v := [(PV.str (S "cells"), .lst (cs.map .int)), (PV.str (S "spot"), PV.int 0)]) ?_ fun st1 F => ?_))) ?_
  · refine G.bind (v := .lst (cs.map .int)) (G.bind (G.bind G.ret G.ret) (G.cast (m' := if (cs.map PV.int).length ≤ 100000 then M.ret (.lst (cs.map .int)) else M.fail) (by kernel_rfl) ?_)) G.ret
    rw [if_pos (by rw [List.length_map]; omega)]
    exact G.ret
  · refine Ok.get (F.get (St.new_at (st := st)) (Nat.lt_succ_self _)) (Ok.cast (if_pos rfl) (Ok.bind (P := fun o st2 => o = fdO cs 0 ∧ st2 = st1) (Ok.of (a := fdO cs 0) (by kernel_rfl) ⟨rfl, rfl⟩) ?_))
    rintro _ _ ⟨rfl, rfl⟩
    rw [h0]
    exact Ok.set (f := fun _ => M.ret (PV.loc 0)) (.ret ⟨rfl, cs, Nat.le_trans hc hl, Nat.lt_of_lt_of_le (Nat.succ_pos _) F.le, 0, Nat.le_refl _, St.put_at⟩)
  · rintro _ st' ⟨rfl, q⟩
    exact .ret ⟨rfl, q⟩
end Mine
end

section
namespace Mine
open PySem
set_option autoImplicit false
set_option maxRecDepth 100000
section
variable {st : St}
theorem setA_eq {k : Nat} {cl : Addr} {fs : List (Str × PV)} {x : Str} {v : PV} (e : st.objs k = some (.inst cl fs)) (ha : cfg2.attr cl x = true) (hl : fs.length < 100) : setA cfg2 (.loc k) x v st = some (.ok (), st.put k (some (.inst cl (putF fs x v)))) := by
  show M.bind (getO k) _ st = _
  unfold M.bind getO
  rw [e]
  exact (congrFun (if_pos ⟨ha, hl⟩) st).trans rfl
theorem Ok.newSet {fl : Nat} {cl : Addr} {fs : List (Str × PV)} {o : MO} {x : Str} {ρ : Locs} {Q : Fl × Locs → St → Prop} (e : st.objs fl = some (.inst cl fs)) (hk : fl < st.next) (ha : cfg2.attr cl x = true) (hl : fs.length < 100) (h : Q (Fl.next, ρ) ((st.new o).put fl (some (.inst cl (putF fs x (.loc st.next)))))) :
    Ok ((Mine.newO o).bind fun k => ((setA cfg2 (.loc fl) x (.loc k)).bind fun _ => M.ret ρ).bind fun ρ => M.ret (Fl.next, ρ)) st Q :=
  Ok.newO (f := fun k => ((setA cfg2 (.loc fl) x (.loc k)).bind fun _ => M.ret ρ).bind fun ρ => M.ret (Fl.next, ρ)) (Ok.setN (setA_eq ((St.new_fr.at_ fl hk).trans e) ha hl) h)
noncomputable abbrev flO (a b c d : PV) : MO := .inst 80 [(S "vars", a), (S "tolds", b), (S "goal", c), (S "shown", d)]
theorem flat_init (n : Nat) {fl : Nat} (h : st.objs fl = some (.inst 80 [])) (hk : fl < st.next) : Ok (runF cfg2 (n + 80) 49 [.loc fl]) st fun v st' => v = .none ∧ Fr1 fl st st' ∧ ∃ vs b c d, st'.objs fl = some (flO (.loc vs) b c d) ∧ st'.objs vs = some (.list []) ∧ st.next ≤ vs ∧ vs < st'.next := by
  refine Ok.run [S "self"] (by kernel_rfl) [(S "self", .loc fl)] rfl rfl ?_
  refine Ok.stmt 0 (by decide +kernel) (Ok.cast (m' := (newO (.list [])).bind fun k => ((setA cfg2 (.loc fl) (S "vars") (.loc k)).bind fun _ => M.ret [(S "self", .loc fl)]).bind fun ρ => M.ret (.next, ρ)) (by kernel_rfl) (Ok.newSet h hk (by kernel_rfl) (by decide) ?_))
  show Ok (execs _ _ _ _ ((bd 49).drop 1)) _ _
  refine Ok.stmt 1 (by decide +kernel) (Ok.cast (m' := (newO (.list [])).bind fun k => ((setA cfg2 (.loc fl) (S "tolds") (.loc k)).bind fun _ => M.ret [(S "self", .loc fl)]).bind fun ρ => M.ret (.next, ρ)) (by kernel_rfl) (Ok.newSet St.put_at (Nat.lt_succ_of_lt hk) (by kernel_rfl) (by show 1 < 100; decide) ?_))
  show Ok (execs _ _ _ _ ((bd 49).drop 2)) _ _
  refine Ok.stmt 2 (by decide +kernel) (Ok.cast (m' := ((setA cfg2 (.loc fl) (S "goal") (.tup [.str (S "satisfy"), .none])).bind fun _ => M.ret [(S "self", .loc fl)]).bind fun ρ => M.ret (.next, ρ)) (by kernel_rfl) (Ok.setN (setA_eq St.put_at (by kernel_rfl) (by show 2 < 100; decide)) ?_))
  show Ok (execs _ _ _ _ ((bd 49).drop 3)) _ _
  refine Ok.stmt 3 (by decide +kernel) (Ok.cast (m' := ((setA cfg2 (.loc fl) (S "shown") (.tup [])).bind fun _ => M.ret [(S "self", .loc fl)]).bind fun ρ => M.ret (.next, ρ)) (by kernel_rfl) (Ok.setN (setA_eq St.put_at (by kernel_rfl) (by show 3 < 100; decide)) ?_))
  show Ok (execs _ _ _ _ ((bd 49).drop 4)) _ _
  refine Ok.done (by decide +kernel) ⟨rfl, ?_, st.next, _, _, _, St.put_at, ?_, Nat.le_refl _, ?_⟩
  · exact ((((St.new_fr.fr1.trans .put).trans St.new_fr.fr1).trans .put).trans .put).trans .put
  · have hne : st.next ≠ fl := by omega
    refine (if_neg hne).trans ((if_neg hne).trans ((if_neg hne).trans ((if_neg (show st.next ≠ st.next + 1 by omega)).trans ((if_neg hne).trans St.new_at))))
  · show st.next < st.next + 1 + 1
    omega
theorem put_new_put {g k : Nat} {a b : Option MO} {o : MO} (q : k ≠ g) (w : k < st.next) : (((st.put g a).new o).put g b).objs k = st.objs k := (if_neg q).trans ((if_neg (Nat.ne_of_lt w)).trans (if_neg q))
noncomputable abbrev gaO (a b : PV) : MO := .inst 264 [(S "flat", a), (S "made", b)]
theorem gath_init (n : Nat) {g : Nat} (h : st.objs g = some (.inst 264 [])) (hk : g < st.next) : Ok (runF cfg2 (n + 90) 172 [.loc g]) st fun v st' => v = .none ∧ Fr1 g st st' ∧ ∃ fl md vs b c d, st'.objs g = some (gaO (.loc fl) md) ∧ st'.objs fl = some (flO (.loc vs) b c d) ∧ st'.objs vs = some (.list []) ∧ st.next ≤ fl ∧ fl < st'.next ∧ st.next ≤ vs ∧ vs < st'.next ∧ fl < vs := by
  refine Ok.run [S "self"] (by kernel_rfl) [(S "self", .loc g)] rfl rfl ?_
  refine Ok.stmt 0 (by decide +kernel) (Ok.cast (m' := ((newO (.inst 80 [])).bind fun k => (runF cfg2 (n + 84) 49 [.loc k]).bind fun v => if noneV v = true then M.ret (.loc k) else M.fail).bind fun v => ((setA cfg2 (.loc g) (S "flat") v).bind fun _ => M.ret [(S "self", .loc g)]).bind fun ρ => M.ret (.next, ρ)) (by kernel_rfl) (Ok.bind (P := fun v st' => v = .loc st.next ∧ Fr1 st.next (st.new (.inst 80 [])) st' ∧ ∃ vs b c d, st'.objs st.next = some (flO (.loc vs) b c d) ∧ st'.objs vs = some (.list []) ∧ st.next + 1 ≤ vs ∧ vs < st'.next) (Ok.newO (f := fun k => (runF cfg2 (n + 84) 49 [.loc k]).bind fun v => if noneV v = true then M.ret (PV.loc k) else M.fail) (Ok.bind (flat_init (n + 4) St.new_at (Nat.lt_succ_self _)) ?_)) ?_))
  · rintro _ st1 ⟨rfl, q⟩
    exact Ok.ret (a := PV.loc st.next) ⟨rfl, q⟩
  · rintro _ st1 ⟨rfl, F, vs, b, c, d, h1, h2, h3, h4⟩
    have hle := F.le
    have hn : (st.new (.inst 80 [])).next = st.next + 1 := rfl
    rw [hn] at hle
    have hg : st1.objs g = some (.inst 264 []) := (F.at_ g (Nat.lt_succ_of_lt hk) (Nat.ne_of_lt hk)).trans ((St.new_fr.at_ g hk).trans h)
    refine Ok.setN (setA_eq hg (by kernel_rfl) (by decide)) ?_
    show Ok (execs _ _ _ _ ((bd 172).drop 1)) _ _
    refine Ok.stmt 1 (by decide +kernel) (Ok.cast (m' := (newO .dict0).bind fun k => ((setA cfg2 (.loc g) (S "made") (.loc k)).bind fun _ => M.ret [(S "self", .loc g)]).bind fun ρ => M.ret (.next, ρ)) (by kernel_rfl) (Ok.newSet St.put_at (show g < st1.next by omega) (by kernel_rfl) (by show 1 < 100; decide) ?_))
    show Ok (execs _ _ _ _ ((bd 172).drop 2)) _ _
    refine Ok.done (by decide +kernel) ⟨rfl, ?_, st.next, _, vs, b, c, d, St.put_at, ?_, ?_, Nat.le_refl _, ?_, by omega, ?_, by omega⟩
    · have F0 : Fr1 g st st1 := ⟨Nat.le_trans (Nat.le_succ _) F.le, fun k q w => (F.at_ k (Nat.lt_succ_of_lt q) (Nat.ne_of_lt q)).trans (St.new_fr.at_ k q)⟩
      exact ((F0.trans .put).trans St.new_fr.fr1).trans .put
    · exact (put_new_put (by omega) (by omega)).trans h1
    · exact (put_new_put (by omega) (by omega)).trans h2
    · show st.next < st1.next + 1
      omega
    · show vs < st1.next + 1
      omega
end
end Mine
end

section
namespace Mine
open PySem
set_option autoImplicit false
set_option maxRecDepth 100000
noncomputable def pP (q : PV × Row) : PV := .tup [q.1, q.2.pv]
/-- the pool -/
structure Pool (p : Nat) (pl : List (PV × Row)) (st : St) : Prop where
  lt : p < st.next
  ne : p ≠ 0
  po : st.objs p = some (.list (pl.map pP))
  th : ∀ q, q ∈ pl → Thing q.1 q.2 ∧ Sm q.2
noncomputable def eP (q : Int × Int) : PV := .tup [.int q.1, .int q.2]
noncomputable def vP (q : Int × Int) : PV := .tup [.txt 9, .tup [eP q]]
/-- gatherer and ends -/
structure Su (p g fl vs e : Nat) (es : List (Int × Int)) (st : St) : Prop where
  ord : 0 < p ∧ p < g ∧ g < fl ∧ fl < vs ∧ vs < e ∧ e < st.next
  go : ∃ md, st.objs g = some (gaO (.loc fl) md)
  fo : ∃ b c d, st.objs fl = some (flO (.loc vs) b c d)
  vo : st.objs vs = some (.list (es.map vP))
  eo : st.objs e = some (.list (es.map eP))
  be : ∀ q, q ∈ es → bitsOk q.1 = true ∧ bitsOk q.2 = true
section
variable {cs : List Int} {st : St}
theorem Pool.fr1 {p : Nat} {pl : List (PV × Row)} {st' : St} (h : Pool p pl st) (F : Fr1 0 st st') : Pool p pl st' := ⟨Nat.lt_of_lt_of_le h.lt F.le, h.ne, (F.at_ p h.lt h.ne).trans h.po, h.th⟩
theorem Pool.fr {p : Nat} {pl : List (PV × Row)} {st' : St} (h : Pool p pl st) (F : Fr st st') : Pool p pl st' := h.fr1 F.fr1
theorem things_ok (n : Nat) (hl : cs.length ≤ 1000) (h : Fd cs 0 st) : Ok (Mine.noExc ((newO (.list [])).bind fun k => (loopU (M.ret ()) (M.ret ()) (fun _ => (cutM (runF cfg2 (n + 101) 282 [.loc 0])).bind fun v => appO k v) [.int 0, .int (0 + 1), .int (0 + 1 + 1), .int (0 + 1 + 1 + 1)]).bind fun _ => M.ret (PV.loc k))) st
    fun v st' => v = PV.loc st.next ∧ Fd cs 32 st' ∧ ∃ pl, pl.length = 4 ∧ Pool st.next pl st' := by
  refine Ok.noExc (Ok.newO (Ok.bind (Ok.loopU (fun xs st' => ∃ c, c + 8 * xs.length ≤ 32 ∧ Fd cs c st' ∧ ∃ pl, pl.length + xs.length = 4 ∧ Pool st.next pl st') ?_ ?_) ?_))
  · exact ⟨0, by decide, h.fr St.new_fr, [], rfl, Nat.lt_succ_self _, Nat.ne_of_gt h.1, St.new_at, fun _ q => nomatch q⟩
  · rintro x xs st1 ⟨c, hc, hd, pl, hp, P⟩
    rw [List.length_cons] at hc hp
    refine Ok.bind (thing_ok n hl (by omega) hd) ?_
    rintro _ st2 ⟨⟨u, r, rfl, ht, hs⟩, F, hd2⟩
    have P2 := P.fr1 F
    refine Ok.appO P2.po (by rw [List.length_map]; omega) ⟨c + 8, by omega, hd2.put P.ne, pl ++ [(u, r)], by rw [List.length_append, List.length_singleton]; omega, P2.lt, P.ne, ?_, fun q hq => ?_⟩
    · rw [List.map_append]; exact St.put_at
    · rcases List.mem_append.mp hq with hq | hq
      · exact P.th q hq
      · cases List.mem_singleton.mp hq
        exact ⟨ht, hs⟩
  · rintro _ st' ⟨c, hc, hd, pl, hp, P⟩
    exact Ok.ret (a := PV.loc st.next) ⟨rfl, hd.up (Nat.le_trans (Nat.le_add_right c 0) hc), pl, hp, P⟩
noncomputable abbrev lwR (p g e : Nat) (s : PV) : Locs := [(S "pool", .loc p), (S "gatherer", .loc g), (S "ends", .loc e), (S "feed", .loc 0), (S "script", s)]
theorem set1_ok (n : Nat) (s : PV) (hl : cs.length ≤ 1000) (h : Fd cs 0 st) : Ok (exec cfg2 (n + 208) (sk 307) [(S "feed", .loc 0), (S "script", s)] (nth (bd 307) 1)) st
    fun r st' => ∃ p g fl vs e pl, r = (.next, lwR p g e s) ∧ Fd cs 32 st' ∧ pl.length = 4 ∧ Pool p pl st' ∧ Su p g fl vs e [] st' := by
  refine Ok.swap (P := fun v st' => ∃ p g fl vs e pl, v = .tup [.loc p, .loc g, .loc e] ∧ Fd cs 32 st' ∧ pl.length = 4 ∧ Pool p pl st' ∧ Su p g fl vs e [] st') [S "pool", S "gatherer", S "ends"] (by kernel_rfl) (Ok.cast (m' := ((Mine.noExc ((newO (.list [])).bind fun k => (loopU (M.ret ()) (M.ret ()) (fun _ => (cutM (runF cfg2 (n + 201) 282 [.loc 0])).bind fun v => appO k v) [.int 0, .int (0 + 1), .int (0 + 1 + 1), .int (0 + 1 + 1 + 1)]).bind fun _ => M.ret (PV.loc k))).bind fun v =>
    (((newO (.inst 264 [])).bind fun k => (runF cfg2 (n + 202) 172 [.loc k]).bind fun v => if noneV v = true then M.ret (PV.loc k) else M.fail).bind fun v => (((newO (.list [])).bind fun k => M.ret (PV.loc k)).bind fun v => M.ret [v]).bind fun vs => M.ret (v :: vs)).bind fun vs => M.ret (v :: vs)).bind fun vs => M.ret (.tup vs)) (by kernel_rfl) ?_) ?_
  · refine Ok.bind (P := fun vs st' => ∃ p g fl vs' e pl, vs = [.loc p, .loc g, .loc e] ∧ Fd cs 32 st' ∧ pl.length = 4 ∧ Pool p pl st' ∧ Su p g fl vs' e [] st') (Ok.bind (things_ok (n + 100) hl h) ?_) ?_
    · rintro _ st1 ⟨rfl, hd, pl, hp, P⟩
      have hp0 := P.ne
      have hplt := P.lt
      generalize st.next = p at P hp0 hplt ⊢
      have hF : ∀ st2 : St, Fr st1 st2 → Fd cs 32 st2 ∧ Pool p pl st2 := fun st2 F => ⟨hd.fr F, P.fr F⟩
      refine Ok.bind (P := fun vs st' => ∃ g fl vs' e, vs = [.loc g, .loc e] ∧ Fr st1 st' ∧ Su p g fl vs' e [] st') (Ok.bind (P := fun v st' => v = .loc st1.next ∧ ∃ fl md vs b c d, Fr st1 st' ∧ st'.objs st1.next = some (gaO (.loc fl) md) ∧ st'.objs fl = some (flO (.loc vs) b c d) ∧ st'.objs vs = some (.list []) ∧ st1.next < fl ∧ fl < vs ∧ vs < st'.next)
        (Ok.newO (f := fun k => (runF cfg2 (n + 202) 172 [.loc k]).bind fun v => if noneV v = true then M.ret (PV.loc k) else M.fail) (Ok.bind (gath_init (n + 112) St.new_at (Nat.lt_succ_self _)) ?_)) ?_) ?_
      · rintro _ st2 ⟨rfl, F, fl, md, vs, b, c, d, h1, h2, h3, h4, h5, h6, h7, h8⟩
        exact Ok.ret (a := PV.loc st1.next) ⟨rfl, fl, md, vs, b, c, d, Fr1.cut St.new_fr F (Nat.le_refl _), h1, h2, h3, h4, h8, h7⟩
      · rintro _ st2 ⟨rfl, fl, md, vs, b, c, d, F, h1, h2, h3, h4, h5, h6⟩
        refine Ok.bind (P := fun vs' st' => vs' = [PV.loc st2.next] ∧ st' = st2.new (.list [])) (Ok.bind (P := fun v st' => v = PV.loc st2.next ∧ st' = st2.new (.list [])) (Ok.newO (f := fun k => M.ret (PV.loc k)) (Ok.ret (a := PV.loc st2.next) ⟨rfl, rfl⟩)) ?_) ?_
        · rintro _ _ ⟨rfl, rfl⟩
          exact .ret ⟨rfl, rfl⟩
        · rintro _ _ ⟨rfl, rfl⟩
          have hlt : ∀ k, k < st2.next → (st2.new (.list [])).objs k = st2.objs k := St.new_fr.at_
          exact Ok.ret (a := [PV.loc st1.next, PV.loc st2.next]) ⟨st1.next, fl, vs, st2.next, rfl, F.trans St.new_fr, ⟨by omega, hplt, h4, h5, h6, Nat.lt_succ_self _⟩, ⟨md, (hlt _ (by omega)).trans h1⟩, ⟨b, c, d, (hlt _ (by omega)).trans h2⟩, (hlt _ (by omega)).trans h3, St.new_at, fun _ q => nomatch q⟩
      · rintro _ st2 ⟨g, fl, vs, e, rfl, F, hs⟩
        exact .ret ⟨p, g, fl, vs, e, pl, rfl, (hF _ F).1, hp, (hF _ F).2, hs⟩
    · rintro _ st2 ⟨p, g, fl, vs, e, pl, rfl, q⟩
      exact .ret ⟨p, g, fl, vs, e, pl, rfl, q⟩
  · rintro _ st2 ⟨p, g, fl, vs, e, pl, rfl, q⟩
    exact ⟨_, rfl, rfl, p, g, fl, vs, e, pl, rfl, q⟩
end
end Mine
end

section
namespace Mine
open PySem
set_option autoImplicit false
set_option maxRecDepth 100000
section
variable {cs : List Int} {st : St} {p g fl vs e : Nat}
theorem methK_new {a b c d : PV} (h : st.objs fl = some (flO a b c d)) (q : fl < st.next) : G st (methK cfg2 (.loc fl) (S "new_var")) (.fn 56) := G.get h q (G.cast (m' := M.ret (MK.fn 56)) (by kernel_rfl) G.ret)
theorem newvar_ok (n : Nat) {b c d x y : PV} {Lv : List PV} (h1 : st.objs fl = some (flO (.loc vs) b c d)) (h2 : st.objs vs = some (.list Lv)) (hf : fl < st.next) (hv : vs < st.next) (hne : fl ≠ vs) (hl : Lv.length < 1000) :
    Ok (cutM (runF cfg2 (n + 80) 56 [.loc fl, x, y])) st fun v st' => (∃ i, v = .int i) ∧ Fr1 vs st st' ∧ st'.objs vs = some (.list (Lv ++ [.tup [x, y]])) := by
  refine Ok.cut (Ok.run [S "self", S "name", S "domain"] (by kernel_rfl) [(S "domain", y), (S "name", x), (S "self", .loc fl)] rfl rfl ?_)
  have ha : ∀ st1 : St, st1.objs fl = some (flO (.loc vs) b c d) → getA cfg2 (.loc fl) (S "vars") st1 = some (.ok (.loc vs), st1) := fun st1 e => by
    show M.bind (getO fl) _ st1 = _
    unfold M.bind getO
    rw [e]
    kernel_rfl
  refine Ok.stmt 0 (by decide +kernel) (Ok.cast (m' := ((getA cfg2 (.loc fl) (S "vars")).bind fun ov => (methK cfg2 ov (S "append")).bind fun mk => (M.ret [PV.tup [x, y]]).bind fun vs => methApp cfg2 (n + 75 + 1) ov mk vs).bind fun v => if oneV v = true then M.ret (.next, [(S "domain", y), (S "name", x), (S "self", .loc fl)]) else M.fail) (by kernel_rfl) (Ok.append (ha st h1) h2 hl (.ret ⟨_, rfl, h2, ?_⟩)))
  show Ok (execs _ _ _ _ ((bd 56).drop 1)) _ _
  have h3 : (st.put vs (some (.list (Lv ++ [.tup [x, y]])))).objs fl = some (flO (.loc vs) b c d) := (if_neg hne).trans h1
  refine Ok.stopG (ρ' := [(S "domain", y), (S "name", x), (S "self", .loc fl)]) (v := .int ((Lv.length + 1 : Nat) - 1)) 1 (by decide +kernel) (G.retn (by kernel_rfl) (G.cast (m' := (((getA cfg2 (.loc fl) (S "vars")).bind fun v => M.ret [v]).bind fun vs => callV cfg2 (n + 73) (.con (.builtin "len")) vs).bind fun a => M.of (binP .Sub a (.int 1))) (by kernel_rfl) ?_)) fun st2 F => ?_
  · refine G.bind (v := .int (Lv.length + 1 : Nat)) (G.bind (v := [.loc vs]) (G.bind (v := .loc vs) (G.get h3 hf (G.cast (m' := M.ret (.loc vs)) (by kernel_rfl) G.ret)) G.ret) (G.cast (m' := (getO vs).bind fun o => (M.of (listO o)).bind fun l => if l.length < 1000000 then M.ret (.int l.length) else M.fail) ?_ (G.get St.put_at hv (G.bind G.ret ?_)))) G.ret
    · refine Eq.trans (show _ = ((getO vs).bind fun o => M.of (listO o)).bind fun l => if l.length < 1000000 then M.ret (.int l.length) else M.fail from by kernel_rfl) ?_
      funext st1
      show M.bind (M.bind _ _) _ st1 = M.bind _ _ st1
      unfold M.bind
      cases getO vs st1 with
      | none => rfl
      | some q => obtain ⟨r, s⟩ := q; cases r <;> rfl
    · show G _ (if (Lv ++ [PV.tup [x, y]]).length < 1000000 then _ else _) _
      rw [List.length_append, List.length_singleton, if_pos (by omega)]
      exact G.ret
  · refine ⟨⟨_, rfl⟩, (Fr1.put.trans F.fr1).drop, (if_pos hv).trans (F.get St.put_at hv)⟩
theorem Fd.off {b vs : Nat} {st st' : St} (h : Fd cs b st) (F : Fr1 vs st st') (q : vs ≠ 0) : Fd cs b st' := ⟨Nat.lt_of_lt_of_le h.1 F.le, let ⟨k, hk, e⟩ := h.2; ⟨k, hk, (F.at_ 0 h.1 (fun w => q w.symm)).trans e⟩⟩
theorem Su.fr1 {es : List (Int × Int)} {st' : St} (h : Su p g fl vs e es st) (F : Fr1 0 st st') : Su p g fl vs e es st' := by
  obtain ⟨⟨o1, o2, o3, o4, o5, o6⟩, ⟨md, h1⟩, ⟨b, c, d, h2⟩, h3, h4, h5⟩ := h
  exact ⟨⟨o1, o2, o3, o4, o5, Nat.lt_of_lt_of_le o6 F.le⟩, ⟨md, (F.at_ g (by omega) (by omega)).trans h1⟩, ⟨b, c, d, (F.at_ fl (by omega) (by omega)).trans h2⟩, (F.at_ vs (by omega) (by omega)).trans h3, (F.at_ e o6 (by omega)).trans h4, h5⟩
/-- the names that law keeps -/
structure Nm (p g e : Nat) (ρ : Locs) : Prop where
  pool : ρ.lookup (S "pool") = some (.loc p)
  gath : ρ.lookup (S "gatherer") = some (.loc g)
  ends : ρ.lookup (S "ends") = some (.loc e)
  feed : ρ.lookup (S "feed") = some (.loc 0)
theorem nextc_ok (n : Nat) (hl : cs.length ≤ 1000) {b : Nat} {many : Int} (hm : 0 < many) (hb : b ≤ 900) (h : Fd cs b st) {o : Option PV} (e : o = some (.loc 0)) :
    Ok (((M.of o).bind fun v => M.ret [v, .int many]).bind fun vs => callV cfg2 (n + 61) (.con (.ref 275)) vs) st fun v st' => (∃ r : Int, 0 ≤ r ∧ r < many ∧ v = .int r) ∧ Fr1 0 st st' ∧ Fd cs (b + 1) st' := by
  subst e
  exact Ok.cast (m' := cutM (runF cfg2 (n + 60) 275 [.loc 0, .int many])) (by kernel_rfl) (next_o n hm hb hl h)
theorem Ok.map {α β : Type} {m : M α} {f : α → β} {P : β → St → Prop} (h : Ok m st fun a st' => P (f a) st') : Ok (m.bind fun a => M.ret (f a)) st P := Ok.bind h fun _ _ q => .ret q
theorem end_turn (n : Nat) (hl : cs.length ≤ 1000) {b : Nat} (hb : b ≤ 800) {es : List (Int × Int)} (h4 : es.length < 4) {pl : List (PV × Row)} (hd : Fd cs b st) (P : Pool p pl st) (H : Su p g fl vs e es st) {ρ : Locs} (N : Nm p g e ρ) :
    Ok ((assignT cfg2 (n + 207) (sk 307) ρ (sT (nth (bd 307) 2)) (.int es.length)).bind fun ρ => execs cfg2 (n + 207) (sk 307) ρ (sB (nth (bd 307) 2))) st fun r st' => r.1 = .next ∧ Nm p g e r.2 ∧ Fd cs (b + 2) st' ∧ Pool p pl st' ∧ ∃ q, Su p g fl vs e (es ++ [q]) st' := by
  rw [show assignT cfg2 (n + 207) (sk 307) ρ (sT (nth (bd 307) 2)) (.int es.length) = M.ret ((S "place", .int es.length) :: ρ) from by kernel_rfl]
  show Ok (execs cfg2 (n + 207) (sk 307) _ ((sB (nth (bd 307) 2)).drop 0)) st _
  refine Ok.stmt 0 (by decide +kernel) (Ok.cast (m' := ((((M.of (ρ.lookup (S "feed"))).bind fun v => M.ret [v, .int 7]).bind fun vs => callV cfg2 (n + 203) (.con (.ref 275)) vs).bind fun a => M.of (binP .Sub a (.int 3))).bind fun v => M.ret (.next, (S "low", v) :: (S "place", .int es.length) :: ρ)) (by kernel_rfl) (Ok.bind (Ok.bind (nextc_ok (n + 142) hl (by decide) (by omega) hd N.feed) (fun v st1 h1 => ?_)) (fun v st1 (h1 : (∃ r : Int, r.natAbs ≤ 10 ∧ v = .int r) ∧ Fr1 0 st st1 ∧ Fd cs (b + 1) st1) => ?_)))
  · obtain ⟨⟨r, r0, r1, rfl⟩, h1⟩ := h1
    exact Ok.ret (a := PV.int (r - 3)) ⟨⟨r - 3, by omega, rfl⟩, h1⟩
  obtain ⟨⟨low, hlow, rfl⟩, F1, hd1⟩ := h1
  refine .ret ?_
  show Ok (execs _ _ _ _ ((sB (nth (bd 307) 2)).drop 1)) _ _
  have H1 := H.fr1 F1
  have P1 := P.fr1 F1
  obtain ⟨o1, o2, o3, o4, o5, o6⟩ := H1.ord
  refine Ok.stmt 1 (by decide +kernel) (Ok.cast (m' := ((M.of (ρ.lookup (S "ends"))).bind fun ov => (methK cfg2 ov (S "append")).bind fun mk => ((((((((M.of (ρ.lookup (S "feed"))).bind fun v => M.ret [v, .int 3]).bind fun vs => callV cfg2 (n + 197) (.con (.ref 275)) vs).bind fun b => M.of (binP .Add (.int low) b)).bind fun v => M.ret [v]).bind fun vs => M.ret (PV.int low :: vs)).bind fun vs => M.ret (PV.tup vs)).bind fun v => M.ret [v]).bind fun vs => methApp cfg2 (n + 202 + 1) ov mk vs).bind fun v => if oneV v = true then M.ret (.next, (S "low", .int low) :: (S "place", .int es.length) :: ρ) else M.fail) (by kernel_rfl) (Ok.append (by rw [N.ends]; rfl) H1.eo (by rw [List.length_map]; omega) (Ok.map (Ok.map (Ok.map (Ok.map (Ok.bind (nextc_ok (n + 136) hl (by decide) (by omega) hd1 N.feed) (fun v st2 h2 => ?_))))))))
  obtain ⟨⟨r, r0, r1, rfl⟩, F2, hd2⟩ := h2
  refine Ok.ret (a := PV.int (low + r)) ⟨_, rfl, (H1.fr1 F2).eo, ?_⟩
  have H2 := H1.fr1 F2
  have P2 := P1.fr1 F2
  show Ok (execs _ _ _ _ ((sB (nth (bd 307) 2)).drop 2)) _ _
  have o6' := H2.ord.2.2.2.2.2
  obtain ⟨md, g1⟩ := H2.go
  obtain ⟨b1, c1, d1, f1⟩ := H2.fo
  have hg : (st2.put e (some (.list (es.map eP ++ [.tup [.int low, .int (low + r)]])))).objs g = _ := (if_neg (by omega)).trans g1
  have hf : (st2.put e (some (.list (es.map eP ++ [.tup [.int low, .int (low + r)]])))).objs fl = _ := (if_neg (by omega)).trans f1
  have hv : (st2.put e (some (.list (es.map eP ++ [.tup [.int low, .int (low + r)]])))).objs vs = _ := (if_neg (by omega)).trans H2.vo
  generalize hS : st2.put e (some (.list (es.map eP ++ [.tup [.int low, .int (low + r)]]))) = st3 at hg hf hv ⊢
  have he : st3.objs e = some (.list (es.map eP ++ [.tup [.int low, .int (low + r)]])) := by rw [← hS]; exact St.put_at
  have hn : st3.next = st2.next := by rw [← hS]; rfl
  refine Ok.stmt 2 (by decide +kernel) (Ok.cast (m' := (((M.of (ρ.lookup (S "gatherer"))).bind fun ov => getA cfg2 ov (S "flat")).bind fun ov => (methK cfg2 ov (S "new_var")).bind fun mk =>
    (((((M.ret [PV.int es.length]).bind fun vs => callV cfg2 (n + 199) (.con (.type "str")) vs).bind fun b => M.of (binP .Add (.str (S "v")) b)).bind fun v =>
      (((((M.of (ρ.lookup (S "ends"))).bind fun ov => itemP ov (.int es.length)).bind fun v => M.ret [v]).bind fun vs => M.ret (PV.tup vs)).bind fun v => M.ret [v]).bind fun vs => M.ret (v :: vs))).bind fun vs => methApp cfg2 (n + 202) ov mk vs).bind fun v => if oneV v = true then M.ret (.next, (S "low", .int low) :: (S "place", .int es.length) :: ρ) else M.fail) (by kernel_rfl) ?_)
  rw [N.gath, N.ends]
  refine Ok.bind (P := fun v st' => (∃ i, v = .int i) ∧ Fr1 vs st3 st' ∧ st'.objs vs = some (.list (es.map vP ++ [.tup [.txt 9, .tup [eP (low, low + r)]]]))) (Ok.gb (v := .loc fl) (G.bind G.ret (G.get hg (show g < st3.next by omega) (G.cast (m' := M.ret (.loc fl)) (by kernel_rfl) G.ret))) fun st4 F4 => Ok.gb (v := .fn 56) (methK_new (F4.get hf (by omega)) (Nat.lt_of_lt_of_le (show fl < st3.next by omega) F4.le)) fun st5 F5 => Ok.gb (v := [.txt 9, .tup [eP (low, low + r)]]) ?_ fun st6 F6 => ?_) ?_
  · refine G.bind (v := .txt 9) (G.bind (v := .txt 8) (G.bind G.ret (G.cast (m' := if 0 ≤ (es.length : Int) ∧ (es.length : Int) < 10 then M.ret (.txt 8) else M.fail) (by kernel_rfl) (by rw [if_pos (by omega)]; exact G.ret))) (G.cast (m' := M.ret (.txt 9)) (by kernel_rfl) G.ret)) ?_
    refine G.bind (G.bind (G.bind (G.bind (v := eP (low, low + r)) (G.bind G.ret ((G.get he (show e < st3.next by omega) (G.cast (m' := M.of (idx? (es.map eP ++ [eP (low, low + r)]) es.length)) (by kernel_rfl) (G.of ?_))).up (F4.trans F5))) G.ret) G.ret) G.ret) G.ret
    unfold idx?
    rw [if_neg (by omega), if_pos (by omega), Int.toNat_natCast, List.getElem?_append_right (by rw [List.length_map]; exact Nat.le_refl _), List.length_map, Nat.sub_self]
    rfl
  · have F : Fr st3 st6 := (F4.trans F5).trans F6
    refine Ok.cast (m' := cutM (runF cfg2 (n + 201) 56 [.loc fl, .txt 9, .tup [eP (low, low + r)]])) (by kernel_rfl) ((newvar_ok (n + 121) (F.get hf (by omega)) (F.get hv (by omega)) (Nat.lt_of_lt_of_le (show fl < st3.next by omega) F.le) (Nat.lt_of_lt_of_le (show vs < st3.next by omega) F.le) (by omega) (by rw [List.length_map]; omega)).mono fun v st' q => ⟨q.1, F.fr1.trans q.2.1, q.2.2⟩)
  · rintro _ st4 ⟨⟨i, rfl⟩, F, hv'⟩
    have F0 : ∀ k, k < st2.next → k ≠ e → k ≠ vs → st4.objs k = st2.objs k := fun k q1 q2 q3 => (F.at_ k (by omega) q3).trans (by rw [← hS]; exact if_neg q2)
    have hle : st2.next ≤ st4.next := by rw [← hn]; exact F.le
    obtain ⟨k, hk, e0⟩ := hd2.2
    have h0 := hd2.1
    refine Ok.ret (a := (Fl.next, (S "low", .int low) :: (S "place", .int es.length) :: ρ)) ?_
    show Ok (execs _ _ _ _ ((sB (nth (bd 307) 2)).drop 3)) _ _
    refine Ok.done (by decide +kernel) ⟨rfl, ⟨N.pool, N.gath, N.ends, N.feed⟩, ⟨by omega, k, hk, (F0 0 (by omega) (by omega) (by omega)).trans e0⟩, ⟨by omega, P.ne, (F0 p (by omega) (by omega) (by omega)).trans P2.po, P2.th⟩, (low, low + r), ⟨by omega, ⟨md, (F0 g (by omega) (by omega) (by omega)).trans g1⟩, ⟨b1, c1, d1, (F0 fl (by omega) (by omega) (by omega)).trans f1⟩, ?_, ?_, fun q hq => ?_⟩⟩
    · rw [hv', List.map_append]; rfl
    · rw [F.at_ e (by omega) (by omega), he, List.map_append]; rfl
    · rcases List.mem_append.mp hq with hq | hq
      · exact H.be q hq
      · cases List.mem_singleton.mp hq
        exact ⟨bits_le (N := 100) (by show low.natAbs ≤ 100; omega) (by decide +kernel), bits_le (N := 100) (by show (low + r).natAbs ≤ 100; omega) (by decide +kernel)⟩
end
end Mine
end

section
namespace Mine
open PySem
set_option autoImplicit false
set_option maxRecDepth 100000
section
variable {st0 : St}
theorem chk_eq {z : Nat} {st : St} (e : st.objs z = some .pair) : chkO z st = some (.ok (), st) := by
  show M.bind (getO z) _ st = _
  unfold M.bind getO
  rw [e]
  rfl
theorem Ev.eqB {α β : Type} {m : M α} {a : α} {f : α → M β} {st st' : St} {Q : R β → St → Prop} (e : m st = some (.ok a, st')) (h : Ev (f a) st' Q) : Ev (m.bind f) st Q := by
  obtain ⟨r, s2, e2, q⟩ := h
  exact ⟨r, s2, by show M.bind m f st = _; unfold M.bind; rw [e]; exact e2, q⟩
theorem Tn.loopZ {a z : Nat} {f : PV → M Unit} {g : PV → List PV} (qa : st0.next ≤ a) (qz : st0.next ≤ z) (ne : z ≠ a) : ∀ {l : List PV} {st : St} {acc : List PV}, (∀ x, x ∈ l → (g x).length ≤ 1 ∧ Tn st0 a (f x) (g x)) → Fr st0 st → a < st.next → z < st.next → st.objs z = some .pair → st.objs a = some (.list acc) → acc.length + l.length < 1000 →
    Ev (loopU (chkO z) ((chkO z).bind fun _ => setO z none) f l) st fun r st' => r = .ok () ∧ Fr st0 st' ∧ st'.objs a = some (.list (acc ++ l.flatMap g))
  | [], st, acc, _, F, _, _, ez, e, _ => ⟨_, _, by show M.bind (chkO z) _ st = _; unfold M.bind; rw [chk_eq ez]; rfl, rfl, F.put qz, by rw [List.flatMap_nil, List.append_nil]; exact (if_neg (fun w => ne w.symm)).trans e⟩
  | x :: xs, st, acc, hf, F, l1, l2, ez, e, hl => by
    have h := hf x (.head _)
    rw [List.length_cons] at hl
    refine Ev.eqB (m := chkO z) (chk_eq ez) (Ev.bind (m := f x) (h.2 st acc F l1 e (by omega)) (fun _ st1 p => ?_) (fun st' p => by cases p.1))
    refine (Tn.loopZ qa qz ne (fun y hy => hf y (.tail _ hy)) (Fr1.cut F p.2.1 qa) (Nat.lt_of_lt_of_le l1 p.2.1.le) (Nat.lt_of_lt_of_le l2 p.2.1.le) ((p.2.1.at_ z l2 ne).trans ez) p.2.2 (by rw [List.length_append]; omega)).mono fun r st' p' => ⟨p'.1, p'.2.1, ?_⟩
    rw [p'.2.2, List.flatMap_cons, List.append_assoc]
theorem G.zcomp {C : Cfg} {n : Nat} {sc : Scope} {ρ : Locs} {e : PySem.Expr} {vm : M (List PV)} {xs ys : List PV} (g : PV → List PV) (hd : C.hd = false) (h : evalE C (n + 1) sc ρ e = Mine.noExc ((vm.bind zipV).bind fun src => (newO (.list [])).bind fun k =>
          (onSrc C.hd src fun ck fin => loopU ck fin fun x => compTurn C n (compScope sc (cS e)) (xA e 0) (cG e) (stripL (cS e) ρ) k x).bind fun _ => takeO k))
    (hs : G st0 vm [.lst xs, .lst ys]) (hl : (xs.zip ys).length < 1000)
    (hf : ∀ k x, x ∈ ((xs.zip ys).map fun p => PV.tup [p.1, p.2]) → (g x).length ≤ 1 ∧ Tn st0 k (compTurn C n (compScope sc (cS e)) (xA e 0) (cG e) (stripL (cS e) ρ) k x) (g x)) : G st0 (evalE C (n + 1) sc ρ e) (.lst (((xs.zip ys).map fun p => PV.tup [p.1, p.2]).flatMap g)) := by
  refine G.cast h fun st q => Ev.noExc ?_
  rw [hd]
  obtain ⟨r, st1, e1, rfl, F1⟩ := hs st q
  have F1' := q.trans F1
  refine Ev.eqB (a := Src.zip st1.next xs ys) (st' := st1.new .pair) (by show M.bind vm zipV st = _; unfold M.bind; rw [e1]; rfl) (Ev.newO ?_)
  refine Ev.bind (Tn.loopZ (st0 := st1) (a := st1.next + 1) (z := st1.next) (Nat.le_succ _) (Nat.le_refl _) (by omega) (fun x hx => ⟨(hf 0 x hx).1, fun st2 acc q2 => (hf _ x hx).2 st2 acc (F1'.trans q2)⟩) (St.new_fr.trans St.new_fr) (Nat.lt_succ_self _) (by show st1.next < st1.next + 1 + 1; omega) ((St.new_fr.at_ st1.next (Nat.lt_succ_self _)).trans St.new_at) St.new_at (by rw [List.length_map]; simpa using hl)) (fun _ st3 p => ?_) (fun st' p => by cases p.1)
  unfold takeO
  refine Ev.getO p.2.2 ?_
  exact ⟨_, _, rfl, ⟨_, rfl⟩, rfl, (F1.trans p.2.1).put (Nat.le_trans F1.le (Nat.le_succ _))⟩
theorem Tn.turn2 {C : Cfg} {n : Nat} {sc : Scope} {ρ : Locs} {k : Nat} {elt : PySem.Expr} {gn : Comprehension} {u w v : PV} {b : Bool} (y z : Str) (h : compTurn C (n + 1) sc elt gn ρ k (.tup [u, w]) = (M.of (if false = true ∨ y = z ∨ (ρ.lookup y).isSome = true ∨ (ρ.lookup z).isSome = true then none else some ((z, w) :: (y, u) :: ρ))).bind fun ρ => (allT C n sc ρ .And gn.ifs).bind fun b => (match b with | true => (evalE C n sc ρ elt).bind fun v => appO k v | false => M.ret ()))
    (hyz : y ≠ z) (hy : ρ.lookup y = none) (hz : ρ.lookup z = none) (hb : G st0 (allT C n sc ((z, w) :: (y, u) :: ρ) .And gn.ifs) b) (hv : b = true → G st0 (evalE C n sc ((z, w) :: (y, u) :: ρ) elt) v) : Tn st0 k (compTurn C (n + 1) sc elt gn ρ k (.tup [u, w])) (if b = true then [v] else []) := by
  rw [h, hy, hz, if_neg (by rintro (q | q | q | q); cases q; exact hyz q; cases q; cases q)]
  refine Tn.bind (v := (z, w) :: (y, u) :: ρ) G.ret (Tn.bind hb ?_)
  cases b with
  | true => exact Tn.bind (hv rfl) Tn.app
  | false => exact Tn.non
end
noncomputable abbrev lwS (k : Nat) : Stmt := nth (sB (nth (bd 307) 3)) k
noncomputable abbrev duL : PySem.Expr := sE (lwS 3)
noncomputable def gD (f : Int) (x : PV) : List PV := match x with
  | .tup [.int a, .int c] => [.int (a + f * c)]
  | _ => []
theorem due_ok (n : Nat) {st0 : St} {r s : Row} {f : Int} {ρ : Locs} (h1 : ρ.lookup (S "row") = some r.pv) (h2 : ρ.lookup (S "late") = some s.pv) (h3 : ρ.lookup (S "often") = some (.int f)) (hf : bitsOk f = true) (hs : ∀ x, x ∈ s.li → bitsOk x = true) :
    G st0 (exec cfg2 (n + 303) (sk 307) ρ (lwS 3)) (.next, (S "due", (r.plus s f).pv) :: ρ) := by
  refine G.asg (v := (r.plus s f).pv) (by kernel_rfl) ?_ (by kernel_rfl)
  refine G.zcomp (n := n + 301) (xs := r.l) (ys := s.l) (vm := (M.of (ρ.lookup (S "row"))).bind fun v => ((M.of (ρ.lookup (S "late"))).bind fun v => M.ret [v]).bind fun vs => M.ret (v :: vs)) (gD f) rfl (by kernel_rfl) (by rw [h1, h2]; exact G.bind G.ret (G.bind (G.bind G.ret G.ret) G.ret)) (by show 5 < 1000; decide) fun k x hx => ?_
  have hx' : ∃ a c, x = .tup [.int a, .int c] ∧ c ∈ s.li := by
    simp only [Row.l, List.zip_cons_cons, List.zip_nil_left, List.map_cons, List.map_nil, List.mem_cons, List.not_mem_nil, or_false] at hx
    rcases hx with rfl | rfl | rfl | rfl | rfl
    · exact ⟨_, _, rfl, .head _⟩
    · exact ⟨_, _, rfl, .tail _ (.head _)⟩
    · exact ⟨_, _, rfl, .tail _ (.tail _ (.head _))⟩
    · exact ⟨_, _, rfl, .tail _ (.tail _ (.tail _ (.head _)))⟩
    · exact ⟨_, _, rfl, .tail _ (.tail _ (.tail _ (.tail _ (.head _))))⟩
  obtain ⟨a, c, rfl, hc⟩ := hx'
  refine ⟨Nat.le_refl _, Tn.turn2 (b := true) (S "a") (S "c") (by kernel_rfl) (by decide +kernel) (strip_none (by kernel_rfl)) (strip_none (by kernel_rfl)) (G.cast (m' := M.ret true) (by kernel_rfl) G.ret) fun _ => ?_⟩
  refine G.cast (m' := ((M.of ((stripL (cS duL) ρ).lookup (S "often"))).bind fun a => M.of (binP .Mult a (.int c))).bind fun b => M.of (binP .Add (.int a) b)) (by kernel_rfl) ?_
  rw [(strip_free (by kernel_rfl)).trans h3]
  exact G.bind (G.bind G.ret (G.of (mul_ok hf (hs c hc)))) G.ret
end Mine
end

section
namespace Mine
open PySem
set_option autoImplicit false
set_option maxRecDepth 100000
section
variable {cs : List Int} {st : St} {p g fl vs e : Nat} {es : List (Int × Int)} {pl : List (PV × Row)} {b : Nat}
theorem len_loc (n : Nat) {l : List PV} (ho : st.objs p = some (.list l)) (hk : p < st.next) (hl : l.length < 1000) : G st (callV cfg2 (n + 1) (.con (.builtin "len")) [.loc p]) (.int l.length) := by
  refine G.cast (m' := ((getO p).bind fun o => M.of (listO o)).bind fun l => if l.length < 1000000 then M.ret (.int l.length) else M.fail) (by kernel_rfl) (G.bind (v := l) (G.get ho hk G.ret) ?_)
  rw [if_pos (by omega)]
  exact G.ret
theorem pick_ok (n k : Nat) (hl : cs.length ≤ 1000) (hb : b ≤ 900) (hd : Fd cs b st) (P : Pool p pl st) (h0 : 0 < pl.length) (h1 : pl.length < 1000) {po fe : Option PV} (ep : po = some (.loc p)) (ef : fe = some (.loc 0)) :
    Ok ((M.of po).bind fun ov => (((M.of fe).bind fun v => ((((M.of po).bind fun v => M.ret [v]).bind fun vs => callV cfg2 (k + 1) (.con (.builtin "len")) vs).bind fun v => M.ret [v]).bind fun vs => M.ret (v :: vs)).bind fun vs => callV cfg2 (n + 61) (.con (.ref 275)) vs).bind fun iv => itemP ov iv) st
      fun v st' => (∃ q, q ∈ pl ∧ v = pP q) ∧ Fr1 0 st st' ∧ Fd cs (b + 1) st' := by
  subst ep ef
  refine Ok.gb (v := .loc p) G.ret fun st1 F1 => Ok.bind (P := fun v st' => (∃ r : Int, 0 ≤ r ∧ r < pl.length ∧ v = .int r) ∧ Fr1 0 st st' ∧ Fd cs (b + 1) st') (Ok.gb (v := [.loc 0, .int pl.length]) ?_ fun st2 F2 => ?_) ?_
  · refine G.bind G.ret (G.bind (G.bind (v := .int pl.length) (G.bind (G.bind G.ret G.ret) ?_) G.ret) G.ret)
    have := len_loc k (P.fr F1).po (P.fr F1).lt (by rw [List.length_map]; exact h1)
    rw [List.length_map] at this
    exact this
  · refine Ok.cast (m' := cutM (runF cfg2 (n + 60) 275 [.loc 0, .int pl.length])) (by kernel_rfl) ((next_o n (by omega) hb hl (hd.fr (F1.trans F2))).mono fun v st' q => ⟨q.1, (F1.trans F2).fr1.trans q.2.1, q.2.2⟩)
  · rintro _ st3 ⟨⟨r, r0, r1, rfl⟩, F, hd3⟩
    have P3 := P.fr1 F
    have hr : r.toNat < pl.length := by omega
    refine Ok.g (v := pP pl[r.toNat]) (G.get P3.po P3.lt (G.cast (m' := M.of (idx? (pl.map pP) r)) (by kernel_rfl) (G.of ?_))) fun st4 F4 => ⟨⟨_, List.getElem_mem hr, rfl⟩, F.trans F4.fr1, hd3.fr F4⟩
    unfold idx?
    rw [if_neg (by omega), if_pos r0, List.getElem?_map, List.getElem?_eq_getElem hr]
    rfl
theorem Sm.at {r : Row} (h : Sm r) {i : Int} (hi : four i) : big (r.at i) = false := h _ (mem_li r hi)
theorem Sm.c {r : Row} (h : Sm r) : big r.c = false := h _ (c_li r)
theorem Nm.cons {ρ : Locs} (h : Nm p g e ρ) {x : Str} {v : PV} (h1 : (S "pool" == x) = false) (h2 : (S "gatherer" == x) = false) (h3 : (S "ends" == x) = false) (h4 : (S "feed" == x) = false) : Nm p g e ((x, v) :: ρ) :=
  ⟨by rw [List.lookup_cons, h1]; exact h.pool, by rw [List.lookup_cons, h2]; exact h.gath, by rw [List.lookup_cons, h3]; exact h.ends, by rw [List.lookup_cons, h4]; exact h.feed⟩
/-- what holds between the turns -/
structure Iv (cs : List Int) (b p g fl vs e : Nat) (es : List (Int × Int)) (pl : List (PV × Row)) (ρ : Locs) (st : St) : Prop where
  nm : Nm p g e ρ
  fd : Fd cs b st
  po : Pool p pl st
  su : Su p g fl vs e es st
theorem Iv.fr {ρ : Locs} {st' : St} (h : Iv cs b p g fl vs e es pl ρ st) (F : Fr st st') : Iv cs b p g fl vs e es pl ρ st' := ⟨h.nm, h.fd.fr F, h.po.fr F, h.su.fr1 F.fr1⟩
theorem Iv.nx {ρ : Locs} {st' : St} {c : Nat} (h : Iv cs b p g fl vs e es pl ρ st) (F : Fr1 0 st st') (hd : Fd cs c st') : Iv cs c p g fl vs e es pl ρ st' := ⟨h.nm, hd, h.po.fr1 F, h.su.fr1 F⟩
theorem Iv.rho {ρ ρ' : Locs} (h : Iv cs b p g fl vs e es pl ρ st) (N : Nm p g e ρ') : Iv cs b p g fl vs e es pl ρ' st := ⟨N, h.fd, h.po, h.su⟩
/-- the first three statements of a turn -/
theorem turn_a (n : Nat) (hl : cs.length ≤ 1000) (hb : b ≤ 800) (h0 : 0 < pl.length) (h1 : pl.length < 1000) {ρ : Locs} (I : Iv cs b p g fl vs e es pl ρ st) {P : Fl × Locs → St → Prop}
    (hq : ∀ (q q' : PV × Row) (f : Int) (ρ' : Locs) (st' : St), q ∈ pl → q' ∈ pl → f.natAbs ≤ 10 ^ 500 → Iv cs (b + 3) p g fl vs e es pl ρ' st' → ρ'.lookup (S "one") = some q.1 → ρ'.lookup (S "row") = some q.2.pv → ρ'.lookup (S "other") = some q'.1 → ρ'.lookup (S "late") = some q'.2.pv → ρ'.lookup (S "often") = some (.int f) → Ok (execs cfg2 (n + 304) (sk 307) ρ' ((sB (nth (bd 307) 3)).drop 3)) st' P) :
    Ok (execs cfg2 (n + 307) (sk 307) ρ ((sB (nth (bd 307) 3)).drop 0)) st P := by
  refine Ok.stmt 0 (by decide +kernel) (Ok.cast (m' := ((M.of (ρ.lookup (S "pool"))).bind fun ov => (((M.of (ρ.lookup (S "feed"))).bind fun v => ((((M.of (ρ.lookup (S "pool"))).bind fun v => M.ret [v]).bind fun vs => callV cfg2 (n + 299 + 1) (.con (.builtin "len")) vs).bind fun v => M.ret [v]).bind fun vs => M.ret (v :: vs)).bind fun vs => callV cfg2 (n + 303) (.con (.ref 275)) vs).bind fun iv => itemP ov iv).bind fun v => (assignT cfg2 (n + 305) (sk 307) ρ (sT (lwS 0)) v).bind fun ρ => M.ret (.next, ρ)) (by kernel_rfl) (Ok.bind (pick_ok (n + 242) (n + 299) hl (by omega) I.fd I.po h0 h1 I.nm.pool I.nm.feed) ?_))
  rintro _ st1 ⟨⟨q, hq0, rfl⟩, F1, hd1⟩
  rw [show assignT cfg2 (n + 305) (sk 307) ρ (sT (lwS 0)) (pP q) = M.ret ((S "row", q.2.pv) :: (S "one", q.1) :: ρ) from by kernel_rfl]
  refine Ok.ret (a := (Fl.next, (S "row", q.2.pv) :: (S "one", q.1) :: ρ)) ?_
  show Ok (execs _ _ _ _ ((sB (nth (bd 307) 3)).drop 1)) _ _
  have I1 := (I.nx F1 hd1).rho (ρ' := (S "row", q.2.pv) :: (S "one", q.1) :: ρ) ((I.nm.cons (by decide +kernel) (by decide +kernel) (by decide +kernel) (by decide +kernel)).cons (by decide +kernel) (by decide +kernel) (by decide +kernel) (by decide +kernel))
  generalize hρ : (S "row", q.2.pv) :: (S "one", q.1) :: ρ = ρ1 at I1 ⊢
  have l1 : ρ1.lookup (S "one") = some q.1 := by rw [← hρ]; rfl
  have l2 : ρ1.lookup (S "row") = some q.2.pv := by rw [← hρ]; rfl
  refine Ok.stmt 1 (by decide +kernel) (Ok.cast (m' := ((M.of (ρ1.lookup (S "pool"))).bind fun ov => (((M.of (ρ1.lookup (S "feed"))).bind fun v => ((((M.of (ρ1.lookup (S "pool"))).bind fun v => M.ret [v]).bind fun vs => callV cfg2 (n + 298 + 1) (.con (.builtin "len")) vs).bind fun v => M.ret [v]).bind fun vs => M.ret (v :: vs)).bind fun vs => callV cfg2 (n + 302) (.con (.ref 275)) vs).bind fun iv => itemP ov iv).bind fun v => (assignT cfg2 (n + 304) (sk 307) ρ1 (sT (lwS 1)) v).bind fun ρ => M.ret (.next, ρ)) (by kernel_rfl) (Ok.bind (pick_ok (n + 241) (n + 298) hl (by omega) I1.fd I1.po h0 h1 I1.nm.pool I1.nm.feed) ?_))
  rintro _ st2 ⟨⟨q', hq1, rfl⟩, F2, hd2⟩
  rw [show assignT cfg2 (n + 304) (sk 307) ρ1 (sT (lwS 1)) (pP q') = M.ret ((S "late", q'.2.pv) :: (S "other", q'.1) :: ρ1) from by kernel_rfl]
  refine Ok.ret (a := (Fl.next, (S "late", q'.2.pv) :: (S "other", q'.1) :: ρ1)) ?_
  show Ok (execs _ _ _ _ ((sB (nth (bd 307) 3)).drop 2)) _ _
  have I2 := I1.nx F2 hd2
  refine Ok.stmt 2 (by decide +kernel) (Ok.cast (m' := ((((M.of (ρ1.lookup (S "feed"))).bind fun v => M.ret [v, .int 6]).bind fun vs => callV cfg2 (n + 301) (.con (.ref 275)) vs).bind fun iv => itemP (.tup [.int 1, .int (-1), .int 2, .int (-3), .int 0, .int (10 ^ 500)]) iv).bind fun v => M.ret (.next, (S "often", v) :: (S "late", q'.2.pv) :: (S "other", q'.1) :: ρ1)) (by kernel_rfl) (Ok.bind (P := fun v st' => (∃ f : Int, f.natAbs ≤ 10 ^ 500 ∧ v = .int f) ∧ Fr1 0 st2 st' ∧ Fd cs (b + 3) st') (Ok.bind (nextc_ok (n + 240) hl (by decide) (by omega) hd2 I1.nm.feed) ?_) ?_))
  · rintro _ st3 ⟨⟨r, r0, r1, rfl⟩, F3⟩
    have : r = 0 ∨ r = 1 ∨ r = 2 ∨ r = 3 ∨ r = 4 ∨ r = 5 := by omega
    rcases this with rfl | rfl | rfl | rfl | rfl | rfl
    · exact Ok.cast (m' := M.ret (.int 1)) (by kernel_rfl) (.ret ⟨⟨1, by decide +kernel, rfl⟩, F3⟩)
    · exact Ok.cast (m' := M.ret (.int (-1))) (by kernel_rfl) (.ret ⟨⟨-1, by decide +kernel, rfl⟩, F3⟩)
    · exact Ok.cast (m' := M.ret (.int 2)) (by kernel_rfl) (.ret ⟨⟨2, by decide +kernel, rfl⟩, F3⟩)
    · exact Ok.cast (m' := M.ret (.int (-3))) (by kernel_rfl) (.ret ⟨⟨-3, by decide +kernel, rfl⟩, F3⟩)
    · exact Ok.cast (m' := M.ret (.int 0)) (by kernel_rfl) (.ret ⟨⟨0, by decide +kernel, rfl⟩, F3⟩)
    · exact Ok.cast (m' := M.ret (.int (10 ^ 500))) (by kernel_rfl) (.ret ⟨⟨10 ^ 500, by decide +kernel, rfl⟩, F3⟩)
  · rintro _ st3 ⟨⟨f, hf, rfl⟩, F3, hd3⟩
    refine Ok.ret (a := (Fl.next, (S "often", PV.int f) :: (S "late", q'.2.pv) :: (S "other", q'.1) :: ρ1)) ?_
    refine hq q q' f _ st3 hq0 hq1 hf ((I2.nx F3 hd3).rho (((I1.nm.cons (by decide +kernel) (by decide +kernel) (by decide +kernel) (by decide +kernel)).cons (by decide +kernel) (by decide +kernel) (by decide +kernel) (by decide +kernel)).cons (by decide +kernel) (by decide +kernel) (by decide +kernel) (by decide +kernel))) l1 l2 rfl rfl rfl
end
end Mine
end

section
namespace Mine
open PySem
set_option autoImplicit false
set_option maxRecDepth 100000
noncomputable def loE (es : List (Int × Int)) (i : Int) : Int := (es.getD i.toNat (0, 0)).1
noncomputable def hiE (es : List (Int × Int)) (i : Int) : Int := (es.getD i.toNat (0, 0)).2
section
variable {cs : List Int} {st : St} {p g fl vs e : Nat} {es : List (Int × Int)} {pl : List (PV × Row)} {b : Nat}
theorem es_at (h4 : es.length = 4) (f : Int × Int → PV) {i : Int} (hi : four i) : idx? (es.map f) i = some (f (loE es i, hiE es i)) ∧ (loE es i, hiE es i) ∈ es := by
  have hi' : 0 ≤ i ∧ i.toNat < es.length := by unfold four at hi; omega
  have e1 : (loE es i, hiE es i) = es[i.toNat]'hi'.2 := by
    unfold loE hiE
    rw [List.getD_eq_getElem?_getD, List.getElem?_eq_getElem hi'.2]
    rfl
  refine ⟨?_, by rw [e1]; exact List.getElem_mem _⟩
  unfold idx?
  rw [if_neg (by omega), if_pos hi'.1, List.getElem?_map, List.getElem?_eq_getElem hi'.2, e1]
  rfl
theorem Su.ga (h : Su p g fl vs e es st) (h4 : es.length = 4) : Ga g (loE es) (hiE es) st := by
  obtain ⟨⟨o1, o2, o3, o4, o5, o6⟩, ⟨md, h1⟩, ⟨b, c, d, h2⟩, h3, h4', h5⟩ := h
  exact ⟨fl, vs, md, b, c, d, es.map vP, h1, h2, h3, by omega, by omega, by omega, fun i hi => ⟨.txt 9, (es_at h4 vP hi).1⟩⟩
theorem Su.bits (h : Su p g fl vs e es st) (h4 : es.length = 4) {i : Int} (hi : four i) : bitsOk (loE es i) = true ∧ bitsOk (hiE es i) = true := h.be _ (es_at h4 vP hi).2
theorem Su.put (h : Su p g fl vs e es st) {o : Option MO} : Su p g fl vs e es (st.put p o) := by
  obtain ⟨⟨o1, o2, o3, o4, o5, o6⟩, ⟨md, h1⟩, ⟨b, c, d, h2⟩, h3, h4, h5⟩ := h
  exact ⟨⟨o1, o2, o3, o4, o5, o6⟩, ⟨md, (if_neg (by omega)).trans h1⟩, ⟨b, c, d, (if_neg (by omega)).trans h2⟩, (if_neg (by omega)).trans h3, (if_neg (by omega)).trans h4, h5⟩
theorem max_any (hd : Bool) {l : List Int} (hn : l ≠ []) : ∃ m : Int, bestA true hd [.lst ((l.map ab).map .int)] = M.ret (.int m) ∧ decide (m < 10 ^ 1000) = !l.any big := by
  cases l with
  | nil => exact absurd rfl hn
  | cons x r =>
    have q := fold_max (r.map ab) (ab x)
    refine ⟨_, best_max hd (l := (x :: r).map ab) q.1 q.2, ?_⟩
    rw [Bool.eq_iff_iff, decide_eq_true_eq, Bool.not_eq_true', List.any_eq_false]
    constructor
    · intro h y hy hb
      exact absurd (Int.lt_of_le_of_lt (Int.le_trans (of_decide_eq_true hb) (q.2 _ (List.mem_map.mpr ⟨y, hy, rfl⟩))) h) (Int.lt_irrefl _)
    · intro h
      obtain ⟨y, hy, e⟩ := List.mem_map.mp (show _ ∈ (x :: r).map ab from q.1)
      exact Int.not_le.mp fun w => h y hy (decide_eq_true (show 10 ^ 1000 ≤ ab y by rw [e]; exact w))
noncomputable abbrev mxL : PySem.Expr := xA (xA (sE (lwS 5)) 0) 1
theorem mx_comp (n : Nat) {d : Row} {ρ : Locs} (h : ρ.lookup (S "due") = some d.pv) : G st (evalE cfg2 (n + 297) (sk 307) ρ mxL) (.lst ((d.li.map ab).map .int)) := by
  rw [← flat_ab]
  refine G.lcomp (v := d.pv) (l := d.li.map .int) _ (by kernel_rfl) (G.cast (m' := (M.of (ρ.lookup (S "due"))).bind fun v => M.ret (.val v)) (by kernel_rfl) (by rw [h]; exact G.bind G.ret G.ret)) (fun b => rfl) (by show 5 < 1000; decide) fun k x hx => ?_
  obtain ⟨i, _, rfl⟩ := List.mem_map.mp hx
  exact ⟨Nat.le_refl _, Tn.turn (b := true) (S "worth") (by kernel_rfl) (strip_none (by kernel_rfl)) (G.cast (m' := M.ret true) (by kernel_rfl) G.ret) fun _ => G.cast (m' := M.ret (.int (ab i))) (by kernel_rfl) G.ret⟩
theorem mx_test (n : Nat) {d : Row} {ρ : Locs} (h : ρ.lookup (S "due") = some d.pv) : G st (evalT cfg2 (n + 300) (sk 307) ρ (sE (lwS 5))) (!d.li.any big) := by
  obtain ⟨m, e, hm⟩ := max_any false (l := d.li) (by intro h; cases h)
  refine G.cast (m' := (((evalE cfg2 (n + 297) (sk 307) ρ mxL).bind fun v => M.ret [v]).bind fun vs => bestA true false vs).bind fun a => (cmpP .Lt a (.int (10 ^ 1000))).bind fun v => M.of (truthP v)) (by kernel_rfl) ?_
  rw [← hm]
  exact G.bind (G.bind (G.bind (mx_comp n h) G.ret) (G.cast e G.ret)) (G.bind (v := .bool (decide (m < 10 ^ 1000))) G.ret G.ret)
theorem tld_test (n : Nat) {q q' : PV × Row} {f : Int} {ρ : Locs} (ht : Thing q.1 q.2) (ht' : Thing q'.1 q'.2) (hs : Sm q.2) (hs' : Sm q'.2) (hf : bitsOk f = true) (l1 : ρ.lookup (S "one") = some q.1) (l3 : ρ.lookup (S "other") = some q'.1) (l5 : ρ.lookup (S "often") = some (.int f)) (l6 : ρ.lookup (S "due") = some (q.2.plus q'.2 f).pv) :
    G st (exec cfg2 (n + 302) (sk 307) ρ (lwS 4)) (.next, ρ) := by
  refine G.cast (m' := (((((M.of (ρ.lookup (S "one"))).bind fun v => ((M.of (ρ.lookup (S "other"))).bind fun v => ((M.of (ρ.lookup (S "often"))).bind fun v => ((M.of (ρ.lookup (S "due"))).bind fun v => M.ret [v]).bind fun vs => M.ret (v :: vs)).bind fun vs => M.ret (v :: vs)).bind fun vs => M.ret (v :: vs)).bind fun vs => callV cfg2 (n + 298) (.con (.ref 292)) vs).bind fun v => M.of (truthP v)).bind fun b => M.ret (!b)).bind fun t => ifB t (execs cfg2 (n + 301) (sk 307) ρ (sB (lwS 4))) (M.ret (.next, ρ))) (by kernel_rfl) ?_
  rw [l1, l3, l5, l6]
  refine G.bind (v := false) (G.bind (v := true) (G.bind (v := .bool true) (G.bind (G.bind G.ret (G.bind (G.bind G.ret (G.bind (G.bind G.ret (G.bind (G.bind G.ret G.ret) G.ret)) G.ret)) G.ret)) ?_) G.ret) G.ret) G.ret
  exact G.cast (m' := cutM (runF cfg2 (n + 297) 292 [q.1, q'.1, .int f, (q.2.plus q'.2 f).pv])) (by kernel_rfl) (is_told_ok (n + 207) ht ht' hf (fun i hi => bits_of (hs'.at hi)) (bits_of hs'.c) (fun i hi => hs.at hi) st)
theorem last_item {pl : List (PV × Row)} {q : PV × Row} : idx? ((pl ++ [q]).map pP) (-1) = some (pP q) := by
  unfold idx?
  rw [List.map_append, List.length_append, List.length_map, if_neg (by decide), if_neg (by decide), if_pos (by show -((pl.length + 1 : Nat) : Int) ≤ -1; omega)]
  rw [show (-1 + ((pl.length + (([q] : List (PV × Row)).map pP).length : Nat) : Int)).toNat = pl.length by show (-1 + ((pl.length + 1 : Nat) : Int)).toNat = _; omega]
  rw [List.getElem?_append_right (by rw [List.length_map]; exact Nat.le_refl _), List.length_map, Nat.sub_self]
  rfl
theorem meth_bounds {a c : PV} (h : st.objs g = some (gaO a c)) (q : g < st.next) : G st (methK cfg2 (.loc g) (S "bounds")) (.fn 186) := G.get h q (G.cast (m' := M.ret (MK.fn 186)) (by kernel_rfl) G.ret)
theorem ne_pair (a b : Int) : ((cmpP .NotEq (.tup [.int a, .int b]) (.tup [.int a, .int b])).bind fun v => M.of (truthP v)) = M.ret false := by
  have e : ((cmpP .NotEq (.tup [.int a, .int b]) (.tup [.int a, .int b])).bind fun v => M.of (truthP v)) = M.ret ((a == a && (b == b && true)) != true) := by kernel_rfl
  rw [e, beq_self_eq_true, beq_self_eq_true]
  rfl
theorem bnd_test (n : Nat) {d : Row} (hs : Sm d) (h4 : es.length = 4) {ρ : Locs} (I : Iv cs b p g fl vs e es (pl ++ [(d.told, d)]) ρ st) (l6 : ρ.lookup (S "due") = some d.pv) : Ok (exec cfg2 (n + 298) (sk 307) ρ (nth (sB (lwS 5)) 1)) st fun r st' => r = (.next, ρ) ∧ Fr st st' := by
  obtain ⟨md, g1⟩ := I.su.go
  have o6 := I.su.ord
  have hb : ∀ i, four i → bitsOk (d.at i) = true := fun i hi => bits_of (hs.at hi)
  refine Ok.cast (m' := (((M.of (ρ.lookup (S "gatherer"))).bind fun ov => (methK cfg2 ov (S "bounds")).bind fun mk => ((((M.of (ρ.lookup (S "pool"))).bind fun ov => itemP ov (.int (-1))).bind fun ov => itemP ov (.int 0)).bind fun v => M.ret [v]).bind fun vs => methApp cfg2 (n + 295) ov mk vs).bind fun a =>
    (((M.of (ρ.lookup (S "due"))).bind fun v => ((M.of (ρ.lookup (S "ends"))).bind fun v => M.ret [v]).bind fun vs => M.ret (v :: vs)).bind fun vs => callV cfg2 (n + 295) (.con (.ref 297)) vs).bind fun b => (cmpP .NotEq a b).bind fun v => M.of (truthP v)).bind fun t => ifB t (execs cfg2 (n + 297) (sk 307) ρ (sB (nth (sB (lwS 5)) 1))) (M.ret (.next, ρ))) (by kernel_rfl) ?_
  rw [I.nm.gath, I.nm.pool, I.nm.ends, l6]
  refine Ok.bind (P := fun t st' => t = false ∧ Fr st st') (Ok.gb (v := .tup [.int (d.c + sm (mnA (loE es) (hiE es)) d.all), .int (d.c + sm (mxA (loE es) (hiE es)) d.all)]) ?_ fun st1 F => ?_) ?_
  · refine G.bind G.ret (G.bind (meth_bounds g1 (by omega)) (G.bind (v := [d.told]) (G.bind (v := d.told) (G.bind (v := pP (d.told, d)) (G.bind G.ret (G.get I.po.po I.po.lt (G.cast (m' := M.of (idx? ((pl ++ [(d.told, d)]).map pP) (-1))) (by kernel_rfl) (G.of last_item)))) (G.cast (m' := M.ret d.told) (by kernel_rfl) G.ret)) G.ret) ?_))
    exact G.cast (m' := cutM (runF cfg2 (n + 294) 186 [.loc g, d.told])) (by kernel_rfl) (bounds_ok (n + 204) (Thing.told d) (I.su.ga h4) (fun i hi => I.su.bits h4 hi) hb)
  · have I1 := I.fr F
    have m1 := ends_mn d (loE es) (hiE es)
    have m2 := ends_mx d (loE es) (hiE es)
    refine Ok.bind (P := fun v st2 => v = .tup [.int (d.c + sm (mnA (loE es) (hiE es)) d.all), .int (d.c + sm (mxA (loE es) (hiE es)) d.all)] ∧ Fr st1 st2) (Ok.gb (v := [d.pv, .loc e]) (G.bind G.ret (G.bind (G.bind G.ret G.ret) G.ret)) fun st2 F2 => ?_) ?_
    · have I2 := I1.fr F2
      exact Ok.cast (m' := cutM (runF cfg2 (n + 294) 297 [d.pv, .loc e])) (by kernel_rfl) ((reached_ok (n + 204) I2.su.eo I2.su.ord.2.2.2.2.2 (fun i hi => (es_at h4 eP hi).1) hb (fun i hi => I.su.bits h4 hi) m1.1 m1.2 m2.1 m2.2).mono fun v st3 q => ⟨q.1, F2.trans q.2⟩)
    · rintro _ st2 ⟨rfl, F2⟩
      exact Ok.cast (ne_pair _ _) (.ret ⟨rfl, F.trans F2⟩)
  · rintro _ st1 ⟨rfl, F⟩
    exact Ok.ret (a := (Fl.next, ρ)) ⟨rfl, F⟩
end
end Mine
end

section
namespace Mine
open PySem
set_option autoImplicit false
set_option maxRecDepth 100000
section
variable {cs : List Int} {st : St} {p g fl vs e : Nat} {es : List (Int × Int)} {pl : List (PV × Row)} {b : Nat}
theorem big_bits {f : Int} (h : f.natAbs ≤ 10 ^ 500) : bitsOk f = true := bits_le h (by decide +kernel)
theorem turn_b (n : Nat) (h4 : es.length = 4) {q q' : PV × Row} {f : Int} {ρ : Locs} (I : Iv cs b p g fl vs e es pl ρ st) (h1 : pl.length < 900) (hq : q ∈ pl) (hq' : q' ∈ pl) (hf : f.natAbs ≤ 10 ^ 500)
    (l1 : ρ.lookup (S "one") = some q.1) (l2 : ρ.lookup (S "row") = some q.2.pv) (l3 : ρ.lookup (S "other") = some q'.1) (l4 : ρ.lookup (S "late") = some q'.2.pv) (l5 : ρ.lookup (S "often") = some (.int f)) :
    Ok (execs cfg2 (n + 304) (sk 307) ρ ((sB (nth (bd 307) 3)).drop 3)) st fun r st' => r.1 = .next ∧ ∃ pl', pl'.length ≤ pl.length + 1 ∧ pl.length ≤ pl'.length ∧ Iv cs b p g fl vs e es pl' r.2 st' := by
  have T := I.po.th q hq
  have T' := I.po.th q' hq'
  refine Ok.nextG (L := sB (nth (bd 307) 3)) 3 (by decide +kernel) (due_ok n l2 l4 l5 (big_bits hf) fun x hx => bits_of (T'.2 x hx)) fun st1 F1 => ?_
  have I1 := (I.fr F1).rho (ρ' := (S "due", (q.2.plus q'.2 f).pv) :: ρ) (I.nm.cons (by decide +kernel) (by decide +kernel) (by decide +kernel) (by decide +kernel))
  generalize hρ : (S "due", (q.2.plus q'.2 f).pv) :: ρ = ρ1 at I1 ⊢
  have l6 : ρ1.lookup (S "due") = some (q.2.plus q'.2 f).pv := by rw [← hρ]; rfl
  refine Ok.nextG (L := sB (nth (bd 307) 3)) 4 (by decide +kernel) (tld_test n T.1 T'.1 T.2 T'.2 (big_bits hf) (by rw [← hρ]; exact l1) (by rw [← hρ]; exact l3) (by rw [← hρ]; exact l5) l6) fun st2 F2 => ?_
  have I2 := I1.fr F2
  generalize q.2.plus q'.2 f = d at l6
  refine Ok.stmt (L := sB (nth (bd 307) 3)) 5 (by decide +kernel) (Ok.if_ (P := fun t st3 => t = (!d.li.any big) ∧ Fr st2 st3) (by kernel_rfl) (Ok.g (mx_test n l6) fun st3 F3 => ⟨rfl, F3⟩) (fun st3 h3 => ?_) (fun st3 h3 => ?_))
  · obtain ⟨hb, F3⟩ := h3
    have I3 := I2.fr F3
    have hs : Sm d := fun x hx => by
      cases hx' : big x with
      | false => rfl
      | true => rw [List.any_eq_true.mpr ⟨x, hx, hx'⟩] at hb; cases hb
    refine Ok.stmt (L := sB (lwS 5)) 0 (by decide +kernel) (Ok.cast (m' := ((M.of (ρ1.lookup (S "pool"))).bind fun ov => (methK cfg2 ov (S "append")).bind fun mk => ((((((M.of (ρ1.lookup (S "due"))).bind fun v => M.ret [v]).bind fun vs => callV cfg2 (n + 293) (.con (.ref 287)) vs).bind fun v => ((M.of (ρ1.lookup (S "due"))).bind fun v => M.ret [v]).bind fun vs => M.ret (v :: vs)).bind fun vs => M.ret (PV.tup vs)).bind fun v => M.ret [v]).bind fun vs => methApp cfg2 (n + 296 + 1) ov mk vs).bind fun v => if oneV v = true then M.ret (.next, ρ1) else M.fail) (by kernel_rfl)
      (Ok.append (by rw [I3.nm.pool]; rfl) I3.po.po (by rw [List.length_map]; omega) ?_))
    refine Ok.g (v := [pP (d.told, d)]) ?_ fun st4 F4 => ⟨_, rfl, F4.get I3.po.po I3.po.lt, ?_⟩
    · rw [l6]
      refine G.bind (G.bind (v := [d.told, d.pv]) (G.bind (v := d.told) (G.bind G.ret (G.cast (m' := cutM (runF cfg2 (n + 292) 287 [d.pv])) (by kernel_rfl) (told_ok (n + 232) d st3))) (G.bind (G.bind G.ret G.ret) G.ret)) G.ret) G.ret
    · have I4 := I3.fr F4
      have I5 : Iv cs b p g fl vs e es (pl ++ [(d.told, d)]) ρ1 (st4.put p (some (.list (pl.map pP ++ [pP (d.told, d)])))) := ⟨I4.nm, I4.fd.put I4.po.ne, ⟨I4.po.lt, I4.po.ne, by rw [List.map_append]; exact St.put_at, fun z hz => by
        rcases List.mem_append.mp hz with hz | hz
        · exact I4.po.th z hz
        · cases List.mem_singleton.mp hz; exact ⟨.told d, hs⟩⟩, I4.su.put⟩
      show Ok (execs _ _ _ _ ((sB (lwS 5)).drop 1)) _ _
      refine Ok.stmt (L := sB (lwS 5)) 1 (by decide +kernel) ((bnd_test n hs h4 I5 l6).mono ?_)
      rintro _ st6 ⟨rfl, F6⟩
      refine Ok.done (L := sB (lwS 5)) (by decide +kernel) (Ok.done (L := sB (nth (bd 307) 3)) (by decide +kernel) ⟨rfl, _, Nat.le_of_eq (by rw [List.length_append, List.length_singleton]), by rw [List.length_append]; exact Nat.le_add_right _ _, I5.fr F6⟩)
  · exact Ok.done (L := sO (lwS 5)) (by decide +kernel) (Ok.done (L := sB (nth (bd 307) 3)) (by decide +kernel) ⟨rfl, pl, Nat.le_succ _, Nat.le_refl _, I2.fr h3.2⟩)
/-- between the turns -/
noncomputable def LpL (cs : List Int) (B p g fl vs e : Nat) (es : List (Int × Int)) (xs : List PV) (ρ : Locs) (st : St) : Prop := ∃ c pl, c + 3 * xs.length ≤ B ∧ 0 < pl.length ∧ pl.length + xs.length ≤ 20 ∧ Iv cs c p g fl vs e es pl ρ st
theorem loop_turn (n : Nat) (hl : cs.length ≤ 1000) (h4 : es.length = 4) {B : Nat} (hB : B ≤ 700) (x : PV) (xs : List PV) (ρ : Locs) (st : St) (h : LpL cs B p g fl vs e es (x :: xs) ρ st) :
    Ok ((assignT cfg2 (n + 307) (sk 307) ρ (sT (nth (bd 307) 3)) x).bind fun ρ => execs cfg2 (n + 307) (sk 307) ρ (sB (nth (bd 307) 3))) st fun r st' => r.1 = .next ∧ LpL cs B p g fl vs e es xs r.2 st' := by
  obtain ⟨c, pl, hc, h0, h1, I⟩ := h
  rw [List.length_cons] at hc h1
  rw [show assignT cfg2 (n + 307) (sk 307) ρ (sT (nth (bd 307) 3)) x = M.ret ((S "lap", x) :: ρ) from by kernel_rfl]
  show Ok (execs cfg2 (n + 307) (sk 307) _ ((sB (nth (bd 307) 3)).drop 0)) st _
  refine turn_a n hl (by omega) h0 (by omega) (I.rho (ρ' := (S "lap", x) :: ρ) (I.nm.cons (by decide +kernel) (by decide +kernel) (by decide +kernel) (by decide +kernel))) fun q q' f ρ' st' hq hq' hf I' l1 l2 l3 l4 l5 => ?_
  refine (turn_b n h4 I' (by omega) hq hq' hf l1 l2 l3 l4 l5).mono fun r st2 z => ?_
  obtain ⟨z1, pl', z2, z3, I2⟩ := z
  exact ⟨z1, c + 3, pl', by omega, by omega, by omega, I2⟩
/-- the set-up's loop -/
noncomputable def LpE (cs : List Int) (p g fl vs e : Nat) (pl : List (PV × Row)) (xs : List PV) (ρ : Locs) (st : St) : Prop := ∃ c es, xs = (([0, 1, 2, 3] : List Nat).drop es.length).map (fun k : Nat => PV.int k) ∧ es.length ≤ 4 ∧ c + 2 * xs.length ≤ 40 ∧ Nm p g e ρ ∧ Fd cs c st ∧ Pool p pl st ∧ Su p g fl vs e es st
theorem set_loop (n : Nat) (hl : cs.length ≤ 1000) (x : PV) (xs : List PV) (ρ : Locs) (st : St) (h : LpE cs p g fl vs e pl (x :: xs) ρ st) :
    Ok ((assignT cfg2 (n + 207) (sk 307) ρ (sT (nth (bd 307) 2)) x).bind fun ρ => execs cfg2 (n + 207) (sk 307) ρ (sB (nth (bd 307) 2))) st fun r st' => r.1 = .next ∧ LpE cs p g fl vs e pl xs r.2 st' := by
  obtain ⟨c, es, hx, h4, hc, N, hd, P, H⟩ := h
  rw [List.length_cons] at hc
  have hlt : es.length < 4 := by
    rcases Nat.lt_or_ge es.length 4 with q | q
    · exact q
    · rw [List.drop_eq_nil_of_le q] at hx; cases hx
  rw [List.drop_eq_getElem_cons hlt] at hx
  have e1 : ([0, 1, 2, 3] : List Nat)[es.length]'hlt = es.length := by
    have : es.length = 0 ∨ es.length = 1 ∨ es.length = 2 ∨ es.length = 3 := by omega
    rcases this with q | q | q | q <;> simp only [q] <;> rfl
  rw [e1] at hx
  cases hx
  refine (end_turn n hl (by omega) hlt hd P H N).mono fun r st' z => ?_
  obtain ⟨z1, z2, z3, z4, q, z5⟩ := z
  exact ⟨z1, c + 2, es ++ [q], by rw [List.length_append]; rfl, by rw [List.length_append, List.length_singleton]; omega, by omega, z2, z3, z4, z5⟩
end
end Mine
end

section
namespace Mine
open PySem
set_option autoImplicit false
set_option maxRecDepth 100000
section
variable {cs : List Int} {st : St} {b : Nat}
theorem great_ok (n : Nat) (hl : cs.length ≤ 1000) (hb : b ≤ 800) {ρ : Locs} (hd : Fd cs b st) (ef : ρ.lookup (S "feed") = some (.loc 0)) : Ok (exec cfg2 (n + 278) (sk 307) ρ (nth (bd 307) 4)) st fun r st' => ∃ gr : Int, 0 < gr ∧ gr.natAbs ≤ 10 ^ 20 ∧ r = (.next, (S "great", .int gr) :: ρ) ∧ Fd cs (b + 2) st' := by
  refine Ok.cast (m' := (((((M.of (ρ.lookup (S "feed"))).bind fun v => M.ret [v, .int 30]).bind fun vs => callV cfg2 (n + 274) (.con (.ref 275)) vs).bind fun a => ((((M.of (ρ.lookup (S "feed"))).bind fun v => M.ret [v, .int 2]).bind fun vs => callV cfg2 (n + 273) (.con (.ref 275)) vs).bind fun iv => itemP (.tup [.int 1, .int (10 ^ 18)]) iv).bind fun b => M.of (binP .Mult a b)).bind fun b => M.of (binP .Add (.int 1) b)).bind fun v => M.ret (.next, (S "great", v) :: ρ)) (by kernel_rfl) ?_
  refine Ok.bind (P := fun v st' => ∃ gr : Int, 0 < gr ∧ gr.natAbs ≤ 10 ^ 20 ∧ v = .int gr ∧ Fd cs (b + 2) st') (Ok.bind (P := fun v st' => ∃ gr : Int, 0 ≤ gr ∧ gr.natAbs ≤ 30 * 10 ^ 18 ∧ v = .int gr ∧ Fd cs (b + 2) st') (Ok.bind (nextc_ok (n + 213) hl (by decide) (by omega) hd ef) ?_) ?_) ?_
  · rintro _ st1 ⟨⟨r, r0, r1, rfl⟩, F1, hd1⟩
    refine Ok.bind (P := fun v st' => ∃ t : Int, 0 ≤ t ∧ t.natAbs ≤ 10 ^ 18 ∧ v = .int t ∧ Fd cs (b + 2) st') (Ok.bind (nextc_ok (n + 212) hl (by decide) (by omega) hd1 ef) ?_) ?_
    · rintro _ st2 ⟨⟨w, w0, w1, rfl⟩, F2, hd2⟩
      have : w = 0 ∨ w = 1 := by omega
      rcases this with rfl | rfl
      · exact Ok.cast (m' := M.ret (.int 1)) (by kernel_rfl) (.ret ⟨1, by decide, by decide, rfl, hd2⟩)
      · exact Ok.cast (m' := M.ret (.int (10 ^ 18))) (by kernel_rfl) (.ret ⟨10 ^ 18, by decide +kernel, by decide +kernel, rfl, hd2⟩)
    · rintro _ st2 ⟨t, t0, t1, rfl, hd2⟩
      have ht : (r * t).natAbs ≤ 30 * 10 ^ 18 := by rw [Int.natAbs_mul]; exact Nat.mul_le_mul (by omega) t1
      exact Ok.of (mul_ok (bits_le (N := 30) (by omega) (by decide +kernel)) (bits_le t1 (by decide +kernel))) ⟨r * t, Int.mul_nonneg r0 t0, ht, rfl, hd2⟩
  · rintro _ st1 ⟨x, x0, x1, rfl, hd1⟩
    exact Ok.ret (a := PV.int (1 + x)) ⟨1 + x, by omega, by omega, rfl, hd1⟩
  · rintro _ st1 ⟨gr, g0, g1, rfl, hd1⟩
    exact Ok.ret (a := (Fl.next, (S "great", PV.int gr) :: ρ)) ⟨gr, g0, g1, rfl, hd1⟩
theorem Ok.turn {C : Cfg} {n : Nat} {sc : Scope} {ρ : Locs} {k : Nat} {elt : PySem.Expr} {gn : Comprehension} {x : PV} {P : Unit → St → Prop} (y : Str) (h : compTurn C (n + 1) sc elt gn ρ k x = (M.of (if (ρ.lookup y).isSome then none else some ((y, x) :: ρ))).bind fun ρ => (allT C n sc ρ .And gn.ifs).bind fun b => (match b with | true => (evalE C n sc ρ elt).bind fun v => Mine.appO k v | false => M.ret ()))
    (hy : ρ.lookup y = none) (ha : allT C n sc ((y, x) :: ρ) .And gn.ifs = M.ret true) (hv : Ok ((evalE C n sc ((y, x) :: ρ) elt).bind fun v => Mine.appO k v) st P) : Ok (compTurn C (n + 1) sc elt gn ρ k x) st P := by
  rw [h, hy]
  refine Ok.bind (P := fun r st' => r = (y, x) :: ρ ∧ st' = st) (Ok.of (a := (y, x) :: ρ) rfl ⟨rfl, rfl⟩) ?_
  rintro _ _ ⟨rfl, rfl⟩
  rw [ha]
  exact hv
noncomputable abbrev maL : PySem.Expr := sE (nth (bd 307) 5)
theorem upTo_len : ∀ (k : Nat) (a : Int), (upTo a k).length = k
  | 0, _ => rfl
  | k + 1, a => by
    show (upTo (a + 1) k).length + 1 = k + 1
    rw [upTo_len k]
theorem many_ok (n : Nat) (hl : cs.length ≤ 1000) (hb : b ≤ 800) {ρ : Locs} (hd : Fd cs b st) (ef : ρ.lookup (S "feed") = some (.loc 0)) : Ok (exec cfg2 (n + 278) (sk 307) ρ (nth (bd 307) 5)) st fun r _ => ∃ l : List Int, l.length ≤ 5 ∧ (∀ a, a ∈ l → a.natAbs ≤ 12) ∧ r = (.next, (S "many", .lst (l.map .int)) :: ρ) := by
  refine Ok.cast (m' := (Mine.noExc (((((((M.of (ρ.lookup (S "feed"))).bind fun v => M.ret [v, .int 6]).bind fun vs => callV cfg2 (n + 272) (.con (.ref 275)) vs).bind fun v => M.ret [v]).bind fun vs => callV cfg2 (n + 274) (.con (.type "range")) vs).bind fun v => M.ret (Src.val v)).bind fun src => (newO (.list [])).bind fun k => (onSrc cfg2.hd src fun ck fin => loopU ck fin fun x => compTurn cfg2 (n + 276) (compScope (sk 307) (cS maL)) (xA maL 0) (cG maL) (stripL (cS maL) ρ) k x).bind fun _ => takeO k)).bind fun v => M.ret (.next, (S "many", v) :: ρ)) (by kernel_rfl) ?_
  refine Ok.map (Ok.noExc (Ok.bind (P := fun v st' => (∃ r : Int, 0 ≤ r ∧ r < 6 ∧ v = .val (.rng 0 r)) ∧ Fd cs (b + 1) st') (Ok.map (Ok.bind (P := fun vs st' => (∃ r : Int, 0 ≤ r ∧ r < 6 ∧ vs = [.int r]) ∧ Fd cs (b + 1) st') (Ok.map (Ok.mono (nextc_ok (n + 211) hl (by decide) (by omega) hd ef) ?_)) ?_)) ?_))
  · rintro _ st1 ⟨⟨r, r0, r1, rfl⟩, _, hd1⟩
    exact ⟨⟨r, r0, r1, rfl⟩, hd1⟩
  · rintro _ st1 ⟨⟨r, r0, r1, rfl⟩, hd1⟩
    exact Ok.cast (m' := M.ret (.rng 0 r)) (by kernel_rfl) (.ret ⟨⟨r, r0, r1, rfl⟩, hd1⟩)
  · rintro _ st1 ⟨⟨r, r0, r1, rfl⟩, hd1⟩
    refine Ok.newO ?_
    have e1 : ∀ body : List PV → M Unit, onItems cfg2.hd (.rng 0 r) body = body (upTo 0 (r - 0).toNat) := fun body => by
      show (if cfg2.hd ∨ 1000000 < (0 : Int).natAbs ∨ 1000000 < r.natAbs then M.fail else body (upTo 0 (r - 0).toNat)) = _
      rw [if_neg (by rintro (h | h | h); exact absurd h (by decide +kernel); exact absurd h (by decide); omega)]
    have hk0 : st1.next ≠ 0 := Nat.ne_of_gt hd1.1
    have ef' : (stripL (cS maL) ρ).lookup (S "feed") = some (.loc 0) := (strip_free (by kernel_rfl)).trans ef
    show Ok ((onItems cfg2.hd (.rng 0 r) fun l => loopU (M.ret ()) (M.ret ()) (fun x => compTurn cfg2 (n + 276) (compScope (sk 307) (cS maL)) (xA maL 0) (cG maL) (stripL (cS maL) ρ) st1.next x) l).bind fun _ => takeO st1.next) _ _
    rw [e1]
    refine Ok.bind (Ok.loopU (fun xs st' => ∃ (c : Nat) (l : List Int), c + xs.length ≤ b + 6 ∧ l.length + xs.length ≤ 5 ∧ (∀ a : Int, a ∈ l → a.natAbs ≤ 12) ∧ st1.next < st'.next ∧ st'.objs st1.next = some (.list (l.map .int)) ∧ Fd cs c st') ?_ ?_) ?_
    · refine ⟨b + 1, [], by rw [upTo_len]; omega, by rw [upTo_len]; show 0 + _ ≤ 5; omega, (fun _ q => nomatch q), Nat.lt_succ_self _, St.new_at, hd1.fr St.new_fr⟩
    · rintro x xs st2 ⟨c, l, hc, hl5, ha, hlt, ho, hd2⟩
      rw [List.length_cons] at hc hl5
      refine Ok.turn (S "lap") (by kernel_rfl) (strip_none (by kernel_rfl)) (by kernel_rfl) (Ok.cast (m' := ((((M.of ((stripL (cS maL) ρ).lookup (S "feed"))).bind fun v => M.ret [v, .int 25]).bind fun vs => callV cfg2 (n + 273) (.con (.ref 275)) vs).bind fun a => M.of (binP .Sub a (.int 12))).bind fun v => appO st1.next v) (by kernel_rfl) (Ok.bind (P := fun v st' => (∃ a : Int, a.natAbs ≤ 12 ∧ v = .int a) ∧ Fr1 0 st2 st' ∧ Fd cs (c + 1) st') (Ok.bind (nextc_ok (n + 212) hl (by decide) (by omega) hd2 ef') ?_) ?_))
      · rintro _ st3 ⟨⟨w, w0, w1, rfl⟩, q⟩
        exact Ok.ret (a := PV.int (w - 12)) ⟨⟨w - 12, by omega, rfl⟩, q⟩
      · rintro _ st3 ⟨⟨a, ha', rfl⟩, F3, hd3⟩
        refine Ok.appO ((F3.at_ _ hlt hk0).trans ho) (by rw [List.length_map]; omega) ⟨c + 1, l ++ [a], by omega, by rw [List.length_append, List.length_singleton]; omega, fun z hz => ?_, Nat.lt_of_lt_of_le hlt F3.le, by rw [List.map_append]; exact St.put_at, hd3.put hk0⟩
        rcases List.mem_append.mp hz with hz | hz
        · exact ha z hz
        · cases List.mem_singleton.mp hz; exact ha'
    · rintro _ st2 ⟨c, l, hc, hl5, ha, hlt, ho, hd2⟩
      unfold takeO
      refine Ok.get ho (Ok.set (f := fun _ => M.ret (PV.lst (l.map .int))) (.ret ⟨l, by have : l.length + 0 ≤ 5 := hl5; omega, ha, rfl⟩))
end
end Mine
end

section
namespace Mine
open PySem
set_option autoImplicit false
set_option maxRecDepth 100000
section
variable {st : St} {l : List Int} {gr : Int}
noncomputable def gM (t : Int) (x : PV) : List PV := match x with
  | .int i => [.int (i * t)]
  | _ => []
theorem flat_gM (t : Int) : ∀ l : List Int, (l.map PV.int).flatMap (gM t) = (l.map (· * t)).map PV.int
  | [] => rfl
  | a :: l => by
    rw [List.map_cons, List.flatMap_cons, flat_gM t l]
    rfl
/-- a comprehension that takes all of many so often -/
theorem mul_comp (m : Nat) {ρ : Locs} {e : PySem.Expr} (h : evalE cfg2 (m + 2) (sk 307) ρ e = Mine.noExc ((srcE cfg2 (m + 1) (sk 307) ρ (cG e).target (xA e 1)).bind fun src => (newO (.list [])).bind fun k =>
          (onSrc cfg2.hd src fun ck fin => loopU ck fin fun x => compTurn cfg2 (m + 1) (compScope (sk 307) (cS e)) (xA e 0) (cG e) (stripL (cS e) ρ) k x).bind fun _ => takeO k))
    (hs : srcE cfg2 (m + 1) (sk 307) ρ (cG e).target (xA e 1) = (M.of (ρ.lookup (S "many"))).bind fun v => M.ret (.val v))
    (ht : ∀ ρ' k x, compTurn cfg2 (m + 1) (compScope (sk 307) (cS e)) (xA e 0) (cG e) ρ' k x = (M.of (if (ρ'.lookup (S "k")).isSome then none else some ((S "k", x) :: ρ'))).bind fun ρ => (allT cfg2 m (compScope (sk 307) (cS e)) ρ .And (cG e).ifs).bind fun b => (match b with | true => (evalE cfg2 m (compScope (sk 307) (cS e)) ρ (xA e 0)).bind fun v => appO k v | false => M.ret ()))
    (ha : ∀ ρ', allT cfg2 m (compScope (sk 307) (cS e)) ρ' .And (cG e).ifs = M.ret true) (hv : ∀ ρ' i, evalE cfg2 m (compScope (sk 307) (cS e)) ((S "k", .int i) :: ρ') (xA e 0) = (M.of (ρ'.lookup (S "great"))).bind fun b => M.of (binP .Mult (.int i) b))
    (hk : ((cS e).names.lookup (S "k") == some .free) = false) (hf : (cS e).names.lookup (S "great") = some .free) (e1 : ρ.lookup (S "many") = some (.lst (l.map .int))) (e2 : ρ.lookup (S "great") = some (.int gr)) (hl : l.length < 1000) (hb : ∀ a, a ∈ l → bitsOk a = true) (hg : bitsOk gr = true) : G st (evalE cfg2 (m + 2) (sk 307) ρ e) (.lst ((l.map (· * gr)).map .int)) := by
  rw [← flat_gM]
  refine G.lcomp (v := .lst (l.map .int)) _ h (G.cast hs (by rw [e1]; exact G.bind G.ret G.ret)) (fun _ => rfl) (by rw [List.length_map]; exact hl) fun k x hx => ?_
  obtain ⟨i, hi, rfl⟩ := List.mem_map.mp hx
  refine ⟨Nat.le_refl _, Tn.turn (b := true) (S "k") (ht _ k _) (strip_none hk) (G.cast (ha _) G.ret) fun _ => G.cast (hv _ i) ?_⟩
  rw [(strip_free hf).trans e2]
  exact G.bind G.ret (G.of (mul_ok (hb i hi) hg))
theorem some_ok (n : Nat) {ρ : Locs} (e1 : ρ.lookup (S "many") = some (.lst (l.map .int))) (e2 : ρ.lookup (S "great") = some (.int gr)) (hl : l.length < 1000) (hb : ∀ a, a ∈ l → bitsOk a = true) (hg : bitsOk gr = true) : G st (exec cfg2 (n + 278) (sk 307) ρ (nth (bd 307) 6)) (.next, (S "some", .lst ((l.map (· * gr)).map .int)) :: ρ) :=
  G.asg (by kernel_rfl) (mul_comp (n + 275) (by kernel_rfl) (by kernel_rfl) (fun ρ' k i => by kernel_rfl) (fun ρ' => by kernel_rfl) (fun ρ' i => by kernel_rfl) (by kernel_rfl) (by kernel_rfl) e1 e2 hl hb hg) (by kernel_rfl)
theorem eqvAll_i : ∀ l : List Int, PyData.eqvAll (l.map .int) (l.map .int) = true
  | [] => rfl
  | a :: r => by
    have e : PyData.eqvAll ((a :: r).map .int) ((a :: r).map .int) = ((a == a) && PyData.eqvAll (r.map .int) (r.map .int)) := by kernel_rfl
    rw [e, eqvAll_i r, beq_self_eq_true]
    rfl
theorem eq_lst (l : List Int) : cmpP .Eq (.lst (l.map .int)) (.lst (l.map .int)) = M.ret (.bool true) := by
  have e : cmpP .Eq (.lst (l.map .int)) (.lst (l.map .int)) = M.of ((eqv (.lst (l.map .int)) (.lst (l.map .int))).map fun x => .bool (x != false)) := by kernel_rfl
  rw [e]
  unfold eqv
  rw [toPy_l]
  show M.of (some (PV.bool (PyData.eqv (.list (l.map .int)) (.list (l.map .int)) != false))) = _
  have q : PyData.eqv (.list (l.map .int)) (.list (l.map .int)) = PyData.eqvAll (l.map .int) (l.map .int) := by kernel_rfl
  rw [q, eqvAll_i]
  rfl
theorem last_ok (n : Nat) {ρ : Locs} (e0 : ρ.lookup (S "some") = some (.lst ((l.map (· * gr)).map .int))) (e1 : ρ.lookup (S "many") = some (.lst (l.map .int))) (e2 : ρ.lookup (S "great") = some (.int gr)) (hl : l.length < 1000) (hb : ∀ a, a ∈ l → bitsOk a = true) (hg : bitsOk gr = true) : G st (exec cfg2 (n + 278) (sk 307) ρ (nth (bd 307) 8)) (.ret (.bool true), ρ) := by
  refine G.retn (by kernel_rfl) (G.cast (m' := (M.of (ρ.lookup (S "some"))).bind fun a => (evalE cfg2 (n + 276) (sk 307) ρ (xA (sE (nth (bd 307) 8)) 1)).bind fun b => cmpP .Eq a b) (by kernel_rfl) ?_)
  rw [e0]
  exact G.bind G.ret (G.bind (mul_comp (n + 274) (by kernel_rfl) (by kernel_rfl) (fun ρ' k i => by kernel_rfl) (fun ρ' => by kernel_rfl) (fun ρ' i => by kernel_rfl) (by kernel_rfl) (by kernel_rfl) e1 e2 hl hb hg) (G.cast (eq_lst _) G.ret))
theorem rev_ok {l : List PV} (h : l.length ≤ 5) : sliceOf l none none (some (-1)) = l.reverse := by
  match l, h with
  | [], _ => kernel_rfl
  | [a], _ => kernel_rfl
  | [a, b], _ => kernel_rfl
  | [a, b, c], _ => kernel_rfl
  | [a, b, c, d], _ => kernel_rfl
  | [a, b, c, d, e], _ => kernel_rfl
theorem gcd_le12 {l : List Int} (h12 : ∀ a, a ∈ l → a.natAbs ≤ 12) : gcdL 0 l ≤ 12 := by
  cases hn : (l.filter fun i => decide (i ≠ 0)).isEmpty with
  | true => rw [gcd_zero hn]; exact Nat.zero_le _
  | false =>
    have := (i12_iff.mp (List.mem_filter.mp (lc_max h12 hn).1).1).2
    omega
theorem com_cmp (n : Nat) {l : List Int} (t : Int) {X : M PV} (hX : G st X (.int t)) {ρ : Locs} (e1 : ρ.lookup (S "many") = some (.lst (l.map .int))) (e2 : ρ.lookup (S "great") = some (.int gr)) (hl : l.length < 1000) (h12 : ∀ a, a ∈ l → a.natAbs ≤ 12) (hg : bitsOk gr = true) (ht : t = gr * (gcdL 0 l : Nat)) :
    G st (X.bind fun a => ((M.of (ρ.lookup (S "great"))).bind fun a => (((M.of (ρ.lookup (S "many"))).bind fun v => M.ret [v]).bind fun vs => callV cfg2 (n + 81) (.con (.ref 302)) vs).bind fun b => M.of (binP .Mult a b)).bind fun b => (cmpP .NotEq a b).bind fun v => M.of (truthP v)) false := by
  rw [e1, e2]
  have hb : bitsOk (gcdL 0 l : Nat) = true := by
    refine bits_le (N := 12) ?_ (by decide +kernel)
    rw [Int.natAbs_natCast]
    exact gcd_le12 h12
  refine G.bind hX (G.bind (v := .int (gr * (gcdL 0 l : Nat))) (G.bind G.ret (G.bind (v := .int (gcdL 0 l : Nat)) (G.bind (G.bind G.ret G.ret) (G.cast (m' := cutM (runF cfg2 (n + 80) 302 [.lst (l.map .int)])) (by kernel_rfl) (lawc_ok n hl h12))) (G.of (mul_ok hg hb)))) ?_)
  rw [ht]
  have := ne_int (st0 := st) (a := gr * (gcdL 0 l : Nat)) (b := gr * (gcdL 0 l : Nat))
  rw [decide_eq_false (fun h => h rfl)] at this
  exact this
theorem gcd_some {t : Int} (ht : 0 < t) (l : List Int) : ((gcdL 0 (l.map (· * t)) : Nat) : Int) = t * (gcdL 0 l : Nat) := by
  have h := gcdL_mul t l 0
  rw [Nat.zero_mul] at h
  rw [h, Int.natCast_mul, Int.mul_comm, Int.natAbs_of_nonneg (Int.le_of_lt ht)]
theorem if_ok (n : Nat) {ρ : Locs} (e0 : ρ.lookup (S "some") = some (.lst ((l.map (· * gr)).map .int))) (e1 : ρ.lookup (S "many") = some (.lst (l.map .int))) (e2 : ρ.lookup (S "great") = some (.int gr)) (hl : l.length ≤ 5) (h12 : ∀ a, a ∈ l → a.natAbs ≤ 12) (h0 : 0 < gr) (hg : gr.natAbs ≤ 10 ^ 20) :
    G st (exec cfg2 (n + 279) (sk 307) ρ (nth (bd 307) 7)) (.next, ρ) := by
  have hb : bitsOk gr = true := bits_le hg (by decide +kernel)
  have hs : ∀ a, a ∈ l.map (· * gr) → a.natAbs < ten40 := fun a ha => by
    obtain ⟨i, hi, rfl⟩ := List.mem_map.mp ha
    have : (i * gr).natAbs ≤ 12 * 10 ^ 20 := by rw [Int.natAbs_mul]; exact Nat.mul_le_mul (h12 i hi) hg
    exact Nat.lt_of_le_of_lt this (by decide +kernel)
  refine G.cast (m' := (((((M.of (ρ.lookup (S "some"))).bind fun v => M.ret [v]).bind fun vs => callV cfg2 (n + 274) (.con (.ref 158)) vs).bind fun a => ((M.of (ρ.lookup (S "great"))).bind fun a => (((M.of (ρ.lookup (S "many"))).bind fun v => M.ret [v]).bind fun vs => callV cfg2 (n + 273) (.con (.ref 302)) vs).bind fun b => M.of (binP .Mult a b)).bind fun b => (cmpP .NotEq a b).bind fun v => M.of (truthP v)).bind fun t => ifB t (M.ret true)
    ((((((M.of (ρ.lookup (S "some"))).bind fun ov => (M.of (lstV ov)).bind fun xs => if some (-1 : Int) = some 0 ∨ 100000 < xs.length then M.fail else M.ret (PV.lst (sliceOf xs none none (some (-1))))).bind fun v => M.ret [v]).bind fun vs => callV cfg2 (n + 273) (.con (.ref 158)) vs).bind fun a => ((M.of (ρ.lookup (S "great"))).bind fun a => (((M.of (ρ.lookup (S "many"))).bind fun v => M.ret [v]).bind fun vs => callV cfg2 (n + 272) (.con (.ref 302)) vs).bind fun b => M.of (binP .Mult a b)).bind fun b => (cmpP .NotEq a b).bind fun v => M.of (truthP v)).bind fun t => ifB t (M.ret true) (M.ret false))).bind fun t => ifB t (execs cfg2 (n + 278) (sk 307) ρ (sB (nth (bd 307) 7))) (M.ret (.next, ρ))) (by kernel_rfl) ?_
  rw [e0]
  have hX : G st ((((M.of (some (PV.lst ((l.map (· * gr)).map .int)))).bind fun ov => (M.of (lstV ov)).bind fun xs => if some (-1 : Int) = some 0 ∨ 100000 < xs.length then M.fail else M.ret (PV.lst (sliceOf xs none none (some (-1))))).bind fun v => M.ret [v]).bind fun vs => callV cfg2 (n + 273) (.con (.ref 158)) vs) (.int (gcdL 0 (l.map (· * gr)).reverse : Nat)) := by
    refine G.bind (v := [PV.lst (((l.map (· * gr)).reverse).map .int)]) (G.bind (v := PV.lst (((l.map (· * gr)).reverse).map .int)) (G.bind G.ret (G.bind (v := (l.map (· * gr)).map .int) G.ret ?_)) G.ret) (G.cast (m' := cutM (runF cfg2 (n + 272) 158 [.lst (((l.map (· * gr)).reverse).map .int)])) (by kernel_rfl) (common_ok (n + 182) fun a ha => hs a (List.mem_reverse.mp ha)))
    rw [if_neg (by rintro (h | h); cases h; rw [List.length_map, List.length_map] at h; omega), rev_ok (by rw [List.length_map, List.length_map]; exact hl), List.map_reverse]
    exact G.ret
  exact G.bind (v := false) (G.bind (v := false) (com_cmp (n + 192) _ (G.bind (G.bind G.ret G.ret) (G.cast (m' := cutM (runF cfg2 (n + 273) 158 [.lst ((l.map (· * gr)).map .int)])) (by kernel_rfl) (common_ok (n + 183) hs))) e1 e2 (by omega) h12 hb (gcd_some h0 l)) (G.bind (v := false) (com_cmp (n + 191) _ hX e1 e2 (by omega) h12 hb (by rw [gcdL_rev]; exact gcd_some h0 l)) G.ret)) G.ret
end
end Mine
end

section
namespace Mine
open PySem
set_option autoImplicit false
set_option maxRecDepth 100000
theorem law_ok (n : Nat) {cells : List Int} (hl : cells.length ≤ 1000) {st : St} (h0 : st.next = 0) : Ok (runF cfg2 (n + 400) 307 [.lst (cells.map .int)]) st fun v _ => v = .bool true := by
  refine Ok.run [S "script"] (by kernel_rfl) [(S "script", .lst (cells.map .int))] rfl rfl ?_
  refine Ok.stmt 0 (by decide +kernel) ((feed_ok (n + 320) hl h0).mono ?_)
  rintro _ st1 ⟨rfl, cs, hcs, hd1⟩
  show Ok (execs _ _ _ _ ((bd 307).drop 1)) _ _
  refine Ok.stmt 1 (by decide +kernel) ((set1_ok (n + 189) _ hcs hd1).mono ?_)
  rintro _ st2 ⟨p, g, fl, vs, e, pl, rfl, hd2, hp4, P2, H2⟩
  show Ok (execs _ _ _ _ ((bd 307).drop 2)) _ _
  refine Ok.stmt 2 (by decide +kernel) (Ok.cast (m' := loopF (β := Unit) (fun x ρ => (assignT cfg2 (n + 395) (sk 307) ρ (sT (nth (bd 307) 2)) x).bind fun ρ => execs cfg2 (n + 395) (sk 307) ρ (sB (nth (bd 307) 2))) ([0, 1, 2, 3].map fun k : Nat => PV.int k) (lwR p g e (.lst (cells.map .int)))) (by kernel_rfl) ((Ok.loopF (LpE cs p g fl vs e pl) ?_ fun x xs ρ st h => set_loop (n + 188) hcs x xs ρ st h).mono ?_))
  · exact ⟨32, [], rfl, by decide, by decide, ⟨rfl, rfl, rfl, rfl⟩, hd2, P2, H2⟩
  rintro ⟨fl1, ρ3⟩ st3 ⟨rfl, c3, es, hx3, h4', hc3, N3, hd3, P3, H3⟩
  have h4 : es.length = 4 := by
    have := congrArg List.length hx3
    rw [List.length_map, List.length_drop] at this
    change 0 = 4 - es.length at this
    omega
  show Ok (execs _ _ _ _ ((bd 307).drop 3)) _ _
  refine Ok.stmt 3 (by decide +kernel) (Ok.cast (m' := loopF (β := Unit) (fun x ρ => (assignT cfg2 (n + 394) (sk 307) ρ (sT (nth (bd 307) 3)) x).bind fun ρ => execs cfg2 (n + 394) (sk 307) ρ (sB (nth (bd 307) 3))) [.int 0, .int 1, .int 2, .int 3, .int 4, .int 5] ρ3) (by kernel_rfl) ((Ok.loopF (LpL cs 100 p g fl vs e es) ?_ fun x xs ρ st h => loop_turn (n + 87) hcs h4 (by decide) x xs ρ st h).mono ?_))
  · exact ⟨c3, pl, by show c3 + 3 * 6 ≤ 100; omega, by omega, by show pl.length + 6 ≤ 20; omega, N3, hd3, P3, H3⟩
  rintro ⟨fl2, ρ4⟩ st4 ⟨rfl, c4, pl4, hc4, hp4', hp4'', I4⟩
  show Ok (execs _ _ _ _ ((bd 307).drop 4)) _ _
  have hc4' : c4 ≤ 100 := hc4
  refine Ok.stmt 4 (by decide +kernel) ((great_ok (n + 116) hcs (by omega) I4.fd I4.nm.feed).mono ?_)
  rintro _ st5 ⟨gr, g0, g1, rfl, hd5⟩
  show Ok (execs _ _ _ _ ((bd 307).drop 5)) _ _
  refine Ok.stmt 5 (by decide +kernel) ((many_ok (n + 115) hcs (by omega) hd5 (show ((S "great", PV.int gr) :: ρ4).lookup (S "feed") = _ from I4.nm.feed)).mono ?_)
  rintro _ st6 ⟨l, hl5, h12, rfl⟩
  show Ok (execs _ _ _ _ ((bd 307).drop 6)) _ _
  have hb : ∀ a, a ∈ l → bitsOk a = true := fun a ha => bits_le (h12 a ha) (by decide +kernel)
  have hg : bitsOk gr = true := bits_le g1 (by decide +kernel)
  refine Ok.nextG (L := bd 307) 6 (by decide +kernel) (some_ok (n + 114) rfl rfl (by omega) hb hg) fun st7 F7 => ?_
  refine Ok.nextG (L := bd 307) 7 (by decide +kernel) (if_ok (n + 112) (l := l) (gr := gr) rfl rfl rfl hl5 h12 g0 g1) fun st8 F8 => ?_
  exact Ok.stopG (L := bd 307) 8 (by decide +kernel) (last_ok (n + 112) (l := l) (gr := gr) rfl rfl rfl (by omega) hb hg) fun st9 F9 => rfl
theorem pure2 (cells : List Int) (h : cells.length ≤ 63) : ∃ st', runF cfg2 400 307 [.lst (cells.map .int)] ⟨fun _ => none, 0⟩ = some (.ok (.bool true), st') := by
  obtain ⟨v, st', e, rfl⟩ := law_ok 0 (cells := cells) (by omega) (st := ⟨fun _ => none, 0⟩) rfl
  exact ⟨st', e⟩
end Mine
end

section
open PySem PySem.W PySem.W.X PyProof.Rows PySem.Calls
set_option Elab.async false
set_option maxRecDepth 100000
set_option maxHeartbeats 0
namespace Mine
noncomputable def st0 : Mine.St := ⟨fun _ => none, 0⟩
noncomputable def Pure2 : Prop := ∀ cells : List Int, cells.length ≤ 63 → ∃ st', runF cfg2 400 307 [.lst (cells.map .int)] st0 = some (.ok (.bool true), st')
theorem intsAre_rel {c : Cf} {vs : List Value} {ns : List Int} (h : IntsAre vs ns) : RelLC c (ns.map .int) vs := by
  induction h with
  | nil => exact RelL.mkNil
  | cons n t _ ih => exact RelL.mkCons ⟨t, rfl⟩ ih
theorem walk2 (hp : Pure2) {w : World} {s : Shared} {mg mb : Str → Option Value} (X : (K2 w.params).In s.heap) (NL : s.heap.NoLimit) (TG : s.heap.Ns mainGlobals mg) (TB : s.heap.Ns builtinsNs mb) (hmb : ∀ x : Str, x ≠ "__name__" → mb x = bootBuiltins x)
    {a : Addr} {vs : List Value} {ns : List Int} (hL : s.heap.IsList a vs.toArray) (hI : IntsAre vs ns) (hlen : ns.length ≤ 63) {Q E : Value → Shared → Prop}
    (hQ : ∀ s', (∀ b o, s.heap.get? b = some o → s'.heap.get? b = some o) → s'.os = s.os → s'.gens = s.gens → Q (.bool true) s') : wpAny (model pw2 w) callerA (call (.ref 307) [.ref a]) Q E s := by
  have M := (main_ok (top_ok X NL TG TB hmb) (lim_ok X NL TG TB ((hmb _ (by decide +kernel)).trans (by kernel_rfl)) rfl) 400 400 (Nat.le_refl _)).1
  obtain ⟨st', hrun⟩ := hp ns hlen
  have no : ∀ b, ¬ Own (fun _ => none) st0 b := fun b ⟨k, x, h, _⟩ => by cases h
  have G : Good (setup2 w s.heap) ⟨fun _ => none, st0, s.heap⟩ := ⟨fun _ _ e => e, (fun k o h => by cases h), (fun k h => by cases h), (fun k h => by cases h), (fun k k' x x' h => by cases h), fun b h => absurd h (no b)⟩
  refine wpAny_call (M.fn callerA ⟨fun _ => none, st0, s.heap⟩ 307 _ [.ref a] 0 ⟨by decide +kernel, by decide +kernel⟩ ⟨[], rfl, trivial, fun _ h => by cases h⟩ (fun e h => by cases h) (fun _ => rfl) ?_ G s rfl _ _ hrun _ (fun b v c' s' e w1 w2 w3 w4 w5 => ?_) (fun e c' s' q => by cases q))
  · exact RelL.mkCons (Rel.mkLst hL (no a) (intsAre_rel (c := ⟨fun _ => none, st0, s.heap⟩) hI)) RelL.mkNil
  · cases e
    cases w5.bool'
    have e := w3
    unfold Same at e
    refine hQ s' (fun b o e => by rw [w2]; exact w4.2.stays b o e) ?_ ?_
    · rw [e]
    · rw [e]
end Mine
theorem Mine.join2 (hp : Mine.Pure2) : PySem.Challenge.rw_qd0014_02.Holds := by
  w_on
  refine PySem.W.holds_law (by kernel_rfl) fun said => ?_
  refine PySem.W.holds_open (q := Mine.q2) (loose := []) (Xt := fun s => xlAt Mine.q2 [] s && recOk [] s) (XP := XL Mine.q2 []) (Yf := Hook.obs (kHook Mine.K2 Mine.as2 Mine.as2_ok)) (Ya := Hook.val (kHook Mine.K2 Mine.as2 Mine.as2_ok)) (YP := Hook.says (kHook Mine.K2 Mine.as2 Mine.as2_ok)) (N := 4100)
    Mine.left2 (Hook.of _) (Hook.keeps _) (fun s e => xl_of s (Bool.and_eq_true_iff.mp e).1) XL.keeps (by rfl) (by rfl) (by rfl) (fun s e => recFacts_of (Bool.and_eq_true_iff.mp e).2) (by rfl) (by assumption) (by decide +kernel) ⟨rfl, rfl, rfl, rfl, rfl, by decide +kernel⟩ ?hw ?hc
  case hw => w_witness2
  intro w s₀ s₁ mg mb G Y fa o pm cd doc dV kV ho hd hcd hD hmg hg args vals as hpre hlay hrd hwl hlo
  have KX := kIn_of Y
  refine Ground.open G ?_
  intro T B D TE TW
  wrow_args hpre hlay hrd hwl hlo
  x_fa T KX hmg
  rename_i hI _ _ _
  refine Mine.walk2 hp KX T.nolimit T.g T.b T.builtins (by assumption) (by assumption) (by omega) fun s' k1 k2 k3 => ?_
  exact ⟨.inl ⟨_, .bool true, [], rfl, fun _ => rfl, ReadsW.bool true, by first | rfl | wrow_post, fun _ => ⟨List.nodup_nil, fun _ hm => (nomatch hm)⟩⟩, OldK.of_keep k1, k2, AllBare.of_eq (k3.trans hg)⟩
end

set_option maxRecDepth 100000 in
theorem PySem.Challenge.cw_qd0014_02_holds : PySem.Challenge.rw_qd0014_02.Holds :=
  Mine.join2 Mine.pure2
