import PyProof.Rows.All
import Wide.All
import OpenK.AllK
import Wide.FinOn
import KE.KStateDown
import Lean
import HandS.ForMost
import HandS.Deep
import PyProof.ReprRoads
import HandS.Exc
import HandS.TryOnly
import HandS.ExcOwn
import HandS.WordsExc
import HandS.Codes
import HandS.Lambda
import HandS.ExcValue
import HandS.HeadHook1
import HandS.Style
import HandS.Defaults
import HandS.IsInst
import KE.KIsAll
import HandS.ExcField
import HandS.ExcIs
import HandS.ExcInit
import KE.KExcSuper
import KE.KExcIs
import HandS.Property
import HandS.OwnEq
import KE.KOpsOwn
import HandS.Flow
import HandS.Wide
import HandS.SortInts
import HandS.TupAny
import HandS.SetFor
import HandS.RaiseMore
import HandS.Star
import HandS.SortRule
import HandS.FStr
import HandS.Call
import HandS.Strs
import HandS.StrMore
import HandS.Zip
import HandS.HotCalls
import HandS.HeadHook2
import HandS.EndTab
import HandS.HeadWalk
import HandS.Head0
import HandS.Head1
import HandS.Head2
import HandS.HeadHook3
import HandS.HeadHook4
import PyProof.StrLawsRepr
import PyProof.ReprText
import PySem.Challenge.RW_rowclash_k71_formulas_refuse
set_option Elab.async false
set_option linter.all false
set_option maxRecDepth 100000
set_option maxHeartbeats 0
namespace Iv
open PySem PySem.Spec PyProof.Rows L2
/-! ## data, cells -/
inductive Cn where
  | RowError | NotRow | NotTable | NotKey | NotKeys | NotRows | NotOrder | NotRule | NotInteger | NotScan | NotBound | NotFormula | NotDeed | NotText | NotBytes | NotLine | Missing | Impossible | TooLarge | NothingDone
  | Twice | Held | TooMany | Competing | Ringed | Collision
  | Table | Outcome | Rule | Stops | Continues | Undoes | Leaves | Removes | Abort | Fail | Ignore | Replace | Formula | Session | Desk
  deriving DecidableEq
def Cn.nm : Cn → Str
  | .RowError => "RowError" | .NotRow => "NotRow" | .NotTable => "NotTable" | .NotKey => "NotKey" | .NotKeys => "NotKeys" | .NotRows => "NotRows" | .NotOrder => "NotOrder" | .NotRule => "NotRule" | .NotInteger => "NotInteger" | .NotScan => "NotScan" | .NotBound => "NotBound"
  | .NotFormula => "NotFormula" | .NotDeed => "NotDeed" | .NotText => "NotText" | .NotBytes => "NotBytes" | .NotLine => "NotLine" | .Missing => "Missing" | .Impossible => "Impossible" | .TooLarge => "TooLarge" | .NothingDone => "NothingDone"
  | .Twice => "Twice" | .Held => "Held" | .TooMany => "TooMany" | .Competing => "Competing" | .Ringed => "Ringed" | .Collision => "Collision"
  | .Table => "Table" | .Outcome => "Outcome" | .Rule => "Rule" | .Stops => "Stops" | .Continues => "Continues" | .Undoes => "Undoes" | .Leaves => "Leaves" | .Removes => "Removes" | .Abort => "Abort" | .Fail => "Fail" | .Ignore => "Ignore" | .Replace => "Replace" | .Formula => "Formula" | .Session => "Session" | .Desk => "Desk"
/-- the exceptions that take a message -/
def Cn.plainX : Cn → Bool
  | .NotRow | .NotTable | .NotKey | .NotKeys | .NotRows | .NotOrder | .NotRule | .NotInteger | .NotScan | .NotBound | .NotFormula | .NotDeed | .NotText | .NotBytes | .NotLine | .Missing | .Impossible | .TooLarge | .NothingDone => true
  | _ => false
/-- the exceptions with fields -/
def Cn.fldX : Cn → Option (List Str)
  | .Twice => some ["key"] | .Held => some ["key"] | .TooMany => some ["many", "most"] | .Competing => some ["pair"] | .Ringed => some ["ring"] | .Collision => some ["row", "holder"]
  | _ => none
def Cn.isX (c : Cn) : Bool := c.plainX || c.fldX.isSome || (match c with | .RowError => true | _ => false)
/-- is the former a class below the latter -/
def Cn.sub (c d : Cn) : Bool := decide (c = d) || (match d with
  | .RowError => c.isX
  | .Rule => (match c with | .Stops | .Continues | .Undoes | .Leaves | .Removes | .Abort | .Fail | .Ignore | .Replace => true | _ => false)
  | .Stops => (match c with | .Abort | .Fail => true | _ => false)
  | .Continues => (match c with | .Ignore | .Replace => true | _ => false)
  | .Undoes => (match c with | .Abort => true | _ => false)
  | .Leaves => (match c with | .Fail | .Ignore => true | _ => false)
  | .Removes => (match c with | .Replace => true | _ => false)
  | _ => false)
inductive D where
  | non | bl (b : Bool) | int (i : Int) | str (x : Str) | byt (b : Array UInt8) | ty (n : String) | cl (C : Cn) | fn (x : Str)
  | tup (ds : List D) | lst (ds : List D)
  | dct (kvs : List (Key × D))
  | obj (C : Cn) (fs : List (Str × D))
  | exc (C : Cn) (fs : List (Str × D))
  | hot (a : Nat) (d : Option Nat) (fs : List (Str × D))
  | cel (k : Nat)
  | scr (ns : List Int)
/-- a thing that may change (dfz: a dict while it is walked) -/
inductive Ce where
  | lst (ds : List D)
  | dct (kvs : List (Key × D))
  | dfz (kvs : List (Key × D))
  | obj (C : Cn) (fs : List (Str × D))
abbrev Ga := List (Option D)
abbrev Me := List Ce
/-- what code comes to -/
inductive R (α : Type) where
  | ok (a : α) (M : Me) | ex (C : Cn) (fs : List (Str × D)) (M : Me) | no
def R.bind {α β : Type} : R α → (α → Me → R β) → R β
  | .ok a M, f => f a M
  | .ex C fs M, _ => .ex C fs M
  | .no, _ => .no
@[simp] theorem R.bind_ok {α β : Type} {a : α} {M : Me} {f : α → Me → R β} : (R.ok a M).bind f = f a M := rfl
@[simp] theorem R.bind_ex {α β : Type} {C : Cn} {fs : List (Str × D)} {M : Me} {f : α → Me → R β} : (R.ex C fs M : R α).bind f = .ex C fs M := rfl
@[simp] theorem R.bind_no {α β : Type} {f : α → Me → R β} : (R.no : R α).bind f = .no := rfl
def R.of {α : Type} (M : Me) : Option α → R α
  | some a => .ok a M
  | none => .no
@[simp] theorem R.of_some {α : Type} {a : α} {M : Me} : R.of M (some a) = .ok a M := rfl
@[simp] theorem R.of_none {α : Type} {M : Me} : R.of M (none : Option α) = .no := rfl
inductive Out where
  | nx (g : Ga) (M : Me) | rt (d : D) (M : Me) | bk (g : Ga) (M : Me) | ct (g : Ga) (M : Me)
  | ex (C : Cn) (fs : List (Str × D)) (g : Ga) (M : Me)
  | no
/-! ## the text -/
inductive Bn where
  | len | max | min | abs | all | any | sum | repr | isinst | sorted | int | bool | str | list | tuple | dict | lenset | sortedset
  deriving DecidableEq
inductive Bm where
  | append | extend | pop | remove | count | index | join | split | removeprefix | title | get | setdefault
  deriving DecidableEq
mutual
inductive Ex where
  | v (i : Nat) | int (i : Int) | bl (b : Bool) | str (x : Str) | non
  | gc (x : Str) | gcl (C : Cn) | gty (x : Str)
  | bin (op : Operator) (a b : Ex) | neg (a : Ex)
  | cmp (op : CmpOp) (a b : Ex) | chn (op op' : CmpOp) (a b c : Ex)
  | and (a b : Ex) | or (a b : Ex) | nt (a : Ex) | ite (c a b : Ex)
  | tup (es : List Ex) | lst (es : List Ex) | dct (ks vs : List Ex)
  | sub (a i : Ex) | sl (a : Ex) (lo hi : Option Ex) | rev (a : Ex)
  | att (a : Ex) (f : Str)
  | cf (x : Str) (es : List Ex) (ks : List Str) (kes : List Ex)
  | cb (b : Bn) (es : List Ex)
  | mk (C : Cn) (es : List Ex)
  | met (a : Ex) (m : Str) (es : List Ex)
  | bm (a : Ex) (m : Bm) (es : List Ex)
  | lc (e : Ex) (tg : Tg) (it : It) (cs : Option Ex)
  | fst (es : List Ex)
  | cel (e : Ex) | frz (e : Ex) | star (e : Ex) | said (e : Ex)
  | call (i : Nat) (es : List Ex)
inductive It where
  | ex (e : Ex) | rng (es : List Ex) | zip (a b : Ex) | enum (a : Ex)
inductive Tg where
  | nm (i : Nat) | tup (ts : List Tg) | sub (a i : Ex) | att (a : Ex) (f : Str)
end
inductive Sm where
  | asg (t : Tg) (e : Ex) | par (is : List Nat) (es : List Ex) | aug (i : Nat) (op : Operator) (e : Ex)
  | ex (e : Ex) | ret (e : Ex) | retN | rai (C : Cn) (es : List Ex)
  | ifs (c : Ex) (a b : List Sm) | for (t : Tg) (it : It) (b : List Sm) | whl (c : Ex) (b : List Sm)
  | brk | cnt | pass
structure Fn where
  ps : List Str
  n : Nat
  ds : List (Option D)
  sh : List (Nat × List Str)
  body : List Sm
  keep : Bool
inductive Mem where
  | me (f : Str) | pr (f : Str) | cm (f : Str) | sm (f : Str) | co (d : D)
structure Pg where
  has : Cn → Bool
  fn : Str → Option Fn
  find : Cn → Str → Option Mem
  fld : Cn → Str → Bool
  con : Str → Option D
/-- the def's name, the arguments, the cells -/
abbrev Cf := Str → List D → Me → R D
/-! ## data that name no cell from n on -/
mutual
def D.clo (n : Nat) : D → Bool
  | .tup ds => clL n ds
  | .lst ds => clL n ds
  | .dct ds => clK n ds
  | .obj _ ds => clF n ds
  | .exc _ ds => clF n ds
  | .hot _ _ ds => clF n ds
  | .cel k => decide (k < n)
  | _ => true
def clL (n : Nat) : List D → Bool
  | [] => true
  | d :: ds => d.clo n && clL n ds
def clK (n : Nat) : List (Key × D) → Bool
  | [] => true
  | (_, d) :: ds => d.clo n && clK n ds
def clF (n : Nat) : List (Str × D) → Bool
  | [] => true
  | (_, d) :: ds => d.clo n && clF n ds
end
def Ce.clo (n : Nat) : Ce → Bool
  | .lst ds => clL n ds
  | .dct ds => clK n ds
  | .dfz ds => clK n ds
  | .obj _ ds => clF n ds
/-- the cells from n on become data -/
def mapO {α β : Type} (f : α → Option β) : List α → Option (List β)
  | [] => some []
  | x :: r => (f x).bind fun y => (mapO f r).map (y :: ·)
def map2O {κ α β : Type} (f : α → Option β) : List (κ × α) → Option (List (κ × β))
  | [] => some []
  | (k, x) :: r => (f x).bind fun y => (map2O f r).map ((k, y) :: ·)
def frzD : Nat → Nat → Me → D → Option D
  | 0, _, _, _ => none
  | u + 1, n, M, d => if d.clo n = true then some d else match d with
    | .cel k => (match M[k]? with
      | some (.lst ds) => (mapO (frzD u n M) ds).map .lst
      | some (.dct kvs) => (map2O (frzD u n M) kvs).map .dct
      | some (.obj C fs) => (map2O (frzD u n M) fs).map (.obj C)
      | _ => none)
    | .tup ds => (mapO (frzD u n M) ds).map .tup
    | .lst ds => (mapO (frzD u n M) ds).map .lst
    | .dct kvs => (map2O (frzD u n M) kvs).map .dct
    | .obj C fs => (map2O (frzD u n M) fs).map (.obj C)
    | .exc C fs => (map2O (frzD u n M) fs).map (.exc C)
    | .hot a d fs => (map2O (frzD u n M) fs).map (.hot a d)
    | _ => none
/-- behind a frame whose cells from n on are gone -/
def trunc (n : Nat) : R D → R D
  | .ok d M => R.of (M.take n) (frzD 9 n M d)
  | .ex C fs M => if clF n fs = true then .ex C fs (M.take n) else .no
  | .no => .no
/-- a write to cell k: into what stands below the base only data without cells -/
def mayW (b k : Nat) (d : D) : Bool := decide (b ≤ k) || d.clo 0
/-! ## values -/
def lv (M : Me) : D → Option (List D)
  | .lst ds => some ds
  | .cel k => match M[k]? with | some (.lst ds) => some ds | _ => none
  | .scr ns => some (ns.map .int)
  | _ => none
/-- .. but the script -/
def lw (M : Me) : D → Option (List D)
  | .lst ds => some ds
  | .cel k => match M[k]? with | some (.lst ds) => some ds | _ => none
  | _ => none
def dv (M : Me) : D → Option (List (Key × D))
  | .dct ds => some ds
  | .cel k => match M[k]? with | some (.dct ds) => some ds | some (.dfz ds) => some ds | _ => none
  | _ => none
def ov (M : Me) : D → Option (Cn × List (Str × D))
  | .obj C fs => some (C, fs)
  | .cel k => match M[k]? with | some (.obj C fs) => some (C, fs) | _ => none
  | _ => none
def keyOf : D → Option Key
  | .int i => some (.inl i)
  | .str x => some (.inr x)
  | _ => none
def dOf : Key → D
  | .inl i => .int i
  | .inr x => .str x
def kget (kvs : List (Key × D)) (k : Key) : Option D := (kvs.find? fun kv => decide (kv.1 = k)).map (·.2)
/-- in its place, or behind all others -/
def kput (kvs : List (Key × D)) (k : Key) (d : D) : List (Key × D) := if (kvs.any fun kv => decide (kv.1 = k)) = true then kvs.map (fun kv => if kv.1 = k then (kv.1, d) else kv) else kvs ++ [(k, d)]
/-- dict(pairs) -/
def kputs (kvs : List (Key × D)) : List (Key × D) → List (Key × D)
  | [] => kvs
  | (k, d) :: r => kputs (kput kvs k d) r
def pairsD : List D → Option (List (Key × D))
  | [] => some []
  | .tup [k, v] :: r => (keyOf k).bind fun q => (pairsD r).map ((q, v) :: ·)
  | _ => none
def fput (f : Str) (d : D) : List (Str × D) → List (Str × D)
  | [] => [(f, d)]
  | (g, x) :: r => if g = f then (g, d) :: r else (g, x) :: fput f d r
mutual
def pd : D → Option PyData
  | .non => some .none
  | .bl b => some (.bool b)
  | .int i => some (.int i)
  | .str x => some (.str x)
  | .tup ds => (pdL ds).map .tuple
  | .lst ds => (pdL ds).map .list
  | .scr ns => some (.list (ns.map .int))
  | _ => none
def pdL : List D → Option (List PyData)
  | [] => some []
  | d :: ds => (pd d).bind fun x => (pdL ds).map (x :: ·)
end
def pdM (M : Me) : D → Option PyData
  | .cel k => match M[k]? with | some (.lst ds) => (pdL ds).map .list | _ => none
  | d => pd d
def tru (M : Me) : D → Option Bool
  | .non => some false
  | .bl b => some b
  | .int i => some (i != 0)
  | .str x => if x.length ≤ 100000 then some (x.length != 0) else none
  | .tup ds => some (!ds.isEmpty)
  | d => match lv M d with
    | some ds => some (!ds.isEmpty)
    | none => (match d with
      | .cel k => (match M[k]? with | some (.dct kvs) => some (!kvs.isEmpty) | _ => none)
      | _ => none)
def cutD (xs : List D) (lo hi : Option Int) : List D := (xs.drop (HT.sIx xs.length 0 lo)).take (HT.sIx xs.length xs.length hi - HT.sIx xs.length 0 lo)
/-- intsD: the operators -/
def wideI (i j : Int) : Bool := decide (i.natAbs < 18446744073709551616) || decide (j.natAbs < 18446744073709551616) || (decide (i.natAbs.log2 < 4000) && decide (j.natAbs.log2 < 4000))
def binI (op : Operator) (i j : Int) : Option Int := match op with
  | .Add => some (i + j)
  | .Sub => some (i - j)
  | .Mult => if wideI i j = true then some (i * j) else none
  | .Mod => if 0 < j then some (i % j) else none
  | .FloorDiv => if j ≠ 0 ∧ j.natAbs.log2 < 4000 then some (i.fdiv j) else none
  | .Pow => if 0 ≤ j ∧ j ≤ 100000 ∧ i.natAbs < 18446744073709551616 then some (i ^ j.toNat) else none
  | _ => none
def maxL : Nat := 100000
/-! a call's arguments -/
def fill {α : Type} (ks : List Str) (kds : List α) : List Str → List (Option α) → Option (List α)
  | [], _ => some []
  | p :: ps, ds => (match (ks.zip kds).lookup p with
    | some d => some d
    | none => ds.headD none).bind fun d => (fill ks kds ps ds.tail).map (d :: ·)
def bindF (f : Fn) (ds : List D) (ks : List Str) (kds : List D) : Option (List D) :=
  if f.sh.contains (ds.length, ks) = true then (fill ks kds (f.ps.drop ds.length) (f.ds.drop ds.length)).map (ds ++ ·) else none
def callK (G : Pg) (cf : Cf) (x : Str) (ds : List D) (ks : List Str) (kds : List D) (M : Me) : R D := match G.fn x with
  | some f => (match bindF f ds ks kds with
    | some as => cf x as M
    | none => .no)
  | none => .no
def callP (G : Pg) (cf : Cf) (x : Str) (ds : List D) (M : Me) : R D := callK G cf x ds [] [] M
/-! ## dunders -/
def dun (G : Pg) (cf : Cf) (M : Me) (d : D) (name : Str) (args : List D) : R D := match ov M d with
  | some (C, _) => (match G.find C name with
    | some (.me f) => callP G cf f (d :: args) M
    | _ => .no)
  | none => .no
/-- the def of a method -/
def metF (G : Pg) (M : Me) (d : D) (m : Str) : Option Str := match ov M d with
  | some (C, fs) => if (fs.lookup m).isNone = true then (match G.find C m with | some (.me f) => some f | _ => none) else none
  | none => none
/-- the def of an own call -/
def metC (G : Pg) (M : Me) (d : D) : Option Str := match ov M d with
  | some (C, _) => (match G.find C "__call__" with | some (.me f) => some f | _ => none)
  | none => none
def noEx : R D → R D
  | .ok d M => .ok d M
  | _ => .no
def opNm : Operator → Option (Str × Str)
  | .Add => some ("__add__", "__radd__")
  | .Sub => some ("__sub__", "__rsub__")
  | .Mult => some ("__mul__", "__rmul__")
  | .Pow => some ("__pow__", "__rpow__")
  | _ => none
/-- what the machine calls a datum's type, for some -/
def tyNm : D → Option String
  | .int _ => some "int"
  | .bl _ => some "bool"
  | .str _ => some "str"
  | .non => some "NoneType"
  | _ => none
/-- .. of an operand on the right -/
def tyR (M : Me) : D → Option String
  | .int _ => some "int"
  | .bl _ => some "bool"
  | .str _ => some "str"
  | .non => some "NoneType"
  | .tup _ => some "tuple"
  | .lst _ => some "list"
  | .dct _ => some "dict"
  | .cel k => (match M[k]? with | some (.lst _) => some "list" | some (.dct _) => some "dict" | _ => none)
  | _ => none
def hasO (G : Pg) (M : Me) (d : D) : Bool := match ov M d with
  | some (C, _) => G.has C
  | none => false
def sameC (M : Me) (C : Cn) (d : D) : Bool := match ov M d with
  | some (C', _) => decide (C' = C)
  | none => false
def binOp (G : Pg) (cf : Cf) (op : Operator) (a b : D) (M : Me) : R D := match a, b with
  | .int i, .int j => R.of M ((binI op i j).map .int)
  | .str x, .str y => if op = .Add ∧ x.length + y.length ≤ maxL then .ok (.str (x ++ y)) M else .no
  | .tup xs, .tup ys => if op = .Add ∧ xs.length + ys.length ≤ maxL then .ok (.tup (xs ++ ys)) M else .no
  | a, b => match ov M a with
    | some (C, _) => (match opNm op with | some (n, _) => if ((tyR M b).isSome || sameC M C b) = true then dun G cf M a n [b] else .no | none => .no)
    | none => (match a with
      | .int i => (match ov M b, opNm op with | some _, some (_, n) => if op = .Pow then .no else dun G cf M b n [.int i] | _, _ => .no)
      | .bl i => (match ov M b, opNm op with | some _, some (_, n) => if op = .Pow ∨ hasO G M b = false then .no else dun G cf M b n [.bl i] | _, _ => .no)
      | .non => (match ov M b, opNm op with | some _, some (_, n) => if op = .Pow ∨ hasO G M b = false then .no else dun G cf M b n [.non] | _, _ => .no)
      | a => (match lw M a with
        | some xs => (match b with
          | .int n => if op = .Mult ∧ -(2 ^ 63) ≤ n ∧ n < 2 ^ 63 ∧ xs.length * n.toNat ≤ maxL then .ok (.lst (List.replicate n.toNat xs).flatten) M else .no
          | b => (match lw M b with
            | some ys => if op = .Add ∧ xs.length + ys.length ≤ maxL then .ok (.lst (xs ++ ys)) M else .no
            | none => .no))
        | none => .no))
def intCmp : CmpOp → Int → Int → Option Bool
  | .Lt, i, j => some (decide (i < j))
  | .LtE, i, j => some (decide (i ≤ j))
  | .Gt, i, j => some (decide (j < i))
  | .GtE, i, j => some (decide (j ≤ i))
  | .Eq, i, j => some (decide (i = j))
  | .NotEq, i, j => some (!decide (i = j))
  | _, _, _ => none
def strCmp : CmpOp → Str → Str → Option Bool
  | .Eq, i, j => some (decide (i = j))
  | .NotEq, i, j => some (!decide (i = j))
  | _, _, _ => none
def isNon : D → Bool
  | .non => true
  | _ => false
def eqP (M : Me) (a b : D) : Option Bool := match pdM M a, pdM M b with
  | some x, some y => if SeqAt.shaped x = true ∧ SeqAt.shaped y = true then some (PyData.eqv x y) else none
  | _, _ => none
def flatD : D → Bool
  | .non => true
  | .bl _ => true
  | .int _ => true
  | .str _ => true
  | _ => false
/-- == of flat data -/
def eqF : D → D → Bool
  | .non, .non => true
  | .bl a, .bl b => a == b
  | .bl a, .int b => (if a then 1 else 0) == b
  | .int a, .bl b => a == (if b then 1 else 0)
  | .int a, .int b => a == b
  | .str a, .str b => a == b
  | _, _ => false
def inDeep (M : Me) (a : D) (ys : List D) : Option Bool := match pdM M a, pdL ys with
  | some x, some zs => if SeqAt.shaped x = true ∧ SeqAt.shaped (.list zs) = true then some (zs.any fun z => PyData.eqv z x) else none
  | _, _ => none
def inSeq (M : Me) (l : Bool) (a : D) (ys : List D) : Option Bool := if (flatD a && ys.all flatD) = true then some (ys.any fun y => eqF y a) else if l = true then inDeep M a ys else none
/-- a dunder's answer as a truth -/
def bolR (r : R D) : R Bool := match r with
  | .ok (.bl z) M => .ok z M
  | .ex C fs M => .ex C fs M
  | _ => .no
/-- what an own == may be asked about: never of a class below -/
def eqTo (G : Pg) (M : Me) (C : Cn) (d : D) : Bool := match ov M d with
  | some (C', _) => G.has C' && (!C'.isX && (decide (C' = C) || !C'.sub C))
  | none => (match d with
    | .non => true | .bl _ => true | .int _ => true | .str _ => true | .tup _ => true | .lst _ => true | .dct _ => true
    | .cel k => (match M[k]? with | some (.lst _) => true | some (.dct _) => true | _ => false)
    | _ => false)
/-- what declines an own object on the right -/
def refOk (M : Me) : D → Bool
  | .non => true | .bl _ => true | .int _ => true | .str _ => true | .tup _ => true | .lst _ => true | .dct _ => true
  | .cel k => (match M[k]? with | some (.lst _) => true | some (.dct _) => true | _ => false)
  | _ => false
/-- y == a for each y in turn, by the own == of a -/
def inOwn (G : Pg) (cf : Cf) (a : D) : List D → Me → R Bool
  | [], M => .ok false M
  | y :: r, M => if (refOk M y && hasO G M a) = true then (bolR (dun G cf M a "__eq__" [y])).bind fun z M1 => if z = true then .ok true M1 else inOwn G cf a r M1 else .no
def inOp (G : Pg) (cf : Cf) (a b : D) (M : Me) : R Bool := match ov M b with
  | some _ => bolR (dun G cf M b "__contains__" [a])
  | none => (match dv M b with
    | some kvs => (match keyOf a with | some k => .ok (kget kvs k).isSome M | none => .no)
    | none => (match b with
      | .tup ys => R.of M (inSeq M false a ys)
      | b => (match lv M b with
        | some ys => (match ov M a, b with
          | some _, .lst _ => inOwn G cf a ys M
          | some _, _ => .no
          | none, _ => R.of M (inSeq M true a ys))
        | none => .no)))
def ordNm : CmpOp → Option Str
  | .Lt => some "__lt__" | .LtE => some "__le__" | .Gt => some "__gt__" | .GtE => some "__ge__" | _ => none
def cmpOp (G : Pg) (cf : Cf) (op : CmpOp) (a b : D) (M : Me) : R Bool := match op with
  | .Is => if isNon b = true then .ok (isNon a) M else .no
  | .IsNot => if isNon b = true then .ok (!isNon a) M else .no
  | .In => inOp G cf a b M
  | .NotIn => (inOp G cf a b M).bind fun z M => .ok (!z) M
  | op => (match a, b with
    | .int i, .int j => R.of M (intCmp op i j)
    | .str i, .str j => R.of M (strCmp op i j)
    | a, b => (match op with
      | .Eq => (match ov M a with
        | some (C, _) => if eqTo G M C b = true then bolR (dun G cf M a "__eq__" [b]) else .no
        | none => (match ov M b with
          | some _ => if (refOk M a && hasO G M b) = true then bolR (dun G cf M b "__eq__" [a]) else .no
          | none => R.of M (eqP M a b)))
      | .NotEq => (match ov M a with
        | some (C, _) => if eqTo G M C b = true then (bolR (dun G cf M a "__eq__" [b])).bind fun z M => .ok (!z) M else .no
        | none => (match ov M b with
          | some _ => if (refOk M a && hasO G M b) = true then (bolR (dun G cf M b "__eq__" [a])).bind fun z M => .ok (!z) M else .no
          | none => R.of M ((eqP M a b).map (!·))))
      | _ => .no))
def subs (G : Pg) (cf : Cf) (a i : D) (M : Me) : R D := match ov M a with
  | some _ => dun G cf M a "__getitem__" [i]
  | none => (match dv M a with
    | some kvs => (match keyOf i with | some k => R.of M (kget kvs k) | none => .no)
    | none => (match a, i with
      | .tup ds, .int i => R.of M (atI ds i)
      | a, .int i => (match lv M a with | some ds => R.of M (atI ds i) | none => .no)
      | _, _ => .no))
def attr (G : Pg) (cf : Cf) (a : D) (f : Str) (M : Me) : R D := match ov M a with
    | some (C, fs) => (match G.find C f with
      | some (.pr g) => noEx (callP G cf g [a] M)
      | some (.co d) => if (fs.lookup f).isNone = true then .ok d M else .no
      | none => if G.fld C f = true then R.of M (fs.lookup f) else .no
      | _ => .no)
    | none => .no
/-! ## built-ins -/
/-- the type of a datum, a class -/
inductive Tn where
  | b (t : String) | c (C : Cn)
  deriving DecidableEq
def tyT (G : Pg) (M : Me) : D → Option Tn
  | .int _ => some (.b "int")
  | .bl _ => some (.b "bool")
  | .str _ => some (.b "str")
  | .non => some (.b "NoneType")
  | .tup _ => some (.b "tuple")
  | .lst _ => some (.b "list")
  | .scr _ => some (.b "list")
  | .dct _ => some (.b "dict")
  | .byt _ => some (.b "bytes")
  | .obj C _ => if (G.has C && !C.isX) = true then some (.c C) else none
  | .cel k => match M[k]? with
    | some (.lst _) => some (.b "list")
    | some (.dct _) => some (.b "dict")
    | some (.obj C _) => if (G.has C && !C.isX) = true then some (.c C) else none
    | _ => none
  | _ => none
def tyNs : List String := ["int", "bool", "str", "NoneType", "tuple", "list", "dict", "bytes"]
def isB (G : Pg) : Tn → Tn → Option Bool
  | .b t, .b u => if t ∈ tyNs ∧ u ∈ tyNs then some (t == u || (t == "bool" && u == "int")) else none
  | .b t, .c C => if t ∈ tyNs ∧ G.has C = true then some false else none
  | .c C, .b u => if u ∈ tyNs ∧ G.has C = true then some false else none
  | .c C, .c C' => if (G.has C && G.has C') = true then some (C.sub C') else none
def clT : D → Option Tn
  | .cl C => some (.c C)
  | .ty t => some (.b t)
  | _ => none
def isOne (G : Pg) (M : Me) (d c : D) : Option Bool := match tyT G M d, clT c with
  | some t, some u => isB G t u
  | _, _ => none
def intsD : List D → Option (List Int)
  | [] => some []
  | .int i :: r => (intsD r).map (i :: ·)
  | _ => none
def blsD : List D → Option (List Bool)
  | [] => some []
  | .bl i :: r => (blsD r).map (i :: ·)
  | _ => none
def seqOf (M : Me) : D → Option (List D)
  | .tup ds => some ds
  | d => lv M d
/-! sorts -/
def insB {α : Type} (le : α → α → Bool) (x : α) : List α → List α
  | [] => [x]
  | y :: r => if le x y = true then x :: y :: r else y :: insB le x r
def sortB {α : Type} (le : α → α → Bool) : List α → List α
  | [] => []
  | x :: r => insB le x (sortB le r)
def leI (i j : Int) : Bool := decide (i ≤ j)
/-- rows of ints, as Python compares them -/
def leL : List Int → List Int → Bool
  | [], _ => true
  | _ :: _, [] => false
  | x :: r, y :: s => if x = y then leL r s else decide (x ≤ y)
def tupsD : List D → Option (List (List Int))
  | [] => some []
  | .tup ds :: r => (intsD ds).bind fun k => (tupsD r).map (k :: ·)
  | _ => none
def tupI (l : List Int) : D := .tup (l.map .int)
/-- sorted: of ints; a list of pairs of ints -/
def sortQ (M : Me) (d : D) : Option (List D) := match seqOf M d with
  | some ds => (match intsD ds with
    | some ns => some ((sortB leI ns).map .int)
    | none => (match lv M d, tupsD ds with
      | some _, some ks => if (ks.all fun k => k.length == 2) = true then some ((sortB leL ks).map tupI) else none
      | _, _ => none))
  | none => none
def dedupI : List Int → List Int
  | [] => []
  | x :: r => let s := dedupI r; if s.contains x then s else x :: s
/-- sorted(set(xs)) -/
def setQ (M : Me) (ds : List D) : Option (List D) := match ds with
  | [d] => ((lv M d).bind intsD).bind fun ns => if ns.length < 64 then some ((sortB leI (dedupI ns)).map .int) else none
  | _ => none
def setB : Bn → Bool
  | .sortedset => true | .lenset => true | _ => false
def maxL1 : Int → List Int → Int
  | m, [] => m
  | m, x :: r => maxL1 (if x > m then x else m) r
def minL1 : Int → List Int → Int
  | m, [] => m
  | m, x :: r => minL1 (if x < m then x else m) r
def reprP (q : PyData) : Option Str := if q.showable = true ∧ q.hasDict = false ∧ q.depth ≤ 64 ∧ q.shown.length ≤ sizeLine then some q.shown else none
def reprD (M : Me) : D → Option Str
  | .non => some "None"
  | .bl b => some (if b = true then "True" else "False")
  | .str x => if (reprText x).length ≤ sizeLine then some (reprText x) else none
  | .int i => if i.natAbs.log2 < 1920 then some (Str.ofString (toString i)) else none
  | .tup ds => (pdL ds).bind fun q => reprP (.tuple q)
  | d => (lv M d).bind fun ds => (pdL ds).bind fun q => reprP (.list q)
def isAny (G : Pg) (t : Tn) : List Tn → Option Bool
  | [] => some false
  | u :: r => match isB G t u with
      | some true => some true
      | some false => isAny G t r
      | none => none
/-- a length's answer -/
def lenB (r : R D) : R D := match r with
  | .ok (.int i) M => if 0 ≤ i ∧ i < 2 ^ 63 then .ok (.int i) M else .no
  | .ex C fs M => .ex C fs M
  | _ => .no
def strB (r : R D) : R D := match r with
  | .ok (.str x) M => .ok (.str x) M
  | .ex C fs M => .ex C fs M
  | _ => .no
def lenR (G : Pg) (cf : Cf) (d : D) (M : Me) : R D := match ov M d with
  | some _ => lenB (dun G cf M d "__len__" [])
  | none => (match d with
    | .tup xs => .ok (.int xs.length) M
    | .str x => if x.length ≤ maxL then .ok (.int x.length) M else .no
    | d => (match lv M d with
      | some xs => .ok (.int xs.length) M
      | none => (match dv M d with
        | some kvs => .ok (.int kvs.length) M
        | none => .no)))
def cbOp (G : Pg) (cf : Cf) (b : Bn) (ds : List D) (M : Me) : R D := match b with
  | .len => (match ds with | [d] => lenR G cf d M | _ => .no)
  | .max => (match ds with
    | [.int i, .int j] => .ok (.int (if j > i then j else i)) M
    | _ => .no)
  | .min => (match ds with
    | [.int i, .int j] => .ok (.int (if j < i then j else i)) M
    | _ => .no)
  | .abs => (match ds with | [.int i] => .ok (.int (if i < 0 then -i else i)) M | _ => .no)
  | .all => (match ds with | [d] => R.of M (((lv M d).bind blsD).map fun l => .bl (l.all id)) | _ => .no)
  | .any => (match ds with | [d] => R.of M (((lv M d).bind blsD).map fun l => .bl (l.any id)) | _ => .no)
  | .sum => (match ds with | [d] => R.of M (((lv M d).bind intsD).map fun l => .int l.sum) | _ => .no)
  | .repr => (match ds with
    | [d] => (match ov M d with
      | some _ => strB (dun G cf M d "__repr__" [])
      | none => R.of M ((reprD M d).map .str))
    | _ => .no)
  | .isinst => (match ds with
    | [d, .tup cs] => R.of M (((tyT G M d).bind fun t => (mapO clT cs).bind (isAny G t)).map .bl)
    | [d, c] => R.of M ((isOne G M d c).map .bl)
    | _ => .no)
  | .sorted => (match ds with | [d] => R.of M ((sortQ M d).map .lst) | _ => .no)
  | .int => (match ds with
    | [.int i] => .ok (.int i) M
    | [.bl b] => .ok (.int (if b = true then 1 else 0)) M
    | _ => .no)
  | .bool => (match ds with
    | [.int i] => .ok (.bl (i != 0)) M
    | [.bl b] => .ok (.bl b) M
    | _ => .no)
  | .str => (match ds with
    | [.int i] => if i.natAbs.log2 < 1920 then .ok (.str (Str.ofString (toString i))) M else .no
    | _ => .no)
  | .list => (match ds with | [d] => R.of M ((seqOf M d).map .lst) | _ => .no)
  | .tuple => (match ds with | [d] => R.of M ((seqOf M d).map .tup) | _ => .no)
  | .dict => (match ds with | [d] => R.of M (((lv M d).bind pairsD).map fun kvs => .dct (kputs [] kvs)) | _ => .no)
  | .lenset => .no
  | .sortedset => R.of M ((setQ M ds).map .lst)
/-! methods of built-ins: the base b, the object, the arguments -/
def strsD : List D → Option (List Str)
  | [] => some []
  | .str i :: r => (strsD r).map (i :: ·)
  | _ => none
/-- a list in which nothing is a cell of the list's own kind: flat data alone -/
def flatL (M : Me) (d : D) : Option (List D) := (lv M d).bind fun xs => if xs.all flatD = true then some xs else none
def firstI (y : D) : List D → Option Nat
  | [] => none
  | x :: r => if eqF x y = true then some 0 else (firstI y r).map (· + 1)
/-- the type whose method it is -/
def bmT : Bm → String
  | .join => "str" | .split => "str" | .removeprefix => "str" | .title => "str"
  | .get => "dict" | .setdefault => "dict"
  | _ => "list"
def recvB (M : Me) (d : D) (m : Bm) : Bool := match bmT m with
  | "list" => (lv M d).isSome
  | "str" => (match d with | .str _ => true | _ => false)
  | _ => false
def bmOp (b : Nat) (m : Bm) (a : D) (ds : List D) (M : Me) : R D := match m with
  | .append => (match a with
    | .cel k => (match M[k]?, ds with
      | some (.lst xs), [d] => if xs.length < maxL ∧ mayW b k d = true then .ok .non (M.set k (.lst (xs ++ [d]))) else .no
      | _, _ => .no)
    | _ => .no)
  | .extend => (match a with
    | .cel k => (match M[k]?, ds with
      | some (.lst xs), [d] => (match lw M d with
          | some ys => if xs.length + ys.length ≤ maxL ∧ (decide (b ≤ k) || clL 0 ys) = true then .ok .non (M.set k (.lst (xs ++ ys))) else .no
          | none => .no)
      | _, _ => .no)
    | _ => .no)
  | .pop => (match a with
    | .cel k => (match M[k]?, ds with
      | some (.lst xs), [] => (match xs[xs.length - 1]? with | some d => .ok d (M.set k (.lst xs.dropLast)) | none => .no)
      | some (.lst xs), [.int i] => if -(2 ^ 63) ≤ i ∧ i < 2 ^ 63 then (match seqIndex? i xs.length with
          | some j => (match xs[j]? with | some d => .ok d (M.set k (.lst (xs.eraseIdx j))) | none => .no)
          | none => .no) else .no
      | _, _ => .no)
    | _ => .no)
  | .count => (match flatL M a, ds with
    | some xs, [d] => if flatD d = true then .ok (.int (xs.countP (fun z => eqF z d) : Nat)) M else .no
    | _, _ => .no)
  | .index => (match flatL M a, ds with
    | some xs, [d] => if flatD d = true then (match firstI d xs with | some j => .ok (.int (j : Nat)) M | none => .no) else .no
    | _, _ => .no)
  | .join => (match a, ds with
    | .str x, [d] => (match (seqOf M d).bind strsD with
      | some ys => if (ys.map (·.length)).sum + ys.length * x.length ≤ maxL then .ok (.str (PySem.Txt.join x ys)) M else .no
      | none => .no)
    | _, _ => .no)
  | .split => (match a, ds with
    | .str x, [.str y] => if (y.length == 0) = false ∧ x.length ≤ maxL then .ok (.lst ((PySem.Txt.split x y).map .str)) M else .no
    | _, _ => .no)
  | .removeprefix => (match a, ds with
    | .str x, [.str y] => if x.length ≤ maxL then .ok (.str (PySem.Txt.removeprefix x y)) M else .no
    | _, _ => .no)
  | .title => (match a, ds with
    | .str x, [] => if Builtin.Str.tooLong (PySem.Txt.title x).length = false then .ok (.str (PySem.Txt.title x)) M else .no
    | _, _ => .no)
  | _ => .no
/-! targets' stores -/
def setSub (G : Pg) (cf : Cf) (b : Nat) (a i d : D) (M : Me) : R Unit := match a with
  | .cel k => (match M[k]? with
    | some (.lst xs) => (match i with
      | .int i => (match ixN xs.length i with
        | some j => if mayW b k d = true then .ok () (M.set k (.lst (xs.set j d))) else .no
        | none => .no)
      | _ => .no)
    | some (.dct kvs) => (match keyOf i with
      | some q => if mayW b k d = true ∧ kvs.length < maxL then .ok () (M.set k (.dct (kput kvs q d))) else .no
      | none => .no)
    | _ => .no)
  | _ => .no
def setAtt (G : Pg) (b : Nat) (a : D) (f : Str) (d : D) (M : Me) : R Unit := match a with
  | .cel k => (match M[k]? with
    | some (.obj C fs) => (match G.find C f with
      | none => if mayW b k d = true ∧ fs.length < 100 ∧ G.fld C f = true then .ok () (M.set k (.obj C (fput f d fs))) else .no
      | some _ => .no)
    | _ => .no)
  | _ => .no
/-! ## the interpreter -/
def initNm (C : Cn) : Str := C.nm ++ ".__init__"
/-- the fields of an exception that is made -/
def xmk (G : Pg) (C : Cn) (ds : List D) : Option (List (Str × D)) :=
  if G.has C = true then
    (if C.plainX = true then (match ds with | [] => some [] | [_] => some [] | _ => none)
     else match C.fldX with
      | some fs => if fs.length = ds.length then some (fs.zip ds) else none
      | none => none)
  else none
def mkR (G : Pg) (cf : Cf) (C : Cn) (ds : List D) (M : Me) : R D :=
  if C.isX = true then R.of M ((xmk G C ds).map (.exc C))
  else match G.find C "__init__" with
      | some (.me f) => (callP G cf f (.cel M.length :: ds) (M ++ [.obj C []])).bind fun d M' => (match d with | .non => .ok (.cel M.length) M' | _ => .no)
      | _ => .no
def forL (step : D → Ga → Me → Out) (ok : Me → Bool) : List D → Ga → Me → Out
  | [], g, M => if ok M = true then .nx g M else .no
  | d :: r, g, M => if ok M = true then (match step d g M with
    | .nx g' M' => forL step ok r g' M'
    | .ct g' M' => forL step ok r g' M'
    | .bk g' M' => .nx g' M'
    | .rt d M' => .rt d M'
    | .ex C fs g' M' => .ex C fs g' M'
    | .no => .no) else .no
def whL (test : Ga → Me → R Bool) (body : Ga → Me → Out) : Nat → Ga → Me → Out
  | 0, _, _ => .no
  | n + 1, g, M => (match test g M with
    | .ok true M1 => (match body g M1 with
      | .nx g' M' => whL test body n g' M'
      | .ct g' M' => whL test body n g' M'
      | .bk g' M' => .nx g' M'
      | .rt d M' => .rt d M'
      | .ex C fs g' M' => .ex C fs g' M'
      | .no => .no)
    | .ok false M1 => .nx g M1
    | .ex C fs M1 => .ex C fs g M1
    | .no => .no)
/-- a comprehension: turn gives none where the test fails -/
def lcL (turn : D → Me → R (Option D)) (ok : Me → Bool) : List D → Me → R (List D)
  | [], M => if ok M = true then .ok [] M else .no
  | d :: r, M => if ok M = true then (match turn d M with
    | .ok none M' => lcL turn ok r M'
    | .ok (some x) M' => (lcL turn ok r M').bind fun xs M'' => .ok (x :: xs) M''
    | _ => .no) else .no
def wipeG (g : Ga) : List Nat → Ga
  | [] => g
  | v :: vs => (wipeG g vs).set v none
mutual
def Tg.slots : Tg → List Nat
  | .nm i => [i]
  | .tup ts => slotsL ts
  | _ => []
def slotsL : List Tg → List Nat
  | [] => []
  | t :: ts => t.slots ++ slotsL ts
end
/-! a target of names alone -/
mutual
def tgN : Tg → Ga → D → Option Ga
  | .nm i, g, d => if i < g.length then some (g.set i (some d)) else none
  | .tup ts, g, d => (match d with
    | .tup ds => tgNs ts g ds
    | _ => none)
  | _, _, _ => none
def tgNs : List Tg → Ga → List D → Option Ga
  | [], g, [] => some g
  | t :: ts, g, d :: ds => (tgN t g d).bind fun g' => tgNs ts g' ds
  | _, _, _ => none
end
/-- what is walked: the items, and the test that a walked cell stays -/
structure Wk where
  ds : List D
  ok : Me → Bool
mutual
def D.beq : D → D → Bool
  | .non, .non => true
  | .bl a, .bl b => a == b
  | .int a, .int b => decide (a = b)
  | .str a, .str b => decide (a = b)
  | .byt a, .byt b => decide (a = b)
  | .ty a, .ty b => decide (a = b)
  | .cl a, .cl b => decide (a = b)
  | .fn a, .fn b => decide (a = b)
  | .tup a, .tup b => beqL a b
  | .lst a, .lst b => beqL a b
  | .dct a, .dct b => beqK a b
  | .obj C a, .obj D b => decide (C = D) && beqF a b
  | .exc C a, .exc D b => decide (C = D) && beqF a b
  | .hot p d a, .hot q e b => decide (p = q) && (decide (d = e) && beqF a b)
  | .cel a, .cel b => decide (a = b)
  | .scr a, .scr b => decide (a = b)
  | _, _ => false
def beqL : List D → List D → Bool
  | [], [] => true
  | x :: r, y :: s => x.beq y && beqL r s
  | _, _ => false
def beqK : List (Key × D) → List (Key × D) → Bool
  | [], [] => true
  | (k, x) :: r, (l, y) :: s => decide (k = l) && (x.beq y && beqK r s)
  | _, _ => false
def beqF : List (Str × D) → List (Str × D) → Bool
  | [], [] => true
  | (k, x) :: r, (l, y) :: s => decide (k = l) && (x.beq y && beqF r s)
  | _, _ => false
end
mutual
theorem D.beq_refl : ∀ d : D, d.beq d = true
  | .non => by simp [D.beq]
  | .bl b => by simp [D.beq]
  | .int _ => by simp [D.beq]
  | .str _ => by simp [D.beq]
  | .byt _ => by simp [D.beq]
  | .ty _ => by simp [D.beq]
  | .cl _ => by simp [D.beq]
  | .fn _ => by simp [D.beq]
  | .tup ds => by simp [D.beq, beqL_refl ds]
  | .lst ds => by simp [D.beq, beqL_refl ds]
  | .dct ds => by simp [D.beq, beqK_refl ds]
  | .obj _ ds => by simp [D.beq, beqF_refl ds]
  | .exc _ ds => by simp [D.beq, beqF_refl ds]
  | .hot _ _ ds => by simp [D.beq, beqF_refl ds]
  | .cel _ => by simp [D.beq]
  | .scr _ => by simp [D.beq]
theorem beqL_refl : ∀ ds : List D, beqL ds ds = true
  | [] => by simp [beqL]
  | d :: ds => by simp [beqL, D.beq_refl d, beqL_refl ds]
theorem beqK_refl : ∀ ds : List (Key × D), beqK ds ds = true
  | [] => by simp [beqK]
  | (k, d) :: ds => by simp [beqK, D.beq_refl d, beqK_refl ds]
theorem beqF_refl : ∀ ds : List (Str × D), beqF ds ds = true
  | [] => by simp [beqF]
  | (k, d) :: ds => by simp [beqF, D.beq_refl d, beqF_refl ds]
end
mutual
theorem D.eq_of_beq : ∀ {d e : D}, d.beq e = true → d = e
  | .non, e, h => by cases e <;> simp_all [D.beq]
  | .bl _, e, h => by cases e <;> simp_all [D.beq]
  | .int _, e, h => by cases e <;> simp_all [D.beq]
  | .str _, e, h => by cases e <;> simp_all [D.beq]
  | .byt _, e, h => by cases e <;> simp_all [D.beq]
  | .ty _, e, h => by cases e <;> simp_all [D.beq]
  | .cl _, e, h => by cases e <;> simp_all [D.beq]
  | .fn _, e, h => by cases e <;> simp_all [D.beq]
  | .tup ds, e, h => by cases e with | tup es => (simp only [D.beq] at h; exact congrArg D.tup (eq_of_beqL h)) | _ => simp [D.beq] at h
  | .lst ds, e, h => by cases e with | lst es => (simp only [D.beq] at h; exact congrArg D.lst (eq_of_beqL h)) | _ => simp [D.beq] at h
  | .dct ds, e, h => by cases e with | dct es => (simp only [D.beq] at h; exact congrArg D.dct (eq_of_beqK h)) | _ => simp [D.beq] at h
  | .obj C ds, e, h => by
    cases e with
    | obj C2 es =>
      simp only [D.beq, Bool.and_eq_true, decide_eq_true_eq] at h
      rw [h.1, eq_of_beqF h.2]
    | _ => simp [D.beq] at h
  | .exc C ds, e, h => by
    cases e with
    | exc C2 es =>
      simp only [D.beq, Bool.and_eq_true, decide_eq_true_eq] at h
      rw [h.1, eq_of_beqF h.2]
    | _ => simp [D.beq] at h
  | .hot p d ds, e, h => by
    cases e with
    | hot q d2 es =>
      simp only [D.beq, Bool.and_eq_true, decide_eq_true_eq] at h
      rw [h.1, h.2.1, eq_of_beqF h.2.2]
    | _ => simp [D.beq] at h
  | .cel _, e, h => by cases e <;> simp_all [D.beq]
  | .scr _, e, h => by cases e <;> simp_all [D.beq]
theorem eq_of_beqL : ∀ {d e : List D}, beqL d e = true → d = e
  | [], [], _ => rfl
  | [], _ :: _, h => by simp [beqL] at h
  | _ :: _, [], h => by simp [beqL] at h
  | x :: r, y :: s, h => by
    simp only [beqL, Bool.and_eq_true] at h
    rw [D.eq_of_beq h.1, eq_of_beqL h.2]
theorem eq_of_beqK : ∀ {d e : List (Key × D)}, beqK d e = true → d = e
  | [], [], _ => rfl
  | [], _ :: _, h => by simp [beqK] at h
  | _ :: _, [], h => by simp [beqK] at h
  | (k, x) :: r, (l, y) :: s, h => by
    simp only [beqK, Bool.and_eq_true, decide_eq_true_eq] at h
    rw [h.1, D.eq_of_beq h.2.1, eq_of_beqK h.2.2]
theorem eq_of_beqF : ∀ {d e : List (Str × D)}, beqF d e = true → d = e
  | [], [], _ => rfl
  | [], _ :: _, h => by simp [beqF] at h
  | _ :: _, [], h => by simp [beqF] at h
  | (k, x) :: r, (l, y) :: s, h => by
    simp only [beqF, Bool.and_eq_true, decide_eq_true_eq] at h
    rw [h.1, D.eq_of_beq h.2.1, eq_of_beqF h.2.2]
end
def celIs (k : Nat) (ds : List D) (M : Me) : Bool := match M[k]? with
  | some (.lst xs) => beqL xs ds
  | _ => false
theorem celIs_iff {k : Nat} {ds : List D} {M : Me} : celIs k ds M = true ↔ M[k]? = some (.lst ds) := by
  unfold celIs
  cases e : M[k]? with
  | none => simp
  | some c =>
    cases c with
    | lst xs => simp; exact ⟨eq_of_beqL, fun h => h ▸ beqL_refl _⟩
    | _ => simp
def yes (_ : Me) : Bool := true
/-- what is walked: the items given, and the cells that must hold what they held -/
abbrev Wks := List D × List (Nat × List D)
def wkOf (M : Me) : D → Option Wks
  | .tup ds => some (ds, [])
  | .lst ds => some (ds, [])
  | .scr ns => some (ns.map .int, [])
  | .cel k => (match M[k]? with | some (.lst ds) => some (ds, [(k, ds)]) | _ => none)
  | _ => none
def wkO (wk : Wks) (M : Me) : Bool := wk.2.all fun q => celIs q.1 q.2 M
/-- .. of a list -/
def wkL (M : Me) : D → Option Wks
  | .lst ds => some (ds, [])
  | .scr ns => some (ns.map .int, [])
  | .cel k => (match M[k]? with | some (.lst ds) => some (ds, [(k, ds)]) | _ => none)
  | _ => none
def rngD (lo hi : Int) : List D := (List.range (hi - lo).toNat).map fun i : Nat => D.int (lo + (i : Int))
def enumD : Nat → List D → List D
  | _, [] => []
  | n, d :: r => .tup [.int n, d] :: enumD (n + 1) r
def rngOf (ds : List D) : Option (List D) := match ds with
  | [.int j] => if -(2 ^ 62) ≤ j ∧ j < 2 ^ 62 then some (rngD 0 j) else none
  | [.int i, .int j] => if -(2 ^ 62) ≤ i ∧ i < 2 ^ 62 ∧ -(2 ^ 62) ≤ j ∧ j < 2 ^ 62 then some (rngD i j) else none
  | _ => none
def zipD : List D → List D → List D
  | x :: r, y :: s => .tup [x, y] :: zipD r s
  | _, _ => []
def wkZ (M : Me) (d e : D) : Option Wks := match d, e with
  | .tup xs, .tup ys => some (zipD xs ys, [])
  | d, e => (match wkL M d, wkL M e with
    | some p, some q => some (zipD p.1 q.1, p.2 ++ q.2)
    | _, _ => none)
def Out.seq (o : Out) (k : Ga → Me → Out) : Out := match o with
  | .nx g M => k g M
  | o => o
def R.out {α : Type} (g : Ga) (r : R α) (k : α → Me → Out) : Out := match r with
  | .ok a M => k a M
  | .ex C fs M => .ex C fs g M
  | .no => .no
def cbOk : Bn → Bool
  | .lenset => false | _ => true
def strOf : D → Option Str
  | .str x => some x
  | .int i => if i.natAbs.log2 < 1920 then some (Str.ofString (toString i)) else none
  | _ => none
/-- the words of _law_word -/
def Cn.word : Cn → Option Str
  | .NotRow => some "row" | .NotTable => some "table" | .NotKey => some "key" | .NotKeys => some "keys" | .NotRows => some "rows" | .NotOrder => some "order" | .NotRule => some "rule" | .NotInteger => some "integer" | .NotScan => some "scan"
  | .NotBound => some "bound" | .NotFormula => some "formula" | .NotDeed => some "deed" | .NotText => some "text" | .NotBytes => some "bytes" | .NotLine => some "line" | .Missing => some "missing" | .Impossible => some "impossible"
  | .TooLarge => some "large" | .NothingDone => some "nothing" | .Twice => some "twice" | .Held => some "held" | .TooMany => some "many" | .Competing => some "competing" | .Ringed => some "ringed" | .Collision => some "collision"
  | _ => none
/-- what is said of an exception -/
def saidD (C : Cn) (fs : List (Str × D)) : Option D := match C.word with
  | none => none
  | some w => (match C.fldX with
    | none => if fs.isEmpty = true then some (.tup [.str w]) else none
    | some ns => if fs.map (·.1) = ns then some (.tup (.str w :: fs.map (·.2))) else none)
/-- what is said of r -/
def saidR (G : Pg) (r : R D) : R D := match r with
  | .ok d M => .ok (.tup [.str "returned", d]) M
  | .ex C fs M => if (G.has C && C.isX) = true then R.of M (saidD C fs) else .no
  | .no => .no
section
variable (G : Pg) (cf : Nat → Cf)
mutual
def ev (b : Nat) : Ex → Ga → Me → R D
  | .v i, g, M => R.of M (g[i]?.bind id)
  | .int i, _, M => .ok (.int i) M
  | .bl i, _, M => .ok (.bl i) M
  | .str x, _, M => .ok (.str x) M
  | .non, _, M => .ok .non M
  | .gc x, _, M => R.of M (G.con x)
  | .gcl C, _, M => .ok (.cl C) M
  | .gty x, _, M => R.of M ((bootBuiltins x).bind fun u => match u with | .type n => some (.ty n) | _ => none)
  | .bin op x y, g, M => (ev b x g M).bind fun d1 M1 => (ev b y g M1).bind fun d2 M2 => binOp G (cf b) op d1 d2 M2
  | .neg x, g, M => (ev b x g M).bind fun d M1 => match d with | .int i => .ok (.int (-i)) M1 | d => dun G (cf b) M1 d "__neg__" []
  | .cmp op x y, g, M => (ev b x g M).bind fun d1 M1 => (ev b y g M1).bind fun d2 M2 => (cmpOp G (cf b) op d1 d2 M2).bind fun z M3 => .ok (.bl z) M3
  | .chn op op' x y w, g, M => (ev b x g M).bind fun d1 M1 => (ev b y g M1).bind fun d2 M2 => (cmpOp G (cf b) op d1 d2 M2).bind fun z M3 =>
      if z = true then (ev b w g M3).bind fun d3 M4 => (cmpOp G (cf b) op' d2 d3 M4).bind fun z' M5 => .ok (.bl z') M5 else .ok (.bl false) M3
  | .and x y, g, M => (ev b x g M).bind fun d M1 => match tru M1 d with | some true => ev b y g M1 | some false => .ok d M1 | none => .no
  | .or x y, g, M => (ev b x g M).bind fun d M1 => match tru M1 d with | some true => .ok d M1 | some false => ev b y g M1 | none => .no
  | .nt x, g, M => (ev b x g M).bind fun d M1 => R.of M1 ((tru M1 d).map fun z => .bl (!z))
  | .ite c x y, g, M => (ev b c g M).bind fun d M1 => match tru M1 d with | some true => ev b x g M1 | some false => ev b y g M1 | none => .no
  | .tup es, g, M => (evs b es g M).bind fun ds M1 => if ds.length ≤ maxL then .ok (.tup ds) M1 else .no
  | .lst es, g, M => (evs b es g M).bind fun ds M1 => if ds.length ≤ maxL then .ok (.lst ds) M1 else .no
  | .dct ks vs, _, M => (match ks, vs with
    | [], [] => .ok (.dct []) M
    | [.int i], [.int j] => .ok (.dct [(.inl i, .int j)]) M
    | _, _ => .no)
  | .sub x y, g, M => (ev b x g M).bind fun d1 M1 => (ev b y g M1).bind fun d2 M2 => subs G (cf b) d1 d2 M2
  | .sl x lo hi, g, M => (ev b x g M).bind fun d M1 => (evo b lo g M1).bind fun l M2 => (evo b hi g M2).bind fun h M3 =>
      match d with
      | .tup ds => .ok (.tup (cutD ds l h)) M3
      | d => R.of M3 ((lv M3 d).map fun ds => .lst (cutD ds l h))
  | .rev x, g, M => (ev b x g M).bind fun d M1 => R.of M1 ((lv M1 d).map fun ds => .lst ds.reverse)
  | .att x f, g, M => (ev b x g M).bind fun d M1 => attr G (cf b) d f M1
  | .cf x es ks kes, g, M => (evs b es g M).bind fun ds M1 => (evs b kes g M1).bind fun kds M2 => callK G (cf b) x ds ks kds M2
  | .cb n es, g, M => if cbOk n = true then (evs b es g M).bind fun ds M1 => cbOp G (cf b) n ds M1 else .no
  | .mk C es, g, M => (evs b es g M).bind fun ds M1 => mkR G (cf b) C ds M1
  | .met x m es, g, M => (ev b x g M).bind fun d M1 => match metF G M1 d m with | some f => (evs b es g M1).bind fun ds M2 => callP G (cf b) f (d :: ds) M2 | none => .no
  | .bm x m es, g, M => (ev b x g M).bind fun d M1 => if recvB M1 d m = true then (evs b es g M1).bind fun ds M2 => bmOp b m d ds M2 else .no
  | .lc e tg it cs, g, M => (evi b it g M).bind fun wk M1 => (lcL (fun d M => match tgN tg (wipeG g tg.slots) d with
      | some g' => (evc b cs g' M).bind fun z M3 => if z = true then (ev b e g' M3).bind fun x M4 => .ok (some x) M4 else .ok none M3
      | none => .no) (wkO wk) wk.1 M1).bind fun ds M5 => if wk.1.length ≤ 50000 then .ok (.lst ds) M5 else .no
  | .fst es, g, M => (evf b es g Str.empty M).bind fun x M1 => .ok (.str x) M1
  | .cel e, g, M => (evN b e g M).bind fun c M1 => .ok (.cel M1.length) (M1 ++ [c])
  | .frz e, g, M => trunc M.length (ev M.length e g M)
  | .star _, _, _ => .no
  | .said e, g, M => saidR G (ev b e g M)
  | .call i es, g, M => (match g[i]?.bind id with
    | some d => if (metC G M d).isSome = true then (evs b es g M).bind fun ds M2 => (match metC G M2 d with | some f => callP G (cf b) f (d :: ds) M2 | none => .no) else .no
    | none => .no)
/-- something new -/
def evN (b : Nat) : Ex → Ga → Me → R Ce
  | .lst es, g, M => (evs b es g M).bind fun ds M1 => if ds.length ≤ maxL then .ok (.lst ds) M1 else .no
  | .lc e tg it cs, g, M => (evi b it g M).bind fun wk M1 => (lcL (fun d M => match tgN tg (wipeG g tg.slots) d with
      | some g' => (evc b cs g' M).bind fun z M3 => if z = true then (ev b e g' M3).bind fun x M4 => .ok (some x) M4 else .ok none M3
      | none => .no) (wkO wk) wk.1 M1).bind fun ds M5 => if wk.1.length ≤ 50000 then .ok (.lst ds) M5 else .no
  | .cb .list es, g, M => (evs b es g M).bind fun ds M1 => match ds with | [d] => R.of M1 ((seqOf M1 d).map .lst) | _ => .no
  | .cb .sorted es, g, M => (evs b es g M).bind fun ds M1 => match ds with | [d] => R.of M1 ((sortQ M1 d).map .lst) | _ => .no
  | .cb .sortedset es, g, M => (evs b es g M).bind fun ds M1 => R.of M1 ((setQ M1 ds).map .lst)
  | .bin .Add x y, g, M => (ev b x g M).bind fun d1 M1 => (ev b y g M1).bind fun d2 M2 => match lw M2 d1, lw M2 d2 with
      | some xs, some ys => if xs.length + ys.length ≤ maxL then .ok (.lst (xs ++ ys)) M2 else .no
      | _, _ => .no
  | .sl x lo hi, g, M => (ev b x g M).bind fun d M1 => (evo b lo g M1).bind fun l M2 => (evo b hi g M2).bind fun h M3 => R.of M3 ((lv M3 d).map fun ds => .lst (cutD ds l h))
  | .dct [] [], _, M => .ok (.dct []) M
  | .cb .dict es, g, M => (evs b es g M).bind fun ds M1 => match ds with | [d] => R.of M1 (((lv M1 d).bind pairsD).map fun kvs => .dct (kputs [] kvs)) | _ => .no
  | _, _, _ => .no
def evs (b : Nat) : List Ex → Ga → Me → R (List D)
  | [], _, M => .ok [] M
  | e :: es, g, M => (ev b e g M).bind fun d M1 => (evs b es g M1).bind fun ds M2 => .ok (d :: ds) M2
def evf (b : Nat) : List Ex → Ga → Str → Me → R Str
  | [], _, acc, M => .ok acc M
  | e :: es, g, acc, M => (ev b e g M).bind fun d M1 => match strOf d with
    | some x => if x.length ≤ maxL ∧ (acc ++ x).length ≤ maxL then evf b es g (acc ++ x) M1 else .no
    | none => .no
def evo (b : Nat) : Option Ex → Ga → Me → R (Option Int)
  | none, _, M => .ok none M
  | some e, g, M => (ev b e g M).bind fun d M1 => match d with | .int i => .ok (some i) M1 | _ => .no
def evc (b : Nat) : Option Ex → Ga → Me → R Bool
  | none, _, M => .ok true M
  | some e, g, M => (ev b e g M).bind fun d M1 => R.of M1 (tru M1 d)
def evi (b : Nat) : It → Ga → Me → R Wks
  | .ex e, g, M => (ev b e g M).bind fun d M1 => R.of M1 (wkOf M1 d)
  | .rng es, g, M => (evs b es g M).bind fun ds M1 => R.of M1 ((rngOf ds).map fun l => (l, []))
  | .zip x y, g, M => (ev b x g M).bind fun d M1 => (ev b y g M1).bind fun e M2 => R.of M2 (wkZ M2 d e)
  | .enum x, g, M => (ev b x g M).bind fun d M1 => R.of M1 ((wkL M1 d).map fun wk => (enumD 0 wk.1, wk.2))
def sto (b : Nat) : Tg → Ga → D → Me → Out
  | .nm i, g, d, M => if i < g.length then .nx (g.set i (some d)) M else .no
  | .tup ts, g, d, M => (match seqOf M d with
    | some ds => if ds.length = ts.length then stos b ts g ds M else .no
    | none => .no)
  | .sub x y, g, d, M => R.out g ((ev b x g M).bind fun d1 M1 => (ev b y g M1).bind fun d2 M2 => setSub G (cf b) b d1 d2 d M2) fun _ M => .nx g M
  | .att x f, g, d, M => R.out g ((ev b x g M).bind fun d1 M1 => setAtt G b d1 f d M1) fun _ M => .nx g M
def stos (b : Nat) : List Tg → Ga → List D → Me → Out
  | [], g, [], M => .nx g M
  | t :: ts, g, d :: ds, M => (match sto b t g d M with
    | .nx g' M' => stos b ts g' ds M'
    | .ex C fs g' M' => .ex C fs g' M'
    | _ => .no)
  | _, _, _, _ => .no
end
def isAug : Operator → Bool
  | .Add => true
  | .Sub => true
  | _ => false
def augD (op : Operator) : D → D → Option D
  | .int x, .int y => (match op with
    | .Add => some (.int (x + y))
    | .Sub => some (.int (x - y))
    | _ => none)
  | _, _ => none
def setIs : List Nat → List D → Ga → Ga
  | i :: is, d :: ds, g => setIs is ds (g.set i (some d))
  | _, _, g => g
def mostW : Nat := 100000
mutual
def exec (b : Nat) : Sm → Ga → Me → Out
  | .asg t e, g, M => R.out g (ev G cf b e g M) fun d M1 => sto G cf b t g d M1
  | .par is es, g, M => R.out g (evs G cf b es g M) fun ds M1 => if is.length = ds.length ∧ is.all (· < g.length) = true then .nx (setIs is ds g) M1 else .no
  | .aug i op e, g, M => (match g[i]?.bind id with
    | some d => if isAug op = true then R.out g (ev G cf b e g M) fun d2 M1 => (match augD op d d2 with | some d3 => .nx (g.set i (some d3)) M1 | none => .no) else .no
    | none => .no)
  | .ex e, g, M => R.out g (ev G cf b e g M) fun _ M1 => .nx g M1
  | .ret e, g, M => R.out g (ev G cf b e g M) fun d M1 => .rt d M1
  | .retN, _, M => .rt .non M
  | .rai C es, g, M => R.out g (evs G cf b es g M) fun ds M1 => match xmk G C ds with | some fs => .ex C fs g M1 | none => .no
  | .ifs c x y, g, M => R.out g (ev G cf b c g M) fun d M1 => match tru M1 d with | some true => execs b x g M1 | some false => execs b y g M1 | none => .no
  | .for t it body, g, M => R.out g (evi G cf b it g M) fun wk M1 => forL (fun d g M => (sto G cf b t g d M).seq fun g M => execs b body g M) (wkO wk) wk.1 g M1
  | .whl c body, g, M => whL (fun g M => (ev G cf b c g M).bind fun d M1 => R.of M1 (tru M1 d)) (fun g M => execs b body g M) mostW g M
  | .brk, g, M => .bk g M
  | .cnt, g, M => .ct g M
  | .pass, g, M => .nx g M
def execs (b : Nat) : List Sm → Ga → Me → Out
  | [], g, M => .nx g M
  | s :: r, g, M => (exec b s g M).seq fun g M => execs b r g M
end
def endOf : Out → R D
  | .nx _ M => .ok .non M
  | .rt d M => .ok d M
  | .ex C fs _ M => .ex C fs M
  | _ => .no
def callF (f : Fn) (b : Nat) (ds : List D) (M : Me) : R D :=
  if ds.length = f.ps.length then
    (if f.keep = true then endOf (execs G cf b f.body (ds.map some ++ List.replicate f.n none) M)
     else trunc M.length (endOf (execs G cf M.length f.body (ds.map some ++ List.replicate f.n none) M)))
  else .no
end
/-- the defs, called k deep at most -/
def run (G : Pg) : Nat → Nat → Cf
  | 0, _, _, _, _ => .no
  | k + 1, b, x, ds, M => match G.fn x with
    | some f => callF G (run G k) f b ds M
    | none => .no
end Iv
namespace Iv
open PySem PySem.Spec PyProof.Rows L2 LamX
/-- where the class stands -/
abbrev ca (K : PySem.W.Frag) (C : Cn) : Addr := He.ga K C.nm
/-- the cells' places, and places that nothing names -/
structure Ad where
  as : List Addr
  px : List Addr
def Ad.out (A : Ad) (a : Addr) : Prop := a ∉ A.as ∧ a ∉ A.px
/-- an exception object that is not in flight, with its own dict (or none) -/
def ExV (cls : Value) (dd : Option Addr) (a : Addr) : HO := .ext fun h => ∃ (oe : Obj) (vs : Array Value), h.get? a = some oe ∧ Zc cls dd oe ∧ oe.data = .fields vs ∧ vs[1]? = some .none ∧ vs[2]? = some .none ∧ 4 < vs.size
mutual
inductive Rp (K : PySem.W.Frag) (A : Ad) (H : Hp) : V → D → Prop where
  | non : Rp K A H .non .non
  | bl {b} : Rp K A H (.bl b) (.bl b)
  | int {i} : Rp K A H (.int i) (.int i)
  | str {x} : Rp K A H (.str x) (.str x)
  | byt {b} : Rp K A H (.byt b) (.byt b)
  | ty {n} : Rp K A H (.ty n) (.ty n)
  | cl {C} : Rp K A H (.ref (ca K C)) (.cl C)
  | fn {x} : Rp K A H (.ref (He.ga K x)) (.fn x)
  | tup {a vs ds} : A.out a → H a = some (.tup vs) → RpL K A H vs ds → Rp K A H (.ref a) (.tup ds)
  | tupW {a vs ds} : (∀ H', SqT K H' a vs) → RpL K A H vs ds → Rp K A H (.ref a) (.tup ds)
  | lst {a vs ds} : A.out a → H a = some (.lst vs) → RpL K A H vs ds → Rp K A H (.ref a) (.lst ds)
  | dct {a kvs kds} : A.out a → Rd H a (.dK kvs) → RpK K A H kvs kds → Rp K A H (.ref a) (.dct kds)
  | obj {a C dx fs fds} : A.out a → H a = some (.ins (ca K C) dx fs) → RpF K A H fs fds → Rp K A H (.ref a) (.obj C fds)
  | exc0 {a C} : A.out a → H a = some (ExV (.ref (ca K C)) none a) → Rp K A H (.ref a) (.exc C [])
  | exc {a C d fs fds} : A.out a → A.out d → H a = some (ExV (.ref (ca K C)) (some d) a) → H d = some (.xd fs) → RpF K A H fs fds → Rp K A H (.ref a) (.exc C fds)
  | hot0 {a} : Rp K A H (.ref a) (.hot a none [])
  | hot {a d fs fds} : A.out d → H d = some (.xd fs) → RpF K A H fs fds → Rp K A H (.ref a) (.hot a (some d) fds)
  | cel {a k} : A.as[k]? = some a → Rp K A H (.ref a) (.cel k)
  | scr {a ns} : A.out a → Rd H a (.lst (ns.map V.int)) → Rp K A H (.ref a) (.scr ns)
  | scrW {a ns} : (∀ H', SqL K H' a (ns.map V.int)) → Rp K A H (.ref a) (.scr ns)
inductive RpL (K : PySem.W.Frag) (A : Ad) (H : Hp) : List V → List D → Prop where
  | nil : RpL K A H [] []
  | cons {v d vs ds} : Rp K A H v d → RpL K A H vs ds → RpL K A H (v :: vs) (d :: ds)
inductive RpK (K : PySem.W.Frag) (A : Ad) (H : Hp) : List (Key × V) → List (Key × D) → Prop where
  | nil : RpK K A H [] []
  | cons {k v d vs ds} : Rp K A H v d → RpK K A H vs ds → RpK K A H ((k, v) :: vs) ((k, d) :: ds)
inductive RpF (K : PySem.W.Frag) (A : Ad) (H : Hp) : List (Str × V) → List (Str × D) → Prop where
  | nil : RpF K A H [] []
  | cons {k v d vs ds} : Rp K A H v d → RpF K A H vs ds → RpF K A H ((k, v) :: vs) ((k, d) :: ds)
end
/-- what stays as it is where it is no cell -/
def Stay : HO → Prop
  | .tbl _ => False
  | .dK _ => False
  | .frz _ (.dK _) => False
  | _ => True
/-- the cells grow by new places, what is no cell stays -/
structure Ch (A : Ad) (H : Hp) (A' : Ad) (H' : Hp) : Prop where
  pre : ∃ B, A'.as = A.as ++ B
  px : A'.px = A.px
  keep : ∀ a o, H a = some o → a ∉ A.as → Stay o → H' a = some o
  dks : ∀ a kvs, Rd H a (.dK kvs) → a ∉ A.as → Rd H' a (.dK kvs)
  frz : ∀ a o u, H a = some (.frz o u) → H' a = some (.frz o u)
  new : ∀ a, a ∈ A'.as → a ∈ A.as ∨ H a = none
  tbs : ∀ a ps, H a = some (.tbl ps) → ∃ ps', H' a = some (.tbl ps')
theorem Ch.refl {A : Ad} {H : Hp} : Ch A H A H := ⟨⟨[], by simp⟩, rfl, fun _ _ h _ _ => h, fun _ _ h _ => h, fun _ _ _ h => h, fun _ h => .inl h, fun _ ps h => ⟨ps, h⟩⟩
theorem Ch.get {A A' : Ad} {H H' : Hp} (c : Ch A H A' H') {k : Nat} {a : Addr} (h : A.as[k]? = some a) : A'.as[k]? = some a := by
  obtain ⟨B, e⟩ := c.pre
  rw [e, List.getElem?_append_left (List.getElem?_eq_some_iff.mp h).1]
  exact h
theorem Ch.out {A A' : Ad} {H H' : Hp} (c : Ch A H A' H') {a : Addr} {o : HO} (h : H a = some o) (n : A.out a) : A'.out a := by
  refine ⟨fun z => ?_, by rw [c.px]; exact n.2⟩
  rcases c.new a z with q | q
  · exact n.1 q
  · rw [h] at q
    cases q
theorem Ch.rdL {A A' : Ad} {H H' : Hp} (c : Ch A H A' H') {a : Addr} {xs : List V} (n : A.out a) (h : Rd H a (.lst xs)) : Rd H' a (.lst xs) ∧ A'.out a := by
  rcases h with h | ⟨o, h⟩
  · exact ⟨.inl (c.keep a _ h n.1 trivial), c.out h n⟩
  · exact ⟨.inr ⟨o, c.keep a _ h n.1 trivial⟩, c.out h n⟩
theorem Ch.rdD {A A' : Ad} {H H' : Hp} (c : Ch A H A' H') {a : Addr} {xs : List (Key × V)} (n : A.out a) (h : Rd H a (.dK xs)) : Rd H' a (.dK xs) ∧ A'.out a := by
  refine ⟨c.dks a xs h n.1, ?_⟩
  rcases h with h | ⟨o, h⟩
  · exact c.out h n
  · exact c.out h n
mutual
theorem Rp.mono {K : PySem.W.Frag} {A A' : Ad} {H H' : Hp} (c : Ch A H A' H') : ∀ {v : V} {d : D}, Rp K A H v d → Rp K A' H' v d
  | _, _, .non => .non
  | _, _, .bl => .bl
  | _, _, .int => .int
  | _, _, .str => .str
  | _, _, .byt => .byt
  | _, _, .ty => .ty
  | _, _, .cl => .cl
  | _, _, .fn => .fn
  | _, _, .tup n h r => .tup (c.out h n) (c.keep _ _ h n.1 trivial) (RpL.mono c r)
  | _, _, .tupW h r => .tupW h (RpL.mono c r)
  | _, _, .lst n h r => .lst (c.out h n) (c.keep _ _ h n.1 trivial) (RpL.mono c r)
  | _, _, .dct n h r => .dct (c.rdD n h).2 (c.rdD n h).1 (RpK.mono c r)
  | _, _, .obj n h r => .obj (c.out h n) (c.keep _ _ h n.1 trivial) (RpF.mono c r)
  | _, _, .exc0 n h => .exc0 (c.out h n) (c.keep _ _ h n.1 trivial)
  | _, _, .exc n n2 h h2 r => .exc (c.out h n) (c.out h2 n2) (c.keep _ _ h n.1 trivial) (c.keep _ _ h2 n2.1 trivial) (RpF.mono c r)
  | _, _, .hot0 => .hot0
  | _, _, .hot n h r => .hot (c.out h n) (c.keep _ _ h n.1 trivial) (RpF.mono c r)
  | _, _, .cel h => .cel (c.get h)
  | _, _, .scr n h => .scr (c.rdL n h).2 (c.rdL n h).1
  | _, _, .scrW h => .scrW h
theorem RpL.mono {K : PySem.W.Frag} {A A' : Ad} {H H' : Hp} (c : Ch A H A' H') : ∀ {vs : List V} {ds : List D}, RpL K A H vs ds → RpL K A' H' vs ds
  | _, _, .nil => .nil
  | _, _, .cons r t => .cons (Rp.mono c r) (RpL.mono c t)
theorem RpK.mono {K : PySem.W.Frag} {A A' : Ad} {H H' : Hp} (c : Ch A H A' H') : ∀ {vs : List (Key × V)} {ds : List (Key × D)}, RpK K A H vs ds → RpK K A' H' vs ds
  | _, _, .nil => .nil
  | _, _, .cons r t => .cons (Rp.mono c r) (RpK.mono c t)
theorem RpF.mono {K : PySem.W.Frag} {A A' : Ad} {H H' : Hp} (c : Ch A H A' H') : ∀ {vs : List (Str × V)} {ds : List (Str × D)}, RpF K A H vs ds → RpF K A' H' vs ds
  | _, _, .nil => .nil
  | _, _, .cons r t => .cons (Rp.mono c r) (RpF.mono c t)
end
theorem Ch.some_ {A A' : Ad} {H H' : Hp} (c : Ch A H A' H') {x : Addr} {o : HO} (e : H x = some o) (hx : x ∉ A.as) : H' x ≠ none := by
  by_cases ht : ∃ ps, o = .tbl ps
  · obtain ⟨ps, rfl⟩ := ht
    obtain ⟨ps', z⟩ := c.tbs x ps e
    rw [z]
    exact fun h => nomatch h
  · by_cases hd : ∃ kvs, Rd H x (.dK kvs)
    · obtain ⟨kvs, hd⟩ := hd
      rcases c.dks x kvs hd hx with z | ⟨o2, z⟩
      · rw [z]
        exact fun h => nomatch h
      · rw [z]
        exact fun h => nomatch h
    · have st : Stay o := by
        cases o with
        | tbl ps => exact ht ⟨ps, rfl⟩
        | dK kvs => exact hd ⟨kvs, .inl e⟩
        | frz o2 u =>
          cases u with
          | dK kvs => exact hd ⟨kvs, .inr ⟨o2, e⟩⟩
          | _ => exact trivial
        | _ => exact trivial
      rw [c.keep x o e hx st]
      exact fun h => nomatch h
theorem Ch.trans {A A1 A2 : Ad} {H H1 H2 : Hp} (a : Ch A H A1 H1) (b : Ch A1 H1 A2 H2) : Ch A H A2 H2 := by
  have out1 : ∀ {x : Addr} {o : HO}, H x = some o → x ∉ A.as → x ∉ A1.as := fun {x o} e n z => by
    rcases a.new x z with q | q
    · exact n q
    · rw [e] at q
      cases q
  refine ⟨?_, b.px.trans a.px, fun x o h n t => b.keep x o (a.keep x o h n t) (out1 h n) t, fun x kvs h n => b.dks x kvs (a.dks x kvs h n) ?_, fun x o u h => b.frz x o u (a.frz x o u h), fun x h => ?_, fun x ps h => ?_⟩
  · obtain ⟨B, e⟩ := a.pre
    obtain ⟨B2, e2⟩ := b.pre
    exact ⟨B ++ B2, by rw [e2, e, List.append_assoc]⟩
  · rcases h with h | ⟨o, h⟩
    · exact out1 h n
    · exact out1 h n
  · rcases b.new x h with q | q
    · exact a.new x q
    · by_cases hx : x ∈ A.as
      · exact .inl hx
      · cases e : H x with
        | none => exact .inr rfl
        | some o => exact absurd q (a.some_ e hx)
  · obtain ⟨p1, h1⟩ := a.tbs x ps h
    exact b.tbs x p1 h1
theorem rd_upd {H : Hp} {p a : Addr} {o u : HO} (h : H p = none) (r : Rd H a u) : Rd (upd H p o) a u := by
  rcases r with r | ⟨x, r⟩
  · exact .inl (by rw [upd_ne (ne_of_none r h)]; exact r)
  · exact .inr ⟨x, by rw [upd_ne (ne_of_none r h)]; exact r⟩
/-- a new object laid -/
theorem Ch.laid {A : Ad} {H : Hp} {p : Addr} {o : HO} (h : H p = none) : Ch A H A (upd H p o) where
  pre := ⟨[], by simp⟩
  px := rfl
  keep := fun a u e _ _ => by
    rw [upd_ne (ne_of_none e h)]
    exact e
  dks := fun a kvs r _ => rd_upd h r
  frz := fun a x u e => by
    rw [upd_ne (ne_of_none e h)]
    exact e
  new := fun _ h => .inl h
  tbs := fun a ps e => ⟨ps, by
    rw [upd_ne (ne_of_none e h)]
    exact e⟩
def Ad.add (A : Ad) (p : Addr) : Ad := ⟨A.as ++ [p], A.px⟩
/-- a new object laid that is a cell -/
theorem Ch.cell {A : Ad} {H : Hp} {p : Addr} {o : HO} (h : H p = none) : Ch A H (A.add p) (upd H p o) where
  pre := ⟨[p], rfl⟩
  px := rfl
  keep := fun a u e _ _ => by
    rw [upd_ne (ne_of_none e h)]
    exact e
  dks := fun a kvs r _ => rd_upd h r
  frz := fun a x u e => by
    rw [upd_ne (ne_of_none e h)]
    exact e
  new := fun a z => by
    rcases List.mem_append.mp z with q | q
    · exact .inl q
    · have e : a = p := by simpa using q
      rw [e]
      exact .inr h
  tbs := fun a ps e => ⟨ps, by
    rw [upd_ne (ne_of_none e h)]
    exact e⟩
/-- what may be written -/
def Wr : HO → Prop
  | .tbl _ => False
  | .frz _ _ => False
  | _ => True
/-- a cell written -/
theorem Ch.write {A : Ad} {H : Hp} {p : Addr} {o u : HO} (h : p ∈ A.as) (hu : H p = some u) (ht : Wr u) : Ch A H A (upd H p o) where
  pre := ⟨[], by simp⟩
  px := rfl
  keep := fun a u e n _ => by
    have hne : a ≠ p := fun z => n (by rw [z]; exact h)
    rw [upd_ne hne]
    exact e
  dks := fun a kvs r n => by
    have hne : a ≠ p := fun z => n (by rw [z]; exact h)
    rcases r with r | ⟨x, r⟩
    · exact .inl (by rw [upd_ne hne]; exact r)
    · exact .inr ⟨x, by rw [upd_ne hne]; exact r⟩
  frz := fun a x v e => by
    rw [upd_ne (fun z => by rw [z, hu] at e; cases e; exact ht)]
    exact e
  new := fun _ h => .inl h
  tbs := fun a ps e => ⟨ps, by
    rw [upd_ne (fun z => by rw [z, hu] at e; cases e; exact ht)]
    exact e⟩
/-! ## the state: slots, cells -/
inductive CeOk (K : PySem.W.Frag) (A : Ad) (H : Hp) (a : Addr) : Ce → Prop where
  | lst {vs ds} : H a = some (.lst vs) → RpL K A H vs ds → CeOk K A H a (.lst ds)
  | dct {kvs kds} : H a = some (.dK kvs) → RpK K A H kvs kds → CeOk K A H a (.dct kds)
  | dfz {o kvs kds} : H a = some (.frz o (.dK kvs)) → RpK K A H kvs kds → CeOk K A H a (.dfz kds)
  | obj {C dx fs fds} : H a = some (.ins (ca K C) dx fs) → RpF K A H fs fds → CeOk K A H a (.obj C fds)
structure Sta (K : PySem.W.Frag) (T : List (Addr × Str)) (bs : List Nat) (A : Ad) (M : Me) (H : Hp) (σ : L2.St) (g : Ga) : Prop where
  tabs : Tabs T H
  alen : A.as.length = M.length
  bas : ∀ x ∈ bs, x ≤ M.length ∧ ∀ (k : Nat) (c : Ce), M[k]? = some c → k < x → c.clo x = true
  nd : A.as.Nodup
  prv : ∀ p ∈ A.px, p ∉ A.as ∧ ∃ o, H p = some o
  cell : ∀ (k : Nat) (c : Ce), M[k]? = some c → ∃ a, A.as[k]? = some a ∧ CeOk K A H a c
  slen : σ.length = g.length
  slot : ∀ (i : Nat) (d : D), g[i]? = some (some d) → ∃ v, σ[i]? = some (some v) ∧ Rp K A H v d
theorem CeOk.here {K : PySem.W.Frag} {A : Ad} {H : Hp} {a : Addr} {c : Ce} (h : CeOk K A H a c) : ∃ o, H a = some o ∧ (∀ ps, o ≠ .tbl ps) ∧ ∀ φ, o ≠ .ext φ := by
  cases h with
  | lst h _ => exact ⟨_, h, (fun _ z => nomatch z), fun _ z => nomatch z⟩
  | dct h _ => exact ⟨_, h, (fun _ z => nomatch z), fun _ z => nomatch z⟩
  | dfz h _ => exact ⟨_, h, (fun _ z => nomatch z), fun _ z => nomatch z⟩
  | obj h _ => exact ⟨_, h, (fun _ z => nomatch z), fun _ z => nomatch z⟩
section
variable {K : PySem.W.Frag} {T : List (Addr × Str)} {bs : List Nat} {A : Ad} {M : Me} {H : Hp} {σ : L2.St} {g : Ga}
theorem Sta.at_ (E : Sta K T bs A M H σ g) {a : Addr} (h : a ∈ A.as) : ∃ (k : Nat) (c : Ce), A.as[k]? = some a ∧ M[k]? = some c ∧ CeOk K A H a c := by
  obtain ⟨k, hk, e⟩ := List.mem_iff_getElem.mp h
  have hk2 : k < M.length := by rw [← E.alen]; exact hk
  obtain ⟨b, hb, c⟩ := E.cell k M[k] (List.getElem?_eq_getElem hk2)
  rw [List.getElem?_eq_getElem hk] at hb
  have e2 : A.as[k] = b := Option.some.inj hb
  refine ⟨k, M[k], by rw [List.getElem?_eq_getElem hk, e], List.getElem?_eq_getElem hk2, ?_⟩
  rw [← e, e2]
  exact c
theorem Sta.adom (E : Sta K T bs A M H σ g) {a : Addr} (h : a ∈ A.as) : ∃ o, H a = some o ∧ (∀ ps, o ≠ .tbl ps) ∧ ∀ φ, o ≠ .ext φ := by
  obtain ⟨_, _, _, _, c⟩ := E.at_ h
  exact c.here
theorem Sta.fresh (E : Sta K T bs A M H σ g) {p : Addr} (h : H p = none) : A.out p := by
  refine ⟨fun z => ?_, fun z => ?_⟩
  · obtain ⟨o, q, _⟩ := E.adom z
    rw [h] at q
    cases q
  · obtain ⟨_, o, q⟩ := E.prv p z
    rw [h] at q
    cases q
theorem CeOk.mono {A' : Ad} {H' : Hp} {a : Addr} {c : Ce} (ch : Ch A H A' H') (hk : ∀ o, H a = some o → H' a = some o) (h : CeOk K A H a c) : CeOk K A' H' a c := by
  cases h with
  | lst h r => exact .lst (hk _ h) (r.mono ch)
  | dct h r => exact .dct (hk _ h) (r.mono ch)
  | dfz h r => exact .dfz (hk _ h) (r.mono ch)
  | obj h r => exact .obj (hk _ h) (r.mono ch)
/-- a new object -/
theorem Sta.laid (E : Sta K T bs A M H σ g) {p : Addr} {o : HO} (h : H p = none) : Sta K T bs A M (upd H p o) σ g where
  tabs := E.tabs.ext fun b u e => by rw [upd_ne (ne_of_none e h)]; exact e
  alen := E.alen
  bas := E.bas
  nd := E.nd
  prv := fun q hq => by
    obtain ⟨n, u, e⟩ := E.prv q hq
    exact ⟨n, u, by rw [upd_ne (ne_of_none e h)]; exact e⟩
  cell := fun k c hc => by
    obtain ⟨a, ha, q⟩ := E.cell k c hc
    exact ⟨a, ha, q.mono (Ch.laid h) fun u e => by rw [upd_ne (ne_of_none e h)]; exact e⟩
  slen := E.slen
  slot := fun i d hd => by
    obtain ⟨v, hv, r⟩ := E.slot i d hd
    exact ⟨v, hv, r.mono (Ch.laid h)⟩
/-- a new cell -/
theorem Sta.newCell (E : Sta K T bs A M H σ g) {p : Addr} {o : HO} {c : Ce} (h : H p = none) (hc : CeOk K (A.add p) (upd H p o) p c) : Sta K T bs (A.add p) (M ++ [c]) (upd H p o) σ g where
  tabs := E.tabs.ext fun b u e => by rw [upd_ne (ne_of_none e h)]; exact e
  alen := by show (A.as ++ [p]).length = _; rw [List.length_append, List.length_append, E.alen]; rfl
  bas := fun x hx => by
    obtain ⟨h1, h2⟩ := E.bas x hx
    refine ⟨by rw [List.length_append]; omega, fun k c hk hl => h2 k c ?_ hl⟩
    rw [List.getElem?_append_left (by omega)] at hk
    exact hk
  nd := List.nodup_append.mpr ⟨E.nd, List.nodup_cons.mpr ⟨by simp, List.nodup_nil⟩, fun a ha b hb => by
    have e : b = p := by simpa using hb
    rw [e]
    exact fun z => (E.fresh h).1 (by rw [← z]; exact ha)⟩
  prv := fun q hq => by
    obtain ⟨n, u, e⟩ := E.prv q hq
    refine ⟨fun z => ?_, u, by rw [upd_ne (ne_of_none e h)]; exact e⟩
    rcases List.mem_append.mp z with z | z
    · exact n z
    · have e2 : q = p := by simpa using z
      rw [e2, h] at e
      cases e
  cell := fun k c2 hc2 => by
    by_cases hk : k < M.length
    · rw [List.getElem?_append_left hk] at hc2
      obtain ⟨a, ha, q⟩ := E.cell k c2 hc2
      refine ⟨a, (Ch.cell (o := o) h).get ha, q.mono (Ch.cell h) fun u e => by rw [upd_ne (ne_of_none e h)]; exact e⟩
    · have hk2 : k = M.length := by
        have := (List.getElem?_eq_some_iff.mp hc2).1
        rw [List.length_append] at this
        have : k < M.length + 1 := this
        omega
      subst hk2
      rw [List.getElem?_append_right (Nat.le_refl _), Nat.sub_self] at hc2
      have e : c = c2 := Option.some.inj hc2
      subst e
      refine ⟨p, ?_, hc⟩
      show (A.as ++ [p])[_]? = _
      rw [← E.alen, List.getElem?_append_right (Nat.le_refl _), Nat.sub_self]
      rfl
  slen := E.slen
  slot := fun i d hd => by
    obtain ⟨v, hv, r⟩ := E.slot i d hd
    exact ⟨v, hv, r.mono (Ch.cell h)⟩
theorem Sta.ixne (E : Sta K T bs A M H σ g) {j k : Nat} {a p : Addr} (ha : A.as[j]? = some a) (hp : A.as[k]? = some p) (hjk : j ≠ k) : a ≠ p := fun z => by
  rw [z] at ha
  obtain ⟨h1, e1⟩ := List.getElem?_eq_some_iff.mp ha
  obtain ⟨h2, e2⟩ := List.getElem?_eq_some_iff.mp hp
  exact hjk ((List.getElem_inj E.nd).mp (e1.trans e2.symm))
theorem tabs_upd {T : List (Addr × Str)} {H : Hp} {p : Addr} {o u : HO} (t : Tabs T H) (hu : H p = some u) (ht : (∀ ps, u ≠ .tbl ps) ∧ ∀ φ, u ≠ .ext φ) : Tabs T (upd H p o) := fun q hq => by
  obtain ⟨ps, h1, h2, h3⟩ := t q hq
  refine ⟨ps, ?_, h2, fun pos cv hcv => ?_⟩
  · rw [upd_ne (fun z => by rw [z, hu] at h1; exact ht.1 ps (Option.some.inj h1))]
    exact h1
  · obtain ⟨x, e1, e2⟩ := h3 pos cv hcv
    refine ⟨x, e1, ?_⟩
    rw [upd_ne (fun z => by rw [z, hu] at e2; exact ht.2 _ (Option.some.inj e2))]
    exact e2
/-- a cell is written -/
theorem Sta.write (E : Sta K T bs A M H σ g) {k : Nat} {p : Addr} {o u : HO} {c c0 : Ce} (hp : A.as[k]? = some p) (h0 : M[k]? = some c0) (hu : H p = some u) (hw : Wr u) (hc : CeOk K A (upd H p o) p c) (hb : ∀ x ∈ bs, k < x → c.clo x = true) : Sta K T bs A (M.set k c) (upd H p o) σ g := by
  have hm : p ∈ A.as := List.mem_of_getElem? hp
  have ch : Ch A H A (upd H p o) := Ch.write hm hu hw
  have ht : (∀ ps, u ≠ .tbl ps) ∧ ∀ φ, u ≠ .ext φ := by
    obtain ⟨o2, h2, h3⟩ := E.adom hm
    rw [hu] at h2
    cases h2
    exact h3
  refine ⟨tabs_upd E.tabs hu ht, by rw [List.length_set]; exact E.alen, fun x hx => ?_, E.nd, fun q hq => ?_, fun j c2 hj => ?_, E.slen, fun i d hd => ?_⟩
  · obtain ⟨h1, h2⟩ := E.bas x hx
    refine ⟨by rw [List.length_set]; exact h1, fun j c2 hj hl => ?_⟩
    by_cases hjk : j = k
    · subst hjk
      rw [List.getElem?_set_self (List.getElem?_eq_some_iff.mp h0).1] at hj
      cases hj
      exact hb x hx hl
    · rw [List.getElem?_set_ne (Ne.symm hjk)] at hj
      exact h2 j c2 hj hl
  · obtain ⟨n, v, e⟩ := E.prv q hq
    exact ⟨n, v, by rw [upd_ne (fun z => n (by rw [z]; exact hm))]; exact e⟩
  · by_cases hjk : j = k
    · subst hjk
      rw [List.getElem?_set_self (List.getElem?_eq_some_iff.mp h0).1] at hj
      have e : c = c2 := Option.some.inj hj
      subst e
      exact ⟨p, hp, hc⟩
    · rw [List.getElem?_set_ne (Ne.symm hjk)] at hj
      obtain ⟨a, ha, q⟩ := E.cell j c2 hj
      refine ⟨a, ha, q.mono ch fun u e => ?_⟩
      rw [upd_ne (E.ixne ha hp hjk)]
      exact e
  · obtain ⟨v, hv, r⟩ := E.slot i d hd
    exact ⟨v, hv, r.mono ch⟩
/-- a slot is stored -/
theorem Sta.store (E : Sta K T bs A M H σ g) {i : Nat} {v : V} {d : D} (hi : i < g.length) (r : Rp K A H v d) : Sta K T bs A M H (σ.set i (some v)) (g.set i (some d)) where
  tabs := E.tabs
  alen := E.alen
  bas := E.bas
  nd := E.nd
  prv := E.prv
  cell := E.cell
  slen := by rw [List.length_set, List.length_set]; exact E.slen
  slot := fun j d2 hd => by
    by_cases hj : j = i
    · subst hj
      rw [List.getElem?_set_self hi] at hd
      cases hd
      exact ⟨v, by rw [List.getElem?_set_self (by rw [E.slen]; exact hi)], r⟩
    · rw [List.getElem?_set_ne (Ne.symm hj)] at hd
      rw [List.getElem?_set_ne (Ne.symm hj)]
      exact E.slot j d2 hd
/-- other slots -/
theorem Sta.slots (E : Sta K T bs A M H σ g) {σ' : L2.St} {g' : Ga} (hl : σ'.length = g'.length) (h : ∀ (i : Nat) (d : D), g'[i]? = some (some d) → ∃ v, σ'[i]? = some (some v) ∧ Rp K A H v d) : Sta K T bs A M H σ' g' :=
  ⟨E.tabs, E.alen, E.bas, E.nd, E.prv, E.cell, hl, h⟩
theorem Sta.bare (E : Sta K T bs A M H σ g) : Sta K T bs A M H [] [] := E.slots rfl fun i d h => by simp at h
/-- the slots go along -/
theorem Sta.back {A' : Ad} {M' : Me} {H' : Hp} {σ' : L2.St} {g' : Ga} (S : Sta K T bs A M H σ g) (c : Ch A H A' H') (S' : Sta K T bs A' M' H' σ' g') : Sta K T bs A' M' H' σ g := S'.slots S.slen fun i d hd => by
  obtain ⟨v, hv, r⟩ := S.slot i d hd
  exact ⟨v, hv, r.mono c⟩
end
end Iv
namespace Iv
open PySem PySem.Spec PyProof.Rows L2 LamX
/-! ## the readings -/
section
variable (K : PySem.W.Frag) (T : List (Addr × Str)) (bs : List Nat) (W : WX) (g : Ga)
def XOk (A : Ad) (H : Hp) (dd : Option Addr) (fs : List (Str × D)) : Prop := (dd = none ∧ fs = []) ∨ ∃ d fvs, dd = some d ∧ A.out d ∧ H d = some (.xd fvs) ∧ RpF K A H fvs fs
/-- what is wanted behind r -/
inductive kG {α β : Type} (rel : Ad → Hp → β → α → Prop) (A : Ad) (H : Hp) (σ : L2.St) (Q : β → Hp → Prop) : R α → Prop where
  | ok {a : α} {M : Me} (h : ∀ A' v H', Ch A H A' H' → Sta K T bs A' M H' σ g → rel A' H' v a → Q v H') : kG rel A H σ Q (.ok a M)
  | ex {C : Cn} {fs : List (Str × D)} {M : Me} (h : ∀ A' H' dd, Ch A H A' H' → Sta K T bs A' M H' σ g → XOk K A' H' dd fs → W (.ref (ca K C)) dd σ H') : kG rel A H σ Q (.ex C fs M)
abbrev rE (A : Ad) (H : Hp) (v : V) (d : D) : Prop := Rp K A H v d
abbrev rA (A : Ad) (H : Hp) (v : List V) (d : List D) : Prop := RpL K A H v d
abbrev rT (_ : Ad) (_ : Hp) (v : Bool) (d : Bool) : Prop := v = d
/-- a new list (of the items), laid at p -/
structure NewL (A : Ad) (H : Hp) (v : V) (ds : List D) : Prop where
  ex : ∃ vs p H0, v = .ref p ∧ H0 p = none ∧ H = upd H0 p (.lst vs) ∧ A.out p ∧ RpL K A H0 vs ds
structure tR (M : Me) (r : R D) (σ : L2.St) (H : Hp) (Q : VK) : Prop where
  ex : ∃ A, Sta K T bs A M H σ g ∧ kG K T bs W g (rE K) A H σ Q r
structure tRA (M : Me) (r : R (List D)) (σ : L2.St) (H : Hp) (Q : List V → Hp → Prop) : Prop where
  ex : ∃ A, Sta K T bs A M H σ g ∧ kG K T bs W g (rA K) A H σ Q r
structure tRT (M : Me) (r : R Bool) (σ : L2.St) (H : Hp) (Q : Bool → Hp → Prop) : Prop where
  ex : ∃ A, Sta K T bs A M H σ g ∧ kG K T bs W g (fun _ _ => Eq) A H σ Q r
end
section
variable {K : PySem.W.Frag} {T : List (Addr × Str)} {bs : List Nat} {W : WX} {g : Ga} {α β γ δ : Type} {rel : Ad → Hp → β → α → Prop} {rel2 : Ad → Hp → δ → γ → Prop} {A A1 : Ad} {H H1 : Hp} {σ : L2.St} {Q : β → Hp → Prop} {Q2 : δ → Hp → Prop}
theorem kG.mono {r : R α} (c : Ch A H A1 H1) (h : kG K T bs W g rel A H σ Q r) : kG K T bs W g rel A1 H1 σ Q r := by
  cases h with
  | ok h => exact .ok fun A' v H' c' S r => h A' v H' (c.trans c') S r
  | ex h => exact .ex fun A' H' dd c' S x => h A' H' dd (c.trans c') S x
theorem kG.imp {r : R α} {Q' : β → Hp → Prop} (h : kG K T bs W g rel A H σ Q r) (q : ∀ v H, Q v H → Q' v H) : kG K T bs W g rel A H σ Q' r := by
  cases h with
  | ok h => exact .ok fun A' v H' c' S r => q _ _ (h A' v H' c' S r)
  | ex h => exact .ex h
theorem kG.no (h : kG K T bs W g rel A H σ Q .no) : False := nomatch h
/-- THE STEP: r, then f -/
theorem kG.bind {r : R α} {f : α → Me → R γ} (h : kG K T bs W g rel2 A H σ Q2 (r.bind f)) : kG K T bs W g rel A H σ (fun v H1 => ∃ a M1 A1, r = .ok a M1 ∧ Ch A H A1 H1 ∧ Sta K T bs A1 M1 H1 σ g ∧ rel A1 H1 v a ∧ kG K T bs W g rel2 A1 H1 σ Q2 (f a M1)) r := by
  cases r with
  | ok a M => exact .ok fun A' v H' c S r => ⟨a, M, A', rfl, c, S, r, kG.mono c h⟩
  | ex C fs M =>
    cases h with
    | ex h => exact .ex h
  | no => exact (kG.no h).elim
theorem kG.get {a : α} {M : Me} {v : β} (h : kG K T bs W g rel A H σ Q (.ok a M)) (S : Sta K T bs A M H σ g) (r : rel A H v a) : Q v H := by
  cases h with
  | ok h => exact h A v H Ch.refl S r
theorem kG.get' {a : α} {M : Me} {v : β} {A' : Ad} {H' : Hp} (h : kG K T bs W g rel A H σ Q (.ok a M)) (c : Ch A H A' H') (S : Sta K T bs A' M H' σ g) (r : rel A' H' v a) : Q v H' := by
  cases h with
  | ok h => exact h A' v H' c S r
/-- an answer that is turned over -/
theorem kG.map {r : R α} {f : α → γ} (h : kG K T bs W g rel2 A H σ Q2 (r.bind fun a M => .ok (f a) M)) : kG K T bs W g rel A H σ (fun v H1 => ∃ a M1 A1, r = .ok a M1 ∧ Sta K T bs A1 M1 H1 σ g ∧ rel A1 H1 v a ∧ ∀ w, rel2 A1 H1 w (f a) → Q2 w H1) r :=
  (kG.bind h).imp fun v H1 ⟨a, M1, A1, e, c, S, r, k⟩ => ⟨a, M1, A1, e, S, r, fun w hw => k.get S hw⟩
end
/-! ## judgements -/
abbrev JE (X : Cx) (T : List (Addr × Str)) (bs : List Nat) (W : WX) (g : Ga) (M : Me) (e : Expr) (r : R D) : Prop := PE X e (tR X.K T bs W g M r)
abbrev JA (X : Cx) (T : List (Addr × Str)) (bs : List Nat) (W : WX) (g : Ga) (M : Me) (es : List Expr) (r : R (List D)) : Prop := PA X es (tRA X.K T bs W g M r)
abbrev JT (X : Cx) (T : List (Addr × Str)) (bs : List Nat) (W : WX) (g : Ga) (M : Me) (e : Expr) (r : R Bool) : Prop := PT X e (tRT X.K T bs W g M r)
/-- an operator, a call: the model's f at the values of data -/
def Op2 (X : Cx) (T : List (Addr × Str)) (bs : List Nat) (W : WX) (f : Value → Value → Sem Value) (d1 d2 : D) (M : Me) (r : R D) : Prop := ∀ (pins : List (Addr × Obj)) (s : Shared) (σ : L2.St) (g : Ga) (H : Hp) (A : Ad) (v1 v2 : V) (u1 u2 : Value) (Q : VK),
  Inv X pins σ H s → Sta X.K T bs A M H σ g → Rp X.K A H v1 d1 → Rp X.K A H v2 d2 → RelV v1 u1 → RelV v2 u2 → kG X.K T bs W g (rE X.K) A H σ Q r → wpAny (model X.prog X.w) X.A (f u1 u2) (EP X pins σ Q) X.xe s
def Op1 (X : Cx) (T : List (Addr × Str)) (bs : List Nat) (W : WX) (f : Value → Sem Value) (d1 : D) (M : Me) (r : R D) : Prop := ∀ (pins : List (Addr × Obj)) (s : Shared) (σ : L2.St) (g : Ga) (H : Hp) (A : Ad) (v1 : V) (u1 : Value) (Q : VK),
  Inv X pins σ H s → Sta X.K T bs A M H σ g → Rp X.K A H v1 d1 → RelV v1 u1 → kG X.K T bs W g (rE X.K) A H σ Q r → wpAny (model X.prog X.w) X.A (f u1) (EP X pins σ Q) X.xe s
def OpN (X : Cx) (T : List (Addr × Str)) (bs : List Nat) (W : WX) (f : List Value → Sem Value) (ds : List D) (M : Me) (r : R D) : Prop := ∀ (pins : List (Addr × Obj)) (s : Shared) (σ : L2.St) (g : Ga) (H : Hp) (A : Ad) (vs : List V) (us : List Value) (Q : VK),
  Inv X pins σ H s → Sta X.K T bs A M H σ g → RpL X.K A H vs ds → Vals vs us → kG X.K T bs W g (rE X.K) A H σ Q r → wpAny (model X.prog X.w) X.A (f us) (EP X pins σ Q) X.xe s
section
variable {X : Cx} {T : List (Addr × Str)} {bs : List Nat} {W : WX} {g : Ga} {M M1 M2 : Me} {e a b c : Expr} {es : List Expr} {r ra : R D} {pos : Pos} {d d1 d2 : D}
/-- an expression by its run -/
theorem je (h : ∀ (pins : List (Addr × Obj)) (s : Shared) (σ : L2.St) (H : Hp) (A : Ad) (Q : VK), Inv X pins σ H s → Sta X.K T bs A M H σ g → kG X.K T bs W g (rE X.K) A H σ Q r → wpAny (model X.prog X.w) X.A (eval e X.env) (EP X pins σ Q) X.xe s) : JE X T bs W g M e r :=
  ⟨fun pins s σ H Q I ⟨A, S, k⟩ => h pins s σ H A Q I S k⟩
theorem JE.go {pins : List (Addr × Obj)} {s : Shared} {σ : L2.St} {H : Hp} {A : Ad} {Q : VK} (h : JE X T bs W g M e r) (I : Inv X pins σ H s) (S : Sta X.K T bs A M H σ g) (k : kG X.K T bs W g (rE X.K) A H σ Q r) : wpAny (model X.prog X.w) X.A (eval e X.env) (EP X pins σ Q) X.xe s :=
  h.run pins s σ H Q I ⟨A, S, k⟩
theorem JA.go {rs : R (List D)} {pins : List (Addr × Obj)} {s : Shared} {σ : L2.St} {H : Hp} {A : Ad} {Q : List V → Hp → Prop} (h : JA X T bs W g M es rs) (I : Inv X pins σ H s) (S : Sta X.K T bs A M H σ g) (k : kG X.K T bs W g (rA X.K) A H σ Q rs) : wpAny (model X.prog X.w) X.A (spliced (backTo pos (starEach es X.env))) (AP X pins σ Q) X.xe s :=
  h.run pos pins s σ H Q I ⟨A, S, k⟩
theorem je_no : JE X T bs W g M e .no := je fun _ _ _ _ _ _ _ _ k => k.no.elim
/-- a datum at once -/
theorem je_now {v : V} (h : PE X e (fun _ H Q => Q v H)) (hr : ∀ A H, Rp X.K A H v d) : JE X T bs W g M e (.ok d M) := je fun pins s σ H A Q I S k => h.run pins s σ H Q I (k.get S (hr A H))
theorem je_var {i : Nat} {x : Str} (hN : X.N[i]? = some x) (hv : Vis X.env.scope x) (hdb : (x == ("__debug__" : Str)) = false) (hcd : (x == ("__classdict__" : Str)) = false) : JE X T bs W g M (.Name x pos) (R.of M (g[i]?.bind id)) := by
  cases e : g[i]? with
  | none => exact je_no
  | some o =>
    cases o with
    | none => exact je_no
    | some d =>
      refine je fun pins s σ H A Q I S k => ?_
      obtain ⟨v, hv', r⟩ := S.slot i d e
      exact (pe_var hN hv hdb hcd).run pins s σ H Q I ⟨v, hv', k.get S r⟩
theorem je_int {i : Int} {j : Nat} : JE X T bs W g M (.Constant (.int i) j pos) (.ok (.int i) M) := je_now pe_int fun _ _ => .int
theorem je_bl {i : Bool} {j : Nat} : JE X T bs W g M (.Constant (.bool i) j pos) (.ok (.bl i) M) := je_now pe_bl fun _ _ => .bl
theorem je_str {i : Str} {j : Nat} : JE X T bs W g M (.Constant (.str i) j pos) (.ok (.str i) M) := je_now pe_str fun _ _ => .str
theorem je_non {j : Nat} : JE X T bs W g M (.Constant .none j pos) (.ok .non M) := je_now pe_non fun _ _ => .non
/-- two in a row, then f -/
theorem two {pins : List (Addr × Obj)} {s : Shared} {σ : L2.St} {H : Hp} {A : Ad} {Q : VK} {rb : Me → R D} {f : D → D → Me → R D} {m : Value → Value → Sem Value} (ha : JE X T bs W g M a ra) (hb : ∀ M1, JE X T bs W g M1 b (rb M1)) (ho : ∀ d1 d2 M2, Op2 X T bs W m d1 d2 M2 (f d1 d2 M2))
    (I : Inv X pins σ H s) (S : Sta X.K T bs A M H σ g) (k : kG X.K T bs W g (rE X.K) A H σ Q (ra.bind fun d1 M1 => (rb M1).bind fun d2 M2 => f d1 d2 M2)) :
    wpAny (model X.prog X.w) X.A (eval a X.env) (fun v s1 => wpAny (model X.prog X.w) X.A (eval b X.env) (fun u s2 => wpAny (model X.prog X.w) X.A (m v u) (EP X pins σ Q) X.xe s2) X.xe s1) X.xe s := by
  refine thn (ha.go I S k.bind) fun v s1 ⟨x, H1, I1, r1, d1, M1, A1, _, c1, S1, p1, k1⟩ => ?_
  refine thn ((hb M1).go I1 S1 k1.bind) fun u s2 ⟨y, H2, I2, r2, d2, M2, A2, _, c2, S2, p2, k2⟩ => ?_
  exact ho d1 d2 M2 pins s2 σ g H2 A2 x y v u Q I2 S2 (p1.mono c2) p2 r1 r2 k2
theorem je_bin {op : Operator} {rb : Me → R D} {f : D → D → Me → R D} (ha : JE X T bs W g M a ra) (hb : ∀ M1, JE X T bs W g M1 b (rb M1)) (ho : ∀ d1 d2 M2, Op2 X T bs W (binaryOp op) d1 d2 M2 (f d1 d2 M2)) : JE X T bs W g M (.BinOp a op b pos) (ra.bind fun d1 M1 => (rb M1).bind fun d2 M2 => f d1 d2 M2) :=
  je fun pins s σ H A Q I S k => wpAny_BinOp (two ha hb ho I S k)
theorem je_cmp {op : CmpOp} {rb : Me → R D} {f : D → D → Me → R D} (ha : JE X T bs W g M a ra) (hb : ∀ M1, JE X T bs W g M1 b (rb M1)) (ho : ∀ d1 d2 M2, Op2 X T bs W (compareOp op) d1 d2 M2 (f d1 d2 M2)) (hm : behindInMarks op b = false) : JE X T bs W g M (.Compare a [op] [b] pos) (ra.bind fun d1 M1 => (rb M1).bind fun d2 M2 => f d1 d2 M2) :=
  je fun pins s σ H A Q I S k => wpAny_Compare1 (two ha hb ho I S k) hm
theorem je_sub {rb : Me → R D} {f : D → D → Me → R D} (ha : JE X T bs W g M a ra) (hb : ∀ M1, JE X T bs W g M1 b (rb M1)) (ho : ∀ d1 d2 M2, Op2 X T bs W (subscriptTail a b) d1 d2 M2 (f d1 d2 M2)) : JE X T bs W g M (.Subscript a b pos) (ra.bind fun d1 M1 => (rb M1).bind fun d2 M2 => f d1 d2 M2) :=
  je fun pins s σ H A Q I S k => Subscript_ (two ha hb ho I S k)
theorem je_un {op : UnaryOp} {f : D → Me → R D} (ha : JE X T bs W g M a ra) (ho : ∀ d1 M1, Op1 X T bs W (unaryOp op) d1 M1 (f d1 M1)) : JE X T bs W g M (.UnaryOp op a pos) (ra.bind f) :=
  je fun pins s σ H A Q I S k => UnaryOp_ (thn (ha.go I S k.bind) fun v s1 ⟨x, H1, I1, r1, d1, M1, A1, _, c1, S1, p1, k1⟩ => ho d1 M1 pins s1 σ g H1 A1 x v Q I1 S1 p1 r1 k1)
theorem ja_nil : JA X T bs W g M [] (.ok [] M) := ⟨fun pos pins s σ H Q I ⟨A, S, k⟩ => (pa_nil (X := X)).run pos pins s σ H Q I (k.get S .nil)⟩
theorem ja_cons {re : R D} {rs : Me → R (List D)} (he : JE X T bs W g M e re) (hr : ∀ M1, JA X T bs W g M1 es (rs M1)) (hs : starEach (e :: es) X.env = (false, eval e X.env) :: starEach es X.env) : JA X T bs W g M (e :: es) (re.bind fun d M1 => (rs M1).bind fun ds M2 => .ok (d :: ds) M2) := by
  refine ⟨fun pos pins s σ H Q I ⟨A, S, k⟩ => ?_⟩
  rw [hs]
  show wpAny _ _ (spliced ((false, eval e X.env) :: backTo pos (starEach es X.env))) _ _ s
  refine Calls.spliced_cons (thn (he.go I S k.bind) fun u s1 ⟨x, H1, I1, r1, d, M1, A1, _, c1, S1, p1, k1⟩ => ?_)
  refine thn ((hr M1).go I1 S1 k1.bind) fun us s2 ⟨xs, H2, I2, r2, ds, M2, A2, _, c2, S2, p2, k2⟩ => ?_
  exact ⟨x :: xs, H2, I2, .cons r1 r2, k2.get S2 (.cons (p1.mono c2) p2)⟩
theorem sz_of {n : Nat} (h : n ≤ 100000) : n ≤ sizeLine := Nat.le_trans h (by decide)
theorem RpL.length {K : PySem.W.Frag} {A : Ad} {H : Hp} : ∀ {vs : List V} {ds : List D}, RpL K A H vs ds → vs.length = ds.length
  | _, _, .nil => rfl
  | _, _, .cons _ t => by rw [List.length_cons, List.length_cons, RpL.length t]
theorem je_tup {x1 : Nat} {rs : R (List D)} (h : JA X T bs W g M es rs) : JE X T bs W g M (.Tuple es x1 pos) (rs.bind fun ds M1 => if ds.length ≤ maxL then .ok (.tup ds) M1 else .no) := je fun pins s σ H A Q I S k => by
  refine wpAny_Tuple_spliced (thn (h.go (pos := pos) I S k.bind) fun us s1 ⟨xs, H1, I1, r, ds, M1, A1, _, c1, S1, p1, k1⟩ => ?_)
  split at k1
  · rename_i hl
    have z : xs.length ≤ sizeLine := sz_of (by rw [p1.length]; exact hl)
    refine ⟨by rw [← r.length]; exact z, ?_⟩
    have hf : H1 s1.heap.objs.size = none := I1.hok.fresh (Nat.le_refl _)
    refine ⟨.ref s1.heap.objs.size, upd H1 s1.heap.objs.size (.tup xs), I1.laid (t' := s1.toks) (fun b u e => Heap.get?_push_of_some _ e) (Nat.le_refl _) ?_, rfl, k1.get' (Ch.laid hf) (S1.laid hf) (.tup (S1.fresh hf) upd_same (p1.mono (Ch.laid hf)))⟩
    exact ⟨z, us, r, ⟨_, Heap.get?_push_size _ rfl, rfl, _, rfl⟩⟩
  · exact k1.no.elim
end
end Iv
namespace Iv
open PySem PySem.Spec PyProof.Rows L2 LamX
theorem b2 {a b : Bool} (h : (a && b) = true) : a = true ∧ b = true := Bool.and_eq_true_iff.mp h
/-! ## fewer cells -/
/-- the cells of A are the first ones of A' -/
structure Cut (A A' : Ad) : Prop where
  as : ∃ B, A'.as = A.as ++ B
  px : A'.px = A.px
theorem Ch.toCut {A A' : Ad} {H H' : Hp} (c : Ch A H A' H') : Cut A A' := ⟨c.pre, c.px⟩
theorem Cut.out {A A' : Ad} (c : Cut A A') {a : Addr} (h : A'.out a) : A.out a := by
  obtain ⟨B, e⟩ := c.as
  exact ⟨fun z => h.1 (by rw [e]; exact List.mem_append_left _ z), by rw [← c.px]; exact h.2⟩
theorem Cut.get {A A' : Ad} (c : Cut A A') {k : Nat} {a : Addr} (h : A'.as[k]? = some a) (hk : k < A.as.length) : A.as[k]? = some a := by
  obtain ⟨B, e⟩ := c.as
  rw [e, List.getElem?_append_left hk] at h
  exact h
section
variable {K : PySem.W.Frag} {A A' : Ad} {H : Hp} {n : Nat}
mutual
theorem Rp.cut (c : Cut A A') (hn : A.as.length = n) : ∀ {v : V} {d : D}, Rp K A' H v d → d.clo n = true → Rp K A H v d
  | _, _, .non, _ => .non
  | _, _, .bl, _ => .bl
  | _, _, .int, _ => .int
  | _, _, .str, _ => .str
  | _, _, .byt, _ => .byt
  | _, _, .ty, _ => .ty
  | _, _, .cl, _ => .cl
  | _, _, .fn, _ => .fn
  | _, _, .tup a h r, z => .tup (c.out a) h (RpL.cut c hn r z)
  | _, _, .tupW h r, z => .tupW h (RpL.cut c hn r z)
  | _, _, .lst a h r, z => .lst (c.out a) h (RpL.cut c hn r z)
  | _, _, .dct a h r, z => .dct (c.out a) h (RpK.cut c hn r z)
  | _, _, .obj a h r, z => .obj (c.out a) h (RpF.cut c hn r z)
  | _, _, .exc0 a h, _ => .exc0 (c.out a) h
  | _, _, .exc a b h h2 r, z => .exc (c.out a) (c.out b) h h2 (RpF.cut c hn r z)
  | _, _, .hot0, _ => .hot0
  | _, _, .hot a h r, z => .hot (c.out a) h (RpF.cut c hn r z)
  | _, _, .cel h, z => .cel (c.get h (by rw [hn]; exact of_decide_eq_true z))
  | _, _, .scr a h, _ => .scr (c.out a) h
  | _, _, .scrW h, _ => .scrW h
theorem RpL.cut (c : Cut A A') (hn : A.as.length = n) : ∀ {vs : List V} {ds : List D}, RpL K A' H vs ds → clL n ds = true → RpL K A H vs ds
  | _, _, .nil, _ => .nil
  | _, _, .cons r t, z => .cons (Rp.cut c hn r (b2 z).1) (RpL.cut c hn t (b2 z).2)
theorem RpK.cut (c : Cut A A') (hn : A.as.length = n) : ∀ {vs : List (Key × V)} {ds : List (Key × D)}, RpK K A' H vs ds → clK n ds = true → RpK K A H vs ds
  | _, _, .nil, _ => .nil
  | _, _, .cons r t, z => .cons (Rp.cut c hn r (b2 z).1) (RpK.cut c hn t (b2 z).2)
theorem RpF.cut (c : Cut A A') (hn : A.as.length = n) : ∀ {vs : List (Str × V)} {ds : List (Str × D)}, RpF K A' H vs ds → clF n ds = true → RpF K A H vs ds
  | _, _, .nil, _ => .nil
  | _, _, .cons r t, z => .cons (Rp.cut c hn r (b2 z).1) (RpF.cut c hn t (b2 z).2)
end
theorem CeOk.cut (c : Cut A A') (hn : A.as.length = n) {a : Addr} {e : Ce} (h : CeOk K A' H a e) (z : e.clo n = true) : CeOk K A H a e := by
  cases h with
  | lst h r => exact .lst h (r.cut c hn z)
  | dct h r => exact .dct h (r.cut c hn z)
  | dfz h r => exact .dfz h (r.cut c hn z)
  | obj h r => exact .obj h (r.cut c hn z)
mutual
theorem Rp.clo : ∀ {v : V} {d : D}, Rp K A H v d → d.clo A.as.length = true
  | _, _, .non => rfl
  | _, _, .bl => rfl
  | _, _, .int => rfl
  | _, _, .str => rfl
  | _, _, .byt => rfl
  | _, _, .ty => rfl
  | _, _, .cl => rfl
  | _, _, .fn => rfl
  | _, _, .tup _ _ r => RpL.clo r
  | _, _, .tupW _ r => RpL.clo r
  | _, _, .lst _ _ r => RpL.clo r
  | _, _, .dct _ _ r => RpK.clo r
  | _, _, .obj _ _ r => RpF.clo r
  | _, _, .exc0 _ _ => rfl
  | _, _, .exc _ _ _ _ r => RpF.clo r
  | _, _, .hot0 => rfl
  | _, _, .hot _ _ r => RpF.clo r
  | _, _, .cel h => decide_eq_true (List.getElem?_eq_some_iff.mp h).1
  | _, _, .scr _ _ => rfl
  | _, _, .scrW _ => rfl
theorem RpL.clo : ∀ {vs : List V} {ds : List D}, RpL K A H vs ds → clL A.as.length ds = true
  | _, _, .nil => rfl
  | _, _, .cons r t => Bool.and_eq_true_iff.mpr ⟨Rp.clo r, RpL.clo t⟩
theorem RpK.clo : ∀ {vs : List (Key × V)} {ds : List (Key × D)}, RpK K A H vs ds → clK A.as.length ds = true
  | _, _, .nil => rfl
  | _, _, .cons r t => Bool.and_eq_true_iff.mpr ⟨Rp.clo r, RpK.clo t⟩
theorem RpF.clo : ∀ {vs : List (Str × V)} {ds : List (Str × D)}, RpF K A H vs ds → clF A.as.length ds = true
  | _, _, .nil => rfl
  | _, _, .cons r t => Bool.and_eq_true_iff.mpr ⟨Rp.clo r, RpF.clo t⟩
end
theorem CeOk.clo {a : Addr} {e : Ce} (h : CeOk K A H a e) : e.clo A.as.length = true := by
  cases h with
  | lst h r => exact r.clo
  | dct h r => exact r.clo
  | dfz h r => exact r.clo
  | obj h r => exact r.clo
theorem RpL.mapO {f : D → Option D} (h : ∀ v d d', Rp K A' H v d → f d = some d' → Rp K A H v d') : ∀ {vs : List V} {ds es : List D}, RpL K A' H vs ds → Iv.mapO f ds = some es → RpL K A H vs es
  | _, _, _, .nil, e => by
    cases e
    exact .nil
  | _, d :: ds, es, .cons r t, e => by
    unfold Iv.mapO at e
    cases e1 : f d with
    | none => rw [e1] at e; cases e
    | some y =>
      cases e2 : Iv.mapO f ds with
      | none => rw [e1, e2] at e; cases e
      | some ys =>
        rw [e1, e2] at e
        cases e
        exact .cons (h _ _ _ r e1) (RpL.mapO h t e2)
theorem RpK.mapO {f : D → Option D} (h : ∀ v d d', Rp K A' H v d → f d = some d' → Rp K A H v d') : ∀ {vs : List (Key × V)} {ds es : List (Key × D)}, RpK K A' H vs ds → Iv.map2O f ds = some es → RpK K A H vs es
  | _, _, _, .nil, e => by
    cases e
    exact .nil
  | _, (k, d) :: ds, es, .cons r t, e => by
    unfold Iv.map2O at e
    cases e1 : f d with
    | none => rw [e1] at e; cases e
    | some y =>
      cases e2 : Iv.map2O f ds with
      | none => rw [e1, e2] at e; cases e
      | some ys =>
        rw [e1, e2] at e
        cases e
        exact .cons (h _ _ _ r e1) (RpK.mapO h t e2)
theorem RpF.mapO {f : D → Option D} (h : ∀ v d d', Rp K A' H v d → f d = some d' → Rp K A H v d') : ∀ {vs : List (Str × V)} {ds es : List (Str × D)}, RpF K A' H vs ds → Iv.map2O f ds = some es → RpF K A H vs es
  | _, _, _, .nil, e => by
    cases e
    exact .nil
  | _, (k, d) :: ds, es, .cons r t, e => by
    unfold Iv.map2O at e
    cases e1 : f d with
    | none => rw [e1] at e; cases e
    | some y =>
      cases e2 : Iv.map2O f ds with
      | none => rw [e1, e2] at e; cases e
      | some ys =>
        rw [e1, e2] at e
        cases e
        exact .cons (h _ _ _ r e1) (RpF.mapO h t e2)
theorem opm {α β : Type} {f : α → β} {o : Option α} {y : β} (h : o.map f = some y) : ∃ x, o = some x ∧ y = f x := by
  cases o with
  | none => cases h
  | some x => exact ⟨x, rfl, (Option.some.inj h).symm⟩
/-- cells become data -/
theorem Rp.frz {T : List (Addr × Str)} {bs : List Nat} {M : Me} {σ : L2.St} {g : Ga} (c : Cut A A') (hn : A.as.length = n) (S : Sta K T bs A' M H σ g) : ∀ (u : Nat) {v : V} {d d' : D}, Rp K A' H v d → frzD u n M d = some d' → Rp K A H v d'
  | 0, _, _, _, _, e => nomatch e
  | u + 1, v, d, d', r, e => by
    have ih := fun v d d' => Rp.frz c hn S u (v := v) (d := d) (d' := d')
    unfold frzD at e
    by_cases hc : d.clo n = true
    · rw [if_pos hc] at e
      cases e
      exact r.cut c hn hc
    · rw [if_neg hc] at e
      cases r with
      | tup a h r => obtain ⟨ds, e5, rfl⟩ := opm e; exact .tup (c.out a) h (r.mapO ih e5)
      | tupW h r => obtain ⟨ds, e5, rfl⟩ := opm e; exact .tupW h (r.mapO ih e5)
      | lst a h r => obtain ⟨ds, e5, rfl⟩ := opm e; exact .lst (c.out a) h (r.mapO ih e5)
      | dct a h r => obtain ⟨ds, e5, rfl⟩ := opm e; exact .dct (c.out a) h (r.mapO ih e5)
      | obj a h r => obtain ⟨ds, e5, rfl⟩ := opm e; exact .obj (c.out a) h (r.mapO ih e5)
      | exc0 a h => exact absurd rfl hc
      | hot0 => exact absurd rfl hc
      | hot a h r => obtain ⟨ds, e5, rfl⟩ := opm e; exact .hot (c.out a) h (r.mapO ih e5)
      | exc a b h h2 r => obtain ⟨ds, e5, rfl⟩ := opm e; exact .exc (c.out a) (c.out b) h h2 (r.mapO ih e5)
      | cel h =>
        rename_i a k
        have hk : n ≤ k := by
          refine Nat.le_of_not_lt fun z => hc ?_
          exact decide_eq_true z
        have ho : A.out a := by
          refine ⟨fun z => ?_, fun z => ?_⟩
          · obtain ⟨B, eB⟩ := c.as
            obtain ⟨j, hj, ej⟩ := List.mem_iff_getElem.mp z
            have : A'.as[j]? = some a := by rw [eB, List.getElem?_append_left hj, List.getElem?_eq_getElem hj, ej]
            exact S.ixne this h (by omega) rfl
          · exact (S.prv a (by rw [c.px]; exact z)).1 (List.mem_of_getElem? h)
        cases em : M[k]? with
        | none => simp only [em] at e; cases e
        | some ce =>
          simp only [em] at e
          obtain ⟨b, hb, q⟩ := S.cell k ce em
          rw [h] at hb
          cases hb
          cases q with
          | lst h1 r1 => obtain ⟨ds, e5, rfl⟩ := opm e; exact .lst ho h1 (r1.mapO ih e5)
          | dct h1 r1 => obtain ⟨ds, e5, rfl⟩ := opm e; exact .dct ho (.inl h1) (r1.mapO ih e5)
          | dfz h1 r1 => cases e
          | obj h1 r1 => obtain ⟨ds, e5, rfl⟩ := opm e; exact .obj ho h1 (r1.mapO ih e5)
      | _ => exact absurd rfl hc
theorem XOk.cut {dd : Option Addr} {fs : List (Str × D)} (c : Cut A A') (hn : A.as.length = n) (h : XOk K A' H dd fs) (z : clF n fs = true) : XOk K A H dd fs := by
  rcases h with h | ⟨d, fvs, e, n1, h1, r⟩
  · exact .inl h
  · exact .inr ⟨d, fvs, e, c.out n1, h1, r.cut c hn z⟩
end
section
variable {K : PySem.W.Frag} {T : List (Addr × Str)} {bs : List Nat} {W : WX} {g : Ga} {A A' : Ad} {M M' : Me} {H H' : Hp} {σ : L2.St} {Q : VK} {n : Nat}
/-- the state, its cells from n on forgotten -/
theorem Sta.cut {σ' : L2.St} {g' : Ga} (S : Sta K T bs A M H σ g) (c : Ch A H A' H') (S' : Sta K T (M.length :: bs) A' M' H' σ' g') : Sta K T bs A (M'.take M.length) H' σ g ∧ Ch A H A H' := by
  have hle : M.length ≤ M'.length := (S'.bas _ List.mem_cons_self).1
  have ch : Ch A H A H' := ⟨⟨[], by simp⟩, rfl, c.keep, c.dks, c.frz, fun _ h => .inl h, c.tbs⟩
  refine ⟨⟨S'.tabs, by rw [List.length_take, S.alen]; omega, fun x hx => ?_, S.nd, fun p hp => ?_, fun k e he => ?_, S.slen, fun i d hd => ?_⟩, ch⟩
  · obtain ⟨h1, h2⟩ := S'.bas x (List.mem_cons_of_mem _ hx)
    have h3 := (S.bas x hx).1
    refine ⟨by rw [List.length_take]; omega, fun k e he hk => h2 k e ?_ hk⟩
    rw [List.getElem?_take_of_lt (by omega)] at he
    exact he
  · obtain ⟨h1, o, h2⟩ := S'.prv p (by rw [c.px]; exact hp)
    exact ⟨(S.prv p hp).1, o, h2⟩
  · have hk : k < M.length := by
      have := (List.getElem?_eq_some_iff.mp he).1
      rw [List.length_take] at this
      omega
    rw [List.getElem?_take_of_lt hk] at he
    obtain ⟨a, ha, q⟩ := S'.cell k e he
    exact ⟨a, c.toCut.get ha (by rw [S.alen]; exact hk), q.cut c.toCut S.alen ((S'.bas _ List.mem_cons_self).2 k e he hk)⟩
  · obtain ⟨v, hv, r⟩ := S.slot i d hd
    exact ⟨v, hv, r.mono ch⟩
/-- into a frame: its cells are to go -/
theorem Sta.enter (S : Sta K T bs A M H σ g) : Sta K T (M.length :: bs) A M H σ g :=
  ⟨S.tabs, S.alen, fun x hx => by
    rcases List.mem_cons.mp hx with rfl | hx
    · refine ⟨Nat.le_refl _, fun k c hk _ => ?_⟩
      obtain ⟨a, _, q⟩ := S.cell k c hk
      rw [← S.alen]
      exact q.clo
    · exact S.bas x hx, S.nd, S.prv, S.cell, S.slen, S.slot⟩
theorem kG.trunc {r : R D} (S : Sta K T bs A M H σ g) (k : kG K T bs W g (rE K) A H σ Q (trunc M.length r)) : kG K T (M.length :: bs) W g (rE K) A H σ Q r := by
  cases r with
  | ok d M' =>
    unfold Iv.trunc at k
    dsimp only at k
    cases e : frzD 9 M.length M' d with
    | none => rw [e] at k; exact k.no.elim
    | some d' =>
      rw [e] at k
      refine .ok fun A' v H' c S' r => ?_
      obtain ⟨S2, c2⟩ := S.cut c S'
      exact k.get' c2 S2 (Rp.frz c.toCut S.alen S' 9 r e)
  | ex C fs M' =>
    unfold Iv.trunc at k
    dsimp only at k
    by_cases hc : clF M.length fs = true
    · rw [if_pos hc] at k
      cases k with
      | ex h =>
        refine .ex fun A' H' dd c S' x => ?_
        obtain ⟨S2, c2⟩ := S.cut c S'
        exact h A H' dd c2 S2 (x.cut c.toCut S.alen hc)
    · rw [if_neg hc] at k
      exact k.no.elim
  | no => exact k.no.elim
end
/-! ## statements -/
section
variable (K : PySem.W.Frag) (T : List (Addr × Str)) (bs : List Nat) (W : WX)
inductive kO (A : Ad) (H : Hp) (E : Ends) : Out → Prop where
  | nx {g : Ga} {M : Me} (h : ∀ A' H' σ', Ch A H A' H' → Sta K T bs A' M H' σ' g → E.nx σ' H') : kO A H E (.nx g M)
  | rt {d : D} {M : Me} (h : ∀ A' H' v, Ch A H A' H' → Sta K T bs A' M H' [] [] → Rp K A' H' v d → E.rt v H') : kO A H E (.rt d M)
  | bk {g : Ga} {M : Me} (h : ∀ A' H' σ', Ch A H A' H' → Sta K T bs A' M H' σ' g → E.bk σ' H') : kO A H E (.bk g M)
  | ct {g : Ga} {M : Me} (h : ∀ A' H' σ', Ch A H A' H' → Sta K T bs A' M H' σ' g → E.ct σ' H') : kO A H E (.ct g M)
  | ex {C : Cn} {fs : List (Str × D)} {g : Ga} {M : Me} (h : ∀ A' H' σ' dd, Ch A H A' H' → Sta K T bs A' M H' σ' g → XOk K A' H' dd fs → W (.ref (ca K C)) dd σ' H') : kO A H E (.ex C fs g M)
structure tO (g : Ga) (M : Me) (o : Out) (E : Ends) (σ : L2.St) (H : Hp) : Prop where
  ex : ∃ A, Sta K T bs A M H σ g ∧ kO K T bs W A H E o
end
abbrev JS (X : Cx) (T : List (Addr × Str)) (bs : List Nat) (W : WX) (g : Ga) (M : Me) (st : Stmt) (o : Out) : Prop := PS X st (tO X.K T bs W g M o)
abbrev JB (X : Cx) (T : List (Addr × Str)) (bs : List Nat) (W : WX) (g : Ga) (M : Me) (sts : List Stmt) (o : Out) : Prop := PSs X sts (tO X.K T bs W g M o)
section
variable {K : PySem.W.Frag} {T : List (Addr × Str)} {bs : List Nat} {W : WX} {A A1 : Ad} {H H1 : Hp} {E : Ends} {o : Out}
theorem kO.mono (c : Ch A H A1 H1) (h : kO K T bs W A H E o) : kO K T bs W A1 H1 E o := by
  cases h with
  | nx h => exact .nx fun A' H' σ' c' S => h A' H' σ' (c.trans c') S
  | rt h => exact .rt fun A' H' v c' S r => h A' H' v (c.trans c') S r
  | bk h => exact .bk fun A' H' σ' c' S => h A' H' σ' (c.trans c') S
  | ct h => exact .ct fun A' H' σ' c' S => h A' H' σ' (c.trans c') S
  | ex h => exact .ex fun A' H' σ' dd c' S x => h A' H' σ' dd (c.trans c') S x
theorem kO.no (h : kO K T bs W A H E .no) : False := nomatch h
/-- o, then what follows -/
theorem kO.seq {k : Ga → Me → Out} (h : kO K T bs W A H E (o.seq k)) : kO K T bs W A H { nx := fun σ' H' => ∃ g M A', o = .nx g M ∧ Ch A H A' H' ∧ Sta K T bs A' M H' σ' g ∧ kO K T bs W A' H' E (k g M), rt := E.rt, bk := E.bk, ct := E.ct } o := by
  cases o with
  | nx g M => exact .nx fun A' H' σ' c S => ⟨g, M, A', rfl, c, S, kO.mono c h⟩
  | rt d M => cases h with | rt h => exact .rt h
  | bk d M => cases h with | bk h => exact .bk h
  | ct d M => cases h with | ct h => exact .ct h
  | ex C fs d M => cases h with | ex h => exact .ex h
  | no => exact (kO.no h).elim
/-- an expression's answer, then what follows -/
theorem kO.out {α β : Type} {rel : Ad → Hp → β → α → Prop} {σ : L2.St} {g : Ga} {r : R α} {k : α → Me → Out} (h : kO K T bs W A H E (r.out g k)) : kG K T bs W g rel A H σ (fun v H1 => ∃ a M1 A1, r = .ok a M1 ∧ Ch A H A1 H1 ∧ Sta K T bs A1 M1 H1 σ g ∧ rel A1 H1 v a ∧ kO K T bs W A1 H1 E (k a M1)) r := by
  cases r with
  | ok a M => exact .ok fun A' v H' c S r => ⟨a, M, A', rfl, c, S, r, kO.mono c h⟩
  | ex C fs M =>
    cases h with
    | ex h => exact .ex fun A' H' dd c S x => h A' H' σ dd c S x
  | no => exact (kO.no h).elim
theorem kO.getN {g : Ga} {M : Me} {σ : L2.St} (h : kO K T bs W A H E (.nx g M)) (S : Sta K T bs A M H σ g) : E.nx σ H := by
  cases h with
  | nx h => exact h A H σ Ch.refl S
end
/-! ## defs -/
/-- what a def answers: by the base, the arguments, the cells -/
abbrev Con := Nat → List D → Me → R D
def spF (K : PySem.W.Frag) (T : List (Addr × Str)) (n : Nat) (C : Con) : Sp := fun vs H Q E => ∃ A bs b M ds, ds.length = n ∧ (∀ x ∈ bs, x ≤ b) ∧ Sta K T bs A M H [] [] ∧ RpL K A H vs ds ∧ kG K T bs (fun cls d _ H => E cls d H) [] (rE K) A H [] Q (C b ds M)
theorem RpL.get {K : PySem.W.Frag} {A : Ad} {H : Hp} : ∀ {vs : List V} {ds : List D} {i : Nat} {d : D}, RpL K A H vs ds → ds[i]? = some d → ∃ v, vs[i]? = some v ∧ Rp K A H v d
  | _, _, _, _, .nil, e => by simp at e
  | _, _, 0, _, .cons r _, e => by
    simp at e
    subst e
    exact ⟨_, rfl, r⟩
  | _, _, i + 1, d, .cons _ t, e => by
    obtain ⟨v, h1, h2⟩ := RpL.get (i := i) (d := d) t (by simpa using e)
    exact ⟨v, by simpa using h1, h2⟩
theorem start_ok {K : PySem.W.Frag} {T : List (Addr × Str)} {bs : List Nat} {A : Ad} {M : Me} {H : Hp} {N : List Str} {vs : List V} {ds : List D} (S : Sta K T bs A M H [] []) (r : RpL K A H vs ds) :
    Sta K T bs A M H (L2.start N vs) (ds.map some ++ List.replicate (N.length - ds.length) none) := S.slots (by
    unfold L2.start
    rw [List.length_append, List.length_append, List.length_map, List.length_map, List.length_replicate, List.length_replicate, r.length]) fun i d h => by
  have hi : i < ds.length := by
    refine Decidable.byContradiction fun z => ?_
    rw [List.getElem?_append_right (by rw [List.length_map]; omega)] at h
    have := List.mem_of_getElem? h
    have := List.eq_of_mem_replicate this
    cases this
  rw [List.getElem?_append_left (by rw [List.length_map]; exact hi), List.getElem?_map] at h
  cases e : ds[i]? with
  | none =>
    rw [e] at h
    cases h
  | some d2 =>
    rw [e] at h
    cases h
    obtain ⟨v, hv, q⟩ := r.get e
    refine ⟨v, ?_, q⟩
    unfold L2.start
    rw [List.getElem?_append_left (by rw [List.length_map, r.length]; exact hi), List.getElem?_map, hv]
    rfl
/-- the end of a body -/
theorem kO.exit {K : PySem.W.Frag} {T : List (Addr × Str)} {bs : List Nat} {A : Ad} {H : Hp} {Q : VK} {E : XK} {o : Out} (h : kG K T bs (fun cls d _ H => E cls d H) [] (rE K) A H [] Q (endOf o)) : kO K T bs (fun cls d _ H => E cls d H) A H { nx := fun _ H' => Q .non H', rt := Q } o := by
  cases o with
  | nx g M => cases h with | ok h => exact .nx fun A' H' σ' c S => h A' .non H' c S.bare .non
  | rt d M => cases h with | ok h => exact .rt fun A' H' v c S r => h A' v H' c S r
  | bk g M => exact h.no.elim
  | ct g M => exact h.no.elim
  | ex C fs g M => cases h with | ex h => exact .ex fun A' H' σ' dd c S x => h A' H' dd c S.bare x
  | no => exact h.no.elim
structure FnK (P : Program) (w : World) (K : PySem.W.Frag) (mg : Str → Option Value) (base : Heap) (k : Nat) (f : Addr) (fd : FuncData) (ps : List Str) (sp : Sp) : Prop where
  len : ∀ vs H Q E, sp vs H Q E → vs.length = ps.length
  go : ∀ (A : Around) (outer : List PySem.Env) (s : Shared) (H : Hp) (args : Args) (us : List Value) (vs : List V) (Q : VK) (E : XK), A.guards = some [] → Room k A → Env0 P w K mg base A outer s H → BindsTo s fd args (ps.zip us) → Vals vs us → sp vs H Q E →
    codeAny (model P w) A (.call (.ref f) args) (CR (L2.CX P w) outer P w H s Q E) s
theorem guards_deeper {A : Around} {e : PySem.Env} : (A.deeper e).guards = A.guards := by first | rfl | simp [Around.deeper]
theorem fnK_of {P : Program} {w : World} {K : PySem.W.Frag} {mg : Str → Option Value} {base : Heap} {k : Nat} {f : Addr} {name qual : Str} {params : Arguments} {body : List Stmt} {scope : Scope} {dV kV doc pm cdv ct oc : Value} {an od : Option Addr} {osl : Array (Option Value)} {N ps : List Str} {sp : Sp}
    (lk : K.lookup f = some ⟨oc, od, .func (PySem.W.fnOf name qual params body scope dV kV doc pm an cdv ct), osl⟩) (hcd : PySem.W.codeIn K cdv qual = true) (S : FnScope N ps scope) (len : ∀ vs H Q E, sp vs H Q E → vs.length = ps.length)
    (hbody : ∀ (A : Around) (outer : List PySem.Env) (s : Shared) (H : Hp) (vs : List V) (Q : VK) (E : XK), A.guards = some [] → Room k (A.deeper (envOfC qual scope s.heap.objs.size f cdv)) → sp vs H Q E → ∃ t, PSs (cxOf (L2.CX P w) P w K mg base N qual scope f cdv A outer s H E) body t ∧ t { nx := fun _ H' => Q .non H', rt := Q } (L2.start N vs) H) :
    FnK P w K mg base (k + 1) f (PySem.W.fnOf name qual params body scope dV kV doc pm an cdv ct) ps sp := by
  refine ⟨len, fun A outer s H args us vs Q E hG hr e0 hb r hsp => ?_⟩
  have kp := fun b o e => (e0.bs b o e).1
  have KX : K.In s.heap := e0.mod.kin.keeps kp
  refine codeAny_call_function hr.depth (KX _ _ lk) rfl S.co S.gen rfl (PySem.W.codeRec_of KX hcd) (hb _ _ _ _ ?_)
  refine wpAny_newFunctionEnv_cells S.kind (fun ⟨n, v⟩ hy => ?_) fun env he s1 x => ?_
  · rcases S.par n (List.of_mem_zip hy).1 with q | q
    · exact .inl q
    · exact .inr ⟨q, PySem.W.cellsFrom_some _ _ _ (.inl q)⟩
  · subst he
    refine ⟨(e0.mod.nolimit.keeps kp).keeps x.toInCall.keep, codeAny_func ?_⟩
    obtain ⟨t, ht, hq⟩ := hbody A outer s H vs Q E hG (hr.deeper _) hsp
    have I := inv_start (CX := L2.CX P w) (E := E) S hr.hd e0 (len _ _ _ _ hsp) r x
    refine wpAny_mono (ht.run [] s1 (start N vs) H _ I hq) (fun fl s' hs => ?_) fun e s' hs => hs
    cases fl with
    | ret u =>
      obtain ⟨v, σ', H', J, rv, q⟩ := hs
      exact ⟨v, H', J.os, J.bare, J.base, J.hok, rv, q⟩
    | next =>
      obtain ⟨σ', H', J, q⟩ := hs
      exact ⟨V.non, H', J.os, J.bare, J.base, J.hok, rfl, q⟩
    | brk =>
      obtain ⟨_, _, _, q⟩ := hs
      exact q.elim
    | cont =>
      obtain ⟨_, _, _, q⟩ := hs
      exact q.elim
end Iv
namespace Iv
open PySem PySem.Spec PyProof.Rows L2 LamX
/-! ## exceptions held as values -/
theorem exV_ok {P : Program} {w : World} {H : Hp} {h : Heap} {a : Addr} {cls : Value} {dd : Option Addr} {oe : Obj} {vs : Array Value} (e : h.get? a = some oe) (z : Zc cls dd oe) (d : oe.data = .fields vs) (h1 : vs[1]? = some .none) (h2 : vs[2]? = some .none) (h5 : 4 < vs.size) : ObjOk P w H h a (ExV cls dd a) :=
  ⟨⟨oe, vs, e, z, d, h1, h2, h5⟩, ⟨oe, e⟩, fun _ _ ⟨o, v, q, r⟩ k => ⟨o, v, k o q, r⟩⟩
/-- what a class of exceptions must say for isinstance and fields -/
structure ExK (K : PySem.W.Frag) (C : Addr) : Prop where
  ga : PySem.W.findIn K (.ref C) "__getattribute__" = some (some (.builtin "BaseException.__getattribute__"))
  gg : PySem.W.findIn K (.ref C) "__getattr__" = some none
  exC : PySem.W.subIn K (.ref C) (.type "BaseException") = some true
  hdC : PySem.W.hasDictIn K C = true
  ca : PySem.W.findIn K (.ref C) "__class__" = some (some (.builtin "object.__class__"))
  cn : PySem.W.specialIn K (.builtin "object.__class__") "__get__" = some (some (.builtin "getset_descriptor.__get__"))
  ct : PySem.W.takesIn K (.builtin "object.__class__") = some true
  cm : PySem.W.mroIn K C (.type "object") = some true
  ty : PySem.W.typeIn K (.ref C) = some (.type "type")
  kp : PySem.W.keepIn K (.ref C) = true
  cl : (PySem.W.clsIn K C).isSome = true
def exKB (K : PySem.W.Frag) (C : Addr) : Bool := decide (PySem.W.findIn K (.ref C) "__getattribute__" = some (some (.builtin "BaseException.__getattribute__"))) && (decide (PySem.W.findIn K (.ref C) "__getattr__" = some none) && (decide (PySem.W.subIn K (.ref C) (.type "BaseException") = some true) && (PySem.W.hasDictIn K C &&
  (decide (PySem.W.findIn K (.ref C) "__class__" = some (some (.builtin "object.__class__"))) && (decide (PySem.W.specialIn K (.builtin "object.__class__") "__get__" = some (some (.builtin "getset_descriptor.__get__"))) && (decide (PySem.W.takesIn K (.builtin "object.__class__") = some true) &&
    (decide (PySem.W.mroIn K C (.type "object") = some true) && (decide (PySem.W.typeIn K (.ref C) = some (.type "type")) && (PySem.W.keepIn K (.ref C) && (PySem.W.clsIn K C).isSome)))))))))
theorem exKB_ok {K : PySem.W.Frag} {C : Addr} (h : exKB K C = true) : ExK K C := by
  obtain ⟨h1, h⟩ := b2 h
  obtain ⟨h2, h⟩ := b2 h
  obtain ⟨h3, h⟩ := b2 h
  obtain ⟨h4, h⟩ := b2 h
  obtain ⟨h5, h⟩ := b2 h
  obtain ⟨h6, h⟩ := b2 h
  obtain ⟨h7, h⟩ := b2 h
  obtain ⟨h8, h⟩ := b2 h
  obtain ⟨h9, h⟩ := b2 h
  obtain ⟨h10, h11⟩ := b2 h
  exact ⟨of_decide_eq_true h1, of_decide_eq_true h2, of_decide_eq_true h3, h4, of_decide_eq_true h5, of_decide_eq_true h6, of_decide_eq_true h7, of_decide_eq_true h8, of_decide_eq_true h9, h10, h11⟩
section
variable {X : Cx} {pins : List (Addr × Obj)} {σ : L2.St} {H : Hp} {s : Shared}
/-- the object and its dict -/
theorem exV_inst {a C : Addr} {dd : Option Addr} (I : Inv X pins σ H s) (h : H a = some (ExV (.ref C) dd a)) (hd : ∀ d, dd = some d → ∃ fs, H d = some (.xd fs)) : ∃ oe od, PySem.W.InstAt s.heap a oe C od := by
  obtain ⟨⟨oe, vs, e, z, dt, _⟩, _, _⟩ := I.hok a _ h
  have hn : PySem.W.notCls oe = true := by
    unfold PySem.W.notCls
    rw [dt] <;> rfl
  cases dd with
  | none => exact ⟨oe, none, e, z.1, hn, by rw [z.2]; trivial⟩
  | some d =>
    obtain ⟨fs, hx⟩ := hd d rfl
    obtain ⟨mA, hns, _⟩ := I.hok d _ hx
    obtain ⟨od, ho, _⟩ := lookIn_ns hns
    exact ⟨oe, some od, e, z.1, hn, by rw [z.2]; exact ho⟩
/-- isinstance(e, c) -/
def rIsV (K : PySem.W.Frag) : List V → Hp → VK → Prop := fun xs H Q => ∃ (a C : Addr) (dd : Option Addr) (c : V) (cv : Value) (b : Bool), xs = [.ref a, c] ∧ H a = some (ExV (.ref C) dd a) ∧ (∀ d, dd = some d → ∃ fs, H d = some (.xd fs)) ∧ ExK K C ∧ (∀ u, RelV c u → u = cv) ∧ PySem.W.kitOne K (.ref C) cv = some b ∧ Q (.bl b) H
theorem call_isV : CallR X (.builtin "isinstance") (rIsV X.K) := by
  intro pins s σ H xs us Q I r h
  obtain ⟨a, C, dd, c, cv, b, rfl, ha, hd, E, hcv, e, q⟩ := h
  cases r with
  | cons rx rr =>
    cases rr with
    | cons rt rr =>
      cases rr
      cases rx
      have ec := hcv _ rt
      subst ec
      obtain ⟨oe, od, J⟩ := exV_inst I ha hd
      exact PySem.W.kia_one (PySem.W.kitx_exc E.cl E.ga E.gg E.exC E.ca E.cn E.ct E.cm) I.kIn J e (fun z => nomatch z) fun tk => ⟨.bl b, H, I.kept (t' := tk) fun _ _ z => z, rfl, q⟩
/-- e.f -/
def tXat (K : PySem.W.Frag) (f : Str) (te : TE) : TE := fun σ H Q => te σ H fun x H1 => ∃ (a C d : Addr) (fs : List (Str × V)) (v : V), x = .ref a ∧ H1 a = some (ExV (.ref C) (some d) a) ∧ H1 d = some (.xd fs) ∧ ExK K C ∧ PySem.W.findIn K (.ref C) f = some none ∧ fs.lookup f = some v ∧ Q v H1
theorem pe_xat {e : Expr} {te : TE} {pos : Pos} {f : Str} (he : PE X e te) (hb : attributeBase e f X.env (eval e X.env) = eval e X.env := by rfl) : PE X (.Attribute e f pos) (tXat X.K f te) := by
  refine ⟨fun pins s σ H Q I h => ?_⟩
  refine attr_of hb (thn (he.run pins s σ H _ I h) fun u s1 ⟨x, H1, I1, rx, a, C, d, fs, v, ex, ha, hd, E, hno, l, q⟩ => ?_)
  subst ex
  obtain rfl : u = Value.ref a := rx
  obtain ⟨⟨oe, vs, e1, z, dt, _⟩, _, _⟩ := I1.hok a _ ha
  obtain ⟨mA, hns, hr⟩ := I1.hok d _ hd
  obtain ⟨od, ho, hl⟩ := lookIn_ns hns
  obtain ⟨u, hu, ru⟩ := RelO.some_of (v := v) (o := mA f) (by rw [← l]; exact hr f)
  have J : PySem.W.InstAt s1.heap a oe C (some od) := ⟨e1, z.1, by unfold PySem.W.notCls; rw [dt] <;> rfl, by rw [z.2]; exact ho⟩
  exact HandSPX.exc_get I1.kIn J E.ga E.gg E.exC (PySem.W.findObj_own E.hdC hno rfl (by rw [hl, hu])) (handed_of ru) ⟨v, H1, I1.tok _, ru, q⟩
/-- X(), an own exception class without own __init__ -/
theorem pe_exc0 {C : Addr} {bmB : List Value} {B newId initId : String} {x : Str} {p pos : Pos} (F : ExcBaseFacts B newId initId bmB) (q : PySem.W.excIn X.K C bmB newId = true) (gC : X.mg x = some (.ref C)) (kC : PySem.W.keepIn X.K (.ref C) = true) (hg : Gl X x) (hdb : (x == ("__debug__" : Str)) = false := by decide) :
    PE X (.Call (.Name x p) [] [] pos) (fun σ H Q => ∀ a, H a = none → Q (.ref a) (upd H a (ExV (.ref C) none a))) := by
  refine ⟨fun pins s σ H Q I h => ?_⟩
  refine wpAny_Call_Name_kw (ld_glob I hg gC ?_ hdb)
  refine PySem.W.callWith_K0 I.kIn kC ?_
  show wpAny _ _ (call (.ref C) []) _ _ _
  obtain ⟨bm, N, nm, qn, bs, hdct, sn, sub, ab, col, dd, k0, k1, k2, k3, k5, mN, hC, hN, hni, T⟩ := exc_obj I.kIn q
  refine wpAny_call_exc_subT F T hC hN hni (fun h' a hm => ?_) (by show 0 ≤ sizeLine; omega)
  have hn : H a = none := I.hok.gone hm.new
  obtain ⟨t, ht, _, _⟩ := hm.there
  exact ⟨.ref a, upd H a (ExV (.ref C) none a), I.laidN hm.keeps hm.new hn (exV_ok ht ⟨rfl, rfl⟩ rfl rfl rfl (show 4 < 6 by decide)), rfl, h a hn⟩
end
/-- a class of exceptions without own __init__: where it stands -/
structure Ex0 (K : PySem.W.Frag) (mg : Str → Option Value) (x : Str) (C : Addr) : Prop where
  g : mg x = some (.ref C)
  ex : PySem.W.excIn K C He.veBase "ValueError.__new__" = true
  k : ExK K C
end Iv
namespace Iv
open PySem PySem.W PySem.Calls PyProof.Rows PySem.HandSPX
/-! ## exceptions whose __init__ says super().__init__(text), then stores its parameters -/
/-- self.f = f, one behind another -/
inductive Sets : List Str → List Stmt → Prop where
  | nil : Sets [] []
  | cons {f fs rest p1 p2 p3 p4} : Sets fs rest → Sets (f :: fs) (.Assign [.Attribute (.Name "self" p1) f p2] (.Name f p3) p4 :: rest)
/-- super().__init__(text) -/
def supB (m : Str) (j : Nat) (p0 p1 p2 p3 p4 p5 : Pos) : Stmt := .Expr (.Call (.Attribute (.Call (.Name "super" p0) [] [] p1) "__init__" p2) [.Constant (.str m) j p3] [] p4) p5
structure SupC (prog : Program) (K : Frag) (C fI : Addr) (fs : List Str) : Prop where
  oex : L2.OexC K C
  iC : findIn K (.ref C) "__init__" = some (some (.ref fI))
  tI : typeIn K (.ref fI) = some (.type "function")
  opq : nsIn K cStatics "thirdparty.any" = some none
  sup : nsIn K mainGlobals "super" = some none
  along : ks_superIn K C C "__init__" = some (some (.builtin "ValueError.__init__"))
  subV : subIn K (.ref C) (.type "ValueError") = some true
  subC : mroIn K C (.ref C) = some true
  noN : ∀ f ∈ fs, findIn K (.ref C) f = some none
  hs : fs ≠ [] ∧ fs.Nodup ∧ fs.length ≤ 5 ∧ ("self" : Str) ∉ fs
  htop : (prog.main.scope.names.lookup ("super" : Str)).isSome = false
  fn : ∃ (oc : Value) (od : Option Addr) (osl : Array (Option Value)) (qual : Str) (params : Arguments) (body : List Stmt) (scope : Scope) (kV doc pm : Value) (an : Option Addr) (cda : Addr) (ct : Value) (cc : Addr),
    K.lookup fI = some ⟨oc, od, .func (ksFn "__init__" qual params body scope .none kV doc pm an (.ref cda) ct cc), osl⟩ ∧ codeIn K (.ref cda) qual = true ∧
    (∃ ccl cdd vs ccs tf, K.lookup cda = some ⟨ccl, cdd, .fields vs, ccs⟩ ∧ vs[2]? = some (.str prog.main.file tf)) ∧ (∃ cl cld csl, K.lookup cc = some ⟨cl, cld, .cell (some (.ref C)), csl⟩) ∧
    (∃ m j p0 p1 p2 p3 p4 p5 rest, body = supB m j p0 p1 p2 p3 p4 p5 :: rest ∧ Sets fs rest ∧ (∀ env : PySem.Env, ∃ pl : Sem Bool, eval (.Call (.Attribute (.Call (.Name "super" p0) [] [] p1) "__init__" p2) [.Constant (.str m) j p3] [] p4) env = (do
      let ov ← attributeBase (.Call (.Name "super" p0) [] [] p1) "__init__" env (eval (.Call (.Name "super" p0) [] [] p1) env)
      standAt p2.atName
      let (f, first) ← holding [ov] (getMethod ov "__init__" pl)
      callWith p4 f first (backTo p4 (starEach [.Constant (.str m) j p3] env)) []))) ∧ (∃ ar, (params.posonlyargs ++ params.args).head? = some ar ∧ ar.arg = "self") ∧
    (∀ us : List Value, us.length = fs.length + 1 → bindArgs (ksFn "__init__" qual params body scope .none kV doc pm an (.ref cda) ct cc) ⟨us, []⟩ = pure (((("self" : Str)) :: fs).zip us)) ∧
    scope.kind = .function ∧ scope.isCoroutine = false ∧ scope.isGenerator = false ∧ (∀ x ∈ scope.names, x.2 ≠ .cell) ∧ (∀ x ∈ ("self" : Str) :: fs, scope.names.lookup x = some .local) ∧ scope.names.lookup ("super" : Str) = some .globalImplicit ∧ scope.names.lookup ("__class__" : Str) = some .free
/-- what is left of a made one: all that was stands; the object, its own dict -/
structure MadeI (h h' : Heap) (e C d : Addr) (fs : List Str) (vs : List Value) : Prop where
  keep : ∀ b o, b ≠ e → h.get? b = some o → h'.get? b = some o
  obj : ∃ t1 : Addr, h'.get? e = some { cls := .ref C, dict := some d, data := .fields #[.ref t1, .none, .none, .none, .bool false, .none] }
  dbig : h.objs.size ≤ d
  dne : d ≠ e
  ns : ∃ mA, h'.Ns1 d mA ∧ ∀ f, mA f = (fs.zip vs).reverse.lookup f
section
variable {prog : Program} {w : World} {A : Around} {E : Value → Shared → Prop} {K : Frag} {C fI : Addr} {fs : List Str} {env : PySem.Env}
theorem ldK {s : Shared} {m : Str → Option Value} {x : Str} {pos : Pos} {v : Value} {Q : Value → Shared → Prop} (hn : s.heap.Ns env.locals m) (hv : m x = some v) (h : Q v s) (hk : env.scope.kind = .function) (hl : env.kindOf x = some .local) (hd : (x == ("__debug__" : Str)) = false) :
    wpAny (model prog w) A (eval (.Name x pos) env) Q E s := wpAny_Name (wpAny_loadName_local hk hl hn hv h) hd
/-- the stores behind the first one -/
theorem sets_run (T : L2.OexC K C) {x t1 dx : Addr} {m : Str → Option Value} : ∀ {gs : List Str} {rest : List Stmt}, Sets gs rest → (∀ f ∈ gs, findIn K (.ref C) f = some none) → ∀ {done : List (Str × Value)} {vs : List Value} {s : Shared} {Q : Flow → Shared → Prop},
    K.In s.heap → s.heap.Ns env.locals m → env.locals ≠ x → env.locals ≠ dx → s.heap.get? x = some { cls := .ref C, dict := some dx, data := .fields #[.ref t1, .none, .none, .none, .bool false, .none] } → (∃ mA, s.heap.Ns1 dx mA ∧ ∀ f, mA f = done.lookup f) → K.lookup dx = none →
    done.length + gs.length ≤ 10 → vs.length = gs.length → (∀ (i : Nat) (f : Str) (v : Value), gs[i]? = some f → vs[i]? = some v → m f = some v) → m "self" = some (.ref x) → env.scope.kind = .function → (∀ f ∈ ("self" : Str) :: gs, env.kindOf f = some .local) → (∀ f ∈ ("self" : Str) :: gs, (f == ("__debug__" : Str)) = false) →
    (∀ h' tk, (∀ b o, b ≠ dx → s.heap.get? b = some o → h'.get? b = some o) → (∃ mA, h'.Ns1 dx mA ∧ ∀ f, mA f = ((gs.zip vs).reverse ++ done).lookup f) → Q .next { s with heap := h', toks := tk }) → wpAny (model prog w) A (PySem.execs rest env) Q E s
  | [], _, .nil, _, done, vs, s, Q, X, hn, _, _, hx, ⟨mA, hns, hm⟩, _, _, hv, _, _, _, _, _, q => by
    have e : vs = [] := List.length_eq_zero_iff.mp hv
    subst e
    exact wpAny_execs_nil (q s.heap s.toks (fun b o _ z => z) ⟨mA, hns, by simpa using hm⟩)
  | f :: gs, _, .cons hs, hno, done, vs, s, Q, X, hn, neL, neL2, hx, ⟨mA, hns, hm⟩, hKd, hsz, hv, hmv, hself, hk, hl, hd, q => by
    obtain ⟨v, vr, rfl⟩ : ∃ v vr, vs = v :: vr := by
      cases vs with
      | nil => cases hv
      | cons v vr => exact ⟨v, vr, rfl⟩
    obtain ⟨nm, qq, N, bs, bm, sn, sub, ab, col, dd, k0, k1, k2, k3, k5, hC, hbm⟩ := T.cls
    have hcl : clsIn K C = some { name := nm, bases := bs, mro := .ref C :: bm, ns := N, qualname := qq, hasDict := true, slotNames := sn, subclasses := sub, abstract := ab, collection := col, hasDel := false } := by unfold clsIn; rw [hC] <;> rfl
    have hw : Within mA (done.map (·.1)) := fun y hy => by
      rw [hm y] at hy
      cases hl : done.lookup y with
      | none => exact absurd hl hy
      | some u => exact List.mem_map.mpr ⟨(y, u), PySem.mem_of_lookup hl, rfl⟩
    obtain ⟨oD, _, _, hoD, _, _⟩ := hns.count hw
    refine wpAny_execs_cons (plainObj_wpAny_Assign_Attribute ?_)
    refine ldK (v := v) hn (hmv 0 f v rfl rfl) (ldK (v := .ref x) hn hself ?_ hk (hl _ List.mem_cons_self) (hd _ List.mem_cons_self)) hk (hl _ (List.mem_cons_of_mem _ List.mem_cons_self)) (hd _ (List.mem_cons_of_mem _ List.mem_cons_self))
    refine set_plain X (ox := { cls := .ref C, dict := some dx, data := .fields #[.ref t1, .none, .none, .none, .bool false, .none] }) (od := some oD) ⟨hx, rfl, rfl, hoD⟩ T.sa ?_
    obtain ⟨hp, g, d, t, os⟩ := s
    refine PySem.OEX.osa_old X hx hns hw (by rw [List.length_map]; simp only [List.length_cons] at hsz; omega) hcl (show refsVE (.ref C :: bm) = true from hbm) rfl (hno f List.mem_cons_self) (fun h' tk' k hn' => ?_)
    have hxd : x ≠ dx := fun z => by
      obtain ⟨o, es, ep, e1, e2, _⟩ := hns
      rw [← z, hx] at e1
      have z2 := Option.some.inj e1
      subst z2
      cases e2
    obtain ⟨o, es, ep, e1, r⟩ := hn
    refine sets_run T hs (fun f hf => hno f (List.mem_cons_of_mem _ hf)) (done := (f, v) :: done) (vs := vr) (m := m) (x := x) (t1 := t1) (dx := dx) (fun a o e => ?_) ⟨o, es, ep, k _ _ neL2 e1, r⟩ neL neL2 (k _ _ hxd hx) ⟨_, hn', fun y => ?_⟩ hKd (by simp only [List.length_cons] at hsz ⊢; omega)
      (by simpa using hv) (fun i f' v' h1 h2 => hmv (i + 1) f' v' (by simpa using h1) (by simpa using h2)) hself hk (fun f hf => ?_) (fun f hf => ?_) fun h'' tk k2 hns2 => ?_
    · exact k a o (fun z => by rw [z, hKd] at e; cases e) (X a o e)
    · rw [List.lookup_cons]
      cases hb : y == f with
      | true => rw [if_pos (beq_iff_eq.mp hb)]
      | false => rw [if_neg (fun z => by rw [z] at hb; simp at hb), hm y]
    · rcases List.mem_cons.mp hf with z | z
      · exact hl _ (by rw [z]; exact List.mem_cons_self)
      · exact hl _ (List.mem_cons_of_mem _ (List.mem_cons_of_mem _ z))
    · rcases List.mem_cons.mp hf with z | z
      · exact hd _ (by rw [z]; exact List.mem_cons_self)
      · exact hd _ (List.mem_cons_of_mem _ (List.mem_cons_of_mem _ z))
    · refine q h'' tk (fun b o hb z => k2 b o hb (k b o hb z)) ?_
      obtain ⟨mB, h1, h2⟩ := hns2
      refine ⟨mB, h1, fun y => ?_⟩
      rw [h2 y]
      simp [List.zip_cons_cons, List.reverse_cons, List.append_assoc]
/-- super().__init__(text), the wrapper called -/
theorem sup_call (T : L2.OexC K C) {u x t0 : Addr} {v : Value} {h : Heap} {g : Array GenState} {d : Drawn} {t : Nat} {os : OsState} {Q : Value → Shared → Prop} (X : K.In h) (hu : h.get? u = some (kxs_mw "ValueError.__init__" x)) (hx : h.get? x = some (excO C t0))
    (hq : ∀ h' t1, (∀ b o, b ≠ x → h.get? b = some o → h'.get? b = some o) → h'.get? x = some (excO C t1) → Q .none ⟨h', g, d, t, os⟩) : wpAny (model prog w) A (call (.ref u) [v]) Q E ⟨h, g, d, t, os⟩ := by
  obtain ⟨nm, qq, N, bs, bm, sn, sub, ab, col, dd, k0, k1, k2, k3, k5, hC, hbm⟩ := T.cls
  refine wpAny_call (codeAny_of_tree ?_)
  show wpAny _ A.in1 (callAny (.ref u) ⟨[v], []⟩) _ _ _
  simp only [callAny]
  refine wpAny_bind (wpAny_load hu ?_)
  simp only [kxs_mw, show (Value.type "method-wrapper" == Value.type "method" || Value.type "method-wrapper" == Value.type "builtin_function_or_method" || Value.type "method-wrapper" == Value.type "method-wrapper") = true by decide, if_true]
  refine KFB.if_so (by decide) ?_
  refine wpAny_bind (check_bound_init PySem.F.excBase_ValueError.toExcCallFacts (X _ _ hC) hx rfl ?_)
  refine wpAny_bind (wpAny_pure (wpAny_pure ?_))
  refine ⟨plainId_quiet PySem.F.excBase_ValueError.init.plain _, codeAny_builtin PySem.F.excBase_ValueError.initEntry ?_⟩
  exact exc_init_tree (cls := .ref C) (t0 := t0) (dv := none) (c2 := .none) (c3 := .none) (b4 := .bool false) hx (by rw [sizeLine_eq]; exact (by decide : 1 ≤ 16777216)) fun h' k e _ => hq h' _ k e
end
section
variable {prog : Program} {w : World} {A : Around} {K : Frag} {C fI : Addr} {fs : List Str} {R : Result → Shared → Prop} {s : Shared} {mg mb : Str → Option Value}
theorem zip_look : ∀ {fs : List Str} {vs : List Value} {i : Nat} {f : Str} {v : Value}, fs.Nodup → fs[i]? = some f → vs[i]? = some v → (fs.zip vs).reverse.lookup f = some v
  | [], _, _, _, _, _, h, _ => by simp at h
  | _ :: _, [], _, _, _, _, _, h => by simp at h
  | g :: fs, u :: vs, 0, f, v, nd, h1, h2 => by
    simp at h1 h2
    subst h1 h2
    rw [List.zip_cons_cons, List.reverse_cons, List.lookup_append]
    have hn : (fs.zip vs).reverse.lookup g = none := by
      cases e : (fs.zip vs).reverse.lookup g with
      | none => rfl
      | some w =>
        have := PySem.mem_of_lookup e
        rw [List.mem_reverse] at this
        exact absurd (List.of_mem_zip this).1 (List.nodup_cons.mp nd).1
    rw [hn]
    simp [List.lookup_cons]
  | g :: fs, u :: vs, i + 1, f, v, nd, h1, h2 => by
    rw [List.zip_cons_cons, List.reverse_cons, List.lookup_append, zip_look (List.nodup_cons.mp nd).2 (by simpa using h1) (by simpa using h2)]
    rfl
theorem init_sup (T : SupC prog K C fI fs) {x t0 : Addr} {vs : List Value} (X : K.In s.heap) (G : s.heap.Ns mainGlobals mg) (Gb : s.heap.Ns builtinsNs mb) (hbb : ∀ x : Str, x ≠ "__name__" → mb x = bootBuiltins x) (hlim : s.heap.NoLimit) (hx : s.heap.get? x = some (excO C t0)) (hnx : K.lookup x = none)
    (hroom : A.depth < recursionLimit) (hv : vs.length = fs.length) (hdbg : ∀ f ∈ ("self" : Str) :: fs, (f == ("__debug__" : Str)) = false) (hq : ∀ h' tk dx, MadeI s.heap h' x C dx fs vs → R (.ok (.ret .none)) { s with heap := h', toks := tk }) :
    codeAny (model prog w) A (.call (.ref fI) ⟨.ref x :: vs, []⟩) R s := by
  obtain ⟨oc, od, osl, qual, params, body, scope, kV, doc, pm, an, cda, ct, cc, ho, hcd, ⟨ccl, cdd, cvs, ccs, tf, hcode, hfile⟩, ⟨cl, cld, csl, hcell⟩, ⟨m, j, p0, p1, p2, p3, p4, p5, rest, rfl, hsets, hline⟩, ⟨ar, hp, har⟩, hbind, hk, hco, hgen, hnc, hloc, hks, hkc⟩ := T.fn
  obtain ⟨nm, qq, N, bs, bm, sn, sub, ab, col, dd, k0, k1, k2, k3, k5, hC, hbm⟩ := T.oex.cls
  have hcl : clsIn K C = some { name := nm, bases := bs, mro := .ref C :: bm, ns := N, qualname := qq, hasDict := true, slotNames := sn, subclasses := sub, abstract := ab, collection := col, hasDel := false } := by unfold clsIn; rw [hC] <;> rfl
  have hlen : (Value.ref x :: vs).length = fs.length + 1 := by rw [List.length_cons, hv]
  refine ks_codeAny_call_defAt (binds := (((("self" : Str)) :: fs).zip (.ref x :: vs))) hroom (X _ _ ho) rfl hlim (codeRec_of X hcd) rfl (BindsTo.of_eq (hbind _ hlen)) hnc (fun y hy => hloc _ (List.of_mem_zip hy).1) (fun h₁ hns hk₁ => ?_) hco hgen hk
  have X1 : K.In h₁ := X.keeps hk₁
  have hx1 := hk₁ _ _ hx
  generalize hL : s.heap.objs.size = L at hns ⊢
  have hLx : L ≠ x := by
    rw [← hL]
    exact Nat.ne_of_gt (Heap.lt_size hx)
  have nd : (("self" : Str) :: fs).Nodup := List.nodup_cons.mpr ⟨T.hs.2.2.2, T.hs.2.1⟩
  have mself : ((((("self" : Str)) :: fs).zip (.ref x :: vs))).reverse.lookup ("self" : Str) = some (.ref x) := zip_look nd (i := 0) rfl rfl
  have mf : ∀ (i : Nat) (f : Str) (v : Value), fs[i]? = some f → vs[i]? = some v → ((((("self" : Str)) :: fs).zip (.ref x :: vs))).reverse.lookup f = some v := fun i f v h1 h2 => zip_look nd (i := i + 1) (by simpa using h1) (by simpa using h2)
  obtain ⟨hp0, g0, d0, t00, os0⟩ := s
  obtain ⟨pl, heq⟩ := hline (callEnv (ksFn "__init__" qual params (supB m j p0 p1 p2 p3 p4 p5 :: rest) scope .none kV doc pm an (.ref cda) ct cc) L fI)
  have hkE : (callEnv (ksFn "__init__" qual params (supB m j p0 p1 p2 p3 p4 p5 :: rest) scope .none kV doc pm an (.ref cda) ct cc) L fI).scope.kind = .function := hk
  refine ks_wpAt_execs_cons (ks_wpAt_Expr_any (ks_wpAt_MethodCall ?_ heq) (by simp [interactive, hkE]) rfl)
  refine ks_wpAt_super_base hks hkc (by decide) rfl (X1 _ _ ho) rfl hp rfl (X1 _ _ hcode) rfl hfile (by simp) T.htop ?_
  have hG : h₁.Ns mainGlobals mg := G.keeps hk₁
  have hGb : h₁.Ns builtinsNs mb := Gb.keeps hk₁
  refine ks_loadName_global hk hks (loadGlobal_builtin hG (mg_none_of X G T.sup) hGb ((hbb _ (by decide +kernel)).trans (by decide +kernel)) ⟨rfl, ?_⟩)
  refine wpAny_loadName_free hk hkc rfl ⟨_, X1 _ _ hcell, rfl⟩ ?_
  rw [har]
  refine wpAny_loadName_local hk (hloc _ List.mem_cons_self) hns mself ?_
  refine ks_wpAny_isType_cls (X1 _ _ hC) rfl ⟨rfl, ?_⟩
  refine ks_wpAny_call_super (X1 _ _ hC) rfl hx1 rfl (fun c e => nomatch e) (looks_mroIn X1 T.subC) (fun h2 hso kk2 => ?_)
  have X2 : K.In h2 := X1.keeps kk2
  have hx2 := kk2 _ _ hx1
  have J2 : InstAt h2 x (excO C t0) C none := ⟨hx2, rfl, rfl, trivial⟩
  have hcl2 := hcl
  have hal := T.along
  unfold ks_superIn at hal
  rw [hcl] at hal
  refine kxs_getMethod kxs_ValueError hso (looks_opaque X2 T.opq) (fun A Q E s k q => wpAny_bind ((looks_clsIn X2 hcl) A _ E s k (wpAny_pure q))) rfl X2 hal (J2.type.andThen (looks_subIn X2 T.subV)) (fun z => by rw [z, hC] at hnx; cases hnx) (by decide) ?_
  -- the wrapper stands at h2.objs.size
  have kk3 : ∀ b o, h2.get? b = some o → (h2.push (kxs_mw "ValueError.__init__" x)).get? b = some o := fun b o e => Heap.get?_push_of_some _ e
  have hu3 : (h2.push (kxs_mw "ValueError.__init__" x)).get? h2.objs.size = some (kxs_mw "ValueError.__init__" x) := Heap.get?_push_at rfl rfl
  refine kxs_callWith (i := "ValueError.__init__") (x := x) rfl ?_
  refine evalArgs_plain ?_
  refine Calls.spliced_cons (Calls.Constant_str (k := j) (pos := p3) ?_)
  refine Calls.spliced_nil ⟨hu3, ?_⟩
  show wpAny _ _ (call (.ref h2.objs.size) [_]) _ _ _
  refine sup_call T.oex (X2.keeps kk3) hu3 (kk3 _ _ hx2) fun h4 t1 kk4 hx4 => ?_
  -- the stores
  obtain ⟨f1, fr, rfl⟩ : ∃ f1 fr, fs = f1 :: fr := by
    cases fs with
    | nil => exact absurd rfl T.hs.1
    | cons f1 fr => exact ⟨f1, fr, rfl⟩
  obtain ⟨v1, vr, rfl⟩ : ∃ v1 vr, vs = v1 :: vr := by
    cases vs with
    | nil => cases hv
    | cons v1 vr => exact ⟨v1, vr, rfl⟩
  have keep4 : ∀ b o, b ≠ x → hp0.get? b = some o → h4.get? b = some o := fun b o hb e => kk4 b o hb (kk3 _ _ (kk2 _ _ (hk₁ _ _ e)))
  have keepL : ∀ o, h₁.get? L = some o → h4.get? L = some o := fun o e => kk4 L o hLx (kk3 _ _ (kk2 _ _ e))
  have X4 : K.In h4 := fun a o e => kk4 a o (fun z => by rw [z, hnx] at e; cases e) (kk3 _ _ (X2 a o e))
  refine wpAt_of_wpAny ?_
  cases hsets with
  | cons hsets =>
    obtain ⟨oL, esL, epL, eL, rL⟩ := hns
    have hns4 : h4.Ns L _ := ⟨oL, esL, epL, keepL _ eL, rL⟩
    refine wpAny_execs_cons (plainObj_wpAny_Assign_Attribute ?_)
    refine ldK (v := v1) hns4 (mf 0 _ _ rfl rfl) (ldK (v := .ref x) hns4 mself ?_ hk (hloc _ List.mem_cons_self) (hdbg _ List.mem_cons_self)) hk (hloc _ (List.mem_cons_of_mem _ List.mem_cons_self)) (hdbg _ (List.mem_cons_of_mem _ List.mem_cons_self))
    refine set_plain X4 (ox := excO C t1) (od := none) ⟨hx4, rfl, rfl, trivial⟩ T.oex.sa ?_
    refine exc_osa X4 hx4 hcl (show refsVE (.ref C :: bm) = true from hbm) rfl (T.noN _ List.mem_cons_self) (fun h5 tk5 dx kk5 hdn hdx hx5 hn5 => ?_)
    have szL : hp0.objs.size ≤ h4.objs.size := by
      rw [hL]
      exact Nat.le_of_lt (Heap.lt_size (keepL _ eL))
    have hLd : L ≠ dx := fun z => by
      have h := Heap.lt_size (keepL _ eL)
      rw [z] at h
      exact Nat.lt_irrefl _ (Nat.lt_of_lt_of_le h hdn)
    have hKd : K.lookup dx = none := by
      cases e : K.lookup dx with
      | none => rfl
      | some o => exact absurd (Nat.lt_of_lt_of_le (Heap.lt_size (X4 _ _ e)) hdn) (Nat.lt_irrefl _)
    have X5 : K.In h5 := fun a o e => kk5 a o (fun z => by rw [z, hnx] at e; cases e) (X4 a o e)
    refine sets_run T.oex hsets (fun f hf => T.noN f (List.mem_cons_of_mem _ hf)) (done := [(f1, v1)]) (vs := vr) (x := x) (t1 := t1) (dx := dx) X5 ⟨oL, esL, epL, kk5 _ _ hLx (keepL _ eL), rL⟩ hLx hLd hx5 ⟨_, hn5, fun y => ?_⟩ hKd (by have := T.hs.2.2.1; simp only [List.length_cons, List.length_nil] at this ⊢; omega)
      (by simpa using hv) (fun i f v h1 h2 => mf (i + 1) f v (by simpa using h1) (by simpa using h2)) mself hk (fun f hf => hloc f ?_) (fun f hf => hdbg f ?_) fun h6 tk6 kk6 hns6 => ?_
    · rw [List.lookup_cons]
      cases hb : y == f1 with
      | true => rw [if_pos (beq_iff_eq.mp hb)]
      | false => rw [if_neg (fun z => by rw [z] at hb; simp at hb)]; rfl
    · rcases List.mem_cons.mp hf with z | z
      · rw [z]; exact List.mem_cons_self
      · exact List.mem_cons_of_mem _ (List.mem_cons_of_mem _ z)
    · rcases List.mem_cons.mp hf with z | z
      · rw [z]; exact List.mem_cons_self
      · exact List.mem_cons_of_mem _ (List.mem_cons_of_mem _ z)
    · obtain ⟨mB, q1, q2⟩ := hns6
      refine hq h6 tk6 dx ⟨fun b o hb e => ?_, ⟨t1, kk6 _ _ (fun z => hdx z.symm) hx5⟩, Nat.le_trans szL hdn, hdx, ⟨mB, q1, fun f => ?_⟩⟩
      · have hbd : b ≠ dx := fun z => by
          have h := Heap.lt_size e
          rw [z] at h
          exact Nat.lt_irrefl _ (Nat.lt_of_lt_of_le h (Nat.le_trans szL hdn))
        exact kk6 b o hbd (kk5 b o hb (keep4 b o hb e))
      · rw [q2 f]
        simp [List.zip_cons_cons, List.reverse_cons]
end
end Iv
namespace Iv
open PySem PySem.Spec PyProof.Rows L2 LamX
section
open PySem.W PySem.Calls PySem.HandSPX
variable {prog : Program} {w : World} {A : Around} {K : Frag} {C fI : Addr} {fs : List Str} {R : Result → Shared → Prop} {s : Shared} {mg mb : Str → Option Value}
theorem sup_made (T : SupC prog K C fI fs) {vs : List Value} (X : K.In s.heap) (G : s.heap.Ns mainGlobals mg) (Gb : s.heap.Ns builtinsNs mb) (hbb : ∀ x : Str, x ≠ "__name__" → mb x = bootBuiltins x) (hlim : s.heap.NoLimit)
    (hroom : A.depth + 1 < recursionLimit) (hv : vs.length = fs.length) (hdbg : ∀ f ∈ ("self" : Str) :: fs, (f == ("__debug__" : Str)) = false)
    (hq : ∀ h' tk e dx, (∀ b o, s.heap.get? b = some o → h'.get? b = some o) → s.heap.objs.size ≤ e → s.heap.objs.size ≤ dx → dx ≠ e → (∃ t1 : Addr, h'.get? e = some { cls := .ref C, dict := some dx, data := .fields #[.ref t1, .none, .none, .none, .bool false, .none] }) →
      (∃ mA, h'.Ns1 dx mA ∧ ∀ f, mA f = (fs.zip vs).reverse.lookup f) → R (.ok (.ret (.ref e))) { s with heap := h', toks := tk }) :
    codeAny (model prog w) A (.call (.ref C) ⟨vs, []⟩) R s := by
  obtain ⟨nm, q, N, bs, bm, sn, sub, ab, col, dd, k0, k1, k2, k3, k5, hC, hbm⟩ := T.oex.cls
  obtain ⟨hp, g, dr, tk, os⟩ := s
  have k : ∀ b o, hp.get? b = some o → ((hp.push (kdv_tup vs)).push (excO C hp.objs.size)).get? b = some o := fun b o e => Heap.get?_push_of_some _ (Heap.get?_push_of_some _ e)
  have hget : ((hp.push (kdv_tup vs)).push (excO C hp.objs.size)).get? (hp.objs.size + 1) = some (excO C hp.objs.size) := by heap_get
  have hnx : K.lookup (hp.objs.size + 1) = none := by
    cases e : K.lookup (hp.objs.size + 1) with
    | none => rfl
    | some o =>
      have z : hp.get? (hp.objs.size + 1) = some o := X _ _ e
      exact absurd (Nat.lt_of_succ_lt (Heap.lt_size z)) (Nat.lt_irrefl _)
  refine HandSPX.call_own F.excBase_ValueError (fun X => refsVE_contains X bm hbm) (X _ _ hC) (looks_findIn X T.iC) (fun self => bind_fn X self T.tI) (by rw [hv, sizeLine_eq]; have := T.hs.2.2.1; omega) ?_
  refine init_sup (s := ⟨(hp.push (kdv_tup vs)).push (excO C hp.objs.size), g, dr, tk, os⟩) T (X.keeps k) (G.keeps k) (Gb.keeps k) hbb (hlim.keeps k) hget hnx ?_ hv hdbg fun h' tk' dx M => ?_
  · show A.depth + 1 < recursionLimit
    exact hroom
  · have old : ∀ b o, hp.get? b = some o → h'.get? b = some o := fun b o e => M.keep b o (Nat.ne_of_lt (Nat.lt_succ_of_lt (Heap.lt_size e))) (k b o e)
    have z : hp.objs.size + 1 + 1 ≤ dx := by
      have q := M.dbig
      first
        | (simpa only [Heap.size_push] using q)
        | exact q
        | (rw [Heap.size_push, Heap.size_push] at q; exact q)
    exact ⟨rfl, hq h' tk' (hp.objs.size + 1) dx old (Nat.le_succ _) (Nat.le_trans (Nat.le_trans (Nat.le_succ _) (Nat.le_succ _)) z) M.dne M.obj M.ns⟩
end
theorem relO_zip : ∀ {fs : List Str} {vs : List V} {us : List Value} {f : Str}, Vals vs us → RelO ((fs.zip vs).lookup f) ((fs.zip us).lookup f)
  | [], _, _, _, _ => trivial
  | _ :: _, [], _, _, r => by
    cases r
    trivial
  | k :: fs, v :: vs, _, f, .cons r t => by
    simp only [List.zip_cons_cons, List.lookup_cons]
    cases f == k with
    | true => exact r
    | false => exact relO_zip t
theorem lookup_rev {β : Type} : ∀ {fs : List Str} {vs : List β} {f : Str}, fs.Nodup → (fs.zip vs).reverse.lookup f = (fs.zip vs).lookup f
  | [], _, _, _ => rfl
  | _ :: _, [], _, _ => rfl
  | k :: fs, v :: vs, f, nd => by
    rw [List.zip_cons_cons, List.reverse_cons, List.lookup_append, List.lookup_cons, lookup_rev (List.nodup_cons.mp nd).2]
    cases e : (f == k) with
    | true =>
      have hn : (fs.zip vs).lookup f = none := by
        cases q : (fs.zip vs).lookup f with
        | none => rfl
        | some w =>
          have := PySem.mem_of_lookup q
          rw [beq_iff_eq.mp e] at this
          exact absurd (List.of_mem_zip this).1 (List.nodup_cons.mp nd).1
      rw [hn]
      simp [e, List.lookup_cons]
    | false => simp [e, List.lookup_cons]
/-- an own exception class with such an __init__: its facts for calls by the name x -/
structure ExI (P : Program) (K : PySem.W.Frag) (mg : Str → Option Value) (x : Str) (C : Addr) (fs : List Str) : Prop where
  g : mg x = some (.ref C)
  sup : ∃ fI, SupC P K C fI fs
  dbg : ∀ f ∈ ("self" : Str) :: fs, (f == ("__debug__" : Str)) = false
  k : ExK K C
section
variable {X : Cx} {C : Addr} {fs : List Str} {x : Str} {e : Expr} {es : List Expr} {ta : TA} {p pos : Pos} {k : Nat}
theorem sup_run {pins : List (Addr × Obj)} {σ : L2.St} {H H1 : Hp} {s1 : Shared} {vs : List V} {us : List Value} {Q : Value → Shared → Prop} {E : Value → Shared → Prop} (T : ExI X.prog X.K X.mg x C fs) (hr : Room k X.A) (I1 : Inv X pins σ H1 s1) (r1 : Vals vs us) (hl : vs.length = fs.length)
    (hq : ∀ (a d t1 : Addr) (G h' : Heap) tk, d ≠ a → H1 a = none → H1 d = none → Inv X pins σ (upd H1 d (.xd (fs.zip vs))) { s1 with heap := G, toks := tk } → (∀ b o, G.get? b = some o → h'.get? b = some o) → G.get? a = none → h'.get? a = some { cls := .ref C, dict := some d, data := .fields #[.ref t1, .none, .none, .none, .bool false, .none] } → Q (.ref a) { s1 with heap := h', toks := tk }) :
    wpAny (model X.prog X.w) X.A (call (.ref C) us) Q E s1 := by
  obtain ⟨fI, S⟩ := T.sup
  have hlim := I1.nolimit
  obtain ⟨mb, hb1, hb2⟩ := I1.mod.blt
  have kb : ∀ b o, X.base.get? b = some o → s1.heap.get? b = some o := I1.bk
  obtain ⟨hp, g, dr, tk, os⟩ := s1
  refine wpAny_call (sup_made S I1.kIn (I1.mod.glob.keeps kb) (hb1.keeps kb) hb2 hlim (by have := hr.dp; omega) (by rw [← r1.length, hl]) T.dbg fun h' tk' e d old en dn dne ⟨t1, hoe⟩ ⟨mA, hns, hm⟩ => ?_)
  obtain ⟨G', g1, g2⟩ := restrict h' fun b => decide (b ≠ e)
  have gk : ∀ b, b ≠ e → G'.get? b = h'.get? b := fun b hb => g1 b (decide_eq_true hb)
  have ge : G'.get? e = none := g2 e (by simp)
  have old' : ∀ b o, hp.get? b = some o → G'.get? b = some o := fun b o q => (gk b (Nat.ne_of_lt (Nat.lt_of_lt_of_le (Heap.lt_size q) en))).trans (old b o q)
  have ob : ObjOk X.prog X.w (upd H1 d (.xd (fs.zip vs))) G' d (.xd (fs.zip vs)) :=
    ⟨_, hns.at (fun o q => (gk d dne).trans q), fun f => by rw [hm f, lookup_rev S.hs.2.1]; exact relO_zip r1⟩
  have J : Inv X pins σ (upd H1 d (.xd (fs.zip vs))) ⟨G', g, dr, tk', os⟩ := I1.laid (t' := tk') old' dn ob
  refine hq e d t1 G' h' tk' dne (I1.hok.fresh en) (I1.hok.fresh dn) J (fun b o q => ?_) ge hoe
  by_cases hb : b = e
  · rw [hb, ge] at q
    cases q
  · exact (gk b hb).symm.trans q
/-- C(e, ..) as a value -/
theorem pe_excI (T : ExI X.prog X.K X.mg x C fs) (hr : Room k X.A) (hg : Gl X x) (ha : PA X (e :: es) ta) (hdb : (x == ("__debug__" : Str)) = false := by decide)
    (he : starEach (e :: es) X.env = (false, eval e X.env) :: starEach es X.env := by rfl) (hpl : (backTo pos (starEach es X.env)).any (·.1) = false := by rfl) :
    PE X (.Call (.Name x p) (e :: es) [] pos) (fun σ H Q => ta σ H fun vs H1 => vs.length = fs.length ∧ ∀ a d, H1 a = none → H1 d = none → d ≠ a → Q (.ref a) (upd (upd H1 d (.xd (fs.zip vs))) a (ExV (.ref C) (some d) a))) := by
  refine ⟨fun pins s σ H Q I h => ?_⟩
  obtain ⟨fI, S⟩ := id T.sup
  refine wpAny_Call_Name_kw (ld_glob I hg T.g ?_ hdb)
  refine PySem.W.callWith_K (h₀ := X.base) I.ok.mod.kin S.oex.kC (thn (ha.run pos pins s σ H _ I h) fun us s1 ⟨vs, H1, I1, r1, hl, q1⟩ => ⟨I1.kIn, ?_⟩) he hpl
  show wpAny _ _ (call (.ref C) us) _ _ _
  refine sup_run (H := H) T hr I1 r1 hl fun a d t1 G h' tk dne ha hd J old ge hoe => ?_
  have hn : upd H1 d (.xd (fs.zip vs)) a = none := by rw [upd_ne (Ne.symm dne)]; exact ha
  exact ⟨.ref a, _, J.laidN (t' := tk) old ge hn (exV_ok hoe ⟨rfl, rfl⟩ rfl rfl rfl (show 4 < 6 by decide)), rfl, q1 a d ha hd dne⟩
/-- C(e, ..), to be raised -/
theorem pmk_excI (T : ExI X.prog X.K X.mg x C fs) (hr : Room k X.A) (hg : Gl X x) (ha : PA X (e :: es) ta) (hdb : (x == ("__debug__" : Str)) = false := by decide)
    (he : starEach (e :: es) X.env = (false, eval e X.env) :: starEach es X.env := by rfl) (hpl : (backTo pos (starEach es X.env)).any (·.1) = false := by rfl) :
    PMk X (.Call (.Name x p) (e :: es) [] pos) (fun σ H Q => ta σ H fun vs H1 => vs.length = fs.length ∧ ∀ d, H1 d = none → Q (.ref C) (some d) (upd H1 d (.xd (fs.zip vs)))) := by
  intro pins s σ H Q I h
  obtain ⟨fI, S⟩ := id T.sup
  refine wpAny_Call_Name_kw (ld_glob I hg T.g ?_ hdb)
  refine PySem.W.callWith_K (h₀ := X.base) I.ok.mod.kin S.oex.kC (thn (ha.run pos pins s σ H _ I h) fun us s1 ⟨vs, H1, I1, r1, hl, q1⟩ => ⟨I1.kIn, ?_⟩) he hpl
  show wpAny _ _ (call (.ref C) us) _ _ _
  refine sup_run (H := H) T hr I1 r1 hl fun a d t1 G h' tk dne ha hd J old ge hoe => ?_
  exact ⟨a, _, _, _, _, .ref C, some d, rfl, J, old, ge, hoe, ⟨rfl, rfl⟩, rfl, rfl, by rw [upd_ne (Ne.symm dne)]; exact ha, rfl, I1.bare, raises_own S.oex.exC S.oex.tyC, q1 d hd⟩
end
end Iv
namespace Iv
open PySem PySem.Spec PyProof.Rows L2 LamX
section
variable {K : PySem.W.Frag} {T : List (Addr × Str)} {bs : List Nat} {W : WX} {g : Ga} {α β : Type} {rel : Ad → Hp → β → α → Prop} {A : Ad} {M : Me} {H : Hp} {σ : L2.St} {Q : β → Hp → Prop} {r : R α}
/-- without the slots, which stay -/
theorem kG.bare (S : Sta K T bs A M H σ g) (k : kG K T bs W g rel A H σ Q r) : kG K T bs (fun cls d _ H => W cls d σ H) [] rel A H [] Q r := by
  cases k with
  | ok h => exact .ok fun A' v H' c S' r => h A' v H' c (S.back c S') r
  | ex h => exact .ex fun A' H' dd c S' x => h A' H' dd c (S.back c S') x
end
/-! ## defs of the text -/
/-- the def at fa answers as C says -/
structure FnX (P : Program) (w : World) (K : PySem.W.Frag) (T : List (Addr × Str)) (mg : Str → Option Value) (base : Heap) (k : Nat) (fa : Addr) (f : Fn) (C : Con) : Prop where
  kp : PySem.W.keepIn K (.ref fa) = true
  fn : PySem.W.isFn K (.ref fa) = true
  fi : PySem.W.fnIn K fa = true
  ex : ∃ fd : FuncData, FnK P w K mg base k fa fd f.ps (spF K T f.ps.length C) ∧
    ∀ (n : Nat) (ks : List Str), (n, ks) ∈ f.sh → ∀ (s : Shared) (us ws : List Value) (vs zs : List V), K.In s.heap → us.length = n → ws.length = ks.length → Vals vs us → Vals zs ws → ∃ (xs : List Value) (ys : List V), BindsTo s fd ⟨us, ks.zip ws⟩ (f.ps.zip xs) ∧ Vals ys xs ∧
      ∀ (A : Ad) (H : Hp) (ds kds as : List D), RpL K A H vs ds → RpL K A H zs kds → bindF f ds ks kds = some as → RpL K A H ys as ∧ as.length = f.ps.length
/-- how the result of a call's code is wanted -/
def CRes (X : Cx) (pins : List (Addr × Obj)) (σ : L2.St) (Q : VK) (r : Result) (s' : Shared) : Prop := match r with
  | .ok (.ret u) => EP X pins σ Q u s'
  | .ok _ => False
  | .error e => X.xe e s'
section
variable {X : Cx} {T : List (Addr × Str)} {bs : List Nat} {W : WX} {g : Ga} {M : Me} {k b : Nat} {fa : Addr} {f : Fn} {C : Con}
theorem run_own {pins : List (Addr × Obj)} {s : Shared} {σ : L2.St} {H : Hp} {A : Ad} {A' : Around} {Q : VK} {us ws : List Value} {vs zs : List V} {ds kds : List D} {ks : List Str} (F : FnX X.prog X.w X.K T X.mg X.base k fa f C) (hG : A'.guards = some []) (hr : Room k A') (e0 : Env0 X.prog X.w X.K X.mg X.base A' X.stack s H) (tk : Takes X W) (hbs : ∀ x ∈ bs, x ≤ b)
    (I : Inv X pins σ H s) (S : Sta X.K T bs A M H σ g) (rv : Vals vs us) (rz : Vals zs ws) (pv : RpL X.K A H vs ds) (pz : RpL X.K A H zs kds) (hks : ws.length = ks.length)
    (q : kG X.K T bs W g (rE X.K) A H σ Q (match bindF f ds ks kds with | some as => C b as M | none => .no)) : codeAny (model X.prog X.w) A' (.call (.ref fa) ⟨us, ks.zip ws⟩) (CRes X pins σ Q) s := by
  obtain ⟨fd, FK, hb⟩ := F.ex
  cases e : bindF f ds ks kds with
  | none => rw [e] at q; exact q.no.elim
  | some as =>
    rw [e] at q
    have hsh : (us.length, ks) ∈ f.sh := by
      unfold bindF at e
      by_cases hc : f.sh.contains (ds.length, ks) = true
      · rw [← rv.length, pv.length]
        exact List.contains_iff_mem.mp hc
      · rw [if_neg hc] at e
        cases e
    obtain ⟨xs, ys, h1, h2, h3⟩ := hb us.length ks hsh s us ws vs zs I.kIn rfl hks rv rz
    obtain ⟨h4, h5⟩ := h3 A H ds kds as pv pz e
    refine codeAny_mono (FK.go A' X.stack s H ⟨us, ks.zip ws⟩ xs ys Q (WE W σ) hG hr e0 h1 h2 ⟨A, bs, b, M, as, h5, hbs, S.bare, h4, q.bare S⟩) fun r s' hq => ?_
    match r, hq with
    | .error e, hq => exact passAt tk σ pins H s e s' I hq
    | .ok (.ret u), hq => exact I.after hq
/-- the same where nothing is raised -/
def CRes0 (X : Cx) (pins : List (Addr × Obj)) (σ : L2.St) (Q : VK) (r : Result) (s' : Shared) : Prop := match r with
  | .ok (.ret u) => EP X pins σ Q u s'
  | .ok _ => False
  | .error _ => False
theorem run_own0 {pins : List (Addr × Obj)} {s : Shared} {σ : L2.St} {H : Hp} {A : Ad} {A' : Around} {Q : VK} {us : List Value} {vs : List V} {ds : List D} (F : FnX X.prog X.w X.K T X.mg X.base k fa f C) (hG : A'.guards = some []) (hr : Room k A') (e0 : Env0 X.prog X.w X.K X.mg X.base A' X.stack s H) (hbs : ∀ x ∈ bs, x ≤ b)
    (I : Inv X pins σ H s) (S : Sta X.K T bs A M H σ g) (rv : Vals vs us) (pv : RpL X.K A H vs ds)
    (q : kG X.K T bs (fun _ _ _ _ => False) g (rE X.K) A H σ Q (match bindF f ds [] [] with | some as => C b as M | none => .no)) : codeAny (model X.prog X.w) A' (.call (.ref fa) ⟨us, []⟩) (CRes0 X pins σ Q) s := by
  obtain ⟨fd, FK, hb⟩ := F.ex
  cases e : bindF f ds [] [] with
  | none => rw [e] at q; exact q.no.elim
  | some as =>
    rw [e] at q
    have hsh : (us.length, ([] : List Str)) ∈ f.sh := by
      unfold bindF at e
      by_cases hc : f.sh.contains (ds.length, []) = true
      · rw [← rv.length, pv.length]
        exact List.contains_iff_mem.mp hc
      · rw [if_neg hc] at e
        cases e
    obtain ⟨xs, ys, h1, h2, h3⟩ := hb us.length [] hsh s us [] vs [] I.kIn rfl rfl rv .nil
    obtain ⟨h4, h5⟩ := h3 A H ds [] as pv .nil e
    refine codeAny_mono (FK.go A' X.stack s H ⟨us, []⟩ xs ys Q (fun _ _ _ => False) hG hr e0 h1 h2 ⟨A, bs, b, M, as, h5, hbs, S.bare, h4, q.bare S⟩) fun r s' hq => ?_
    match r, hq with
    | .error e, hq =>
      obtain ⟨_, _, _, _, _, _, _, _, _, _, _, _, z⟩ := hq
      exact z
    | .ok (.ret u), hq => exact I.after hq
/-- f(..), f found -/
theorem call_own {pins : List (Addr × Obj)} {s : Shared} {σ : L2.St} {H : Hp} {A : Ad} {Q : VK} {us ws : List Value} {vs zs : List V} {ds kds : List D} {ks : List Str} (F : FnX X.prog X.w X.K T X.mg X.base k fa f C) (hG : X.A.guards = some []) (hr : Room k X.A) (tk : Takes X W) (hbs : ∀ x ∈ bs, x ≤ b)
    (I : Inv X pins σ H s) (S : Sta X.K T bs A M H σ g) (rv : Vals vs us) (rz : Vals zs ws) (pv : RpL X.K A H vs ds) (pz : RpL X.K A H zs kds) (hks : ws.length = ks.length)
    (q : kG X.K T bs W g (rE X.K) A H σ Q (match bindF f ds ks kds with | some as => C b as M | none => .no)) : wpAny (model X.prog X.w) X.A (call (.ref fa) us (ks.zip ws)) (EP X pins σ Q) X.xe s := by
  refine wpAny_call (codeAny_mono (run_own F hG hr I.env0 tk hbs I S rv rz pv pz hks q) fun r s' hq => ?_)
  match r, hq with
  | .error e, hq => exact hq
  | .ok (.ret u), hq => exact hq
end
/-! ## the world -/
structure Bi (mg : Str → Option Value) : Prop where
  int : mg "int" = none
  max : mg "max" = none
  min : mg "min" = none
  len : mg "len" = none
  abs : mg "abs" = none
  range : mg "range" = none
  repr : mg "repr" = none
  isinstance : mg "isinstance" = none
  all : mg "all" = none
  any : mg "any" = none
  tuple : mg "tuple" = none
  list : mg "list" = none
  sorted : mg "sorted" = none
  set : mg "set" = none
  dict : mg "dict" = none
  enumerate : mg "enumerate" = none
  zip : mg "zip" = none
  str : mg "str" = none
  bool : mg "bool" = none
  sum : mg "sum" = none
  super : mg "super" = none
  bytes : mg "bytes" = none
  ValueError : mg "ValueError" = none
  TypeError : mg "TypeError" = none
def opTys : List String := ["int", "bool", "str", "NoneType", "tuple", "list", "dict"]
/-- an own operator, its right operand of a built-in type -/
structure OpTy (K : PySem.W.Frag) (C : Addr) (o : Operator) (t : String) : Prop where
  rc : ∃ rc, PySem.W.findIn K (.ref C) (dunderR o.info.2) = some rc ∧ (rc = none ∨ ∃ g : Addr, rc = some (.ref g))
  fo : ∃ fo, PySem.W.findIn K (.type t) (PySem.dunder o.info.2) = some fo
  ro : ∃ ro, PySem.W.findIn K (.type t) (dunderR o.info.2) = some ro
  sub : PySem.W.subIn K (.type t) (.ref C) = some false
def tnV (K : PySem.W.Frag) : Tn → Value
  | .b t => .type t
  | .c C => .ref (ca K C)
/-- a class of objects -/
structure ClX (G : Pg) (fa : Str → Addr) (K : PySem.W.Frag) (mg : Str → Option Value) (C : Cn) : Prop where
  g : mg C.nm = some (.ref (ca K C))
  kp : PySem.W.keepIn K (.ref (ca K C)) = true
  cl : Cls K (ca K C)
  mkr : PySem.W.makesIn K (ca K C) = true
  sf : PySem.W.selfFirst K (ca K C) = true
  ns : PySem.W.noSeq K (ca K C) = true
  fld : ∀ f, G.fld C f = true → NoAttr K (ca K C) f
  me : ∀ m f, G.find C m = some (.me f) → Meth K (ca K C) m (fa f)
  pr : ∀ m f, G.find C m = some (.pr f) → ∃ p, PropOf K (ca K C) m p (fa f)
  co : ∀ m d, G.find C m = some (.co d) → ∃ v u, L2.Con K (ca K C) m v u ∧ ∀ A H, Rp K A H v d
  op : ∀ o n nr f, opNm o = some (n, nr) → G.find C n = some (.me f) → ∀ t ∈ opTys, OpTy K (ca K C) o t
  opr : ∀ o n nr f, opNm o = some (n, nr) → G.find C nr = some (.me f) → (∃ f2, G.find C n = some (.me f2)) ∧ PySem.W.subIn K (.ref (ca K C)) (.type "int") = some false
  cty : PySem.W.findIn K (.ref (ca K C)) "__class__" = some (some (.builtin "object.__class__")) ∧ PySem.W.specialIn K (.builtin "object.__class__") "__get__" = some (some (.builtin "getset_descriptor.__get__")) ∧ PySem.W.takesIn K (.builtin "object.__class__") = some true ∧ PySem.W.mroIn K (ca K C) (.type "object") = some true
  nft : ∀ t ∈ ["NoneType", "bool", "int", "str", "tuple", "list", "dict"], PySem.W.notFirst K (ca K C) (.type t) = true
  nfc : ∀ C', G.has C' = true → C'.isX = false → (decide (C' = C) || !C'.sub C) = true → PySem.W.notFirst K (ca K C) (.ref (ca K C')) = true
  neq : ∀ f, G.find C "__eq__" = some (.me f) → PySem.W.findIn K (.ref (ca K C)) "__ne__" = some (some (.builtin "object.__ne__"))
  ini : G.find C "__init__" = none → PySem.W.findIn K (.ref (ca K C)) "__init__" = some (some (.builtin "object.__init__"))
/-- all that is known: the defs, called k deep; the classes; the constants -/
structure Wld (G : Pg) (fa : Str → Addr) (cf : Nat → Cf) (k : Nat) (T : List (Addr × Str)) (P : Program) (w : World) (K : PySem.W.Frag) (mg : Str → Option Value) (base : Heap) (gfn : Str → Bool) : Prop where
  bi : Bi mg
  fns : ∀ x f, G.fn x = some f → FnX P w K T mg base k (fa x) f (fun b ds M => cf b x ds M)
  gf : ∀ x, gfn x = true → mg x = some (.ref (fa x))
  clsM : ∀ C m x, G.find C m = some x → ClX G fa K mg C
  clsF : ∀ C f, G.fld C f = true → ClX G fa K mg C
  con : ∀ x d, G.con x = some d → ∃ v u, mg x = some u ∧ RelV v u ∧ ∀ A H, Rp K A H v d
  isi : ∀ t c z, isB G t c = some z → PySem.W.kitOne K (tnV K t) (tnV K c) = some z
  clsO : ∀ C, G.has C = true → C.isX = false → ClX G fa K mg C
  exP : ∀ C, G.has C = true → C.plainX = true → Ex0 K mg C.nm (ca K C)
  exF : ∀ C fs, G.has C = true → C.fldX = some fs → ExI P K mg C.nm (ca K C) fs
  gcl : ∀ C, G.has C = true → mg C.nm = some (.ref (ca K C)) ∧ PySem.W.keepIn K (.ref (ca K C)) = true
  exk : ∀ C, G.has C = true → C.isX = true → ExK K (ca K C)
  isV : ∀ C, G.has C = true → C.isX = true → PySem.W.kitOne K (.ref (ca K C)) (.type "ValueError") = some true
  exm : ∀ C, G.has C = true → C.isX = true → G.has .RowError = true → PySem.W.exmOne K (.ref (ca K C)) (.ref (ca K .RowError)) = some true
/-- a body (or a block) that runs in it -/
structure Cxt (G : Pg) (fa : Str → Addr) (cf : Nat → Cf) (k : Nat) (T : List (Addr × Str)) (gfn : Str → Bool) (X : Cx) : Prop where
  calm : X.calm = true
  nd : X.N.Nodup
  gd : X.A.guards = some []
  room : Room (k + 2) X.A
  wl : Wld G fa cf k T X.prog X.w X.K X.mg X.base gfn
section
variable {G : Pg} {fa : Str → Addr} {cf : Nat → Cf} {k : Nat} {gfn : Str → Bool} {X : Cx} {T : List (Addr × Str)} {bs : List Nat} {W : WX} {g : Ga} {M : Me} {b : Nat} {e : Expr} {es : List Expr} {pos p : Pos} {x : Str} {rs : R (List D)} {rk : Me → R (List D)}
theorem callK_some {x : Str} {f : Fn} {ds kds : List D} {ks : List Str} (h : G.fn x = some f) : callK G (cf b) x ds ks kds M = (match bindF f ds ks kds with | some as => cf b x as M | none => .no) := by
  unfold callK
  rw [h] <;> rfl
/-- a def's call, its code found -/
theorem Cxt.call (c : Cxt G fa cf k T gfn X) (tk : Takes X W) (hbs : ∀ x ∈ bs, x ≤ b) {pins : List (Addr × Obj)} {s : Shared} {σ : L2.St} {H : Hp} {A : Ad} {Q : VK} {us ws : List Value} {vs zs : List V} {ds kds : List D} {ks : List Str}
    (I : Inv X pins σ H s) (S : Sta X.K T bs A M H σ g) (rv : Vals vs us) (rz : Vals zs ws) (pv : RpL X.K A H vs ds) (pz : RpL X.K A H zs kds) (hks : ws.length = ks.length)
    (q : kG X.K T bs W g (rE X.K) A H σ Q (callK G (cf b) x ds ks kds M)) : wpAny (model X.prog X.w) X.A (PySem.call (.ref (fa x)) us (ks.zip ws)) (EP X pins σ Q) X.xe s := by
  cases e : G.fn x with
  | none => unfold callK at q; rw [e] at q; exact q.no.elim
  | some f =>
    rw [callK_some e] at q
    exact call_own (c.wl.fns x f e) c.gd (c.room.mono (by omega)) tk hbs I S rv rz pv pz hks q
/-- the same at another place below the body -/
theorem Cxt.code (c : Cxt G fa cf k T gfn X) (tk : Takes X W) (hbs : ∀ x ∈ bs, x ≤ b) {pins : List (Addr × Obj)} {s : Shared} {σ : L2.St} {H : Hp} {A : Ad} {A' : Around} {Q : VK} {us : List Value} {vs : List V} {ds : List D} (hG : A'.guards = some []) (hr : Room k A') (e0 : Env0 X.prog X.w X.K X.mg X.base A' X.stack s H)
    (I : Inv X pins σ H s) (S : Sta X.K T bs A M H σ g) (rv : Vals vs us) (pv : RpL X.K A H vs ds)
    (q : kG X.K T bs W g (rE X.K) A H σ Q (callP G (cf b) x ds M)) : codeAny (model X.prog X.w) A' (.call (.ref (fa x)) ⟨us, []⟩) (CRes X pins σ Q) s := by
  unfold callP at q
  cases e : G.fn x with
  | none => unfold callK at q; rw [e] at q; exact q.no.elim
  | some f =>
    rw [callK_some e] at q
    have z := run_own (ws := []) (zs := []) (kds := []) (ks := []) (c.wl.fns x f e) hG hr e0 tk hbs I S rv .nil pv .nil rfl q
    exact z
theorem kG.noEx {W' : WX} {σ : L2.St} {H : Hp} {A : Ad} {Q : VK} {r : R D} (q : kG X.K T bs W g (rE X.K) A H σ Q (noEx r)) : kG X.K T bs W' g (rE X.K) A H σ Q r := by
  cases r with
  | ok d M => cases q with | ok h => exact .ok h
  | ex C fs M => exact q.no.elim
  | no => exact q.no.elim
theorem Cxt.code0 (c : Cxt G fa cf k T gfn X) (hbs : ∀ x ∈ bs, x ≤ b) {pins : List (Addr × Obj)} {s : Shared} {σ : L2.St} {H : Hp} {A : Ad} {A' : Around} {Q : VK} {us : List Value} {vs : List V} {ds : List D} (hG : A'.guards = some []) (hr : Room k A') (e0 : Env0 X.prog X.w X.K X.mg X.base A' X.stack s H)
    (I : Inv X pins σ H s) (S : Sta X.K T bs A M H σ g) (rv : Vals vs us) (pv : RpL X.K A H vs ds)
    (q : kG X.K T bs W g (rE X.K) A H σ Q (noEx (callP G (cf b) x ds M))) : codeAny (model X.prog X.w) A' (.call (.ref (fa x)) ⟨us, []⟩) (CRes0 X pins σ Q) s := by
  have q := kG.noEx (W' := fun _ _ _ _ => False) q
  unfold callP at q
  cases e : G.fn x with
  | none => unfold callK at q; rw [e] at q; exact q.no.elim
  | some f =>
    rw [callK_some e] at q
    exact run_own0 (c.wl.fns x f e) hG hr e0 hbs I S rv pv q
/-! keywords -/
abbrev JK (X : Cx) (T : List (Addr × Str)) (bs : List Nat) (W : WX) (g : Ga) (M : Me) (kws : List Keyword) (r : R (List D)) : Prop := PK X kws (tRA X.K T bs W g M r)
theorem jk_nil : JK X T bs W g M [] (.ok [] M) := ⟨fun pos pins s σ H Q I ⟨A, S, k⟩ => wpAny_evalAll_nil ⟨[], H, I, .nil, k.get S .nil⟩⟩
theorem jk_cons {re : R D} {rs : Me → R (List D)} {kws : List Keyword} {nm : Option Str} {kpos : Pos} (he : JE X T bs W g M e re) (hr : ∀ M1, JK X T bs W g M1 kws (rs M1)) : JK X T bs W g M (⟨nm, e, kpos⟩ :: kws) (re.bind fun d M1 => (rs M1).bind fun ds M2 => .ok (d :: ds) M2) := by
  refine ⟨fun pos pins s σ H Q I ⟨A, S, k⟩ => ?_⟩
  show wpAny _ _ (evalAll ((do let v ← eval e X.env; standAt pos; pure v) :: (backToKw pos (keywordEach kws X.env)).map (·.2))) _ _ s
  refine wpAny_evalAll_cons (wpAny_bind (thn (he.go I S k.bind) fun u s1 ⟨x, H1, I1, r1, d, M1, A1, _, c1, S1, p1, k1⟩ => wpAny_bind (wpAny_standAt (wpAny_pure ?_))))
  refine thn ((hr M1).run pos pins s1 σ H1 _ I1 ⟨A1, S1, k1.bind⟩) fun us s2 ⟨xs, H2, I2, r2, ds, M2, A2, _, c2, S2, p2, k2⟩ => ?_
  exact ⟨x :: xs, H2, I2, .cons r1 r2, k2.get S2 (.cons (p1.mono c2) p2)⟩
/-- no star among them -/
def NoStar (es : List Expr) : Prop := ∀ e ∈ es, ∀ a p, e ≠ .Starred a p
theorem star_cons {e : Expr} {es : List Expr} {env : PySem.Env} (h : NoStar (e :: es)) : starEach (e :: es) env = (false, eval e env) :: starEach es env := by
  cases e with
  | Starred a p => exact absurd rfl (h _ List.mem_cons_self a p)
  | _ => rfl
theorem NoStar.tail {e : Expr} {es : List Expr} (h : NoStar (e :: es)) : NoStar es := fun x hx => h x (List.mem_cons_of_mem _ hx)
theorem star_any {pos : Pos} {env : PySem.Env} : ∀ {es : List Expr}, NoStar es → (backTo pos (starEach es env)).any (·.1) = false
  | [], _ => rfl
  | e :: es, h => by
    rw [star_cons h]
    show (false || (backTo pos (starEach es env)).any (·.1)) = false
    rw [star_any h.tail]
    rfl
theorem kw_all {pos : Pos} {env : PySem.Env} : ∀ {kws : List Keyword} {ks : List Str}, kws.map (·.arg) = ks.map some → (backToKw pos (keywordEach kws env)).all (·.1.isSome) = true ∧ (backToKw pos (keywordEach kws env)).filterMap (·.1) = ks ∧ (backToKw pos (keywordEach kws env)).any (·.1.isNone) = false
  | [], [], _ => ⟨rfl, rfl, rfl⟩
  | [], _ :: _, h => by cases h
  | _ :: _, [], h => by cases h
  | ⟨nm, e, p⟩ :: kws, k :: ks, h => by
    rw [List.map_cons, List.map_cons] at h
    injection h with h1 h2
    dsimp only at h1
    subst h1
    obtain ⟨i1, i2, i3⟩ := kw_all (pos := pos) (env := env) h2
    refine ⟨?_, ?_, ?_⟩
    · show (true && (backToKw pos (keywordEach kws env)).all (·.1.isSome)) = true
      rw [i1]
      rfl
    · show k :: (backToKw pos (keywordEach kws env)).filterMap (·.1) = k :: ks
      rw [i2]
    · show (false || (backToKw pos (keywordEach kws env)).any (·.1.isNone)) = false
      rw [i3]
      rfl
/-- f(e, .., k = v, ..), f a def of the text -/
theorem je_call {ks : List Str} {kws : List Keyword} (c : Cxt G fa cf k T gfn X) (tk : Takes X W) (hbs : ∀ x ∈ bs, x ≤ b) (hg : Gl X x) (hgf : gfn x = true) (hfn : (G.fn x).isSome = true) (ha : JA X T bs W g M es rs) (hk : ∀ M1, JK X T bs W g M1 kws (rk M1)) (hs : NoStar es) (hks : kws.map (·.arg) = ks.map some) (hnil : es = [] → rs = .ok [] M) (hkl : ∀ M1 kds M2, rk M1 = .ok kds M2 → kds.length = ks.length)
    (hdb : (x == ("__debug__" : Str)) = false) : JE X T bs W g M (.Call (.Name x p) es kws pos) (rs.bind fun ds M1 => (rk M1).bind fun kds M2 => callK G (cf b) x ds ks kds M2) := by
  refine je fun pins s σ H A Q I S k => ?_
  obtain ⟨f, hf⟩ := Option.isSome_iff_exists.mp hfn
  have F := c.wl.fns x f hf
  obtain ⟨h1, h2, h3⟩ := kw_all (pos := pos) (env := X.env) hks
  refine wpAny_Call_Name_kw (ld_glob I hg (c.wl.gf x hgf) ?_ hdb)
  -- behind the arguments
  have fin : ∀ (us : List Value) (s1 : Shared), AP X pins σ (fun v H1 => ∃ a M1 A1, rs = .ok a M1 ∧ Ch A H A1 H1 ∧ Sta X.K T bs A1 M1 H1 σ g ∧ rA X.K A1 H1 v a ∧ kG X.K T bs W g (rE X.K) A1 H1 σ Q ((rk M1).bind fun kds M2 => callK G (cf b) x a ks kds M2)) us s1 →
      wpAny (model X.prog X.w) X.A (evalAll ((backToKw pos (keywordEach kws X.env)).map (·.2))) (fun ks' s2 => X.K.In s2.heap ∧ wpAny (model X.prog X.w) X.A (PySem.call (.ref (fa x)) us (((backToKw pos (keywordEach kws X.env)).filterMap (·.1)).zip ks')) (EP X pins σ Q) X.xe s2) X.xe s1 := by
    rintro us s1 ⟨vs, H1, I1, rv, ds, M1, A1, _, c1, S1, p1, k1⟩
    refine thn ((hk M1).run pos pins s1 σ H1 _ I1 ⟨A1, S1, k1.bind⟩) fun ws s2 ⟨zs, H2, I2, rz, kds, M2, A2, e2, c2, S2, p2, k2⟩ => ⟨I2.kIn, ?_⟩
    rw [h2]
    exact c.call tk hbs I2 S2 rv rz (p1.mono c2) p2 (by rw [← rz.length, p2.length]; exact hkl _ _ _ e2) k2
  cases es with
  | nil =>
    have e := hnil rfl
    subst e
    exact PySem.W.callWith_KW0 (h₀ := X.base) (first := []) I.ok.mod.kin F.kp h1 (fin [] s ⟨[], H, I, .nil, [], M, A, rfl, Ch.refl, S, .nil, k⟩) (by rw [h3]; rfl)
  | cons e es =>
    have z := ha.go (pos := pos) I S k.bind
    exact PySem.W.callWith_KW (h₀ := X.base) (first := []) I.ok.mod.kin F.kp h1 (thn z fun us s1 h => fin us s1 h) (by rw [star_any hs, h3]; rfl) (star_cons hs)
end
end Iv
namespace Iv
open PySem PySem.Spec PyProof.Rows L2 LamX
/-! ## where things stand -/
section
variable {K : PySem.W.Frag} {T : List (Addr × Str)} {bs : List Nat} {A : Ad} {M : Me} {H : Hp} {σ : L2.St} {g : Ga} {v : V} {d : D}
theorem Sta.celAt (S : Sta K T bs A M H σ g) {k : Nat} {c : Ce} (h : M[k]? = some c) (r : Rp K A H v (.cel k)) : ∃ a, v = .ref a ∧ A.as[k]? = some a ∧ CeOk K A H a c := by
  cases r with
  | cel ha =>
    obtain ⟨a, hb, q⟩ := S.cell k c h
    rw [ha] at hb
    cases hb
    exact ⟨_, rfl, ha, q⟩
theorem ov_at (S : Sta K T bs A M H σ g) (r : Rp K A H v d) {C : Cn} {fds : List (Str × D)} (h : ov M d = some (C, fds)) : ∃ a dx fs, v = .ref a ∧ H a = some (.ins (ca K C) dx fs) ∧ RpF K A H fs fds := by
  cases d with
  | obj C2 f2 =>
    cases h
    cases r with
    | obj _ h q => exact ⟨_, _, _, rfl, h, q⟩
  | cel k =>
    unfold ov at h
    cases e : M[k]? with
    | none => simp only [e] at h; cases h
    | some c =>
      simp only [e] at h
      obtain ⟨a, rfl, ha, q⟩ := S.celAt e r
      cases q with
      | obj h1 h2 => cases h; exact ⟨_, _, _, rfl, h1, h2⟩
      | _ => cases h
  | _ => cases h
theorem RpL.of_ints : ∀ {ns : List Int}, RpL K A H (ns.map V.int) (ns.map D.int)
  | [] => .nil
  | _ :: _ => .cons .int RpL.of_ints
theorem Rp.scrAt {ns : List Int} (r : Rp K A H v (.scr ns)) : ∃ a, v = .ref a ∧ SqL K H a (ns.map V.int) := by
  cases r with
  | scr _ h => exact ⟨_, rfl, .inl h⟩
  | scrW h => exact ⟨_, rfl, h H⟩
theorem lv_at (S : Sta K T bs A M H σ g) (r : Rp K A H v d) {ds : List D} (h : lv M d = some ds) : ∃ a vs, v = .ref a ∧ SqL K H a vs ∧ RpL K A H vs ds := by
  cases d with
  | lst d2 =>
    cases h
    cases r with
    | lst _ h q => exact ⟨_, _, rfl, SqL.of h, q⟩
  | scr ns =>
    cases h
    obtain ⟨a, rfl, h⟩ := r.scrAt
    exact ⟨a, _, rfl, h, RpL.of_ints⟩
  | cel k =>
    unfold lv at h
    cases e : M[k]? with
    | none => simp only [e] at h; cases h
    | some c =>
      simp only [e] at h
      obtain ⟨a, rfl, ha, q⟩ := S.celAt e r
      cases q with
      | lst h1 h2 => cases h; exact ⟨_, _, rfl, SqL.of h1, h2⟩
      | _ => cases h
  | _ => cases h
theorem Rp.tupAt {ds : List D} (r : Rp K A H v (.tup ds)) : ∃ a vs, v = .ref a ∧ SqT K H a vs ∧ RpL K A H vs ds := by
  cases r with
  | tup _ h q => exact ⟨_, _, rfl, SqT.of h, q⟩
  | tupW h q => exact ⟨_, _, rfl, h H, q⟩
theorem dv_at (S : Sta K T bs A M H σ g) (r : Rp K A H v d) {kds : List (Key × D)} (h : dv M d = some kds) : ∃ a kvs, v = .ref a ∧ Rd H a (.dK kvs) ∧ RpK K A H kvs kds := by
  cases d with
  | dct d2 =>
    cases h
    cases r with
    | dct _ h q => exact ⟨_, _, rfl, h, q⟩
  | cel k =>
    unfold dv at h
    cases e : M[k]? with
    | none => simp only [e] at h; cases h
    | some c =>
      simp only [e] at h
      obtain ⟨a, rfl, ha, q⟩ := S.celAt e r
      cases q with
      | dct h1 h2 => cases h; exact ⟨_, _, rfl, .inl h1, h2⟩
      | dfz h1 h2 => cases h; exact ⟨_, _, rfl, .inr ⟨_, h1⟩, h2⟩
      | _ => cases h
  | _ => cases h
theorem RpF.lookup {f : Str} : ∀ {vs : List (Str × V)} {ds : List (Str × D)} {d : D}, RpF K A H vs ds → ds.lookup f = some d → ∃ v, vs.lookup f = some v ∧ Rp K A H v d
  | _, _, _, .nil, e => by cases e
  | (k, v) :: vs, (_, d') :: ds, d, .cons r t, e => by
    rw [List.lookup_cons] at e ⊢
    cases q : f == k with
    | true =>
      rw [q] at e
      cases e
      exact ⟨v, rfl, r⟩
    | false =>
      rw [q] at e
      exact RpF.lookup t e
theorem RpF.lookupN {f : Str} : ∀ {vs : List (Str × V)} {ds : List (Str × D)}, RpF K A H vs ds → ds.lookup f = none → vs.lookup f = none
  | _, _, .nil, _ => rfl
  | (k, v) :: vs, (_, d') :: ds, .cons r t, e => by
    rw [List.lookup_cons] at e ⊢
    cases q : f == k with
    | true =>
      rw [q] at e
      cases e
    | false =>
      rw [q] at e
      exact RpF.lookupN t e
theorem isEmpty_L {vs : List V} {ds : List D} (r : RpL K A H vs ds) : vs.isEmpty = ds.isEmpty := by
  cases r <;> rfl
theorem isEmpty_K {vs : List (Key × V)} {ds : List (Key × D)} (r : RpK K A H vs ds) : vs.isEmpty = ds.isEmpty := by
  cases r <;> rfl
theorem tru_at (S : Sta K T bs A M H σ g) (r : Rp K A H v d) {z : Bool} (h : tru M d = some z) : TruV K v H z := by
  have lst : ∀ {ds : List D}, lv M d = some ds → z = (!ds.isEmpty) → TruV K v H z := fun {ds} e hz => by
    obtain ⟨a, vs, rfl, h1, h2⟩ := lv_at S r e
    exact .inl ⟨vs, h1, by rw [isEmpty_L h2]; exact hz⟩
  cases d with
  | non => cases r; cases h; rfl
  | bl b => cases r; cases h; rfl
  | int i => cases r; cases h; rfl
  | str x =>
    cases r
    unfold tru at h
    dsimp only at h
    by_cases hc : x.length ≤ 100000
    · rw [if_pos hc] at h
      cases h
      refine ⟨sz_of hc, ?_⟩
      cases e : x.length with
      | zero => rfl
      | succ n => simp; omega
    · rw [if_neg hc] at h
      cases h
  | tup ds =>
    cases h
    obtain ⟨a, vs, rfl, h1, h2⟩ := r.tupAt
    exact .inr (.inl ⟨vs, h1, by rw [isEmpty_L h2]⟩)
  | lst ds => exact lst rfl (by cases h; rfl)
  | scr ns => exact lst rfl (by cases h; rfl)
  | cel k =>
    unfold tru lv at h
    dsimp only at h
    cases e : M[k]? with
    | none => simp only [e] at h; cases h
    | some c =>
      simp only [e] at h
      cases c with
      | lst ds => exact lst (ds := ds) (by unfold lv; simp only [e]) (by cases h; rfl)
      | dct kvs =>
        cases h
        obtain ⟨a, rfl, ha, q⟩ := S.celAt e r
        cases q with
        | dct h1 h2 => exact .inr (.inr ⟨_, h1, by rw [isEmpty_K h2]⟩)
      | dfz kvs => cases h
      | obj C fs => cases h
  | _ => cases h
end
/-! ## truth, and, or, not, if -/
section
variable {X : Cx} {T : List (Addr × Str)} {bs : List Nat} {W : WX} {g : Ga} {M : Me} {a b c : Expr} {rest : List Expr} {ra : R D} {rb : Me → R D} {rt : R Bool} {ru : Me → R Bool} {pos : Pos}
abbrev JW (X : Cx) (T : List (Addr × Str)) (bs : List Nat) (W : WX) (g : Ga) (M : Me) (e : Expr) (r : R Bool) : Prop := PW X e (tRT X.K T bs W g M r)
theorem JT.go {e : Expr} {pins : List (Addr × Obj)} {s : Shared} {σ : L2.St} {H : Hp} {A : Ad} {Q : Bool → Hp → Prop} (h : JT X T bs W g M e rt) (I : Inv X pins σ H s) (S : Sta X.K T bs A M H σ g) (k : kG X.K T bs W g (fun _ _ => Eq) A H σ Q rt) : wpAny (model X.prog X.w) X.A (isTrue e X.env (eval e X.env)) (TP X pins σ Q) X.xe s :=
  h.run pins s σ H Q I ⟨A, S, k⟩
/-- the truth of a value -/
theorem tru_go {pins : List (Addr × Obj)} {s : Shared} {σ : L2.St} {H : Hp} {A : Ad} {v : V} {u : Value} {d : D} {z : Bool} (I : Inv X pins σ H s) (S : Sta X.K T bs A M H σ g) (r : Rp X.K A H v d) (ru : RelV v u) (h : tru M d = some z) {Q : Bool → Shared → Prop} (q : ∀ s', Inv X pins σ H s' → Q z s') :
    wpAny (model X.prog X.w) X.A (truthy u) Q X.xe s := by
  refine thn (tru_ok pins s σ H v u (fun c H2 => c = z ∧ H2 = H) I ru ⟨z, tru_at S r h, rfl, rfl⟩) fun c s2 ⟨H2, I2, e1, e2⟩ => ?_
  subst e1 e2
  exact q s2 I2
theorem je_and (ha : JE X T bs W g M a ra) (hb : ∀ M1, JE X T bs W g M1 (.BoolOp .And (b :: rest) pos) (rb M1)) : JE X T bs W g M (.BoolOp .And (a :: b :: rest) pos) (ra.bind fun d M1 => match tru M1 d with | some true => rb M1 | some false => .ok d M1 | none => .no) := je fun pins s σ H A Q I S k => by
  refine BoolOp_and (thn (ha.go I S k.bind) fun v s1 ⟨x, H1, I1, r1, d, M1, A1, _, c1, S1, p1, k1⟩ => ?_)
  cases e : tru M1 d with
  | none => rw [e] at k1; exact k1.no.elim
  | some z =>
    rw [e] at k1
    refine tru_go I1 S1 p1 r1 e fun s2 I2 => ?_
    cases z with
    | true => exact (hb M1).go I2 S1 k1
    | false => exact ⟨x, H1, I2, r1, k1.get S1 p1⟩
theorem je_or (ha : JE X T bs W g M a ra) (hb : ∀ M1, JE X T bs W g M1 (.BoolOp .Or (b :: rest) pos) (rb M1)) : JE X T bs W g M (.BoolOp .Or (a :: b :: rest) pos) (ra.bind fun d M1 => match tru M1 d with | some true => .ok d M1 | some false => rb M1 | none => .no) := je fun pins s σ H A Q I S k => by
  refine BoolOp_or (thn (ha.go I S k.bind) fun v s1 ⟨x, H1, I1, r1, d, M1, A1, _, c1, S1, p1, k1⟩ => ?_)
  cases e : tru M1 d with
  | none => rw [e] at k1; exact k1.no.elim
  | some z =>
    rw [e] at k1
    refine tru_go I1 S1 p1 r1 e fun s2 I2 => ?_
    cases z with
    | false => exact (hb M1).go I2 S1 k1
    | true => exact ⟨x, H1, I2, r1, k1.get S1 p1⟩
theorem je_one {op : BoolOp} {r : R D} (h : JE X T bs W g M a r) : JE X T bs W g M (.BoolOp op [a] pos) r := pe_one h
theorem je_not (ha : JE X T bs W g M a ra) : JE X T bs W g M (.UnaryOp .Not a pos) (ra.bind fun d M1 => R.of M1 ((tru M1 d).map fun z => .bl (!z))) := je fun pins s σ H A Q I S k => by
  refine UnaryOp_ (thn (ha.go I S k.bind) fun v s1 ⟨x, H1, I1, r1, d, M1, A1, _, c1, S1, p1, k1⟩ => ?_)
  cases e : tru M1 d with
  | none => rw [e] at k1; exact k1.no.elim
  | some z =>
    rw [e] at k1
    exact not_of (tru_go I1 S1 p1 r1 e fun s2 I2 => ⟨.bl (!z), H1, I2, rfl, k1.get S1 .bl⟩)
theorem je_ite (hc : JT X T bs W g M c rt) (ha : ∀ M1, JE X T bs W g M1 a (rb M1)) {rb' : Me → R D} (hb : ∀ M1, JE X T bs W g M1 b (rb' M1)) : JE X T bs W g M (.IfExp c a b pos) (rt.bind fun z M1 => if z = true then rb M1 else rb' M1) := je fun pins s σ H A Q I S k => by
  refine wpAny_IfExp (thn (hc.go I S k.bind) fun d s1 ⟨H1, I1, z, M1, A1, _, c1, S1, e1, k1⟩ => ?_)
  subst e1
  cases d with
  | true => exact (ha M1).go I1 S1 (by simpa using k1)
  | false => exact (hb M1).go I1 S1 (by simpa using k1)
/-! tests -/
theorem jt_plain (ha : JE X T bs W g M a ra) (he : ∀ whole, isTrue a X.env whole = (do let v ← whole; standAt a.pos; holding [v] (truthy v))) : JT X T bs W g M a (ra.bind fun d M1 => R.of M1 (tru M1 d)) := ⟨fun pins s σ H Q I ⟨A, S, k⟩ => by
  refine isTrue_plain (thn (ha.go I S k.bind) fun v s1 ⟨x, H1, I1, r1, d, M1, A1, _, c1, S1, p1, k1⟩ => ?_) (he _)
  cases e : tru M1 d with
  | none => rw [e] at k1; exact k1.no.elim
  | some z =>
    rw [e] at k1
    exact tru_go I1 S1 p1 r1 e fun s2 I2 => ⟨H1, I2, k1.get S1 rfl⟩⟩
theorem jt_not (ha : JT X T bs W g M a rt) : JT X T bs W g M (.UnaryOp .Not a pos) (rt.bind fun z M1 => .ok (!z) M1) := ⟨fun pins s σ H Q I ⟨A, S, k⟩ => by
  refine isTrue_not (thn (ha.go I S k.bind) fun z s1 ⟨H1, I1, z', M1, A1, _, c1, S1, e1, k1⟩ => ?_)
  subst e1
  exact ⟨H1, I1, k1.get S1 rfl⟩⟩
theorem jw_and1 (ha : JT X T bs W g M a rt) : JW X T bs W g M (.BoolOp .And [a] pos) rt := pw_and1 ha
theorem jw_or1 (ha : JT X T bs W g M a rt) : JW X T bs W g M (.BoolOp .Or [a] pos) rt := pw_or1 ha
theorem jw_and (ha : JT X T bs W g M a rt) (hb : ∀ M1, JW X T bs W g M1 (.BoolOp .And (b :: rest) pos) (ru M1)) : JW X T bs W g M (.BoolOp .And (a :: b :: rest) pos) (rt.bind fun z M1 => if z = true then ru M1 else .ok false M1) := ⟨fun wh pins s σ H Q I ⟨A, S, k⟩ => by
  refine isTrue_and (thn (ha.go I S k.bind) fun z s1 ⟨H1, I1, z', M1, A1, _, c1, S1, e1, k1⟩ => ?_)
  subst e1
  cases z with
  | true => exact (hb M1).run wh pins s1 σ H1 Q I1 ⟨A1, S1, by simpa using k1⟩
  | false =>
    rw [if_neg Bool.false_ne_true] at k1
    exact ⟨H1, I1, k1.get S1 rfl⟩⟩
theorem jw_or (ha : JT X T bs W g M a rt) (hb : ∀ M1, JW X T bs W g M1 (.BoolOp .Or (b :: rest) pos) (ru M1)) : JW X T bs W g M (.BoolOp .Or (a :: b :: rest) pos) (rt.bind fun z M1 => if z = true then .ok true M1 else ru M1) := ⟨fun wh pins s σ H Q I ⟨A, S, k⟩ => by
  refine isTrue_or (thn (ha.go I S k.bind) fun z s1 ⟨H1, I1, z', M1, A1, _, c1, S1, e1, k1⟩ => ?_)
  subst e1
  cases z with
  | false => exact (hb M1).run wh pins s1 σ H1 Q I1 ⟨A1, S1, by simpa using k1⟩
  | true =>
    rw [if_pos rfl] at k1
    exact ⟨H1, I1, k1.get S1 rfl⟩⟩
theorem jt_cmp {op : CmpOp} {f : D → D → Me → R Bool} (ha : JE X T bs W g M a ra) (hb : ∀ M1, JE X T bs W g M1 b (rb M1)) (ho : ∀ d1 d2 M2, Op2 X T bs W (compareOp op) d1 d2 M2 ((f d1 d2 M2).bind fun z M => .ok (.bl z) M)) (hm : behindInMarks op b = false) :
    JT X T bs W g M (.Compare a [op] [b] pos) (ra.bind fun d1 M1 => (rb M1).bind fun d2 M2 => f d1 d2 M2) := ⟨fun pins s σ H Q I ⟨A, S, k⟩ => by
  refine wpAny_isTrue_Compare1 (thn (ha.go I S k.bind) fun v s1 ⟨x, H1, I1, r1, d1, M1, A1, _, c1, S1, p1, k1⟩ => thn ((hb M1).go I1 S1 k1.bind) fun u s2 ⟨y, H2, I2, r2, d2, M2, A2, _, c2, S2, p2, k2⟩ => ?_) hm
  have k3 : kG X.K T bs W g (rE X.K) A2 H2 σ (fun v H3 => ∃ z, v = .bl z ∧ Q z H3) ((f d1 d2 M2).bind fun z M => .ok (.bl z) M) := by
    cases e : f d1 d2 M2 with
    | ok z M3 =>
      rw [e] at k2
      refine .ok fun A3 v3 H3 c3 S3 r3 => ?_
      cases r3
      exact ⟨z, rfl, k2.get' c3 S3 rfl⟩
    | ex C fs M3 =>
      rw [e] at k2
      cases k2 with
      | ex h => exact .ex h
    | no => rw [e] at k2; exact k2.no.elim
  refine thn (ho d1 d2 M2 pins s2 σ g H2 A2 x y v u _ I2 S2 (p1.mono c2) p2 r1 r2 k3) fun w3 s3 ⟨v3, H3, I3, r3, z, ez, q⟩ => ?_
  subst ez
  cases r3
  exact wpAny_truthy_bool ⟨H3, I3, q⟩⟩
/-! a chain -/
def cmpB (r : R Bool) : R D := r.bind fun z M => .ok (.bl z) M
theorem je_chn {op op' : CmpOp} {rc : Me → R D} {f f' : D → D → Me → R Bool} (ha : JE X T bs W g M a ra) (hb : ∀ M1, JE X T bs W g M1 b (rb M1)) (hc : ∀ M1, JE X T bs W g M1 c (rc M1)) (ho : ∀ d1 d2 M2, Op2 X T bs W (compareOp op) d1 d2 M2 (cmpB (f d1 d2 M2))) (ho' : ∀ d1 d2 M2, Op2 X T bs W (compareOp op') d1 d2 M2 (cmpB (f' d1 d2 M2))) (hm : lastMarks [op, op'] [b, c] = false) :
    JE X T bs W g M (.Compare a [op, op'] [b, c] pos) (ra.bind fun d1 M1 => (rb M1).bind fun d2 M2 => (f d1 d2 M2).bind fun z M3 => if z = true then (rc M3).bind fun d3 M4 => cmpB (f' d2 d3 M4) else .ok (.bl false) M3) := je fun pins s σ H A Q I S k => by
  refine Compare_chain (thn (ha.go I S k.bind) fun v s1 ⟨x, H1, I1, r1, d1, M1, A1, _, c1, S1, p1, k1⟩ => chain_link (thn ((hb M1).go I1 S1 k1.bind) fun u s2 ⟨y, H2, I2, r2, d2, M2, A2, _, c2, S2, p2, k2⟩ => ?_)) hm
  have k3 : kG X.K T bs W g (rE X.K) A2 H2 σ (fun v H3 => ∃ z M3 A3, v = .bl z ∧ Ch A2 H2 A3 H3 ∧ Sta X.K T bs A3 M3 H3 σ g ∧ kG X.K T bs W g (rE X.K) A3 H3 σ Q (if z = true then (rc M3).bind fun d3 M4 => cmpB (f' d2 d3 M4) else .ok (.bl false) M3)) (cmpB (f d1 d2 M2)) := by
    unfold cmpB
    cases e : f d1 d2 M2 with
    | ok z M3 =>
      rw [e] at k2
      refine .ok fun A3 v3 H3 c3 S3 r3 => ?_
      cases r3
      exact ⟨z, M3, A3, rfl, c3, S3, kG.mono c3 k2⟩
    | ex C fs M3 =>
      rw [e] at k2
      cases k2 with
      | ex h => exact .ex h
    | no => rw [e] at k2; exact k2.no.elim
  refine thn (ho d1 d2 M2 pins s2 σ g H2 A2 x y v u _ I2 S2 (p1.mono c2) p2 r1 r2 k3) fun w3 s3 ⟨v3, H3, I3, r3, z, M3, A3, ez, c3, S3, k4⟩ => ?_
  subst ez
  cases r3
  refine wpAny_truthy_bool ?_
  cases z with
  | false =>
    rw [if_neg Bool.false_ne_true] at k4
    exact ite_ff ⟨.bl false, H3, I3, rfl, k4.get S3 .bl⟩
  | true =>
    rw [if_pos rfl] at k4
    exact ite_tt (chain_last (thn ((hc M3).go I3 S3 k4.bind) fun w' s4 ⟨z', H4, I4, r4, d3, M4, A4, _, c4, S4, p4, k5⟩ => ho' d2 d3 M4 pins s4 σ g H4 A4 y z' u w' Q I4 S4 ((p2.mono c3).mono c4) p4 r2 r4 k5))
/-- the cells made are gone -/
theorem je_frz {r : R D} (h : JE X T (M.length :: bs) W g M a r) : JE X T bs W g M a (trunc M.length r) := je fun pins s σ H A Q I S k => h.go I S.enter (k.trunc S)
end
end Iv
namespace Iv
open PySem PySem.Spec PyProof.Rows L2 LamX
section
variable {X : Cx} {T : List (Addr × Str)} {bs : List Nat} {W : WX} {M : Me} {d d1 d2 : D} {f : Value → Value → Sem Value} {r : R D}
theorem op2_of {q : R2} (ho : OpR X f q) (h : ∀ (σ : L2.St) (g : Ga) (H : Hp) (A : Ad) (v1 v2 : V) (Q : VK), Sta X.K T bs A M H σ g → Rp X.K A H v1 d1 → Rp X.K A H v2 d2 → kG X.K T bs W g (rE X.K) A H σ Q r → q v1 v2 H Q) : Op2 X T bs W f d1 d2 M r :=
  fun pins s σ g H A v1 v2 u1 u2 Q I S p1 p2 r1 r2 k => ho pins s σ H v1 v2 u1 u2 Q I r1 r2 (h σ g H A v1 v2 Q S p1 p2 k)
theorem op2_no : Op2 X T bs W f d1 d2 M .no := fun _ _ _ _ _ _ _ _ _ _ _ _ _ _ _ _ _ k => k.no.elim
theorem op1_no {f : Value → Sem Value} : Op1 X T bs W f d1 M .no := fun _ _ _ _ _ _ _ _ _ _ _ _ _ k => k.no.elim
theorem opN_no {f : List Value → Sem Value} {ds : List D} : OpN X T bs W f ds M .no := fun _ _ _ _ _ _ _ _ _ _ _ _ _ k => k.no.elim
/-! ### ints -/
theorem op_fdivX : OpR X (binaryOp .FloorDiv) (rI (fun _ j => j ≠ 0 ∧ j.natAbs.log2 < 9000) fun i j => .int (i.fdiv j)) := opI fun i j _ _ _ _ _ hc q =>
  floordiv_int hc.1 q (.inl (PyProof.noPylong_of_log2 hc.2))
theorem o2_I {C : Int → Int → Prop} {g : Int → Int → Int} {i j : Int} (ho : OpR X f (rI C fun i j => .int (g i j))) (hc : C i j) : Op2 X T bs W f (.int i) (.int j) M (.ok (.int (g i j)) M) := op2_of ho fun σ g H A v1 v2 Q S p1 p2 k => by
  cases p1
  cases p2
  exact ⟨i, j, rfl, rfl, hc, k.get S .int⟩
theorem o2_I0 {g : Int → Int → Int} {i j : Int} (ho : OpR X f (rI0 fun i j => .int (g i j))) : Op2 X T bs W f (.int i) (.int j) M (.ok (.int (g i j)) M) := op2_of ho fun σ g H A v1 v2 Q S p1 p2 k => by
  cases p1
  cases p2
  exact ⟨i, j, rfl, rfl, k.get S .int⟩
theorem o2_B0 {g : Int → Int → Bool} {i j : Int} (ho : OpR X f (rI0 fun i j => .bl (g i j))) : Op2 X T bs W f (.int i) (.int j) M (.ok (.bl (g i j)) M) := op2_of ho fun σ g H A v1 v2 Q S p1 p2 k => by
  cases p1
  cases p2
  exact ⟨i, j, rfl, rfl, k.get S .bl⟩
theorem lt64 {i : Int} (h : i.natAbs < 18446744073709551616) : -(2 ^ 64) < i ∧ i < 2 ^ 64 := by
  have e : (2 : Int) ^ 64 = 18446744073709551616 := by decide
  rw [e]
  omega
theorem b_int {op : Operator} {i j : Int} : Op2 X T bs W (binaryOp op) (.int i) (.int j) M (R.of M ((binI op i j).map .int)) := by
  cases op with
  | Add => exact o2_I0 op_add
  | Sub => exact o2_I0 op_sub
  | Mult =>
    unfold binI
    dsimp only
    by_cases hc : wideI i j = true
    · rw [if_pos hc]
      unfold wideI at hc
      rw [Bool.or_eq_true, Bool.or_eq_true, Bool.and_eq_true, decide_eq_true_eq, decide_eq_true_eq, decide_eq_true_eq, decide_eq_true_eq] at hc
      rcases hc with (hc | hc) | hc
      · exact o2_I op_mul (.inl (lt64 hc))
      · exact o2_I op_mul (.inr (lt64 hc))
      · refine o2_I op_mulW ?_
        unfold CMulW
        omega
    · rw [if_neg hc]
      exact op2_no
  | Mod =>
    unfold binI
    dsimp only
    by_cases hc : 0 < j
    · rw [if_pos hc]
      exact o2_I op_mod hc
    · rw [if_neg hc]
      exact op2_no
  | FloorDiv =>
    unfold binI
    dsimp only
    by_cases hc : j ≠ 0 ∧ j.natAbs.log2 < 4000
    · rw [if_pos hc]
      exact o2_I op_fdivX ⟨hc.1, by omega⟩
    · rw [if_neg hc]
      exact op2_no
  | Pow =>
    unfold binI
    dsimp only
    by_cases hc : 0 ≤ j ∧ j ≤ 100000 ∧ i.natAbs < 18446744073709551616
    · rw [if_pos hc]
      refine o2_I op_pow ⟨hc.1, by omega, ?_⟩
      have e : (2 : Nat) ^ 64 = 18446744073709551616 := by decide
      rw [e]
      exact hc.2.2
    · rw [if_neg hc]
      exact op2_no
  | _ => exact op2_no
theorem b_str {x y : Str} : Op2 X T bs W (binaryOp .Add) (.str x) (.str y) M (if x.length + y.length ≤ maxL then .ok (.str (x ++ y)) M else .no) := by
  by_cases hc : x.length + y.length ≤ maxL
  · rw [if_pos hc]
    refine op2_of op_add_str fun σ g H A v1 v2 Q S p1 p2 k => ?_
    cases p1
    cases p2
    exact ⟨x, y, rfl, rfl, sz_of hc, k.get S .str⟩
  · rw [if_neg hc]
    exact op2_no
theorem RpL.append {K : PySem.W.Frag} {A : Ad} {H : Hp} : ∀ {vs ws : List V} {ds es : List D}, RpL K A H vs ds → RpL K A H ws es → RpL K A H (vs ++ ws) (ds ++ es)
  | _, _, _, _, .nil, s => s
  | _, _, _, _, .cons r t, s => .cons r (RpL.append t s)
/-- a new list that is a datum -/
theorem kG.newL {σ : L2.St} {g : Ga} {H : Hp} {A : Ad} {Q : VK} {ds : List D} {vs : List V} {p : Addr} (S : Sta X.K T bs A M H σ g) (hp : H p = none) (rl : RpL X.K A H vs ds) (k : kG X.K T bs W g (rE X.K) A H σ Q (.ok (.lst ds) M)) : Q (.ref p) (upd H p (.lst vs)) :=
  k.get' (Ch.laid hp) (S.laid hp) (.lst (S.fresh hp) upd_same (rl.mono (Ch.laid hp)))
/-- .. that is a cell -/
theorem kG.newC {σ : L2.St} {g : Ga} {H : Hp} {A : Ad} {Q : VK} {ds : List D} {vs : List V} {p : Addr} (S : Sta X.K T bs A M H σ g) (hp : H p = none) (rl : RpL X.K A H vs ds) (k : kG X.K T bs W g (rE X.K) A H σ Q (.ok (.cel M.length) (M ++ [.lst ds]))) : Q (.ref p) (upd H p (.lst vs)) :=
  k.get' (Ch.cell hp) (S.newCell hp (.lst upd_same (rl.mono (Ch.cell hp)))) (.cel (by show (A.as ++ [p])[_]? = _; rw [← S.alen, List.getElem?_append_right (Nat.le_refl _), Nat.sub_self]; rfl))
theorem b_cat0 : True := trivial
end
end Iv
namespace Iv
open PySem PySem.Spec PyProof.Rows L2 LamX
/-! ### data as PyData -/
section
variable {K : PySem.W.Frag} {T : List (Addr × Str)} {bs : List Nat} {A : Ad} {M : Me} {H : Hp} {σ : L2.St} {g : Ga}
theorem dpAll_ints : ∀ ns : List Int, DpAll K H (ns.map V.int) (ns.map .int)
  | [] => .nil
  | n :: ns => .cons (.int n) (dpAll_ints ns)
mutual
theorem Rp.dp : ∀ {d : D} {v : V} {q : PyData}, pd d = some q → Rp K A H v d → Dp K H v q
  | .non, _, _, e, r => by
    cases r
    cases e
    exact .non
  | .bl b, _, _, e, r => by
    cases r
    cases e
    exact .bl b
  | .int i, _, _, e, r => by
    cases r
    cases e
    exact .int i
  | .str x, _, _, e, r => by
    cases r
    cases e
    exact .str x
  | .tup ds, v, q, e, r => by
    obtain ⟨a, vs, rfl, h1, h2⟩ := r.tupAt
    unfold pd at e
    obtain ⟨qs, e1, rfl⟩ := opm e
    exact .tup h1 (RpL.dp e1 h2)
  | .lst ds, v, q, e, r => by
    obtain ⟨a, vs, rfl, h1, h2⟩ : ∃ a vs, v = .ref a ∧ SqL K H a vs ∧ RpL K A H vs ds := by
      cases r with
      | lst n h r => exact ⟨_, _, rfl, SqL.of h, r⟩
    unfold pd at e
    obtain ⟨qs, e1, rfl⟩ := opm e
    exact .lst h1 (RpL.dp e1 h2)
  | .scr ns, v, q, e, r => by
    obtain ⟨a, rfl, h1⟩ := r.scrAt
    cases e
    exact .lst h1 (dpAll_ints ns)
  | .byt _, _, _, e, _ => by cases e
  | .ty _, _, _, e, _ => by cases e
  | .cl _, _, _, e, _ => by cases e
  | .fn _, _, _, e, _ => by cases e
  | .dct _, _, _, e, _ => by cases e
  | .obj _ _, _, _, e, _ => by cases e
  | .exc _ _, _, _, e, _ => by cases e
  | .hot _ _ _, _, _, e, _ => by cases e
  | .cel _, _, _, e, _ => by cases e
theorem RpL.dp : ∀ {ds : List D} {vs : List V} {qs : List PyData}, pdL ds = some qs → RpL K A H vs ds → DpAll K H vs qs
  | [], _, _, e, r => by
    cases r
    cases e
    exact .nil
  | d :: ds, _, qs, e, r => by
    cases r with
    | cons r1 r2 =>
      unfold pdL at e
      cases e1 : pd d with
      | none => rw [e1] at e; cases e
      | some q1 =>
        cases e2 : pdL ds with
        | none => rw [e1, e2] at e; cases e
        | some q2 =>
          rw [e1, e2] at e
          cases e
          exact .cons (Rp.dp e1 r1) (RpL.dp e2 r2)
end
theorem pdM_at {d : D} {v : V} {q : PyData} (S : Sta K T bs A M H σ g) (r : Rp K A H v d) (e : pdM M d = some q) : Dp K H v q := by
  cases d with
  | cel k =>
    unfold pdM at e
    dsimp only at e
    cases em : M[k]? with
    | none => simp only [em] at e; cases e
    | some c =>
      simp only [em] at e
      obtain ⟨a, rfl, ha, q⟩ := S.celAt em r
      cases q with
      | lst h1 h2 =>
        obtain ⟨qs, e1, rfl⟩ := opm e
        exact .lst (SqL.of h1) (RpL.dp e1 h2)
      | _ => cases e
  | _ => exact Rp.dp e r
theorem flat_at {d : D} {v : V} (h : flatD d = true) (r : Rp K A H v d) : flatV v = true := by
  cases r <;> first | rfl | cases h
theorem flat_all : ∀ {vs : List V} {ds : List D}, RpL K A H vs ds → ds.all flatD = true → vs.all flatV = true
  | _, _, .nil, _ => rfl
  | _, _, .cons r t, h => by
    rw [List.all_cons, Bool.and_eq_true] at h ⊢
    exact ⟨flat_at h.1 r, flat_all t h.2⟩
theorem eqF_at {d e : D} {v u : V} (hd : flatD d = true) (he : flatD e = true) (r : Rp K A H v d) (s : Rp K A H u e) : eqV v u = eqF d e := by
  cases r <;> first | (cases s <;> first | rfl | cases he) | cases hd
theorem any_at {d : D} {v : V} (hd : flatD d = true) (r : Rp K A H v d) : ∀ {vs : List V} {ds : List D}, RpL K A H vs ds → ds.all flatD = true → inV v vs = ds.any fun y => eqF y d
  | _, _, .nil, _ => rfl
  | _, _, .cons q t, h => by
    rw [List.all_cons, Bool.and_eq_true] at h
    show (eqV _ _ || inV v _) = _
    rw [List.any_cons, any_at hd r t h.2, eqF_at h.1 hd q r]
end
/-! ### the comparisons -/
section
variable {G : Pg} {fa : Str → Addr} {cf : Nat → Cf} {k b : Nat} {gfn : Str → Bool} {X : Cx} {T : List (Addr × Str)} {bs : List Nat} {W : WX} {M : Me} {d1 d2 : D}
theorem c_eqP0 (hu : X.A.units + 64 < cLine) {z : Bool} (h : eqP M d1 d2 = some z) : Op2 X T bs W (compareOp .Eq) d1 d2 M (.ok (.bl z) M) := op2_of (op_eqD hu) fun σ g H A v1 v2 Q S p1 p2 k => by
  unfold eqP at h
  cases e1 : pdM M d1 with
  | none => rw [e1] at h; cases h
  | some q1 =>
    cases e2 : pdM M d2 with
    | none => rw [e1, e2] at h; cases h
    | some q2 =>
      rw [e1, e2] at h
      dsimp only at h
      by_cases hs : SeqAt.shaped q1 = true ∧ SeqAt.shaped q2 = true
      · rw [if_pos hs] at h
        cases h
        exact ⟨q1, q2, pdM_at S p1 e1, pdM_at S p2 e2, hs.1, hs.2, k.get S .bl⟩
      · rw [if_neg hs] at h
        cases h
theorem c_eqP (c : Cxt G fa cf k T gfn X) {z : Bool} (h : eqP M d1 d2 = some z) : Op2 X T bs W (compareOp .Eq) d1 d2 M (.ok (.bl z) M) := c_eqP0 c.room.units h
theorem c_neP (c : Cxt G fa cf k T gfn X) {z : Bool} (h : eqP M d1 d2 = some z) : Op2 X T bs W (compareOp .NotEq) d1 d2 M (.ok (.bl (!z)) M) := op2_of (op_neD c.room.units) fun σ g H A v1 v2 Q S p1 p2 k => by
  unfold eqP at h
  cases e1 : pdM M d1 with
  | none => rw [e1] at h; cases h
  | some q1 =>
    cases e2 : pdM M d2 with
    | none => rw [e1, e2] at h; cases h
    | some q2 =>
      rw [e1, e2] at h
      dsimp only at h
      by_cases hs : SeqAt.shaped q1 = true ∧ SeqAt.shaped q2 = true
      · rw [if_pos hs] at h
        cases h
        exact ⟨q1, q2, pdM_at S p1 e1, pdM_at S p2 e2, hs.1, hs.2, k.get S .bl⟩
      · rw [if_neg hs] at h
        cases h
theorem seq_at {K : PySem.W.Frag} {A : Ad} {H : Hp} {σ : L2.St} {g : Ga} {v : V} {d : D} {ys : List D} (S : Sta K T bs A M H σ g) (r : Rp K A H v d) (h : (d = .tup ys) ∨ lv M d = some ys) : ∃ a vs, v = .ref a ∧ (SqL K H a vs ∨ SqT K H a vs) ∧ RpL K A H vs ys := by
  rcases h with rfl | h
  · obtain ⟨a, vs, h1, h2, h3⟩ := r.tupAt
    exact ⟨a, vs, h1, .inr h2, h3⟩
  · obtain ⟨a, vs, h1, h2, h3⟩ := lv_at S r h
    exact ⟨a, vs, h1, .inl h2, h3⟩
/-- x in a list or a tuple; neg: not in -/
theorem c_inS (c : Cxt G fa cf k T gfn X) {l z : Bool} {ys : List D} (hy : (d2 = .tup ys ∧ l = false) ∨ (lv M d2 = some ys ∧ l = true)) (h : inSeq M l d1 ys = some z) : Op2 X T bs W (compareOp .In) d1 d2 M (.ok (.bl z) M) ∧ Op2 X T bs W (compareOp .NotIn) d1 d2 M (.ok (.bl (!z)) M) := by
  have hu : X.A.units + 65 < cLine := by have := c.room.un; omega
  unfold inSeq at h
  by_cases hf : (flatD d1 && ys.all flatD) = true
  · rw [if_pos hf] at h
    cases h
    obtain ⟨f1, f2⟩ := b2 hf
    refine ⟨op2_of op_in_seq fun σ g H A v1 v2 Q S p1 p2 k => ?_, op2_of op_notIn_seq fun σ g H A v1 v2 Q S p1 p2 k => ?_⟩
    · obtain ⟨a, vs, rfl, h2, h3⟩ := seq_at S p2 (hy.imp (·.1) (·.1))
      refine ⟨a, vs, rfl, h2, flat_at f1 p1, flat_all h3 f2, ?_⟩
      rw [any_at f1 p1 h3 f2]
      exact k.get S .bl
    · obtain ⟨a, vs, rfl, h2, h3⟩ := seq_at S p2 (hy.imp (·.1) (·.1))
      refine ⟨a, vs, rfl, h2, flat_at f1 p1, flat_all h3 f2, ?_⟩
      rw [any_at f1 p1 h3 f2]
      exact k.get S .bl
  · rw [if_neg hf] at h
    rcases hy with ⟨rfl, rfl⟩ | ⟨hl, rfl⟩
    · cases h
    · rw [if_pos rfl] at h
      unfold inDeep at h
      cases e1 : pdM M d1 with
      | none => rw [e1] at h; cases h
      | some q1 =>
        cases e2 : pdL ys with
        | none => rw [e1, e2] at h; cases h
        | some q2 =>
          rw [e1, e2] at h
          dsimp only at h
          by_cases hs : SeqAt.shaped q1 = true ∧ SeqAt.shaped (.list q2) = true
          · rw [if_pos hs] at h
            cases h
            refine ⟨op2_of (op_inD hu) fun σ g H A v1 v2 Q S p1 p2 k => ?_, op2_of (op_notInD hu) fun σ g H A v1 v2 Q S p1 p2 k => ?_⟩
            · obtain ⟨a, vs, rfl, h2, h3⟩ := lv_at S p2 hl
              exact ⟨q1, q2, pdM_at S p1 e1, .lst h2 (RpL.dp e2 h3), hs.1, hs.2, k.get S .bl⟩
            · obtain ⟨a, vs, rfl, h2, h3⟩ := lv_at S p2 hl
              exact ⟨q1, q2, pdM_at S p1 e1, .lst h2 (RpL.dp e2 h3), hs.1, hs.2, k.get S .bl⟩
          · rw [if_neg hs] at h
            cases h
theorem non_at {K : PySem.W.Frag} {A : Ad} {H : Hp} {v : V} {d : D} (r : Rp K A H v d) : decide (v = .non) = isNon d := by
  cases r <;> simp [isNon]
theorem c_is (h : isNon d2 = true) : Op2 X T bs W (compareOp .Is) d1 d2 M (.ok (.bl (isNon d1)) M) := op2_of op_isN fun σ g H A v1 v2 Q S p1 p2 k => by
  have e2 : v2 = .non := of_decide_eq_true ((non_at p2).trans h)
  refine ⟨e2, ?_⟩
  rw [non_at p1]
  exact k.get S .bl
theorem c_isnot (h : isNon d2 = true) : Op2 X T bs W (compareOp .IsNot) d1 d2 M (.ok (.bl (!isNon d1)) M) := op2_of op_notN fun σ g H A v1 v2 Q S p1 p2 k => by
  have e2 : v2 = .non := of_decide_eq_true ((non_at p2).trans h)
  refine ⟨e2, ?_⟩
  rw [non_at p1]
  exact k.get S .bl
theorem c_int {op : CmpOp} {i j : Int} : Op2 X T bs W (compareOp op) (.int i) (.int j) M (cmpB (R.of M (intCmp op i j))) := by
  have ne : ∀ {op : CmpOp} {x : R D}, x = .no → Op2 X T bs W (compareOp op) (.int i) (.int j) M x := fun e => by rw [e]; exact op2_no
  have sc : ∀ a b : Int, decide (V.int a = V.int b) = decide (a = b) := fun a b => by
    by_cases q : a = b
    · subst q
      simp
    · have q2 : ¬ V.int a = V.int b := fun z => q (V.int.inj z)
      rw [decide_eq_false q, decide_eq_false q2]
  cases op with
  | Lt => exact o2_B0 op_lt
  | LtE => exact o2_B0 op_le
  | Gt => exact o2_B0 op_gt
  | GtE => exact o2_B0 op_ge
  | Eq =>
    refine op2_of op_eq fun σ g H A v1 v2 Q S p1 p2 k => ?_
    cases p1
    cases p2
    refine ⟨rfl, ?_⟩
    rw [sc]
    exact k.get S .bl
  | NotEq =>
    refine op2_of op_ne fun σ g H A v1 v2 Q S p1 p2 k => ?_
    cases p1
    cases p2
    refine ⟨rfl, ?_⟩
    rw [sc]
    exact k.get S .bl
  | _ => exact ne rfl
theorem c_str {op : CmpOp} {i j : Str} : Op2 X T bs W (compareOp op) (.str i) (.str j) M (cmpB (R.of M (strCmp op i j))) := by
  have ne : ∀ {op : CmpOp} {x : R D}, x = .no → Op2 X T bs W (compareOp op) (.str i) (.str j) M x := fun e => by rw [e]; exact op2_no
  have sc : ∀ a b : Str, decide (V.str a = V.str b) = decide (a = b) := fun a b => by
    by_cases q : a = b
    · subst q
      simp
    · have q2 : ¬ V.str a = V.str b := fun z => q (V.str.inj z)
      rw [decide_eq_false q, decide_eq_false q2]
  cases op with
  | Eq =>
    refine op2_of op_eq fun σ g H A v1 v2 Q S p1 p2 k => ?_
    cases p1
    cases p2
    refine ⟨rfl, ?_⟩
    rw [sc]
    exact k.get S .bl
  | NotEq =>
    refine op2_of op_ne fun σ g H A v1 v2 Q S p1 p2 k => ?_
    cases p1
    cases p2
    refine ⟨rfl, ?_⟩
    rw [sc]
    exact k.get S .bl
  | _ => exact ne rfl
end
end Iv
namespace Iv
open PySem PySem.Spec PyProof.Rows L2 LamX
section
variable {X : Cx} {T : List (Addr × Str)} {bs : List Nat} {W : WX} {M : Me} {pins : List (Addr × Obj)} {s : Shared} {σ : L2.St} {g : Ga} {H : Hp} {A : Ad} {v : V} {u : Value} {d : D} {C : Cn} {fds : List (Str × D)}
/-- an object, as the machine sees it -/
theorem inst_at (I : Inv X pins σ H s) (S : Sta X.K T bs A M H σ g) (r : Rp X.K A H v d) (ru : RelV v u) (h : ov M d = some (C, fds)) : ∃ a ox od, u = .ref a ∧ v = .ref a ∧ PySem.W.InstAt s.heap a ox (ca X.K C) od := by
  obtain ⟨a, dx, fs, rfl, ha, rf⟩ := ov_at S r h
  cases ru
  obtain ⟨mA, O, _⟩ := ins_get I.hok ha
  obtain ⟨od, J, _⟩ := O.look
  exact ⟨a, _, _, rfl, rfl, J⟩
end
section
variable {X : Cx} {T : List (Addr × Str)} {bs : List Nat} {W : WX} {M : Me} {pins : List (Addr × Obj)} {s : Shared} {σ : L2.St} {g : Ga} {H : Hp} {A : Ad} {v : V} {u : Value} {d : D} {t : String}
theorem ty_at (r : Rp X.K A H v d) (ru : RelV v u) (h : tyNm d = some t) : typeOf u = pure (.type t) := by
  cases d with
  | int i => cases r; obtain ⟨tk, rfl⟩ := ru; cases h; rfl
  | bl i => cases r; cases ru; cases h; rfl
  | str i => cases r; obtain ⟨tk, rfl⟩ := ru; cases h; rfl
  | non => cases r; cases ru; cases h; rfl
  | _ => cases h
end
/-! ## own operators -/
section
open PySem.W
variable {prog : Program} {w : World} {M : Model} {A : Around} {E : Value → Shared → Prop} {s : Shared} {K : Frag} {x C L f f' : Addr} {h₀ : Heap} {m : Str → Option Value} {ox : Obj} {od : Option Obj} {nm T : String}
/-- the left operand is an int, whose own method declines -/
theorem binR {op : Operator} {i : Int} {t : Tok} {Q : Value → Shared → Prop} (F : Fr h₀ L s.heap m) (X₀ : K.In h₀) (I : InstAt s.heap x ox C od) (hc : selfFirst K C = true)
    (hs : findIn K (.ref C) (PySem.dunder op.info.2) = some (some (.ref f))) (hr : findIn K (.ref C) (dunderR op.info.2) = some (some (.ref f'))) (hf : isFn K (.ref f') = true)
    (hint : Looks (model prog w) s.heap (fillsNumberSlot (.type "int") op.info.2) true) (hsub : subIn K (.ref C) (.type "int") = some false)
    (hdec : ∀ {Q' : Option Value → Shared → Prop}, Q' none s → wpAny (model prog w) A (tryMethod (.int i t) (PySem.dunder op.info.2) (.ref x)) Q' E s)
    (h : wpAny (model prog w) A (call (.ref f') [.ref x, .int i t]) (PySem.W.CmpBack Q) E s) : wpAny (model prog w) A (binaryOp op (.int i t) (.ref x)) Q E s := by
  have X := X₀.keeps F.keep
  obtain ⟨cd, rest, hcd, hm⟩ := ksp_first hc
  rcases hi : op.info with ⟨sym, nm'⟩
  rw [hi] at hs hr hint hdec
  dsimp only at hs hr hint hdec
  have one := ksp_try X I hr hf h
  have L1 : Looks (model prog w) s.heap (typeOf (.ref x)) (.ref C) := I.type
  have L3 : Looks (model prog w) s.heap (fillsNumberSlot (.ref C) nm') true := fills_K X hcd hm hs
  have L5 : Looks (model prog w) s.heap (isSubtype (.ref C) (.type "int")) false := looks_subIn X hsub
  have hne : (Value.type "int" == Value.ref C) = false := Bool.eq_false_iff.mpr fun q => by cases beq_iff_eq.mp q
  simp only [binaryOp, hi]
  refine wpAny_holding (wpAny_bind ?_)
  unfold binaryOp1
  refine wpAny_bind (wpAny_pure (a := Value.type "int") (wpAny_bind (L1.here (wpAny_bind (hint.here ?_)))))
  simp only [hne, Bool.false_eq_true, if_false]
  refine wpAny_bind (L3.here ?_)
  simp only [Bool.and_self, if_true]
  refine wpAny_bind (L5.here ?_)
  simp only [Bool.false_eq_true, if_false]
  have L7 : Looks (model prog w) s.heap (numberSlotInPython (.type "int") nm') false := Looks.of_pure rfl
  have one' := one
  obtain ⟨hh, g, d, tt, os⟩ := s
  ksp_lk
  refine hdec ?_
  ksp_lk
  refine wpAny_mono one' (fun r s' hr' => ?_) fun _ _ e => e
  obtain ⟨v, rfl, hq⟩ := hr'
  ksp_lk
  exact hq
end
theorem pass_none {prog : Program} {w : World} {A : Around} {E : Value → Shared → Prop} {s : Shared} {Q' : Option Value → Shared → Prop} (q : Q' none s) : wpAny (model prog w) A (match (some Value.notImplemented : Option Value) with | some .notImplemented | none => pure none | some v => pure (some v)) Q' E s := wpAny_pure q
section
variable {prog : Program} {w : World} {A : Around} {E : Value → Shared → Prop} {s : Shared}
theorem int_dec {i : Int} {t : Tok} {x C dx : Addr} {f : Int → Int → Sem Fin} {nm : String} {Q : Fin → Shared → Prop} (ho : s.heap.get? x = some (PySem.W.instObj C dx)) (q : Q (.done (.ret .notImplemented)) s) : wpAny (model prog w) A (Builtin.Int.intBinary nm f false ⟨[.int i t, .ref x], []⟩) Q E s := by
  obtain ⟨hp, g, d, tk, os⟩ := s
  have ho' : hp.get? x = some { cls := .ref C, dict := some dx, data := .plain, slots := #[] } := ho
  unfold Builtin.Int.intBinary
  wp_walk using AutoSeq1.wpAny_loadPart' ho'
  exact q
theorem try_slot {i : Int} {t : Tok} {x C dx : Addr} {f : Int → Int → Sem Fin} {nm id : String} {name : Str} {Q' : Option Value → Shared → Prop} (ho : s.heap.get? x = some (PySem.W.instObj C dx)) (sl : Slot "int" name id) {B : Builtin} (en : entryFor table id = some B) (hB : B = Builtin.Int.intBinary nm f false) (ar : argsOk id ⟨[.int i t, .ref x], []⟩) (q : Q' none s) : wpAny (model prog w) A (tryMethod (.int i t) name (.ref x)) Q' E s := by
  subst hB
  unfold tryMethod
  refine wpAny_bind (wpAny_callSpecial?_slot (typeIs_int s i t) sl ?_)
  exact wpAny_call_entry (Q := fun v s' => wpAny (model prog w) A (match (some v : Option Value) with | some .notImplemented | none => pure none | some v => pure (some v)) Q' E s') sl (typeIs_int s i t) en (int_dec ho ⟨_, rfl, pass_none q⟩) ar
theorem b_add : ∃ f, Builtin.«int.__add__» = Builtin.Int.intBinary "__add__" f false := ⟨_, rfl⟩
theorem dec_add {i : Int} {t : Tok} {x C dx : Addr} {Q' : Option Value → Shared → Prop} (ho : s.heap.get? x = some (PySem.W.instObj C dx)) (q : Q' none s) : wpAny (model prog w) A (tryMethod (.int i t) (PySem.dunder "add") (.ref x)) Q' E s := by
  obtain ⟨f, hf⟩ := b_add
  exact @try_slot prog w A E s i t x C dx f "__add__" "int.__add__" (PySem.dunder "add") Q' ho F.slot_int_add Builtin.«int.__add__» F.entry_int_add hf (F.args_int_add_2 _ _) q
theorem b_sub : ∃ f, Builtin.«int.__sub__» = Builtin.Int.intBinary "__sub__" f false := ⟨_, rfl⟩
theorem dec_sub {i : Int} {t : Tok} {x C dx : Addr} {Q' : Option Value → Shared → Prop} (ho : s.heap.get? x = some (PySem.W.instObj C dx)) (q : Q' none s) : wpAny (model prog w) A (tryMethod (.int i t) (PySem.dunder "sub") (.ref x)) Q' E s := by
  obtain ⟨f, hf⟩ := b_sub
  exact @try_slot prog w A E s i t x C dx f "__sub__" "int.__sub__" (PySem.dunder "sub") Q' ho F.slot_int_sub Builtin.«int.__sub__» F.entry_int_sub hf (F.args_int_sub_2 _ _) q
theorem b_mul : ∃ f, Builtin.«int.__mul__» = Builtin.Int.intBinary "__mul__" f false := ⟨_, rfl⟩
theorem dec_mul {i : Int} {t : Tok} {x C dx : Addr} {Q' : Option Value → Shared → Prop} (ho : s.heap.get? x = some (PySem.W.instObj C dx)) (q : Q' none s) : wpAny (model prog w) A (tryMethod (.int i t) (PySem.dunder "mul") (.ref x)) Q' E s := by
  obtain ⟨f, hf⟩ := b_mul
  exact @try_slot prog w A E s i t x C dx f "__mul__" "int.__mul__" (PySem.dunder "mul") Q' ho F.slot_int_mul Builtin.«int.__mul__» F.entry_int_mul hf (F.args_int_mul_2 _ _) q
end
end Iv
namespace Iv
open PySem PySem.Spec PyProof.Rows L2 LamX
/-! ## own special methods -/
def notSl : Expr → Bool
  | .Slice _ _ _ _ => false
  | _ => true
theorem plainIx_of {i : Expr} (h : notSl i = true) : PlainIx i := fun o j => by
  cases i with
  | Slice a b c d => cases h
  | _ => rfl
theorem ownIx_of {i : Expr} (h : notSl i = true) (o j : Value) : subscripted i true o j = runValue (.builtin "lifetime.subscript" ⟨[o, j], []⟩) := by
  cases i with
  | Slice a b c d => cases h
  | _ => with_unfolding_all rfl
section
open PySem.W
variable {prog : Program} {w : World} {A : Around} {E : Value → Shared → Prop} {s : Shared} {K : Frag} {x C L f : Addr} {h₀ : Heap} {m : Str → Option Value} {ox : Obj} {od : Option Obj} {b tb : Value}
/-- x != b, by the own == -/
theorem ne_own {Q : Value → Shared → Prop} (hu : A.units + 1 < cLine) (F : Fr h₀ L s.heap m) (X₀ : K.In h₀) (I : InstAt s.heap x ox C od) (hb : Looks (model prog w) s.heap (typeOf b) tb) (hn : notFirst K C tb = true) (hmro : mroIn K C (.type "object") = some true)
    (hs : findIn K (.ref C) "__eq__" = some (some (.ref f))) (hne : findIn K (.ref C) "__ne__" = some (some (.builtin "object.__ne__"))) (hf : isFn K (.ref f) = true)
    (h : wpAny (model prog w) A.in1 (call (.ref f) [.ref x, b]) (PySem.W.BoolBack fun z s' => Q (.bool (!z)) s') E s) : wpAny (model prog w) A (richCompare .NotEq (.ref x) b) Q E s := by
  have X := X₀.keeps F.keep
  have call1 : wpAny (model prog w) A (call (.builtin "object.__ne__") [.ref x, b]) (fun v s' => ∃ z, v = .bool z ∧ Q (.bool z) s') E s := by
    refine wpAny_call (codeAny_call_builtin PySem.F.cmp_object.ne.plain PySem.F.cmpEntry_ne (check_slot PySem.F.cmpKind_ne PySem.F.cmpSplit_ne (I.type.andThen (looks_mroIn X hmro)) (PySem.F.cmpArgs_ne _ _) ?_))
    unfold Builtin.«object.__ne__»
    refine wpAny_bind (wpAny_pure ?_)
    dsimp only
    refine wpAny_bind (wpAny_cRoomFor hu ?_)
    refine wpAny_bind (ifBound_K X I hs hf (wpAny_mono h (fun v s' hv => ?_) fun _ _ e => e))
    cases v <;> first | exact hv.elim | skip
    exact wpAny_bind (wpAny_truthy_bool (wpAny_pure ⟨_, rfl, hv⟩))
  have one : wpAny (model prog w) A (tryCompare (.ref x) "__ne__" b) (fun r s' => ∃ v, r = some v ∧ Q v s') E s := by
    unfold tryCompare
    refine wpAny_bind ?_
    simp only [callSpecialIfBound?, bindSpecialIfBound?]
    refine wpAny_holding (wpAny_bind (wpAny_bind (wpAny_bind (I.type.here ((looks_findIn X hne).here ?_)))))
    refine wpAny_bind (wpAny_askSetting (wpAny_ite ?_))
    have fin : wpAny (model prog w) A (call (.builtin "object.__ne__") ([.ref x] ++ [b]) >>= fun v => pure (some v)) (fun v s' => wpAny (model prog w) A (match v with | some .notImplemented | none => pure none | some v => pure (some v)) (fun r s' => ∃ v, r = some v ∧ Q v s') E s') E s := wpAny_bind (wpAny_mono call1 (fun v s' ⟨z, e, q⟩ => by
      subst e
      exact wpAny_pure (wpAny_pure ⟨_, rfl, q⟩)) fun _ _ h' => h')
    split
    · exact wpAny_bind (wpAny_of_eq (PySem.F.cmp_object.ne.bind _) (wpAny_pure (by exact fin)))
    · exact wpAny_tryCatch (wpAny_bind (wpAny_of_eq (PySem.F.cmp_object.ne.bind _) (wpAny_pure (by exact fin))))
  unfold richCompare
  simp only [oneThing_ref]
  refine wpAny_holding (wpAny_bind (wpAny_cRoomFor (by omega) ?_))
  refine wpAny_bind (I.type.here (wpAny_bind (hb.here ?_)))
  split
  · rename_i q
    have e : subIn K tb (.ref C) = some false := by
      rcases Bool.or_eq_true_iff.mp hn with e | e
      · rw [beq_iff_eq.mp e] at q; simp at q
      · exact beq_iff_eq.mp e
    refine wpAny_bind ((looks_subIn X e).here ?_)
    simp only [Bool.false_eq_true, if_false]
    refine wpAny_bind (wpAny_mono one (fun r s' z => ?_) fun _ _ e => e)
    obtain ⟨v, rfl, hq⟩ := z
    exact wpAny_pure hq
  · refine wpAny_bind (wpAny_pure ?_)
    simp only [Bool.false_eq_true, if_false]
    refine wpAny_bind (wpAny_mono one (fun r s' z => ?_) fun _ _ e => e)
    obtain ⟨v, rfl, hq⟩ := z
    exact wpAny_pure hq
end
section
variable {G : Pg} {fa : Str → Addr} {cf : Nat → Cf} {k b : Nat} {gfn : Str → Bool} {X : Cx} {T : List (Addr × Str)} {bs : List Nat} {W : WX} {g : Ga} {M : Me} {d d1 d2 : D} {pos : Pos} {e : Expr} {ra : R D}
theorem guards_in1' {A : Around} : A.in1.guards = A.guards := by first | rfl | simp [Around.in1]
/-- a dunder's method is found -/
theorem dunF {M : Me} {C : Cn} {fs : List (Str × D)} {name : Str} {args : List D} {σ : L2.St} {A : Ad} {H : Hp} {α : Type} {rel : Ad → Hp → α → D → Prop} {Q : α → Hp → Prop} (ho : ov M d = some (C, fs)) (q : kG X.K T bs W g rel A H σ Q (dun G (cf b) M d name args)) : ∃ f, G.find C name = some (.me f) ∧ kG X.K T bs W g rel A H σ Q (callP G (cf b) f (d :: args) M) := by
  unfold dun at q
  rw [ho] at q
  dsimp only at q
  cases e : G.find C name with
  | none => rw [e] at q; exact q.no.elim
  | some m =>
    rw [e] at q
    cases m with
    | me f => exact ⟨f, rfl, q⟩
    | _ => exact q.no.elim
/-- .. and called, at a place with room -/
theorem Cxt.methA (c : Cxt G fa cf k T gfn X) (tk : Takes X W) (hbs : ∀ x ∈ bs, x ≤ b) {f : Str} {pins : List (Addr × Obj)} {s : Shared} {σ : L2.St} {H : Hp} {A : Ad} {A' : Around} {Q : VK} {us : List Value} {vs : List V} {ds : List D} (hG : A'.guards = some []) (hr : Room k A') (e0 : Env0 X.prog X.w X.K X.mg X.base A' X.stack s H)
    (I : Inv X pins σ H s) (S : Sta X.K T bs A M H σ g) (rv : Vals vs us) (pv : RpL X.K A H vs ds) (q : kG X.K T bs W g (rE X.K) A H σ Q (callP G (cf b) f ds M)) : wpAny (model X.prog X.w) A' (PySem.call (.ref (fa f)) us) (EP X pins σ Q) X.xe s := by
  refine wpAny_call (codeAny_mono (c.code tk hbs hG hr e0 I S rv pv q) fun r s' hq => ?_)
  match r, hq with
  | .error e, hq => exact hq
  | .ok (.ret u), hq => exact hq
theorem Cxt.meth1 (c : Cxt G fa cf k T gfn X) (tk : Takes X W) (hbs : ∀ x ∈ bs, x ≤ b) {f : Str} {pins : List (Addr × Obj)} {s : Shared} {σ : L2.St} {H : Hp} {A : Ad} {Q : VK} {us : List Value} {vs : List V} {ds : List D}
    (I : Inv X pins σ H s) (S : Sta X.K T bs A M H σ g) (rv : Vals vs us) (pv : RpL X.K A H vs ds) (q : kG X.K T bs W g (rE X.K) A H σ Q (callP G (cf b) f ds M)) : wpAny (model X.prog X.w) X.A.in1 (PySem.call (.ref (fa f)) us) (EP X pins σ Q) X.xe s :=
  c.methA tk hbs (by rw [guards_in1']; exact c.gd) (c.room.mono (j := k + 1) (by omega)).in1 I.env0.in1 I S rv pv q
theorem Cxt.meth0 (c : Cxt G fa cf k T gfn X) (tk : Takes X W) (hbs : ∀ x ∈ bs, x ≤ b) {f : Str} {pins : List (Addr × Obj)} {s : Shared} {σ : L2.St} {H : Hp} {A : Ad} {Q : VK} {us : List Value} {vs : List V} {ds : List D}
    (I : Inv X pins σ H s) (S : Sta X.K T bs A M H σ g) (rv : Vals vs us) (pv : RpL X.K A H vs ds) (q : kG X.K T bs W g (rE X.K) A H σ Q (callP G (cf b) f ds M)) : wpAny (model X.prog X.w) X.A (PySem.call (.ref (fa f)) us) (EP X pins σ Q) X.xe s :=
  c.methA tk hbs c.gd (c.room.mono (by omega)) I.env0 I S rv pv q
/-- answers turned over -/
theorem kG.bol {A : Ad} {H : Hp} {σ : L2.St} {α β : Type} {rel : Ad → Hp → β → α → Prop} {Q : β → Hp → Prop} {r : R D} {f : Bool → α} (q : kG X.K T bs W g rel A H σ Q ((bolR r).bind fun z M => .ok (f z) M)) : kG X.K T bs W g (rE X.K) A H σ (fun v H1 => ∃ z M1 A1, v = .bl z ∧ Ch A H A1 H1 ∧ Sta X.K T bs A1 M1 H1 σ g ∧ ∀ w, rel A1 H1 w (f z) → Q w H1) r := by
  cases r with
  | no => exact q.no.elim
  | ex C fs M1 => cases q with | ex h => exact .ex h
  | ok d M1 =>
    cases d with
    | bl z =>
      refine .ok fun A' v H' c S r => ?_
      cases r
      exact ⟨z, M1, A', rfl, c, S, fun w hw => q.get' c S hw⟩
    | _ => exact q.no.elim
theorem kG.len {A : Ad} {H : Hp} {σ : L2.St} {Q : VK} {r : R D} (q : kG X.K T bs W g (rE X.K) A H σ Q (lenB r)) : kG X.K T bs W g (rE X.K) A H σ (fun v H1 => ∃ i : Int, v = .int i ∧ 0 ≤ i ∧ i < 2 ^ 63 ∧ Q (.int i) H1) r := by
  cases r with
  | no => exact q.no.elim
  | ex C fs M1 => cases q with | ex h => exact .ex h
  | ok d M1 =>
    cases d with
    | int z =>
      refine .ok fun A' v H' c S r => ?_
      cases r
      unfold lenB at q
      dsimp only at q
      by_cases hz : 0 ≤ z ∧ z < 2 ^ 63
      · rw [if_pos hz] at q
        exact ⟨z, rfl, hz.1, hz.2, q.get' c S .int⟩
      · rw [if_neg hz] at q
        exact q.no.elim
    | _ => exact q.no.elim
theorem kG.str {A : Ad} {H : Hp} {σ : L2.St} {Q : VK} {r : R D} (q : kG X.K T bs W g (rE X.K) A H σ Q (strB r)) : kG X.K T bs W g (rE X.K) A H σ (fun v H1 => ∃ x : Str, v = .str x ∧ Q (.str x) H1) r := by
  cases r with
  | no => exact q.no.elim
  | ex C fs M1 => cases q with | ex h => exact .ex h
  | ok d M1 =>
    cases d with
    | str z =>
      refine .ok fun A' v H' c S r => ?_
      cases r
      exact ⟨z, rfl, q.get' c S .str⟩
    | _ => exact q.no.elim
theorem rd_dict {pins : List (Addr × Obj)} {s : Shared} {σ : L2.St} {H : Hp} {a : Addr} {kvs : List (Key × V)} (I : Inv X pins σ H s) (h : Rd H a (.dK kvs)) : True ∧ kvs.length ≤ sizeLine ∧ (a == sysModules) = false ∧ ∃ vs, KV kvs vs ∧ s.heap.DictOf (mixKind X.prog X.w) a vs := by
  rcases h with h | ⟨o, h⟩
  · exact ⟨trivial, I.hok a _ h⟩
  · exact ⟨trivial, (I.hok a _ h).2⟩
/-- the type of what an own == is asked about -/
theorem eqTo_at {C : Cn} (cx : ClX G fa X.K X.mg C) {pins : List (Addr × Obj)} {s : Shared} {σ : L2.St} {H : Hp} {A : Ad} {v : V} {u : Value} (I : Inv X pins σ H s) (S : Sta X.K T bs A M H σ g) (r : Rp X.K A H v d) (ru : RelV v u) (h : eqTo G M C d = true) : ∃ tb, PySem.W.Looks (model X.prog X.w) s.heap (typeOf u) tb ∧ PySem.W.notFirst X.K (ca X.K C) tb = true := by
  have flat : ∀ {t : String}, typeOf u = pure (.type t) → t ∈ ["NoneType", "bool", "int", "str", "tuple", "list", "dict"] → ∃ tb, PySem.W.Looks (model X.prog X.w) s.heap (typeOf u) tb ∧ PySem.W.notFirst X.K (ca X.K C) tb = true := fun e hm => ⟨_, PySem.W.Looks.of_pure e, cx.nft _ hm⟩
  have ref : ∀ {a : Addr} {o : Obj} {t : String}, u = .ref a → s.heap.get? a = some o → o.cls = .type t → t ∈ ["NoneType", "bool", "int", "str", "tuple", "list", "dict"] → ∃ tb, PySem.W.Looks (model X.prog X.w) s.heap (typeOf u) tb ∧ PySem.W.notFirst X.K (ca X.K C) tb = true := fun e ho hc hm => by
    subst e
    exact ⟨_, fun A Q E s' kp q => wpAny_typeOf_ref (kp _ _ ho) (by rw [hc]; exact q), cx.nft _ hm⟩
  unfold eqTo at h
  cases eo : ov M d with
  | some p =>
    obtain ⟨C', fs⟩ := p
    rw [eo] at h
    obtain ⟨h1, h⟩ := b2 h
    obtain ⟨h2, h3⟩ := b2 h
    obtain ⟨a, ox, od, rfl, rfl, J⟩ := inst_at I S r ru eo
    exact ⟨_, J.type, cx.nfc C' h1 (by simpa using h2) h3⟩
  | none =>
    rw [eo] at h
    dsimp only at h
    have list : ∀ {a : Addr} {xs : List V}, v = .ref a → SqL X.K H a xs → ∃ tb, PySem.W.Looks (model X.prog X.w) s.heap (typeOf u) tb ∧ PySem.W.notFirst X.K (ca X.K C) tb = true := fun {a xs} e hl => by
      subst e
      cases ru
      obtain ⟨its, rv, ⟨o, n, ho, hc, _⟩, _⟩ := I.list hl
      exact ref rfl ho hc (by decide)
    have dic : ∀ {a : Addr} {xs : List (Key × V)}, v = .ref a → Rd H a (.dK xs) → ∃ tb, PySem.W.Looks (model X.prog X.w) s.heap (typeOf u) tb ∧ PySem.W.notFirst X.K (ca X.K C) tb = true := fun {a xs} e hl => by
      subst e
      cases ru
      obtain ⟨_, _, _, vs, _, hd⟩ := rd_dict I hl
      obtain ⟨o, ho, hc⟩ := hd.typeIs
      exact ref rfl ho hc (by decide)
    cases d with
    | non => cases r; cases ru; exact flat rfl (by decide)
    | bl i => cases r; cases ru; exact flat rfl (by decide)
    | int i => cases r; obtain ⟨tk, rfl⟩ := ru; exact flat rfl (by decide)
    | str i => cases r; obtain ⟨tk, rfl⟩ := ru; exact flat rfl (by decide)
    | tup ds =>
      obtain ⟨a, vs, rfl, h1, h2⟩ := r.tupAt
      cases ru
      obtain ⟨its, rv, ⟨o, ho, hc, _⟩, _⟩ := I.tuple h1
      exact ref rfl ho hc (by decide)
    | lst ds =>
      obtain ⟨a, vs, rfl, h1, h2⟩ := lv_at S r (show lv M (.lst ds) = some ds from rfl)
      exact list rfl h1
    | cel j =>
      dsimp only at h
      cases em : M[j]? with
      | none => rw [em] at h; cases h
      | some ce =>
        rw [em] at h
        cases ce with
        | lst xs =>
          obtain ⟨a, vs, rfl, h1, h2⟩ := lv_at S r (show lv M (.cel j) = some xs by simp only [lv, em])
          exact list rfl h1
        | dct xs =>
          obtain ⟨a, kvs, rfl, h1, h2⟩ := dv_at S r (show dv M (.cel j) = some xs by simp only [dv, em])
          exact dic rfl h1
        | _ => cases h
    | dct ds =>
      obtain ⟨a, kvs, rfl, h1, h2⟩ := dv_at S r (show dv M (.dct ds) = some ds from rfl)
      exact dic rfl h1
    | _ => cases h
theorem c_ownEq (c : Cxt G fa cf k T gfn X) (tk : Takes X W) (hbs : ∀ x ∈ bs, x ≤ b) {C : Cn} {fs : List (Str × D)} (ho : ov M d1 = some (C, fs)) (ht : eqTo G M C d2 = true) : Op2 X T bs W (compareOp .Eq) d1 d2 M (cmpB (bolR (dun G (cf b) M d1 "__eq__" [d2]))) := by
  intro pins s σ g H A v1 v2 u1 u2 Q I S p1 p2 r1 r2 q
  have q := kG.bol q
  obtain ⟨f, hf, q⟩ := dunF ho q
  have cx := c.wl.clsM C _ _ hf
  have cm := cx.me _ f hf
  obtain ⟨tb, l1, l2⟩ := eqTo_at cx I S p2 r2 ht
  obtain ⟨a, ox, od, rfl, rfl, J⟩ := inst_at I S p1 r1 ho
  obtain ⟨m, hF⟩ := I.fr
  refine PySem.W.cmp_K (op := .Eq) c.room.units0 hF I.ok.mod.kin J l1 l2 cm.at_ cm.fn ?_
  exact thn (c.meth0 tk hbs (vs := [.ref a, v2]) I S (.cons rfl (.cons r2 .nil)) (.cons p1 (.cons p2 .nil)) q) fun u s1 ⟨v, H1, I1, rv, z, M1, A1, ez, c1, S1, h⟩ => by
    subst ez
    obtain rfl : u = Value.bool z := rv
    exact ⟨.bl z, H1, I1, rfl, h _ .bl⟩
theorem c_ownNe (c : Cxt G fa cf k T gfn X) (tk : Takes X W) (hbs : ∀ x ∈ bs, x ≤ b) {C : Cn} {fs : List (Str × D)} (ho : ov M d1 = some (C, fs)) (ht : eqTo G M C d2 = true) : Op2 X T bs W (compareOp .NotEq) d1 d2 M (cmpB ((bolR (dun G (cf b) M d1 "__eq__" [d2])).bind fun z M => .ok (!z) M)) := by
  intro pins s σ g H A v1 v2 u1 u2 Q I S p1 p2 r1 r2 q
  have e : cmpB ((bolR (dun G (cf b) M d1 "__eq__" [d2])).bind fun z M => .ok (!z) M) = (bolR (dun G (cf b) M d1 "__eq__" [d2])).bind fun z M => .ok (.bl (!z)) M := by
    unfold cmpB
    cases bolR (dun G (cf b) M d1 "__eq__" [d2]) <;> rfl
  rw [e] at q
  have q := kG.bol q
  obtain ⟨f, hf, q⟩ := dunF ho q
  have cx := c.wl.clsM C _ _ hf
  have cm := cx.me _ f hf
  obtain ⟨tb, l1, l2⟩ := eqTo_at cx I S p2 r2 ht
  obtain ⟨a, ox, od, rfl, rfl, J⟩ := inst_at I S p1 r1 ho
  obtain ⟨m, hF⟩ := I.fr
  refine ne_own (by have := c.room.units; omega) hF I.ok.mod.kin J l1 l2 cx.cty.2.2.2 cm.at_ (cx.neq f hf) cm.fn ?_
  exact thn (c.meth1 tk hbs (vs := [.ref a, v2]) I S (.cons rfl (.cons r2 .nil)) (.cons p1 (.cons p2 .nil)) q) fun u s1 ⟨v, H1, I1, rv, z, M1, A1, ez, c1, S1, h⟩ => by
    subst ez
    obtain rfl : u = Value.bool z := rv
    exact ⟨.bl (!z), H1, I1, rfl, h _ .bl⟩
theorem c_ownIn (c : Cxt G fa cf k T gfn X) (tk : Takes X W) (hbs : ∀ x ∈ bs, x ≤ b) {C : Cn} {fs : List (Str × D)} (ho : ov M d2 = some (C, fs)) : Op2 X T bs W (compareOp .In) d1 d2 M (cmpB (bolR (dun G (cf b) M d2 "__contains__" [d1]))) ∧ Op2 X T bs W (compareOp .NotIn) d1 d2 M (cmpB ((bolR (dun G (cf b) M d2 "__contains__" [d1])).bind fun z M => .ok (!z) M)) := by
  constructor
  · intro pins s σ g H A v1 v2 u1 u2 Q I S p1 p2 r1 r2 q
    have q := kG.bol q
    obtain ⟨f, hf, q⟩ := dunF ho q
    have cm := (c.wl.clsM C _ _ hf).me _ f hf
    obtain ⟨a, ox, od, rfl, rfl, J⟩ := inst_at I S p2 r2 ho
    obtain ⟨m, hF⟩ := I.fr
    refine PySem.W.in_K hF I.ok.mod.kin J cm.at_ cm.fn ?_
    exact thn (c.meth0 tk hbs (vs := [.ref a, v1]) I S (.cons rfl (.cons r1 .nil)) (.cons p2 (.cons p1 .nil)) q) fun u s1 ⟨v, H1, I1, rv, z, M1, A1, ez, c1, S1, h⟩ => by
      subst ez
      obtain rfl : u = Value.bool z := rv
      exact wpAny_truthy_bool ⟨.bl z, H1, I1, rfl, h _ .bl⟩
  · intro pins s σ g H A v1 v2 u1 u2 Q I S p1 p2 r1 r2 q
    have e : cmpB ((bolR (dun G (cf b) M d2 "__contains__" [d1])).bind fun z M => .ok (!z) M) = (bolR (dun G (cf b) M d2 "__contains__" [d1])).bind fun z M => .ok (.bl (!z)) M := by
      unfold cmpB
      cases bolR (dun G (cf b) M d2 "__contains__" [d1]) <;> rfl
    rw [e] at q
    have q := kG.bol q
    obtain ⟨f, hf, q⟩ := dunF ho q
    have cm := (c.wl.clsM C _ _ hf).me _ f hf
    obtain ⟨a, ox, od, rfl, rfl, J⟩ := inst_at I S p2 r2 ho
    obtain ⟨m, hF⟩ := I.fr
    refine PySem.W.notIn_K hF I.ok.mod.kin J cm.at_ cm.fn ?_
    exact thn (c.meth0 tk hbs (vs := [.ref a, v1]) I S (.cons rfl (.cons r1 .nil)) (.cons p2 (.cons p1 .nil)) q) fun u s1 ⟨v, H1, I1, rv, z, M1, A1, ez, c1, S1, h⟩ => by
      subst ez
      obtain rfl : u = Value.bool z := rv
      exact wpAny_truthy_bool ⟨.bl (!z), H1, I1, rfl, h _ .bl⟩
/-- len(o), repr(o) -/
theorem b_ownLen (c : Cxt G fa cf k T gfn X) (tk : Takes X W) (hbs : ∀ x ∈ bs, x ≤ b) {C : Cn} {fs : List (Str × D)} (ho : ov M d = some (C, fs)) : OpN X T bs W (fun us => PySem.call (.builtin "len") us) [d] M (lenB (dun G (cf b) M d "__len__" [])) := by
  intro pins s σ g H A vs us Q I S p rv q
  have q := kG.len q
  obtain ⟨f, hf, q⟩ := dunF ho q
  have cm := (c.wl.clsM C _ _ hf).me _ f hf
  cases p with
  | cons r p =>
  cases p
  rename_i v
  obtain ⟨u, rfl, ru⟩ := rv.one
  obtain ⟨a, ox, od, rfl, rfl, J⟩ := inst_at I S r ru ho
  obtain ⟨m, hF⟩ := I.fr
  refine PySem.W.len_K hF I.ok.mod.kin J cm.at_ cm.fn ?_
  exact thn (c.meth1 tk hbs (vs := [.ref a]) I S (.cons rfl .nil) (.cons r .nil) q) fun u s1 ⟨v, H1, I1, rv, i, ei, h0, h1, h⟩ => by
    subst ei
    obtain ⟨t, rfl⟩ := rv
    exact ⟨⟨h0, h1⟩, .int i, H1, I1.tok _, ⟨_, rfl⟩, h⟩
theorem b_ownRepr (c : Cxt G fa cf k T gfn X) (tk : Takes X W) (hbs : ∀ x ∈ bs, x ≤ b) {C : Cn} {fs : List (Str × D)} (ho : ov M d = some (C, fs)) : OpN X T bs W (fun us => PySem.call (.builtin "repr") us) [d] M (strB (dun G (cf b) M d "__repr__" [])) := by
  intro pins s σ g H A vs us Q I S p rv q
  have q := kG.str q
  obtain ⟨f, hf, q⟩ := dunF ho q
  have cm := (c.wl.clsM C _ _ hf).me _ f hf
  cases p with
  | cons r p =>
  cases p
  rename_i v
  obtain ⟨u, rfl, ru⟩ := rv.one
  obtain ⟨a, ox, od, rfl, rfl, J⟩ := inst_at I S r ru ho
  obtain ⟨m, hF⟩ := I.fr
  refine PySem.W.repr_K (by have := c.room.units; show X.A.units + 1 < cLine; omega) hF I.ok.mod.kin J cm.at_ cm.fn ?_
  exact thn (c.meth1 tk hbs (vs := [.ref a]) I S (.cons rfl .nil) (.cons r .nil) q) fun u s1 ⟨v, H1, I1, rv, x, ex, h⟩ => by
    subst ex
    obtain ⟨t, rfl⟩ := rv
    exact ⟨.str x, H1, I1, ⟨_, rfl⟩, h⟩
/-- o[i] -/
theorem b_ownSub (c : Cxt G fa cf k T gfn X) (tk : Takes X W) (hbs : ∀ x ∈ bs, x ≤ b) {C : Cn} {fs : List (Str × D)} {a' b' : Expr} (hs : notSl b' = true) (ho : ov M d1 = some (C, fs)) : Op2 X T bs W (subscriptTail a' b') d1 d2 M (dun G (cf b) M d1 "__getitem__" [d2]) := by
  intro pins s σ g H A v1 v2 u1 u2 Q I S p1 p2 r1 r2 q
  obtain ⟨f, hf, q⟩ := dunF ho q
  have cm := (c.wl.clsM C _ _ hf).me _ f hf
  obtain ⟨fn, hfn, q⟩ : ∃ fn, G.fn f = some fn ∧ kG X.K T bs W g (rE X.K) A H σ Q (callP G (cf b) f [d1, d2] M) := by
    cases e : G.fn f with
    | none => unfold callP callK at q; rw [e] at q; exact q.no.elim
    | some fn => exact ⟨fn, rfl, q⟩
  obtain ⟨a, ox, od, rfl, rfl, J⟩ := inst_at I S p1 r1 ho
  obtain ⟨m, hF⟩ := I.fr
  refine PySem.W.sub_K hF I.ok.mod.kin J cm.at_ (c.wl.fns f fn hfn).fi cm.fn ?_ (ownIx_of hs _ _)
  exact c.meth1 tk hbs (vs := [.ref a, v2]) I S (.cons rfl (.cons r2 .nil)) (.cons p1 (.cons p2 .nil)) q
end
end Iv
namespace Iv
open PySem PySem.Spec PyProof.Rows L2 LamX
/-! ## an own == on the right side -/
section
open PySem.W
variable {prog : Program} {w : World} {A : Around} {E : Value → Shared → Prop} {s : Shared} {K : Frag} {x C L f : Addr} {h₀ : Heap} {m : Str → Option Value} {ox : Obj} {od : Option Obj} {a : Value} {t : String}
/-- the own method answers -/
theorem one_eq {Q : Value → Shared → Prop} (F : Fr h₀ L s.heap m) (X₀ : K.In h₀) (I : InstAt s.heap x ox C od) (hs : findIn K (.ref C) "__eq__" = some (some (.ref f))) (hf : isFn K (.ref f) = true)
    (h : wpAny (model prog w) A (call (.ref f) [.ref x, a]) (PySem.W.CmpBack Q) E s) : wpAny (model prog w) A (tryCompare (.ref x) "__eq__" a) (fun r s' => ∃ v, r = some v ∧ Q v s') E s := by
  unfold tryCompare
  refine wpAny_bind (ifBound_K (X₀.keeps F.keep) I hs hf (wpAny_mono h (fun v s' hv => ?_) fun _ _ e => e))
  cases v <;> first | exact hv.elim | exact wpAny_pure ⟨_, rfl, hv⟩
theorem one_ne {Q : Value → Shared → Prop} (hu : A.units + 1 < cLine) (F : Fr h₀ L s.heap m) (X₀ : K.In h₀) (I : InstAt s.heap x ox C od) (hmro : mroIn K C (.type "object") = some true)
    (hs : findIn K (.ref C) "__eq__" = some (some (.ref f))) (hne : findIn K (.ref C) "__ne__" = some (some (.builtin "object.__ne__"))) (hf : isFn K (.ref f) = true)
    (h : wpAny (model prog w) A.in1 (call (.ref f) [.ref x, a]) (PySem.W.BoolBack fun z s' => Q (.bool (!z)) s') E s) : wpAny (model prog w) A (tryCompare (.ref x) "__ne__" a) (fun r s' => ∃ v, r = some v ∧ Q v s') E s := by
  have X := X₀.keeps F.keep
  have call1 : wpAny (model prog w) A (call (.builtin "object.__ne__") [.ref x, a]) (fun v s' => ∃ z, v = .bool z ∧ Q (.bool z) s') E s := by
    refine wpAny_call (codeAny_call_builtin PySem.F.cmp_object.ne.plain PySem.F.cmpEntry_ne (check_slot PySem.F.cmpKind_ne PySem.F.cmpSplit_ne (I.type.andThen (looks_mroIn X hmro)) (PySem.F.cmpArgs_ne _ _) ?_))
    unfold Builtin.«object.__ne__»
    refine wpAny_bind (wpAny_pure ?_)
    dsimp only
    refine wpAny_bind (wpAny_cRoomFor hu ?_)
    refine wpAny_bind (ifBound_K X I hs hf (wpAny_mono h (fun v s' hv => ?_) fun _ _ e => e))
    cases v <;> first | exact hv.elim | skip
    exact wpAny_bind (wpAny_truthy_bool (wpAny_pure ⟨_, rfl, hv⟩))
  unfold tryCompare
  refine wpAny_bind ?_
  simp only [callSpecialIfBound?, bindSpecialIfBound?]
  refine wpAny_holding (wpAny_bind (wpAny_bind (wpAny_bind (I.type.here ((looks_findIn X hne).here ?_)))))
  refine wpAny_bind (wpAny_askSetting (wpAny_ite ?_))
  have fin : wpAny (model prog w) A (call (.builtin "object.__ne__") ([.ref x] ++ [a]) >>= fun v => pure (some v)) (fun v s' => wpAny (model prog w) A (match v with | some .notImplemented | none => pure none | some v => pure (some v)) (fun r s' => ∃ v, r = some v ∧ Q v s') E s') E s := wpAny_bind (wpAny_mono call1 (fun v s' ⟨z, e, q⟩ => by
    subst e
    exact wpAny_pure (wpAny_pure ⟨_, rfl, q⟩)) fun _ _ h' => h')
  split
  · exact wpAny_bind (wpAny_of_eq (PySem.F.cmp_object.ne.bind _) (wpAny_pure (by exact fin)))
  · exact wpAny_tryCatch (wpAny_bind (wpAny_of_eq (PySem.F.cmp_object.ne.bind _) (wpAny_pure (by exact fin))))
/-- the left one declines -/
theorem rcR {op : CmpOp} {Q : Value → Shared → Prop} (hu : A.units < cLine) (F : Fr h₀ L s.heap m) (X₀ : K.In h₀) (I : InstAt s.heap x ox C od) (hT : s.TypeIs a t) (hsub : subIn K (.ref C) (.type t) = some false)
    (hdec : ∀ {Q' : Option Value → Shared → Prop}, Q' none s → wpAny (model prog w) A (tryCompare a (cmpInfo op).2.1 (.ref x)) Q' E s)
    (one : wpAny (model prog w) A (tryCompare (.ref x) (cmpInfo op).2.2 a) (fun r s' => ∃ v, r = some v ∧ Q v s') E s) : wpAny (model prog w) A (richCompare op a (.ref x)) Q E s := by
  have X := X₀.keeps F.keep
  rcases hi : cmpInfo op with ⟨sym, f, r⟩
  rw [hi] at hdec one
  dsimp only at hdec one
  have hne : (Value.type t != Value.ref C) = true := by simp
  simp only [richCompare, hi, hT.oneThing_none]
  refine wpAny_holding (wpAny_bind (wpAny_cRoomFor hu ?_))
  refine wpAny_bind (wpAny_typeOf hT (wpAny_bind (I.type.here ?_)))
  simp only [hne, if_true]
  refine wpAny_bind ((looks_subIn X hsub).here ?_)
  simp only [Bool.false_eq_true, if_false, Bool.not_false, if_true]
  refine wpAny_bind (hdec ?_)
  refine wpAny_bind (wpAny_mono one (fun r s' z => ?_) fun _ _ e => e)
  obtain ⟨v, rfl, hq⟩ := z
  exact wpAny_pure hq
end
/-! what declines -/
section
open PySem.W
variable {prog : Program} {w : World} {A : Around} {E : Value → Shared → Prop} {s : Shared} {x C dx : Addr}
def isCmp (op : CmpOp) : Prop := op = .Eq ∨ op = .NotEq
theorem dec_by {op : CmpOp} {a : Value} {T id : String} {B : Builtin} {Q' : Option Value → Shared → Prop} (hT : s.TypeIs a T) (sl : Slot T (cmpInfo op).2.1 id) (en : entryFor table id = some B) (ar : argsOk id ⟨[a, .ref x], []⟩)
    (hB : ∀ {Q : Fin → Shared → Prop}, Q (.done (.ret .notImplemented)) s → wpAny (model prog w) A.in1 (B ⟨[a, .ref x], []⟩) Q E s) (q : Q' none s) : wpAny (model prog w) A (tryCompare a (cmpInfo op).2.1 (.ref x)) Q' E s :=
  wpAny_tryCompare_declines hT sl (wpAny_call_entry (Q := fun v s' => v = .notImplemented ∧ Q' none s') sl hT en (hB ⟨_, rfl, rfl, q⟩) ar)
theorem dec_none {op : CmpOp} (h : isCmp op) {Q' : Option Value → Shared → Prop} (q : Q' none s) : wpAny (model prog w) A (tryCompare .none (cmpInfo op).2.1 (.ref x)) Q' E s := by
  rcases h with rfl | rfl
  · exact dec_by (T := "NoneType") rfl F.slot_NoneType_eq F.entry_NoneType_eq (F.args_NoneType_eq_2 _ _) (fun {Q} z => by obtain ⟨hp, g, d, tk, os⟩ := s; wp_walk; exact z) q
  · exact dec_by (T := "NoneType") rfl F.slot_NoneType_ne F.entry_NoneType_ne (F.args_NoneType_ne_2 _ _) (fun {Q} z => by obtain ⟨hp, g, d, tk, os⟩ := s; wp_walk; exact z) q
theorem dec_int {op : CmpOp} {i : Int} {t : Tok} (h : isCmp op) (ho : s.heap.get? x = some (instObj C dx)) {Q' : Option Value → Shared → Prop} (q : Q' none s) : wpAny (model prog w) A (tryCompare (.int i t) (cmpInfo op).2.1 (.ref x)) Q' E s := by
  have ho' : s.heap.get? x = some { cls := .ref C, dict := some dx, data := .plain, slots := #[] } := ho
  rcases h with rfl | rfl
  · exact dec_by (T := "int") rfl F.slot_int_eq F.entry_int_eq (F.args_int_eq_2 _ _) (fun {Q} z => by obtain ⟨hp, g, d, tk, os⟩ := s; wp_walk using AutoSeq1.wpAny_loadPart' ho', wpAny_load ho'; exact z) q
  · exact dec_by (T := "int") rfl F.slot_int_ne F.entry_int_ne (F.args_int_ne_2 _ _) (fun {Q} z => by obtain ⟨hp, g, d, tk, os⟩ := s; wp_walk using AutoSeq1.wpAny_loadPart' ho', wpAny_load ho'; exact z) q
theorem dec_bl {op : CmpOp} {i : Bool} (h : isCmp op) (ho : s.heap.get? x = some (instObj C dx)) {Q' : Option Value → Shared → Prop} (q : Q' none s) : wpAny (model prog w) A (tryCompare (.bool i) (cmpInfo op).2.1 (.ref x)) Q' E s := by
  have ho' : s.heap.get? x = some { cls := .ref C, dict := some dx, data := .plain, slots := #[] } := ho
  rcases h with rfl | rfl
  · exact dec_by (T := "bool") rfl F.slot_bool_eq F.entry_int_eq (F.args_int_eq_2 _ _) (fun {Q} z => by obtain ⟨hp, g, d, tk, os⟩ := s; wp_walk using AutoSeq1.wpAny_loadPart' ho', wpAny_load ho'; exact z) q
  · exact dec_by (T := "bool") rfl F.slot_bool_ne F.entry_int_ne (F.args_int_ne_2 _ _) (fun {Q} z => by obtain ⟨hp, g, d, tk, os⟩ := s; wp_walk using AutoSeq1.wpAny_loadPart' ho', wpAny_load ho'; exact z) q
theorem dec_str {op : CmpOp} {i : Str} {t : Tok} (h : isCmp op) (ho : s.heap.get? x = some (instObj C dx)) {Q' : Option Value → Shared → Prop} (q : Q' none s) : wpAny (model prog w) A (tryCompare (.str i t) (cmpInfo op).2.1 (.ref x)) Q' E s := by
  have ho' : s.heap.get? x = some { cls := .ref C, dict := some dx, data := .plain, slots := #[] } := ho
  rcases h with rfl | rfl
  · exact dec_by (T := "str") rfl F.slot_str_eq F.entry_str_eq (F.args_str_eq_2 _ _) (fun {Q} z => by obtain ⟨hp, g, d, tk, os⟩ := s; wp_walk using AutoSeq1.wpAny_loadPart' ho', wpAny_load ho'; exact z) q
  · exact dec_by (T := "str") rfl F.slot_str_ne F.entry_str_ne (F.args_str_ne_2 _ _) (fun {Q} z => by obtain ⟨hp, g, d, tk, os⟩ := s; wp_walk using AutoSeq1.wpAny_loadPart' ho', wpAny_load ho'; exact z) q
theorem dec_list {op : CmpOp} {l : Addr} (h : isCmp op) (hT : s.TypeIs (.ref l) "list") (hL : Looks (model prog w) s.heap (isInstance (.ref x) (.type "list")) false) {Q' : Option Value → Shared → Prop} (q : Q' none s) : wpAny (model prog w) A (tryCompare (.ref l) (cmpInfo op).2.1 (.ref x)) Q' E s := by
  rcases h with rfl | rfl
  · exact dec_by (T := "list") hT F.slot_list_eq F.entry_list_eq (F.args_list_eq_2 _ _) (fun {Q} z => by obtain ⟨hp, g, d, tk, os⟩ := s; wp_walk using hL.here; exact z) q
  · exact dec_by (T := "list") hT F.slot_list_ne F.entry_list_ne (F.args_list_ne_2 _ _) (fun {Q} z => by obtain ⟨hp, g, d, tk, os⟩ := s; wp_walk using hL.here; exact z) q
theorem dec_tup {op : CmpOp} {l : Addr} (h : isCmp op) (hT : s.TypeIs (.ref l) "tuple") (hL : Looks (model prog w) s.heap (isInstance (.ref x) (.type "tuple")) false) {Q' : Option Value → Shared → Prop} (q : Q' none s) : wpAny (model prog w) A (tryCompare (.ref l) (cmpInfo op).2.1 (.ref x)) Q' E s := by
  rcases h with rfl | rfl
  · exact dec_by (T := "tuple") hT F.slot_tuple_eq F.entry_tuple_eq (F.args_tuple_eq_2 _ _) (fun {Q} z => by obtain ⟨hp, g, d, tk, os⟩ := s; wp_walk using hL.here; exact z) q
  · exact dec_by (T := "tuple") hT F.slot_tuple_ne F.entry_tuple_ne (F.args_tuple_ne_2 _ _) (fun {Q} z => by obtain ⟨hp, g, d, tk, os⟩ := s; wp_walk using hL.here; exact z) q
theorem dec_dict {op : CmpOp} {l : Addr} (h : isCmp op) (hT : s.TypeIs (.ref l) "dict") (hL : Looks (model prog w) s.heap (isInstance (.ref x) (.type "dict")) false) {Q' : Option Value → Shared → Prop} (q : Q' none s) : wpAny (model prog w) A (tryCompare (.ref l) (cmpInfo op).2.1 (.ref x)) Q' E s := by
  rcases h with rfl | rfl
  · exact dec_by (T := "dict") hT F.slot_dict_eq F.entry_dict_eq (F.args_dict_eq_2 _ _) (fun {Q} z => by obtain ⟨hp, g, d, tk, os⟩ := s; wp_walk using hL.here; exact z) q
  · exact dec_by (T := "dict") hT F.slot_dict_ne F.entry_dict_ne (F.args_dict_ne_2 _ _) (fun {Q} z => by obtain ⟨hp, g, d, tk, os⟩ := s; wp_walk using hL.here; exact z) q
end
/-! ## own operators, the other operand of a built-in type -/
section
open PySem.W
variable {prog : Program} {w : World} {A : Around} {E : Value → Shared → Prop} {s : Shared} {K : Frag} {x C L f f' : Addr} {h₀ : Heap} {m : Str → Option Value} {ox : Obj} {od : Option Obj} {T : String}
/-- the right operand's type is looked up -/
theorem binLk {op : Operator} {b : Value} {fo ro rc : Option Value} {Q : Value → Shared → Prop} (F : Fr h₀ L s.heap m) (X₀ : K.In h₀) (I : InstAt s.heap x ox C od) (hb : Looks (model prog w) s.heap (typeOf b) (.type T)) (hc : selfFirst K C = true)
    (hs : findIn K (.ref C) (PySem.dunder op.info.2) = some (some (.ref f))) (hf : isFn K (.ref f) = true) (hr : findIn K (.ref C) (dunderR op.info.2) = some rc) (hp : rc = none ∨ ∃ g : Addr, rc = some (.ref g))
    (h1 : findIn K (.type T) (PySem.dunder op.info.2) = some fo) (h2 : findIn K (.type T) (dunderR op.info.2) = some ro) (hsub : subIn K (.type T) (.ref C) = some false)
    (h : wpAny (model prog w) A (call (.ref f) [.ref x, b]) (PySem.W.CmpBack Q) E s) : wpAny (model prog w) A (binaryOp op (.ref x) b) Q E s := by
  have X := X₀.keeps F.keep
  obtain ⟨cd, rest, hcd, hm⟩ := ksp_first hc
  rcases hi : op.info with ⟨sym, nm⟩
  rw [hi] at hs hr h1 h2
  dsimp only at hs hr h1 h2
  have own := ksp_try X I hs hf h
  have k1 : Looks (model prog w) s.heap (typeOf (.ref x)) (.ref C) := I.type
  have k3 : Looks (model prog w) s.heap (fillsNumberSlot (.ref C) nm) true := fills_K X hcd hm hs
  have k4 : Looks (model prog w) s.heap (fillsNumberSlot (.type T) nm) ((fo.isSome && !isSeqSlot fo) || (ro.isSome && !isSeqSlot ro)) := ksp_fillsT X h1 h2
  have k5 : Looks (model prog w) s.heap (isSubtype (.type T) (.ref C)) false := looks_subIn X hsub
  have k6 : Looks (model prog w) s.heap (numberSlotInPython (.ref C) nm) true := ksp_inPy X hs hr hp
  have k7 : Looks (model prog w) s.heap (numberSlotInPython (.type T) nm) false := Looks.of_pure rfl
  have k8 : Looks (model prog w) s.heap (typeLookup (.type T) (dunderR nm)) ro := looks_findIn X h2
  generalize ((fo.isSome && !isSeqSlot fo) || (ro.isSome && !isSeqSlot ro)) = rt at k4
  have ne : (Value.ref C == Value.type T) = false := Bool.eq_false_iff.mpr fun q => by cases beq_iff_eq.mp q
  obtain ⟨hp, gg, dd, tt, os⟩ := s
  simp only [binaryOp, hi]
  refine wpAny_holding (wpAny_bind ?_)
  unfold binaryOp1
  refine wpAny_bind (k1.here (wpAny_bind (hb.here (wpAny_bind (k3.here ?_)))))
  simp only [ne, Bool.false_eq_true, if_false]
  cases rt
  all_goals
    ksp_lk
    refine wpAny_mono own (fun r s' z => ?_) fun _ _ e => e
    obtain ⟨v, rfl, hq⟩ := z
    ksp_lk
    exact hq
/-- the left operand has such a method, which declines (a bool); its type's slot is full -/
theorem binRb {op : Operator} {a : Value} {Q : Value → Shared → Prop} (F : Fr h₀ L s.heap m) (X₀ : K.In h₀) (I : InstAt s.heap x ox C od) (hc : selfFirst K C = true) (ha : typeOf a = pure (.type T))
    (hs : findIn K (.ref C) (PySem.dunder op.info.2) = some (some (.ref f))) (hr : findIn K (.ref C) (dunderR op.info.2) = some (some (.ref f'))) (hf : isFn K (.ref f') = true)
    (hfill : Looks (model prog w) s.heap (fillsNumberSlot (.type T) op.info.2) true) (hsub : subIn K (.ref C) (.type T) = some false)
    (hdec : ∀ {Q' : Option Value → Shared → Prop}, Q' none s → wpAny (model prog w) A (tryMethod a (PySem.dunder op.info.2) (.ref x)) Q' E s)
    (h : wpAny (model prog w) A (call (.ref f') [.ref x, a]) (PySem.W.CmpBack Q) E s) : wpAny (model prog w) A (binaryOp op a (.ref x)) Q E s := by
  have X := X₀.keeps F.keep
  obtain ⟨cd, rest, hcd, hm⟩ := ksp_first hc
  rcases hi : op.info with ⟨sym, nm⟩
  rw [hi] at hs hr hfill hdec
  dsimp only at hs hr hfill hdec
  have own := ksp_try X I hr hf h
  have k0 : Looks (model prog w) s.heap (typeOf a) (.type T) := Looks.of_pure ha
  have k1 : Looks (model prog w) s.heap (typeOf (.ref x)) (.ref C) := I.type
  have k3 : Looks (model prog w) s.heap (fillsNumberSlot (.ref C) nm) true := fills_K X hcd hm hs
  have k5 : Looks (model prog w) s.heap (isSubtype (.ref C) (.type T)) false := looks_subIn X hsub
  have k7 : Looks (model prog w) s.heap (numberSlotInPython (.type T) nm) false := Looks.of_pure rfl
  have ne : (Value.type T == Value.ref C) = false := Bool.eq_false_iff.mpr fun q => by cases beq_iff_eq.mp q
  simp only [binaryOp, hi]
  refine wpAny_holding (wpAny_bind ?_)
  unfold binaryOp1
  refine wpAny_bind (k0.here (wpAny_bind (k1.here (wpAny_bind (hfill.here ?_)))))
  simp only [ne, Bool.false_eq_true, if_false]
  refine wpAny_bind (k3.here ?_)
  simp only [Bool.and_self, if_true]
  refine wpAny_bind (k5.here ?_)
  simp only [Bool.false_eq_true, if_false]
  obtain ⟨hp, gg, dd, tt, os⟩ := s
  ksp_lk
  refine hdec ?_
  ksp_lk
  refine wpAny_mono own (fun r s' z => ?_) fun _ _ e => e
  obtain ⟨v, rfl, hq⟩ := z
  ksp_lk
  exact hq
/-- the left operand has no such method (None) -/
theorem binRn {op : Operator} {a : Value} {Q : Value → Shared → Prop} (F : Fr h₀ L s.heap m) (X₀ : K.In h₀) (I : InstAt s.heap x ox C od) (hc : selfFirst K C = true) (ha : typeOf a = pure (.type T))
    (hs : findIn K (.ref C) (PySem.dunder op.info.2) = some (some (.ref f))) (hr : findIn K (.ref C) (dunderR op.info.2) = some (some (.ref f'))) (hf : isFn K (.ref f') = true)
    (hfill : Looks (model prog w) s.heap (fillsNumberSlot (.type T) op.info.2) false)
    (h : wpAny (model prog w) A (call (.ref f') [.ref x, a]) (PySem.W.CmpBack Q) E s) : wpAny (model prog w) A (binaryOp op a (.ref x)) Q E s := by
  have X := X₀.keeps F.keep
  obtain ⟨cd, rest, hcd, hm⟩ := ksp_first hc
  rcases hi : op.info with ⟨sym, nm⟩
  rw [hi] at hs hr hfill
  dsimp only at hs hr hfill
  have own := ksp_try X I hr hf h
  have k0 : Looks (model prog w) s.heap (typeOf a) (.type T) := Looks.of_pure ha
  have k1 : Looks (model prog w) s.heap (typeOf (.ref x)) (.ref C) := I.type
  have k3 : Looks (model prog w) s.heap (fillsNumberSlot (.ref C) nm) true := fills_K X hcd hm hs
  have ne : (Value.type T == Value.ref C) = false := Bool.eq_false_iff.mpr fun q => by cases beq_iff_eq.mp q
  simp only [binaryOp, hi]
  refine wpAny_holding (wpAny_bind ?_)
  unfold binaryOp1
  refine wpAny_bind (k0.here (wpAny_bind (k1.here (wpAny_bind (hfill.here ?_)))))
  simp only [ne, Bool.false_eq_true, if_false]
  refine wpAny_bind (k3.here ?_)
  obtain ⟨hp, gg, dd, tt, os⟩ := s
  ksp_lk
  refine wpAny_mono own (fun r s' z => ?_) fun _ _ e => e
  obtain ⟨v, rfl, hq⟩ := z
  ksp_lk
  exact hq
end
end Iv
namespace Iv
open PySem PySem.Spec PyProof.Rows L2 LamX
section
open PySem.W
variable {prog : Program} {w : World} {A : Around} {R : Result → Shared → Prop} {E : Value → Shared → Prop} {s : Shared}
/-- y == x inside a builtin, x an own object -/
theorem eqB_own {u : Value} {x : Addr} {Q : Bool → Shared → Prop} (hne : (u == Value.ref x) = false) (h : wpAny (model prog w) A (richCompare .Eq u (.ref x)) (fun v s' => ∃ r, v = .bool r ∧ Q r s') E s) : wpAny (model prog w) A (eqBool u (.ref x)) Q E s := by
  unfold eqBool
  refine wpAny_holding ?_
  rw [hne]
  simp only [Bool.false_eq_true, if_false]
  have fin : wpAny (model prog w) A (do truthOfDropped (← richCompare .Eq u (.ref x))) Q E s := by
    refine wpAny_bind (wpAny_mono h (fun v s' hv => ?_) fun _ _ z => z)
    obtain ⟨r, rfl, q⟩ := hv
    exact wpAny_truthy_bool q
  cases u <;> exact fin
/-- the loop of x in a list: at each turn the list is read anew -/
theorem in_loop (l : Addr) (x : Value) (N : Nat) (I : Nat → Shared → Prop)
    (hl : ∀ i s, I i s → ∃ (items : Array Value) (n : Nat) (dd : Option Addr) (sl : Array (Option Value)), s.heap.get? l = some { cls := .type "list", dict := dd, data := .seq items n, slots := sl } ∧ items.size = N ∧
      ∀ h : i < items.size, wpAny (model prog w) A.in1 (eqBool items[i] x) (fun r s' => (r = true ∧ R (.ok (.ret (.bool true))) s') ∨ (r = false ∧ I (i + 1) s')) (fun e s' => R (.error e) s') s)
    (fin : ∀ s, I N s → R (.ok (.ret (.bool false))) s) (k : Nat) :
    ∀ i : Nat, N - i = k → i ≤ N → ∀ s, I i s → wpAny (model prog w) A.in1 (Builtin.«list.__contains__.loop» ⟨[.ref l, x, rawInt i], []⟩) (GQ.FinOf prog w A R) (fun e s' => R (.error e) s') s := by
  induction k with
  | zero =>
    intro i hk hi s h
    obtain ⟨items, n, dd, sl, hl1, hs1, _⟩ := hl _ _ h
    have hi' : i = N := by omega
    have hR := fin s (hi' ▸ h)
    obtain ⟨hp, g, d, tk, os⟩ := s
    wp_walk using AutoSeq1.wpAny_loadPart' hl1
    have hi1 : items[((i : Nat) : Int).toNat]? = none := by simp; omega
    rw [hi1]
    wp_walk
    exact hR
  | succ k ih =>
    intro i hk hi s h
    obtain ⟨items, n, dd, sl, hl1, hs1, turn⟩ := hl _ _ h
    have hlt : i < items.size := by omega
    have ht := turn hlt
    obtain ⟨hp, g, d, tk, os⟩ := s
    wp_walk using AutoSeq1.wpAny_loadPart' hl1
    have hi1 : items[((i : Nat) : Int).toNat]? = some items[i] := by simp [hlt]
    have hc : ((i : Int) + 1) = ((i + 1 : Nat) : Int) := by omega
    rw [hi1]
    refine wpAny_bind (wpAny_mono ht (fun r s2 h2 => ?_) fun _ _ z => z)
    rcases h2 with ⟨hr, h2⟩ | ⟨hr, h2⟩
    · subst hr
      obtain ⟨hp2, g2, d2, tk2, os2⟩ := s2
      wp_walk
      exact h2
    · subst hr
      have hrec := ih (i + 1) (by omega) (by omega) s2 h2
      obtain ⟨hp2, g2, d2, tk2, os2⟩ := s2
      wp_walk
      rw [hc]
      exact ⟨plainId_quiet MeetsSeq.plain_contains_loop _, codeAny_builtin MeetsSeq.entry_contains_loop (by
        rw [Around.under_plainId MeetsSeq.plain_contains_loop _]
        exact hrec)⟩
theorem in_call {l : Addr} {x : Value} {N : Nat} {Q : Bool → Shared → Prop} (I : Nat → Shared → Prop)
    (hl : ∀ i s, I i s → ∃ (items : Array Value) (n : Nat) (dd : Option Addr) (sl : Array (Option Value)), s.heap.get? l = some { cls := .type "list", dict := dd, data := .seq items n, slots := sl } ∧ items.size = N ∧
      ∀ h : i < items.size, wpAny (model prog w) A.in1 (eqBool items[i] x) (fun r s' => (r = true ∧ Q true s') ∨ (r = false ∧ I (i + 1) s')) E s)
    (fin : ∀ s, I N s → Q false s) (h0 : I 0 s) : wpAny (model prog w) A (contains (.ref l) x) Q E s := by
  obtain ⟨items, n, dd, sl, hl1, hs1, _⟩ := hl _ _ h0
  refine wpAny_contains_slot ⟨_, hl1, rfl⟩ F.slot_list_contains (wpAny_mono (GQ.call_here (Q := fun v s' => ∃ r, v = .bool r ∧ Q r s') F.slot_list_contains ⟨_, hl1, rfl⟩ F.entry_list_contains (F.args_list_contains_2 _ _) ?_) (fun v s' hv => ?_) fun _ _ z => z)
  · have go := in_loop (prog := prog) (w := w) (A := A) (R := wants (fun v s' => ∃ r, v = .bool r ∧ Q r s') E) l x N I (fun i s' hi => by
      obtain ⟨items, n, dd, sl, h1, h2, h3⟩ := hl i s' hi
      refine ⟨items, n, dd, sl, h1, h2, fun h => wpAny_mono (h3 h) (fun r s2 z => ?_) fun _ _ z => z⟩
      rcases z with ⟨z1, z2⟩ | z
      · exact .inl ⟨z1, _, rfl, z2⟩
      · exact .inr z) (fun s' q => ⟨_, rfl, fin s' q⟩) N 0 rfl (Nat.zero_le _) s h0
    obtain ⟨hp, g, d, tk, os⟩ := s
    wp_walk using AutoSeq1.wpAny_loadPart' hl1
    exact ⟨plainId_quiet MeetsSeq.plain_contains_loop _, codeAny_builtin MeetsSeq.entry_contains_loop (by
      rw [Around.under_plainId MeetsSeq.plain_contains_loop _]
      exact go)⟩
  · obtain ⟨r, rfl, q⟩ := hv
    exact wpAny_truthy_bool q
end
section
variable {G : Pg} {fa : Str → Addr} {cf : Nat → Cf} {k b : Nat} {gfn : Str → Bool} {X : Cx} {T : List (Addr × Str)} {bs : List Nat} {W : WX} {g : Ga} {M : Me} {d d1 d2 : D}
theorem sub_of (c : Cxt G fa cf k T gfn X) {C : Cn} {t : String} (hh : G.has C = true) (ht : t ∈ tyNs) : PySem.W.subIn X.K (.ref (ca X.K C)) (.type t) = some false := by
  have z := c.wl.isi (.c C) (.b t) false (by simp [isB, ht, hh])
  unfold tnV PySem.W.kitOne at z
  dsimp only at z
  rw [if_neg (by simp)] at z
  unfold PySem.W.kitCls at z
  dsimp only at z
  split at z
  · exact z
  · cases z
/-- the left one, of a built-in type, declines the own object x -/
theorem ref_at (c : Cxt G fa cf k T gfn X) {C : Cn} (hh : G.has C = true) {pins : List (Addr × Obj)} {s : Shared} {σ : L2.St} {H : Hp} {A : Ad} {v : V} {u : Value} {x dx : Addr} {ox : Obj} {od : Option Obj} (I : Inv X pins σ H s) (S : Sta X.K T bs A M H σ g) (r : Rp X.K A H v d) (ru : RelV v u) (h : refOk M d = true)
    (ho : s.heap.get? x = some (PySem.W.instObj (ca X.K C) dx)) (J : PySem.W.InstAt s.heap x ox (ca X.K C) od) : ∃ t, t ∈ tyNs ∧ s.TypeIs u t ∧ (u == Value.ref x) = false ∧ ∀ {op : CmpOp}, isCmp op → ∀ {A' : Around} {E' : Value → Shared → Prop} {Q' : Option Value → Shared → Prop}, Q' none s → wpAny (model X.prog X.w) A' (tryCompare u (cmpInfo op).2.1 (.ref x)) Q' E' s := by
  have lk : ∀ {t : String}, t ∈ tyNs → PySem.W.Looks (model X.prog X.w) s.heap (isInstance (.ref x) (.type t)) false := fun ht => J.type.andThen (PySem.W.looks_subIn I.kIn (sub_of c hh ht))
  have ne : ∀ {a : Addr} {o : Obj} {t : String}, s.heap.get? a = some o → o.cls = .type t → (Value.ref a == Value.ref x) = false := fun {a o t} h1 h2 => by
    refine Bool.eq_false_iff.mpr fun q => ?_
    have e := beq_iff_eq.mp q
    cases e
    rw [ho] at h1
    cases h1
    cases h2
  have list : ∀ {a : Addr} {xs : List V}, v = .ref a → SqL X.K H a xs → ∃ t, t ∈ tyNs ∧ s.TypeIs u t ∧ (u == Value.ref x) = false ∧ ∀ {op : CmpOp}, isCmp op → ∀ {A' : Around} {E' : Value → Shared → Prop} {Q' : Option Value → Shared → Prop}, Q' none s → wpAny (model X.prog X.w) A' (tryCompare u (cmpInfo op).2.1 (.ref x)) Q' E' s := fun {a xs} e hl => by
    subst e
    cases ru
    obtain ⟨its, rv, ⟨o, n, h1, h2, _⟩, _⟩ := I.list hl
    exact ⟨"list", by decide, ⟨o, h1, h2⟩, ne h1 h2, fun hc => dec_list hc ⟨o, h1, h2⟩ (lk (by decide))⟩
  have dic : ∀ {a : Addr} {xs : List (Key × V)}, v = .ref a → Rd H a (.dK xs) → ∃ t, t ∈ tyNs ∧ s.TypeIs u t ∧ (u == Value.ref x) = false ∧ ∀ {op : CmpOp}, isCmp op → ∀ {A' : Around} {E' : Value → Shared → Prop} {Q' : Option Value → Shared → Prop}, Q' none s → wpAny (model X.prog X.w) A' (tryCompare u (cmpInfo op).2.1 (.ref x)) Q' E' s := fun {a xs} e hl => by
    subst e
    cases ru
    obtain ⟨_, _, _, vs, _, hd⟩ := rd_dict I hl
    obtain ⟨o, h1, h2⟩ := hd.typeIs
    exact ⟨"dict", by decide, ⟨o, h1, h2⟩, ne h1 h2, fun hc => dec_dict hc ⟨o, h1, h2⟩ (lk (by decide))⟩
  cases d with
  | non => cases r; cases ru; exact ⟨"NoneType", by decide, rfl, rfl, fun hc => dec_none hc⟩
  | bl i => cases r; cases ru; exact ⟨"bool", by decide, rfl, rfl, fun hc => dec_bl hc ho⟩
  | int i => cases r; obtain ⟨tk, rfl⟩ := ru; exact ⟨"int", by decide, rfl, rfl, fun hc => dec_int hc ho⟩
  | str i => cases r; obtain ⟨tk, rfl⟩ := ru; exact ⟨"str", by decide, rfl, rfl, fun hc => dec_str hc ho⟩
  | tup ds =>
    obtain ⟨a, vs, rfl, h1, h2⟩ := r.tupAt
    cases ru
    obtain ⟨its, rv, ⟨o, h1, h2, _⟩, _⟩ := I.tuple h1
    exact ⟨"tuple", by decide, ⟨o, h1, h2⟩, ne h1 h2, fun hc => dec_tup hc ⟨o, h1, h2⟩ (lk (by decide))⟩
  | lst ds =>
    obtain ⟨a, vs, rfl, h1, h2⟩ := lv_at S r (show lv M (.lst ds) = some ds from rfl)
    exact list rfl h1
  | dct ds =>
    obtain ⟨a, kvs, rfl, h1, h2⟩ := dv_at S r (show dv M (.dct ds) = some ds from rfl)
    exact dic rfl h1
  | cel j =>
    unfold refOk at h
    dsimp only at h
    cases em : M[j]? with
    | none => rw [em] at h; cases h
    | some ce =>
      rw [em] at h
      cases ce with
      | lst xs =>
        obtain ⟨a, vs, rfl, h1, h2⟩ := lv_at S r (show lv M (.cel j) = some xs by simp only [lv, em])
        exact list rfl h1
      | dct xs =>
        obtain ⟨a, kvs, rfl, h1, h2⟩ := dv_at S r (show dv M (.cel j) = some xs by simp only [dv, em])
        exact dic rfl h1
      | _ => cases h
  | _ => cases h
theorem hasO_of {C : Cn} {fs : List (Str × D)} (h : hasO G M d = true) (ho : ov M d = some (C, fs)) : G.has C = true := by
  unfold hasO at h
  rw [ho] at h
  exact h
/-- a == b, b an own object, at a place with room: by its own == -/
theorem rcA (c : Cxt G fa cf k T gfn X) (tk : Takes X W) (hbs : ∀ x ∈ bs, x ≤ b) {A' : Around} {C : Cn} {fs : List (Str × D)} (ho : ov M d2 = some (C, fs)) (hh : hasO G M d2 = true) (hr : refOk M d1 = true) {pins : List (Addr × Obj)} {s : Shared} {σ : L2.St} {H : Hp} {A : Ad} {v1 v2 : V} {u1 : Value} {x : Addr} {α : Type} {rel : Ad → Hp → α → Bool → Prop} {Q : α → Hp → Prop}
    (hG : A'.guards = some []) (hrm : Room k A') (hu : A'.units < cLine) (e0 : Env0 X.prog X.w X.K X.mg X.base A' X.stack s H) (I : Inv X pins σ H s) (S : Sta X.K T bs A M H σ g) (p1 : Rp X.K A H v1 d1) (p2 : Rp X.K A H v2 d2) (r1 : RelV v1 u1) (r2 : RelV v2 (.ref x))
    (q : kG X.K T bs W g rel A H σ Q (bolR (dun G (cf b) M d2 "__eq__" [d1]))) : (u1 == Value.ref x) = false ∧ wpAny (model X.prog X.w) A' (richCompare .Eq u1 (.ref x)) (fun v s' => ∃ z M1 A1 H1, v = .bool z ∧ Inv X pins σ H1 s' ∧ Ch A H A1 H1 ∧ Sta X.K T bs A1 M1 H1 σ g ∧ bolR (dun G (cf b) M d2 "__eq__" [d1]) = .ok z M1 ∧ ∀ w, rel A1 H1 w z → Q w H1) X.xe s := by
  have hh := hasO_of hh ho
  have q' : kG X.K T bs W g rel A H σ Q ((bolR (dun G (cf b) M d2 "__eq__" [d1])).bind fun z M => .ok (id z) M) := by
    cases h : bolR (dun G (cf b) M d2 "__eq__" [d1]) with
    | ok z M1 => rw [h] at q; exact q
    | ex C fs M1 => rw [h] at q; exact q
    | no => rw [h] at q; exact q
  cases hd : dun G (cf b) M d2 "__eq__" [d1] with
  | no => rw [hd] at q; exact q.no.elim
  | ex Cx fx Mx =>
    rw [hd] at q
    have q2 : kG X.K T bs W g (rE X.K) A H σ (fun v H1 => ∃ z M1 A1, v = .bl z ∧ Ch A H A1 H1 ∧ Sta X.K T bs A1 M1 H1 σ g ∧ bolR (R.ex Cx fx Mx) = .ok z M1 ∧ ∀ w, rel A1 H1 w z → Q w H1) (dun G (cf b) M d2 "__eq__" [d1]) := by
      rw [hd]
      cases q with
      | ex h => exact .ex h
    obtain ⟨f, hf, q3⟩ := dunF ho q2
    have cx := c.wl.clsM C _ _ hf
    have cm := cx.me _ f hf
    obtain ⟨a, dx, fvs, e, ha, rf⟩ := ov_at S p2 ho
    subst e
    cases r2
    obtain ⟨mA, O, _⟩ := ins_get I.hok ha
    obtain ⟨od, J, _⟩ := O.look
    obtain ⟨m, hF⟩ := I.fr
    obtain ⟨t, t1, t2, t3, t4⟩ := ref_at c hh I S p1 r1 hr O.obj J
    refine ⟨t3, rcR hu hF I.ok.mod.kin J t2 (sub_of c hh t1) (t4 (.inl rfl)) (one_eq hF I.ok.mod.kin J cm.at_ cm.fn ?_)⟩
    exact thn (c.methA tk hbs (vs := [.ref x, v1]) hG hrm e0 I S (.cons rfl (.cons r1 .nil)) (.cons p2 (.cons p1 .nil)) q3) fun u s1 ⟨v, H1, I1, rv, z, M1, A1, ez, c1, S1, e1, h⟩ => by
      subst ez
      obtain rfl : u = Value.bool z := rv
      exact ⟨z, M1, A1, H1, rfl, I1, c1, S1, e1, h⟩
  | ok dd Mx =>
    cases dd with
    | bl z0 =>
      rw [hd] at q
      have q2 : kG X.K T bs W g (rE X.K) A H σ (fun v H1 => ∃ z M1 A1, v = .bl z ∧ Ch A H A1 H1 ∧ Sta X.K T bs A1 M1 H1 σ g ∧ bolR (R.ok (D.bl z0) Mx) = .ok z M1 ∧ ∀ w, rel A1 H1 w z → Q w H1) (dun G (cf b) M d2 "__eq__" [d1]) := by
        rw [hd]
        refine .ok fun A' v H' cc S' r => ?_
        cases r
        exact ⟨z0, Mx, A', rfl, cc, S', rfl, fun w hw => q.get' cc S' hw⟩
      obtain ⟨f, hf, q3⟩ := dunF ho q2
      have cx := c.wl.clsM C _ _ hf
      have cm := cx.me _ f hf
      obtain ⟨a, dx, fvs, e, ha, rf⟩ := ov_at S p2 ho
      subst e
      cases r2
      obtain ⟨mA, O, _⟩ := ins_get I.hok ha
      obtain ⟨od, J, _⟩ := O.look
      obtain ⟨m, hF⟩ := I.fr
      obtain ⟨t, t1, t2, t3, t4⟩ := ref_at c hh I S p1 r1 hr O.obj J
      refine ⟨t3, rcR hu hF I.ok.mod.kin J t2 (sub_of c hh t1) (t4 (.inl rfl)) (one_eq hF I.ok.mod.kin J cm.at_ cm.fn ?_)⟩
      exact thn (c.methA tk hbs (vs := [.ref x, v1]) hG hrm e0 I S (.cons rfl (.cons r1 .nil)) (.cons p2 (.cons p1 .nil)) q3) fun u s1 ⟨v, H1, I1, rv, z, M1, A1, ez, c1, S1, e1, h⟩ => by
        subst ez
        obtain rfl : u = Value.bool z := rv
        exact ⟨z, M1, A1, H1, rfl, I1, c1, S1, e1, h⟩
    | _ => rw [hd] at q; exact q.no.elim
theorem c_refEq (c : Cxt G fa cf k T gfn X) (tk : Takes X W) (hbs : ∀ x ∈ bs, x ≤ b) {C : Cn} {fs : List (Str × D)} (ho : ov M d2 = some (C, fs)) (hh : hasO G M d2 = true) (hr : refOk M d1 = true) : Op2 X T bs W (compareOp .Eq) d1 d2 M (cmpB (bolR (dun G (cf b) M d2 "__eq__" [d1]))) := by
  intro pins s σ g H A v1 v2 u1 u2 Q I S p1 p2 r1 r2 q
  obtain ⟨a, dx, fvs, e, ha, rf⟩ := ov_at S p2 ho
  subst e
  obtain rfl : u2 = Value.ref a := r2
  have q' : kG X.K T bs W g (fun _ _ (v : V) z => v = .bl z) A H σ Q (bolR (dun G (cf b) M d2 "__eq__" [d1])) := by
    cases h : bolR (dun G (cf b) M d2 "__eq__" [d1]) with
    | ok z M1 => rw [h] at q; exact .ok fun A' v H' cc S' e => by subst e; exact q.get' cc S' .bl
    | ex Cx fx Mx => rw [h] at q; cases q with | ex h => exact .ex h
    | no => rw [h] at q; exact q.no.elim
  obtain ⟨_, z⟩ := rcA c tk hbs ho hh hr c.gd (c.room.mono (by omega)) c.room.units0 I.env0 I S p1 p2 r1 rfl q'
  exact thn z fun u s1 ⟨z, M1, A1, H1, e, I1, c1, S1, e1, h⟩ => by
    subst e
    exact ⟨.bl z, H1, I1, rfl, h _ rfl⟩
theorem c_refNe (c : Cxt G fa cf k T gfn X) (tk : Takes X W) (hbs : ∀ x ∈ bs, x ≤ b) {C : Cn} {fs : List (Str × D)} (ho : ov M d2 = some (C, fs)) (hh : hasO G M d2 = true) (hr : refOk M d1 = true) : Op2 X T bs W (compareOp .NotEq) d1 d2 M (cmpB ((bolR (dun G (cf b) M d2 "__eq__" [d1])).bind fun z M => .ok (!z) M)) := by
  intro pins s σ g H A v1 v2 u1 u2 Q I S p1 p2 r1 r2 q
  have hh := hasO_of hh ho
  have e : cmpB ((bolR (dun G (cf b) M d2 "__eq__" [d1])).bind fun z M => .ok (!z) M) = (bolR (dun G (cf b) M d2 "__eq__" [d1])).bind fun z M => .ok (.bl (!z)) M := by
    unfold cmpB
    cases bolR (dun G (cf b) M d2 "__eq__" [d1]) <;> rfl
  rw [e] at q
  have q := kG.bol q
  obtain ⟨f, hf, q⟩ := dunF ho q
  have cx := c.wl.clsM C _ _ hf
  have cm := cx.me _ f hf
  obtain ⟨a, dx, fvs, e, ha, rf⟩ := ov_at S p2 ho
  subst e
  obtain rfl : u2 = Value.ref a := r2
  obtain ⟨mA, O, _⟩ := ins_get I.hok ha
  obtain ⟨od, J, _⟩ := O.look
  obtain ⟨m, hF⟩ := I.fr
  obtain ⟨t, t1, t2, t3, t4⟩ := ref_at c hh I S p1 r1 hr O.obj J
  refine rcR c.room.units0 hF I.ok.mod.kin J t2 (sub_of c hh t1) (t4 (.inr rfl)) (one_ne (by have := c.room.units; omega) hF I.ok.mod.kin J cx.cty.2.2.2 cm.at_ (cx.neq f hf) cm.fn ?_)
  exact thn (c.meth1 tk hbs (vs := [.ref a, v1]) I S (.cons rfl (.cons r1 .nil)) (.cons p2 (.cons p1 .nil)) q) fun u s1 ⟨v, H1, I1, rv, z, M1, A1, ez, c1, S1, h⟩ => by
    subst ez
    obtain rfl : u = Value.bool z := rv
    exact ⟨.bl (!z), H1, I1, rfl, h _ .bl⟩
/-- x in a list of what declines it, by the own == of x -/
theorem wp_inOwn (c : Cxt G fa cf k T gfn X) (tk : Takes X W) (hbs : ∀ x ∈ bs, x ≤ b) {f : Bool → Bool} {ys : List D} {C : Cn} {fs : List (Str × D)} (ho : ov M d1 = some (C, fs)) {pins : List (Addr × Obj)} {s : Shared} {σ : L2.St} {H : Hp} {A : Ad} {v1 v2 : V} {u1 u2 : Value} {Q : VK} (I : Inv X pins σ H s) (S : Sta X.K T bs A M H σ g) (p1 : Rp X.K A H v1 d1) (p2 : Rp X.K A H v2 (.lst ys)) (r1 : RelV v1 u1) (r2 : RelV v2 u2)
    (q : kG X.K T bs W g (rE X.K) A H σ Q ((inOwn G (cf b) d1 ys M).bind fun z M => .ok (.bl (f z)) M)) : wpAny (model X.prog X.w) X.A (contains u2 u1) (fun z s' => ∃ H1, Inv X pins σ H1 s' ∧ Q (.bl (f z)) H1) X.xe s := by
  obtain ⟨x, dx, fvs, e, ha, rf⟩ := ov_at S p1 ho
  subst e
  obtain rfl : u1 = Value.ref x := r1
  obtain ⟨l, vs, rfl, hl⟩ : ∃ l vs, v2 = .ref l ∧ A.out l ∧ H l = some (.lst vs) ∧ RpL X.K A H vs ys := by
    cases p2 with
    | lst n h r => exact ⟨_, _, rfl, n, h, r⟩
  obtain rfl : u2 = Value.ref l := r2
  obtain ⟨ln, lh, lr⟩ := hl
  refine in_call (N := ys.length) (fun i s' => ∃ (M1 : Me) (A1 : Ad) (H1 : Hp), Inv X pins σ H1 s' ∧ Ch A H A1 H1 ∧ Sta X.K T bs A1 M1 H1 σ g ∧ kG X.K T bs W g (rE X.K) A1 H1 σ Q ((inOwn G (cf b) d1 (ys.drop i) M1).bind fun z M => .ok (.bl (f z)) M)) (fun i s' hi => ?_) (fun s' hi => ?_) ⟨M, A, H, I, Ch.refl, S, q⟩
  · obtain ⟨M1, A1, H1, I1, c1, S1, k1⟩ := hi
    have lh1 : H1 l = some (.lst vs) := c1.keep l _ lh ln.1 trivial
    obtain ⟨its, rv, ⟨⟨cls, dd, data, sl⟩, n, h1, h2, h3⟩, _⟩ := I1.list (SqL.of lh1)
    dsimp only at h2 h3
    obtain ⟨h4, h5⟩ := h3
    subst h2 h4 h5
    have hlen : its.toArray.size = ys.length := by
      rw [List.size_toArray, ← rv.length, lr.length]
    refine ⟨its.toArray, n, none, sl, h1, hlen, fun hlt => ?_⟩
    have hiy : i < ys.length := by rw [← hlen]; exact hlt
    have ey : ys.drop i = ys[i] :: ys.drop (i + 1) := List.drop_eq_getElem_cons hiy
    rw [ey] at k1
    obtain ⟨vy, hvy, ry⟩ := lr.get (List.getElem?_eq_getElem hiy)
    obtain ⟨uy, huy, ruy⟩ := rv.get hvy
    have e1 : its.toArray[i] = uy := by
      have z := List.getElem?_eq_some_iff.mp huy
      obtain ⟨z1, z2⟩ := z
      simp [z2]
    rw [e1]
    unfold inOwn at k1
    by_cases hc : (refOk M1 ys[i] && hasO G M1 d1) = true
    · rw [if_pos hc] at k1
      obtain ⟨hr, hh⟩ := b2 hc
      obtain ⟨C1, fs1, ho1⟩ : ∃ C1 fs1, ov M1 d1 = some (C1, fs1) := by
        unfold hasO at hh
        cases e : ov M1 d1 with
        | none => rw [e] at hh; cases hh
        | some p => exact ⟨p.1, p.2, rfl⟩
      have k2 : kG X.K T bs W g (fun A2 H2 (_ : Unit) z => ∃ M2, Sta X.K T bs A2 M2 H2 σ g ∧ bolR (dun G (cf b) M1 d1 "__eq__" [ys[i]]) = .ok z M2) A1 H1 σ (fun _ H2 => True) (bolR (dun G (cf b) M1 d1 "__eq__" [ys[i]])) := by
        cases h : bolR (dun G (cf b) M1 d1 "__eq__" [ys[i]]) with
        | ok z M2 => exact .ok fun _ _ _ _ _ _ => trivial
        | ex Cx fx Mx => rw [h] at k1; cases k1 with | ex h => exact .ex h
        | no => rw [h] at k1; exact k1.no.elim
      obtain ⟨hne, z⟩ := rcA c tk hbs (A' := X.A.in1) ho1 hh hr (by rw [guards_in1']; exact c.gd) (c.room.mono (j := k + 1) (by omega)).in1 (c.room.mono (j := k + 1) (by omega)).in1.units0 I1.env0.in1 I1 S1 (ry.mono c1) (p1.mono c1) ruy rfl k2
      refine eqB_own hne (thn z fun u s2 ⟨z, M2, A2, H2, e, I2, c2, S2, e2, _⟩ => ⟨z, e, ?_⟩)
      rw [e2, R.bind_ok] at k1
      cases z with
      | true => exact .inl ⟨rfl, H2, I2, (k1.mono c2).get S2 .bl⟩
      | false => exact .inr ⟨rfl, M2, A2, H2, I2, c1.trans c2, S2, k1.mono c2⟩
    · rw [if_neg hc] at k1
      exact k1.no.elim
  · obtain ⟨M1, A1, H1, I1, c1, S1, k1⟩ := hi
    rw [List.drop_length] at k1
    unfold inOwn at k1
    exact ⟨H1, I1, k1.get S1 .bl⟩
theorem c_inOwn (c : Cxt G fa cf k T gfn X) (tk : Takes X W) (hbs : ∀ x ∈ bs, x ≤ b) {ys : List D} {C : Cn} {fs : List (Str × D)} (ho : ov M d1 = some (C, fs)) : Op2 X T bs W (compareOp .In) d1 (.lst ys) M (cmpB (inOwn G (cf b) d1 ys M)) ∧ Op2 X T bs W (compareOp .NotIn) d1 (.lst ys) M (cmpB ((inOwn G (cf b) d1 ys M).bind fun z M => .ok (!z) M)) := by
  constructor
  · intro pins s σ g H A v1 v2 u1 u2 Q I S p1 p2 r1 r2 q
    have z := wp_inOwn c tk hbs (f := id) ho I S p1 p2 r1 r2 q
    show wpAny _ X.A (do return Value.bool (← contains u2 u1)) _ _ s
    exact wpAny_bind (thn z fun z s1 ⟨H1, I1, h⟩ => wpAny_pure ⟨.bl z, H1, I1, rfl, h⟩)
  · intro pins s σ g H A v1 v2 u1 u2 Q I S p1 p2 r1 r2 q
    have e : cmpB ((inOwn G (cf b) d1 ys M).bind fun z M => .ok (!z) M) = (inOwn G (cf b) d1 ys M).bind fun z M => .ok (.bl (!z)) M := by
      unfold cmpB
      cases inOwn G (cf b) d1 ys M <;> rfl
    rw [e] at q
    have z := wp_inOwn c tk hbs (f := (!·)) ho I S p1 p2 r1 r2 q
    show wpAny _ X.A (do return Value.bool (!(← contains u2 u1))) _ _ s
    exact wpAny_bind (thn z fun z s1 ⟨H1, I1, h⟩ => wpAny_pure ⟨.bl (!z), H1, I1, rfl, h⟩)
end
end Iv
namespace Iv
open PySem PySem.Spec PyProof.Rows L2 LamX
section
variable {prog : Program} {w : World} {A : Around} {E : Value → Shared → Prop} {s : Shared}
theorem bl_dec {i : Bool} {x C dx : Addr} {f : Int → Int → Sem Fin} {nm : String} {Q : Fin → Shared → Prop} (ho : s.heap.get? x = some (PySem.W.instObj C dx)) (q : Q (.done (.ret .notImplemented)) s) : wpAny (model prog w) A (Builtin.Int.intBinary nm f false ⟨[.bool i, .ref x], []⟩) Q E s := by
  obtain ⟨hp, g, d, tk, os⟩ := s
  have ho' : hp.get? x = some { cls := .ref C, dict := some dx, data := .plain, slots := #[] } := ho
  unfold Builtin.Int.intBinary
  wp_walk using AutoSeq1.wpAny_loadPart' ho'
  exact q
theorem try_slotB {i : Bool} {x C dx : Addr} {f : Int → Int → Sem Fin} {nm id : String} {name : Str} {Q' : Option Value → Shared → Prop} (ho : s.heap.get? x = some (PySem.W.instObj C dx)) (sl : Slot "bool" name id) {B : Builtin} (en : entryFor table id = some B) (hB : B = Builtin.Int.intBinary nm f false) (ar : argsOk id ⟨[.bool i, .ref x], []⟩) (q : Q' none s) : wpAny (model prog w) A (tryMethod (.bool i) name (.ref x)) Q' E s := by
  subst hB
  unfold tryMethod
  refine wpAny_bind (wpAny_callSpecial?_slot (PySem.typeIs_bool s i) sl ?_)
  exact wpAny_call_entry (Q := fun v s' => wpAny (model prog w) A (match (some v : Option Value) with | some .notImplemented | none => pure none | some v => pure (some v)) Q' E s') sl (PySem.typeIs_bool s i) en (bl_dec ho ⟨_, rfl, pass_none q⟩) ar
theorem dec_blM {op : Operator} (h : op = .Add ∨ op = .Sub ∨ op = .Mult) {i : Bool} {x C dx : Addr} {Q' : Option Value → Shared → Prop} (ho : s.heap.get? x = some (PySem.W.instObj C dx)) (q : Q' none s) : wpAny (model prog w) A (tryMethod (.bool i) (PySem.dunder op.info.2) (.ref x)) Q' E s := by
  rcases h with rfl | rfl | rfl
  · obtain ⟨f, hf⟩ := b_add
    exact @try_slotB prog w A E s i x C dx f "__add__" "int.__add__" (PySem.dunder "add") Q' ho F.slot_bool_add Builtin.«int.__add__» F.entry_int_add hf (F.args_int_add_2 _ _) q
  · obtain ⟨f, hf⟩ := b_sub
    exact @try_slotB prog w A E s i x C dx f "__sub__" "int.__sub__" (PySem.dunder "sub") Q' ho F.slot_bool_sub Builtin.«int.__sub__» F.entry_int_sub hf (F.args_int_sub_2 _ _) q
  · obtain ⟨f, hf⟩ := b_mul
    exact @try_slotB prog w A E s i x C dx f "__mul__" "int.__mul__" (PySem.dunder "mul") Q' ho F.slot_bool_mul Builtin.«int.__mul__» F.entry_int_mul hf (F.args_int_mul_2 _ _) q
end
theorem fills_blM {op : Operator} (h : op = .Add ∨ op = .Sub ∨ op = .Mult) {M : Model} {hp : Heap} : PySem.W.Looks M hp (fillsNumberSlot (.type "bool") op.info.2) true := by
  rcases h with rfl | rfl | rfl
  · exact PySem.W.Looks.of_pure F.fills_bool_add
  · exact PySem.W.Looks.of_pure F.fills_bool_sub
  · exact PySem.W.Looks.of_pure F.fills_bool_mul
theorem noF (nm : String) (h1 : typeLookup (.type "NoneType") (PySem.dunder nm) = pure none) (h2 : typeLookup (.type "NoneType") (dunderR nm) = pure none) : fillsNumberSlot (.type "NoneType") nm = pure false := by
  unfold fillsNumberSlot
  simp only [h1, h2]
  rfl
theorem fills_nonM {op : Operator} (h : op = .Add ∨ op = .Sub ∨ op = .Mult) {M : Model} {hp : Heap} : PySem.W.Looks M hp (fillsNumberSlot (.type "NoneType") op.info.2) false := by
  rcases h with rfl | rfl | rfl
  · exact PySem.W.Looks.of_pure (noF "add" (by rw [typeLookup_type, builtinLookup_eq_fast]; kernel_rfl) (by rw [typeLookup_type, builtinLookup_eq_fast]; kernel_rfl))
  · exact PySem.W.Looks.of_pure (noF "sub" (by rw [typeLookup_type, builtinLookup_eq_fast]; kernel_rfl) (by rw [typeLookup_type, builtinLookup_eq_fast]; kernel_rfl))
  · exact PySem.W.Looks.of_pure (noF "mul" (by rw [typeLookup_type, builtinLookup_eq_fast]; kernel_rfl) (by rw [typeLookup_type, builtinLookup_eq_fast]; kernel_rfl))
end Iv
namespace Iv
open PySem PySem.Spec PyProof.Rows L2 LamX
/-! ## dicts -/
section
variable {K : PySem.W.Frag} {A : Ad} {H : Hp}
theorem keyOf_at {d : D} {v : V} {k : Key} (h : keyOf d = some k) (r : Rp K A H v d) : v = kV k := by
  cases d with
  | int i => cases h; cases r; rfl
  | str i => cases h; cases r; rfl
  | _ => cases h
theorem RpK.getK {k : Key} : ∀ {vs : List (Key × V)} {ds : List (Key × D)}, RpK K A H vs ds → (∀ d, kget ds k = some d → ∃ v, valV vs k = some v ∧ Rp K A H v d) ∧ (kget ds k = none → valV vs k = none)
  | _, _, .nil => ⟨(fun d h => by cases h), fun _ => rfl⟩
  | _, _, @RpK.cons _ _ _ q v d vs ds r t => by
    by_cases h : q = k
    · subst h
      have e1 : kget ((q, d) :: ds) q = some d := by simp [kget]
      have e2 : valV ((q, v) :: vs) q = some v := by simp [valV]
      rw [e1, e2]
      exact ⟨(fun d2 hd => ⟨v, rfl, by cases hd; exact r⟩), fun hn => by cases hn⟩
    · have e1 : kget ((q, d) :: ds) k = kget ds k := by simp [kget, h]
      have e2 : valV ((q, v) :: vs) k = valV vs k := by simp [valV, h]
      rw [e1, e2]
      exact t.getK
theorem RpK.isSomeK {k : Key} {vs : List (Key × V)} {ds : List (Key × D)} (r : RpK K A H vs ds) : (valV vs k).isSome = (kget ds k).isSome := by
  cases e : kget ds k with
  | none => rw [r.getK.2 e]; rfl
  | some d =>
    obtain ⟨v, h, _⟩ := r.getK.1 d e
    rw [h]
    rfl
theorem RpK.anyK {k : Key} : ∀ {vs : List (Key × V)} {ds : List (Key × D)}, RpK K A H vs ds → (vs.any fun kv => decide (kv.1 = k)) = ds.any fun kv => decide (kv.1 = k)
  | _, _, .nil => rfl
  | _, _, .cons _ t => by
    rw [List.any_cons, List.any_cons, t.anyK]
theorem RpK.mapK {k : Key} {v : V} {d : D} (r : Rp K A H v d) : ∀ {vs : List (Key × V)} {ds : List (Key × D)}, RpK K A H vs ds → RpK K A H (vs.map fun kv => if kv.1 = k then (kv.1, v) else kv) (ds.map fun kv => if kv.1 = k then (kv.1, d) else kv)
  | _, _, .nil => .nil
  | _, _, @RpK.cons _ _ _ q v2 d2 vs ds r2 t => by
    rw [List.map_cons, List.map_cons]
    by_cases h : q = k
    · rw [if_pos h, if_pos h]
      exact .cons r (t.mapK r)
    · rw [if_neg h, if_neg h]
      exact .cons r2 (t.mapK r)
theorem RpK.app : ∀ {vs ws : List (Key × V)} {ds es : List (Key × D)}, RpK K A H vs ds → RpK K A H ws es → RpK K A H (vs ++ ws) (ds ++ es)
  | _, _, _, _, .nil, r => r
  | _, _, _, _, .cons r t, q => .cons r (t.app q)
theorem RpK.put {k : Key} {v : V} {d : D} {vs : List (Key × V)} {ds : List (Key × D)} (r : Rp K A H v d) (t : RpK K A H vs ds) : RpK K A H (putK vs k v) (kput ds k d) := by
  unfold putK kput
  rw [t.anyK]
  split
  · exact t.mapK r
  · exact t.app (.cons r .nil)
theorem RpK.puts : ∀ {vs ws : List (Key × V)} {ds es : List (Key × D)}, RpK K A H vs ds → RpK K A H ws es → RpK K A H (mergeK vs ws) (kputs ds es)
  | _, _, _, _, t, .nil => t
  | _, _, _, _, t, @RpK.cons _ _ _ kk _ _ _ _ r q => by
    have z := RpK.puts (RpK.put (k := kk) r t) q
    exact z
theorem RpL.rev : ∀ {vs : List V} {ds : List D}, RpL K A H vs ds → RpL K A H vs.reverse ds.reverse
  | _, _, .nil => .nil
  | _, _, .cons r t => by
    rw [List.reverse_cons, List.reverse_cons]
    exact (RpL.rev t).append (.cons r .nil)
theorem RpK.length : ∀ {vs : List (Key × V)} {ds : List (Key × D)}, RpK K A H vs ds → vs.length = ds.length
  | _, _, .nil => rfl
  | _, _, .cons _ t => by rw [List.length_cons, List.length_cons, t.length]
/-- a list of pairs -/
theorem kvs_at : ∀ {vs : List V} {ds : List D} {kds : List (Key × D)}, RpL K A H vs ds → pairsD ds = some kds → ∃ (ps : List Addr) (kvs : List (Key × V)), vs = ps.map V.ref ∧ Paired (fun p kv => SqT K H p [kV kv.1, kv.2]) ps kvs ∧ RpK K A H kvs kds
  | _, [], _, r, e => by
    cases r
    cases e
    exact ⟨[], [], rfl, .nil, .nil⟩
  | _, d :: ds, kds, r, e => by
    cases r with
    | @cons v _ vs _ r1 r2 =>
      unfold pairsD at e
      split at e
      · rename_i e0
        cases e0
      · rename_i k x r0 e0
        injection e0 with e1 e2
        subst e1 e2
        obtain ⟨q, hq, e⟩ := Option.bind_eq_some_iff.mp e
        obtain ⟨rest, hr, e⟩ := Option.map_eq_some_iff.mp e
        subst e
        obtain ⟨ps, kvs, h1, h2, h3⟩ := kvs_at r2 hr
        obtain ⟨a, us, rfl, ha, ru⟩ := r1.tupAt
        cases ru with
        | cons rk ru =>
          cases ru with
          | cons rx ru =>
            cases ru
            have e := keyOf_at hq rk
            subst e
            exact ⟨a :: ps, (q, _) :: kvs, by rw [h1]; rfl, .cons ha h2, .cons rx h3⟩
      · cases e
end
section
variable {prog : Program} {w : World} {A : Around} {E : Value → Shared → Prop} {s : Shared}
/-- the last part of d[i] -/
theorem subT_dict {value slice : Expr} {o i : Value} {Q : Value → Shared → Prop} (hT : s.TypeIs o "dict") (hs : subscripted slice false o i = operate [o, i] (getItem o i)) (h : wpAny (model prog w) A (getItem o i) Q E s) : wpAny (model prog w) A (subscriptTail value slice o i) Q E s := by
  have fin : wpAny (model prog w) A (subscripted slice false o i) (fun r s' => wpAny (model prog w) A (letTemporaryGo value o r >>= fun _ => pure r) Q E s') E s := by
    rw [hs]
    exact wpAny_operating (wpAny_mono h (fun r s' q => wpAny_bind (wpAny_letTemporaryGo (wpAny_pure q))) fun _ _ z => z)
  unfold subscriptTail
  refine wpAny_bind (?_ : wpAny (model prog w) A _ _ E s)
  rw [getitemInPython_of_ne hT.not_modules]
  refine wpAny_bind (wpAny_specialOf hT PySem.F.slot_dict_getitem.lookup ?_)
  first | exact wpAny_pure (wpAny_bind fin) | exact wpAny_bind (wpAny_pure (wpAny_bind fin)) | exact wpAny_bind fin
end
section
variable {G : Pg} {fa : Str → Addr} {cf : Nat → Cf} {k b : Nat} {gfn : Str → Bool} {X : Cx} {T : List (Addr × Str)} {bs : List Nat} {W : WX} {g : Ga} {M : Me} {d d1 d2 : D}
theorem b_dget (c : Cxt G fa cf k T gfn X) {a' b' : Expr} {kds : List (Key × D)} {q : Key} (hs : PlainIx b') (h1 : dv M d1 = some kds) (h2 : keyOf d2 = some q) : Op2 X T bs W (subscriptTail a' b') d1 d2 M (R.of M (kget kds q)) := by
  intro pins s σ g H A v1 v2 u1 u2 Q I S p1 p2 r1 r2 kk
  cases e : kget kds q with
  | none => rw [e] at kk; exact kk.no.elim
  | some d =>
    rw [e] at kk
    obtain ⟨a, kvs, rfl, hr, rk⟩ := dv_at S p1 h1
    cases r1
    have ev := keyOf_at h2 p2
    subst ev
    obtain ⟨v, hv, rv⟩ := rk.getK.1 d e
    have g1 : DGet H a (kV q) (some v) := .inl ⟨kvs, q, hr, rfl, hv.symm⟩
    exact subT_dict (dict_typeIs I g1) (hs _ _) (d_getItem (by have := c.room.units; omega) I g1 r2 fun w' s' I' rw' => ⟨v, H, I', rw', kk.get S rv⟩)
theorem c_din (c : Cxt G fa cf k T gfn X) {kds : List (Key × D)} {q : Key} (h1 : dv M d2 = some kds) (h2 : keyOf d1 = some q) : Op2 X T bs W (compareOp .In) d1 d2 M (cmpB (.ok (kget kds q).isSome M)) ∧ Op2 X T bs W (compareOp .NotIn) d1 d2 M (cmpB ((R.ok (kget kds q).isSome M).bind fun z M => .ok (!z) M)) := by
  constructor
  · intro pins s σ g H A v1 v2 u1 u2 Q I S p1 p2 r1 r2 kk
    obtain ⟨a, kvs, rfl, hr, rk⟩ := dv_at S p2 h1
    cases r2
    have ev := keyOf_at h2 p1
    subst ev
    have g1 : DGet H a (kV q) (valV kvs q) := .inl ⟨kvs, q, hr, rfl, rfl⟩
    refine d_in (by have := c.room.units; omega) I g1 r1 fun s' I' => ⟨.bl _, H, I', rfl, ?_⟩
    rw [rk.isSomeK]
    exact kk.get S .bl
  · intro pins s σ g H A v1 v2 u1 u2 Q I S p1 p2 r1 r2 kk
    obtain ⟨a, kvs, rfl, hr, rk⟩ := dv_at S p2 h1
    cases r2
    have ev := keyOf_at h2 p1
    subst ev
    have g1 : DGet H a (kV q) (valV kvs q) := .inl ⟨kvs, q, hr, rfl, rfl⟩
    refine d_notIn (by have := c.room.units; omega) I g1 r1 fun s' I' => ⟨.bl _, H, I', rfl, ?_⟩
    rw [rk.isSomeK]
    exact kk.get S .bl
theorem b_dlen {kds : List (Key × D)} (h1 : dv M d = some kds) : OpN X T bs W (fun us => PySem.call (.builtin "len") us) [d] M (.ok (.int kds.length) M) := by
  intro pins s σ g H A vs us Q I S p rv q
  cases p with
  | cons r p =>
  cases p
  obtain ⟨u, rfl, ru⟩ := rv.one
  obtain ⟨a, kvs, rfl, hr, rk⟩ := dv_at S r h1
  cases ru
  refine d_len I hr fun t s' I' => ⟨.int kvs.length, H, I', ⟨t, rfl⟩, ?_⟩
  rw [rk.length]
  exact q.get S .int
/-- a new dict -/
theorem kG.newD {σ : L2.St} {g : Ga} {H : Hp} {A : Ad} {Q : VK} {kds : List (Key × D)} {kvs : List (Key × V)} {p : Addr} (S : Sta X.K T bs A M H σ g) (hp : H p = none) (rl : RpK X.K A H kvs kds) (k : kG X.K T bs W g (rE X.K) A H σ Q (.ok (.dct kds) M)) : Q (.ref p) (upd H p (.dK kvs)) :=
  k.get' (Ch.laid hp) (S.laid hp) (.dct (S.fresh hp) (.inl upd_same) (rl.mono (Ch.laid hp)))
theorem kG.newDC {σ : L2.St} {g : Ga} {H : Hp} {A : Ad} {Q : VK} {kds : List (Key × D)} {kvs : List (Key × V)} {p : Addr} (S : Sta X.K T bs A M H σ g) (hp : H p = none) (rl : RpK X.K A H kvs kds) (k : kG X.K T bs W g (rE X.K) A H σ Q (.ok (.cel M.length) (M ++ [.dct kds]))) : Q (.ref p) (upd H p (.dK kvs)) :=
  k.get' (Ch.cell hp) (S.newCell hp (.dct upd_same (rl.mono (Ch.cell hp)))) (.cel (by show (A.as ++ [p])[_]? = _; rw [← S.alen, List.getElem?_append_right (Nat.le_refl _), Nat.sub_self]; rfl))
variable {pos : Pos}
theorem je_dct0 : JE X T bs W g M (.Dict [] [] pos) (.ok (.dct []) M) := je fun pins s σ H A Q I S k => pe_dnewK.run pins s σ H Q I fun p hp => kG.newD S hp .nil k
theorem je_dct0C : JE X T bs W g M (.Dict [] [] pos) (.ok (.cel M.length) (M ++ [.dct []])) := je fun pins s σ H A Q I S k => pe_dnewK.run pins s σ H Q I fun p hp => kG.newDC S hp .nil k
theorem je_dct1 {i j : Int} {n1 n2 : Nat} {p1 p2 : Pos} : JE X T bs W g M (.Dict [some (.Constant (.int i) n1 p1)] [.Constant (.int j) n2 p2] pos) (.ok (.dct [(.inl i, .int j)]) M) := je fun pins s σ H A Q I S k =>
  (pe_disp (pps_cons pe_int pe_int pps_nil) rfl rfl (fun z => by cases z) (by simp)).run pins s σ H Q I fun p hp => ⟨upd_same, [(.inl i, .int j)], rfl, by simp, by
    have e : upd (upd H p (.dK [])) p (.dK (mergeK [] [((.inl i : Key), V.int j)])) = upd H p (.dK [((.inl i : Key), V.int j)]) := by
      funext a
      by_cases h : a = p
      · subst h
        rw [upd_same, upd_same]
        rfl
      · rw [upd_ne h, upd_ne h, upd_ne h]
    rw [e]
    exact kG.newD S hp (.cons .int .nil) k⟩
theorem je_rev {a : Expr} {n : Nat} {p1 p2 p3 : Pos} {ra : R D} (ha : JE X T bs W g M a ra) : JE X T bs W g M (.Subscript a (.Slice none none (some (.UnaryOp .USub (.Constant (.int 1) n p1) p2)) p3) pos) (ra.bind fun d M1 => R.of M1 ((lv M1 d).map fun ds => .lst ds.reverse)) := je fun pins s σ H A Q I S k =>
  (pe_revL ha).run pins s σ H Q I ⟨A, S, (kG.bind (rel := rE X.K) k).imp fun v H1 ⟨d, M1, A1, _, c1, S1, p1, k1⟩ => by
    cases e : lv M1 d with
    | none => rw [e] at k1; exact k1.no.elim
    | some ds =>
      rw [e] at k1
      obtain ⟨a, vs, rfl, h1, h2⟩ := lv_at S1 p1 e
      have rr := RpL.rev h2
      exact ⟨a, vs, rfl, h1, fun p hp => kG.newL S1 hp rr k1⟩⟩
end
end Iv
namespace Iv
open PySem PySem.Spec PyProof.Rows L2 LamX
theorem opNm_ok {op : Operator} {n nr : Str} (h : opNm op = some (n, nr)) : PySem.dunder op.info.2 = n ∧ dunderR op.info.2 = nr := by
  cases op <;> first | (cases h; exact ⟨rfl, rfl⟩) | cases h
section
variable {G : Pg} {fa : Str → Addr} {cf : Nat → Cf} {k b : Nat} {gfn : Str → Bool} {X : Cx} {T : List (Addr × Str)} {bs : List Nat} {W : WX} {g : Ga} {M : Me} {d d1 d2 : D} {pos : Pos} {e : Expr} {ra : R D}
theorem callback {v : V} {u : Value} {Q : Value → Shared → Prop} {s : Shared} (r : RelV v u) (q : Q u s) : PySem.W.CmpBack Q u s := by
  cases v with
  | non => cases (show u = Value.none from r); exact q
  | bl b => cases (show u = Value.bool b from r); exact q
  | int i => obtain ⟨t, e⟩ := (show ∃ t, u = Value.int i t from r); cases e; exact q
  | str x => obtain ⟨t, e⟩ := (show ∃ t, u = Value.str x t from r); cases e; exact q
  | byt b => obtain ⟨t, e⟩ := (show ∃ t, u = Value.bytes b t from r); cases e; exact q
  | flt b => obtain ⟨t, e⟩ := (show ∃ t, u = Value.float b t from r); cases e; exact q
  | ref a => cases (show u = Value.ref a from r); exact q
  | ty n => cases (show u = Value.type n from r); exact q
theorem dun_find {M : Me} {C : Cn} {fs : List (Str × D)} {name : Str} {args : List D} {σ : L2.St} {A : Ad} {H : Hp} {Q : VK} (ho : ov M d = some (C, fs)) (q : kG X.K T bs W g (rE X.K) A H σ Q (dun G (cf b) M d name args)) : ∃ f, G.find C name = some (.me f) ∧ kG X.K T bs W g (rE X.K) A H σ Q (callP G (cf b) f (d :: args) M) := dunF ho q
theorem Cxt.meth (c : Cxt G fa cf k T gfn X) (tk : Takes X W) (hbs : ∀ x ∈ bs, x ≤ b) {f : Str} {pins : List (Addr × Obj)} {s : Shared} {σ : L2.St} {H : Hp} {A : Ad} {Q : VK} {us : List Value} {vs : List V} {ds : List D}
    (I : Inv X pins σ H s) (S : Sta X.K T bs A M H σ g) (rv : Vals vs us) (pv : RpL X.K A H vs ds) (q : kG X.K T bs W g (rE X.K) A H σ Q (callP G (cf b) f ds M)) : wpAny (model X.prog X.w) X.A (PySem.call (.ref (fa f)) us) (EP X pins σ Q) X.xe s := c.meth0 tk hbs I S rv pv q
/-- the type of an operand on the right -/
theorem tyR_at {pins : List (Addr × Obj)} {s : Shared} {σ : L2.St} {H : Hp} {A : Ad} {v : V} {u : Value} {t : String} (I : Inv X pins σ H s) (S : Sta X.K T bs A M H σ g) (r : Rp X.K A H v d) (ru : RelV v u) (h : tyR M d = some t) : PySem.W.Looks (model X.prog X.w) s.heap (typeOf u) (.type t) ∧ t ∈ opTys := by
  have ref : ∀ {a : Addr} {o : Obj} {t : String}, u = .ref a → s.heap.get? a = some o → o.cls = .type t → PySem.W.Looks (model X.prog X.w) s.heap (typeOf u) (.type t) := fun e ho hc => by
    subst e
    exact fun A Q E s' kp q => wpAny_typeOf_ref (kp _ _ ho) (by rw [hc]; exact q)
  have list : ∀ {a : Addr} {xs : List V}, v = .ref a → SqL X.K H a xs → PySem.W.Looks (model X.prog X.w) s.heap (typeOf u) (.type "list") := fun {a xs} e hl => by
    subst e
    cases ru
    obtain ⟨its, rv, ⟨o, n, ho, hc, _⟩, _⟩ := I.list hl
    exact ref rfl ho hc
  have dic : ∀ {a : Addr} {xs : List (Key × V)}, v = .ref a → Rd H a (.dK xs) → PySem.W.Looks (model X.prog X.w) s.heap (typeOf u) (.type "dict") := fun {a xs} e hl => by
    subst e
    cases ru
    obtain ⟨_, _, _, vs, _, hd⟩ := rd_dict I hl
    obtain ⟨o, ho, hc⟩ := hd.typeIs
    exact ref rfl ho hc
  cases d with
  | non => cases r; cases ru; cases h; exact ⟨PySem.W.Looks.of_pure rfl, by decide⟩
  | bl i => cases r; cases ru; cases h; exact ⟨PySem.W.Looks.of_pure rfl, by decide⟩
  | int i => cases r; obtain ⟨tk, rfl⟩ := ru; cases h; exact ⟨PySem.W.Looks.of_pure rfl, by decide⟩
  | str i => cases r; obtain ⟨tk, rfl⟩ := ru; cases h; exact ⟨PySem.W.Looks.of_pure rfl, by decide⟩
  | tup ds =>
    cases h
    obtain ⟨a, vs, rfl, h1, h2⟩ := r.tupAt
    cases ru
    obtain ⟨its, rv, ⟨o, ho, hc, _⟩, _⟩ := I.tuple h1
    exact ⟨ref rfl ho hc, by decide⟩
  | lst ds =>
    cases h
    obtain ⟨a, vs, rfl, h1, h2⟩ := lv_at S r (show lv M (.lst ds) = some ds from rfl)
    exact ⟨list rfl h1, by decide⟩
  | dct ds =>
    cases h
    obtain ⟨a, kvs, rfl, h1, h2⟩ := dv_at S r (show dv M (.dct ds) = some ds from rfl)
    exact ⟨dic rfl h1, by decide⟩
  | cel j =>
    unfold tyR at h
    dsimp only at h
    cases em : M[j]? with
    | none => rw [em] at h; cases h
    | some ce =>
      rw [em] at h
      cases ce with
      | lst xs =>
        cases h
        obtain ⟨a, vs, rfl, h1, h2⟩ := lv_at S r (show lv M (.cel j) = some xs by simp only [lv, em])
        exact ⟨list rfl h1, by decide⟩
      | dct xs =>
        cases h
        obtain ⟨a, kvs, rfl, h1, h2⟩ := dv_at S r (show dv M (.cel j) = some xs by simp only [dv, em])
        exact ⟨dic rfl h1, by decide⟩
      | _ => cases h
  | _ => cases h
theorem b_own (c : Cxt G fa cf k T gfn X) (tk : Takes X W) (hbs : ∀ x ∈ bs, x ≤ b) {op : Operator} {n nr : Str} {C : Cn} {fs : List (Str × D)} (ho : ov M d1 = some (C, fs)) (hn : opNm op = some (n, nr)) (hty : (∃ t, tyR M d2 = some t) ∨ ∃ fs2, ov M d2 = some (C, fs2)) : Op2 X T bs W (binaryOp op) d1 d2 M (dun G (cf b) M d1 n [d2]) := by
  intro pins s σ g H A v1 v2 u1 u2 Q I S p1 p2 r1 r2 q
  obtain ⟨f, hf, q⟩ := dun_find ho q
  have cx := c.wl.clsM C n _ hf
  have cm := cx.me n f hf
  obtain ⟨a, ox, od, rfl, rfl, J⟩ := inst_at I S p1 r1 ho
  obtain ⟨e1, e2⟩ := opNm_ok hn
  obtain ⟨m, hF⟩ := I.fr
  have hc : wpAny (model X.prog X.w) X.A (PySem.call (.ref (fa f)) [.ref a, u2]) (PySem.W.CmpBack (EP X pins σ Q)) X.xe s := thn (c.meth tk hbs (vs := [.ref a, v2]) I S (.cons rfl (.cons r2 .nil)) (.cons p1 (.cons p2 .nil)) q) fun u s1 ⟨v, H1, I1, rv, h⟩ => callback rv ⟨v, H1, I1, rv, h⟩
  rcases hty with ⟨t, ht⟩ | ⟨fs2, h2⟩
  · obtain ⟨lt, hm⟩ := tyR_at I S p2 r2 ht
    have ot := cx.op op n nr f hn hf t hm
    obtain ⟨rc, h1, h2⟩ := ot.rc
    obtain ⟨fo, h3⟩ := ot.fo
    obtain ⟨ro, h4⟩ := ot.ro
    exact binLk hF I.ok.mod.kin J lt cx.sf (by rw [e1]; exact cm.at_) cm.fn h1 h2 h3 h4 ot.sub hc
  · obtain ⟨a2, ox2, od2, rfl, rfl, J2⟩ := inst_at I S p2 r2 h2
    exact PySem.W.binop_K hF I.ok.mod.kin J J2.type cx.sf (by rw [e1]; exact cm.at_) cm.fn hc
theorem dec_any {op : Operator} (h : op = .Add ∨ op = .Sub ∨ op = .Mult) {prog : Program} {w : World} {A : Around} {E : Value → Shared → Prop} {s : Shared} {i : Int} {t : Tok} {x C dx : Addr} {Q' : Option Value → Shared → Prop} (ho : s.heap.get? x = some (PySem.W.instObj C dx)) (q : Q' none s) : wpAny (model prog w) A (tryMethod (.int i t) (PySem.dunder op.info.2) (.ref x)) Q' E s := by
  rcases h with rfl | rfl | rfl
  · exact dec_add ho q
  · exact dec_sub ho q
  · exact dec_mul ho q
theorem fills_any {op : Operator} (h : op = .Add ∨ op = .Sub ∨ op = .Mult) {M : Model} {hp : Heap} : PySem.W.Looks M hp (fillsNumberSlot (.type "int") op.info.2) true := by
  rcases h with rfl | rfl | rfl
  · exact PySem.W.Looks.of_pure F.fills_int_add
  · exact PySem.W.Looks.of_pure F.fills_int_sub
  · exact PySem.W.Looks.of_pure F.fills_int_mul
theorem b_ownR (c : Cxt G fa cf k T gfn X) (tk : Takes X W) (hbs : ∀ x ∈ bs, x ≤ b) {op : Operator} {n nr : Str} {C : Cn} {fs : List (Str × D)} {i : Int} (ho : ov M d2 = some (C, fs)) (hn : opNm op = some (n, nr)) (hop : op = .Add ∨ op = .Sub ∨ op = .Mult) : Op2 X T bs W (binaryOp op) (.int i) d2 M (dun G (cf b) M d2 nr [.int i]) := by
  intro pins s σ g H A v1 v2 u1 u2 Q I S p1 p2 r1 r2 q
  obtain ⟨f, hf, q⟩ := dun_find ho q
  have cx := c.wl.clsM C nr _ hf
  have cm := cx.me nr f hf
  obtain ⟨a, dx, fvs, rfl, ha, rf⟩ := ov_at S p2 ho
  cases r2
  cases p1
  obtain ⟨t, rfl⟩ := r1
  obtain ⟨mA, O, _⟩ := ins_get I.hok ha
  obtain ⟨od, J, _⟩ := O.look
  obtain ⟨e1, e2⟩ := opNm_ok hn
  obtain ⟨m, hF⟩ := I.fr
  obtain ⟨⟨f2, hf2⟩, hsub⟩ := cx.opr op n nr f hn hf
  have cm2 := cx.me n f2 hf2
  have hc : wpAny (model X.prog X.w) X.A (PySem.call (.ref (fa f)) [.ref a, .int i t]) (PySem.W.CmpBack (EP X pins σ Q)) X.xe s := thn (c.meth tk hbs (vs := [.ref a, .int i]) I S (.cons rfl (.cons ⟨t, rfl⟩ .nil)) (.cons p2 (.cons .int .nil)) q) fun u s1 ⟨v, H1, I1, rv, h⟩ => callback rv ⟨v, H1, I1, rv, h⟩
  exact binR hF I.ok.mod.kin J cx.sf (by rw [e1]; exact cm2.at_) (by rw [e2]; exact cm.at_) cm.fn (fills_any hop) hsub (fun q' => dec_any hop O.obj q') hc
theorem b_ownR2 (c : Cxt G fa cf k T gfn X) (tk : Takes X W) (hbs : ∀ x ∈ bs, x ≤ b) {op : Operator} {n nr : Str} {C : Cn} {fs : List (Str × D)} (ho : ov M d2 = some (C, fs)) (hh : hasO G M d2 = true) (hn : opNm op = some (n, nr)) (hop : op = .Add ∨ op = .Sub ∨ op = .Mult) (hd : (∃ i, d1 = .bl i) ∨ d1 = .non) : Op2 X T bs W (binaryOp op) d1 d2 M (dun G (cf b) M d2 nr [d1]) := by
  intro pins s σ g H A v1 v2 u1 u2 Q I S p1 p2 r1 r2 q
  have hh := hasO_of hh ho
  obtain ⟨f, hf, q⟩ := dun_find ho q
  have cx := c.wl.clsM C nr _ hf
  have cm := cx.me nr f hf
  obtain ⟨a, dx, fvs, rfl, ha, rf⟩ := ov_at S p2 ho
  cases r2
  obtain ⟨mA, O, _⟩ := ins_get I.hok ha
  obtain ⟨od, J, _⟩ := O.look
  obtain ⟨e1, e2⟩ := opNm_ok hn
  obtain ⟨m, hF⟩ := I.fr
  obtain ⟨⟨f2, hf2⟩, _⟩ := cx.opr op n nr f hn hf
  have cm2 := cx.me n f2 hf2
  have hc : wpAny (model X.prog X.w) X.A (PySem.call (.ref (fa f)) [.ref a, u1]) (PySem.W.CmpBack (EP X pins σ Q)) X.xe s := thn (c.meth tk hbs (vs := [.ref a, v1]) I S (.cons rfl (.cons r1 .nil)) (.cons p2 (.cons p1 .nil)) q) fun u s1 ⟨v, H1, I1, rv, h⟩ => callback rv ⟨v, H1, I1, rv, h⟩
  rcases hd with ⟨i, rfl⟩ | rfl
  · cases p1
    cases r1
    exact binRb (T := "bool") hF I.ok.mod.kin J cx.sf rfl (by rw [e1]; exact cm2.at_) (by rw [e2]; exact cm.at_) cm.fn (fills_blM hop) (sub_of c hh (by decide)) (fun q' => dec_blM hop O.obj q') hc
  · cases p1
    cases r1
    exact binRn (T := "NoneType") hF I.ok.mod.kin J cx.sf rfl (by rw [e1]; exact cm2.at_) (by rw [e2]; exact cm.at_) cm.fn (fills_nonM hop) hc
theorem b_tup {xs ys : List D} (h : xs.length + ys.length ≤ maxL) : Op2 X T bs W (binaryOp .Add) (.tup xs) (.tup ys) M (.ok (.tup (xs ++ ys)) M) := op2_of op_catA fun σ g H A v1 v2 Q S p1 p2 k => by
  have p1' := p1
  have p2' := p2
  obtain ⟨a1, vs, rfl, h1, q1⟩ := p1.tupAt
  obtain ⟨a2, ws, rfl, h2, q2⟩ := p2.tupAt
  refine ⟨a1, a2, vs, ws, rfl, rfl, h1, h2, sz_of (by rw [q1.length, q2.length]; exact h), fun e => ?_, fun e1 e => ?_, fun e1 e p hp => ?_⟩
  · subst e
    cases q1
    exact k.get S p2'
  · subst e
    cases q2
    exact k.get S (by rw [List.append_nil]; exact p1')
  · exact k.get' (Ch.laid hp) (S.laid hp) (.tup (S.fresh hp) upd_same ((q1.append q2).mono (Ch.laid hp)))
theorem lw_at {K : PySem.W.Frag} {A : Ad} {H : Hp} {σ : L2.St} {v : V} {ds : List D} (S : Sta K T bs A M H σ g) (r : Rp K A H v d) (h : lw M d = some ds) : ∃ a vs, v = .ref a ∧ H a = some (.lst vs) ∧ RpL K A H vs ds := by
  cases d with
  | lst d2 =>
    cases h
    cases r with
    | lst _ h q => exact ⟨_, _, rfl, h, q⟩
  | cel k =>
    unfold lw at h
    cases e : M[k]? with
    | none => simp only [e] at h; cases h
    | some c =>
      simp only [e] at h
      obtain ⟨a, rfl, ha, q⟩ := S.celAt e r
      cases q with
      | lst h1 h2 => cases h; exact ⟨_, _, rfl, h1, h2⟩
      | _ => cases h
  | _ => cases h
theorem b_cat {xs ys : List D} (h1 : lw M d1 = some xs) (h2 : lw M d2 = some ys) (hl : xs.length + ys.length ≤ maxL) : Op2 X T bs W (binaryOp .Add) d1 d2 M (.ok (.lst (xs ++ ys)) M) := op2_of op_cat fun σ g H A v1 v2 Q S p1 p2 k => by
  obtain ⟨a, vs, rfl, ha, ra⟩ := lw_at S p1 h1
  obtain ⟨b, ws, rfl, hb, rb⟩ := lw_at S p2 h2
  exact ⟨a, b, vs, ws, rfl, rfl, ha, hb, sz_of (by rw [ra.length, rb.length]; exact hl), fun p hp => kG.newL S hp (ra.append rb) k⟩
theorem b_rep {xs : List D} {n : Int} (h1 : lw M d1 = some xs) (h : -(2 ^ 63) ≤ n ∧ n < 2 ^ 63 ∧ xs.length * n.toNat ≤ maxL) : Op2 X T bs W (binaryOp .Mult) d1 (.int n) M (.ok (.lst (List.replicate n.toNat xs).flatten) M) := op2_of op_rep fun σ g H A v1 v2 Q S p1 p2 k => by
  obtain ⟨a, vs, rfl, ha, ra⟩ := lw_at S p1 h1
  cases p2
  have rep : ∀ m : Nat, RpL X.K A H (List.replicate m vs).flatten (List.replicate m xs).flatten := fun m => by
    induction m with
    | zero => exact .nil
    | succ m ih =>
      rw [List.replicate_succ, List.replicate_succ, List.flatten_cons, List.flatten_cons]
      exact ra.append ih
  exact ⟨a, n, vs, rfl, rfl, ha, h.1, h.2.1, sz_of (by rw [ra.length]; exact h.2.2), fun p hp => kG.newL S hp (rep _) k⟩
theorem b_repI {op : Operator} {xs : List D} {n : Int} (h1 : lw M d1 = some xs) : Op2 X T bs W (binaryOp op) d1 (.int n) M (if op = .Mult ∧ -(2 ^ 63) ≤ n ∧ n < 2 ^ 63 ∧ xs.length * n.toNat ≤ maxL then .ok (.lst (List.replicate n.toNat xs).flatten) M else .no) := by
  by_cases h : op = .Mult ∧ -(2 ^ 63) ≤ n ∧ n < 2 ^ 63 ∧ xs.length * n.toNat ≤ maxL
  · rw [if_pos h]
    obtain ⟨rfl, h⟩ := h
    exact b_rep h1 h
  · rw [if_neg h]
    exact op2_no
/-- a op b -/
theorem b_bin (c : Cxt G fa cf k T gfn X) (tk : Takes X W) (hbs : ∀ x ∈ bs, x ≤ b) {op : Operator} : Op2 X T bs W (binaryOp op) d1 d2 M (binOp G (cf b) op d1 d2 M) := by
  unfold binOp
  split
  · exact b_int
  · rename_i x y
    by_cases h : op = .Add ∧ x.length + y.length ≤ maxL
    · rw [if_pos h]
      obtain ⟨rfl, h⟩ := h
      have z := b_str (X := X) (T := T) (bs := bs) (W := W) (M := M) (x := x) (y := y)
      rw [if_pos h] at z
      exact z
    · rw [if_neg h]
      exact op2_no
  · rename_i x y
    by_cases h : op = .Add ∧ x.length + y.length ≤ maxL
    · rw [if_pos h]
      obtain ⟨rfl, h⟩ := h
      exact b_tup h
    · rw [if_neg h]
      exact op2_no
  · cases e : ov M d1 with
    | some p =>
      obtain ⟨C, fs⟩ := p
      dsimp only
      cases en : opNm op with
      | none => exact op2_no
      | some q =>
        obtain ⟨n, nr⟩ := q
        dsimp only
        by_cases h : ((tyR M d2).isSome || sameC M C d2) = true
        · rw [if_pos h]
          refine b_own c tk hbs e en ?_
          rcases Bool.or_eq_true_iff.mp h with h | h
          · obtain ⟨t, ht⟩ := Option.isSome_iff_exists.mp h
            exact .inl ⟨t, ht⟩
          · unfold sameC at h
            cases e2 : ov M d2 with
            | none => rw [e2] at h; cases h
            | some p2 =>
              obtain ⟨C2, fs2⟩ := p2
              rw [e2] at h
              have := of_decide_eq_true h
              subst this
              exact .inr ⟨fs2, rfl⟩
        · rw [if_neg h]
          exact op2_no
    | none =>
      dsimp only
      split
      · rename_i i
        cases e2 : ov M d2 with
        | none => exact op2_no
        | some p =>
          obtain ⟨C, fs⟩ := p
          cases en : opNm op with
          | none => exact op2_no
          | some q =>
            obtain ⟨n, nr⟩ := q
            dsimp only
            by_cases h : op = .Pow
            · rw [if_pos h]
              exact op2_no
            · rw [if_neg h]
              refine b_ownR c tk hbs e2 en ?_
              cases op <;> first | exact .inl rfl | exact .inr (.inl rfl) | exact .inr (.inr rfl) | exact absurd rfl h | cases en
      · rename_i i _
        cases e2 : ov M d2 with
        | none => exact op2_no
        | some p =>
          obtain ⟨C, fs⟩ := p
          cases en : opNm op with
          | none => exact op2_no
          | some q =>
            obtain ⟨n, nr⟩ := q
            dsimp only
            by_cases h : op = .Pow ∨ hasO G M d2 = false
            · rw [if_pos h]
              exact op2_no
            · rw [if_neg h]
              have hh : hasO G M d2 = true := by
                cases z : hasO G M d2 with
                | true => rfl
                | false => exact absurd (.inr z) h
              refine b_ownR2 c tk hbs e2 hh en ?_ (.inl ⟨_, rfl⟩)
              cases op <;> first | exact .inl rfl | exact .inr (.inl rfl) | exact .inr (.inr rfl) | exact absurd (.inl rfl) h | cases en
      · cases e2 : ov M d2 with
        | none => exact op2_no
        | some p =>
          obtain ⟨C, fs⟩ := p
          cases en : opNm op with
          | none => exact op2_no
          | some q =>
            obtain ⟨n, nr⟩ := q
            dsimp only
            by_cases h : op = .Pow ∨ hasO G M d2 = false
            · rw [if_pos h]
              exact op2_no
            · rw [if_neg h]
              have hh : hasO G M d2 = true := by
                cases z : hasO G M d2 with
                | true => rfl
                | false => exact absurd (.inr z) h
              refine b_ownR2 c tk hbs e2 hh en ?_ (.inr rfl)
              cases op <;> first | exact .inl rfl | exact .inr (.inl rfl) | exact .inr (.inr rfl) | exact absurd (.inl rfl) h | cases en
      · cases e1 : lw M d1 with
        | none => exact op2_no
        | some xs =>
          dsimp only
          split
          · exact b_repI e1
          · cases e2 : lw M d2 with
            | none => exact op2_no
            | some ys =>
              dsimp only
              by_cases h : op = .Add ∧ xs.length + ys.length ≤ maxL
              · rw [if_pos h]
                obtain ⟨rfl, h⟩ := h
                exact b_cat e1 e2 h
              · rw [if_neg h]
                exact op2_no
theorem in_cases : (∃ kds q, dv M d2 = some kds ∧ keyOf d1 = some q ∧ inOp G (cf b) d1 d2 M = .ok (kget kds q).isSome M) ∨ (∃ l ys, ((d2 = .tup ys ∧ l = false) ∨ (lv M d2 = some ys ∧ l = true)) ∧ inOp G (cf b) d1 d2 M = R.of M (inSeq M l d1 ys)) ∨ inOp G (cf b) d1 d2 M = .no ∨ (∃ C fs, ov M d2 = some (C, fs) ∧ inOp G (cf b) d1 d2 M = bolR (dun G (cf b) M d2 "__contains__" [d1])) ∨ ∃ C fs ys, ov M d1 = some (C, fs) ∧ d2 = .lst ys ∧ inOp G (cf b) d1 d2 M = inOwn G (cf b) d1 ys M := by
  unfold inOp
  cases e : ov M d2 with
  | some p => exact .inr (.inr (.inr (.inl ⟨p.1, p.2, rfl, rfl⟩)))
  | none =>
    dsimp only
    cases e2 : dv M d2 with
    | some kds =>
      dsimp only
      cases e3 : keyOf d1 with
      | none => exact .inr (.inr (.inl rfl))
      | some q => exact .inl ⟨kds, q, rfl, rfl, rfl⟩
    | none =>
      dsimp only
      split
      · rename_i ys
        exact .inr (.inl ⟨false, ys, .inl ⟨rfl, rfl⟩, rfl⟩)
      · cases e3 : lv M d2 with
        | none => exact .inr (.inr (.inl rfl))
        | some ys =>
          dsimp only
          cases e1 : ov M d1 with
          | some p =>
            cases d2 with
            | lst zs =>
              cases e3
              exact .inr (.inr (.inr (.inr ⟨p.1, p.2, _, rfl, rfl, rfl⟩)))
            | _ => exact .inr (.inr (.inl rfl))
          | none => exact .inr (.inl ⟨true, ys, .inr ⟨rfl, rfl⟩, rfl⟩)
/-- == and != of what is no object -/
theorem b_eqs (c : Cxt G fa cf k T gfn X) : Op2 X T bs W (compareOp .Eq) d1 d2 M (cmpB (R.of M (eqP M d1 d2))) ∧ Op2 X T bs W (compareOp .NotEq) d1 d2 M (cmpB (R.of M ((eqP M d1 d2).map (!·)))) := by
  cases e : eqP M d1 d2 with
  | none => exact ⟨op2_no, op2_no⟩
  | some z => exact ⟨c_eqP c e, c_neP c e⟩
/-- a op b, a comparison -/
theorem b_cmp (c : Cxt G fa cf k T gfn X) (tk : Takes X W) (hbs : ∀ x ∈ bs, x ≤ b) {op : CmpOp} : Op2 X T bs W (compareOp op) d1 d2 M (cmpB (cmpOp G (cf b) op d1 d2 M)) := by
  unfold cmpOp
  split
  · by_cases h : isNon d2 = true
    · rw [if_pos h]
      exact c_is h
    · rw [if_neg h]
      exact op2_no
  · by_cases h : isNon d2 = true
    · rw [if_pos h]
      exact c_isnot h
    · rw [if_neg h]
      exact op2_no
  · rcases in_cases (G := G) (cf := cf) (b := b) (M := M) (d1 := d1) (d2 := d2) with ⟨kds, q, h1, h3, h2⟩ | ⟨l, ys, h1, h2⟩ | h | ⟨C, fs, h1, h2⟩ | ⟨C, fs, ys, h1, rfl, h2⟩
    · rw [h2]
      exact (c_din c h1 h3).1
    · rw [h2]
      cases e : inSeq M l d1 ys with
      | none => exact op2_no
      | some z => exact (c_inS c h1 e).1
    · rw [h]
      exact op2_no
    · rw [h2]
      exact (c_ownIn c tk hbs h1).1
    · rw [h2]
      exact (c_inOwn c tk hbs h1).1
  · rcases in_cases (G := G) (cf := cf) (b := b) (M := M) (d1 := d1) (d2 := d2) with ⟨kds, q, h1, h3, h2⟩ | ⟨l, ys, h1, h2⟩ | h | ⟨C, fs, h1, h2⟩ | ⟨C, fs, ys, h1, rfl, h2⟩
    · rw [h2]
      exact (c_din c h1 h3).2
    · rw [h2]
      cases e : inSeq M l d1 ys with
      | none => exact op2_no
      | some z => exact (c_inS c h1 e).2
    · rw [h]
      exact op2_no
    · rw [h2]
      exact (c_ownIn c tk hbs h1).2
    · rw [h2]
      exact (c_inOwn c tk hbs h1).2
  · split
    · exact c_int
    · exact c_str
    · split
      · cases e : ov M d1 with
        | some p =>
          dsimp only
          by_cases ht : eqTo G M p.1 d2 = true
          · rw [if_pos ht]
            exact c_ownEq c tk hbs (C := p.1) (fs := p.2) e ht
          · rw [if_neg ht]
            exact op2_no
        | none =>
          dsimp only
          cases e2 : ov M d2 with
          | none => exact (b_eqs c).1
          | some p =>
            dsimp only
            by_cases ht : (refOk M d1 && hasO G M d2) = true
            · rw [if_pos ht]
              exact c_refEq c tk hbs (C := p.1) (fs := p.2) e2 (b2 ht).2 (b2 ht).1
            · rw [if_neg ht]
              exact op2_no
      · cases e : ov M d1 with
        | some p =>
          dsimp only
          by_cases ht : eqTo G M p.1 d2 = true
          · rw [if_pos ht]
            exact c_ownNe c tk hbs (C := p.1) (fs := p.2) e ht
          · rw [if_neg ht]
            exact op2_no
        | none =>
          dsimp only
          cases e2 : ov M d2 with
          | none => exact (b_eqs c).2
          | some p =>
            dsimp only
            by_cases ht : (refOk M d1 && hasO G M d2) = true
            · rw [if_pos ht]
              exact c_refNe c tk hbs (C := p.1) (fs := p.2) e2 (b2 ht).2 (b2 ht).1
            · rw [if_neg ht]
              exact op2_no
      · exact op2_no
/-- -a -/
theorem b_neg (c : Cxt G fa cf k T gfn X) (tk : Takes X W) (hbs : ∀ x ∈ bs, x ≤ b) : Op1 X T bs W (unaryOp .USub) d M (match d with | .int i => .ok (.int (-i)) M | d => dun G (cf b) M d "__neg__" []) := by
  split
  · rename_i i
    intro pins s σ g H A v1 u1 Q I S p1 r1 q
    cases p1
    exact un_neg pins s σ H (.int i) u1 Q I r1 ⟨i, rfl, q.get S .int⟩
  · intro pins s σ g H A v1 u1 Q I S p1 r1 q
    cases e : ov M d with
    | none =>
      unfold dun at q
      rw [e] at q
      exact q.no.elim
    | some p =>
      obtain ⟨C, fs⟩ := p
      obtain ⟨f, hf, q⟩ := dun_find e q
      have cm := (c.wl.clsM C _ _ hf).me _ f hf
      obtain ⟨a, ox, od, rfl, rfl, J⟩ := inst_at I S p1 r1 e
      obtain ⟨m, hF⟩ := I.fr
      exact PySem.W.ksp_neg hF I.ok.mod.kin J cm.at_ cm.fn (c.meth tk hbs (vs := [.ref a]) I S (.cons rfl .nil) (.cons p1 .nil) q)
theorem RpL.atI {K : PySem.W.Frag} {A : Ad} {H : Hp} {vs : List V} {ds : List D} {i : Int} {d : D} (r : RpL K A H vs ds) (h : atI ds i = some d) : ∃ v, L2.atI vs i = some v ∧ Rp K A H v d := by
  unfold L2.atI at h ⊢
  rw [r.length]
  cases e : ixN ds.length i with
  | none =>
    rw [e] at h
    cases h
  | some j =>
    rw [e] at h
    exact r.get h
theorem op2_ix {a b : Expr} {q : R2} {r : R D} (ho : IxR X q) (hs : PlainIx b) (h : ∀ (σ : L2.St) (g : Ga) (H : Hp) (A : Ad) (v1 v2 : V) (Q : VK), Sta X.K T bs A M H σ g → Rp X.K A H v1 d1 → Rp X.K A H v2 d2 → kG X.K T bs W g (rE X.K) A H σ Q r → q v1 v2 H Q) : Op2 X T bs W (subscriptTail a b) d1 d2 M r :=
  fun pins s σ g H A v1 v2 u1 u2 Q I S p1 p2 r1 r2 k => ho a b pins s σ H v1 v2 u1 u2 Q I r1 r2 (h σ g H A v1 v2 Q S p1 p2 k) (hs _ _)
theorem b_subsL {a b' : Expr} (hs : PlainIx b') (e : ov M d1 = none) (e2 : dv M d1 = none) : Op2 X T bs W (subscriptTail a b') d1 d2 M (subs G (cf b) d1 d2 M) := by
  unfold subs
  rw [e, e2]
  dsimp only
  split
  · rename_i ds i
    cases e3 : atI ds i with
    | none => exact op2_no
    | some d =>
      refine op2_ix ix_tup hs fun σ g H A v1 v2 Q S p1 p2 k => ?_
      obtain ⟨a, vs, rfl, h1, h2⟩ := p1.tupAt
      cases p2
      obtain ⟨v, hv, rv⟩ := h2.atI e3
      exact ⟨a, vs, i, v, rfl, rfl, h1, hv, k.get S rv⟩
  · rename_i i _
    cases e4 : lv M d1 with
    | none => exact op2_no
    | some ds =>
      dsimp only
      cases e3 : atI ds i with
      | none => exact op2_no
      | some d =>
        refine op2_ix ix_list hs fun σ g H A v1 v2 Q S p1 p2 k => ?_
        obtain ⟨a, vs, rfl, h1, h2⟩ := lv_at S p1 e4
        cases p2
        obtain ⟨v, hv, rv⟩ := h2.atI e3
        exact ⟨a, vs, i, v, rfl, rfl, h1, hv, k.get S rv⟩
  · exact op2_no
/-- a[i] -/
theorem b_subs0 (c : Cxt G fa cf k T gfn X) {a b' : Expr} (hs : PlainIx b') (e : ov M d1 = none) : Op2 X T bs W (subscriptTail a b') d1 d2 M (subs G (cf b) d1 d2 M) := by
  cases e2 : dv M d1 with
  | none => exact b_subsL hs e e2
  | some p =>
    unfold subs
    rw [e, e2]
    dsimp only
    cases e3 : keyOf d2 with
    | none => exact op2_no
    | some q => exact b_dget c hs e2 e3
theorem b_subs (c : Cxt G fa cf k T gfn X) (tk : Takes X W) (hbs : ∀ x ∈ bs, x ≤ b) {a b' : Expr} (hs : notSl b' = true) : Op2 X T bs W (subscriptTail a b') d1 d2 M (subs G (cf b) d1 d2 M) := by
  cases e : ov M d1 with
  | none => exact b_subs0 c (plainIx_of hs) e
  | some p =>
    unfold subs
    rw [e]
    exact b_ownSub c tk hbs (C := p.1) (fs := p.2) hs e
theorem metC_of {f : Str} (h : metC G M d = some f) : ∃ C fs, ov M d = some (C, fs) ∧ G.find C "__call__" = some (.me f) := by
  unfold metC at h
  cases e : ov M d with
  | none => rw [e] at h; cases h
  | some p =>
    obtain ⟨C, fs⟩ := p
    rw [e] at h
    dsimp only at h
    cases e2 : G.find C "__call__" with
    | none => rw [e2] at h; cases h
    | some m =>
      rw [e2] at h
      cases m with
      | me f2 => cases h; exact ⟨C, fs, rfl, e2⟩
      | _ => cases h
/-- x(..), x a name that holds an object with an own call -/
theorem je_callO (c : Cxt G fa cf k T gfn X) (tk : Takes X W) (hbs : ∀ x ∈ bs, x ≤ b) {i : Nat} {x : Str} {p : Pos} {e1 : Expr} {es1 : List Expr} {rs : R (List D)} (hN : X.N[i]? = some x) (hv : Vis X.env.scope x) (hdb : (x == ("__debug__" : Str)) = false) (hcd : (x == ("__classdict__" : Str)) = false) (ha : JA X T bs W g M (e1 :: es1) rs) (hs : NoStar (e1 :: es1)) :
    JE X T bs W g M (.Call (.Name x p) (e1 :: es1) [] pos) (match g[i]?.bind id with | some d => if (metC G M d).isSome = true then rs.bind fun ds M2 => (match metC G M2 d with | some f => callP G (cf b) f (d :: ds) M2 | none => .no) else .no | none => .no) := by
  cases ed : g[i]? with
  | none => exact je_no
  | some o =>
  cases o with
  | none => exact je_no
  | some d =>
  show JE X T bs W g M _ (if (metC G M d).isSome = true then _ else _)
  by_cases hm : (metC G M d).isSome = true
  · rw [if_pos hm]
    obtain ⟨f0, hm⟩ := Option.isSome_iff_exists.mp hm
    obtain ⟨C0, fs0, ho0, _⟩ := metC_of hm
    refine je fun pins s σ H A Q I S k => ?_
    obtain ⟨v, hv', r⟩ := S.slot i d ed
    obtain ⟨a, dx0, fvs0, e, _, _⟩ := ov_at S r ho0
    subst e
    refine Call_ (thn ((pe_var hN hv hdb hcd).run pins s σ H (fun y H1 => y = .ref a ∧ H1 = H) I ⟨.ref a, hv', rfl, rfl⟩) fun u s1 ⟨y, H1, I1, ry, e1, e2⟩ => ?_) rfl
    subst e1 e2
    obtain rfl : u = Value.ref a := ry
    refine StX.callO_with (thn (ha.go (pos := pos) I1 S k.bind) fun us s2 ⟨vs, H2, I2, rv, ds, M2, A2, _, c2, S2, p2, k2⟩ => ?_) (star_cons hs) (star_any hs.tail)
    cases hm2 : metC G M2 d with
    | none => rw [hm2] at k2; exact k2.no.elim
    | some f =>
      rw [hm2] at k2
      obtain ⟨C, fs, ho, hf⟩ := metC_of hm2
      have r2 := r.mono c2
      obtain ⟨a', dx, fvs, e, hh, rf⟩ := ov_at S2 r2 ho
      cases e
      obtain ⟨mA, O, _⟩ := ins_get I2.hok hh
      obtain ⟨od, J, _⟩ := O.look
      refine ⟨⟨_, _, _, J, rfl⟩, ?_⟩
      have cm := (c.wl.clsM C _ _ hf).me _ f hf
      obtain ⟨fn, hfn, k2⟩ : ∃ fn, G.fn f = some fn ∧ kG X.K T bs W g (rE X.K) A2 H2 σ Q (callP G (cf b) f (d :: ds) M2) := by
        cases e : G.fn f with
        | none =>
          have k3 : kG X.K T bs W g (rE X.K) A2 H2 σ Q (callP G (cf b) f (d :: ds) M2) := k2
          unfold callP callK at k3
          rw [e] at k3
          exact k3.no.elim
        | some fn => exact ⟨fn, rfl, k2⟩
      refine wpAny_call (PySem.W.kco_code I2.kIn J rfl cm.at_ cm.fn (c.wl.fns f fn hfn).fi ?_)
      have z := c.code tk hbs (us := .ref a :: us) (vs := .ref a :: vs) c.gd (c.room.mono (by omega)) I2.env0 I2 S2 (.cons rfl rv) (.cons r2 p2) k2
      refine codeAny_mono z fun r s' hq => ?_
      match r, hq with
      | .error e, hq => exact hq
      | .ok (.ret u), hq => exact hq
  · rw [if_neg hm]
    exact je_no
end
end Iv
namespace Iv
open PySem PySem.Spec PyProof.Rows L2 LamX
/-- o is no super() -/
def notSuper : Expr → Bool
  | .Call (.Name id _) [] [] _ => !(decide (id = ("super" : Str)))
  | _ => true
theorem attrBase {o : Expr} {f : Str} {env : PySem.Env} {w : Sem Value} (h : notSuper o = true) : attributeBase o f env w = w := by
  unfold attributeBase
  split
  · rename_i id p pos
    have hid : (id != ("super" : Str)) = true := by
      unfold notSuper at h
      simpa using h
    rw [hid]
    rfl
  · rfl
section
variable {G : Pg} {fa : Str → Addr} {cf : Nat → Cf} {k b : Nat} {gfn : Str → Bool} {X : Cx} {T : List (Addr × Str)} {bs : List Nat} {W : WX} {g : Ga} {M : Me} {d d1 d2 : D} {pos apos p : Pos} {e o : Expr} {es : List Expr} {ra : R D} {rs : Me → R (List D)}
theorem guards_in1 {A : Around} : A.in1.guards = A.guards := by first | rfl | simp [Around.in1]
/-- e.f of an object -/
theorem att_go (c : Cxt G fa cf k T gfn X) (tk : Takes X W) (hbs : ∀ x ∈ bs, x ≤ b) {f : Str} {pins : List (Addr × Obj)} {s : Shared} {σ : L2.St} {H : Hp} {A : Ad} {Q : VK} {v : V} {u : Value} (I : Inv X pins σ H s) (S : Sta X.K T bs A M H σ g) (r : Rp X.K A H v d) (ru : RelV v u) (q : kG X.K T bs W g (rE X.K) A H σ Q (attr G (cf b) d f M)) :
    wpAny (model X.prog X.w) X.A (getAttr u f true) (EP X pins σ Q) X.xe s := by
  unfold attr at q
  cases eo : ov M d with
  | none => rw [eo] at q; exact q.no.elim
  | some p =>
    obtain ⟨C, fds⟩ := p
    rw [eo] at q
    dsimp only at q
    obtain ⟨a, dx, fs, rfl, ha, rf⟩ := ov_at S r eo
    cases ru
    cases ef : G.find C f with
    | none =>
      rw [ef] at q
      dsimp only at q
      by_cases hf : G.fld C f = true
      · rw [if_pos hf] at q
        have cx := c.wl.clsF C f hf
        cases el : fds.lookup f with
        | none => rw [el] at q; exact q.no.elim
        | some d' =>
          rw [el] at q
          obtain ⟨v', hv, rv⟩ := rf.lookup el
          exact getattr_ok I ha cx.cl (cx.fld f hf) hv fun u' s2 I2 ru => ⟨v', H, I2, ru, q.get S rv⟩
      · rw [if_neg hf] at q
        exact q.no.elim
    | some m =>
      rw [ef] at q
      have cx := c.wl.clsM C f _ ef
      cases m with
      | me f => exact q.no.elim
      | cm f => exact q.no.elim
      | sm f => exact q.no.elim
      | co d' =>
        dsimp only at q
        by_cases hl : (fds.lookup f).isNone = true
        · rw [if_pos hl] at q
          obtain ⟨v', u', hk, hr⟩ := cx.co f d' ef
          exact getcon_ok I ha cx.cl hk (rf.lookupN (Option.isNone_iff_eq_none.mp hl)) fun s2 I2 => ⟨v', H, I2, hk.rel, q.get S (hr A H)⟩
        · rw [if_neg hl] at q
          exact q.no.elim
      | pr gf =>
        dsimp only at q
        obtain ⟨p, hp⟩ := cx.pr f gf ef
        obtain ⟨mA, O, _⟩ := ins_get I.hok ha
        obtain ⟨od, J, _⟩ := O.look
        obtain ⟨rest, hrec⟩ := hp.rec_
        have I1 := I.tok (s.toks + 1)
        have hc : (PySem.W.clsIn X.K (ca X.K C)).isSome = true := by
          obtain ⟨cd, hc, _⟩ := PySem.W.any_some cx.cl.hd
          rw [hc]
          rfl
        refine PySem.W.get_bind I.kIn J (PySem.W.plainGet_of (cx.cl.get f)).1 (PySem.W.findObj_data hc hp.at_ hp.get hp.tak) (PySem.W.plainGet_of (cx.cl.get f)).2 (wpAny_call (PySem.W.prop_get (s := { s with toks := s.toks + 1 }) I.kIn hrec ?_))
        refine codeAny_mono (c.code0 hbs (vs := [.ref a]) (us := [.ref a]) (by rw [guards_in1]; exact c.gd) (c.room.mono (j := k + 1) (by omega)).in1 I1.env0.in1 I1 S (.cons rfl .nil) (.cons r .nil) q) fun rr s' hq => ?_
        match rr, hq with
        | .error e, hq => exact False.elim hq
        | .ok (.ret u), hq =>
          obtain ⟨v, H', I3, rv, q3⟩ := hq
          show wpAny _ _ (handedOut u) _ _ _
          rw [PySem.W.handedOut_of (handed_of rv)]
          exact wpAny_pure ⟨v, H', I3, rv, q3⟩
theorem je_att (c : Cxt G fa cf k T gfn X) (tk : Takes X W) (hbs : ∀ x ∈ bs, x ≤ b) {f : Str} (he : JE X T bs W g M e ra) (hn : notSuper e = true) : JE X T bs W g M (.Attribute e f pos) (ra.bind fun d M1 => attr G (cf b) d f M1) := je fun pins s σ H A Q I S q => by
  refine attr_of (attrBase hn) (thn (he.go I S q.bind) fun u s1 ⟨x, H1, I1, rx, d, M1, A1, _, c1, S1, p1, q1⟩ => ?_)
  exact att_go c tk hbs I1 S1 p1 rx q1
/-- C(..) -/
theorem make_go (c : Cxt G fa cf k T gfn X) (tk : Takes X W) (hbs : ∀ x ∈ bs, x ≤ b) {C : Cn} {f : Str} {pins : List (Addr × Obj)} {s : Shared} {σ : L2.St} {H : Hp} {A : Ad} {Q : VK} {vs : List V} {us : List Value} {ds : List D} (hfi : G.find C "__init__" = some (.me f)) (I : Inv X pins σ H s) (S : Sta X.K T bs A M H σ g) (rv : Vals vs us) (pv : RpL X.K A H vs ds)
    (q : kG X.K T bs W g (rE X.K) A H σ Q ((callP G (cf b) f (.cel M.length :: ds) (M ++ [.obj C []])).bind fun d M' => match d with | .non => .ok (.cel M.length) M' | _ => .no)) : wpAny (model X.prog X.w) X.A (PySem.call (.ref (ca X.K C)) us) (EP X pins σ Q) X.xe s := by
  have cx := c.wl.clsM C _ _ hfi
  have cm := cx.me _ f hfi
  have hx := I.hok.fresh (a := s.heap.objs.size + 1) (Nat.le_succ _)
  have hdx := I.hok.fresh (a := s.heap.objs.size) (Nat.le_refl _)
  have hne : s.heap.objs.size ≠ s.heap.objs.size + 1 := Nat.ne_of_lt (Nat.lt_succ_self _)
  have I2 := Inv.made (C := ca X.K C) I
  have hx1 : upd H s.heap.objs.size (.own (s.heap.objs.size + 1)) (s.heap.objs.size + 1) = none := by rw [upd_ne (Ne.symm hne)]; exact hx
  have S1 := S.laid (o := .own (s.heap.objs.size + 1)) hdx
  have c1 : Ch A H A _ := Ch.laid (o := .own (s.heap.objs.size + 1)) hdx
  have S2 := S1.newCell (c := .obj C []) (o := .ins (ca X.K C) s.heap.objs.size []) hx1 (.obj upd_same .nil)
  have c2 := Ch.cell (A := A) (o := .ins (ca X.K C) s.heap.objs.size []) hx1
  have pself : Rp X.K (A.add (s.heap.objs.size + 1)) (upd (upd H s.heap.objs.size (.own (s.heap.objs.size + 1))) (s.heap.objs.size + 1) (.ins (ca X.K C) s.heap.objs.size [])) (.ref (s.heap.objs.size + 1)) (.cel M.length) := .cel (by
    show (A.as ++ [_])[_]? = _
    rw [← S.alen, List.getElem?_append_right (Nat.le_refl _), Nat.sub_self]
    rfl)
  have q2 := kG.mono (c1.trans c2) q
  have q3 : kG X.K T bs W g (rE X.K) (A.add (s.heap.objs.size + 1)) (upd (upd H s.heap.objs.size (.own (s.heap.objs.size + 1))) (s.heap.objs.size + 1) (.ins (ca X.K C) s.heap.objs.size [])) σ (fun v H2 => v = .non ∧ Q (.ref (s.heap.objs.size + 1)) H2) (callP G (cf b) f (.cel M.length :: ds) (M ++ [.obj C []])) := by
    refine (kG.bind (rel := rE X.K) q2).imp fun v H1 ⟨d, M1, A1, _, cc, S3, p3, q4⟩ => ?_
    cases p3 with
    | non => exact ⟨rfl, q4.get S3 (pself.mono cc)⟩
    | _ => exact q4.no.elim
  refine wpAny_call (make_map (f := fa f) I.kIn cx.mkr cm.at_ (beq_iff_eq.mp cm.fn) (codeAny_mono (c.code tk hbs (vs := .ref (s.heap.objs.size + 1) :: vs) (us := .ref (s.heap.objs.size + 1) :: us) ?_ ((c.room.mono (j := k + 1) (by omega)).make (ca X.K C) us []) (I2.env0.make (ca X.K C) us []) I2 S2 (.cons rfl rv) (.cons pself (pv.mono (c1.trans c2))) q3) fun rr s' hq => ?_))
  · have e : (X.A.under (.builtin "type.__call__" ⟨.ref (ca X.K C) :: us, []⟩)).guards = X.A.guards := by first | rfl | simp [Around.under, Code.isGuard, guardIds]
    rw [e]
    exact c.gd
  · match rr, hq with
    | .error e, hq => exact hq
    | .ok (.ret u), hq =>
      obtain ⟨v, H', I3, rv, ev, q5⟩ := hq
      subst ev
      exact ⟨rv, ⟨V.ref (s.heap.objs.size + 1), H', I3, rfl, q5⟩⟩
end
end Iv
namespace Iv
open PySem PySem.Spec PyProof.Rows L2 LamX
/-! ### sorts, plainly -/
structure Tot {α : Type} (le : α → α → Bool) : Prop where
  tot : ∀ a b, le a b = true ∨ le b a = true
  tr : ∀ a b c, le a b = true → le b c = true → le a c = true
  anti : ∀ a b, le a b = true → le b a = true → a = b
section
variable {α : Type} {le : α → α → Bool}
theorem insB_perm (x : α) : ∀ l : List α, (insB le x l).Perm (x :: l)
  | [] => List.Perm.refl _
  | y :: r => by
    unfold insB
    split
    · exact List.Perm.refl _
    · exact ((insB_perm x r).cons y).trans (List.Perm.swap x y r)
theorem sortB_perm : ∀ l : List α, (sortB le l).Perm l
  | [] => List.Perm.refl _
  | x :: r => (insB_perm x (sortB le r)).trans ((sortB_perm r).cons x)
theorem insB_sorted (t : Tot le) (x : α) : ∀ {l : List α}, l.Pairwise (fun a b => le a b = true) → (insB le x l).Pairwise (fun a b => le a b = true)
  | [], _ => List.pairwise_singleton _ _
  | y :: r, h => by
    unfold insB
    obtain ⟨h1, h2⟩ := List.pairwise_cons.mp h
    split
    · rename_i hxy
      refine List.pairwise_cons.mpr ⟨fun z hz => ?_, h⟩
      rcases List.mem_cons.mp hz with rfl | hz
      · exact hxy
      · exact t.tr _ _ _ hxy (h1 z hz)
    · rename_i hxy
      refine List.pairwise_cons.mpr ⟨fun z hz => ?_, insB_sorted t x h2⟩
      rcases List.mem_cons.mp ((insB_perm x r).mem_iff.mp hz) with rfl | hz
      · exact (t.tot y z).resolve_right hxy
      · exact h1 z hz
theorem sortB_sorted (t : Tot le) : ∀ l : List α, (sortB le l).Pairwise (fun a b => le a b = true)
  | [] => List.Pairwise.nil
  | x :: r => insB_sorted t x (sortB_sorted t r)
theorem sorted_one (t : Tot le) : ∀ {l m : List α}, l.Perm m → l.Pairwise (fun a b => le a b = true) → m.Pairwise (fun a b => le a b = true) → l = m
  | [], m, p, _, _ => (List.Perm.nil_eq p)
  | x :: r, [], p, _, _ => absurd p.symm (by intro q; exact absurd (List.Perm.nil_eq q) (by simp))
  | x :: r, y :: s, p, h1, h2 => by
    obtain ⟨a1, a2⟩ := List.pairwise_cons.mp h1
    obtain ⟨b1, b2⟩ := List.pairwise_cons.mp h2
    have e : x = y := by
      rcases List.mem_cons.mp (p.mem_iff.mp List.mem_cons_self) with e | e
      · exact e
      · rcases List.mem_cons.mp (p.symm.mem_iff.mp List.mem_cons_self) with q | q
        · exact q.symm
        · exact t.anti _ _ (a1 y q) (b1 x e)
    subst e
    rw [sorted_one t ((List.perm_cons x).mp p) a2 b2]
end
theorem tot_I : Tot leI := ⟨fun a b => by unfold leI; simp; omega, fun a b c h1 h2 => by unfold leI at *; simp at *; omega, fun a b h1 h2 => by unfold leI at *; simp at *; omega⟩
theorem leL_refl : ∀ a : List Int, leL a a = true
  | [] => rfl
  | x :: r => by unfold leL; rw [if_pos rfl]; exact leL_refl r
theorem tot_L : Tot leL where
  tot := by
    intro a
    induction a with
    | nil => intro b; exact .inl rfl
    | cons x r ih =>
      intro b
      cases b with
      | nil => exact .inr rfl
      | cons y s =>
        unfold leL
        by_cases h : x = y
        · subst h
          rw [if_pos rfl, if_pos rfl]
          exact ih s
        · rw [if_neg h, if_neg (Ne.symm h)]
          simp
          omega
  tr := by
    intro a
    induction a with
    | nil => intro b c _ _; rfl
    | cons x r ih =>
      intro b c h1 h2
      cases b with
      | nil => cases h1
      | cons y s =>
        cases c with
        | nil => cases h2
        | cons z u =>
          unfold leL at h1 h2 ⊢
          by_cases e1 : x = y
          · subst e1
            rw [if_pos rfl] at h1
            by_cases e2 : x = z
            · subst e2
              rw [if_pos rfl] at h2 ⊢
              exact ih s u h1 h2
            · rw [if_neg e2] at h2 ⊢
              exact h2
          · rw [if_neg e1] at h1
            by_cases e2 : y = z
            · subst e2
              rw [if_neg e1]
              exact h1
            · rw [if_neg e2] at h2
              simp at h1 h2
              have e3 : x ≠ z := by omega
              rw [if_neg e3]
              simp
              omega
  anti := by
    intro a
    induction a with
    | nil =>
      intro b _ h
      cases b with
      | nil => rfl
      | cons y s => cases h
    | cons x r ih =>
      intro b h1 h2
      cases b with
      | nil => cases h1
      | cons y s =>
        unfold leL at h1 h2
        by_cases e : x = y
        · subst e
          rw [if_pos rfl] at h1 h2
          rw [ih s h1 h2]
        · rw [if_neg e] at h1
          rw [if_neg (Ne.symm e)] at h2
          simp at h1 h2
          omega
section
variable {prog : Program} {w : World} {A : Around} {E : Value → Shared → Prop} {s : Shared}
/-- the items of a tuple, gathered -/
theorem gatherT {t : Addr} {its : List Value} {o : Obj} {n : Nat} {Q : List Value → Shared → Prop} (ho : s.heap.get? t = some o) (hc : o.cls = .type "tuple") (hd : o.data = .seq its.toArray n) (hz : its.length ≤ sizeLine)
    (q : Q its { s with heap := (s.heap.push (seqObj "list" #[] 0)).update s.heap.objs.size (Obj.mapSeq (· ++ its.toArray)) }) : wpAny (model prog w) A (collect (.ref t)) Q E s := by
  have h1 : (s.heap.push (seqObj "list" #[] 0)).get? t = some o := Heap.get?_push_of_some _ ho
  have h2 : (s.heap.push (seqObj "list" #[] 0)).get? s.heap.objs.size = some (seqObj "list" #[] 0) := Heap.get?_push_size _ rfl
  have fits : ((#[] : Array Value) ++ its.toArray).size ≤ sizeLine + 1 := by simp only [Array.size_append, List.size_toArray, List.length_nil]; omega
  have step : ∀ (A' : Around) (Qf : Fin → Shared → Prop) (Ef : Value → Shared → Prop), Qf (.done (.ret (.ref s.heap.objs.size))) { s with heap := (s.heap.push (seqObj "list" #[] 0)).update s.heap.objs.size (Obj.mapSeq (· ++ its.toArray)) } → wpAny (model prog w) A' (Builtin.List.listExtendWith (.ref s.heap.objs.size) (.ref t) (.ref s.heap.objs.size)) Qf Ef { s with heap := s.heap.push (seqObj "list" #[] 0) } := by
    intro A' Qf Ef hq
    unfold Builtin.List.listExtendWith
    refine wpAny_bind (wpAny_typeOf (T := "tuple") ⟨o, h1, hc⟩ ?_)
    rw [if_pos (by simp)]
    refine wpAny_bind (listItems_at h1 hd (wpAny_bind (listItems_at h2 rfl ?_)))
    rw [if_neg (by simp)]
    exact wpAny_bind (listUpdate_at h2 rfl (wpAny_pure hq) (Nat.zero_le _) fits)
  unfold collect
  refine wpAny_bind (wpAny_runValue (codeAny_builtin entry_proto_collect' (wpAny_bind (wpAny_newList (wpAny_pure ⟨Code.quiet_builtin _ (by decide +kernel), codeAny_builtin entry_list_iadd' (step _ _ _ ?_)⟩)))))
  refine wpAny_bind (wpAny_load (get?_update_seq h2 _) ?_)
  have ea : ((#[] : Array Value) ++ its.toArray).toList = its := by simp
  show wpAny _ _ (pure ((#[] : Array Value) ++ its.toArray).toList) Q E _
  rw [ea]
  exact wpAny_pure q
/-- sorted(t), t a tuple -/
theorem sortedT_by {t : Addr} {its : List Value} {o : Obj} {n : Nat} {lt : Value → Value → Bool} {Q : Value → Shared → Prop} (O : SrtO.Swo lt) (ho : s.heap.get? t = some o) (hc : o.cls = .type "tuple") (hd : o.data = .seq its.toArray n) (hz : its.length ≤ sizeLine)
    (hS : 2 ≤ its.length → ∀ (h1 : Heap) (a : Addr), h1.get? a = some (seqObj "list" its.toArray 0) → (∀ b u, s.heap.get? b = some u → b ≠ a ∧ h1.get? b = some u) → SrtO.SortableO prog w A.in1.in1 { s with heap := h1 } a its lt)
    (q : ∀ out : List Value, SrtO.Srtd lt out → SrtO.Stb lt out its → Q (.ref (s.heap.objs.size + 1)) { s with heap := sortedAll s.heap its out.toArray }) : wpAny (model prog w) A (PySem.call (.builtin "sorted") [.ref t]) Q E s := by
  have sz : ((s.heap.push (seqObj "list" #[] 0)).update s.heap.objs.size (Obj.mapSeq (· ++ its.toArray))).objs.size = s.heap.objs.size + 1 := by
    rw [Heap.size_update, size_push']
  have new : (((s.heap.push (seqObj "list" #[] 0)).update s.heap.objs.size (Obj.mapSeq (· ++ its.toArray))).push (seqObj "list" its.toArray 0)).get? (s.heap.objs.size + 1) = some (seqObj "list" its.toArray 0) := by
    have z := Heap.get?_push_size ((s.heap.push (seqObj "list" #[] 0)).update s.heap.objs.size (Obj.mapSeq (· ++ its.toArray))) (o := seqObj "list" its.toArray 0) rfl
    rwa [sz] at z
  have old : ∀ b u, s.heap.get? b = some u → b ≠ s.heap.objs.size + 1 ∧ (((s.heap.push (seqObj "list" #[] 0)).update s.heap.objs.size (Obj.mapSeq (· ++ its.toArray))).push (seqObj "list" its.toArray 0)).get? b = some u := fun b u e => by
    have hb : b < s.heap.objs.size := Heap.lt_size e
    refine ⟨Nat.ne_of_lt (Nat.lt_succ_of_lt hb), Heap.get?_push_of_some _ ?_⟩
    rw [Heap.get?_update_ne _ _ _ _ (Nat.ne_of_lt hb)]
    exact Heap.get?_push_of_some _ e
  refine Calls.call_function_entry kind_sorted plain_sorted entry_sorted (args_sorted1 _) ?_
  unfold Builtin.«sorted»
  refine wpAny_bind (m := checkCount "sorted" 1 1 _) (wpAny_pure (wpAny_bind (gatherT ho hc hd hz (wpAny_bind (wpAny_newList ?_ hz)))))
  show wpAny _ _ _ _ _ { s with heap := ((s.heap.push (seqObj "list" #[] 0)).update s.heap.objs.size (Obj.mapSeq (· ++ its.toArray))).push (seqObj "list" its.toArray 0) }
  rw [sz]
  exact wpAny_bind (wpAny_holding (wpAny_call_entry slot_list_sort ⟨_, new, rfl⟩ entry_list_sort (SrtO.list_sort_ord O new hz (fun h2 => hS h2 _ _ new old) fun out hs hb => ⟨_, rfl, wpAny_pure ⟨_, rfl, q out hs hb⟩⟩) (args_list_sort _)))
end
/-! ### sorted over the data -/
section
variable {X : Cx} {T : List (Addr × Str)} {bs : List Nat} {W : WX} {M : Me} {d : D}
theorem opN_of {f : Value} {ds : List D} {r : R D} {q : List V → Hp → VK → Prop} (hc : CallR X f q) (h : ∀ (σ : L2.St) (g : Ga) (H : Hp) (A : Ad) (vs : List V) (Q : VK), Sta X.K T bs A M H σ g → RpL X.K A H vs ds → kG X.K T bs W g (rE X.K) A H σ Q r → q vs H Q) : OpN X T bs W (fun us => PySem.call f us) ds M r :=
  fun pins s σ g H A vs us Q I S p rv k => hc pins s σ H vs us Q I rv (h σ g H A vs Q S p k)
theorem RpL.one {K : PySem.W.Frag} {A : Ad} {H : Hp} {vs : List V} (r : RpL K A H vs [d]) : ∃ v, vs = [v] ∧ Rp K A H v d := by
  cases r with
  | cons r1 r2 =>
    cases r2
    exact ⟨_, rfl, r1⟩
theorem intsD_map : ∀ {ds : List D} {ns : List Int}, intsD ds = some ns → ds = ns.map .int
  | [], _, h => by cases h; rfl
  | d :: ds, ns, h => by
    cases d with
    | int i =>
      unfold intsD at h
      obtain ⟨r, e, rfl⟩ := opm h
      rw [intsD_map e]
      rfl
    | _ => cases h
theorem RpL.ints_eq {K : PySem.W.Frag} {A : Ad} {H : Hp} : ∀ {bs : List Int} {vs : List V}, RpL K A H vs (bs.map D.int) → vs = bs.map V.int
  | [], _, r => by
    cases r
    rfl
  | _ :: _, _, r => by
    cases r with
    | cons r1 r2 =>
      cases r1
      rw [RpL.ints_eq r2]
      rfl
theorem sortI_of {ns ms : List Int} (p : ms.Perm ns) (h : ms.Pairwise (· ≤ ·)) : ms = sortB leI ns :=
  sorted_one tot_I (p.trans (sortB_perm ns).symm) (h.imp fun {a b} q => decide_eq_true q) (sortB_sorted tot_I ns)
/-- a new object of these items; c: a cell or a datum -/
structure NewAt (X : Cx) (T : List (Addr × Str)) (bs : List Nat) (M : Me) (Q : VK) (σ : L2.St) (g : Ga) (A : Ad) (H : Hp) (ds : List D) : Prop where
  go : ∀ (vs : List V) (p : Addr), RpL X.K A H vs ds → H p = none → Q (.ref p) (upd H p (.lst vs))
/-- f gives a new list of the items ws -/
def OpL (X : Cx) (T : List (Addr × Str)) (bs : List Nat) (f : List Value → Sem Value) (ds : List D) (M : Me) (ws : List D) : Prop := ∀ (pins : List (Addr × Obj)) (s : Shared) (σ : L2.St) (g : Ga) (H : Hp) (A : Ad) (vs : List V) (us : List Value) (Q : VK),
  Inv X pins σ H s → Sta X.K T bs A M H σ g → RpL X.K A H vs ds → Vals vs us → (∀ (xs : List V) (p : Addr), RpL X.K A H xs ws → H p = none → Q (.ref p) (upd H p (.lst xs))) → wpAny (model X.prog X.w) X.A (f us) (EP X pins σ Q) X.xe s
theorem OpL.dat {f : List Value → Sem Value} {ds ws : List D} (h : OpL X T bs f ds M ws) : OpN X T bs W f ds M (.ok (.lst ws) M) := fun pins s σ g H A vs us Q I S p rv k => h pins s σ g H A vs us Q I S p rv fun xs q rx hq => kG.newL S hq rx k
theorem OpL.cel {f : List Value → Sem Value} {ds ws : List D} (h : OpL X T bs f ds M ws) : OpN X T bs W f ds M (.ok (.cel M.length) (M ++ [.lst ws])) := fun pins s σ g H A vs us Q I S p rv k => h pins s σ g H A vs us Q I S p rv fun xs q rx hq => kG.newC S hq rx k
/-- sorted of ints: a list, a tuple -/
theorem s_ints {ns : List Int} (h : seqOf M d = some (ns.map .int)) : OpL X T bs (fun us => PySem.call (.builtin "sorted") us) [d] M ((sortB leI ns).map .int) := by
  intro pins s σ g H A vs us Q I S p rv k
  obtain ⟨v, rfl, r⟩ := p.one
  have fin : ∀ (ms : List Int) (q : Addr), ms.Perm ns → ms.Pairwise (· ≤ ·) → H q = none → Q (.ref q) (upd H q (.lst (ms.map V.int))) := fun ms q h1 h2 h3 => by
    have e := sortI_of h1 h2
    subst e
    exact k _ q RpL.of_ints h3
  by_cases ht : ∃ ds, d = .tup ds
  · obtain ⟨ds, rfl⟩ := ht
    obtain ⟨a, ws, rfl, hs, rl⟩ := r.tupAt
    cases h
    have e := RpL.ints_eq rl
    subst e
    obtain ⟨its, rv2, ⟨o, ho, hc, n, hd⟩, hz⟩ := I.tuple hs
    rw [Vals.ref1 rv]
    have hi := rv2.ints
    refine sortedT_by SrtO.swo_int ho hc hd (by rw [← rv2.length]; exact hz) (fun h2 h1 a' _ _ => SrtO.ints_sortable hi h2) fun out h1 h2 => ?_
    obtain ⟨k1, k2, k3⟩ := SrtO.ints_out hi h1 h2
    obtain ⟨ep, he'⟩ := PyProof.Rows.sortedAll_at s.heap its out.toArray
    have hlen : ((out.map SrtO.iv).map V.int).length ≤ sizeLine := by
      rw [List.length_map, k2.length_eq]
      rw [List.length_map] at hz
      exact hz
    exact ⟨.ref _, upd H (s.heap.objs.size + 1) (.lst ((out.map SrtO.iv).map V.int)), I.laid (t' := s.toks) (fun _ _ => PyProof.Rows.sortedAll_old) (Nat.le_succ _) ⟨hlen, out, ep, vals_of_ints k1, he'⟩, rfl, fin _ _ k2 k3 (I.hok.fresh (Nat.le_succ _))⟩
  · have hl : lv M d = some (ns.map .int) := by
      cases d with
      | tup ds => exact absurd ⟨ds, rfl⟩ ht
      | _ => exact h
    obtain ⟨a, ws, rfl, hs, rl⟩ := lv_at S r hl
    have e := RpL.ints_eq rl
    subst e
    exact cr_sortedI pins s σ H _ us Q I rv ⟨a, ns, rfl, hs, fin⟩
end
end Iv
namespace Iv
open PySem PySem.Spec PyProof.Rows L2 LamX
theorem pair_inj {h : Heap} {v : Value} {a b c d : Int} (p : Srt.IsPair h v a b) (q : Srt.IsPair h v c d) : a = c ∧ b = d := by
  obtain ⟨t, o, t1, t2, n, rfl, h1, h2, h3⟩ := p
  obtain ⟨t', o', t1', t2', n', e, k1, k2, k3⟩ := q
  cases e
  rw [h1] at k1
  cases k1
  rw [h3] at k3
  cases k3
  exact ⟨rfl, rfl⟩
open Classical in
noncomputable def pkey (h : Heap) (v : Value) : Int × Int := if e : ∃ p : Int × Int, Srt.IsPair h v p.1 p.2 then choose e else (0, 0)
theorem pkey_of {h : Heap} {v : Value} {a b : Int} (p : Srt.IsPair h v a b) : pkey h v = (a, b) := by
  have e : ∃ p : Int × Int, Srt.IsPair h v p.1 p.2 := ⟨(a, b), p⟩
  unfold pkey
  rw [dif_pos e]
  obtain ⟨h1, h2⟩ := pair_inj p (Classical.choose_spec e)
  exact Prod.ext h1.symm h2.symm
def prI (p : Int × Int) : List Int := [p.1, p.2]
theorem lex_le {p q : Int × Int} (h : SrtO.lexB q p = false) : leL (prI p) (prI q) = true := by
  have z := SrtO.lexB_no.mp h
  unfold prI leL leL leL
  by_cases e : p.1 = q.1
  · rw [if_pos e]
    by_cases e2 : p.2 = q.2
    · rw [if_pos e2]
    · rw [if_neg e2]
      exact decide_eq_true (by omega)
  · rw [if_neg e]
    exact decide_eq_true (by omega)
section
variable {X : Cx} {T : List (Addr × Str)} {bs : List Nat} {W : WX} {M : Me} {d : D}
theorem tupsD_cons {ds r : List D} {ks : List (List Int)} (h : tupsD (.tup ds :: r) = some ks) : ∃ k ks', intsD ds = some k ∧ tupsD r = some ks' ∧ ks = k :: ks' := by
  unfold tupsD at h
  cases e1 : intsD ds with
  | none => rw [e1] at h; cases h
  | some k =>
    cases e2 : tupsD r with
    | none => rw [e1, e2] at h; cases h
    | some ks' => rw [e1, e2] at h; cases h; exact ⟨k, ks', rfl, rfl, rfl⟩
/-- the items: values that are pairs -/
theorem pairs_at {pins : List (Addr × Obj)} {s : Shared} {σ : L2.St} {H : Hp} {A : Ad} (I : Inv X pins σ H s) : ∀ {ws : List V} {its : List Value} {ds : List D} {ks : List (List Int)}, Vals ws its → RpL X.K A H ws ds → tupsD ds = some ks → (∀ k ∈ ks, k.length = 2) →
    ks = its.map (fun u => prI (pkey s.heap u)) ∧ ∀ u ∈ its, (∃ a, u = .ref a ∧ Rp X.K A H (.ref a) (tupI (prI (pkey s.heap u)))) ∧ Srt.IsPair s.heap u (pkey s.heap u).1 (pkey s.heap u).2
  | _, _, _, ks, .nil, .nil, h, _ => by
    cases h
    exact ⟨rfl, fun u hu => by cases hu⟩
  | _, u :: its, d :: ds, ks, .cons r0 r1, .cons p0 p1, h, h2 => by
    cases d with
    | tup xs =>
      obtain ⟨k, ks', e1, e2, rfl⟩ := tupsD_cons h
      obtain ⟨i1, i2⟩ := pairs_at I r1 p1 e2 fun k hk => h2 k (List.mem_cons_of_mem _ hk)
      have hx := intsD_map e1
      subst hx
      have p0' := p0
      obtain ⟨a, vs, rfl, hs, rl⟩ := p0.tupAt
      have e := RpL.ints_eq rl
      subst e
      cases r0
      match k, h2 k List.mem_cons_self with
      | [x, y], _ =>
        obtain ⟨its2, rv2, ⟨o, ho, hc, n, hd⟩, _⟩ := I.tuple hs
        obtain ⟨u1, u2, rfl, ⟨t1, rfl⟩, ⟨t2, rfl⟩⟩ : ∃ u1 u2, its2 = [u1, u2] ∧ RelV (.int x) u1 ∧ RelV (.int y) u2 := by
          cases rv2 with
          | cons q1 q2 =>
            cases q2 with
            | cons q2 q3 =>
              cases q3
              exact ⟨_, _, rfl, q1, q2⟩
        have ip : Srt.IsPair s.heap (.ref a) x y := ⟨a, o, t1, t2, n, rfl, ho, hc, hd⟩
        have ek := pkey_of ip
        refine ⟨by rw [List.map_cons, ek, ← i1]; rfl, fun u hu => ?_⟩
        rcases List.mem_cons.mp hu with rfl | hu
        · rw [ek]
          exact ⟨⟨a, rfl, p0'⟩, ip⟩
        · exact i2 u hu
    | _ => cases h
theorem back_rp {A : Ad} {H : Hp} {hp : Heap} : ∀ {out : List Value}, (∀ u ∈ out, ∃ a, u = Value.ref a ∧ Rp X.K A H (.ref a) (tupI (prI (pkey hp u)))) → ∃ xs : List V, Vals xs out ∧ RpL X.K A H xs (out.map fun u => tupI (prI (pkey hp u)))
  | [], _ => ⟨[], .nil, .nil⟩
  | u :: out, h => by
    obtain ⟨a, rfl, r⟩ := h u List.mem_cons_self
    obtain ⟨xs, h1, h2⟩ := back_rp (out := out) fun v hv => h v (List.mem_cons_of_mem _ hv)
    exact ⟨.ref a :: xs, .cons rfl h1, .cons r h2⟩
/-- sorted of a list of pairs of ints -/
theorem s_pairs {ds : List D} {ks : List (List Int)} (h : lv M d = some ds) (hk : tupsD ds = some ks) (h2 : ∀ k ∈ ks, k.length = 2) : OpL X T bs (fun us => PySem.call (.builtin "sorted") us) [d] M ((sortB leL ks).map tupI) := by
  intro pins s σ g H A vs us Q I S p rv k
  obtain ⟨v, rfl, r⟩ := p.one
  obtain ⟨a, ws, rfl, hs, rl⟩ := lv_at S r h
  obtain ⟨its, rv2, hl, hz⟩ := I.list hs
  rw [Vals.ref1 rv]
  obtain ⟨e1, e2⟩ := pairs_at I rv2 rl hk h2
  refine SrtO.sorted_pairsO (k := pkey s.heap) hl.isList (by rw [← rv2.length]; exact hz) (fun u hu => (e2 u hu).2) fun h' q out h3 h4 kp hq hn => ?_
  obtain ⟨xs, hx1, hx2⟩ := back_rp (X := X) (A := A) (H := H) (hp := s.heap) (out := out) fun u hu => (e2 u (h4.perm.mem_iff.mp hu)).1
  have eo : out.map (fun u => prI (pkey s.heap u)) = sortB leL ks := by
    refine sorted_one tot_L ?_ ?_ (sortB_sorted tot_L ks)
    · rw [e1]
      exact (h4.perm.map _).trans (sortB_perm _).symm
    · exact List.pairwise_map.mpr (h3.imp fun {x y} z => lex_le z)
  obtain ⟨n, hn⟩ := hn
  have hx3 : RpL X.K A H xs ((sortB leL ks).map tupI) := by
    rw [← eo, List.map_map]
    exact hx2
  refine ⟨.ref q, upd H q (.lst xs), I.laid (t' := s.toks) kp hq ⟨?_, out, n, hx1, hn⟩, rfl, k xs q hx3 (I.hok.fresh hq)⟩
  rw [hx1.length, h4.len, ← rv2.length]
  exact hz
end
end Iv
namespace Iv
open PySem PySem.Spec PyProof.Rows L2 LamX
/-! ## built-ins -/
def bnV : Bn → Value
  | .len => .builtin "len" | .max => .builtin "max" | .min => .builtin "min" | .abs => .builtin "abs" | .all => .builtin "all" | .any => .builtin "any"
  | .sum => .builtin "sum" | .repr => .builtin "repr" | .isinst => .builtin "isinstance" | .sorted => .builtin "sorted"
  | .int => .type "int" | .bool => .type "bool" | .str => .type "str" | .list => .type "list" | .tuple => .type "tuple" | .dict => .type "dict"
  | .lenset => .builtin "len" | .sortedset => .builtin "sorted"
def bnN : Bn → Str
  | .len => "len" | .max => "max" | .min => "min" | .abs => "abs" | .all => "all" | .any => "any"
  | .sum => "sum" | .repr => "repr" | .isinst => "isinstance" | .sorted => "sorted"
  | .int => "int" | .bool => "bool" | .str => "str" | .list => "list" | .tuple => "tuple" | .dict => "dict"
  | .lenset => "len" | .sortedset => "sorted"
section
variable {G : Pg} {fa : Str → Addr} {cf : Nat → Cf} {k b : Nat} {gfn : Str → Bool} {X : Cx} {T : List (Addr × Str)} {bs : List Nat} {W : WX} {g : Ga} {M : Me} {d d1 d2 : D} {ds : List D}
theorem RpL.two {K : PySem.W.Frag} {A : Ad} {H : Hp} {vs : List V} (r : RpL K A H vs [d1, d2]) : ∃ v w, vs = [v, w] ∧ Rp K A H v d1 ∧ Rp K A H w d2 := by
  cases r with
  | cons r1 r2 =>
    obtain ⟨w, rfl, r3⟩ := r2.one
    exact ⟨_, _, rfl, r1, r3⟩
theorem seqOf_at {K : PySem.W.Frag} {A : Ad} {H : Hp} {σ : L2.St} {v : V} (S : Sta K T bs A M H σ g) (r : Rp K A H v d) (h : seqOf M d = some ds) : ∃ a vs, v = .ref a ∧ (SqL K H a vs ∨ SqT K H a vs) ∧ RpL K A H vs ds := by
  by_cases ht : ∃ xs, d = .tup xs
  · obtain ⟨xs, rfl⟩ := ht
    cases h
    exact seq_at S r (.inl rfl)
  · refine seq_at S r (.inr ?_)
    cases d with
    | tup xs => exact absurd ⟨xs, rfl⟩ ht
    | _ => exact h
theorem blsD_map : ∀ {ds : List D} {ns : List Bool}, blsD ds = some ns → ds = ns.map .bl
  | [], _, h => by cases h; rfl
  | d :: ds, ns, h => by
    cases d with
    | bl i =>
      unfold blsD at h
      obtain ⟨r, e, rfl⟩ := opm h
      rw [blsD_map e]
      rfl
    | _ => cases h
theorem RpL.bls_eq {K : PySem.W.Frag} {A : Ad} {H : Hp} : ∀ {bs : List Bool} {vs : List V}, RpL K A H vs (bs.map D.bl) → vs = bs.map V.bl
  | [], _, r => by
    cases r
    rfl
  | _ :: _, _, r => by
    cases r with
    | cons r1 r2 =>
      cases r1
      rw [RpL.bls_eq r2]
      rfl
theorem lvB_at {K : PySem.W.Frag} {A : Ad} {H : Hp} {σ : L2.St} {v : V} {l : List Bool} (S : Sta K T bs A M H σ g) (r : Rp K A H v d) (h : (lv M d).bind blsD = some l) : ∃ a, v = .ref a ∧ SqL K H a (l.map V.bl) := by
  obtain ⟨ds, e1, e2⟩ := Option.bind_eq_some_iff.mp h
  obtain ⟨a, vs, rfl, h1, h2⟩ := lv_at S r e1
  rw [blsD_map e2] at h2
  rw [RpL.bls_eq h2] at h1
  exact ⟨a, rfl, h1⟩
theorem lvI_at {K : PySem.W.Frag} {A : Ad} {H : Hp} {σ : L2.St} {v : V} {l : List Int} (S : Sta K T bs A M H σ g) (r : Rp K A H v d) (h : (lv M d).bind intsD = some l) : ∃ a, v = .ref a ∧ SqL K H a (l.map V.int) := by
  obtain ⟨ds, e1, e2⟩ := Option.bind_eq_some_iff.mp h
  obtain ⟨a, vs, rfl, h1, h2⟩ := lv_at S r e1
  rw [intsD_map e2] at h2
  rw [RpL.ints_eq h2] at h1
  exact ⟨a, rfl, h1⟩
/-! isinstance -/
theorem tyT_at (c : Cxt G fa cf k T gfn X) {A : Ad} {H : Hp} {σ : L2.St} {v : V} {t : Tn} (S : Sta X.K T bs A M H σ g) (r : Rp X.K A H v d) (h : tyT G M d = some t) : TyX X.K H v (tnV X.K t) := by
  have ob : ∀ {C : Cn} {a dx : Addr} {fs : List (Str × V)}, H a = some (.ins (ca X.K C) dx fs) → (if (G.has C && !C.isX) = true then some (Tn.c C) else none) = some t → TyX X.K H (.ref a) (tnV X.K t) := fun {C a dx fs} e q => by
    by_cases hc : (G.has C && !C.isX) = true
    · rw [if_pos hc] at q
      cases q
      obtain ⟨h1, h2⟩ := b2 hc
      have cx := c.wl.clsO C h1 (by simpa using h2)
      obtain ⟨q1, q2, q3, q4⟩ := cx.cty
      exact .base (.ins e cx.cl q1 q2 q3 q4)
    · rw [if_neg hc] at q
      cases q
  have sql : ∀ {a : Addr} {xs : List V}, SqL X.K H a xs → TyX X.K H (.ref a) (.type "list") := fun {a xs} q => by
    rcases q with (q | ⟨o, q⟩) | q
    · exact .base (.lst q)
    · exact .base (.frz q)
    · obtain ⟨o, its, n, h1, h2, _⟩ := q
      exact .kList h1 h2
  have sqt : ∀ {a : Addr} {xs : List V}, SqT X.K H a xs → TyX X.K H (.ref a) (.type "tuple") := fun {a xs} q => by
    rcases q with (q | ⟨o, q⟩) | q
    · exact .base (.tup q)
    · exact .fTuple q
    · obtain ⟨o, its, n, h1, h2, _⟩ := q
      exact .kTuple h1 h2
  cases d with
  | int i => cases r; cases h; exact .base (.int i)
  | bl i => cases r; cases h; exact .base (.bl i)
  | str i => cases r; cases h; exact .base (.str i)
  | non => cases r; cases h; exact .base .non
  | byt i => cases r; cases h; exact .byt i
  | tup ds => cases h; obtain ⟨a, vs, rfl, h1, h2⟩ := r.tupAt; exact sqt h1
  | lst ds => cases h; obtain ⟨a, vs, rfl, h1, h2⟩ := lv_at S r rfl; exact sql h1
  | scr ns => cases h; obtain ⟨a, vs, rfl, h1, h2⟩ := lv_at S r rfl; exact sql h1
  | dct kvs =>
    cases h
    obtain ⟨a, kvs, rfl, h1, h2⟩ := dv_at S r rfl
    rcases h1 with h1 | ⟨o, h1⟩
    · exact .base (.dK h1)
    · exact .fDict h1
  | obj C fs =>
    cases r with
    | obj n e _ => exact ob e h
  | cel j =>
    unfold tyT at h
    dsimp only at h
    cases e : M[j]? with
    | none => simp only [e] at h; cases h
    | some ce =>
      simp only [e] at h
      obtain ⟨a, rfl, ha, q⟩ := S.celAt e r
      cases q with
      | lst h1 _ => cases h; exact .base (.lst h1)
      | dct h1 _ => cases h; exact .base (.dK h1)
      | dfz h1 _ => cases h
      | obj h1 _ => exact ob h1 h
  | _ => cases h
theorem clT_at {K : PySem.W.Frag} {A : Ad} {H : Hp} {v : V} {t : Tn} (r : Rp K A H v d) (h : clT d = some t) : ClsV v (tnV K t) := by
  cases d with
  | cl C => cases h; cases r; exact .own _
  | ty n => cases h; cases r; exact .ty _
  | _ => cases h
theorem clTs_at {K : PySem.W.Frag} {A : Ad} {H : Hp} : ∀ {cs : List D} {vs : List V} {ts : List Tn}, mapO clT cs = some ts → RpL K A H vs cs → Paired ClsV vs (ts.map (tnV K))
  | [], _, _, h, r => by
    cases r
    cases h
    exact .nil
  | c1 :: cs, _, _, h, r => by
    cases r with
    | cons r1 r2 =>
      unfold mapO at h
      cases e : clT c1 with
      | none => rw [e] at h; cases h
      | some u =>
        cases e2 : mapO clT cs with
        | none => rw [e, e2] at h; cases h
        | some us =>
          rw [e, e2] at h
          cases h
          exact .cons (clT_at r1 e) (clTs_at e2 r2)
theorem isAny_at (c : Cxt G fa cf k T gfn X) {t : Tn} : ∀ {ts : List Tn} {z : Bool}, isAny G t ts = some z → PySem.W.kitAny X.K (tnV X.K t) (ts.map (tnV X.K)) = some z
  | [], z, h => by
    cases h
    rfl
  | u :: ts, z, h => by
    unfold isAny at h
    cases e2 : isB G t u with
    | none => rw [e2] at h; cases h
    | some y =>
      rw [e2] at h
      have k1 := c.wl.isi t u y e2
      show PySem.W.kitAny X.K (tnV X.K t) (tnV X.K u :: ts.map (tnV X.K)) = some z
      unfold PySem.W.kitAny
      rw [k1]
      cases y with
      | true => exact h
      | false => exact isAny_at c h
theorem Rp.tupH {K : PySem.W.Frag} {A : Ad} {H : Hp} {v : V} {ds : List D} (r : Rp K A H v (.tup ds)) : ∃ a vs, v = .ref a ∧ RpL K A H vs ds ∧ (H a = some (.tup vs) ∨ ∃ (o : Obj) (its : Array Value) (n : Nat), K.lookup a = some o ∧ o.cls = .type "tuple" ∧ o.data = .seq its n ∧ Vals vs its.toList) := by
  cases r with
  | tup _ h q => exact ⟨_, _, rfl, q, .inl h⟩
  | tupW h q =>
    rcases h (fun _ => none) with (z | ⟨o, z⟩) | ⟨o, its, n, h1, h2, h3, _, h4⟩
    · cases z
    · cases z
    · exact ⟨_, _, rfl, q, .inr ⟨o, its, n, h1, h2, h3, h4⟩⟩
theorem s_sorted {ws : List D} (h : sortQ M d = some ws) : OpL X T bs (fun us => PySem.call (.builtin "sorted") us) [d] M ws := by
  unfold sortQ at h
  cases e : seqOf M d with
  | none => rw [e] at h; cases h
  | some ds =>
    rw [e] at h
    dsimp only at h
    cases e1 : intsD ds with
    | some ns =>
      rw [e1] at h
      cases h
      exact s_ints (by rw [e, intsD_map e1])
    | none =>
      rw [e1] at h
      dsimp only at h
      cases e2 : lv M d with
      | none => rw [e2] at h; cases h
      | some ds2 =>
        cases e3 : tupsD ds with
        | none => rw [e2, e3] at h; cases h
        | some ks =>
          rw [e2, e3] at h
          dsimp only at h
          by_cases hk : (ks.all fun k => k.length == 2) = true
          · rw [if_pos hk] at h
            cases h
            have e4 : ds2 = ds := by
              cases d with
              | tup xs => cases e2
              | _ => exact Option.some.inj (e2.symm.trans e)
            subst e4
            exact s_pairs e2 e3 fun k hk2 => by simpa using List.all_eq_true.mp hk k hk2
          · rw [if_neg hk] at h
            cases h
def rReprD (K : PySem.W.Frag) : List V → Hp → VK → Prop := fun xs H Q => ∃ (a : Addr) (q : PyData), xs = [.ref a] ∧ Dp K H (.ref a) q ∧ q.showable = true ∧ q.hasDict = false ∧ q.depth ≤ 64 ∧ q.shown.length ≤ sizeLine ∧ Q (.str q.shown) H
theorem call_reprD (hG : X.A.guards = some []) (hu : X.A.units + 65 < cLine) : CallR X (.builtin "repr") (rReprD X.K) := by
  intro pins s σ H xs us Q I r h
  obtain ⟨a, q, rfl, hd, hs, hh, hdp, hsz, k⟩ := h
  obtain ⟨u, rfl, ru⟩ := r.one
  obtain ⟨as, hr⟩ := Dp.reads I q (.ref a) u hd ru
  cases ru
  refine repr_of_reads' hr hs (fun z => by rw [hh] at z; cases z) hG (by omega) (fun _ _ z => z) (fun h' u tk hk => ?_) hsz
  exact ⟨.str q.shown, H, I.kept (t' := tk) hk, ⟨u, rfl⟩, k⟩
theorem call_repr_non : CallR X (.builtin "repr") (fun xs H Q => xs = [.non] ∧ Q (.str "None") H) := by
  intro pins s σ H xs us Q I r h
  obtain ⟨rfl, q⟩ := h
  obtain ⟨u, rfl, ru⟩ := r.one
  cases ru
  exact PySem.P.repr_of_none ⟨.str _, H, I.tok _, ⟨_, rfl⟩, q⟩
theorem call_repr_bl : CallR X (.builtin "repr") (fun xs H Q => ∃ z, xs = [.bl z] ∧ Q (.str (if z = true then "True" else "False")) H) := by
  intro pins s σ H xs us Q I r h
  obtain ⟨z, rfl, q⟩ := h
  obtain ⟨u, rfl, ru⟩ := r.one
  cases ru
  exact PySem.P.repr_of_bool ⟨.str _, H, I.tok _, ⟨_, rfl⟩, q⟩
theorem call_repr_str : CallR X (.builtin "repr") (fun xs H Q => ∃ x, xs = [.str x] ∧ (reprText x).length ≤ sizeLine ∧ Q (.str (reprText x)) H) := by
  intro pins s σ H xs us Q I r h
  obtain ⟨x, rfl, hl, q⟩ := h
  obtain ⟨u, rfl, ru⟩ := r.one
  obtain ⟨t, rfl⟩ := ru
  exact PySem.P.repr_of_str ⟨.str _, H, I.tok _, ⟨_, rfl⟩, q⟩ hl
theorem b_repr (c : Cxt G fa cf k T gfn X) : OpN X T bs W (fun us => PySem.call (.builtin "repr") us) [d] M (R.of M ((reprD M d).map .str)) := by
  have hu : X.A.units + 65 < cLine := by have := c.room.un; omega
  have deep : ∀ {q : PyData} {x : Str}, pdM M d = some q → ((∃ qs, q = .list qs) ∨ ∃ qs, q = .tuple qs) → reprP q = some x → OpN X T bs W (fun us => PySem.call (.builtin "repr") us) [d] M (R.of M ((some x).map .str)) := fun {q x} e hs h => by
    unfold reprP at h
    by_cases hc : q.showable = true ∧ q.hasDict = false ∧ q.depth ≤ 64 ∧ q.shown.length ≤ sizeLine
    · rw [if_pos hc] at h
      cases h
      refine opN_of (call_reprD c.gd hu) fun σ g H A vs Q S p k => ?_
      obtain ⟨v, rfl, r⟩ := p.one
      have hd := pdM_at S r e
      obtain ⟨a, rfl⟩ : ∃ a, v = .ref a := by
        rcases hs with ⟨qs, rfl⟩ | ⟨qs, rfl⟩
        · cases hd
          exact ⟨_, rfl⟩
        · cases hd
          exact ⟨_, rfl⟩
      exact ⟨a, q, rfl, hd, hc.1, hc.2.1, hc.2.2.1, hc.2.2.2, k.get S .str⟩
    · rw [if_neg hc] at h
      cases h
  have lst : ∀ {ds : List D}, lv M d = some ds → pdM M d = (pdL ds).map .list → OpN X T bs W (fun us => PySem.call (.builtin "repr") us) [d] M (R.of M (((pdL ds).bind fun q => reprP (.list q)).map .str)) := fun {ds} e1 e2 => by
    cases e3 : pdL ds with
    | none => exact opN_no
    | some qs =>
      dsimp only [Option.bind_some]
      cases e4 : reprP (.list qs) with
      | none => exact opN_no
      | some x => exact deep (by rw [e2, e3]; rfl) (.inl ⟨qs, rfl⟩) e4
  have intsQ : ∀ ns : List Int, pdL (ns.map D.int) = some (ns.map .int) := fun ns => by
    induction ns with
    | nil => rfl
    | cons n ns ih =>
      show (pd (.int n)).bind (fun x => (pdL (ns.map D.int)).map (x :: ·)) = _
      rw [ih]
      rfl
  cases d with
  | non =>
    refine opN_of call_repr_non fun σ g H A vs Q S p k => ?_
    obtain ⟨v, rfl, r⟩ := p.one
    cases r
    exact ⟨rfl, k.get S .str⟩
  | bl z =>
    refine opN_of call_repr_bl fun σ g H A vs Q S p k => ?_
    obtain ⟨v, rfl, r⟩ := p.one
    cases r
    exact ⟨z, rfl, k.get S .str⟩
  | str x =>
    unfold reprD
    dsimp only
    by_cases hl : (reprText x).length ≤ sizeLine
    · rw [if_pos hl]
      refine opN_of call_repr_str fun σ g H A vs Q S p k => ?_
      obtain ⟨v, rfl, r⟩ := p.one
      cases r
      exact ⟨x, rfl, hl, k.get S .str⟩
    · rw [if_neg hl]
      exact opN_no
  | int i =>
    unfold reprD
    dsimp only
    by_cases hl : i.natAbs.log2 < 1920
    · rw [if_pos hl]
      refine opN_of SkE.call_repr_int fun σ g H A vs Q S p k => ?_
      obtain ⟨v, rfl, r⟩ := p.one
      cases r
      exact ⟨i, rfl, hl, k.get S .str⟩
    · rw [if_neg hl]
      exact opN_no
  | tup ds =>
    unfold reprD
    dsimp only
    cases e3 : pdL ds with
    | none => exact opN_no
    | some qs =>
      dsimp only [Option.bind_some]
      cases e4 : reprP (.tuple qs) with
      | none => exact opN_no
      | some x => exact deep (by show (pdL ds).map PyData.tuple = _; rw [e3]; rfl) (.inr ⟨qs, rfl⟩) e4
  | lst ds => exact lst rfl rfl
  | scr ns => exact lst rfl (by rw [intsQ]; rfl)
  | cel j =>
    unfold reprD
    dsimp only
    cases e : lv M (.cel j) with
    | none => exact opN_no
    | some ds =>
      refine lst e ?_
      unfold lv at e
      unfold pdM
      dsimp only at e ⊢
      cases em : M[j]? with
      | none => simp only [em] at e; cases e
      | some ce =>
        simp only [em] at e ⊢
        cases ce with
        | lst xs => cases e; rfl
        | _ => cases e
  | _ => exact opN_no
/-- dict(pairs) -/
theorem b_dict (c : Cxt G fa cf k T gfn X) : OpN X T bs W (fun us => PySem.call (.type "dict") us) [d] M (R.of M (((lv M d).bind pairsD).map fun kvs => .dct (kputs [] kvs))) := by
  cases e : lv M d with
  | none => exact opN_no
  | some xs =>
    rw [Option.bind_some]
    cases e2 : pairsD xs with
    | none => exact opN_no
    | some kds =>
      refine opN_of (call_dictP c.calm) fun σ g H A vs Q S p q => ?_
      obtain ⟨v, rfl, r⟩ := p.one
      obtain ⟨a, vs, rfl, h1, h2⟩ := lv_at S r e
      obtain ⟨ps, kvs, rfl, hp, rk⟩ := kvs_at h2 e2
      exact ⟨a, ps, kvs, rfl, h1, hp, fun p hp' => kG.newD S hp' (RpK.puts .nil rk) q⟩
theorem b_dictC (c : Cxt G fa cf k T gfn X) : OpN X T bs W (fun us => PySem.call (.type "dict") us) [d] M ((R.of M (((lv M d).bind pairsD).map fun kvs => Ce.dct (kputs [] kvs))).bind fun c M1 => .ok (.cel M1.length) (M1 ++ [c])) := by
  cases e : lv M d with
  | none => exact opN_no
  | some xs =>
    rw [Option.bind_some]
    cases e2 : pairsD xs with
    | none => exact opN_no
    | some kds =>
      refine opN_of (call_dictP c.calm) fun σ g H A vs Q S p q => ?_
      obtain ⟨v, rfl, r⟩ := p.one
      obtain ⟨a, vs, rfl, h1, h2⟩ := lv_at S r e
      obtain ⟨ps, kvs, rfl, hp, rk⟩ := kvs_at h2 e2
      exact ⟨a, ps, kvs, rfl, h1, hp, fun p hp' => kG.newDC S hp' (RpK.puts .nil rk) q⟩
/-- all of them -/
theorem b_cb (c : Cxt G fa cf k T gfn X) (tk : Takes X W) (hbs : ∀ x ∈ bs, x ≤ b) {n : Bn} (hset : setB n = false) : OpN X T bs W (fun us => PySem.call (bnV n) us) ds M (cbOp G (cf b) n ds M) := by
  have one : ∀ {f : Value} {d : D} {r : R D} {q : List V → Hp → VK → Prop}, CallR X f q → (∀ (σ : L2.St) (g : Ga) (H : Hp) (A : Ad) (v : V) (Q : VK), Sta X.K T bs A M H σ g → Rp X.K A H v d → kG X.K T bs W g (rE X.K) A H σ Q r → q [v] H Q) → OpN X T bs W (fun us => PySem.call f us) [d] M r := fun hc h => opN_of hc fun σ g H A vs Q S p q => by
    obtain ⟨v, rfl, r⟩ := p.one
    exact h σ g H A v Q S r q
  have two : ∀ {f : Value} {d1 d2 : D} {r : R D} {q : List V → Hp → VK → Prop}, CallR X f q → (∀ (σ : L2.St) (g : Ga) (H : Hp) (A : Ad) (v w : V) (Q : VK), Sta X.K T bs A M H σ g → Rp X.K A H v d1 → Rp X.K A H w d2 → kG X.K T bs W g (rE X.K) A H σ Q r → q [v, w] H Q) → OpN X T bs W (fun us => PySem.call f us) [d1, d2] M r := fun hc h => opN_of hc fun σ g H A vs Q S p q => by
    obtain ⟨v, w, rfl, r1, r2⟩ := p.two
    exact h σ g H A v w Q S r1 r2 q
  unfold cbOp
  cases n with
  | len =>
    dsimp only
    split
    · rename_i d
      unfold lenR
      cases eo : ov M d with
      | some p => exact b_ownLen c tk hbs (C := p.1) (fs := p.2) eo
      | none =>
        dsimp only
        split
        · rename_i xs
          exact one call_len_seq fun σ g H A v Q S r q => by
            obtain ⟨a, vs, rfl, h1, h2⟩ := r.tupAt
            exact ⟨a, vs, rfl, .inr h1, by rw [h2.length]; exact q.get S .int⟩
        · rename_i x
          by_cases hl : x.length ≤ maxL
          · rw [if_pos hl]
            exact one call_len_str fun σ g H A v Q S r q => by
              cases r
              exact ⟨x, rfl, sz_of hl, q.get S .int⟩
          · rw [if_neg hl]
            exact opN_no
        · cases e : lv M d with
          | none =>
            dsimp only
            cases e2 : dv M d with
            | none => exact opN_no
            | some kds => exact b_dlen e2
          | some xs =>
            exact one call_len_seq fun σ g H A v Q S r q => by
              obtain ⟨a, vs, rfl, h1, h2⟩ := lv_at S r e
              exact ⟨a, vs, rfl, .inl h1, by rw [h2.length]; exact q.get S .int⟩
    · exact opN_no
  | max =>
    dsimp only
    split
    · rename_i i j
      exact two (call_max2 c.calm) fun σ g H A v w Q S r1 r2 q => by
        cases r1
        cases r2
        exact ⟨i, j, rfl, q.get S .int⟩
    · exact opN_no
  | min =>
    dsimp only
    split
    · rename_i i j
      exact two (call_min2 c.calm) fun σ g H A v w Q S r1 r2 q => by
        cases r1
        cases r2
        exact ⟨i, j, rfl, q.get S .int⟩
    · exact opN_no
  | abs =>
    dsimp only
    split
    · rename_i i
      exact one call_abs fun σ g H A v Q S r q => by
        cases r
        exact ⟨i, rfl, q.get S .int⟩
    · exact opN_no
  | all =>
    dsimp only
    split
    · rename_i d
      cases e : (lv M d).bind blsD with
      | none => exact opN_no
      | some l =>
        exact one (cr_all c.calm) fun σ g H A v Q S r q => by
          obtain ⟨a, rfl, h1⟩ := lvB_at S r e
          exact ⟨a, l, rfl, h1, q.get S .bl⟩
    · exact opN_no
  | any =>
    dsimp only
    split
    · rename_i d
      cases e : (lv M d).bind blsD with
      | none => exact opN_no
      | some l =>
        exact one (cr_any c.calm) fun σ g H A v Q S r q => by
          obtain ⟨a, rfl, h1⟩ := lvB_at S r e
          exact ⟨a, l, rfl, h1, q.get S .bl⟩
    · exact opN_no
  | sum =>
    dsimp only
    split
    · rename_i d
      cases e : (lv M d).bind intsD with
      | none => exact opN_no
      | some l =>
        exact one (cr_sum c.calm) fun σ g H A v Q S r q => by
          obtain ⟨a, rfl, h1⟩ := lvI_at S r e
          exact ⟨a, l, rfl, h1, q.get S .int⟩
    · exact opN_no
  | repr =>
    dsimp only
    split
    · rename_i d
      cases eo : ov M d with
      | some p => exact b_ownRepr c tk hbs (C := p.1) (fs := p.2) eo
      | none =>
        dsimp only
        exact b_repr c
    · exact opN_no
  | isinst =>
    dsimp only
    split
    · rename_i d cs
      cases et : tyT G M d with
      | none => exact opN_no
      | some t =>
        dsimp only [Option.bind_some]
        cases em : mapO clT cs with
        | none => exact opN_no
        | some ts =>
          dsimp only [Option.bind_some]
          cases ez : isAny G t ts with
          | none => exact opN_no
          | some z =>
            intro pins s σ g H A vs us Q I S p rv q
            obtain ⟨v, w, rfl, r1, r2⟩ := p.two
            have ty := tyT_at c S r1 et
            obtain ⟨a, ws, rfl, rl, hh⟩ := r2.tupH
            have hp := clTs_at em rl
            rcases hh with hh | ⟨o, its, n, h1, h2, h3, h4⟩
            · exact call_isiT pins s σ H _ us Q I rv ⟨v, a, ws, _, _, z, rfl, hh, hp, ty, isAny_at c ez, q.get S .bl⟩
            · obtain ⟨oc, od, dt, sl⟩ := o
              simp only at h2 h3
              subst h2 h3
              have e5 := ClsV.all hp h4
              refine call_isiK pins s σ H _ us Q I rv ⟨v, a, od, its.toList, n, sl, _, z, rfl, h1, ty, ?_, q.get S .bl⟩
              rw [e5]
              exact isAny_at c ez
    · rename_i d c1 _
      unfold isOne
      cases et : tyT G M d with
      | none => exact opN_no
      | some t =>
        cases eu : clT c1 with
        | none => exact opN_no
        | some u =>
          dsimp only
          cases ez : isB G t u with
          | none => exact opN_no
          | some z =>
            exact two call_isi fun σ g H A v w Q S r1 r2 q => ⟨v, w, _, _, z, rfl, clT_at r2 eu, tyT_at c S r1 et, c.wl.isi t u z ez, q.get S .bl⟩
    · exact opN_no
  | sorted =>
    dsimp only
    split
    · rename_i d
      cases e : sortQ M d with
      | none => exact opN_no
      | some ws => exact (s_sorted e).dat
    · exact opN_no
  | int =>
    dsimp only
    split
    · rename_i i
      exact one call_int1 fun σ g H A v Q S r q => by
        cases r
        exact .inl ⟨i, rfl, q.get S .int⟩
    · rename_i i
      exact one call_int1 fun σ g H A v Q S r q => by
        cases r
        exact .inr ⟨i, rfl, q.get S .int⟩
    · exact opN_no
  | bool =>
    dsimp only
    split
    · rename_i i
      exact one call_bool1 fun σ g H A v Q S r q => by
        cases r
        exact .inl ⟨i, rfl, q.get S .bl⟩
    · rename_i i
      exact one call_bool1 fun σ g H A v Q S r q => by
        cases r
        exact .inr ⟨i, rfl, q.get S .bl⟩
    · exact opN_no
  | str =>
    dsimp only
    split
    · rename_i i
      by_cases hl : i.natAbs.log2 < 1920
      · rw [if_pos hl]
        exact one call_str_int fun σ g H A v Q S r q => by
          cases r
          exact ⟨i, rfl, hl, q.get S .str⟩
      · rw [if_neg hl]
        exact opN_no
    · exact opN_no
  | list =>
    dsimp only
    split
    · rename_i d
      cases e : seqOf M d with
      | none => exact opN_no
      | some ws =>
        exact one call_list_of fun σ g H A v Q S r q => by
          obtain ⟨a, vs, rfl, h1, h2⟩ := seqOf_at S r e
          exact ⟨a, vs, rfl, h1, fun p hp => kG.newL S hp h2 q⟩
    · exact opN_no
  | tuple =>
    dsimp only
    split
    · rename_i d
      cases e : seqOf M d with
      | none => exact opN_no
      | some ws =>
        exact one call_tuple_of fun σ g H A v Q S r q => by
          have r' := r
          obtain ⟨a, vs, rfl, h1, h2⟩ := seqOf_at S r e
          by_cases ht : ∃ xs, d = .tup xs
          · obtain ⟨xs, rfl⟩ := ht
            cases e
            obtain ⟨a2, vs2, e2, h3, h4⟩ := r'.tupAt
            cases e2
            exact ⟨a, vs2, rfl, .inr ⟨h3, q.get S r'⟩⟩
          · have hl : lv M d = some ws := by
              cases d with
              | tup xs => exact absurd ⟨xs, rfl⟩ ht
              | _ => exact e
            obtain ⟨a2, vs2, e2, h3, h4⟩ := lv_at S r' hl
            cases e2
            exact ⟨a, vs2, rfl, .inl ⟨h3, fun p hp => q.get' (Ch.laid hp) (S.laid hp) (.tup (S.fresh hp) upd_same (h4.mono (Ch.laid hp)))⟩⟩
    · exact opN_no
  | dict =>
    dsimp only
    split
    · exact b_dict c
    · exact opN_no
  | lenset => cases hset
  | sortedset => cases hset
end
end Iv
namespace Iv
open PySem PySem.Spec PyProof.Rows L2 LamX
section
variable {G : Pg} {fa : Str → Addr} {cf : Nat → Cf} {k b : Nat} {gfn : Str → Bool} {X : Cx} {T : List (Addr × Str)} {bs : List Nat} {W : WX} {g : Ga} {M : Me} {d d1 d2 : D} {ds : List D} {e o : Expr} {es : List Expr} {pos apos p p2 : Pos} {x : Str} {ra : R D} {rs : R (List D)} {rl : R (List D)}
/-! ### new lists -/
structure tRL (K : PySem.W.Frag) (T : List (Addr × Str)) (bs : List Nat) (W : WX) (g : Ga) (M : Me) (r : R (List D)) (σ : L2.St) (H : Hp) (Q : VK) : Prop where
  ex : ∃ A, Sta K T bs A M H σ g ∧ kG K T bs W g (rA K) A H σ (fun vs H1 => ∀ p, H1 p = none → Q (.ref p) (upd H1 p (.lst vs))) r
abbrev JL (X : Cx) (T : List (Addr × Str)) (bs : List Nat) (W : WX) (g : Ga) (M : Me) (e : Expr) (r : R (List D)) : Prop := PE X e (tRL X.K T bs W g M r)
theorem jl_no : JL X T bs W g M e .no := ⟨fun _ _ _ _ _ _ ⟨_, _, k⟩ => k.no.elim⟩
theorem JL.go {pins : List (Addr × Obj)} {s : Shared} {σ : L2.St} {H : Hp} {A : Ad} {Q : VK} (h : JL X T bs W g M e rl) (I : Inv X pins σ H s) (S : Sta X.K T bs A M H σ g) (k : kG X.K T bs W g (rA X.K) A H σ (fun vs H1 => ∀ p, H1 p = none → Q (.ref p) (upd H1 p (.lst vs))) rl) : wpAny (model X.prog X.w) X.A (eval e X.env) (EP X pins σ Q) X.xe s :=
  h.run pins s σ H Q I ⟨A, S, k⟩
theorem je_dat (h : JL X T bs W g M e rl) : JE X T bs W g M e (rl.bind fun ds M1 => .ok (.lst ds) M1) := je fun pins s σ H A Q I S k =>
  h.go I S ((kG.bind (rel := rA X.K) k).imp fun vs H1 ⟨ds, M1, A1, _, c1, S1, r1, k1⟩ p hp => kG.newL S1 hp r1 k1)
theorem je_cel (h : JL X T bs W g M e rl) : JE X T bs W g M e (rl.bind fun ds M1 => .ok (.cel M1.length) (M1 ++ [.lst ds])) := je fun pins s σ H A Q I S k =>
  h.go I S ((kG.bind (rel := rA X.K) k).imp fun vs H1 ⟨ds, M1, A1, _, c1, S1, r1, k1⟩ p hp => kG.newC S1 hp r1 k1)
/-- the same, answers turned over -/
theorem kG.bindO {α β γ δ : Type} {rel2 : Ad → Hp → δ → γ → Prop} {A : Ad} {H : Hp} {σ : L2.St} {Q2 : δ → Hp → Prop} {K : PySem.W.Frag} (x : γ) (h : kG K T bs W g rel2 A H σ Q2 (.ok x M)) : kG K T bs W g rel2 A H σ Q2 (.ok x M) := h
theorem jl_lst (h : JA X T bs W g M es rs) : JL X T bs W g M (.List es pos) (rs.bind fun ds M1 => if ds.length ≤ maxL then .ok ds M1 else .no) := ⟨fun pins s σ H Q I ⟨A, S, k⟩ => by
  refine wpAny_List_spliced (thn (h.go (pos := pos) I S k.bind) fun us s1 ⟨xs, H1, I1, r, ds, M1, A1, _, c1, S1, p1, k1⟩ => ?_)
  split at k1
  · rename_i hl
    have z : xs.length ≤ sizeLine := sz_of (by rw [p1.length]; exact hl)
    refine ⟨by rw [← r.length]; exact z, ?_⟩
    have hf : H1 s1.heap.objs.size = none := I1.hok.fresh (Nat.le_refl _)
    refine ⟨.ref s1.heap.objs.size, upd H1 s1.heap.objs.size (.lst xs), I1.laid (t' := s1.toks) (fun b u e => Heap.get?_push_of_some _ e) (Nat.le_refl _) ?_, rfl, k1.get S1 p1 _ hf⟩
    exact ⟨z, us, 0, r, Heap.get?_push_size _ rfl⟩
  · exact k1.no.elim⟩
/-! ### built-ins called -/
theorem call_blt {u : Value} {pins : List (Addr × Obj)} {s : Shared} {σ : L2.St} {H : Hp} {Q : Value → Shared → Prop} (I : Inv X pins σ H s) (hg : Gl X x) (hm : X.mg x = none) (hv : bootBuiltins x = some u) (hu : (∃ id, u = .builtin id) ∨ ∃ t, u = .type t) (hs : NoStar (e :: es)) (hn : x ≠ "__name__") (hdb : (x == ("__debug__" : Str)) = false)
    (ha : wpAny (model X.prog X.w) X.A (spliced (backTo pos (starEach (e :: es) X.env))) (fun us s1 => wpAny (model X.prog X.w) X.A (PySem.call u us) Q X.xe s1) X.xe s) : wpAny (model X.prog X.w) X.A (eval (.Call (.Name x p) (e :: es) [] pos) X.env) Q X.xe s := by
  refine wpAny_Call_Name_kw (ld_blt I hg hm hv ?_ hn hdb)
  rcases hu with ⟨id, rfl⟩ | ⟨t, rfl⟩
  · exact PyProof.Rows.callWith_builtin1 ha (star_cons hs) (star_any hs.tail)
  · exact PyProof.Rows.callWith_type1 ha (star_cons hs) (star_any hs.tail)
theorem je_blt {u : Value} {f : List D → Me → R D} (hg : Gl X x) (hm : X.mg x = none) (hv : bootBuiltins x = some u) (hu : (∃ id, u = .builtin id) ∨ ∃ t, u = .type t) (hs : NoStar (e :: es)) (hn : x ≠ "__name__") (hdb : (x == ("__debug__" : Str)) = false) (ha : JA X T bs W g M (e :: es) rs) (ho : ∀ ds M1, OpN X T bs W (fun us => PySem.call u us) ds M1 (f ds M1)) :
    JE X T bs W g M (.Call (.Name x p) (e :: es) [] pos) (rs.bind f) := je fun pins s σ H A Q I S k =>
  call_blt I hg hm hv hu hs hn hdb (thn (ha.go (pos := pos) I S k.bind) fun us s1 ⟨xs, H1, I1, r, ds, M1, A1, _, c1, S1, p1, k1⟩ => ho ds M1 pins s1 σ g H1 A1 xs us Q I1 S1 p1 r k1)
theorem jl_blt {u : Value} {f : List D → Me → Option (List D)} (hg : Gl X x) (hm : X.mg x = none) (hv : bootBuiltins x = some u) (hu : (∃ id, u = .builtin id) ∨ ∃ t, u = .type t) (hs : NoStar (e :: es)) (hn : x ≠ "__name__") (hdb : (x == ("__debug__" : Str)) = false) (ha : JA X T bs W g M (e :: es) rs) (ho : ∀ ds M1 ws, f ds M1 = some ws → OpL X T bs (fun us => PySem.call u us) ds M1 ws) :
    JL X T bs W g M (.Call (.Name x p) (e :: es) [] pos) (rs.bind fun ds M1 => R.of M1 (f ds M1)) := ⟨fun pins s σ H Q I ⟨A, S, k⟩ =>
  call_blt I hg hm hv hu hs hn hdb (thn (ha.go (pos := pos) I S k.bind) fun us s1 ⟨xs, H1, I1, r, ds, M1, A1, _, c1, S1, p1, k1⟩ => by
    cases e : f ds M1 with
    | none => rw [e] at k1; exact k1.no.elim
    | some ws =>
      rw [e] at k1
      exact ho ds M1 ws e pins s1 σ g H1 A1 xs us Q I1 S1 p1 r fun xs' p rx hp => k1.get S1 rx p hp)⟩
theorem s_list {ws : List D} (h : seqOf M d = some ws) : OpL X T bs (fun us => PySem.call (.type "list") us) [d] M ws := by
  intro pins s σ g H A vs us Q I S p rv q
  obtain ⟨v, rfl, r⟩ := p.one
  obtain ⟨a, ws', rfl, h1, h2⟩ := seqOf_at S r h
  exact call_list_of pins s σ H _ us Q I rv ⟨a, ws', rfl, h1, fun l hl => q ws' l h2 hl⟩
/-- xs + ys -/
theorem jl_cat {y : Expr} {rb : Me → R D} (ha : JE X T bs W g M e ra) (hb : ∀ M1, JE X T bs W g M1 y (rb M1)) : JL X T bs W g M (.BinOp e .Add y pos) (ra.bind fun d1 M1 => (rb M1).bind fun d2 M2 => match lw M2 d1, lw M2 d2 with | some xs, some ys => if xs.length + ys.length ≤ maxL then .ok (xs ++ ys) M2 else .no | _, _ => .no) := ⟨fun pins s σ H Q I ⟨A, S, k⟩ => by
  refine wpAny_BinOp (thn (ha.go I S k.bind) fun v s1 ⟨x, H1, I1, r1, d1, M1, A1, _, c1, S1, p1, k1⟩ => thn ((hb M1).go I1 S1 k1.bind) fun u s2 ⟨y, H2, I2, r2, d2, M2, A2, _, c2, S2, p2, k2⟩ => ?_)
  cases e1 : lw M2 d1 with
  | none => rw [e1] at k2; exact k2.no.elim
  | some xs =>
    cases e2 : lw M2 d2 with
    | none => rw [e1, e2] at k2; exact k2.no.elim
    | some ys =>
      rw [e1, e2] at k2
      dsimp only at k2
      by_cases hl : xs.length + ys.length ≤ maxL
      · rw [if_pos hl] at k2
        obtain ⟨a, vs, rfl, ha, ra⟩ := lw_at S2 (p1.mono c2) e1
        obtain ⟨b, ws, rfl, hb, rb⟩ := lw_at S2 p2 e2
        exact op_cat pins s2 σ H2 _ _ v u Q I2 r1 r2 ⟨a, b, vs, ws, rfl, rfl, ha, hb, sz_of (by rw [ra.length, rb.length]; exact hl), fun p hp => k2.get S2 (ra.append rb) p hp⟩
      · rw [if_neg hl] at k2
        exact k2.no.elim⟩
/-! ### names of the module -/
theorem je_gc {v : V} {u : Value} (hm : X.mg x = some u) (hr : RelV v u) (hg : Gl X x) (hp : ∀ A H, Rp X.K A H v d) (hdb : (x == ("__debug__" : Str)) = false) : JE X T bs W g M (.Name x pos) (.ok d M) := je fun pins s σ H A Q I S k => by
  exact ld_glob I hg hm ⟨v, H, I, hr, k.get S (hp A H)⟩ hdb
theorem je_gty {n : String} (hm : X.mg x = none) (hv : bootBuiltins x = some (.type n)) (hg : Gl X x) (hn : x ≠ "__name__") (hdb : (x == ("__debug__" : Str)) = false) : JE X T bs W g M (.Name x pos) (.ok (.ty n) M) := je fun pins s σ H A Q I S k => by
  exact ld_blt I hg hm hv ⟨.ty n, H, I, rfl, k.get S .ty⟩ hn hdb
end
end Iv
/-! set(xs), xs a list of ints -/
namespace L2
open PySem PySem.Spec PyProof.Rows
/-- the set as it is born -/
abbrev bornSet (w : World) : Obj := { cls := .type "set", dict := none, data := .set #[] 0 (.fresh 0 0 (!w.params.followText "set-order")) }
section
variable {P : Program} {w : World} {A : Around} {E : Value → Shared → Prop} {s : Shared} {l a : Addr} {xs : Array Value} {ns : List Int}
/-- what stands behind the filling of the set at a -/
def Filled (w : World) (s : Shared) (a : Addr) (ns : List Int) (v : Value) (z : Shared) : Prop :=
  v = .none ∧ ∃ hp tk n, z = { s with heap := hp, toks := tk } ∧ SetR w hp a (fun j => decide (j ∈ ns)) n ∧ n ≤ ns.length ∧ ∀ d u, d ≠ a → s.heap.get? d = some u → hp.get? d = some u
theorem ints_item (r : IntsAre xs.toList ns) {i : Nat} {v : Value} (h : xs[i]? = some v) : ∃ k t, ns[i]? = some k ∧ v = .int k t := by
  have lt : i < ns.length := by
    have z := r.length
    rw [Array.length_toList] at z
    rw [← z]
    exact (Array.getElem?_eq_some_iff.mp h).1
  obtain ⟨t, rfl⟩ := PyProof.Rows.IntsAre.int_at r i v (by rw [Array.getElem?_toList, h])
  exact ⟨ns[i], t, List.getElem?_eq_getElem lt, by simp [List.getD_eq_getElem?_getD, List.getElem?_eq_getElem lt]⟩
theorem fill_list (hA : A.handled = none) (ha : s.heap.get? a = some (bornSet w)) (hx : s.heap.IsList l xs) (hla : l ≠ a) (r : IntsAre xs.toList ns) (hb : ns.length + 1 < scanBound) :
    codeAny (model P w) A (.call (.builtin "set.__init__") ⟨[.ref a, .ref l], []⟩) (wants (Filled w s a ns) E) s := by
  have sz : xs.size = ns.length := by
    have z := r.length
    rwa [Array.length_toList] at z
  have ty : s.TypeIs (.ref a) "set" := ⟨_, ha, rfl⟩
  refine codeAny_call_builtin PySem.F.called_set.init.plain PySem.F.entry_set_init (check_set_init_1 ty ?_)
  obtain ⟨o, ho, oc, on, od⟩ := hx
  obtain ⟨o1, o2, o3, o4⟩ := o
  dsimp only at oc od
  subst oc od
  have isl : s.heap.IsList l xs := ⟨_, ho, rfl, on, rfl⟩
  have n1 := PySem.F.sub_list_set
  have n2 := PySem.F.sub_list_frozenset
  have n3 : (Value.type "list" == Value.type "dict") = false := rfl
  unfold Builtin.«set.__init__» Builtin.Frozenset.updateFrom noKeywords
  generalize q : pyIter = it
  wp_walk
  subst q
  apply wpAny_pyIter_list isl
  apply wpAny_bind
  apply wpAny_runValue
  have lal : a < s.heap.objs.size := Heap.lt_size ha
  have lll : l < s.heap.objs.size := Heap.lt_size ho
  have nm : a ∉ [s.heap.objs.size, l] := by
    intro z
    rcases List.mem_cons.mp z with z | z
    · exact Nat.ne_of_lt lal z
    · exact hla (List.mem_singleton.mp z).symm
  have W := (Walks.list (prog := P) (w := w) (A := A.in1.in1) (show A.in1.in1.handled = none by simp [hA]) s.heap.objs.size l (Nat.ne_of_lt lll) xs).toS
  refine set_update_ints W a nm ns sz hb (fun i v hv => ints_item r hv) _ 0 _ rfl (Nat.zero_le _) ?walk ?born fun z n mv hn hs => ?_
  case walk => exact ⟨⟨_, Heap.get?_push_size _ rfl, rfl, rfl⟩, isl.push _⟩
  case born => exact ⟨0, Nat.le_refl 0, setR_new_at (Heap.get?_push_of_some _ ha)⟩
  obtain ⟨hp, gs, dr, tk, os⟩ := z
  obtain rfl : gs = s.gens := mv.gens
  obtain rfl : dr = s.drawn := mv.drawn
  obtain rfl : os = s.os := mv.os
  refine wpAny_pure (wpAny_pure ⟨rfl, hp, tk, n, rfl, hs, by rw [← sz]; exact hn, fun d u hd e => ?_⟩)
  have ld : d < s.heap.objs.size := Heap.lt_size e
  refine mv.heap d u (fun m => ?_) (Heap.get?_push_of_some _ e)
  rcases List.mem_cons.mp m with m | m
  · exact hd m
  · exact Nat.ne_of_lt ld (List.mem_singleton.mp m)
/-- the call of the class -/
theorem call_set_lstI (ns : List Int) {items : Array Value} {Q : Value → Shared → Prop} (hh : A.handled = none) (hl : s.heap.IsList l items) (hit : IntsAre items.toList ns) (hb : ns.length + 1 < scanBound)
    (h : ∀ (h' : Heap) (tk c : Nat), SetR w h' s.heap.objs.size (fun j => decide (j ∈ ns)) c → c ≤ ns.length → (∀ b o, s.heap.get? b = some o → h'.get? b = some o) → Q (.ref s.heap.objs.size) { s with heap := h', toks := tk }) : wpAny (model P w) A (call (.type "set") [.ref l]) Q E s := by
  have CS := PySem.F.called_set
  obtain ⟨m0, ms, k1⟩ := CS.mro
  have k2 := CS.made
  have k3 := CS.sub
  have k4 := CS.notType
  have k5 := CS.canCreate
  have k6 := PySem.F.typeCall_set_1 (.ref l)
  apply wpAny_call
  apply codeAny_of_tree
  show wpAny _ _ (callAny (.type "set") _) _ _ _
  refine wpAny_pure ⟨Code.quiet_builtin _ (by decide +kernel), codeAny_builtin PySem.F.entry_type_call ?_⟩
  rw [Around.under_plain (weight_type_call_type "set" [.ref l] []) rfl]
  repeat (any_goals (first | assumption | wp_step))
  refine codeAny_mono (code_set_led1 (.ref l) (E := E) (Q₁ := fun u z => u = .ref s.heap.objs.size ∧ z = { s with heap := s.heap.push (bornSet w) }) ⟨rfl, rfl⟩) fun res z hz => ?_
  match res, hz with
  | .error e, hz => exact hz
  | .ok (.ret u), hz =>
    obtain ⟨rfl, rfl⟩ := hz
    have born : (s.heap.push (bornSet w)).get? s.heap.objs.size = some (bornSet w) := Heap.get?_push_size _ rfl
    have k7 : Shared.TypeIs { s with heap := s.heap.push (bornSet w) } (.ref s.heap.objs.size) "set" := ⟨_, born, rfl⟩
    have k8 := CS.init.lookup
    have k9 := CS.init.bind (.ref s.heap.objs.size)
    have ll : l < s.heap.objs.size := by
      obtain ⟨o, ho, _⟩ := hl
      exact Heap.lt_size ho
    repeat (any_goals (first | assumption | wp_step))
    refine codeAny_mono (fill_list (P := P) (w := w) (E := E) (s := { s with heap := s.heap.push (bornSet w) }) (by simp [hh]) born (hl.push _) (Nat.ne_of_lt ll) hit hb) fun res2 z2 hz2 => ?_
    match res2, hz2 with
    | .error e, hz2 => exact hz2
    | .ok (.ret u), hz2 =>
      obtain ⟨rfl, hp, tk, n, rfl, f1, f2, f3⟩ := hz2
      repeat (any_goals (first | assumption | wp_step))
      exact h hp tk n f1 f2 fun d o e => f3 d o (Nat.ne_of_lt (Heap.lt_size e)) (Heap.get?_push_of_some _ e)
end
end L2
namespace L2
open PySem PySem.Spec PyProof.Rows
/-- set(xs), xs a list of ints -/
def rSetI (K : PySem.W.Frag) (w : World) : List V → Hp → VK → Prop := fun xs H Q => ∃ (l : Addr) (ns : List Int), xs = [V.ref l] ∧ SqL K H l (ns.map V.int) ∧ ns.length < 64 ∧
  ∀ (p : Addr) (n : Nat), H p = none → n ≤ ns.length → Q (.ref p) (upd H p (SetO w p (fun j => decide (j ∈ ns)) n))
theorem cr_setL {X : Cx} (hc : X.calm = true) : CallR X (.type "set") (rSetI X.K X.w) := by
  intro pins s σ H xs us Q I r h
  obtain ⟨l, ns, rfl, hq, hl, q⟩ := h
  rw [Vals.ref1 r]
  obtain ⟨its, r2, pl, hz⟩ := I.list hq
  refine call_set_lstI ns (I.ok.hd hc) pl.isList (by simpa using ints_of_vals r2) (by unfold scanBound; omega) fun h' tk c hS hn hk => ?_
  exact ⟨.ref _, upd H s.heap.objs.size (SetO X.w s.heap.objs.size (fun j => decide (j ∈ ns)) c), I.laid (t' := tk) hk (Nat.le_refl _) (setO_new hS), rfl, q _ c (I.hok.fresh (Nat.le_refl _)) hn⟩
end L2
namespace Iv
open PySem PySem.Spec PyProof.Rows L2 LamX
theorem dedup_mem {x : Int} : ∀ {l : List Int}, x ∈ dedupI l ↔ x ∈ l
  | [] => Iff.rfl
  | y :: r => by
    have ih := dedup_mem (x := x) (l := r)
    unfold dedupI
    dsimp only
    split
    · rename_i h
      rw [List.mem_cons, ih]
      refine ⟨.inr, fun z => ?_⟩
      rcases z with rfl | z
      · exact ih.mp (by simpa using h)
      · exact z
    · rw [List.mem_cons, List.mem_cons, ih]
theorem dedup_nodup : ∀ {l : List Int}, (dedupI l).Nodup
  | [] => List.nodup_nil
  | y :: r => by
    have ih := dedup_nodup (l := r)
    unfold dedupI
    dsimp only
    split
    · exact ih
    · rename_i h
      exact List.nodup_cons.mpr ⟨by simpa using h, ih⟩
theorem set_sorted {ns ms : List Int} (h1 : ms.Pairwise (· < ·)) (h2 : ∀ k, k ∈ ms ↔ k ∈ ns) : ms = sortB leI (dedupI ns) := by
  refine sortI_of ?_ (h1.imp fun {a b} q => by omega)
  refine (List.perm_ext_iff_of_nodup (h1.imp fun {a b} q => by omega) dedup_nodup).mpr fun a => ?_
  rw [h2, dedup_mem]
section
variable {X : Cx} {T : List (Addr × Str)} {bs : List Nat} {W : WX} {g : Ga} {M : Me} {e : Expr} {es : List Expr} {pos p p2 q : Pos} {rs : R (List D)}
theorem jl_sset (hcm : X.calm = true) (hg : Gl X "sorted") (hm : X.mg "sorted" = none) (hg2 : Gl X "set") (hm2 : X.mg "set" = none) (hs : NoStar (e :: es)) (ha : JA X T bs W g M (e :: es) rs) :
    JL X T bs W g M (.Call (.Name "sorted" p) [.Call (.Name "set" p2) (e :: es) [] q] [] pos) (rs.bind fun ds M1 => R.of M1 (setQ M1 ds)) := ⟨fun pins s σ H Q I ⟨A, S, k⟩ => by
  refine call_blt (u := .builtin "sorted") I hg hm (by decide +kernel) (.inl ⟨_, rfl⟩) (fun x hx a p => by rcases List.mem_singleton.mp hx with rfl; intro z; cases z) (by decide) (by decide) ?_
  refine PyProof.Rows.args_cons ?_ rfl
  refine call_blt (u := .type "set") I hg2 hm2 (by decide +kernel) (.inr ⟨_, rfl⟩) hs (by decide) (by decide) ?_
  refine thn (ha.go (pos := q) I S k.bind) fun us s1 ⟨xs, H1, I1, r, ds, M1, A1, _, c1, S1, p1, k1⟩ => ?_
  cases ds with
  | nil => exact k1.no.elim
  | cons d ds =>
    cases ds with
    | cons d2 ds => exact k1.no.elim
    | nil =>
      obtain ⟨v, rfl, r1⟩ := p1.one
      unfold setQ at k1
      dsimp only at k1
      cases e1 : lv M1 d with
      | none => rw [e1] at k1; exact k1.no.elim
      | some xs =>
        rw [e1, Option.bind_some] at k1
        cases e2 : intsD xs with
        | none => rw [e2] at k1; exact k1.no.elim
        | some ns =>
          rw [e2, Option.bind_some] at k1
          by_cases hl : ns.length < 64
          · rw [if_pos hl] at k1
            have ex := intsD_map e2
            subst ex
            obtain ⟨a, ws, rfl, hq, rl⟩ := lv_at S1 r1 e1
            have ew := RpL.ints_eq rl
            subst ew
            refine thn (cr_setL hcm pins s1 σ H1 _ us (fun v H2 => ∃ (pt : Addr) (n : Nat), v = .ref pt ∧ H1 pt = none ∧ n < 64 ∧ H2 = upd H1 pt (SetO X.w pt (fun j => decide (j ∈ ns)) n)) I1 r ⟨a, ns, rfl, hq, hl, fun pt n hp hn => ⟨pt, n, rfl, hp, by omega, rfl⟩⟩) fun u s2 ⟨x, H2, I2, rx, pt, n, ex, hp, hn, eh⟩ => ?_
            subst ex eh
            refine PyProof.Rows.args_nil ?_
            refine cr_sortedSet hcm pins s2 σ _ [V.ref pt] [u] Q I2 (.cons rx .nil) ⟨pt, _, n, rfl, upd_same, hn, fun ms l h1 h2 h3 h4 => ?_⟩
            have em := set_sorted (ns := ns) h1 fun k => by rw [h2]; exact decide_eq_true_iff
            subst em
            exact k1.get' (Ch.laid hp) (S1.laid hp) RpL.of_ints l h4
          · rw [if_neg hl] at k1
            exact k1.no.elim⟩
end
end Iv
namespace Iv
open PySem PySem.Spec PyProof.Rows L2 LamX
/-! ### o.m(..) -/
theorem star_all {pos : Pos} {env : PySem.Env} : ∀ {es : List Expr}, NoStar es → (backTo pos (starEach es env)).all (fun x => !x.1) = true
  | [], _ => rfl
  | e :: es, h => by
    rw [star_cons h]
    show (true && (backTo pos (starEach es env)).all (fun x => !x.1)) = true
    rw [star_all h.tail]
    rfl
theorem few_of {pos : Pos} {env : PySem.Env} {es : List Expr} (h : NoStar es) (hl : es.length < 30) : ((backTo pos (starEach es env)).all (fun x => !x.1) && (backToKw pos (keywordEach [] env)).all (fun x => x.1.isSome) && decide (es.length + ([] : List Keyword).length + (if ([] : List Keyword).isEmpty then 0 else 1) < 30)) = true := by
  rw [star_all h]
  show (true && true && decide (es.length + 0 + 0 < 30)) = true
  rw [decide_eq_true (by omega)]
  rfl
mutual
theorem D.cloMono {n m : Nat} : ∀ {d : D}, d.clo n = true → n ≤ m → d.clo m = true
  | .tup ds, h, l => clL_mono (ds := ds) h l
  | .lst ds, h, l => clL_mono (ds := ds) h l
  | .dct ds, h, l => clK_mono (ds := ds) h l
  | .obj _ ds, h, l => clF_mono (ds := ds) h l
  | .exc _ ds, h, l => clF_mono (ds := ds) h l
  | .hot _ _ ds, h, l => clF_mono (ds := ds) h l
  | .cel k, h, l => decide_eq_true (Nat.lt_of_lt_of_le (of_decide_eq_true h) l)
  | .non, _, _ => rfl
  | .bl _, _, _ => rfl
  | .int _, _, _ => rfl
  | .str _, _, _ => rfl
  | .byt _, _, _ => rfl
  | .ty _, _, _ => rfl
  | .cl _, _, _ => rfl
  | .fn _, _, _ => rfl
  | .scr _, _, _ => rfl
theorem clL_mono {n m : Nat} : ∀ {ds : List D}, clL n ds = true → n ≤ m → clL m ds = true
  | [], _, _ => rfl
  | d :: ds, h, l => Bool.and_eq_true_iff.mpr ⟨D.cloMono (d := d) (b2 h).1 l, clL_mono (ds := ds) (b2 h).2 l⟩
theorem clK_mono {n m : Nat} : ∀ {ds : List (Key × D)}, clK n ds = true → n ≤ m → clK m ds = true
  | [], _, _ => rfl
  | (_, d) :: ds, h, l => Bool.and_eq_true_iff.mpr ⟨D.cloMono (d := d) (b2 h).1 l, clK_mono (ds := ds) (b2 h).2 l⟩
theorem clF_mono {n m : Nat} : ∀ {ds : List (Str × D)}, clF n ds = true → n ≤ m → clF m ds = true
  | [], _, _ => rfl
  | (_, d) :: ds, h, l => Bool.and_eq_true_iff.mpr ⟨D.cloMono (d := d) (b2 h).1 l, clF_mono (ds := ds) (b2 h).2 l⟩
end
theorem clL_append {n : Nat} : ∀ {xs ys : List D}, clL n (xs ++ ys) = (clL n xs && clL n ys)
  | [], _ => rfl
  | d :: xs, ys => by
    show (d.clo n && clL n (xs ++ ys)) = ((d.clo n && clL n xs) && clL n ys)
    rw [clL_append, Bool.and_assoc]
theorem clL_iff {n : Nat} : ∀ {ds : List D}, clL n ds = true ↔ ∀ d ∈ ds, d.clo n = true
  | [] => by simp [clL]
  | d :: ds => by simp [clL, clL_iff (ds := ds)]
theorem clL_sub {n : Nat} {xs ys : List D} (h : xs.Sublist ys) (c : clL n ys = true) : clL n xs = true := clL_iff.mpr fun d hd => clL_iff.mp c d (h.subset hd)
theorem RpL.drop {K : PySem.W.Frag} {A : Ad} {H : Hp} : ∀ {vs : List V} {ds : List D} (n : Nat), RpL K A H vs ds → RpL K A H (vs.drop n) (ds.drop n)
  | _, _, 0, r => r
  | _, _, _ + 1, .nil => .nil
  | _, _, n + 1, .cons _ t => t.drop n
theorem RpL.take {K : PySem.W.Frag} {A : Ad} {H : Hp} : ∀ {vs : List V} {ds : List D} (n : Nat), RpL K A H vs ds → RpL K A H (vs.take n) (ds.take n)
  | _, _, 0, r => .nil
  | _, _, _ + 1, .nil => .nil
  | _, _, n + 1, .cons r t => .cons r (t.take n)
theorem RpL.eraseIdx {K : PySem.W.Frag} {A : Ad} {H : Hp} : ∀ {vs : List V} {ds : List D} (n : Nat), RpL K A H vs ds → RpL K A H (vs.eraseIdx n) (ds.eraseIdx n)
  | _, _, _, .nil => .nil
  | _, _, 0, .cons _ t => t
  | _, _, n + 1, .cons r t => .cons r (t.eraseIdx n)
theorem RpL.set {K : PySem.W.Frag} {A : Ad} {H : Hp} {v : V} {d : D} (q : Rp K A H v d) : ∀ {vs : List V} {ds : List D} (n : Nat), RpL K A H vs ds → RpL K A H (vs.set n v) (ds.set n d)
  | _, _, _, .nil => .nil
  | _, _, 0, .cons _ t => .cons q t
  | _, _, n + 1, .cons r t => .cons r (RpL.set q n t)
theorem RpL.dropLast {K : PySem.W.Frag} {A : Ad} {H : Hp} {vs : List V} {ds : List D} (r : RpL K A H vs ds) : RpL K A H vs.dropLast ds.dropLast := by
  rw [List.dropLast_eq_take, List.dropLast_eq_take, r.length]
  exact r.take _
section
variable {G : Pg} {fa : Str → Addr} {cf : Nat → Cf} {k b : Nat} {gfn : Str → Bool} {X : Cx} {T : List (Addr × Str)} {bs : List Nat} {W : WX} {g : Ga} {M : Me} {d d1 d2 : D} {ds : List D} {e o : Expr} {es : List Expr} {pos apos p p2 : Pos} {x m : Str} {ra : R D} {rs : Me → R (List D)} {rl : R (List D)}
theorem met_eq {env : PySem.Env} (hn : notSuper o = true) (hs : NoStar es) (hl : es.length < 30) (hline : (apos.endLine == pos.line) = true) : ∃ pl : Sem Bool, eval (.Call (.Attribute o m apos) es [] pos) env = (do
      let ov ← eval o env
      standAt apos.atName
      let (f, first) ← holding [ov] (getMethod ov m pl)
      callWith pos f first (backTo pos (starEach es env)) (backToKw pos (keywordEach [] env))) := by
  have hform : methodCallForm (es.length + ([] : List Keyword).length) (backTo pos (starEach es env)) (backToKw pos (keywordEach [] env)) = true := few_of hs hl
  have hpos : methodCallPos true o env apos pos = pure pos := by unfold methodCallPos; simp [hline]
  refine ⟨(do return (← importBound o env).getD true), ?_⟩
  rw [arm_eval_Call, attrBase hn]
  unfold methodCall
  rw [hform, hpos]
  rfl
theorem metF_at {f : Str} (h : metF G M d m = some f) : ∃ C fs, ov M d = some (C, fs) ∧ fs.lookup m = none ∧ G.find C m = some (.me f) := by
  unfold metF at h
  cases e : ov M d with
  | none => rw [e] at h; cases h
  | some p =>
    obtain ⟨C, fs⟩ := p
    rw [e] at h
    dsimp only at h
    by_cases hl : (fs.lookup m).isNone = true
    · rw [if_pos hl] at h
      cases e2 : G.find C m with
      | none => rw [e2] at h; cases h
      | some q =>
        rw [e2] at h
        cases q with
        | me f2 => cases h; exact ⟨C, fs, rfl, Option.isNone_iff_eq_none.mp hl, e2⟩
        | _ => cases h
    · rw [if_neg hl] at h
      cases h
/-- o.m(..), m a def of the object's class -/
theorem je_met (c : Cxt G fa cf k T gfn X) (tk : Takes X W) (hbs : ∀ x ∈ bs, x ≤ b) (ho : JE X T bs W g M o ra) (ha : ∀ M1, JA X T bs W g M1 es (rs M1)) (hn : notSuper o = true) (hs : NoStar es) (hl : es.length < 30) (hline : (apos.endLine == pos.line) = true) (hnil : es = [] → ∀ M1, rs M1 = .ok [] M1) :
    JE X T bs W g M (.Call (.Attribute o m apos) es [] pos) (ra.bind fun d M1 => match metF G M1 d m with | some f => (rs M1).bind fun ds M2 => callP G (cf b) f (d :: ds) M2 | none => .no) := je fun pins s σ H A Q I S q => by
  obtain ⟨pl, ht⟩ := met_eq (o := o) (m := m) (es := es) (apos := apos) (pos := pos) (env := X.env) hn hs hl hline
  refine PySem.W.methodCall_KW (pl := pl) (thn (ho.go I S q.bind) fun u s1 ⟨x, H1, I1, rx, d, M1, A1, _, c1, S1, p1, q1⟩ => ?_) ht
  cases em : metF G M1 d m with
  | none => rw [em] at q1; exact q1.no.elim
  | some f =>
    rw [em] at q1
    dsimp only at q1
    obtain ⟨C, fds, eo, el, ef⟩ := metF_at em
    have p1' := p1
    obtain ⟨a, dx, fs, rfl, ea, rf⟩ := ov_at S1 p1 eo
    obtain rfl : u = Value.ref a := rx
    have cx := c.wl.clsM C m _ ef
    have cm := cx.me m f ef
    refine getmeth_ok I1 ea cx.cl cm (rf.lookupN el) ?_
    cases es with
    | nil =>
      rw [hnil rfl M1] at q1
      refine PySem.W.callWith_K0 I1.kIn cm.kp ?_
      exact c.meth tk hbs (vs := [.ref a]) (us := [.ref a]) I1 S1 (.cons rfl .nil) (.cons p1' .nil) q1
    | cons e es =>
      refine PySem.W.callWith_K (first := [.ref a]) (h₀ := X.base) I.ok.mod.kin cm.kp (thn ((ha M1).go (pos := pos) I1 S1 q1.bind) fun us s2 ⟨vs, H2, I2, r2, ds, M2, A2, _, c2, S2, p2, q2⟩ => ⟨I2.kIn, ?_⟩) (star_cons hs) (star_any hs.tail)
      exact c.meth tk hbs (vs := .ref a :: vs) (us := .ref a :: us) I2 S2 (.cons rfl r2) (.cons (p1'.mono c2) p2) q2
/-! ### methods of lists -/
def bmN : Bm → Option (Str × String)
  | .append => some ("append", "list.append")
  | .extend => some ("extend", "list.extend")
  | .pop => some ("pop", "list.pop")
  | .count => some ("count", "list.count")
  | .index => some ("index", "list.index")
  | .join => some ("join", "str.join")
  | .split => some ("split", "str.split")
  | .removeprefix => some ("removeprefix", "str.removeprefix")
  | .title => some ("title", "str.title")
  | _ => none
theorem bm_slot {bm : Bm} {n : Str} {id : String} (h : bmN bm = some (n, id)) : Slot (bmT bm) n id ∧ typeOf (.builtin id) = pure (.type "method_descriptor") ∧ PlainAttrs (bmT bm) := by
  cases bm <;> first
    | (cases h; exact ⟨F.slot_list_append, F.type_list_append, F.plainAttrs_list⟩)
    | (cases h; exact ⟨F.slot_list_extend, F.type_list_extend, F.plainAttrs_list⟩)
    | (cases h; exact ⟨F.slot_list_pop, F.type_list_pop, F.plainAttrs_list⟩)
    | (cases h; exact ⟨F.slot_list_count, F.type_list_count, F.plainAttrs_list⟩)
    | (cases h; exact ⟨F.slot_list_index, F.type_list_index, F.plainAttrs_list⟩)
    | (cases h; exact ⟨F.slot_str_join, F.type_str_join, F.plainAttrs_str⟩)
    | (cases h; exact ⟨F.slot_str_split, F.type_str_split, F.plainAttrs_str⟩)
    | (cases h; exact ⟨F.slot_str_removeprefix, F.type_str_removeprefix, F.plainAttrs_str⟩)
    | (cases h; exact ⟨F.slot_str_title, F.type_str_title, F.plainAttrs_str⟩)
    | cases h
theorem mayW_clo {kk : Nat} {d : D} (hbs : ∀ x ∈ bs, x ≤ b) (h : mayW b kk d = true) : ∀ x ∈ bs, kk < x → d.clo x = true := fun x hx hk => by
  have := hbs x hx
  unfold mayW at h
  rcases Bool.or_eq_true_iff.mp h with h | h
  · have := of_decide_eq_true h
    omega
  · exact D.cloMono h (Nat.zero_le _)
theorem Sta.cloL {A : Ad} {H : Hp} {σ : L2.St} {K : PySem.W.Frag} {kk : Nat} {xs : List D} (S : Sta K T bs A M H σ g) (h : M[kk]? = some (.lst xs)) : ∀ x ∈ bs, kk < x → clL x xs = true := fun x hx hk => (S.bas x hx).2 kk _ h hk
/-! count, index -/
theorem RpL.of_strs {K : PySem.W.Frag} {A : Ad} {H : Hp} : ∀ (ys : List Str), RpL K A H (ys.map V.str) (ys.map D.str)
  | [] => .nil
  | _ :: ys => .cons .str (RpL.of_strs ys)
def rCntV (K : PySem.W.Frag) : V → List V → Hp → VK → Prop := fun x xs H Q => ∃ (a : Addr) (ys : List V) (y : V), x = V.ref a ∧ xs = [y] ∧ SqL K H a ys ∧ flatV y = true ∧ ys.all flatV = true ∧ Q (.int (ys.countP (fun z => eqV z y) : Nat)) H
theorem eqU_countP {y : V} : ∀ {ys : List V} {us : List Value}, Vals ys us → ys.all flatV = true → us.countP (eqU y) = ys.countP (fun z => eqV z y)
  | _, _, .nil, _ => rfl
  | _ :: _, _ :: _, .cons r t, f => by
    rw [List.all_cons, Bool.and_eq_true] at f
    rw [List.countP_cons, List.countP_cons, eqU_countP t f.2, eqU_of r f.1]
theorem mt_cntV : MtR X "list.count" (rCntV X.K) := by
  intro pins s σ H x xs v us Q I rx rxs h
  obtain ⟨p, ys, y, rfl, rfl, hs, fy, fys, q⟩ := h
  cases rx
  obtain ⟨u, rfl, ry⟩ := rxs.one
  obtain ⟨its, rv, ⟨⟨cls, dd, data, sl⟩, n, ho, hc, hdn, hd⟩, hlen⟩ := I.list hs
  simp only at hc hd
  subst hc hd
  refine call_meets PySem.F.slot_list_count ⟨_, ho, rfl⟩ PySem.F.entry_list_count (PySem.F.args_list_count_2 _ _)
    (SeqAt.list_countAt p its.toArray n dd sl u (eqU y)) ⟨ho, fun z hz => mem_eqAt ry fy rv fys z (by simpa using hz), ?_⟩
  refine ⟨.int (ys.countP (fun z => eqV z y) : Nat), H, I.tok _, ⟨s.toks, ?_⟩, q⟩
  show Value.int ((its.countP (eqU y) : Nat) : Int) s.toks = _
  rw [eqU_countP rv fys]
theorem flatL_at {K : PySem.W.Frag} {A : Ad} {H : Hp} {σ : L2.St} {v : V} {d : D} {xs : List D} (S : Sta K T bs A M H σ g) (r : Rp K A H v d) (h : flatL M d = some xs) : ∃ a vs, v = .ref a ∧ SqL K H a vs ∧ RpL K A H vs xs ∧ xs.all flatD = true ∧ vs.all flatV = true := by
  unfold flatL at h
  cases e : lv M d with
  | none => rw [e] at h; cases h
  | some ys =>
    rw [e] at h
    by_cases hc : ys.all flatD = true
    · have h2 : (if ys.all flatD = true then some ys else none) = some xs := h
      rw [if_pos hc] at h2
      cases h2
      obtain ⟨a, vs, rfl, h1, h2⟩ := lv_at S r e
      exact ⟨a, vs, rfl, h1, h2, hc, flat_all h2 hc⟩
    · have h2 : (if ys.all flatD = true then some ys else none) = some xs := h
      rw [if_neg hc] at h2
      cases h2
theorem countP_at {K : PySem.W.Frag} {A : Ad} {H : Hp} {y : V} {d : D} (hd : flatD d = true) (ry : Rp K A H y d) : ∀ {vs : List V} {ds : List D}, RpL K A H vs ds → ds.all flatD = true → vs.countP (fun z => eqV z y) = ds.countP (fun z => eqF z d)
  | _, _, .nil, _ => rfl
  | _, _, .cons r t, h => by
    rw [List.all_cons, Bool.and_eq_true] at h
    rw [List.countP_cons, List.countP_cons, countP_at hd ry t h.2, eqF_at h.1 hd r ry]
theorem firstI_at {K : PySem.W.Frag} {A : Ad} {H : Hp} {y : V} {d : D} (hd : flatD d = true) (ry : Rp K A H y d) : ∀ {vs : List V} {ds : List D} {j : Nat}, RpL K A H vs ds → ds.all flatD = true → firstI d ds = some j → ∃ z, vs[j]? = some z ∧ eqV z y = true ∧ ∀ (m : Nat) (z' : V), m < j → vs[m]? = some z' → eqV z' y = false
  | _, _, _, .nil, _, h => by cases h
  | _, x :: ds, j, .cons r t, hf, h => by
    rw [List.all_cons, Bool.and_eq_true] at hf
    unfold firstI at h
    by_cases hx : eqF x d = true
    · rw [if_pos hx] at h
      cases h
      exact ⟨_, rfl, by rw [eqF_at hf.1 hd r ry]; exact hx, fun m z' hm => absurd hm (Nat.not_lt_zero m)⟩
    · rw [if_neg hx] at h
      cases e : firstI d ds with
      | none => rw [e] at h; cases h
      | some i =>
        rw [e] at h
        cases h
        obtain ⟨z, h1, h2, h3⟩ := firstI_at hd ry t hf.2 e
        refine ⟨z, by simpa using h1, h2, fun m z' hm hz => ?_⟩
        cases m with
        | zero =>
          have e2 : z' = _ := (Option.some.inj (by simpa using hz)).symm
          rw [e2, eqF_at hf.1 hd r ry]
          exact Bool.not_eq_true _ |>.mp hx
        | succ m => exact h3 m z' (Nat.lt_of_succ_lt_succ hm) (by simpa using hz)
theorem strsD_at {K : PySem.W.Frag} {A : Ad} {H : Hp} : ∀ {ds : List D} {vs : List V} {ys : List Str}, RpL K A H vs ds → strsD ds = some ys → vs = ys.map V.str
  | _, _, _, .nil, h => by
    cases h
    rfl
  | d :: ds, _, ys, .cons r t, h => by
    cases d with
    | str x =>
      unfold strsD at h
      cases e : strsD ds with
      | none => rw [e] at h; cases h
      | some zs =>
        rw [e] at h
        cases h
        cases r
        rw [List.map_cons, strsD_at t e]
    | _ => cases h
theorem bm_go (hbs : ∀ x ∈ bs, x ≤ b) {bm : Bm} {n : Str} {id : String} (h : bmN bm = some (n, id)) {pins : List (Addr × Obj)} {s : Shared} {σ : L2.St} {H : Hp} {A : Ad} {Q : VK} {v : V} {u : Value} {vs : List V} {us : List Value} (I : Inv X pins σ H s) (S : Sta X.K T bs A M H σ g) (r : Rp X.K A H v d) (ru : RelV v u) (pv : RpL X.K A H vs ds) (rv : Vals vs us)
    (q : kG X.K T bs W g (rE X.K) A H σ Q (bmOp b bm d ds M)) : wpAny (model X.prog X.w) X.A (PySem.call (.builtin id) (u :: us)) (EP X pins σ Q) X.xe s := by
  unfold bmOp at q
  have cell : ∀ {kk : Nat} {xs : List D}, d = .cel kk → M[kk]? = some (.lst xs) → ∃ a ws, v = .ref a ∧ H a = some (.lst ws) ∧ RpL X.K A H ws xs ∧ (∀ o, Ch A H A (upd H a o)) ∧ ∀ (vs' : List V) (ds' : List D), RpL X.K A H vs' ds' → (∀ x ∈ bs, kk < x → clL x ds' = true) → Sta X.K T bs A (M.set kk (.lst ds')) (upd H a (.lst vs')) σ g := fun {kk xs} ed em => by
    subst ed
    obtain ⟨a, rfl, ha, z⟩ := S.celAt em r
    cases z with
    | lst h1 h2 =>
      have hm := List.mem_of_getElem? ha
      have cw : ∀ o, Ch A H A (upd H a o) := fun o => Ch.write hm h1 trivial
      exact ⟨a, _, rfl, h1, h2, cw, fun vs' ds' rl hc => S.write ha em h1 trivial (.lst upd_same (rl.mono (cw _))) hc⟩
  cases bm with
  | append =>
    cases h
    dsimp only at q
    split at q
    · rename_i kk
      split at q
      · rename_i xs d' em
        obtain ⟨a, ws, rfl, h1, h2, cw, wr⟩ := cell rfl em
        obtain ⟨w, rfl, rw_⟩ := pv.one
        by_cases hc : xs.length < maxL ∧ mayW b kk d' = true
        · rw [if_pos hc] at q
          have hz : ws.length < sizeLine := by
            rw [h2.length]
            exact Nat.lt_of_lt_of_le hc.1 (sz_of (Nat.le_refl _))
          refine mt_append pins s σ H _ _ u us Q I ru rv ⟨a, ws, w, rfl, rfl, h1, hz, ?_⟩
          exact q.get' (cw _) (wr _ _ (h2.append (.cons rw_ .nil)) fun x hx hk => by
            rw [clL_append, S.cloL em x hx hk]
            show (true && (d'.clo x && true)) = true
            rw [mayW_clo hbs hc.2 x hx hk]
            rfl) .non
        · rw [if_neg hc] at q
          exact q.no.elim
      · exact q.no.elim
    · exact q.no.elim
  | extend =>
    cases h
    dsimp only at q
    split at q
    · rename_i kk
      split at q
      · rename_i xs d' em
        obtain ⟨a, ws, rfl, h1, h2, cw, wr⟩ := cell rfl em
        obtain ⟨w, rfl, rw_⟩ := pv.one
        cases el : lw M d' with
        | none => rw [el] at q; exact q.no.elim
        | some ys =>
          rw [el] at q
          dsimp only at q
          by_cases hc : xs.length + ys.length ≤ maxL ∧ (decide (b ≤ kk) || clL 0 ys) = true
          · rw [if_pos hc] at q
            obtain ⟨a2, zs, rfl, h3, h4⟩ := lw_at S rw_ el
            refine mt_extend pins s σ H _ _ u us Q I ru rv ⟨a, a2, ws, zs, rfl, rfl, h1, h3, sz_of (by rw [h2.length, h4.length]; exact hc.1), ?_⟩
            exact q.get' (cw _) (wr _ _ (h2.append h4) fun x hx hk => by
              rw [clL_append, S.cloL em x hx hk]
              rcases Bool.or_eq_true_iff.mp hc.2 with hh | hh
              · have := of_decide_eq_true hh
                have := hbs x hx
                omega
              · exact clL_mono hh (Nat.zero_le _)) .non
          · rw [if_neg hc] at q
            exact q.no.elim
      · exact q.no.elim
    · exact q.no.elim
  | pop =>
    cases h
    dsimp only at q
    split at q
    · rename_i kk
      split at q
      · rename_i xs em
        obtain ⟨a, ws, rfl, h1, h2, cw, wr⟩ := cell rfl em
        cases pv
        cases el : xs[xs.length - 1]? with
        | none => rw [el] at q; exact q.no.elim
        | some y =>
          rw [el] at q
          obtain ⟨y', hy, ry⟩ := h2.get el
          refine mt_pop pins s σ H _ _ u us Q I ru rv ⟨a, ws, y', rfl, rfl, h1, by rw [h2.length]; exact hy, ?_⟩
          exact q.get' (cw _) (wr _ _ h2.dropLast fun x hx hk => clL_sub (List.dropLast_sublist _) (S.cloL em x hx hk)) (ry.mono (cw _))
      · rename_i xs i em
        obtain ⟨a, ws, rfl, h1, h2, cw, wr⟩ := cell rfl em
        obtain ⟨w, rfl, rw_⟩ := pv.one
        cases rw_
        by_cases hi : -(2 ^ 63) ≤ i ∧ i < 2 ^ 63
        · rw [if_pos hi] at q
          cases ei : seqIndex? i xs.length with
          | none => rw [ei] at q; exact q.no.elim
          | some j =>
            rw [ei] at q
            dsimp only at q
            cases el : xs[j]? with
            | none => rw [el] at q; exact q.no.elim
            | some y =>
              rw [el] at q
              obtain ⟨y', hy, ry⟩ := h2.get el
              refine mt_popAt pins s σ H _ _ u us Q I ru rv ⟨a, ws, i, j, y', rfl, rfl, h1, hi.1, hi.2, by rw [h2.length]; exact ei, hy, ?_⟩
              exact q.get' (cw _) (wr _ _ (h2.eraseIdx j) fun x hx hk => clL_sub (List.eraseIdx_sublist _ _) (S.cloL em x hx hk)) (ry.mono (cw _))
        · rw [if_neg hi] at q
          exact q.no.elim
      · exact q.no.elim
    · exact q.no.elim
  | count =>
    cases h
    dsimp only at q
    split at q
    · rename_i xs d' el
      obtain ⟨a, ws, rfl, h1, h2, h3, h4⟩ := flatL_at S r el
      obtain ⟨w, rfl, rw_⟩ := pv.one
      by_cases hd : flatD d' = true
      · rw [if_pos hd] at q
        refine mt_cntV pins s σ H _ _ u us Q I ru rv ⟨a, ws, w, rfl, rfl, h1, Iv.flat_at hd rw_, h4, ?_⟩
        rw [countP_at hd rw_ h2 h3]
        exact q.get S .int
      · rw [if_neg hd] at q
        exact q.no.elim
    · exact q.no.elim
  | index =>
    cases h
    dsimp only at q
    split at q
    · rename_i xs d' el
      obtain ⟨a, ws, rfl, h1, h2, h3, h4⟩ := flatL_at S r el
      obtain ⟨w, rfl, rw_⟩ := pv.one
      by_cases hd : flatD d' = true
      · rw [if_pos hd] at q
        cases ej : firstI d' xs with
        | none => rw [ej] at q; exact q.no.elim
        | some j =>
          rw [ej] at q
          obtain ⟨z, z1, z2, z3⟩ := firstI_at hd rw_ h2 h3 ej
          exact L2.mt_index pins s σ H _ _ u us Q I ru rv ⟨a, ws, w, j, z, rfl, rfl, h1, Iv.flat_at hd rw_, h4, z1, z2, z3, q.get S .int⟩
      · rw [if_neg hd] at q
        exact q.no.elim
    · exact q.no.elim
  | join =>
    cases h
    dsimp only at q
    split at q
    · rename_i x d'
      cases r
      obtain ⟨w, rfl, rw_⟩ := pv.one
      cases es : seqOf M d' with
      | none => rw [es] at q; exact q.no.elim
      | some zs =>
        rw [es] at q
        cases ey : strsD zs with
        | none =>
          rw [show (some zs).bind strsD = none from ey] at q
          exact q.no.elim
        | some ys =>
          rw [show (some zs).bind strsD = some ys from ey] at q
          dsimp only at q
          by_cases hl : (ys.map (·.length)).sum + ys.length * x.length ≤ maxL
          · rw [if_pos hl] at q
            obtain ⟨p, ws, rfl, h1, h2⟩ := seqOf_at S rw_ es
            rw [strsD_at h2 ey] at h1
            exact mt_join pins s σ H _ _ u us Q I ru rv ⟨x, p, ys, rfl, rfl, h1, Nat.le_trans hl (by decide), q.get S .str⟩
          · rw [if_neg hl] at q
            exact q.no.elim
    · exact q.no.elim
  | split =>
    cases h
    dsimp only at q
    split at q
    · rename_i x y
      cases r
      obtain ⟨w, rfl, rw_⟩ := pv.one
      cases rw_
      by_cases hl : (y.length == 0) = false ∧ x.length ≤ maxL
      · rw [if_pos hl] at q
        refine mt_split pins s σ H _ _ u us Q I ru rv ⟨x, y, rfl, rfl, hl.1, Nat.le_trans (Nat.add_le_add_right hl.2 2) (by decide), fun p hp => ?_⟩
        exact kG.newL S hp (RpL.of_strs _) q
      · rw [if_neg hl] at q
        exact q.no.elim
    · exact q.no.elim
  | removeprefix =>
    cases h
    dsimp only at q
    split at q
    · rename_i x y
      cases r
      obtain ⟨w, rfl, rw_⟩ := pv.one
      cases rw_
      by_cases hl : x.length ≤ maxL
      · rw [if_pos hl] at q
        exact mt_removeprefix pins s σ H _ _ u us Q I ru rv ⟨x, y, rfl, rfl, sz_of hl, q.get S .str⟩
      · rw [if_neg hl] at q
        exact q.no.elim
    · exact q.no.elim
  | title =>
    cases h
    dsimp only at q
    split at q
    · rename_i x
      cases r
      cases pv
      cases rv
      obtain ⟨t, rfl⟩ := ru
      by_cases hl : Builtin.Str.tooLong (PySem.Txt.title x).length = false
      · rw [if_pos hl] at q
        exact PySem.SC.title hl ⟨.str _, H, I.tok _, ⟨_, rfl⟩, q.get S .str⟩
      · rw [if_neg hl] at q
        exact q.no.elim
    · exact q.no.elim
  | _ => cases h
theorem recv_ty {K : PySem.W.Frag} {A : Ad} {H : Hp} {σ : L2.St} {x : V} {m : Bm} {d : D} (S : Sta K T bs A M H σ g) (r : Rp K A H x d) (h : recvB M d m = true) : tyV K (bmT m) x H := by
  unfold recvB at h
  split at h
  · rename_i e
    rw [e]
    obtain ⟨xs, hx⟩ := Option.isSome_iff_exists.mp h
    obtain ⟨a, vs, rfl, h1, _⟩ := lv_at S r hx
    exact .inl ⟨rfl, vs, h1⟩
  · rename_i e
    rw [e]
    split at h
    · cases r
      rfl
    · cases h
  · cases h
theorem je_bm (hbs : ∀ x ∈ bs, x ≤ b) {bm : Bm} {id : String} (h : bmN bm = some (m, id)) (ho : JE X T bs W g M o ra) (ha : ∀ M1, JA X T bs W g M1 es (rs M1)) (hn : notSuper o = true) (hs : NoStar es) (hl : es.length < 30) (hline : (apos.endLine == pos.line) = true) (hnil : es = [] → ∀ M1, rs M1 = .ok [] M1) :
    JE X T bs W g M (.Call (.Attribute o m apos) es [] pos) (ra.bind fun d M1 => if recvB M1 d bm = true then (rs M1).bind fun ds M2 => bmOp b bm d ds M2 else .no) := je fun pins s σ H A Q I S q => by
  obtain ⟨slot, hty, hpa⟩ := bm_slot h
  refine wpAny_Call_method_late (attrBase hn) (few_of hs hl) hline rfl (thn (ho.go I S q.bind) fun u s1 ⟨x, H1, I1, rx, d, M1, A1, _, c1, S1, p1, q1⟩ => ?_)
  by_cases hd : recvB M1 d bm = true
  · rw [if_pos hd] at q1
    have ty := recv_ty S1 p1 hd
    obtain ⟨h1, h2⟩ := tyV_is I1 rx ty
    refine ⟨bmT bm, id, hpa, slot, hty, h1, h2, ?_⟩
    cases es with
    | nil =>
      rw [hnil rfl M1] at q1
      exact Calls.callWith_builtin rfl (PySem.evalArgs_none (bm_go hbs h (vs := []) (us := []) I1 S1 p1 rx .nil .nil q1))
    | cons e es =>
      have hA := (ha M1).go (pos := pos) I1 S1 q1.bind
      rw [star_cons hs] at hA ⊢
      refine Calls.callWith_builtin (by show (false || (backTo pos (starEach es X.env)).any (·.1)) = false; rw [star_any hs.tail] <;> rfl) (Calls.evalArgs_plain ?_)
      exact thn hA fun us s2 ⟨vs, H2, I2, r2, ds, M2, A2, _, c2, S2, p2, q2⟩ => bm_go hbs h I2 S2 (p1.mono c2) rx p2 r2 q2
  · rw [if_neg hd] at q1
    exact q1.no.elim
end
end Iv
namespace Iv
open PySem PySem.Spec PyProof.Rows L2 LamX
section
variable {G : Pg} {fa : Str → Addr} {cf : Nat → Cf} {k b : Nat} {gfn : Str → Bool} {X : Cx} {T : List (Addr × Str)} {bs : List Nat} {W : WX} {g : Ga} {M : Me} {d d1 d2 : D} {ds : List D} {e o : Expr} {es : List Expr} {pos apos p p2 : Pos} {x m : Str} {ra : R D} {rs : R (List D)} {rl : R (List D)} {lo hi : Option Expr}
/-! ### slices -/
structure tRO (K : PySem.W.Frag) (T : List (Addr × Str)) (bs : List Nat) (W : WX) (g : Ga) (M : Me) (r : R (Option Int)) (σ : L2.St) (H : Hp) (Q : Option Int → Hp → Prop) : Prop where
  ex : ∃ A, Sta K T bs A M H σ g ∧ kG K T bs W g (fun _ _ => Eq) A H σ Q r
abbrev JO (X : Cx) (T : List (Addr × Str)) (bs : List Nat) (W : WX) (g : Ga) (M : Me) (e : Option Expr) (r : R (Option Int)) : Prop := PO X e (tRO X.K T bs W g M r)
theorem jo_none : JO X T bs W g M none (.ok none M) := ⟨fun pins s σ H Q I ⟨A, S, k⟩ => po_none.run pins s σ H Q I (k.get S rfl)⟩
theorem jo_some (he : JE X T bs W g M e ra) : JO X T bs W g M (some e) (ra.bind fun d M1 => match d with | .int i => .ok (some i) M1 | _ => .no) := ⟨fun pins s σ H Q I ⟨A, S, k⟩ => by
  rw [evalPart_some]
  refine thn (he.go I S k.bind) fun u s1 ⟨x, H1, I1, r1, d, M1, A1, _, c1, S1, p1, k1⟩ => ?_
  cases p1 with
  | int =>
    obtain ⟨t, rfl⟩ := r1
    exact ⟨some _, H1, I1, .int _ t, k1.get S1 rfl⟩
  | _ => exact k1.no.elim⟩
theorem cut_at {K : PySem.W.Frag} {A : Ad} {H : Hp} {vs : List V} {ds : List D} {l h : Option Int} (r : RpL K A H vs ds) : RpL K A H (cutV vs l h) (cutD ds l h) := by
  unfold cutV cutD
  rw [r.length]
  exact (r.drop _).take _
/-- a[lo:hi] -/
theorem sl_run {α β : Type} {rel : Ad → Hp → β → α → Prop} {Q : VK} {Q2 : β → Hp → Prop} {pins : List (Addr × Obj)} {s : Shared} {σ : L2.St} {H : Hp} {A : Ad} {r : V → Option Int → Option Int → Hp → VK → Prop} {rl rh : Me → R (Option Int)} {f : D → Option Int → Option Int → Me → R α} (hr : SlR X r) (he : JE X T bs W g M e ra) (hl : ∀ M1, JO X T bs W g M1 lo (rl M1)) (hh : ∀ M1, JO X T bs W g M1 hi (rh M1))
    (I : Inv X pins σ H s) (S : Sta X.K T bs A M H σ g) (k : kG X.K T bs W g rel A H σ Q2 (ra.bind fun d M1 => (rl M1).bind fun l M2 => (rh M2).bind fun h M3 => f d l h M3))
    (fin : ∀ (v : V) (d : D) (l h : Option Int) (M3 : Me) (H3 : Hp) (A3 : Ad), Sta X.K T bs A3 M3 H3 σ g → Rp X.K A3 H3 v d → kG X.K T bs W g rel A3 H3 σ Q2 (f d l h M3) → r v l h H3 Q) : wpAny (model X.prog X.w) X.A (eval (.Subscript e (.Slice lo hi none p2) pos) X.env) (EP X pins σ Q) X.xe s := by
  refine (pe_slice (te := fun σ' H' Q' => ∃ A, σ' = σ ∧ Sta X.K T bs A M H' σ g ∧ kG X.K T bs W g (rE X.K) A H' σ Q' ra) (tl := fun σ' H' Q' => ∃ A M1, σ' = σ ∧ Sta X.K T bs A M1 H' σ g ∧ kG X.K T bs W g (fun _ _ => Eq) A H' σ Q' (rl M1)) (th := fun σ' H' Q' => ∃ A M2, σ' = σ ∧ Sta X.K T bs A M2 H' σ g ∧ kG X.K T bs W g (fun _ _ => Eq) A H' σ Q' (rh M2)) hr ⟨fun pins s σ' H' Q' I' ⟨A', es, S', k'⟩ => ?_⟩ ⟨fun pins s σ' H' Q' I' ⟨A', M1, es, S', k'⟩ => ?_⟩ ⟨fun pins s σ' H' Q' I' ⟨A', M1, es, S', k'⟩ => ?_⟩).run pins s σ H Q I ?_
  · subst es
    exact he.go I' S' k'
  · subst es
    exact (hl M1).run pins s _ H' Q' I' ⟨A', S', k'⟩
  · subst es
    exact (hh M1).run pins s _ H' Q' I' ⟨A', S', k'⟩
  · refine ⟨A, rfl, S, (kG.bind (rel := rE X.K) k).imp fun v H1 ⟨d, M1, A1, _, c1, S1, p1, k1⟩ => ?_⟩
    refine ⟨A1, M1, rfl, S1, (kG.bind (rel := fun _ _ => Eq) k1).imp fun l H2 ⟨l', M2, A2, _, c2, S2, e2, k2⟩ => ?_⟩
    subst e2
    refine ⟨A2, M2, rfl, S2, (kG.bind (rel := fun _ _ => Eq) k2).imp fun h H3 ⟨h', M3, A3, _, c3, S3, e3, k3⟩ => ?_⟩
    subst e3
    exact fin v d l h M3 H3 A3 S3 ((p1.mono c2).mono c3) k3
theorem jl_sl {rl rh : Me → R (Option Int)} (he : JE X T bs W g M e ra) (hl : ∀ M1, JO X T bs W g M1 lo (rl M1)) (hh : ∀ M1, JO X T bs W g M1 hi (rh M1)) : JL X T bs W g M (.Subscript e (.Slice lo hi none p2) pos) (ra.bind fun d M1 => (rl M1).bind fun l M2 => (rh M2).bind fun h M3 => R.of M3 ((lv M3 d).map fun ds => cutD ds l h)) := ⟨fun pins s σ H Q I ⟨A, S, k⟩ => by
  refine sl_run sl_list he hl hh I S k fun v d l h M3 H3 A3 S3 p3 k3 => ?_
  cases el : lv M3 d with
  | none => rw [el] at k3; exact k3.no.elim
  | some ds =>
    rw [el] at k3
    obtain ⟨a, vs, rfl, h1, h2⟩ := lv_at S3 p3 el
    exact ⟨a, vs, rfl, h1, fun p hp => k3.get S3 (cut_at h2) p hp⟩⟩
def slD (d : D) (l h : Option Int) (M : Me) : R D := match d with
  | .tup ds => .ok (.tup (cutD ds l h)) M
  | d => R.of M ((lv M d).map fun ds => .lst (cutD ds l h))
theorem je_sl {rl rh : Me → R (Option Int)} (he : JE X T bs W g M e ra) (hl : ∀ M1, JO X T bs W g M1 lo (rl M1)) (hh : ∀ M1, JO X T bs W g M1 hi (rh M1)) : JE X T bs W g M (.Subscript e (.Slice lo hi none p2) pos) (ra.bind fun d M1 => (rl M1).bind fun l M2 => (rh M2).bind fun h M3 => slD d l h M3) := je fun pins s σ H A Q I S k => by
  refine sl_run (SlR.or sl_tupA sl_list) he hl hh I S k fun v d l h M3 H3 A3 S3 p3 k3 => ?_
  unfold slD at k3
  split at k3
  · rename_i ds
    have p3' := p3
    obtain ⟨a, vs, rfl, h1, h2⟩ := p3.tupAt
    refine .inl ⟨a, vs, rfl, h1, fun hw => ?_, fun hw p hp => ?_⟩
    · have e : cutD ds l h = ds := by
        unfold cutD
        rw [h2.length] at hw
        rw [hw.1, hw.2, List.drop_zero, Nat.sub_zero, List.take_length]
      rw [e] at k3
      exact k3.get S3 p3'
    · exact k3.get' (Ch.laid hp) (S3.laid hp) (.tup (S3.fresh hp) upd_same ((cut_at h2).mono (Ch.laid hp)))
  · cases el : lv M3 d with
    | none => rw [el] at k3; exact k3.no.elim
    | some ds =>
      rw [el] at k3
      obtain ⟨a, vs, rfl, h1, h2⟩ := lv_at S3 p3 el
      exact .inr ⟨a, vs, rfl, h1, fun p hp => kG.newL S3 hp (cut_at h2) k3⟩
/-! ### f-strings -/
inductive FP (X : Cx) (T : List (Addr × Str)) (bs : List Nat) (W : WX) (g : Ga) : Expr → (Me → R D) → Prop where
  | str {x : Str} {j : Nat} {pos : Pos} : FP X T bs W g (.Constant (.str x) j pos) (fun M => .ok (.str x) M)
  | fmt {e : Expr} {pos : Pos} {r : Me → R D} (h : ∀ M, JE X T bs W g M e (r M)) : FP X T bs W g (.FormattedValue e (-1) none pos) r
inductive FPs (X : Cx) (T : List (Addr × Str)) (bs : List Nat) (W : WX) (g : Ga) : List Expr → List (Me → R D) → Prop where
  | nil : FPs X T bs W g [] []
  | cons {e r es rs} : FP X T bs W g e r → FPs X T bs W g es rs → FPs X T bs W g (e :: es) (r :: rs)
def evfR : List (Me → R D) → Str → Me → R Str
  | [], acc, M => .ok acc M
  | r :: rs, acc, M => (r M).bind fun d M1 => match strOf d with
    | some x => if x.length ≤ maxL ∧ (acc ++ x).length ≤ maxL then evfR rs (acc ++ x) M1 else .no
    | none => .no
theorem fp_go {r : Me → R D} {pins : List (Addr × Obj)} {s : Shared} {σ : L2.St} {H : Hp} {A : Ad} {Q : Str → Hp → Prop} {acc : Str} {f : Str → Me → R Str} (h : FP X T bs W g e r) (I : Inv X pins σ H s) (S : Sta X.K T bs A M H σ g) (k : kG X.K T bs W g (fun _ _ => Eq) A H σ Q ((r M).bind fun d M1 => match strOf d with | some x => if x.length ≤ maxL ∧ (acc ++ x).length ≤ maxL then f (acc ++ x) M1 else .no | none => .no)) :
    wpAny (model X.prog X.w) X.A (eval e X.env) (fun v s1 => ∃ (y : Str) (tk : Tok) (H1 : Hp) (A1 : Ad) (M1 : Me), v = .str y tk ∧ (acc ++ y).length ≤ sizeLine ∧ Inv X pins σ H1 s1 ∧ Ch A H A1 H1 ∧ Sta X.K T bs A1 M1 H1 σ g ∧ kG X.K T bs W g (fun _ _ => Eq) A1 H1 σ Q (f (acc ++ y) M1)) X.xe s := by
  cases h with
  | str =>
    rename_i x j pos
    rw [R.bind_ok] at k
    unfold strOf at k
    dsimp only at k
    by_cases hc : x.length ≤ maxL ∧ (acc ++ x).length ≤ maxL
    · rw [if_pos hc] at k
      refine thn (pe_str.run pins s σ H (fun v H1 => v = .str x ∧ H1 = H) I ⟨rfl, rfl⟩) fun v s1 ⟨y, H1, I1, r1, e1, e2⟩ => ?_
      subst e1 e2
      obtain ⟨t, rfl⟩ := r1
      exact ⟨x, t, _, A, M, rfl, sz_of hc.2, I1, Ch.refl, S, k⟩
    · rw [if_neg hc] at k
      exact k.no.elim
  | fmt h =>
    refine wpAny_FormattedValue_plain (thn ((h M).go I S k.bind) fun v s1 ⟨x, H1, I1, r1, d, M1, A1, e9, c1, S1, p1, k1⟩ => ?_)
    clear e9
    cases p1 with
    | str =>
      rename_i y
      unfold strOf at k1
      dsimp only at k1
      by_cases hc : y.length ≤ maxL ∧ (acc ++ y).length ≤ maxL
      · rw [if_pos hc] at k1
        obtain ⟨t, rfl⟩ := r1
        exact wpAny_formatField_str ⟨y, t, H1, A1, M1, rfl, sz_of hc.2, I1, c1, S1, k1⟩ ⟨y, _, H1, A1, M1, rfl, sz_of hc.2, I1.tok _, c1, S1, k1⟩ (sz_of hc.1)
      · rw [if_neg hc] at k1
        exact k1.no.elim
    | int =>
      rename_i i
      unfold strOf at k1
      dsimp only at k1
      by_cases hl : i.natAbs.log2 < 1920
      · rw [if_pos hl] at k1
        dsimp only at k1
        by_cases hc : (Str.ofString (toString i)).length ≤ maxL ∧ (acc ++ Str.ofString (toString i)).length ≤ maxL
        · rw [if_pos hc] at k1
          obtain ⟨t, rfl⟩ := r1
          exact wpAny_formatField_int hl ⟨_, _, H1, A1, M1, rfl, sz_of hc.2, I1.tok _, c1, S1, k1⟩
        · rw [if_neg hc] at k1
          exact k1.no.elim
      · rw [if_neg hl] at k1
        exact k1.no.elim
    | _ => exact k1.no.elim
theorem fps_go {pins : List (Addr × Obj)} {σ : L2.St} {Q : Str → Hp → Prop} {Rr : Str → Shared → Prop} (fin : ∀ out s1 H1, out.length ≤ sizeLine → Inv X pins σ H1 s1 → Q out H1 → Rr out s1) : ∀ {es : List Expr} {rs : List (Me → R D)} {M : Me} {acc : Str} {s : Shared} {H : Hp} {A : Ad}, FPs X T bs W g es rs → acc.length ≤ sizeLine → Inv X pins σ H s → Sta X.K T bs A M H σ g → kG X.K T bs W g (fun _ _ => Eq) A H σ Q (evfR rs acc M) →
    Joins (model X.prog X.w) X.A X.xe (evalEach es X.env) acc Rr s
  | _, _, M, acc, s, H, A, .nil, hz, I, S, k => fin acc s H hz I (k.get S rfl)
  | e :: es, _, M, acc, s, H, A, .cons h t, hz, I, S, k => by
    have e0 : evalEach (e :: es) X.env = eval e X.env :: evalEach es X.env := by first | rfl | simp [evalEach]
    rw [e0]
    refine thn (fp_go h I S k) fun v s1 ⟨y, tk, H1, A1, M1, ev, hl, I1, c1, S1, k1⟩ => ?_
    exact ⟨y, tk, ev, hl, fps_go fin t hl I1 S1 k1⟩
theorem je_fst {e1 e2 : Expr} {rs : List (Me → R D)} (h : FPs X T bs W g (e1 :: e2 :: es) rs) : JE X T bs W g M (.JoinedStr (e1 :: e2 :: es) pos) ((evfR rs Str.empty M).bind fun x M1 => .ok (.str x) M1) := je fun pins s σ H A Q I S k =>
  wpAny_JoinedStr (fps_go (Q := fun out H1 => Q (.str out) H1) (fun out s1 H1 hz I1 q1 => ⟨hz, .str out, H1, I1.tok _, ⟨_, rfl⟩, q1⟩) h (Nat.zero_le _) I S ((kG.map (rel := fun _ _ => Eq) k).imp fun v H1 ⟨x, M1, A1, _, S1, e1, q⟩ => by
    subst e1
    exact q _ .str))
end
end Iv
namespace Iv
open PySem PySem.Spec PyProof.Rows L2 LamX
section
variable {G : Pg} {fa : Str → Addr} {cf : Nat → Cf} {k b : Nat} {gfn : Str → Bool} {X : Cx} {T : List (Addr × Str)} {bs : List Nat} {W : WX} {g : Ga} {M : Me} {d d1 d2 : D} {ds : List D} {e o : Expr} {es : List Expr} {pos apos p p2 : Pos} {x m : Str} {ra : R D} {rs : R (List D)} {C : Cn} {fs : List (Str × D)}
/-- x(..), x a name of the module that stands for what stays -/
theorem call_glob {u : Value} {pins : List (Addr × Obj)} {s : Shared} {σ : L2.St} {H : Hp} {A : Ad} {Q : Value → Shared → Prop} {α : Type} {rel : Ad → Hp → α → α → Prop} {Q2 : List V → Hp → Prop} (I : Inv X pins σ H s) (S : Sta X.K T bs A M H σ g) (hg : Gl X x) (hm : X.mg x = some u) (hk : PySem.W.keepIn X.K u = true) (hs : NoStar es) (hdb : (x == ("__debug__" : Str)) = false) (ha : JA X T bs W g M es rs) (hnil : es = [] → rs = .ok [] M)
    (k : kG X.K T bs W g (rA X.K) A H σ Q2 rs) (fin : ∀ us s1, AP X pins σ Q2 us s1 → wpAny (model X.prog X.w) X.A (PySem.call u us) Q X.xe s1) : wpAny (model X.prog X.w) X.A (eval (.Call (.Name x p) es [] pos) X.env) Q X.xe s := by
  refine wpAny_Call_Name_kw (ld_glob I hg hm ?_ hdb)
  cases es with
  | nil =>
    have e := hnil rfl
    subst e
    exact PySem.W.callWith_K0 I.kIn hk (fin [] s ⟨[], H, I, .nil, k.get S .nil⟩)
  | cons e es =>
    exact PySem.W.callWith_K (h₀ := X.base) I.ok.mod.kin hk (thn (ha.go (pos := pos) I S k) fun us s1 h => by
      obtain ⟨vs, H1, I1, r1, q1⟩ := h
      exact ⟨I1.kIn, fin us s1 ⟨vs, H1, I1, r1, q1⟩⟩) (star_cons hs) (star_any hs.tail)
/-- a plain exception, made -/
theorem mkP_go {pins : List (Addr × Obj)} {s : Shared} {σ : L2.St} {H : Hp} {Q : Value → Shared → Prop} {us : List Value} {E' : Value → Shared → Prop} (E : Ex0 X.K X.mg x (ca X.K C)) (I : Inv X pins σ H s) (hl : us.length ≤ 1) (fin : ∀ h' a, Heap.MadeExcOf s.heap h' a (.ref (ca X.K C)) us → Q (.ref a) { s with heap := h' }) : wpAny (model X.prog X.w) X.A (PySem.call (.ref (ca X.K C)) us) Q E' s := by
  obtain ⟨bm, N, nm, qn, bs, hdct, sn, sub, ab, col, dd, k0, k1, k2, k3, k5, mN, hC, hN, hni, T⟩ := exc_obj I.kIn E.ex
  obtain ⟨hp, g, dr, tk, os⟩ := s
  exact wpAny_call_exc_subT PySem.F.excBase_ValueError T hC hN hni (fun h' a hm => fin h' a hm) (by rw [sizeLine_eq]; omega)
theorem xmk_cases (h : xmk G C ds = some fs) : (C.plainX = true ∧ ds.length ≤ 1 ∧ fs = []) ∨ (∃ ns, C.fldX = some ns ∧ ns.length = ds.length ∧ fs = ns.zip ds) := by
  unfold xmk at h
  by_cases h0 : G.has C = true
  · rw [if_pos h0] at h
    by_cases h1 : C.plainX = true
    · rw [if_pos h1] at h
      match ds, h with
      | [], h => cases h; exact .inl ⟨h1, Nat.zero_le _, rfl⟩
      | [_], h => cases h; exact .inl ⟨h1, Nat.le_refl _, rfl⟩
    · rw [if_neg h1] at h
      cases e : C.fldX with
      | none => rw [e] at h; cases h
      | some ns =>
        rw [e] at h
        dsimp only at h
        by_cases h2 : ns.length = ds.length
        · rw [if_pos h2] at h
          cases h
          exact .inr ⟨ns, rfl, h2, rfl⟩
        · rw [if_neg h2] at h
          cases h
  · rw [if_neg h0] at h
    cases h
theorem RpF.zip {K : PySem.W.Frag} {A : Ad} {H : Hp} : ∀ {fs : List Str} {vs : List V} {ds : List D}, RpL K A H vs ds → RpF K A H (fs.zip vs) (fs.zip ds)
  | [], _, _, _ => .nil
  | _ :: _, _, _, .nil => .nil
  | _ :: _, _, _, .cons r t => .cons r (RpF.zip t)
/-- C(..), C a class -/
theorem je_mk (c : Cxt G fa cf k T gfn X) (tk : Takes X W) (hbs : ∀ x ∈ bs, x ≤ b) (hh : G.has C = true) (hg : Gl X C.nm) (hs : NoStar es) (hdb : (C.nm == ("__debug__" : Str)) = false) (ha : JA X T bs W g M es rs) (hnil : es = [] → rs = .ok [] M) :
    JE X T bs W g M (.Call (.Name C.nm p) es [] pos) (rs.bind fun ds M1 => mkR G (cf b) C ds M1) := je fun pins s σ H A Q I S q => by
  obtain ⟨hm, hk⟩ := c.wl.gcl C hh
  refine call_glob (rel := fun _ _ (a b : Nat) => a = b) I S hg hm hk hs hdb ha hnil q.bind fun us s1 ⟨vs, H1, I1, r1, ds, M1, A1, _, c1, S1, p1, q1⟩ => ?_
  unfold mkR at q1
  by_cases hx : C.isX = true
  · rw [if_pos hx] at q1
    cases ex : xmk G C ds with
    | none => rw [ex] at q1; exact q1.no.elim
    | some fs =>
      rw [ex] at q1
      rcases xmk_cases ex with ⟨h1, h2, rfl⟩ | ⟨ns, h1, h2, rfl⟩
      · refine mkP_go (c.wl.exP C hh h1) I1 (by rw [← r1.length, p1.length]; exact h2) fun h' a hmd => ?_
        have hn : H1 a = none := I1.hok.gone hmd.new
        obtain ⟨t, ht, _, _⟩ := hmd.there
        exact ⟨.ref a, upd H1 a (ExV (.ref (ca X.K C)) none a), I1.laidN hmd.keeps hmd.new hn (exV_ok ht ⟨rfl, rfl⟩ rfl rfl rfl (show 4 < 6 by decide)), rfl, q1.get' (Ch.laid hn) (S1.laid hn) (.exc0 (S1.fresh hn) upd_same)⟩
      · have E := c.wl.exF C ns hh h1
        refine sup_run (H := H1) E c.room I1 r1 (by rw [p1.length, h2]) fun a d t1 G' h' tk' dne ha' hd J old ge hoe => ?_
        have hn : upd H1 d (.xd (ns.zip vs)) a = none := by rw [upd_ne (Ne.symm dne)]; exact ha'
        have c2 := Ch.laid (A := A1) (o := .xd (ns.zip vs)) hd
        have S2 := S1.laid (o := .xd (ns.zip vs)) hd
        have c3 := Ch.laid (A := A1) (o := ExV (.ref (ca X.K C)) (some d) a) hn
        exact ⟨.ref a, _, J.laidN (t' := tk') old ge hn (exV_ok hoe ⟨rfl, rfl⟩ rfl rfl rfl (show 4 < 6 by decide)), rfl, q1.get' (c2.trans c3) (S2.laid hn) (.exc (S1.fresh ha') (S1.fresh hd) upd_same (by rw [upd_ne dne]; exact upd_same) ((RpF.zip p1).mono (c2.trans c3)))⟩
  · rw [if_neg hx] at q1
    cases ef : G.find C "__init__" with
    | none => rw [ef] at q1; exact q1.no.elim
    | some mm =>
      rw [ef] at q1
      cases mm with
      | me f => exact make_go c tk hbs ef I1 S1 r1 p1 q1
      | _ => exact q1.no.elim
/-- raise C(..) -/
theorem js_rai (c : Cxt G fa cf k T gfn X) (tk : Takes X W) (hh : G.has C = true) (hg : Gl X C.nm) (hs : NoStar es) (hdb : (C.nm == ("__debug__" : Str)) = false) (ha : JA X T bs W g M es rs) (hnil : es = [] → rs = .ok [] M) :
    JS X T bs W g M (.Raise (some (.Call (.Name C.nm p) es [] pos)) none p2) (R.out g rs fun ds M1 => match xmk G C ds with | some fs => .ex C fs g M1 | none => .no) := by
  have mk : PMk X (.Call (.Name C.nm p) es [] pos) (fun σ H Q => ∃ A, Sta X.K T bs A M H σ g ∧ kG X.K T bs W g (rA X.K) A H σ (fun vs H1 => ∃ ds M1 A1 fs, Ch A H A1 H1 ∧ Sta X.K T bs A1 M1 H1 σ g ∧ RpL X.K A1 H1 vs ds ∧ xmk G C ds = some fs ∧ ∀ A2 H2 dd, Ch A1 H1 A2 H2 → Sta X.K T bs A2 M1 H2 σ g → XOk X.K A2 H2 dd fs → Q (.ref (ca X.K C)) dd H2) rs) := by
    intro pins s σ H Q I ⟨A, S, q⟩
    obtain ⟨hm, hk⟩ := c.wl.gcl C hh
    refine call_glob (rel := fun _ _ (a b : Nat) => a = b) I S hg hm hk hs hdb ha hnil q fun us s1 ⟨vs, H1, I1, r1, ds, M1, A1, fs, c1, S1, p1, ex, q1⟩ => ?_
    rcases xmk_cases ex with ⟨h1, h2, rfl⟩ | ⟨ns, h1, h2, rfl⟩
    · have E := c.wl.exP C hh h1
      refine mkP_go E I1 (by rw [← r1.length, p1.length]; exact h2) fun h' a hmd => ?_
      exact mk_of I1 hmd (raises_own E.k.exC E.k.ty) (q1 A1 H1 none Ch.refl S1 (.inl ⟨rfl, rfl⟩)) (I1.hok.gone hmd.new)
    · have E := c.wl.exF C ns hh h1
      obtain ⟨fI, SC⟩ := id E.sup
      refine sup_run (H := H1) E c.room I1 r1 (by rw [p1.length, h2]) fun a d t1 G' h' tk' dne ha' hd J old ge hoe => ?_
      refine ⟨a, _, _, _, _, .ref (ca X.K C), some d, rfl, J, old, ge, hoe, ⟨rfl, rfl⟩, rfl, rfl, by rw [upd_ne (Ne.symm dne)]; exact ha', rfl, I1.bare, raises_own SC.oex.exC SC.oex.tyC, ?_⟩
      have c2 := Ch.laid (A := A1) (o := .xd (ns.zip vs)) hd
      exact q1 A1 _ (some d) c2 (S1.laid hd) (.inr ⟨d, _, rfl, S1.fresh hd, upd_same, (RpF.zip p1).mono c2⟩)
  refine ⟨fun pins s σ H D I ⟨A, S, q⟩ => (ps_raise c.calm tk mk).run pins s σ H D I ⟨A, S, ?_⟩⟩
  refine (kO.out (rel := rA X.K) (σ := σ) q).imp fun vs H1 ⟨ds, M1, A1, _, c1, S1, p1, q1⟩ => ?_
  cases ex : xmk G C ds with
  | none => rw [ex] at q1; exact q1.no.elim
  | some fs =>
    rw [ex] at q1
    cases q1 with
    | ex h => exact ⟨ds, M1, A1, fs, c1, S1, p1, ex, fun A2 H2 dd c2 S2 x => h A2 H2 σ dd c2 S2 x⟩
end
end Iv
namespace Iv
open PySem PySem.Spec PyProof.Rows L2 LamX
/-! ## things move -/
/-- what is no cell stays, and stays no cell -/
structure Mv (A : Ad) (H : Hp) (A' : Ad) (H' : Hp) : Prop where
  kp : ∀ a u, A.out a → H a = some u → Stay u → H' a = some u ∧ A'.out a
  rdD : ∀ {a : Addr} {xs : List (Key × V)}, A.out a → Rd H a (.dK xs) → Rd H' a (.dK xs) ∧ A'.out a
  hc : ∀ (k : Nat) (a : Addr), A.as[k]? = some a → A'.as[k]? = some a
section
variable {K : PySem.W.Frag} {A A' : Ad} {H H' : Hp}
theorem Ch.mv (c : Ch A H A' H') : Mv A H A' H' := ⟨fun a u n h t => ⟨c.keep a u h n.1 t, c.out h n⟩, fun n h => c.rdD n h, fun k a h => c.get h⟩
theorem Mv.hk (c : Mv A H A' H') (a : Addr) (u : HO) (n : A.out a) (h : H a = some u) (t : Stay u) : H' a = some u := (c.kp a u n h t).1
theorem Mv.ho (c : Mv A H A' H') (a : Addr) (u : HO) (n : A.out a) (h : H a = some u) (t : Stay u) : A'.out a := (c.kp a u n h t).2
theorem Mv.rdL (c : Mv A H A' H') {a : Addr} {xs : List V} (n : A.out a) (h : Rd H a (.lst xs)) : Rd H' a (.lst xs) ∧ A'.out a := by
  rcases h with h | ⟨o, h⟩
  · exact ⟨.inl (c.hk a _ n h trivial), c.ho a _ n h trivial⟩
  · exact ⟨.inr ⟨o, c.hk a _ n h trivial⟩, c.ho a _ n h trivial⟩
mutual
theorem Rp.mv (c : Mv A H A' H') : ∀ {v : V} {d : D}, Rp K A H v d → Rp K A' H' v d
  | _, _, .non => .non
  | _, _, .bl => .bl
  | _, _, .int => .int
  | _, _, .str => .str
  | _, _, .byt => .byt
  | _, _, .ty => .ty
  | _, _, .cl => .cl
  | _, _, .fn => .fn
  | _, _, .tup n h r => .tup (c.ho _ _ n h trivial) (c.hk _ _ n h trivial) (RpL.mv c r)
  | _, _, .tupW h r => .tupW h (RpL.mv c r)
  | _, _, .lst n h r => .lst (c.ho _ _ n h trivial) (c.hk _ _ n h trivial) (RpL.mv c r)
  | _, _, .dct n h r => .dct (c.rdD n h).2 (c.rdD n h).1 (RpK.mv c r)
  | _, _, .obj n h r => .obj (c.ho _ _ n h trivial) (c.hk _ _ n h trivial) (RpF.mv c r)
  | _, _, .exc0 n h => .exc0 (c.ho _ _ n h trivial) (c.hk _ _ n h trivial)
  | _, _, .hot0 => .hot0
  | _, _, .hot n h r => .hot (c.ho _ _ n h trivial) (c.hk _ _ n h trivial) (RpF.mv c r)
  | _, _, .exc n n2 h h2 r => .exc (c.ho _ _ n h trivial) (c.ho _ _ n2 h2 trivial) (c.hk _ _ n h trivial) (c.hk _ _ n2 h2 trivial) (RpF.mv c r)
  | _, _, .cel h => .cel (c.hc _ _ h)
  | _, _, .scr n h => .scr (c.rdL n h).2 (c.rdL n h).1
  | _, _, .scrW h => .scrW h
theorem RpL.mv (c : Mv A H A' H') : ∀ {vs : List V} {ds : List D}, RpL K A H vs ds → RpL K A' H' vs ds
  | _, _, .nil => .nil
  | _, _, .cons r t => .cons (Rp.mv c r) (RpL.mv c t)
theorem RpK.mv (c : Mv A H A' H') : ∀ {vs : List (Key × V)} {ds : List (Key × D)}, RpK K A H vs ds → RpK K A' H' vs ds
  | _, _, .nil => .nil
  | _, _, .cons r t => .cons (Rp.mv c r) (RpK.mv c t)
theorem RpF.mv (c : Mv A H A' H') : ∀ {vs : List (Str × V)} {ds : List (Str × D)}, RpF K A H vs ds → RpF K A' H' vs ds
  | _, _, .nil => .nil
  | _, _, .cons r t => .cons (Rp.mv c r) (RpF.mv c t)
end
theorem CeOk.mv {a : Addr} {e : Ce} (c : Mv A H A' H') (hk : ∀ o, H a = some o → H' a = some o) (h : CeOk K A H a e) : CeOk K A' H' a e := by
  cases h with
  | lst h r => exact .lst (hk _ h) (r.mv c)
  | dct h r => exact .dct (hk _ h) (r.mv c)
  | dfz h r => exact .dfz (hk _ h) (r.mv c)
  | obj h r => exact .obj (hk _ h) (r.mv c)
end
/-! ## what is walked -/
/-- the heap as it was, or one new object -/
def Stp (H H' : Hp) : Prop := H' = H ∨ ∃ p o, H p = none ∧ H' = upd H p o
/-- the cells that are walked still hold what they held -/
def CF (K : PySem.W.Frag) (kc : List (Nat × List D)) (A : Ad) (H : Hp) : Prop := ∀ q ∈ kc, ∃ a vs, A.as[q.1]? = some a ∧ H a = some (.lst vs) ∧ RpL K A H vs q.2
structure Walks (K : PySem.W.Frag) (J : L2.It) (A0 : Ad) (H0 : Hp) (kc : List (Nat × List D)) (ds : List D) : Prop where
  go : ∀ A H (i : Nat) d, Mv A0 H0 A H → CF K kc A H → ds[i]? = some d → J.go i H
  yld : ∀ A H (i : Nat) d x H', Mv A0 H0 A H → CF K kc A H → (∀ p, H p = none → A.out p) → ds[i]? = some d → J.yld i H x H' → Stp H H' ∧ Rp K A H' x d
  stop : ∀ A H, Mv A0 H0 A H → CF K kc A H → J.stop ds.length H
theorem Stp.ch {H H' : Hp} {A : Ad} (h : Stp H H') : Ch A H A H' := by
  rcases h with rfl | ⟨p, o, hp, rfl⟩
  · exact Ch.refl
  · exact Ch.laid hp
theorem Stp.sta {K : PySem.W.Frag} {T : List (Addr × Str)} {bs : List Nat} {H H' : Hp} {A : Ad} {M : Me} {σ : L2.St} {g : Ga} (h : Stp H H') (S : Sta K T bs A M H σ g) : Sta K T bs A M H' σ g := by
  rcases h with rfl | ⟨p, o, hp, rfl⟩
  · exact S
  · exact S.laid hp
theorem Sta.cf {K : PySem.W.Frag} {T : List (Addr × Str)} {bs : List Nat} {A : Ad} {M : Me} {H : Hp} {σ : L2.St} {g : Ga} {wk : Wks} (S : Sta K T bs A M H σ g) (h : wkO wk M = true) : CF K wk.2 A H := fun q hq => by
  have z := List.all_eq_true.mp h q hq
  obtain ⟨a, ha, c⟩ := S.cell q.1 _ (celIs_iff.mp z)
  cases c with
  | lst h1 h2 => exact ⟨a, _, ha, h1, h2⟩
/-- a list that is walked -/
structure LW (K : PySem.W.Frag) (A1 : Ad) (H1 : Hp) (a : Addr) (kc : List (Nat × List D)) (ds : List D) : Prop where
  look : ∀ {A2 H2}, Mv A1 H1 A2 H2 → CF K kc A2 H2 → ∃ vs, SqL K H2 a vs ∧ RpL K A2 H2 vs ds
structure TW (K : PySem.W.Frag) (A1 : Ad) (H1 : Hp) (a : Addr) (ds : List D) : Prop where
  look : ∀ {A2 H2}, Mv A1 H1 A2 H2 → ∃ vs, SqT K H2 a vs ∧ RpL K A2 H2 vs ds
structure tRI (K : PySem.W.Frag) (T : List (Addr × Str)) (bs : List Nat) (W : WX) (g : Ga) (M : Me) (r : R (Wks)) (σ : L2.St) (H : Hp) (Q : L2.It → Hp → Prop) : Prop where
  ex : ∃ A, Sta K T bs A M H σ g ∧ kG K T bs W g (fun A' H' J (wk : Wks) => Walks K J A' H' wk.2 wk.1) A H σ Q r
abbrev JI (X : Cx) (T : List (Addr × Str)) (bs : List Nat) (W : WX) (g : Ga) (M : Me) (tg e : Expr) (r : R (Wks)) : Prop := PI X tg e (tRI X.K T bs W g M r)
section
variable {X : Cx} {T : List (Addr × Str)} {bs : List Nat} {W : WX} {g : Ga} {M : Me} {d : D} {ds : List D} {e tg : Expr} {es : List Expr} {pos p : Pos} {ra : R D} {rs : R (List D)}
theorem wk_list {K : PySem.W.Frag} {A1 : Ad} {H1 : Hp} {a : Addr} {kc : List (Nat × List D)} (l : LW K A1 H1 a kc ds) : Walks K (Itl K a) A1 H1 kc ds := by
  refine ⟨fun A2 H2 i d cc cf hd => ?_, fun A2 H2 i d x H3 cc cf hf hd hy => ?_, fun A2 H2 cc cf => ?_⟩
  · obtain ⟨vs, h1, rl⟩ := l.look cc cf
    obtain ⟨v, hv, _⟩ := rl.get hd
    exact ⟨vs, v, h1, hv⟩
  · obtain ⟨vs, h1, rl⟩ := l.look cc cf
    obtain ⟨rfl, hx⟩ := hy
    obtain ⟨v, hv, rv⟩ := rl.get hd
    have e := hx vs h1
    rw [hv] at e
    cases e
    exact ⟨.inl rfl, rv⟩
  · obtain ⟨vs, h1, rl⟩ := l.look cc cf
    exact ⟨vs, h1, by rw [rl.length]; exact Nat.le_refl _⟩
theorem enumD_get : ∀ {n : Nat} {ds : List D} {i : Nat} {d : D}, (enumD n ds)[i]? = some d → ∃ e, ds[i]? = some e ∧ d = .tup [.int ((n + i : Nat) : Int), e]
  | _, [], _, _, h => by simp [enumD] at h
  | n, x :: r, 0, d, h => by
    simp only [enumD, List.getElem?_cons_zero] at h
    cases h
    exact ⟨x, rfl, rfl⟩
  | n, x :: r, i + 1, d, h => by
    rw [enumD, List.getElem?_cons_succ] at h
    obtain ⟨e, h1, h2⟩ := enumD_get h
    refine ⟨e, by rw [List.getElem?_cons_succ]; exact h1, ?_⟩
    rw [h2, show n + 1 + i = n + (i + 1) by omega]
theorem enumD_len : ∀ {n : Nat} {ds : List D}, (enumD n ds).length = ds.length
  | _, [] => rfl
  | n, x :: r => by rw [enumD, List.length_cons, List.length_cons, enumD_len]
theorem wk_enum {K : PySem.W.Frag} {A1 : Ad} {H1 : Hp} {a : Addr} {kc : List (Nat × List D)} (l : LW K A1 H1 a kc ds) : Walks K (Ite K a) A1 H1 kc (enumD 0 ds) := by
  refine ⟨fun A2 H2 i d cc cf hd => ?_, fun A2 H2 i d x H3 cc cf hf hd hy => ?_, fun A2 H2 cc cf => ?_⟩
  · obtain ⟨vs, h1, rl⟩ := l.look cc cf
    obtain ⟨e, he, _⟩ := enumD_get hd
    obtain ⟨v, hv, _⟩ := rl.get he
    exact ⟨vs, v, h1, hv⟩
  · obtain ⟨vs, h1, rl⟩ := l.look cc cf
    obtain ⟨e, he, rfl⟩ := enumD_get hd
    obtain ⟨v, hv, rv⟩ := rl.get he
    obtain ⟨p, y, rfl, hp, rfl, hx⟩ := hy
    have e := hx vs h1
    rw [hv] at e
    cases e
    refine ⟨.inr ⟨p, _, hp, rfl⟩, .tup (hf p hp) upd_same ?_⟩
    rw [Nat.zero_add]
    exact .cons .int (.cons (rv.mono (Ch.laid hp)) .nil)
  · obtain ⟨vs, h1, rl⟩ := l.look cc cf
    exact ⟨vs, h1, by rw [rl.length, enumD_len]; exact Nat.le_refl _⟩
theorem zipD_get : ∀ {xs ys : List D} {i : Nat} {d : D}, (zipD xs ys)[i]? = some d → ∃ e f, xs[i]? = some e ∧ ys[i]? = some f ∧ d = .tup [e, f]
  | [], _, _, _, h => by simp [zipD] at h
  | _ :: _, [], _, _, h => by simp [zipD] at h
  | x :: r, y :: s, 0, d, h => by
    simp only [zipD, List.getElem?_cons_zero] at h
    cases h
    exact ⟨x, y, rfl, rfl, rfl⟩
  | x :: r, y :: s, i + 1, d, h => by
    rw [zipD, List.getElem?_cons_succ] at h
    exact zipD_get (xs := r) (ys := s) h
theorem zipD_len : ∀ {xs ys : List D}, (zipD xs ys).length = min xs.length ys.length
  | [], _ => by simp [zipD]
  | _ :: _, [] => by simp [zipD]
  | x :: r, y :: s => by rw [zipD, List.length_cons, List.length_cons, List.length_cons, zipD_len]; omega
theorem wk_zip {K : PySem.W.Frag} {A1 : Ad} {H1 : Hp} {a b : Addr} {kc kc2 : List (Nat × List D)} {ys : List D} (l : LW K A1 H1 a kc ds) (l2 : LW K A1 H1 b kc2 ys) : Walks K (Itz K a b) A1 H1 (kc ++ kc2) (zipD ds ys) := by
  have c1 : ∀ {A2 H2}, CF K (kc ++ kc2) A2 H2 → CF K kc A2 H2 ∧ CF K kc2 A2 H2 := fun cf => ⟨fun q hq => cf q (List.mem_append_left _ hq), fun q hq => cf q (List.mem_append_right _ hq)⟩
  refine ⟨fun A2 H2 i d cc cf hd => ?_, fun A2 H2 i d x H3 cc cf hf hd hy => ?_, fun A2 H2 cc cf => ?_⟩
  · obtain ⟨vs, h1, rl⟩ := l.look cc (c1 cf).1
    obtain ⟨ws, h2, rl2⟩ := l2.look cc (c1 cf).2
    obtain ⟨e, f, he, hf, _⟩ := zipD_get hd
    obtain ⟨v, hv, _⟩ := rl.get he
    obtain ⟨w, hw, _⟩ := rl2.get hf
    exact ⟨vs, ws, v, w, h1, h2, hv, hw⟩
  · obtain ⟨vs, h1, rl⟩ := l.look cc (c1 cf).1
    obtain ⟨ws, h2, rl2⟩ := l2.look cc (c1 cf).2
    obtain ⟨e, f, he, hf', rfl⟩ := zipD_get hd
    obtain ⟨v, hv, rv⟩ := rl.get he
    obtain ⟨w, hw, rw'⟩ := rl2.get hf'
    obtain ⟨p, y, z, rfl, hp, rfl, hx, hx2⟩ := hy
    have e := hx vs h1
    rw [hv] at e
    cases e
    have e := hx2 ws h2
    rw [hw] at e
    cases e
    exact ⟨.inr ⟨p, _, hp, rfl⟩, .tup (hf p hp) upd_same (.cons (rv.mono (Ch.laid hp)) (.cons (rw'.mono (Ch.laid hp)) .nil))⟩
  · obtain ⟨vs, h1, rl⟩ := l.look cc (c1 cf).1
    obtain ⟨ws, h2, rl2⟩ := l2.look cc (c1 cf).2
    exact ⟨vs, ws, h1, h2, by rw [rl.length, rl2.length, zipD_len]; omega⟩
theorem wk_zipT {K : PySem.W.Frag} {A1 : Ad} {H1 : Hp} {a b : Addr} {ys : List D} (l : TW K A1 H1 a ds) (l2 : TW K A1 H1 b ys) : Walks K (RZ.ItzT K a b) A1 H1 [] (zipD ds ys) := by
  refine ⟨fun A2 H2 i d cc cf hd => ?_, fun A2 H2 i d x H3 cc cf hf hd hy => ?_, fun A2 H2 cc cf => ?_⟩
  · obtain ⟨vs, h1, rl⟩ := l.look cc
    obtain ⟨ws, h2, rl2⟩ := l2.look cc
    obtain ⟨e, f, he, hf, _⟩ := zipD_get hd
    obtain ⟨v, hv, _⟩ := rl.get he
    obtain ⟨w, hw, _⟩ := rl2.get hf
    exact ⟨vs, ws, v, w, h1, h2, hv, hw⟩
  · obtain ⟨vs, h1, rl⟩ := l.look cc
    obtain ⟨ws, h2, rl2⟩ := l2.look cc
    obtain ⟨e, f, he, hf', rfl⟩ := zipD_get hd
    obtain ⟨v, hv, rv⟩ := rl.get he
    obtain ⟨w, hw, rw'⟩ := rl2.get hf'
    obtain ⟨p, y, z, rfl, hp, rfl, hx, hx2⟩ := hy
    have e := hx vs h1
    rw [hv] at e
    cases e
    have e := hx2 ws h2
    rw [hw] at e
    cases e
    exact ⟨.inr ⟨p, _, hp, rfl⟩, .tup (hf p hp) upd_same (.cons (rv.mono (Ch.laid hp)) (.cons (rw'.mono (Ch.laid hp)) .nil))⟩
  · obtain ⟨vs, h1, rl⟩ := l.look cc
    obtain ⟨ws, h2, rl2⟩ := l2.look cc
    exact ⟨vs, ws, h1, h2, by rw [rl.length, rl2.length, zipD_len]; omega⟩
theorem wk_tup {K : PySem.W.Frag} {A1 : Ad} {H1 : Hp} {a : Addr} {vs : List V} (hl : ∀ {A2 H2}, Mv A1 H1 A2 H2 → SqT K H2 a vs) (rl : RpL K A1 H1 vs ds) : Walks K (Itt K a) A1 H1 [] ds := by
  refine ⟨fun A2 H2 i d cc _ hd => ?_, fun A2 H2 i d x H3 cc _ hf hd hy => ?_, fun A2 H2 cc _ => ⟨vs, hl cc, by rw [rl.length]; exact Nat.le_refl _⟩⟩
  · obtain ⟨v, hv, _⟩ := rl.get hd
    exact ⟨vs, v, hl cc, hv⟩
  · obtain ⟨rfl, hx⟩ := hy
    obtain ⟨v, hv, rv⟩ := rl.get hd
    have e := hx vs (hl cc)
    rw [hv] at e
    cases e
    exact ⟨.inl rfl, rv.mv cc⟩
theorem lw_cel {K : PySem.W.Frag} {A1 : Ad} {H1 : Hp} {a : Addr} {kk : Nat} (ha : A1.as[kk]? = some a) : LW K A1 H1 a [(kk, ds)] ds := ⟨fun {A2 H2} cc cf => by
  obtain ⟨b, vs, hb, h1, h2⟩ := cf (kk, ds) List.mem_cons_self
  rw [cc.hc _ _ ha] at hb
  cases hb
  exact ⟨vs, SqL.of h1, h2⟩⟩
theorem lw_lst {K : PySem.W.Frag} {A1 : Ad} {H1 : Hp} {a : Addr} {vs : List V} (hl : ∀ {A2 H2}, Mv A1 H1 A2 H2 → SqL K H2 a vs) (rl : RpL K A1 H1 vs ds) : LW K A1 H1 a [] ds := ⟨fun cc _ => ⟨vs, hl cc, rl.mv cc⟩⟩
/-- what is walked of a list -/
theorem lw_of {σ : L2.St} {A1 : Ad} {H1 : Hp} {v : V} {wk : Wks} {d : D} (S1 : Sta X.K T bs A1 M H1 σ g) (r1 : Rp X.K A1 H1 v d) (e : wkL M d = some wk) : ∃ a, v = .ref a ∧ (∃ xs, SqL X.K H1 a xs) ∧ LW X.K A1 H1 a wk.2 wk.1 := by
  cases d with
  | lst ds =>
    cases e
    cases r1 with
    | lst na ha rl => exact ⟨_, rfl, ⟨_, SqL.of ha⟩, lw_lst (fun cc => SqL.of (cc.hk _ _ na ha trivial)) rl⟩
  | scr ns =>
    cases e
    cases r1 with
    | scr na ha => exact ⟨_, rfl, ⟨_, .inl ha⟩, lw_lst (vs := ns.map V.int) (fun cc => .inl (cc.rdL na ha).1) RpL.of_ints⟩
    | scrW h => exact ⟨_, rfl, ⟨_, h H1⟩, lw_lst (vs := ns.map V.int) (fun cc => h _) RpL.of_ints⟩
  | cel kk =>
    unfold wkL at e
    cases em : M[kk]? with
    | none => simp only [em] at e; cases e
    | some ce =>
      simp only [em] at e
      cases ce with
      | lst ds =>
        cases e
        obtain ⟨a, rfl, ha, z⟩ := S1.celAt em r1
        cases z with
        | lst h1 h2 => exact ⟨a, rfl, ⟨_, SqL.of h1⟩, lw_cel ha⟩
      | _ => cases e
  | _ => cases e
theorem tw_of {A1 : Ad} {H1 : Hp} {v : V} {ds : List D} (r1 : Rp X.K A1 H1 v (.tup ds)) : ∃ a, v = .ref a ∧ (∃ vs, SqT X.K H1 a vs) ∧ TW X.K A1 H1 a ds := by
  cases r1 with
  | tup na ha rl => exact ⟨_, rfl, ⟨_, SqT.of ha⟩, ⟨fun cc => ⟨_, SqT.of (cc.hk _ _ na ha trivial), rl.mv cc⟩⟩⟩
  | tupW h rl => exact ⟨_, rfl, ⟨_, h H1⟩, ⟨fun cc => ⟨_, h _, rl.mv cc⟩⟩⟩
theorem wk_range {K : PySem.W.Frag} {A : Ad} {H : Hp} {lo : Int} {n : Nat} : Walks K (Itr lo n) A H [] ((List.range n).map fun i : Nat => D.int (lo + (i : Int))) := by
  have hlen : ((List.range n).map fun i : Nat => D.int (lo + (i : Int))).length = n := by rw [List.length_map, List.length_range]
  refine ⟨fun A2 H2 i d cc _ hd => ?_, fun A2 H2 i d x H3 cc _ hf hd hy => ?_, fun A2 H2 cc _ => ?_⟩
  · have := (List.getElem?_eq_some_iff.mp hd).1
    rw [hlen] at this
    exact this
  · obtain ⟨rfl, rfl⟩ := hy
    refine ⟨.inl rfl, ?_⟩
    have hi := (List.getElem?_eq_some_iff.mp hd).1
    rw [hlen] at hi
    rw [List.getElem?_map, List.getElem?_range hi] at hd
    cases hd
    exact .int
  · show n ≤ _
    rw [hlen]
    exact Nat.le_refl _
theorem ji_no : JI X T bs W g M tg e .no := ⟨fun _ _ _ _ _ _ ⟨_, _, k⟩ => k.no.elim⟩
/-- for x in e -/
theorem ji_ex (he : JE X T bs W g M e ra) : JI X T bs W g M tg e (ra.bind fun d M1 => R.of M1 (wkOf M1 d)) := by
  cases ra with
  | no => exact ji_no
  | ex C fs M1 => exact ⟨fun pins s σ H Q I ⟨A, S, k⟩ => (pi_list he).run pins s σ H Q I ⟨A, S, by
      cases k with
      | ex h => exact .ex h⟩⟩
  | ok d M1 =>
    have viaL : ∀ {wk : Wks}, wkOf M1 d = some wk → wkL M1 d = some wk → JI X T bs W g M tg e (R.of M1 (wkOf M1 d)) := fun {wk} e1 e2 => by
      rw [e1]
      exact ⟨fun pins s σ H Q I ⟨A, S, k⟩ => (pi_list he).run pins s σ H Q I ⟨A, S, .ok fun A1 v H1 c1 S1 r1 => by
        obtain ⟨a, h1, h2, h3⟩ := lw_of S1 r1 e2
        exact ⟨a, h1, h2, k.get' c1 S1 (wk_list h3)⟩⟩⟩
    rw [R.bind_ok]
    cases d with
    | tup ds =>
      exact ⟨fun pins s σ H Q I ⟨A, S, k⟩ => (pi_tup he).run pins s σ H Q I ⟨A, S, .ok fun A1 v H1 c1 S1 r1 => by
        obtain ⟨a, vs, rfl, hs, hl, rl⟩ : ∃ a vs, v = .ref a ∧ SqT X.K H1 a vs ∧ (∀ {A2 H2}, Mv A1 H1 A2 H2 → SqT X.K H2 a vs) ∧ RpL X.K A1 H1 vs ds := by
          cases r1 with
          | tup na ha rl => exact ⟨_, _, rfl, SqT.of ha, fun cc => SqT.of (cc.hk _ _ na ha trivial), rl⟩
          | tupW h rl => exact ⟨_, _, rfl, h H1, fun _ => h _, rl⟩
        exact ⟨a, rfl, ⟨vs, hs⟩, k.get' c1 S1 (wk_tup hl rl)⟩⟩⟩
    | lst ds => exact viaL rfl rfl
    | scr ns => exact viaL rfl rfl
    | cel kk =>
      cases em : M1[kk]? with
      | none =>
        have e0 : wkOf M1 (.cel kk) = none := by unfold wkOf; simp only [em]
        rw [e0]
        exact ji_no
      | some ce =>
        cases ce with
        | lst ds => exact viaL (wk := (ds, [(kk, ds)])) (by unfold wkOf; simp only [em]) (by unfold wkL; simp only [em])
        | _ =>
          have e0 : wkOf M1 (.cel kk) = none := by unfold wkOf; simp only [em]
          rw [e0]
          exact ji_no
    | _ => exact ji_no
/-- for .. in enumerate(e) -/
theorem ji_enum {elts : List Expr} {kk : Nat} {tpos : Pos} (hg : Gl X "enumerate") (hm : X.mg "enumerate" = none) (he : JE X T bs W g M e ra) (hs : NoStar [e]) : JI X T bs W g M (.Tuple elts kk tpos) (.Call (.Name "enumerate" p) [e] [] pos) (ra.bind fun d M1 => R.of M1 ((wkL M1 d).map fun wk => (enumD 0 wk.1, wk.2))) := by
  have ha : JA X T bs W g M [e] (ra.bind fun d M1 => (R.ok [] M1).bind fun ds M2 => .ok (d :: ds) M2) := ja_cons he (fun M1 => ja_nil) (star_cons hs)
  refine ⟨fun pins s σ H Q I ⟨A, S, k⟩ => (pi_enum hg hm ha (star_cons hs)).run pins s σ H Q I ⟨A, S, ?_⟩⟩
  cases ra with
  | no => exact k.no.elim
  | ex C fs M1 => cases k with | ex h => exact .ex h
  | ok d M1 =>
    refine .ok fun A1 vs H1 c1 S1 r1 => ?_
    obtain ⟨v, rfl, r⟩ := r1.one
    rw [R.bind_ok] at k
    cases e1 : wkL M1 d with
    | none => rw [e1] at k; exact k.no.elim
    | some wk =>
      rw [e1] at k
      obtain ⟨a, rfl, ⟨xs, h2⟩, h3⟩ := lw_of S1 r e1
      exact ⟨a, xs, rfl, h2, k.get' c1 S1 (wk_enum h3)⟩
theorem wkZ_cases {d e : D} {wk : Wks} (h : wkZ M d e = some wk) : (∃ xs ys, d = .tup xs ∧ e = .tup ys ∧ wk = (zipD xs ys, [])) ∨ ∃ p q, wkL M d = some p ∧ wkL M e = some q ∧ wk = (zipD p.1 q.1, p.2 ++ q.2) := by
  unfold wkZ at h
  split at h
  · exact .inl ⟨_, _, rfl, rfl, (Option.some.inj h).symm⟩
  · cases e1 : wkL M d with
    | none => rw [e1] at h; cases h
    | some p =>
      cases e2 : wkL M e with
      | none => rw [e1, e2] at h; cases h
      | some q =>
        rw [e1, e2] at h
        exact .inr ⟨p, q, rfl, rfl, (Option.some.inj h).symm⟩
/-- for .. in zip(e, f) -/
theorem ji_zip {f : Expr} {rb : Me → R D} {elts : List Expr} {kk : Nat} {tpos : Pos} (hg : Gl X "zip") (hm : X.mg "zip" = none) (he : JE X T bs W g M e ra) (hf : ∀ M1, JE X T bs W g M1 f (rb M1)) (hs : NoStar [e, f]) : JI X T bs W g M (.Tuple elts kk tpos) (.Call (.Name "zip" p) [e, f] [] pos) (ra.bind fun d M1 => (rb M1).bind fun d2 M2 => R.of M2 (wkZ M2 d d2)) := by
  have ha : JA X T bs W g M [e, f] (ra.bind fun d M1 => ((rb M1).bind fun d2 M2 => (R.ok [] M2).bind fun ds M3 => .ok (d2 :: ds) M3).bind fun ds M2 => .ok (d :: ds) M2) := ja_cons he (fun M1 => ja_cons (hf M1) (fun M2 => ja_nil) (star_cons hs.tail)) (star_cons hs)
  refine ⟨fun pins s σ H Q I ⟨A, S, k⟩ => (RZ.pi_zipA hg hm ha (star_cons hs) (star_any hs.tail)).run pins s σ H Q I ⟨A, S, ?_⟩⟩
  cases ra with
  | no => exact k.no.elim
  | ex C fs M1 => cases k with | ex h => exact .ex h
  | ok d M1 =>
    rw [R.bind_ok] at k ⊢
    cases eb : rb M1 with
    | no => rw [eb] at k; exact k.no.elim
    | ex C fs M2 => rw [eb] at k; cases k with | ex h => exact .ex h
    | ok d2 M2 =>
      rw [eb, R.bind_ok] at k
      refine .ok fun A1 vs H1 c1 S1 r0 => ?_
      obtain ⟨v, w, rfl, r1, r2⟩ := RpL.two r0
      cases e0 : wkZ M2 d d2 with
      | none => rw [e0] at k; exact k.no.elim
      | some wk =>
        rw [e0] at k
        rcases wkZ_cases e0 with ⟨xs, ys, h1, h2, h3⟩ | ⟨p, q, e1, e2, h3⟩
        · subst h1 h2 h3
          obtain ⟨a, rfl, ⟨us, h2⟩, h3⟩ := tw_of r1
          obtain ⟨b, rfl, ⟨ws, h4⟩, h5⟩ := tw_of r2
          exact ⟨a, b, us, ws, rfl, .inr ⟨h2, h4, k.get' c1 S1 (wk_zipT h3 h5)⟩⟩
        · subst h3
          obtain ⟨a, rfl, ⟨xs, h2⟩, h3⟩ := lw_of S1 r1 e1
          obtain ⟨b, rfl, ⟨ys, h4⟩, h5⟩ := lw_of S1 r2 e2
          exact ⟨a, b, xs, ys, rfl, .inl ⟨h2, h4, k.get' c1 S1 (wk_zip h3 h5)⟩⟩
/-- range(..) -/
theorem ji_rng (hg : Gl X "range") (hm : X.mg "range" = none) (ha : JA X T bs W g M es rs) (hs : NoStar es) (hl : ∀ ds M1, rs = .ok ds M1 → ds.length = es.length) (he : es.length = 1 ∨ es.length = 2) : JI X T bs W g M tg (.Call (.Name "range" p) es [] pos) (rs.bind fun ds M1 => R.of M1 ((rngOf ds).map fun l => (l, []))) := by
  match es, he with
  | [a], _ =>
    refine ⟨fun pins s σ H Q I ⟨A, S, k⟩ => (pi_range1 hg hm ha (star_cons hs)).run pins s σ H Q I ⟨A, S, (kG.bind (rel := rA X.K) k).imp fun vs H1 ⟨ds, M1, A1, e1, c1, S1, p1, k1⟩ => ?_⟩⟩
    have hl1 := hl ds M1 e1
    match ds, hl1 with
    | [d], hl1 =>
      obtain ⟨v, rfl, r⟩ := p1.one
      clear hl1 e1 hl ha
      cases r with
      | @int j =>
        unfold rngOf at k1
        dsimp only at k1
        by_cases hc : -(2 ^ 62) ≤ j ∧ j < 2 ^ 62
        · rw [if_pos hc] at k1
          refine ⟨j, rfl, hc.1, hc.2, k1.get S1 ?_⟩
          unfold rngD
          dsimp only
          rw [Int.sub_zero]
          exact wk_range
        · rw [if_neg hc] at k1
          exact k1.no.elim
      | _ => exact k1.no.elim
  | [a, b], _ =>
    refine ⟨fun pins s σ H Q I ⟨A, S, k⟩ => (pi_range2 hg hm ha (by rw [star_cons hs, star_cons hs.tail]; rfl) (star_cons hs.tail)).run pins s σ H Q I ⟨A, S, (kG.bind (rel := rA X.K) k).imp fun vs H1 ⟨ds, M1, A1, e1, c1, S1, p1, k1⟩ => ?_⟩⟩
    have hl1 := hl ds M1 e1
    match ds, hl1 with
    | [d1, d2], hl1 =>
      obtain ⟨v, w, rfl, r1, r2⟩ := p1.two
      clear hl1 e1 hl ha
      cases r1 with
      | @int i =>
        cases r2 with
        | @int j =>
          unfold rngOf at k1
          dsimp only at k1
          by_cases hc : -(2 ^ 62) ≤ i ∧ i < 2 ^ 62 ∧ -(2 ^ 62) ≤ j ∧ j < 2 ^ 62
          · rw [if_pos hc] at k1
            exact ⟨i, j, rfl, hc, k1.get S1 wk_range⟩
          · rw [if_neg hc] at k1
            exact k1.no.elim
        | _ => exact k1.no.elim
      | _ => exact k1.no.elim
end
end Iv
namespace Iv
open PySem PySem.Spec PyProof.Rows L2 LamX
/-! ## a private place -/
def Ad.priv (A : Ad) (p : Addr) : Ad := ⟨A.as, p :: A.px⟩
def rem (H : Hp) (p : Addr) : Hp := fun a => if a = p then none else H a
theorem rem_ne {H : Hp} {p a : Addr} (h : a ≠ p) : rem H p a = H a := if_neg h
theorem rem_same {H : Hp} {p : Addr} : rem H p p = none := if_pos rfl
theorem upd_rem {H : Hp} {p : Addr} {o : HO} : upd (rem H p) p o = upd H p o := by
  funext a
  by_cases h : a = p
  · subst h
    rw [upd_same, upd_same]
  · rw [upd_ne h, upd_ne h, rem_ne h]
theorem upd_eq {H : Hp} {p : Addr} {o : HO} (e : H p = some o) : upd H p o = H := by
  funext a
  by_cases h : a = p
  · subst h
    rw [upd_same, e]
  · rw [upd_ne h]
section
variable {K : PySem.W.Frag} {T : List (Addr × Str)} {bs : List Nat} {A A' A2 : Ad} {M : Me} {H H' H2 : Hp} {σ : L2.St} {g : Ga} {p : Addr} {o : HO} {px0 : List Addr}
theorem Mv.privIn (h : H p = none) : Mv A H (A.priv p) (upd H p o) := by
  have ne : ∀ {a u}, H a = some u → a ≠ p := fun e z => by rw [z, h] at e; cases e
  have ou : ∀ {a u}, A.out a → H a = some u → (A.priv p).out a := fun {a u} n e => ⟨n.1, fun z => by
    rcases List.mem_cons.mp z with z | z
    · exact ne e z
    · exact n.2 z⟩
  refine ⟨fun a u n e t => ⟨by rw [upd_ne (ne e)]; exact e, ou n e⟩, fun n r => ⟨rd_upd h r, ?_⟩, fun k a e => e⟩
  rcases r with r | ⟨_, r⟩
  · exact ou n r
  · exact ou n r
theorem Mv.trans {A1 : Ad} {H1 : Hp} (a : Mv A H A1 H1) (b : Mv A1 H1 A2 H2) : Mv A H A2 H2 :=
  ⟨fun x u n e t => b.kp x u (a.ho x u n e t) (a.hk x u n e t) t, fun n r => b.rdD (a.rdD n r).2 (a.rdD n r).1, fun k x e => b.hc k x (a.hc k x e)⟩
theorem Mv.privOut (hx : A.px = p :: px0) : Mv A H ⟨A.as, px0⟩ (rem H p) := by
  have ne : ∀ {a}, A.out a → a ≠ p := fun n z => n.2 (by rw [hx, z]; exact List.mem_cons_self)
  have ou : ∀ {a}, A.out a → Ad.out ⟨A.as, px0⟩ a := fun n => ⟨n.1, fun z => n.2 (by rw [hx]; exact List.mem_cons_of_mem _ z)⟩
  refine ⟨fun a u n e t => ⟨by rw [rem_ne (ne n)]; exact e, ou n⟩, fun {a xs} n r => ⟨?_, ou n⟩, fun k a e => e⟩
  rcases r with r | ⟨o, r⟩
  · exact .inl (by rw [rem_ne (ne n)]; exact r)
  · exact .inr ⟨o, by rw [rem_ne (ne n)]; exact r⟩
theorem Sta.mv {A' : Ad} (S : Sta K T bs A M H σ g) (m : Mv A H A' H') (ha : A'.as = A.as) (ht : Tabs T H') (hp : ∀ q ∈ A'.px, q ∉ A'.as ∧ ∃ o, H' q = some o) (hk : ∀ a o, a ∈ A.as → H a = some o → H' a = some o) : Sta K T bs A' M H' σ g where
  tabs := ht
  alen := by rw [ha]; exact S.alen
  bas := S.bas
  nd := by rw [ha]; exact S.nd
  prv := hp
  cell := fun k c hc => by
    obtain ⟨a, h1, q⟩ := S.cell k c hc
    exact ⟨a, by rw [ha]; exact h1, q.mv m fun o e => hk a o (List.mem_of_getElem? h1) e⟩
  slen := S.slen
  slot := fun i d hd => by
    obtain ⟨v, hv, r⟩ := S.slot i d hd
    exact ⟨v, hv, r.mv m⟩
theorem Sta.privIn (S : Sta K T bs A M H σ g) (h : H p = none) : Sta K T bs (A.priv p) M (upd H p o) σ g := by
  refine S.mv (Mv.privIn h) rfl (S.tabs.ext fun b u e => by rw [upd_ne (ne_of_none e h)]; exact e) (fun q hq => ?_) fun a u ha e => by rw [upd_ne (ne_of_none e h)]; exact e
  rcases List.mem_cons.mp hq with z | z
  · subst z
    exact ⟨(S.fresh h).1, o, upd_same⟩
  · obtain ⟨n, u, e⟩ := S.prv q z
    exact ⟨n, u, by rw [upd_ne (ne_of_none e h)]; exact e⟩
theorem tabs_rem {u : HO} (t : Tabs T H) (hu : H p = some u) (ht : (∀ ps, u ≠ .tbl ps) ∧ ∀ φ, u ≠ .ext φ) : Tabs T (rem H p) := fun q hq => by
  obtain ⟨ps, h1, h2, h3⟩ := t q hq
  refine ⟨ps, ?_, h2, fun pos cv hcv => ?_⟩
  · rw [rem_ne (fun z => by rw [z, hu] at h1; exact ht.1 ps (Option.some.inj h1))]
    exact h1
  · obtain ⟨x, e1, e2⟩ := h3 pos cv hcv
    refine ⟨x, e1, ?_⟩
    rw [rem_ne (fun z => by rw [z, hu] at e2; exact ht.2 _ (Option.some.inj e2))]
    exact e2
theorem Sta.privOut {vs : List V} (S : Sta K T bs A M H σ g) (hx : A.px = p :: px0) (hn : p ∉ px0) (hp : H p = some (.lst vs)) : Sta K T bs ⟨A.as, px0⟩ M (rem H p) σ g := by
  have np := (S.prv p (by rw [hx]; exact List.mem_cons_self)).1
  refine S.mv (Mv.privOut hx) rfl (tabs_rem S.tabs hp ⟨(fun _ z => nomatch z), fun _ z => nomatch z⟩) (fun q hq => ?_) fun a u ha e => ?_
  · obtain ⟨n, u, e⟩ := S.prv q (by rw [hx]; exact List.mem_cons_of_mem _ hq)
    exact ⟨n, u, by rw [rem_ne (fun z => hn (by rw [← z]; exact hq))]; exact e⟩
  · rw [rem_ne (fun z => np (by rw [← z]; exact ha))]
    exact e
theorem Ch.privOut (c : Ch (A.priv p) (upd H p o) A2 H2) (h : H p = none) : Ch A H ⟨A2.as, A.px⟩ (rem H2 p) := by
  have ne : ∀ {a u}, H a = some u → a ≠ p := fun e z => by rw [z, h] at e; cases e
  have up : ∀ {a u}, H a = some u → upd H p o a = some u := fun e => by rw [upd_ne (ne e)]; exact e
  refine ⟨c.pre, rfl, fun a u e n t => ?_, fun a kvs r n => ?_, fun a x u e => ?_, fun a ha => ?_, fun a ps e => ?_⟩
  · rw [rem_ne (ne e)]
    exact c.keep a u (up e) n t
  · have hr : Rd (upd H p o) a (.dK kvs) := rd_upd h r
    have na : a ≠ p := by
      rcases r with r | ⟨_, r⟩
      · exact ne r
      · exact ne r
    rcases c.dks a kvs hr n with q | ⟨w, q⟩
    · exact .inl (by rw [rem_ne na]; exact q)
    · exact .inr ⟨w, by rw [rem_ne na]; exact q⟩
  · rw [rem_ne (ne e)]
    exact c.frz a x u (up e)
  · rcases c.new a ha with q | q
    · exact .inl q
    · by_cases z : a = p
      · subst z
        exact .inr h
      · rw [upd_ne z] at q
        exact .inr q
  · obtain ⟨ps', q⟩ := c.tbs a ps (up e)
    exact ⟨ps', by rw [rem_ne (ne e)]; exact q⟩
end
end Iv
namespace Iv
open PySem PySem.Spec PyProof.Rows L2 LamX
theorem asg_cons {e : Expr} {es : List Expr} {env : PySem.Env} (h : NoStar (e :: es)) : assignEach (e :: es) env = (false, assign e env) :: assignEach es env := by
  cases e with
  | Starred a p => exact absurd rfl (h _ List.mem_cons_self a p)
  | _ => rfl
theorem asg_len {env : PySem.Env} : ∀ {es : List Expr}, NoStar es → (assignEach es env).length = es.length
  | [], _ => rfl
  | e :: es, h => by rw [asg_cons h, List.length_cons, asg_len h.tail, List.length_cons]
theorem asg_idx {env : PySem.Env} : ∀ {es : List Expr}, NoStar es → (assignEach es env).findIdx? (·.1) = none
  | [], _ => rfl
  | e :: es, h => by
    rw [asg_cons h, List.findIdx?_cons]
    show (if false = true then _ else _) = _
    rw [if_neg Bool.false_ne_true, asg_idx h.tail]
    rfl
/-! ### targets of names alone -/
theorem wipeG_length (g : Ga) : ∀ vs : List Nat, (wipeG g vs).length = g.length
  | [] => rfl
  | v :: vs => by
    show ((wipeG g vs).set v none).length = _
    rw [List.length_set, wipeG_length g vs]
theorem Sta.wipe {K : PySem.W.Frag} {T : List (Addr × Str)} {bs : List Nat} {A : Ad} {M : Me} {H : Hp} {σ : L2.St} {g : Ga} (S : Sta K T bs A M H σ g) : ∀ vs : List Nat, Sta K T bs A M H (L2.wipe σ vs) (wipeG g vs)
  | [] => S
  | v :: vs => by
    have S1 := Sta.wipe S vs
    refine S1.slots (by show ((L2.wipe σ vs).set v none).length = ((wipeG g vs).set v none).length; rw [List.length_set, List.length_set]; exact S1.slen) fun i d hd => ?_
    have hd2 : ((wipeG g vs).set v none)[i]? = some (some d) := hd
    by_cases hi : i = v
    · subst hi
      by_cases hl : i < (wipeG g vs).length
      · rw [List.getElem?_set_self hl] at hd2
        cases hd2
      · rw [List.getElem?_eq_none (by rw [List.length_set]; omega)] at hd2
        cases hd2
    · rw [List.getElem?_set_ne (Ne.symm hi)] at hd2
      obtain ⟨u, hu, r⟩ := S1.slot i d hd2
      exact ⟨u, by show ((L2.wipe σ vs).set v none)[i]? = _; rw [List.getElem?_set_ne (Ne.symm hi)]; exact hu, r⟩
theorem wipe_set_in {σ : L2.St} {j : Nat} {x : Option V} : ∀ {vs : List Nat}, j ∈ vs → L2.wipe (σ.set j x) vs = L2.wipe σ vs
  | v :: vs, h => by
    show (L2.wipe (σ.set j x) vs).set v none = (L2.wipe σ vs).set v none
    by_cases hj : j ∈ vs
    · rw [wipe_set_in hj]
    · have hv : j = v := by
        rcases List.mem_cons.mp h with z | z
        · exact z
        · exact absurd z hj
      subst hv
      have e : ∀ (vs : List Nat) (τ : L2.St), j ∉ vs → L2.wipe (τ.set j x) vs = (L2.wipe τ vs).set j x := by
        intro vs
        induction vs with
        | nil => intro τ _; rfl
        | cons w ws ih =>
          intro τ hn
          show (L2.wipe (τ.set j x) ws).set w none = ((L2.wipe τ ws).set w none).set j x
          rw [ih τ (fun z => hn (List.mem_cons_of_mem _ z)), List.set_comm]
          intro z
          exact hn (by rw [z]; exact List.mem_cons_self)
      rw [e vs σ hj, List.set_set]
theorem wipe_wipe {σ : L2.St} : ∀ (vs us : List Nat), (∀ v ∈ us, v ∈ vs) → L2.wipe (L2.wipe σ us) vs = L2.wipe σ vs
  | vs, [], _ => rfl
  | vs, u :: us, h => by
    show L2.wipe ((L2.wipe σ us).set u none) vs = _
    rw [wipe_set_in (h u List.mem_cons_self), wipe_wipe vs us fun v hv => h v (List.mem_cons_of_mem _ hv)]
/-- a target of names, all of vs -/
structure tNG (K : PySem.W.Frag) (T : List (Addr × Str)) (bs : List Nat) (vs : List Nat) (t : Tg) (v : V) (σ : L2.St) (H : Hp) (Q : L2.St → Hp → Prop) : Prop where
  ex : ∃ A M g d g', Sta K T bs A M H σ g ∧ Rp K A H v d ∧ tgN t g d = some g' ∧ ∀ σ', L2.wipe σ' vs = L2.wipe σ vs → Sta K T bs A M H σ' g' → Q σ' H
structure tNGs (K : PySem.W.Frag) (T : List (Addr × Str)) (bs : List Nat) (vs : List Nat) (ts : List Tg) (us : List V) (σ : L2.St) (H : Hp) (Q : L2.St → Hp → Prop) : Prop where
  ex : ∃ A M g ds g', Sta K T bs A M H σ g ∧ RpL K A H us ds ∧ tgNs ts g ds = some g' ∧ ∀ σ', L2.wipe σ' vs = L2.wipe σ vs → Sta K T bs A M H σ' g' → Q σ' H
section
variable {X : Cx} {T : List (Addr × Str)} {bs : List Nat} {vs : List Nat} {tg : Expr} {tgs : List Expr} {pos : Pos} {x : Str} {i : Nat}
theorem ng_name (hv : i ∈ vs) (hN : X.N.Nodup) (hi : X.N[i]? = some x) (hx : Loc X.env.scope x) (hf : X.fn x = true ∨ X.env.scope.names.lookup x = some .local) : PG X (.Name x pos) (tNG X.K T bs vs (.nm i)) :=
  ⟨fun pins s σ H v u Q I r ⟨A, M, g, d, g', S, rv, e, q⟩ => (pg_name hN hi hx hf).run pins s σ H v u Q I r (by
    unfold tgN at e
    by_cases hl : i < g.length
    · rw [if_pos hl] at e
      cases e
      exact q _ (wipe_set_in hv) (S.store hl rv)
    · rw [if_neg hl] at e
      cases e)⟩
theorem ngs_nil : PGs X [] (tNGs X.K T bs vs []) := ⟨fun pins s σ H us us' Q I r ⟨A, M, g, ds, g', S, rv, e, q⟩ => pgs_nil.run pins s σ H us us' Q I r (by
  cases rv with
  | nil =>
    cases e
    exact ⟨rfl, q σ rfl S⟩
  | cons _ _ => cases e)⟩
theorem ngs_cons {t : Tg} {ts : List Tg} (h1 : PG X tg (tNG X.K T bs vs t)) (h2 : PGs X tgs (tNGs X.K T bs vs ts)) (hs : NoStar (tg :: tgs)) : PGs X (tg :: tgs) (tNGs X.K T bs vs (t :: ts)) :=
  ⟨fun pins s σ H us us' Q I r ⟨A, M, g, ds, g', S, rv, e, q⟩ => (pgs_cons h1 h2 (by rw [asg_cons hs]; rfl)).run pins s σ H us us' Q I r (by
    cases rv with
    | nil => cases e
    | @cons v d vr dr r1 r2 =>
      unfold tgNs at e
      obtain ⟨g1, e1, e2⟩ := Option.bind_eq_some_iff.mp e
      exact ⟨_, _, rfl, A, M, g, d, g1, S, r1, e1, fun σ1 w1 S1 => ⟨A, M, g1, dr, g', S1, r2, e2, fun σ2 w2 S2 => q σ2 (w2.trans w1) S2⟩⟩)⟩
theorem tgNs_len : ∀ {ts : List Tg} {g g' : Ga} {ds : List D}, tgNs ts g ds = some g' → ds.length = ts.length
  | [], _, _, [], _ => rfl
  | [], _, _, _ :: _, e => by cases e
  | _ :: _, _, _, [], e => by cases e
  | t :: ts, g, g', d :: ds, e => by
    unfold tgNs at e
    obtain ⟨g1, e1, e2⟩ := Option.bind_eq_some_iff.mp e
    rw [List.length_cons, List.length_cons, tgNs_len e2]
theorem ng_tup {k : Nat} {ts : List Tg} (hc : X.calm = true) (h : PGs X tgs (tNGs X.K T bs vs ts)) (hs : NoStar tgs) (hl : tgs.length = ts.length) : PG X (.Tuple tgs k pos) (tNG X.K T bs vs (.tup ts)) :=
  ⟨fun pins s σ H v u Q I r ⟨A, M, g, d, g', S, rv, e, q⟩ => (pg_tup hc h (asg_len hs) (asg_idx hs)).run pins s σ H v u Q I r (by
    cases d with
    | tup ds =>
      obtain ⟨a, us, rfl, ha, rl⟩ := rv.tupAt
      have e : tgNs ts g ds = some g' := e
      exact ⟨a, us, rfl, ha, by rw [rl.length, tgNs_len e, hl], A, M, g, ds, g', S, rl, e, q⟩
    | _ => cases e)⟩
end
end Iv
namespace Iv
open PySem PySem.Spec PyProof.Rows L2 LamX
/-! ### comprehensions -/
abbrev noW : WX := fun _ _ _ _ => False
theorem takes_blk {X : Cx} {s : Shared} {H : Hp} {scope : Scope} {env : PySem.Env} {fp : List Addr} : Takes (X.blk s H scope env fp) noW := fun u s' ⟨_, _, _, _, _, _, _, _, _, _, _, _, _, _, _, _, w⟩ => w.elim
/-- how much has been gathered -/
def lcAcc (turn : D → Me → R (Option D)) (ok : Me → Bool) (acc : List D) (ds : List D) (M : Me) : R (List D) := (lcL turn ok ds M).bind fun xs M' => .ok (acc ++ xs) M'
section
variable {X : Cx} {T : List (Addr × Str)} {bs : List Nat} {W : WX} {g : Ga} {M : Me} {elt tg iter : Expr} {ifs : List Expr} {pos : Pos} {scope : Scope} {own : List (Str × Nat)} {t : Tg} {ri : R (Wks)} {rc : Ga → Me → R Bool} {re : Ga → Me → R D}
/-- one turn -/
def lcT (t : Tg) (g0 : Ga) (rc : Ga → Me → R Bool) (re : Ga → Me → R D) (d : D) (M : Me) : R (Option D) := match tgN t g0 d with
  | some g' => (rc g' M).bind fun z M3 => if z = true then (re g' M3).bind fun x M4 => .ok (some x) M4 else .ok none M3
  | none => .no
structure tTs (K : PySem.W.Frag) (T : List (Addr × Str)) (bs : List Nat) (rc : Ga → Me → R Bool) (σ : L2.St) (H : Hp) (Q : Bool → Hp → Prop) : Prop where
  ex : ∃ A M g, Sta K T bs A M H σ g ∧ kG K T bs noW g (fun _ _ => Eq) A H σ Q (rc g M)
structure tEs (K : PySem.W.Frag) (T : List (Addr × Str)) (bs : List Nat) (re : Ga → Me → R D) (σ : L2.St) (H : Hp) (Q : VK) : Prop where
  ex : ∃ A M g, Sta K T bs A M H σ g ∧ kG K T bs noW g (rE K) A H σ Q (re g M)
theorem lcL_cons {turn : D → Me → R (Option D)} {ok : Me → Bool} {d : D} {r acc : List D} {M : Me} : lcAcc turn ok acc (d :: r) M = if ok M = true then (match turn d M with | .ok none M' => lcAcc turn ok acc r M' | .ok (some x) M' => lcAcc turn ok (acc ++ [x]) r M' | _ => .no) else .no := by
  unfold lcAcc
  conv => lhs; unfold lcL
  by_cases h : ok M = true
  · rw [if_pos h, if_pos h]
    cases turn d M with
    | no => rfl
    | ex C fs M' => rfl
    | ok o M' =>
      cases o with
      | none => rfl
      | some x =>
        dsimp only
        cases lcL turn ok r M' with
        | no => rfl
        | ex C fs M2 => rfl
        | ok xs M2 =>
          show R.ok (acc ++ (x :: xs)) M2 = R.ok ((acc ++ [x]) ++ xs) M2
          rw [List.append_assoc]
          rfl
  · rw [if_neg h, if_neg h]
    rfl
theorem lcL_noex {turn : D → Me → R (Option D)} {ok : Me → Bool} {C : Cn} {fs : List (Str × D)} {M' : Me} : ∀ {ds : List D} {M : Me}, lcL turn ok ds M ≠ .ex C fs M'
  | [], M, h => by
    unfold lcL at h
    split at h <;> cases h
  | d :: r, M, h => by
    unfold lcL at h
    split at h
    · split at h
      · exact lcL_noex h
      · rename_i x M1 _
        cases e : lcL turn ok r M1 with
        | no => rw [e] at h; cases h
        | ex C2 fs2 M2 => exact lcL_noex e
        | ok xs M2 => rw [e] at h; cases h
      · cases h
    · cases h
theorem lc_main {σ : L2.St} {H : Hp} {A : Ad} {Q : VK} (hown : own.map (·.2) = t.slots) (S : Sta X.K T bs A M H σ g)
    (k : kG X.K T bs W g (rA X.K) A H σ (fun vs H1 => ∀ p, H1 p = none → Q (.ref p) (upd H1 p (.lst vs))) (ri.bind fun wk M1 => (lcL (lcT t (wipeG g t.slots) rc re) (wkO wk) wk.1 M1).bind fun ds M5 => if wk.1.length ≤ 50000 then .ok ds M5 else .no)) :
    tLc (tRI X.K T bs W g M ri) (tNG X.K T bs t.slots t) (tTs X.K T bs rc) (tEs X.K T bs re) (own.map (·.2)) σ H Q := by
  rw [hown]
  refine ⟨A, S, (kG.bind (rel := fun A' H' J (wk : Wks) => Walks X.K J A' H' wk.2 wk.1) k).imp fun J H1 ⟨wk, M1, A1, _, c1, S1, hw, k1⟩ Dl hD => ?_⟩
  have hlen : wk.1.length ≤ 50000 := by
    by_cases h : wk.1.length ≤ 50000
    · exact h
    · simp only [h, if_false] at k1
      cases hq : lcL (lcT t (wipeG g t.slots) rc re) (wkO wk) wk.1 M1 with
      | no => rw [hq] at k1; exact k1.no.elim
      | ok ds M5 => rw [hq] at k1; exact k1.no.elim
      | ex C fs M5 => exact (lcL_noex hq).elim
  simp only [hlen, if_true] at k1
  obtain ⟨ds, kc⟩ := wk
  dsimp only at hw hlen
  refine ⟨fun i m H' => m = ds.length - i ∧ i ≤ ds.length ∧ ∃ A0 H0 M0 acc vs, H' = upd H0 Dl (.lst vs) ∧ H0 Dl = none ∧ Ch A1 H1 A0 H0 ∧ Sta X.K T bs A0 M0 H0 σ g ∧ RpL X.K A0 H0 vs acc ∧ acc.length ≤ i ∧
      kG X.K T bs W g (rA X.K) A0 H0 σ (fun vs H1 => ∀ p, H1 p = none → Q (.ref p) (upd H1 p (.lst vs))) (lcAcc (lcT t (wipeG g t.slots) rc re) (wkO (ds, kc)) acc (ds.drop i) M0),
    ⟨ds.length - 0, rfl, Nat.zero_le _, A1, H1, M1, [], [], rfl, hD, Ch.refl, S1, .nil, Nat.zero_le _, ?_⟩, fun i m H' ⟨hm, hi, A0, H0, M0, acc, vs, eH, hD0, c0, S0, rl, hacc, k0⟩ => ?_⟩
  · unfold lcAcc
    exact k1
  · have Sp : Sta X.K T bs (A0.priv Dl) M0 H' σ g := by rw [eH]; exact S0.privIn hD0
    have mp : Mv A1 H1 (A0.priv Dl) H' := by rw [eH]; exact c0.mv.trans (Mv.privIn hD0)
    by_cases hlt : i < ds.length
    · -- a turn
      obtain ⟨d, hd⟩ : ∃ d, ds[i]? = some d := ⟨_, List.getElem?_eq_getElem hlt⟩
      have hdrop : ds.drop i = d :: ds.drop (i + 1) := by
        rw [List.drop_eq_getElem_cons hlt]
        congr 1
        rw [List.getElem?_eq_getElem hlt] at hd
        exact Option.some.inj hd
      rw [hdrop, lcL_cons] at k0
      by_cases hok : wkO (ds, kc) M0 = true
      · rw [if_pos hok] at k0
        have cf : CF X.K kc (A0.priv Dl) H' := Sp.cf (wk := (ds, kc)) hok
        refine Or.inr ⟨hw.go _ H' i d mp cf hd, fun H2 => ∃ A2 H20 M2 acc2 vs2, H2 = upd H20 Dl (.lst vs2) ∧ H20 Dl = none ∧ Ch A1 H1 A2 H20 ∧ Sta X.K T bs A2 M2 H20 σ g ∧ RpL X.K A2 H20 vs2 acc2 ∧ acc2.length ≤ i + 1 ∧
            kG X.K T bs W g (rA X.K) A2 H20 σ (fun vs H1 => ∀ p, H1 p = none → Q (.ref p) (upd H1 p (.lst vs))) (lcAcc (lcT t (wipeG g t.slots) rc re) (wkO (ds, kc)) acc2 (ds.drop (i + 1)) M2), fun H2 h2 => ⟨ds.length - (i + 1), by omega, rfl, hlt, h2⟩, fun x H'' hy => ?_⟩
        obtain ⟨st, rx⟩ := hw.yld _ H' i d x H'' mp cf (fun p hp => Sp.fresh hp) hd hy
        have S2 : Sta X.K T bs (A0.priv Dl) M0 H'' σ g := st.sta Sp
        have c2 : Ch (A0.priv Dl) (upd H0 Dl (.lst vs)) (A0.priv Dl) H'' := by rw [← eH]; exact st.ch
        unfold lcT at k0
        cases eg : tgN t (wipeG g t.slots) d with
        | none => rw [eg] at k0; exact k0.no.elim
        | some g' =>
          rw [eg] at k0
          dsimp only at k0
          refine ⟨A0.priv Dl, M0, _, d, g', S2.wipe t.slots, rx, eg, fun σ2 w2 S3 => ⟨by rw [w2]; exact wipe_wipe _ _ fun _ z => z, A0.priv Dl, M0, g', S3, ?_⟩⟩
          -- out of the private place
          have hpx : Dl ∉ A0.px := fun z => by
            obtain ⟨_, o, q⟩ := S0.prv Dl z
            rw [hD0] at q
            cases q
          have back : ∀ {A3 : Ad} {H3 : Hp} {M3 : Me} {τ : L2.St} {γ : Ga}, Ch (A0.priv Dl) H'' A3 H3 → Sta X.K T bs A3 M3 H3 τ γ → H3 Dl = some (.lst vs) ∧ A3.px = Dl :: A0.px ∧ Ch A0 H0 ⟨A3.as, A0.px⟩ (rem H3 Dl) ∧ Sta X.K T bs ⟨A3.as, A0.px⟩ M3 (rem H3 Dl) σ g := fun {A3 H3 M3 τ γ} c3 S3 => by
            have c := c2.trans c3
            have hDl : H3 Dl = some (.lst vs) := c.keep Dl _ upd_same (S0.fresh hD0).1 trivial
            have hx : A3.px = Dl :: A0.px := c.px
            have ch := Ch.privOut c hD0
            exact ⟨hDl, hx, ch, S0.back ch (S3.privOut hx hpx hDl)⟩
          cases ec : rc g' M0 with
          | no => rw [ec] at k0; exact k0.no.elim
          | ex C fs M3 => rw [ec] at k0; exact k0.no.elim
          | ok z M3 =>
            rw [ec, R.bind_ok] at k0
            refine .ok fun A3 b H3 c3 S3' eb => ?_
            subst eb
            cases b with
            | false =>
              simp only [Bool.false_eq_true, if_false] at k0 ⊢
              obtain ⟨h1, h2, h3, h4⟩ := back c3 S3'
              exact ⟨_, _, M3, acc, vs, by rw [upd_rem, upd_eq h1], rem_same, c0.trans h3, h4, rl.mono h3, by omega, k0.mono h3⟩
            | true =>
              simp only [if_true] at k0 ⊢
              refine ⟨A3, M3, g', S3', ?_⟩
              cases ee : re g' M3 with
              | no => rw [ee] at k0; exact k0.no.elim
              | ex C fs M4 => rw [ee] at k0; exact k0.no.elim
              | ok y M4 =>
                rw [ee, R.bind_ok] at k0
                dsimp only at k0
                refine .ok fun A5 yv H5 c5 S5 r5 => ?_
                obtain ⟨h1, h2, h3, h4⟩ := back (c3.trans c5) S5
                refine ⟨vs, h1, Nat.lt_of_lt_of_le (by rw [rl.length]; omega : vs.length < 100000) (by decide), _, _, M4, acc ++ [y], vs ++ [yv], by rw [upd_rem], rem_same, c0.trans h3, h4, (rl.mono h3).append (.cons (r5.mv (Mv.privOut h2)) .nil), ?_, k0.mono h3⟩
                rw [List.length_append]
                show acc.length + 1 ≤ i + 1
                omega
      · rw [if_neg hok] at k0
        exact k0.no.elim
    · -- the end
      have ei : i = ds.length := by omega
      subst ei
      rw [List.drop_length] at k0
      unfold lcAcc lcL at k0
      by_cases hok : wkO (ds, kc) M0 = true
      · rw [if_pos hok, R.bind_ok, List.append_nil] at k0
        refine Or.inl ⟨hw.stop _ H' mp (Sp.cf (wk := (ds, kc)) hok), ?_⟩
        rw [eH]
        exact k0.get S0 rl Dl hD0
      · rw [if_neg hok] at k0
        exact k0.no.elim
/-- [elt for tg in iter if ..] -/
theorem jl_lc (hc : X.calm = true) (hN : X.N.Nodup) (hi : JI X T bs W g M tg iter ri) (ok : BlkOk X.N X.env.scope scope own) (hown : own.map (·.2) = t.slots)
    (hg : ∀ (s : Shared) (H : Hp) (C : Addr) (cl : List (Str × Addr)) (fp : List Addr), PG (X.blk s H scope (compEnvC scope cl C X.env) fp) tg (tNG X.K T bs t.slots t))
    (ht : ∀ (s : Shared) (H : Hp) (C : Addr) (cl : List (Str × Addr)) (fp : List Addr), PTs (X.blk s H scope (compEnvC scope cl C X.env) fp) ifs (tTs X.K T bs rc))
    (he : ∀ (s : Shared) (H : Hp) (C : Addr) (cl : List (Str × Addr)) (fp : List Addr), PE (X.blk s H scope (compEnvC scope cl C X.env) fp) elt (tEs X.K T bs re))
    (hs : ∀ x, foldedSetIterable iter X.env x = pure x) : JL X T bs W g M (.ListComp elt [⟨tg, iter, ifs, 0⟩] scope pos) (ri.bind fun wk M1 => (lcL (lcT t (wipeG g t.slots) rc re) (wkO wk) wk.1 M1).bind fun ds M5 => if wk.1.length ≤ 50000 then .ok ds M5 else .no) :=
  ⟨fun pins s σ H Q I ⟨A, S, k⟩ => (pe_lc hc hN hi ok hg ht he hs).run pins s σ H Q I (lc_main hown S k)⟩
end
end Iv
namespace Iv
open PySem PySem.Spec PyProof.Rows L2 LamX
/-! ## statements -/
abbrev onlyNx (Q : L2.St → Hp → Prop) : Ends := { nx := Q, rt := fun _ _ => False, bk := fun _ _ => False, ct := fun _ _ => False }
structure tRG (K : PySem.W.Frag) (T : List (Addr × Str)) (bs : List Nat) (W : WX) (g : Ga) (M : Me) (d : D) (o : Out) (v : V) (σ : L2.St) (H : Hp) (Q : L2.St → Hp → Prop) : Prop where
  ex : ∃ A, Sta K T bs A M H σ g ∧ Rp K A H v d ∧ kO K T bs W A H (onlyNx Q) o
structure tRGs (K : PySem.W.Frag) (T : List (Addr × Str)) (bs : List Nat) (W : WX) (g : Ga) (M : Me) (ds : List D) (o : Out) (vs : List V) (σ : L2.St) (H : Hp) (Q : L2.St → Hp → Prop) : Prop where
  ex : ∃ A, Sta K T bs A M H σ g ∧ RpL K A H vs ds ∧ kO K T bs W A H (onlyNx Q) o
abbrev JG (X : Cx) (T : List (Addr × Str)) (bs : List Nat) (W : WX) (g : Ga) (M : Me) (tg : Expr) (d : D) (o : Out) : Prop := PG X tg (tRG X.K T bs W g M d o)
abbrev JGs (X : Cx) (T : List (Addr × Str)) (bs : List Nat) (W : WX) (g : Ga) (M : Me) (tgs : List Expr) (ds : List D) (o : Out) : Prop := PGs X tgs (tRGs X.K T bs W g M ds o)
section
variable {G : Pg} {fa : Str → Addr} {cf : Nat → Cf} {k b : Nat} {gfn : Str → Bool} {X : Cx} {T : List (Addr × Str)} {bs : List Nat} {W : WX} {g : Ga} {M : Me} {d : D} {ds : List D} {e a i tg : Expr} {es tgs : List Expr} {pos p p2 : Pos} {x : Str} {ra : R D} {rs : R (List D)} {o : Out} {n : Nat}
theorem kO.noEnd {K : PySem.W.Frag} {A : Ad} {H : Hp} {Q Q' : L2.St → Hp → Prop} (h : kO K T bs W A H (onlyNx Q) o) (f : ∀ σ H, Q σ H → Q' σ H) : kO K T bs W A H (onlyNx Q') o := by
  cases h with
  | nx h => exact .nx fun A' H' σ' c S => f _ _ (h A' H' σ' c S)
  | rt h => exact .rt h
  | bk h => exact .bk h
  | ct h => exact .ct h
  | ex h => exact .ex h
theorem jg_no : JG X T bs W g M tg d .no := ⟨fun _ _ _ _ _ _ _ _ _ ⟨_, _, _, k⟩ => k.no.elim⟩
theorem jg_nm (hN : X.N.Nodup) (hi : X.N[n]? = some x) (hx : Loc X.env.scope x) (hf : X.fn x = true ∨ X.env.scope.names.lookup x = some .local) : JG X T bs W g M (.Name x pos) d (if n < g.length then .nx (g.set n (some d)) M else .no) :=
  ⟨fun pins s σ H v u Q I r ⟨A, S, rv, k⟩ => by
    by_cases hl : n < g.length
    · rw [if_pos hl] at k
      exact (pg_name hN hi hx hf).run pins s σ H v u Q I r (k.getN (S.store hl rv))
    · rw [if_neg hl] at k
      exact k.no.elim⟩
theorem jgs_nil : JGs X T bs W g M [] [] (.nx g M) := ⟨fun pins s σ H vs us Q I r ⟨A, S, rv, k⟩ => pgs_nil.run pins s σ H vs us Q I r (by
  cases rv
  exact ⟨rfl, k.getN S⟩)⟩
theorem jgs_no : JGs X T bs W g M tgs ds .no := ⟨fun _ _ _ _ _ _ _ _ _ ⟨_, _, _, k⟩ => k.no.elim⟩
def Out.stp (o : Out) (f : Ga → Me → Out) : Out := match o with | .nx g' M' => f g' M' | .ex C fs g' M' => .ex C fs g' M' | _ => .no
theorem jgs_cons {o1 : Out} {f : Ga → Me → Out} (h1 : JG X T bs W g M tg d o1) (h2 : ∀ g' M', JGs X T bs W g' M' tgs ds (f g' M')) (hs : NoStar (tg :: tgs)) : JGs X T bs W g M (tg :: tgs) (d :: ds) (o1.stp f) := by
  cases o1 with
  | nx g' M' =>
    exact ⟨fun pins s σ H vs us Q I r ⟨A, S, rv, k⟩ => (pgs_cons h1 (h2 g' M') (by rw [asg_cons hs]; rfl)).run pins s σ H vs us Q I r (by
      cases rv with
      | @cons v _ vr _ r1 r2 => exact ⟨_, _, rfl, A, S, r1, .nx fun A' H' σ' c S' => ⟨A', S', r2.mono c, k.mono c⟩⟩)⟩
  | ex C fs g' M' =>
    refine ⟨fun pins s σ H vs us Q I r ⟨A, S, rv, k⟩ => (pgs_cons h1 (h2 g M) (by rw [asg_cons hs]; rfl)).run pins s σ H vs us Q I r (by
      cases rv with
      | @cons v _ vr _ r1 r2 =>
        refine ⟨_, _, rfl, A, S, r1, ?_⟩
        cases k with
        | ex h => exact .ex h)⟩
  | _ => exact jgs_no
theorem jg_tup {kk : Nat} {f : List D → Out} {ts : List Tg} (hc : X.calm = true) (h : ∀ ds, JGs X T bs W g M tgs ds (f ds)) (hlen : ∀ ds, ds.length ≠ tgs.length → f ds = .no) (hs : NoStar tgs) : JG X T bs W g M (.Tuple tgs kk pos) d (match seqOf M d with | some ds => f ds | none => .no) := by
  cases e : seqOf M d with
  | none => exact jg_no
  | some ds =>
    dsimp only
    by_cases hl : ds.length = tgs.length
    · by_cases ht : ∃ xs, d = .tup xs
      · obtain ⟨xs, rfl⟩ := ht
        cases e
        exact ⟨fun pins s σ H v u Q I r ⟨A, S, rv, k⟩ => (pg_tup hc (h ds) (asg_len hs) (asg_idx hs)).run pins s σ H v u Q I r (by
          obtain ⟨a, us, rfl, ha, rl⟩ := rv.tupAt
          exact ⟨a, us, rfl, ha, by rw [rl.length, hl], A, S, rl, k⟩)⟩
      · have e2 : lv M d = some ds := by
          cases d with
          | tup xs => exact absurd ⟨xs, rfl⟩ ht
          | _ => exact e
        exact ⟨fun pins s σ H v u Q I r ⟨A, S, rv, k⟩ => (pg_lst hc (h ds) (asg_len hs) (asg_idx hs)).run pins s σ H v u Q I r (by
          obtain ⟨a, us, rfl, ha, rl⟩ := lv_at S rv e2
          exact ⟨a, us, rfl, ha, by rw [rl.length, hl], A, S, rl, k⟩)⟩
    · rw [hlen ds hl]
      exact jg_no
theorem asg_sub {env : PySem.Env} {v : Value} (h : notSl i = true) : assign (.Subscript a i pos) env v = (do
      let ov ← holding [v] (eval a env)
      let iv ← holding [v, ov] (eval i env)
      standAt pos
      holding [v, ov, iv] (setItem ov iv v)
      release [v, ov, iv] []) := by
  cases i with
  | Slice _ _ _ _ => cases h
  | _ => rfl
theorem cloK_all {n : Nat} : ∀ {ds : List (Key × D)}, clK n ds = ds.all fun kv => kv.2.clo n
  | [] => rfl
  | (k, d) :: ds => by
    show (d.clo n && clK n ds) = _
    rw [cloK_all]
    rfl
theorem cloK_put {n : Nat} {q : Key} {d : D} {ds : List (Key × D)} (h : d.clo n = true) (hd : (Ce.dct ds).clo n = true) : (Ce.dct (kput ds q d)).clo n = true := by
  have hd : clK n ds = true := hd
  show clK n (kput ds q d) = true
  rw [cloK_all] at hd ⊢
  unfold kput
  split
  · rw [List.all_map]
    refine List.all_eq_true.mpr fun kv hkv => ?_
    show (if kv.1 = q then (kv.1, d) else kv).2.clo n = true
    split
    · exact h
    · exact List.all_eq_true.mp hd kv hkv
  · rw [List.all_append, hd]
    simp [h]
/-- a[i] = d -/
theorem jg_sub {rb : Me → R D} (hu : X.A.units + 1 < cLine) (hbs : ∀ x ∈ bs, x ≤ b) (ha : JE X T bs W g M a ra) (hi : ∀ M1, JE X T bs W g M1 i (rb M1)) (hn : notSl i = true) : JG X T bs W g M (.Subscript a i pos) d (R.out g (ra.bind fun d1 M1 => (rb M1).bind fun d2 M2 => setSub G (cf b) b d1 d2 d M2) fun _ M => .nx g M) :=
  ⟨fun pins s σ H v u Q I r ⟨A, S, rv, k⟩ => by
    rw [asg_sub hn]
    have k0 := kO.out (rel := fun _ _ (_ : Unit) (_ : Unit) => True) (σ := σ) k
    refine wpAny_bind (wpAny_holding (thn (ha.go I S k0.bind) fun ov s1 ⟨x, H1, I1, r1, d1, M1, A1, _, c1, S1, p1, k1⟩ => ?_))
    refine wpAny_bind (wpAny_holding (thn ((hi M1).go I1 S1 k1.bind) fun iv s2 ⟨y, H2, I2, r2, d2, M2, A2, _, c2, S2, p2, k2⟩ => ?_))
    refine wpAny_bind (wpAny_standAt (wpAny_bind (wpAny_holding ?_)))
    unfold setSub at k2
    have p1 := p1.mono c2
    cases d1 with
    | cel kk =>
      dsimp only at k2
      cases em : M2[kk]? with
      | none => rw [em] at k2; exact k2.no.elim
      | some ce =>
        obtain ⟨aa, rfl, haa, z⟩ := S2.celAt em p1
        cases z with
        | @lst ws xs h1 h2 =>
          rw [em] at k2
          dsimp only at k2
          cases d2 with
          | int z =>
            dsimp only at k2
            cases ej : ixN xs.length z with
            | none => rw [ej] at k2; exact k2.no.elim
            | some j =>
              rw [ej] at k2
              dsimp only at k2
              by_cases hm : mayW b kk d = true
              · rw [if_pos hm] at k2
                cases p2
                have cw : ∀ o, Ch A2 H2 A2 (upd H2 aa o) := fun o => Ch.write (List.mem_of_getElem? haa) h1 trivial
                refine thn (set_list pins s2 σ H2 _ _ v ov iv u (fun H3 => Q σ H3) I2 r1 r2 r ⟨aa, ws, z, j, rfl, rfl, h1, by rw [h2.length]; exact ej, ?_⟩) fun _ s3 ⟨H3, I3, q3⟩ => wpAny_release ⟨σ, H3, I3, q3⟩
                have rv2 := (rv.mono c1).mono c2
                have S3 := S2.write (o := .lst (ws.set j v)) haa em h1 trivial (.lst upd_same (RpL.set (rv2.mono (cw _)) j (h2.mono (cw _)))) fun x hx hk => by
                  refine clL_iff.mpr fun y hy => ?_
                  rcases List.mem_or_eq_of_mem_set hy with z | z
                  · exact clL_iff.mp (S2.cloL em x hx hk) y z
                  · rw [z]
                    exact mayW_clo hbs hm x hx hk
                obtain ⟨_, _, _, _, _, S4, _, k4⟩ := k2.get' (v := ()) (cw _) S3 trivial
                exact k4.getN S4
              · rw [if_neg hm] at k2
                exact k2.no.elim
          | _ => exact k2.no.elim
        | @dct kvs kds h1 h2 =>
          rw [em] at k2
          dsimp only at k2
          cases ek : keyOf d2 with
          | none => rw [ek] at k2; exact k2.no.elim
          | some q =>
            rw [ek] at k2
            dsimp only at k2
            by_cases hm : mayW b kk d = true ∧ kds.length < maxL
            · rw [if_pos hm] at k2
              have e := keyOf_at ek p2
              subst e
              obtain rfl : ov = Value.ref aa := r1
              have cw : ∀ o, Ch A2 H2 A2 (upd H2 aa o) := fun o => Ch.write (List.mem_of_getElem? haa) h1 trivial
              have hl : kvs.length < sizeLine := by
                have z : maxL ≤ sizeLine := by decide
                rw [h2.length]
                omega
              have rv2 := (rv.mono c1).mono c2
              have S3 := S2.write (o := .dK (putK kvs q v)) haa em h1 trivial (.dct upd_same (RpK.put (rv2.mono (cw _)) (h2.mono (cw _)))) fun x hx hk => cloK_put (mayW_clo hbs hm.1 x hx hk) ((S2.bas x hx).2 kk _ em hk)
              obtain ⟨_, _, _, _, _, S4, _, k4⟩ := k2.get' (v := ()) (cw _) S3 trivial
              exact d_setItem hu I2 (DPut.k h1 hl) r2 r fun s3 I3 => wpAny_release ⟨σ, _, I3, k4.getN S4⟩
            · rw [if_neg hm] at k2
              exact k2.no.elim
        | _ => rw [em] at k2; exact k2.no.elim
    | _ => exact k2.no.elim⟩
end
end Iv
namespace Iv
open PySem PySem.Spec PyProof.Rows L2 LamX
theorem RpF.length {K : PySem.W.Frag} {A : Ad} {H : Hp} : ∀ {vs : List (Str × V)} {ds : List (Str × D)}, RpF K A H vs ds → vs.length = ds.length
  | _, _, .nil => rfl
  | _, _, .cons _ t => by rw [List.length_cons, List.length_cons, RpF.length t]
theorem RpF.put {K : PySem.W.Frag} {A : Ad} {H : Hp} {f : Str} {v : V} {d : D} (q : Rp K A H v d) : ∀ {vs : List (Str × V)} {ds : List (Str × D)}, RpF K A H vs ds → RpF K A H (putF f v vs) (fput f d ds)
  | _, _, .nil => .cons q .nil
  | (k, u) :: vs, (_, d') :: ds, .cons r t => by
    unfold putF fput
    by_cases h : k = f
    · rw [if_pos h, if_pos h]
      exact .cons q t
    · rw [if_neg h, if_neg h]
      exact .cons r (RpF.put q t)
theorem clF_put {n : Nat} {f : Str} {d : D} (q : d.clo n = true) : ∀ {ds : List (Str × D)}, clF n ds = true → clF n (fput f d ds) = true
  | [], _ => by
    show (d.clo n && true) = true
    rw [q]
    rfl
  | (k, d') :: ds, h => by
    unfold fput
    by_cases e : k = f
    · rw [if_pos e]
      exact Bool.and_eq_true_iff.mpr ⟨q, (b2 h).2⟩
    · rw [if_neg e]
      exact Bool.and_eq_true_iff.mpr ⟨(b2 h).1, clF_put q (b2 h).2⟩
section
variable {G : Pg} {fa : Str → Addr} {cf : Nat → Cf} {k b : Nat} {gfn : Str → Bool} {X : Cx} {T : List (Addr × Str)} {bs : List Nat} {W : WX} {g : Ga} {M : Me} {d : D} {ds : List D} {e a i tg c iter : Expr} {es tgs : List Expr} {pos p p2 : Pos} {x : Str} {ra : R D} {rt : R Bool} {rs : R (List D)} {o : Out} {n : Nat} {st : Stmt} {sts body body2 : List Stmt}
theorem js (h : ∀ (pins : List (Addr × Obj)) (s : Shared) (σ : L2.St) (H : Hp) (A : Ad) (E : Ends), Inv X pins σ H s → Sta X.K T bs A M H σ g → kO X.K T bs W A H E o → wpAny (model X.prog X.w) X.A (PySem.exec st X.env) (SP X pins E) X.xe s) : JS X T bs W g M st o :=
  ⟨fun pins s σ H E I ⟨A, S, k⟩ => h pins s σ H A E I S k⟩
theorem JS.go {pins : List (Addr × Obj)} {s : Shared} {σ : L2.St} {H : Hp} {A : Ad} {E : Ends} (h : JS X T bs W g M st o) (I : Inv X pins σ H s) (S : Sta X.K T bs A M H σ g) (k : kO X.K T bs W A H E o) : wpAny (model X.prog X.w) X.A (PySem.exec st X.env) (SP X pins E) X.xe s := h.run pins s σ H E I ⟨A, S, k⟩
theorem js_no : JS X T bs W g M st .no := js fun _ _ _ _ _ _ _ _ k => k.no.elim
theorem jb_no : JB X T bs W g M sts .no := ⟨fun _ _ _ _ _ _ ⟨_, _, k⟩ => k.no.elim⟩
theorem jb_nil : JB X T bs W g M [] (.nx g M) := ⟨fun pins s σ H E I ⟨A, S, k⟩ => pss_nil.run pins s σ H E I (k.getN S)⟩
/-- the same end, wanted otherwise -/
theorem kO.ends {K : PySem.W.Frag} {A : Ad} {H : Hp} {E E' : Ends} (h : kO K T bs W A H E o) (h1 : ∀ σ H, E.nx σ H → E'.nx σ H) (h2 : ∀ v H, E.rt v H → E'.rt v H) (h3 : ∀ σ H, E.bk σ H → E'.bk σ H) (h4 : ∀ σ H, E.ct σ H → E'.ct σ H) : kO K T bs W A H E' o := by
  cases h with
  | nx h => exact .nx fun A' H' σ' c S => h1 _ _ (h A' H' σ' c S)
  | rt h => exact .rt fun A' H' v c S r => h2 _ _ (h A' H' v c S r)
  | bk h => exact .bk fun A' H' σ' c S => h3 _ _ (h A' H' σ' c S)
  | ct h => exact .ct fun A' H' σ' c S => h4 _ _ (h A' H' σ' c S)
  | ex h => exact .ex h
theorem jb_cons {f : Ga → Me → Out} (h1 : JS X T bs W g M st o) (h2 : ∀ g' M', JB X T bs W g' M' sts (f g' M')) : JB X T bs W g M (st :: sts) (o.seq f) := by
  refine ⟨fun pins s σ H E I ⟨A, S, k⟩ => ?_⟩
  refine (pss_cons (u := fun E σ H => ∃ g' M', tO X.K T bs W g' M' (f g' M') E σ H) h1 ⟨fun pins s σ H E I ⟨g', M', h⟩ => (h2 g' M').run pins s σ H E I h⟩).run pins s σ H E I ?_
  exact ⟨A, S, (kO.seq k).ends (fun σ' H' ⟨g', M', A', _, c, S', k'⟩ => ⟨g', M', A', S', k'⟩) (fun _ _ h => h) (fun _ _ h => h) fun _ _ h => h⟩
theorem js_pass : JS X T bs W g M (.Pass pos) (.nx g M) := ⟨fun pins s σ H E I ⟨A, S, k⟩ => ps_pass.run pins s σ H E I (k.getN S)⟩
theorem js_brk : JS X T bs W g M (.Break pos) (.bk g M) := ⟨fun pins s σ H E I ⟨A, S, k⟩ => ps_break.run pins s σ H E I (by
  cases k with
  | bk h => exact h A H σ Ch.refl S)⟩
theorem js_cnt : JS X T bs W g M (.Continue pos) (.ct g M) := ⟨fun pins s σ H E I ⟨A, S, k⟩ => ps_continue.run pins s σ H E I (by
  cases k with
  | ct h => exact h A H σ Ch.refl S)⟩
theorem js_ex (he : JE X T bs W g M e ra) (hs : swapsWith e none pos.line X.env = pure false) : JS X T bs W g M (.Expr e pos) (R.out g ra fun _ M1 => .nx g M1) := ⟨fun pins s σ H E I ⟨A, S, k⟩ => (ps_expr he hs).run pins s σ H E I ⟨A, S, (kO.out (rel := rE X.K) (σ := σ) k).imp fun v H1 ⟨d, M1, A1, _, c1, S1, p1, k1⟩ => k1.getN S1⟩⟩
theorem js_ret (he : JE X T bs W g M e ra) : JS X T bs W g M (.Return (some e) pos) (R.out g ra fun d M1 => .rt d M1) := ⟨fun pins s σ H E I ⟨A, S, k⟩ => (ps_ret he).run pins s σ H E I ⟨A, S, (kO.out (rel := rE X.K) (σ := σ) k).imp fun v H1 ⟨d, M1, A1, _, c1, S1, p1, k1⟩ => by
  cases k1 with
  | rt h => exact h A1 H1 v Ch.refl S1.bare p1⟩⟩
theorem js_retN : JS X T bs W g M (.Return none pos) (.rt .non M) := ⟨fun pins s σ H E I ⟨A, S, k⟩ => ps_retN.run pins s σ H E I (by
  cases k with
  | rt h => exact h A H .non Ch.refl S.bare .non)⟩
theorem js_asg {f : D → Me → Out} (he : JE X T bs W g M e ra) (hg : ∀ d M1, JG X T bs W g M1 tg d (f d M1)) (hs : swapsWithSole [tg] e pos.line X.env = pure false) (hw : swappedStores [tg] e X.env = pure none) (hns : NoStar [tg]) (hend : ∀ d M1, (∃ g' M', f d M1 = .nx g' M') ∨ (∃ C fs g' M', f d M1 = .ex C fs g' M') ∨ f d M1 = .no) : JS X T bs W g M (.Assign [tg] e pos) (R.out g ra f) := by
  refine ⟨fun pins s σ H E I ⟨A, S, k⟩ => (ps_asg (g := fun v σ H Q => ∃ d M1, tRG X.K T bs W g M1 d (f d M1) v σ H Q) he ⟨fun pins s σ H v u Q I r ⟨d, M1, h⟩ => (hg d M1).run pins s σ H v u Q I r h⟩ hs hw (by rw [asg_cons hns]; rfl)).run pins s σ H E I ⟨A, S, (kO.out (rel := rE X.K) (σ := σ) k).imp fun v H1 ⟨d, M1, A1, _, c1, S1, p1, k1⟩ => ⟨d, M1, A1, S1, p1, ?_⟩⟩⟩
  rcases hend d M1 with ⟨g', M', e⟩ | ⟨C, fs, g', M', e⟩ | e
  · rw [e] at k1 ⊢
    cases k1 with
    | nx h => exact .nx h
  · rw [e] at k1 ⊢
    cases k1 with
    | ex h => exact .ex h
  · rw [e] at k1
    exact k1.no.elim
theorem js_if {f1 f2 : Me → Out} (hc : JT X T bs W g M c rt) (ha : ∀ M1, JB X T bs W g M1 body (f1 M1)) (hb : ∀ M1, JB X T bs W g M1 body2 (f2 M1)) : JS X T bs W g M (.If c body body2 pos) (R.out g rt fun z M1 => if z = true then f1 M1 else f2 M1) := by
  refine ⟨fun pins s σ H E I ⟨A, S, k⟩ => (ps_if (t := fun E σ H => ∃ M1, tO X.K T bs W g M1 (f1 M1) E σ H) (u := fun E σ H => ∃ M1, tO X.K T bs W g M1 (f2 M1) E σ H) hc ⟨fun pins s σ H E I ⟨M1, h⟩ => (ha M1).run pins s σ H E I h⟩ ⟨fun pins s σ H E I ⟨M1, h⟩ => (hb M1).run pins s σ H E I h⟩).run pins s σ H E I ⟨A, S, (kO.out (rel := fun _ _ => Eq) (σ := σ) k).imp fun z H1 ⟨z', M1, A1, _, c1, S1, e1, k1⟩ => ?_⟩⟩
  subst e1
  cases z with
  | true => exact ⟨M1, A1, S1, k1⟩
  | false => exact ⟨M1, A1, S1, k1⟩
/-- o.f = e -/
theorem js_fld {rb : Me → R D} {f : Str} (cx : Cxt G fa cf k T gfn X) (hbs : ∀ x ∈ bs, x ≤ b) (he : JE X T bs W g M e ra) (ha : ∀ M1, JE X T bs W g M1 a (rb M1)) (hs : swapsWith e (some (.Attribute a f p)) pos.line X.env = pure false) : JS X T bs W g M (.Assign [.Attribute a f p] e pos) (R.out g ra fun d M1 => R.out g ((rb M1).bind fun d1 M2 => setAtt G b d1 f d M2) fun _ M => .nx g M) := js fun pins s σ H A E I S q => by
  refine plainObj_wpAny_Assign_Attribute (thn (he.go I S (kO.out (rel := rE X.K) (σ := σ) q)) fun u s1 ⟨y, H1, I1, ry, d, M1, A1, _, c1, S1, p1, q1⟩ => ?_) hs
  have q1' := kO.out (rel := fun _ _ (_ : Unit) (_ : Unit) => True) (σ := σ) q1
  refine thn ((ha M1).go I1 S1 q1'.bind) fun ov s2 ⟨xv, H2, I2, rx, d1, M2, A2, _, c2, S2, p2, q2⟩ => ?_
  unfold setAtt at q2
  cases d1 with
  | cel kk =>
    dsimp only at q2
    cases em : M2[kk]? with
    | none => rw [em] at q2; exact q2.no.elim
    | some ce =>
      obtain ⟨aa, rfl, haa, z⟩ := S2.celAt em p2
      cases z with
      | @obj C dx fs fds h1 h2 =>
        rw [em] at q2
        dsimp only at q2
        cases ef : G.find C f with
        | some mm => rw [ef] at q2; exact q2.no.elim
        | none =>
          rw [ef] at q2
          dsimp only at q2
          by_cases hm : mayW b kk d = true ∧ fds.length < 100 ∧ G.fld C f = true
          · rw [if_pos hm] at q2
            have cl := cx.wl.clsF C f hm.2.2
            cases rx
            have hl : fs.length < 1000 := by rw [h2.length]; omega
            refine setattr_ok I2 h1 cl.cl (cl.fld f hm.2.2) hl ry fun s3 I3 => ⟨σ, _, I3, ?_⟩
            have cw : ∀ o, Ch A2 H2 A2 (upd H2 aa o) := fun o => Ch.write (List.mem_of_getElem? haa) h1 trivial
            have S3 := S2.write (o := .ins (ca X.K C) dx (putF f y fs)) (c := .obj C (fput f d fds)) haa em h1 trivial (.obj upd_same (RpF.put ((p1.mono c2).mono (cw _)) (h2.mono (cw _)))) fun x hx hk => clF_put (mayW_clo hbs hm.1 x hx hk) ((S2.bas x hx).2 kk _ em hk)
            obtain ⟨_, _, _, _, _, S4, _, k4⟩ := q2.get' (v := ()) (cw _) S3 trivial
            exact k4.getN S4
          · rw [if_neg hm] at q2
            exact q2.no.elim
      | _ => rw [em] at q2; exact q2.no.elim
  | _ => exact q2.no.elim
/-- x op= e -/
theorem js_aug {op : Operator} (hN : X.N.Nodup) (hi : X.N[n]? = some x) (hx : Loc X.env.scope x) (he : JE X T bs W g M e ra) (hf : X.fn x = true ∨ X.env.scope.names.lookup x = some .local) : JS X T bs W g M (.AugAssign (.Name x p) op e pos) (match g[n]?.bind id with
    | some d => if isAug op = true then R.out g ra fun d2 M1 => (match augD op d d2 with | some d3 => .nx (g.set n (some d3)) M1 | none => .no) else .no
    | none => .no) := by
  cases eg : g[n]? with
  | none => exact js_no
  | some od =>
    cases od with
    | none => exact js_no
    | some d =>
      dsimp only [Option.bind_some, id]
      have hl : n < g.length := (List.getElem?_eq_some_iff.mp eg).1
      have two : ∀ {ff : Int → Int → Int}, (∀ a b, augD op (.int a) (.int b) = some (.int (ff a b))) → PIp X op (ipI ff) → JS X T bs W g M (.AugAssign (.Name x p) op e pos) (R.out g ra fun d2 M1 => (match augD op d d2 with | some d3 => .nx (g.set n (some d3)) M1 | none => .no)) := fun {ff} hff hp => by
        refine ⟨fun pins s σ H E I ⟨A, S, k⟩ => ?_⟩
        obtain ⟨v, hv, rv⟩ := S.slot n d eg
        refine (ps_aug hN hi hx he hp hf).run pins s σ H E I ⟨v, hv, A, S, (kO.out (rel := rE X.K) (σ := σ) k).imp fun y H1 ⟨d2, M1, A1, _, c1, S1, p1, k1⟩ => ?_⟩
        have rv1 := rv.mono c1
        cases ea : augD op d d2 with
        | none => rw [ea] at k1; exact k1.no.elim
        | some d3 =>
          rw [ea] at k1
          obtain ⟨i1, i2, rfl, rfl⟩ : ∃ i1 i2, d = .int i1 ∧ d2 = .int i2 := by
            unfold augD at ea
            split at ea
            · exact ⟨_, _, rfl, rfl⟩
            · cases ea
          cases rv1
          cases p1
          rw [hff] at ea
          cases ea
          exact ⟨i1, i2, rfl, rfl, k1.getN (S1.store hl .int)⟩
      cases op with
      | Add => exact two (fun _ _ => rfl) ip_add
      | Sub => exact two (fun _ _ => rfl) ip_sub
      | _ => exact js_no
/-! loops -/
theorem js_for {t : Tg} {ri : R (Wks)} {sg : D → Ga → Me → Out} {eb : Ga → Me → Out} (hp : PassesOwn (model X.prog X.w) X.A X.env X.xe) (hcm : X.calm = true) (hi : JI X T bs W g M tg iter ri) (hg : ∀ d g M, JG X T bs W g M tg d (sg d g M)) (hb : ∀ g M, JB X T bs W g M body (eb g M)) (hs : ∀ x, foldedSetIterable iter X.env x = pure x)
    (hend : ∀ d g M, (∃ g' M', sg d g M = .nx g' M') ∨ (∃ C fs g' M', sg d g M = .ex C fs g' M') ∨ sg d g M = .no) :
    JS X T bs W g M (.For tg iter body [] pos) (R.out g ri fun wk M1 => forL (fun d g M => (sg d g M).seq fun g M => eb g M) (wkO wk) wk.1 g M1) := by
  refine ⟨fun pins s σ H E I ⟨A, S, k⟩ => ?_⟩
  refine (ps_for hp hcm hi (g := fun v σ H Q => ∃ d g M, tRG X.K T bs W g M d (sg d g M) v σ H Q) (tb := fun E σ H => ∃ g M, tO X.K T bs W g M (eb g M) E σ H) ⟨fun pins s σ H v u Q I r ⟨d, g, M, h⟩ => (hg d g M).run pins s σ H v u Q I r h⟩ ⟨fun pins s σ H E I ⟨g, M, h⟩ => (hb g M).run pins s σ H E I h⟩ hs).run pins s σ H E I ⟨A, S, (kO.out (rel := fun A' H' J (wk : Wks) => Walks X.K J A' H' wk.2 wk.1) (σ := σ) k).imp fun J H1 ⟨wk, M1, A1, _, c1, S1, hw, k1⟩ => ?_⟩
  obtain ⟨ds, kc⟩ := wk
  dsimp only at hw k1
  refine ⟨fun i m σ' H' => m = ds.length - i ∧ i ≤ ds.length ∧ ∃ A0 g0 M0, Ch A1 H1 A0 H' ∧ Sta X.K T bs A0 M0 H' σ' g0 ∧ kO X.K T bs W A0 H' E (forL (fun d g M => (sg d g M).seq fun g M => eb g M) (wkO (ds, kc)) (ds.drop i) g0 M0), ⟨ds.length - 0, rfl, Nat.zero_le _, A1, g, M1, Ch.refl, S1, k1⟩, fun i m σ' H' ⟨hm, hi, A0, g0, M0, c0, S0, k0⟩ => ?_⟩
  by_cases hlt : i < ds.length
  · obtain ⟨d, hd⟩ : ∃ d, ds[i]? = some d := ⟨_, List.getElem?_eq_getElem hlt⟩
    have hdrop : ds.drop i = d :: ds.drop (i + 1) := by
      rw [List.drop_eq_getElem_cons hlt]
      congr 1
      rw [List.getElem?_eq_getElem hlt] at hd
      exact Option.some.inj hd
    rw [hdrop] at k0
    unfold forL at k0
    by_cases hok : wkO (ds, kc) M0 = true
    · rw [if_pos hok] at k0
      have cf : CF X.K kc A0 H' := S0.cf (wk := (ds, kc)) hok
      refine Or.inr ⟨hw.go _ H' i d c0.mv cf hd, fun σ2 H2 => ∃ A2 g2 M2, Ch A1 H1 A2 H2 ∧ Sta X.K T bs A2 M2 H2 σ2 g2 ∧ kO X.K T bs W A2 H2 E (forL (fun d g M => (sg d g M).seq fun g M => eb g M) (wkO (ds, kc)) (ds.drop (i + 1)) g2 M2), fun σ2 H2 h2 => ⟨ds.length - (i + 1), by omega, rfl, hlt, h2⟩, fun x H'' hy => ?_⟩
      obtain ⟨st, rx⟩ := hw.yld _ H' i d x H'' c0.mv cf (fun p hp => S0.fresh hp) hd hy
      have S2 := st.sta S0
      have c2 : Ch A0 H' A0 H'' := st.ch
      refine ⟨d, g0, M0, A0, S2, rx, ?_⟩
      rcases hend d g0 M0 with ⟨g', M', e⟩ | ⟨C, fs, g', M', e⟩ | e
      · rw [e] at k0 ⊢
        refine .nx fun A3 H3 σ3 c3 S3 => ⟨g', M', A3, S3, ?_⟩
        have k3 := k0.mono (c2.trans c3)
        have c13 := (c0.trans c2).trans c3
        have k4 : kO X.K T bs W A3 H3 E (match eb g' M' with
          | .nx g' M' => forL (fun d g M => (sg d g M).seq fun g M => eb g M) (wkO (ds, kc)) (ds.drop (i + 1)) g' M'
          | .ct g' M' => forL (fun d g M => (sg d g M).seq fun g M => eb g M) (wkO (ds, kc)) (ds.drop (i + 1)) g' M'
          | .bk g' M' => .nx g' M'
          | .rt d M' => .rt d M'
          | .ex C fs g' M' => .ex C fs g' M'
          | .no => .no) := k3
        cases eb' : eb g' M' with
        | nx g5 M5 => rw [eb'] at k4; exact .nx fun A5 H5 σ5 c5 S5 => ⟨A5, g5, M5, c13.trans c5, S5, k4.mono c5⟩
        | ct g5 M5 => rw [eb'] at k4; exact .ct fun A5 H5 σ5 c5 S5 => ⟨A5, g5, M5, c13.trans c5, S5, k4.mono c5⟩
        | bk g5 M5 =>
          rw [eb'] at k4
          cases k4 with
          | nx h => exact .bk h
        | rt d5 M5 =>
          rw [eb'] at k4
          cases k4 with
          | rt h => exact .rt h
        | ex C fs g5 M5 =>
          rw [eb'] at k4
          cases k4 with
          | ex h => exact .ex h
        | no => rw [eb'] at k4; exact k4.no.elim
      · rw [e] at k0 ⊢
        have k3 := k0.mono c2
        have k4 : kO X.K T bs W A0 H'' E (.ex C fs g' M') := k3
        cases k4 with
        | ex h => exact .ex h
      · rw [e] at k0
        have k4 : kO X.K T bs W A0 H' E .no := k0
        exact k4.no.elim
    · rw [if_neg hok] at k0
      exact k0.no.elim
  · have ei : i = ds.length := by omega
    subst ei
    rw [List.drop_length] at k0
    unfold forL at k0
    by_cases hok : wkO (ds, kc) M0 = true
    · rw [if_pos hok] at k0
      exact Or.inl ⟨hw.stop _ H' c0.mv (S0.cf (wk := (ds, kc)) hok), k0.getN S0⟩
    · rw [if_neg hok] at k0
      exact k0.no.elim
end
end Iv
namespace Iv
open PySem PySem.Spec PyProof.Rows L2 LamX
section
variable {X : Cx} {T : List (Addr × Str)} {bs : List Nat} {W : WX} {g : Ga} {M : Me} {c tg iter elt a b : Expr} {ifs : List Expr} {pos p p2 : Pos} {x y : Str} {body : List Stmt} {n : Nat} {rs : R (List D)}
theorem js_while {et : Ga → Me → R Bool} {eb : Ga → Me → Out} {m : Nat} (hp : PassesOwn (model X.prog X.w) X.A X.env X.xe) (hc : ∀ g M, JT X T bs W g M c (et g M)) (hb : ∀ g M, JB X T bs W g M body (eb g M)) : JS X T bs W g M (.While c body [] pos) (whL et eb m g M) := by
  refine ⟨fun pins s σ H E I ⟨A, S, k⟩ => ?_⟩
  refine (ps_while hp (tc := fun σ H Q => ∃ g M, tRT X.K T bs W g M (et g M) σ H Q) (tb := fun E σ H => ∃ g M, tO X.K T bs W g M (eb g M) E σ H) ⟨fun pins s σ H Q I ⟨g, M, h⟩ => (hc g M).run pins s σ H Q I h⟩ ⟨fun pins s σ H E I ⟨g, M, h⟩ => (hb g M).run pins s σ H E I h⟩).run pins s σ H E I ?_
  refine ⟨fun m σ' H' => ∃ A0 g0 M0, Ch A H A0 H' ∧ Sta X.K T bs A0 M0 H' σ' g0 ∧ kO X.K T bs W A0 H' E (whL et eb m g0 M0), ⟨m, A, g, M, Ch.refl, S, k⟩, fun m σ' H' ⟨A0, g0, M0, c0, S0, k0⟩ => ?_⟩
  cases m with
  | zero => exact k0.no.elim
  | succ m =>
    unfold whL at k0
    refine ⟨g0, M0, A0, S0, ?_⟩
    cases e : et g0 M0 with
    | no => rw [e] at k0; exact k0.no.elim
    | ex C fs M1 =>
      rw [e] at k0
      cases k0 with
      | ex h => exact .ex fun A' H2 dd c2 S2 x => h A' H2 σ' dd c2 S2 x
    | ok z M1 =>
      rw [e] at k0
      refine .ok fun A2 z' H2 c2 S2 ez => ?_
      subst ez
      cases z' with
      | false => exact (k0.mono c2).getN S2
      | true =>
        have k4 : kO X.K T bs W A2 H2 E (match eb g0 M1 with
          | .nx g' M' => whL et eb m g' M'
          | .ct g' M' => whL et eb m g' M'
          | .bk g' M' => .nx g' M'
          | .rt d M' => .rt d M'
          | .ex C fs g' M' => .ex C fs g' M'
          | .no => .no) := k0.mono c2
        have c02 := c0.trans c2
        refine (if_pos rfl).mpr ⟨fun σ3 H3 => ∃ A3 g3 M3, Ch A H A3 H3 ∧ Sta X.K T bs A3 M3 H3 σ3 g3 ∧ kO X.K T bs W A3 H3 E (whL et eb m g3 M3), fun σ3 H3 h => ⟨m, Nat.lt_succ_self _, h⟩, g0, M1, A2, S2, ?_⟩
        cases eb' : eb g0 M1 with
        | nx g5 M5 => rw [eb'] at k4; exact .nx fun A5 H5 σ5 c5 S5 => ⟨A5, g5, M5, c02.trans c5, S5, k4.mono c5⟩
        | ct g5 M5 => rw [eb'] at k4; exact .ct fun A5 H5 σ5 c5 S5 => ⟨A5, g5, M5, c02.trans c5, S5, k4.mono c5⟩
        | bk g5 M5 =>
          rw [eb'] at k4
          cases k4 with
          | nx h => exact .bk h
        | rt d5 M5 =>
          rw [eb'] at k4
          cases k4 with
          | rt h => exact .rt h
        | ex C fs g5 M5 =>
          rw [eb'] at k4
          cases k4 with
          | ex h => exact .ex h
        | no => rw [eb'] at k4; exact k4.no.elim
/-- a, b = x, y of plain local names -/
theorem js_par2 {i j : Nat} {px py pt : Pos} {kt k2 : Nat} {pt2 : Pos} (hc : X.calm = true) (hN : X.N.Nodup) (hi : X.N[i]? = some x) (hj : X.N[j]? = some y) (hij : i ≠ j)
    (hx : X.env.scope.names.lookup x = some .local) (hy : X.env.scope.names.lookup y = some .local) (ha : JA X T bs W g M [a, b] rs) (hl : ∀ ds M1, rs = .ok ds M1 → ds.length = 2)
    (hw : swappedStores [.Tuple [.Name x px, .Name y py] kt pt] (.Tuple [a, b] k2 pt2) X.env = pure (some [x, y]))
    (hs : swapsWithSole [.Tuple [.Name x px, .Name y py] kt pt] (.Tuple [a, b] k2 pt2) pos.line X.env = pure false) :
    JS X T bs W g M (.Assign [.Tuple [.Name x px, .Name y py] kt pt] (.Tuple [a, b] k2 pt2) pos) (R.out g rs fun ds M1 => if [i, j].length = ds.length ∧ [i, j].all (· < g.length) = true then .nx (setIs [i, j] ds g) M1 else .no) :=
  ⟨fun pins s σ H E I ⟨A, S, k⟩ => (ps_par hc hN hi hj hij hx hy ha hw hs).run pins s σ H E I ⟨A, S, (kO.out (rel := rA X.K) (σ := σ) k).imp fun vs H1 ⟨ds, M1, A1, e1, c1, S1, p1, k1⟩ => by
    have h2 := hl ds M1 e1
    clear e1 hl
    match ds, h2 with
    | [d1, d2], _ =>
      obtain ⟨v, w, rfl, r1, r2⟩ := p1.two
      by_cases hc : [i, j].length = [d1, d2].length ∧ [i, j].all (· < g.length) = true
      · rw [if_pos hc] at k1
        have hall : i < g.length ∧ j < g.length := by simpa using hc.2
        exact ⟨v, w, rfl, k1.getN ((S1.store hall.1 r1).store (by rw [List.length_set]; exact hall.2) r2)⟩
      · rw [if_neg hc] at k1
        exact k1.no.elim⟩⟩
theorem js_par3 {i j l : Nat} {z : Str} {cc : Expr} {px py pz pt : Pos} {kt k2 : Nat} {pt2 : Pos} (hc : X.calm = true) (hN : X.N.Nodup) (hi : X.N[i]? = some x) (hj : X.N[j]? = some y) (hk : X.N[l]? = some z) (hij : i ≠ j) (hil : i ≠ l) (hjl : j ≠ l)
    (hx : X.env.scope.names.lookup x = some .local) (hy : X.env.scope.names.lookup y = some .local) (hz : X.env.scope.names.lookup z = some .local) (ha : JA X T bs W g M [a, b, cc] rs) (hl : ∀ ds M1, rs = .ok ds M1 → ds.length = 3)
    (hw : swappedStores [.Tuple [.Name x px, .Name y py, .Name z pz] kt pt] (.Tuple [a, b, cc] k2 pt2) X.env = pure (some [x, y, z]))
    (hs : swapsWithSole [.Tuple [.Name x px, .Name y py, .Name z pz] kt pt] (.Tuple [a, b, cc] k2 pt2) pos.line X.env = pure false) :
    JS X T bs W g M (.Assign [.Tuple [.Name x px, .Name y py, .Name z pz] kt pt] (.Tuple [a, b, cc] k2 pt2) pos) (R.out g rs fun ds M1 => if [i, j, l].length = ds.length ∧ [i, j, l].all (· < g.length) = true then .nx (setIs [i, j, l] ds g) M1 else .no) :=
  ⟨fun pins s σ H E I ⟨A, S, k⟩ => (ps_par3 hc hN hi hj hk hij hil hjl hx hy hz ha hw hs).run pins s σ H E I ⟨A, S, (kO.out (rel := rA X.K) (σ := σ) k).imp fun vs H1 ⟨ds, M1, A1, e1, c1, S1, p1, k1⟩ => by
    have h2 := hl ds M1 e1
    clear e1 hl
    match ds, h2, p1 with
    | [d1, d2, d3], _, .cons r1 (.cons r2 (.cons r3 .nil)) =>
      by_cases hc : [i, j, l].length = [d1, d2, d3].length ∧ [i, j, l].all (· < g.length) = true
      · rw [if_pos hc] at k1
        have hall : i < g.length ∧ j < g.length ∧ l < g.length := by simpa using hc.2
        exact ⟨_, _, _, rfl, k1.getN (((S1.store hall.1 r1).store (by rw [List.length_set]; exact hall.2.1) r2).store (by rw [List.length_set, List.length_set]; exact hall.2.2) r3)⟩
      · rw [if_neg hc] at k1
        exact k1.no.elim⟩⟩
/-- y = [elt for tg in iter if ..] on one line -/
theorem js_setLc {i : Nat} {py spos : Pos} {scope : Scope} {own : List (Str × Nat)} {t : Tg} {ri : R (Wks)} {rc : Ga → Me → R Bool} {re : Ga → Me → R D} {fin : List D → Me → R D} (hfin : (∀ ds M1, fin ds M1 = .ok (.lst ds) M1) ∨ (∀ ds M1, fin ds M1 = .ok (.cel M1.length) (M1 ++ [.lst ds])))
    (hc : X.calm = true) (hN : X.N.Nodup) (hy : X.N[i]? = some y) (hyl : X.env.scope.names.lookup y = some .local)
    (hsw : swapsWith (.ListComp elt [⟨tg, iter, ifs, 0⟩] scope pos) (some (.Name y py)) spos.line X.env = pure true) (hi : JI X T bs W g M tg iter ri) (ok : BlkOk X.N X.env.scope scope own) (hown : own.map (·.2) = t.slots)
    (hg : ∀ (s : Shared) (H : Hp) (C : Addr) (cl : List (Str × Addr)) (fp : List Addr), PG (X.blk s H scope (compEnvC scope cl C X.env) fp) tg (tNG X.K T bs t.slots t))
    (ht : ∀ (s : Shared) (H : Hp) (C : Addr) (cl : List (Str × Addr)) (fp : List Addr), PTs (X.blk s H scope (compEnvC scope cl C X.env) fp) ifs (tTs X.K T bs rc))
    (he : ∀ (s : Shared) (H : Hp) (C : Addr) (cl : List (Str × Addr)) (fp : List Addr), PE (X.blk s H scope (compEnvC scope cl C X.env) fp) elt (tEs X.K T bs re))
    (hs : ∀ x, foldedSetIterable iter X.env x = pure x) : JS X T bs W g M (.Assign [.Name y py] (.ListComp elt [⟨tg, iter, ifs, 0⟩] scope pos) spos) (R.out g ((ri.bind fun wk M1 => (lcL (lcT t (wipeG g t.slots) rc re) (wkO wk) wk.1 M1).bind fun ds M5 => if wk.1.length ≤ 50000 then .ok ds M5 else .no).bind fin) fun d M1 => if i < g.length then .nx (g.set i (some d)) M1 else .no) := by
  refine ⟨fun pins s σ H E I ⟨A, S, k⟩ => (ps_setLc hc hN hy hyl hsw hi ok hg ht he hs).run pins s σ H E I ?_⟩
  have k1 := kO.out (rel := rE X.K) (σ := σ) k
  refine lc_main (W := W) hown S ((kG.bind (rel := rA X.K) k1).imp fun vs H1 ⟨ds, M1, A1, _, c1, S1, r1, k2⟩ p hp => ?_)
  have last : ∀ {A2 : Ad} {H2 : Hp} {v : V} {d : D} {M2 : Me}, (∃ a M3 A3, R.ok d M2 = .ok a M3 ∧ Ch A H A3 H2 ∧ Sta X.K T bs A3 M3 H2 σ g ∧ rE X.K A3 H2 v a ∧ kO X.K T bs W A3 H2 E (if i < g.length then .nx (g.set i (some a)) M3 else .no)) → gName i v σ H2 E.nx := fun {A2 H2 v d M2} ⟨a, M3, A3, _, _, S3, r3, k3⟩ => by
    by_cases hl : i < g.length
    · rw [if_pos hl] at k3
      exact k3.getN (S3.store hl r3)
    · rw [if_neg hl] at k3
      exact k3.no.elim
  rcases hfin with hf | hf
  · rw [hf] at k2
    obtain ⟨a, M3, A3, _, c3, S3, r3, k3⟩ := kG.newL S1 hp r1 k2
    by_cases hl : i < g.length
    · rw [if_pos hl] at k3
      exact k3.getN (S3.store hl r3)
    · rw [if_neg hl] at k3
      exact k3.no.elim
  · rw [hf] at k2
    obtain ⟨a, M3, A3, _, c3, S3, r3, k3⟩ := kG.newC S1 hp r1 k2
    by_cases hl : i < g.length
    · rw [if_pos hl] at k3
      exact k3.getN (S3.store hl r3)
    · rw [if_neg hl] at k3
      exact k3.no.elim
end
end Iv
namespace Iv
open PySem PySem.Spec PyProof.Rows L2 LamX
section
variable {X : Cx} {T : List (Addr × Str)} {bs : List Nat} {W : WX} {g : Ga} {M : Me} {a b c : Expr} {ra : R D} {rb : Me → R D} {rt : R Bool} {pos : Pos}
/-- the truth of what comes out -/
def truR (r : R D) : R Bool := r.bind fun d M1 => R.of M1 (tru M1 d)
theorem jt_ite {r1 r2 : Me → R Bool} (hc : JT X T bs W g M c rt) (ha : ∀ M1, JT X T bs W g M1 a (r1 M1)) (hb : ∀ M1, JT X T bs W g M1 b (r2 M1)) : JT X T bs W g M (.IfExp c a b pos) (rt.bind fun z M1 => if z = true then r1 M1 else r2 M1) := ⟨fun pins s σ H Q I ⟨A, S, k⟩ => by
  show wpAny _ _ (do if ← isTrue c X.env (eval c X.env) then isTrue a X.env (eval a X.env) else isTrue b X.env (eval b X.env)) _ _ s
  refine wpAny_bind (thn (hc.go I S k.bind) fun z s1 ⟨H1, I1, z', M1, A1, _, c1, S1, e1, k1⟩ => ?_)
  subst e1
  cases z with
  | true => exact (ha M1).go I1 S1 (by simpa using k1)
  | false => exact (hb M1).go I1 S1 (by simpa using k1)⟩
theorem kG.cmpB {A : Ad} {H : Hp} {σ : L2.St} {α β : Type} {rel : Ad → Hp → β → α → Prop} {Q : β → Hp → Prop} {r : R Bool} {f : Bool → Me → R α} {K : PySem.W.Frag} (k : kG K T bs W g rel A H σ Q (r.bind f)) : kG K T bs W g (rE K) A H σ (fun v H3 => ∃ z M3 A3, v = .bl z ∧ Ch A H A3 H3 ∧ Sta K T bs A3 M3 H3 σ g ∧ kG K T bs W g rel A3 H3 σ Q (f z M3)) (Iv.cmpB r) := by
  unfold Iv.cmpB
  cases r with
  | ok z M3 =>
    refine .ok fun A3 v3 H3 c3 S3 r3 => ?_
    cases r3
    exact ⟨z, M3, A3, rfl, c3, S3, kG.mono c3 k⟩
  | ex C fs M3 =>
    cases k with
    | ex h => exact .ex h
  | no => exact k.no.elim
theorem jt_chn {op op' : CmpOp} {rc : Me → R D} {f f' : D → D → Me → R Bool} (ha : JE X T bs W g M a ra) (hb : ∀ M1, JE X T bs W g M1 b (rb M1)) (hc : ∀ M1, JE X T bs W g M1 c (rc M1)) (ho : ∀ d1 d2 M2, Op2 X T bs W (compareOp op) d1 d2 M2 (Iv.cmpB (f d1 d2 M2))) (ho' : ∀ d1 d2 M2, Op2 X T bs W (compareOp op') d1 d2 M2 (Iv.cmpB (f' d1 d2 M2))) (hm : lastMarks [op, op'] [b, c] = false) :
    JT X T bs W g M (.Compare a [op, op'] [b, c] pos) (ra.bind fun d1 M1 => (rb M1).bind fun d2 M2 => (f d1 d2 M2).bind fun z M3 => if z = true then (rc M3).bind fun d3 M4 => f' d2 d3 M4 else .ok false M3) := ⟨fun pins s σ H Q I ⟨A, S, k⟩ => by
  refine isTrue_chain (thn (ha.go I S k.bind) fun v s1 ⟨x, H1, I1, r1, d1, M1, A1, _, c1, S1, p1, k1⟩ => test_link (thn ((hb M1).go I1 S1 k1.bind) fun u s2 ⟨y, H2, I2, r2, d2, M2, A2, _, c2, S2, p2, k2⟩ => ?_)) hm
  refine thn (ho d1 d2 M2 pins s2 σ g H2 A2 x y v u _ I2 S2 (p1.mono c2) p2 r1 r2 k2.cmpB) fun w3 s3 ⟨v3, H3, I3, r3, z, M3, A3, ez, c3, S3, k4⟩ => ?_
  subst ez
  cases r3
  refine wpAny_truthy_bool ?_
  cases z with
  | false =>
    rw [if_neg Bool.false_ne_true] at k4
    exact ite_ff ⟨H3, I3, k4.get S3 rfl⟩
  | true =>
    rw [if_pos rfl] at k4
    refine ite_tt (test_last (thn ((hc M3).go I3 S3 k4.bind) fun w' s4 ⟨z', H4, I4, r4, d3, M4, A4, _, c4, S4, p4, k5⟩ => ?_))
    have k6 : kG X.K T bs W g (fun _ _ => Eq) A4 H4 σ Q ((f' d2 d3 M4).bind fun z M => .ok z M) := by
      cases e : f' d2 d3 M4 with
      | ok z M5 => rw [e] at k5; exact k5
      | ex C fs M5 => rw [e] at k5; exact k5
      | no => rw [e] at k5; exact k5
    refine thn (ho' d2 d3 M4 pins s4 σ g H4 A4 y z' u w' _ I4 S4 ((p2.mono c3).mono c4) p4 r2 r4 k6.cmpB) fun w5 s5 ⟨v5, H5, I5, r5, z5, M5, A5, ez, c5, S5, k7⟩ => ?_
    subst ez
    cases r5
    exact wpAny_truthy_bool ⟨H5, I5, k7.get S5 rfl⟩⟩
theorem je_frz' {r : R D} (h : (∀ x ∈ bs, x ≤ M.length) → JE X T (M.length :: bs) W g M a r) : JE X T bs W g M a (trunc M.length r) := je fun pins s σ H A Q I S k => (h fun x hx => (S.bas x hx).1).go I S.enter (k.trunc S)
/-! the truth of and, or, not -/
theorem truR_and {r2 : Me → R D} : truR (ra.bind fun d M1 => match tru M1 d with | some true => r2 M1 | some false => .ok d M1 | none => .no) = (truR ra).bind fun z M1 => if z = true then truR (r2 M1) else .ok false M1 := by
  cases ra with
  | no => rfl
  | ex C fs M1 => rfl
  | ok d M1 =>
    unfold truR
    rw [R.bind_ok, R.bind_ok]
    cases e : tru M1 d with
    | none => rfl
    | some z =>
      cases z with
      | true => rfl
      | false =>
        dsimp only
        rw [R.bind_ok, e]
        rfl
theorem truR_or {r2 : Me → R D} : truR (ra.bind fun d M1 => match tru M1 d with | some true => .ok d M1 | some false => r2 M1 | none => .no) = (truR ra).bind fun z M1 => if z = true then .ok true M1 else truR (r2 M1) := by
  cases ra with
  | no => rfl
  | ex C fs M1 => rfl
  | ok d M1 =>
    unfold truR
    rw [R.bind_ok, R.bind_ok]
    cases e : tru M1 d with
    | none => rfl
    | some z =>
      cases z with
      | false => rfl
      | true =>
        dsimp only
        rw [R.bind_ok, e]
        rfl
theorem truR_not : truR (ra.bind fun d M1 => R.of M1 ((tru M1 d).map fun z => .bl (!z))) = (truR ra).bind fun z M1 => .ok (!z) M1 := by
  cases ra with
  | no => rfl
  | ex C fs M1 => rfl
  | ok d M1 =>
    unfold truR
    rw [R.bind_ok, R.bind_ok]
    cases tru M1 d with
    | none => rfl
    | some z => rfl
theorem truR_ite {r1 r2 : Me → R D} : truR (ra.bind fun d M1 => match tru M1 d with | some true => r1 M1 | some false => r2 M1 | none => .no) = (truR ra).bind fun z M1 => if z = true then truR (r1 M1) else truR (r2 M1) := by
  cases ra with
  | no => rfl
  | ex C fs M1 => rfl
  | ok d M1 =>
    unfold truR
    rw [R.bind_ok, R.bind_ok]
    cases tru M1 d with
    | none => rfl
    | some z => cases z <;> rfl
theorem ite_truR {r1 r2 : Me → R D} : (ra.bind fun d M1 => match tru M1 d with | some true => r1 M1 | some false => r2 M1 | none => .no) = (truR ra).bind fun z M1 => if z = true then r1 M1 else r2 M1 := by
  cases ra with
  | no => rfl
  | ex C fs M1 => rfl
  | ok d M1 =>
    unfold truR
    rw [R.bind_ok, R.bind_ok]
    cases tru M1 d with
    | none => rfl
    | some z => cases z <;> rfl
theorem truR_cmp {f : D → D → Me → R Bool} : truR (ra.bind fun d1 M1 => (rb M1).bind fun d2 M2 => (f d1 d2 M2).bind fun z M3 => .ok (.bl z) M3) = ra.bind fun d1 M1 => (rb M1).bind fun d2 M2 => f d1 d2 M2 := by
  cases ra with
  | no => rfl
  | ex C fs M1 => rfl
  | ok d M1 =>
    rw [R.bind_ok, R.bind_ok]
    cases rb M1 with
    | no => rfl
    | ex C fs M2 => rfl
    | ok d2 M2 =>
      rw [R.bind_ok, R.bind_ok]
      cases f d d2 M2 <;> rfl
theorem truR_chn {rc : Me → R D} {f f' : D → D → Me → R Bool} : truR (ra.bind fun d1 M1 => (rb M1).bind fun d2 M2 => (f d1 d2 M2).bind fun z M3 => if z = true then (rc M3).bind fun d3 M4 => (f' d2 d3 M4).bind fun z' M5 => .ok (.bl z') M5 else .ok (.bl false) M3) = ra.bind fun d1 M1 => (rb M1).bind fun d2 M2 => (f d1 d2 M2).bind fun z M3 => if z = true then (rc M3).bind fun d3 M4 => f' d2 d3 M4 else .ok false M3 := by
  cases ra with
  | no => rfl
  | ex C fs M1 => rfl
  | ok d M1 =>
    rw [R.bind_ok, R.bind_ok]
    cases rb M1 with
    | no => rfl
    | ex C fs M2 => rfl
    | ok d2 M2 =>
      rw [R.bind_ok, R.bind_ok]
      cases f d d2 M2 with
      | no => rfl
      | ex C fs M3 => rfl
      | ok z M3 =>
        rw [R.bind_ok, R.bind_ok]
        cases z with
        | false => rfl
        | true =>
          rw [if_pos rfl, if_pos rfl]
          cases rc M3 with
          | no => rfl
          | ex C fs M4 => rfl
          | ok d3 M4 =>
            rw [R.bind_ok, R.bind_ok]
            cases f' d2 d3 M4 <;> rfl
end
end Iv
namespace Iv
open PySem PySem.Spec PyProof.Rows L2 LamX
/-! ## the small text against the text -/
/-- a scope, and whether lambdas can be made there -/
structure Sc extends Scope where
  la : Bool
instance : CoeOut Sc Scope := ⟨Sc.toScope⟩
def noPars (a : Arguments) : Bool := a.posonlyargs.isEmpty && (a.args.isEmpty && (a.vararg.isNone && (a.kwonlyargs.isEmpty && (a.kw_defaults.isEmpty && (a.kwarg.isNone && a.defaults.isEmpty)))))
def visB (sc : Scope) (x : Str) : Bool := match sc.names.lookup x with | some .local => true | some .cell => true | some .free => true | _ => false
def locB (sc : Scope) (x : Str) : Bool := match sc.names.lookup x with | some .local => true | some .cell => true | _ => false
def lclB (sc : Scope) (x : Str) : Bool := match sc.names.lookup x with | some .local => true | _ => false
def globB (sc : Scope) (x : Str) : Bool := match sc.names.lookup x with | some .globalImplicit => true | _ => false
def okN (x : Str) : Bool := !(x == ("__debug__" : Str)) && (!(x == ("__classdict__" : Str)) && !(x == ("__name__" : Str)))
def noStarB (es : List Expr) : Bool := es.all fun e => match e with | .Starred _ _ => false | _ => true
def biN : List Str := ["int", "max", "min", "len", "abs", "range", "repr", "isinstance", "all", "any", "tuple", "list", "sorted", "set", "dict", "enumerate", "zip", "str", "bool", "sum", "super", "bytes", "ValueError", "TypeError"]
def tyOfB (x : Str) : Bool := match bootBuiltins x with | some (.type _) => true | _ => false
def plainT : Expr → Bool
  | .UnaryOp .Not _ _ => false
  | .BoolOp _ _ _ => false
  | .IfExp _ _ _ _ => false
  | .Compare _ _ _ _ => false
  | _ => true
def notSet : Expr → Bool
  | .Set _ _ _ => false
  | _ => true
def isTup : Expr → Bool
  | .Tuple _ _ _ => true
  | _ => false
/-! a comprehension's target: names of its own -/
mutual
def chkTN (N : List Str) (scope : Scope) : Tg → Expr → Bool
  | .nm i, e' => (match e' with | .Name x _ => decide (N[i]? = some x) && locB scope x | _ => false)
  | .tup ts, e' => (match e' with | .Tuple es _ _ => noStarB es && (decide (es.length = ts.length) && chkTNs N scope ts es) | _ => false)
  | .sub _ _, _ => false
  | .att _ _, _ => false
def chkTNs (N : List Str) (scope : Scope) : List Tg → List Expr → Bool
  | [], [] => true
  | t :: ts, e :: es => chkTN N scope t e && chkTNs N scope ts es
  | _, _ => false
end
def ownOf (N : List Str) (t : Tg) : List (Str × Nat) := t.slots.map fun i => ((N[i]?).getD "", i)
/-- where set( ) stands inside -/
def setIn (n : Bn) (es : List Expr) : List Expr := if setB n = true then (match es with | [.Call _ es' _ _] => es' | _ => []) else es
def setOk (sc : Sc) (n : Bn) (es : List Expr) : Bool := !setB n || (match es with
  | [.Call (.Name y _) es' [] _] => decide (y = ("set" : Str)) && (globB sc y && (noStarB es' && !es'.isEmpty))
  | _ => false)
section
variable (G : Pg) (gfn : Str → Bool) (N : List Str)
mutual
def chkE : Sc → Ex → Expr → Bool
  | sc, .v i, e' => (match e' with | .Name x _ => decide (N[i]? = some x) && (visB sc x && okN x) | _ => false)
  | _, .int i, e' => (match e' with | .Constant (.int j) _ _ => decide (i = j) | _ => false)
  | _, .bl i, e' => (match e' with | .Constant (.bool j) _ _ => decide (i = j) | _ => false)
  | _, .str i, e' => (match e' with | .Constant (.str j) _ _ => decide (i = j) | _ => false)
  | _, .non, e' => (match e' with | .Constant .none _ _ => true | _ => false)
  | sc, .gc x, e' => (match e' with | .Name y _ => decide (x = y) && ((G.con x).isSome && (globB sc x && okN x)) | _ => false)
  | sc, .gcl C, e' => (match e' with | .Name y _ => decide (C.nm = y) && (G.has C && (globB sc y && okN y)) | _ => false)
  | sc, .gty x, e' => (match e' with | .Name y _ => decide (x = y) && (decide (x ∈ biN) && (tyOfB x && (globB sc x && okN x))) | _ => false)
  | sc, .bin op a b, e' => (match e' with | .BinOp a' op' b' _ => decide (op = op') && (chkE sc a a' && chkE sc b b') | _ => false)
  | sc, .neg a, e' => (match e' with | .UnaryOp .USub a' _ => chkE sc a a' | _ => false)
  | sc, .cmp op a b, e' => (match e' with | .Compare a' [op'] [b'] _ => decide (op = op') && (notSet b' && (chkE sc a a' && chkE sc b b')) | _ => false)
  | sc, .chn op op2 a b c, e' => (match e' with | .Compare a' [op', op2'] [b', c'] _ => decide (op = op') && (decide (op2 = op2') && (notSet c' && (chkE sc a a' && (chkE sc b b' && chkE sc c c')))) | _ => false)
  | sc, .and a b, e' => (match e' with
    | .BoolOp .And (a' :: b' :: r) pos => chkE sc a a' && (match r with | [] => chkE sc b b' | c' :: r' => chkE sc b (.BoolOp .And (b' :: c' :: r') pos))
    | _ => false)
  | sc, .or a b, e' => (match e' with
    | .BoolOp .Or (a' :: b' :: r) pos => chkE sc a a' && (match r with | [] => chkE sc b b' | c' :: r' => chkE sc b (.BoolOp .Or (b' :: c' :: r') pos))
    | _ => false)
  | sc, .nt a, e' => (match e' with | .UnaryOp .Not a' _ => chkE sc a a' | _ => false)
  | sc, .ite c a b, e' => (match e' with | .IfExp c' a' b' _ => chkE sc c c' && (chkE sc a a' && chkE sc b b') | _ => false)
  | sc, .tup es, e' => (match e' with | .Tuple es' _ _ => noStarB es' && chkL sc es es' | _ => false)
  | sc, .lst es, e' => (match e' with | .List es' _ => noStarB es' && chkL sc es es' | _ => false)
  | _, .dct ks vs, e' => (match ks, vs with
    | [], [] => (match e' with | .Dict [] [] _ => true | _ => false)
    | [.int i], [.int j] => (match e' with | .Dict [some (.Constant (.int i') _ _)] [.Constant (.int j') _ _] _ => decide (i = i') && decide (j = j') | _ => false)
    | _, _ => false)
  | sc, .sl a lo hi, e' => (match e' with | .Subscript a' (.Slice lo' hi' none _) _ => chkE sc a a' && (chkO sc lo lo' && chkO sc hi hi') | _ => false)
  | sc, .sub a i, e' => (match e' with | .Subscript a' i' _ => notSl i' && (chkE sc a a' && chkE sc i i') | _ => false)
  | sc, .rev a, e' => (match e' with | .Subscript a' (.Slice none none (some (.UnaryOp .USub (.Constant (.int i) _ _) _)) _) _ => decide (i = 1) && chkE sc a a' | _ => false)
  | sc, .att a f, e' => (match e' with | .Attribute a' f' _ => decide (f = f') && (notSuper a' && chkE sc a a') | _ => false)
  | sc, .cf x es ks kes, e' => (match e' with
    | .Call (.Name y _) es' kws _ => decide (x = y) && (globB sc x && (gfn x && ((G.fn x).isSome && (okN x && (noStarB es' && (decide (kws.map (·.arg) = ks.map some) && (chkL sc es es' && chkL sc kes (kws.map (·.value)))))))))
    | _ => false)
  | sc, .cb n es, e' => !cbOk n || (match e' with
    | .Call (.Name y _) es' [] _ => decide (bnN n = y) && (globB sc y && (okN y && (decide (y ∈ biN) && (noStarB es' && (!es'.isEmpty && (setOk sc n es' && chkL sc es (setIn n es')))))))
    | _ => false)
  | sc, .mk C es, e' => (match e' with
    | .Call (.Name y _) es' [] _ => decide (C.nm = y) && (G.has C && (globB sc y && (okN y && (noStarB es' && chkL sc es es'))))
    | _ => false)
  | sc, .met a m es, e' => (match e' with
    | .Call (.Attribute a' m' apos) es' [] pos => decide (m = m') && (notSuper a' && (noStarB es' && (decide (es'.length < 30) && ((apos.endLine == pos.line) && (chkE sc a a' && chkL sc es es')))))
    | _ => false)
  | sc, .bm a m es, e' => (match e' with
    | .Call (.Attribute a' m' apos) es' [] pos => (match bmN m with | some (n, _) => decide (n = m') | none => false) && (notSuper a' && (noStarB es' && (decide (es'.length < 30) && ((apos.endLine == pos.line) && (chkE sc a a' && chkL sc es es')))))
    | _ => false)
  | sc, .lc e tg it cs, e' => (match e' with
    | .ListComp e' [⟨tg', it', ifs', 0⟩] scope _ => chkTN N scope tg tg' && (blkC N sc scope (ownOf N tg) && (notSet it' && (chkI sc it tg' it' && (chkE ⟨relS scope sc, false⟩ e e' && chkC ⟨relS scope sc, false⟩ cs ifs'))))
    | _ => false)
  | sc, .fst es, e' => (match e' with | .JoinedStr es' _ => decide (2 ≤ es'.length) && chkF sc es es' | _ => false)
  | sc, .cel e, e' => plainT e' && chkE sc e e'
  | sc, .frz e, e' => plainT e' && chkE sc e e'
  | _, .star _, _ => true
  | sc, .said e, e' => (match e' with
    | .Call (.Name y _) [.Lambda pars bd scp _] [] _ => decide (y = ("_law_said" : Str)) && (sc.la && (globB sc y && (lamSB sc scp && (noPars pars && chkE ⟨scp, false⟩ e bd))))
    | _ => false)
  | sc, .call i es, e' => (match e' with
    | .Call (.Name x _) es' [] _ => decide (N[i]? = some x) && (visB sc x && (okN x && (noStarB es' && (!es'.isEmpty && chkL sc es es'))))
    | _ => false)
def chkL : Sc → List Ex → List Expr → Bool
  | _, [], [] => true
  | sc, e :: es, e' :: es' => chkE sc e e' && chkL sc es es'
  | _, _, _ => false
def chkO : Sc → Option Ex → Option Expr → Bool
  | _, none, none => true
  | sc, some e, some e' => chkE sc e e'
  | _, _, _ => false
def chkC : Sc → Option Ex → List Expr → Bool
  | _, none, [] => true
  | sc, some e, [e'] => chkE sc e e'
  | _, _, _ => false
def chkF : Sc → List Ex → List Expr → Bool
  | _, [], es' => (match es' with | [] => true | _ => false)
  | sc, e :: es, es' => (match es' with
    | .Constant (.str y) _ _ :: r => (match e with | .str x => decide (x = y) | _ => false) && chkF sc es r
    | .FormattedValue e' c none _ :: r => decide (c = -1) && (chkE sc e e' && chkF sc es r)
    | _ => false)
def chkI : Sc → It → Expr → Expr → Bool
  | sc, .ex e, _, e' => chkE sc e e'
  | sc, .rng es, _, e' => (match e' with
    | .Call (.Name y _) es' [] _ => decide (y = ("range" : Str)) && (globB sc y && (noStarB es' && ((decide (es'.length = 1) || decide (es'.length = 2)) && chkL sc es es')))
    | _ => false)
  | sc, .zip a b, tg, e' => (match e' with
    | .Call (.Name y _) [a', b'] [] _ => isTup tg && (decide (y = ("zip" : Str)) && (globB sc y && (noStarB [a', b'] && (chkE sc a a' && chkE sc b b'))))
    | _ => false)
  | sc, .enum a, tg, e' => (match e' with
    | .Call (.Name y _) [a'] [] _ => isTup tg && (decide (y = ("enumerate" : Str)) && (globB sc y && (noStarB [a'] && chkE sc a a')))
    | _ => false)
end
end
end Iv
namespace Iv
open PySem PySem.Spec PyProof.Rows L2 LamX
theorem noStar_of {es : List Expr} (h : noStarB es = true) : NoStar es := fun e he a p z => by
  have := List.all_eq_true.mp h e he
  rw [z] at this
  cases this
theorem vis_of {sc : Scope} {x : Str} (h : visB sc x = true) : Vis sc x := by
  unfold visB at h
  unfold Vis
  cases e : sc.names.lookup x with
  | none => rw [e] at h; cases h
  | some k => rw [e] at h; cases k <;> first | exact .inl rfl | exact .inr (.inl rfl) | exact .inr (.inr rfl) | cases h
theorem loc_of {sc : Scope} {x : Str} (h : locB sc x = true) : L2.Loc sc x := by
  unfold locB at h
  unfold L2.Loc
  cases e : sc.names.lookup x with
  | none => rw [e] at h; cases h
  | some k => rw [e] at h; cases k <;> first | exact .inl rfl | exact .inr rfl | cases h
theorem lcl_of {sc : Scope} {x : Str} (h : lclB sc x = true) : sc.names.lookup x = some .local := by
  unfold lclB at h
  cases e : sc.names.lookup x with
  | none => rw [e] at h; cases h
  | some k => rw [e] at h; cases k <;> first | rfl | cases h
theorem glob_of {sc : Scope} {x : Str} (h : globB sc x = true) : sc.names.lookup x = some .globalImplicit := by
  unfold globB at h
  cases e : sc.names.lookup x with
  | none => rw [e] at h; cases h
  | some k => rw [e] at h; cases k <;> first | rfl | cases h
theorem okN_of {x : Str} (h : okN x = true) : (x == ("__debug__" : Str)) = false ∧ (x == ("__classdict__" : Str)) = false ∧ x ≠ "__name__" := by
  unfold okN at h
  obtain ⟨h1, h⟩ := b2 h
  obtain ⟨h2, h3⟩ := b2 h
  refine ⟨by simpa using h1, by simpa using h2, fun z => ?_⟩
  subst z
  simp at h3
theorem Bi.none_of {mg : Str → Option Value} (B : Bi mg) {x : Str} (h : x ∈ biN) : mg x = none := by
  unfold biN at h
  simp only [List.mem_cons, List.not_mem_nil, or_false] at h
  rcases h with rfl | rfl | rfl | rfl | rfl | rfl | rfl | rfl | rfl | rfl | rfl | rfl | rfl | rfl | rfl | rfl | rfl | rfl | rfl | rfl | rfl | rfl | rfl | rfl
  · exact B.int
  · exact B.max
  · exact B.min
  · exact B.len
  · exact B.abs
  · exact B.range
  · exact B.repr
  · exact B.isinstance
  · exact B.all
  · exact B.any
  · exact B.tuple
  · exact B.list
  · exact B.sorted
  · exact B.set
  · exact B.dict
  · exact B.enumerate
  · exact B.zip
  · exact B.str
  · exact B.bool
  · exact B.sum
  · exact B.super
  · exact B.bytes
  · exact B.ValueError
  · exact B.TypeError
theorem boot_bn {n : Bn} (h : cbOk n = true) : bootBuiltins (bnN n) = some (bnV n) := by
  cases n <;> first | (unfold bnN bnV; decide +kernel) | (unfold bnN bnV; kernel_rfl) | cases h
theorem bnV_kind {n : Bn} : (∃ id, bnV n = .builtin id) ∨ ∃ t, bnV n = .type t := by
  cases n <;> first | exact .inl ⟨_, rfl⟩ | exact .inr ⟨_, rfl⟩
theorem notSet_fold {e : Expr} {env : PySem.Env} (h : notSet e = true) : ∀ x, foldedSetIterable e env x = pure x := fun x => by
  cases e with
  | Set a b c => cases h
  | _ => rfl
theorem notSet_marks {e : Expr} {op : CmpOp} (h : notSet e = true) : behindInMarks op e = false := by
  cases e with
  | Set a b c => cases h
  | _ => rfl
theorem plainT_of {e : Expr} {env : PySem.Env} (h : plainT e = true) : ∀ whole, isTrue e env whole = (do let v ← whole; standAt e.pos; holding [v] (truthy v)) := fun whole => by
  cases e with
  | UnaryOp op x p =>
    cases op with
    | Not => cases h
    | _ => rfl
  | BoolOp _ _ _ => cases h
  | IfExp _ _ _ _ => cases h
  | Compare _ _ _ _ => cases h
  | _ => rfl
def notComp : Expr → Bool
  | .ListComp _ _ _ _ => false
  | .SetComp _ _ _ _ => false
  | .DictComp _ _ _ _ _ => false
  | _ => true
theorem sw_plain {v : Expr} {o : Option Expr} {l : Nat} {env : PySem.Env} (h : notComp v = true) : swapsWith v o l env = pure false := by
  cases v <;> first | rfl | cases h
theorem sst_name {v : Expr} {x : Str} {p : Pos} {env : PySem.Env} : swappedStores [.Name x p] v env = pure none := rfl
theorem noStar_one {e : Expr} (h : ∀ a p, e ≠ .Starred a p) : NoStar [e] := fun x hx a p => by
  rcases List.mem_singleton.mp hx with rfl
  exact h a p
section
variable {X : Cx} {T : List (Addr × Str)} {bs : List Nat} {W : WX}
theorem JS.eq {g : Ga} {M : Me} {st : Stmt} {o o' : Out} (h : JS X T bs W g M st o) (q : o' = o) : JS X T bs W g M st o' := q ▸ h
end
end Iv
namespace Iv
open PySem PySem.Spec PyProof.Rows L2 LamX
/-! ## where an exception is handled -/
structure HCx (G : Pg) (fa : Str → Addr) (cf : Nat → Cf) (k : Nat) (T : List (Addr × Str)) (gfn : Str → Bool) (X : Cx) (sc : Scope) (N : List Str) (a : Addr) (dd : Option Addr) (C : Cn) : Prop where
  wl : Wld G fa cf k T X.prog X.w X.K X.mg X.base gfn
  sc : X.env.scope = sc
  n : X.N = N
  nd : X.N.Nodup
  un : X.A.units + 64 < cLine
  pin : ∃ oe, (a, oe) ∈ X.pn ∧ Zc (.ref (ca X.K C)) dd oe ∧ ∃ vs, oe.data = .fields vs
  hC : G.has C = true
  hX : C.isX = true
section
variable {G : Pg} {fa : Str → Addr} {cf : Nat → Cf} {k : Nat} {T : List (Addr × Str)} {gfn : Str → Bool} {X : Cx} {sc : Scope} {N : List Str} {a : Addr} {dd : Option Addr} {C : Cn} {bs : List Nat} {W : WX} {g : Ga} {M : Me} {fs : List (Str × D)}
theorem hot_inst (h : HCx G fa cf k T gfn X sc N a dd C) {pins : List (Addr × Obj)} {σ : L2.St} {H : Hp} {s : Shared} {A : Ad} {v : V} (I : Inv X pins σ H s) (r : Rp X.K A H v (.hot a dd fs)) : v = .ref a ∧ ∃ oe od, PySem.W.InstAt s.heap a oe (ca X.K C) od := by
  obtain ⟨oe, hp, z, vs, hd⟩ := h.pin
  have e := (I.pin (a, oe) (List.mem_append_left _ hp)).1
  have hn : PySem.W.notCls oe = true := by
    unfold PySem.W.notCls
    rw [hd] <;> rfl
  cases r with
  | hot0 => exact ⟨rfl, oe, none, e, z.1, hn, by rw [z.2]; trivial⟩
  | hot n hx rf =>
    obtain ⟨mA, hns, _⟩ := I.hok _ _ hx
    obtain ⟨od, ho, _⟩ := lookIn_ns hns
    exact ⟨rfl, oe, some od, e, z.1, hn, by rw [z.2]; exact ho⟩
theorem o_isH (h : HCx G fa cf k T gfn X sc N a dd C) {c : D} {b : Bool} (hk : (∃ C', c = .cl C' ∧ PySem.W.kitOne X.K (.ref (ca X.K C)) (.ref (ca X.K C')) = some b) ∨ (∃ t, c = .ty t ∧ PySem.W.kitOne X.K (.ref (ca X.K C)) (.type t) = some b)) : OpN X T bs W (fun us => PySem.call (.builtin "isinstance") us) [.hot a dd fs, c] M (.ok (.bl b) M) := by
  intro pins s σ g H A vs us Q I S p rv q
  obtain ⟨v, w, rfl, r1, r2⟩ := p.two
  obtain ⟨rfl, oe, od, J⟩ := hot_inst h I r1
  have E := h.wl.exk C h.hC h.hX
  match us, rv with
  | [u1, u2], .cons e1 (.cons e2 .nil) =>
    cases e1
    have fin : ∀ {cv : Value}, u2 = cv → PySem.W.kitOne X.K (.ref (ca X.K C)) cv = some b → wpAny (model X.prog X.w) X.A (PySem.call (.builtin "isinstance") [.ref a, u2]) (EP X pins σ Q) X.xe s := fun {cv} ec e => by
      subst ec
      exact PySem.W.kia_one (PySem.W.kitx_exc E.cl E.ga E.gg E.exC E.ca E.cn E.ct E.cm) I.kIn J e (fun z => nomatch z) fun tk => ⟨.bl b, H, I.kept (t' := tk) fun _ _ z => z, rfl, q.get S .bl⟩
    rcases hk with ⟨C', rfl, e⟩ | ⟨t, rfl, e⟩
    · cases r2
      exact fin e2 e
    · cases r2
      exact fin e2 e
/-- e.f -/
theorem je_hfld (h : HCx G fa cf k T gfn X sc N a dd C) {f : Str} {ns : List Str} {e : Expr} {pos : Pos} (hf : C.fldX = some ns) (hm : f ∈ ns) (he : JE X T bs W g M e (.ok (.hot a dd fs) M)) (hb : attributeBase e f X.env (eval e X.env) = eval e X.env) : JE X T bs W g M (.Attribute e f pos) (R.of M (fs.lookup f)) := je fun pins s σ H A Q I S q => by
  cases el : fs.lookup f with
  | none => rw [el] at q; exact q.no.elim
  | some d =>
    rw [el] at q
    refine attr_of hb (thn (he.go (Q := fun v H1 => ∃ A1, Ch A H A1 H1 ∧ Sta X.K T bs A1 M H1 σ g ∧ Rp X.K A1 H1 v (.hot a dd fs)) I S (.ok fun A' v H' c S' r => ⟨A', c, S', r⟩)) fun u s1 ⟨x, H1, I1, rx, A1, c1, S1, r1⟩ => ?_)
    have E := h.wl.exk C h.hC h.hX
    obtain ⟨fI, SC⟩ := (h.wl.exF C ns h.hC hf).sup
    obtain ⟨oe, hp, z, vs, hd⟩ := h.pin
    have e1 := (I1.pin (a, oe) (List.mem_append_left _ hp)).1
    cases r1 with
    | hot0 => cases el
    | hot n hx rf =>
      obtain rfl : u = Value.ref a := rx
      obtain ⟨v, lv, rv⟩ := rf.lookup el
      obtain ⟨mA, hns, hr⟩ := I1.hok _ _ hx
      obtain ⟨od, ho, hl⟩ := lookIn_ns hns
      obtain ⟨u, hu, ru⟩ := RelO.some_of (v := v) (o := mA f) (by rw [← lv]; exact hr f)
      have J : PySem.W.InstAt s1.heap a oe (ca X.K C) (some od) := ⟨e1, z.1, by unfold PySem.W.notCls; rw [hd] <;> rfl, by rw [z.2]; exact ho⟩
      exact HandSPX.exc_get I1.kIn J E.ga E.gg E.exC (PySem.W.findObj_own E.hdC (SC.noN f hm) rfl (by rw [hl, hu])) (handed_of ru) ⟨v, H1, I1.tok _, ru, q.get' c1 S1 rv⟩
end
end Iv
namespace Iv
open PySem PySem.Spec PyProof.Rows L2 LamX
/-! ## a small text for what is said of a handled exception -/
mutual
inductive Hx where
  | v (i : Nat) | str (x : Str) | isC (C : Cn) | isV | lst (es : List Hx) | cat (a b : Hx) | ix (a b : Hx) | tup (es : List Hx) | fld (f : Str) | word | ite (c : Ht) (a b : Hx)
inductive Ht where
  | eqS (a : Hx) (x : Str) | cnt (a : Hx) | nV | or (a b : Ht)
end
inductive Hs where
  | asg (i : Nat) (e : Hx) | ifs (c : Ht) (b : List Hs) | ret (e : Hx)
def ixB : List D → Option Nat
  | [] => none
  | .bl true :: _ => some 0
  | .bl false :: r => (ixB r).map (· + 1)
  | _ => none
section
variable (C : Cn) (fs : List (Str × D)) (w : Option Str)
mutual
def hev : Hx → Ga → Option D
  | .v i, g => g[i]?.bind id
  | .str x, _ => some (.str x)
  | .isC C', _ => some (.bl (C.sub C'))
  | .isV, _ => some (.bl true)
  | .lst es, g => (hevs es g).bind fun ds => if ds.length ≤ maxL then some (.lst ds) else none
  | .cat a b, g => (match hev a g, hev b g with | some (.lst xs), some (.lst ys) => if xs.length + ys.length ≤ maxL then some (.lst (xs ++ ys)) else none | _, _ => none)
  | .ix a b, g => (match hev a g, hev b g with | some (.lst xs), some (.lst ys) => if ys.all flatD = true then (firstI (.bl true) ys).bind fun j => xs[j]? else none | _, _ => none)
  | .tup es, g => (hevs es g).bind fun ds => if ds.length ≤ maxL then some (.tup ds) else none
  | .fld f, _ => fs.lookup f
  | .word, _ => w.map .str
  | .ite c a b, g => (match hte c g with | some true => hev a g | some false => hev b g | none => none)
def hevs : List Hx → Ga → Option (List D)
  | [], _ => some []
  | e :: es, g => (hev e g).bind fun d => (hevs es g).map (d :: ·)
def hte : Ht → Ga → Option Bool
  | .eqS a x, g => (match hev a g with | some (.str y) => if (SeqAt.shaped (.str y) = true ∧ SeqAt.shaped (.str x) = true) then some (PyData.eqv (.str y) (.str x)) else none | _ => none)
  | .cnt a, g => (match hev a g with | some (.lst xs) => if xs.all flatD = true then some (!decide ((xs.countP (fun z => eqF z (.bl true)) : Int) = 1)) else none | _ => none)
  | .nV, _ => some false
  | .or a b, g => (match hte a g with | some true => some true | some false => hte b g | none => none)
end
mutual
def hex (M : Me) : Hs → Ga → Out
  | .asg i e, g => (match hev C fs w e g with | some d => if i < g.length then .nx (g.set i (some d)) M else .no | none => .no)
  | .ifs c b, g => (match hte C fs w c g with | some true => hexs M b g | some false => .nx g M | none => .no)
  | .ret e, g => (match hev C fs w e g with | some d => .rt d M | none => .no)
def hexs (M : Me) : List Hs → Ga → Out
  | [], g => .nx g M
  | s :: r, g => (hex M s g).seq fun g M => hexs M r g
end
end
/-! ### the check -/
section
variable (G : Pg) (N : List Str) (sc : Scope) (ei : Nat)
def isExc (e : Expr) : Bool := match e with | .Name x _ => decide (N[ei]? = some x) && (visB sc x && okN x) | _ => false
def isCall (e : Expr) : Option (Expr × Expr) := match e with
  | .Call (.Name y _) [a, c] [] _ => if (decide (y = ("isinstance" : Str)) && globB sc y) = true then some (a, c) else none
  | _ => none
mutual
def chkHx : Hx → Expr → Bool
  | .v i, e' => (match e' with | .Name x _ => decide (N[i]? = some x) && (visB sc x && okN x) | _ => false)
  | .str i, e' => (match e' with | .Constant (.str j) _ _ => decide (i = j) | _ => false)
  | .isC C', e' => (match e' with
    | .Call (.Name y _) [a, c] [] _ => decide (y = ("isinstance" : Str)) && (globB sc y && (isExc N sc ei a && (match c with | .Name z _ => decide (C'.nm = z) && (G.has C' && (globB sc z && okN z)) | _ => false)))
    | _ => false)
  | .isV, e' => (match e' with
    | .Call (.Name y _) [a, c] [] _ => decide (y = ("isinstance" : Str)) && (globB sc y && (isExc N sc ei a && (match c with | .Name z _ => decide (("ValueError" : Str) = z) && globB sc z | _ => false)))
    | _ => false)
  | .lst es, e' => (match e' with | .List es' _ => noStarB es' && chkHs es es' | _ => false)
  | .cat a b, e' => (match e' with | .BinOp a' .Add b' _ => chkHx a a' && chkHx b b' | _ => false)
  | .ix a b, e' => (match e' with
    | .Subscript a' (.Call (.Attribute b' m apos) [.Constant (.bool t) _ _] [] pos) _ => decide (m = ("index" : Str)) && (t && (notSuper b' && ((apos.endLine == pos.line) && (chkHx a a' && chkHx b b'))))
    | _ => false)
  | .tup es, e' => (match e' with | .Tuple es' _ _ => noStarB es' && chkHs es es' | _ => false)
  | .fld f, e' => (match e' with | .Attribute a' f' _ => decide (f = f') && (isExc N sc ei a') | _ => false)
  | .word, e' => (match e' with | .Call (.Name y _) [a] [] _ => decide (y = ("_law_word" : Str)) && (globB sc y && isExc N sc ei a) | _ => false)
  | .ite c a b, e' => (match e' with | .IfExp c' a' b' _ => chkHt c c' && (chkHx a a' && chkHx b b') | _ => false)
def chkHs : List Hx → List Expr → Bool
  | [], es' => (match es' with | [] => true | _ => false)
  | e :: es, es' => (match es' with | e' :: r' => chkHx e e' && chkHs es r' | _ => false)
def chkHt : Ht → Expr → Bool
  | .eqS a x, e' => (match e' with | .Compare a' [.Eq] [.Constant (.str j) _ _] _ => decide (x = j) && chkHx a a' | _ => false)
  | .cnt a, e' => (match e' with
    | .Compare (.Call (.Attribute a' m apos) [.Constant (.bool t) _ _] [] pos) [.NotEq] [.Constant (.int j) _ _] _ => decide (m = ("count" : Str)) && (t && (decide (j = 1) && (notSuper a' && ((apos.endLine == pos.line) && chkHx a a'))))
    | _ => false)
  | .nV, e' => (match e' with
    | .UnaryOp .Not (.Call (.Name y _) [a, c] [] _) _ => decide (y = ("isinstance" : Str)) && (globB sc y && (isExc N sc ei a && (match c with | .Name z _ => decide (("ValueError" : Str) = z) && globB sc z | _ => false)))
    | _ => false)
  | .or a b, e' => (match e' with | .BoolOp .Or [a', b'] _ => chkHt a a' && chkHt b b' | _ => false)
end
mutual
def chkHS : Hs → Stmt → Bool
  | .asg i e, st => (match st with
    | .Assign [.Name x _] v _ => decide (N[i]? = some x) && (lclB sc x && (notComp v && chkHx G N sc ei e v))
    | _ => false)
  | .ifs c b, st => (match st with | .If c' b' [] _ => chkHt G N sc ei c c' && chkHB b b' | _ => false)
  | .ret e, st => (match st with | .Return (some v) _ => chkHx G N sc ei e v | _ => false)
def chkHB : List Hs → List Stmt → Bool
  | [], ss => (match ss with | [] => true | _ => false)
  | s :: r, ss => (match ss with | s' :: r' => chkHS s s' && chkHB r r' | _ => false)
end
end
/-! ### it runs so -/
section
variable {G : Pg} {fa : Str → Addr} {cf : Nat → Cf} {k : Nat} {T : List (Addr × Str)} {gfn : Str → Bool} {X : Cx} {sc : Scope} {N : List Str} {a : Addr} {dd : Option Addr} {C : Cn} {bs : List Nat} {W : WX} {fs : List (Str × D)} {w : Option Str} {ei : Nat}
theorem boot_isi : bootBuiltins ("isinstance" : Str) = some (.builtin "isinstance") := by kernel_rfl
theorem boot_VE : bootBuiltins ("ValueError" : Str) = some (.type "ValueError") := by kernel_rfl
theorem je_bltK {x : Str} {u : Value} {g : Ga} {M : Me} {e : Expr} {es : List Expr} {p pos : Pos} {ds : List D} {r : R D} (hg : Gl X x) (hm : X.mg x = none) (hv : bootBuiltins x = some u) (hu : (∃ id, u = .builtin id) ∨ ∃ t, u = .type t) (hs : NoStar (e :: es)) (hn : x ≠ "__name__") (hdb : (x == ("__debug__" : Str)) = false) (ha : JA X T bs W g M (e :: es) (.ok ds M)) (ho : OpN X T bs W (fun us => PySem.call u us) ds M r) :
    JE X T bs W g M (.Call (.Name x p) (e :: es) [] pos) r := je fun pins s σ H A Q I S k =>
  call_blt I hg hm hv hu hs hn hdb (thn (ha.go (pos := pos) (Q := fun vs H1 => ∃ A1, Ch A H A1 H1 ∧ Sta X.K T bs A1 M H1 σ g ∧ RpL X.K A1 H1 vs ds) I S (.ok fun A' v H' c S' r => ⟨A', c, S', r⟩)) fun us s1 ⟨xs, H1, I1, r, A1, c1, S1, p1⟩ => ho pins s1 σ g H1 A1 xs us Q I1 S1 p1 r (k.mono c1))
/-- the exception's name -/
theorem exc_je (h : HCx G fa cf k T gfn X sc N a dd C) {g : Ga} {M : Me} {e : Expr} (he : isExc N sc ei e = true) (hg : g[ei]?.bind id = some (.hot a dd fs)) : JE X T bs W g M e (.ok (.hot a dd fs) M) := by
  unfold isExc at he
  split at he
  · obtain ⟨h1, he⟩ := b2 he
    obtain ⟨h2, h3⟩ := b2 he
    obtain ⟨o1, o2, o3⟩ := okN_of h3
    have z := je_var (X := X) (T := T) (bs := bs) (W := W) (g := g) (M := M) (pos := ‹Pos›) (by rw [h.n]; exact of_decide_eq_true h1) (by rw [h.sc]; exact vis_of h2) o1 o2
    rw [hg] at z
    exact z
  · cases he
theorem is_je (h : HCx G fa cf k T gfn X sc N a dd C) {g : Ga} {M : Me} {e c : Expr} {p pos : Pos} {dc : D} {b : Bool} (hy : globB sc "isinstance" = true) (he : isExc N sc ei e = true) (hg : g[ei]?.bind id = some (.hot a dd fs)) (hc : ∀ M, JE X T bs W g M c (.ok dc M)) (hns : NoStar [e, c])
    (hk : (∃ C', dc = .cl C' ∧ PySem.W.kitOne X.K (.ref (ca X.K C)) (.ref (ca X.K C')) = some b) ∨ (∃ t, dc = .ty t ∧ PySem.W.kitOne X.K (.ref (ca X.K C)) (.type t) = some b)) : JE X T bs W g M (.Call (.Name "isinstance" p) [e, c] [] pos) (.ok (.bl b) M) := by
  have hgl : Gl X "isinstance" := by
    show X.env.scope.names.lookup _ = _
    rw [h.sc]
    exact glob_of hy
  have A := ja_cons (exc_je (T := T) (bs := bs) (W := W) (M := M) h he hg) (fun M1 => ja_cons (hc M1) (fun M2 => ja_nil) (star_cons hns.tail)) (star_cons hns)
  simp only [R.bind_ok] at A
  exact je_bltK hgl h.wl.bi.isinstance boot_isi (.inl ⟨_, rfl⟩) hns (by decide) (by decide) A (o_isH h hk)
theorem JE.to {g : Ga} {M : Me} {e : Expr} {d : D} {r : R D} (h : JE X T bs W g M e r) (q : r = .ok d M) : JE X T bs W g M e (.ok d M) := q ▸ h
theorem JT.to {g : Ga} {M : Me} {e : Expr} {z : Bool} {r : R Bool} (h : JT X T bs W g M e r) (q : r = .ok z M) : JT X T bs W g M e (.ok z M) := q ▸ h
/-- what the word's call comes to, where it is called -/
def WordJ (X : Cx) (T : List (Addr × Str)) (bs : List Nat) (W : WX) (N : List Str) (sc : Scope) (ei : Nat) (a : Addr) (dd : Option Addr) (fs : List (Str × D)) (x : Str) : Prop := ∀ (g : Ga) (M : Me) (e : Expr) (p pos : Pos), globB sc "_law_word" = true → isExc N sc ei e = true → g[ei]?.bind id = some (.hot a dd fs) → JE X T bs W g M (.Call (.Name "_law_word" p) [e] [] pos) (.ok (.str x) M)
theorem most_of : ∀ bs : List Nat, ∃ b, ∀ x ∈ bs, x ≤ b
  | [] => ⟨0, fun x hx => by cases hx⟩
  | y :: ys => by
    obtain ⟨b, h⟩ := most_of ys
    refine ⟨max y b, fun x hx => ?_⟩
    rcases List.mem_cons.mp hx with rfl | hx
    · exact Nat.le_max_left _ _
    · exact Nat.le_trans (h x hx) (Nat.le_max_right _ _)
theorem lm_je {bm : Bm} {nm : Str} {id : String} {g : Ga} {M : Me} {o e1 : Expr} {apos pos : Pos} {d d1 d2 : D} (hn : bmN bm = some (nm, id)) (ho : JE X T bs W g M o (.ok d M)) (h1 : ∀ M, JE X T bs W g M e1 (.ok d1 M)) (hs : notSuper o = true) (hns : NoStar [e1]) (hl : (apos.endLine == pos.line) = true) (hr : recvB M d bm = true) (hq : ∀ b, bmOp b bm d [d1] M = .ok d2 M) : JE X T bs W g M (.Call (.Attribute o nm apos) [e1] [] pos) (.ok d2 M) := by
  obtain ⟨b, hb⟩ := most_of bs
  have A := fun M1 => ja_cons (h1 M1) (fun M2 => ja_nil (X := X) (T := T) (bs := bs) (W := W) (g := g)) (star_cons hns)
  have z := je_bm (b := b) (apos := apos) (pos := pos) hb hn ho A hs hns (show 1 < 30 by decide) hl (fun z => nomatch z)
  refine z.to ?_
  rw [R.bind_ok, if_pos hr]
  simp only [R.bind_ok]
  exact hq b
theorem bl_ns {b : Bool} {j : Nat} {p : Pos} : NoStar [.Constant (.bool b) j p] := fun e he a q z => by
  have e1 : e = .Constant (.bool b) j p := by simpa using he
  rw [e1] at z
  cases z
theorem isV_je (h : HCx G fa cf k T gfn X sc N a dd C) {g : Ga} {M : Me} {e c : Expr} {p pos : Pos} (hy : globB sc "isinstance" = true) (he : isExc N sc ei e = true) (hg : g[ei]?.bind id = some (.hot a dd fs)) (hc : (match c with | .Name z _ => decide (("ValueError" : Str) = z) && globB sc z | _ => false) = true) : JE X T bs W g M (.Call (.Name "isinstance" p) [e, c] [] pos) (.ok (.bl true) M) := by
  split at hc
  · rename_i z q
    obtain ⟨h1, h2⟩ := b2 hc
    have e1 := of_decide_eq_true h1
    subst e1
    have hgl : Gl X "ValueError" := by
      show X.env.scope.names.lookup _ = _
      rw [h.sc]
      exact glob_of h2
    refine is_je h hy he hg (fun M => je_gty h.wl.bi.ValueError boot_VE hgl (by decide) (by decide)) (fun x hx a q z => ?_) (.inr ⟨_, rfl, h.wl.isV C h.hC h.hX⟩)
    rcases List.mem_cons.mp hx with rfl | hx
    · subst z
      cases he
    · have e1 := List.mem_singleton.mp hx
      rw [e1] at z
      cases z
  · cases hc
theorem isExc_ns {e : Expr} (he : isExc N sc ei e = true) : ∀ a p, e ≠ .Starred a p := fun a p z => by
  subst z
  cases he
theorem attrB {e : Expr} {f : Str} {env : PySem.Env} (he : isExc N sc ei e = true) : attributeBase e f env (eval e env) = eval e env := by
  unfold isExc at he
  split at he
  · rfl
  · cases he
section
variable (h : HCx G fa cf k T gfn X sc N a dd C) (hw : ∀ x, w = some x → WordJ X T bs W N sc ei a dd fs x) (hf : ∀ f d, fs.lookup f = some d → ∃ ns, C.fldX = some ns ∧ f ∈ ns)
include h hw hf
mutual
theorem hsnd : ∀ {m : Hx} {e : Expr} {g : Ga} {M : Me} {d : D}, chkHx G N sc ei m e = true → g[ei]?.bind id = some (.hot a dd fs) → hev C fs w m g = some d → JE X T bs W g M e (.ok d M)
  | .v i, e, g, M, d, hc, hg, hv => by
    unfold chkHx at hc
    split at hc
    · obtain ⟨h1, hc⟩ := b2 hc
      obtain ⟨h2, h3⟩ := b2 hc
      obtain ⟨o1, o2, o3⟩ := okN_of h3
      refine (je_var (by rw [h.n]; exact of_decide_eq_true h1) (by rw [h.sc]; exact vis_of h2) o1 o2).to ?_
      unfold hev at hv
      rw [hv]
      rfl
    · cases hc
  | .str x, e, g, M, d, hc, hg, hv => by
    unfold chkHx at hc
    split at hc
    · have e1 := of_decide_eq_true hc
      subst e1
      unfold hev at hv
      cases hv
      exact je_str
    · cases hc
  | .isC C', e, g, M, d, hc, hg, hv => by
    unfold chkHx at hc
    split at hc
    · rename_i y p a' c pos
      obtain ⟨h1, r1⟩ := b2 hc
      obtain ⟨h2, r2⟩ := b2 r1
      obtain ⟨h3, r3⟩ := b2 r2
      have e1 := of_decide_eq_true h1
      subst e1
      split at r3
      · rename_i z q
        obtain ⟨h4, r4⟩ := b2 r3
        obtain ⟨h5, r5⟩ := b2 r4
        obtain ⟨h6, h7⟩ := b2 r5
        have e2 := of_decide_eq_true h4
        subst e2
        unfold hev at hv
        cases hv
        have hgl : Gl X C'.nm := by
          show X.env.scope.names.lookup _ = _
          rw [h.sc]
          exact glob_of h6
        refine is_je h h2 h3 hg (fun M => je_gc (v := .ref (ca X.K C')) (h.wl.gcl C' h5).1 rfl hgl (fun _ _ => .cl) (okN_of h7).1) (fun x hx a q z => ?_) (.inl ⟨_, rfl, h.wl.isi (.c C) (.c C') (C.sub C') (by unfold isB; simp [h.hC, h5])⟩)
        rcases List.mem_cons.mp hx with rfl | hx
        · exact isExc_ns h3 _ _ z
        · have e1 := List.mem_singleton.mp hx
          rw [e1] at z
          cases z
      · cases r3
    · cases hc
  | .isV, e, g, M, d, hc, hg, hv => by
    unfold chkHx at hc
    split at hc
    · obtain ⟨h1, r1⟩ := b2 hc
      obtain ⟨h2, r2⟩ := b2 r1
      obtain ⟨h3, r3⟩ := b2 r2
      have e1 := of_decide_eq_true h1
      subst e1
      unfold hev at hv
      cases hv
      exact isV_je h h2 h3 hg r3
    · cases hc
  | .lst es, e, g, M, d, hc, hg, hv => by
    unfold chkHx at hc
    split at hc
    · obtain ⟨h1, h2⟩ := b2 hc
      unfold hev at hv
      cases q : hevs C fs w es g with
      | none => rw [q] at hv; cases hv
      | some ds =>
        rw [q] at hv
        have hv : (if ds.length ≤ maxL then some (D.lst ds) else none) = some d := hv
        by_cases hl : ds.length ≤ maxL
        · rw [if_pos hl] at hv
          cases hv
          refine (je_dat (jl_lst (hsnds h2 (noStar_of h1) hg q))).to ?_
          simp only [R.bind_ok, if_pos hl]
        · rw [if_neg hl] at hv
          cases hv
    · cases hc
  | .cat m1 m2, e, g, M, d, hc, hg, hv => by
    unfold chkHx at hc
    split at hc
    · obtain ⟨h1, h2⟩ := b2 hc
      unfold hev at hv
      split at hv
      · rename_i xs ys e1 e2
        by_cases hl : xs.length + ys.length ≤ maxL
        · rw [if_pos hl] at hv
          cases hv
          refine (je_dat (jl_cat (hsnd h1 hg e1) fun M1 => hsnd h2 hg e2)).to ?_
          simp only [R.bind_ok, lw, if_pos hl]
        · rw [if_neg hl] at hv
          cases hv
      · cases hv
    · cases hc
  | .ix m1 m2, e, g, M, d, hc, hg, hv => by
    unfold chkHx at hc
    split at hc
    · rename_i b' m apos tt p3 p4 pos p5
      obtain ⟨h1, r1⟩ := b2 hc
      obtain ⟨h2, r2⟩ := b2 r1
      obtain ⟨h3, r3⟩ := b2 r2
      obtain ⟨h4, r4⟩ := b2 r3
      obtain ⟨h5, h6⟩ := b2 r4
      have e0 := of_decide_eq_true h1
      subst e0
      have h2' : tt = true := h2
      subst h2'
      unfold hev at hv
      split at hv
      · rename_i xs ys e1 e2
        by_cases hl : ys.all flatD = true
        · rw [if_pos hl] at hv
          cases ej : firstI (.bl true) ys with
          | none => rw [ej] at hv; cases hv
          | some j =>
            rw [ej] at hv
            have hv : xs[j]? = some d := hv
            have I2 : ∀ M, JE X T bs W g M (.Call (.Attribute b' "index" apos) [.Constant (.bool true) p3 p4] [] pos) (.ok (.int (j : Nat)) M) := fun M => lm_je (bm := .index) (d1 := .bl true) rfl (hsnd (M := M) h6 hg e2) (fun M => je_bl) h3 bl_ns h4 rfl fun b => by
              have ef : flatL M (.lst ys) = some ys := by
                unfold flatL lv
                exact if_pos hl
              unfold bmOp
              simp only [ef, flatD, if_pos, ej]
            refine (je_sub (hsnd h5 hg e1) I2 (f := fun d1 d2 M2 => match ov M2 d1 with | some _ => .no | none => (match dv M2 d1 with | some _ => .no | none => subs G (cf 0) d1 d2 M2)) fun d1 d2 M2 => by
              cases e9 : ov M2 d1 with
              | some p => exact op2_no
              | none =>
                cases e8 : dv M2 d1 with
                | some p => exact op2_no
                | none => exact b_subsL (plainIx_of rfl) e9 e8).to ?_
            have z : atI xs (j : Int) = some d := by
              have hj := (List.getElem?_eq_some_iff.mp hv).1
              unfold atI ixN
              rw [if_pos (by omega), if_pos (by omega)]
              exact hv
            simp only [R.bind_ok, subs, ov, dv, lv, z]
            rfl
        · rw [if_neg hl] at hv
          cases hv
      · cases hv
    · cases hc
  | .tup es, e, g, M, d, hc, hg, hv => by
    unfold chkHx at hc
    split at hc
    · obtain ⟨h1, h2⟩ := b2 hc
      unfold hev at hv
      cases q : hevs C fs w es g with
      | none => rw [q] at hv; cases hv
      | some ds =>
        rw [q] at hv
        have hv : (if ds.length ≤ maxL then some (D.tup ds) else none) = some d := hv
        by_cases hl : ds.length ≤ maxL
        · rw [if_pos hl] at hv
          cases hv
          refine (je_tup (hsnds h2 (noStar_of h1) hg q)).to ?_
          simp only [R.bind_ok, if_pos hl]
        · rw [if_neg hl] at hv
          cases hv
    · cases hc
  | .fld f, e, g, M, d, hc, hg, hv => by
    unfold chkHx at hc
    split at hc
    · obtain ⟨h1, h2⟩ := b2 hc
      have e1 := of_decide_eq_true h1
      subst e1
      unfold hev at hv
      obtain ⟨ns, n1, n2⟩ := hf f d hv
      refine (je_hfld (fs := fs) h n1 n2 (exc_je h h2 hg) (attrB h2)).to ?_
      rw [hv]
      rfl
    · cases hc
  | .word, e, g, M, d, hc, hg, hv => by
    unfold chkHx at hc
    split at hc
    · obtain ⟨h1, hc⟩ := b2 hc
      obtain ⟨h2, h3⟩ := b2 hc
      have e1 := of_decide_eq_true h1
      subst e1
      unfold hev at hv
      cases q : w with
      | none => rw [q] at hv; cases hv
      | some x =>
        rw [q] at hv
        cases hv
        exact hw x q g M _ _ _ h2 h3 hg
    · cases hc
  | .ite c m1 m2, e, g, M, d, hc, hg, hv => by
    unfold chkHx at hc
    split at hc
    · obtain ⟨h1, hc⟩ := b2 hc
      obtain ⟨h2, h3⟩ := b2 hc
      unfold hev at hv
      split at hv
      · rename_i e1
        refine (je_ite (hsndT h1 hg e1) (rb := fun M1 => .ok d M1) (rb' := fun _ => .no) (fun M1 => hsnd h2 hg hv) fun M1 => je_no).to ?_
        rfl
      · rename_i e1
        refine (je_ite (hsndT h1 hg e1) (rb' := fun M1 => .ok d M1) (rb := fun _ => .no) (fun M1 => je_no) fun M1 => hsnd h3 hg hv).to ?_
        rfl
      · cases hv
    · cases hc
theorem hsnds : ∀ {ms : List Hx} {es : List Expr} {g : Ga} {M : Me} {ds : List D}, chkHs G N sc ei ms es = true → NoStar es → g[ei]?.bind id = some (.hot a dd fs) → hevs C fs w ms g = some ds → JA X T bs W g M es (.ok ds M)
  | [], es, g, M, ds, hc, ns, hg, hv => by
    unfold chkHs at hc
    split at hc
    · unfold hevs at hv
      cases hv
      exact ja_nil
    · cases hc
  | m :: ms, es, g, M, ds, hc, ns, hg, hv => by
    unfold chkHs at hc
    split at hc
    · obtain ⟨h1, h2⟩ := b2 hc
      unfold hevs at hv
      cases q : hev C fs w m g with
      | none => rw [q] at hv; cases hv
      | some d =>
        cases q2 : hevs C fs w ms g with
        | none => rw [q, q2] at hv; cases hv
        | some ds2 =>
          rw [q, q2] at hv
          cases hv
          exact ja_cons (hsnd h1 hg q) (rs := fun M1 => .ok ds2 M1) (fun M1 => hsnds h2 ns.tail hg q2) (star_cons ns)
    · cases hc
theorem hsndT : ∀ {m : Ht} {e : Expr} {g : Ga} {M : Me} {z : Bool}, chkHt G N sc ei m e = true → g[ei]?.bind id = some (.hot a dd fs) → hte C fs w m g = some z → JT X T bs W g M e (.ok z M)
  | .eqS m x, e, g, M, z, hc, hg, hv => by
    unfold chkHt at hc
    split at hc
    · obtain ⟨h1, h2⟩ := b2 hc
      have e1 := of_decide_eq_true h1
      subst e1
      unfold hte at hv
      split at hv
      · rename_i y e2
        by_cases hs : SeqAt.shaped (.str y) = true ∧ SeqAt.shaped (.str x) = true
        · rw [if_pos hs] at hv
          cases hv
          refine (jt_cmp (hsnd h2 hg e2) (fun M1 => je_str) (f := fun d1 d2 M2 => R.of M2 (eqP M2 d1 d2)) (fun d1 d2 M2 => ?_) rfl).to ?_
          · cases q : eqP M2 d1 d2 with
            | none => exact op2_no
            | some z => exact c_eqP0 h.un q
          · simp only [R.bind_ok]
            have z : eqP M (.str y) (.str x) = some (PyData.eqv (.str y) (.str x)) := if_pos hs
            rw [z]
            rfl
        · rw [if_neg hs] at hv
          cases hv
      · cases hv
    · cases hc
  | .cnt m, e, g, M, z, hc, hg, hv => by
    unfold chkHt at hc
    split at hc
    · rename_i a' mm apos tt p3 p4 pos j p5 p6 p7
      obtain ⟨h1, r1⟩ := b2 hc
      obtain ⟨h2, r2⟩ := b2 r1
      obtain ⟨h3, r3⟩ := b2 r2
      obtain ⟨h4, r4⟩ := b2 r3
      obtain ⟨h5, h6⟩ := b2 r4
      have e0 := of_decide_eq_true h1
      subst e0
      have h2' : tt = true := h2
      subst h2'
      have e3 := of_decide_eq_true h3
      subst e3
      unfold hte at hv
      split at hv
      · rename_i xs e1
        by_cases hl : xs.all flatD = true
        · rw [if_pos hl] at hv
          cases hv
          have I2 : JE X T bs W g M (.Call (.Attribute a' "count" apos) [.Constant (.bool true) p3 p4] [] pos) (.ok (.int (xs.countP (fun z => eqF z (.bl true)) : Nat)) M) := lm_je (bm := .count) (d1 := .bl true) rfl (hsnd (M := M) h6 hg e1) (fun M => je_bl) h4 bl_ns h5 rfl fun b => by
            have ef : flatL M (.lst xs) = some xs := by
              unfold flatL lv
              exact if_pos hl
            unfold bmOp
            simp only [ef, flatD, if_pos]
          refine (jt_cmp I2 (fun M1 => je_int) (f := fun d1 d2 M2 => match d1, d2 with | .int i, .int j => R.of M2 (intCmp .NotEq i j) | _, _ => .no) (fun d1 d2 M2 => ?_) rfl).to ?_
          · split
            · exact c_int
            · exact op2_no
          · simp only [R.bind_ok, intCmp]
            rfl
        · rw [if_neg hl] at hv
          cases hv
      · cases hv
    · cases hc
  | .nV, e, g, M, z, hc, hg, hv => by
    unfold chkHt at hc
    split at hc
    · obtain ⟨h1, r1⟩ := b2 hc
      obtain ⟨h2, r2⟩ := b2 r1
      obtain ⟨h3, r3⟩ := b2 r2
      have e1 := of_decide_eq_true h1
      subst e1
      unfold hte at hv
      cases hv
      exact (jt_not (jt_plain (isV_je h h2 h3 hg r3) (plainT_of rfl))).to rfl
    · cases hc
  | .or m1 m2, e, g, M, z, hc, hg, hv => by
    unfold chkHt at hc
    split at hc
    · obtain ⟨h1, h2⟩ := b2 hc
      unfold hte at hv
      split at hv
      · rename_i e1
        cases hv
        exact JT.to ((jw_or (hsndT h1 hg e1) (ru := fun _ => .no) fun M1 => ⟨fun _ _ _ _ _ _ _ ⟨_, _, k⟩ => k.no.elim⟩).pt) rfl
      · rename_i e1
        exact JT.to ((jw_or (hsndT h1 hg e1) (ru := fun M1 => .ok z M1) fun M1 => jw_or1 (hsndT h2 hg hv)).pt) rfl
      · cases hv
    · cases hc
end
end
end
end Iv
namespace Iv
open PySem PySem.Spec PyProof.Rows L2 LamX
section
variable {G : Pg} {fa : Str → Addr} {cf : Nat → Cf} {k : Nat} {T : List (Addr × Str)} {gfn : Str → Bool} {X : Cx} {sc : Scope} {N : List Str} {a : Addr} {dd : Option Addr} {C : Cn} {bs : List Nat} {W : WX} {fs : List (Str × D)} {w : Option Str} {ei : Nat}
theorem jb_cons' {g : Ga} {M : Me} {st : Stmt} {sts : List Stmt} {o : Out} {f : Ga → Me → Out} (h1 : JS X T bs W g M st o) (h2 : ∀ g' M', o = .nx g' M' → JB X T bs W g' M' sts (f g' M')) : JB X T bs W g M (st :: sts) (o.seq f) := by
  refine ⟨fun pins s σ H E I ⟨A, S, k⟩ => ?_⟩
  refine (pss_cons (u := fun E σ H => ∃ g' M', o = .nx g' M' ∧ tO X.K T bs W g' M' (f g' M') E σ H) h1 ⟨fun pins s σ H E I ⟨g', M', e, h⟩ => (h2 g' M' e).run pins s σ H E I h⟩).run pins s σ H E I ?_
  exact ⟨A, S, (kO.seq k).ends (fun σ' H' ⟨g', M', A', e, c, S', k'⟩ => ⟨g', M', e, A', S', k'⟩) (fun _ _ h => h) (fun _ _ h => h) fun _ _ h => h⟩
/-! nothing is stored over the exception -/
mutual
def keepsH (ei : Nat) : Hs → Bool
  | .asg i _ => decide (i ≠ ei)
  | .ifs _ b => keepsHs ei b
  | .ret _ => true
def keepsHs (ei : Nat) : List Hs → Bool
  | [] => true
  | s :: r => keepsH ei s && keepsHs ei r
end
mutual
theorem keeps_ok {M : Me} : ∀ {m : Hs} {g g' : Ga} {M' : Me}, keepsH ei m = true → hex C fs w M m g = .nx g' M' → g'[ei]? = g[ei]?
  | .asg i e, g, g', M', h, q => by
    unfold hex at q
    split at q
    · by_cases hl : i < g.length
      · rw [if_pos hl] at q
        cases q
        have ne : i ≠ ei := of_decide_eq_true h
        rw [List.getElem?_set_ne ne]
      · rw [if_neg hl] at q
        cases q
    · cases q
  | .ifs c b, g, g', M', h, q => by
    unfold hex at q
    unfold keepsH at h
    split at q
    · exact keeps_oks h q
    · cases q
      rfl
    · cases q
  | .ret e, g, g', M', h, q => by
    unfold hex at q
    split at q <;> cases q
theorem keeps_oks {M : Me} : ∀ {ms : List Hs} {g g' : Ga} {M' : Me}, keepsHs ei ms = true → hexs C fs w M ms g = .nx g' M' → g'[ei]? = g[ei]?
  | [], g, g', M', h, q => by
    unfold hexs at q
    cases q
    rfl
  | m :: ms, g, g', M', h, q => by
    unfold keepsHs at h
    obtain ⟨h1, h2⟩ := b2 h
    unfold hexs at q
    cases e : hex C fs w M m g with
    | nx g1 M1 =>
      rw [e] at q
      have z1 := keeps_ok h1 e
      have z2 := keeps_oks (M := M1) h2 (show hexs C fs w M1 ms g1 = .nx g' M' from q)
      rw [z2, z1]
    | _ => rw [e] at q; cases q
end
section
variable (h : HCx G fa cf k T gfn X sc N a dd C) (hw : ∀ x, w = some x → WordJ X T bs W N sc ei a dd fs x) (hf : ∀ f d, fs.lookup f = some d → ∃ ns, C.fldX = some ns ∧ f ∈ ns)
include h hw hf
mutual
theorem hsndS : ∀ {m : Hs} {st : Stmt} {g : Ga} {M : Me}, chkHS G N sc ei m st = true → keepsH ei m = true → g[ei]?.bind id = some (.hot a dd fs) → JS X T bs W g M st (hex C fs w M m g)
  | .asg i e, st, g, M, hc, hk, hg => by
    unfold chkHS at hc
    split at hc
    · rename_i x p v pos
      obtain ⟨h1, r1⟩ := b2 hc
      obtain ⟨h2, r2⟩ := b2 r1
      obtain ⟨h3, h4⟩ := b2 r2
      unfold hex
      split
      · rename_i d hd
        have hl : X.env.scope.names.lookup x = some .local := by
          rw [h.sc]
          exact lcl_of h2
        refine JS.eq (js_asg (f := fun d M1 => if i < g.length then .nx (g.set i (some d)) M1 else .no) (hsnd h hw hf h4 hg hd) (fun d M1 => jg_nm h.nd (by rw [h.n]; exact of_decide_eq_true h1) (.inl hl) (.inr hl)) (show swapsWith v (some (.Name x p)) pos.line X.env = pure false from sw_plain h3) sst_name (noStar_one fun _ _ z => nomatch z) fun d M1 => ?_) rfl
        by_cases q : i < g.length
        · rw [if_pos q]
          exact .inl ⟨_, _, rfl⟩
        · rw [if_neg q]
          exact .inr (.inr rfl)
      · exact js_no
    · cases hc
  | .ifs c b, st, g, M, hc, hk, hg => by
    unfold chkHS at hc
    unfold keepsH at hk
    split at hc
    · obtain ⟨h1, h2⟩ := b2 hc
      unfold hex
      split
      · rename_i e1
        exact JS.eq (js_if (f2 := fun _ => .no) (hsndT h hw hf h1 hg e1) (fun M1 => hsndB h2 hk hg) fun M1 => jb_no) rfl
      · rename_i e1
        exact JS.eq (js_if (f1 := fun _ => .no) (hsndT h hw hf h1 hg e1) (fun M1 => jb_no) fun M1 => jb_nil) rfl
      · exact js_no
    · cases hc
  | .ret e, st, g, M, hc, hk, hg => by
    unfold chkHS at hc
    split at hc
    · unfold hex
      split
      · rename_i d hd
        exact JS.eq (js_ret (hsnd h hw hf hc hg hd)) rfl
      · exact js_no
    · cases hc
theorem hsndB : ∀ {ms : List Hs} {sts : List Stmt} {g : Ga} {M : Me}, chkHB G N sc ei ms sts = true → keepsHs ei ms = true → g[ei]?.bind id = some (.hot a dd fs) → JB X T bs W g M sts (hexs C fs w M ms g)
  | [], sts, g, M, hc, hk, hg => by
    unfold chkHB at hc
    split at hc
    · unfold hexs
      exact jb_nil
    · cases hc
  | m :: ms, sts, g, M, hc, hk, hg => by
    unfold chkHB at hc
    unfold keepsHs at hk
    obtain ⟨k1, k2⟩ := b2 hk
    split at hc
    · obtain ⟨h1, h2⟩ := b2 hc
      unfold hexs
      exact jb_cons' (hsndS h1 k1 hg) fun g' M' e => hsndB h2 k2 (by rw [keeps_ok k1 e]; exact hg)
    · cases hc
end
end
end
end Iv
namespace Iv
open PySem PySem.Spec PyProof.Rows L2 LamX
/-! ## _law_word, called where the exception is handled -/
def wordT : List Hs := [.asg 1 (.lst [.isC .NotRow, .isC .NotTable, .isC .NotKey, .isC .NotKeys, .isC .NotRows, .isC .NotOrder]),
  .asg 1 (.cat (.v 1) (.lst [.isC .NotRule, .isC .NotInteger, .isC .NotScan, .isC .NotBound, .isC .NotFormula, .isC .NotDeed])),
  .asg 1 (.cat (.v 1) (.lst [.isC .NotText, .isC .NotBytes, .isC .NotLine, .isC .Missing, .isC .Impossible, .isC .TooLarge])),
  .asg 1 (.cat (.v 1) (.lst [.isC .NothingDone, .isC .Twice, .isC .Held, .isC .TooMany, .isC .Competing, .isC .Ringed, .isC .Collision])),
  .asg 2 (.lst [.str "row", .str "table", .str "key", .str "keys", .str "rows", .str "order", .str "rule", .str "integer", .str "scan", .str "bound", .str "formula", .str "deed", .str "text"]),
  .asg 2 (.cat (.v 2) (.lst [.str "bytes", .str "line", .str "missing", .str "impossible", .str "large", .str "nothing", .str "twice", .str "held", .str "many", .str "competing", .str "ringed", .str "collision"])),
  .ifs (.or (.cnt (.v 1)) .nV) [.ret (.str "other")],
  .ret (.ix (.v 2) (.v 1))]
theorem word_eq {C : Cn} {x : Str} {h : D} {fs : List (Str × D)} {M : Me} (e : C.word = some x) : hexs C fs none M wordT [some h, none, none] = .rt (.str x) M := by
  cases C <;> first | (cases e; rfl) | cases e
structure WordK (G : Pg) (K : PySem.W.Frag) (mg : Str → Option Value) : Prop where
  ex : ∃ (f : Addr) (oc : Value) (od : Option Addr) (osl : Array (Option Value)) (params : Arguments) (body : List Stmt) (scope : Scope) (N : List Str) (dV kV doc pm : Value) (an : Option Addr) (cdv ct : Value), mg "_law_word" = some (.ref f) ∧ PySem.W.keepIn K (.ref f) = true ∧ K.lookup f = some ⟨oc, od, .func (PySem.W.fnOf "_law_word" "_law_word" params body scope dV kV doc pm an cdv ct), osl⟩ ∧ PySem.W.codeIn K cdv "_law_word" = true ∧
    FnScope N ["_law_e"] scope ∧ N.length = 3 ∧ (∀ (s : Shared) (us : List Value), K.In s.heap → us.length = 1 → BindsTo s (PySem.W.fnOf "_law_word" "_law_word" params body scope dV kV doc pm an cdv ct) ⟨us, []⟩ ([("_law_e" : Str)].zip us)) ∧ chkHB G N scope 0 wordT body = true
section
variable {G : Pg} {fa : Str → Addr} {cf : Nat → Cf} {k : Nat} {T : List (Addr × Str)} {gfn : Str → Bool} {X : Cx} {sc : Scope} {N : List Str} {a : Addr} {dd : Option Addr} {C : Cn} {bs : List Nat} {W : WX} {fs : List (Str × D)} {ei : Nat}
theorem word_je {x : Str} (wk : WordK G X.K X.mg) (h : HCx G fa cf k T gfn X sc N a dd C) (hr : L2H.RoomH 2 X.A) (hx : C.word = some x) (hf : ∀ f d, fs.lookup f = some d → ∃ ns, C.fldX = some ns ∧ f ∈ ns) : WordJ X T bs W N sc ei a dd fs x := by
  intro g M e p pos hgl he hg
  obtain ⟨f, oc, od, osl, params, body, scope, Nw, dV, kV, doc, pm, an, cdv, ct, hm, hk, lk, hcd, FS, hN, hb, hc⟩ := wk.ex
  have ns : NoStar [e] := fun y hy q r z => isExc_ns he q r (by rw [← List.mem_singleton.mp hy]; exact z)
  have A := ja_cons (exc_je (T := T) (bs := bs) (W := W) (M := M) h he hg) (fun M1 => ja_nil) (star_cons ns)
  simp only [R.bind_ok] at A
  refine je fun pins s σ H Ad Q I S q => ?_
  refine wpAny_Call_Name_kw (ld_glob I (show X.env.scope.names.lookup _ = _ by rw [h.sc]; exact glob_of hgl) hm ?_ (by decide))
  refine PySem.W.callWith_K (h₀ := X.base) I.ok.mod.kin hk (thn (A.go (pos := pos) (Q := fun vs H1 => ∃ A1, Ch Ad H A1 H1 ∧ Sta X.K T bs A1 M H1 σ g ∧ RpL X.K A1 H1 vs [.hot a dd fs]) I S (.ok fun A' v H' c S' r => ⟨A', c, S', r⟩)) fun us s1 ⟨vs, H1, I1, r, A1, c1, S1, p1⟩ => ⟨I1.kIn, ?_⟩) (star_cons ns) rfl
  obtain ⟨v, rfl, rv⟩ := p1.one
  have ev : v = .ref a := by cases rv <;> rfl
  subst ev
  obtain ⟨u, rfl, ru⟩ := r.one
  obtain rfl : u = Value.ref a := ru
  obtain ⟨oe, hp, z, hd⟩ := h.pin
  have P1 := I1.pin (a, oe) (List.mem_append_left _ hp)
  have hpin : L2H.PinOk X.stack H1 s1 (a, oe) := ⟨P1.1, P1.2.1, fun hm => (List.mem_cons.mp (I1.stkSub a hm)).elim P1.2.2.1 P1.2.2.2.1, P1.2.2.2.2⟩
  have e0 := I1.env0
  have KX : X.K.In s1.heap := I1.kIn
  have lim : s1.heap.NoLimit := I1.nolimit
  have run : codeAny (model X.prog X.w) X.A (.call (.ref f) ⟨[.ref a], []⟩) (CR (L2.CX X.prog X.w) X.stack X.prog X.w H1 s1 Q (fun _ _ _ => False)) s1 := by
    have hkind : ∀ y ∈ ([("_law_e" : Str)].zip [Value.ref a]), scope.names.lookup y.1 = some .local ∨ (scope.names.lookup y.1 = some .cell ∧ ((cellsFrom (s1.heap.objs.size + 1) scope.names []).lookup y.1).isSome = true) := fun ⟨n, v⟩ hy => by
      rcases FS.par n (List.of_mem_zip hy).1 with q | q
      · exact .inl q
      · exact .inr ⟨q, PySem.W.cellsFrom_some _ _ _ (.inl q)⟩
    refine codeAny_call_function hr.depth (KX _ _ lk) rfl FS.co FS.gen rfl (PySem.W.codeRec_of KX hcd) (hb s1 [.ref a] KX rfl _ _ _ _ ?_)
    refine wpAny_newFunctionEnv_cells FS.kind hkind fun env he' s2 x2 => ?_
    subst he'
    refine ⟨lim.keeps x2.toInCall.keep, codeAny_func ?_⟩
    have hw : HCx G fa cf k T gfn (L2H.cxH (L2.CX X.prog X.w) X.prog X.w X.K X.mg X.base Nw "_law_word" scope f cdv X.A X.stack s1 H1 (fun _ _ _ => False) (a, oe)) scope Nw a dd C :=
      ⟨h.wl, rfl, rfl, FS.nd, by have := (hr.deeper (envOfC "_law_word" scope s1.heap.objs.size f cdv)).un; show (X.A.deeper _).units + 64 < cLine; omega, ⟨oe, List.mem_singleton.mpr rfl, z, hd⟩, h.hC, h.hX⟩
    have J := hsndB (T := T) (bs := bs) (W := fun _ _ _ _ => False) (w := none) (fs := fs) (ei := 0) (g := [some (.hot a dd fs), none, none]) (M := M) hw (fun _ z => nomatch z) hf hc rfl rfl
    rw [word_eq hx] at J
    have II : Inv (L2H.cxH (L2.CX X.prog X.w) X.prog X.w X.K X.mg X.base Nw "_law_word" scope f cdv X.A X.stack s1 H1 (fun _ _ _ => False) (a, oe)) [] (L2.start Nw [.ref a]) H1 s2 := L2H.inv_startH FS hpin e0 rfl (.cons rfl .nil) x2
    have S2 := start_ok (N := Nw) S1.bare (RpL.cons rv .nil)
    rw [show (([D.hot a dd fs].map some) ++ List.replicate (Nw.length - [D.hot a dd fs].length) none : Ga) = [some (.hot a dd fs), none, none] by rw [hN]; rfl] at S2
    refine wpAny_mono (J.run [] s2 (L2.start Nw [.ref a]) H1 { nx := fun _ H' => Q .non H', rt := Q } II ⟨A1, S2, .rt fun A' H' v c' S' r' => ?_⟩) (fun fl s' hs => ?_) fun e s' hs => hs
    · exact (q.mono c1).get' c' (S1.back c' S') r'
    · cases fl with
      | ret u =>
        obtain ⟨v, σ', H', J, rv, q⟩ := hs
        exact ⟨v, H', J.os, J.bare, J.base, J.hok, rv, q⟩
      | next =>
        obtain ⟨σ', H', J, q⟩ := hs
        exact ⟨V.non, H', J.os, J.bare, J.base, J.hok, rfl, q⟩
      | brk =>
        obtain ⟨_, _, _, q⟩ := hs
        exact q.elim
      | cont =>
        obtain ⟨_, _, _, q⟩ := hs
        exact q.elim
  refine wpAny_call (codeAny_mono run fun r s' hq => ?_)
  match r, hq with
  | .error e, hq =>
    obtain ⟨_, _, _, _, _, _, _, _, _, _, _, _, z⟩ := hq
    exact z.elim
  | .ok (.ret u), hq => exact I1.after hq
/-! ## _law_said(lambda: ..) -/
end
def handT : List Hs := [.asg 2 .word,
  .ifs (.or (.eqS (.v 2) "twice") (.eqS (.v 2) "held")) [.ret (.tup [.v 2, .fld "key"])],
  .ifs (.eqS (.v 2) "many") [.ret (.tup [.v 2, .fld "many", .fld "most"])],
  .ifs (.eqS (.v 2) "competing") [.ret (.tup [.v 2, .fld "pair"])],
  .ifs (.eqS (.v 2) "ringed") [.ret (.tup [.v 2, .fld "ring"])],
  .ret (.ite (.eqS (.v 2) "collision") (.tup [.v 2, .fld "row", .fld "holder"]) (.tup [.v 2]))]
theorem hand_eq {C : Cn} {x : Str} {h d : D} {fs : List (Str × D)} {M : Me} (e : C.word = some x) (q : saidD C fs = some d) : hexs C fs (some x) M handT [none, some h, none] = .rt d M := by
  unfold saidD at q
  rw [e] at q
  dsimp only at q
  cases ef : C.fldX with
  | none =>
    rw [ef] at q
    dsimp only at q
    by_cases hf : fs.isEmpty = true
    · rw [if_pos hf] at q
      cases q
      cases C <;> first | (cases ef; done) | (cases e; kernel_rfl) | cases e
    · rw [if_neg hf] at q
      cases q
  | some ns =>
    rw [ef] at q
    dsimp only at q
    by_cases hf : fs.map (·.1) = ns
    · rw [if_pos hf] at q
      cases q
      subst hf
      cases C <;> first | (cases ef; done) | skip
      all_goals
        cases e
        simp only [Cn.fldX, Option.some.injEq] at ef
      all_goals first
        | (obtain ⟨k1, d1, rfl⟩ : ∃ k1 d1, fs = [(k1, d1)] := by
            match fs, ef with
            | [(k1, d1)], _ => exact ⟨_, _, rfl⟩
           simp only [List.map_cons, List.map_nil, List.cons.injEq, and_true] at ef
           subst ef
           kernel_rfl)
        | (obtain ⟨k1, d1, k2, d2, rfl⟩ : ∃ k1 d1 k2 d2, fs = [(k1, d1), (k2, d2)] := by
            match fs, ef with
            | [(k1, d1), (k2, d2)], _ => exact ⟨_, _, _, _, rfl⟩
           simp only [List.map_cons, List.map_nil, List.cons.injEq, and_true] at ef
           obtain ⟨e1, e2⟩ := ef
           subst e1 e2
           kernel_rfl)
    · rw [if_neg hf] at q
      cases q
theorem said_flds {C : Cn} {fs : List (Str × D)} {d : D} (q : saidD C fs = some d) : (∃ x, C.word = some x) ∧ ∀ f e, fs.lookup f = some e → ∃ ns, C.fldX = some ns ∧ f ∈ ns := by
  unfold saidD at q
  cases e : C.word with
  | none => rw [e] at q; cases q
  | some x =>
    rw [e] at q
    dsimp only at q
    refine ⟨⟨x, rfl⟩, fun f e' hl => ?_⟩
    cases ef : C.fldX with
    | none =>
      rw [ef] at q
      dsimp only at q
      by_cases hf : fs.isEmpty = true
      · rw [List.isEmpty_iff.mp hf] at hl
        cases hl
      · rw [if_neg hf] at q
        cases q
    | some ns =>
      rw [ef] at q
      dsimp only at q
      by_cases hf : fs.map (·.1) = ns
      · refine ⟨ns, rfl, ?_⟩
        rw [← hf]
        exact List.mem_map.mpr ⟨_, PySem.mem_of_lookup hl, rfl⟩
      · rw [if_neg hf] at q
        cases q
def saidB (G : Pg) (N : List Str) (sc : Scope) (body : List Stmt) : Bool := match body with
  | [.Try [.Return (some (.Tuple [.Constant (.str r) _ _, .Call (.Name a _) [] [] _] _ _)) _] [.ExceptHandler (some (.Name x _)) (some n) (b₀ :: suite) _] [] [] _] =>
    decide (r = ("returned" : Str)) && (decide (a = ("_law_call" : Str)) && (decide (x = ("RowError" : Str)) && (decide (N = [("_law_call" : Str), n, "_law_word_here"] ∨ N = [("_law_call" : Str), n, "_law_told"]) && (visB sc ("_law_call" : Str) && (globB sc ("RowError" : Str) && (lclB sc n && (G.has .RowError && chkHB G N sc 1 handT (b₀ :: suite))))))))
  | _ => false
structure SaidK (G : Pg) (K : PySem.W.Frag) (mg : Str → Option Value) : Prop where
  word : WordK G K mg
  ex : ∃ (f : Addr) (oc : Value) (od : Option Addr) (osl : Array (Option Value)) (params : Arguments) (body : List Stmt) (scope : Scope) (N : List Str) (dV kV doc pm : Value) (an : Option Addr) (cdv ct : Value), mg "_law_said" = some (.ref f) ∧ PySem.W.keepIn K (.ref f) = true ∧ K.lookup f = some ⟨oc, od, .func (PySem.W.fnOf "_law_said" "_law_said" params body scope dV kV doc pm an cdv ct), osl⟩ ∧ PySem.W.codeIn K cdv "_law_said" = true ∧
    FnScope N ["_law_call"] scope ∧ L2.Binds K (PySem.W.fnOf "_law_said" "_law_said" params body scope dV kV doc pm an cdv ct) ["_law_call"] [] ∧ saidB G N scope body = true
/-- where a lambda can be made -/
structure LamC (G : Pg) (k : Nat) (T : List (Addr × Str)) (X : Cx) : Prop where
  room : Room (k + 4) X.A
  said : SaidK G X.K X.mg
  code : ∃ c P : Addr, X.env.code = .ref c ∧ TabB X.base X.mg c P ∧ (P, X.env.qual ++ "<lambda>") ∈ T ∧ ∀ p ∈ T, p.1 = P → p.2 = X.env.qual ++ "<lambda>"
section
variable {G : Pg} {fa : Str → Addr} {cf : Nat → Cf} {k : Nat} {T : List (Addr × Str)} {gfn : Str → Bool} {X : Cx} {bs : List Nat} {W : WX} {g : Ga} {M : Me} {r : R D}
/-- what the handler wants of an exception -/
def Ehd (G : Pg) (K : PySem.W.Frag) (T : List (Addr × Str)) (bs : List Nat) (Q : VK) : XK := fun cls d H => ∃ (C : Cn) (fs : List (Str × D)) (A : Ad) (M : Me) (dv : D), cls = .ref (ca K C) ∧ G.has C = true ∧ C.isX = true ∧ XOk K A H d fs ∧ Sta K T bs A M H [] [] ∧ saidD C fs = some dv ∧ kG K T bs (fun _ _ _ _ => False) [] (rE K) A H [] Q (.ok dv M)
def TTs (G : Pg) (K : PySem.W.Frag) (T : List (Addr × Str)) (bs : List Nat) : (XK → Hp → VK → Prop) → Hp → VK → Prop := fun tl H Q => tl (Ehd G K T bs Q) H (fun v H' => ([V.str "returned", v] : List V).length ≤ sizeLine ∧ ∀ p, H' p = none → Q (.ref p) (upd H' p (.tup [.str "returned", v])))
theorem said_gives (wl : Wld G fa cf k T X.prog X.w X.K X.mg X.base gfn) (wk : WordK G X.K X.mg) {N : List Str} {sc : Scope} {body : List Stmt} {gad : Addr} {cdv : Value} {q : Str} (hr : Room 4 X.A) (FS : FnScope N ["_law_call"] sc) (hb : saidB G N sc body = true) : GivesTo X N "_law_said" sc gad cdv body "_law_call" q (TTs G X.K T bs) := by
  intro f c' s H Q tl act hc h
  unfold saidB at hb
  split at hb
  · rename_i r p1 p2 aa p3 p4 p5 p6 p7 x p8 n b₀ suite p9 p10
    obtain ⟨h1, r1⟩ := b2 hb
    obtain ⟨h2, r2⟩ := b2 r1
    obtain ⟨h3, r3⟩ := b2 r2
    obtain ⟨h4, r4⟩ := b2 r3
    obtain ⟨h5, r5⟩ := b2 r4
    obtain ⟨h6, r6⟩ := b2 r5
    obtain ⟨h7, r7⟩ := b2 r6
    obtain ⟨h8, h9⟩ := b2 r7
    have e1 := of_decide_eq_true h1
    have e2 := of_decide_eq_true h2
    have e3 := of_decide_eq_true h3
    have e4 := of_decide_eq_true h4
    subst e1 e2 e3
    have hN3 : N.length = 3 := by rcases e4 with e | e <;> rw [e] <;> rfl
    have hN1 : N[1]? = some n := by rcases e4 with e | e <;> rw [e] <;> rfl
    have hln := lcl_of h7
    let Z := (cxOf C8.CX0 X.prog X.w X.K X.mg X.base N "_law_said" sc gad cdv X.A X.stack s H C8.E0).nox
    have hgl : Gl Z "RowError" := glob_of h6
    let ts : Addr → Value → Option Addr → TS := fun a cls d Dn σ H => ∃ (σ0 : L2.St) (C : Cn) (fs : List (Str × Iv.D)) (A : Ad) (M : Me) (dv : Iv.D), σ = σ0.set 1 (some (.ref a)) ∧ cls = .ref (ca X.K C) ∧ G.has C = true ∧ C.isX = true ∧ XOk X.K A H d fs ∧ Sta X.K T bs A M H [] [] ∧ saidD C fs = some dv ∧ kG X.K T bs (fun _ _ _ _ => False) [] (rE X.K) A H [] Dn.rt (.ok dv M)
    refine ⟨_, pss_one (ps_try_as (X := Z) (i := 1) (c := .ref (ca X.K .RowError)) (ts := ts) (Wout := fun _ _ _ _ => False)
      (tb := fun W D σ H => ∃ Ech : XK, (∀ cls d σ' H', Ech cls d H' → W cls d σ' H') ∧ σ[0]? = some (some (.ref f)) ∧ H c' = some (CodeO c' q) ∧ tl Ech H (fun v H' => ([V.str "returned", v] : List V).length ≤ sizeLine ∧ ∀ p, H' p = none → D.rt (.ref p) (upd H' p (.tup [.str "returned", v]))))
      rfl rfl FS.nd hN1 hln ⟨hgl, by decide, .inl (wl.gcl .RowError h8).1⟩ L2.takes0 (fun W pn xe tk _ => ?_) (fun a oe cls d pn hz hd => ?_)), ?_⟩
    · refine ⟨fun pins s' σ H' D I h' => ?_⟩
      obtain ⟨Ech, hW, z1, z2, z3⟩ := h'
      have hp := act W pn xe Ech p3 p4 tk hW
      have hq := pss_one (ps_ret (pos := p7) (pe_tup (x1 := p5) (pos := p6) (pa_cons (pe_str (x := ("returned" : Str)) (j := p1) (pos := p2)) (pa_cons hp pa_nil))))
      exact hq.run pins s' σ H' D I ⟨z1, z2, z3⟩
    · refine ⟨fun pins s' σ H' Dn I h' => ?_⟩
      obtain ⟨σ0, C, fs, A, M, dv, eσ, ec, hC, hX, xo, S, hs, kk⟩ := h'
      subst ec
      obtain ⟨⟨x, hx⟩, hf⟩ := said_flds hs
      have hl : σ.length = 3 := by
        have := I.len
        rw [this]
        exact hN3
      have hl0 : σ0.length = 3 := by rw [eσ, List.length_set] at hl; exact hl
      have rh : Rp X.K A H' (.ref a) (.hot a d fs) := by
        rcases xo with ⟨rfl, rfl⟩ | ⟨dd, fvs, rfl, o1, o2, o3⟩
        · exact .hot0
        · exact .hot o1 o2 o3
      have rr : L2H.RoomH 3 (Z.suite a ((a, oe) :: pn)).A := by
        have z := L2H.roomH_of (hr.deeper (envOfC "_law_said" sc s.heap.objs.size gad cdv))
        exact ⟨z.dp, z.un⟩
      have hh : HCx G fa cf k T gfn (Z.suite a ((a, oe) :: pn)) sc N a d C := ⟨wl, rfl, rfl, FS.nd, by have := rr.un; omega, ⟨oe, List.mem_cons_self, hz, hd⟩, hC, hX⟩
      have J := hsndB (T := T) (bs := bs) (W := fun _ _ _ _ => False) (w := some x) (fs := fs) (ei := 1) (g := [none, some (.hot a d fs), none]) (M := M) hh (fun y ey => by cases ey; exact word_je wk hh (rr.mono (by decide)) hx hf) hf h9 rfl rfl
      rw [hand_eq hx hs] at J
      refine J.run pins s' σ H' Dn I ⟨A, ?_, .rt fun A' H2 v c' S' r' => kk.get' c' S' r'⟩
      refine S.slots (by rw [hl]; rfl) fun i dd hi => ?_
      match i, hi with
      | 0, hi => cases hi
      | 1, hi =>
        cases hi
        exact ⟨.ref a, by rw [eσ, List.getElem?_set_self (by rw [hl0]; decide)], rh⟩
      | 2, hi => cases hi
      | n + 3, hi => cases hi
    · refine ⟨Ehd G X.K T bs Q, fun cls d σ' H' hE => ?_, ?_, hc, h⟩
      · obtain ⟨C, fs, A, M, dv, rfl, hC, hX, xo, S, hs, kk⟩ := hE
        exact ⟨true, wl.exm C hC hX h8, fun _ a ha => ⟨σ', C, fs, A, M, dv, rfl, rfl, hC, hX, xo, S, hs, kk⟩, fun z => nomatch z⟩
      · unfold L2.start
        rfl
  · cases hb
/-! ### a lambda made: a table grows, a code object is new, or nothing -/
inductive LamH (H : Hp) : Hp → Prop where
  | same : LamH H H
  | grow {P c : Addr} {ps ps' : Array Value} {q : Str} : H P = some (.tbl ps) → H c = none → LamH H (upd (upd H P (.tbl ps')) c (CodeO c q))
theorem LamH.get {H H1 : Hp} (l : LamH H H1) {b : Addr} {o : HO} (e : H b = some o) (n : ∀ ps, o ≠ .tbl ps) : H1 b = some o := by
  cases l with
  | same => exact e
  | grow hP hc => rw [upd_ne (ne_of_none e hc), upd_ne (fun z => n _ (Option.some.inj (e.symm.trans (by rw [z]; exact hP))))]; exact e
theorem LamH.tab {H H1 : Hp} (l : LamH H H1) {b : Addr} {ps : Array Value} (e : H b = some (.tbl ps)) : ∃ ps', H1 b = some (.tbl ps') := by
  cases l with
  | same => exact ⟨ps, e⟩
  | grow hP hc =>
    rename_i P c ps0 ps1 q
    by_cases hb : b = P
    · exact ⟨ps1, by rw [hb, upd_ne (ne_of_none hP hc), upd_same]⟩
    · exact ⟨ps, by rw [upd_ne (ne_of_none e hc), upd_ne hb]; exact e⟩
theorem LamH.ch {H H1 : Hp} (l : LamH H H1) {A : Ad} : Ch A H A H1 where
  pre := ⟨[], by simp⟩
  px := rfl
  keep := fun a o e _ st => l.get e fun ps z => by subst z; exact st
  dks := fun a kvs r _ => by
    rcases r with r | ⟨x, r⟩
    · exact .inl (l.get r fun ps z => nomatch z)
    · exact .inr ⟨x, l.get r fun ps z => nomatch z⟩
  frz := fun a o u e => l.get e fun ps z => nomatch z
  new := fun _ h => .inl h
  tbs := fun a ps e => l.tab e
theorem LamH.sta {K : PySem.W.Frag} {A : Ad} {M : Me} {H H1 : Hp} {σ : L2.St} {g : Ga} (l : LamH H H1) (hT : Tabs T H1) (S : Sta K T bs A M H σ g) : Sta K T bs A M H1 σ g where
  tabs := hT
  alen := S.alen
  bas := S.bas
  nd := S.nd
  prv := fun p hp => by
    obtain ⟨n, o, e⟩ := S.prv p hp
    refine ⟨n, ?_⟩
    by_cases ht : ∃ ps, o = .tbl ps
    · obtain ⟨ps, rfl⟩ := ht
      obtain ⟨ps', e'⟩ := l.tab e
      exact ⟨_, e'⟩
    · exact ⟨o, l.get e fun ps z => ht ⟨ps, z⟩⟩
  cell := fun k c hc => by
    obtain ⟨a, ha, q⟩ := S.cell k c hc
    refine ⟨a, ha, q.mono l.ch fun o e => ?_⟩
    obtain ⟨o', e', n, _⟩ := q.here
    rw [e] at e'
    cases e'
    exact l.get e n
  slen := S.slen
  slot := fun i d hd => by
    obtain ⟨v, hv, r⟩ := S.slot i d hd
    exact ⟨v, hv, r.mono l.ch⟩
theorem lam_make3 {pins : List (Addr × Obj)} {σ : L2.St} {H : Hp} {s : Shared} {cd Pt : Addr} {pars : Arguments} {bd : Expr} {scp : Scope} {ps : Pos} {E : Value → Shared → Prop} {Q : Value → Shared → Prop} (J : Inv X pins σ H s) (tb : TabB X.base X.mg cd Pt) (hcd : X.env.code = .ref cd)
    (hin : (Pt, X.env.qual ++ "<lambda>") ∈ T) (hun : ∀ p ∈ T, p.1 = Pt → p.2 = X.env.qual ++ "<lambda>") (hTs : Tabs T H) (hdf : defaultsOf pars X.env = ([], [])) (hfr : ∀ y ∈ scp.names, y.2 = .free → ∃ c, X.env.cells.lookup y.1 = some c)
    (fin : ∀ (f cn : Addr) (pm ctv : Value) (H1 : Hp) (s' : Shared), Inv X pins σ H1 s' → LamH H H1 → Tabs T H1 → s'.heap.get? f = some (PySem.W.kla_obj "<lambda>" (X.env.qual ++ "<lambda>") pars bd scp (cloFrom X.env.cells scp.names []) pm cn ctv) → H1 f = none → f ∉ frs X.stack → H1 cn = some (CodeO cn (X.env.qual ++ "<lambda>")) → Q (.ref f) s') :
    wpAny (model X.prog X.w) X.A (eval (.Lambda pars bd scp ps) X.env) Q E s := by
  obtain ⟨tv, eT, tri, known⟩ := hTs _ hin
  refine PySem.W.kla_eval hdf ?_
  have bAt : s.heap.BuiltinsAt X.mg Pt := tb.bm.keeps J.bk
  have gT : s.heap.get? Pt = some { cls := .none, data := .fields tv } := J.hok Pt _ eT
  have notFr : ∀ f, s.heap.objs.size ≤ f → f ∉ frs X.stack := fun f hf z => by
    rcases List.mem_cons.mp (J.stkSub _ z) with e | e
    · have lt := J.lt
      rw [← e] at lt
      exact absurd lt (Nat.not_lt.mpr hf)
    · exact J.nofs hf e
  cases am : codeAmong ps tv.toList with
  | some cv =>
    obtain ⟨cn, e, hco⟩ := known ps cv am
    subst e
    refine PySem.W.kla_makeFunctionHit (mg := X.mg) (c := cd) (P := Pt) (ps := tv) (closure_ok hfr) J.ok.glob (J.mod.glob.keeps J.bk) hcd (tb.code.keeps J.bk) gT tri am bAt fun ctv h' tk hx hsz => ?_
    have J1 : Inv X pins σ H { s with heap := h'.push (PySem.W.kla_obj "<lambda>" (X.env.qual ++ "<lambda>") pars bd scp (cloFrom X.env.cells scp.names []) ((X.mg "__name__").getD .none) cn ctv), toks := tk } := J.kept fun b o e => Heap.get?_push_of_some _ (hx b o e)
    exact fin h'.objs.size cn ((X.mg "__name__").getD .none) ctv H _ J1 .same hTs (Heap.get?_push_size _ rfl) (J.hok.fresh hsz) (notFr _ hsz) hco
  | none =>
    refine PySem.W.kla_makeFunction (mg := X.mg) (c := cd) (P := Pt) (ps := tv) (closure_ok hfr) J.ok.glob (J.mod.glob.keeps J.bk) hcd (tb.code.keeps J.bk) gT tri am tb.gP bAt fun cn ctv h' tk hx hge hlt hrec htb => ?_
    obtain ⟨c2, oc, vs, t, e2, hoc, hd, hv⟩ := hrec
    cases e2
    have big : s.heap.objs.size ≤ h'.objs.size := by omega
    have cnN : H cn = none := J.hok.fresh hge
    have J1 := inv_table (t' := tk) (more := #[rawInt ps.line, rawInt ps.col, .ref cn]) (h' := h'.push (PySem.W.kla_obj "<lambda>" (X.env.qual ++ "<lambda>") pars bd scp (cloFrom X.env.cells scp.names []) ((X.mg "__name__").getD .none) cn ctv)) J eT
      (fun b o hb e => Heap.get?_push_of_some _ (hx b o hb e)) (Heap.get?_push_of_some _ htb) hge ⟨oc, vs, t, Heap.get?_push_of_some _ hoc, hd, hv⟩
    have lh : LamH H (upd (upd H Pt (.tbl (tv ++ #[rawInt ps.line, rawInt ps.col, .ref cn]))) cn (CodeO cn (X.env.qual ++ "<lambda>"))) := .grow eT cnN
    have eL : (tv ++ #[rawInt ps.line, rawInt ps.col, .ref cn]).toList = tv.toList ++ [rawInt ps.line, rawInt ps.col, .ref cn] := by simp
    refine fin h'.objs.size cn ((X.mg "__name__").getD .none) ctv _ _ J1 lh (fun p hp => ?_) (Heap.get?_push_size _ rfl) ?_ (notFr _ big) upd_same
    · by_cases hb : p.1 = Pt
      · rw [hun p hp hb, hb]
        refine ⟨_, by rw [upd_ne (ne_of_none eT cnN), upd_same], by rw [eL]; exact PySem.TriplesOk_snoc _ _ _ _ tri, fun p' cv hcv => ?_⟩
        rw [eL] at hcv
        rcases among_app _ tri hcv with z | z
        · obtain ⟨c0, e1, e2⟩ := known p' cv z
          exact ⟨c0, e1, lh.get e2 codeO_ne⟩
        · exact ⟨cn, z, upd_same⟩
      · obtain ⟨tv', a1, a2, a3⟩ := hTs p hp
        refine ⟨tv', by rw [upd_ne (ne_of_none a1 cnN), upd_ne hb]; exact a1, a2, fun p' cv hcv => ?_⟩
        obtain ⟨c0, e1, e2⟩ := a3 p' cv hcv
        exact ⟨c0, e1, lh.get e2 codeO_ne⟩
    · have n1 : h'.objs.size ≠ cn := Nat.ne_of_gt hlt
      have n2 : h'.objs.size ≠ Pt := Nat.ne_of_gt (Nat.lt_of_lt_of_le (Heap.lt_size gT) big)
      rw [upd_ne n1, upd_ne n2]
      exact J.hok.fresh big
/-- the lambda is called: what is around it has the same guards -/
theorem pe_actG {pins : List (Addr × Obj)} {σ : L2.St} {H : Hp} {s : Shared} {CXz : CXT} {Ez : XK} {Nz : List Str} {qz : Str} {sz : Scope} {gz f cn : Addr} {cdz pm ctv : Value} {pars : Arguments} {bd : Expr} {scp : Scope} {k i : Nat} {x : Str} {pn : List (Addr × Obj)} {xe : Value → Shared → Prop} {W : WX} {E : XK} {tb : TE} {p1 p2 : Pos}
    (J : Inv X pins σ H s) (L : LamS X.env.scope scp) (hf : s.heap.get? f = some (PySem.W.kla_obj "<lambda>" (X.env.qual ++ "<lambda>") pars bd scp (cloFrom X.env.cells scp.names []) pm cn ctv)) (hfn : H f = none) (hfr : f ∉ frs X.stack)
    (hbd : bindArgs (PySem.W.kla_fn "<lambda>" (X.env.qual ++ "<lambda>") pars bd scp (cloFrom X.env.cells scp.names []) pm (.ref cn) ctv) ⟨[], []⟩ = pure [])
    (tk : Takes ((cxOf CXz X.prog X.w X.K X.mg X.base Nz qz sz gz cdz X.A X.stack s H Ez).tr pn xe) W) (hW : ∀ cls d σ' H', E cls d H' → W cls d σ' H') (rm : Room (k + 1) (X.A.deeper (envOfC qz sz s.heap.objs.size gz cdz)))
    (body : ∀ (A : Around) (outer : List PySem.Env) (s : Shared) (H : Hp), A.guards = X.A.guards → Room k (A.deeper (lamEnv X scp s.heap.objs.size f cn)) → PE (lamCx X A outer s H E scp f cn) bd tb)
    (hN : Nz[i]? = some x) (hv : Vis sz x) (hd : (x == ("__debug__" : Str)) = false) (hcd : (x == ("__classdict__" : Str)) = false) :
    PE ((cxOf CXz X.prog X.w X.K X.mg X.base Nz qz sz gz cdz X.A X.stack s H Ez).tr pn xe) (.Call (.Name x p1) [] [] p2)
      (fun τ HZ Q => τ[i]? = some (some (.ref f)) ∧ HZ cn = some (CodeO cn (X.env.qual ++ "<lambda>")) ∧ tb σ HZ Q) := by
  refine ⟨fun pz sZ τ HZ Q IZ ⟨hs, hc, ht⟩ => ?_⟩
  refine wpAny_Call_Name_kw (thn ((pe_var (pos := p1) (i := i) hN hv hd hcd).run pz sZ τ HZ (fun v H1 => v = .ref f ∧ H1 = HZ) IZ ⟨.ref f, hs, rfl, rfl⟩) fun u s1 ⟨v, H1, I1, r1, ev, eH⟩ => ?_)
  subst ev
  rw [eH] at I1
  obtain rfl : u = Value.ref f := r1
  have at1 := I1.base.keep f _ hf hfn hfr (fun z => nomatch (show f ∈ ([] : List Addr) from z))
  refine PySem.W.callWith_F0 ⟨_, _, _, _, at1⟩ ?_
  have grown : Un (frs X.stack) [] H HZ s.heap s1.heap := I1.base
  obtain ⟨⟨oc, vs, t, hoc, hdc, hvc⟩, _, _⟩ := I1.hok cn _ hc
  have run : codeAny (model X.prog X.w) (X.A.deeper (envOfC qz sz s.heap.objs.size gz cdz)) (.call (.ref f) ⟨[], []⟩) (CR (L2.CX X.prog X.w) (envOfC qz sz s.heap.objs.size gz cdz :: X.stack) X.prog X.w HZ s1 Q E) s1 := by
    refine PySem.W.kla_callFunE rm.depth at1 rfl L.co L.gen rfl ⟨cn, oc, vs, t, rfl, hoc, hdc, hvc⟩ ?_
    rw [hbd]
    refine wpAny_pure (wpAny_newFunctionEnv (fun y hy => (L.own y hy).2) (fun y hy => absurd hy (by simp)) (fun h₁ hns hsb => ⟨I1.nolimit.fresh _ hsb, ?_⟩) L.kind)
    show codeAny _ _ (.expr bd (lamEnv X scp s1.heap.objs.size f cn)) _ _
    have kp : ∀ b o, s1.heap.get? b = some o → h₁.get? b = some o := fun b o e => hsb.extBut b o (Nat.ne_of_lt (Heap.lt_size e)) (Heap.get?_push_of_some _ e)
    have J2 : Inv (lamCx X (X.A.deeper (envOfC qz sz s.heap.objs.size gz cdz)) (envOfC qz sz s.heap.objs.size gz cdz :: X.stack) s1 HZ E scp f cn) [] σ HZ { s1 with heap := h₁, toks := s1.toks + ([] : List (Str × Value)).length } := lam_start2 J L I1.env0 rm.hd grown hns kp
    refine PySem.W.kla_codeExpr (wpAny_mono ((body _ _ s1 HZ guards_deeper (rm.deeper _)).run [] _ _ HZ Q J2 ht) (fun v s' hq => ?_) fun e s' hq => hq)
    obtain ⟨w', H', J', rv, q⟩ := hq
    exact ⟨w', H', J'.os, J'.bare, J'.base, J'.hok, rv, q⟩
  have ps := L2.passes_call tk hW
  refine wpAny_call (codeAny_mono run fun r s' hq => ?_)
  match r, hq with
  | .error e, hq => exact ps pz τ HZ s1 e s' I1 hq
  | .ok (.ret u), hq => exact I1.after hq
/-- _law_said(lambda: body) -/
theorem je_said (c : Cxt G fa cf k T gfn X) (L : LamC G k T X) {pars : Arguments} {bd : Expr} {scp : Scope} {p lpos pos : Pos} (hg : Gl X "_law_said") (hl : LamS X.env.scope scp) (hdf : defaultsOf pars X.env = ([], [])) (hbind : ∀ (q : Str) (cl : List (Str × Addr)) (pm cv ctv : Value), bindArgs (PySem.W.kla_fn "<lambda>" q pars bd scp cl pm cv ctv) ⟨[], []⟩ = pure [])
    (hbody : ∀ (A : Around) (outer : List PySem.Env) (s : Shared) (H : Hp) (E : XK) (f c' : Addr), A.guards = X.A.guards → Room (k + 2) (A.deeper (lamEnv X scp s.heap.objs.size f c')) → JE (lamCx X A outer s H E scp f c') T bs (fun cls d _ H => E cls d H) g M bd r) :
    JE X T bs W g M (.Call (.Name "_law_said" p) [.Lambda pars bd scp lpos] [] pos) (saidR G r) := je fun pins s σ H A Q I S q => by
  obtain ⟨gad, oc, od, osl, pg, bg, sg, Ng, dV, kV, doc, pm, an, cdv, ct, hm, hk, lk, hcg, FS, hb, hsb⟩ := L.said.ex
  obtain ⟨cd, Pt, hcd, tb, hin, hun⟩ := L.code
  refine wpAny_Call_Name_kw (ld_glob I hg hm ?_ (by decide))
  refine PySem.W.callWith_K (h₀ := X.base) I.ok.mod.kin hk ?_ (by rfl) (by rfl)
  show wpAny _ _ (spliced ((false, eval (.Lambda pars bd scp lpos) X.env) :: backTo pos (starEach [] X.env))) _ _ s
  refine Calls.spliced_cons (lam_make3 I tb hcd hin hun S.tabs hdf (hl.has I.ok) fun f cn pm' ctv H1 s' I1 lh T1 hf hfn hfr hco => ?_)
  refine Calls.spliced_nil ⟨I1.kIn, ?_⟩
  have S1 := lh.sta T1 S
  have q1 := q.mono (lh.ch (A := A))
  have hva : Vis sg ("_law_call" : Str) := by
    rcases FS.par "_law_call" List.mem_cons_self with z | z
    · exact .inl z
    · exact .inr (.inl z)
  have hNg : Ng[0]? = some ("_law_call" : Str) := by
    have z := FS.pre
    match Ng, z with
    | n :: r, z =>
      have : n = "_law_call" := by simpa using z
      rw [this]
      rfl
    | [], z => cases z
  have kk : kG X.K T bs (fun cls d _ H => Ehd G X.K T bs Q cls d H) g (rE X.K) A H1 σ (fun v H' => ([V.str "returned", v] : List V).length ≤ sizeLine ∧ ∀ p, H' p = none → Q (.ref p) (upd H' p (.tup [.str "returned", v]))) r := by
    cases r with
    | no => exact q1.no.elim
    | ok d M1 =>
      refine .ok fun A' v H' c' S' r' => ⟨by show 2 ≤ sizeLine; decide, fun p hp => ?_⟩
      exact q1.get' (c'.trans (Ch.laid hp)) (S'.laid hp) (.tup (S'.fresh hp) upd_same (.cons .str (.cons (r'.mono (Ch.laid hp)) .nil)))
    | ex C fs M1 =>
      refine .ex fun A' H' dd c' S' x' => ?_
      unfold saidR at q1
      dsimp only at q1
      by_cases hh : (G.has C && C.isX) = true
      · rw [if_pos hh] at q1
        obtain ⟨h1, h2⟩ := b2 hh
        cases es : saidD C fs with
        | none => rw [es] at q1; exact q1.no.elim
        | some dv =>
          rw [es] at q1
          refine ⟨C, fs, A', M1, dv, rfl, h1, h2, x', S'.bare, es, .ok fun A2 v H2 c2 S2 r2 => ?_⟩
          exact (q1.mono c').get' c2 (S'.back c2 S2) r2
      · rw [if_neg hh] at q1
        exact q1.no.elim
  have rc : codeAny (model X.prog X.w) X.A (.call (.ref gad) ⟨[.ref f], []⟩) (CR C8.CX0 X.stack X.prog X.w H1 s' Q C8.E0) s' := by
    refine run_ofS (k := k + 3) (N := Ng) (ps := ["_law_call"]) (us := [.ref f]) (vs := [.ref f]) lk hcg FS L.room I1.env0 (hb s' [.ref f] I1.kIn rfl) (.cons rfl .nil) rfl fun hr' => ?_
    obtain ⟨t', ht', hq'⟩ := said_gives (X := X) (bs := bs) (q := X.env.qual ++ "<lambda>") (gad := gad) (cdv := cdv) c.wl L.said.word (L.room.mono (by omega)) FS hsb f cn s' H1 Q (fun E H' Q' => tR X.K T bs (fun cls d _ H => E cls d H) g M r σ H' Q')
      (fun W' pn xe E p1 p2 tk hW => pe_actG (k := k + 2) (i := 0) I1 hl hf hfn hfr (hbind _ _ _ _ _) tk hW hr' (fun A outer s H hG hr2 => hbody A outer s H E f cn hG hr2) hNg hva (by decide) (by decide)) hco ⟨A, S1, kk⟩
    exact ⟨t', ht'.nox, hq'⟩
  refine wpAny_call (codeAny_mono rc fun r s2 hq => ?_)
  match r, hq with
  | .error e, hq => exact (show False from hq).elim
  | .ok (.ret u), hq => exact I1.after hq
end
end Iv
namespace Iv
open PySem PySem.Spec PyProof.Rows L2 LamX
structure CxS (G : Pg) (k : Nat) (T : List (Addr × Str)) (X : Cx) (c : Sc) (N : List Str) : Prop where
  lam : c.la = true → LamC G k T X
  sc : X.env.scope = c.toScope
  n : X.N = N
theorem gl_of {G : Pg} {k : Nat} {T : List (Addr × Str)} {X : Cx} {sc : Sc} {N : List Str} {x : Str} (s : CxS G k T X sc N) (h : globB sc x = true) : Gl X x := by
  show X.env.scope.names.lookup x = _
  rw [s.sc]
  exact glob_of h
section
variable {G : Pg} {cf : Nat → Cf} {b : Nat} {g : Ga}
theorem evs_len : ∀ {es : List Ex} {M M1 : Me} {ds : List D}, evs G cf b es g M = .ok ds M1 → ds.length = es.length
  | [], _, _, _, h => by
    rw [evs] at h
    cases h
    rfl
  | e :: es, M, M1, ds, h => by
    rw [evs] at h
    cases e1 : ev G cf b e g M with
    | no => rw [e1] at h; cases h
    | ex C fs M2 => rw [e1] at h; cases h
    | ok d M2 =>
      rw [e1, R.bind_ok] at h
      cases e2 : evs G cf b es g M2 with
      | no => rw [e2] at h; cases h
      | ex C fs M3 => rw [e2] at h; cases h
      | ok ds3 M3 =>
        rw [e2] at h
        cases h
        rw [List.length_cons, List.length_cons, evs_len e2]
theorem bind_if {α β : Type} {r : R α} {p : Prop} [Decidable p] {f : α → Me → R β} : (r.bind fun a M => if p then f a M else .no) = (r.bind fun a M => if p then f a M else .no) := rfl
theorem lc_eq {ri : R (Wks)} {tl : Wks → Me → R (List D)} {α : Type} {f : List D → Me → R α} : (ri.bind fun wk M1 => (tl wk M1).bind fun ds M5 => if wk.1.length ≤ 50000 then .ok ds M5 else .no).bind f = ri.bind fun wk M1 => (tl wk M1).bind fun ds M5 => if wk.1.length ≤ 50000 then f ds M5 else .no := by
  cases ri with
  | no => rfl
  | ex C fs M1 => rfl
  | ok wk M1 =>
    rw [R.bind_ok, R.bind_ok]
    cases tl wk M1 with
    | no => rfl
    | ex C fs M2 => rfl
    | ok ds M2 =>
      rw [R.bind_ok, R.bind_ok]
      by_cases h : wk.1.length ≤ 50000
      · rw [if_pos h, if_pos h]
        rfl
      · rw [if_neg h, if_neg h]
        rfl
theorem len_eq {rs : R (List D)} {α : Type} {f : List D → Me → R α} : (rs.bind fun ds M1 => if ds.length ≤ maxL then .ok ds M1 else .no).bind f = rs.bind fun ds M1 => if ds.length ≤ maxL then f ds M1 else .no := by
  cases rs with
  | no => rfl
  | ex C fs M1 => rfl
  | ok ds M1 =>
    rw [R.bind_ok, R.bind_ok]
    by_cases h : ds.length ≤ maxL
    · rw [if_pos h, if_pos h]
      rfl
    · rw [if_neg h, if_neg h]
      rfl
end
/-! ## what is to be shown -/
section
variable (G : Pg) (fa : Str → Addr) (cf : Nat → Cf) (k : Nat) (gfn : Str → Bool) (T : List (Addr × Str)) (N : List Str)
structure S3 (X : Cx) (W : WX) (bs : List Nat) (b : Nat) (g : Ga) (M : Me) (e : Ex) (e' : Expr) : Prop where
  je : JE X T bs W g M e' (ev G cf b e g M)
  jt : JT X T bs W g M e' (truR (ev G cf b e g M))
  jn : JE X T bs W g M e' ((evN G cf b e g M).bind fun c M1 => .ok (.cel M1.length) (M1 ++ [c]))
def Snd (e : Ex) : Prop := ∀ (X : Cx) (sc : Sc) (W : WX) (bs : List Nat) (b : Nat) (g : Ga) (M : Me) (e' : Expr), Cxt G fa cf k T gfn X → CxS G k T X sc N → Takes X W → (∀ x ∈ bs, x ≤ b) → chkE G gfn N sc e e' = true → S3 G cf T X W bs b g M e e'
def SndL (es : List Ex) : Prop := ∀ (X : Cx) (sc : Sc) (W : WX) (bs : List Nat) (b : Nat) (g : Ga) (es' : List Expr), Cxt G fa cf k T gfn X → CxS G k T X sc N → Takes X W → (∀ x ∈ bs, x ≤ b) → chkL G gfn N sc es es' = true →
  es'.length = es.length ∧ (NoStar es' → ∀ M, JA X T bs W g M es' (evs G cf b es g M)) ∧ ∀ kws : List Keyword, kws.map (·.value) = es' → ∀ M, JK X T bs W g M kws (evs G cf b es g M)
end
section
variable {G : Pg} {fa : Str → Addr} {cf : Nat → Cf} {k : Nat} {gfn : Str → Bool} {T : List (Addr × Str)} {N : List Str} {X : Cx} {W : WX} {bs : List Nat} {b : Nat} {g : Ga} {M : Me} {e : Ex} {e' : Expr} {sc : Sc}
theorem S3.of (je : JE X T bs W g M e' (ev G cf b e g M)) (hp : plainT e' = true) (hn : evN G cf b e g M = .no) : S3 G cf T X W bs b g M e e' := ⟨je, jt_plain je (plainT_of hp), by rw [hn]; exact je_no⟩
theorem S3.no (h : ev G cf b e g M = .no) (hn : evN G cf b e g M = .no) : S3 G cf T X W bs b g M e e' := ⟨by rw [h]; exact je_no, by rw [h]; exact ⟨fun _ _ _ _ _ _ ⟨_, _, k⟩ => k.no.elim⟩, by rw [hn]; exact je_no⟩
theorem snd_int {i : Int} : Snd G fa cf k gfn T N (.int i) := fun X sc W bs b g M e' c s tk hb h => by
  unfold chkE at h
  split at h
  · have e := of_decide_eq_true h
    subst e
    refine S3.of ?_ rfl (by simp only [evN])
    rw [ev]
    exact je_int
  · cases h
theorem snd_bl {i : Bool} : Snd G fa cf k gfn T N (.bl i) := fun X sc W bs b g M e' c s tk hb h => by
  unfold chkE at h
  split at h
  · have e := of_decide_eq_true h
    subst e
    refine S3.of ?_ rfl (by simp only [evN])
    rw [ev]
    exact je_bl
  · cases h
theorem snd_str {i : Str} : Snd G fa cf k gfn T N (.str i) := fun X sc W bs b g M e' c s tk hb h => by
  unfold chkE at h
  split at h
  · have e := of_decide_eq_true h
    subst e
    refine S3.of ?_ rfl (by simp only [evN])
    rw [ev]
    exact je_str
  · cases h
theorem snd_non : Snd G fa cf k gfn T N .non := fun X sc W bs b g M e' c s tk hb h => by
  unfold chkE at h
  split at h
  · refine S3.of ?_ rfl (by simp only [evN])
    rw [ev]
    exact je_non
  · cases h
theorem snd_gc {x : Str} : Snd G fa cf k gfn T N (.gc x) := fun X sc W bs b g M e' c s tk hb h => by
  unfold chkE at h
  split at h
  · obtain ⟨h1, h⟩ := b2 h
    obtain ⟨h2, h⟩ := b2 h
    obtain ⟨h3, h4⟩ := b2 h
    have e := of_decide_eq_true h1
    subst e
    obtain ⟨d, hd⟩ := Option.isSome_iff_exists.mp h2
    obtain ⟨v, u, m1, m2, m3⟩ := c.wl.con x d hd
    refine S3.of ?_ rfl (by simp only [evN])
    rw [ev, hd]
    exact je_gc m1 m2 (gl_of s h3) m3 (okN_of h4).1
  · cases h
theorem snd_gcl {C : Cn} : Snd G fa cf k gfn T N (.gcl C) := fun X sc W bs b g M e' c s tk hb h => by
  unfold chkE at h
  split at h
  · obtain ⟨h1, h⟩ := b2 h
    obtain ⟨h2, h⟩ := b2 h
    obtain ⟨h3, h4⟩ := b2 h
    have e := of_decide_eq_true h1
    subst e
    refine S3.of ?_ rfl (by simp only [evN])
    rw [ev]
    exact je_gc (v := .ref (ca X.K C)) (c.wl.gcl C h2).1 rfl (gl_of s h3) (fun _ _ => .cl) (okN_of h4).1
  · cases h
theorem snd_gty {x : Str} : Snd G fa cf k gfn T N (.gty x) := fun X sc W bs b g M e' c s tk hb h => by
  unfold chkE at h
  split at h
  · obtain ⟨h1, h⟩ := b2 h
    obtain ⟨h2, h⟩ := b2 h
    obtain ⟨h3, h⟩ := b2 h
    obtain ⟨h4, h5⟩ := b2 h
    have e := of_decide_eq_true h1
    subst e
    obtain ⟨o1, o2, o3⟩ := okN_of h5
    refine S3.of ?_ rfl (by simp only [evN])
    rw [ev]
    unfold tyOfB at h3
    split at h3
    · rename_i n hn
      rw [hn]
      exact je_gty (c.wl.bi.none_of (of_decide_eq_true h2)) hn (gl_of s h4) o3 o1
    · cases h3
  · cases h
theorem snd_v {i : Nat} : Snd G fa cf k gfn T N (.v i) := fun X sc W bs b g M e' c s tk hb h => by
  unfold chkE at h
  split at h
  · rename_i x p
    obtain ⟨h1, h2⟩ := b2 h
    obtain ⟨h2, h3⟩ := b2 h2
    obtain ⟨o1, o2, o3⟩ := okN_of h3
    refine S3.of ?_ rfl (by simp only [evN])
    rw [ev]
    exact je_var (by rw [s.n]; exact of_decide_eq_true h1) (by rw [s.sc]; exact vis_of h2) o1 o2
  · cases h
end
end Iv
namespace Iv
open PySem PySem.Spec PyProof.Rows L2 LamX
section
variable {G : Pg} {fa : Str → Addr} {cf : Nat → Cf} {k : Nat} {gfn : Str → Bool} {T : List (Addr × Str)} {N : List Str} {a b c : Ex} {es kes : List Ex}
theorem evN_bin {b' : Nat} {g : Ga} {M : Me} {op : Operator} (h : op ≠ .Add) : evN G cf b' (.bin op a b) g M = .no := by
  cases op <;> first | exact absurd rfl h | simp only [evN]
theorem cat_eq {ra : R D} {rb : Me → R D} : (ra.bind fun d1 M1 => (rb M1).bind fun d2 M2 => match lw M2 d1, lw M2 d2 with | some xs, some ys => if xs.length + ys.length ≤ maxL then R.ok (xs ++ ys) M2 else .no | _, _ => .no).bind (fun ds M1 => R.ok (D.cel M1.length) (M1 ++ [Ce.lst ds]))
    = (ra.bind fun d1 M1 => (rb M1).bind fun d2 M2 => match lw M2 d1, lw M2 d2 with | some xs, some ys => if xs.length + ys.length ≤ maxL then R.ok (Ce.lst (xs ++ ys)) M2 else .no | _, _ => .no).bind (fun c M1 => R.ok (D.cel M1.length) (M1 ++ [c])) := by
  cases ra with
  | no => rfl
  | ex C fs M1 => rfl
  | ok d1 M1 =>
    rw [R.bind_ok, R.bind_ok]
    cases rb M1 with
    | no => rfl
    | ex C fs M2 => rfl
    | ok d2 M2 =>
      rw [R.bind_ok, R.bind_ok]
      cases lw M2 d1 with
      | none => rfl
      | some xs =>
        cases lw M2 d2 with
        | none => rfl
        | some ys =>
          dsimp only
          by_cases h : xs.length + ys.length ≤ maxL
          · rw [if_pos h, if_pos h]
            rfl
          · rw [if_neg h, if_neg h]
            rfl
theorem JE.eq {X : Cx} {W : WX} {bs : List Nat} {g : Ga} {M : Me} {e : Expr} {r r' : R D} (h : JE X T bs W g M e r) (q : r = r') : JE X T bs W g M e r' := q ▸ h
theorem JT.eq {X : Cx} {W : WX} {bs : List Nat} {g : Ga} {M : Me} {e : Expr} {r r' : R Bool} (h : JT X T bs W g M e r) (q : r' = r) : JT X T bs W g M e r' := q ▸ h
theorem snd_bin {op : Operator} (ha : Snd G fa cf k gfn T N a) (hb : Snd G fa cf k gfn T N b) : Snd G fa cf k gfn T N (.bin op a b) := fun X sc W bs n g M e' c s tk hbs h => by
  unfold chkE at h
  split at h
  · rename_i a' op' b' pos
    obtain ⟨h1, h⟩ := b2 h
    obtain ⟨h2, h3⟩ := b2 h
    have e := of_decide_eq_true h1
    subst e
    have A := ha X sc W bs n g M _ c s tk hbs h2
    have B := fun M1 => hb X sc W bs n g M1 _ c s tk hbs h3
    have je : JE X T bs W g M (.BinOp a' op b' pos) (ev G cf n (.bin op a b) g M) := by
      rw [ev]
      exact je_bin A.je (fun M1 => (B M1).je) fun d1 d2 M2 => b_bin c tk hbs
    refine ⟨je, jt_plain je (plainT_of rfl), ?_⟩
    by_cases ho : op = .Add
    · subst ho
      have z := je_cel (jl_cat (pos := pos) A.je (fun M1 => (B M1).je))
      rw [evN]
      exact JE.eq z cat_eq
    · rw [evN_bin ho]
      exact je_no
  · cases h
theorem snd_neg (ha : Snd G fa cf k gfn T N a) : Snd G fa cf k gfn T N (.neg a) := fun X sc W bs n g M e' c s tk hbs h => by
  unfold chkE at h
  split at h
  · refine S3.of ?_ rfl (by simp only [evN])
    rw [ev]
    exact je_un (ha X sc W bs n g M _ c s tk hbs h).je fun d1 M1 => b_neg c tk hbs
  · cases h
theorem snd_cmp {op : CmpOp} (ha : Snd G fa cf k gfn T N a) (hb : Snd G fa cf k gfn T N b) : Snd G fa cf k gfn T N (.cmp op a b) := fun X sc W bs n g M e' c s tk hbs h => by
  unfold chkE at h
  split at h
  · obtain ⟨h1, h⟩ := b2 h
    obtain ⟨h0, h⟩ := b2 h
    obtain ⟨h2, h3⟩ := b2 h
    have e := of_decide_eq_true h1
    subst e
    have A := ha X sc W bs n g M _ c s tk hbs h2
    have B := fun M1 => hb X sc W bs n g M1 _ c s tk hbs h3
    refine ⟨?_, ?_, by rw [show evN G cf n (.cmp op a b) g M = .no by simp only [evN]]; exact je_no⟩
    · rw [ev]
      exact je_cmp A.je (fun M1 => (B M1).je) (fun d1 d2 M2 => b_cmp c tk hbs) (notSet_marks h0)
    · rw [ev]
      exact JT.eq (jt_cmp A.je (fun M1 => (B M1).je) (fun d1 d2 M2 => b_cmp c tk hbs) (notSet_marks h0)) truR_cmp
  · cases h
theorem snd_chn {op op2 : CmpOp} (ha : Snd G fa cf k gfn T N a) (hb : Snd G fa cf k gfn T N b) (hc : Snd G fa cf k gfn T N c) : Snd G fa cf k gfn T N (.chn op op2 a b c) := fun X sc W bs n g M e' cx s tk hbs h => by
  unfold chkE at h
  split at h
  · obtain ⟨h1, h⟩ := b2 h
    obtain ⟨h1', h⟩ := b2 h
    obtain ⟨h0, h⟩ := b2 h
    obtain ⟨h2, h⟩ := b2 h
    obtain ⟨h3, h4⟩ := b2 h
    have e := of_decide_eq_true h1
    subst e
    have e := of_decide_eq_true h1'
    subst e
    have A := ha X sc W bs n g M _ cx s tk hbs h2
    have B := fun M1 => hb X sc W bs n g M1 _ cx s tk hbs h3
    have C := fun M1 => hc X sc W bs n g M1 _ cx s tk hbs h4
    refine ⟨?_, ?_, by rw [show evN G cf n (.chn op op2 a b c) g M = .no by simp only [evN]]; exact je_no⟩
    · rw [ev]
      exact je_chn A.je (fun M1 => (B M1).je) (fun M1 => (C M1).je) (fun d1 d2 M2 => b_cmp cx tk hbs) (fun d1 d2 M2 => b_cmp cx tk hbs) (notSet_marks h0)
    · rw [ev]
      exact JT.eq (jt_chn A.je (fun M1 => (B M1).je) (fun M1 => (C M1).je) (fun d1 d2 M2 => b_cmp cx tk hbs) (fun d1 d2 M2 => b_cmp cx tk hbs) (notSet_marks h0)) truR_chn
  · cases h
theorem jw_bool {X : Cx} {W : WX} {bs : List Nat} {g : Ga} {M : Me} {op : BoolOp} {es : List Expr} {pos : Pos} {r : R Bool} (h : JT X T bs W g M (.BoolOp op es pos) r) : JW X T bs W g M (.BoolOp op es pos) r := ⟨fun wh pins s σ H Q I q => h.run pins s σ H Q I q⟩
theorem snd_and (ha : Snd G fa cf k gfn T N a) (hb : Snd G fa cf k gfn T N b) : Snd G fa cf k gfn T N (.and a b) := fun X sc W bs n g M e' c s tk hbs h => by
  unfold chkE at h
  split at h
  · rename_i a' b' r pos
    obtain ⟨h1, h2⟩ := b2 h
    have A := ha X sc W bs n g M _ c s tk hbs h1
    have hn : evN G cf n (.and a b) g M = .no := by simp only [evN]
    split at h2
    · have B := fun M1 => hb X sc W bs n g M1 _ c s tk hbs h2
      refine ⟨?_, ?_, by rw [hn]; exact je_no⟩
      · rw [ev]
        exact je_and A.je fun M1 => je_one (B M1).je
      · rw [ev]
        exact JT.eq ((jw_and A.jt fun M1 => jw_and1 (B M1).jt).pt) truR_and
    · have B := fun M1 => hb X sc W bs n g M1 _ c s tk hbs h2
      refine ⟨?_, ?_, by rw [hn]; exact je_no⟩
      · rw [ev]
        exact je_and A.je fun M1 => (B M1).je
      · rw [ev]
        exact JT.eq ((jw_and A.jt fun M1 => jw_bool (B M1).jt).pt) truR_and
  · cases h
theorem snd_or (ha : Snd G fa cf k gfn T N a) (hb : Snd G fa cf k gfn T N b) : Snd G fa cf k gfn T N (.or a b) := fun X sc W bs n g M e' c s tk hbs h => by
  unfold chkE at h
  split at h
  · rename_i a' b' r pos
    obtain ⟨h1, h2⟩ := b2 h
    have A := ha X sc W bs n g M _ c s tk hbs h1
    have hn : evN G cf n (.or a b) g M = .no := by simp only [evN]
    split at h2
    · have B := fun M1 => hb X sc W bs n g M1 _ c s tk hbs h2
      refine ⟨?_, ?_, by rw [hn]; exact je_no⟩
      · rw [ev]
        exact je_or A.je fun M1 => je_one (B M1).je
      · rw [ev]
        exact JT.eq ((jw_or A.jt fun M1 => jw_or1 (B M1).jt).pt) truR_or
    · have B := fun M1 => hb X sc W bs n g M1 _ c s tk hbs h2
      refine ⟨?_, ?_, by rw [hn]; exact je_no⟩
      · rw [ev]
        exact je_or A.je fun M1 => (B M1).je
      · rw [ev]
        exact JT.eq ((jw_or A.jt fun M1 => jw_bool (B M1).jt).pt) truR_or
  · cases h
theorem snd_nt (ha : Snd G fa cf k gfn T N a) : Snd G fa cf k gfn T N (.nt a) := fun X sc W bs n g M e' c s tk hbs h => by
  unfold chkE at h
  split at h
  · have A := ha X sc W bs n g M _ c s tk hbs h
    refine ⟨?_, ?_, by rw [show evN G cf n (.nt a) g M = .no by simp only [evN]]; exact je_no⟩
    · rw [ev]
      exact je_not A.je
    · rw [ev]
      exact JT.eq (jt_not A.jt) truR_not
  · cases h
theorem snd_ite (hc : Snd G fa cf k gfn T N c) (ha : Snd G fa cf k gfn T N a) (hb : Snd G fa cf k gfn T N b) : Snd G fa cf k gfn T N (.ite c a b) := fun X sc W bs n g M e' cx s tk hbs h => by
  unfold chkE at h
  split at h
  · obtain ⟨h1, h⟩ := b2 h
    obtain ⟨h2, h3⟩ := b2 h
    have C := hc X sc W bs n g M _ cx s tk hbs h1
    have A := fun M1 => ha X sc W bs n g M1 _ cx s tk hbs h2
    have B := fun M1 => hb X sc W bs n g M1 _ cx s tk hbs h3
    refine ⟨?_, ?_, by rw [show evN G cf n (.ite c a b) g M = .no by simp only [evN]]; exact je_no⟩
    · rw [ev]
      exact JE.eq (je_ite C.jt (fun M1 => (A M1).je) fun M1 => (B M1).je) ite_truR.symm
    · rw [ev]
      exact JT.eq (jt_ite C.jt (fun M1 => (A M1).jt) fun M1 => (B M1).jt) truR_ite
  · cases h
theorem snd_tup (he : SndL G fa cf k gfn T N es) : Snd G fa cf k gfn T N (.tup es) := fun X sc W bs n g M e' c s tk hbs h => by
  unfold chkE at h
  split at h
  · obtain ⟨h1, h2⟩ := b2 h
    refine S3.of ?_ rfl (by simp only [evN])
    rw [ev]
    exact je_tup ((he X sc W bs n g _ c s tk hbs h2).2.1 (noStar_of h1) M)
  · cases h
theorem snd_lst (he : SndL G fa cf k gfn T N es) : Snd G fa cf k gfn T N (.lst es) := fun X sc W bs n g M e' c s tk hbs h => by
  unfold chkE at h
  split at h
  · rename_i es' pos
    obtain ⟨h1, h2⟩ := b2 h
    have J := jl_lst (pos := pos) ((he X sc W bs n g _ c s tk hbs h2).2.1 (noStar_of h1) M)
    have je : JE X T bs W g M (.List es' pos) (ev G cf n (.lst es) g M) := by
      have z := je_dat J
      rw [len_eq] at z
      rw [ev]
      exact z
    refine ⟨je, jt_plain je (plainT_of rfl), ?_⟩
    have z := je_cel J
    rw [len_eq] at z
    rw [evN]
    have e : ((evs G cf n es g M).bind fun ds M1 => if ds.length ≤ maxL then R.ok (Ce.lst ds) M1 else .no).bind (fun c M1 => R.ok (D.cel M1.length) (M1 ++ [c])) = (evs G cf n es g M).bind fun ds M1 => if ds.length ≤ maxL then .ok (D.cel M1.length) (M1 ++ [Ce.lst ds]) else .no := by
      cases evs G cf n es g M with
      | no => rfl
      | ex C fs M1 => rfl
      | ok ds M1 =>
        rw [R.bind_ok, R.bind_ok]
        by_cases h : ds.length ≤ maxL
        · rw [if_pos h, if_pos h]
          rfl
        · rw [if_neg h, if_neg h]
          rfl
    rw [e]
    exact z
  · cases h
theorem snd_dct {ks vs : List Ex} : Snd G fa cf k gfn T N (.dct ks vs) := fun X sc W bs n g M e' c s tk hbs h => by
  unfold chkE at h
  split at h
  · split at h
    · rename_i pos
      have je : JE X T bs W g M (.Dict [] [] pos) (ev G cf n (.dct [] []) g M) := by
        rw [ev]
        exact je_dct0
      refine ⟨je, jt_plain je (plainT_of rfl), ?_⟩
      rw [evN]
      exact je_dct0C
    · cases h
  · split at h
    · obtain ⟨h1, h2⟩ := b2 h
      have e1 := of_decide_eq_true h1
      have e2 := of_decide_eq_true h2
      subst e1 e2
      refine S3.of ?_ rfl (by simp only [evN])
      rw [ev]
      exact je_dct1
    · cases h
  · cases h
theorem snd_rev (ha : Snd G fa cf k gfn T N a) : Snd G fa cf k gfn T N (.rev a) := fun X sc W bs n g M e' c s tk hbs h => by
  unfold chkE at h
  split at h
  · obtain ⟨h1, h2⟩ := b2 h
    have e := of_decide_eq_true h1
    subst e
    refine S3.of ?_ rfl (by simp only [evN])
    rw [ev]
    exact je_rev (ha X sc W bs n g M _ c s tk hbs h2).je
  · cases h
theorem snd_star : Snd G fa cf k gfn T N (.star a) := fun X sc W bs n g M e' c s tk hbs h => S3.no (by rw [ev]) (by simp only [evN])
theorem lam_takes {A : Around} {outer : List PySem.Env} {s : Shared} {H : Hp} {E : XK} {scp : Scope} {f c' : Addr} {X : Cx} : Takes (lamCx X A outer s H E scp f c') (fun cls d _ H => E cls d H) := takes_of rfl rfl rfl rfl
theorem snd_said (ha : Snd G fa cf k gfn T N a) : Snd G fa cf k gfn T N (.said a) := fun X sc W bs n g M e' c s tk hbs h => by
  unfold chkE at h
  split at h
  · rename_i y p pars bd scp lpos pos
    obtain ⟨h1, h⟩ := b2 h
    obtain ⟨h2, h⟩ := b2 h
    obtain ⟨h3, h⟩ := b2 h
    obtain ⟨h4, h⟩ := b2 h
    obtain ⟨h5, h6⟩ := b2 h
    have e := of_decide_eq_true h1
    subst e
    refine S3.of ?_ rfl (by simp only [evN])
    rw [ev]
    obtain ⟨q1, q2, q3, q4, q5, q6, q7⟩ := pars
    unfold noPars at h5
    obtain ⟨z1, h5⟩ := b2 h5
    obtain ⟨z2, h5⟩ := b2 h5
    obtain ⟨z3, h5⟩ := b2 h5
    obtain ⟨z4, h5⟩ := b2 h5
    obtain ⟨z5, h5⟩ := b2 h5
    obtain ⟨z6, z7⟩ := b2 h5
    dsimp only at z1 z2 z3 z4 z5 z6 z7
    have w1 := List.isEmpty_iff.mp z1
    have w2 := List.isEmpty_iff.mp z2
    have w3 := Option.isNone_iff_eq_none.mp z3
    have w4 := List.isEmpty_iff.mp z4
    have w5 := List.isEmpty_iff.mp z5
    have w6 := Option.isNone_iff_eq_none.mp z6
    have w7 := List.isEmpty_iff.mp z7
    subst w1 w2 w3 w4 w5 w6 w7
    refine je_said c (s.lam h2) (gl_of s h3) (by rw [s.sc]; exact lamS_by h4) rfl (fun _ _ _ _ _ => rfl) fun A outer s' H E f c' hG hr => ?_
    exact (ha (lamCx X A outer s' H E scp f c') ⟨scp, false⟩ (fun cls d _ H => E cls d H) bs n g M bd ⟨rfl, c.nd, by show (A.deeper _).guards = _; rw [guards_deeper, hG]; exact c.gd, hr, c.wl⟩ ⟨(fun z => nomatch z), rfl, s.n⟩ lam_takes hbs h6).je
  · cases h
theorem snd_sub (ha : Snd G fa cf k gfn T N a) (hb : Snd G fa cf k gfn T N b) : Snd G fa cf k gfn T N (.sub a b) := fun X sc W bs n g M e' c s tk hbs h => by
  unfold chkE at h
  split at h
  · obtain ⟨h1, h⟩ := b2 h
    obtain ⟨h2, h3⟩ := b2 h
    refine S3.of ?_ rfl (by simp only [evN])
    rw [ev]
    exact je_sub (ha X sc W bs n g M _ c s tk hbs h2).je (fun M1 => (hb X sc W bs n g M1 _ c s tk hbs h3).je) fun d1 d2 M2 => b_subs c tk hbs h1
  · cases h
theorem snd_att {f : Str} (ha : Snd G fa cf k gfn T N a) : Snd G fa cf k gfn T N (.att a f) := fun X sc W bs n g M e' c s tk hbs h => by
  unfold chkE at h
  split at h
  · obtain ⟨h1, h⟩ := b2 h
    obtain ⟨h2, h3⟩ := b2 h
    have e := of_decide_eq_true h1
    subst e
    refine S3.of ?_ rfl (by simp only [evN])
    rw [ev]
    exact je_att c tk hbs (ha X sc W bs n g M _ c s tk hbs h3).je h2
  · cases h
theorem snd_cf {x : Str} {ks : List Str} (he : SndL G fa cf k gfn T N es) (hk : SndL G fa cf k gfn T N kes) : Snd G fa cf k gfn T N (.cf x es ks kes) := fun X sc W bs n g M e' c s tk hbs h => by
  unfold chkE at h
  split at h
  · obtain ⟨h1, h⟩ := b2 h
    obtain ⟨h2, h⟩ := b2 h
    obtain ⟨h3, h⟩ := b2 h
    obtain ⟨h4, h⟩ := b2 h
    obtain ⟨h5, h⟩ := b2 h
    obtain ⟨h6, h⟩ := b2 h
    obtain ⟨h7, h⟩ := b2 h
    obtain ⟨h8, h9⟩ := b2 h
    have e := of_decide_eq_true h1
    subst e
    have E := he X sc W bs n g _ c s tk hbs h8
    have Kw := hk X sc W bs n g _ c s tk hbs h9
    have h7 := of_decide_eq_true h7
    refine S3.of ?_ rfl (by simp only [evN])
    rw [ev]
    refine je_call c tk hbs (gl_of s h2) h3 h4 (E.2.1 (noStar_of h6) M) (fun M1 => Kw.2.2 _ rfl M1) (noStar_of h6) h7 (fun z => ?_) (fun M1 kds M2 e => ?_) (okN_of h5).1
    · have l := E.1
      rw [z] at l
      have l2 : es = [] := List.length_eq_zero_iff.mp l.symm
      subst l2
      rw [evs]
    · rw [evs_len e, ← Kw.1, List.length_map]
      have := congrArg List.length h7
      rw [List.length_map, List.length_map] at this
      exact this
  · cases h
theorem setOk_of {sc : Sc} {m : Bn} {es : List Expr} (h : setOk sc m es = true) (hs : setB m = true) : ∃ p1 es2 p2, es = [.Call (.Name "set" p1) es2 [] p2] ∧ globB sc "set" = true ∧ noStarB es2 = true ∧ (!es2.isEmpty) = true := by
  unfold setOk at h
  rw [hs] at h
  simp only [Bool.not_true, Bool.false_or] at h
  split at h
  · rename_i y p1 es2 p2
    obtain ⟨k1, h⟩ := b2 h
    obtain ⟨k2, h⟩ := b2 h
    obtain ⟨k3, k4⟩ := b2 h
    have e := of_decide_eq_true k1
    subst e
    exact ⟨p1, es2, p2, rfl, k2, k3, k4⟩
  · cases h
theorem snd_cb {m : Bn} (he : SndL G fa cf k gfn T N es) : Snd G fa cf k gfn T N (.cb m es) := fun X sc W bs n g M e' c s tk hbs h => by
  unfold chkE at h
  by_cases hm : cbOk m = true
  · rw [hm] at h
    simp only [Bool.not_true, Bool.false_or] at h
    split at h
    · rename_i y p es' pos
      obtain ⟨h1, h⟩ := b2 h
      obtain ⟨h2, h⟩ := b2 h
      obtain ⟨h3, h⟩ := b2 h
      obtain ⟨h4, h⟩ := b2 h
      obtain ⟨h5, h⟩ := b2 h
      obtain ⟨h6, h⟩ := b2 h
      obtain ⟨h8, h7⟩ := b2 h
      have e := of_decide_eq_true h1
      subst e
      obtain ⟨o1, o2, o3⟩ := okN_of h3
      by_cases hset : setB m = true
      · have em : m = .sortedset := by
          cases m with
          | sortedset => rfl
          | lenset => cases hm
          | _ => cases hset
        subst em
        obtain ⟨p1, es2, p2, rfl, k2, k3, k4⟩ := setOk_of h8 hset
        · have h7' : chkL G gfn N sc es es2 = true := h7
          have E := he X sc W bs n g _ c s tk hbs h7'
          cases es2 with
          | nil => cases k4
          | cons e1 es1 =>
            have jl := jl_sset (q := p2) (p := p) (p2 := p1) (pos := pos) c.calm (gl_of s h2) (c.wl.bi.none_of (of_decide_eq_true h4)) (gl_of s k2) (c.wl.bi.none_of (by decide)) (noStar_of k3) (E.2.1 (noStar_of k3) M)
            have je : JE X T bs W g M (.Call (.Name (bnN .sortedset) p) [.Call (.Name "set" p1) (e1 :: es1) [] p2] [] pos) (ev G cf n (.cb .sortedset es) g M) := by
              have z := je_dat jl
              rw [ev, if_pos hm]
              have q : ((evs G cf n es g M).bind fun ds M1 => R.of M1 (setQ M1 ds)).bind (fun ds M1 => R.ok (D.lst ds) M1) = (evs G cf n es g M).bind fun ds M1 => cbOp G (cf n) .sortedset ds M1 := by
                cases evs G cf n es g M with
                | no => rfl
                | ex C fs M1 => rfl
                | ok ds M1 =>
                  rw [R.bind_ok, R.bind_ok]
                  show _ = R.of M1 ((setQ M1 ds).map D.lst)
                  cases setQ M1 ds <;> rfl
              rw [q] at z
              exact z
            refine ⟨je, jt_plain je (plainT_of rfl), ?_⟩
            have z := je_cel jl
            rw [evN]
            have q : ((evs G cf n es g M).bind fun ds M1 => R.of M1 (setQ M1 ds)).bind (fun ds M1 => R.ok (D.cel M1.length) (M1 ++ [Ce.lst ds])) = ((evs G cf n es g M).bind fun ds M1 => R.of M1 ((setQ M1 ds).map Ce.lst)).bind (fun c M1 => R.ok (D.cel M1.length) (M1 ++ [c])) := by
              cases evs G cf n es g M with
              | no => rfl
              | ex C fs M1 => rfl
              | ok ds M1 =>
                rw [R.bind_ok, R.bind_ok]
                cases setQ M1 ds <;> rfl
            rw [q] at z
            exact z
      have hset' : setB m = false := by
        cases e : setB m with
        | true => exact absurd e hset
        | false => rfl
      have h7 : chkL G gfn N sc es es' = true := by
        unfold setIn at h7
        rw [if_neg hset] at h7
        exact h7
      have E := he X sc W bs n g _ c s tk hbs h7
      cases es' with
      | nil => cases h6
      | cons e1 es1 =>
        have hmg := c.wl.bi.none_of (of_decide_eq_true h4)
        have je : JE X T bs W g M (.Call (.Name (bnN m) p) (e1 :: es1) [] pos) (ev G cf n (.cb m es) g M) := by
          rw [ev, if_pos hm]
          exact je_blt (gl_of s h2) hmg (boot_bn hm) bnV_kind (noStar_of h5) o3 o1 (E.2.1 (noStar_of h5) M) fun ds M1 => b_cb c tk hbs hset'
        refine ⟨je, jt_plain je (plainT_of rfl), ?_⟩
        have fin : ∀ {f : List D → Me → Option (List D)}, (∀ ds M1 ws, f ds M1 = some ws → OpL X T bs (fun us => PySem.call (bnV m) us) ds M1 ws) → JE X T bs W g M (.Call (.Name (bnN m) p) (e1 :: es1) [] pos) (((evs G cf n es g M).bind fun ds M1 => R.of M1 (f ds M1)).bind fun ds M1 => .ok (.cel M1.length) (M1 ++ [.lst ds])) := fun {f} hf => je_cel (jl_blt (gl_of s h2) hmg (boot_bn hm) bnV_kind (noStar_of h5) o3 o1 (E.2.1 (noStar_of h5) M) hf)
        have eq : ∀ {f : List D → Me → Option (List D)} {f2 : List D → Me → R Ce}, (∀ ds M1, f2 ds M1 = R.of M1 ((f ds M1).map .lst)) → ((evs G cf n es g M).bind fun ds M1 => R.of M1 (f ds M1)).bind (fun ds M1 => R.ok (D.cel M1.length) (M1 ++ [Ce.lst ds])) = ((evs G cf n es g M).bind f2).bind (fun c M1 => R.ok (D.cel M1.length) (M1 ++ [c])) := fun {f f2} hf => by
          cases evs G cf n es g M with
          | no => rfl
          | ex C fs M1 => rfl
          | ok ds M1 =>
            rw [R.bind_ok, R.bind_ok, hf]
            cases f ds M1 <;> rfl
        cases m with
        | list =>
          rw [evN]
          have z := fin (f := fun ds M1 => match ds with | [d] => seqOf M1 d | _ => none) fun ds M1 ws hw => by
            split at hw
            · exact s_list hw
            · cases hw
          rw [eq (f2 := fun ds M1 => match ds with | [d] => R.of M1 ((seqOf M1 d).map .lst) | _ => .no) fun ds M1 => by
            split <;> rfl] at z
          exact z
        | sorted =>
          rw [evN]
          have z := fin (f := fun ds M1 => match ds with | [d] => sortQ M1 d | _ => none) fun ds M1 ws hw => by
            split at hw
            · exact s_sorted hw
            · cases hw
          rw [eq (f2 := fun ds M1 => match ds with | [d] => R.of M1 ((sortQ M1 d).map .lst) | _ => .no) fun ds M1 => by
            split <;> rfl] at z
          exact z
        | sortedset => cases hset'
        | dict =>
          rw [evN]
          have z : JE X T bs W g M (.Call (.Name (bnN .dict) p) (e1 :: es1) [] pos) ((evs G cf n es g M).bind fun ds M1 => match ds with | [d] => (R.of M1 (((lv M1 d).bind pairsD).map fun kvs => Ce.dct (kputs [] kvs))).bind fun c M1 => .ok (.cel M1.length) (M1 ++ [c]) | _ => .no) := je_blt (gl_of s h2) hmg (boot_bn hm) bnV_kind (noStar_of h5) o3 o1 (E.2.1 (noStar_of h5) M) fun ds M1 => by
            split
            · exact b_dictC c
            · exact opN_no
          refine JE.eq z ?_
          cases evs G cf n es g M with
          | no => rfl
          | ex C fs M1 => rfl
          | ok ds M1 =>
            rw [R.bind_ok, R.bind_ok]
            match ds with
            | [] => rfl
            | [d] => rfl
            | _ :: _ :: _ => rfl
        | _ => rw [show evN G cf n (.cb _ es) g M = .no by simp only [evN]]; exact je_no
    · cases h
  · exact S3.no (by rw [ev, if_neg hm]) (by cases m <;> first | exact absurd rfl hm | simp only [evN])
end
end Iv
namespace Iv
open PySem PySem.Spec PyProof.Rows L2 LamX
section
variable {G : Pg} {fa : Str → Addr} {cf : Nat → Cf} {k : Nat} {gfn : Str → Bool} {T : List (Addr × Str)} {N : List Str} {a b c : Ex} {es : List Ex}
theorem nil_of {X : Cx} {sc : Sc} {es' : List Expr} {n : Nat} {g : Ga} {M : Me} (l : es'.length = es.length) (z : es' = []) : evs G cf n es g M = .ok [] M := by
  rw [z] at l
  have l2 : es = [] := List.length_eq_zero_iff.mp l.symm
  subst l2
  rw [evs]
theorem snd_mk {C : Cn} (he : SndL G fa cf k gfn T N es) : Snd G fa cf k gfn T N (.mk C es) := fun X sc W bs n g M e' c s tk hbs h => by
  unfold chkE at h
  split at h
  · obtain ⟨h1, h⟩ := b2 h
    obtain ⟨h2, h⟩ := b2 h
    obtain ⟨h3, h⟩ := b2 h
    obtain ⟨h4, h⟩ := b2 h
    obtain ⟨h5, h6⟩ := b2 h
    have e := of_decide_eq_true h1
    subst e
    have E := he X sc W bs n g _ c s tk hbs h6
    refine S3.of ?_ rfl (by simp only [evN])
    rw [ev]
    exact je_mk c tk hbs h2 (gl_of s h3) (noStar_of h5) (okN_of h4).1 (E.2.1 (noStar_of h5) M) fun z => nil_of (X := X) (sc := sc) E.1 z
  · cases h
theorem snd_met {m : Str} (ha : Snd G fa cf k gfn T N a) (he : SndL G fa cf k gfn T N es) : Snd G fa cf k gfn T N (.met a m es) := fun X sc W bs n g M e' c s tk hbs h => by
  unfold chkE at h
  split at h
  · obtain ⟨h1, h⟩ := b2 h
    obtain ⟨h2, h⟩ := b2 h
    obtain ⟨h3, h⟩ := b2 h
    obtain ⟨h4, h⟩ := b2 h
    obtain ⟨h5, h⟩ := b2 h
    obtain ⟨h6, h7⟩ := b2 h
    have e := of_decide_eq_true h1
    subst e
    have E := he X sc W bs n g _ c s tk hbs h7
    refine S3.of ?_ rfl (by simp only [evN])
    rw [ev]
    exact je_met c tk hbs (ha X sc W bs n g M _ c s tk hbs h6).je (fun M1 => E.2.1 (noStar_of h3) M1) h2 (noStar_of h3) (of_decide_eq_true h4) h5 fun z M1 => nil_of (X := X) (sc := sc) E.1 z
  · cases h
theorem snd_bm {m : Bm} (ha : Snd G fa cf k gfn T N a) (he : SndL G fa cf k gfn T N es) : Snd G fa cf k gfn T N (.bm a m es) := fun X sc W bs n g M e' c s tk hbs h => by
  unfold chkE at h
  split at h
  · obtain ⟨h1, h⟩ := b2 h
    obtain ⟨h2, h⟩ := b2 h
    obtain ⟨h3, h⟩ := b2 h
    obtain ⟨h4, h⟩ := b2 h
    obtain ⟨h5, h⟩ := b2 h
    obtain ⟨h6, h7⟩ := b2 h
    cases en : bmN m with
    | none => rw [en] at h1; cases h1
    | some q =>
      obtain ⟨nm, id⟩ := q
      rw [en] at h1
      have e := of_decide_eq_true h1
      subst e
      have E := he X sc W bs n g _ c s tk hbs h7
      refine S3.of ?_ rfl (by simp only [evN])
      rw [ev]
      exact je_bm hbs en (ha X sc W bs n g M _ c s tk hbs h6).je (fun M1 => E.2.1 (noStar_of h3) M1) h2 (noStar_of h3) (of_decide_eq_true h4) h5 fun z M1 => nil_of (X := X) (sc := sc) E.1 z
  · cases h
theorem snd_frz (ha : Snd G fa cf k gfn T N a) : Snd G fa cf k gfn T N (.frz a) := fun X sc W bs n g M e' c s tk hbs h => by
  rw [chkE] at h
  obtain ⟨h1, h⟩ := b2 h
  refine S3.of ?_ h1 (by simp only [evN])
  rw [ev]
  exact je_frz' fun hb => (ha X sc W (M.length :: bs) M.length g M e' c s tk (fun x hx => by
      rcases List.mem_cons.mp hx with z | z
      · rw [z]
        exact Nat.le_refl _
      · exact hb x z) h).je
theorem snd_cel (ha : Snd G fa cf k gfn T N a) : Snd G fa cf k gfn T N (.cel a) := fun X sc W bs n g M e' c s tk hbs h => by
  rw [chkE] at h
  obtain ⟨h1, h⟩ := b2 h
  refine S3.of ?_ h1 (by simp only [evN])
  rw [ev]
  exact (ha X sc W bs n g M e' c s tk hbs h).jn
variable (G fa cf k gfn T N) in
def SndO (o : Option Ex) : Prop := ∀ (X : Cx) (sc : Sc) (W : WX) (bs : List Nat) (b : Nat) (g : Ga) (o' : Option Expr), Cxt G fa cf k T gfn X → CxS G k T X sc N → Takes X W → (∀ x ∈ bs, x ≤ b) → chkO G gfn N sc o o' = true → ∀ M, JO X T bs W g M o' (evo G cf b o g M)
variable (G fa cf k gfn T N) in
def SndC (o : Option Ex) : Prop := ∀ (X : Cx) (sc : Sc) (W : WX) (bs : List Nat) (b : Nat) (es' : List Expr), Cxt G fa cf k T gfn X → CxS G k T X sc N → Takes X W → (∀ x ∈ bs, x ≤ b) → chkC G gfn N sc o es' = true → (o = none ∧ es' = []) ∨ ∃ e', es' = [e'] ∧ ∀ g M, JT X T bs W g M e' (evc G cf b o g M)
variable (G fa cf k gfn T N) in
def SndF (es : List Ex) : Prop := ∀ (X : Cx) (sc : Sc) (W : WX) (bs : List Nat) (b : Nat) (g : Ga) (es' : List Expr), Cxt G fa cf k T gfn X → CxS G k T X sc N → Takes X W → (∀ x ∈ bs, x ≤ b) → chkF G gfn N sc es es' = true → ∃ rs : List (Me → R D), FPs X T bs W g es' rs ∧ ∀ acc M, evf G cf b es g acc M = evfR rs acc M
variable (G fa cf k gfn T N) in
def SndI (it : It) : Prop := ∀ (X : Cx) (sc : Sc) (W : WX) (bs : List Nat) (b : Nat) (g : Ga) (tg e' : Expr), Cxt G fa cf k T gfn X → CxS G k T X sc N → Takes X W → (∀ x ∈ bs, x ≤ b) → chkI G gfn N sc it tg e' = true → ∀ M, JI X T bs W g M tg e' (evi G cf b it g M)
theorem sl_eq {ra : R D} {rl rh : Me → R (Option Int)} : (ra.bind fun d M1 => (rl M1).bind fun l M2 => (rh M2).bind fun h M3 => R.of M3 ((lv M3 d).map fun ds => cutD ds l h)).bind (fun ds M1 => R.ok (D.cel M1.length) (M1 ++ [Ce.lst ds]))
    = (ra.bind fun d M1 => (rl M1).bind fun l M2 => (rh M2).bind fun h M3 => R.of M3 ((lv M3 d).map fun ds => Ce.lst (cutD ds l h))).bind (fun c M1 => R.ok (D.cel M1.length) (M1 ++ [c])) := by
  cases ra with
  | no => rfl
  | ex C fs M1 => rfl
  | ok d1 M1 =>
    rw [R.bind_ok, R.bind_ok]
    cases rl M1 with
    | no => rfl
    | ex C fs M2 => rfl
    | ok d2 M2 =>
      rw [R.bind_ok, R.bind_ok]
      cases rh M2 with
      | no => rfl
      | ex C fs M3 => rfl
      | ok h M3 =>
        rw [R.bind_ok, R.bind_ok]
        cases lv M3 d1 <;> rfl
theorem snd_sl {lo hi : Option Ex} (ha : Snd G fa cf k gfn T N a) (hl : SndO G fa cf k gfn T N lo) (hh : SndO G fa cf k gfn T N hi) : Snd G fa cf k gfn T N (.sl a lo hi) := fun X sc W bs n g M e' c s tk hbs h => by
  unfold chkE at h
  split at h
  · rename_i a' lo' hi' p2 pos
    obtain ⟨h1, h⟩ := b2 h
    obtain ⟨h2, h3⟩ := b2 h
    have A := ha X sc W bs n g M _ c s tk hbs h1
    have L := hl X sc W bs n g _ c s tk hbs h2
    have H := hh X sc W bs n g _ c s tk hbs h3
    have je : JE X T bs W g M (.Subscript a' (.Slice lo' hi' none p2) pos) (ev G cf n (.sl a lo hi) g M) := by
      rw [ev]
      exact je_sl A.je L H
    refine ⟨je, jt_plain je (plainT_of rfl), ?_⟩
    rw [evN]
    exact JE.eq (je_cel (jl_sl A.je L H)) sl_eq
  · cases h
theorem snd_fst (he : SndF G fa cf k gfn T N es) : Snd G fa cf k gfn T N (.fst es) := fun X sc W bs n g M e' c s tk hbs h => by
  unfold chkE at h
  split at h
  · rename_i es' pos
    obtain ⟨h1, h2⟩ := b2 h
    obtain ⟨rs, f1, f2⟩ := he X sc W bs n g _ c s tk hbs h2
    refine S3.of ?_ rfl (by simp only [evN])
    rw [ev, f2]
    match es', of_decide_eq_true h1, f1 with
    | e1 :: e2 :: r, _, f1 => exact je_fst f1
  · cases h
theorem lookup_rel_cell {scope sc : Scope} {x : Str} : ∀ {names : List (Str × NameKind)}, names.lookup x = some .cell → (names.map fun (n, k) => if (k == NameKind.free && sc.kind == .function && sc.names.lookup n == some .cell) then (n, NameKind.cell) else (n, k)).lookup x = some .cell
  | [], h => by simp at h
  | (n, kd) :: r, h => by
    rw [List.map_cons]
    rw [List.lookup_cons] at h
    cases q : x == n with
    | true =>
      rw [q] at h
      cases h
      show List.lookup x ((if (NameKind.cell == NameKind.free && sc.kind == .function && sc.names.lookup n == some .cell) = true then (n, NameKind.cell) else (n, NameKind.cell)) :: _) = _
      have e : (if (NameKind.cell == NameKind.free && sc.kind == .function && sc.names.lookup n == some .cell) = true then (n, NameKind.cell) else (n, NameKind.cell)) = (n, NameKind.cell) := by split <;> rfl
      rw [e, List.lookup_cons, q]
    | false =>
      rw [q] at h
      have ih := lookup_rel_cell (scope := scope) (sc := sc) h
      show List.lookup x ((if (kd == NameKind.free && sc.kind == .function && sc.names.lookup n == some .cell) = true then (n, NameKind.cell) else (n, kd)) :: _) = _
      split
      · rw [List.lookup_cons, q]
        exact ih
      · rw [List.lookup_cons, q]
        exact ih
end
end Iv
namespace Iv
open PySem PySem.Spec PyProof.Rows L2 LamX
section
variable {G : Pg} {fa : Str → Addr} {cf : Nat → Cf} {k : Nat} {gfn : Str → Bool} {T : List (Addr × Str)} {N : List Str} {a : Ex}
theorem Cxt.blk {X : Cx} {s : Shared} {H : Hp} {scope : Scope} {env : PySem.Env} {fp : List Addr} (c : Cxt G fa cf k T gfn X) : Cxt G fa cf k T gfn (X.blk s H scope env fp) := ⟨c.calm, c.nd, c.gd, c.room, c.wl⟩
theorem CxS.blk {X : Cx} {sc : Sc} {s : Shared} {H : Hp} {scope : Scope} {cl : List (Str × Addr)} {C : Addr} {fp : List Addr} (q : CxS G k T X sc N) : CxS G k T (X.blk s H scope (compEnvC scope cl C X.env) fp) ⟨relS scope sc, false⟩ N := ⟨(fun z => nomatch z), by
  have e := q.sc
  show _ = relS scope sc.toScope
  rw [← e]
  rfl, q.n⟩
mutual
theorem tn_ok {X : Cx} {sc : Sc} {scope : Scope} {bs vs : List Nat} (c : Cxt G fa cf k T gfn X) (q : CxS G k T X sc N) (s : Shared) (H : Hp) (C : Addr) (cl : List (Str × Addr)) (fp : List Addr) : ∀ {t : Tg} {tg : Expr}, chkTN N scope t tg = true → (∀ i ∈ t.slots, i ∈ vs) → PG (X.blk s H scope (compEnvC scope cl C X.env) fp) tg (tNG X.K T bs vs t)
  | .nm i, tg, h, hv => by
    unfold chkTN at h
    split at h
    · rename_i x p
      obtain ⟨h1, h2⟩ := b2 h
      have hs : (X.blk s H scope (compEnvC scope cl C X.env) fp).env.scope = relS scope sc.toScope := (CxS.blk (s := s) (H := H) (scope := scope) (cl := cl) (C := C) (fp := fp) q).sc
      have hi : (X.blk s H scope (compEnvC scope cl C X.env) fp).N[i]? = some x := by
        show X.N[i]? = _
        rw [q.n]
        exact of_decide_eq_true h1
      have hx : L2.Loc (X.blk s H scope (compEnvC scope cl C X.env) fp).env.scope x ∧ ((X.blk s H scope (compEnvC scope cl C X.env) fp).fn x = true ∨ (X.blk s H scope (compEnvC scope cl C X.env) fp).env.scope.names.lookup x = some .local) := by
        rw [hs]
        unfold locB at h2
        cases e : scope.names.lookup x with
        | none => rw [e] at h2; cases h2
        | some kd =>
          rw [e] at h2
          cases kd with
          | «local» =>
            have z : (relS scope sc).names.lookup x = some .local := by
              rw [← hs]
              exact lookup_relabel_local e
            exact ⟨.inl z, .inr z⟩
          | cell =>
            have z : (relS scope sc).names.lookup x = some .cell := lookup_rel_cell (scope := scope) (sc := sc) e
            refine ⟨.inr z, .inl ?_⟩
            show (scope.names.lookup x == some .cell) = true
            rw [e]
            rfl
          | _ => cases h2
      exact ng_name (X := X.blk s H scope (compEnvC scope cl C X.env) fp) (hv i (by simp [Tg.slots])) c.nd hi hx.1 hx.2
    · cases h
  | .tup ts, tg, h, hv => by
    unfold chkTN at h
    split at h
    · obtain ⟨h1, h⟩ := b2 h
      obtain ⟨h2, h3⟩ := b2 h
      exact ng_tup (X := X.blk s H scope (compEnvC scope cl C X.env) fp) c.calm (tns_ok c q s H C cl fp h3 (noStar_of h1) fun i hi => hv i (by simpa [Tg.slots] using hi)) (noStar_of h1) (of_decide_eq_true h2)
    · cases h
  | .sub _ _, tg, h, hv => by
    unfold chkTN at h
    cases h
  | .att _ _, tg, h, hv => by
    unfold chkTN at h
    cases h
theorem tns_ok {X : Cx} {sc : Sc} {scope : Scope} {bs vs : List Nat} (c : Cxt G fa cf k T gfn X) (q : CxS G k T X sc N) (s : Shared) (H : Hp) (C : Addr) (cl : List (Str × Addr)) (fp : List Addr) : ∀ {ts : List Tg} {tgs : List Expr}, chkTNs N scope ts tgs = true → NoStar tgs → (∀ i ∈ slotsL ts, i ∈ vs) → PGs (X.blk s H scope (compEnvC scope cl C X.env) fp) tgs (tNGs X.K T bs vs ts)
  | [], [], _, _, _ => ngs_nil
  | [], _ :: _, h, _, _ => by
    unfold chkTNs at h
    cases h
  | _ :: _, [], h, _, _ => by
    unfold chkTNs at h
    cases h
  | t :: ts, e :: es, h, hs, hv => by
    unfold chkTNs at h
    obtain ⟨h1, h2⟩ := b2 h
    exact ngs_cons (X := X.blk s H scope (compEnvC scope cl C X.env) fp) (tn_ok c q s H C cl fp h1 fun i hi => hv i (by simp [slotsL]; exact .inl hi)) (tns_ok c q s H C cl fp h2 hs.tail fun i hi => hv i (by simp [slotsL]; exact .inr hi)) hs
end
theorem lc_eqC {ri : R (Wks)} {tl : Wks → Me → R (List D)} {α : Type} {f : Ce → Me → R α} : (ri.bind fun wk M1 => (tl wk M1).bind fun ds M5 => if wk.1.length ≤ 50000 then R.ok (Ce.lst ds) M5 else .no).bind f = ri.bind fun wk M1 => (tl wk M1).bind fun ds M5 => if wk.1.length ≤ 50000 then f (.lst ds) M5 else .no := by
  cases ri with
  | no => rfl
  | ex C fs M1 => rfl
  | ok wk M1 =>
    rw [R.bind_ok, R.bind_ok]
    cases tl wk M1 with
    | no => rfl
    | ex C fs M2 => rfl
    | ok ds M2 =>
      rw [R.bind_ok, R.bind_ok]
      by_cases h : wk.1.length ≤ 50000
      · rw [if_pos h, if_pos h]
        rfl
      · rw [if_neg h, if_neg h]
        rfl
theorem own_slots {t : Tg} : (ownOf N t).map (·.2) = t.slots := by
  unfold ownOf
  rw [List.map_map]
  show t.slots.map (fun i => i) = _
  exact List.map_id' _
theorem snd_lc {tg : Tg} {it : It} {cs : Option Ex} (he : Snd G fa cf k gfn T N a) (hi : SndI G fa cf k gfn T N it) (hc : SndC G fa cf k gfn T N cs) : Snd G fa cf k gfn T N (.lc a tg it cs) := fun X sc W bs n g M e' c s tk hbs h => by
  unfold chkE at h
  split at h
  · rename_i e1 tg' it' ifs' scope pos
    obtain ⟨h1, h⟩ := b2 h
    obtain ⟨h2, h⟩ := b2 h
    obtain ⟨h3, h⟩ := b2 h
    obtain ⟨h4, h⟩ := b2 h
    obtain ⟨h5, h6⟩ := b2 h
    have ok := blkOk_by h2
    have J : JL X T bs W g M (.ListComp e1 [⟨tg', it', ifs', 0⟩] scope pos) ((evi G cf n it g M).bind fun wk M1 => (lcL (lcT tg (wipeG g tg.slots) (evc G cf n cs) (ev G cf n a)) (wkO wk) wk.1 M1).bind fun ds M5 => if wk.1.length ≤ 50000 then .ok ds M5 else .no) := by
      refine jl_lc (own := ownOf N tg) c.calm c.nd (hi X sc W bs n g tg' _ c s tk hbs h4 M) (by rw [s.sc, s.n]; exact ok) own_slots (fun sh H C cl fp => tn_ok c s sh H C cl fp h1 fun _ z => z) (fun sh H C cl fp => ?_) (fun sh H C cl fp => ?_) (notSet_fold h3)
      · rcases hc (X.blk sh H scope (compEnvC scope cl C X.env) fp) ⟨relS scope sc, false⟩ noW bs n ifs' c.blk s.blk takes_blk hbs h6 with ⟨z1, z2⟩ | ⟨e2, z1, z2⟩
        · subst z1 z2
          exact ⟨fun pins s σ H Q I ⟨A, M, g, S, kk⟩ => pts_nil.run pins s σ H Q I (by
            rw [evc] at kk
            exact kk.get S rfl)⟩
        · subst z1
          exact ⟨fun pins s σ H Q I ⟨A, M, g, S, kk⟩ => (pts_one (z2 g M)).run pins s σ H Q I ⟨A, S, kk⟩⟩
      · exact ⟨fun pins s2 σ H' Q I ⟨A, M, g, S, kk⟩ => (he (X.blk sh H scope (compEnvC scope cl C X.env) fp) ⟨relS scope sc, false⟩ noW bs n g M _ c.blk s.blk takes_blk hbs h5).je.run pins s2 σ H' Q I ⟨A, S, kk⟩⟩
    have je : JE X T bs W g M (.ListComp e1 [⟨tg', it', ifs', 0⟩] scope pos) (ev G cf n (.lc a tg it cs) g M) := by
      rw [ev]
      exact JE.eq (je_dat J) lc_eq
    refine ⟨je, jt_plain je (plainT_of rfl), ?_⟩
    rw [evN]
    exact JE.eq (je_cel J) (lc_eq.trans (lc_eqC (ri := evi G cf n it g M) (tl := fun wk M1 => lcL (lcT tg (wipeG g tg.slots) (evc G cf n cs) (ev G cf n a)) (wkO wk) wk.1 M1) (f := fun c M1 => R.ok (D.cel M1.length) (M1 ++ [c]))).symm)
  · cases h
end
end Iv
namespace Iv
open PySem PySem.Spec PyProof.Rows L2 LamX
section
variable {G : Pg} {fa : Str → Addr} {cf : Nat → Cf} {k : Nat} {gfn : Str → Bool} {T : List (Addr × Str)} {N : List Str} {e : Ex} {es : List Ex}
theorem sndL_nil : SndL G fa cf k gfn T N [] := fun X sc W bs n g es' c s tk hbs h => by
  cases es' with
  | nil =>
    refine ⟨rfl, fun _ M => by rw [evs]; exact ja_nil, fun kws hk M => ?_⟩
    have e : kws = [] := List.map_eq_nil_iff.mp hk
    subst e
    rw [evs]
    exact jk_nil
  | cons e' es' =>
    unfold chkL at h
    cases h
theorem sndL_cons (he : Snd G fa cf k gfn T N e) (hs : SndL G fa cf k gfn T N es) : SndL G fa cf k gfn T N (e :: es) := fun X sc W bs n g es' c s tk hbs h => by
  cases es' with
  | nil =>
    unfold chkL at h
    cases h
  | cons e' es' =>
    unfold chkL at h
    obtain ⟨h1, h2⟩ := b2 h
    obtain ⟨l, ja, jk⟩ := hs X sc W bs n g es' c s tk hbs h2
    refine ⟨by rw [List.length_cons, List.length_cons, l], fun ns M => ?_, fun kws hk M => ?_⟩
    · rw [evs]
      exact ja_cons (he X sc W bs n g M e' c s tk hbs h1).je (fun M1 => ja ns.tail M1) (star_cons ns)
    · cases kws with
      | nil => cases hk
      | cons kw kws =>
        obtain ⟨nm, v, kp⟩ := kw
        rw [List.map_cons] at hk
        injection hk with hk1 hk2
        dsimp only at hk1
        subst hk1
        rw [evs]
        exact jk_cons (he X sc W bs n g M _ c s tk hbs h1).je fun M1 => jk kws hk2 M1
theorem sndO_none : SndO G fa cf k gfn T N none := fun X sc W bs n g o' c s tk hbs h M => by
  cases o' with
  | none => rw [evo]; exact jo_none
  | some e' => unfold chkO at h; cases h
theorem sndO_some (he : Snd G fa cf k gfn T N e) : SndO G fa cf k gfn T N (some e) := fun X sc W bs n g o' c s tk hbs h M => by
  cases o' with
  | none => unfold chkO at h; cases h
  | some e' =>
    unfold chkO at h
    rw [evo]
    exact jo_some (he X sc W bs n g M e' c s tk hbs h).je
theorem sndC_none : SndC G fa cf k gfn T N none := fun X sc W bs n es' c s tk hbs h => by
  cases es' with
  | nil => exact .inl ⟨rfl, rfl⟩
  | cons _ _ => unfold chkC at h; cases h
theorem sndC_some (he : Snd G fa cf k gfn T N e) : SndC G fa cf k gfn T N (some e) := fun X sc W bs n es' c s tk hbs h => by
  match es', h with
  | [], h => unfold chkC at h; cases h
  | [e'], h =>
    unfold chkC at h
    exact .inr ⟨e', rfl, fun g M => by rw [evc]; exact (he X sc W bs n g M e' c s tk hbs h).jt⟩
  | _ :: _ :: _, h => unfold chkC at h; cases h
theorem sndF_nil : SndF G fa cf k gfn T N [] := fun X sc W bs n g es' c s tk hbs h => by
  cases es' with
  | nil => exact ⟨[], .nil, fun acc M => by rw [evf]; rfl⟩
  | cons _ _ => unfold chkF at h; cases h
theorem sndF_cons (he : Snd G fa cf k gfn T N e) (hs : SndF G fa cf k gfn T N es) : SndF G fa cf k gfn T N (e :: es) := fun X sc W bs n g es' c s tk hbs h => by
  unfold chkF at h
  split at h
  · rename_i y p1 p2 r
    obtain ⟨h1, h2⟩ := b2 h
    split at h1
    · rename_i x
      have e := of_decide_eq_true h1
      subst e
      obtain ⟨rs, f1, f2⟩ := hs X sc W bs n g r c s tk hbs h2
      refine ⟨(fun M => .ok (.str x) M) :: rs, .cons .str f1, fun acc M => ?_⟩
      rw [evf, ev]
      show ((R.ok (D.str x) M).bind fun d M1 => match strOf d with | some x => if x.length ≤ maxL ∧ (acc ++ x).length ≤ maxL then evf G cf n es g (acc ++ x) M1 else R.no | none => R.no) = ((R.ok (D.str x) M).bind fun d M1 => match strOf d with | some x => if x.length ≤ maxL ∧ (acc ++ x).length ≤ maxL then evfR rs (acc ++ x) M1 else R.no | none => R.no)
      congr 1
      funext d M1
      cases strOf d with
      | none => rfl
      | some z => dsimp only; rw [f2]
    · cases h1
  · rename_i e' cc pp r
    obtain ⟨h1, h⟩ := b2 h
    obtain ⟨h2, h3⟩ := b2 h
    have e := of_decide_eq_true h1
    subst e
    obtain ⟨rs, f1, f2⟩ := hs X sc W bs n g r c s tk hbs h3
    refine ⟨(fun M => ev G cf n e g M) :: rs, .cons (.fmt fun M => (he X sc W bs n g M e' c s tk hbs h2).je) f1, fun acc M => ?_⟩
    rw [evf]
    show ((ev G cf n e g M).bind fun d M1 => match strOf d with | some x => if x.length ≤ maxL ∧ (acc ++ x).length ≤ maxL then evf G cf n es g (acc ++ x) M1 else R.no | none => R.no) = ((ev G cf n e g M).bind fun d M1 => match strOf d with | some x => if x.length ≤ maxL ∧ (acc ++ x).length ≤ maxL then evfR rs (acc ++ x) M1 else R.no | none => R.no)
    congr 1
    funext d M1
    cases strOf d with
    | none => rfl
    | some z => dsimp only; rw [f2]
  · cases h
theorem sndI_ex (he : Snd G fa cf k gfn T N e) : SndI G fa cf k gfn T N (.ex e) := fun X sc W bs n g tg e' c s tk hbs h M => by
  unfold chkI at h
  rw [evi]
  exact ji_ex (he X sc W bs n g M e' c s tk hbs h).je
theorem sndI_rng (he : SndL G fa cf k gfn T N es) : SndI G fa cf k gfn T N (.rng es) := fun X sc W bs n g tg e' c s tk hbs h M => by
  unfold chkI at h
  split at h
  · obtain ⟨h1, h⟩ := b2 h
    obtain ⟨h2, h⟩ := b2 h
    obtain ⟨h3, h⟩ := b2 h
    obtain ⟨h4, h5⟩ := b2 h
    have e := of_decide_eq_true h1
    subst e
    obtain ⟨l, ja, _⟩ := he X sc W bs n g _ c s tk hbs h5
    rw [evi]
    refine ji_rng (gl_of s h2) (c.wl.bi.range) (ja (noStar_of h3) M) (noStar_of h3) (fun ds M1 q => by rw [evs_len q, l]) ?_
    rcases Bool.or_eq_true_iff.mp h4 with z | z
    · exact .inl (of_decide_eq_true z)
    · exact .inr (of_decide_eq_true z)
  · cases h
theorem isTup_of {e : Expr} (h : isTup e = true) : ∃ a b c, e = .Tuple a b c := by
  cases e with
  | Tuple a b c => exact ⟨a, b, c, rfl⟩
  | _ => cases h
theorem sndI_zip {a b : Ex} (ha : Snd G fa cf k gfn T N a) (hb : Snd G fa cf k gfn T N b) : SndI G fa cf k gfn T N (.zip a b) := fun X sc W bs n g tg e' c s tk hbs h M => by
  unfold chkI at h
  split at h
  · obtain ⟨h0, h⟩ := b2 h
    obtain ⟨h1, h⟩ := b2 h
    obtain ⟨h2, h⟩ := b2 h
    obtain ⟨h3, h⟩ := b2 h
    obtain ⟨h4, h5⟩ := b2 h
    have e := of_decide_eq_true h1
    subst e
    obtain ⟨x1, x2, x3, rfl⟩ := isTup_of h0
    rw [evi]
    exact ji_zip (gl_of s h2) (c.wl.bi.zip) (ha X sc W bs n g M _ c s tk hbs h4).je (fun M1 => (hb X sc W bs n g M1 _ c s tk hbs h5).je) (noStar_of h3)
  · cases h
theorem sndI_enum {a : Ex} (ha : Snd G fa cf k gfn T N a) : SndI G fa cf k gfn T N (.enum a) := fun X sc W bs n g tg e' c s tk hbs h M => by
  unfold chkI at h
  split at h
  · obtain ⟨h0, h⟩ := b2 h
    obtain ⟨h1, h⟩ := b2 h
    obtain ⟨h2, h⟩ := b2 h
    obtain ⟨h3, h4⟩ := b2 h
    have e := of_decide_eq_true h1
    subst e
    obtain ⟨x1, x2, x3, rfl⟩ := isTup_of h0
    rw [evi]
    exact ji_enum (gl_of s h2) (c.wl.bi.enumerate) (ha X sc W bs n g M _ c s tk hbs h4).je (noStar_of h3)
  · cases h
theorem snd_call {i : Nat} (he : SndL G fa cf k gfn T N es) : Snd G fa cf k gfn T N (.call i es) := fun X sc W bs n g M e' c s tk hbs h => by
  unfold chkE at h
  split at h
  · rename_i x p es' pos
    obtain ⟨h1, h⟩ := b2 h
    obtain ⟨h2, h⟩ := b2 h
    obtain ⟨h3, h⟩ := b2 h
    obtain ⟨h4, h⟩ := b2 h
    obtain ⟨h5, h6⟩ := b2 h
    obtain ⟨o1, o2, o3⟩ := okN_of h3
    refine S3.of ?_ rfl (by simp only [evN])
    rw [ev]
    cases es' with
    | nil => cases h5
    | cons e1 es1 => exact je_callO c tk hbs (by rw [s.n]; exact of_decide_eq_true h1) (by rw [s.sc]; exact vis_of h2) o1 o2 ((he X sc W bs n g _ c s tk hbs h6).2.1 (noStar_of h4) M) (noStar_of h4)
  · cases h
end
section
variable (G : Pg) (fa : Str → Addr) (cf : Nat → Cf) (k : Nat) (gfn : Str → Bool) (T : List (Addr × Str)) (N : List Str)
mutual
theorem snd : ∀ e : Ex, Snd G fa cf k gfn T N e
  | .v _ => snd_v
  | .int _ => snd_int
  | .bl _ => snd_bl
  | .str _ => snd_str
  | .non => snd_non
  | .gc _ => snd_gc
  | .gcl _ => snd_gcl
  | .gty _ => snd_gty
  | .bin _ a b => snd_bin (snd a) (snd b)
  | .neg a => snd_neg (snd a)
  | .cmp _ a b => snd_cmp (snd a) (snd b)
  | .chn _ _ a b c => snd_chn (snd a) (snd b) (snd c)
  | .and a b => snd_and (snd a) (snd b)
  | .or a b => snd_or (snd a) (snd b)
  | .nt a => snd_nt (snd a)
  | .ite c a b => snd_ite (snd c) (snd a) (snd b)
  | .tup es => snd_tup (sndL es)
  | .lst es => snd_lst (sndL es)
  | .dct _ _ => snd_dct
  | .sub a b => snd_sub (snd a) (snd b)
  | .sl a lo hi => snd_sl (snd a) (sndO lo) (sndO hi)
  | .rev a => snd_rev (snd a)
  | .att a _ => snd_att (snd a)
  | .cf _ es _ kes => snd_cf (sndL es) (sndL kes)
  | .cb _ es => snd_cb (sndL es)
  | .mk _ es => snd_mk (sndL es)
  | .met a _ es => snd_met (snd a) (sndL es)
  | .bm a _ es => snd_bm (snd a) (sndL es)
  | .lc a _ it cs => snd_lc (snd a) (sndI it) (sndC cs)
  | .fst es => snd_fst (sndF es)
  | .cel a => snd_cel (snd a)
  | .frz a => snd_frz (snd a)
  | .star _ => snd_star
  | .said a => snd_said (snd a)
  | .call _ es => snd_call (sndL es)
theorem sndL : ∀ es : List Ex, SndL G fa cf k gfn T N es
  | [] => sndL_nil
  | e :: es => sndL_cons (snd e) (sndL es)
theorem sndO : ∀ o : Option Ex, SndO G fa cf k gfn T N o
  | none => sndO_none
  | some e => sndO_some (snd e)
theorem sndC : ∀ o : Option Ex, SndC G fa cf k gfn T N o
  | none => sndC_none
  | some e => sndC_some (snd e)
theorem sndF : ∀ es : List Ex, SndF G fa cf k gfn T N es
  | [] => sndF_nil
  | e :: es => sndF_cons (snd e) (sndF es)
theorem sndI : ∀ it : It, SndI G fa cf k gfn T N it
  | .ex e => sndI_ex (snd e)
  | .rng es => sndI_rng (sndL es)
  | .zip a b => sndI_zip (snd a) (snd b)
  | .enum a => sndI_enum (snd a)
end
end
end Iv
namespace Iv
open PySem PySem.Spec PyProof.Rows L2 LamX
/-! ## statements: the check -/
def notTup : Expr → Bool
  | .Tuple _ _ _ => false
  | _ => true
def isStarB : Expr → Bool
  | .Starred _ _ => true
  | _ => false
def swC (sc : Scope) (ts vs : List Expr) : Bool := !(ts.length == 2 || ts.length == 3) || vs.length != ts.length || (if sc.kind.isAnnotationScope then ScopeKind.function else sc.kind) != .function
def swM (sc : Scope) (ts : List Expr) : List Str := ts.filterMap fun
  | .Name id pos => if sc.names.lookup id == some .local && pos.line == (ts.head?.map (·.pos.line)).getD 0 then some id else none
  | _ => none
def swD (sc : Scope) (ts : List Expr) : Bool := (swM sc ts).length != ts.length || (swM sc ts).eraseDups.length != (swM sc ts).length
/-- are the stores of (..) = (..) turned round: their names, by the scope alone -/
def swN (sc : Scope) (ts vs : List Expr) : Option (Option (List Str)) :=
  if swC sc ts vs = true then some none
  else if vs.any isStarB = true then some none
  else if swD sc ts = true then some none
  else if vs.all (foldedForSure 8) = true then some none
  else if vs.all (constantsAlone 8) = true then none
  else some (some (swM sc ts))
def swT (sc : Scope) (tg v : Expr) : Option (Option (List Str)) := match tg, v with
  | .Tuple ts _ _, .Tuple vs _ _ => swN sc ts vs
  | .List _ _, _ => none
  | _, _ => some none
def parB (sc : Scope) (ts : List Tg) (tg v : Expr) (e : Ex) (names : List Str) : Bool := match tg, v, ts, e with
  | .Tuple [.Name x _, .Name y _] _ _, .Tuple [a, b] _ _, [.nm i, .nm j], .tup [_, _] => decide (names = [x, y]) && (decide (i ≠ j) && (lclB sc x && (lclB sc y && noStarB [a, b])))
  | .Tuple [.Name x _, .Name y _, .Name z _] _ _, .Tuple [a, b, c] _ _, [.nm i, .nm j, .nm k], .tup [_, _, _] => decide (names = [x, y, z]) && (decide (i ≠ j) && (decide (i ≠ k) && (decide (j ≠ k) && (lclB sc x && (lclB sc y && (lclB sc z && noStarB [a, b, c]))))))
  | _, _, _, _ => false
/-- does the store come ahead of the comprehension's end -/
def swapB (sc : Scope) (x : Str) (p : Pos) (v : Expr) : Bool := match v with
  | .ListComp _ _ s vp => lclB sc x && (p.line == vp.line) && !(s.names.any fun (n, k) => n == x && (k == .local || k == .cell))
  | _ => false
def isLcE : Expr → Bool
  | .ListComp _ _ _ _ => true
  | _ => false
structure CxB (G : Pg) (k : Nat) (T : List (Addr × Str)) (X : Cx) (sc : Sc) (N : List Str) : Prop where
  s : CxS G k T X sc N
  kind : sc.kind = .function
  fnc : ∀ x, sc.names.lookup x = some .cell → X.fn x = true
  pas : PassesOwn (model X.prog X.w) X.A X.env X.xe
section
variable (G : Pg) (gfn : Str → Bool) (N : List Str)
mutual
def chkT (sc : Sc) : Tg → Expr → Bool
  | .nm i, e' => (match e' with | .Name x _ => decide (N[i]? = some x) && locB sc x | _ => false)
  | .tup ts, e' => (match e' with | .Tuple es _ _ => noStarB es && (decide (es.length = ts.length) && chkTs sc ts es) | _ => false)
  | .sub a i, e' => (match e' with | .Subscript a' i' _ => notSl i' && (chkE G gfn N sc a a' && chkE G gfn N sc i i') | _ => false)
  | .att _ _, _ => false
def chkTs (sc : Sc) : List Tg → List Expr → Bool
  | [], es => (match es with | [] => true | _ => false)
  | t :: ts, es => (match es with | e :: es' => chkT sc t e && chkTs sc ts es' | _ => false)
end
/-- y = [..] -/
def chkLc (sc : Sc) (e : Ex) (v : Expr) : Bool := match e with
  | .lc _ _ _ _ => chkE G gfn N sc e v
  | .cel (.lc a b c d) => chkE G gfn N sc (.lc a b c d) v
  | _ => false
mutual
def chkS (sc : Sc) : Sm → Stmt → Bool
  | .asg t e, st => (match st with
    | .Assign [tg] v _ => (match t with
      | .att a f => (match tg with | .Attribute a' f' _ => decide (f = f') && (chkE G gfn N sc a a' && chkE G gfn N sc e v) | _ => false)
      | .nm i => (match tg with
        | .Name x p => decide (N[i]? = some x) && (locB sc x && (if swapB sc x p v = true then chkLc G gfn N sc e v else (notComp v || isLcE v) && chkE G gfn N sc e v))
        | _ => false)
      | .tup ts => (match swT sc tg v with | some none => true | some (some ns) => parB sc ts tg v e ns | none => false) && (chkT G gfn N sc (.tup ts) tg && chkE G gfn N sc e v)
      | .sub a i => (match tg with | .Subscript _ _ _ => chkT G gfn N sc (.sub a i) tg && chkE G gfn N sc e v | _ => false))
    | _ => false)
  | .par _ _, _ => false
  | .aug i op e, st => (match st with
    | .AugAssign (.Name x _) op' v _ => decide (op = op') && (decide (N[i]? = some x) && (locB sc x && chkE G gfn N sc e v))
    | _ => false)
  | .ex e, st => (match st with | .Expr v _ => notComp v && chkE G gfn N sc e v | _ => false)
  | .ret e, st => (match st with | .Return (some v) _ => chkE G gfn N sc e v | _ => false)
  | .retN, st => (match st with | .Return none _ => true | _ => false)
  | .rai C es, st => (match st with
    | .Raise (some (.Call (.Name y _) es' [] _)) none _ => decide (C.nm = y) && (G.has C && (globB sc y && (okN y && (noStarB es' && chkL G gfn N sc es es'))))
    | _ => false)
  | .ifs c a b, st => (match st with | .If c' a' b' _ => chkE G gfn N sc c c' && (chkB sc a a' && chkB sc b b') | _ => false)
  | .for t it b, st => (match st with | .For t' it' b' [] _ => chkT G gfn N sc t t' && (notSet it' && (chkI G gfn N sc it t' it' && chkB sc b b')) | _ => false)
  | .whl c b, st => (match st with | .While c' b' [] _ => chkE G gfn N sc c c' && chkB sc b b' | _ => false)
  | .brk, st => (match st with | .Break _ => true | _ => false)
  | .cnt, st => (match st with | .Continue _ => true | _ => false)
  | .pass, st => (match st with | .Pass _ => true | _ => false)
def chkB (sc : Sc) : List Sm → List Stmt → Bool
  | [], ss => (match ss with | [] => true | _ => false)
  | s :: r, ss => (match ss with | s' :: r' => chkS sc s s' && chkB sc r r' | _ => false)
end
end
/-! ## swaps -/
theorem sw_attr {v a : Expr} {f : Str} {p : Pos} {l : Nat} {env : PySem.Env} : swapsWith v (some (.Attribute a f p)) l env = pure false := by
  cases v <;> rfl
theorem sw_tup {v : Expr} {es : List Expr} {kk : Nat} {p : Pos} {l : Nat} {env : PySem.Env} : swapsWith v (some (.Tuple es kk p)) l env = pure false := by
  cases v <;> rfl
theorem sw_sub {v a i : Expr} {p : Pos} {l : Nat} {env : PySem.Env} : swapsWith v (some (.Subscript a i p)) l env = pure false := by
  cases v <;> rfl
theorem sst_sub {v a i : Expr} {p : Pos} {env : PySem.Env} : swappedStores [.Subscript a i p] v env = pure none := rfl
theorem sst_of {sc : Scope} {tg v : Expr} {env : PySem.Env} {o : Option (List Str)} (he : env.scope = sc) (h : swT sc tg v = some o) : swappedStores [tg] v env = pure o := by
  unfold swT at h
  split at h
  · rename_i ts k1 p1 vs k2 p2
    unfold swN at h
    subst he
    by_cases h1 : swC env.scope ts vs = true
    · rw [if_pos h1] at h
      cases h
      exact if_pos h1
    · rw [if_neg h1] at h
      refine (if_neg h1).trans ?_
      by_cases h2 : vs.any isStarB = true
      · rw [if_pos h2] at h
        cases h
        exact if_pos h2
      · rw [if_neg h2] at h
        refine (if_neg h2).trans ?_
        by_cases h3 : swD env.scope ts = true
        · rw [if_pos h3] at h
          cases h
          exact if_pos h3
        · rw [if_neg h3] at h
          refine (if_neg h3).trans ?_
          by_cases h4 : vs.all (foldedForSure 8) = true
          · rw [if_pos h4] at h
            cases h
            exact if_pos h4
          · rw [if_neg h4] at h
            refine (if_neg h4).trans ?_
            by_cases h5 : vs.all (constantsAlone 8) = true
            · rw [if_pos h5] at h
              cases h
            · rw [if_neg h5] at h
              cases h
              exact if_neg h5
  · cases h
  · rename_i hm hn
    cases h
    cases tg <;> cases v <;> first | rfl | exact (hn _ _ _ _ _ _ rfl rfl).elim | exact (hm _ _ rfl).elim
theorem sst_tup {v : Expr} {es : List Expr} {kk : Nat} {p : Pos} {env : PySem.Env} (h : notTup v = true) : swappedStores [.Tuple es kk p] v env = pure none := by
  cases v <;> first | rfl | cases h
theorem sw_false {sc : Scope} {x : Str} {p : Pos} {v : Expr} {l : Nat} {env : PySem.Env} (he : env.scope = sc) (hk : sc.kind = .function) (h : ¬ swapB sc x p v = true) (hv : (notComp v || isLcE v) = true) : swapsWith v (some (.Name x p)) l env = pure false := by
  by_cases hn : notComp v = true
  · exact sw_plain hn
  · cases v with
    | ListComp elt gs s vp =>
      subst he
      have e : swapsWith (.ListComp elt gs s vp) (some (.Name x p)) l env = pure (env.blockKind == .function && env.kindOf x == some .local && p.line == vp.line && !(s.names.any fun (n, k) => n == x && (k == .local || k == .cell))) := rfl
      rw [e]
      congr 1
      unfold swapB at h
      dsimp only at h
      unfold Env.kindOf
      cases q : env.scope.names.lookup x with
      | none => simp
      | some kd =>
        cases kd with
        | «local» =>
          have hl : lclB env.scope x = true := by
            unfold lclB
            rw [q]
          rw [hl] at h
          cases q2 : (p.line == vp.line) with
          | false => simp
          | true =>
            rw [q2] at h
            cases q3 : (s.names.any fun (n, k) => n == x && (k == .local || k == .cell)) with
            | true => simp
            | false =>
              rw [q3] at h
              exact absurd rfl h
        | _ => simp
    | _ => first | exact absurd rfl hn | cases hv
theorem swB_true {sc : Scope} {x : Str} {p : Pos} {v : Expr} {l : Nat} {env : PySem.Env} (he : env.scope = sc) (hk : sc.kind = .function) (h : swapB sc x p v = true) : (∃ elt gs s vp, v = .ListComp elt gs s vp) ∧ sc.names.lookup x = some .local ∧ swapsWith v (some (.Name x p)) l env = pure true := by
  unfold swapB at h
  split at h
  · rename_i elt gs s vp
    obtain ⟨h1, h2⟩ := b2 h
    obtain ⟨h1, h3⟩ := b2 h1
    have hl := lcl_of h1
    exact ⟨⟨_, _, _, _, rfl⟩, hl, sw_true (by rw [he]; exact hk) (by rw [he]; exact hl) h3 (by simpa using h2)⟩
  · cases h
end Iv
namespace Iv
open PySem PySem.Spec PyProof.Rows L2 LamX
section
variable {G : Pg} {fa : Str → Addr} {cf : Nat → Cf} {k b : Nat} {gfn : Str → Bool} {T : List (Addr × Str)} {N : List Str}
def Fin3 (o : Out) : Prop := (∃ g' M', o = .nx g' M') ∨ (∃ C fs g' M', o = .ex C fs g' M') ∨ o = .no
theorem fin3_out {α : Type} {r : R α} {g : Ga} {f : α → Me → Out} (h : ∀ a M, Fin3 (f a M)) : Fin3 (R.out g r f) := by
  cases r with
  | ok a M => exact h a M
  | ex C fs M => exact .inr (.inl ⟨_, _, _, _, rfl⟩)
  | no => exact .inr (.inr rfl)
mutual
theorem sto_fin : ∀ {t : Tg} {g : Ga} {d : D} {M : Me}, Fin3 (sto G cf b t g d M)
  | .nm i, g, d, M => by
    rw [sto]
    split
    · exact .inl ⟨_, _, rfl⟩
    · exact .inr (.inr rfl)
  | .tup ts, g, d, M => by
    rw [sto]
    split
    · split
      · exact stos_fin
      · exact .inr (.inr rfl)
    · exact .inr (.inr rfl)
  | .sub x y, g, d, M => by
    rw [sto]
    exact fin3_out fun _ _ => .inl ⟨_, _, rfl⟩
  | .att x f, g, d, M => by
    rw [sto]
    exact fin3_out fun _ _ => .inl ⟨_, _, rfl⟩
theorem stos_fin : ∀ {ts : List Tg} {g : Ga} {ds : List D} {M : Me}, Fin3 (stos G cf b ts g ds M)
  | [], g, [], M => by
    rw [stos]
    exact .inl ⟨_, _, rfl⟩
  | [], g, _ :: _, M => by
    simp only [stos]
    exact .inr (.inr rfl)
  | _ :: _, g, [], M => by
    simp only [stos]
    exact .inr (.inr rfl)
  | t :: ts, g, d :: ds, M => by
    rw [stos]
    split
    · exact stos_fin
    · exact .inr (.inl ⟨_, _, _, _, rfl⟩)
    · exact .inr (.inr rfl)
end
variable {X : Cx} {sc : Sc} {W : WX} {bs : List Nat}
mutual
theorem sndT (c : Cxt G fa cf k T gfn X) (s : CxB G k T X sc N) (tk : Takes X W) (hbs : ∀ x ∈ bs, x ≤ b) : ∀ {t : Tg} {tg : Expr}, chkT G gfn N sc t tg = true → ∀ d g M, JG X T bs W g M tg d (sto G cf b t g d M)
  | .nm i, tg, h, d, g, M => by
    unfold chkT at h
    split at h
    · rename_i x p
      obtain ⟨h1, h2⟩ := b2 h
      have hl := loc_of h2
      rw [sto]
      refine jg_nm c.nd (by rw [s.s.n]; exact of_decide_eq_true h1) (by rw [s.s.sc]; exact hl) ?_
      rcases hl with z | z
      · exact .inr (by rw [s.s.sc]; exact z)
      · exact .inl (s.fnc x z)
    · cases h
  | .tup ts, tg, h, d, g, M => by
    unfold chkT at h
    split at h
    · rename_i es kk p
      obtain ⟨h1, h⟩ := b2 h
      obtain ⟨h2, h3⟩ := b2 h
      have h2 := of_decide_eq_true h2
      have z := jg_tup (pos := p) (kk := kk) (ts := ts) (d := d) (g := g) (M := M) (T := T) (bs := bs) (W := W) (f := fun ds => if ds.length = ts.length then stos G cf b ts g ds M else .no) c.calm (fun ds => by
        by_cases hl : ds.length = ts.length
        · rw [if_pos hl]
          exact sndTs c s tk hbs h3 (noStar_of h1) ds g M hl
        · rw [if_neg hl]
          exact jgs_no) (fun ds hl => if_neg fun q => hl (by rw [q, h2])) (noStar_of h1)
      rw [sto]
      exact z
    · cases h
  | .sub a i, tg, h, d, g, M => by
    unfold chkT at h
    split at h
    · obtain ⟨h1, h⟩ := b2 h
      obtain ⟨h2, h3⟩ := b2 h
      rw [sto]
      exact jg_sub (by have := c.room.units; omega) hbs (snd G fa cf k gfn T N a X sc W bs b g M _ c s.s tk hbs h2).je (fun M1 => (snd G fa cf k gfn T N i X sc W bs b g M1 _ c s.s tk hbs h3).je) h1
    · cases h
  | .att _ _, tg, h, _, _, _ => by
    unfold chkT at h
    cases h
theorem sndTs (c : Cxt G fa cf k T gfn X) (s : CxB G k T X sc N) (tk : Takes X W) (hbs : ∀ x ∈ bs, x ≤ b) : ∀ {ts : List Tg} {tgs : List Expr}, chkTs G gfn N sc ts tgs = true → NoStar tgs → ∀ ds g M, ds.length = ts.length → JGs X T bs W g M tgs ds (stos G cf b ts g ds M)
  | [], tgs, h, _, ds, g, M, hl => by
    unfold chkTs at h
    split at h
    · cases ds with
      | nil => rw [stos]; exact jgs_nil
      | cons _ _ => cases hl
    · cases h
  | t :: ts, tgs, h, ns, ds, g, M, hl => by
    unfold chkTs at h
    split at h
    · obtain ⟨h1, h2⟩ := b2 h
      cases ds with
      | nil => cases hl
      | cons d ds =>
        rw [stos]
        exact jgs_cons (sndT c s tk hbs h1 d g M) (fun g' M' => sndTs c s tk hbs h2 ns.tail ds g' M' (by simpa using hl)) ns
    · cases h
end
end
end Iv
namespace Iv
open PySem PySem.Spec PyProof.Rows L2 LamX
section
variable {G : Pg} {fa : Str → Addr} {cf : Nat → Cf} {k b : Nat} {gfn : Str → Bool} {T : List (Addr × Str)} {N : List Str} {X : Cx} {sc : Sc} {W : WX} {bs : List Nat}
theorem hf_of (s : CxB G k T X sc N) {x : Str} (h : locB sc x = true) : L2.Loc X.env.scope x ∧ (X.fn x = true ∨ X.env.scope.names.lookup x = some .local) := by
  have hl := loc_of h
  refine ⟨by rw [s.s.sc]; exact hl, ?_⟩
  rcases hl with z | z
  · exact .inr (by rw [s.s.sc]; exact z)
  · exact .inl (s.fnc x z)
theorem if_out {g : Ga} {ra : R D} {f1 f2 : Me → Out} : (R.out g ra fun d M1 => match tru M1 d with | some true => f1 M1 | some false => f2 M1 | none => .no) = R.out g (truR ra) fun z M1 => if z = true then f1 M1 else f2 M1 := by
  cases ra with
  | no => rfl
  | ex C fs M1 => rfl
  | ok d M1 =>
    unfold truR
    rw [R.bind_ok]
    show (match tru M1 d with | some true => f1 M1 | some false => f2 M1 | none => Out.no) = _
    cases tru M1 d with
    | none => rfl
    | some z => cases z <;> rfl
theorem lc_parts {a : Ex} {tg : Tg} {it : It} {cs : Option Ex} {i : Nat} {g : Ga} {M : Me} {y : Str} {py spos : Pos} {v : Expr} {fin : List D → Me → R D} (hfin : (∀ ds M1, fin ds M1 = .ok (.lst ds) M1) ∨ (∀ ds M1, fin ds M1 = .ok (.cel M1.length) (M1 ++ [.lst ds])))
    (c : Cxt G fa cf k T gfn X) (s : CxB G k T X sc N) (tk : Takes X W) (hbs : ∀ x ∈ bs, x ≤ b) (hy : N[i]? = some y) (hyl : sc.names.lookup y = some .local) (hsw : swapsWith v (some (.Name y py)) spos.line X.env = pure true) (h : chkE G gfn N sc (.lc a tg it cs) v = true) :
    JS X T bs W g M (.Assign [.Name y py] v spos) (R.out g (((evi G cf b it g M).bind fun wk M1 => (lcL (lcT tg (wipeG g tg.slots) (evc G cf b cs) (ev G cf b a)) (wkO wk) wk.1 M1).bind fun ds M5 => if wk.1.length ≤ 50000 then .ok ds M5 else .no).bind fin) fun d M1 => if i < g.length then .nx (g.set i (some d)) M1 else .no) := by
  unfold chkE at h
  split at h
  · rename_i e1 tg' it' ifs' scope pos
    obtain ⟨h1, h⟩ := b2 h
    obtain ⟨h2, h⟩ := b2 h
    obtain ⟨h3, h⟩ := b2 h
    obtain ⟨h4, h⟩ := b2 h
    obtain ⟨h5, h6⟩ := b2 h
    have ok := blkOk_by h2
    refine js_setLc (own := ownOf N tg) hfin c.calm c.nd (by rw [s.s.n]; exact hy) (by rw [s.s.sc]; exact hyl) hsw (sndI G fa cf k gfn T N it X sc W bs b g tg' _ c s.s tk hbs h4 M) (by rw [s.s.sc, s.s.n]; exact ok) own_slots (fun sh H C cl fp => tn_ok c s.s sh H C cl fp h1 fun _ z => z) (fun sh H C cl fp => ?_) (fun sh H C cl fp => ?_) (notSet_fold h3)
    · rcases sndC G fa cf k gfn T N cs (X.blk sh H scope (compEnvC scope cl C X.env) fp) ⟨relS scope sc, false⟩ noW bs b ifs' c.blk s.s.blk takes_blk hbs h6 with ⟨z1, z2⟩ | ⟨e2, z1, z2⟩
      · subst z1 z2
        exact ⟨fun pins s σ H Q I ⟨A, M, g, S, kk⟩ => pts_nil.run pins s σ H Q I (by
          rw [evc] at kk
          exact kk.get S rfl)⟩
      · subst z1
        exact ⟨fun pins s σ H Q I ⟨A, M, g, S, kk⟩ => (pts_one (z2 g M)).run pins s σ H Q I ⟨A, S, kk⟩⟩
    · exact ⟨fun pins s2 σ H' Q I ⟨A, M, g, S, kk⟩ => (snd G fa cf k gfn T N a (X.blk sh H scope (compEnvC scope cl C X.env) fp) ⟨relS scope sc, false⟩ noW bs b g M _ c.blk s.s.blk takes_blk hbs h5).je.run pins s2 σ H' Q I ⟨A, S, kk⟩⟩
  · cases h
end
end Iv
namespace Iv
open PySem PySem.Spec PyProof.Rows L2 LamX
section
variable {G : Pg} {fa : Str → Addr} {cf : Nat → Cf} {k b : Nat} {gfn : Str → Bool} {T : List (Addr × Str)} {N : List Str} {X : Cx} {sc : Sc} {W : WX} {bs : List Nat}
theorem nm_of {i : Nat} {e : Expr} (h : chkT G gfn N sc (.nm i) e = true) : ∃ x p, e = .Name x p ∧ N[i]? = some x := by
  unfold chkT at h
  split at h
  · exact ⟨_, _, rfl, of_decide_eq_true (b2 h).1⟩
  · cases h
/-- a, b = x, y, the stores turned round -/
theorem snd_par (c : Cxt G fa cf k T gfn X) (s : CxB G k T X sc N) (tk : Takes X W) (hbs : ∀ x ∈ bs, x ≤ b) {ts : List Tg} {e : Ex} {tg v : Expr} {ns : List Str} {pos : Pos} {g : Ga} {M : Me} (hsw : swT sc tg v = some (some ns)) (h1 : parB sc ts tg v e ns = true) (h2 : chkT G gfn N sc (.tup ts) tg = true) (h3 : chkE G gfn N sc e v = true) :
    JS X T bs W g M (.Assign [tg] v pos) (R.out g (ev G cf b e g M) fun d M1 => sto G cf b (.tup ts) g d M1) := by
  have hw := sst_of (env := X.env) s.s.sc hsw
  unfold parB at h1
  split at h1
  · rename_i x px y py kt pt a bb k2 pt2 i j e1 e2
    obtain ⟨p1, h1⟩ := b2 h1
    obtain ⟨p2, h1⟩ := b2 h1
    obtain ⟨p3, h1⟩ := b2 h1
    obtain ⟨p4, p5⟩ := b2 h1
    have en := of_decide_eq_true p1
    subst en
    unfold chkT at h2
    dsimp only at h2
    obtain ⟨_, h2⟩ := b2 h2
    obtain ⟨_, h2⟩ := b2 h2
    unfold chkTs at h2
    dsimp only at h2
    obtain ⟨q1, h2⟩ := b2 h2
    unfold chkTs at h2
    dsimp only at h2
    obtain ⟨q2, h2⟩ := b2 h2
    obtain ⟨_, _, z1, hi⟩ := nm_of q1
    obtain ⟨_, _, z2, hj⟩ := nm_of q2
    cases z1
    cases z2
    unfold chkE at h3
    dsimp only at h3
    obtain ⟨h4, h5⟩ := b2 h3
    have E := sndL G fa cf k gfn T N [e1, e2] X sc W bs b g _ c s.s tk hbs h5
    refine JS.eq (js_par2 c.calm c.nd (by rw [s.s.n]; exact hi) (by rw [s.s.n]; exact hj) (of_decide_eq_true p2) (by rw [s.s.sc]; exact lcl_of p3) (by rw [s.s.sc]; exact lcl_of p4) (E.2.1 (noStar_of h4) M) (fun ds M1 z => ?_) hw rfl) ?_
    · exact evs_len z
    · rw [ev]
      cases q : evs G cf b [e1, e2] g M with
      | no => rfl
      | ex C fs M1 => rfl
      | ok ds M1 =>
        match ds, evs_len q with
        | [d1, d2], _ =>
          have hm : ([d1, d2] : List D).length ≤ maxL := (by decide : 2 ≤ 100000)
          rw [R.bind_ok, if_pos hm]
          simp only [R.out, sto, seqOf, stos, setIs, List.length_cons, List.length_nil, List.all_cons, List.all_nil, Bool.and_true]
          by_cases l1 : i < g.length <;> by_cases l2 : j < g.length <;> simp [l1, l2]
  · rename_i x px y py z pz kt pt a bb cc k2 pt2 i j l e1 e2 e3
    obtain ⟨p1, h1⟩ := b2 h1
    obtain ⟨p2, h1⟩ := b2 h1
    obtain ⟨p3, h1⟩ := b2 h1
    obtain ⟨p4, h1⟩ := b2 h1
    obtain ⟨p5, h1⟩ := b2 h1
    obtain ⟨p6, h1⟩ := b2 h1
    obtain ⟨p7, p8⟩ := b2 h1
    have en := of_decide_eq_true p1
    subst en
    unfold chkT at h2
    dsimp only at h2
    obtain ⟨_, h2⟩ := b2 h2
    obtain ⟨_, h2⟩ := b2 h2
    unfold chkTs at h2
    dsimp only at h2
    obtain ⟨q1, h2⟩ := b2 h2
    unfold chkTs at h2
    dsimp only at h2
    obtain ⟨q2, h2⟩ := b2 h2
    unfold chkTs at h2
    dsimp only at h2
    obtain ⟨q3, h2⟩ := b2 h2
    obtain ⟨_, _, z1, hi⟩ := nm_of q1
    obtain ⟨_, _, z2, hj⟩ := nm_of q2
    obtain ⟨_, _, z3, hk⟩ := nm_of q3
    cases z1
    cases z2
    cases z3
    unfold chkE at h3
    dsimp only at h3
    obtain ⟨h4, h5⟩ := b2 h3
    have E := sndL G fa cf k gfn T N [e1, e2, e3] X sc W bs b g _ c s.s tk hbs h5
    refine JS.eq (js_par3 c.calm c.nd (by rw [s.s.n]; exact hi) (by rw [s.s.n]; exact hj) (by rw [s.s.n]; exact hk) (of_decide_eq_true p2) (of_decide_eq_true p3) (of_decide_eq_true p4) (by rw [s.s.sc]; exact lcl_of p5) (by rw [s.s.sc]; exact lcl_of p6) (by rw [s.s.sc]; exact lcl_of p7) (E.2.1 (noStar_of h4) M) (fun ds M1 z => ?_) hw rfl) ?_
    · exact evs_len z
    · rw [ev]
      cases q : evs G cf b [e1, e2, e3] g M with
      | no => rfl
      | ex C fs M1 => rfl
      | ok ds M1 =>
        match ds, evs_len q with
        | [d1, d2, d3], _ =>
          have hm : ([d1, d2, d3] : List D).length ≤ maxL := (by decide : 3 ≤ 100000)
          rw [R.bind_ok, if_pos hm]
          simp only [R.out, sto, seqOf, stos, setIs, List.length_cons, List.length_nil, List.all_cons, List.all_nil, Bool.and_true]
          by_cases l1 : i < g.length <;> by_cases l2 : j < g.length <;> by_cases l3 : l < g.length <;> simp [l1, l2, l3]
  · cases h1
theorem snd_asg (c : Cxt G fa cf k T gfn X) (s : CxB G k T X sc N) (tk : Takes X W) (hbs : ∀ x ∈ bs, x ≤ b) {t : Tg} {e : Ex} {st : Stmt} (h : chkS G gfn N sc (.asg t e) st = true) (g : Ga) (M : Me) : JS X T bs W g M st (exec G cf b (.asg t e) g M) := by
  unfold chkS at h
  split at h
  · rename_i tg v pos
    rw [exec]
    have E := fun h => snd G fa cf k gfn T N e X sc W bs b g M v c s.s tk hbs h
    split at h
    · rename_i a f
      split at h
      · obtain ⟨h1, h⟩ := b2 h
        obtain ⟨h2, h3⟩ := b2 h
        have q := of_decide_eq_true h1
        subst q
        refine JS.eq (js_fld (G := G) c hbs (E h3).je (fun M1 => (snd G fa cf k gfn T N a X sc W bs b g M1 _ c s.s tk hbs h2).je) sw_attr) ?_
        congr 1
      · cases h
    · rename_i i
      split at h
      · rename_i x p
        obtain ⟨h1, h⟩ := b2 h
        obtain ⟨h2, h3⟩ := b2 h
        have hN := of_decide_eq_true h1
        obtain ⟨hl, hf⟩ := hf_of s h2
        split at h3
        · rename_i hsw
          obtain ⟨_, hyl, hs⟩ := swB_true (l := pos.line) s.s.sc s.kind hsw
          have est : ∀ d M1, sto G cf b (.nm i) g d M1 = if i < g.length then .nx (g.set i (some d)) M1 else .no := fun d M1 => by rw [sto]
          unfold chkLc at h3
          split at h3
          · rename_i a t2 it cs
            refine JS.eq (lc_parts (fin := fun ds M1 => .ok (.lst ds) M1) (.inl fun _ _ => rfl) c s tk hbs hN hyl hs h3) ?_
            rw [lc_eq, ev]
            congr 1
          · rename_i a t2 it cs
            refine JS.eq (lc_parts (fin := fun ds M1 => .ok (.cel M1.length) (M1 ++ [.lst ds])) (.inr fun _ _ => rfl) c s tk hbs hN hyl hs h3) ?_
            rw [lc_eq, ev, evN, lc_eqC]
            congr 1
          · cases h3
        · obtain ⟨h4, h5⟩ := b2 h3
          exact js_asg (E h5).je (fun d M1 => by rw [sto]; exact jg_nm c.nd (by rw [s.s.n]; exact hN) hl hf) (show swapsWith v (some (.Name x p)) pos.line X.env = pure false from sw_false s.s.sc s.kind ‹_› h4) sst_name (noStar_one fun _ _ z => nomatch z) fun d M1 => sto_fin
      · cases h
    · rename_i ts
      obtain ⟨h1, h⟩ := b2 h
      obtain ⟨h2, h3⟩ := b2 h
      have h2' := h2
      unfold chkT at h2'
      split at h2'
      · rename_i es9 k9 p9 h9
        split at h1
        · rename_i hsw
          exact js_asg (E h3).je (fun d M1 => sndT c s tk hbs h2 d g M1) (show swapsWith v (some (.Tuple es9 k9 p9)) pos.line X.env = pure false from sw_tup) (sst_of s.s.sc hsw) (noStar_one fun _ _ z => nomatch z) fun d M1 => sto_fin
        · rename_i ns hsw
          exact snd_par c s tk hbs hsw h1 h2 h3
        · cases h1
      · cases h2'
    · split at h
      · rename_i a9 i9 p9
        obtain ⟨h2, h3⟩ := b2 h
        exact js_asg (E h3).je (fun d M1 => sndT c s tk hbs h2 d g M1) (show swapsWith v (some (.Subscript a9 i9 p9)) pos.line X.env = pure false from sw_sub) sst_sub (noStar_one fun _ _ z => nomatch z) fun d M1 => sto_fin
      · cases h
  · cases h
mutual
theorem sndS (c : Cxt G fa cf k T gfn X) (s : CxB G k T X sc N) (tk : Takes X W) (hbs : ∀ x ∈ bs, x ≤ b) : ∀ {m : Sm} {st : Stmt}, chkS G gfn N sc m st = true → ∀ g M, JS X T bs W g M st (exec G cf b m g M)
  | .asg t e, st, h, g, M => snd_asg c s tk hbs h g M
  | .par _ _, st, h, g, M => by
    unfold chkS at h
    cases h
  | .aug i op e, st, h, g, M => by
    unfold chkS at h
    split at h
    · obtain ⟨h1, h⟩ := b2 h
      obtain ⟨h2, h⟩ := b2 h
      obtain ⟨h3, h4⟩ := b2 h
      have q := of_decide_eq_true h1
      subst q
      obtain ⟨hl, hf⟩ := hf_of s h3
      rw [exec]
      exact js_aug c.nd (by rw [s.s.n]; exact of_decide_eq_true h2) hl (snd G fa cf k gfn T N e X sc W bs b g M _ c s.s tk hbs h4).je hf
    · cases h
  | .ex e, st, h, g, M => by
    unfold chkS at h
    split at h
    · obtain ⟨h1, h2⟩ := b2 h
      rw [exec]
      exact js_ex (snd G fa cf k gfn T N e X sc W bs b g M _ c s.s tk hbs h2).je (sw_plain h1)
    · cases h
  | .ret e, st, h, g, M => by
    unfold chkS at h
    split at h
    · rw [exec]
      exact js_ret (snd G fa cf k gfn T N e X sc W bs b g M _ c s.s tk hbs h).je
    · cases h
  | .retN, st, h, g, M => by
    unfold chkS at h
    split at h
    · rw [exec]
      exact js_retN
    · cases h
  | .rai C es, st, h, g, M => by
    unfold chkS at h
    split at h
    · obtain ⟨h1, h⟩ := b2 h
      obtain ⟨h2, h⟩ := b2 h
      obtain ⟨h3, h⟩ := b2 h
      obtain ⟨h4, h⟩ := b2 h
      obtain ⟨h5, h6⟩ := b2 h
      have e := of_decide_eq_true h1
      subst e
      have E := sndL G fa cf k gfn T N es X sc W bs b g _ c s.s tk hbs h6
      rw [exec]
      exact js_rai c tk h2 (gl_of s.s h3) (noStar_of h5) (okN_of h4).1 (E.2.1 (noStar_of h5) M) fun z => nil_of (X := X) (sc := sc) E.1 z
    · cases h
  | .ifs cnd a b', st, h, g, M => by
    unfold chkS at h
    split at h
    · obtain ⟨h1, h⟩ := b2 h
      obtain ⟨h2, h3⟩ := b2 h
      rw [exec]
      exact JS.eq (js_if (snd G fa cf k gfn T N cnd X sc W bs b g M _ c s.s tk hbs h1).jt (fun M1 => sndB c s tk hbs h2 g M1) fun M1 => sndB c s tk hbs h3 g M1) if_out
    · cases h
  | .for t it body, st, h, g, M => by
    unfold chkS at h
    split at h
    · obtain ⟨h1, h⟩ := b2 h
      obtain ⟨h2, h⟩ := b2 h
      obtain ⟨h3, h4⟩ := b2 h
      rw [exec]
      exact js_for (t := t) s.pas c.calm (sndI G fa cf k gfn T N it X sc W bs b g _ _ c s.s tk hbs h3 M) (fun d g M => sndT c s tk hbs h1 d g M) (fun g M => sndB c s tk hbs h4 g M) (notSet_fold h2) fun d g M => sto_fin
    · cases h
  | .whl cnd body, st, h, g, M => by
    unfold chkS at h
    split at h
    · obtain ⟨h1, h2⟩ := b2 h
      rw [exec]
      exact js_while s.pas (fun g M => (snd G fa cf k gfn T N cnd X sc W bs b g M _ c s.s tk hbs h1).jt) fun g M => sndB c s tk hbs h2 g M
    · cases h
  | .brk, st, h, g, M => by
    unfold chkS at h
    split at h
    · rw [exec]
      exact js_brk
    · cases h
  | .cnt, st, h, g, M => by
    unfold chkS at h
    split at h
    · rw [exec]
      exact js_cnt
    · cases h
  | .pass, st, h, g, M => by
    unfold chkS at h
    split at h
    · rw [exec]
      exact js_pass
    · cases h
theorem sndB (c : Cxt G fa cf k T gfn X) (s : CxB G k T X sc N) (tk : Takes X W) (hbs : ∀ x ∈ bs, x ≤ b) : ∀ {ms : List Sm} {sts : List Stmt}, chkB G gfn N sc ms sts = true → ∀ g M, JB X T bs W g M sts (execs G cf b ms g M)
  | [], sts, h, g, M => by
    unfold chkB at h
    split at h
    · rw [execs]
      exact jb_nil
    · cases h
  | m :: ms, sts, h, g, M => by
    unfold chkB at h
    split at h
    · obtain ⟨h1, h2⟩ := b2 h
      rw [execs]
      exact jb_cons (sndS c s tk hbs h1 g M) fun g' M' => sndB c s tk hbs h2 g' M'
    · cases h
end
end
end Iv
namespace Iv
open PySem PySem.Spec PyProof.Rows L2 LamX
section
variable {G : Pg} {fa : Str → Addr} {cf : Nat → Cf} {k : Nat} {gfn : Str → Bool} {T : List (Addr × Str)} {P : Program} {w : World} {K : PySem.W.Frag} {mg : Str → Option Value} {base : Heap}
/-- a def's body runs as callF says -/
theorem def_body (wl : Wld G fa cf k T P w K mg base gfn) {N : List Str} {f : Fn} {qual : Str} {scope : Scope} {la : Bool} {body : List Stmt} {fad : Addr} {cdv : Value} (S : FnScope N f.ps scope) (hN : N.length = f.ps.length + f.n) (hc : chkB G gfn N ⟨scope, la⟩ f.body body = true)
    (hla : la = true → SaidK G K mg ∧ ∃ c Pt : Addr, cdv = .ref c ∧ TabB base mg c Pt ∧ (Pt, qual ++ ".<locals>." ++ "<lambda>") ∈ T ∧ ∀ p ∈ T, p.1 = Pt → p.2 = qual ++ ".<locals>." ++ "<lambda>")
    (A : Around) (outer : List PySem.Env) (s : Shared) (H : Hp) (vs : List V) (Q : VK) (E : XK) (hG : A.guards = some []) (hr : Room (k + 4) (A.deeper (envOfC qual scope s.heap.objs.size fad cdv))) (hsp : spF K T f.ps.length (fun b ds M => callF G cf f b ds M) vs H Q E) :
    ∃ t, PSs (cxOf (L2.CX P w) P w K mg base N qual scope fad cdv A outer s H E) body t ∧ t { nx := fun _ H' => Q .non H', rt := Q } (L2.start N vs) H := by
  obtain ⟨A0, bs, b, M, ds, hl, hbs, S0, rl, q⟩ := hsp
  have cx : Cxt G fa cf k T gfn (cxOf (L2.CX P w) P w K mg base N qual scope fad cdv A outer s H E) := ⟨rfl, S.nd, by show (A.deeper _).guards = _; rw [guards_deeper]; exact hG, hr.mono (by omega), wl⟩
  have cb : CxB G k T (cxOf (L2.CX P w) P w K mg base N qual scope fad cdv A outer s H E) ⟨scope, la⟩ N := ⟨⟨fun z => ⟨hr, (hla z).1, (hla z).2⟩, rfl, rfl⟩, S.kind, fun _ _ => rfl, passes_of rfl⟩
  have tk : Takes (cxOf (L2.CX P w) P w K mg base N qual scope fad cdv A outer s H E) (fun cls d _ H => E cls d H) := takes_of rfl rfl rfl rfl
  have S1 := start_ok (N := N) S0 rl
  have eN : N.length - ds.length = f.n := by omega
  rw [eN] at S1
  unfold callF at q
  dsimp only at q
  rw [if_pos hl] at q
  by_cases hk : f.keep = true
  · rw [if_pos hk] at q
    exact ⟨_, sndB cx cb tk hbs hc _ M, ⟨A0, S1, kO.exit q⟩⟩
  · rw [if_neg hk] at q
    refine ⟨_, sndB (bs := M.length :: bs) (b := M.length) cx cb tk (fun x hx => ?_) hc _ M, ⟨A0, S1.enter, kO.exit (q.trunc S0)⟩⟩
    rcases List.mem_cons.mp hx with z | z
    · rw [z]
      exact Nat.le_refl _
    · exact (S0.bas x z).1
end
end Iv
namespace Iv
open PySem PySem.Spec PyProof.Rows L2 LamX
/-! ## binding -/
section
variable {α β : Type} {r : α → β → Prop}
inductive OR (r : α → β → Prop) : Option α → Option β → Prop where
  | none : OR r none none
  | some {a b} : r a b → OR r (some a) (some b)
inductive LR (r : α → β → Prop) : List α → List β → Prop where
  | nil : LR r [] []
  | cons {a b as bs} : r a b → LR r as bs → LR r (a :: as) (b :: bs)
theorem LR.length : ∀ {as : List α} {bs : List β}, LR r as bs → as.length = bs.length
  | _, _, .nil => rfl
  | _, _, .cons _ t => by rw [List.length_cons, List.length_cons, LR.length t]
theorem LR.append : ∀ {as as' : List α} {bs bs' : List β}, LR r as bs → LR r as' bs' → LR r (as ++ as') (bs ++ bs')
  | _, _, _, _, .nil, s => s
  | _, _, _, _, .cons h t, s => .cons h (LR.append t s)
theorem look_par {p : Str} : ∀ {ks : List Str} {as : List α} {bs : List β}, LR r as bs → OR r ((ks.zip as).lookup p) ((ks.zip bs).lookup p)
  | [], _, _, _ => .none
  | _ :: _, _, _, .nil => .none
  | k :: ks, _, _, .cons h t => by
    simp only [List.zip_cons_cons, List.lookup_cons]
    cases p == k with
    | true => exact .some h
    | false => exact look_par t
theorem fill_par {ks : List Str} {as : List α} {bs : List β} (h : LR r as bs) : ∀ {ps : List Str} {da : List (Option α)} {db : List (Option β)}, LR (OR r) da db → OR (LR r) (fill ks as ps da) (fill ks bs ps db)
  | [], _, _, _ => .some .nil
  | p :: ps, da, db, hd => by
    unfold fill
    have ht : LR (OR r) da.tail db.tail := by
      cases hd with
      | nil => exact .nil
      | cons _ t => exact t
    have hh : OR r (da.headD none) (db.headD none) := by
      cases hd with
      | nil => exact .none
      | cons h _ => exact h
    have ih := fill_par (ks := ks) h (ps := ps) ht
    have fin : ∀ {oa : Option α} {ob : Option β}, OR r oa ob → OR (LR r) (oa.bind fun d => (fill ks as ps da.tail).map (d :: ·)) (ob.bind fun d => (fill ks bs ps db.tail).map (d :: ·)) := fun {oa ob} hx => by
      cases hx with
      | none => exact .none
      | some q =>
        revert ih
        generalize fill ks as ps da.tail = fa
        generalize fill ks bs ps db.tail = fb
        intro ih
        cases ih with
        | none => exact .none
        | some w => exact .some (.cons q w)
    have z := look_par (ks := ks) (p := p) h
    cases e1 : (ks.zip as).lookup p with
    | none =>
      cases e2 : (ks.zip bs).lookup p with
      | none => exact fin hh
      | some y => rw [e1, e2] at z; cases z
    | some x =>
      cases e2 : (ks.zip bs).lookup p with
      | none => rw [e1, e2] at z; cases z
      | some y =>
        rw [e1, e2] at z
        exact fin z
end
end Iv
namespace Iv
open PySem PySem.Spec PyProof.Rows L2 LamX
/-! ## a call's binding, at the values -/
def litV : D → V
  | .bl b => .bl b
  | .int i => .int i
  | .str x => .str x
  | _ => .non
def litB : D → Bool
  | .non => true
  | .bl _ => true
  | .int _ => true
  | .str _ => true
  | _ => false
theorem lit_rp {K : PySem.W.Frag} {A : Ad} {H : Hp} {d : D} (h : litB d = true) : Rp K A H (litV d) d := by
  cases d with
  | non => exact .non
  | bl b => exact .bl
  | int i => exact .int
  | str x => exact .str
  | _ => cases h
/-- n values, the keywords ks: what the parameters get (dus: the defaults' values) -/
def BindOk (K : PySem.W.Frag) (fd : FuncData) (ps : List Str) (dus : List (Option Value)) (n : Nat) (ks : List Str) : Prop :=
  ∀ (s : Shared) (us ws : List Value), K.In s.heap → us.length = n → ws.length = ks.length → ∃ tl, fill ks ws (ps.drop n) (dus.drop n) = some tl ∧ BindsTo s fd ⟨us, ks.zip ws⟩ (ps.zip (us ++ tl))
/-- the def's defaults, by parameter -/
def dOpt (m : Nat) (ds : List D) : List (Option D) := List.replicate m none ++ ds.map some
theorem LR.of_vals : ∀ {vs : List V} {us : List Value}, Vals vs us → LR RelV vs us
  | _, _, .nil => .nil
  | _, _, .cons r t => .cons r (LR.of_vals t)
theorem LR.vals : ∀ {vs : List V} {us : List Value}, LR RelV vs us → Vals vs us
  | _, _, .nil => .nil
  | _, _, .cons r t => .cons r (LR.vals t)
theorem LR.drop {α β : Type} {r : α → β → Prop} : ∀ (n : Nat) {as : List α} {bs : List β}, LR r as bs → LR r (as.drop n) (bs.drop n)
  | 0, _, _, h => h
  | _ + 1, _, _, .nil => .nil
  | n + 1, _, _, .cons _ t => LR.drop n t
theorem LR.mapSome {α β : Type} {r : α → β → Prop} : ∀ {as : List α} {bs : List β}, LR r as bs → LR (OR r) (as.map some) (bs.map some)
  | _, _, .nil => .nil
  | _, _, .cons h t => .cons (.some h) (LR.mapSome t)
theorem LR.none {α β : Type} {r : α → β → Prop} : ∀ (n : Nat), LR (OR r) (List.replicate n none) (List.replicate n none)
  | 0 => .nil
  | n + 1 => .cons .none (LR.none n)
theorem LR.of_rpl {K : PySem.W.Frag} {A : Ad} {H : Hp} : ∀ {vs : List V} {ds : List D}, RpL K A H vs ds → LR (Rp K A H) vs ds
  | _, _, .nil => .nil
  | _, _, .cons r t => .cons r (LR.of_rpl t)
theorem LR.rpl {K : PySem.W.Frag} {A : Ad} {H : Hp} : ∀ {vs : List V} {ds : List D}, LR (Rp K A H) vs ds → RpL K A H vs ds
  | _, _, .nil => .nil
  | _, _, .cons r t => .cons r (LR.rpl t)
theorem LR.lit {K : PySem.W.Frag} {A : Ad} {H : Hp} : ∀ {ds : List D}, ds.all litB = true → LR (Rp K A H) (ds.map litV) ds
  | [], _ => .nil
  | d :: ds, h => by
    rw [List.all_cons] at h
    obtain ⟨h1, h2⟩ := b2 h
    exact .cons (lit_rp h1) (LR.lit h2)
theorem fill_len {α : Type} {ks : List Str} {kds : List α} : ∀ {ps : List Str} {ds : List (Option α)} {as : List α}, fill ks kds ps ds = some as → as.length = ps.length
  | [], _, as, e => by
    unfold fill at e
    cases e
    rfl
  | p :: ps, ds, as, e => by
    unfold fill at e
    have fin : ∀ {o : Option α}, (o.bind fun d => (fill ks kds ps ds.tail).map (d :: ·)) = some as → as.length = (p :: ps).length := fun {o} e => by
      cases o with
      | none => cases e
      | some y =>
        cases q : fill ks kds ps ds.tail with
        | none => rw [q] at e; cases e
        | some ys =>
          rw [q] at e
          cases e
          rw [List.length_cons, List.length_cons, fill_len q]
    exact fin e
/-- what FnX wants, of one way to call -/
theorem bind_of {K : PySem.W.Frag} {fd : FuncData} {f : Fn} {m n : Nat} {ks : List Str} {dd : List D} {dus : List Value} (hd : f.ds = dOpt m dd) (hl : dd.all litB = true) (rv : Vals (dd.map litV) dus) (hn : n ≤ f.ps.length) (b : BindOk K fd f.ps (List.replicate m none ++ dus.map some) n ks)
    (s : Shared) (us ws : List Value) (vs zs : List V) (kin : K.In s.heap) (h1 : us.length = n) (h2 : ws.length = ks.length) (r1 : Vals vs us) (r2 : Vals zs ws) : ∃ (xs : List Value) (ys : List V), BindsTo s fd ⟨us, ks.zip ws⟩ (f.ps.zip xs) ∧ Vals ys xs ∧
      ∀ (A : Ad) (H : Hp) (ds kds as : List D), RpL K A H vs ds → RpL K A H zs kds → bindF f ds ks kds = some as → RpL K A H ys as ∧ as.length = f.ps.length := by
  obtain ⟨tl, e, bt⟩ := b s us ws kin h1 h2
  have q1 := fill_par (ks := ks) (LR.of_vals r2) (ps := f.ps.drop n) (LR.drop n ((LR.none m).append (LR.mapSome (LR.of_vals rv))))
  rw [e] at q1
  cases e1 : fill ks zs (f.ps.drop n) ((List.replicate m none ++ (dd.map litV).map some).drop n) with
  | none => rw [e1] at q1; cases q1
  | some tv =>
    rw [e1] at q1
    cases q1 with
    | some q1 =>
    refine ⟨us ++ tl, vs ++ tv, bt, ((LR.of_vals r1).append q1).vals, fun A H ds kds as p1 p2 eb => ?_⟩
    have hdl : ds.length = n := by rw [← p1.length, r1.length, h1]
    unfold bindF at eb
    by_cases hc : f.sh.contains (ds.length, ks) = true
    · rw [if_pos hc, hdl, hd] at eb
      have q2 := fill_par (ks := ks) (LR.of_rpl p2) (ps := f.ps.drop n) (LR.drop n ((LR.none m).append (LR.mapSome (LR.lit (K := K) (A := A) (H := H) hl))))
      rw [e1] at q2
      cases e2 : fill ks kds (f.ps.drop n) ((dOpt m dd).drop n) with
      | none =>
        rw [e2] at eb
        cases eb
      | some td =>
        rw [e2] at eb
        cases eb
        unfold dOpt at e2
        rw [e2] at q2
        cases q2 with
        | some q2 =>
        refine ⟨((LR.of_rpl p1).append q2).rpl, ?_⟩
        have := fill_len e2
        rw [List.length_append, hdl, this, List.length_drop]
        omega
    · rw [if_neg hc] at eb
      cases eb
section
variable {K : PySem.W.Frag} {x qual : Str} {params : Arguments} {body : List Stmt} {scope : Scope} {kws : List (Str × V)} {fa : Addr} {fd : FuncData} {ps : List Str} {n : Nat} {ks : List Str}
/-- no defaults -/
theorem bn_plain (F : FunD K x qual params body scope [] kws fa fd) (h : ∀ (kV doc pm : Value) (an : Option Addr) (cdv ct : Value) (us ws : List Value), us.length = n → ws.length = ks.length → ∃ tl, fill ks ws (ps.drop n) [] = some tl ∧ bindArgs (PySem.W.fnOf x qual params body scope .none kV doc pm an cdv ct) ⟨us, ks.zip ws⟩ = pure (ps.zip (us ++ tl))) : BindOk K fd ps [] n ks := by
  obtain ⟨oc, od, dV, kV, doc, pm, an, cdv, ct, osl, rfl, lk, hcd, hD, hK⟩ := F.ex
  rcases hD with ⟨_, rfl⟩ | ⟨e, _⟩
  · intro s us ws _ h1 h2
    obtain ⟨tl, e1, e2⟩ := h kV doc pm an cdv ct us ws h1 h2
    exact ⟨tl, by rw [List.drop_nil]; exact e1, .of_eq e2⟩
  · exact absurd rfl e
/-- defaults of the last parameters -/
theorem bn_pos {dvs : List V} {m : Nat} (F : FunD K x qual params body scope dvs kws fa fd) (hd : dvs ≠ []) (h : ∀ (T : Addr) (kV doc pm : Value) (an : Option Addr) (cdv ct : Value) (us ws its : List Value), us.length = n → ws.length = ks.length → its.length = dvs.length → ∃ tl k, fill ks ws (ps.drop n) ((List.replicate m none ++ its.map some).drop n) = some tl ∧ bindArgs (PySem.W.fnOf x qual params body scope (.ref T) kV doc pm an cdv ct) ⟨us, ks.zip ws⟩ = seqItems? (.ref T) >>= k ∧ k (some its.toArray) = pure (ps.zip (us ++ tl))) :
    ∃ dus, Vals dvs dus ∧ BindOk K fd ps (List.replicate m none ++ dus.map some) n ks := by
  obtain ⟨oc, od, dV, kV, doc, pm, an, cdv, ct, osl, rfl, lk, hcd, hD, hK⟩ := F.ex
  rcases hD with ⟨e, _⟩ | ⟨_, T, o, its, mm, rfl, lT, oT, rT⟩
  · exact absurd e hd
  · refine ⟨its, rT, fun s us ws X h1 h2 => ?_⟩
    obtain ⟨tl, k, e1, e2, e3⟩ := h T kV doc pm an cdv ct us ws its h1 h2 rT.length.symm
    refine ⟨tl, e1, BindsTo.of_looks fun M => ?_⟩
    rw [e2]
    exact looks_items X lT oT (.of_pure e3)
/-- defaults of keyword-only parameters, all of them -/
theorem bn_kwo {m : Nat} (F : FunD K x qual params body scope [] kws fa fd) (hk : kws ≠ []) (h : ∀ (D : Addr) (doc pm : Value) (an : Option Addr) (cdv ct : Value) (us ws mv : List Value), us.length = n → ws.length = ks.length → mv.length = kws.length → ∃ (tl : List Value) (ms : List (Str × Value)), fill ks ws (ps.drop n) ((List.replicate m none ++ mv.map some).drop n) = some tl ∧
      (∀ q ∈ ms, q ∈ (kws.map (·.1)).zip mv) ∧ KwChain D ms (bindArgs (PySem.W.fnOf x qual params body scope .none (.ref D) doc pm an cdv ct) ⟨us, ks.zip ws⟩) (ps.zip (us ++ tl))) :
    ∃ dus, Vals (kws.map (·.2)) dus ∧ BindOk K fd ps (List.replicate m none ++ dus.map some) n ks := by
  obtain ⟨oc, od, dV, kV, doc, pm, an, cdv, ct, osl, rfl, lk, hcd, hD, hK⟩ := F.ex
  rcases hD with ⟨_, rfl⟩ | ⟨e, _⟩
  · rcases hK with e | ⟨D, rfl, hq⟩
    · exact absurd e hk
    · obtain ⟨mv, hl, rk, hks⟩ := kwd_vals hq
      refine ⟨mv, rk, fun s us ws X h1 h2 => ?_⟩
      obtain ⟨tl, ms, e1, e2, e3⟩ := h D doc pm an cdv ct us ws mv h1 h2 hl
      exact ⟨tl, e1, BindsTo.of_looks fun M => KwChain.looks X (fun q hq => hks q (e2 q hq)) e3⟩
  · exact absurd rfl e
end
end Iv
namespace Iv
open PySem PySem.Spec PyProof.Rows L2 LamX
/-! ## the law's call from the outside: no repr is under way there -/
abbrev tbo : Obj := { cls := .none, data := .fields #[] }
abbrev sco (vs : List Value) : Obj := { cls := .type "list", data := .seq vs.toArray }
/-- the abstract heap at the start -/
structure Beg (P : Program) (w : World) (K : PySem.W.Frag) (tb : List Addr) (a : Addr) (ns : List Int) (h : Heap) (H : Hp) : Prop where
  tab : ∀ p ∈ tb, H p = some (.tbl #[])
  kind : ∀ b, H b = none ∨ b ∈ tb ∨ ∃ o xs, H b = some (.frz o (.lst xs))
  sq : SqL K H a (ns.map V.int)
  ok : HOk P w H h
  only : ∀ b, H b ≠ none → b = a ∨ b ∈ tb
  out : H a ≠ none → K.lookup a = none
section
variable {P : Program} {w : World} {K : PySem.W.Frag} {mg mb : Str → Option Value} {k : Nat} {fa a : Addr} {cs : List (Addr × Addr)} {fd : FuncData} {x : Str} {sp : Sp} {s : Shared} {vs : List Value} {ns : List Int} {tb : List Addr}
theorem Beg.make (KX : K.In s.heap) (hT : ∀ p ∈ tb, s.heap.get? p = some tbo) (ha : s.heap.get? a = some (sco vs)) (hi : IntsAre vs ns) (hl : ns.length ≤ sizeLine) : ∃ H, Beg P w K tb a ns s.heap H := by
  have rv := vals_ints hi
  have aT : a ∉ tb := fun z => by
    have q := hT a z
    rw [ha] at q
    cases congrArg Obj.data (Option.some.inj q)
  by_cases hk : K.lookup a = none
  · let H : Hp := fun b => if b = a then some (.frz (sco vs) (.lst (ns.map V.int))) else if b ∈ tb then some (.tbl #[]) else none
    have h1 : H a = some (.frz (sco vs) (.lst (ns.map V.int))) := if_pos rfl
    have h2 : ∀ b, b ≠ a → b ∈ tb → H b = some (.tbl #[]) := fun b n m => (if_neg n).trans (if_pos m)
    have h3 : ∀ b, b ≠ a → b ∉ tb → H b = none := fun b n m => (if_neg n).trans (if_neg m)
    refine ⟨H, fun p hp => h2 p (fun z => aT (z ▸ hp)) hp, fun b => ?_, .inl (.inr ⟨_, h1⟩), fun b u z => ?_, fun b z => ?_, fun _ => hk⟩
    · rcases Classical.em (b = a) with rfl | n
      · exact .inr (.inr ⟨_, _, h1⟩)
      · rcases Classical.em (b ∈ tb) with m | m
        · exact .inr (.inl m)
        · exact .inl (h3 b n m)
    · rcases Classical.em (b = a) with rfl | n
      · rw [h1] at z
        cases z
        exact ⟨ha, by rw [List.length_map]; exact hl, vs, _, rv, ha⟩
      · rcases Classical.em (b ∈ tb) with m | m
        · rw [h2 b n m] at z
          cases z
          exact hT b m
        · rw [h3 b n m] at z
          cases z
    · rcases Classical.em (b = a) with e | n
      · exact .inl e
      · rcases Classical.em (b ∈ tb) with m | m
        · exact .inr m
        · exact absurd (h3 b n m) z
  · obtain ⟨o, hk⟩ := Option.ne_none_iff_exists'.mp hk
    have e := KX a o hk
    rw [ha] at e
    cases e
    let H : Hp := fun b => if b ∈ tb then some (.tbl #[]) else none
    have h2 : ∀ b, b ∈ tb → H b = some (.tbl #[]) := fun b m => if_pos m
    have h3 : ∀ b, b ∉ tb → H b = none := fun b m => if_neg m
    refine ⟨H, h2, fun b => ?_, .inr ⟨_, vs.toArray, _, hk, rfl, rfl, rfl, by rw [List.size_toArray, hi.length]; exact hl, by simpa using rv⟩, fun b u z => ?_, fun b z => ?_, fun z => absurd (h3 a aT) z⟩
    · rcases Classical.em (b ∈ tb) with m | m
      · exact .inr (.inl m)
      · exact .inl (h3 b m)
    · rcases Classical.em (b ∈ tb) with m | m
      · rw [h2 b m] at z
        cases z
        exact hT b m
      · rw [h3 b m] at z
        cases z
    · rcases Classical.em (b ∈ tb) with m | m
      · exact .inr m
      · exact absurd (h3 b m) z
/-- what is neither a sequence nor an empty table isn't tracked -/
theorem Beg.no {H : Hp} {b : Addr} {o : Obj} (E : Beg P w K tb a ns s.heap H) (hT : ∀ p ∈ tb, s.heap.get? p = some tbo) (ha : s.heap.get? a = some (sco vs)) (e : s.heap.get? b = some o) (d1 : ∀ us n, o.data ≠ .seq us n) (d2 : o.data ≠ .fields #[]) : H b = none := by
  rcases Classical.em (H b = none) with q | q
  · exact q
  · rcases E.only b q with rfl | m
    · rw [ha] at e
      cases e
      exact absurd rfl (d1 _ _)
    · rw [hT b m] at e
      cases e
      exact absurd rfl d2
theorem law_callR (KX : K.In s.heap) (hns : s.heap.Ns mainGlobals mg) (hb : s.heap.Ns builtinsNs mb) (hbb : ∀ x : Str, x ≠ "__name__" → mb x = bootBuiltins x) (hlim : s.heap.NoLimit) (hg : s.gens = #[]) (hT : ∀ p ∈ cs, s.heap.get? p.2 = some tbo) (nT : ∀ p ∈ cs, K.lookup p.2 = none)
    (hC : ∀ p ∈ cs, PySem.W.CodeHd s.heap p.1 p.2) (hbm : ∃ (bm : Addr) (ob : Obj), mg "__builtins__" = some (.ref bm) ∧ bm ≠ builtinsNs ∧ s.heap.get? bm = some ob ∧ ob.cls = .type "module" ∧ ob.dict = some builtinsNs ∧ ob.data = .plain) (ha : s.heap.get? a = some (sco vs)) (hi : IntsAre vs ns) (hl : ns.length ≤ sizeLine) (hr : Room k callerA)
    (F : ∀ base : Heap, K.In base → base.Ns mainGlobals mg → (∀ p ∈ cs, LamX.TabB base mg p.1 p.2) → FnK P w K mg base k fa fd [x] sp) (hbind : ∀ (s : Shared) (u : Value), BindsTo s fd ⟨[u], []⟩ [(x, u)]) (hsp : ∀ H : Hp, (∀ p ∈ cs, H p.2 = some (.tbl #[])) → SqL K H a (ns.map V.int) → sp [.ref a] H (fun v _ => v = .bl true) fun _ _ _ => False) :
    codeAny (model P w) callerA (.call (.ref fa) ⟨[.ref a], []⟩) (fun r s' => r = .ok (.ret (.bool true)) ∧ OldK s.heap s'.heap ∧ s'.os = s.os ∧ AllBare s'.gens) s := by
  have hT' : ∀ p ∈ cs.map (·.2), s.heap.get? p = some tbo := fun b hb => by
    obtain ⟨p, hp, rfl⟩ := List.mem_map.mp hb
    exact hT p hp
  have mem : ∀ p ∈ cs, p.2 ∈ cs.map (·.2) := fun p hp => List.mem_map_of_mem hp
  obtain ⟨H, E⟩ := Beg.make (P := P) (w := w) KX hT' ha hi hl
  have bs : ∀ {b : Addr} {o : Obj}, s.heap.get? b = some o → (∀ us n, o.data ≠ .seq us n) → o.data ≠ .fields #[] → (hidT s.heap H).get? b = some o := fun e d1 d2 => hidT_get e (E.no hT' ha e d1 d2)
  have nsB : ∀ {b : Addr} {m : Str → Option Value}, s.heap.Ns b m → (hidT s.heap H).Ns b m := fun ⟨o, es, ep, e, d, r⟩ => ⟨o, es, ep, bs e (fun us n z => by rw [d] at z; cases z) (fun z => by rw [d] at z; cases z), d, r⟩
  have KB : K.In (hidT s.heap H) := fun b o e => by
    refine hidT_get (KX b o e) ?_
    rcases Classical.em (H b = none) with q | q
    · exact q
    · rcases E.only b q with rfl | m
      · rw [E.out q] at e
        cases e
      · obtain ⟨p, hp, rfl⟩ := List.mem_map.mp m
        rw [nT p hp] at e
        cases e
  have TB : ∀ p ∈ cs, LamX.TabB (hidT s.heap H) mg p.1 p.2 := fun p hp => by
    have tp := hT p hp
    constructor
    · obtain ⟨o, us, file, tf, flags, tg, inF, text, tt, e1, r1, r2, r3, rest⟩ := hC p hp
      exact ⟨o, us, file, tf, flags, tg, inF, text, tt, bs e1 (fun us n z => by rw [r2] at z; cases z) (fun z => by rw [r2] at z; cases z; simp at r3), r1, r2, r3, rest⟩
    · obtain ⟨bm, ob, b1, b2, b3, b4, b5, b6⟩ := hbm
      refine ⟨bm, ob, b1, b2, fun z => ?_, fun z => ?_, bs b3 (fun us n z => by rw [b6] at z; cases z) (fun z => by rw [b6] at z; cases z), b4, b5, b6⟩
      · obtain ⟨o, es, ep, e, d, _⟩ := hns
        rw [← z, b3] at e
        cases e
        rw [b6] at d
        cases d
      · rw [z, tp] at b3
        cases b3
        cases b6
    · intro z
      obtain ⟨o, es, ep, e, d, _⟩ := hns
      rw [z, tp] at e
      cases e
      cases d
  have lim : (hidT s.heap H).NoLimit := by
    obtain ⟨mc, q1, q2⟩ := hlim
    exact ⟨mc, nsB q1, q2⟩
  have e0 : Env0 P w K mg (hidT s.heap H) callerA [] s H := { frames := rfl, mod := ⟨KB, nsB hns, ⟨mb, nsB hb, hbb⟩, lim⟩, bs := fun b o e => of_hidT e, bsz := Nat.le_of_eq (hidT_size _ _), funs := trivial, frf := (fun b z => by cases (show b ∈ ([] : List Addr) from z)), hok := E.ok, bare := .of_eq hg }
  refine codeAny_mono ((F _ KB (nsB hns) TB).go callerA [] s H ⟨[.ref a], []⟩ [.ref a] [.ref a] _ _ rfl hr e0 (hbind s _) (.cons rfl .nil) (hsp H (fun p hp => E.tab _ (mem p hp)) E.sq)) fun r s' z => ?_
  match r, z with
  | .error e, z =>
    obtain ⟨_, _, _, _, _, _, _, _, _, _, _, _, q⟩ := z
    exact q.elim
  | .ok (.ret u), z =>
    obtain ⟨v, H', os, bare, un, ok', rr, q⟩ := z
    cases (show v = .bl true from q)
    cases (show u = Value.bool true from rr)
    have keep : ∀ b o, b ∉ cs.map (·.2) → s.heap.get? b = some o → s'.heap.get? b = some o := fun b o nb e => by
      rcases E.kind b with n | n | ⟨ob, xs, n⟩
      · exact un.keep b o e n (fun z => by cases (show b ∈ ([] : List Addr) from z)) (by simp)
      · exact absurd n nb
      · have f1 := (E.ok b _ n).1
        have f2 := (ok' b _ (un.frzs b ob _ n)).1
        rw [e] at f1
        cases f1
        exact f2
    have tabs : ∀ p ∈ cs, ∃ more : Array Value, s'.heap.get? p.2 = some { cls := .none, data := .fields more } := fun p hp => by
      obtain ⟨more, n⟩ := un.tbls p.2 #[] (E.tab _ (mem p hp))
      exact ⟨_, ok' p.2 _ n⟩
    refine ⟨rfl, ⟨fun b o e => ?_, fun b o e => ?_⟩, os, bare⟩
    · rcases Classical.em (b ∈ cs.map (·.2)) with m | m
      · obtain ⟨p, hp, rfl⟩ := List.mem_map.mp m
        obtain ⟨more, hm⟩ := tabs p hp
        rw [hT p hp] at e
        cases e
        refine .inr (.inl ⟨((hC p hp).tab (hT p hp)).isCodeTable, rfl, #[], more, rfl, ?_⟩)
        rw [Array.empty_append]
        exact hm
      · exact .inl (keep b o m e)
    · rcases Classical.em (b ∈ cs.map (·.2)) with m | m
      · obtain ⟨p, hp, rfl⟩ := List.mem_map.mp m
        exact ⟨_, (tabs p hp).choose_spec⟩
      · exact ⟨o, keep b o m e⟩
end
end Iv
namespace Iv
open PySem PySem.Spec PyProof.Rows L2 LamX
/-! ## the head: what is told of the module -/
/-! ### exceptions with fields -/
abbrev SupV : Type := Option (Str × Str × Arguments × FuncBody × Scope × Addr × List Str × Value × Addr)
def supObs (K : PySem.W.Frag) (x : Str) : SupV := match K.lookup (He.ma K (He.ga K x) "__init__") with
  | some ⟨_, _, .func fd, _⟩ => some (fd.name, fd.qualname, fd.params, fd.body, fd.scope, fd.globals, fd.closure.map (·.1), fd.defaults, fd.builtins)
  | _ => none
structure SupD where
  x : Str
  qual : Str
  params : Arguments
  body : List Stmt
  scope : Scope
  fs : List Str
def SupD.val (d : SupD) : SupV := some ("__init__", d.qual, d.params, .stmts d.body, d.scope, mainGlobals, ["__class__"], .none, builtinsNs)
def oexB (K : PySem.W.Frag) (C : Addr) : Bool := match K.lookup C with
  | some ⟨.type "type", _, .cls cd, sl⟩ => (match cd.mro, sl.toList with
    | .ref C' :: bm, [_, _, _, _, some (.builtin n), _] => decide (C' = C) && (decide (n = "ValueError.__new__") && (!cd.hasDel && (cd.hasDict && HandSPX.refsVE bm)))
    | _, _ => false)
  | _ => false
theorem oexB_ok {K : PySem.W.Frag} {C : Addr} (h : oexB K C = true) : ∃ nm q N bs bm sn sub ab col dd k0 k1 k2 k3 k5, K.lookup C = some (excClassObj nm q C N bs bm true sn sub ab col dd k0 k1 k2 k3 k5 "ValueError.__new__") ∧ PySem.HandSPX.refsVE bm = true := by
  unfold oexB at h
  split at h
  · rename_i dd cd sl ho
    split at h
    · rename_i C' bm k0 k1 k2 k3 n k5 hm hs
      obtain ⟨h1, h⟩ := b2 h
      obtain ⟨h2, h⟩ := b2 h
      obtain ⟨h3, h⟩ := b2 h
      obtain ⟨h4, h5⟩ := b2 h
      have e1 := of_decide_eq_true h1
      have e2 := of_decide_eq_true h2
      subst e1 e2
      obtain ⟨nm, bs, mro, ns, qn, hd, sn, sub, ab, col, del⟩ := cd
      dsimp only at hm h3 h4
      subst hm h4
      have h3' : del = false := by simpa using h3
      subst h3'
      have hsl : sl = #[k0, k1, k2, k3, some (.builtin "ValueError.__new__"), k5] := by
        obtain ⟨l⟩ := sl
        simp only at hs
        rw [hs]
      subst hsl
      exact ⟨nm, qn, ns, bs, bm, sn, sub, ab, col, dd, k0, k1, k2, k3, k5, ho, h5⟩
    · cases h
  · cases h
def codeB (K : PySem.W.Frag) (file q : Str) (C : Addr) (fI : Addr) : Bool := match K.lookup fI with
  | some ⟨_, _, .func fd, _⟩ => (match fd.code with
    | .ref cda => PySem.W.codeIn K (.ref cda) q && (match K.lookup cda with
      | some ⟨_, _, .fields vs, _⟩ => (match (vs[2]? : Option Value) with
        | some (.str s _) => decide (s = file)
        | _ => false)
      | _ => false)
    | _ => false) && (match fd.closure with
    | [(_, cc)] => (match K.lookup cc with
      | some ⟨_, _, .cell (some (.ref C')), _⟩ => decide (C' = C)
      | _ => false)
    | _ => false)
  | _ => false
/-- the facts of an exception class with such an __init__ -/
def supOk (K : PySem.W.Frag) (file : Str) (d : SupD) : Bool := oexB K (He.ga K d.x) && (He.eqO (PySem.W.findIn K (.ref (He.ga K d.x)) "__setattr__") (some (some (.builtin "object.__setattr__"))) && (decide (PySem.W.subIn K (.ref (He.ga K d.x)) (.type "BaseException") = some true) && (decide (PySem.W.typeIn K (.ref (He.ga K d.x)) = some (.type "type")) &&
  (PySem.W.keepIn K (.ref (He.ga K d.x)) && (He.eqO (PySem.W.findIn K (.ref (He.ga K d.x)) "__init__") (some (some (.ref (He.ma K (He.ga K d.x) "__init__")))) && (decide (PySem.W.typeIn K (.ref (He.ma K (He.ga K d.x) "__init__")) = some (.type "function")) && (He.eqO (PySem.W.nsIn K cStatics "thirdparty.any") (some none) &&
    (He.eqO (PySem.W.nsIn K mainGlobals "super") (some none) && (decide (PySem.W.ks_superIn K (He.ga K d.x) (He.ga K d.x) "__init__" = some (some (.builtin "ValueError.__init__"))) && (decide (PySem.W.subIn K (.ref (He.ga K d.x)) (.type "ValueError") = some true) && (decide (PySem.W.mroIn K (He.ga K d.x) (.ref (He.ga K d.x)) = some true) &&
      (d.fs.all (fun f => He.eqO (PySem.W.findIn K (.ref (He.ga K d.x)) f) (some none)) && codeB K file d.qual (He.ga K d.x) (He.ma K (He.ga K d.x) "__init__")))))))))))))
/-- what the text says of it -/
structure SupT (P : Program) (d : SupD) : Prop where
  hs : d.fs ≠ [] ∧ d.fs.Nodup ∧ d.fs.length ≤ 5 ∧ ("self" : Str) ∉ d.fs
  htop : (P.main.scope.names.lookup ("super" : Str)).isSome = false
  body : ∃ m j p0 p1 p2 p3 p4 p5 rest, d.body = supB m j p0 p1 p2 p3 p4 p5 :: rest ∧ Sets d.fs rest ∧ (∀ env : PySem.Env, ∃ pl : Sem Bool, eval (.Call (.Attribute (.Call (.Name "super" p0) [] [] p1) "__init__" p2) [.Constant (.str m) j p3] [] p4) env = (do
      let ov ← attributeBase (.Call (.Name "super" p0) [] [] p1) "__init__" env (eval (.Call (.Name "super" p0) [] [] p1) env)
      standAt p2.atName
      let (f, first) ← holding [ov] (getMethod ov "__init__" pl)
      callWith p4 f first (backTo p4 (starEach [.Constant (.str m) j p3] env)) []))
  par : ∃ ar, (d.params.posonlyargs ++ d.params.args).head? = some ar ∧ ar.arg = "self"
  bind : ∀ (kV doc pm : Value) (an : Option Addr) (cdv ct : Value) (cc : Addr) (us : List Value), us.length = d.fs.length + 1 → bindArgs (PySem.W.ksFn "__init__" d.qual d.params d.body d.scope .none kV doc pm an cdv ct cc) ⟨us, []⟩ = pure (((("self" : Str)) :: d.fs).zip us)
  sc : d.scope.kind = .function ∧ d.scope.isCoroutine = false ∧ d.scope.isGenerator = false ∧ (∀ x ∈ d.scope.names, x.2 ≠ .cell) ∧ (∀ x ∈ ("self" : Str) :: d.fs, d.scope.names.lookup x = some .local) ∧ d.scope.names.lookup ("super" : Str) = some .globalImplicit ∧ d.scope.names.lookup ("__class__" : Str) = some .free
  dbg : ∀ f ∈ ("self" : Str) :: d.fs, (f == ("__debug__" : Str)) = false
theorem supOk_ok {P : Program} {K : PySem.W.Frag} {d : SupD} (e : supObs K d.x = d.val) (h : supOk K P.main.file d = true) (t : SupT P d) : SupC P K (He.ga K d.x) (He.ma K (He.ga K d.x) "__init__") d.fs := by
  obtain ⟨h1, h⟩ := b2 h
  obtain ⟨h2, h⟩ := b2 h
  obtain ⟨h3, h⟩ := b2 h
  obtain ⟨h4, h⟩ := b2 h
  obtain ⟨h5, h⟩ := b2 h
  obtain ⟨h6, h⟩ := b2 h
  obtain ⟨h7, h⟩ := b2 h
  obtain ⟨h8, h⟩ := b2 h
  obtain ⟨h9, h⟩ := b2 h
  obtain ⟨h10, h⟩ := b2 h
  obtain ⟨h11, h⟩ := b2 h
  obtain ⟨h12, h⟩ := b2 h
  obtain ⟨h13, h14⟩ := b2 h
  refine ⟨⟨oexB_ok h1, He.eqO_ok h2, of_decide_eq_true h3, of_decide_eq_true h4, h5⟩, He.eqO_ok h6, of_decide_eq_true h7, He.eqO_ok h8, He.eqO_ok h9, of_decide_eq_true h10, of_decide_eq_true h11, of_decide_eq_true h12, fun f hf => He.eqO_ok (List.all_eq_true.mp h13 f hf), t.hs, t.htop, ?_⟩
  unfold codeB at h14
  unfold supObs at e
  cases q : K.lookup (He.ma K (He.ga K d.x) "__init__") with
  | none => rw [q] at h14; cases h14
  | some o =>
    obtain ⟨oc, od, dt, osl⟩ := o
    rw [q] at h14 e
    cases dt with
    | func fd =>
      obtain ⟨n1, n2, n3, n4, n5, n6, n7, n8, n9, n10, n11, n12, n13, n14, n15⟩ := fd
      have e2 : (some (n1, n2, n3, n4, n5, n6, n7.map (·.1), n8, n15) : SupV) = (some (("__init__" : Str), d.qual, d.params, .stmts d.body, d.scope, mainGlobals, [("__class__" : Str)], .none, builtinsNs) : SupV) := e
      simp only [Option.some.injEq, Prod.mk.injEq] at e2
      obtain ⟨g1, g2, g3, g4, g5, g6, g7, g8, g9⟩ := e2
      obtain ⟨c1, c2⟩ := b2 h14
      cases n13 with
      | ref cda =>
        obtain ⟨cI, c3⟩ := b2 c1
        match n7, g7, c2 with
        | [(y, cc)], g7, c2 =>
          have gy : y = "__class__" := by simpa using g7
          subst g1 g2 g3 g4 g5 g6 g8 g9 gy
          cases q2 : K.lookup cda with
          | none => rw [q2] at c3; cases c3
          | some o2 =>
            obtain ⟨o2c, o2d, dt2, o2s⟩ := o2
            rw [q2] at c3
            cases dt2 with
            | fields vs =>
              dsimp only at c3
              cases q3 : vs[2]? with
              | none => rw [q3] at c3; cases c3
              | some v =>
                rw [q3] at c3
                cases v with
                | str s tf =>
                  have es : s = P.main.file := of_decide_eq_true c3
                  subst es
                  dsimp only at c2
                  cases q4 : K.lookup cc with
                  | none => rw [q4] at c2; cases c2
                  | some o4 =>
                    obtain ⟨o4c, o4d, dt4, o4s⟩ := o4
                    rw [q4] at c2
                    cases dt4 with
                    | cell cv =>
                      cases cv with
                      | none => cases c2
                      | some v4 =>
                        cases v4 with
                        | ref C' =>
                          have e4 : C' = He.ga K d.x := of_decide_eq_true c2
                          subst e4
                          obtain ⟨m, j, p0, p1, p2, p3, p4, p5, rest, hb, hse, hl⟩ := t.body
                          obtain ⟨s1, s2, s3, s4, s5, s6, s7⟩ := t.sc
                          exact ⟨oc, od, osl, d.qual, d.params, d.body, d.scope, n9, n10, n11, n12, cda, n14, cc, rfl, cI, ⟨_, _, vs, _, tf, q2, q3⟩, ⟨_, _, _, q4⟩, ⟨m, j, p0, p1, p2, p3, p4, p5, rest, hb, hse, hl⟩, t.par, fun us hu => t.bind _ _ _ _ _ _ _ us hu, s1, s2, s3, s4, s5, s6, s7⟩
                        | _ => cases c2
                    | _ => cases c2
                | _ => cases c3
            | _ => cases c3
        | [], g7, c2 => cases g7
        | _ :: _ :: _, g7, c2 => cases c2
      | _ => cases c1
    | _ => cases h14
/-! ### defs: where they stand -/
inductive At where
  | glo (x : Str) | met (C m : Str) | prp (C m : Str) | smt (C m : Str) | cmt (C m : Str)
def recA (K : PySem.W.Frag) (p : Addr) (T : String) : Addr := match PySem.W.recIn K p T with
  | some (.ref g :: _) => g
  | _ => 0
def At.ad (K : PySem.W.Frag) : At → Addr
  | .glo x => He.ga K x
  | .met C m => He.ma K (He.ga K C) m
  | .prp C m => recA K (He.ma K (He.ga K C) m) "property"
  | .smt C m => recA K (He.ma K (He.ga K C) m) "staticmethod"
  | .cmt C m => recA K (He.ma K (He.ga K C) m) "classmethod"
/-- a def of the text: the small text's name, where it stands, what the text says; its defaults: of the last parameters, of keyword-only ones -/
structure DefE where
  x : Str
  at_ : At
  name : Str
  qual : Str
  params : Arguments
  body : List Stmt
  scope : Scope
  N : List Str
  dfl : List D
  kwd : List (Str × D)
  la : Bool := false
abbrev FnV : Type := Option (Str × Str × Arguments × FuncBody × Scope × Addr × List (Str × Addr) × Addr)
def fnObs (K : PySem.W.Frag) (d : DefE) : FnV := match K.lookup (d.at_.ad K) with
  | some ⟨_, _, .func fd, _⟩ => some (fd.name, fd.qualname, fd.params, fd.body, fd.scope, fd.globals, fd.closure, fd.builtins)
  | _ => none
def DefE.val (d : DefE) : FnV := some (d.name, d.qual, d.params, .stmts d.body, d.scope, mainGlobals, [], builtinsNs)
def DefE.ok (K : PySem.W.Frag) (d : DefE) : Bool := PySem.W.keepIn K (.ref (d.at_.ad K)) && (PySem.W.isFn K (.ref (d.at_.ad K)) && (PySem.W.fnIn K (d.at_.ad K) && (match K.lookup (d.at_.ad K) with
  | some ⟨_, _, .func fd, _⟩ => PySem.W.codeIn K fd.code d.qual && (He.dflB K fd.defaults (d.dfl.map litV) && He.kwdB K fd.kwdefaults (d.kwd.map fun q => (q.1, litV q.2)))
  | _ => false)))
structure DefK (K : PySem.W.Frag) (d : DefE) (fd : FuncData) : Prop where
  fun_ : FunD K d.name d.qual d.params d.body d.scope (d.dfl.map litV) (d.kwd.map fun q => (q.1, litV q.2)) (d.at_.ad K) fd
  kp : PySem.W.keepIn K (.ref (d.at_.ad K)) = true
  fn : PySem.W.isFn K (.ref (d.at_.ad K)) = true
  fi : PySem.W.fnIn K (d.at_.ad K) = true
theorem defK_of {K : PySem.W.Frag} {d : DefE} (e : fnObs K d = d.val) (c : d.ok K = true) : ∃ fd, DefK K d fd := by
  obtain ⟨k1, c⟩ := b2 c
  obtain ⟨k2, c⟩ := b2 c
  obtain ⟨k3, c⟩ := b2 c
  unfold fnObs at e
  cases q : K.lookup (d.at_.ad K) with
  | none => rw [q] at c; cases c
  | some o =>
    obtain ⟨oc, od, dt, osl⟩ := o
    rw [q] at c e
    cases dt with
    | func fd =>
      obtain ⟨n1, n2, n3, n4, n5, n6, n7, n8, n9, n10, n11, n12, n13, n14, n15⟩ := fd
      have e2 : (some (n1, n2, n3, n4, n5, n6, n7, n15) : FnV) = d.val := e
      unfold DefE.val at e2
      injection e2 with e2
      injection e2 with g1 e2
      injection e2 with g2 e2
      injection e2 with g3 e2
      injection e2 with g4 e2
      injection e2 with g5 e2
      injection e2 with g6 e2
      injection e2 with g7 g8
      subst g1 g2 g3 g4 g5 g6 g7 g8
      obtain ⟨c1, c⟩ := b2 c
      obtain ⟨c2, c3⟩ := b2 c
      exact ⟨_, ⟨⟨oc, od, n8, n9, n10, n11, n12, n13, n14, osl, rfl, q, c1, He.dflB_ok c2, He.kwdB_ok c3⟩, k1⟩, k1, k2, k3⟩
    | _ => cases c
/-! ### the Hook -/
structure SaysE (fn : List DefE) (sp : List SupD) (tf : List He.Defn) (ex : PySem.W.Frag → Bool) (h : Heap) (K : PySem.W.Frag) : Prop where
  fns : ∀ d ∈ fn, ∃ fd, DefK K d fd
  more : ex K = true
  sup : ∀ d ∈ sp, supObs K d.x = d.val
  hd : ∀ p ∈ tf, PySem.W.codeHdIn K (He.cT K p).1 (He.cT K p).2 = true
  out : ∀ p ∈ tf, K.lookup (He.cT K p).2 = none
  empty : ∀ p ∈ tf, h.get? (He.cT K p).2 = some tbo
def asE (g : Addr → Option Obj) (n : Nat) : List Addr := cStatics :: He.asD g n
abbrev AlE : Type := (List FnV × Bool) × List SupV
def obsE (n : Nat) (fn : List DefE) (sp : List SupD) (tf : List He.Defn) (ex : PySem.W.Frag → Bool) (g : Addr → Option Obj) : AlE :=
  let K := He.frT g (asE g n)
  ((fn.map (fnObs K), (fn.all fun d => d.ok K) && (ex K && He.tabsB g tf K)), sp.map fun d => supObs K d.x)
def valE (fn : List DefE) (sp : List SupD) : AlE := ((fn.map DefE.val, true), sp.map SupD.val)
theorem map_eq_all {α β : Type} {f g : α → β} : ∀ {l : List α}, l.map f = l.map g → ∀ a ∈ l, f a = g a
  | [], _, a, h => by cases h
  | x :: l, e, a, h => by
    rw [List.map_cons, List.map_cons] at e
    injection e with e1 e2
    rcases List.mem_cons.mp h with rfl | h
    · exact e1
    · exact map_eq_all e2 a h
theorem saysE_of {n : Nat} {fn : List DefE} {sp : List SupD} {tf : List He.Defn} {ex : PySem.W.Frag → Bool} {h : Heap} (e : obsE n fn sp tf ex h.get? = valE fn sp) : SaysE fn sp tf ex h (He.frT h.get? (asE h.get? n)) := by
  have e1 : fn.map (fnObs (He.frT h.get? (asE h.get? n))) = fn.map DefE.val := congrArg (fun z : AlE => z.1.1) e
  have e2 : ((fn.all fun d => d.ok (He.frT h.get? (asE h.get? n))) && (ex (He.frT h.get? (asE h.get? n)) && He.tabsB h.get? tf (He.frT h.get? (asE h.get? n)))) = true := congrArg (fun z : AlE => z.1.2) e
  have e3 : sp.map (fun d => supObs (He.frT h.get? (asE h.get? n)) d.x) = sp.map SupD.val := congrArg (fun z : AlE => z.2) e
  obtain ⟨h0, e2⟩ := b2 e2
  obtain ⟨h1, h2⟩ := b2 e2
  have key : ∀ p ∈ tf, PySem.W.codeHdIn (He.frT h.get? (asE h.get? n)) (He.cT (He.frT h.get? (asE h.get? n)) p).1 (He.cT (He.frT h.get? (asE h.get? n)) p).2 = true ∧ ∃ o, h.get? (He.cT (He.frT h.get? (asE h.get? n)) p).2 = some o ∧ He.emptyTab o = true := fun p hp => by
    obtain ⟨a1, a2⟩ := b2 (List.all_eq_true.mp h2 p hp)
    refine ⟨a1, ?_⟩
    cases q : h.get? (He.cT (He.frT h.get? (asE h.get? n)) p).2 with
    | none => rw [q] at a2; cases a2
    | some o => rw [q] at a2; exact ⟨o, rfl, a2⟩
  refine ⟨fun d hd => defK_of (map_eq_all e1 d hd) (List.all_eq_true.mp h0 d hd), h1, map_eq_all e3, fun p hp => (key p hp).1, fun p hp => ?_, fun p hp => ?_⟩
  · obtain ⟨_, o, q, z⟩ := key p hp
    exact He.frT_none q z
  · obtain ⟨_, o, q, z⟩ := key p hp
    rw [q, He.emptyTab_eq z]
def hookE (n : Nat) (fn : List DefE) (sp : List SupD) (tf : List He.Defn) (ex : PySem.W.Frag → Bool) : PySem.W.Hook where
  α := AlE
  obs := fun s => obsE n fn sp tf ex s.heap.get?
  val := fun _ => valE fn sp
  says := fun _ h => ∃ K : PySem.W.Frag, K.In h ∧ SaysE fn sp tf ex h K
  of := fun _ _ e => ⟨_, He.frT_in, saysE_of e⟩
  keeps := fun _ _ _ ⟨K, hK, c⟩ k => ⟨K, PySem.W.Frag.In.keeps hK k, ⟨c.fns, c.more, c.sup, c.hd, c.out, fun p hp => k _ _ (c.empty p hp)⟩⟩
theorem obsE_eq {n : Nat} {fn : List DefE} {sp : List SupD} {tf : List He.Defn} {ex : PySem.W.Frag → Bool} {g : Addr → Option Obj} {s : Shared} (h : ∀ a, g a = s.heap.get? a) : obsE n fn sp tf ex g = (hookE n fn sp tf ex).obs s := by
  have e : g = s.heap.get? := funext h
  rw [e]
  rfl
end Iv
namespace Iv
open PySem PySem.Spec PyProof.Rows L2 LamX
/-! ## the program as lists -/
structure PgD where
  has : List Cn
  fns : List (Str × Fn)
  mem : List (Cn × List (Str × Mem))
  fld : List (Cn × List Str)
  con : List (Str × D)
def PgD.mems (p : PgD) (C : Cn) : List (Str × Mem) := (p.mem.lookup C).getD []
def PgD.flds (p : PgD) (C : Cn) : List Str := (p.fld.lookup C).getD []
def PgD.pg (p : PgD) : Pg where
  has := fun C => p.has.contains C
  fn := fun x => p.fns.lookup x
  find := fun C m => (p.mems C).lookup m
  fld := fun C f => (p.flds C).contains f
  con := fun x => p.con.lookup x
theorem mem_of_look {α β : Type} [BEq α] [LawfulBEq α] {k : α} {v : β} : ∀ {l : List (α × β)}, l.lookup k = some v → (k, v) ∈ l
  | [], h => by cases h
  | (a, b) :: l, h => by
    rw [List.lookup_cons] at h
    cases e : k == a with
    | true =>
      rw [e] at h
      cases h
      rw [eq_of_beq e]
      exact List.mem_cons_self
    | false =>
      rw [e] at h
      exact List.mem_cons_of_mem _ (mem_of_look h)
theorem PgD.mems_in {p : PgD} {C : Cn} {m : Str} {x : Mem} (h : (p.mems C).lookup m = some x) : (m, x) ∈ p.mems C ∧ C ∈ p.mem.map (·.1) := by
  refine ⟨mem_of_look h, ?_⟩
  unfold PgD.mems at h
  cases e : p.mem.lookup C with
  | none => rw [e] at h; cases h
  | some l => exact List.mem_map.mpr ⟨(C, l), mem_of_look e, rfl⟩
theorem PgD.flds_in {p : PgD} {C : Cn} {f : Str} (h : (p.flds C).contains f = true) : f ∈ p.flds C ∧ C ∈ p.fld.map (·.1) := by
  refine ⟨List.contains_iff_mem.mp h, ?_⟩
  unfold PgD.flds at h
  cases e : p.fld.lookup C with
  | none => rw [e] at h; cases h
  | some l => exact List.mem_map.mpr ⟨(C, l), mem_of_look e, rfl⟩
/-! ### constants -/
def dvOf : D → He.Dv
  | .bl b => .bl b
  | .int i => .int i
  | .str x => .str x
  | _ => .non
theorem dvOf_v {K : PySem.W.Frag} {d : D} (h : litB d = true) : (dvOf d).v K = litV d := by
  cases d <;> first | rfl | cases h
theorem dvOf_vs {K : PySem.W.Frag} : ∀ {ds : List D}, ds.all litB = true → (ds.map dvOf).map (He.Dv.v K) = ds.map litV
  | [], _ => rfl
  | d :: ds, h => by
    rw [List.all_cons] at h
    obtain ⟨h1, h2⟩ := b2 h
    rw [List.map_cons, List.map_cons, List.map_cons, dvOf_v h1, dvOf_vs h2]
def gconB (K : PySem.W.Frag) (x : Str) (d : D) : Bool := match d with
  | .tup ds => ds.all litB && ((He.Fa.glo x).ok K && He.tupB K x (ds.map dvOf))
  | d => litB d && (match PySem.W.nsIn K mainGlobals x with | some (some u) => He.relB (litV d) u | _ => false)
theorem gconB_ok {K : PySem.W.Frag} {h : Heap} {mg : Str → Option Value} (X : K.In h) (G : h.Ns mainGlobals mg) {x : Str} {d : D} (c : gconB K x d = true) : ∃ v u, mg x = some u ∧ RelV v u ∧ ∀ A H, Rp K A H v d := by
  have flat : ∀ {d : D}, (litB d && (match PySem.W.nsIn K mainGlobals x with | some (some u) => He.relB (litV d) u | _ => false)) = true → ∃ v u, mg x = some u ∧ RelV v u ∧ ∀ A H, Rp K A H v d := fun {d} c => by
    obtain ⟨c1, c2⟩ := b2 c
    cases e : PySem.W.nsIn K mainGlobals x with
    | none => rw [e] at c2; cases c2
    | some o =>
      cases o with
      | none => rw [e] at c2; cases c2
      | some u =>
        rw [e] at c2
        exact ⟨litV d, u, PySem.W.mg_of X G e, He.relB_ok c2, fun A H => lit_rp c1⟩
  cases d with
  | tup ds =>
    obtain ⟨c1, c⟩ := b2 c
    obtain ⟨c2, c3⟩ := b2 c
    refine ⟨.ref (He.ga K x), .ref (He.ga K x), He.glo_ok X G c2, rfl, fun A H => .tupW (vs := ds.map litV) (fun H' => ?_) (LR.lit c1).rpl⟩
    have z := He.tupB_ok c3 H'
    rw [dvOf_vs c1] at z
    exact z
  | _ => exact flat c
/-! ### classes -/
def propB (K : PySem.W.Frag) (C : Addr) (m : Str) (g : Addr) : Bool := He.eqO (PySem.W.findIn K (.ref C) m) (some (some (.ref (He.ma K C m)))) && (He.eqO (PySem.W.specialIn K (.ref (He.ma K C m)) "__get__") (some (some (.builtin "property.__get__"))) && (decide (PySem.W.takesIn K (.ref (He.ma K C m)) = some true) && (match PySem.W.recIn K (He.ma K C m) "property" with | some (.ref a :: _) => decide (a = g) | _ => false)))
theorem propB_ok {K : PySem.W.Frag} {C : Addr} {m : Str} {g : Addr} (h : propB K C m g = true) : ∃ p, PropOf K C m p g := by
  obtain ⟨h1, h⟩ := b2 h
  obtain ⟨h2, h⟩ := b2 h
  obtain ⟨h3, h4⟩ := b2 h
  refine ⟨_, He.eqO_ok h1, He.eqO_ok h2, of_decide_eq_true h3, ?_⟩
  split at h4
  · rename_i a rest e
    have := of_decide_eq_true h4
    subst this
    exact ⟨rest, e⟩
  · cases h4
def methB (K : PySem.W.Frag) (C : Addr) (m : Str) (f : Addr) : Bool := He.eqO (PySem.W.findIn K (.ref C) m) (some (some (.ref f))) && (PySem.W.isFn K (.ref f) && PySem.W.keepIn K (.ref f))
theorem methB_ok {K : PySem.W.Frag} {C : Addr} {m : Str} {f : Addr} (h : methB K C m f = true) : Meth K C m f := by
  obtain ⟨h1, h⟩ := b2 h
  obtain ⟨h2, h3⟩ := b2 h
  exact ⟨He.eqO_ok h1, h2, h3⟩
def ccoB (K : PySem.W.Frag) (C : Cn) (m : Str) (d : D) : Bool := litB d && (!(PySem.W.copiedNames.contains m) && He.conB K C.nm m (dvOf d))
theorem ccoB_ok {K : PySem.W.Frag} {C : Cn} {m : Str} {d : D} (h : ccoB K C m d = true) : ∃ v u, L2.Con K (ca K C) m v u ∧ ∀ A H, Rp K A H v d := by
  obtain ⟨h1, h⟩ := b2 h
  obtain ⟨h2, h3⟩ := b2 h
  obtain ⟨u, z⟩ := He.conB_ok h3 (by simpa using h2)
  rw [dvOf_v h1] at z
  exact ⟨litV d, u, z, fun A H => lit_rp h1⟩
def memB (fa : Str → Addr) (K : PySem.W.Frag) (C : Cn) (q : Str × Mem) : Bool := match q.2 with
  | .me f => methB K (ca K C) q.1 (fa f)
  | .pr f => propB K (ca K C) q.1 (fa f)
  | .co d => ccoB K C q.1 d
  | _ => true
def opTyB (K : PySem.W.Frag) (C : Addr) (o : Operator) (t : String) : Bool := (match PySem.W.findIn K (.ref C) (dunderR o.info.2) with | some none => true | some (some (.ref _)) => true | _ => false) && ((PySem.W.findIn K (.type t) (PySem.dunder o.info.2)).isSome && ((PySem.W.findIn K (.type t) (dunderR o.info.2)).isSome && decide (PySem.W.subIn K (.type t) (.ref C) = some false)))
theorem opTyB_ok {K : PySem.W.Frag} {C : Addr} {o : Operator} {t : String} (h : opTyB K C o t = true) : OpTy K C o t := by
  obtain ⟨h1, h⟩ := b2 h
  obtain ⟨h2, h⟩ := b2 h
  obtain ⟨h3, h4⟩ := b2 h
  refine ⟨?_, Option.isSome_iff_exists.mp h2, Option.isSome_iff_exists.mp h3, of_decide_eq_true h4⟩
  split at h1
  · rename_i e
    exact ⟨none, e, .inl rfl⟩
  · rename_i g e
    exact ⟨some (.ref g), e, .inr ⟨g, rfl⟩⟩
  · cases h1
def isMe : Option Mem → Bool
  | some (.me _) => true
  | _ => false
def ops4 : List Operator := [.Add, .Sub, .Mult, .Pow]
theorem ops4_of {o : Operator} {n nr : Str} (h : opNm o = some (n, nr)) : o ∈ ops4 := by
  unfold opNm at h
  split at h <;> first | (unfold ops4; simp; done) | cases h
def opsB (p : PgD) (K : PySem.W.Frag) (C : Cn) : Bool := ops4.all fun o => match opNm o with
  | some (n, nr) => (!isMe ((p.mems C).lookup n) || opTys.all (opTyB K (ca K C) o)) && (!isMe ((p.mems C).lookup nr) || (isMe ((p.mems C).lookup n) && decide (PySem.W.subIn K (.ref (ca K C)) (.type "int") = some false)))
  | none => true
def clXB (p : PgD) (fa : Str → Addr) (K : PySem.W.Frag) (C : Cn) : Bool := (He.Fa.glo C.nm).ok K && (PySem.W.keepIn K (.ref (ca K C)) && ((He.Fa.cls C.nm).ok K && (PySem.W.makesIn K (ca K C) && (PySem.W.selfFirst K (ca K C) && (PySem.W.noSeq K (ca K C) && ((p.flds C).all (fun f => (He.Fa.noat C.nm f).ok K) && ((p.mems C).all (memB fa K C) && (opsB p K C &&
  (He.eqO (PySem.W.findIn K (.ref (ca K C)) "__class__") (some (some (.builtin "object.__class__"))) && (He.eqO (PySem.W.specialIn K (.builtin "object.__class__") "__get__") (some (some (.builtin "getset_descriptor.__get__"))) && (decide (PySem.W.takesIn K (.builtin "object.__class__") = some true) && (decide (PySem.W.mroIn K (ca K C) (.type "object") = some true) &&
    ((["NoneType", "bool", "int", "str", "tuple", "list", "dict"] : List String).all (fun t => PySem.W.notFirst K (ca K C) (.type t)) && (p.has.all (fun C' => C'.isX || (!(decide (C' = C) || !C'.sub C) || PySem.W.notFirst K (ca K C) (.ref (ca K C')))) && ((!isMe ((p.mems C).lookup ("__eq__" : Str)) || He.eqO (PySem.W.findIn K (.ref (ca K C)) "__ne__") (some (some (.builtin "object.__ne__")))) && (((p.mems C).lookup ("__init__" : Str)).isSome || He.eqO (PySem.W.findIn K (.ref (ca K C)) "__init__") (some (some (.builtin "object.__init__")))))))))))))))))))
theorem clXB_ok {p : PgD} {fa : Str → Addr} {K : PySem.W.Frag} {h : Heap} {mg : Str → Option Value} (X : K.In h) (G : h.Ns mainGlobals mg) {C : Cn} (c : clXB p fa K C = true) : ClX p.pg fa K mg C := by
  obtain ⟨c1, c⟩ := b2 c
  obtain ⟨c2, c⟩ := b2 c
  obtain ⟨c3, c⟩ := b2 c
  obtain ⟨c4, c⟩ := b2 c
  obtain ⟨c5, c⟩ := b2 c
  obtain ⟨c6, c⟩ := b2 c
  obtain ⟨c7, c⟩ := b2 c
  obtain ⟨c8, c⟩ := b2 c
  obtain ⟨c9, c⟩ := b2 c
  obtain ⟨c10, c⟩ := b2 c
  obtain ⟨c11, c⟩ := b2 c
  obtain ⟨c12, c⟩ := b2 c
  obtain ⟨c13, c⟩ := b2 c
  obtain ⟨c15, c⟩ := b2 c
  obtain ⟨c16, c⟩ := b2 c
  obtain ⟨c17, c14⟩ := b2 c
  have mm : ∀ m x, p.pg.find C m = some x → memB fa K C (m, x) = true := fun m x e => List.all_eq_true.mp c8 _ (mem_of_look e)
  have ops : ∀ o n nr, opNm o = some (n, nr) → ((!isMe ((p.mems C).lookup n) || opTys.all (opTyB K (ca K C) o)) && (!isMe ((p.mems C).lookup nr) || (isMe ((p.mems C).lookup n) && decide (PySem.W.subIn K (.ref (ca K C)) (.type "int") = some false)))) = true := fun o n nr e => by
    have z := List.all_eq_true.mp c9 o (ops4_of e)
    rw [e] at z
    exact z
  refine ⟨He.glo_ok X G c1, c2, He.cls_ok c3, c4, c5, c6, fun f hf => He.noat_ok (List.all_eq_true.mp c7 f (PgD.flds_in hf).1), fun m f e => methB_ok (mm m _ e), fun m f e => propB_ok (mm m _ e), fun m d e => ccoB_ok (mm m _ e), fun o n nr f e1 e2 t ht => ?_, fun o n nr f e1 e2 => ?_, ⟨He.eqO_ok c10, He.eqO_ok c11, of_decide_eq_true c12, of_decide_eq_true c13⟩, fun t ht => List.all_eq_true.mp c15 t ht, fun C' hC' hx he => ?_, fun f e => ?_, fun e => ?_⟩
  · obtain ⟨z, _⟩ := b2 (ops o n nr e1)
    rw [show (p.mems C).lookup n = some (.me f) from e2] at z
    exact opTyB_ok (List.all_eq_true.mp (show opTys.all (opTyB K (ca K C) o) = true from z) t ht)
  · obtain ⟨_, z⟩ := b2 (ops o n nr e1)
    rw [show (p.mems C).lookup nr = some (.me f) from e2] at z
    obtain ⟨z1, z2⟩ := b2 (show (isMe ((p.mems C).lookup n) && decide (PySem.W.subIn K (.ref (ca K C)) (.type "int") = some false)) = true from z)
    refine ⟨?_, of_decide_eq_true z2⟩
    show ∃ f2, (p.mems C).lookup n = some (.me f2)
    revert z1
    unfold isMe
    split
    · rename_i f2 e
      exact fun _ => ⟨f2, e⟩
    · exact fun z => by cases z
  · have z := List.all_eq_true.mp c16 C' (List.contains_iff_mem.mp hC')
    rw [hx, he] at z
    exact z
  · rw [show (p.mems C).lookup ("__eq__" : Str) = some (.me f) from e] at c17
    exact He.eqO_ok c17
  · rw [show (p.mems C).lookup ("__init__" : Str) = none from e] at c14
    exact He.eqO_ok c14
/-! ### isinstance -/
def tnAll (p : PgD) : List Tn := tyNs.map .b ++ p.has.map .c
def isiB (p : PgD) (K : PySem.W.Frag) : Bool := (tnAll p).all fun t => (tnAll p).all fun c => match isB p.pg t c with
  | some z => decide (PySem.W.kitOne K (tnV K t) (tnV K c) = some z)
  | none => true
theorem isB_in {p : PgD} {t c : Tn} {z : Bool} (h : isB p.pg t c = some z) : t ∈ tnAll p ∧ c ∈ tnAll p := by
  have hb : ∀ {u : String}, u ∈ tyNs → Tn.b u ∈ tnAll p := fun h => List.mem_append_left _ (List.mem_map_of_mem h)
  have hc : ∀ {C : Cn}, p.has.contains C = true → Tn.c C ∈ tnAll p := fun h => List.mem_append_right _ (List.mem_map_of_mem (List.contains_iff_mem.mp h))
  unfold isB at h
  split at h
  · split at h
    · rename_i q
      exact ⟨hb q.1, hb q.2⟩
    · cases h
  · split at h
    · rename_i q
      exact ⟨hb q.1, hc q.2⟩
    · cases h
  · split at h
    · rename_i q
      exact ⟨hc q.2, hb q.1⟩
    · cases h
  · split at h
    · rename_i q
      obtain ⟨q1, q2⟩ := b2 q
      exact ⟨hc q1, hc q2⟩
    · cases h
theorem isiB_ok {p : PgD} {K : PySem.W.Frag} (h : isiB p K = true) {t c : Tn} {z : Bool} (e : isB p.pg t c = some z) : PySem.W.kitOne K (tnV K t) (tnV K c) = some z := by
  obtain ⟨h1, h2⟩ := isB_in e
  have q := List.all_eq_true.mp (List.all_eq_true.mp h t h1) c h2
  rw [e] at q
  exact of_decide_eq_true q
/-! ### all -/
def biAll : List Str := (["int", "max", "min", "len", "abs", "range", "repr", "isinstance"] : List Str) ++ ((["all", "any", "tuple", "list", "sorted", "set", "dict", "enumerate"] : List Str) ++ (["zip", "str", "bool", "sum", "super", "bytes", "ValueError", "TypeError"] : List Str))
def worldB (p : PgD) (gfs : List Str) (sps : List SupD) (file : Str) (fa : Str → Addr) (K : PySem.W.Frag) : Bool :=
  biAll.all (fun x => (He.Fa.free x).ok K) && (gfs.all (fun x => He.eqO (PySem.W.nsIn K mainGlobals x) (some (some (.ref (fa x))))) && (p.has.all (fun C => C.isX || clXB p fa K C) && (p.con.all (fun q => gconB K q.1 q.2) && (isiB p K &&
    (p.has.all (fun C => !C.isX || ((He.Fa.glo C.nm).ok K && (exKB K (ca K C) && ((!C.plainX || PySem.W.excIn K (ca K C) He.veBase "ValueError.__new__") && (decide (PySem.W.kitOne K (.ref (ca K C)) (.type "ValueError") = some true) && (!p.has.contains .RowError || decide (PySem.W.exmOne K (.ref (ca K C)) (.ref (ca K .RowError)) = some true))))))) && (p.has.all (fun C => (He.Fa.glo C.nm).ok K && PySem.W.keepIn K (.ref (ca K C))) && sps.all (fun d => supOk K file d)))))))
/-- the lists agree -/
def listsB (p : PgD) : Bool := p.mem.all (fun q => p.has.contains q.1 && !q.1.isX) && p.fld.all (fun q => p.has.contains q.1 && !q.1.isX)
def supsB (p : PgD) (sps : List SupD) : Bool := p.has.all fun C => match C.fldX with
  | some fs => sps.any fun d => decide (d.x = C.nm) && decide (d.fs = fs)
  | none => true
/-- the def's small text is its text -/
structure DefT (G : Pg) (gfn : Str → Bool) (d : DefE) (f : Fn) : Prop where
  sc : FnScope d.N f.ps d.scope
  len : d.N.length = f.ps.length + f.n
  chk : chkB G gfn d.N ⟨d.scope, d.la⟩ f.body d.body = true
  bnd : ∀ (K : PySem.W.Frag) (fd : FuncData), FunD K d.name d.qual d.params d.body d.scope (d.dfl.map litV) (d.kwd.map fun q => (q.1, litV q.2)) (d.at_.ad K) fd → ∀ (n : Nat) (ks : List Str), (n, ks) ∈ f.sh → ∀ (s : Shared) (us ws : List Value) (vs zs : List V), K.In s.heap → us.length = n → ws.length = ks.length → Vals vs us → Vals zs ws → ∃ (xs : List Value) (ys : List V), BindsTo s fd ⟨us, ks.zip ws⟩ (f.ps.zip xs) ∧ Vals ys xs ∧
      ∀ (A : Ad) (H : Hp) (ds kds as : List D), RpL K A H vs ds → RpL K A H zs kds → bindF f ds ks kds = some as → RpL K A H ys as ∧ as.length = f.ps.length
def fnScB (N P : List Str) (sc : Scope) : Bool := decide (sc.kind = .function) && (!sc.isCoroutine && (!sc.isGenerator && (decide N.Nodup && (decide (N.take P.length = P) && (P.all (fun x => locB sc x) && sc.names.all (fun y => decide (y.2 ≠ .free)))))))
theorem fnScB_ok {N P : List Str} {sc : Scope} (h : fnScB N P sc = true) : FnScope N P sc := by
  obtain ⟨h1, h⟩ := b2 h
  obtain ⟨h2, h⟩ := b2 h
  obtain ⟨h3, h⟩ := b2 h
  obtain ⟨h4, h⟩ := b2 h
  obtain ⟨h5, h⟩ := b2 h
  obtain ⟨h6, h7⟩ := b2 h
  refine ⟨of_decide_eq_true h1, by simpa using h2, by simpa using h3, of_decide_eq_true h4, of_decide_eq_true h5, fun x hx => ?_, fun y hy => of_decide_eq_true (List.all_eq_true.mp h7 y hy)⟩
  have z := List.all_eq_true.mp h6 x hx
  unfold locB at z
  split at z
  · rename_i e
    exact .inl e
  · rename_i e
    exact .inr e
  · cases z
/-- where the def stands -/
def faOf (fn : List DefE) (K : PySem.W.Frag) (x : Str) : Addr := match fn.find? (fun d => decide (d.x = x)) with
  | some d => d.at_.ad K
  | none => 0
section
variable {p : PgD} {gfs : List Str} {fn : List DefE} {sps : List SupD} {T : List (Addr × Str)} {P : Program} {w : World} {K : PySem.W.Frag} {mg : Str → Option Value} {base h : Heap}
theorem fnX_zero {f : Fn} {d : DefE} {fd : FuncData} {C : Con} {k : Nat} (Dk : DefK K d fd) (t : ∀ (n : Nat) (ks : List Str), (n, ks) ∈ f.sh → ∀ (s : Shared) (us ws : List Value) (vs zs : List V), K.In s.heap → us.length = n → ws.length = ks.length → Vals vs us → Vals zs ws → ∃ (xs : List Value) (ys : List V), BindsTo s fd ⟨us, ks.zip ws⟩ (f.ps.zip xs) ∧ Vals ys xs ∧
      ∀ (A : Ad) (H : Hp) (ds kds as : List D), RpL K A H vs ds → RpL K A H zs kds → bindF f ds ks kds = some as → RpL K A H ys as ∧ as.length = f.ps.length) (hC : ∀ b ds M, C b ds M = .no) : FnX P w K T mg base k (d.at_.ad K) f C :=
  ⟨Dk.kp, Dk.fn, Dk.fi, fd, ⟨fun vs H Q E ⟨A, bs, b, M, ds, hl, _, _, r, _⟩ => by rw [r.length, hl], fun A outer s H args us vs Q E _ _ _ _ _ ⟨A0, bs, b, M, ds, _, _, _, _, q⟩ => by
    rw [hC] at q
    exact q.no.elim⟩, t⟩
/-- where d's lambdas are told -/
def LamD (G : Pg) (K : PySem.W.Frag) (mg : Str → Option Value) (base : Heap) (T : List (Addr × Str)) (d : DefE) : Prop := SaidK G K mg ∧ ∃ c Pt : Addr, (∀ fd, DefK K d fd → fd.code = .ref c) ∧ TabB base mg c Pt ∧ (Pt, d.qual ++ ".<locals>." ++ "<lambda>") ∈ T ∧ ∀ p ∈ T, p.1 = Pt → p.2 = d.qual ++ ".<locals>." ++ "<lambda>"
theorem fnK_succ {G : Pg} {fa : Str → Addr} {cf : Nat → Cf} {gfn : Str → Bool} {f : Fn} {d : DefE} {fd : FuncData} {k : Nat} (D : DefK K d fd) (t : DefT G gfn d f) (hl : d.la = true → LamD G K mg base T d) (wl : Wld G fa cf k T P w K mg base gfn) : FnK P w K mg base (k + 5) (d.at_.ad K) fd f.ps (spF K T f.ps.length (fun b ds M => callF G cf f b ds M)) := by
  have D' := D
  obtain ⟨oc, od, dV, kV, doc, pm, an, cdv, ct, osl, rfl, lk, hcd, _, _⟩ := D.fun_.ex
  exact fnK_of (k := k + 4) lk hcd t.sc (fun vs H Q E ⟨A, bs, b, M, ds, hl, _, _, r, _⟩ => by rw [r.length, hl]) fun A outer s H vs Q E hG hr hsp => def_body wl t.sc t.len t.chk (fun z => by
    obtain ⟨q1, c, Pt, q2, q3⟩ := hl z
    exact ⟨q1, c, Pt, q2 _ D', q3⟩) A outer s H vs Q E hG hr hsp
theorem fnX_succ {G : Pg} {fa : Str → Addr} {cf : Nat → Cf} {gfn : Str → Bool} {f : Fn} {d : DefE} {fd : FuncData} {k : Nat} (D : DefK K d fd) (t : DefT G gfn d f) (hl : d.la = true → LamD G K mg base T d) (wl : Wld G fa cf k T P w K mg base gfn) : FnX P w K T mg base (k + 5) (d.at_.ad K) f (fun b ds M => callF G cf f b ds M) :=
  ⟨D.kp, D.fn, D.fi, fd, fnK_succ D t hl wl, t.bnd K fd D.fun_⟩
/-- THE WORLD -/
theorem wld_all (X : K.In h) (Gm : h.Ns mainGlobals mg) (hw : worldB p gfs sps P.main.file (faOf fn K) K = true) (hl : listsB p = true) (hs : supsB p sps = true) (hso : ∀ d ∈ sps, supObs K d.x = d.val) (hst : ∀ d ∈ sps, SupT P d) (hfn : ∀ d ∈ fn, ∃ fd, DefK K d fd)
    (hdef : ∀ x f, p.fns.lookup x = some f → ∃ d, fn.find? (fun d => decide (d.x = x)) = some d ∧ DefT p.pg (fun x => gfs.contains x) d f) (hlam : ∀ d ∈ fn, d.la = true → LamD p.pg K mg base T d) : ∀ j : Nat, Wld p.pg (faOf fn K) (run p.pg j) (5 * j) T P w K mg base (fun x => gfs.contains x) := by
  obtain ⟨w1, hw⟩ := b2 hw
  obtain ⟨w2, hw⟩ := b2 hw
  obtain ⟨w3, hw⟩ := b2 hw
  obtain ⟨w4, hw⟩ := b2 hw
  obtain ⟨w5, hw⟩ := b2 hw
  obtain ⟨w6, hw⟩ := b2 hw
  obtain ⟨w7, w8⟩ := b2 hw
  obtain ⟨l1, l2⟩ := b2 hl
  have bi : Bi mg := by
    have z : ∀ x, x ∈ biAll → mg x = none := fun x hx => He.free_ok X Gm (List.all_eq_true.mp w1 x hx)
    constructor <;> exact z _ (by decide)
  have cls : ∀ C, p.has.contains C = true → C.isX = false → ClX p.pg (faOf fn K) K mg C := fun C hC hx => by
    have z := List.all_eq_true.mp w3 C (List.contains_iff_mem.mp hC)
    rw [hx] at z
    exact clXB_ok X Gm z
  have exk : ∀ C, p.has.contains C = true → C.isX = true → mg C.nm = some (.ref (ca K C)) ∧ ExK K (ca K C) ∧ (C.plainX = true → PySem.W.excIn K (ca K C) He.veBase "ValueError.__new__" = true) ∧ PySem.W.kitOne K (.ref (ca K C)) (.type "ValueError") = some true ∧ (p.has.contains .RowError = true → PySem.W.exmOne K (.ref (ca K C)) (.ref (ca K .RowError)) = some true) := fun C hC hx => by
    have z := List.all_eq_true.mp w6 C (List.contains_iff_mem.mp hC)
    rw [hx] at z
    obtain ⟨z1, z⟩ := b2 (show ((He.Fa.glo C.nm).ok K && (exKB K (ca K C) && ((!C.plainX || PySem.W.excIn K (ca K C) He.veBase "ValueError.__new__") && (decide (PySem.W.kitOne K (.ref (ca K C)) (.type "ValueError") = some true) && (!p.has.contains .RowError || decide (PySem.W.exmOne K (.ref (ca K C)) (.ref (ca K .RowError)) = some true)))))) = true from z)
    obtain ⟨z2, z⟩ := b2 z
    obtain ⟨z3, z⟩ := b2 z
    obtain ⟨z4, z5⟩ := b2 z
    refine ⟨He.glo_ok X Gm z1, exKB_ok z2, fun hp => ?_, of_decide_eq_true z4, fun hr => ?_⟩
    · rw [hp] at z3
      exact z3
    · rw [hr] at z5
      exact of_decide_eq_true z5
  have rest : ∀ (j : Nat), (∀ x f, p.pg.fn x = some f → FnX P w K T mg base (5 * j) (faOf fn K x) f (fun b ds M => run p.pg j b x ds M)) → Wld p.pg (faOf fn K) (run p.pg j) (5 * j) T P w K mg base (fun x => gfs.contains x) := fun j hF => by
    refine ⟨bi, hF, fun x hx => ?_, fun C m x e => ?_, fun C f e => ?_, fun x d e => ?_, fun t c z e => isiB_ok w5 e, cls, fun C hC hp => ?_, fun C fs hC hf => ?_, fun C hC => ?_, fun C hC hx => (exk C hC hx).2.1, fun C hC hx => (exk C hC hx).2.2.2.1, fun C hC hx hr => (exk C hC hx).2.2.2.2 hr⟩
    · exact PySem.W.mg_of X Gm (He.eqO_ok (List.all_eq_true.mp w2 x (List.contains_iff_mem.mp hx)))
    · obtain ⟨l, hl', e2⟩ := List.mem_map.mp (PgD.mems_in e).2
      obtain ⟨z1, z2⟩ := b2 (List.all_eq_true.mp l1 l hl')
      rw [e2] at z1 z2
      exact cls C z1 (by simpa using z2)
    · obtain ⟨l, hl', e2⟩ := List.mem_map.mp (PgD.flds_in e).2
      obtain ⟨z1, z2⟩ := b2 (List.all_eq_true.mp l2 l hl')
      rw [e2] at z1 z2
      exact cls C z1 (by simpa using z2)
    · exact gconB_ok X Gm (List.all_eq_true.mp w4 (x, d) (mem_of_look e))
    · obtain ⟨z1, z2, z3, _⟩ := exk C hC (by unfold Cn.isX; rw [hp]; rfl)
      exact ⟨z1, z3 hp, z2⟩
    · obtain ⟨z1, z2, z3, _⟩ := exk C hC (by unfold Cn.isX; rw [hf]; simp)
      have q := List.all_eq_true.mp hs C (List.contains_iff_mem.mp hC)
      rw [hf] at q
      obtain ⟨d, hd, q⟩ := List.any_eq_true.mp q
      obtain ⟨q1, q2⟩ := b2 q
      have e1 := of_decide_eq_true q1
      have e2 := of_decide_eq_true q2
      have S := supOk_ok (hso d hd) (List.all_eq_true.mp w8 d hd) (hst d hd)
      rw [e1, e2] at S
      exact ⟨z1, ⟨_, S⟩, by rw [← e2]; exact (hst d hd).dbg, z2⟩
    · obtain ⟨z1, z2⟩ := b2 (List.all_eq_true.mp w7 C (List.contains_iff_mem.mp hC))
      exact ⟨He.glo_ok X Gm z1, z2⟩
  intro j
  induction j with
  | zero =>
    refine rest 0 fun x f e => ?_
    obtain ⟨d, e1, t⟩ := hdef x f e
    obtain ⟨fd, D⟩ := hfn d (List.mem_of_find?_eq_some e1)
    have ea : faOf fn K x = d.at_.ad K := by unfold faOf; rw [e1]
    rw [ea]
    exact fnX_zero D (t.bnd K fd D.fun_) fun b ds M => rfl
  | succ j ih =>
    refine rest (j + 1) fun x f e => ?_
    obtain ⟨d, e1, t⟩ := hdef x f e
    obtain ⟨fd, D⟩ := hfn d (List.mem_of_find?_eq_some e1)
    have ea : faOf fn K x = d.at_.ad K := by unfold faOf; rw [e1]
    rw [ea]
    have er : (fun (b : Nat) (ds : List Iv.D) (M : Me) => run p.pg (j + 1) b x ds M) = fun b ds M => callF p.pg (run p.pg j) f b ds M := by
      funext b ds M
      rw [run, e]
    rw [er]
    exact fnX_succ D t (hlam d (List.mem_of_find?_eq_some e1)) ih
end
/-! ### the end -/
theorem law_start {K : PySem.W.Frag} {T : List (Addr × Str)} {H : Hp} {a : Addr} {ns : List Int} {C : Con} {E : XK} {M' : Me} (hT : Tabs T H) (hS : SqL K H a (ns.map V.int)) (hC : C 0 [.scr ns] [] = .ok (.bl true) M') : spF K T 1 C [.ref a] H (fun v _ => v = .bl true) E := by
  have r : Rp K ⟨[], []⟩ H (.ref a) (.scr ns) := by
    rcases hS with h | h
    · exact .scr ⟨by simp, by simp⟩ h
    · exact .scrW fun H' => .inr h
  refine ⟨⟨[], []⟩, [], 0, [], [.scr ns], rfl, by simp, ⟨hT, rfl, by simp, List.nodup_nil, by simp, fun k c hc => by simp at hc, rfl, fun i d hd => by simp at hd⟩, .cons r .nil, ?_⟩
  rw [hC]
  refine .ok fun A' v H' c S r => ?_
  cases r
  rfl
theorem walk_E {l : PySem.W.OpenLaw} {n k : Nat} {q : Program} {loose : List Str} {XP : (Str → Option Value) → Heap → Prop} {YP : World → Heap → Prop} {d : DefRec} {x : Str} (hn : l.most = some n) (hn2 : n ≤ sizeLine) (hdf : d.params.defaults = []) (hr : Room k callerA)
    (F : ∀ (w : World) (mg : Str → Option Value) (fa : Addr) (h : Heap), YP w h → h.Ns mainGlobals mg → mg d.name = some (.ref fa) → ∃ (K : PySem.W.Frag) (fd : FuncData) (cs : List (Addr × Addr)) (sp : Sp), K.In h ∧ (∀ p ∈ cs, h.get? p.2 = some tbo) ∧ (∀ p ∈ cs, K.lookup p.2 = none) ∧ (∀ p ∈ cs, PySem.W.CodeHd h p.1 p.2) ∧ (∀ (s : Shared) (u : Value), BindsTo s fd ⟨[u], []⟩ [(x, u)]) ∧
      (∀ (H : Hp) (a : Addr) (ns : List Int), ns.length ≤ n → (∀ z ∈ ns, Builtin.Int.intBits z ≤ 1048576) → (∀ p ∈ cs, H p.2 = some (.tbl #[])) → SqL K H a (ns.map V.int) → sp [.ref a] H (fun v _ => v = .bl true) fun _ _ _ => False) ∧
      ∀ base : Heap, K.In base → base.Ns mainGlobals mg → (∀ p ∈ cs, LamX.TabB base mg p.1 p.2) → FnK l.prog w K mg base k fa fd [x] sp) :
    PySem.W.WalkO q loose XP YP l.row.toRowW d [] (fun f vs => PySem.call f vs) := by
  refine Att.attach_callB hn hdf fun w s₀ s₁ mg mb fa o pm cd doc a vs ns G Y ho hd hcd hmg hobj hints hlen hbits hg => ?_
  obtain ⟨K, fd, cs, sp, KX, hT, nT, C, hb, hsp, hF⟩ := F w mg fa _ Y G.T.g hmg
  exact law_callR KX G.T.g G.T.b G.T.builtins G.T.nolimit hg hT nT C G.T.bmain hobj hints (Nat.le_trans hlen hn2) hr hF hb (fun H hH hS => hsp H a ns hlen hbits hH hS)
/-! ### the defs in a row -/
inductive DefsT (G : Pg) (gfn : Str → Bool) : List (Str × Fn) → List DefE → Prop where
  | nil : DefsT G gfn [] []
  | cons {x f d fs ds} : d.x = x → DefT G gfn d f → DefsT G gfn fs ds → DefsT G gfn ((x, f) :: fs) (d :: ds)
theorem DefsT.get {G : Pg} {gfn : Str → Bool} : ∀ {fs : List (Str × Fn)} {ds : List DefE}, DefsT G gfn fs ds → ∀ x f, fs.lookup x = some f → ∃ d, ds.find? (fun d => decide (d.x = x)) = some d ∧ DefT G gfn d f
  | _, _, .nil, x, f, h => by cases h
  | (y, fy) :: fs, d :: ds, .cons e t r, x, f, h => by
    rw [List.lookup_cons] at h
    by_cases hx : x = y
    · subst hx
      rw [beq_self_eq_true] at h
      cases h
      exact ⟨d, List.find?_cons_of_pos (p := fun d : DefE => decide (d.x = x)) (decide_eq_true e), t⟩
    · rw [beq_eq_false_iff_ne.mpr hx] at h
      obtain ⟨d', e', t'⟩ := DefsT.get r x f h
      refine ⟨d', ?_, t'⟩
      exact (List.find?_cons_of_neg (p := fun d : DefE => decide (d.x = x)) (by intro z; exact hx ((of_decide_eq_true z).symm.trans e))).trans e'
/-! ### lambdas -/
/-- the tables of the defs that make lambdas -/
def tabT (tf : List He.Defn) (K : PySem.W.Frag) : List (Addr × Str) := tf.map fun p => ((He.cT K p).2, p.1 ++ ".<locals>." ++ "<lambda>")
def tabsDiff (tf : List He.Defn) (K : PySem.W.Frag) : Bool := decide ((tf.map fun p => (He.cT K p).2).Nodup)
def laB (fn : List DefE) (tf : List He.Defn) : Bool := fn.all fun d => !d.la || (match d.at_ with | .glo x => decide ((x, none) ∈ tf) && decide (d.qual = x) | _ => false)
structure WordT (G : Pg) (d : DefE) : Prop where
  at_ : d.at_ = .glo "_law_word"
  nm : d.name = "_law_word" ∧ d.qual = "_law_word"
  dfl : d.dfl = []
  sc : FnScope d.N ["_law_e"] d.scope
  len : d.N.length = 3
  bind : ∀ (kV doc pm : Value) (an : Option Addr) (cdv ct : Value) (us : List Value), us.length = 1 → bindArgs (PySem.W.fnOf d.name d.qual d.params d.body d.scope .none kV doc pm an cdv ct) ⟨us, []⟩ = pure ([("_law_e" : Str)].zip us)
  chk : chkHB G d.N d.scope 0 wordT d.body = true
structure SaidT (G : Pg) (d : DefE) : Prop where
  at_ : d.at_ = .glo "_law_said"
  nm : d.name = "_law_said" ∧ d.qual = "_law_said"
  dfl : d.dfl = []
  sc : FnScope d.N ["_law_call"] d.scope
  bind : ∀ (kV doc pm : Value) (an : Option Addr) (cdv ct : Value) (us : List Value), us.length = 1 → bindArgs (PySem.W.fnOf d.name d.qual d.params d.body d.scope .none kV doc pm an cdv ct) ⟨us, []⟩ = pure ([("_law_call" : Str)].zip us)
  chk : saidB G d.N d.scope d.body = true
section
variable {G : Pg} {K : PySem.W.Frag} {h : Heap} {mg : Str → Option Value} {dw ds : DefE}
theorem saidK_of (X : K.In h) (Gm : h.Ns mainGlobals mg) (gw : (He.Fa.glo "_law_word").ok K = true) (gs : (He.Fa.glo "_law_said").ok K = true) (kw : ∃ fd, DefK K dw fd) (ks : ∃ fd, DefK K ds fd) (tw : WordT G dw) (ts : SaidT G ds) : SaidK G K mg := by
  refine ⟨⟨?_⟩, ?_⟩
  · obtain ⟨fd, D⟩ := kw
    have F := D.fun_
    rw [tw.dfl] at F
    have b := FunD.bindsA (ps := [("_law_e" : Str)]) F tw.bind
    obtain ⟨oc, od, dV, kV, doc, pm, an, cdv, ct, osl, rfl, lk, hcd, _, _⟩ := D.fun_.ex
    have ea : dw.at_.ad K = He.ga K "_law_word" := by rw [tw.at_]; rfl
    obtain ⟨n1, n2⟩ := tw.nm
    rw [n1, n2] at lk b
    rw [n2] at hcd
    exact ⟨dw.at_.ad K, oc, od, osl, dw.params, dw.body, dw.scope, dw.N, dV, kV, doc, pm, an, cdv, ct, by rw [ea]; exact He.glo_ok X Gm gw, D.kp, lk, hcd, tw.sc, tw.len, fun s us _ hl => b s us hl, tw.chk⟩
  · obtain ⟨fd, D⟩ := ks
    have F := D.fun_
    rw [ts.dfl] at F
    have b := FunD.bindsN (ps := [("_law_call" : Str)]) F ts.bind
    obtain ⟨oc, od, dV, kV, doc, pm, an, cdv, ct, osl, rfl, lk, hcd, _, _⟩ := D.fun_.ex
    have ea : ds.at_.ad K = He.ga K "_law_said" := by rw [ts.at_]; rfl
    obtain ⟨n1, n2⟩ := ts.nm
    rw [n1, n2] at lk b
    rw [n2] at hcd
    exact ⟨ds.at_.ad K, oc, od, osl, ds.params, ds.body, ds.scope, ds.N, dV, kV, doc, pm, an, cdv, ct, by rw [ea]; exact He.glo_ok X Gm gs, D.kp, lk, hcd, ts.sc, b, ts.chk⟩
theorem lamD_of {base : Heap} {fn : List DefE} {tf : List He.Defn} (sk : SaidK G K mg) (hla : laB fn tf = true) (hdf : tabsDiff tf K = true) (htb : ∀ p ∈ tf, TabB base mg (He.cT K p).1 (He.cT K p).2) : ∀ d ∈ fn, d.la = true → LamD G K mg base (tabT tf K) d := fun d hd hl => by
  have z := List.all_eq_true.mp hla d hd
  rw [hl] at z
  cases ha : d.at_ with
  | glo x =>
    rw [ha] at z
    obtain ⟨z1, z2⟩ := b2 (show (decide ((x, none) ∈ tf) && decide (d.qual = x)) = true from z)
    have hm := of_decide_eq_true z1
    have hq := of_decide_eq_true z2
    refine ⟨sk, (He.cT K (x, none)).1, (He.cT K (x, none)).2, fun fd D => ?_, htb _ hm, ?_, fun p hp e => ?_⟩
    · obtain ⟨oc, od, dV, kV, doc, pm, an, cdv, ct, osl, rfl, lk, hcd, _, _⟩ := D.fun_.ex
      rw [ha] at lk
      obtain ⟨c, hc⟩ := He.codeIn_ref hcd
      have z := He.codeOf_eq (p := (x, none)) lk (show (PySem.W.fnOf d.name d.qual d.params d.body d.scope dV kV doc pm an cdv ct).code = .ref c from hc)
      show cdv = .ref (He.codeOf K (x, none))
      rw [z, hc]
    · rw [hq]
      exact List.mem_map.mpr ⟨(x, none), hm, rfl⟩
    · obtain ⟨p0, hp0, rfl⟩ := List.mem_map.mp hp
      have nd := of_decide_eq_true hdf
      have inj : ∀ {l : List He.Defn}, (l.map fun p => (He.cT K p).2).Nodup → ∀ a ∈ l, ∀ b ∈ l, (He.cT K a).2 = (He.cT K b).2 → a = b := fun {l} h => by
        induction l with
        | nil => intro a ha; cases ha
        | cons y ys ih =>
          rw [List.map_cons, List.nodup_cons] at h
          intro a ha b hb e
          rcases List.mem_cons.mp ha with ea | ha
          · rcases List.mem_cons.mp hb with eb | hb
            · rw [ea, eb]
            · exact (h.1 (List.mem_map.mpr ⟨b, hb, by rw [← ea]; exact e.symm⟩)).elim
          · rcases List.mem_cons.mp hb with eb | hb
            · exact (h.1 (List.mem_map.mpr ⟨a, ha, by rw [← eb]; exact e⟩)).elim
            · exact ih h.2 a ha b hb e
      have e2 := inj nd p0 hp0 _ hm e
      rw [e2, hq]
  | _ => rw [ha] at z; cases z
end
/-- the law's def in its world -/
theorem law_F {p : PgD} {gfs : List Str} {fn xs : List DefE} {tf : List He.Defn} {sps : List SupD} {P : Program} {w : World} {K : PySem.W.Frag} {mg : Str → Option Value} {h : Heap} {fa : Addr} {j : Nat} {f : Fn} {d : DefE} {ex : PySem.W.Frag → Bool} (X : K.In h) (Gm : h.Ns mainGlobals mg) (c : SaysE (fn ++ xs) sps tf ex h K) (hex : ∀ K, ex K = true → worldB p gfs sps P.main.file (faOf fn K) K = true) (hd : DefsT p.pg (fun x => gfs.contains x) p.fns fn) (hst : ∀ d ∈ sps, SupT P d) (hl : listsB p = true) (hs : supsB p sps = true)
    (hlaw : p.fns.lookup ("law" : Str) = some f) (hdl : fn.find? (fun d => decide (d.x = ("law" : Str))) = some d) (hat : d.at_ = .glo "law") (hdf : d.dfl = []) (hmg : mg ("law" : Str) = some (.ref fa)) (hps : f.ps = [("_law_script" : Str)]) (hgl : gfs.contains ("law" : Str) = true)
    (hb : ∀ (kV doc pm : Value) (an : Option Addr) (cdv ct : Value) (us : List Value), us.length = 1 → bindArgs (PySem.W.fnOf d.name d.qual d.params d.body d.scope .none kV doc pm an cdv ct) ⟨us, []⟩ = pure ([("_law_script" : Str)].zip us))
    (hlam : ∀ base : Heap, (∀ p ∈ tf, TabB base mg (He.cT K p).1 (He.cT K p).2) → ∀ d ∈ fn, d.la = true → LamD p.pg K mg base (tabT tf K) d)
    (hL : ∀ ns : List Int, ns.length ≤ 63 → (∀ z ∈ ns, Builtin.Int.intBits z ≤ 1048576) → ∃ M', run p.pg (j + 1) 0 "law" [.scr ns] [] = .ok (.bl true) M') :
    ∃ (K : PySem.W.Frag) (fd : FuncData) (cs : List (Addr × Addr)) (sp : Sp), K.In h ∧ (∀ p ∈ cs, h.get? p.2 = some tbo) ∧ (∀ p ∈ cs, K.lookup p.2 = none) ∧ (∀ p ∈ cs, PySem.W.CodeHd h p.1 p.2) ∧ (∀ (s : Shared) (u : Value), BindsTo s fd ⟨[u], []⟩ [(("_law_script" : Str), u)]) ∧
      (∀ (H : Hp) (a : Addr) (ns : List Int), ns.length ≤ 63 → (∀ z ∈ ns, Builtin.Int.intBits z ≤ 1048576) → (∀ p ∈ cs, H p.2 = some (.tbl #[])) → SqL K H a (ns.map V.int) → sp [.ref a] H (fun v _ => v = .bl true) fun _ _ _ => False) ∧
      ∀ base : Heap, K.In base → base.Ns mainGlobals mg → (∀ p ∈ cs, LamX.TabB base mg p.1 p.2) → FnK P w K mg base (5 * (j + 1)) fa fd [("_law_script" : Str)] sp := by
  have hw := hex K c.more
  have mem : d ∈ fn := List.mem_of_find?_eq_some hdl
  obtain ⟨fd, Dk⟩ := c.fns d (List.mem_append_left _ mem)
  obtain ⟨d', e1, t⟩ := hd.get _ f hlaw
  rw [hdl] at e1
  cases e1
  have efa : d.at_.ad K = fa := by
    have w2 := (b2 (b2 hw).2).1
    have z := PySem.W.mg_of X Gm (He.eqO_ok (List.all_eq_true.mp w2 _ (List.contains_iff_mem.mp hgl)))
    rw [hmg] at z
    cases z
    unfold faOf
    rw [hdl]
  have bnd := FunD.bindsA (ps := [("_law_script" : Str)]) (by have z := Dk.fun_; rw [hdf] at z; exact z) hb
  refine ⟨K, fd, tf.map (He.cT K), spF K (tabT tf K) 1 (fun b ds M => run p.pg (j + 1) b "law" ds M), X, ?_, ?_, ?_, fun s u => bnd s [u] rfl, fun H a ns hn hz hH hS => ?_, fun base _ _ hT => ?_⟩
  · intro q hq
    obtain ⟨q0, hq0, rfl⟩ := List.mem_map.mp hq
    exact c.empty q0 hq0
  · intro q hq
    obtain ⟨q0, hq0, rfl⟩ := List.mem_map.mp hq
    exact c.out q0 hq0
  · intro q hq
    obtain ⟨q0, hq0, rfl⟩ := List.mem_map.mp hq
    exact PySem.W.codeHd_of_K X (c.hd q0 hq0)
  · obtain ⟨M', e⟩ := hL ns hn hz
    refine law_start (fun q hq => ?_) hS e
    obtain ⟨q0, hq0, rfl⟩ := List.mem_map.mp hq
    exact TabS.nil (hH _ (List.mem_map.mpr ⟨q0, hq0, rfl⟩))
  · have hl2 := hlam base fun q hq => hT _ (List.mem_map.mpr ⟨q, hq, rfl⟩)
    have wl := wld_all (T := tabT tf K) (P := P) (w := w) (base := base) X Gm hw hl hs c.sup hst (fun d hd => c.fns d (List.mem_append_left _ hd)) hd.get hl2 j
    have er : (fun (b : Nat) (ds : List D) (M : Me) => run p.pg (j + 1) b ("law" : Str) ds M) = fun b ds M => callF p.pg (run p.pg j) f b ds M := by
      funext b ds M
      rw [run, show p.pg.fn ("law" : Str) = some f from hlaw]
    rw [er, ← efa]
    have q := fnK_succ Dk t (hl2 d mem) wl
    rw [hps] at q
    exact q
end Iv
namespace Lw
open PySem PySem.Spec PyProof.Rows L2 LamX Iv
def top (i : Nat) : Stmt := PySem.Challenge.pw_rowclash_k71_formulas_refuse.main.body.getD i (.Pass ⟨0, 0, 0, 0⟩)
def f_is_integer : Fn := ⟨["thing"], 0, [], [(1, [])],
  [.ret (.and (.cb .isinst [(.v 0), (.gty "int")]) (.nt (.cb .isinst [(.v 0), (.gty "bool")])))], false⟩
def f_is_key : Fn := ⟨["thing"], 0, [], [(1, [])],
  [.ret (.and (.cf "is_integer" [(.v 0)] [] []) (.chn .Lt .Lt (.neg (.gc "KEY_BOUND")) (.v 0) (.gc "KEY_BOUND")))], false⟩
def f_is_small : Fn := ⟨["thing"], 0, [], [(1, [])],
  [.ret (.and (.cf "is_integer" [(.v 0)] [] []) (.chn .Lt .Lt (.neg (.gc "SMALL_BOUND")) (.v 0) (.gc "SMALL_BOUND")))], false⟩
def f_Formula___init__ : Fn := ⟨["self", "times", "plus"], 0, [none, some (.int (1)), some (.int (0))], [(3, [])],
  [.ifs (.or (.nt (.cf "is_integer" [(.v 1)] [] [])) (.nt (.cf "is_integer" [(.v 2)] [] []))) [.rai .NotInteger [(.str "a formula is made of integers")]] [],
   .ifs (.or (.nt (.cf "is_small" [(.v 1)] [] [])) (.nt (.cf "is_small" [(.v 2)] [] []))) [.rai .TooLarge [(.str "a number of the formula has too many digits")]] [],
   .asg (.att (.v 0) "pair") (.tup [(.v 1), (.v 2)])], true⟩
def f_Formula_times : Fn := ⟨["self"], 0, [], [(1, [])],
  [.ret (.sub (.att (.v 0) "pair") (.int 0))], false⟩
def f_Formula_plus : Fn := ⟨["self"], 0, [], [(1, [])],
  [.ret (.sub (.att (.v 0) "pair") (.int 1))], false⟩
def f_Formula___call__ : Fn := ⟨["self", "key"], 0, [], [(2, [])],
  [.ifs (.nt (.cf "is_key" [(.v 1)] [] [])) [.rai .NotKey [(.str "this is not a key")]] [],
   .ret (.bin .Add (.bin .Mult (.sub (.att (.v 0) "pair") (.int 0)) (.v 1)) (.sub (.att (.v 0) "pair") (.int 1)))], false⟩
def f_Formula___add__ : Fn := ⟨["self", "other"], 2, [], [(2, [])],
  [.asg (.tup [(.nm 2), (.nm 3)]) (.cf "numbers_of" [(.v 1)] [] []),
   .ret (.frz (.mk .Formula [(.bin .Add (.sub (.att (.v 0) "pair") (.int 0)) (.v 2)), (.bin .Add (.sub (.att (.v 0) "pair") (.int 1)) (.v 3))]))], false⟩
def f_Formula___radd__ : Fn := ⟨["self", "other"], 2, [], [(2, [])],
  [.asg (.tup [(.nm 2), (.nm 3)]) (.cf "numbers_of" [(.v 1)] [] []),
   .ret (.frz (.mk .Formula [(.bin .Add (.sub (.att (.v 0) "pair") (.int 0)) (.v 2)), (.bin .Add (.sub (.att (.v 0) "pair") (.int 1)) (.v 3))]))], false⟩
def f_Formula___sub__ : Fn := ⟨["self", "other"], 2, [], [(2, [])],
  [.asg (.tup [(.nm 2), (.nm 3)]) (.cf "numbers_of" [(.v 1)] [] []),
   .ret (.frz (.mk .Formula [(.bin .Sub (.sub (.att (.v 0) "pair") (.int 0)) (.v 2)), (.bin .Sub (.sub (.att (.v 0) "pair") (.int 1)) (.v 3))]))], false⟩
def f_Formula___rsub__ : Fn := ⟨["self", "other"], 2, [], [(2, [])],
  [.asg (.tup [(.nm 2), (.nm 3)]) (.cf "numbers_of" [(.v 1)] [] []),
   .ret (.frz (.mk .Formula [(.bin .Sub (.v 2) (.sub (.att (.v 0) "pair") (.int 0))), (.bin .Sub (.v 3) (.sub (.att (.v 0) "pair") (.int 1)))]))], false⟩
def f_Formula___mul__ : Fn := ⟨["self", "other"], 0, [], [(2, [])],
  [.ifs (.nt (.cf "is_small" [(.v 1)] [] [])) [.rai .NotFormula [(.str "a formula is multiplied by a small integer only")]] [],
   .ret (.frz (.mk .Formula [(.bin .Mult (.sub (.att (.v 0) "pair") (.int 0)) (.v 1)), (.bin .Mult (.sub (.att (.v 0) "pair") (.int 1)) (.v 1))]))], false⟩
def f_Formula___rmul__ : Fn := ⟨["self", "other"], 0, [], [(2, [])],
  [.ifs (.nt (.cf "is_small" [(.v 1)] [] [])) [.rai .NotFormula [(.str "a formula is multiplied by a small integer only")]] [],
   .ret (.frz (.mk .Formula [(.bin .Mult (.sub (.att (.v 0) "pair") (.int 0)) (.v 1)), (.bin .Mult (.sub (.att (.v 0) "pair") (.int 1)) (.v 1))]))], false⟩
def f_Formula___neg__ : Fn := ⟨["self"], 0, [], [(1, [])],
  [.ret (.frz (.mk .Formula [(.bin .Sub (.int 0) (.sub (.att (.v 0) "pair") (.int 0))), (.bin .Sub (.int 0) (.sub (.att (.v 0) "pair") (.int 1)))]))], false⟩
def f_Formula___pow__ : Fn := ⟨["self", "other"], 3, [], [(2, [])],
  [.ifs (.or (.nt (.cf "is_integer" [(.v 1)] [] [])) (.nt (.chn .LtE .LtE (.int 0) (.v 1) (.gc "MOST_POWER")))) [.rai .NotInteger [(.str "a formula is applied from 0 to 60 times")]] [],
   .asg (.tup [(.nm 3), (.nm 4)]) (.tup [(.int 1), (.int 0)]),
   .for (.nm 2) (.rng [(.v 1)]) [.asg (.tup [(.nm 3), (.nm 4)]) (.tup [(.bin .Mult (.sub (.att (.v 0) "pair") (.int 0)) (.v 3)), (.bin .Add (.bin .Mult (.sub (.att (.v 0) "pair") (.int 0)) (.v 4)) (.sub (.att (.v 0) "pair") (.int 1)))])],
   .ret (.frz (.mk .Formula [(.v 3), (.v 4)]))], false⟩
def f_Formula___eq__ : Fn := ⟨["self", "other"], 0, [], [(2, [])],
  [.ret (.and (.cb .isinst [(.v 1), (.gcl .Formula)]) (.cmp .Eq (.att (.v 0) "pair") (.att (.v 1) "pair")))], false⟩
def f_Formula___repr__ : Fn := ⟨["self"], 0, [], [(1, [])],
  [.ret (.fst [(.str "Formula("), (.sub (.att (.v 0) "pair") (.int 0)), (.str ", "), (.sub (.att (.v 0) "pair") (.int 1)), (.str ")")])], false⟩
def f_numbers_of : Fn := ⟨["thing"], 0, [], [(1, [])],
  [.ifs (.cb .isinst [(.v 0), (.gcl .Formula)]) [.ret (.att (.v 0) "pair")] [],
   .ifs (.cf "is_small" [(.v 0)] [] []) [.ret (.tup [(.int 0), (.v 0)])] [],
   .rai .NotFormula [(.str "only formulas and small integers can be joined")]], false⟩
def f__law_cell_at : Fn := ⟨["_law_script", "_law_k"], 0, [], [(2, [])],
  [.ifs (.cmp .Lt (.v 1) (.cb .len [(.v 0)])) [.ret (.sub (.v 0) (.v 1))] [],
   .ret (.int 0)], false⟩
def f__law_pen : Fn := ⟨["_law_cell"], 0, [], [(1, [])],
  [.ret (.cel (.lst [(.cb .max [(.int 0), (.bin .Sub (.v 0) (.bin .Pow (.int 10) (.int 18)))]), (.bin .Mod (.cb .int [(.v 0)]) (.int 2147483629)), (.int 1)]))], true⟩
def f__law_draw : Fn := ⟨["_law_pen_here", "_law_many"], 2, [], [(2, [])],
  [.ifs (.cmp .Gt (.sub (.v 0) (.int 0)) (.int 0)) [.asg (.nm 3) (.bin .Mod (.cb .int [(.sub (.v 0) (.int 0))]) (.v 1)), .asg (.sub (.v 0) (.int 0)) (.bin .FloorDiv (.sub (.v 0) (.int 0)) (.v 1)), .ret (.v 3)] [],
   .asg (.sub (.v 0) (.int 2)) (.bin .Add (.sub (.v 0) (.int 2)) (.int 1)),
   .asg (.sub (.v 0) (.int 1)) (.bin .Mod (.cb .int [(.bin .Add (.bin .Add (.bin .Mult (.sub (.v 0) (.int 1)) (.int 48271)) (.bin .Mult (.int 7919) (.sub (.v 0) (.int 2)))) (.int 11))]) (.int 2147483647)),
   .asg (.nm 2) (.bin .Mod (.cb .int [(.bin .Add (.bin .Add (.bin .Mult (.sub (.v 0) (.int 1)) (.sub (.v 0) (.int 1))) (.bin .Mult (.int 40014) (.sub (.v 0) (.int 1)))) (.sub (.v 0) (.int 2)))]) (.int 2147483563)),
   .ret (.bin .Mod (.cb .int [(.bin .FloorDiv (.bin .Mod (.cb .int [(.bin .Mult (.v 2) (.int 16807))]) (.int 2147483647)) (.int 64))]) (.v 1))], false⟩
def f__law_pick : Fn := ⟨["_law_pen_here", "_law_things_here"], 0, [], [(2, [])],
  [.ret (.sub (.v 1) (.cf "_law_draw" [(.v 0), (.cb .len [(.v 1)])] [] []))], false⟩
def f__law_things : Fn := ⟨[], 1, [], [(0, [])],
  [.asg (.nm 0) (.lst [.non, (.bl true), (.bl false), (.str ""), (.str "1"), (.str "none"), (.tup []), (.lst []), (.dct [] []), (.tup [(.int 1)]), (.lst [(.int 1)]), (.dct [(.int 1)] [(.int 1)]), (.tup [.non]), (.tup [(.tup [(.int 1), (.int 2)])]), (.lst [(.tup [(.int 1), (.int 2)])]), (.tup [(.str "1")])]),
   .ret (.bin .Add (.v 0) (.lst [(.tup [(.int 1), (.bl true)]), (.tup [(.bl true)]), (.tup [(.lst [(.int 1)])]), (.str "1>2")]))], false⟩
def f__law_same : Fn := ⟨["_law_found", "_law_due"], 0, [], [(2, [])],
  [.ret (.cmp .Eq (.cb .repr [(.v 0)]) (.cb .repr [(.v 1)]))], false⟩
def f__law_numbers : Fn := ⟨["_law_pen_here"], 2, [], [(1, [])],
  [.asg (.nm 1) (.cf "_law_pick" [(.v 0), (.lst [(.int 1), (.int 1), (.int 1), (.int 0), (.neg (.int 1)), (.int 2), (.neg (.int 2)), (.int 3), (.neg (.int 3)), (.bin .Sub (.cf "_law_draw" [(.v 0), (.int 99)] [] []) (.int 49)), (.bin .Sub (.bin .Pow (.int 10) (.int 15)) (.int 1)), (.bin .Sub (.int 1) (.bin .Pow (.int 10) (.int 15)))])] [] []),
   .asg (.nm 2) (.cf "_law_pick" [(.v 0), (.lst [(.int 0), (.int 1), (.neg (.int 1)), (.bin .Sub (.cf "_law_draw" [(.v 0), (.int 30)] [] []) (.int 15)), (.cf "_law_draw" [(.v 0), (.bin .Pow (.int 10) (.int 12))] [] []), (.bin .Sub (.bin .Pow (.int 10) (.int 15)) (.int 1)), (.bin .Sub (.int 1) (.bin .Pow (.int 10) (.int 15)))])] [] []),
   .ret (.tup [(.v 1), (.v 2)])], false⟩
def f__law_operators : Fn := ⟨["_law_formula", "_law_bad"], 1, [], [(2, [])],
  [.asg (.nm 2) (.cel (.lst [(.said (.bin .Add (.v 0) (.v 1)))])),
   .ex (.bm (.v 2) .append [(.said (.bin .Sub (.v 0) (.v 1)))]),
   .ex (.bm (.v 2) .append [(.said (.bin .Mult (.v 0) (.v 1)))]),
   .ex (.bm (.v 2) .append [(.said (.bin .Add (.v 1) (.v 0)))]),
   .ex (.bm (.v 2) .append [(.said (.bin .Sub (.v 1) (.v 0)))]),
   .ex (.bm (.v 2) .append [(.said (.bin .Mult (.v 1) (.v 0)))]),
   .ret (.v 2)], false⟩
def f_law : Fn := ⟨["_law_script"], 7, [], [(1, [])],
  [.for (.nm 1) (.ex (.bin .Add (.lst [(.cf "_law_cell_at" [(.v 0), (.int 0)] [] [])]) (.sl (.v 0) (some (.int 1)) (some (.int 2))))) [.asg (.nm 2) (.cf "_law_pen" [(.v 1)] [] []), .asg (.tup [(.nm 6), (.nm 7)]) (.cf "_law_numbers" [(.v 2)] [] []), .asg (.nm 3) (.frz (.mk .Formula [(.v 6), (.v 7)])), .for (.nm 4) (.ex (.bin .Add (.cf "_law_things" [] [] []) (.lst [(.v 3)]))) [.asg (.nm 5) (.cel (.lst [(.said (.frz (.mk .Formula [(.v 4), (.v 7)])))])), .ex (.bm (.v 5) .append [(.said (.frz (.mk .Formula [(.v 6), (.v 4)])))]), .ex (.bm (.v 5) .append [(.said (.frz (.mk .Formula [(.bin .Pow (.int 10) (.int 15)), (.v 4)])))]), .ex (.bm (.v 5) .append [(.said (.frz (.mk .Formula [(.v 4), (.bin .Pow (.int 10) (.int 20))])))]), .ex (.bm (.v 5) .append [(.said (.call 3 [(.v 4)]))]), .ifs (.cmp .NotEq (.v 5) (.bin .Add (.bin .Mult (.lst [(.tup [(.str "integer")])]) (.int 4)) (.lst [(.tup [(.str "key")])]))) [.ret (.bl false)] [], .asg (.nm 5) (.cel (.lst [(.said (.bin .Add (.v 3) (.v 4)))])), .ex (.bm (.v 5) .append [(.said (.bin .Sub (.v 3) (.v 4)))]), .ifs (.or (.and (.cmp .NotEq (.v 4) (.v 3)) (.cmp .NotEq (.v 5) (.bin .Mult (.lst [(.tup [(.str "formula")])]) (.int 2)))) (.cmp .NotEq (.said (.bin .Mult (.v 3) (.v 4))) (.tup [(.str "formula")]))) [.ret (.bl false)] []], .for (.nm 4) (.ex (.lst [.non, (.bl true), (.bl false), (.bin .Pow (.int 10) (.int 15)), (.neg (.bin .Pow (.int 10) (.int 15))), (.bin .Pow (.int 10) (.int 30))])) [.ifs (.cmp .NotEq (.cf "_law_operators" [(.v 3), (.v 4)] [] []) (.bin .Mult (.lst [(.tup [(.str "formula")])]) (.int 6))) [.ret (.bl false)] []], .asg (.nm 5) (.cel (.lst [(.said (.frz (.mk .Formula [(.bin .Pow (.int 10) (.int 15)), (.int 0)])))])), .ex (.bm (.v 5) .append [(.said (.frz (.mk .Formula [(.int 0), (.neg (.bin .Pow (.int 10) (.int 15)))])))]), .ex (.bm (.v 5) .append [(.said (.bin .Pow (.v 3) (.int 61)))]), .ex (.bm (.v 5) .append [(.said (.bin .Pow (.v 3) (.int 64)))]), .ex (.bm (.v 5) .append [(.said (.call 3 [(.bin .Pow (.int 10) (.int 30))]))]), .ex (.bm (.v 5) .append [(.said (.call 3 [(.neg (.bin .Pow (.int 10) (.int 30)))]))]), .ifs (.cmp .NotEq (.v 5) (.bin .Add (.bin .Add (.bin .Mult (.lst [(.tup [(.str "large")])]) (.int 2)) (.bin .Mult (.lst [(.tup [(.str "integer")])]) (.int 2))) (.bin .Mult (.lst [(.tup [(.str "key")])]) (.int 2)))) [.ret (.bl false)] [], .ifs (.nt (.cf "_law_same" [(.lst [(.att (.v 3) "times"), (.att (.v 3) "plus")]), (.lst [(.v 6), (.v 7)])] [] [])) [.ret (.bl false)] []],
   .ret (.bl true)], false⟩
def PD : PgD where
  has := [.RowError, .NotRow, .NotTable, .NotKey, .NotKeys, .NotRows, .NotOrder, .NotRule, .NotInteger, .NotScan, .NotBound, .NotFormula, .NotDeed, .NotText, .NotBytes, .NotLine, .Missing, .Impossible, .TooLarge, .NothingDone, .Twice, .Held, .TooMany, .Competing, .Ringed, .Collision, .Formula]
  fns := ([("is_integer", f_is_integer), ("is_key", f_is_key), ("is_small", f_is_small), ("Formula.__init__", f_Formula___init__), ("Formula.times", f_Formula_times), ("Formula.plus", f_Formula_plus), ("Formula.__call__", f_Formula___call__), ("Formula.__add__", f_Formula___add__)] : List (Str × Fn)) ++ (([("Formula.__radd__", f_Formula___radd__), ("Formula.__sub__", f_Formula___sub__), ("Formula.__rsub__", f_Formula___rsub__), ("Formula.__mul__", f_Formula___mul__), ("Formula.__rmul__", f_Formula___rmul__), ("Formula.__neg__", f_Formula___neg__), ("Formula.__pow__", f_Formula___pow__), ("Formula.__eq__", f_Formula___eq__)] : List (Str × Fn)) ++ (([("Formula.__repr__", f_Formula___repr__), ("numbers_of", f_numbers_of), ("_law_cell_at", f__law_cell_at), ("_law_pen", f__law_pen), ("_law_draw", f__law_draw), ("_law_pick", f__law_pick), ("_law_things", f__law_things), ("_law_same", f__law_same)] : List (Str × Fn)) ++ (([("_law_numbers", f__law_numbers), ("_law_operators", f__law_operators), ("law", f_law)] : List (Str × Fn)))))
  mem := [(.Formula, ([("__init__", .me "Formula.__init__"), ("times", .pr "Formula.times"), ("plus", .pr "Formula.plus"), ("__call__", .me "Formula.__call__"), ("__add__", .me "Formula.__add__"), ("__radd__", .me "Formula.__radd__"), ("__sub__", .me "Formula.__sub__"), ("__rsub__", .me "Formula.__rsub__")] : List (Str × Mem)) ++ (([("__mul__", .me "Formula.__mul__"), ("__rmul__", .me "Formula.__rmul__"), ("__neg__", .me "Formula.__neg__"), ("__pow__", .me "Formula.__pow__"), ("__eq__", .me "Formula.__eq__"), ("__repr__", .me "Formula.__repr__")] : List (Str × Mem))))]
  fld := [(.Formula, ["pair"])]
  con := [("KEY_BOUND", (.int (1000000000000000000000000000000))), ("SMALL_BOUND", (.int (1000000000000000))), ("MOST_POWER", (.int (60)))]
abbrev G : Pg := PD.pg
def gfs : List Str := (["is_integer", "is_key", "is_small", "numbers_of", "_law_cell_at", "_law_pen", "_law_draw", "_law_pick"] : List Str) ++ ((["_law_things", "_law_same", "_law_numbers", "_law_operators", "law"] : List Str))
abbrev gfn : Str → Bool := fun x => gfs.contains x
def d_is_integer : DefE := ⟨"is_integer", .glo "is_integer", "is_integer", "is_integer", defArgs (top 30), defBody (top 30), defScope (top 30), ["thing"], [], [], false⟩
def d_is_key : DefE := ⟨"is_key", .glo "is_key", "is_key", "is_key", defArgs (top 31), defBody (top 31), defScope (top 31), ["thing"], [], [], false⟩
def d_is_small : DefE := ⟨"is_small", .glo "is_small", "is_small", "is_small", defArgs (top 32), defBody (top 32), defScope (top 32), ["thing"], [], [], false⟩
def d_Formula___init__ : DefE := ⟨"Formula.__init__", .met "Formula" "__init__", "__init__", "Formula.__init__", defArgs (inClass (top 35) 0), defBody (inClass (top 35) 0), defScope (inClass (top 35) 0), ["self", "times", "plus"], [(.int (1)), (.int (0))], [], false⟩
def d_Formula_times : DefE := ⟨"Formula.times", .prp "Formula" "times", "times", "Formula.times", defArgs (inClass (top 35) 1), defBody (inClass (top 35) 1), defScope (inClass (top 35) 1), ["self"], [], [], false⟩
def d_Formula_plus : DefE := ⟨"Formula.plus", .prp "Formula" "plus", "plus", "Formula.plus", defArgs (inClass (top 35) 2), defBody (inClass (top 35) 2), defScope (inClass (top 35) 2), ["self"], [], [], false⟩
def d_Formula___call__ : DefE := ⟨"Formula.__call__", .met "Formula" "__call__", "__call__", "Formula.__call__", defArgs (inClass (top 35) 3), defBody (inClass (top 35) 3), defScope (inClass (top 35) 3), ["self", "key"], [], [], false⟩
def d_Formula___add__ : DefE := ⟨"Formula.__add__", .met "Formula" "__add__", "__add__", "Formula.__add__", defArgs (inClass (top 35) 4), defBody (inClass (top 35) 4), defScope (inClass (top 35) 4), ["self", "other", "times", "plus"], [], [], false⟩
def d_Formula___radd__ : DefE := ⟨"Formula.__radd__", .met "Formula" "__radd__", "__radd__", "Formula.__radd__", defArgs (inClass (top 35) 5), defBody (inClass (top 35) 5), defScope (inClass (top 35) 5), ["self", "other", "times", "plus"], [], [], false⟩
def d_Formula___sub__ : DefE := ⟨"Formula.__sub__", .met "Formula" "__sub__", "__sub__", "Formula.__sub__", defArgs (inClass (top 35) 6), defBody (inClass (top 35) 6), defScope (inClass (top 35) 6), ["self", "other", "times", "plus"], [], [], false⟩
def d_Formula___rsub__ : DefE := ⟨"Formula.__rsub__", .met "Formula" "__rsub__", "__rsub__", "Formula.__rsub__", defArgs (inClass (top 35) 7), defBody (inClass (top 35) 7), defScope (inClass (top 35) 7), ["self", "other", "times", "plus"], [], [], false⟩
def d_Formula___mul__ : DefE := ⟨"Formula.__mul__", .met "Formula" "__mul__", "__mul__", "Formula.__mul__", defArgs (inClass (top 35) 8), defBody (inClass (top 35) 8), defScope (inClass (top 35) 8), ["self", "other"], [], [], false⟩
def d_Formula___rmul__ : DefE := ⟨"Formula.__rmul__", .met "Formula" "__rmul__", "__rmul__", "Formula.__rmul__", defArgs (inClass (top 35) 9), defBody (inClass (top 35) 9), defScope (inClass (top 35) 9), ["self", "other"], [], [], false⟩
def d_Formula___neg__ : DefE := ⟨"Formula.__neg__", .met "Formula" "__neg__", "__neg__", "Formula.__neg__", defArgs (inClass (top 35) 10), defBody (inClass (top 35) 10), defScope (inClass (top 35) 10), ["self"], [], [], false⟩
def d_Formula___pow__ : DefE := ⟨"Formula.__pow__", .met "Formula" "__pow__", "__pow__", "Formula.__pow__", defArgs (inClass (top 35) 11), defBody (inClass (top 35) 11), defScope (inClass (top 35) 11), ["self", "other", "turn", "times", "plus"], [], [], false⟩
def d_Formula___eq__ : DefE := ⟨"Formula.__eq__", .met "Formula" "__eq__", "__eq__", "Formula.__eq__", defArgs (inClass (top 35) 12), defBody (inClass (top 35) 12), defScope (inClass (top 35) 12), ["self", "other"], [], [], false⟩
def d_Formula___repr__ : DefE := ⟨"Formula.__repr__", .met "Formula" "__repr__", "__repr__", "Formula.__repr__", defArgs (inClass (top 35) 13), defBody (inClass (top 35) 13), defScope (inClass (top 35) 13), ["self"], [], [], false⟩
def d_numbers_of : DefE := ⟨"numbers_of", .glo "numbers_of", "numbers_of", "numbers_of", defArgs (top 36), defBody (top 36), defScope (top 36), ["thing"], [], [], false⟩
def d__law_cell_at : DefE := ⟨"_law_cell_at", .glo "_law_cell_at", "_law_cell_at", "_law_cell_at", defArgs (top 38), defBody (top 38), defScope (top 38), ["_law_script", "_law_k"], [], [], false⟩
def d__law_pen : DefE := ⟨"_law_pen", .glo "_law_pen", "_law_pen", "_law_pen", defArgs (top 39), defBody (top 39), defScope (top 39), ["_law_cell"], [], [], false⟩
def d__law_draw : DefE := ⟨"_law_draw", .glo "_law_draw", "_law_draw", "_law_draw", defArgs (top 40), defBody (top 40), defScope (top 40), ["_law_pen_here", "_law_many", "_law_stirred", "_law_digit"], [], [], false⟩
def d__law_pick : DefE := ⟨"_law_pick", .glo "_law_pick", "_law_pick", "_law_pick", defArgs (top 41), defBody (top 41), defScope (top 41), ["_law_pen_here", "_law_things_here"], [], [], false⟩
def d__law_things : DefE := ⟨"_law_things", .glo "_law_things", "_law_things", "_law_things", defArgs (top 42), defBody (top 42), defScope (top 42), ["_law_found"], [], [], false⟩
def d__law_same : DefE := ⟨"_law_same", .glo "_law_same", "_law_same", "_law_same", defArgs (top 45), defBody (top 45), defScope (top 45), ["_law_found", "_law_due"], [], [], false⟩
def d__law_numbers : DefE := ⟨"_law_numbers", .glo "_law_numbers", "_law_numbers", "_law_numbers", defArgs (top 46), defBody (top 46), defScope (top 46), ["_law_pen_here", "_law_times", "_law_plus"], [], [], false⟩
def d__law_operators : DefE := ⟨"_law_operators", .glo "_law_operators", "_law_operators", "_law_operators", defArgs (top 47), defBody (top 47), defScope (top 47), ["_law_formula", "_law_bad", "_law_said_here"], [], [], true⟩
def d_law : DefE := ⟨"law", .glo "law", "law", "law", defArgs (top 48), defBody (top 48), defScope (top 48), ["_law_script", "_law_cell", "_law_pen_here", "_law_formula", "_law_bad", "_law_words", "_law_times", "_law_plus"], [], [], true⟩
def d__law_word : DefE := ⟨"_law_word", .glo "_law_word", "_law_word", "_law_word", defArgs (top 43), defBody (top 43), defScope (top 43), ["_law_e", "_law_some", "_law_words"], [], [], false⟩
def d__law_said : DefE := ⟨"_law_said", .glo "_law_said", "_law_said", "_law_said", defArgs (top 44), defBody (top 44), defScope (top 44), ["_law_call", "_law_e", "_law_word_here"], [], [], false⟩
def xtl : List DefE := [d__law_word, d__law_said]
def tfl : List He.Defn := ([("_law_operators", none), ("law", none)] : List He.Defn)
def fnl : List DefE := ([d_is_integer, d_is_key, d_is_small, d_Formula___init__, d_Formula_times, d_Formula_plus, d_Formula___call__, d_Formula___add__] : List DefE) ++ (([d_Formula___radd__, d_Formula___sub__, d_Formula___rsub__, d_Formula___mul__, d_Formula___rmul__, d_Formula___neg__, d_Formula___pow__, d_Formula___eq__] : List DefE) ++ (([d_Formula___repr__, d_numbers_of, d__law_cell_at, d__law_pen, d__law_draw, d__law_pick, d__law_things, d__law_same] : List DefE) ++ (([d__law_numbers, d__law_operators, d_law] : List DefE))))
def sd (x q : Str) (i : Nat) (fs : List Str) : SupD := ⟨x, q, defArgs (inClass (top i) 0), defBody (inClass (top i) 0), defScope (inClass (top i) 0), fs⟩
abbrev PR : Program := PySem.Challenge.rw_rowclash_k71_formulas_refuse.prog
def spl : List SupD := [sd "Twice" "Twice.__init__" 21 ["key"], sd "Held" "Held.__init__" 22 ["key"], sd "TooMany" "TooMany.__init__" 23 ["many", "most"], sd "Competing" "Competing.__init__" 24 ["pair"], sd "Ringed" "Ringed.__init__" 25 ["ring"], sd "Collision" "Collision.__init__" 26 ["row", "holder"]]
def exl (K : PySem.W.Frag) : Bool := worldB PD gfs spl PR.main.file (faOf fnl K) K && ((He.Fa.glo "_law_word").ok K && ((He.Fa.glo "_law_said").ok K && tabsDiff tfl K))
abbrev R : PySem.W.OpenRow := PySem.W.OpenLaw.row PySem.Challenge.rw_rowclash_k71_formulas_refuse
abbrev hk : PySem.W.Hook := hookE 7 (fnl ++ xtl) spl tfl exl
def ob (s : PySem.W.SharedT) : AlE := obsE 7 (fnl ++ xtl) spl tfl exl (HandSHeadRun.getT s)
theorem ob_eq (s : PySem.W.SharedT) : ob s = hk.obs s.abs := obsE_eq (HandSHeadRun.getT_eq s)
def names : List Str := (["RowError", "NotRow", "NotTable", "NotKey", "NotKeys", "NotRows", "NotOrder", "NotRule"] : List Str) ++ ((["NotInteger", "NotScan", "NotBound", "NotFormula", "NotDeed", "NotText", "NotBytes", "NotLine"] : List Str) ++ ((["Missing", "Impossible", "TooLarge", "NothingDone", "Twice", "Held", "TooMany", "Competing"] : List Str) ++ ((["Ringed", "Collision", "KEY_BOUND", "SMALL_BOUND", "is_integer", "is_key", "is_small", "MOST_POWER"] : List Str) ++ ((["Formula", "numbers_of", "_law_cell_at", "_law_pen", "_law_draw", "_law_pick", "_law_things", "_law_word"] : List Str) ++ ((["_law_said", "_law_same", "_law_numbers", "_law_operators"] : List Str))))))
theorem hdrun (w : World) : HandSHeadRun.RunEq R (PySem.W.view R.prog [48]) hk ob 40000 names w := by
  intro os
  kernel_rfl
theorem t_is_integer : DefT G gfn d_is_integer f_is_integer := by
  refine ⟨fnScB_ok (by kernel_rfl), rfl, by kernel_rfl, fun K fd F n ks h => ?_⟩
  rcases List.mem_cons.mp h with e | h
  · cases e
    exact bind_of (m := 0) (dd := []) (dus := []) rfl rfl .nil (by decide) (bn_plain (ps := (["thing"] : List Str)) F fun kV doc pm an cdv ct us ws h1 h2 => match us, h1, ws, h2 with | [u0], _, [], _ => ⟨[], rfl, rfl⟩)
  cases h
theorem t_is_key : DefT G gfn d_is_key f_is_key := by
  refine ⟨fnScB_ok (by kernel_rfl), rfl, by kernel_rfl, fun K fd F n ks h => ?_⟩
  rcases List.mem_cons.mp h with e | h
  · cases e
    exact bind_of (m := 0) (dd := []) (dus := []) rfl rfl .nil (by decide) (bn_plain (ps := (["thing"] : List Str)) F fun kV doc pm an cdv ct us ws h1 h2 => match us, h1, ws, h2 with | [u0], _, [], _ => ⟨[], rfl, rfl⟩)
  cases h
theorem t_is_small : DefT G gfn d_is_small f_is_small := by
  refine ⟨fnScB_ok (by kernel_rfl), rfl, by kernel_rfl, fun K fd F n ks h => ?_⟩
  rcases List.mem_cons.mp h with e | h
  · cases e
    exact bind_of (m := 0) (dd := []) (dus := []) rfl rfl .nil (by decide) (bn_plain (ps := (["thing"] : List Str)) F fun kV doc pm an cdv ct us ws h1 h2 => match us, h1, ws, h2 with | [u0], _, [], _ => ⟨[], rfl, rfl⟩)
  cases h
theorem t_Formula___init__ : DefT G gfn d_Formula___init__ f_Formula___init__ := by
  refine ⟨fnScB_ok (by kernel_rfl), rfl, by kernel_rfl, fun K fd F n ks h => ?_⟩
  rcases List.mem_cons.mp h with e | h
  · cases e
    obtain ⟨dus, rv, b⟩ := bn_pos (m := 1) (ps := (["self", "times", "plus"] : List Str)) F (by decide) (n := 3) (ks := ([] : List Str)) fun T kV doc pm an cdv ct us ws its h1 h2 h3 => match us, h1, ws, h2, its, h3 with | [u0, u1, u2], _, [], _, [x0, x1], _ => ⟨[], _, rfl, rfl, rfl⟩
    exact bind_of (m := 1) (dd := [(.int (1)), (.int (0))]) rfl rfl rv (by decide) b
  cases h
theorem t_Formula_times : DefT G gfn d_Formula_times f_Formula_times := by
  refine ⟨fnScB_ok (by kernel_rfl), rfl, by kernel_rfl, fun K fd F n ks h => ?_⟩
  rcases List.mem_cons.mp h with e | h
  · cases e
    exact bind_of (m := 0) (dd := []) (dus := []) rfl rfl .nil (by decide) (bn_plain (ps := (["self"] : List Str)) F fun kV doc pm an cdv ct us ws h1 h2 => match us, h1, ws, h2 with | [u0], _, [], _ => ⟨[], rfl, rfl⟩)
  cases h
theorem t_Formula_plus : DefT G gfn d_Formula_plus f_Formula_plus := by
  refine ⟨fnScB_ok (by kernel_rfl), rfl, by kernel_rfl, fun K fd F n ks h => ?_⟩
  rcases List.mem_cons.mp h with e | h
  · cases e
    exact bind_of (m := 0) (dd := []) (dus := []) rfl rfl .nil (by decide) (bn_plain (ps := (["self"] : List Str)) F fun kV doc pm an cdv ct us ws h1 h2 => match us, h1, ws, h2 with | [u0], _, [], _ => ⟨[], rfl, rfl⟩)
  cases h
theorem t_Formula___call__ : DefT G gfn d_Formula___call__ f_Formula___call__ := by
  refine ⟨fnScB_ok (by kernel_rfl), rfl, by kernel_rfl, fun K fd F n ks h => ?_⟩
  rcases List.mem_cons.mp h with e | h
  · cases e
    exact bind_of (m := 0) (dd := []) (dus := []) rfl rfl .nil (by decide) (bn_plain (ps := (["self", "key"] : List Str)) F fun kV doc pm an cdv ct us ws h1 h2 => match us, h1, ws, h2 with | [u0, u1], _, [], _ => ⟨[], rfl, rfl⟩)
  cases h
theorem t_Formula___add__ : DefT G gfn d_Formula___add__ f_Formula___add__ := by
  refine ⟨fnScB_ok (by kernel_rfl), rfl, by kernel_rfl, fun K fd F n ks h => ?_⟩
  rcases List.mem_cons.mp h with e | h
  · cases e
    exact bind_of (m := 0) (dd := []) (dus := []) rfl rfl .nil (by decide) (bn_plain (ps := (["self", "other"] : List Str)) F fun kV doc pm an cdv ct us ws h1 h2 => match us, h1, ws, h2 with | [u0, u1], _, [], _ => ⟨[], rfl, rfl⟩)
  cases h
theorem t_Formula___radd__ : DefT G gfn d_Formula___radd__ f_Formula___radd__ := by
  refine ⟨fnScB_ok (by kernel_rfl), rfl, by kernel_rfl, fun K fd F n ks h => ?_⟩
  rcases List.mem_cons.mp h with e | h
  · cases e
    exact bind_of (m := 0) (dd := []) (dus := []) rfl rfl .nil (by decide) (bn_plain (ps := (["self", "other"] : List Str)) F fun kV doc pm an cdv ct us ws h1 h2 => match us, h1, ws, h2 with | [u0, u1], _, [], _ => ⟨[], rfl, rfl⟩)
  cases h
theorem t_Formula___sub__ : DefT G gfn d_Formula___sub__ f_Formula___sub__ := by
  refine ⟨fnScB_ok (by kernel_rfl), rfl, by kernel_rfl, fun K fd F n ks h => ?_⟩
  rcases List.mem_cons.mp h with e | h
  · cases e
    exact bind_of (m := 0) (dd := []) (dus := []) rfl rfl .nil (by decide) (bn_plain (ps := (["self", "other"] : List Str)) F fun kV doc pm an cdv ct us ws h1 h2 => match us, h1, ws, h2 with | [u0, u1], _, [], _ => ⟨[], rfl, rfl⟩)
  cases h
theorem t_Formula___rsub__ : DefT G gfn d_Formula___rsub__ f_Formula___rsub__ := by
  refine ⟨fnScB_ok (by kernel_rfl), rfl, by kernel_rfl, fun K fd F n ks h => ?_⟩
  rcases List.mem_cons.mp h with e | h
  · cases e
    exact bind_of (m := 0) (dd := []) (dus := []) rfl rfl .nil (by decide) (bn_plain (ps := (["self", "other"] : List Str)) F fun kV doc pm an cdv ct us ws h1 h2 => match us, h1, ws, h2 with | [u0, u1], _, [], _ => ⟨[], rfl, rfl⟩)
  cases h
theorem t_Formula___mul__ : DefT G gfn d_Formula___mul__ f_Formula___mul__ := by
  refine ⟨fnScB_ok (by kernel_rfl), rfl, by kernel_rfl, fun K fd F n ks h => ?_⟩
  rcases List.mem_cons.mp h with e | h
  · cases e
    exact bind_of (m := 0) (dd := []) (dus := []) rfl rfl .nil (by decide) (bn_plain (ps := (["self", "other"] : List Str)) F fun kV doc pm an cdv ct us ws h1 h2 => match us, h1, ws, h2 with | [u0, u1], _, [], _ => ⟨[], rfl, rfl⟩)
  cases h
theorem t_Formula___rmul__ : DefT G gfn d_Formula___rmul__ f_Formula___rmul__ := by
  refine ⟨fnScB_ok (by kernel_rfl), rfl, by kernel_rfl, fun K fd F n ks h => ?_⟩
  rcases List.mem_cons.mp h with e | h
  · cases e
    exact bind_of (m := 0) (dd := []) (dus := []) rfl rfl .nil (by decide) (bn_plain (ps := (["self", "other"] : List Str)) F fun kV doc pm an cdv ct us ws h1 h2 => match us, h1, ws, h2 with | [u0, u1], _, [], _ => ⟨[], rfl, rfl⟩)
  cases h
theorem t_Formula___neg__ : DefT G gfn d_Formula___neg__ f_Formula___neg__ := by
  refine ⟨fnScB_ok (by kernel_rfl), rfl, by kernel_rfl, fun K fd F n ks h => ?_⟩
  rcases List.mem_cons.mp h with e | h
  · cases e
    exact bind_of (m := 0) (dd := []) (dus := []) rfl rfl .nil (by decide) (bn_plain (ps := (["self"] : List Str)) F fun kV doc pm an cdv ct us ws h1 h2 => match us, h1, ws, h2 with | [u0], _, [], _ => ⟨[], rfl, rfl⟩)
  cases h
theorem t_Formula___pow__ : DefT G gfn d_Formula___pow__ f_Formula___pow__ := by
  refine ⟨fnScB_ok (by kernel_rfl), rfl, by kernel_rfl, fun K fd F n ks h => ?_⟩
  rcases List.mem_cons.mp h with e | h
  · cases e
    exact bind_of (m := 0) (dd := []) (dus := []) rfl rfl .nil (by decide) (bn_plain (ps := (["self", "other"] : List Str)) F fun kV doc pm an cdv ct us ws h1 h2 => match us, h1, ws, h2 with | [u0, u1], _, [], _ => ⟨[], rfl, rfl⟩)
  cases h
theorem t_Formula___eq__ : DefT G gfn d_Formula___eq__ f_Formula___eq__ := by
  refine ⟨fnScB_ok (by kernel_rfl), rfl, by kernel_rfl, fun K fd F n ks h => ?_⟩
  rcases List.mem_cons.mp h with e | h
  · cases e
    exact bind_of (m := 0) (dd := []) (dus := []) rfl rfl .nil (by decide) (bn_plain (ps := (["self", "other"] : List Str)) F fun kV doc pm an cdv ct us ws h1 h2 => match us, h1, ws, h2 with | [u0, u1], _, [], _ => ⟨[], rfl, rfl⟩)
  cases h
theorem t_Formula___repr__ : DefT G gfn d_Formula___repr__ f_Formula___repr__ := by
  refine ⟨fnScB_ok (by kernel_rfl), rfl, by kernel_rfl, fun K fd F n ks h => ?_⟩
  rcases List.mem_cons.mp h with e | h
  · cases e
    exact bind_of (m := 0) (dd := []) (dus := []) rfl rfl .nil (by decide) (bn_plain (ps := (["self"] : List Str)) F fun kV doc pm an cdv ct us ws h1 h2 => match us, h1, ws, h2 with | [u0], _, [], _ => ⟨[], rfl, rfl⟩)
  cases h
theorem t_numbers_of : DefT G gfn d_numbers_of f_numbers_of := by
  refine ⟨fnScB_ok (by kernel_rfl), rfl, by kernel_rfl, fun K fd F n ks h => ?_⟩
  rcases List.mem_cons.mp h with e | h
  · cases e
    exact bind_of (m := 0) (dd := []) (dus := []) rfl rfl .nil (by decide) (bn_plain (ps := (["thing"] : List Str)) F fun kV doc pm an cdv ct us ws h1 h2 => match us, h1, ws, h2 with | [u0], _, [], _ => ⟨[], rfl, rfl⟩)
  cases h
theorem t__law_cell_at : DefT G gfn d__law_cell_at f__law_cell_at := by
  refine ⟨fnScB_ok (by kernel_rfl), rfl, by kernel_rfl, fun K fd F n ks h => ?_⟩
  rcases List.mem_cons.mp h with e | h
  · cases e
    exact bind_of (m := 0) (dd := []) (dus := []) rfl rfl .nil (by decide) (bn_plain (ps := (["_law_script", "_law_k"] : List Str)) F fun kV doc pm an cdv ct us ws h1 h2 => match us, h1, ws, h2 with | [u0, u1], _, [], _ => ⟨[], rfl, rfl⟩)
  cases h
theorem t__law_pen : DefT G gfn d__law_pen f__law_pen := by
  refine ⟨fnScB_ok (by kernel_rfl), rfl, by kernel_rfl, fun K fd F n ks h => ?_⟩
  rcases List.mem_cons.mp h with e | h
  · cases e
    exact bind_of (m := 0) (dd := []) (dus := []) rfl rfl .nil (by decide) (bn_plain (ps := (["_law_cell"] : List Str)) F fun kV doc pm an cdv ct us ws h1 h2 => match us, h1, ws, h2 with | [u0], _, [], _ => ⟨[], rfl, rfl⟩)
  cases h
theorem t__law_draw : DefT G gfn d__law_draw f__law_draw := by
  refine ⟨fnScB_ok (by kernel_rfl), rfl, by kernel_rfl, fun K fd F n ks h => ?_⟩
  rcases List.mem_cons.mp h with e | h
  · cases e
    exact bind_of (m := 0) (dd := []) (dus := []) rfl rfl .nil (by decide) (bn_plain (ps := (["_law_pen_here", "_law_many"] : List Str)) F fun kV doc pm an cdv ct us ws h1 h2 => match us, h1, ws, h2 with | [u0, u1], _, [], _ => ⟨[], rfl, rfl⟩)
  cases h
theorem t__law_pick : DefT G gfn d__law_pick f__law_pick := by
  refine ⟨fnScB_ok (by kernel_rfl), rfl, by kernel_rfl, fun K fd F n ks h => ?_⟩
  rcases List.mem_cons.mp h with e | h
  · cases e
    exact bind_of (m := 0) (dd := []) (dus := []) rfl rfl .nil (by decide) (bn_plain (ps := (["_law_pen_here", "_law_things_here"] : List Str)) F fun kV doc pm an cdv ct us ws h1 h2 => match us, h1, ws, h2 with | [u0, u1], _, [], _ => ⟨[], rfl, rfl⟩)
  cases h
theorem t__law_things : DefT G gfn d__law_things f__law_things := by
  refine ⟨fnScB_ok (by kernel_rfl), rfl, by kernel_rfl, fun K fd F n ks h => ?_⟩
  rcases List.mem_cons.mp h with e | h
  · cases e
    exact bind_of (m := 0) (dd := []) (dus := []) rfl rfl .nil (by decide) (bn_plain (ps := ([] : List Str)) F fun kV doc pm an cdv ct us ws h1 h2 => match us, h1, ws, h2 with | [], _, [], _ => ⟨[], rfl, rfl⟩)
  cases h
theorem t__law_same : DefT G gfn d__law_same f__law_same := by
  refine ⟨fnScB_ok (by kernel_rfl), rfl, by kernel_rfl, fun K fd F n ks h => ?_⟩
  rcases List.mem_cons.mp h with e | h
  · cases e
    exact bind_of (m := 0) (dd := []) (dus := []) rfl rfl .nil (by decide) (bn_plain (ps := (["_law_found", "_law_due"] : List Str)) F fun kV doc pm an cdv ct us ws h1 h2 => match us, h1, ws, h2 with | [u0, u1], _, [], _ => ⟨[], rfl, rfl⟩)
  cases h
theorem t__law_numbers : DefT G gfn d__law_numbers f__law_numbers := by
  refine ⟨fnScB_ok (by kernel_rfl), rfl, by kernel_rfl, fun K fd F n ks h => ?_⟩
  rcases List.mem_cons.mp h with e | h
  · cases e
    exact bind_of (m := 0) (dd := []) (dus := []) rfl rfl .nil (by decide) (bn_plain (ps := (["_law_pen_here"] : List Str)) F fun kV doc pm an cdv ct us ws h1 h2 => match us, h1, ws, h2 with | [u0], _, [], _ => ⟨[], rfl, rfl⟩)
  cases h
theorem t__law_operators : DefT G gfn d__law_operators f__law_operators := by
  refine ⟨fnScB_ok (by kernel_rfl), rfl, by kernel_rfl, fun K fd F n ks h => ?_⟩
  rcases List.mem_cons.mp h with e | h
  · cases e
    exact bind_of (m := 0) (dd := []) (dus := []) rfl rfl .nil (by decide) (bn_plain (ps := (["_law_formula", "_law_bad"] : List Str)) F fun kV doc pm an cdv ct us ws h1 h2 => match us, h1, ws, h2 with | [u0, u1], _, [], _ => ⟨[], rfl, rfl⟩)
  cases h
theorem t_law : DefT G gfn d_law f_law := by
  refine ⟨fnScB_ok (by kernel_rfl), rfl, by kernel_rfl, fun K fd F n ks h => ?_⟩
  rcases List.mem_cons.mp h with e | h
  · cases e
    exact bind_of (m := 0) (dd := []) (dus := []) rfl rfl .nil (by decide) (bn_plain (ps := (["_law_script"] : List Str)) F fun kV doc pm an cdv ct us ws h1 h2 => match us, h1, ws, h2 with | [u0], _, [], _ => ⟨[], rfl, rfl⟩)
  cases h
theorem defs : DefsT G gfn PD.fns fnl := .cons rfl t_is_integer (.cons rfl t_is_key (.cons rfl t_is_small (.cons rfl t_Formula___init__ (.cons rfl t_Formula_times (.cons rfl t_Formula_plus (.cons rfl t_Formula___call__ (.cons rfl t_Formula___add__ (.cons rfl t_Formula___radd__ (.cons rfl t_Formula___sub__ (.cons rfl t_Formula___rsub__ (.cons rfl t_Formula___mul__ (.cons rfl t_Formula___rmul__ (.cons rfl t_Formula___neg__ (.cons rfl t_Formula___pow__ (.cons rfl t_Formula___eq__ (.cons rfl t_Formula___repr__ (.cons rfl t_numbers_of (.cons rfl t__law_cell_at (.cons rfl t__law_pen (.cons rfl t__law_draw (.cons rfl t__law_pick (.cons rfl t__law_things (.cons rfl t__law_same (.cons rfl t__law_numbers (.cons rfl t__law_operators (.cons rfl t_law (.nil)))))))))))))))))))))))))))
theorem st0 : SupT PR (sd "Twice" "Twice.__init__" 21 ["key"]) := ⟨by decide, by decide +kernel, ⟨_, _, _, _, _, _, _, _, _, rfl, .cons (.nil), fun env => ⟨_, rfl⟩⟩, ⟨_, rfl, rfl⟩, fun _ _ _ _ _ _ _ us hl => match us, hl with | [_, _], _ => rfl, ⟨rfl, rfl, rfl, by decide +kernel, by decide +kernel, rfl, rfl⟩, by decide⟩
theorem st1 : SupT PR (sd "Held" "Held.__init__" 22 ["key"]) := ⟨by decide, by decide +kernel, ⟨_, _, _, _, _, _, _, _, _, rfl, .cons (.nil), fun env => ⟨_, rfl⟩⟩, ⟨_, rfl, rfl⟩, fun _ _ _ _ _ _ _ us hl => match us, hl with | [_, _], _ => rfl, ⟨rfl, rfl, rfl, by decide +kernel, by decide +kernel, rfl, rfl⟩, by decide⟩
theorem st2 : SupT PR (sd "TooMany" "TooMany.__init__" 23 ["many", "most"]) := ⟨by decide, by decide +kernel, ⟨_, _, _, _, _, _, _, _, _, rfl, .cons (.cons (.nil)), fun env => ⟨_, rfl⟩⟩, ⟨_, rfl, rfl⟩, fun _ _ _ _ _ _ _ us hl => match us, hl with | [_, _, _], _ => rfl, ⟨rfl, rfl, rfl, by decide +kernel, by decide +kernel, rfl, rfl⟩, by decide⟩
theorem st3 : SupT PR (sd "Competing" "Competing.__init__" 24 ["pair"]) := ⟨by decide, by decide +kernel, ⟨_, _, _, _, _, _, _, _, _, rfl, .cons (.nil), fun env => ⟨_, rfl⟩⟩, ⟨_, rfl, rfl⟩, fun _ _ _ _ _ _ _ us hl => match us, hl with | [_, _], _ => rfl, ⟨rfl, rfl, rfl, by decide +kernel, by decide +kernel, rfl, rfl⟩, by decide⟩
theorem st4 : SupT PR (sd "Ringed" "Ringed.__init__" 25 ["ring"]) := ⟨by decide, by decide +kernel, ⟨_, _, _, _, _, _, _, _, _, rfl, .cons (.nil), fun env => ⟨_, rfl⟩⟩, ⟨_, rfl, rfl⟩, fun _ _ _ _ _ _ _ us hl => match us, hl with | [_, _], _ => rfl, ⟨rfl, rfl, rfl, by decide +kernel, by decide +kernel, rfl, rfl⟩, by decide⟩
theorem st5 : SupT PR (sd "Collision" "Collision.__init__" 26 ["row", "holder"]) := ⟨by decide, by decide +kernel, ⟨_, _, _, _, _, _, _, _, _, rfl, .cons (.cons (.nil)), fun env => ⟨_, rfl⟩⟩, ⟨_, rfl, rfl⟩, fun _ _ _ _ _ _ _ us hl => match us, hl with | [_, _, _], _ => rfl, ⟨rfl, rfl, rfl, by decide +kernel, by decide +kernel, rfl, rfl⟩, by decide⟩
theorem sts : ∀ d ∈ spl, SupT PR d := fun d h => by
  rcases List.mem_cons.mp h with rfl | h
  · exact st0
  rcases List.mem_cons.mp h with rfl | h
  · exact st1
  rcases List.mem_cons.mp h with rfl | h
  · exact st2
  rcases List.mem_cons.mp h with rfl | h
  · exact st3
  rcases List.mem_cons.mp h with rfl | h
  · exact st4
  rcases List.mem_cons.mp h with rfl | h
  · exact st5
  cases h
theorem t__law_word : WordT G d__law_word := ⟨rfl, ⟨rfl, rfl⟩, rfl, fnScB_ok (by kernel_rfl), rfl, fun _ _ _ _ _ _ us hl => match us, hl with | [_], _ => rfl, by kernel_rfl⟩
theorem t__law_said : SaidT G d__law_said := ⟨rfl, ⟨rfl, rfl⟩, rfl, fnScB_ok (by kernel_rfl), fun _ _ _ _ _ _ us hl => match us, hl with | [_], _ => rfl, by kernel_rfl⟩
end Lw
/-! the interpreter, plainly: how a run is worked out -/
namespace Iv
open PySem (Str Operator CmpOp)
theorem run1 {G : Pg} {k b : Nat} {x : Str} {ds : List D} {M : Me} {f : Fn} (h : G.fn x = some f) : run G (k + 1) b x ds M = callF G (run G k) f b ds M := by
  show (match G.fn x with | some f => callF G (run G k) f b ds M | none => .no) = _
  rw [h]
/-- the rest of a bind stays as it is while its head is worked out -/
abbrev Lk {α : Type} (_ : α) : Type := Unit
def R.bindL {α β : Type} (r : R α) (f : α → Me → R β) (_ : Lk f) : R β := r.bind f
def R.outL {α : Type} (g : Ga) (r : R α) (f : α → Me → Out) (_ : Lk f) : Out := R.out g r f
def Out.seqL (r : Out) (f : Ga → Me → Out) (_ : Lk f) : Out := r.seq f
theorem bind_L {α β : Type} {r : R α} {f : α → Me → R β} : r.bind f = R.bindL r f (show Lk f from ()) := id rfl
theorem out_L {α : Type} {g : Ga} {r : R α} {f : α → Me → Out} : R.out g r f = R.outL g r f (show Lk f from ()) := id rfl
theorem seq_L {r : Out} {f : Ga → Me → Out} : r.seq f = Out.seqL r f (show Lk f from ()) := id rfl
theorem bindL_un {α β : Type} {r : R α} {f : α → Me → R β} {t : Lk f} : R.bindL r f t = r.bind f := id rfl
theorem outL_un {α : Type} {g : Ga} {r : R α} {f : α → Me → Out} {t : Lk f} : R.outL g r f t = R.out g r f := id rfl
theorem seqL_un {r : Out} {f : Ga → Me → Out} {t : Lk f} : Out.seqL r f t = r.seq f := id rfl
theorem bindL_ok {α β : Type} {a : α} {M : Me} {f : α → Me → R β} {t : Lk f} : R.bindL (.ok a M) f t = f a M := id rfl
theorem bindL_ex {α β : Type} {C : Cn} {fs : List (Str × D)} {M : Me} {f : α → Me → R β} {t : Lk f} : R.bindL (.ex C fs M) f t = .ex C fs M := id rfl
theorem bindL_no {α β : Type} {f : α → Me → R β} {t : Lk f} : R.bindL .no f t = .no := id rfl
theorem outL_ok {α : Type} {g : Ga} {a : α} {M : Me} {k : α → Me → Out} {t : Lk k} : R.outL g (R.ok a M) k t = k a M := id rfl
theorem outL_ex {α : Type} {g : Ga} {C : Cn} {fs : List (Str × D)} {M : Me} {k : α → Me → Out} {t : Lk k} : R.outL g (R.ex C fs M : R α) k t = .ex C fs g M := id rfl
theorem outL_no {α : Type} {g : Ga} {k : α → Me → Out} {t : Lk k} : R.outL g (R.no : R α) k t = .no := id rfl
theorem seqL_nx {g : Ga} {M : Me} {k : Ga → Me → Out} {t : Lk k} : (Out.nx g M).seqL k t = k g M := id rfl
theorem seqL_rt {d : D} {M : Me} {k : Ga → Me → Out} {t : Lk k} : (Out.rt d M).seqL k t = .rt d M := id rfl
theorem seqL_ex {C : Cn} {fs : List (Str × D)} {g : Ga} {M : Me} {k : Ga → Me → Out} {t : Lk k} : (Out.ex C fs g M).seqL k t = .ex C fs g M := id rfl
theorem seqL_bk {g : Ga} {M : Me} {k : Ga → Me → Out} {t : Lk k} : (Out.bk g M).seqL k t = .bk g M := id rfl
theorem seqL_ct {g : Ga} {M : Me} {k : Ga → Me → Out} {t : Lk k} : (Out.ct g M).seqL k t = .ct g M := id rfl
theorem seqL_no {k : Ga → Me → Out} {t : Lk k} : Out.no.seqL k t = .no := id rfl
theorem out_ok {α : Type} {g : Ga} {a : α} {M : Me} {k : α → Me → Out} : R.out g (R.ok a M) k = k a M := id rfl
theorem out_ex {α : Type} {g : Ga} {C : Cn} {fs : List (Str × D)} {M : Me} {k : α → Me → Out} : R.out g (R.ex C fs M : R α) k = .ex C fs g M := id rfl
theorem seq_nx {g : Ga} {M : Me} {k : Ga → Me → Out} : (Out.nx g M).seq k = k g M := id rfl
theorem seq_rt {d : D} {M : Me} {k : Ga → Me → Out} : (Out.rt d M).seq k = .rt d M := id rfl
theorem seq_ex {C : Cn} {fs : List (Str × D)} {g : Ga} {M : Me} {k : Ga → Me → Out} : (Out.ex C fs g M).seq k = .ex C fs g M := id rfl
theorem seq_bk {g : Ga} {M : Me} {k : Ga → Me → Out} : (Out.bk g M).seq k = .bk g M := id rfl
theorem seq_ct {g : Ga} {M : Me} {k : Ga → Me → Out} : (Out.ct g M).seq k = .ct g M := id rfl
theorem end_nx {g : Ga} {M : Me} : endOf (.nx g M) = .ok .non M := id rfl
theorem end_rt {d : D} {M : Me} : endOf (.rt d M) = .ok d M := id rfl
theorem end_ex {C : Cn} {fs : List (Str × D)} {g : Ga} {M : Me} : endOf (.ex C fs g M) = .ex C fs M := id rfl
theorem trunc_ok {n : Nat} {d : D} {M : Me} (h : d.clo n = true) : trunc n (.ok d M) = .ok d (M.take n) := by
  have e : frzD 9 n M d = some d := by
    unfold frzD
    rw [if_pos h]
  show R.of (M.take n) (frzD 9 n M d) = _
  rw [e]
  rfl
theorem trunc_ex {n : Nat} {C : Cn} {fs : List (Str × D)} {M : Me} (h : clF n fs = true) : trunc n (.ex C fs M) = .ex C fs (M.take n) := by
  show (if clF n fs = true then R.ex C fs (M.take n) else R.no) = _
  rw [if_pos h]
theorem take_len {M : Me} : M.take M.length = M := List.take_length
theorem take_set {M : Me} {c : Nat} {v : Ce} : (M.set c v).take M.length = M.set c v := by
  apply List.take_of_length_le
  simp
theorem get_set {M : Me} {c : Nat} {v w : Ce} (h : M[c]? = some w) : (M.set c v)[c]? = some v := by
  rw [List.getElem?_set_self]
  exact (List.getElem?_eq_some_iff.mp h).1
theorem take_app {M N : Me} : (M ++ N).take M.length = M := by simp
theorem callF_keep {G : Pg} {cf : Nat → Cf} {f : Fn} {b : Nat} {ds : List D} {M : Me} (h : ds.length = f.ps.length) (hk : f.keep = true) : callF G cf f b ds M = endOf (execs G cf b f.body (ds.map some ++ List.replicate f.n none) M) := by
  unfold callF
  rw [if_pos h, if_pos hk]
theorem callF_free {G : Pg} {cf : Nat → Cf} {f : Fn} {b : Nat} {ds : List D} {M : Me} (h : ds.length = f.ps.length) (hk : f.keep = false) : callF G cf f b ds M = trunc M.length (endOf (execs G cf M.length f.body (ds.map some ++ List.replicate f.n none) M)) := by
  unfold callF
  rw [if_pos h, hk]
  rfl
theorem clo_int {n : Nat} {i : Int} : (D.int i).clo n = true := id rfl
theorem clo_bl {n : Nat} {i : Bool} : (D.bl i).clo n = true := id rfl
theorem clo_str {n : Nat} {i : Str} : (D.str i).clo n = true := id rfl
theorem clo_non {n : Nat} : D.non.clo n = true := id rfl
theorem clo_scr {n : Nat} {i : List Int} : (D.scr i).clo n = true := id rfl
theorem clo_cl {n : Nat} {i : Cn} : (D.cl i).clo n = true := id rfl
theorem clo_tup {n : Nat} {ds : List D} : (D.tup ds).clo n = clL n ds := id rfl
theorem clo_lst {n : Nat} {ds : List D} : (D.lst ds).clo n = clL n ds := id rfl
theorem clo_obj {n : Nat} {C : Cn} {ds : List (Str × D)} : (D.obj C ds).clo n = clF n ds := id rfl
theorem clo_cel {n k : Nat} : (D.cel k).clo n = decide (k < n) := id rfl
theorem clL_nil {n : Nat} : clL n [] = true := id rfl
theorem clL_cons {n : Nat} {d : D} {ds : List D} : clL n (d :: ds) = (d.clo n && clL n ds) := id rfl
theorem clF_nil {n : Nat} : clF n [] = true := id rfl
theorem clF_cons {n : Nat} {x : Str} {d : D} {ds : List (Str × D)} : clF n ((x, d) :: ds) = (d.clo n && clF n ds) := id rfl
theorem clL_all {n : Nat} : ∀ {ds : List D}, clL n ds = ds.all (D.clo n)
  | [] => rfl
  | d :: ds => by
    show (d.clo n && clL n ds) = _
    rw [clL_all]
    rfl
theorem ov_int {M : Me} {i : Int} : ov M (.int i) = none := id rfl
theorem ov_bl {M : Me} {i : Bool} : ov M (.bl i) = none := id rfl
theorem ov_str {M : Me} {i : Str} : ov M (.str i) = none := id rfl
theorem ov_non {M : Me} : ov M .non = none := id rfl
theorem ov_tup {M : Me} {i : List D} : ov M (.tup i) = none := id rfl
theorem ov_lst {M : Me} {i : List D} : ov M (.lst i) = none := id rfl
theorem ov_scr {M : Me} {i : List Int} : ov M (.scr i) = none := id rfl
theorem ov_obj {M : Me} {C : Cn} {fs : List (Str × D)} : ov M (.obj C fs) = some (C, fs) := id rfl
theorem dv_int {M : Me} {i : Int} : dv M (.int i) = none := id rfl
theorem dv_str {M : Me} {i : Str} : dv M (.str i) = none := id rfl
theorem dv_tup {M : Me} {i : List D} : dv M (.tup i) = none := id rfl
theorem dv_lst {M : Me} {i : List D} : dv M (.lst i) = none := id rfl
theorem dv_scr {M : Me} {i : List Int} : dv M (.scr i) = none := id rfl
theorem dv_obj {M : Me} {C : Cn} {fs : List (Str × D)} : dv M (.obj C fs) = none := id rfl
theorem lv_lst {M : Me} {i : List D} : lv M (.lst i) = some i := id rfl
theorem lv_scr {M : Me} {i : List Int} : lv M (.scr i) = some (i.map .int) := id rfl
theorem ov_cell {M : Me} {k : Nat} {ds : List D} (h : M[k]? = some (.lst ds)) : ov M (.cel k) = none := by
  show (match M[k]? with | some (.obj C fs) => some (C, fs) | _ => none) = _
  rw [h]
theorem dv_cell {M : Me} {k : Nat} {ds : List D} (h : M[k]? = some (.lst ds)) : dv M (.cel k) = none := by
  show (match M[k]? with | some (.dct ds) => some ds | some (.dfz ds) => some ds | _ => none) = _
  rw [h]
theorem lv_cell {M : Me} {k : Nat} {ds : List D} (h : M[k]? = some (.lst ds)) : lv M (.cel k) = some ds := by
  show (match M[k]? with | some (.lst ds) => some ds | _ => none) = _
  rw [h]
theorem subs_tup {G : Pg} {cf : Cf} {M : Me} {ds : List D} {i : Int} : subs G cf (.tup ds) (.int i) M = R.of M (L2.atI ds i) := id rfl
theorem subs_lst {G : Pg} {cf : Cf} {M : Me} {ds : List D} {i : Int} : subs G cf (.lst ds) (.int i) M = R.of M (L2.atI ds i) := id rfl
theorem subs_scr {G : Pg} {cf : Cf} {M : Me} {ds : List Int} {i : Int} : subs G cf (.scr ds) (.int i) M = R.of M (L2.atI (ds.map .int) i) := id rfl
theorem subs_cell {G : Pg} {cf : Cf} {M : Me} {k : Nat} {ds : List D} {i : Int} (h : M[k]? = some (.lst ds)) : subs G cf (.cel k) (.int i) M = R.of M (L2.atI ds i) := by
  unfold subs
  rw [ov_cell h, dv_cell h]
  dsimp only
  rw [lv_cell h]
theorem ov_cel {M : Me} {k : Nat} : ov M (.cel k) = (match M[k]? with | some (.obj C fs) => some (C, fs) | _ => none) := id rfl
theorem dv_cel {M : Me} {k : Nat} : dv M (.cel k) = (match M[k]? with | some (.dct ds) => some ds | some (.dfz ds) => some ds | _ => none) := id rfl
theorem lv_cel {M : Me} {k : Nat} : lv M (.cel k) = (match M[k]? with | some (.lst ds) => some ds | _ => none) := id rfl
theorem subs_cel {G : Pg} {cf : Cf} {M : Me} {k : Nat} {i : Int} : subs G cf (.cel k) (.int i) M = (match M[k]? with | some (.lst ds) => R.of M (L2.atI ds i) | some (.obj _ _) => dun G cf M (.cel k) "__getitem__" [.int i] | some (.dct kvs) => R.of M (kget kvs (.inl i)) | some (.dfz kvs) => R.of M (kget kvs (.inl i)) | none => .no) := by
  cases e : M[k]? with
  | none => simp [subs, ov, dv, lv, e]
  | some c => cases c <;> simp [subs, ov, dv, lv, e, keyOf]
theorem setSub_cel {G : Pg} {cf : Cf} {b k : Nat} {i : Int} {d : D} {M : Me} : setSub G cf b (.cel k) (.int i) d M = (match M[k]? with
    | some (.lst xs) => (match L2.ixN xs.length i with
        | some j => if mayW b k d = true then .ok () (M.set k (.lst (xs.set j d))) else .no
        | none => .no)
    | some (.dct kvs) => if mayW b k d = true ∧ kvs.length < maxL then .ok () (M.set k (.dct (kput kvs (.inl i) d))) else .no
    | _ => .no) := by
  unfold setSub
  rfl
theorem attr_fld {G : Pg} {cf : Cf} {M : Me} {C : Cn} {fs : List (Str × D)} {f : Str} (h1 : G.find C f = none) (h2 : G.fld C f = true) : attr G cf (.obj C fs) f M = R.of M (fs.lookup f) := by
  unfold attr
  rw [ov_obj]
  dsimp only
  rw [h1]
  dsimp only
  rw [if_pos h2]
theorem attr_prp {G : Pg} {cf : Cf} {M : Me} {C : Cn} {fs : List (Str × D)} {f g : Str} (h1 : G.find C f = some (.pr g)) : attr G cf (.obj C fs) f M = noEx (callK G cf g [.obj C fs] [] [] M) := by
  unfold attr
  rw [ov_obj]
  dsimp only
  rw [h1]
  rfl
theorem noEx_ok {d : D} {M : Me} : noEx (.ok d M) = .ok d M := id rfl
theorem setSub_cell {G : Pg} {cf : Cf} {b k : Nat} {i : Int} {j : Nat} {d : D} {ds : List D} {M : Me} (h : M[k]? = some (.lst ds)) (hj : L2.ixN ds.length i = some j) (hw : mayW b k d = true) : setSub G cf b (.cel k) (.int i) d M = .ok () (M.set k (.lst (ds.set j d))) := by
  unfold setSub
  dsimp only
  rw [h]
  dsimp only
  rw [hj]
  dsimp only
  rw [if_pos hw]
theorem mayW_int {b k : Nat} {i : Int} : mayW b k (.int i) = true := by
  unfold mayW
  rw [clo_int, Bool.or_true]
theorem mayW_new {b k : Nat} {d : D} (h : b ≤ k) : mayW b k d = true := by
  unfold mayW
  rw [decide_eq_true h, Bool.true_or]
theorem bin_int {G : Pg} {cf : Cf} {op : Operator} {i j : Int} {M : Me} : binOp G cf op (.int i) (.int j) M = R.of M ((Iv.binI op i j).map .int) := id rfl
theorem bin_lst {G : Pg} {cf : Cf} {xs ys : List D} {M : Me} (h : xs.length + ys.length ≤ 100000) : binOp G cf .Add (.lst xs) (.lst ys) M = .ok (.lst (xs ++ ys)) M := by
  have e : binOp G cf .Add (.lst xs) (.lst ys) M = (if Operator.Add = .Add ∧ xs.length + ys.length ≤ maxL then .ok (.lst (xs ++ ys)) M else .no) := id rfl
  rw [e, if_pos ⟨rfl, h⟩]
theorem bi_add {i j : Int} : Iv.binI .Add i j = some (i + j) := id rfl
theorem bi_sub {i j : Int} : Iv.binI .Sub i j = some (i - j) := id rfl
theorem bi_mul {i j : Int} (h : wideI i j = true) : Iv.binI .Mult i j = some (i * j) := by
  show (if wideI i j = true then some (i * j) else none) = _
  rw [if_pos h]
theorem bi_mod {i j : Int} (h : 0 < j) : Iv.binI .Mod i j = some (i % j) := by
  show (if 0 < j then some (i % j) else none) = _
  rw [if_pos h]
theorem bi_div {i j : Int} (h : 0 < j) (hl : j.natAbs.log2 < 4000) : Iv.binI .FloorDiv i j = some (i / j) := by
  show (if j ≠ 0 ∧ j.natAbs.log2 < 4000 then some (i.fdiv j) else none) = _
  rw [if_pos ⟨by omega, hl⟩, Int.fdiv_eq_ediv_of_nonneg _ (by omega)]
theorem log_small {n : Nat} (h : n < 18446744073709551616) : n.log2 < 4000 := by
  by_cases h0 : n = 0
  · subst h0
    decide
  · have z : n.log2 < 64 := (Nat.log2_lt h0).mpr (by omega)
    omega
theorem bi_divS {i j : Int} (h : 0 < j) (hl : j < 18446744073709551616) : Iv.binI .FloorDiv i j = some (i / j) := bi_div h (log_small (by omega))
theorem bi_fdivS {i j : Int} (h : j ≠ 0) (hl : j.natAbs < 18446744073709551616) : Iv.binI .FloorDiv i j = some (i.fdiv j) := by
  show (if j ≠ 0 ∧ j.natAbs.log2 < 4000 then some (i.fdiv j) else none) = _
  rw [if_pos ⟨h, log_small hl⟩]
theorem bi_fdiv {i j : Int} (h : j ≠ 0) (hl : j.natAbs.log2 < 4000) : Iv.binI .FloorDiv i j = some (i.fdiv j) := by
  show (if j ≠ 0 ∧ j.natAbs.log2 < 4000 then some (i.fdiv j) else none) = _
  rw [if_pos ⟨h, hl⟩]
theorem wide_l {i j : Int} (h : i.natAbs < 18446744073709551616) : wideI i j = true := by
  unfold wideI
  simp [h]
theorem wide_r {i j : Int} (h : j.natAbs < 18446744073709551616) : wideI i j = true := by
  unfold wideI
  simp [h]
/-- a product with a small factor -/
theorem bi_mulL {i j : Int} (h : i.natAbs < 18446744073709551616) : Iv.binI .Mult i j = some (i * j) := bi_mul (wide_l h)
theorem bi_mulR {i j : Int} (h : j.natAbs < 18446744073709551616) : Iv.binI .Mult i j = some (i * j) := bi_mul (wide_r h)
theorem bi_pow {i j : Int} (h : 0 ≤ j ∧ j ≤ 100000 ∧ i.natAbs < 18446744073709551616) : Iv.binI .Pow i j = some (i ^ j.toNat) := by
  show (if 0 ≤ j ∧ j ≤ 100000 ∧ i.natAbs < 18446744073709551616 then some (i ^ j.toNat) else none) = _
  rw [if_pos h]
theorem cmp_lt {G : Pg} {cf : Cf} {i j : Int} {M : Me} : cmpOp G cf .Lt (.int i) (.int j) M = .ok (decide (i < j)) M := id rfl
theorem cmp_le {G : Pg} {cf : Cf} {i j : Int} {M : Me} : cmpOp G cf .LtE (.int i) (.int j) M = .ok (decide (i ≤ j)) M := id rfl
theorem cmp_gt {G : Pg} {cf : Cf} {i j : Int} {M : Me} : cmpOp G cf .Gt (.int i) (.int j) M = .ok (decide (j < i)) M := id rfl
theorem cmp_ge {G : Pg} {cf : Cf} {i j : Int} {M : Me} : cmpOp G cf .GtE (.int i) (.int j) M = .ok (decide (j ≤ i)) M := id rfl
theorem cmp_eq {G : Pg} {cf : Cf} {i j : Int} {M : Me} : cmpOp G cf .Eq (.int i) (.int j) M = .ok (decide (i = j)) M := id rfl
theorem cmp_ne {G : Pg} {cf : Cf} {i j : Int} {M : Me} : cmpOp G cf .NotEq (.int i) (.int j) M = .ok (!decide (i = j)) M := id rfl
theorem is_non {G : Pg} {cf : Cf} {d : D} {M : Me} : cmpOp G cf .Is d .non M = .ok (isNon d) M := id rfl
theorem isn_non {G : Pg} {cf : Cf} {d : D} {M : Me} : cmpOp G cf .IsNot d .non M = .ok (!isNon d) M := id rfl
theorem eq_str {G : Pg} {cf : Cf} {x y : Str} {M : Me} : cmpOp G cf .Eq (.str x) (.str y) M = .ok (x == y) M := by
  have e : cmpOp G cf .Eq (.str x) (.str y) M = .ok (decide (x = y)) M := rfl
  rw [e, Bool.eq_iff_iff.mpr (show decide (x = y) = true ↔ (x == y) = true by simp)]
theorem ne_str {G : Pg} {cf : Cf} {x y : Str} {M : Me} : cmpOp G cf .NotEq (.str x) (.str y) M = .ok (!(x == y)) M := by
  have e : cmpOp G cf .NotEq (.str x) (.str y) M = .ok (!decide (x = y)) M := rfl
  rw [e, Bool.eq_iff_iff.mpr (show decide (x = y) = true ↔ (x == y) = true by simp)]
theorem tru_bl {M : Me} {z : Bool} : tru M (.bl z) = some z := id rfl
theorem tru_int {M : Me} {z : Int} : tru M (.int z) = some (z != 0) := id rfl
theorem tru_non {M : Me} : tru M .non = some false := id rfl
theorem tru_lst {M : Me} {ds : List D} : tru M (.lst ds) = some (!ds.isEmpty) := id rfl
theorem tru_tup {M : Me} {ds : List D} : tru M (.tup ds) = some (!ds.isEmpty) := id rfl
/-! a body, statement by statement -/
section
variable {G : Pg} {cf : Nat → Cf} {b k : Nat} {s : Sm} {r : List Sm} {g g1 : Ga} {M M1 : Me} {d : D} {o : Out}
theorem execs_nx (h1 : exec G cf b s g M = .nx g1 M1) (h2 : execs G cf b r g1 M1 = o) : execs G cf b (s :: r) g M = o := by
  rw [Iv.execs, h1, seq_nx, h2]
theorem execs_rt (h1 : exec G cf b s g M = .rt d M1) : execs G cf b (s :: r) g M = .rt d M1 := by
  rw [Iv.execs, h1, seq_rt]
theorem exec_for {t : Tg} {it : It} {body : List Sm} : exec G cf b (.for t it body) g M = R.out g (evi G cf b it g M) fun wk M1 => forL (fun d g M => (sto G cf b t g d M).seq fun g M => execs G cf b body g M) (wkO wk) wk.1 g M1 := by
  rw [Iv.exec]
theorem run_rt {x : Str} {ds : List D} {f : Fn} {M2 : Me} (h : G.fn x = some f) (hl : ds.length = f.ps.length) (hk : f.keep = false) (he : execs G (run G k) M.length f.body (ds.map some ++ List.replicate f.n none) M = .rt d M1) (hd : d.clo M.length = true) (hM : M1.take M.length = M2) : run G (k + 1) b x ds M = .ok d M2 := by
  rw [run1 h, callF_free hl hk, he, end_rt, trunc_ok hd, hM]
theorem mapO_id {f : D → Option D} : ∀ {ds : List D}, (∀ d ∈ ds, f d = some d) → mapO f ds = some ds
  | [], _ => rfl
  | d :: ds, h => by
    unfold mapO
    rw [h d List.mem_cons_self, Option.bind_some, mapO_id fun e he => h e (List.mem_cons_of_mem _ he)]
    rfl
theorem frz_clo {u n : Nat} {d : D} (h : d.clo n = true) : frzD (u + 1) n M d = some d := by
  unfold frzD
  rw [if_pos h]
/-- a new list, given back -/
theorem trunc_cell {ds : List D} (h : clL M.length ds = true) : trunc M.length (.ok (.cel M.length) (M ++ [.lst ds])) = .ok (.lst ds) M := by
  have e : frzD 9 M.length (M ++ [.lst ds]) (.cel M.length) = some (.lst ds) := by
    unfold frzD
    rw [if_neg (by simp [clo_cel])]
    have z : (M ++ [Ce.lst ds])[M.length]? = some (.lst ds) := by simp
    dsimp only
    rw [z]
    dsimp only
    rw [mapO_id fun d hd => frz_clo (by rw [clL_all] at h; exact List.all_eq_true.mp h d hd)]
    rfl
  show R.of ((M ++ [Ce.lst ds]).take M.length) (frzD 9 M.length (M ++ [.lst ds]) (.cel M.length)) = _
  rw [e, take_app]
  rfl
theorem clL_ints {n : Nat} : ∀ {ns : List Int}, clL n (ns.map .int) = true
  | [] => rfl
  | i :: r => by
    show ((D.int i).clo n && clL n (r.map .int)) = true
    rw [clo_int, clL_ints]
    rfl
theorem intsD_ints : ∀ {ns : List Int}, intsD (ns.map .int) = some ns
  | [] => rfl
  | i :: r => by
    show (intsD (r.map .int)).map (i :: ·) = _
    rw [intsD_ints]
    rfl
theorem lcL_filter {turn : D → Me → R (Option D)} {ok : Me → Bool} {f : D → Bool} {h : D → D} (hok : ok M = true) : ∀ {ds : List D}, (∀ d ∈ ds, turn d M = .ok (if f d = true then some (h d) else none) M) → lcL turn ok ds M = .ok ((ds.filter f).map h) M
  | [], _ => by
    unfold lcL
    rw [if_pos hok]
    rfl
  | d :: ds, ht => by
    unfold lcL
    rw [if_pos hok, ht d List.mem_cons_self]
    have ih := lcL_filter (turn := turn) (h := h) hok fun e he => ht e (List.mem_cons_of_mem _ he)
    by_cases hf : f d = true
    · rw [if_pos hf, List.filter_cons, if_pos hf]
      dsimp only
      rw [ih]
      rfl
    · rw [if_neg hf, List.filter_cons, if_neg hf]
      exact ih
/-- [e for tg in it if cs], cells unchanged -/
theorem ev_lc {e : Ex} {tg : Tg} {it : It} {cs : Option Ex} {ds : List D} {kk : List (Nat × List D)} {f : D → Bool} {h : D → D} (hi : evi G cf b it g M = .ok (ds, kk) M) (hok : wkO (ds, kk) M = true) (hl : ds.length ≤ 50000)
    (ht : ∀ d ∈ ds, ∃ g', tgN tg (wipeG g tg.slots) d = some g' ∧ ((f d = false ∧ evc G cf b cs g' M = .ok false M) ∨ (f d = true ∧ evc G cf b cs g' M = .ok true M ∧ ev G cf b e g' M = .ok (h d) M))) : ev G cf b (.lc e tg it cs) g M = .ok (.lst ((ds.filter f).map h)) M := by
  rw [Iv.ev, hi, R.bind_ok]
  dsimp only
  rw [lcL_filter (f := f) (h := h) hok fun d hd => ?_, R.bind_ok, if_pos hl]
  obtain ⟨g', h1, h2⟩ := ht d hd
  rw [h1]
  dsimp only
  rcases h2 with ⟨h2, h3⟩ | ⟨h2, h3, h4⟩
  · rw [h3, h2]
    rfl
  · rw [h3, h2, R.bind_ok, if_pos rfl, h4]
    rfl
theorem filter_int {f : D → Bool} {f' : Int → Bool} (h : ∀ i, f (.int i) = f' i) : ∀ {ns : List Int}, (ns.map D.int).filter f = (ns.filter f').map .int
  | [] => rfl
  | i :: r => by
    rw [List.map_cons, List.filter_cons, List.filter_cons, h, filter_int h]
    split <;> rfl
theorem forL_find {step : D → Ga → Me → Out} {ok : Me → Bool} {q : D → Option D} {I : Ga → Prop} (hok : ok M = true) : ∀ {ds : List D}, (∀ d ∈ ds, ∀ g, I g → (∃ v, q d = some v ∧ step d g M = .rt v M) ∨ (q d = none ∧ ∃ g', I g' ∧ step d g M = .nx g' M)) → ∀ {g : Ga}, I g →
    (∃ v, ds.findSome? q = some v ∧ forL step ok ds g M = .rt v M) ∨ (ds.findSome? q = none ∧ ∃ g', I g' ∧ forL step ok ds g M = .nx g' M)
  | [], _, g, hg => by
    refine .inr ⟨rfl, g, hg, ?_⟩
    unfold forL
    rw [if_pos hok]
  | d :: ds, hs, g, hg => by
    unfold forL
    rw [if_pos hok]
    rcases hs d List.mem_cons_self g hg with ⟨v, h1, h2⟩ | ⟨h1, g', h2, h3⟩
    · refine .inl ⟨v, ?_, ?_⟩
      · rw [List.findSome?_cons, h1]
      · rw [h2]
    · rw [h3, List.findSome?_cons, h1]
      exact forL_find hok (fun e he => hs e (List.mem_cons_of_mem _ he)) h2
/-- a walk that goes through -/
theorem forL_all {step : D → Ga → Me → Out} {ok : Me → Bool} {I : Ga → Me → Prop} : ∀ {ds : List D}, (∀ d ∈ ds, ∀ g M, I g M → ∃ g' M', I g' M' ∧ (step d g M = .nx g' M' ∨ step d g M = .ct g' M')) → (∀ g M, I g M → ok M = true) → ∀ {g : Ga} {M : Me}, I g M → ∃ g' M', I g' M' ∧ forL step ok ds g M = .nx g' M'
  | [], _, hok, g, M, hg => by
    refine ⟨g, M, hg, ?_⟩
    unfold forL
    rw [if_pos (hok g M hg)]
  | d :: ds, hs, hok, g, M, hg => by
    obtain ⟨g', M', h1, h2⟩ := hs d List.mem_cons_self g M hg
    obtain ⟨g2, M2, h3, h4⟩ := forL_all (fun e he => hs e (List.mem_cons_of_mem _ he)) hok h1
    refine ⟨g2, M2, h3, ?_⟩
    unfold forL
    rw [if_pos (hok g M hg)]
    rcases h2 with h2 | h2
    · rw [h2]
      exact h4
    · rw [h2]
      exact h4
end
end Iv
/-! the laws' pens -/
namespace Iv
open PySem (Str Operator CmpOp)
def fCellAt : Fn := ⟨["_law_script", "_law_k"], 0, [], [(2, [])],
  [.ifs (.cmp .Lt (.v 1) (.cb .len [(.v 0)])) [.ret (.sub (.v 0) (.v 1))] [],
   .ret (.int 0)], false⟩
def fPen : Fn := ⟨["_law_cell"], 0, [], [(1, [])],
  [.ret (.cel (.lst [(.cb .max [(.int 0), (.bin .Sub (.v 0) (.bin .Pow (.int 10) (.int 18)))]), (.bin .Mod (.cb .int [(.v 0)]) (.int 2147483629)), (.int 1)]))], true⟩
def fDraw : Fn := ⟨["_law_pen_here", "_law_many"], 2, [], [(2, [])],
  [.ifs (.cmp .Gt (.sub (.v 0) (.int 0)) (.int 0)) [.asg (.nm 3) (.bin .Mod (.cb .int [(.sub (.v 0) (.int 0))]) (.v 1)), .asg (.sub (.v 0) (.int 0)) (.bin .FloorDiv (.sub (.v 0) (.int 0)) (.v 1)), .ret (.v 3)] [],
   .asg (.sub (.v 0) (.int 2)) (.bin .Add (.sub (.v 0) (.int 2)) (.int 1)),
   .asg (.sub (.v 0) (.int 1)) (.bin .Mod (.cb .int [(.bin .Add (.bin .Add (.bin .Mult (.sub (.v 0) (.int 1)) (.int 48271)) (.bin .Mult (.int 7919) (.sub (.v 0) (.int 2)))) (.int 11))]) (.int 2147483647)),
   .asg (.nm 2) (.bin .Mod (.cb .int [(.bin .Add (.bin .Add (.bin .Mult (.sub (.v 0) (.int 1)) (.sub (.v 0) (.int 1))) (.bin .Mult (.int 40014) (.sub (.v 0) (.int 1)))) (.sub (.v 0) (.int 2)))]) (.int 2147483563)),
   .ret (.bin .Mod (.cb .int [(.bin .FloorDiv (.bin .Mod (.cb .int [(.bin .Mult (.v 2) (.int 16807))]) (.int 2147483647)) (.int 64))]) (.v 1))], false⟩
def fPickN (y : Str) : Fn := ⟨["_law_pen_here", y], 0, [], [(2, [])],
  [.ret (.sub (.v 1) (.cf "_law_draw" [(.v 0), (.cb .len [(.v 1)])] [] []))], false⟩
abbrev fPick : Fn := fPickN "_law_things"
structure Pn where
  x : Int
  y : Int
  z : Int
def Pn.d (p : Pn) : Ce := .lst [.int p.x, .int p.y, .int p.z]
def Pn.y1 (p : Pn) : Int := (p.y * 48271 + 7919 * (p.z + 1) + 11) % 2147483647
def Pn.s1 (p : Pn) : Int := (p.y1 * p.y1 + 40014 * p.y1 + (p.z + 1)) % 2147483563
def Pn.go (p : Pn) (m : Int) : Pn := if 0 < p.x then ⟨p.x / m, p.y, p.z⟩ else ⟨p.x, p.y1, p.z + 1⟩
def Pn.r (p : Pn) (m : Int) : Int := if 0 < p.x then p.x % m else p.s1 * 16807 % 2147483647 / 64 % m
theorem Pn.y1_lt (p : Pn) : p.y1.natAbs < 18446744073709551616 := by
  have h1 : 0 ≤ p.y1 := Int.emod_nonneg _ (by decide)
  have h2 : p.y1 < 2147483647 := Int.emod_lt_of_pos _ (by decide)
  omega
theorem Pn.r_nn (p : Pn) {m : Int} (h : 0 < m) : 0 ≤ p.r m := by
  unfold Pn.r
  split <;> exact Int.emod_nonneg _ (by omega)
theorem Pn.r_lt (p : Pn) {m : Int} (h : 0 < m) : p.r m < m := by
  unfold Pn.r
  split <;> exact Int.emod_lt_of_pos _ h
section
variable {G : Pg} {k b c : Nat} {M : Me}
theorem r_cellAt0 (hG : G.fn "_law_cell_at" = some fCellAt) {ns : List Int} : run G (k + 1) b "_law_cell_at" [.scr ns, .int 0] M = .ok (.int (ns.headD 0)) M := by
  rw [run1 hG, callF_free (by rfl) (by rfl)]
  cases ns with
  | nil => (simp [↓bind_L, ↓out_L, ↓seq_L, bindL_ok, bindL_ex, bindL_no, outL_ok, outL_ex, outL_no, seqL_nx, seqL_rt, seqL_ex, seqL_bk, seqL_ct, seqL_no, Iv.execs, Iv.exec, Iv.ev, Iv.evs, Iv.evi, Iv.evN, Iv.evo, Iv.evc, Iv.sto, Iv.stos, out_ok, out_ex, seq_nx, seq_rt, seq_ex, seq_bk, seq_ct, end_nx, end_rt, end_ex, trunc_ok, trunc_ex, take_len, take_app, take_set,  clo_int, clo_bl, clo_str, clo_non, clo_scr, clo_cl, clo_tup, clo_lst, clo_obj, clo_cel, clL_nil, clL_cons, clF_nil, clF_cons, ov_int, ov_bl, ov_str, ov_non, ov_tup, ov_lst, ov_scr, ov_obj, dv_int, dv_str, dv_tup, dv_lst, dv_scr, dv_obj, lv_lst, lv_scr, bin_int, bi_add, bi_sub, bi_mulL, bi_mulR, bi_mod, bi_divS, bi_pow, cbOk, cbOp, cmp_lt, cmp_le, cmp_gt, cmp_ge, cmp_eq, cmp_ne, is_non, isn_non, eq_str, ne_str, tru_bl, tru_int, tru_non, tru_lst, tru_tup, isNon, ov_cel, dv_cel, lv_cel, subs_cel, setSub_cel, subs_tup, subs_lst, subs_scr,  L2.atI, L2.ixN, callP, noEx_ok, mayW_int, fCellAt, lenR] <;> try simp only [bindL_un, outL_un, seqL_un])
  | cons n r => (simp [↓bind_L, ↓out_L, ↓seq_L, bindL_ok, bindL_ex, bindL_no, outL_ok, outL_ex, outL_no, seqL_nx, seqL_rt, seqL_ex, seqL_bk, seqL_ct, seqL_no, Iv.execs, Iv.exec, Iv.ev, Iv.evs, Iv.evi, Iv.evN, Iv.evo, Iv.evc, Iv.sto, Iv.stos, out_ok, out_ex, seq_nx, seq_rt, seq_ex, seq_bk, seq_ct, end_nx, end_rt, end_ex, trunc_ok, trunc_ex, take_len, take_app, take_set,  clo_int, clo_bl, clo_str, clo_non, clo_scr, clo_cl, clo_tup, clo_lst, clo_obj, clo_cel, clL_nil, clL_cons, clF_nil, clF_cons, ov_int, ov_bl, ov_str, ov_non, ov_tup, ov_lst, ov_scr, ov_obj, dv_int, dv_str, dv_tup, dv_lst, dv_scr, dv_obj, lv_lst, lv_scr, bin_int, bi_add, bi_sub, bi_mulL, bi_mulR, bi_mod, bi_divS, bi_pow, cbOk, cbOp, cmp_lt, cmp_le, cmp_gt, cmp_ge, cmp_eq, cmp_ne, is_non, isn_non, eq_str, ne_str, tru_bl, tru_int, tru_non, tru_lst, tru_tup, isNon, ov_cel, dv_cel, lv_cel, subs_cel, setSub_cel, subs_tup, subs_lst, subs_scr,  L2.atI, L2.ixN, callP, noEx_ok, mayW_int, fCellAt, lenR] <;> try simp only [bindL_un, outL_un, seqL_un])
theorem r_pen (hG : G.fn "_law_pen" = some fPen) {n : Int} : run G (k + 1) b "_law_pen" [.int n] M = .ok (.cel M.length) (M ++ [Pn.d ⟨if n - 10 ^ 18 > 0 then n - 10 ^ 18 else 0, n % 2147483629, 1⟩]) := by
  rw [run1 hG, callF_keep (by rfl) (by rfl)]
  (simp [↓bind_L, ↓out_L, ↓seq_L, bindL_ok, bindL_ex, bindL_no, outL_ok, outL_ex, outL_no, seqL_nx, seqL_rt, seqL_ex, seqL_bk, seqL_ct, seqL_no, Iv.execs, Iv.exec, Iv.ev, Iv.evs, Iv.evi, Iv.evN, Iv.evo, Iv.evc, Iv.sto, Iv.stos, out_ok, out_ex, seq_nx, seq_rt, seq_ex, seq_bk, seq_ct, end_nx, end_rt, end_ex, trunc_ok, trunc_ex, take_len, take_app, take_set,  clo_int, clo_bl, clo_str, clo_non, clo_scr, clo_cl, clo_tup, clo_lst, clo_obj, clo_cel, clL_nil, clL_cons, clF_nil, clF_cons, ov_int, ov_bl, ov_str, ov_non, ov_tup, ov_lst, ov_scr, ov_obj, dv_int, dv_str, dv_tup, dv_lst, dv_scr, dv_obj, lv_lst, lv_scr, bin_int, bi_add, bi_sub, bi_mulL, bi_mulR, bi_mod, bi_divS, bi_pow, cbOk, cbOp, cmp_lt, cmp_le, cmp_gt, cmp_ge, cmp_eq, cmp_ne, is_non, isn_non, eq_str, ne_str, tru_bl, tru_int, tru_non, tru_lst, tru_tup, isNon, ov_cel, dv_cel, lv_cel, subs_cel, setSub_cel, subs_tup, subs_lst, subs_scr,  L2.atI, L2.ixN, callP, noEx_ok, mayW_int, fPen, maxL, Pn.d] <;> try simp only [bindL_un, outL_un, seqL_un])
theorem r_draw (hG : G.fn "_law_draw" = some fDraw) {p : Pn} {m : Int} (hc : M[c]? = some p.d) (hm : 0 < m) (hl : m < 18446744073709551616) : run G (k + 1) b "_law_draw" [.cel c, .int m] M = .ok (.int (p.r m)) (M.set c (p.go m).d) := by
  obtain ⟨x, y, z⟩ := p
  have hc' : M[c]? = some (.lst [.int x, .int y, .int z]) := hc
  have hy := Pn.y1_lt ⟨x, y, z⟩
  rw [run1 hG, callF_free (by rfl) (by rfl)]
  unfold Pn.y1 at hy
  dsimp only at hy
  by_cases hx : 0 < x
  · (simp [↓bind_L, ↓out_L, ↓seq_L, bindL_ok, bindL_ex, bindL_no, outL_ok, outL_ex, outL_no, seqL_nx, seqL_rt, seqL_ex, seqL_bk, seqL_ct, seqL_no, Iv.execs, Iv.exec, Iv.ev, Iv.evs, Iv.evi, Iv.evN, Iv.evo, Iv.evc, Iv.sto, Iv.stos, out_ok, out_ex, seq_nx, seq_rt, seq_ex, seq_bk, seq_ct, end_nx, end_rt, end_ex, trunc_ok, trunc_ex, take_len, take_app, take_set,  clo_int, clo_bl, clo_str, clo_non, clo_scr, clo_cl, clo_tup, clo_lst, clo_obj, clo_cel, clL_nil, clL_cons, clF_nil, clF_cons, ov_int, ov_bl, ov_str, ov_non, ov_tup, ov_lst, ov_scr, ov_obj, dv_int, dv_str, dv_tup, dv_lst, dv_scr, dv_obj, lv_lst, lv_scr, bin_int, bi_add, bi_sub, bi_mulL, bi_mulR, bi_mod, bi_divS, bi_pow, cbOk, cbOp, cmp_lt, cmp_le, cmp_gt, cmp_ge, cmp_eq, cmp_ne, is_non, isn_non, eq_str, ne_str, tru_bl, tru_int, tru_non, tru_lst, tru_tup, isNon, ov_cel, dv_cel, lv_cel, subs_cel, setSub_cel, subs_tup, subs_lst, subs_scr,  L2.atI, L2.ixN, callP, noEx_ok, mayW_int, fDraw, hc', hx, hm, hl, Pn.d, Pn.go, Pn.r] <;> try simp only [bindL_un, outL_un, seqL_un])
  · (simp [↓bind_L, ↓out_L, ↓seq_L, bindL_ok, bindL_ex, bindL_no, outL_ok, outL_ex, outL_no, seqL_nx, seqL_rt, seqL_ex, seqL_bk, seqL_ct, seqL_no, Iv.execs, Iv.exec, Iv.ev, Iv.evs, Iv.evi, Iv.evN, Iv.evo, Iv.evc, Iv.sto, Iv.stos, out_ok, out_ex, seq_nx, seq_rt, seq_ex, seq_bk, seq_ct, end_nx, end_rt, end_ex, trunc_ok, trunc_ex, take_len, take_app, take_set,  clo_int, clo_bl, clo_str, clo_non, clo_scr, clo_cl, clo_tup, clo_lst, clo_obj, clo_cel, clL_nil, clL_cons, clF_nil, clF_cons, ov_int, ov_bl, ov_str, ov_non, ov_tup, ov_lst, ov_scr, ov_obj, dv_int, dv_str, dv_tup, dv_lst, dv_scr, dv_obj, lv_lst, lv_scr, bin_int, bi_add, bi_sub, bi_mulL, bi_mulR, bi_mod, bi_divS, bi_pow, cbOk, cbOp, cmp_lt, cmp_le, cmp_gt, cmp_ge, cmp_eq, cmp_ne, is_non, isn_non, eq_str, ne_str, tru_bl, tru_int, tru_non, tru_lst, tru_tup, isNon, ov_cel, dv_cel, lv_cel, subs_cel, setSub_cel, subs_tup, subs_lst, subs_scr,  L2.atI, L2.ixN, callP, noEx_ok, mayW_int, fDraw, hc', get_set hc', hx, hm, hl, hy, Pn.d, Pn.go, Pn.r, Pn.y1, Pn.s1] <;> try simp only [bindL_un, outL_un, seqL_un])
theorem ck_draw (hG : G.fn "_law_draw" = some fDraw) {cf : Cf} {a m : D} : callK G cf "_law_draw" [a, m] [] [] M = cf "_law_draw" [a, m] M := by
  unfold callK
  rw [hG]
  rfl
theorem ck_pick {y : Str} (hG : G.fn "_law_pick" = some (fPickN y)) {cf : Cf} {a m : D} : callK G cf "_law_pick" [a, m] [] [] M = cf "_law_pick" [a, m] M := by
  unfold callK
  rw [hG]
  rfl
theorem ck_pen (hG : G.fn "_law_pen" = some fPen) {cf : Cf} {a : D} : callK G cf "_law_pen" [a] [] [] M = cf "_law_pen" [a] M := by
  unfold callK
  rw [hG]
  rfl
theorem ck_cellAt (hG : G.fn "_law_cell_at" = some fCellAt) {cf : Cf} {a m : D} : callK G cf "_law_cell_at" [a, m] [] [] M = cf "_law_cell_at" [a, m] M := by
  unfold callK
  rw [hG]
  rfl
theorem atI_nn {ds : List D} {i : Int} (h0 : 0 ≤ i) (h : i < ds.length) : L2.atI ds i = ds[i.toNat]? := by
  unfold L2.atI L2.ixN
  rw [if_pos h0, if_pos h]
  rfl
theorem Pn.mem (p : Pn) {ds : List D} (h0 : ds ≠ []) : ∃ d, L2.atI ds (p.r ds.length) = some d ∧ d ∈ ds := by
  have hl : 0 < ds.length := List.length_pos_iff.mpr h0
  have h1 := p.r_nn (m := ds.length) (by omega)
  have h2 := p.r_lt (m := ds.length) (by omega)
  have h3 : (p.r ds.length).toNat < ds.length := by omega
  exact ⟨ds[(p.r ds.length).toNat], by rw [atI_nn h1 h2, List.getElem?_eq_getElem h3], List.getElem_mem h3⟩
/-- the thing that is picked -/
def Pn.pk (p : Pn) (ds : List D) : D := (L2.atI ds (p.r ds.length)).getD .non
theorem Pn.pk_at (p : Pn) {ds : List D} (h0 : ds ≠ []) : L2.atI ds (p.r ds.length) = some (p.pk ds) := by
  obtain ⟨d, h, _⟩ := p.mem h0
  unfold Pn.pk
  rw [h]
  rfl
theorem Pn.pk_mem (p : Pn) {ds : List D} (h0 : ds ≠ []) : p.pk ds ∈ ds := by
  obtain ⟨d, h, m⟩ := p.mem h0
  unfold Pn.pk
  rw [h]
  exact m
theorem r_pick (hG : G.fn "_law_draw" = some fDraw) {y : Str} (hG2 : G.fn "_law_pick" = some (fPickN y)) {p : Pn} {ds : List D} (hc : M[c]? = some p.d) (h0 : ds ≠ []) (hl : ds.length ≤ maxL) (hd : clL M.length ds = true) : run G (k + 2) b "_law_pick" [.cel c, .lst ds] M = .ok (p.pk ds) (M.set c (p.go ds.length).d) := by
  have hlen : 0 < ds.length := List.length_pos_iff.mpr h0
  unfold maxL at hl
  have h1 : (0 : Int) < (ds.length : Int) := by omega
  have h2 : (ds.length : Int) < 18446744073709551616 := by omega
  have hp : (p.pk ds).clo M.length = true := by
    rw [clL_all] at hd
    exact List.all_eq_true.mp hd _ (p.pk_mem h0)
  have hs : subs G (run G (k + 1) M.length) (.lst ds) (.int (p.r ds.length)) (M.set c (p.go ds.length).d) = .ok (p.pk ds) (M.set c (p.go ds.length).d) := by
    rw [subs_lst, p.pk_at h0]
    rfl
  rw [run1 hG2, callF_free (by rfl) (by rfl)]
  simp [fPickN, Iv.execs, Iv.exec, Iv.ev, Iv.evs, cbOk, cbOp, lenR, ov_lst, lv_lst, ck_draw hG, r_draw hG hc h1 h2, hs, out_ok, seq_rt, end_rt, trunc_ok hp, take_set]
end
end Iv
/-! the text of data of bounded size -/
namespace Iv
open PySem
def okS (x : Str) : Bool := x.cps.toList.all fun c => decide (c < 4294967296)
mutual
def okD : D → Bool
  | .non => true
  | .bl _ => true
  | .int i => decide (i.natAbs.log2 < 1920)
  | .str x => okS x
  | .tup ds => okL ds
  | .lst ds => okL ds
  | _ => false
def okL : List D → Bool
  | [] => true
  | d :: r => okD d && okL r
end
mutual
def wtD : D → Nat
  | .non => 4
  | .bl _ => 5
  | .int _ => 1921
  | .str x => 10 * x.length + 2
  | .tup ds => wtL ds + 3
  | .lst ds => wtL ds + 3
  | _ => 0
def wtL : List D → Nat
  | [] => 0
  | d :: r => wtD d + 2 + wtL r
end
mutual
def dpD : D → Nat
  | .tup ds => dpL ds + 1
  | .lst ds => dpL ds + 1
  | _ => 0
def dpL : List D → Nat
  | [] => 0
  | d :: r => max (dpD d) (dpL r)
end
theorem join_le : ∀ {ts : List Str} {n : Nat}, (ts.map fun t => t.length + 2).sum ≤ n → (Str.join ", " ts).length ≤ n
  | [], n, _ => by
    show (Str.join ", " []).length ≤ n
    have : (Str.join ", " []).length = 0 := by decide
    omega
  | t :: r, n, h => by
    have z := join_length_add (t :: r) (by simp)
    have p : piled (t :: r) = ((t :: r).map fun t => t.length + 2).sum := by
      unfold piled
      rfl
    omega
mutual
theorem pd_ok : ∀ {d : D}, okD d = true → ∃ q, pd d = some q ∧ q.showable = true ∧ q.hasDict = false ∧ q.shown.length ≤ wtD d ∧ q.depth ≤ dpD d
  | .non, _ => ⟨.none, rfl, rfl, rfl, by decide, by decide⟩
  | .bl b, _ => ⟨.bool b, rfl, rfl, rfl, by cases b <;> decide, by cases b <;> decide⟩
  | .int i, h => by
    have h : i.natAbs.log2 < 1920 := of_decide_eq_true h
    refine ⟨.int i, rfl, decide_eq_true h, rfl, ?_, by simp [PyData.depth, dpD]⟩
    have z := int_text_length_le (k := 1920) (by decide) h
    show (Str.ofString (toString i)).length ≤ 1921
    have e : (Str.ofString (toString i)).length = (toString i).length := ofString_length _
    omega
  | .str x, h => by
    refine ⟨.str x, rfl, rfl, rfl, ?_, by simp [PyData.depth, dpD]⟩
    exact StrLaws.reprText_len x fun c hc => by
      have z := of_decide_eq_true (List.all_eq_true.mp h c hc)
      simpa using z
  | .tup ds, h => by
    obtain ⟨qs, h1, h2, h3, h4, h5⟩ := pdL_ok (ds := ds) h
    refine ⟨.tuple qs, by simp only [pd, h1]; rfl, h2, h3, ?_, ?_⟩
    · show (tupleText (PyData.shownAll qs)).length ≤ wtL ds + 3
      unfold tupleText
      rw [strLen_append, strLen_append]
      have z := join_le h4
      have e1 : (Str.ofString "(").length = 1 := by decide
      have e2 : (Str.ofString (if (PyData.shownAll qs).length == 1 then ",)" else ")")).length ≤ 2 := by split <;> decide
      omega
    · show PyData.depthAll qs + 1 ≤ dpL ds + 1
      omega
  | .lst ds, h => by
    obtain ⟨qs, h1, h2, h3, h4, h5⟩ := pdL_ok (ds := ds) h
    refine ⟨.list qs, by simp only [pd, h1]; rfl, h2, h3, ?_, ?_⟩
    · show (listText (PyData.shownAll qs)).length ≤ wtL ds + 3
      rw [listText_eq_join, strLen_append, strLen_append]
      have z := join_le h4
      have e1 : (Str.ofString "[").length = 1 := by decide
      have e2 : (Str.ofString "]").length = 1 := by decide
      omega
    · show PyData.depthAll qs + 1 ≤ dpL ds + 1
      omega
  | .byt _, h => by cases h
  | .ty _, h => by cases h
  | .cl _, h => by cases h
  | .fn _, h => by cases h
  | .dct _, h => by cases h
  | .obj _ _, h => by cases h
  | .exc _ _, h => by cases h
  | .hot _ _ _, h => by cases h
  | .cel _, h => by cases h
  | .scr _, h => by cases h
theorem pdL_ok : ∀ {ds : List D}, okL ds = true → ∃ qs, pdL ds = some qs ∧ PyData.showableAll qs = true ∧ PyData.hasDictAll qs = false ∧ ((PyData.shownAll qs).map fun t => t.length + 2).sum ≤ wtL ds ∧ PyData.depthAll qs ≤ dpL ds
  | [], _ => ⟨[], rfl, rfl, rfl, by decide, by decide⟩
  | d :: r, h => by
    have h : (okD d && okL r) = true := h
    obtain ⟨ha, hb⟩ := Bool.and_eq_true_iff.mp h
    obtain ⟨q, p1, p2, p3, p4, p5⟩ := pd_ok ha
    obtain ⟨qs, h1, h2, h3, h4, h5⟩ := pdL_ok hb
    refine ⟨q :: qs, by simp only [pdL, p1, h1]; rfl, by simp [PyData.showableAll, p2, h2], by simp [PyData.hasDictAll, p3, h3], ?_, ?_⟩
    · show (q.shown.length + 2) + ((PyData.shownAll qs).map fun t => t.length + 2).sum ≤ wtD d + 2 + wtL r
      omega
    · show max q.depth (PyData.depthAll qs) ≤ max (dpD d) (dpL r)
      omega
end
/-- data of bounded size has a text -/
theorem repr_ok {M : Me} {d : D} (h : okD d = true) (hw : wtD d ≤ 16777216) (hd : dpD d ≤ 64) : ∃ s, reprD M d = some s := by
  obtain ⟨q, h1, h2, h3, h4, h5⟩ := pd_ok h
  have sz : sizeLine = 16777216 := by decide
  have hP : ∃ s, reprP q = some s := ⟨_, if_pos ⟨h2, h3, by omega, by omega⟩⟩
  cases d with
  | non => exact ⟨_, rfl⟩
  | bl b => exact ⟨_, rfl⟩
  | int i => exact ⟨_, if_pos (of_decide_eq_true h)⟩
  | str x =>
    cases h1
    exact ⟨_, if_pos (by
      have : (reprText x).length ≤ wtD (.str x) := h4
      omega)⟩
  | tup ds =>
    obtain ⟨s, hs⟩ := hP
    refine ⟨s, ?_⟩
    show ((pdL ds).bind fun q => reprP (.tuple q)) = some s
    obtain ⟨qs, e1, e2⟩ := Option.map_eq_some_iff.mp (show (pdL ds).map PyData.tuple = some q from h1)
    rw [e1, Option.bind_some, e2, hs]
  | lst ds =>
    obtain ⟨s, hs⟩ := hP
    refine ⟨s, ?_⟩
    show ((pdL ds).bind fun q => reprP (.list q)) = some s
    obtain ⟨qs, e1, e2⟩ := Option.map_eq_some_iff.mp (show (pdL ds).map PyData.list = some q from h1)
    rw [e1, Option.bind_some, e2, hs]
  | _ => cases h
theorem okS_of (s : String) : okS (Str.ofString s) = true := by
  unfold okS
  rw [Str.ofString_eq_toList]
  refine List.all_eq_true.mpr fun c hc => ?_
  simp only [List.toList_toArray, List.mem_map] at hc
  obtain ⟨a, _, rfl⟩ := hc
  have z : a.val.toNat < 4294967296 := a.val.toNat_lt
  exact decide_eq_true z
theorem okS_app {x y : Str} : okS (x ++ y) = (okS x && okS y) := by
  unfold okS
  show (x.cps ++ y.cps).toList.all _ = _
  rw [Array.toList_append, List.all_append]
end Iv
/-! a law's outer walk: the first cell, and some more -/
namespace Iv
open PySem (Str Operator CmpOp)
theorem cut_mem {xs : List D} {lo hi : Option Int} {d : D} (h : d ∈ cutD xs lo hi) : d ∈ xs := List.mem_of_mem_drop (List.mem_of_mem_take h)
theorem cut_len {xs : List D} {lo hi : Option Int} : (cutD xs lo hi).length ≤ xs.length := by
  unfold cutD
  rw [List.length_take, List.length_drop]
  omega
/-- for cell in [cell_at(script, 0)] + script[1:hi]: body -/
theorem cells_loop {G : Pg} {k i : Nat} {hi : Int} {body : List Sm} {ns : List Int} {g : Ga} {P : Ga → Prop} (hC : G.fn "_law_cell_at" = some fCellAt) (hl : ns.length ≤ 63) (h0 : g[0]? = some (some (.scr ns))) (hP : P g) (hi0 : ∀ g, P g → i < g.length)
    (hb : ∀ (n : Int) (g : Ga) (M : Me), P g → ∃ g' M', P g' ∧ execs G (run G (k + 1)) 0 body (g.set i (some (.int n))) M = .nx g' M') :
    ∃ g' M', P g' ∧ exec G (run G (k + 1)) 0 (.for (.nm i) (.ex (.bin .Add (.lst [(.cf "_law_cell_at" [(.v 0), (.int 0)] [] [])]) (.sl (.v 0) (some (.int 1)) (some (.int hi))))) body) g [] = .nx g' M' := by
  have F := forL_all (step := fun d g M => (sto G (run G (k + 1)) 0 (.nm i) g d M).seq fun g M => execs G (run G (k + 1)) 0 body g M) (ok := wkO ([.int (ns.headD 0)] ++ cutD (ns.map .int) (some 1) (some hi), [])) (ds := [.int (ns.headD 0)] ++ cutD (ns.map .int) (some 1) (some hi))
    (I := fun g _ => P g) (fun d hd g M hg => by
      obtain ⟨n, rfl⟩ : ∃ n, d = .int n := by
        rcases List.mem_append.mp hd with h | h
        · exact ⟨_, List.mem_singleton.mp h⟩
        · obtain ⟨n, _, rfl⟩ := List.mem_map.mp (cut_mem h)
          exact ⟨n, rfl⟩
      obtain ⟨g', M', h1, h2⟩ := hb n g M hg
      refine ⟨g', M', h1, .inl ?_⟩
      rw [← h2]
      simp [Iv.sto, hi0 g hg, seq_nx]) (fun _ _ _ => rfl) (g := g) (M := []) hP
  obtain ⟨g', M', h1, e⟩ := F
  have hx : ([D.int (ns.headD 0)] : List D).length + (cutD (ns.map .int) (some 1) (some hi)).length ≤ 100000 := by
    have z := cut_len (xs := ns.map .int) (lo := some 1) (hi := some hi)
    rw [List.length_map] at z
    simp only [List.length_cons, List.length_nil]
    omega
  refine ⟨g', M', h1, ?_⟩
  rw [exec_for]
  have ei : evi G (run G (k + 1)) 0 (.ex (.bin .Add (.lst [(.cf "_law_cell_at" [(.v 0), (.int 0)] [] [])]) (.sl (.v 0) (some (.int 1)) (some (.int hi))))) g [] = .ok ([.int (ns.headD 0)] ++ cutD (ns.map .int) (some 1) (some hi), []) [] := by
    have b1 : binOp G (run G (k + 1) 0) .Add (.lst [.int (ns.headD 0)]) (.lst (cutD (ns.map .int) (some 1) (some hi))) [] = .ok (.lst ([.int (ns.headD 0)] ++ cutD (ns.map .int) (some 1) (some hi))) [] := bin_lst hx
    have c1 : run G (k + 1) 0 "_law_cell_at" [.scr ns, .int 0] [] = .ok (.int (ns.headD 0)) [] := r_cellAt0 hC
    simp only [List.headD_eq_head?_getD] at b1 c1
    simp [Iv.evi, Iv.ev, Iv.evs, Iv.evo, h0, ck_cellAt hC, c1, maxL, lv_scr, b1, wkOf]
  rw [ei]
  exact e
end Iv
namespace Lw
open Iv
open PySem (Str)
theorem fn_is_integer : G.fn "is_integer" = some f_is_integer := by kernel_rfl
@[simp] theorem ck_is_integer_0 {cf : Cf} {a0 : D} {M : Me} : callK G cf "is_integer" [a0] [] [] M = cf "is_integer" [a0] M := by kernel_rfl
theorem fn_is_key : G.fn "is_key" = some f_is_key := by kernel_rfl
@[simp] theorem ck_is_key_0 {cf : Cf} {a0 : D} {M : Me} : callK G cf "is_key" [a0] [] [] M = cf "is_key" [a0] M := by kernel_rfl
theorem fn_is_small : G.fn "is_small" = some f_is_small := by kernel_rfl
@[simp] theorem ck_is_small_0 {cf : Cf} {a0 : D} {M : Me} : callK G cf "is_small" [a0] [] [] M = cf "is_small" [a0] M := by kernel_rfl
theorem fn_Formula___init__ : G.fn "Formula.__init__" = some f_Formula___init__ := by kernel_rfl
@[simp] theorem ck_Formula___init___0 {cf : Cf} {a0 a1 a2 : D} {M : Me} : callK G cf "Formula.__init__" [a0, a1, a2] [] [] M = cf "Formula.__init__" [a0, a1, a2] M := by kernel_rfl
theorem fn_Formula_times : G.fn "Formula.times" = some f_Formula_times := by kernel_rfl
@[simp] theorem ck_Formula_times_0 {cf : Cf} {a0 : D} {M : Me} : callK G cf "Formula.times" [a0] [] [] M = cf "Formula.times" [a0] M := by kernel_rfl
theorem fn_Formula_plus : G.fn "Formula.plus" = some f_Formula_plus := by kernel_rfl
@[simp] theorem ck_Formula_plus_0 {cf : Cf} {a0 : D} {M : Me} : callK G cf "Formula.plus" [a0] [] [] M = cf "Formula.plus" [a0] M := by kernel_rfl
theorem fn_Formula___call__ : G.fn "Formula.__call__" = some f_Formula___call__ := by kernel_rfl
@[simp] theorem ck_Formula___call___0 {cf : Cf} {a0 a1 : D} {M : Me} : callK G cf "Formula.__call__" [a0, a1] [] [] M = cf "Formula.__call__" [a0, a1] M := by kernel_rfl
theorem fn_Formula___add__ : G.fn "Formula.__add__" = some f_Formula___add__ := by kernel_rfl
@[simp] theorem ck_Formula___add___0 {cf : Cf} {a0 a1 : D} {M : Me} : callK G cf "Formula.__add__" [a0, a1] [] [] M = cf "Formula.__add__" [a0, a1] M := by kernel_rfl
theorem fn_Formula___radd__ : G.fn "Formula.__radd__" = some f_Formula___radd__ := by kernel_rfl
@[simp] theorem ck_Formula___radd___0 {cf : Cf} {a0 a1 : D} {M : Me} : callK G cf "Formula.__radd__" [a0, a1] [] [] M = cf "Formula.__radd__" [a0, a1] M := by kernel_rfl
theorem fn_Formula___sub__ : G.fn "Formula.__sub__" = some f_Formula___sub__ := by kernel_rfl
@[simp] theorem ck_Formula___sub___0 {cf : Cf} {a0 a1 : D} {M : Me} : callK G cf "Formula.__sub__" [a0, a1] [] [] M = cf "Formula.__sub__" [a0, a1] M := by kernel_rfl
theorem fn_Formula___rsub__ : G.fn "Formula.__rsub__" = some f_Formula___rsub__ := by kernel_rfl
@[simp] theorem ck_Formula___rsub___0 {cf : Cf} {a0 a1 : D} {M : Me} : callK G cf "Formula.__rsub__" [a0, a1] [] [] M = cf "Formula.__rsub__" [a0, a1] M := by kernel_rfl
theorem fn_Formula___mul__ : G.fn "Formula.__mul__" = some f_Formula___mul__ := by kernel_rfl
@[simp] theorem ck_Formula___mul___0 {cf : Cf} {a0 a1 : D} {M : Me} : callK G cf "Formula.__mul__" [a0, a1] [] [] M = cf "Formula.__mul__" [a0, a1] M := by kernel_rfl
theorem fn_Formula___rmul__ : G.fn "Formula.__rmul__" = some f_Formula___rmul__ := by kernel_rfl
@[simp] theorem ck_Formula___rmul___0 {cf : Cf} {a0 a1 : D} {M : Me} : callK G cf "Formula.__rmul__" [a0, a1] [] [] M = cf "Formula.__rmul__" [a0, a1] M := by kernel_rfl
theorem fn_Formula___neg__ : G.fn "Formula.__neg__" = some f_Formula___neg__ := by kernel_rfl
@[simp] theorem ck_Formula___neg___0 {cf : Cf} {a0 : D} {M : Me} : callK G cf "Formula.__neg__" [a0] [] [] M = cf "Formula.__neg__" [a0] M := by kernel_rfl
theorem fn_Formula___pow__ : G.fn "Formula.__pow__" = some f_Formula___pow__ := by kernel_rfl
@[simp] theorem ck_Formula___pow___0 {cf : Cf} {a0 a1 : D} {M : Me} : callK G cf "Formula.__pow__" [a0, a1] [] [] M = cf "Formula.__pow__" [a0, a1] M := by kernel_rfl
theorem fn_Formula___eq__ : G.fn "Formula.__eq__" = some f_Formula___eq__ := by kernel_rfl
@[simp] theorem ck_Formula___eq___0 {cf : Cf} {a0 a1 : D} {M : Me} : callK G cf "Formula.__eq__" [a0, a1] [] [] M = cf "Formula.__eq__" [a0, a1] M := by kernel_rfl
theorem fn_Formula___repr__ : G.fn "Formula.__repr__" = some f_Formula___repr__ := by kernel_rfl
@[simp] theorem ck_Formula___repr___0 {cf : Cf} {a0 : D} {M : Me} : callK G cf "Formula.__repr__" [a0] [] [] M = cf "Formula.__repr__" [a0] M := by kernel_rfl
theorem fn_numbers_of : G.fn "numbers_of" = some f_numbers_of := by kernel_rfl
@[simp] theorem ck_numbers_of_0 {cf : Cf} {a0 : D} {M : Me} : callK G cf "numbers_of" [a0] [] [] M = cf "numbers_of" [a0] M := by kernel_rfl
theorem fn__law_cell_at : G.fn "_law_cell_at" = some f__law_cell_at := by kernel_rfl
@[simp] theorem ck__law_cell_at_0 {cf : Cf} {a0 a1 : D} {M : Me} : callK G cf "_law_cell_at" [a0, a1] [] [] M = cf "_law_cell_at" [a0, a1] M := by kernel_rfl
theorem fn__law_pen : G.fn "_law_pen" = some f__law_pen := by kernel_rfl
@[simp] theorem ck__law_pen_0 {cf : Cf} {a0 : D} {M : Me} : callK G cf "_law_pen" [a0] [] [] M = cf "_law_pen" [a0] M := by kernel_rfl
theorem fn__law_draw : G.fn "_law_draw" = some f__law_draw := by kernel_rfl
@[simp] theorem ck__law_draw_0 {cf : Cf} {a0 a1 : D} {M : Me} : callK G cf "_law_draw" [a0, a1] [] [] M = cf "_law_draw" [a0, a1] M := by kernel_rfl
theorem fn__law_pick : G.fn "_law_pick" = some f__law_pick := by kernel_rfl
@[simp] theorem ck__law_pick_0 {cf : Cf} {a0 a1 : D} {M : Me} : callK G cf "_law_pick" [a0, a1] [] [] M = cf "_law_pick" [a0, a1] M := by kernel_rfl
theorem fn__law_things : G.fn "_law_things" = some f__law_things := by kernel_rfl
@[simp] theorem ck__law_things_0 {cf : Cf} {M : Me} : callK G cf "_law_things" [] [] [] M = cf "_law_things" [] M := by kernel_rfl
theorem fn__law_same : G.fn "_law_same" = some f__law_same := by kernel_rfl
@[simp] theorem ck__law_same_0 {cf : Cf} {a0 a1 : D} {M : Me} : callK G cf "_law_same" [a0, a1] [] [] M = cf "_law_same" [a0, a1] M := by kernel_rfl
theorem fn__law_numbers : G.fn "_law_numbers" = some f__law_numbers := by kernel_rfl
@[simp] theorem ck__law_numbers_0 {cf : Cf} {a0 : D} {M : Me} : callK G cf "_law_numbers" [a0] [] [] M = cf "_law_numbers" [a0] M := by kernel_rfl
theorem fn__law_operators : G.fn "_law_operators" = some f__law_operators := by kernel_rfl
@[simp] theorem ck__law_operators_0 {cf : Cf} {a0 a1 : D} {M : Me} : callK G cf "_law_operators" [a0, a1] [] [] M = cf "_law_operators" [a0, a1] M := by kernel_rfl
theorem fn_law : G.fn "law" = some f_law := by kernel_rfl
@[simp] theorem ck_law_0 {cf : Cf} {a0 : D} {M : Me} : callK G cf "law" [a0] [] [] M = cf "law" [a0] M := by kernel_rfl
@[simp] theorem gf_Formula___init__ : G.find .Formula "__init__" = some (.me "Formula.__init__") := by kernel_rfl
@[simp] theorem gf_Formula_times : G.find .Formula "times" = some (.pr "Formula.times") := by kernel_rfl
@[simp] theorem gf_Formula_plus : G.find .Formula "plus" = some (.pr "Formula.plus") := by kernel_rfl
@[simp] theorem gf_Formula___call__ : G.find .Formula "__call__" = some (.me "Formula.__call__") := by kernel_rfl
@[simp] theorem gf_Formula___add__ : G.find .Formula "__add__" = some (.me "Formula.__add__") := by kernel_rfl
@[simp] theorem gf_Formula___radd__ : G.find .Formula "__radd__" = some (.me "Formula.__radd__") := by kernel_rfl
@[simp] theorem gf_Formula___sub__ : G.find .Formula "__sub__" = some (.me "Formula.__sub__") := by kernel_rfl
@[simp] theorem gf_Formula___rsub__ : G.find .Formula "__rsub__" = some (.me "Formula.__rsub__") := by kernel_rfl
@[simp] theorem gf_Formula___mul__ : G.find .Formula "__mul__" = some (.me "Formula.__mul__") := by kernel_rfl
@[simp] theorem gf_Formula___rmul__ : G.find .Formula "__rmul__" = some (.me "Formula.__rmul__") := by kernel_rfl
@[simp] theorem gf_Formula___neg__ : G.find .Formula "__neg__" = some (.me "Formula.__neg__") := by kernel_rfl
@[simp] theorem gf_Formula___pow__ : G.find .Formula "__pow__" = some (.me "Formula.__pow__") := by kernel_rfl
@[simp] theorem gf_Formula___eq__ : G.find .Formula "__eq__" = some (.me "Formula.__eq__") := by kernel_rfl
@[simp] theorem gf_Formula___repr__ : G.find .Formula "__repr__" = some (.me "Formula.__repr__") := by kernel_rfl
@[simp] theorem gn_Formula_pair : G.find .Formula "pair" = none := by kernel_rfl
@[simp] theorem gl_Formula_pair : G.fld .Formula "pair" = true := by kernel_rfl
@[simp] theorem gh_RowError : G.has .RowError = true := by kernel_rfl
@[simp] theorem gh_NotRow : G.has .NotRow = true := by kernel_rfl
@[simp] theorem gh_NotTable : G.has .NotTable = true := by kernel_rfl
@[simp] theorem gh_NotKey : G.has .NotKey = true := by kernel_rfl
@[simp] theorem gh_NotKeys : G.has .NotKeys = true := by kernel_rfl
@[simp] theorem gh_NotRows : G.has .NotRows = true := by kernel_rfl
@[simp] theorem gh_NotOrder : G.has .NotOrder = true := by kernel_rfl
@[simp] theorem gh_NotRule : G.has .NotRule = true := by kernel_rfl
@[simp] theorem gh_NotInteger : G.has .NotInteger = true := by kernel_rfl
@[simp] theorem gh_NotScan : G.has .NotScan = true := by kernel_rfl
@[simp] theorem gh_NotBound : G.has .NotBound = true := by kernel_rfl
@[simp] theorem gh_NotFormula : G.has .NotFormula = true := by kernel_rfl
@[simp] theorem gh_NotDeed : G.has .NotDeed = true := by kernel_rfl
@[simp] theorem gh_NotText : G.has .NotText = true := by kernel_rfl
@[simp] theorem gh_NotBytes : G.has .NotBytes = true := by kernel_rfl
@[simp] theorem gh_NotLine : G.has .NotLine = true := by kernel_rfl
@[simp] theorem gh_Missing : G.has .Missing = true := by kernel_rfl
@[simp] theorem gh_Impossible : G.has .Impossible = true := by kernel_rfl
@[simp] theorem gh_TooLarge : G.has .TooLarge = true := by kernel_rfl
@[simp] theorem gh_NothingDone : G.has .NothingDone = true := by kernel_rfl
@[simp] theorem gh_Twice : G.has .Twice = true := by kernel_rfl
@[simp] theorem gh_Held : G.has .Held = true := by kernel_rfl
@[simp] theorem gh_TooMany : G.has .TooMany = true := by kernel_rfl
@[simp] theorem gh_Competing : G.has .Competing = true := by kernel_rfl
@[simp] theorem gh_Ringed : G.has .Ringed = true := by kernel_rfl
@[simp] theorem gh_Collision : G.has .Collision = true := by kernel_rfl
@[simp] theorem gh_Formula : G.has .Formula = true := by kernel_rfl
@[simp] theorem gc_KEY_BOUND : G.con "KEY_BOUND" = some (.int (1000000000000000000000000000000)) := by kernel_rfl
@[simp] theorem gc_SMALL_BOUND : G.con "SMALL_BOUND" = some (.int (1000000000000000)) := by kernel_rfl
@[simp] theorem gc_MOST_POWER : G.con "MOST_POWER" = some (.int (60)) := by kernel_rfl
end Lw
/-! k70: what the defs answer -/
namespace Lw
open Iv
open PySem (Str Operator CmpOp)
def fo (t p : Int) : D := .obj .Formula [("pair", .tup [.int t, .int p])]
section
variable {k b : Nat} {M : Me} {t p x i c d : Int}
theorem at_pair {cf : Cf} : attr G cf (fo t p) "pair" M = .ok (.tup [.int t, .int p]) M := by
  unfold fo
  rw [attr_fld (by simp) (by simp)]
  rfl
theorem clo_fo {n : Nat} : (fo t p).clo n = true := by
  unfold fo
  rw [clo_obj]
  rfl
theorem r_times : run G (k + 1) b "Formula.times" [fo t p] M = .ok (.int t) M := by
  rw [run1 fn_Formula_times, callF_free (by rfl) (by rfl)]
  (simp [↓bind_L, ↓out_L, ↓seq_L, bindL_ok, bindL_ex, bindL_no, outL_ok, outL_ex, outL_no, seqL_nx, seqL_rt, seqL_ex, seqL_bk, seqL_ct, seqL_no, Iv.execs, Iv.exec, Iv.ev, Iv.evs, Iv.evi, Iv.evN, Iv.evo, Iv.evc, Iv.sto, Iv.stos, out_ok, out_ex, seq_nx, seq_rt, seq_ex, seq_bk, seq_ct, end_nx, end_rt, end_ex, trunc_ok, trunc_ex, take_len, take_app, take_set,  clo_int, clo_bl, clo_str, clo_non, clo_scr, clo_cl, clo_tup, clo_lst, clo_obj, clo_cel, clL_nil, clL_cons, clF_nil, clF_cons, ov_int, ov_bl, ov_str, ov_non, ov_tup, ov_lst, ov_scr, ov_obj, dv_int, dv_str, dv_tup, dv_lst, dv_scr, dv_obj, lv_lst, lv_scr, bin_int, bi_add, bi_sub, bi_mulL, bi_mulR, bi_mod, bi_divS, bi_pow, cbOk, cbOp, cmp_lt, cmp_le, cmp_gt, cmp_ge, cmp_eq, cmp_ne, is_non, isn_non, eq_str, ne_str, tru_bl, tru_int, tru_non, tru_lst, tru_tup, isNon, ov_cel, dv_cel, lv_cel, subs_cel, setSub_cel, subs_tup, subs_lst, subs_scr,  L2.atI, L2.ixN, callP, noEx_ok, mayW_int, f_Formula_times, at_pair] <;> try simp only [bindL_un, outL_un, seqL_un])
theorem r_plus : run G (k + 1) b "Formula.plus" [fo t p] M = .ok (.int p) M := by
  rw [run1 fn_Formula_plus, callF_free (by rfl) (by rfl)]
  (simp [↓bind_L, ↓out_L, ↓seq_L, bindL_ok, bindL_ex, bindL_no, outL_ok, outL_ex, outL_no, seqL_nx, seqL_rt, seqL_ex, seqL_bk, seqL_ct, seqL_no, Iv.execs, Iv.exec, Iv.ev, Iv.evs, Iv.evi, Iv.evN, Iv.evo, Iv.evc, Iv.sto, Iv.stos, out_ok, out_ex, seq_nx, seq_rt, seq_ex, seq_bk, seq_ct, end_nx, end_rt, end_ex, trunc_ok, trunc_ex, take_len, take_app, take_set,  clo_int, clo_bl, clo_str, clo_non, clo_scr, clo_cl, clo_tup, clo_lst, clo_obj, clo_cel, clL_nil, clL_cons, clF_nil, clF_cons, ov_int, ov_bl, ov_str, ov_non, ov_tup, ov_lst, ov_scr, ov_obj, dv_int, dv_str, dv_tup, dv_lst, dv_scr, dv_obj, lv_lst, lv_scr, bin_int, bi_add, bi_sub, bi_mulL, bi_mulR, bi_mod, bi_divS, bi_pow, cbOk, cbOp, cmp_lt, cmp_le, cmp_gt, cmp_ge, cmp_eq, cmp_ne, is_non, isn_non, eq_str, ne_str, tru_bl, tru_int, tru_non, tru_lst, tru_tup, isNon, ov_cel, dv_cel, lv_cel, subs_cel, setSub_cel, subs_tup, subs_lst, subs_scr,  L2.atI, L2.ixN, callP, noEx_ok, mayW_int, f_Formula_plus, at_pair] <;> try simp only [bindL_un, outL_un, seqL_un])
theorem at_times {b' : Nat} : attr G (run G (k + 1) b') (fo t p) "times" M = .ok (.int t) M := by
  unfold fo
  rw [attr_prp (by simp; rfl), ck_Formula_times_0]
  have z := r_times (k := k) (b := b') (t := t) (p := p) (M := M)
  unfold fo at z
  rw [z]
  rfl
theorem at_plus {b' : Nat} : attr G (run G (k + 1) b') (fo t p) "plus" M = .ok (.int p) M := by
  unfold fo
  rw [attr_prp (by simp; rfl), ck_Formula_plus_0]
  have z := r_plus (k := k) (b := b') (t := t) (p := p) (M := M)
  unfold fo at z
  rw [z]
  rfl
def sm (t : Int) : Prop := -1000000000000000 < t ∧ t < 1000000000000000
def smB (t : Int) : Bool := decide (-1000000000000000 < t) && decide (t < 1000000000000000)
theorem smB_of (h : sm t) : smB t = true := by
  unfold smB
  rw [decide_eq_true h.1, decide_eq_true h.2]
  rfl
theorem of_smB (h : smB t = true) : sm t := by
  unfold smB at h
  unfold sm
  simpa using h
theorem sm.lt (h : sm t) : t.natAbs < 18446744073709551616 := by
  obtain ⟨h1, h2⟩ := h
  omega
theorem isi_int_int : isOne G M (.int i) (.ty "int") = some true := by
  unfold isOne tyT clT
  simp [isB, tyNs]
theorem isi_int_bool : isOne G M (.int i) (.ty "bool") = some false := by
  unfold isOne tyT clT
  simp [isB, tyNs]
theorem boot_int : PySem.bootBuiltins "int" = some (.type "int") := by decide +kernel
theorem boot_bool : PySem.bootBuiltins "bool" = some (.type "bool") := by decide +kernel
theorem r_is_integer : run G (k + 1) b "is_integer" [.int i] M = .ok (.bl true) M := by
  rw [run1 fn_is_integer, callF_free (by rfl) (by rfl)]
  (simp [↓bind_L, ↓out_L, ↓seq_L, bindL_ok, bindL_ex, bindL_no, outL_ok, outL_ex, outL_no, seqL_nx, seqL_rt, seqL_ex, seqL_bk, seqL_ct, seqL_no, Iv.execs, Iv.exec, Iv.ev, Iv.evs, Iv.evi, Iv.evN, Iv.evo, Iv.evc, Iv.sto, Iv.stos, out_ok, out_ex, seq_nx, seq_rt, seq_ex, seq_bk, seq_ct, end_nx, end_rt, end_ex, trunc_ok, trunc_ex, take_len, take_app, take_set,  clo_int, clo_bl, clo_str, clo_non, clo_scr, clo_cl, clo_tup, clo_lst, clo_obj, clo_cel, clL_nil, clL_cons, clF_nil, clF_cons, ov_int, ov_bl, ov_str, ov_non, ov_tup, ov_lst, ov_scr, ov_obj, dv_int, dv_str, dv_tup, dv_lst, dv_scr, dv_obj, lv_lst, lv_scr, bin_int, bi_add, bi_sub, bi_mulL, bi_mulR, bi_mod, bi_divS, bi_pow, cbOk, cbOp, cmp_lt, cmp_le, cmp_gt, cmp_ge, cmp_eq, cmp_ne, is_non, isn_non, eq_str, ne_str, tru_bl, tru_int, tru_non, tru_lst, tru_tup, isNon, ov_cel, dv_cel, lv_cel, subs_cel, setSub_cel, subs_tup, subs_lst, subs_scr,  L2.atI, L2.ixN, callP, noEx_ok, mayW_int, f_is_integer, isi_int_int, isi_int_bool, boot_int, boot_bool] <;> try simp only [bindL_un, outL_un, seqL_un])
theorem r_is_small : run G (k + 2) b "is_small" [.int i] M = .ok (.bl (smB i)) M := by
  rw [run1 fn_is_small, callF_free (by rfl) (by rfl)]
  by_cases h1 : -1000000000000000 < i <;> by_cases h2 : i < 1000000000000000 <;> (simp [↓bind_L, ↓out_L, ↓seq_L, bindL_ok, bindL_ex, bindL_no, outL_ok, outL_ex, outL_no, seqL_nx, seqL_rt, seqL_ex, seqL_bk, seqL_ct, seqL_no, Iv.execs, Iv.exec, Iv.ev, Iv.evs, Iv.evi, Iv.evN, Iv.evo, Iv.evc, Iv.sto, Iv.stos, out_ok, out_ex, seq_nx, seq_rt, seq_ex, seq_bk, seq_ct, end_nx, end_rt, end_ex, trunc_ok, trunc_ex, take_len, take_app, take_set,  clo_int, clo_bl, clo_str, clo_non, clo_scr, clo_cl, clo_tup, clo_lst, clo_obj, clo_cel, clL_nil, clL_cons, clF_nil, clF_cons, ov_int, ov_bl, ov_str, ov_non, ov_tup, ov_lst, ov_scr, ov_obj, dv_int, dv_str, dv_tup, dv_lst, dv_scr, dv_obj, lv_lst, lv_scr, bin_int, bi_add, bi_sub, bi_mulL, bi_mulR, bi_mod, bi_divS, bi_pow, cbOk, cbOp, cmp_lt, cmp_le, cmp_gt, cmp_ge, cmp_eq, cmp_ne, is_non, isn_non, eq_str, ne_str, tru_bl, tru_int, tru_non, tru_lst, tru_tup, isNon, ov_cel, dv_cel, lv_cel, subs_cel, setSub_cel, subs_tup, subs_lst, subs_scr,  L2.atI, L2.ixN, callP, noEx_ok, mayW_int, f_is_small, r_is_integer, smB, h1, h2] <;> try simp only [bindL_un, outL_un, seqL_un])
theorem r_is_key (h : -1000000000000000000000000000000 < i ∧ i < 1000000000000000000000000000000) : run G (k + 2) b "is_key" [.int i] M = .ok (.bl true) M := by
  obtain ⟨h1, h2⟩ := h
  rw [run1 fn_is_key, callF_free (by rfl) (by rfl)]
  (simp [↓bind_L, ↓out_L, ↓seq_L, bindL_ok, bindL_ex, bindL_no, outL_ok, outL_ex, outL_no, seqL_nx, seqL_rt, seqL_ex, seqL_bk, seqL_ct, seqL_no, Iv.execs, Iv.exec, Iv.ev, Iv.evs, Iv.evi, Iv.evN, Iv.evo, Iv.evc, Iv.sto, Iv.stos, out_ok, out_ex, seq_nx, seq_rt, seq_ex, seq_bk, seq_ct, end_nx, end_rt, end_ex, trunc_ok, trunc_ex, take_len, take_app, take_set,  clo_int, clo_bl, clo_str, clo_non, clo_scr, clo_cl, clo_tup, clo_lst, clo_obj, clo_cel, clL_nil, clL_cons, clF_nil, clF_cons, ov_int, ov_bl, ov_str, ov_non, ov_tup, ov_lst, ov_scr, ov_obj, dv_int, dv_str, dv_tup, dv_lst, dv_scr, dv_obj, lv_lst, lv_scr, bin_int, bi_add, bi_sub, bi_mulL, bi_mulR, bi_mod, bi_divS, bi_pow, cbOk, cbOp, cmp_lt, cmp_le, cmp_gt, cmp_ge, cmp_eq, cmp_ne, is_non, isn_non, eq_str, ne_str, tru_bl, tru_int, tru_non, tru_lst, tru_tup, isNon, ov_cel, dv_cel, lv_cel, subs_cel, setSub_cel, subs_tup, subs_lst, subs_scr,  L2.atI, L2.ixN, callP, noEx_ok, mayW_int, f_is_key, r_is_integer, h1, h2] <;> try simp only [bindL_un, outL_un, seqL_un])
theorem r_init : run G (k + 3) b "Formula.__init__" [.cel M.length, .int t, .int p] (M ++ [.obj .Formula []]) = if (smB t && smB p) = true then .ok .non (M ++ [.obj .Formula [("pair", .tup [.int t, .int p])]]) else .ex .TooLarge [] (M ++ [.obj .Formula []]) := by
  rw [run1 fn_Formula___init__, callF_keep (by rfl) (by rfl)]
  cases h1 : smB t <;> cases h2 : smB p <;> (simp [↓bind_L, ↓out_L, ↓seq_L, bindL_ok, bindL_ex, bindL_no, outL_ok, outL_ex, outL_no, seqL_nx, seqL_rt, seqL_ex, seqL_bk, seqL_ct, seqL_no, Iv.execs, Iv.exec, Iv.ev, Iv.evs, Iv.evi, Iv.evN, Iv.evo, Iv.evc, Iv.sto, Iv.stos, out_ok, out_ex, seq_nx, seq_rt, seq_ex, seq_bk, seq_ct, end_nx, end_rt, end_ex, trunc_ok, trunc_ex, take_len, take_app, take_set,  clo_int, clo_bl, clo_str, clo_non, clo_scr, clo_cl, clo_tup, clo_lst, clo_obj, clo_cel, clL_nil, clL_cons, clF_nil, clF_cons, ov_int, ov_bl, ov_str, ov_non, ov_tup, ov_lst, ov_scr, ov_obj, dv_int, dv_str, dv_tup, dv_lst, dv_scr, dv_obj, lv_lst, lv_scr, bin_int, bi_add, bi_sub, bi_mulL, bi_mulR, bi_mod, bi_divS, bi_pow, cbOk, cbOp, cmp_lt, cmp_le, cmp_gt, cmp_ge, cmp_eq, cmp_ne, is_non, isn_non, eq_str, ne_str, tru_bl, tru_int, tru_non, tru_lst, tru_tup, isNon, ov_cel, dv_cel, lv_cel, subs_cel, setSub_cel, subs_tup, subs_lst, subs_scr,  L2.atI, L2.ixN, callP, noEx_ok, mayW_int, f_Formula___init__, r_is_integer, r_is_small, h1, h2, maxL, setAtt, mayW, fput, xmk, Cn.plainX] <;> try simp only [bindL_un, outL_un, seqL_un])
theorem frz_fo : frzD 9 M.length (M ++ [.obj .Formula [("pair", .tup [.int t, .int p])]]) (.cel M.length) = some (fo t p) := by
  unfold frzD
  rw [if_neg (by simp [clo_cel])]
  simp [map2O, fo]
  unfold frzD
  simp [clo_tup, clL_cons, clL_nil, clo_int]
/-- a formula, or TooLarge -/
def mkr (t p : Int) (M : Me) : Iv.R D := if (smB t && smB p) = true then .ok (fo t p) M else .ex .TooLarge [] M
theorem mkr_ok (h : (smB t && smB p) = true) : mkr t p M = .ok (fo t p) M := if_pos h
theorem mkr_ex (h : (smB t && smB p) = false) : mkr t p M = .ex .TooLarge [] M := if_neg (by simp [h])
theorem r_mk : trunc M.length (mkR G (run G (k + 3) M.length) .Formula [.int t, .int p] M) = mkr t p M := by
  unfold mkR
  simp [Cn.isX, Cn.plainX, Cn.fldX, callP, r_init]
  cases h : (smB t && smB p) with
  | true =>
    simp only [Bool.and_eq_true] at h
    rw [if_pos h, mkr_ok (by simp [h])]
    show R.of _ (frzD 9 M.length _ (.cel M.length)) = _
    rw [frz_fo]
    simp
  | false =>
    have h' : ¬ (smB t = true ∧ smB p = true) := by simpa using h
    rw [if_neg h', mkr_ex h]
    show trunc M.length (.ex .TooLarge [] (M ++ [.obj .Formula []])) = _
    rw [trunc_ex (by rfl)]
    simp
/-- a def's last row: return Formula(..) -/
theorem ret_mk {g : Ga} {K : Ga → Me → Out} : trunc M.length (endOf ((Iv.R.out g (mkr t p M) fun d M1 => Out.rt d M1).seq K)) = mkr t p M := by
  cases h : (smB t && smB p) with
  | true =>
    rw [mkr_ok h, out_ok, seq_rt, end_rt, trunc_ok clo_fo, take_len]
  | false =>
    rw [mkr_ex h, out_ex, seq_ex, end_ex, trunc_ex (by rfl), take_len]
/-- what is said of it -/
def sdr (t p : Int) : D := if (smB t && smB p) = true then .tup [.str "returned", fo t p] else .tup [.str "large"]
theorem said_mk : saidR G (mkr t p M) = .ok (sdr t p) M := by
  unfold sdr
  cases h : (smB t && smB p) with
  | true => rw [mkr_ok h]; rfl
  | false => rw [mkr_ex h]; rfl
theorem clo_sdr {n : Nat} : (sdr t p).clo n = true := by
  unfold sdr
  split <;> simp [clo_tup, clL_cons, clL_nil, clo_str, clo_fo]
end
end Lw
namespace Lw
open Iv
open PySem (Str Operator CmpOp)
section
variable {k b : Nat} {M : Me} {t p x i c d n : Int} {o : D}
theorem forL_iter {step : D → Ga → Me → Out} {ok : Me → Bool} {gs : Nat → Ga} (hok : ok M = true) : ∀ {ds : List D} {i : Nat}, (∀ (j : Nat) (d : D), ds[j]? = some d → step d (gs (i + j)) M = .nx (gs (i + j + 1)) M) → forL step ok ds (gs i) M = .nx (gs (i + ds.length)) M
  | [], i, _ => by
    unfold forL
    rw [if_pos hok]
    rfl
  | d :: ds, i, h => by
    unfold forL
    rw [if_pos hok]
    have h0 := h 0 d rfl
    rw [show i + 0 = i by omega] at h0
    rw [h0]
    dsimp only
    rw [forL_iter hok (ds := ds) (i := i + 1) fun j e he => by
      have z := h (j + 1) e (by rw [List.getElem?_cons_succ]; exact he)
      rw [show i + 1 + j = i + (j + 1) by omega]
      exact z]
    rw [List.length_cons, show i + 1 + ds.length = i + (ds.length + 1) by omega]
theorem isi_fo : isOne G M (fo t p) (.cl .Formula) = some true := by
  unfold isOne tyT clT fo
  simp [isB, Cn.sub, Cn.isX, Cn.plainX, Cn.fldX]
theorem isi_int_fo : isOne G M (.int i) (.cl .Formula) = some false := by
  unfold isOne tyT clT
  simp [isB, tyNs]
theorem r_nof : run G (k + 3) b "numbers_of" [fo t p] M = .ok (.tup [.int t, .int p]) M := by
  rw [run1 fn_numbers_of, callF_free (by rfl) (by rfl)]
  (simp [↓bind_L, ↓out_L, ↓seq_L, bindL_ok, bindL_ex, bindL_no, outL_ok, outL_ex, outL_no, seqL_nx, seqL_rt, seqL_ex, seqL_bk, seqL_ct, seqL_no, Iv.execs, Iv.exec, Iv.ev, Iv.evs, Iv.evi, Iv.evN, Iv.evo, Iv.evc, Iv.sto, Iv.stos, out_ok, out_ex, seq_nx, seq_rt, seq_ex, seq_bk, seq_ct, end_nx, end_rt, end_ex, trunc_ok, trunc_ex, take_len, take_app, take_set,  clo_int, clo_bl, clo_str, clo_non, clo_scr, clo_cl, clo_tup, clo_lst, clo_obj, clo_cel, clL_nil, clL_cons, clF_nil, clF_cons, ov_int, ov_bl, ov_str, ov_non, ov_tup, ov_lst, ov_scr, ov_obj, dv_int, dv_str, dv_tup, dv_lst, dv_scr, dv_obj, lv_lst, lv_scr, bin_int, bi_add, bi_sub, bi_mulL, bi_mulR, bi_mod, bi_divS, bi_pow, cbOk, cbOp, cmp_lt, cmp_le, cmp_gt, cmp_ge, cmp_eq, cmp_ne, is_non, isn_non, eq_str, ne_str, tru_bl, tru_int, tru_non, tru_lst, tru_tup, isNon, ov_cel, dv_cel, lv_cel, subs_cel, setSub_cel, subs_tup, subs_lst, subs_scr,  L2.atI, L2.ixN, callP, noEx_ok, mayW_int, f_numbers_of, isi_fo, at_pair] <;> try simp only [bindL_un, outL_un, seqL_un])
theorem r_noi (h : sm n) : run G (k + 3) b "numbers_of" [.int n] M = .ok (.tup [.int 0, .int n]) M := by
  rw [run1 fn_numbers_of, callF_free (by rfl) (by rfl)]
  (simp [↓bind_L, ↓out_L, ↓seq_L, bindL_ok, bindL_ex, bindL_no, outL_ok, outL_ex, outL_no, seqL_nx, seqL_rt, seqL_ex, seqL_bk, seqL_ct, seqL_no, Iv.execs, Iv.exec, Iv.ev, Iv.evs, Iv.evi, Iv.evN, Iv.evo, Iv.evc, Iv.sto, Iv.stos, out_ok, out_ex, seq_nx, seq_rt, seq_ex, seq_bk, seq_ct, end_nx, end_rt, end_ex, trunc_ok, trunc_ex, take_len, take_app, take_set,  clo_int, clo_bl, clo_str, clo_non, clo_scr, clo_cl, clo_tup, clo_lst, clo_obj, clo_cel, clL_nil, clL_cons, clF_nil, clF_cons, ov_int, ov_bl, ov_str, ov_non, ov_tup, ov_lst, ov_scr, ov_obj, dv_int, dv_str, dv_tup, dv_lst, dv_scr, dv_obj, lv_lst, lv_scr, bin_int, bi_add, bi_sub, bi_mulL, bi_mulR, bi_mod, bi_divS, bi_pow, cbOk, cbOp, cmp_lt, cmp_le, cmp_gt, cmp_ge, cmp_eq, cmp_ne, is_non, isn_non, eq_str, ne_str, tru_bl, tru_int, tru_non, tru_lst, tru_tup, isNon, ov_cel, dv_cel, lv_cel, subs_cel, setSub_cel, subs_tup, subs_lst, subs_scr,  L2.atI, L2.ixN, callP, noEx_ok, mayW_int, f_numbers_of, isi_int_fo, r_is_small, smB_of h, maxL] <;> try simp only [bindL_un, outL_un, seqL_un])
theorem r_add (h : run G (k + 3) M.length "numbers_of" [o] M = .ok (.tup [.int c, .int d]) M) : run G (k + 4) b "Formula.__add__" [fo t p, o] M = mkr (t + c) (p + d) M := by
  rw [run1 fn_Formula___add__, callF_free (by rfl) (by rfl)]
  (simp [↓bind_L, ↓out_L, ↓seq_L, bindL_ok, bindL_ex, bindL_no, outL_ok, outL_ex, outL_no, seqL_nx, seqL_rt, seqL_ex, seqL_bk, seqL_ct, seqL_no, Iv.execs, Iv.exec, Iv.ev, Iv.evs, Iv.evi, Iv.evN, Iv.evo, Iv.evc, Iv.sto, Iv.stos, out_ok, out_ex, seq_nx, seq_rt, seq_ex, seq_bk, seq_ct, end_nx, end_rt, end_ex, trunc_ok, trunc_ex, take_len, take_app, take_set,  clo_int, clo_bl, clo_str, clo_non, clo_scr, clo_cl, clo_tup, clo_lst, clo_obj, clo_cel, clL_nil, clL_cons, clF_nil, clF_cons, ov_int, ov_bl, ov_str, ov_non, ov_tup, ov_lst, ov_scr, ov_obj, dv_int, dv_str, dv_tup, dv_lst, dv_scr, dv_obj, lv_lst, lv_scr, bin_int, bi_add, bi_sub, bi_mulL, bi_mulR, bi_mod, bi_divS, bi_pow, cbOk, cbOp, cmp_lt, cmp_le, cmp_gt, cmp_ge, cmp_eq, cmp_ne, is_non, isn_non, eq_str, ne_str, tru_bl, tru_int, tru_non, tru_lst, tru_tup, isNon, ov_cel, dv_cel, lv_cel, subs_cel, setSub_cel, subs_tup, subs_lst, subs_scr,  L2.atI, L2.ixN, callP, noEx_ok, mayW_int, f_Formula___add__, h, at_pair, seqOf, r_mk] <;> try simp only [bindL_un, outL_un, seqL_un])
  exact ret_mk
theorem r_radd (h : run G (k + 3) M.length "numbers_of" [o] M = .ok (.tup [.int c, .int d]) M) : run G (k + 4) b "Formula.__radd__" [fo t p, o] M = mkr (t + c) (p + d) M := by
  rw [run1 fn_Formula___radd__, callF_free (by rfl) (by rfl)]
  (simp [↓bind_L, ↓out_L, ↓seq_L, bindL_ok, bindL_ex, bindL_no, outL_ok, outL_ex, outL_no, seqL_nx, seqL_rt, seqL_ex, seqL_bk, seqL_ct, seqL_no, Iv.execs, Iv.exec, Iv.ev, Iv.evs, Iv.evi, Iv.evN, Iv.evo, Iv.evc, Iv.sto, Iv.stos, out_ok, out_ex, seq_nx, seq_rt, seq_ex, seq_bk, seq_ct, end_nx, end_rt, end_ex, trunc_ok, trunc_ex, take_len, take_app, take_set,  clo_int, clo_bl, clo_str, clo_non, clo_scr, clo_cl, clo_tup, clo_lst, clo_obj, clo_cel, clL_nil, clL_cons, clF_nil, clF_cons, ov_int, ov_bl, ov_str, ov_non, ov_tup, ov_lst, ov_scr, ov_obj, dv_int, dv_str, dv_tup, dv_lst, dv_scr, dv_obj, lv_lst, lv_scr, bin_int, bi_add, bi_sub, bi_mulL, bi_mulR, bi_mod, bi_divS, bi_pow, cbOk, cbOp, cmp_lt, cmp_le, cmp_gt, cmp_ge, cmp_eq, cmp_ne, is_non, isn_non, eq_str, ne_str, tru_bl, tru_int, tru_non, tru_lst, tru_tup, isNon, ov_cel, dv_cel, lv_cel, subs_cel, setSub_cel, subs_tup, subs_lst, subs_scr,  L2.atI, L2.ixN, callP, noEx_ok, mayW_int, f_Formula___radd__, h, at_pair, seqOf, r_mk] <;> try simp only [bindL_un, outL_un, seqL_un])
  exact ret_mk
theorem r_sub (h : run G (k + 3) M.length "numbers_of" [o] M = .ok (.tup [.int c, .int d]) M) : run G (k + 4) b "Formula.__sub__" [fo t p, o] M = mkr (t - c) (p - d) M := by
  rw [run1 fn_Formula___sub__, callF_free (by rfl) (by rfl)]
  (simp [↓bind_L, ↓out_L, ↓seq_L, bindL_ok, bindL_ex, bindL_no, outL_ok, outL_ex, outL_no, seqL_nx, seqL_rt, seqL_ex, seqL_bk, seqL_ct, seqL_no, Iv.execs, Iv.exec, Iv.ev, Iv.evs, Iv.evi, Iv.evN, Iv.evo, Iv.evc, Iv.sto, Iv.stos, out_ok, out_ex, seq_nx, seq_rt, seq_ex, seq_bk, seq_ct, end_nx, end_rt, end_ex, trunc_ok, trunc_ex, take_len, take_app, take_set,  clo_int, clo_bl, clo_str, clo_non, clo_scr, clo_cl, clo_tup, clo_lst, clo_obj, clo_cel, clL_nil, clL_cons, clF_nil, clF_cons, ov_int, ov_bl, ov_str, ov_non, ov_tup, ov_lst, ov_scr, ov_obj, dv_int, dv_str, dv_tup, dv_lst, dv_scr, dv_obj, lv_lst, lv_scr, bin_int, bi_add, bi_sub, bi_mulL, bi_mulR, bi_mod, bi_divS, bi_pow, cbOk, cbOp, cmp_lt, cmp_le, cmp_gt, cmp_ge, cmp_eq, cmp_ne, is_non, isn_non, eq_str, ne_str, tru_bl, tru_int, tru_non, tru_lst, tru_tup, isNon, ov_cel, dv_cel, lv_cel, subs_cel, setSub_cel, subs_tup, subs_lst, subs_scr,  L2.atI, L2.ixN, callP, noEx_ok, mayW_int, f_Formula___sub__, h, at_pair, seqOf, r_mk] <;> try simp only [bindL_un, outL_un, seqL_un])
  exact ret_mk
theorem r_rsub (h : run G (k + 3) M.length "numbers_of" [o] M = .ok (.tup [.int c, .int d]) M) : run G (k + 4) b "Formula.__rsub__" [fo t p, o] M = mkr (c - t) (d - p) M := by
  rw [run1 fn_Formula___rsub__, callF_free (by rfl) (by rfl)]
  (simp [↓bind_L, ↓out_L, ↓seq_L, bindL_ok, bindL_ex, bindL_no, outL_ok, outL_ex, outL_no, seqL_nx, seqL_rt, seqL_ex, seqL_bk, seqL_ct, seqL_no, Iv.execs, Iv.exec, Iv.ev, Iv.evs, Iv.evi, Iv.evN, Iv.evo, Iv.evc, Iv.sto, Iv.stos, out_ok, out_ex, seq_nx, seq_rt, seq_ex, seq_bk, seq_ct, end_nx, end_rt, end_ex, trunc_ok, trunc_ex, take_len, take_app, take_set,  clo_int, clo_bl, clo_str, clo_non, clo_scr, clo_cl, clo_tup, clo_lst, clo_obj, clo_cel, clL_nil, clL_cons, clF_nil, clF_cons, ov_int, ov_bl, ov_str, ov_non, ov_tup, ov_lst, ov_scr, ov_obj, dv_int, dv_str, dv_tup, dv_lst, dv_scr, dv_obj, lv_lst, lv_scr, bin_int, bi_add, bi_sub, bi_mulL, bi_mulR, bi_mod, bi_divS, bi_pow, cbOk, cbOp, cmp_lt, cmp_le, cmp_gt, cmp_ge, cmp_eq, cmp_ne, is_non, isn_non, eq_str, ne_str, tru_bl, tru_int, tru_non, tru_lst, tru_tup, isNon, ov_cel, dv_cel, lv_cel, subs_cel, setSub_cel, subs_tup, subs_lst, subs_scr,  L2.atI, L2.ixN, callP, noEx_ok, mayW_int, f_Formula___rsub__, h, at_pair, seqOf, r_mk] <;> try simp only [bindL_un, outL_un, seqL_un])
  exact ret_mk
theorem r_mul (h : sm n) : run G (k + 4) b "Formula.__mul__" [fo t p, .int n] M = mkr (t * n) (p * n) M := by
  rw [run1 fn_Formula___mul__, callF_free (by rfl) (by rfl)]
  (simp [↓bind_L, ↓out_L, ↓seq_L, bindL_ok, bindL_ex, bindL_no, outL_ok, outL_ex, outL_no, seqL_nx, seqL_rt, seqL_ex, seqL_bk, seqL_ct, seqL_no, Iv.execs, Iv.exec, Iv.ev, Iv.evs, Iv.evi, Iv.evN, Iv.evo, Iv.evc, Iv.sto, Iv.stos, out_ok, out_ex, seq_nx, seq_rt, seq_ex, seq_bk, seq_ct, end_nx, end_rt, end_ex, trunc_ok, trunc_ex, take_len, take_app, take_set,  clo_int, clo_bl, clo_str, clo_non, clo_scr, clo_cl, clo_tup, clo_lst, clo_obj, clo_cel, clL_nil, clL_cons, clF_nil, clF_cons, ov_int, ov_bl, ov_str, ov_non, ov_tup, ov_lst, ov_scr, ov_obj, dv_int, dv_str, dv_tup, dv_lst, dv_scr, dv_obj, lv_lst, lv_scr, bin_int, bi_add, bi_sub, bi_mulL, bi_mulR, bi_mod, bi_divS, bi_pow, cbOk, cbOp, cmp_lt, cmp_le, cmp_gt, cmp_ge, cmp_eq, cmp_ne, is_non, isn_non, eq_str, ne_str, tru_bl, tru_int, tru_non, tru_lst, tru_tup, isNon, ov_cel, dv_cel, lv_cel, subs_cel, setSub_cel, subs_tup, subs_lst, subs_scr,  L2.atI, L2.ixN, callP, noEx_ok, mayW_int, f_Formula___mul__, r_is_small, smB_of h, at_pair, bi_mulR h.lt, r_mk] <;> try simp only [bindL_un, outL_un, seqL_un])
  exact ret_mk
theorem r_rmul (h : sm n) : run G (k + 4) b "Formula.__rmul__" [fo t p, .int n] M = mkr (t * n) (p * n) M := by
  rw [run1 fn_Formula___rmul__, callF_free (by rfl) (by rfl)]
  (simp [↓bind_L, ↓out_L, ↓seq_L, bindL_ok, bindL_ex, bindL_no, outL_ok, outL_ex, outL_no, seqL_nx, seqL_rt, seqL_ex, seqL_bk, seqL_ct, seqL_no, Iv.execs, Iv.exec, Iv.ev, Iv.evs, Iv.evi, Iv.evN, Iv.evo, Iv.evc, Iv.sto, Iv.stos, out_ok, out_ex, seq_nx, seq_rt, seq_ex, seq_bk, seq_ct, end_nx, end_rt, end_ex, trunc_ok, trunc_ex, take_len, take_app, take_set,  clo_int, clo_bl, clo_str, clo_non, clo_scr, clo_cl, clo_tup, clo_lst, clo_obj, clo_cel, clL_nil, clL_cons, clF_nil, clF_cons, ov_int, ov_bl, ov_str, ov_non, ov_tup, ov_lst, ov_scr, ov_obj, dv_int, dv_str, dv_tup, dv_lst, dv_scr, dv_obj, lv_lst, lv_scr, bin_int, bi_add, bi_sub, bi_mulL, bi_mulR, bi_mod, bi_divS, bi_pow, cbOk, cbOp, cmp_lt, cmp_le, cmp_gt, cmp_ge, cmp_eq, cmp_ne, is_non, isn_non, eq_str, ne_str, tru_bl, tru_int, tru_non, tru_lst, tru_tup, isNon, ov_cel, dv_cel, lv_cel, subs_cel, setSub_cel, subs_tup, subs_lst, subs_scr,  L2.atI, L2.ixN, callP, noEx_ok, mayW_int, f_Formula___rmul__, r_is_small, smB_of h, at_pair, bi_mulR h.lt, r_mk] <;> try simp only [bindL_un, outL_un, seqL_un])
  exact ret_mk
theorem r_neg : run G (k + 4) b "Formula.__neg__" [fo t p] M = mkr (0 - t) (0 - p) M := by
  rw [run1 fn_Formula___neg__, callF_free (by rfl) (by rfl)]
  (simp [↓bind_L, ↓out_L, ↓seq_L, bindL_ok, bindL_ex, bindL_no, outL_ok, outL_ex, outL_no, seqL_nx, seqL_rt, seqL_ex, seqL_bk, seqL_ct, seqL_no, Iv.execs, Iv.exec, Iv.ev, Iv.evs, Iv.evi, Iv.evN, Iv.evo, Iv.evc, Iv.sto, Iv.stos, out_ok, out_ex, seq_nx, seq_rt, seq_ex, seq_bk, seq_ct, end_nx, end_rt, end_ex, trunc_ok, trunc_ex, take_len, take_app, take_set,  clo_int, clo_bl, clo_str, clo_non, clo_scr, clo_cl, clo_tup, clo_lst, clo_obj, clo_cel, clL_nil, clL_cons, clF_nil, clF_cons, ov_int, ov_bl, ov_str, ov_non, ov_tup, ov_lst, ov_scr, ov_obj, dv_int, dv_str, dv_tup, dv_lst, dv_scr, dv_obj, lv_lst, lv_scr, bin_int, bi_add, bi_sub, bi_mulL, bi_mulR, bi_mod, bi_divS, bi_pow, cbOk, cbOp, cmp_lt, cmp_le, cmp_gt, cmp_ge, cmp_eq, cmp_ne, is_non, isn_non, eq_str, ne_str, tru_bl, tru_int, tru_non, tru_lst, tru_tup, isNon, ov_cel, dv_cel, lv_cel, subs_cel, setSub_cel, subs_tup, subs_lst, subs_scr,  L2.atI, L2.ixN, callP, noEx_ok, mayW_int, f_Formula___neg__, at_pair, r_mk] <;> try simp only [bindL_un, outL_un, seqL_un])
  exact ret_mk
/-- a formula applied so many times in a row -/
def pw (t p : Int) : Nat → Int × Int
  | 0 => (1, 0)
  | m + 1 => (t * (pw t p m).1, t * (pw t p m).2 + p)
theorem rng_get {m j : Nat} {e : D} (h : (rngD 0 (m : Int))[j]? = some e) : e = .int (j : Int) := by
  unfold rngD at h
  rw [List.getElem?_map] at h
  obtain ⟨z, h1, h2⟩ := Option.map_eq_some_iff.mp h
  have h3 := (List.getElem?_eq_some_iff.mp h1).2
  rw [List.getElem_range] at h3
  subst h3
  rw [← h2, Int.zero_add]
theorem rng_len {m : Nat} : (rngD 0 (m : Int)).length = m := by
  unfold rngD
  rw [List.length_map, List.length_range, Int.sub_zero, Int.toNat_natCast]
def lastI : Nat → Option D
  | 0 => none
  | m + 1 => some (.int (m : Int))
theorem r_pow {m : Nat} (h : sm t) (hm : m ≤ 60) : run G (k + 4) b "Formula.__pow__" [fo t p, .int (m : Int)] M = mkr (pw t p m).1 (pw t p m).2 M := by
  have F := forL_iter (M := M) (step := fun d g M1 => (sto G (run G (k + 3)) M.length (.nm 2) g d M1).seq fun g M2 => execs G (run G (k + 3)) M.length [.asg (.tup [(.nm 3), (.nm 4)]) (.tup [(.bin .Mult (.sub (.att (.v 0) "pair") (.int 0)) (.v 3)), (.bin .Add (.bin .Mult (.sub (.att (.v 0) "pair") (.int 0)) (.v 4)) (.sub (.att (.v 0) "pair") (.int 1)))])] g M2) (ok := wkO (rngD 0 (m : Int), []))
    (gs := fun i => [some (fo t p), some (.int (m : Int)), lastI i, some (.int (pw t p i).1), some (.int (pw t p i).2)]) (by rfl) (ds := rngD 0 (m : Int)) (i := 0) fun j e he => by
      have e1 := rng_get he
      subst e1
      (simp [↓bind_L, ↓out_L, ↓seq_L, bindL_ok, bindL_ex, bindL_no, outL_ok, outL_ex, outL_no, seqL_nx, seqL_rt, seqL_ex, seqL_bk, seqL_ct, seqL_no, Iv.execs, Iv.exec, Iv.ev, Iv.evs, Iv.evi, Iv.evN, Iv.evo, Iv.evc, Iv.sto, Iv.stos, out_ok, out_ex, seq_nx, seq_rt, seq_ex, seq_bk, seq_ct, end_nx, end_rt, end_ex, trunc_ok, trunc_ex, take_len, take_app, take_set,  clo_int, clo_bl, clo_str, clo_non, clo_scr, clo_cl, clo_tup, clo_lst, clo_obj, clo_cel, clL_nil, clL_cons, clF_nil, clF_cons, ov_int, ov_bl, ov_str, ov_non, ov_tup, ov_lst, ov_scr, ov_obj, dv_int, dv_str, dv_tup, dv_lst, dv_scr, dv_obj, lv_lst, lv_scr, bin_int, bi_add, bi_sub, bi_mulL, bi_mulR, bi_mod, bi_divS, bi_pow, cbOk, cbOp, cmp_lt, cmp_le, cmp_gt, cmp_ge, cmp_eq, cmp_ne, is_non, isn_non, eq_str, ne_str, tru_bl, tru_int, tru_non, tru_lst, tru_tup, isNon, ov_cel, dv_cel, lv_cel, subs_cel, setSub_cel, subs_tup, subs_lst, subs_scr,  L2.atI, L2.ixN, callP, noEx_ok, mayW_int, at_pair, bi_mulL h.lt, seqOf, maxL, pw, lastI] <;> try simp only [bindL_un, outL_un, seqL_un])
  rw [run1 fn_Formula___pow__, callF_free (by rfl) (by rfl)]
  have hm1 : (m : Int) ≤ 60 := by omega
  have hm0 : (0 : Int) ≤ (m : Int) := by omega
  have e : execs G (run G (k + 3)) M.length f_Formula___pow__.body ([fo t p, .int (m : Int)].map some ++ List.replicate f_Formula___pow__.n none) M = (Iv.R.out [some (fo t p), some (.int (m : Int)), lastI m, some (.int (pw t p m).1), some (.int (pw t p m).2)] (mkr (pw t p m).1 (pw t p m).2 M) fun d M1 => Out.rt d M1).seq fun g M => Out.nx g M := by
    refine execs_nx (g1 := [some (fo t p), some (.int (m : Int)), none, none, none]) (M1 := M) (by (simp [↓bind_L, ↓out_L, ↓seq_L, bindL_ok, bindL_ex, bindL_no, outL_ok, outL_ex, outL_no, seqL_nx, seqL_rt, seqL_ex, seqL_bk, seqL_ct, seqL_no, Iv.execs, Iv.exec, Iv.ev, Iv.evs, Iv.evi, Iv.evN, Iv.evo, Iv.evc, Iv.sto, Iv.stos, out_ok, out_ex, seq_nx, seq_rt, seq_ex, seq_bk, seq_ct, end_nx, end_rt, end_ex, trunc_ok, trunc_ex, take_len, take_app, take_set,  clo_int, clo_bl, clo_str, clo_non, clo_scr, clo_cl, clo_tup, clo_lst, clo_obj, clo_cel, clL_nil, clL_cons, clF_nil, clF_cons, ov_int, ov_bl, ov_str, ov_non, ov_tup, ov_lst, ov_scr, ov_obj, dv_int, dv_str, dv_tup, dv_lst, dv_scr, dv_obj, lv_lst, lv_scr, bin_int, bi_add, bi_sub, bi_mulL, bi_mulR, bi_mod, bi_divS, bi_pow, cbOk, cbOp, cmp_lt, cmp_le, cmp_gt, cmp_ge, cmp_eq, cmp_ne, is_non, isn_non, eq_str, ne_str, tru_bl, tru_int, tru_non, tru_lst, tru_tup, isNon, ov_cel, dv_cel, lv_cel, subs_cel, setSub_cel, subs_tup, subs_lst, subs_scr,  L2.atI, L2.ixN, callP, noEx_ok, mayW_int, f_Formula___pow__, r_is_integer, hm1, hm0] <;> try simp only [bindL_un, outL_un, seqL_un])) ?_
    refine execs_nx (g1 := [some (fo t p), some (.int (m : Int)), none, some (.int 1), some (.int 0)]) (M1 := M) (by (simp [↓bind_L, ↓out_L, ↓seq_L, bindL_ok, bindL_ex, bindL_no, outL_ok, outL_ex, outL_no, seqL_nx, seqL_rt, seqL_ex, seqL_bk, seqL_ct, seqL_no, Iv.execs, Iv.exec, Iv.ev, Iv.evs, Iv.evi, Iv.evN, Iv.evo, Iv.evc, Iv.sto, Iv.stos, out_ok, out_ex, seq_nx, seq_rt, seq_ex, seq_bk, seq_ct, end_nx, end_rt, end_ex, trunc_ok, trunc_ex, take_len, take_app, take_set,  clo_int, clo_bl, clo_str, clo_non, clo_scr, clo_cl, clo_tup, clo_lst, clo_obj, clo_cel, clL_nil, clL_cons, clF_nil, clF_cons, ov_int, ov_bl, ov_str, ov_non, ov_tup, ov_lst, ov_scr, ov_obj, dv_int, dv_str, dv_tup, dv_lst, dv_scr, dv_obj, lv_lst, lv_scr, bin_int, bi_add, bi_sub, bi_mulL, bi_mulR, bi_mod, bi_divS, bi_pow, cbOk, cbOp, cmp_lt, cmp_le, cmp_gt, cmp_ge, cmp_eq, cmp_ne, is_non, isn_non, eq_str, ne_str, tru_bl, tru_int, tru_non, tru_lst, tru_tup, isNon, ov_cel, dv_cel, lv_cel, subs_cel, setSub_cel, subs_tup, subs_lst, subs_scr,  L2.atI, L2.ixN, callP, noEx_ok, mayW_int, seqOf, maxL] <;> try simp only [bindL_un, outL_un, seqL_un])) ?_
    refine execs_nx (g1 := [some (fo t p), some (.int (m : Int)), lastI m, some (.int (pw t p m).1), some (.int (pw t p m).2)]) (M1 := M) ?_ ?_
    · rw [exec_for]
      have ei : evi G (run G (k + 3)) M.length (.rng [(.v 1)]) [some (fo t p), some (.int (m : Int)), none, some (.int 1), some (.int 0)] M = .ok (rngD 0 (m : Int), []) M := by
        have z : rngOf [.int (m : Int)] = some (rngD 0 (m : Int)) := by
          unfold rngOf
          dsimp only
          rw [if_pos]
          constructor <;> omega
        (simp [↓bind_L, ↓out_L, ↓seq_L, bindL_ok, bindL_ex, bindL_no, outL_ok, outL_ex, outL_no, seqL_nx, seqL_rt, seqL_ex, seqL_bk, seqL_ct, seqL_no, Iv.execs, Iv.exec, Iv.ev, Iv.evs, Iv.evi, Iv.evN, Iv.evo, Iv.evc, Iv.sto, Iv.stos, out_ok, out_ex, seq_nx, seq_rt, seq_ex, seq_bk, seq_ct, end_nx, end_rt, end_ex, trunc_ok, trunc_ex, take_len, take_app, take_set,  clo_int, clo_bl, clo_str, clo_non, clo_scr, clo_cl, clo_tup, clo_lst, clo_obj, clo_cel, clL_nil, clL_cons, clF_nil, clF_cons, ov_int, ov_bl, ov_str, ov_non, ov_tup, ov_lst, ov_scr, ov_obj, dv_int, dv_str, dv_tup, dv_lst, dv_scr, dv_obj, lv_lst, lv_scr, bin_int, bi_add, bi_sub, bi_mulL, bi_mulR, bi_mod, bi_divS, bi_pow, cbOk, cbOp, cmp_lt, cmp_le, cmp_gt, cmp_ge, cmp_eq, cmp_ne, is_non, isn_non, eq_str, ne_str, tru_bl, tru_int, tru_non, tru_lst, tru_tup, isNon, ov_cel, dv_cel, lv_cel, subs_cel, setSub_cel, subs_tup, subs_lst, subs_scr,  L2.atI, L2.ixN, callP, noEx_ok, mayW_int, z] <;> try simp only [bindL_un, outL_un, seqL_un])
      rw [ei, out_ok]
      rw [rng_len, Nat.zero_add] at F
      exact F
    · (simp [↓bind_L, ↓out_L, ↓seq_L, bindL_ok, bindL_ex, bindL_no, outL_ok, outL_ex, outL_no, seqL_nx, seqL_rt, seqL_ex, seqL_bk, seqL_ct, seqL_no, Iv.execs, Iv.exec, Iv.ev, Iv.evs, Iv.evi, Iv.evN, Iv.evo, Iv.evc, Iv.sto, Iv.stos, out_ok, out_ex, seq_nx, seq_rt, seq_ex, seq_bk, seq_ct, end_nx, end_rt, end_ex, trunc_ok, trunc_ex, take_len, take_app, take_set,  clo_int, clo_bl, clo_str, clo_non, clo_scr, clo_cl, clo_tup, clo_lst, clo_obj, clo_cel, clL_nil, clL_cons, clF_nil, clF_cons, ov_int, ov_bl, ov_str, ov_non, ov_tup, ov_lst, ov_scr, ov_obj, dv_int, dv_str, dv_tup, dv_lst, dv_scr, dv_obj, lv_lst, lv_scr, bin_int, bi_add, bi_sub, bi_mulL, bi_mulR, bi_mod, bi_divS, bi_pow, cbOk, cbOp, cmp_lt, cmp_le, cmp_gt, cmp_ge, cmp_eq, cmp_ne, is_non, isn_non, eq_str, ne_str, tru_bl, tru_int, tru_non, tru_lst, tru_tup, isNon, ov_cel, dv_cel, lv_cel, subs_cel, setSub_cel, subs_tup, subs_lst, subs_scr,  L2.atI, L2.ixN, callP, noEx_ok, mayW_int, r_mk] <;> try simp only [bindL_un, outL_un, seqL_un])
  rw [e]
  exact ret_mk
end
end Lw
namespace Lw
open Iv
open PySem (Str Operator CmpOp)
section
variable {k b : Nat} {M : Me} {t p x i c d n : Int} {o : D}
theorem ov_fo : ov M (fo t p) = some (Cn.Formula, ([((("pair" : String) : Str), D.tup [.int t, .int p])] : List (Str × D))) := rfl
theorem dun_fo {cf : Cf} {name f : Str} {args : List D} (h : G.find .Formula name = some (.me f)) : dun G cf M (fo t p) name args = callP G cf f (fo t p :: args) M := by
  unfold dun
  rw [ov_fo]
  dsimp only
  rw [h]
/-! == -/
theorem eq_pair {cf : Cf} : cmpOp G cf .Eq (.tup [.int t, .int p]) (.tup [.int c, .int d]) M = .ok (decide (t = c) && decide (p = d)) M := by
  show R.of M (eqP M (.tup [.int t, .int p]) (.tup [.int c, .int d])) = _
  have e : eqP M (.tup [.int t, .int p]) (.tup [.int c, .int d]) = some (decide (t = c) && decide (p = d)) := by
    have z : PySem.PyData.eqv (.tuple [.int t, .int p]) (.tuple [.int c, .int d]) = (decide (t = c) && decide (p = d)) := by
      simp [PySem.PyData.eqv, PySem.PyData.eqvAll]
      rfl
    show (if PySem.SeqAt.shaped (.tuple [.int t, .int p]) = true ∧ PySem.SeqAt.shaped (.tuple [.int c, .int d]) = true then some (PySem.PyData.eqv (.tuple [.int t, .int p]) (.tuple [.int c, .int d])) else none) = _
    rw [if_pos ⟨rfl, rfl⟩, z]
  rw [e]
  rfl
theorem r_eq : run G (k + 1) b "Formula.__eq__" [fo t p, fo c d] M = .ok (.bl (decide (t = c) && decide (p = d))) M := by
  rw [run1 fn_Formula___eq__, callF_free (by rfl) (by rfl)]
  (simp [↓bind_L, ↓out_L, ↓seq_L, bindL_ok, bindL_ex, bindL_no, outL_ok, outL_ex, outL_no, seqL_nx, seqL_rt, seqL_ex, seqL_bk, seqL_ct, seqL_no, Iv.execs, Iv.exec, Iv.ev, Iv.evs, Iv.evi, Iv.evN, Iv.evo, Iv.evc, Iv.sto, Iv.stos, out_ok, out_ex, seq_nx, seq_rt, seq_ex, seq_bk, seq_ct, end_nx, end_rt, end_ex, trunc_ok, trunc_ex, take_len, take_app, take_set,  clo_int, clo_bl, clo_str, clo_non, clo_scr, clo_cl, clo_tup, clo_lst, clo_obj, clo_cel, clL_nil, clL_cons, clF_nil, clF_cons, ov_int, ov_bl, ov_str, ov_non, ov_tup, ov_lst, ov_scr, ov_obj, dv_int, dv_str, dv_tup, dv_lst, dv_scr, dv_obj, lv_lst, lv_scr, bin_int, bi_add, bi_sub, bi_mulL, bi_mulR, bi_mod, bi_divS, bi_pow, cbOk, cbOp, cmp_lt, cmp_le, cmp_gt, cmp_ge, cmp_eq, cmp_ne, is_non, isn_non, eq_str, ne_str, tru_bl, tru_int, tru_non, tru_lst, tru_tup, isNon, ov_cel, dv_cel, lv_cel, subs_cel, setSub_cel, subs_tup, subs_lst, subs_scr,  L2.atI, L2.ixN, callP, noEx_ok, mayW_int, f_Formula___eq__, isi_fo, at_pair, eq_pair] <;> try simp only [bindL_un, outL_un, seqL_un])
theorem r_eqN (h : isOne G M o (.cl .Formula) = some false) (ht : ∀ ds, o ≠ .tup ds ∨ True) : run G (k + 1) b "Formula.__eq__" [fo t p, o] M = .ok (.bl false) M := by
  rw [run1 fn_Formula___eq__, callF_free (by rfl) (by rfl)]
  (simp [↓bind_L, ↓out_L, ↓seq_L, bindL_ok, bindL_ex, bindL_no, outL_ok, outL_ex, outL_no, seqL_nx, seqL_rt, seqL_ex, seqL_bk, seqL_ct, seqL_no, Iv.execs, Iv.exec, Iv.ev, Iv.evs, Iv.evi, Iv.evN, Iv.evo, Iv.evc, Iv.sto, Iv.stos, out_ok, out_ex, seq_nx, seq_rt, seq_ex, seq_bk, seq_ct, end_nx, end_rt, end_ex, trunc_ok, trunc_ex, take_len, take_app, take_set,  clo_int, clo_bl, clo_str, clo_non, clo_scr, clo_cl, clo_tup, clo_lst, clo_obj, clo_cel, clL_nil, clL_cons, clF_nil, clF_cons, ov_int, ov_bl, ov_str, ov_non, ov_tup, ov_lst, ov_scr, ov_obj, dv_int, dv_str, dv_tup, dv_lst, dv_scr, dv_obj, lv_lst, lv_scr, bin_int, bi_add, bi_sub, bi_mulL, bi_mulR, bi_mod, bi_divS, bi_pow, cbOk, cbOp, cmp_lt, cmp_le, cmp_gt, cmp_ge, cmp_eq, cmp_ne, is_non, isn_non, eq_str, ne_str, tru_bl, tru_int, tru_non, tru_lst, tru_tup, isNon, ov_cel, dv_cel, lv_cel, subs_cel, setSub_cel, subs_tup, subs_lst, subs_scr,  L2.atI, L2.ixN, callP, noEx_ok, mayW_int, f_Formula___eq__, h] <;> try simp only [bindL_un, outL_un, seqL_un])
theorem co_eq : cmpOp G (run G (k + 1) b) .Eq (fo t p) (fo c d) M = .ok (decide (t = c) && decide (p = d)) M := by
  have e : cmpOp G (run G (k + 1) b) .Eq (fo t p) (fo c d) M = (if eqTo G M .Formula (fo c d) = true then bolR (dun G (run G (k + 1) b) M (fo t p) "__eq__" [fo c d]) else .no) := rfl
  rw [e, if_pos (by rfl), dun_fo gf_Formula___eq__, callP, ck_Formula___eq___0, r_eq]
  rfl
theorem co_ne : cmpOp G (run G (k + 1) b) .NotEq (fo t p) (fo c d) M = .ok (!(decide (t = c) && decide (p = d))) M := by
  have e : cmpOp G (run G (k + 1) b) .NotEq (fo t p) (fo c d) M = (if eqTo G M .Formula (fo c d) = true then (bolR (dun G (run G (k + 1) b) M (fo t p) "__eq__" [fo c d])).bind fun z M => .ok (!z) M else .no) := rfl
  rw [e, if_pos (by rfl), dun_fo gf_Formula___eq__, callP, ck_Formula___eq___0, r_eq]
  rfl
theorem r_same {o : D} {s : Str} (ho : ov M o = none) (e : reprD M o = some s) : run G (k + 1) b "_law_same" [o, o] M = .ok (.bl true) M := by
  rw [run1 fn__law_same, callF_free (by rfl) (by rfl)]
  (simp [↓bind_L, ↓out_L, ↓seq_L, bindL_ok, bindL_ex, bindL_no, outL_ok, outL_ex, outL_no, seqL_nx, seqL_rt, seqL_ex, seqL_bk, seqL_ct, seqL_no, Iv.execs, Iv.exec, Iv.ev, Iv.evs, Iv.evi, Iv.evN, Iv.evo, Iv.evc, Iv.sto, Iv.stos, out_ok, out_ex, seq_nx, seq_rt, seq_ex, seq_bk, seq_ct, end_nx, end_rt, end_ex, trunc_ok, trunc_ex, take_len, take_app, take_set,  clo_int, clo_bl, clo_str, clo_non, clo_scr, clo_cl, clo_tup, clo_lst, clo_obj, clo_cel, clL_nil, clL_cons, clF_nil, clF_cons, ov_int, ov_bl, ov_str, ov_non, ov_tup, ov_lst, ov_scr, ov_obj, dv_int, dv_str, dv_tup, dv_lst, dv_scr, dv_obj, lv_lst, lv_scr, bin_int, bi_add, bi_sub, bi_mulL, bi_mulR, bi_mod, bi_divS, bi_pow, cbOk, cbOp, cmp_lt, cmp_le, cmp_gt, cmp_ge, cmp_eq, cmp_ne, is_non, isn_non, eq_str, ne_str, tru_bl, tru_int, tru_non, tru_lst, tru_tup, isNon, ov_cel, dv_cel, lv_cel, subs_cel, setSub_cel, subs_tup, subs_lst, subs_scr,  L2.atI, L2.ixN, callP, noEx_ok, mayW_int, f__law_same, ho, e] <;> try simp only [bindL_un, outL_un, seqL_un])
theorem sm.log (h : sm t) : t.natAbs.log2 < 1920 := by
  have z := log_small h.lt
  by_cases h0 : t.natAbs = 0
  · rw [h0]
    decide
  · have z : t.natAbs.log2 < 64 := (Nat.log2_lt h0).mpr (by have := h.lt; omega)
    omega
/-! values of other kinds -/
def Oth (o : D) : Prop := ∀ M : Me, ∃ T, tyT G M o = some T ∧ (T = .b "NoneType" ∨ T = .b "bool" ∨ T = .b "str" ∨ T = .b "tuple" ∨ T = .b "list" ∨ T = .b "dict" ∨ T = .c .Formula)
theorem r_oth (h : Oth o) : run G (k + 1) b "is_integer" [o] M = .ok (.bl false) M := by
  obtain ⟨T, h1, h2⟩ := h M
  rw [run1 fn_is_integer, callF_free (by rfl) (by rfl)]
  rcases h2 with rfl | rfl | rfl | rfl | rfl | rfl | rfl
  · have e1 : isOne G M o (.ty "int") = some false := by unfold isOne clT; rw [h1]; rfl
    (simp [↓bind_L, ↓out_L, ↓seq_L, bindL_ok, bindL_ex, bindL_no, outL_ok, outL_ex, outL_no, seqL_nx, seqL_rt, seqL_ex, seqL_bk, seqL_ct, seqL_no, Iv.execs, Iv.exec, Iv.ev, Iv.evs, Iv.evi, Iv.evN, Iv.evo, Iv.evc, Iv.sto, Iv.stos, out_ok, out_ex, seq_nx, seq_rt, seq_ex, seq_bk, seq_ct, end_nx, end_rt, end_ex, trunc_ok, trunc_ex, take_len, take_app, take_set,  clo_int, clo_bl, clo_str, clo_non, clo_scr, clo_cl, clo_tup, clo_lst, clo_obj, clo_cel, clL_nil, clL_cons, clF_nil, clF_cons, ov_int, ov_bl, ov_str, ov_non, ov_tup, ov_lst, ov_scr, ov_obj, dv_int, dv_str, dv_tup, dv_lst, dv_scr, dv_obj, lv_lst, lv_scr, bin_int, bi_add, bi_sub, bi_mulL, bi_mulR, bi_mod, bi_divS, bi_pow, cbOk, cbOp, cmp_lt, cmp_le, cmp_gt, cmp_ge, cmp_eq, cmp_ne, is_non, isn_non, eq_str, ne_str, tru_bl, tru_int, tru_non, tru_lst, tru_tup, isNon, ov_cel, dv_cel, lv_cel, subs_cel, setSub_cel, subs_tup, subs_lst, subs_scr,  L2.atI, L2.ixN, callP, noEx_ok, mayW_int, f_is_integer, e1, boot_int] <;> try simp only [bindL_un, outL_un, seqL_un])
  · have e1 : isOne G M o (.ty "int") = some true := by unfold isOne clT; rw [h1]; rfl
    have e2 : isOne G M o (.ty "bool") = some true := by unfold isOne clT; rw [h1]; rfl
    (simp [↓bind_L, ↓out_L, ↓seq_L, bindL_ok, bindL_ex, bindL_no, outL_ok, outL_ex, outL_no, seqL_nx, seqL_rt, seqL_ex, seqL_bk, seqL_ct, seqL_no, Iv.execs, Iv.exec, Iv.ev, Iv.evs, Iv.evi, Iv.evN, Iv.evo, Iv.evc, Iv.sto, Iv.stos, out_ok, out_ex, seq_nx, seq_rt, seq_ex, seq_bk, seq_ct, end_nx, end_rt, end_ex, trunc_ok, trunc_ex, take_len, take_app, take_set,  clo_int, clo_bl, clo_str, clo_non, clo_scr, clo_cl, clo_tup, clo_lst, clo_obj, clo_cel, clL_nil, clL_cons, clF_nil, clF_cons, ov_int, ov_bl, ov_str, ov_non, ov_tup, ov_lst, ov_scr, ov_obj, dv_int, dv_str, dv_tup, dv_lst, dv_scr, dv_obj, lv_lst, lv_scr, bin_int, bi_add, bi_sub, bi_mulL, bi_mulR, bi_mod, bi_divS, bi_pow, cbOk, cbOp, cmp_lt, cmp_le, cmp_gt, cmp_ge, cmp_eq, cmp_ne, is_non, isn_non, eq_str, ne_str, tru_bl, tru_int, tru_non, tru_lst, tru_tup, isNon, ov_cel, dv_cel, lv_cel, subs_cel, setSub_cel, subs_tup, subs_lst, subs_scr,  L2.atI, L2.ixN, callP, noEx_ok, mayW_int, f_is_integer, e1, e2, boot_int, boot_bool] <;> try simp only [bindL_un, outL_un, seqL_un])
  · have e1 : isOne G M o (.ty "int") = some false := by unfold isOne clT; rw [h1]; rfl
    (simp [↓bind_L, ↓out_L, ↓seq_L, bindL_ok, bindL_ex, bindL_no, outL_ok, outL_ex, outL_no, seqL_nx, seqL_rt, seqL_ex, seqL_bk, seqL_ct, seqL_no, Iv.execs, Iv.exec, Iv.ev, Iv.evs, Iv.evi, Iv.evN, Iv.evo, Iv.evc, Iv.sto, Iv.stos, out_ok, out_ex, seq_nx, seq_rt, seq_ex, seq_bk, seq_ct, end_nx, end_rt, end_ex, trunc_ok, trunc_ex, take_len, take_app, take_set,  clo_int, clo_bl, clo_str, clo_non, clo_scr, clo_cl, clo_tup, clo_lst, clo_obj, clo_cel, clL_nil, clL_cons, clF_nil, clF_cons, ov_int, ov_bl, ov_str, ov_non, ov_tup, ov_lst, ov_scr, ov_obj, dv_int, dv_str, dv_tup, dv_lst, dv_scr, dv_obj, lv_lst, lv_scr, bin_int, bi_add, bi_sub, bi_mulL, bi_mulR, bi_mod, bi_divS, bi_pow, cbOk, cbOp, cmp_lt, cmp_le, cmp_gt, cmp_ge, cmp_eq, cmp_ne, is_non, isn_non, eq_str, ne_str, tru_bl, tru_int, tru_non, tru_lst, tru_tup, isNon, ov_cel, dv_cel, lv_cel, subs_cel, setSub_cel, subs_tup, subs_lst, subs_scr,  L2.atI, L2.ixN, callP, noEx_ok, mayW_int, f_is_integer, e1, boot_int] <;> try simp only [bindL_un, outL_un, seqL_un])
  · have e1 : isOne G M o (.ty "int") = some false := by unfold isOne clT; rw [h1]; rfl
    (simp [↓bind_L, ↓out_L, ↓seq_L, bindL_ok, bindL_ex, bindL_no, outL_ok, outL_ex, outL_no, seqL_nx, seqL_rt, seqL_ex, seqL_bk, seqL_ct, seqL_no, Iv.execs, Iv.exec, Iv.ev, Iv.evs, Iv.evi, Iv.evN, Iv.evo, Iv.evc, Iv.sto, Iv.stos, out_ok, out_ex, seq_nx, seq_rt, seq_ex, seq_bk, seq_ct, end_nx, end_rt, end_ex, trunc_ok, trunc_ex, take_len, take_app, take_set,  clo_int, clo_bl, clo_str, clo_non, clo_scr, clo_cl, clo_tup, clo_lst, clo_obj, clo_cel, clL_nil, clL_cons, clF_nil, clF_cons, ov_int, ov_bl, ov_str, ov_non, ov_tup, ov_lst, ov_scr, ov_obj, dv_int, dv_str, dv_tup, dv_lst, dv_scr, dv_obj, lv_lst, lv_scr, bin_int, bi_add, bi_sub, bi_mulL, bi_mulR, bi_mod, bi_divS, bi_pow, cbOk, cbOp, cmp_lt, cmp_le, cmp_gt, cmp_ge, cmp_eq, cmp_ne, is_non, isn_non, eq_str, ne_str, tru_bl, tru_int, tru_non, tru_lst, tru_tup, isNon, ov_cel, dv_cel, lv_cel, subs_cel, setSub_cel, subs_tup, subs_lst, subs_scr,  L2.atI, L2.ixN, callP, noEx_ok, mayW_int, f_is_integer, e1, boot_int] <;> try simp only [bindL_un, outL_un, seqL_un])
  · have e1 : isOne G M o (.ty "int") = some false := by unfold isOne clT; rw [h1]; rfl
    (simp [↓bind_L, ↓out_L, ↓seq_L, bindL_ok, bindL_ex, bindL_no, outL_ok, outL_ex, outL_no, seqL_nx, seqL_rt, seqL_ex, seqL_bk, seqL_ct, seqL_no, Iv.execs, Iv.exec, Iv.ev, Iv.evs, Iv.evi, Iv.evN, Iv.evo, Iv.evc, Iv.sto, Iv.stos, out_ok, out_ex, seq_nx, seq_rt, seq_ex, seq_bk, seq_ct, end_nx, end_rt, end_ex, trunc_ok, trunc_ex, take_len, take_app, take_set,  clo_int, clo_bl, clo_str, clo_non, clo_scr, clo_cl, clo_tup, clo_lst, clo_obj, clo_cel, clL_nil, clL_cons, clF_nil, clF_cons, ov_int, ov_bl, ov_str, ov_non, ov_tup, ov_lst, ov_scr, ov_obj, dv_int, dv_str, dv_tup, dv_lst, dv_scr, dv_obj, lv_lst, lv_scr, bin_int, bi_add, bi_sub, bi_mulL, bi_mulR, bi_mod, bi_divS, bi_pow, cbOk, cbOp, cmp_lt, cmp_le, cmp_gt, cmp_ge, cmp_eq, cmp_ne, is_non, isn_non, eq_str, ne_str, tru_bl, tru_int, tru_non, tru_lst, tru_tup, isNon, ov_cel, dv_cel, lv_cel, subs_cel, setSub_cel, subs_tup, subs_lst, subs_scr,  L2.atI, L2.ixN, callP, noEx_ok, mayW_int, f_is_integer, e1, boot_int] <;> try simp only [bindL_un, outL_un, seqL_un])
  · have e1 : isOne G M o (.ty "int") = some false := by unfold isOne clT; rw [h1]; rfl
    (simp [↓bind_L, ↓out_L, ↓seq_L, bindL_ok, bindL_ex, bindL_no, outL_ok, outL_ex, outL_no, seqL_nx, seqL_rt, seqL_ex, seqL_bk, seqL_ct, seqL_no, Iv.execs, Iv.exec, Iv.ev, Iv.evs, Iv.evi, Iv.evN, Iv.evo, Iv.evc, Iv.sto, Iv.stos, out_ok, out_ex, seq_nx, seq_rt, seq_ex, seq_bk, seq_ct, end_nx, end_rt, end_ex, trunc_ok, trunc_ex, take_len, take_app, take_set,  clo_int, clo_bl, clo_str, clo_non, clo_scr, clo_cl, clo_tup, clo_lst, clo_obj, clo_cel, clL_nil, clL_cons, clF_nil, clF_cons, ov_int, ov_bl, ov_str, ov_non, ov_tup, ov_lst, ov_scr, ov_obj, dv_int, dv_str, dv_tup, dv_lst, dv_scr, dv_obj, lv_lst, lv_scr, bin_int, bi_add, bi_sub, bi_mulL, bi_mulR, bi_mod, bi_divS, bi_pow, cbOk, cbOp, cmp_lt, cmp_le, cmp_gt, cmp_ge, cmp_eq, cmp_ne, is_non, isn_non, eq_str, ne_str, tru_bl, tru_int, tru_non, tru_lst, tru_tup, isNon, ov_cel, dv_cel, lv_cel, subs_cel, setSub_cel, subs_tup, subs_lst, subs_scr,  L2.atI, L2.ixN, callP, noEx_ok, mayW_int, f_is_integer, e1, boot_int] <;> try simp only [bindL_un, outL_un, seqL_un])
  · have e1 : isOne G M o (.ty "int") = some false := by unfold isOne clT; rw [h1]; kernel_rfl
    (simp [↓bind_L, ↓out_L, ↓seq_L, bindL_ok, bindL_ex, bindL_no, outL_ok, outL_ex, outL_no, seqL_nx, seqL_rt, seqL_ex, seqL_bk, seqL_ct, seqL_no, Iv.execs, Iv.exec, Iv.ev, Iv.evs, Iv.evi, Iv.evN, Iv.evo, Iv.evc, Iv.sto, Iv.stos, out_ok, out_ex, seq_nx, seq_rt, seq_ex, seq_bk, seq_ct, end_nx, end_rt, end_ex, trunc_ok, trunc_ex, take_len, take_app, take_set,  clo_int, clo_bl, clo_str, clo_non, clo_scr, clo_cl, clo_tup, clo_lst, clo_obj, clo_cel, clL_nil, clL_cons, clF_nil, clF_cons, ov_int, ov_bl, ov_str, ov_non, ov_tup, ov_lst, ov_scr, ov_obj, dv_int, dv_str, dv_tup, dv_lst, dv_scr, dv_obj, lv_lst, lv_scr, bin_int, bi_add, bi_sub, bi_mulL, bi_mulR, bi_mod, bi_divS, bi_pow, cbOk, cbOp, cmp_lt, cmp_le, cmp_gt, cmp_ge, cmp_eq, cmp_ne, is_non, isn_non, eq_str, ne_str, tru_bl, tru_int, tru_non, tru_lst, tru_tup, isNon, ov_cel, dv_cel, lv_cel, subs_cel, setSub_cel, subs_tup, subs_lst, subs_scr,  L2.atI, L2.ixN, callP, noEx_ok, mayW_int, f_is_integer, e1, boot_int] <;> try simp only [bindL_un, outL_un, seqL_un])
theorem s_oth (h : Oth o) : run G (k + 2) b "is_small" [o] M = .ok (.bl false) M := by
  rw [run1 fn_is_small, callF_free (by rfl) (by rfl)]
  (simp [↓bind_L, ↓out_L, ↓seq_L, bindL_ok, bindL_ex, bindL_no, outL_ok, outL_ex, outL_no, seqL_nx, seqL_rt, seqL_ex, seqL_bk, seqL_ct, seqL_no, Iv.execs, Iv.exec, Iv.ev, Iv.evs, Iv.evi, Iv.evN, Iv.evo, Iv.evc, Iv.sto, Iv.stos, out_ok, out_ex, seq_nx, seq_rt, seq_ex, seq_bk, seq_ct, end_nx, end_rt, end_ex, trunc_ok, trunc_ex, take_len, take_app, take_set,  clo_int, clo_bl, clo_str, clo_non, clo_scr, clo_cl, clo_tup, clo_lst, clo_obj, clo_cel, clL_nil, clL_cons, clF_nil, clF_cons, ov_int, ov_bl, ov_str, ov_non, ov_tup, ov_lst, ov_scr, ov_obj, dv_int, dv_str, dv_tup, dv_lst, dv_scr, dv_obj, lv_lst, lv_scr, bin_int, bi_add, bi_sub, bi_mulL, bi_mulR, bi_mod, bi_divS, bi_pow, cbOk, cbOp, cmp_lt, cmp_le, cmp_gt, cmp_ge, cmp_eq, cmp_ne, is_non, isn_non, eq_str, ne_str, tru_bl, tru_int, tru_non, tru_lst, tru_tup, isNon, ov_cel, dv_cel, lv_cel, subs_cel, setSub_cel, subs_tup, subs_lst, subs_scr,  L2.atI, L2.ixN, callP, noEx_ok, mayW_int, f_is_small, r_oth h] <;> try simp only [bindL_un, outL_un, seqL_un])
theorem k_oth (h : Oth o) : run G (k + 2) b "is_key" [o] M = .ok (.bl false) M := by
  rw [run1 fn_is_key, callF_free (by rfl) (by rfl)]
  (simp [↓bind_L, ↓out_L, ↓seq_L, bindL_ok, bindL_ex, bindL_no, outL_ok, outL_ex, outL_no, seqL_nx, seqL_rt, seqL_ex, seqL_bk, seqL_ct, seqL_no, Iv.execs, Iv.exec, Iv.ev, Iv.evs, Iv.evi, Iv.evN, Iv.evo, Iv.evc, Iv.sto, Iv.stos, out_ok, out_ex, seq_nx, seq_rt, seq_ex, seq_bk, seq_ct, end_nx, end_rt, end_ex, trunc_ok, trunc_ex, take_len, take_app, take_set,  clo_int, clo_bl, clo_str, clo_non, clo_scr, clo_cl, clo_tup, clo_lst, clo_obj, clo_cel, clL_nil, clL_cons, clF_nil, clF_cons, ov_int, ov_bl, ov_str, ov_non, ov_tup, ov_lst, ov_scr, ov_obj, dv_int, dv_str, dv_tup, dv_lst, dv_scr, dv_obj, lv_lst, lv_scr, bin_int, bi_add, bi_sub, bi_mulL, bi_mulR, bi_mod, bi_divS, bi_pow, cbOk, cbOp, cmp_lt, cmp_le, cmp_gt, cmp_ge, cmp_eq, cmp_ne, is_non, isn_non, eq_str, ne_str, tru_bl, tru_int, tru_non, tru_lst, tru_tup, isNon, ov_cel, dv_cel, lv_cel, subs_cel, setSub_cel, subs_tup, subs_lst, subs_scr,  L2.atI, L2.ixN, callP, noEx_ok, mayW_int, f_is_key, r_oth h] <;> try simp only [bindL_un, outL_un, seqL_un])
theorem mk_l (h : Oth o) : trunc M.length (mkR G (run G (k + 3) M.length) .Formula [o, .int x] M) = .ex .NotInteger [] M := by
  have e : run G (k + 3) M.length "Formula.__init__" [.cel M.length, o, .int x] (M ++ [.obj .Formula []]) = .ex .NotInteger [] (M ++ [.obj .Formula []]) := by
    rw [run1 fn_Formula___init__, callF_keep (by rfl) (by rfl)]
    (simp [↓bind_L, ↓out_L, ↓seq_L, bindL_ok, bindL_ex, bindL_no, outL_ok, outL_ex, outL_no, seqL_nx, seqL_rt, seqL_ex, seqL_bk, seqL_ct, seqL_no, Iv.execs, Iv.exec, Iv.ev, Iv.evs, Iv.evi, Iv.evN, Iv.evo, Iv.evc, Iv.sto, Iv.stos, out_ok, out_ex, seq_nx, seq_rt, seq_ex, seq_bk, seq_ct, end_nx, end_rt, end_ex, trunc_ok, trunc_ex, take_len, take_app, take_set,  clo_int, clo_bl, clo_str, clo_non, clo_scr, clo_cl, clo_tup, clo_lst, clo_obj, clo_cel, clL_nil, clL_cons, clF_nil, clF_cons, ov_int, ov_bl, ov_str, ov_non, ov_tup, ov_lst, ov_scr, ov_obj, dv_int, dv_str, dv_tup, dv_lst, dv_scr, dv_obj, lv_lst, lv_scr, bin_int, bi_add, bi_sub, bi_mulL, bi_mulR, bi_mod, bi_divS, bi_pow, cbOk, cbOp, cmp_lt, cmp_le, cmp_gt, cmp_ge, cmp_eq, cmp_ne, is_non, isn_non, eq_str, ne_str, tru_bl, tru_int, tru_non, tru_lst, tru_tup, isNon, ov_cel, dv_cel, lv_cel, subs_cel, setSub_cel, subs_tup, subs_lst, subs_scr,  L2.atI, L2.ixN, callP, noEx_ok, mayW_int, f_Formula___init__, r_oth h, xmk, Cn.plainX] <;> try simp only [bindL_un, outL_un, seqL_un])
  unfold mkR
  simp [Cn.isX, Cn.plainX, Cn.fldX, callP, e, trunc_ex, clF_nil]
theorem mk_r (h : Oth o) : trunc M.length (mkR G (run G (k + 3) M.length) .Formula [.int x, o] M) = .ex .NotInteger [] M := by
  have e : run G (k + 3) M.length "Formula.__init__" [.cel M.length, .int x, o] (M ++ [.obj .Formula []]) = .ex .NotInteger [] (M ++ [.obj .Formula []]) := by
    rw [run1 fn_Formula___init__, callF_keep (by rfl) (by rfl)]
    (simp [↓bind_L, ↓out_L, ↓seq_L, bindL_ok, bindL_ex, bindL_no, outL_ok, outL_ex, outL_no, seqL_nx, seqL_rt, seqL_ex, seqL_bk, seqL_ct, seqL_no, Iv.execs, Iv.exec, Iv.ev, Iv.evs, Iv.evi, Iv.evN, Iv.evo, Iv.evc, Iv.sto, Iv.stos, out_ok, out_ex, seq_nx, seq_rt, seq_ex, seq_bk, seq_ct, end_nx, end_rt, end_ex, trunc_ok, trunc_ex, take_len, take_app, take_set,  clo_int, clo_bl, clo_str, clo_non, clo_scr, clo_cl, clo_tup, clo_lst, clo_obj, clo_cel, clL_nil, clL_cons, clF_nil, clF_cons, ov_int, ov_bl, ov_str, ov_non, ov_tup, ov_lst, ov_scr, ov_obj, dv_int, dv_str, dv_tup, dv_lst, dv_scr, dv_obj, lv_lst, lv_scr, bin_int, bi_add, bi_sub, bi_mulL, bi_mulR, bi_mod, bi_divS, bi_pow, cbOk, cbOp, cmp_lt, cmp_le, cmp_gt, cmp_ge, cmp_eq, cmp_ne, is_non, isn_non, eq_str, ne_str, tru_bl, tru_int, tru_non, tru_lst, tru_tup, isNon, ov_cel, dv_cel, lv_cel, subs_cel, setSub_cel, subs_tup, subs_lst, subs_scr,  L2.atI, L2.ixN, callP, noEx_ok, mayW_int, f_Formula___init__, r_oth h, r_is_integer, xmk, Cn.plainX] <;> try simp only [bindL_un, outL_un, seqL_un])
  unfold mkR
  simp [Cn.isX, Cn.plainX, Cn.fldX, callP, e, trunc_ex, clF_nil]
theorem call_x (h : ∀ M' : Me, run G (k + 2) M.length "is_key" [o] M = .ok (.bl false) M) : run G (k + 3) b "Formula.__call__" [fo t p, o] M = .ex .NotKey [] M := by
  rw [run1 fn_Formula___call__, callF_free (by rfl) (by rfl)]
  (simp [↓bind_L, ↓out_L, ↓seq_L, bindL_ok, bindL_ex, bindL_no, outL_ok, outL_ex, outL_no, seqL_nx, seqL_rt, seqL_ex, seqL_bk, seqL_ct, seqL_no, Iv.execs, Iv.exec, Iv.ev, Iv.evs, Iv.evi, Iv.evN, Iv.evo, Iv.evc, Iv.sto, Iv.stos, out_ok, out_ex, seq_nx, seq_rt, seq_ex, seq_bk, seq_ct, end_nx, end_rt, end_ex, trunc_ok, trunc_ex, take_len, take_app, take_set,  clo_int, clo_bl, clo_str, clo_non, clo_scr, clo_cl, clo_tup, clo_lst, clo_obj, clo_cel, clL_nil, clL_cons, clF_nil, clF_cons, ov_int, ov_bl, ov_str, ov_non, ov_tup, ov_lst, ov_scr, ov_obj, dv_int, dv_str, dv_tup, dv_lst, dv_scr, dv_obj, lv_lst, lv_scr, bin_int, bi_add, bi_sub, bi_mulL, bi_mulR, bi_mod, bi_divS, bi_pow, cbOk, cbOp, cmp_lt, cmp_le, cmp_gt, cmp_ge, cmp_eq, cmp_ne, is_non, isn_non, eq_str, ne_str, tru_bl, tru_int, tru_non, tru_lst, tru_tup, isNon, ov_cel, dv_cel, lv_cel, subs_cel, setSub_cel, subs_tup, subs_lst, subs_scr,  L2.atI, L2.ixN, callP, noEx_ok, mayW_int, f_Formula___call__, h M, xmk, Cn.plainX] <;> try simp only [bindL_un, outL_un, seqL_un])
/-- what is no formula, and no small integer -/
structure NF (o : D) : Prop where
  is : ∀ M, isOne G M o (.cl .Formula) = some false
  sm : ∀ (k b : Nat) (M : Me), run G (k + 2) b "is_small" [o] M = .ok (.bl false) M
theorem nf_x (h : NF o) : run G (k + 3) b "numbers_of" [o] M = .ex .NotFormula [] M := by
  rw [run1 fn_numbers_of, callF_free (by rfl) (by rfl)]
  (simp [↓bind_L, ↓out_L, ↓seq_L, bindL_ok, bindL_ex, bindL_no, outL_ok, outL_ex, outL_no, seqL_nx, seqL_rt, seqL_ex, seqL_bk, seqL_ct, seqL_no, Iv.execs, Iv.exec, Iv.ev, Iv.evs, Iv.evi, Iv.evN, Iv.evo, Iv.evc, Iv.sto, Iv.stos, out_ok, out_ex, seq_nx, seq_rt, seq_ex, seq_bk, seq_ct, end_nx, end_rt, end_ex, trunc_ok, trunc_ex, take_len, take_app, take_set,  clo_int, clo_bl, clo_str, clo_non, clo_scr, clo_cl, clo_tup, clo_lst, clo_obj, clo_cel, clL_nil, clL_cons, clF_nil, clF_cons, ov_int, ov_bl, ov_str, ov_non, ov_tup, ov_lst, ov_scr, ov_obj, dv_int, dv_str, dv_tup, dv_lst, dv_scr, dv_obj, lv_lst, lv_scr, bin_int, bi_add, bi_sub, bi_mulL, bi_mulR, bi_mod, bi_divS, bi_pow, cbOk, cbOp, cmp_lt, cmp_le, cmp_gt, cmp_ge, cmp_eq, cmp_ne, is_non, isn_non, eq_str, ne_str, tru_bl, tru_int, tru_non, tru_lst, tru_tup, isNon, ov_cel, dv_cel, lv_cel, subs_cel, setSub_cel, subs_tup, subs_lst, subs_scr,  L2.atI, L2.ixN, callP, noEx_ok, mayW_int, f_numbers_of, h.is, h.sm, xmk, Cn.plainX] <;> try simp only [bindL_un, outL_un, seqL_un])
theorem add_x (h : NF o) : run G (k + 4) b "Formula.__add__" [fo t p, o] M = .ex .NotFormula [] M := by
  rw [run1 fn_Formula___add__, callF_free (by rfl) (by rfl)]
  (simp [↓bind_L, ↓out_L, ↓seq_L, bindL_ok, bindL_ex, bindL_no, outL_ok, outL_ex, outL_no, seqL_nx, seqL_rt, seqL_ex, seqL_bk, seqL_ct, seqL_no, Iv.execs, Iv.exec, Iv.ev, Iv.evs, Iv.evi, Iv.evN, Iv.evo, Iv.evc, Iv.sto, Iv.stos, out_ok, out_ex, seq_nx, seq_rt, seq_ex, seq_bk, seq_ct, end_nx, end_rt, end_ex, trunc_ok, trunc_ex, take_len, take_app, take_set,  clo_int, clo_bl, clo_str, clo_non, clo_scr, clo_cl, clo_tup, clo_lst, clo_obj, clo_cel, clL_nil, clL_cons, clF_nil, clF_cons, ov_int, ov_bl, ov_str, ov_non, ov_tup, ov_lst, ov_scr, ov_obj, dv_int, dv_str, dv_tup, dv_lst, dv_scr, dv_obj, lv_lst, lv_scr, bin_int, bi_add, bi_sub, bi_mulL, bi_mulR, bi_mod, bi_divS, bi_pow, cbOk, cbOp, cmp_lt, cmp_le, cmp_gt, cmp_ge, cmp_eq, cmp_ne, is_non, isn_non, eq_str, ne_str, tru_bl, tru_int, tru_non, tru_lst, tru_tup, isNon, ov_cel, dv_cel, lv_cel, subs_cel, setSub_cel, subs_tup, subs_lst, subs_scr,  L2.atI, L2.ixN, callP, noEx_ok, mayW_int, f_Formula___add__, nf_x h] <;> try simp only [bindL_un, outL_un, seqL_un])
theorem radd_x (h : NF o) : run G (k + 4) b "Formula.__radd__" [fo t p, o] M = .ex .NotFormula [] M := by
  rw [run1 fn_Formula___radd__, callF_free (by rfl) (by rfl)]
  (simp [↓bind_L, ↓out_L, ↓seq_L, bindL_ok, bindL_ex, bindL_no, outL_ok, outL_ex, outL_no, seqL_nx, seqL_rt, seqL_ex, seqL_bk, seqL_ct, seqL_no, Iv.execs, Iv.exec, Iv.ev, Iv.evs, Iv.evi, Iv.evN, Iv.evo, Iv.evc, Iv.sto, Iv.stos, out_ok, out_ex, seq_nx, seq_rt, seq_ex, seq_bk, seq_ct, end_nx, end_rt, end_ex, trunc_ok, trunc_ex, take_len, take_app, take_set,  clo_int, clo_bl, clo_str, clo_non, clo_scr, clo_cl, clo_tup, clo_lst, clo_obj, clo_cel, clL_nil, clL_cons, clF_nil, clF_cons, ov_int, ov_bl, ov_str, ov_non, ov_tup, ov_lst, ov_scr, ov_obj, dv_int, dv_str, dv_tup, dv_lst, dv_scr, dv_obj, lv_lst, lv_scr, bin_int, bi_add, bi_sub, bi_mulL, bi_mulR, bi_mod, bi_divS, bi_pow, cbOk, cbOp, cmp_lt, cmp_le, cmp_gt, cmp_ge, cmp_eq, cmp_ne, is_non, isn_non, eq_str, ne_str, tru_bl, tru_int, tru_non, tru_lst, tru_tup, isNon, ov_cel, dv_cel, lv_cel, subs_cel, setSub_cel, subs_tup, subs_lst, subs_scr,  L2.atI, L2.ixN, callP, noEx_ok, mayW_int, f_Formula___radd__, nf_x h] <;> try simp only [bindL_un, outL_un, seqL_un])
theorem sub_x (h : NF o) : run G (k + 4) b "Formula.__sub__" [fo t p, o] M = .ex .NotFormula [] M := by
  rw [run1 fn_Formula___sub__, callF_free (by rfl) (by rfl)]
  (simp [↓bind_L, ↓out_L, ↓seq_L, bindL_ok, bindL_ex, bindL_no, outL_ok, outL_ex, outL_no, seqL_nx, seqL_rt, seqL_ex, seqL_bk, seqL_ct, seqL_no, Iv.execs, Iv.exec, Iv.ev, Iv.evs, Iv.evi, Iv.evN, Iv.evo, Iv.evc, Iv.sto, Iv.stos, out_ok, out_ex, seq_nx, seq_rt, seq_ex, seq_bk, seq_ct, end_nx, end_rt, end_ex, trunc_ok, trunc_ex, take_len, take_app, take_set,  clo_int, clo_bl, clo_str, clo_non, clo_scr, clo_cl, clo_tup, clo_lst, clo_obj, clo_cel, clL_nil, clL_cons, clF_nil, clF_cons, ov_int, ov_bl, ov_str, ov_non, ov_tup, ov_lst, ov_scr, ov_obj, dv_int, dv_str, dv_tup, dv_lst, dv_scr, dv_obj, lv_lst, lv_scr, bin_int, bi_add, bi_sub, bi_mulL, bi_mulR, bi_mod, bi_divS, bi_pow, cbOk, cbOp, cmp_lt, cmp_le, cmp_gt, cmp_ge, cmp_eq, cmp_ne, is_non, isn_non, eq_str, ne_str, tru_bl, tru_int, tru_non, tru_lst, tru_tup, isNon, ov_cel, dv_cel, lv_cel, subs_cel, setSub_cel, subs_tup, subs_lst, subs_scr,  L2.atI, L2.ixN, callP, noEx_ok, mayW_int, f_Formula___sub__, nf_x h] <;> try simp only [bindL_un, outL_un, seqL_un])
theorem rsub_x (h : NF o) : run G (k + 4) b "Formula.__rsub__" [fo t p, o] M = .ex .NotFormula [] M := by
  rw [run1 fn_Formula___rsub__, callF_free (by rfl) (by rfl)]
  (simp [↓bind_L, ↓out_L, ↓seq_L, bindL_ok, bindL_ex, bindL_no, outL_ok, outL_ex, outL_no, seqL_nx, seqL_rt, seqL_ex, seqL_bk, seqL_ct, seqL_no, Iv.execs, Iv.exec, Iv.ev, Iv.evs, Iv.evi, Iv.evN, Iv.evo, Iv.evc, Iv.sto, Iv.stos, out_ok, out_ex, seq_nx, seq_rt, seq_ex, seq_bk, seq_ct, end_nx, end_rt, end_ex, trunc_ok, trunc_ex, take_len, take_app, take_set,  clo_int, clo_bl, clo_str, clo_non, clo_scr, clo_cl, clo_tup, clo_lst, clo_obj, clo_cel, clL_nil, clL_cons, clF_nil, clF_cons, ov_int, ov_bl, ov_str, ov_non, ov_tup, ov_lst, ov_scr, ov_obj, dv_int, dv_str, dv_tup, dv_lst, dv_scr, dv_obj, lv_lst, lv_scr, bin_int, bi_add, bi_sub, bi_mulL, bi_mulR, bi_mod, bi_divS, bi_pow, cbOk, cbOp, cmp_lt, cmp_le, cmp_gt, cmp_ge, cmp_eq, cmp_ne, is_non, isn_non, eq_str, ne_str, tru_bl, tru_int, tru_non, tru_lst, tru_tup, isNon, ov_cel, dv_cel, lv_cel, subs_cel, setSub_cel, subs_tup, subs_lst, subs_scr,  L2.atI, L2.ixN, callP, noEx_ok, mayW_int, f_Formula___rsub__, nf_x h] <;> try simp only [bindL_un, outL_un, seqL_un])
theorem mul_x (h : ∀ (k b : Nat) (M : Me), run G (k + 2) b "is_small" [o] M = .ok (.bl false) M) : run G (k + 4) b "Formula.__mul__" [fo t p, o] M = .ex .NotFormula [] M := by
  rw [run1 fn_Formula___mul__, callF_free (by rfl) (by rfl)]
  (simp [↓bind_L, ↓out_L, ↓seq_L, bindL_ok, bindL_ex, bindL_no, outL_ok, outL_ex, outL_no, seqL_nx, seqL_rt, seqL_ex, seqL_bk, seqL_ct, seqL_no, Iv.execs, Iv.exec, Iv.ev, Iv.evs, Iv.evi, Iv.evN, Iv.evo, Iv.evc, Iv.sto, Iv.stos, out_ok, out_ex, seq_nx, seq_rt, seq_ex, seq_bk, seq_ct, end_nx, end_rt, end_ex, trunc_ok, trunc_ex, take_len, take_app, take_set,  clo_int, clo_bl, clo_str, clo_non, clo_scr, clo_cl, clo_tup, clo_lst, clo_obj, clo_cel, clL_nil, clL_cons, clF_nil, clF_cons, ov_int, ov_bl, ov_str, ov_non, ov_tup, ov_lst, ov_scr, ov_obj, dv_int, dv_str, dv_tup, dv_lst, dv_scr, dv_obj, lv_lst, lv_scr, bin_int, bi_add, bi_sub, bi_mulL, bi_mulR, bi_mod, bi_divS, bi_pow, cbOk, cbOp, cmp_lt, cmp_le, cmp_gt, cmp_ge, cmp_eq, cmp_ne, is_non, isn_non, eq_str, ne_str, tru_bl, tru_int, tru_non, tru_lst, tru_tup, isNon, ov_cel, dv_cel, lv_cel, subs_cel, setSub_cel, subs_tup, subs_lst, subs_scr,  L2.atI, L2.ixN, callP, noEx_ok, mayW_int, f_Formula___mul__, h, xmk, Cn.plainX] <;> try simp only [bindL_un, outL_un, seqL_un])
theorem rmul_x (h : ∀ (k b : Nat) (M : Me), run G (k + 2) b "is_small" [o] M = .ok (.bl false) M) : run G (k + 4) b "Formula.__rmul__" [fo t p, o] M = .ex .NotFormula [] M := by
  rw [run1 fn_Formula___rmul__, callF_free (by rfl) (by rfl)]
  (simp [↓bind_L, ↓out_L, ↓seq_L, bindL_ok, bindL_ex, bindL_no, outL_ok, outL_ex, outL_no, seqL_nx, seqL_rt, seqL_ex, seqL_bk, seqL_ct, seqL_no, Iv.execs, Iv.exec, Iv.ev, Iv.evs, Iv.evi, Iv.evN, Iv.evo, Iv.evc, Iv.sto, Iv.stos, out_ok, out_ex, seq_nx, seq_rt, seq_ex, seq_bk, seq_ct, end_nx, end_rt, end_ex, trunc_ok, trunc_ex, take_len, take_app, take_set,  clo_int, clo_bl, clo_str, clo_non, clo_scr, clo_cl, clo_tup, clo_lst, clo_obj, clo_cel, clL_nil, clL_cons, clF_nil, clF_cons, ov_int, ov_bl, ov_str, ov_non, ov_tup, ov_lst, ov_scr, ov_obj, dv_int, dv_str, dv_tup, dv_lst, dv_scr, dv_obj, lv_lst, lv_scr, bin_int, bi_add, bi_sub, bi_mulL, bi_mulR, bi_mod, bi_divS, bi_pow, cbOk, cbOp, cmp_lt, cmp_le, cmp_gt, cmp_ge, cmp_eq, cmp_ne, is_non, isn_non, eq_str, ne_str, tru_bl, tru_int, tru_non, tru_lst, tru_tup, isNon, ov_cel, dv_cel, lv_cel, subs_cel, setSub_cel, subs_tup, subs_lst, subs_scr,  L2.atI, L2.ixN, callP, noEx_ok, mayW_int, f_Formula___rmul__, h, xmk, Cn.plainX] <;> try simp only [bindL_un, outL_un, seqL_un])
theorem pow_x {m : Int} (h : 60 < m) : run G (k + 4) b "Formula.__pow__" [fo t p, .int m] M = .ex .NotInteger [] M := by
  have h0 : (0 : Int) ≤ m := by omega
  have h1 : ¬ m ≤ 60 := by omega
  rw [run1 fn_Formula___pow__, callF_free (by rfl) (by rfl)]
  (simp [↓bind_L, ↓out_L, ↓seq_L, bindL_ok, bindL_ex, bindL_no, outL_ok, outL_ex, outL_no, seqL_nx, seqL_rt, seqL_ex, seqL_bk, seqL_ct, seqL_no, Iv.execs, Iv.exec, Iv.ev, Iv.evs, Iv.evi, Iv.evN, Iv.evo, Iv.evc, Iv.sto, Iv.stos, out_ok, out_ex, seq_nx, seq_rt, seq_ex, seq_bk, seq_ct, end_nx, end_rt, end_ex, trunc_ok, trunc_ex, take_len, take_app, take_set,  clo_int, clo_bl, clo_str, clo_non, clo_scr, clo_cl, clo_tup, clo_lst, clo_obj, clo_cel, clL_nil, clL_cons, clF_nil, clF_cons, ov_int, ov_bl, ov_str, ov_non, ov_tup, ov_lst, ov_scr, ov_obj, dv_int, dv_str, dv_tup, dv_lst, dv_scr, dv_obj, lv_lst, lv_scr, bin_int, bi_add, bi_sub, bi_mulL, bi_mulR, bi_mod, bi_divS, bi_pow, cbOk, cbOp, cmp_lt, cmp_le, cmp_gt, cmp_ge, cmp_eq, cmp_ne, is_non, isn_non, eq_str, ne_str, tru_bl, tru_int, tru_non, tru_lst, tru_tup, isNon, ov_cel, dv_cel, lv_cel, subs_cel, setSub_cel, subs_tup, subs_lst, subs_scr,  L2.atI, L2.ixN, callP, noEx_ok, mayW_int, f_Formula___pow__, r_is_integer, h0, h1, xmk, Cn.plainX] <;> try simp only [bindL_un, outL_un, seqL_un])
theorem said_x {C : Cn} {w : Str} (h1 : (G.has C && C.isX) = true) (h2 : saidD C [] = some (.tup [.str w])) : saidR G (.ex C [] M) = .ok (.tup [.str w]) M := by
  show (if (G.has C && C.isX) = true then R.of M (saidD C []) else .no) = _
  rw [if_pos h1, h2]
  rfl
theorem sd_int : saidR G (.ex .NotInteger [] M) = .ok (.tup [.str "integer"]) M := said_x (by kernel_rfl) (by kernel_rfl)
theorem sd_key : saidR G (.ex .NotKey [] M) = .ok (.tup [.str "key"]) M := said_x (by kernel_rfl) (by kernel_rfl)
theorem sd_form : saidR G (.ex .NotFormula [] M) = .ok (.tup [.str "formula"]) M := said_x (by kernel_rfl) (by kernel_rfl)
theorem sd_large : saidR G (.ex .TooLarge [] M) = .ok (.tup [.str "large"]) M := said_x (by kernel_rfl) (by kernel_rfl)
end
end Lw
namespace Lw
open Iv
open PySem (Str Operator CmpOp)
section
variable {k b c : Nat} {M : Me} {t p x i n : Int} {o : D}
def things : List D := [.non, .bl true, .bl false, .str "", .str "1", .str "none", .tup [], .lst [], .dct [], .tup [.int 1], .lst [.int 1], .dct [(.inl 1, .int 1)], .tup [.non], .tup [.tup [.int 1, .int 2]], .lst [.tup [.int 1, .int 2]], .tup [.str "1"], .tup [.int 1, .bl true], .tup [.bl true], .tup [.lst [.int 1]], .str "1>2"]
theorem r_things : run G (k + 1) b "_law_things" [] M = .ok (.lst things) M := by
  refine run_rt (M1 := M) fn__law_things (by rfl) (by rfl) ?_ rfl take_len
  refine execs_nx (g1 := [some (.lst (things.take 16))]) (M1 := M) (by (simp [↓bind_L, ↓out_L, ↓seq_L, bindL_ok, bindL_ex, bindL_no, outL_ok, outL_ex, outL_no, seqL_nx, seqL_rt, seqL_ex, seqL_bk, seqL_ct, seqL_no, Iv.execs, Iv.exec, Iv.ev, Iv.evs, Iv.evi, Iv.evN, Iv.evo, Iv.evc, Iv.sto, Iv.stos, out_ok, out_ex, seq_nx, seq_rt, seq_ex, seq_bk, seq_ct, end_nx, end_rt, end_ex, trunc_ok, trunc_ex, take_len, take_app, take_set,  clo_int, clo_bl, clo_str, clo_non, clo_scr, clo_cl, clo_tup, clo_lst, clo_obj, clo_cel, clL_nil, clL_cons, clF_nil, clF_cons, ov_int, ov_bl, ov_str, ov_non, ov_tup, ov_lst, ov_scr, ov_obj, dv_int, dv_str, dv_tup, dv_lst, dv_scr, dv_obj, lv_lst, lv_scr, bin_int, bi_add, bi_sub, bi_mulL, bi_mulR, bi_mod, bi_divS, bi_pow, cbOk, cbOp, cmp_lt, cmp_le, cmp_gt, cmp_ge, cmp_eq, cmp_ne, is_non, isn_non, eq_str, ne_str, tru_bl, tru_int, tru_non, tru_lst, tru_tup, isNon, ov_cel, dv_cel, lv_cel, subs_cel, setSub_cel, subs_tup, subs_lst, subs_scr,  L2.atI, L2.ixN, callP, noEx_ok, mayW_int, f__law_things, things, maxL] <;> try simp only [bindL_un, outL_un, seqL_un])) ?_
  exact execs_rt (by (simp [↓bind_L, ↓out_L, ↓seq_L, bindL_ok, bindL_ex, bindL_no, outL_ok, outL_ex, outL_no, seqL_nx, seqL_rt, seqL_ex, seqL_bk, seqL_ct, seqL_no, Iv.execs, Iv.exec, Iv.ev, Iv.evs, Iv.evi, Iv.evN, Iv.evo, Iv.evc, Iv.sto, Iv.stos, out_ok, out_ex, seq_nx, seq_rt, seq_ex, seq_bk, seq_ct, end_nx, end_rt, end_ex, trunc_ok, trunc_ex, take_len, take_app, take_set,  clo_int, clo_bl, clo_str, clo_non, clo_scr, clo_cl, clo_tup, clo_lst, clo_obj, clo_cel, clL_nil, clL_cons, clF_nil, clF_cons, ov_int, ov_bl, ov_str, ov_non, ov_tup, ov_lst, ov_scr, ov_obj, dv_int, dv_str, dv_tup, dv_lst, dv_scr, dv_obj, lv_lst, lv_scr, bin_int, bi_add, bi_sub, bi_mulL, bi_mulR, bi_mod, bi_divS, bi_pow, cbOk, cbOp, cmp_lt, cmp_le, cmp_gt, cmp_ge, cmp_eq, cmp_ne, is_non, isn_non, eq_str, ne_str, tru_bl, tru_int, tru_non, tru_lst, tru_tup, isNon, ov_cel, dv_cel, lv_cel, subs_cel, setSub_cel, subs_tup, subs_lst, subs_scr,  L2.atI, L2.ixN, callP, noEx_ok, mayW_int, things, maxL, bin_lst] <;> try simp only [bindL_un, outL_un, seqL_un]))
structure Bd (o : D) : Prop where
  oth : Oth o
  isf : ∀ M, isOne G M o (.cl .Formula) = some false
  ref : ∀ M, refOk M o = true
  ty : ∀ M, (tyR M o).isSome = true
  ovn : ∀ M, ov M o = none
  it : ∀ i, o ≠ .int i
  st : ∀ i, o ≠ .str i ∨ True
theorem bd_of (h : o ∈ things) : Bd o := by
  simp only [things, List.mem_cons, List.not_mem_nil, or_false] at h
  rcases h with rfl | rfl | rfl | rfl | rfl | rfl | rfl | rfl | rfl | rfl | rfl | rfl | rfl | rfl | rfl | rfl | rfl | rfl | rfl | rfl <;>
    exact ⟨fun M => ⟨_, rfl, by simp⟩, fun M => by unfold isOne tyT clT; simp [isB, tyNs], fun M => rfl, fun M => rfl, fun M => rfl, fun i => by simp, fun i => .inr trivial⟩
theorem oth_fo : Oth (fo t p) := fun M => ⟨.c .Formula, by
  show (if (G.has .Formula && !Cn.Formula.isX) = true then some (Tn.c .Formula) else none) = _
  rw [if_pos (by kernel_rfl)], by simp⟩
theorem Bd.nf (h : Bd o) : NF o := ⟨h.isf, fun k b M => s_oth h.oth⟩
end
end Lw
namespace Lw
open Iv
open PySem (Str Operator CmpOp)
section
variable {k b c : Nat} {M : Me} {t p x i n : Int} {o : D}
/-! the operators -/
theorem bop (hd : (tyR M o).isSome = true) {op : Operator} {n nr f : Str} (hn : opNm op = some (n, nr)) (hf : G.find .Formula n = some (.me f)) {cf : Cf} : binOp G cf op (fo t p) o M = callP G cf f [fo t p, o] M := by
  have e : binOp G cf op (fo t p) o M = (match opNm op with | some (n, _) => if ((tyR M o).isSome || sameC M .Formula o) = true then dun G cf M (fo t p) n [o] else .no | none => .no) := rfl
  rw [e, hn]
  dsimp only
  rw [if_pos (by rw [hd]; rfl), dun_fo hf]
theorem b_addx (h : NF o) (hd : (tyR M o).isSome = true) : binOp G (run G (k + 4) b) .Add (fo t p) o M = .ex .NotFormula [] M := by
  rw [bop hd rfl gf_Formula___add__, callP, ck_Formula___add___0, add_x h]
theorem b_subx (h : NF o) (hd : (tyR M o).isSome = true) : binOp G (run G (k + 4) b) .Sub (fo t p) o M = .ex .NotFormula [] M := by
  rw [bop hd rfl gf_Formula___sub__, callP, ck_Formula___sub___0, sub_x h]
theorem b_mulx (h : ∀ (k b : Nat) (M : Me), run G (k + 2) b "is_small" [o] M = .ok (.bl false) M) (hd : (tyR M o).isSome = true) : binOp G (run G (k + 4) b) .Mult (fo t p) o M = .ex .NotFormula [] M := by
  rw [bop hd rfl gf_Formula___mul__, callP, ck_Formula___mul___0, mul_x h]
theorem b_addf : binOp G (run G (k + 4) b) .Add (fo t p) (fo t p) M = mkr (t + t) (p + p) M := by
  have e : binOp G (run G (k + 4) b) .Add (fo t p) (fo t p) M = dun G (run G (k + 4) b) M (fo t p) "__add__" [fo t p] := rfl
  rw [e, dun_fo gf_Formula___add__, callP, ck_Formula___add___0, r_add r_nof]
theorem b_subf : binOp G (run G (k + 4) b) .Sub (fo t p) (fo t p) M = mkr (t - t) (p - p) M := by
  have e : binOp G (run G (k + 4) b) .Sub (fo t p) (fo t p) M = dun G (run G (k + 4) b) M (fo t p) "__sub__" [fo t p] := rfl
  rw [e, dun_fo gf_Formula___sub__, callP, ck_Formula___sub___0, r_sub r_nof]
theorem b_mulf : binOp G (run G (k + 4) b) .Mult (fo t p) (fo t p) M = .ex .NotFormula [] M := by
  have e : binOp G (run G (k + 4) b) .Mult (fo t p) (fo t p) M = dun G (run G (k + 4) b) M (fo t p) "__mul__" [fo t p] := rfl
  rw [e, dun_fo gf_Formula___mul__, callP, ck_Formula___mul___0, mul_x fun k b M => s_oth oth_fo]
theorem b_powx {m : Int} (h : 60 < m) : binOp G (run G (k + 4) b) .Pow (fo t p) (.int m) M = .ex .NotInteger [] M := by
  rw [bop rfl rfl gf_Formula___pow__, callP, ck_Formula___pow___0, pow_x h]
/-- the other operand on the left -/
structure Lf (o : D) : Prop where
  l : ∀ {M : Me} {op : Operator} {n nr f : Str} {cf : Cf} {t p : Int}, op ≠ .Pow → opNm op = some (n, nr) → G.find .Formula nr = some (.me f) → binOp G cf op o (fo t p) M = callP G cf f [fo t p, o] M
theorem hasO_fo : hasO G M (fo t p) = true := by
  unfold hasO
  rw [ov_fo]
  exact gh_Formula
theorem lf_non : Lf .non := ⟨fun {M op n nr f cf t p} h0 hn hf => by
  have e : binOp G cf op .non (fo t p) M = (match opNm op with | some (_, n) => if op = .Pow ∨ hasO G M (fo t p) = false then .no else dun G cf M (fo t p) n [.non] | none => .no) := by
    cases op <;> rfl
  rw [e, hn]
  dsimp only
  rw [if_neg (by rw [hasO_fo]; simp [h0]), dun_fo hf]⟩
theorem lf_bl {z : Bool} : Lf (.bl z) := ⟨fun {M op n nr f cf t p} h0 hn hf => by
  have e : binOp G cf op (.bl z) (fo t p) M = (match opNm op with | some (_, n) => if op = .Pow ∨ hasO G M (fo t p) = false then .no else dun G cf M (fo t p) n [.bl z] | none => .no) := by
    cases op <;> rfl
  rw [e, hn]
  dsimp only
  rw [if_neg (by rw [hasO_fo]; simp [h0]), dun_fo hf]⟩
theorem lf_int {z : Int} : Lf (.int z) := ⟨fun {M op n nr f cf t p} h0 hn hf => by
  have e : binOp G cf op (.int z) (fo t p) M = (match opNm op with | some (_, n) => if op = .Pow then .no else dun G cf M (fo t p) n [.int z] | none => .no) := by
    cases op <;> rfl
  rw [e, hn]
  dsimp only
  rw [if_neg h0, dun_fo hf]⟩
end
end Lw
namespace Lw
open Iv
open PySem (Str Operator CmpOp)
section
variable {k b c : Nat} {M : Me} {t p x i n : Int} {o : D}
/-! lists of words -/
theorem ne_lists {xs ys : List D} {cf : Cf} (h : eqP [] (.lst xs) (.lst ys) = some true) : cmpOp G cf .NotEq (.lst xs) (.lst ys) M = .ok false M := by
  have e : eqP M (.lst xs) (.lst ys) = eqP [] (.lst xs) (.lst ys) := rfl
  show R.of M ((eqP M (.lst xs) (.lst ys)).map (!·)) = _
  rw [e, h]
  rfl
theorem ne_cell {xs ys : List D} {cf : Cf} (hc : M[c]? = some (.lst xs)) (h : eqP [] (.lst xs) (.lst ys) = some true) : cmpOp G cf .NotEq (.cel c) (.lst ys) M = .ok false M := by
  have e : eqP M (.cel c) (.lst ys) = eqP [] (.lst xs) (.lst ys) := by
    unfold eqP pdM
    simp only [hc]
    rfl
  have e2 : cmpOp G cf .NotEq (.cel c) (.lst ys) M = (match ov M (.cel c) with
    | some (C, _) => if eqTo G M C (.lst ys) = true then (bolR (dun G cf M (.cel c) "__eq__" [.lst ys])).bind fun z M => .ok (!z) M else .no
    | none => R.of M ((eqP M (.cel c) (.lst ys)).map (!·))) := rfl
  rw [e2, ov_cell hc, e, h]
  rfl
theorem bin_rep {xs : List D} {n : Int} {cf : Cf} (h : 0 ≤ n ∧ n < 100) (hl : xs.length ≤ 10) : binOp G cf .Mult (.lst xs) (.int n) M = .ok (.lst (List.replicate n.toNat xs).flatten) M := by
  have e : binOp G cf .Mult (.lst xs) (.int n) M = (if Operator.Mult = .Mult ∧ -(2 ^ 63) ≤ n ∧ n < 2 ^ 63 ∧ xs.length * n.toNat ≤ maxL then .ok (.lst (List.replicate n.toNat xs).flatten) M else .no) := rfl
  rw [e, if_pos]
  refine ⟨rfl, by omega, by omega, ?_⟩
  have : xs.length * n.toNat ≤ 10 * 100 := Nat.mul_le_mul hl (by omega)
  unfold maxL
  omega
theorem get_app {M : Me} {v : Ce} : (M ++ [v])[M.length]? = some v := by simp
theorem set_app {M : Me} {v w : Ce} : (M ++ [v]).set M.length w = M ++ [w] := by simp
end
end Lw
namespace Lw
open Iv
open PySem (Str Operator CmpOp)
section
variable {k b c : Nat} {M : Me} {t p x i n : Int} {o : D}
theorem app_g {cf : Nat → Cf} {g : Ga} {i : Nat} {xs : List D} {e : Ex} {d : D} (hb : b ≤ M.length) (hg : g[i]? = some (some (.cel M.length))) (hl : xs.length < 100000) (he : ∀ M', saidR G (ev G cf b e g M') = .ok d M') : exec G cf b (.ex (.bm (.v i) .append [(.said e)])) g (M ++ [.lst xs]) = .nx g (M ++ [.lst (xs ++ [d])]) := by
  (simp [↓bind_L, ↓out_L, ↓seq_L, bindL_ok, bindL_ex, bindL_no, outL_ok, outL_ex, outL_no, seqL_nx, seqL_rt, seqL_ex, seqL_bk, seqL_ct, seqL_no, Iv.execs, Iv.exec, Iv.ev, Iv.evs, Iv.evi, Iv.evN, Iv.evo, Iv.evc, Iv.sto, Iv.stos, out_ok, out_ex, seq_nx, seq_rt, seq_ex, seq_bk, seq_ct, end_nx, end_rt, end_ex, trunc_ok, trunc_ex, take_len, take_app, take_set,  clo_int, clo_bl, clo_str, clo_non, clo_scr, clo_cl, clo_tup, clo_lst, clo_obj, clo_cel, clL_nil, clL_cons, clF_nil, clF_cons, ov_int, ov_bl, ov_str, ov_non, ov_tup, ov_lst, ov_scr, ov_obj, dv_int, dv_str, dv_tup, dv_lst, dv_scr, dv_obj, lv_lst, lv_scr, bin_int, bi_add, bi_sub, bi_mulL, bi_mulR, bi_mod, bi_divS, bi_pow, cbOk, cbOp, cmp_lt, cmp_le, cmp_gt, cmp_ge, cmp_eq, cmp_ne, is_non, isn_non, eq_str, ne_str, tru_bl, tru_int, tru_non, tru_lst, tru_tup, isNon, ov_cel, dv_cel, lv_cel, subs_cel, setSub_cel, subs_tup, subs_lst, subs_scr,  L2.atI, L2.ixN, callP, noEx_ok, mayW_int, hg, he, recvB, bmT, bmOp, get_app, set_app, hl, maxL, mayW, hb] <;> try simp only [bindL_un, outL_un, seqL_un])
theorem ne_word {x : Str} {cf : Cf} : cmpOp G cf .NotEq (.tup [.str x]) (.tup [.str x]) M = .ok (!(PySem.PyData.eqv (.tuple [.str x]) (.tuple [.str x]))) M ∨ True := .inr trivial
theorem ne_form {cf : Cf} : cmpOp G cf .NotEq (.tup [.str "formula"]) (.tup [.str "formula"]) M = .ok false M := by
  have e : eqP M (.tup [.str "formula"]) (.tup [.str "formula"]) = some true := by kernel_rfl
  show R.of M ((eqP M (.tup [.str "formula"]) (.tup [.str "formula"])).map (!·)) = _
  rw [e]
  rfl
def w4 : List D := [.tup [.str "integer"], .tup [.str "integer"], .tup [.str "integer"], .tup [.str "integer"], .tup [.str "key"]]
def body1 : List Sm := match f_law.body with | [.for _ _ (_ :: _ :: _ :: .for _ _ bd :: _), _] => bd | _ => []
def gB (ns : List Int) (n t p : Int) (a2 a4 a5 : Option D) : Ga := [some (.scr ns), some (.int n), a2, some (fo t p), a4, a5, some (.int t), some (.int p)]
end
end Lw
namespace Lw
open Iv
open PySem (Str Operator CmpOp)
section
variable {k b c : Nat} {M : Me} {t p x i n : Int} {o : D}
theorem ne_own (h : Bd o) : cmpOp G (run G (k + 1) b) .NotEq o (fo t p) M = .ok true M := by
  have e : cmpOp G (run G (k + 1) b) .NotEq o (fo t p) M = (if (refOk M o && hasO G M (fo t p)) = true then (bolR (dun G (run G (k + 1) b) M (fo t p) "__eq__" [o])).bind fun z M => .ok (!z) M else .no) := by
    have e1 : cmpOp G (run G (k + 1) b) .NotEq o (fo t p) M = (match ov M o with
      | some (C, _) => if eqTo G M C (fo t p) = true then (bolR (dun G (run G (k + 1) b) M o "__eq__" [fo t p])).bind fun z M => .ok (!z) M else .no
      | none => (match ov M (fo t p) with
        | some _ => if (refOk M o && hasO G M (fo t p)) = true then (bolR (dun G (run G (k + 1) b) M (fo t p) "__eq__" [o])).bind fun z M => .ok (!z) M else .no
        | none => R.of M ((eqP M o (fo t p)).map (!·)))) := by
      cases o <;> rfl
    rw [e1, h.ovn M, ov_fo]
  rw [e, if_pos (by rw [h.ref, hasO_fo]; rfl), dun_fo gf_Formula___eq__, callP, ck_Formula___eq___0, r_eqN (h.isf M) fun _ => .inr trivial]
  rfl
end
end Lw
namespace Lw
open Iv
open PySem (Str Operator CmpOp)
section
variable {k b c : Nat} {M : Me} {t p x i n : Int} {o : D}
def tail1 : List Sm := [.asg (.nm 5) (.cel (.lst [(.said (.bin .Add (.v 3) (.v 4)))])), .ex (.bm (.v 5) .append [(.said (.bin .Sub (.v 3) (.v 4)))]), .ifs (.or (.and (.cmp .NotEq (.v 4) (.v 3)) (.cmp .NotEq (.v 5) (.bin .Mult (.lst [(.tup [(.str "formula")])]) (.int 2)))) (.cmp .NotEq (.said (.bin .Mult (.v 3) (.v 4))) (.tup [(.str "formula")]))) [.ret (.bl false)] []]
def head1 (r : List Sm) : List Sm := .asg (.nm 5) (.cel (.lst [(.said (.frz (.mk .Formula [(.v 4), (.v 7)])))])) :: .ex (.bm (.v 5) .append [(.said (.frz (.mk .Formula [(.v 6), (.v 4)])))]) :: .ex (.bm (.v 5) .append [(.said (.frz (.mk .Formula [(.bin .Pow (.int 10) (.int 15)), (.v 4)])))]) :: .ex (.bm (.v 5) .append [(.said (.frz (.mk .Formula [(.v 4), (.bin .Pow (.int 10) (.int 20))])))]) :: .ex (.bm (.v 5) .append [(.said (.call 3 [(.v 4)]))]) :: .ifs (.cmp .NotEq (.v 5) (.bin .Add (.bin .Mult (.lst [(.tup [(.str "integer")])]) (.int 4)) (.lst [(.tup [(.str "key")])]))) [.ret (.bl false)] [] :: r
theorem first_five {ns : List Int} {a2 a5 : Option D} {r : List Sm} {res : Out} (ho : Oth o) (h : execs G (run G (k + 8)) 0 r (gB ns n t p a2 (some o) (some (.cel M.length))) (M ++ [.lst w4]) = res) : execs G (run G (k + 8)) 0 (head1 r) (gB ns n t p a2 (some o) a5) M = res := by
  unfold head1
  have m1 : ∀ M' : Me, trunc M'.length (mkR G (run G (k + 8) M'.length) .Formula [o, .int p] M') = .ex .NotInteger [] M' := fun M' => mk_l (k := k + 5) ho
  have m2 : ∀ M' : Me, trunc M'.length (mkR G (run G (k + 8) M'.length) .Formula [.int t, o] M') = .ex .NotInteger [] M' := fun M' => mk_r (k := k + 5) ho
  have m3 : ∀ M' : Me, trunc M'.length (mkR G (run G (k + 8) M'.length) .Formula [.int 1000000000000000, o] M') = .ex .NotInteger [] M' := fun M' => mk_r (k := k + 5) ho
  have m4 : ∀ M' : Me, trunc M'.length (mkR G (run G (k + 8) M'.length) .Formula [o, .int 100000000000000000000] M') = .ex .NotInteger [] M' := fun M' => mk_l (k := k + 5) ho
  have mc : ∀ M' : Me, metC G M' (fo t p) = some (("Formula.__call__" : String) : Str) := fun M' => by
    unfold metC
    rw [ov_fo]
    dsimp only
    rw [gf_Formula___call__]
  have m5 : ∀ M' : Me, run G (k + 8) 0 "Formula.__call__" [fo t p, o] M' = .ex .NotKey [] M' := fun M' => call_x (k := k + 5) fun _ => k_oth ho
  refine execs_nx (g1 := gB ns n t p a2 (some o) (some (.cel M.length))) (M1 := M ++ [.lst [.tup [.str "integer"]]]) (by (simp [↓bind_L, ↓out_L, ↓seq_L, bindL_ok, bindL_ex, bindL_no, outL_ok, outL_ex, outL_no, seqL_nx, seqL_rt, seqL_ex, seqL_bk, seqL_ct, seqL_no, Iv.execs, Iv.exec, Iv.ev, Iv.evs, Iv.evi, Iv.evN, Iv.evo, Iv.evc, Iv.sto, Iv.stos, out_ok, out_ex, seq_nx, seq_rt, seq_ex, seq_bk, seq_ct, end_nx, end_rt, end_ex, trunc_ok, trunc_ex, take_len, take_app, take_set,  clo_int, clo_bl, clo_str, clo_non, clo_scr, clo_cl, clo_tup, clo_lst, clo_obj, clo_cel, clL_nil, clL_cons, clF_nil, clF_cons, ov_int, ov_bl, ov_str, ov_non, ov_tup, ov_lst, ov_scr, ov_obj, dv_int, dv_str, dv_tup, dv_lst, dv_scr, dv_obj, lv_lst, lv_scr, bin_int, bi_add, bi_sub, bi_mulL, bi_mulR, bi_mod, bi_divS, bi_pow, cbOk, cbOp, cmp_lt, cmp_le, cmp_gt, cmp_ge, cmp_eq, cmp_ne, is_non, isn_non, eq_str, ne_str, tru_bl, tru_int, tru_non, tru_lst, tru_tup, isNon, ov_cel, dv_cel, lv_cel, subs_cel, setSub_cel, subs_tup, subs_lst, subs_scr,  L2.atI, L2.ixN, callP, noEx_ok, mayW_int, gB, m1, sd_int, maxL] <;> try simp only [bindL_un, outL_un, seqL_un])) ?_
  refine execs_nx (app_g (Nat.zero_le _) (by rfl) (by simp) (d := .tup [.str "integer"]) fun M' => by (simp [↓bind_L, ↓out_L, ↓seq_L, bindL_ok, bindL_ex, bindL_no, outL_ok, outL_ex, outL_no, seqL_nx, seqL_rt, seqL_ex, seqL_bk, seqL_ct, seqL_no, Iv.execs, Iv.exec, Iv.ev, Iv.evs, Iv.evi, Iv.evN, Iv.evo, Iv.evc, Iv.sto, Iv.stos, out_ok, out_ex, seq_nx, seq_rt, seq_ex, seq_bk, seq_ct, end_nx, end_rt, end_ex, trunc_ok, trunc_ex, take_len, take_app, take_set,  clo_int, clo_bl, clo_str, clo_non, clo_scr, clo_cl, clo_tup, clo_lst, clo_obj, clo_cel, clL_nil, clL_cons, clF_nil, clF_cons, ov_int, ov_bl, ov_str, ov_non, ov_tup, ov_lst, ov_scr, ov_obj, dv_int, dv_str, dv_tup, dv_lst, dv_scr, dv_obj, lv_lst, lv_scr, bin_int, bi_add, bi_sub, bi_mulL, bi_mulR, bi_mod, bi_divS, bi_pow, cbOk, cbOp, cmp_lt, cmp_le, cmp_gt, cmp_ge, cmp_eq, cmp_ne, is_non, isn_non, eq_str, ne_str, tru_bl, tru_int, tru_non, tru_lst, tru_tup, isNon, ov_cel, dv_cel, lv_cel, subs_cel, setSub_cel, subs_tup, subs_lst, subs_scr,  L2.atI, L2.ixN, callP, noEx_ok, mayW_int, gB, m2, sd_int] <;> try simp only [bindL_un, outL_un, seqL_un])) ?_
  refine execs_nx (app_g (Nat.zero_le _) (by rfl) (by simp) (d := .tup [.str "integer"]) fun M' => by (simp [↓bind_L, ↓out_L, ↓seq_L, bindL_ok, bindL_ex, bindL_no, outL_ok, outL_ex, outL_no, seqL_nx, seqL_rt, seqL_ex, seqL_bk, seqL_ct, seqL_no, Iv.execs, Iv.exec, Iv.ev, Iv.evs, Iv.evi, Iv.evN, Iv.evo, Iv.evc, Iv.sto, Iv.stos, out_ok, out_ex, seq_nx, seq_rt, seq_ex, seq_bk, seq_ct, end_nx, end_rt, end_ex, trunc_ok, trunc_ex, take_len, take_app, take_set,  clo_int, clo_bl, clo_str, clo_non, clo_scr, clo_cl, clo_tup, clo_lst, clo_obj, clo_cel, clL_nil, clL_cons, clF_nil, clF_cons, ov_int, ov_bl, ov_str, ov_non, ov_tup, ov_lst, ov_scr, ov_obj, dv_int, dv_str, dv_tup, dv_lst, dv_scr, dv_obj, lv_lst, lv_scr, bin_int, bi_add, bi_sub, bi_mulL, bi_mulR, bi_mod, bi_divS, bi_pow, cbOk, cbOp, cmp_lt, cmp_le, cmp_gt, cmp_ge, cmp_eq, cmp_ne, is_non, isn_non, eq_str, ne_str, tru_bl, tru_int, tru_non, tru_lst, tru_tup, isNon, ov_cel, dv_cel, lv_cel, subs_cel, setSub_cel, subs_tup, subs_lst, subs_scr,  L2.atI, L2.ixN, callP, noEx_ok, mayW_int, gB, m3, sd_int] <;> try simp only [bindL_un, outL_un, seqL_un])) ?_
  refine execs_nx (app_g (Nat.zero_le _) (by rfl) (by simp) (d := .tup [.str "integer"]) fun M' => by (simp [↓bind_L, ↓out_L, ↓seq_L, bindL_ok, bindL_ex, bindL_no, outL_ok, outL_ex, outL_no, seqL_nx, seqL_rt, seqL_ex, seqL_bk, seqL_ct, seqL_no, Iv.execs, Iv.exec, Iv.ev, Iv.evs, Iv.evi, Iv.evN, Iv.evo, Iv.evc, Iv.sto, Iv.stos, out_ok, out_ex, seq_nx, seq_rt, seq_ex, seq_bk, seq_ct, end_nx, end_rt, end_ex, trunc_ok, trunc_ex, take_len, take_app, take_set,  clo_int, clo_bl, clo_str, clo_non, clo_scr, clo_cl, clo_tup, clo_lst, clo_obj, clo_cel, clL_nil, clL_cons, clF_nil, clF_cons, ov_int, ov_bl, ov_str, ov_non, ov_tup, ov_lst, ov_scr, ov_obj, dv_int, dv_str, dv_tup, dv_lst, dv_scr, dv_obj, lv_lst, lv_scr, bin_int, bi_add, bi_sub, bi_mulL, bi_mulR, bi_mod, bi_divS, bi_pow, cbOk, cbOp, cmp_lt, cmp_le, cmp_gt, cmp_ge, cmp_eq, cmp_ne, is_non, isn_non, eq_str, ne_str, tru_bl, tru_int, tru_non, tru_lst, tru_tup, isNon, ov_cel, dv_cel, lv_cel, subs_cel, setSub_cel, subs_tup, subs_lst, subs_scr,  L2.atI, L2.ixN, callP, noEx_ok, mayW_int, gB, m4, sd_int] <;> try simp only [bindL_un, outL_un, seqL_un])) ?_
  refine execs_nx (app_g (Nat.zero_le _) (by rfl) (by simp) (d := .tup [.str "key"]) fun M' => by (simp [↓bind_L, ↓out_L, ↓seq_L, bindL_ok, bindL_ex, bindL_no, outL_ok, outL_ex, outL_no, seqL_nx, seqL_rt, seqL_ex, seqL_bk, seqL_ct, seqL_no, Iv.execs, Iv.exec, Iv.ev, Iv.evs, Iv.evi, Iv.evN, Iv.evo, Iv.evc, Iv.sto, Iv.stos, out_ok, out_ex, seq_nx, seq_rt, seq_ex, seq_bk, seq_ct, end_nx, end_rt, end_ex, trunc_ok, trunc_ex, take_len, take_app, take_set,  clo_int, clo_bl, clo_str, clo_non, clo_scr, clo_cl, clo_tup, clo_lst, clo_obj, clo_cel, clL_nil, clL_cons, clF_nil, clF_cons, ov_int, ov_bl, ov_str, ov_non, ov_tup, ov_lst, ov_scr, ov_obj, dv_int, dv_str, dv_tup, dv_lst, dv_scr, dv_obj, lv_lst, lv_scr, bin_int, bi_add, bi_sub, bi_mulL, bi_mulR, bi_mod, bi_divS, bi_pow, cbOk, cbOp, cmp_lt, cmp_le, cmp_gt, cmp_ge, cmp_eq, cmp_ne, is_non, isn_non, eq_str, ne_str, tru_bl, tru_int, tru_non, tru_lst, tru_tup, isNon, ov_cel, dv_cel, lv_cel, subs_cel, setSub_cel, subs_tup, subs_lst, subs_scr,  L2.atI, L2.ixN, callP, noEx_ok, mayW_int, gB, mc, m5, sd_key] <;> try simp only [bindL_un, outL_un, seqL_un])) ?_
  refine execs_nx (g1 := gB ns n t p a2 (some o) (some (.cel M.length))) (M1 := M ++ [.lst w4]) ?_ h
  have z := ne_cell (M := M ++ [.lst w4]) (c := M.length) (xs := w4) (ys := w4) (cf := run G (k + 8) 0) get_app (by kernel_rfl)
  unfold w4 at z ⊢
  (simp [↓bind_L, ↓out_L, ↓seq_L, bindL_ok, bindL_ex, bindL_no, outL_ok, outL_ex, outL_no, seqL_nx, seqL_rt, seqL_ex, seqL_bk, seqL_ct, seqL_no, Iv.execs, Iv.exec, Iv.ev, Iv.evs, Iv.evi, Iv.evN, Iv.evo, Iv.evc, Iv.sto, Iv.stos, out_ok, out_ex, seq_nx, seq_rt, seq_ex, seq_bk, seq_ct, end_nx, end_rt, end_ex, trunc_ok, trunc_ex, take_len, take_app, take_set,  clo_int, clo_bl, clo_str, clo_non, clo_scr, clo_cl, clo_tup, clo_lst, clo_obj, clo_cel, clL_nil, clL_cons, clF_nil, clF_cons, ov_int, ov_bl, ov_str, ov_non, ov_tup, ov_lst, ov_scr, ov_obj, dv_int, dv_str, dv_tup, dv_lst, dv_scr, dv_obj, lv_lst, lv_scr, bin_int, bi_add, bi_sub, bi_mulL, bi_mulR, bi_mod, bi_divS, bi_pow, cbOk, cbOp, cmp_lt, cmp_le, cmp_gt, cmp_ge, cmp_eq, cmp_ne, is_non, isn_non, eq_str, ne_str, tru_bl, tru_int, tru_non, tru_lst, tru_tup, isNon, ov_cel, dv_cel, lv_cel, subs_cel, setSub_cel, subs_tup, subs_lst, subs_scr,  L2.atI, L2.ixN, callP, noEx_ok, mayW_int, gB, bin_rep, bin_lst, maxL, z] <;> try simp only [bindL_un, outL_un, seqL_un])
end
end Lw
namespace Lw
open Iv
open PySem (Str Operator CmpOp)
section
variable {k b c : Nat} {M : Me} {t p x i n : Int} {o : D} {ns : List Int} {a2 a4 a5 : Option D}
theorem one_bad (h : Bd o) : execs G (run G (k + 8)) 0 (head1 tail1) (gB ns n t p a2 (some o) a5) M = .nx (gB ns n t p a2 (some o) (some (.cel (M.length + 1)))) ((M ++ [.lst w4]) ++ [.lst [.tup [.str "formula"], .tup [.str "formula"]]]) := by
  refine first_five h.oth ?_
  generalize hM : M ++ [.lst w4] = M2
  have hl : M.length + 1 = M2.length := by rw [← hM]; simp
  rw [hl]
  have e1 : ∀ M' : Me, binOp G (run G (k + 8) 0) .Add (fo t p) o M' = .ex .NotFormula [] M' := fun M' => b_addx (k := k + 4) h.nf (h.ty M')
  have e2 : ∀ M' : Me, binOp G (run G (k + 8) 0) .Sub (fo t p) o M' = .ex .NotFormula [] M' := fun M' => b_subx (k := k + 4) h.nf (h.ty M')
  have e3 : ∀ M' : Me, binOp G (run G (k + 8) 0) .Mult (fo t p) o M' = .ex .NotFormula [] M' := fun M' => b_mulx (k := k + 4) h.nf.sm (h.ty M')
  have e4 : ∀ M' : Me, cmpOp G (run G (k + 8) 0) .NotEq o (fo t p) M' = .ok true M' := fun M' => ne_own (k := k + 7) h
  unfold tail1
  refine execs_nx (g1 := gB ns n t p a2 (some o) (some (.cel M2.length))) (M1 := M2 ++ [.lst [.tup [.str "formula"]]]) (by (simp [↓bind_L, ↓out_L, ↓seq_L, bindL_ok, bindL_ex, bindL_no, outL_ok, outL_ex, outL_no, seqL_nx, seqL_rt, seqL_ex, seqL_bk, seqL_ct, seqL_no, Iv.execs, Iv.exec, Iv.ev, Iv.evs, Iv.evi, Iv.evN, Iv.evo, Iv.evc, Iv.sto, Iv.stos, out_ok, out_ex, seq_nx, seq_rt, seq_ex, seq_bk, seq_ct, end_nx, end_rt, end_ex, trunc_ok, trunc_ex, take_len, take_app, take_set,  clo_int, clo_bl, clo_str, clo_non, clo_scr, clo_cl, clo_tup, clo_lst, clo_obj, clo_cel, clL_nil, clL_cons, clF_nil, clF_cons, ov_int, ov_bl, ov_str, ov_non, ov_tup, ov_lst, ov_scr, ov_obj, dv_int, dv_str, dv_tup, dv_lst, dv_scr, dv_obj, lv_lst, lv_scr, bin_int, bi_add, bi_sub, bi_mulL, bi_mulR, bi_mod, bi_divS, bi_pow, cbOk, cbOp, cmp_lt, cmp_le, cmp_gt, cmp_ge, cmp_eq, cmp_ne, is_non, isn_non, eq_str, ne_str, tru_bl, tru_int, tru_non, tru_lst, tru_tup, isNon, ov_cel, dv_cel, lv_cel, subs_cel, setSub_cel, subs_tup, subs_lst, subs_scr,  L2.atI, L2.ixN, callP, noEx_ok, mayW_int, gB, e1, sd_form, maxL] <;> try simp only [bindL_un, outL_un, seqL_un])) ?_
  refine execs_nx (app_g (Nat.zero_le _) (by rfl) (by simp) (d := .tup [.str "formula"]) fun M' => by (simp [↓bind_L, ↓out_L, ↓seq_L, bindL_ok, bindL_ex, bindL_no, outL_ok, outL_ex, outL_no, seqL_nx, seqL_rt, seqL_ex, seqL_bk, seqL_ct, seqL_no, Iv.execs, Iv.exec, Iv.ev, Iv.evs, Iv.evi, Iv.evN, Iv.evo, Iv.evc, Iv.sto, Iv.stos, out_ok, out_ex, seq_nx, seq_rt, seq_ex, seq_bk, seq_ct, end_nx, end_rt, end_ex, trunc_ok, trunc_ex, take_len, take_app, take_set,  clo_int, clo_bl, clo_str, clo_non, clo_scr, clo_cl, clo_tup, clo_lst, clo_obj, clo_cel, clL_nil, clL_cons, clF_nil, clF_cons, ov_int, ov_bl, ov_str, ov_non, ov_tup, ov_lst, ov_scr, ov_obj, dv_int, dv_str, dv_tup, dv_lst, dv_scr, dv_obj, lv_lst, lv_scr, bin_int, bi_add, bi_sub, bi_mulL, bi_mulR, bi_mod, bi_divS, bi_pow, cbOk, cbOp, cmp_lt, cmp_le, cmp_gt, cmp_ge, cmp_eq, cmp_ne, is_non, isn_non, eq_str, ne_str, tru_bl, tru_int, tru_non, tru_lst, tru_tup, isNon, ov_cel, dv_cel, lv_cel, subs_cel, setSub_cel, subs_tup, subs_lst, subs_scr,  L2.atI, L2.ixN, callP, noEx_ok, mayW_int, gB, e2, sd_form] <;> try simp only [bindL_un, outL_un, seqL_un])) ?_
  have z := ne_cell (M := M2 ++ [.lst [.tup [.str "formula"], .tup [.str "formula"]]]) (c := M2.length) (xs := [.tup [.str "formula"], .tup [.str "formula"]]) (ys := [.tup [.str "formula"], .tup [.str "formula"]]) (cf := run G (k + 8) 0) get_app (by kernel_rfl)
  refine execs_nx (g1 := gB ns n t p a2 (some o) (some (.cel M2.length))) (M1 := M2 ++ [.lst [.tup [.str "formula"], .tup [.str "formula"]]]) ?_ (by rw [Iv.execs])
  show exec G (run G (k + 8)) 0 _ _ (M2 ++ [.lst [.tup [.str "formula"], .tup [.str "formula"]]]) = _
  (simp [↓bind_L, ↓out_L, ↓seq_L, bindL_ok, bindL_ex, bindL_no, outL_ok, outL_ex, outL_no, seqL_nx, seqL_rt, seqL_ex, seqL_bk, seqL_ct, seqL_no, Iv.execs, Iv.exec, Iv.ev, Iv.evs, Iv.evi, Iv.evN, Iv.evo, Iv.evc, Iv.sto, Iv.stos, out_ok, out_ex, seq_nx, seq_rt, seq_ex, seq_bk, seq_ct, end_nx, end_rt, end_ex, trunc_ok, trunc_ex, take_len, take_app, take_set,  clo_int, clo_bl, clo_str, clo_non, clo_scr, clo_cl, clo_tup, clo_lst, clo_obj, clo_cel, clL_nil, clL_cons, clF_nil, clF_cons, ov_int, ov_bl, ov_str, ov_non, ov_tup, ov_lst, ov_scr, ov_obj, dv_int, dv_str, dv_tup, dv_lst, dv_scr, dv_obj, lv_lst, lv_scr, bin_int, bi_add, bi_sub, bi_mulL, bi_mulR, bi_mod, bi_divS, bi_pow, cbOk, cbOp, cmp_lt, cmp_le, cmp_gt, cmp_ge, cmp_eq, cmp_ne, is_non, isn_non, eq_str, ne_str, tru_bl, tru_int, tru_non, tru_lst, tru_tup, isNon, ov_cel, dv_cel, lv_cel, subs_cel, setSub_cel, subs_tup, subs_lst, subs_scr,  L2.atI, L2.ixN, callP, noEx_ok, mayW_int, gB, e3, e4, sd_form, bin_rep, maxL, z, ne_form] <;> try simp only [bindL_un, outL_un, seqL_un])
theorem one_self : execs G (run G (k + 8)) 0 (head1 tail1) (gB ns n t p a2 (some (fo t p)) a5) M = .nx (gB ns n t p a2 (some (fo t p)) (some (.cel (M.length + 1)))) ((M ++ [.lst w4]) ++ [.lst [sdr (t + t) (p + p), sdr (t - t) (p - p)]]) := by
  refine first_five oth_fo ?_
  generalize hM : M ++ [.lst w4] = M2
  have hl : M.length + 1 = M2.length := by rw [← hM]; simp
  rw [hl]
  have e1 : ∀ M' : Me, binOp G (run G (k + 8) 0) .Add (fo t p) (fo t p) M' = mkr (t + t) (p + p) M' := fun M' => b_addf (k := k + 4)
  have e2 : ∀ M' : Me, binOp G (run G (k + 8) 0) .Sub (fo t p) (fo t p) M' = mkr (t - t) (p - p) M' := fun M' => b_subf (k := k + 4)
  have e3 : ∀ M' : Me, binOp G (run G (k + 8) 0) .Mult (fo t p) (fo t p) M' = .ex .NotFormula [] M' := fun M' => b_mulf (k := k + 4)
  have e4 : ∀ M' : Me, cmpOp G (run G (k + 8) 0) .NotEq (fo t p) (fo t p) M' = .ok false M' := fun M' => by rw [co_ne (k := k + 7)]; simp
  unfold tail1
  refine execs_nx (g1 := gB ns n t p a2 (some (fo t p)) (some (.cel M2.length))) (M1 := M2 ++ [.lst [sdr (t + t) (p + p)]]) (by (simp [↓bind_L, ↓out_L, ↓seq_L, bindL_ok, bindL_ex, bindL_no, outL_ok, outL_ex, outL_no, seqL_nx, seqL_rt, seqL_ex, seqL_bk, seqL_ct, seqL_no, Iv.execs, Iv.exec, Iv.ev, Iv.evs, Iv.evi, Iv.evN, Iv.evo, Iv.evc, Iv.sto, Iv.stos, out_ok, out_ex, seq_nx, seq_rt, seq_ex, seq_bk, seq_ct, end_nx, end_rt, end_ex, trunc_ok, trunc_ex, take_len, take_app, take_set,  clo_int, clo_bl, clo_str, clo_non, clo_scr, clo_cl, clo_tup, clo_lst, clo_obj, clo_cel, clL_nil, clL_cons, clF_nil, clF_cons, ov_int, ov_bl, ov_str, ov_non, ov_tup, ov_lst, ov_scr, ov_obj, dv_int, dv_str, dv_tup, dv_lst, dv_scr, dv_obj, lv_lst, lv_scr, bin_int, bi_add, bi_sub, bi_mulL, bi_mulR, bi_mod, bi_divS, bi_pow, cbOk, cbOp, cmp_lt, cmp_le, cmp_gt, cmp_ge, cmp_eq, cmp_ne, is_non, isn_non, eq_str, ne_str, tru_bl, tru_int, tru_non, tru_lst, tru_tup, isNon, ov_cel, dv_cel, lv_cel, subs_cel, setSub_cel, subs_tup, subs_lst, subs_scr,  L2.atI, L2.ixN, callP, noEx_ok, mayW_int, gB, e1, said_mk, maxL] <;> try simp only [bindL_un, outL_un, seqL_un])) ?_
  refine execs_nx (app_g (Nat.zero_le _) (by rfl) (by simp) (d := sdr (t - t) (p - p)) fun M' => by
    show saidR G (ev G (run G (k + 8)) 0 (.bin .Sub (.v 3) (.v 4)) (gB ns n t p a2 (some (fo t p)) (some (.cel M2.length))) M') = _
    have z : ev G (run G (k + 8)) 0 (.bin .Sub (.v 3) (.v 4)) (gB ns n t p a2 (some (fo t p)) (some (.cel M2.length))) M' = mkr (t - t) (p - p) M' := by
      rw [← e2 M']
      simp [Iv.ev, gB]
    rw [z, said_mk]) ?_
  refine execs_nx (g1 := gB ns n t p a2 (some (fo t p)) (some (.cel M2.length))) (M1 := M2 ++ [.lst [sdr (t + t) (p + p), sdr (t - t) (p - p)]]) ?_ (by rw [Iv.execs])
  show exec G (run G (k + 8)) 0 _ _ (M2 ++ [.lst [sdr (t + t) (p + p), sdr (t - t) (p - p)]]) = _
  (simp [↓bind_L, ↓out_L, ↓seq_L, bindL_ok, bindL_ex, bindL_no, outL_ok, outL_ex, outL_no, seqL_nx, seqL_rt, seqL_ex, seqL_bk, seqL_ct, seqL_no, Iv.execs, Iv.exec, Iv.ev, Iv.evs, Iv.evi, Iv.evN, Iv.evo, Iv.evc, Iv.sto, Iv.stos, out_ok, out_ex, seq_nx, seq_rt, seq_ex, seq_bk, seq_ct, end_nx, end_rt, end_ex, trunc_ok, trunc_ex, take_len, take_app, take_set,  clo_int, clo_bl, clo_str, clo_non, clo_scr, clo_cl, clo_tup, clo_lst, clo_obj, clo_cel, clL_nil, clL_cons, clF_nil, clF_cons, ov_int, ov_bl, ov_str, ov_non, ov_tup, ov_lst, ov_scr, ov_obj, dv_int, dv_str, dv_tup, dv_lst, dv_scr, dv_obj, lv_lst, lv_scr, bin_int, bi_add, bi_sub, bi_mulL, bi_mulR, bi_mod, bi_divS, bi_pow, cbOk, cbOp, cmp_lt, cmp_le, cmp_gt, cmp_ge, cmp_eq, cmp_ne, is_non, isn_non, eq_str, ne_str, tru_bl, tru_int, tru_non, tru_lst, tru_tup, isNon, ov_cel, dv_cel, lv_cel, subs_cel, setSub_cel, subs_tup, subs_lst, subs_scr,  L2.atI, L2.ixN, callP, noEx_ok, mayW_int, gB, e3, e4, sd_form, maxL, ne_form] <;> try simp only [bindL_un, outL_un, seqL_un])
/-- the walk over the things -/
theorem loop1 : ∃ a4' a5' M', exec G (run G (k + 8)) 0 (.for (.nm 4) (.ex (.bin .Add (.cf "_law_things" [] [] []) (.lst [(.v 3)]))) (head1 tail1)) (gB ns n t p a2 a4 a5) M = .nx (gB ns n t p a2 a4' a5') M' := by
  have F := forL_all (step := fun d g M => (sto G (run G (k + 8)) 0 (.nm 4) g d M).seq fun g M => execs G (run G (k + 8)) 0 (head1 tail1) g M) (ok := wkO (things ++ [fo t p], [])) (ds := things ++ [fo t p])
    (I := fun g _ => ∃ a4 a5, g = gB ns n t p a2 a4 a5) (fun d hd g M ⟨a4, a5, e⟩ => by
      subst e
      have s1 : sto G (run G (k + 8)) 0 (.nm 4) (gB ns n t p a2 a4 a5) d M = .nx (gB ns n t p a2 (some d) a5) M := by simp [Iv.sto, gB]
      rcases List.mem_append.mp hd with h | h
      · refine ⟨gB ns n t p a2 (some d) (some (.cel (M.length + 1))), (M ++ [.lst w4]) ++ [.lst [.tup [.str "formula"], .tup [.str "formula"]]], ⟨_, _, rfl⟩, .inl ?_⟩
        rw [s1, seq_nx]
        exact one_bad (bd_of h)
      · have e := List.mem_singleton.mp h
        subst e
        refine ⟨gB ns n t p a2 (some (fo t p)) (some (.cel (M.length + 1))), (M ++ [.lst w4]) ++ [.lst [sdr (t + t) (p + p), sdr (t - t) (p - p)]], ⟨_, _, rfl⟩, .inl ?_⟩
        rw [s1, seq_nx]
        exact one_self) (fun _ _ _ => rfl) (g := gB ns n t p a2 a4 a5) (M := M) ⟨_, _, rfl⟩
  obtain ⟨g', M', ⟨a4', a5', rfl⟩, e⟩ := F
  refine ⟨a4', a5', M', ?_⟩
  rw [exec_for]
  have ei : evi G (run G (k + 8)) 0 (.ex (.bin .Add (.cf "_law_things" [] [] []) (.lst [(.v 3)]))) (gB ns n t p a2 a4 a5) M = .ok (things ++ [fo t p], []) M := by
    have b1 : binOp G (run G (k + 8) 0) .Add (.lst things) (.lst [fo t p]) M = .ok (.lst (things ++ [fo t p])) M := bin_lst (by simp [things])
    have c1 : run G (k + 8) 0 "_law_things" [] M = .ok (.lst things) M := r_things
    (simp [↓bind_L, ↓out_L, ↓seq_L, bindL_ok, bindL_ex, bindL_no, outL_ok, outL_ex, outL_no, seqL_nx, seqL_rt, seqL_ex, seqL_bk, seqL_ct, seqL_no, Iv.execs, Iv.exec, Iv.ev, Iv.evs, Iv.evi, Iv.evN, Iv.evo, Iv.evc, Iv.sto, Iv.stos, out_ok, out_ex, seq_nx, seq_rt, seq_ex, seq_bk, seq_ct, end_nx, end_rt, end_ex, trunc_ok, trunc_ex, take_len, take_app, take_set,  clo_int, clo_bl, clo_str, clo_non, clo_scr, clo_cl, clo_tup, clo_lst, clo_obj, clo_cel, clL_nil, clL_cons, clF_nil, clF_cons, ov_int, ov_bl, ov_str, ov_non, ov_tup, ov_lst, ov_scr, ov_obj, dv_int, dv_str, dv_tup, dv_lst, dv_scr, dv_obj, lv_lst, lv_scr, bin_int, bi_add, bi_sub, bi_mulL, bi_mulR, bi_mod, bi_divS, bi_pow, cbOk, cbOp, cmp_lt, cmp_le, cmp_gt, cmp_ge, cmp_eq, cmp_ne, is_non, isn_non, eq_str, ne_str, tru_bl, tru_int, tru_non, tru_lst, tru_tup, isNon, ov_cel, dv_cel, lv_cel, subs_cel, setSub_cel, subs_tup, subs_lst, subs_scr,  L2.atI, L2.ixN, callP, noEx_ok, mayW_int, gB, c1, b1, maxL, wkOf] <;> try simp only [bindL_un, outL_un, seqL_un])
  rw [ei]
  exact e
/-! the operators on both sides -/
def six : List D := [.tup [.str "formula"], .tup [.str "formula"], .tup [.str "formula"], .tup [.str "formula"], .tup [.str "formula"], .tup [.str "formula"]]
theorem r_ops (h : NF o) (hl : Lf o) (ht : ∀ M, (tyR M o).isSome = true) : run G (k + 8) b "_law_operators" [fo t p, o] M = .ok (.lst six) M := by
  have e1 : ∀ M' : Me, binOp G (run G (k + 7) M.length) .Add (fo t p) o M' = .ex .NotFormula [] M' := fun M' => b_addx (k := k + 3) h (ht M')
  have e2 : ∀ M' : Me, binOp G (run G (k + 7) M.length) .Sub (fo t p) o M' = .ex .NotFormula [] M' := fun M' => b_subx (k := k + 3) h (ht M')
  have e3 : ∀ M' : Me, binOp G (run G (k + 7) M.length) .Mult (fo t p) o M' = .ex .NotFormula [] M' := fun M' => b_mulx (k := k + 3) h.sm (ht M')
  have e4 : ∀ M' : Me, binOp G (run G (k + 7) M.length) .Add o (fo t p) M' = .ex .NotFormula [] M' := fun M' => by rw [hl.l (by decide) rfl gf_Formula___radd__, callP, ck_Formula___radd___0, radd_x (k := k + 3) h]
  have e5 : ∀ M' : Me, binOp G (run G (k + 7) M.length) .Sub o (fo t p) M' = .ex .NotFormula [] M' := fun M' => by rw [hl.l (by decide) rfl gf_Formula___rsub__, callP, ck_Formula___rsub___0, rsub_x (k := k + 3) h]
  have e6 : ∀ M' : Me, binOp G (run G (k + 7) M.length) .Mult o (fo t p) M' = .ex .NotFormula [] M' := fun M' => by rw [hl.l (by decide) rfl gf_Formula___rmul__, callP, ck_Formula___rmul___0, rmul_x (k := k + 3) h.sm]
  have E : execs G (run G (k + 7)) M.length f__law_operators.body ([fo t p, o].map some ++ List.replicate f__law_operators.n none) M = .rt (.cel M.length) (M ++ [.lst six]) := by
    refine execs_nx (g1 := [some (fo t p), some o, some (.cel M.length)]) (M1 := M ++ [.lst [.tup [.str "formula"]]]) (by (simp [↓bind_L, ↓out_L, ↓seq_L, bindL_ok, bindL_ex, bindL_no, outL_ok, outL_ex, outL_no, seqL_nx, seqL_rt, seqL_ex, seqL_bk, seqL_ct, seqL_no, Iv.execs, Iv.exec, Iv.ev, Iv.evs, Iv.evi, Iv.evN, Iv.evo, Iv.evc, Iv.sto, Iv.stos, out_ok, out_ex, seq_nx, seq_rt, seq_ex, seq_bk, seq_ct, end_nx, end_rt, end_ex, trunc_ok, trunc_ex, take_len, take_app, take_set,  clo_int, clo_bl, clo_str, clo_non, clo_scr, clo_cl, clo_tup, clo_lst, clo_obj, clo_cel, clL_nil, clL_cons, clF_nil, clF_cons, ov_int, ov_bl, ov_str, ov_non, ov_tup, ov_lst, ov_scr, ov_obj, dv_int, dv_str, dv_tup, dv_lst, dv_scr, dv_obj, lv_lst, lv_scr, bin_int, bi_add, bi_sub, bi_mulL, bi_mulR, bi_mod, bi_divS, bi_pow, cbOk, cbOp, cmp_lt, cmp_le, cmp_gt, cmp_ge, cmp_eq, cmp_ne, is_non, isn_non, eq_str, ne_str, tru_bl, tru_int, tru_non, tru_lst, tru_tup, isNon, ov_cel, dv_cel, lv_cel, subs_cel, setSub_cel, subs_tup, subs_lst, subs_scr,  L2.atI, L2.ixN, callP, noEx_ok, mayW_int, f__law_operators, e1, sd_form, maxL] <;> try simp only [bindL_un, outL_un, seqL_un])) ?_
    refine execs_nx (app_g (Nat.le_refl _) (by rfl) (by simp) (d := .tup [.str "formula"]) fun M' => by (simp [↓bind_L, ↓out_L, ↓seq_L, bindL_ok, bindL_ex, bindL_no, outL_ok, outL_ex, outL_no, seqL_nx, seqL_rt, seqL_ex, seqL_bk, seqL_ct, seqL_no, Iv.execs, Iv.exec, Iv.ev, Iv.evs, Iv.evi, Iv.evN, Iv.evo, Iv.evc, Iv.sto, Iv.stos, out_ok, out_ex, seq_nx, seq_rt, seq_ex, seq_bk, seq_ct, end_nx, end_rt, end_ex, trunc_ok, trunc_ex, take_len, take_app, take_set,  clo_int, clo_bl, clo_str, clo_non, clo_scr, clo_cl, clo_tup, clo_lst, clo_obj, clo_cel, clL_nil, clL_cons, clF_nil, clF_cons, ov_int, ov_bl, ov_str, ov_non, ov_tup, ov_lst, ov_scr, ov_obj, dv_int, dv_str, dv_tup, dv_lst, dv_scr, dv_obj, lv_lst, lv_scr, bin_int, bi_add, bi_sub, bi_mulL, bi_mulR, bi_mod, bi_divS, bi_pow, cbOk, cbOp, cmp_lt, cmp_le, cmp_gt, cmp_ge, cmp_eq, cmp_ne, is_non, isn_non, eq_str, ne_str, tru_bl, tru_int, tru_non, tru_lst, tru_tup, isNon, ov_cel, dv_cel, lv_cel, subs_cel, setSub_cel, subs_tup, subs_lst, subs_scr,  L2.atI, L2.ixN, callP, noEx_ok, mayW_int, e2, sd_form] <;> try simp only [bindL_un, outL_un, seqL_un])) ?_
    refine execs_nx (app_g (Nat.le_refl _) (by rfl) (by simp) (d := .tup [.str "formula"]) fun M' => by (simp [↓bind_L, ↓out_L, ↓seq_L, bindL_ok, bindL_ex, bindL_no, outL_ok, outL_ex, outL_no, seqL_nx, seqL_rt, seqL_ex, seqL_bk, seqL_ct, seqL_no, Iv.execs, Iv.exec, Iv.ev, Iv.evs, Iv.evi, Iv.evN, Iv.evo, Iv.evc, Iv.sto, Iv.stos, out_ok, out_ex, seq_nx, seq_rt, seq_ex, seq_bk, seq_ct, end_nx, end_rt, end_ex, trunc_ok, trunc_ex, take_len, take_app, take_set,  clo_int, clo_bl, clo_str, clo_non, clo_scr, clo_cl, clo_tup, clo_lst, clo_obj, clo_cel, clL_nil, clL_cons, clF_nil, clF_cons, ov_int, ov_bl, ov_str, ov_non, ov_tup, ov_lst, ov_scr, ov_obj, dv_int, dv_str, dv_tup, dv_lst, dv_scr, dv_obj, lv_lst, lv_scr, bin_int, bi_add, bi_sub, bi_mulL, bi_mulR, bi_mod, bi_divS, bi_pow, cbOk, cbOp, cmp_lt, cmp_le, cmp_gt, cmp_ge, cmp_eq, cmp_ne, is_non, isn_non, eq_str, ne_str, tru_bl, tru_int, tru_non, tru_lst, tru_tup, isNon, ov_cel, dv_cel, lv_cel, subs_cel, setSub_cel, subs_tup, subs_lst, subs_scr,  L2.atI, L2.ixN, callP, noEx_ok, mayW_int, e3, sd_form] <;> try simp only [bindL_un, outL_un, seqL_un])) ?_
    refine execs_nx (app_g (Nat.le_refl _) (by rfl) (by simp) (d := .tup [.str "formula"]) fun M' => by (simp [↓bind_L, ↓out_L, ↓seq_L, bindL_ok, bindL_ex, bindL_no, outL_ok, outL_ex, outL_no, seqL_nx, seqL_rt, seqL_ex, seqL_bk, seqL_ct, seqL_no, Iv.execs, Iv.exec, Iv.ev, Iv.evs, Iv.evi, Iv.evN, Iv.evo, Iv.evc, Iv.sto, Iv.stos, out_ok, out_ex, seq_nx, seq_rt, seq_ex, seq_bk, seq_ct, end_nx, end_rt, end_ex, trunc_ok, trunc_ex, take_len, take_app, take_set,  clo_int, clo_bl, clo_str, clo_non, clo_scr, clo_cl, clo_tup, clo_lst, clo_obj, clo_cel, clL_nil, clL_cons, clF_nil, clF_cons, ov_int, ov_bl, ov_str, ov_non, ov_tup, ov_lst, ov_scr, ov_obj, dv_int, dv_str, dv_tup, dv_lst, dv_scr, dv_obj, lv_lst, lv_scr, bin_int, bi_add, bi_sub, bi_mulL, bi_mulR, bi_mod, bi_divS, bi_pow, cbOk, cbOp, cmp_lt, cmp_le, cmp_gt, cmp_ge, cmp_eq, cmp_ne, is_non, isn_non, eq_str, ne_str, tru_bl, tru_int, tru_non, tru_lst, tru_tup, isNon, ov_cel, dv_cel, lv_cel, subs_cel, setSub_cel, subs_tup, subs_lst, subs_scr,  L2.atI, L2.ixN, callP, noEx_ok, mayW_int, e4, sd_form] <;> try simp only [bindL_un, outL_un, seqL_un])) ?_
    refine execs_nx (app_g (Nat.le_refl _) (by rfl) (by simp) (d := .tup [.str "formula"]) fun M' => by (simp [↓bind_L, ↓out_L, ↓seq_L, bindL_ok, bindL_ex, bindL_no, outL_ok, outL_ex, outL_no, seqL_nx, seqL_rt, seqL_ex, seqL_bk, seqL_ct, seqL_no, Iv.execs, Iv.exec, Iv.ev, Iv.evs, Iv.evi, Iv.evN, Iv.evo, Iv.evc, Iv.sto, Iv.stos, out_ok, out_ex, seq_nx, seq_rt, seq_ex, seq_bk, seq_ct, end_nx, end_rt, end_ex, trunc_ok, trunc_ex, take_len, take_app, take_set,  clo_int, clo_bl, clo_str, clo_non, clo_scr, clo_cl, clo_tup, clo_lst, clo_obj, clo_cel, clL_nil, clL_cons, clF_nil, clF_cons, ov_int, ov_bl, ov_str, ov_non, ov_tup, ov_lst, ov_scr, ov_obj, dv_int, dv_str, dv_tup, dv_lst, dv_scr, dv_obj, lv_lst, lv_scr, bin_int, bi_add, bi_sub, bi_mulL, bi_mulR, bi_mod, bi_divS, bi_pow, cbOk, cbOp, cmp_lt, cmp_le, cmp_gt, cmp_ge, cmp_eq, cmp_ne, is_non, isn_non, eq_str, ne_str, tru_bl, tru_int, tru_non, tru_lst, tru_tup, isNon, ov_cel, dv_cel, lv_cel, subs_cel, setSub_cel, subs_tup, subs_lst, subs_scr,  L2.atI, L2.ixN, callP, noEx_ok, mayW_int, e5, sd_form] <;> try simp only [bindL_un, outL_un, seqL_un])) ?_
    refine execs_nx (app_g (Nat.le_refl _) (by rfl) (by simp) (d := .tup [.str "formula"]) fun M' => by (simp [↓bind_L, ↓out_L, ↓seq_L, bindL_ok, bindL_ex, bindL_no, outL_ok, outL_ex, outL_no, seqL_nx, seqL_rt, seqL_ex, seqL_bk, seqL_ct, seqL_no, Iv.execs, Iv.exec, Iv.ev, Iv.evs, Iv.evi, Iv.evN, Iv.evo, Iv.evc, Iv.sto, Iv.stos, out_ok, out_ex, seq_nx, seq_rt, seq_ex, seq_bk, seq_ct, end_nx, end_rt, end_ex, trunc_ok, trunc_ex, take_len, take_app, take_set,  clo_int, clo_bl, clo_str, clo_non, clo_scr, clo_cl, clo_tup, clo_lst, clo_obj, clo_cel, clL_nil, clL_cons, clF_nil, clF_cons, ov_int, ov_bl, ov_str, ov_non, ov_tup, ov_lst, ov_scr, ov_obj, dv_int, dv_str, dv_tup, dv_lst, dv_scr, dv_obj, lv_lst, lv_scr, bin_int, bi_add, bi_sub, bi_mulL, bi_mulR, bi_mod, bi_divS, bi_pow, cbOk, cbOp, cmp_lt, cmp_le, cmp_gt, cmp_ge, cmp_eq, cmp_ne, is_non, isn_non, eq_str, ne_str, tru_bl, tru_int, tru_non, tru_lst, tru_tup, isNon, ov_cel, dv_cel, lv_cel, subs_cel, setSub_cel, subs_tup, subs_lst, subs_scr,  L2.atI, L2.ixN, callP, noEx_ok, mayW_int, e6, sd_form] <;> try simp only [bindL_un, outL_un, seqL_un])) ?_
    exact execs_rt (by (simp [↓bind_L, ↓out_L, ↓seq_L, bindL_ok, bindL_ex, bindL_no, outL_ok, outL_ex, outL_no, seqL_nx, seqL_rt, seqL_ex, seqL_bk, seqL_ct, seqL_no, Iv.execs, Iv.exec, Iv.ev, Iv.evs, Iv.evi, Iv.evN, Iv.evo, Iv.evc, Iv.sto, Iv.stos, out_ok, out_ex, seq_nx, seq_rt, seq_ex, seq_bk, seq_ct, end_nx, end_rt, end_ex, trunc_ok, trunc_ex, take_len, take_app, take_set,  clo_int, clo_bl, clo_str, clo_non, clo_scr, clo_cl, clo_tup, clo_lst, clo_obj, clo_cel, clL_nil, clL_cons, clF_nil, clF_cons, ov_int, ov_bl, ov_str, ov_non, ov_tup, ov_lst, ov_scr, ov_obj, dv_int, dv_str, dv_tup, dv_lst, dv_scr, dv_obj, lv_lst, lv_scr, bin_int, bi_add, bi_sub, bi_mulL, bi_mulR, bi_mod, bi_divS, bi_pow, cbOk, cbOp, cmp_lt, cmp_le, cmp_gt, cmp_ge, cmp_eq, cmp_ne, is_non, isn_non, eq_str, ne_str, tru_bl, tru_int, tru_non, tru_lst, tru_tup, isNon, ov_cel, dv_cel, lv_cel, subs_cel, setSub_cel, subs_tup, subs_lst, subs_scr,  L2.atI, L2.ixN, callP, noEx_ok, mayW_int, six] <;> try simp only [bindL_un, outL_un, seqL_un]))
  rw [run1 fn__law_operators, callF_free (by rfl) (by rfl), E, end_rt, trunc_cell (by rfl)]
theorem nf_int (h : smB i = false) : NF (.int i) := ⟨fun M => isi_int_fo, fun k b M => by rw [r_is_small, h]⟩
def bads : List D := [.non, .bl true, .bl false, .int 1000000000000000, .int (-1000000000000000), .int 1000000000000000000000000000000]
theorem bads_ok (h : o ∈ bads) : NF o ∧ Lf o ∧ ∀ M, (tyR M o).isSome = true := by
  simp only [bads, List.mem_cons, List.not_mem_nil, or_false] at h
  rcases h with rfl | rfl | rfl | rfl | rfl | rfl
  · exact ⟨(bd_of (by simp [things])).nf, lf_non, fun _ => rfl⟩
  · exact ⟨(bd_of (by simp [things])).nf, lf_bl, fun _ => rfl⟩
  · exact ⟨(bd_of (by simp [things])).nf, lf_bl, fun _ => rfl⟩
  · exact ⟨nf_int (by decide), lf_int, fun _ => rfl⟩
  · exact ⟨nf_int (by decide), lf_int, fun _ => rfl⟩
  · exact ⟨nf_int (by decide), lf_int, fun _ => rfl⟩
def tail2 : List Sm := [.ifs (.cmp .NotEq (.cf "_law_operators" [(.v 3), (.v 4)] [] []) (.bin .Mult (.lst [(.tup [(.str "formula")])]) (.int 6))) [.ret (.bl false)] []]
theorem loop2 : ∃ a4', exec G (run G (k + 8)) 0 (.for (.nm 4) (.ex (.lst [.non, (.bl true), (.bl false), (.bin .Pow (.int 10) (.int 15)), (.neg (.bin .Pow (.int 10) (.int 15))), (.bin .Pow (.int 10) (.int 30))])) tail2) (gB ns n t p a2 a4 a5) M = .nx (gB ns n t p a2 a4' a5) M := by
  have F := forL_all (step := fun d g M => (sto G (run G (k + 8)) 0 (.nm 4) g d M).seq fun g M => execs G (run G (k + 8)) 0 tail2 g M) (ok := wkO (bads, [])) (ds := bads)
    (I := fun g M1 => M1 = M ∧ ∃ a4, g = gB ns n t p a2 a4 a5) (fun d hd g M1 ⟨eM, a4, e⟩ => by
      subst e eM
      obtain ⟨h1, h2, h3⟩ := bads_ok hd
      refine ⟨gB ns n t p a2 (some d) a5, M1, ⟨rfl, _, rfl⟩, .inl ?_⟩
      have s1 : sto G (run G (k + 8)) 0 (.nm 4) (gB ns n t p a2 a4 a5) d M1 = .nx (gB ns n t p a2 (some d) a5) M1 := by simp [Iv.sto, gB]
      have z := ne_lists (M := M1) (xs := six) (ys := six) (cf := run G (k + 8) 0) (by kernel_rfl)
      have r1 := r_ops (k := k) (b := 0) (M := M1) (t := t) (p := p) h1 h2 h3
      rw [s1, seq_nx]
      unfold tail2
      unfold six at z r1
      (simp [↓bind_L, ↓out_L, ↓seq_L, bindL_ok, bindL_ex, bindL_no, outL_ok, outL_ex, outL_no, seqL_nx, seqL_rt, seqL_ex, seqL_bk, seqL_ct, seqL_no, Iv.execs, Iv.exec, Iv.ev, Iv.evs, Iv.evi, Iv.evN, Iv.evo, Iv.evc, Iv.sto, Iv.stos, out_ok, out_ex, seq_nx, seq_rt, seq_ex, seq_bk, seq_ct, end_nx, end_rt, end_ex, trunc_ok, trunc_ex, take_len, take_app, take_set,  clo_int, clo_bl, clo_str, clo_non, clo_scr, clo_cl, clo_tup, clo_lst, clo_obj, clo_cel, clL_nil, clL_cons, clF_nil, clF_cons, ov_int, ov_bl, ov_str, ov_non, ov_tup, ov_lst, ov_scr, ov_obj, dv_int, dv_str, dv_tup, dv_lst, dv_scr, dv_obj, lv_lst, lv_scr, bin_int, bi_add, bi_sub, bi_mulL, bi_mulR, bi_mod, bi_divS, bi_pow, cbOk, cbOp, cmp_lt, cmp_le, cmp_gt, cmp_ge, cmp_eq, cmp_ne, is_non, isn_non, eq_str, ne_str, tru_bl, tru_int, tru_non, tru_lst, tru_tup, isNon, ov_cel, dv_cel, lv_cel, subs_cel, setSub_cel, subs_tup, subs_lst, subs_scr,  L2.atI, L2.ixN, callP, noEx_ok, mayW_int, gB, r1, bin_rep, maxL, z] <;> try simp only [bindL_un, outL_un, seqL_un])) (fun _ _ _ => rfl) (g := gB ns n t p a2 a4 a5) (M := M) ⟨rfl, _, rfl⟩
  obtain ⟨g', M', ⟨rfl, a4', rfl⟩, e⟩ := F
  refine ⟨a4', ?_⟩
  rw [exec_for]
  have ei : evi G (run G (k + 8)) 0 (.ex (.lst [.non, (.bl true), (.bl false), (.bin .Pow (.int 10) (.int 15)), (.neg (.bin .Pow (.int 10) (.int 15))), (.bin .Pow (.int 10) (.int 30))])) (gB ns n t p a2 a4 a5) M' = .ok (bads, []) M' := by
    (simp [↓bind_L, ↓out_L, ↓seq_L, bindL_ok, bindL_ex, bindL_no, outL_ok, outL_ex, outL_no, seqL_nx, seqL_rt, seqL_ex, seqL_bk, seqL_ct, seqL_no, Iv.execs, Iv.exec, Iv.ev, Iv.evs, Iv.evi, Iv.evN, Iv.evo, Iv.evc, Iv.sto, Iv.stos, out_ok, out_ex, seq_nx, seq_rt, seq_ex, seq_bk, seq_ct, end_nx, end_rt, end_ex, trunc_ok, trunc_ex, take_len, take_app, take_set,  clo_int, clo_bl, clo_str, clo_non, clo_scr, clo_cl, clo_tup, clo_lst, clo_obj, clo_cel, clL_nil, clL_cons, clF_nil, clF_cons, ov_int, ov_bl, ov_str, ov_non, ov_tup, ov_lst, ov_scr, ov_obj, dv_int, dv_str, dv_tup, dv_lst, dv_scr, dv_obj, lv_lst, lv_scr, bin_int, bi_add, bi_sub, bi_mulL, bi_mulR, bi_mod, bi_divS, bi_pow, cbOk, cbOp, cmp_lt, cmp_le, cmp_gt, cmp_ge, cmp_eq, cmp_ne, is_non, isn_non, eq_str, ne_str, tru_bl, tru_int, tru_non, tru_lst, tru_tup, isNon, ov_cel, dv_cel, lv_cel, subs_cel, setSub_cel, subs_tup, subs_lst, subs_scr,  L2.atI, L2.ixN, callP, noEx_ok, mayW_int, gB, bads, maxL, wkOf] <;> try simp only [bindL_un, outL_un, seqL_un])
  rw [ei]
  exact e
end
end Lw
namespace Lw
open Iv
open PySem (Str Operator CmpOp)
section
variable {k b c : Nat} {M : Me} {t p x i n : Int} {o : D} {ns : List Int} {a2 a4 a5 : Option D}
theorem hD : G.fn "_law_draw" = some fDraw := by kernel_rfl
theorem hP : G.fn "_law_pick" = some (fPickN "_law_things_here") := by kernel_rfl
theorem hN : G.fn "_law_pen" = some fPen := by kernel_rfl
theorem hC : G.fn "_law_cell_at" = some fCellAt := by kernel_rfl
theorem pk_int {q : Pn} {ds : List D} (h0 : ds ≠ []) (h : ∀ d ∈ ds, ∃ i, d = .int i ∧ sm i) : ∃ i, q.pk ds = .int i ∧ sm i := h _ (q.pk_mem h0)
theorem r_numbers {q : Pn} (hc : M[c]? = some q.d) : ∃ t p q', sm t ∧ sm p ∧ run G (k + 3) b "_law_numbers" [.cel c] M = .ok (.tup [.int t, .int p]) (M.set c (Pn.d q')) := by
  have s1 := q.r_nn (m := 99) (by decide)
  have s2 := q.r_lt (m := 99) (by decide)
  have d1 := r_draw (k := k + 1) (b := M.length) hD hc (m := 99) (by decide) (by decide)
  generalize hq1 : q.go 99 = q1 at d1
  have hc1 : (M.set c q1.d)[c]? = some q1.d := get_set hc
  have lM : (M.set c q1.d).length = M.length := by simp
  have p1 := r_pick (k := k) (b := M.length) (ds := [.int 1, .int 1, .int 1, .int 0, .int (-1), .int 2, .int (-2), .int 3, .int (-3), .int (q.r 99 - 49), .int 999999999999999, .int (-999999999999999)]) hD hP hc1 (by simp) (by simp [maxL]) (by simp [clL_cons, clL_nil, clo_int])
  obtain ⟨t, et, st⟩ := pk_int (q := q1) (ds := [.int 1, .int 1, .int 1, .int 0, .int (-1), .int 2, .int (-2), .int 3, .int (-3), .int (q.r 99 - 49), .int 999999999999999, .int (-999999999999999)]) (by simp) (by
    intro d hd
    simp only [List.mem_cons, List.not_mem_nil, or_false] at hd
    rcases hd with rfl | rfl | rfl | rfl | rfl | rfl | rfl | rfl | rfl | rfl | rfl | rfl <;> exact ⟨_, rfl, by constructor <;> omega⟩)
  rw [et, List.set_set] at p1
  generalize hq2 : q1.go _ = q2 at p1
  have hc2 : (M.set c q2.d)[c]? = some q2.d := get_set hc
  have d2 := r_draw (k := k + 1) (b := M.length) hD hc2 (m := 30) (by decide) (by decide)
  have s3 := q2.r_nn (m := 30) (by decide)
  have s4 := q2.r_lt (m := 30) (by decide)
  rw [List.set_set] at d2
  generalize hq3 : q2.go 30 = q3 at d2
  have hc3 : (M.set c q3.d)[c]? = some q3.d := get_set hc
  have d3 := r_draw (k := k + 1) (b := M.length) hD hc3 (m := 1000000000000) (by decide) (by decide)
  have s5 := q3.r_nn (m := 1000000000000) (by decide)
  have s6 := q3.r_lt (m := 1000000000000) (by decide)
  rw [List.set_set] at d3
  generalize hq4 : q3.go 1000000000000 = q4 at d3
  have hc4 : (M.set c q4.d)[c]? = some q4.d := get_set hc
  have p2 := r_pick (k := k) (b := M.length) (ds := [.int 0, .int 1, .int (-1), .int (q2.r 30 - 15), .int (q3.r 1000000000000), .int 999999999999999, .int (-999999999999999)]) hD hP hc4 (by simp) (by simp [maxL]) (by simp [clL_cons, clL_nil, clo_int])
  obtain ⟨p, ep, sp⟩ := pk_int (q := q4) (ds := [.int 0, .int 1, .int (-1), .int (q2.r 30 - 15), .int (q3.r 1000000000000), .int 999999999999999, .int (-999999999999999)]) (by simp) (by
    intro d hd
    simp only [List.mem_cons, List.not_mem_nil, or_false] at hd
    rcases hd with rfl | rfl | rfl | rfl | rfl | rfl | rfl <;> exact ⟨_, rfl, by constructor <;> omega⟩)
  rw [ep, List.set_set] at p2
  generalize hq5 : q4.go _ = q5 at p2
  refine ⟨t, p, q5, st, sp, ?_⟩
  refine run_rt (M1 := M.set c q5.d) fn__law_numbers (by rfl) (by rfl) ?_ (by simp [clo_tup, clL_cons, clL_nil, clo_int]) take_set
  refine execs_nx (g1 := [some (.cel c), some (.int t), none]) (M1 := M.set c q2.d) ?_ ?_
  · (simp [↓bind_L, ↓out_L, ↓seq_L, bindL_ok, bindL_ex, bindL_no, outL_ok, outL_ex, outL_no, seqL_nx, seqL_rt, seqL_ex, seqL_bk, seqL_ct, seqL_no, Iv.execs, Iv.exec, Iv.ev, Iv.evs, Iv.evi, Iv.evN, Iv.evo, Iv.evc, Iv.sto, Iv.stos, out_ok, out_ex, seq_nx, seq_rt, seq_ex, seq_bk, seq_ct, end_nx, end_rt, end_ex, trunc_ok, trunc_ex, take_len, take_app, take_set,  clo_int, clo_bl, clo_str, clo_non, clo_scr, clo_cl, clo_tup, clo_lst, clo_obj, clo_cel, clL_nil, clL_cons, clF_nil, clF_cons, ov_int, ov_bl, ov_str, ov_non, ov_tup, ov_lst, ov_scr, ov_obj, dv_int, dv_str, dv_tup, dv_lst, dv_scr, dv_obj, lv_lst, lv_scr, bin_int, bi_add, bi_sub, bi_mulL, bi_mulR, bi_mod, bi_divS, bi_pow, cbOk, cbOp, cmp_lt, cmp_le, cmp_gt, cmp_ge, cmp_eq, cmp_ne, is_non, isn_non, eq_str, ne_str, tru_bl, tru_int, tru_non, tru_lst, tru_tup, isNon, ov_cel, dv_cel, lv_cel, subs_cel, setSub_cel, subs_tup, subs_lst, subs_scr,  L2.atI, L2.ixN, callP, noEx_ok, mayW_int, f__law_numbers, ck_draw hD, ck_pick hP, d1, p1, maxL] <;> try simp only [bindL_un, outL_un, seqL_un])
  refine execs_nx (g1 := [some (.cel c), some (.int t), some (.int p)]) (M1 := M.set c q5.d) ?_ ?_
  · (simp [↓bind_L, ↓out_L, ↓seq_L, bindL_ok, bindL_ex, bindL_no, outL_ok, outL_ex, outL_no, seqL_nx, seqL_rt, seqL_ex, seqL_bk, seqL_ct, seqL_no, Iv.execs, Iv.exec, Iv.ev, Iv.evs, Iv.evi, Iv.evN, Iv.evo, Iv.evc, Iv.sto, Iv.stos, out_ok, out_ex, seq_nx, seq_rt, seq_ex, seq_bk, seq_ct, end_nx, end_rt, end_ex, trunc_ok, trunc_ex, take_len, take_app, take_set,  clo_int, clo_bl, clo_str, clo_non, clo_scr, clo_cl, clo_tup, clo_lst, clo_obj, clo_cel, clL_nil, clL_cons, clF_nil, clF_cons, ov_int, ov_bl, ov_str, ov_non, ov_tup, ov_lst, ov_scr, ov_obj, dv_int, dv_str, dv_tup, dv_lst, dv_scr, dv_obj, lv_lst, lv_scr, bin_int, bi_add, bi_sub, bi_mulL, bi_mulR, bi_mod, bi_divS, bi_pow, cbOk, cbOp, cmp_lt, cmp_le, cmp_gt, cmp_ge, cmp_eq, cmp_ne, is_non, isn_non, eq_str, ne_str, tru_bl, tru_int, tru_non, tru_lst, tru_tup, isNon, ov_cel, dv_cel, lv_cel, subs_cel, setSub_cel, subs_tup, subs_lst, subs_scr,  L2.atI, L2.ixN, callP, noEx_ok, mayW_int, ck_draw hD, ck_pick hP, d2, d3, p2, maxL] <;> try simp only [bindL_un, outL_un, seqL_un])
  · (simp [↓bind_L, ↓out_L, ↓seq_L, bindL_ok, bindL_ex, bindL_no, outL_ok, outL_ex, outL_no, seqL_nx, seqL_rt, seqL_ex, seqL_bk, seqL_ct, seqL_no, Iv.execs, Iv.exec, Iv.ev, Iv.evs, Iv.evi, Iv.evN, Iv.evo, Iv.evc, Iv.sto, Iv.stos, out_ok, out_ex, seq_nx, seq_rt, seq_ex, seq_bk, seq_ct, end_nx, end_rt, end_ex, trunc_ok, trunc_ex, take_len, take_app, take_set,  clo_int, clo_bl, clo_str, clo_non, clo_scr, clo_cl, clo_tup, clo_lst, clo_obj, clo_cel, clL_nil, clL_cons, clF_nil, clF_cons, ov_int, ov_bl, ov_str, ov_non, ov_tup, ov_lst, ov_scr, ov_obj, dv_int, dv_str, dv_tup, dv_lst, dv_scr, dv_obj, lv_lst, lv_scr, bin_int, bi_add, bi_sub, bi_mulL, bi_mulR, bi_mod, bi_divS, bi_pow, cbOk, cbOp, cmp_lt, cmp_le, cmp_gt, cmp_ge, cmp_eq, cmp_ne, is_non, isn_non, eq_str, ne_str, tru_bl, tru_int, tru_non, tru_lst, tru_tup, isNon, ov_cel, dv_cel, lv_cel, subs_cel, setSub_cel, subs_tup, subs_lst, subs_scr,  L2.atI, L2.ixN, callP, noEx_ok, mayW_int, maxL] <;> try simp only [bindL_un, outL_un, seqL_un])
theorem mk_ok (ht : sm t) (hp : sm p) : trunc M.length (mkR G (run G (k + 3) M.length) .Formula [.int t, .int p] M) = .ok (fo t p) M := by
  rw [r_mk, mkr_ok (by rw [smB_of ht, smB_of hp]; rfl)]
def w6 : List D := [.tup [.str "large"], .tup [.str "large"], .tup [.str "integer"], .tup [.str "integer"], .tup [.str "key"], .tup [.str "key"]]
def tail3 : List Sm := [.asg (.nm 5) (.cel (.lst [(.said (.frz (.mk .Formula [(.bin .Pow (.int 10) (.int 15)), (.int 0)])))])), .ex (.bm (.v 5) .append [(.said (.frz (.mk .Formula [(.int 0), (.neg (.bin .Pow (.int 10) (.int 15)))])))]), .ex (.bm (.v 5) .append [(.said (.bin .Pow (.v 3) (.int 61)))]), .ex (.bm (.v 5) .append [(.said (.bin .Pow (.v 3) (.int 64)))]), .ex (.bm (.v 5) .append [(.said (.call 3 [(.bin .Pow (.int 10) (.int 30))]))]), .ex (.bm (.v 5) .append [(.said (.call 3 [(.neg (.bin .Pow (.int 10) (.int 30)))]))]), .ifs (.cmp .NotEq (.v 5) (.bin .Add (.bin .Add (.bin .Mult (.lst [(.tup [(.str "large")])]) (.int 2)) (.bin .Mult (.lst [(.tup [(.str "integer")])]) (.int 2))) (.bin .Mult (.lst [(.tup [(.str "key")])]) (.int 2)))) [.ret (.bl false)] [], .ifs (.nt (.cf "_law_same" [(.lst [(.att (.v 3) "times"), (.att (.v 3) "plus")]), (.lst [(.v 6), (.v 7)])] [] [])) [.ret (.bl false)] []]
theorem r_nokey (h : ¬ (-1000000000000000000000000000000 < i ∧ i < 1000000000000000000000000000000)) : run G (k + 2) b "is_key" [.int i] M = .ok (.bl false) M := by
  rw [run1 fn_is_key, callF_free (by rfl) (by rfl)]
  by_cases h1 : -1000000000000000000000000000000 < i
  · have h2 : ¬ i < 1000000000000000000000000000000 := fun z => h ⟨h1, z⟩
    (simp [↓bind_L, ↓out_L, ↓seq_L, bindL_ok, bindL_ex, bindL_no, outL_ok, outL_ex, outL_no, seqL_nx, seqL_rt, seqL_ex, seqL_bk, seqL_ct, seqL_no, Iv.execs, Iv.exec, Iv.ev, Iv.evs, Iv.evi, Iv.evN, Iv.evo, Iv.evc, Iv.sto, Iv.stos, out_ok, out_ex, seq_nx, seq_rt, seq_ex, seq_bk, seq_ct, end_nx, end_rt, end_ex, trunc_ok, trunc_ex, take_len, take_app, take_set,  clo_int, clo_bl, clo_str, clo_non, clo_scr, clo_cl, clo_tup, clo_lst, clo_obj, clo_cel, clL_nil, clL_cons, clF_nil, clF_cons, ov_int, ov_bl, ov_str, ov_non, ov_tup, ov_lst, ov_scr, ov_obj, dv_int, dv_str, dv_tup, dv_lst, dv_scr, dv_obj, lv_lst, lv_scr, bin_int, bi_add, bi_sub, bi_mulL, bi_mulR, bi_mod, bi_divS, bi_pow, cbOk, cbOp, cmp_lt, cmp_le, cmp_gt, cmp_ge, cmp_eq, cmp_ne, is_non, isn_non, eq_str, ne_str, tru_bl, tru_int, tru_non, tru_lst, tru_tup, isNon, ov_cel, dv_cel, lv_cel, subs_cel, setSub_cel, subs_tup, subs_lst, subs_scr,  L2.atI, L2.ixN, callP, noEx_ok, mayW_int, f_is_key, r_is_integer, h1, h2] <;> try simp only [bindL_un, outL_un, seqL_un])
  · (simp [↓bind_L, ↓out_L, ↓seq_L, bindL_ok, bindL_ex, bindL_no, outL_ok, outL_ex, outL_no, seqL_nx, seqL_rt, seqL_ex, seqL_bk, seqL_ct, seqL_no, Iv.execs, Iv.exec, Iv.ev, Iv.evs, Iv.evi, Iv.evN, Iv.evo, Iv.evc, Iv.sto, Iv.stos, out_ok, out_ex, seq_nx, seq_rt, seq_ex, seq_bk, seq_ct, end_nx, end_rt, end_ex, trunc_ok, trunc_ex, take_len, take_app, take_set,  clo_int, clo_bl, clo_str, clo_non, clo_scr, clo_cl, clo_tup, clo_lst, clo_obj, clo_cel, clL_nil, clL_cons, clF_nil, clF_cons, ov_int, ov_bl, ov_str, ov_non, ov_tup, ov_lst, ov_scr, ov_obj, dv_int, dv_str, dv_tup, dv_lst, dv_scr, dv_obj, lv_lst, lv_scr, bin_int, bi_add, bi_sub, bi_mulL, bi_mulR, bi_mod, bi_divS, bi_pow, cbOk, cbOp, cmp_lt, cmp_le, cmp_gt, cmp_ge, cmp_eq, cmp_ne, is_non, isn_non, eq_str, ne_str, tru_bl, tru_int, tru_non, tru_lst, tru_tup, isNon, ov_cel, dv_cel, lv_cel, subs_cel, setSub_cel, subs_tup, subs_lst, subs_scr,  L2.atI, L2.ixN, callP, noEx_ok, mayW_int, f_is_key, r_is_integer, h1] <;> try simp only [bindL_un, outL_un, seqL_un])
theorem last_ok (ht : sm t) (hp : sm p) : execs G (run G (k + 8)) 0 tail3 (gB ns n t p a2 a4 a5) M = .nx (gB ns n t p a2 a4 (some (.cel M.length))) (M ++ [.lst w6]) := by
  have m1 : ∀ M' : Me, trunc M'.length (mkR G (run G (k + 8) M'.length) .Formula [.int 1000000000000000, .int 0] M') = .ex .TooLarge [] M' := fun M' => by rw [r_mk (k := k + 5), mkr_ex (by decide)]
  have m2 : ∀ M' : Me, trunc M'.length (mkR G (run G (k + 8) M'.length) .Formula [.int 0, .int (-1000000000000000)] M') = .ex .TooLarge [] M' := fun M' => by rw [r_mk (k := k + 5), mkr_ex (by decide)]
  have m3 : ∀ M' : Me, binOp G (run G (k + 8) 0) .Pow (fo t p) (.int 61) M' = .ex .NotInteger [] M' := fun M' => b_powx (k := k + 4) (by decide)
  have m4 : ∀ M' : Me, binOp G (run G (k + 8) 0) .Pow (fo t p) (.int 64) M' = .ex .NotInteger [] M' := fun M' => b_powx (k := k + 4) (by decide)
  have mc : ∀ M' : Me, metC G M' (fo t p) = some (("Formula.__call__" : String) : Str) := fun M' => by
    unfold metC
    rw [ov_fo]
    dsimp only
    rw [gf_Formula___call__]
  have m5 : ∀ M' : Me, run G (k + 8) 0 "Formula.__call__" [fo t p, .int 1000000000000000000000000000000] M' = .ex .NotKey [] M' := fun M' => call_x (k := k + 5) fun _ => r_nokey (by decide)
  have m6 : ∀ M' : Me, run G (k + 8) 0 "Formula.__call__" [fo t p, .int (-1000000000000000000000000000000)] M' = .ex .NotKey [] M' := fun M' => call_x (k := k + 5) fun _ => r_nokey (by decide)
  unfold tail3
  refine execs_nx (g1 := gB ns n t p a2 a4 (some (.cel M.length))) (M1 := M ++ [.lst [.tup [.str "large"]]]) (by (simp [↓bind_L, ↓out_L, ↓seq_L, bindL_ok, bindL_ex, bindL_no, outL_ok, outL_ex, outL_no, seqL_nx, seqL_rt, seqL_ex, seqL_bk, seqL_ct, seqL_no, Iv.execs, Iv.exec, Iv.ev, Iv.evs, Iv.evi, Iv.evN, Iv.evo, Iv.evc, Iv.sto, Iv.stos, out_ok, out_ex, seq_nx, seq_rt, seq_ex, seq_bk, seq_ct, end_nx, end_rt, end_ex, trunc_ok, trunc_ex, take_len, take_app, take_set,  clo_int, clo_bl, clo_str, clo_non, clo_scr, clo_cl, clo_tup, clo_lst, clo_obj, clo_cel, clL_nil, clL_cons, clF_nil, clF_cons, ov_int, ov_bl, ov_str, ov_non, ov_tup, ov_lst, ov_scr, ov_obj, dv_int, dv_str, dv_tup, dv_lst, dv_scr, dv_obj, lv_lst, lv_scr, bin_int, bi_add, bi_sub, bi_mulL, bi_mulR, bi_mod, bi_divS, bi_pow, cbOk, cbOp, cmp_lt, cmp_le, cmp_gt, cmp_ge, cmp_eq, cmp_ne, is_non, isn_non, eq_str, ne_str, tru_bl, tru_int, tru_non, tru_lst, tru_tup, isNon, ov_cel, dv_cel, lv_cel, subs_cel, setSub_cel, subs_tup, subs_lst, subs_scr,  L2.atI, L2.ixN, callP, noEx_ok, mayW_int, gB, m1, sd_large, maxL] <;> try simp only [bindL_un, outL_un, seqL_un])) ?_
  refine execs_nx (app_g (Nat.zero_le _) (by rfl) (by simp) (d := .tup [.str "large"]) fun M' => by (simp [↓bind_L, ↓out_L, ↓seq_L, bindL_ok, bindL_ex, bindL_no, outL_ok, outL_ex, outL_no, seqL_nx, seqL_rt, seqL_ex, seqL_bk, seqL_ct, seqL_no, Iv.execs, Iv.exec, Iv.ev, Iv.evs, Iv.evi, Iv.evN, Iv.evo, Iv.evc, Iv.sto, Iv.stos, out_ok, out_ex, seq_nx, seq_rt, seq_ex, seq_bk, seq_ct, end_nx, end_rt, end_ex, trunc_ok, trunc_ex, take_len, take_app, take_set,  clo_int, clo_bl, clo_str, clo_non, clo_scr, clo_cl, clo_tup, clo_lst, clo_obj, clo_cel, clL_nil, clL_cons, clF_nil, clF_cons, ov_int, ov_bl, ov_str, ov_non, ov_tup, ov_lst, ov_scr, ov_obj, dv_int, dv_str, dv_tup, dv_lst, dv_scr, dv_obj, lv_lst, lv_scr, bin_int, bi_add, bi_sub, bi_mulL, bi_mulR, bi_mod, bi_divS, bi_pow, cbOk, cbOp, cmp_lt, cmp_le, cmp_gt, cmp_ge, cmp_eq, cmp_ne, is_non, isn_non, eq_str, ne_str, tru_bl, tru_int, tru_non, tru_lst, tru_tup, isNon, ov_cel, dv_cel, lv_cel, subs_cel, setSub_cel, subs_tup, subs_lst, subs_scr,  L2.atI, L2.ixN, callP, noEx_ok, mayW_int, gB, m2, sd_large] <;> try simp only [bindL_un, outL_un, seqL_un])) ?_
  refine execs_nx (app_g (Nat.zero_le _) (by rfl) (by simp) (d := .tup [.str "integer"]) fun M' => by (simp [↓bind_L, ↓out_L, ↓seq_L, bindL_ok, bindL_ex, bindL_no, outL_ok, outL_ex, outL_no, seqL_nx, seqL_rt, seqL_ex, seqL_bk, seqL_ct, seqL_no, Iv.execs, Iv.exec, Iv.ev, Iv.evs, Iv.evi, Iv.evN, Iv.evo, Iv.evc, Iv.sto, Iv.stos, out_ok, out_ex, seq_nx, seq_rt, seq_ex, seq_bk, seq_ct, end_nx, end_rt, end_ex, trunc_ok, trunc_ex, take_len, take_app, take_set,  clo_int, clo_bl, clo_str, clo_non, clo_scr, clo_cl, clo_tup, clo_lst, clo_obj, clo_cel, clL_nil, clL_cons, clF_nil, clF_cons, ov_int, ov_bl, ov_str, ov_non, ov_tup, ov_lst, ov_scr, ov_obj, dv_int, dv_str, dv_tup, dv_lst, dv_scr, dv_obj, lv_lst, lv_scr, bin_int, bi_add, bi_sub, bi_mulL, bi_mulR, bi_mod, bi_divS, bi_pow, cbOk, cbOp, cmp_lt, cmp_le, cmp_gt, cmp_ge, cmp_eq, cmp_ne, is_non, isn_non, eq_str, ne_str, tru_bl, tru_int, tru_non, tru_lst, tru_tup, isNon, ov_cel, dv_cel, lv_cel, subs_cel, setSub_cel, subs_tup, subs_lst, subs_scr,  L2.atI, L2.ixN, callP, noEx_ok, mayW_int, gB, m3, sd_int] <;> try simp only [bindL_un, outL_un, seqL_un])) ?_
  refine execs_nx (app_g (Nat.zero_le _) (by rfl) (by simp) (d := .tup [.str "integer"]) fun M' => by (simp [↓bind_L, ↓out_L, ↓seq_L, bindL_ok, bindL_ex, bindL_no, outL_ok, outL_ex, outL_no, seqL_nx, seqL_rt, seqL_ex, seqL_bk, seqL_ct, seqL_no, Iv.execs, Iv.exec, Iv.ev, Iv.evs, Iv.evi, Iv.evN, Iv.evo, Iv.evc, Iv.sto, Iv.stos, out_ok, out_ex, seq_nx, seq_rt, seq_ex, seq_bk, seq_ct, end_nx, end_rt, end_ex, trunc_ok, trunc_ex, take_len, take_app, take_set,  clo_int, clo_bl, clo_str, clo_non, clo_scr, clo_cl, clo_tup, clo_lst, clo_obj, clo_cel, clL_nil, clL_cons, clF_nil, clF_cons, ov_int, ov_bl, ov_str, ov_non, ov_tup, ov_lst, ov_scr, ov_obj, dv_int, dv_str, dv_tup, dv_lst, dv_scr, dv_obj, lv_lst, lv_scr, bin_int, bi_add, bi_sub, bi_mulL, bi_mulR, bi_mod, bi_divS, bi_pow, cbOk, cbOp, cmp_lt, cmp_le, cmp_gt, cmp_ge, cmp_eq, cmp_ne, is_non, isn_non, eq_str, ne_str, tru_bl, tru_int, tru_non, tru_lst, tru_tup, isNon, ov_cel, dv_cel, lv_cel, subs_cel, setSub_cel, subs_tup, subs_lst, subs_scr,  L2.atI, L2.ixN, callP, noEx_ok, mayW_int, gB, m4, sd_int] <;> try simp only [bindL_un, outL_un, seqL_un])) ?_
  refine execs_nx (app_g (Nat.zero_le _) (by rfl) (by simp) (d := .tup [.str "key"]) fun M' => by (simp [↓bind_L, ↓out_L, ↓seq_L, bindL_ok, bindL_ex, bindL_no, outL_ok, outL_ex, outL_no, seqL_nx, seqL_rt, seqL_ex, seqL_bk, seqL_ct, seqL_no, Iv.execs, Iv.exec, Iv.ev, Iv.evs, Iv.evi, Iv.evN, Iv.evo, Iv.evc, Iv.sto, Iv.stos, out_ok, out_ex, seq_nx, seq_rt, seq_ex, seq_bk, seq_ct, end_nx, end_rt, end_ex, trunc_ok, trunc_ex, take_len, take_app, take_set,  clo_int, clo_bl, clo_str, clo_non, clo_scr, clo_cl, clo_tup, clo_lst, clo_obj, clo_cel, clL_nil, clL_cons, clF_nil, clF_cons, ov_int, ov_bl, ov_str, ov_non, ov_tup, ov_lst, ov_scr, ov_obj, dv_int, dv_str, dv_tup, dv_lst, dv_scr, dv_obj, lv_lst, lv_scr, bin_int, bi_add, bi_sub, bi_mulL, bi_mulR, bi_mod, bi_divS, bi_pow, cbOk, cbOp, cmp_lt, cmp_le, cmp_gt, cmp_ge, cmp_eq, cmp_ne, is_non, isn_non, eq_str, ne_str, tru_bl, tru_int, tru_non, tru_lst, tru_tup, isNon, ov_cel, dv_cel, lv_cel, subs_cel, setSub_cel, subs_tup, subs_lst, subs_scr,  L2.atI, L2.ixN, callP, noEx_ok, mayW_int, gB, mc, m5, sd_key] <;> try simp only [bindL_un, outL_un, seqL_un])) ?_
  refine execs_nx (app_g (Nat.zero_le _) (by rfl) (by simp) (d := .tup [.str "key"]) fun M' => by (simp [↓bind_L, ↓out_L, ↓seq_L, bindL_ok, bindL_ex, bindL_no, outL_ok, outL_ex, outL_no, seqL_nx, seqL_rt, seqL_ex, seqL_bk, seqL_ct, seqL_no, Iv.execs, Iv.exec, Iv.ev, Iv.evs, Iv.evi, Iv.evN, Iv.evo, Iv.evc, Iv.sto, Iv.stos, out_ok, out_ex, seq_nx, seq_rt, seq_ex, seq_bk, seq_ct, end_nx, end_rt, end_ex, trunc_ok, trunc_ex, take_len, take_app, take_set,  clo_int, clo_bl, clo_str, clo_non, clo_scr, clo_cl, clo_tup, clo_lst, clo_obj, clo_cel, clL_nil, clL_cons, clF_nil, clF_cons, ov_int, ov_bl, ov_str, ov_non, ov_tup, ov_lst, ov_scr, ov_obj, dv_int, dv_str, dv_tup, dv_lst, dv_scr, dv_obj, lv_lst, lv_scr, bin_int, bi_add, bi_sub, bi_mulL, bi_mulR, bi_mod, bi_divS, bi_pow, cbOk, cbOp, cmp_lt, cmp_le, cmp_gt, cmp_ge, cmp_eq, cmp_ne, is_non, isn_non, eq_str, ne_str, tru_bl, tru_int, tru_non, tru_lst, tru_tup, isNon, ov_cel, dv_cel, lv_cel, subs_cel, setSub_cel, subs_tup, subs_lst, subs_scr,  L2.atI, L2.ixN, callP, noEx_ok, mayW_int, gB, mc, m6, sd_key] <;> try simp only [bindL_un, outL_un, seqL_un])) ?_
  have z := ne_cell (M := M ++ [.lst w6]) (c := M.length) (xs := w6) (ys := w6) (cf := run G (k + 8) 0) get_app (by kernel_rfl)
  refine execs_nx (g1 := gB ns n t p a2 a4 (some (.cel M.length))) (M1 := M ++ [.lst w6]) ?_ ?_
  · show exec G (run G (k + 8)) 0 _ _ (M ++ [.lst w6]) = _
    unfold w6 at z ⊢
    (simp [↓bind_L, ↓out_L, ↓seq_L, bindL_ok, bindL_ex, bindL_no, outL_ok, outL_ex, outL_no, seqL_nx, seqL_rt, seqL_ex, seqL_bk, seqL_ct, seqL_no, Iv.execs, Iv.exec, Iv.ev, Iv.evs, Iv.evi, Iv.evN, Iv.evo, Iv.evc, Iv.sto, Iv.stos, out_ok, out_ex, seq_nx, seq_rt, seq_ex, seq_bk, seq_ct, end_nx, end_rt, end_ex, trunc_ok, trunc_ex, take_len, take_app, take_set,  clo_int, clo_bl, clo_str, clo_non, clo_scr, clo_cl, clo_tup, clo_lst, clo_obj, clo_cel, clL_nil, clL_cons, clF_nil, clF_cons, ov_int, ov_bl, ov_str, ov_non, ov_tup, ov_lst, ov_scr, ov_obj, dv_int, dv_str, dv_tup, dv_lst, dv_scr, dv_obj, lv_lst, lv_scr, bin_int, bi_add, bi_sub, bi_mulL, bi_mulR, bi_mod, bi_divS, bi_pow, cbOk, cbOp, cmp_lt, cmp_le, cmp_gt, cmp_ge, cmp_eq, cmp_ne, is_non, isn_non, eq_str, ne_str, tru_bl, tru_int, tru_non, tru_lst, tru_tup, isNon, ov_cel, dv_cel, lv_cel, subs_cel, setSub_cel, subs_tup, subs_lst, subs_scr,  L2.atI, L2.ixN, callP, noEx_ok, mayW_int, gB, bin_rep, bin_lst, maxL, z] <;> try simp only [bindL_un, outL_un, seqL_un])
  refine execs_nx (g1 := gB ns n t p a2 a4 (some (.cel M.length))) (M1 := M ++ [.lst w6]) ?_ (by rw [Iv.execs])
  obtain ⟨s, hs⟩ := repr_ok (M := M ++ [.lst w6]) (d := .lst [.int t, .int p]) (by simp [okD, okL, ht.log, hp.log]) (by simp [wtD, wtL]) (by simp [dpD, dpL])
  have r1 := r_same (k := k + 7) (b := 0) (M := M ++ [.lst w6]) (o := .lst [.int t, .int p]) rfl hs
  (simp [↓bind_L, ↓out_L, ↓seq_L, bindL_ok, bindL_ex, bindL_no, outL_ok, outL_ex, outL_no, seqL_nx, seqL_rt, seqL_ex, seqL_bk, seqL_ct, seqL_no, Iv.execs, Iv.exec, Iv.ev, Iv.evs, Iv.evi, Iv.evN, Iv.evo, Iv.evc, Iv.sto, Iv.stos, out_ok, out_ex, seq_nx, seq_rt, seq_ex, seq_bk, seq_ct, end_nx, end_rt, end_ex, trunc_ok, trunc_ex, take_len, take_app, take_set,  clo_int, clo_bl, clo_str, clo_non, clo_scr, clo_cl, clo_tup, clo_lst, clo_obj, clo_cel, clL_nil, clL_cons, clF_nil, clF_cons, ov_int, ov_bl, ov_str, ov_non, ov_tup, ov_lst, ov_scr, ov_obj, dv_int, dv_str, dv_tup, dv_lst, dv_scr, dv_obj, lv_lst, lv_scr, bin_int, bi_add, bi_sub, bi_mulL, bi_mulR, bi_mod, bi_divS, bi_pow, cbOk, cbOp, cmp_lt, cmp_le, cmp_gt, cmp_ge, cmp_eq, cmp_ne, is_non, isn_non, eq_str, ne_str, tru_bl, tru_int, tru_non, tru_lst, tru_tup, isNon, ov_cel, dv_cel, lv_cel, subs_cel, setSub_cel, subs_tup, subs_lst, subs_scr,  L2.atI, L2.ixN, callP, noEx_ok, mayW_int, gB, at_times, at_plus, maxL, r1] <;> try simp only [bindL_un, outL_un, seqL_un])
def body : List Sm := .asg (.nm 2) (.cf "_law_pen" [(.v 1)] [] []) :: .asg (.tup [(.nm 6), (.nm 7)]) (.cf "_law_numbers" [(.v 2)] [] []) :: .asg (.nm 3) (.frz (.mk .Formula [(.v 6), (.v 7)])) :: .for (.nm 4) (.ex (.bin .Add (.cf "_law_things" [] [] []) (.lst [(.v 3)]))) (head1 tail1) :: .for (.nm 4) (.ex (.lst [.non, (.bl true), (.bl false), (.bin .Pow (.int 10) (.int 15)), (.neg (.bin .Pow (.int 10) (.int 15))), (.bin .Pow (.int 10) (.int 30))])) tail2 :: tail3
theorem body_ok {a3 a6 a7 : Option D} : ∃ g' M', (∃ a1 a2 a3 a4 a5 a6 a7, g' = [some (.scr ns), a1, a2, a3, a4, a5, a6, a7]) ∧ execs G (run G (k + 8)) 0 body [some (.scr ns), some (.int n), a2, a3, a4, a5, a6, a7] M = .nx g' M' := by
  obtain ⟨q0, hq0⟩ : ∃ q : Pn, q = ⟨if n - 10 ^ 18 > 0 then n - 10 ^ 18 else 0, n % 2147483629, 1⟩ := ⟨_, rfl⟩
  have e0 := r_pen (k := k + 7) (b := 0) (M := M) (n := n) hN
  rw [← hq0] at e0
  have hc0 : (M ++ [q0.d])[M.length]? = some q0.d := by simp
  obtain ⟨t, p, q1, ht, hp, e1⟩ := r_numbers (k := k + 5) (b := 0) hc0
  rw [set_app] at e1
  have m1 := mk_ok (k := k + 5) (M := M ++ [q1.d]) ht hp
  obtain ⟨a4', a5', M2, e2⟩ := loop1 (k := k) (M := M ++ [q1.d]) (ns := ns) (n := n) (t := t) (p := p) (a2 := some (.cel M.length)) (a4 := a4) (a5 := a5)
  obtain ⟨a4'', e3⟩ := loop2 (k := k) (M := M2) (ns := ns) (n := n) (t := t) (p := p) (a2 := some (.cel M.length)) (a4 := a4') (a5 := a5')
  refine ⟨gB ns n t p (some (.cel M.length)) a4'' (some (.cel M2.length)), M2 ++ [.lst w6], ⟨_, _, _, _, _, _, _, rfl⟩, ?_⟩
  unfold body
  refine execs_nx (g1 := [some (.scr ns), some (.int n), some (.cel M.length), a3, a4, a5, a6, a7]) (M1 := M ++ [q0.d]) (by (simp [↓bind_L, ↓out_L, ↓seq_L, bindL_ok, bindL_ex, bindL_no, outL_ok, outL_ex, outL_no, seqL_nx, seqL_rt, seqL_ex, seqL_bk, seqL_ct, seqL_no, Iv.execs, Iv.exec, Iv.ev, Iv.evs, Iv.evi, Iv.evN, Iv.evo, Iv.evc, Iv.sto, Iv.stos, out_ok, out_ex, seq_nx, seq_rt, seq_ex, seq_bk, seq_ct, end_nx, end_rt, end_ex, trunc_ok, trunc_ex, take_len, take_app, take_set,  clo_int, clo_bl, clo_str, clo_non, clo_scr, clo_cl, clo_tup, clo_lst, clo_obj, clo_cel, clL_nil, clL_cons, clF_nil, clF_cons, ov_int, ov_bl, ov_str, ov_non, ov_tup, ov_lst, ov_scr, ov_obj, dv_int, dv_str, dv_tup, dv_lst, dv_scr, dv_obj, lv_lst, lv_scr, bin_int, bi_add, bi_sub, bi_mulL, bi_mulR, bi_mod, bi_divS, bi_pow, cbOk, cbOp, cmp_lt, cmp_le, cmp_gt, cmp_ge, cmp_eq, cmp_ne, is_non, isn_non, eq_str, ne_str, tru_bl, tru_int, tru_non, tru_lst, tru_tup, isNon, ov_cel, dv_cel, lv_cel, subs_cel, setSub_cel, subs_tup, subs_lst, subs_scr,  L2.atI, L2.ixN, callP, noEx_ok, mayW_int, ck_pen hN, e0] <;> try simp only [bindL_un, outL_un, seqL_un])) ?_
  refine execs_nx (g1 := [some (.scr ns), some (.int n), some (.cel M.length), a3, a4, a5, some (.int t), some (.int p)]) (M1 := M ++ [q1.d]) (by (simp [↓bind_L, ↓out_L, ↓seq_L, bindL_ok, bindL_ex, bindL_no, outL_ok, outL_ex, outL_no, seqL_nx, seqL_rt, seqL_ex, seqL_bk, seqL_ct, seqL_no, Iv.execs, Iv.exec, Iv.ev, Iv.evs, Iv.evi, Iv.evN, Iv.evo, Iv.evc, Iv.sto, Iv.stos, out_ok, out_ex, seq_nx, seq_rt, seq_ex, seq_bk, seq_ct, end_nx, end_rt, end_ex, trunc_ok, trunc_ex, take_len, take_app, take_set,  clo_int, clo_bl, clo_str, clo_non, clo_scr, clo_cl, clo_tup, clo_lst, clo_obj, clo_cel, clL_nil, clL_cons, clF_nil, clF_cons, ov_int, ov_bl, ov_str, ov_non, ov_tup, ov_lst, ov_scr, ov_obj, dv_int, dv_str, dv_tup, dv_lst, dv_scr, dv_obj, lv_lst, lv_scr, bin_int, bi_add, bi_sub, bi_mulL, bi_mulR, bi_mod, bi_divS, bi_pow, cbOk, cbOp, cmp_lt, cmp_le, cmp_gt, cmp_ge, cmp_eq, cmp_ne, is_non, isn_non, eq_str, ne_str, tru_bl, tru_int, tru_non, tru_lst, tru_tup, isNon, ov_cel, dv_cel, lv_cel, subs_cel, setSub_cel, subs_tup, subs_lst, subs_scr,  L2.atI, L2.ixN, callP, noEx_ok, mayW_int, e1, seqOf] <;> try simp only [bindL_un, outL_un, seqL_un])) ?_
  refine execs_nx (g1 := gB ns n t p (some (.cel M.length)) a4 a5) (M1 := M ++ [q1.d]) (by
    simp only [List.length_append, List.length_cons, List.length_nil, Nat.zero_add] at m1
    (simp [↓bind_L, ↓out_L, ↓seq_L, bindL_ok, bindL_ex, bindL_no, outL_ok, outL_ex, outL_no, seqL_nx, seqL_rt, seqL_ex, seqL_bk, seqL_ct, seqL_no, Iv.execs, Iv.exec, Iv.ev, Iv.evs, Iv.evi, Iv.evN, Iv.evo, Iv.evc, Iv.sto, Iv.stos, out_ok, out_ex, seq_nx, seq_rt, seq_ex, seq_bk, seq_ct, end_nx, end_rt, end_ex, trunc_ok, trunc_ex, take_len, take_app, take_set,  clo_int, clo_bl, clo_str, clo_non, clo_scr, clo_cl, clo_tup, clo_lst, clo_obj, clo_cel, clL_nil, clL_cons, clF_nil, clF_cons, ov_int, ov_bl, ov_str, ov_non, ov_tup, ov_lst, ov_scr, ov_obj, dv_int, dv_str, dv_tup, dv_lst, dv_scr, dv_obj, lv_lst, lv_scr, bin_int, bi_add, bi_sub, bi_mulL, bi_mulR, bi_mod, bi_divS, bi_pow, cbOk, cbOp, cmp_lt, cmp_le, cmp_gt, cmp_ge, cmp_eq, cmp_ne, is_non, isn_non, eq_str, ne_str, tru_bl, tru_int, tru_non, tru_lst, tru_tup, isNon, ov_cel, dv_cel, lv_cel, subs_cel, setSub_cel, subs_tup, subs_lst, subs_scr,  L2.atI, L2.ixN, callP, noEx_ok, mayW_int, m1, gB] <;> try simp only [bindL_un, outL_un, seqL_un])) ?_
  refine execs_nx e2 ?_
  refine execs_nx e3 ?_
  exact last_ok ht hp
end
theorem law_run (ns : List Int) (hl : ns.length ≤ 63) : ∃ M', run G 12 0 "law" [.scr ns] [] = .ok (.bl true) M' := by
  obtain ⟨g', M', ⟨a1, a2, a3, a4, a5, a6, a7, rfl⟩, e⟩ := cells_loop (G := G) (k := 10) (i := 1) (hi := 2) (body := body) (ns := ns) (g := [some (.scr ns), none, none, none, none, none, none, none]) (P := fun g => ∃ a1 a2 a3 a4 a5 a6 a7, g = [some (.scr ns), a1, a2, a3, a4, a5, a6, a7]) hC hl rfl ⟨_, _, _, _, _, _, _, rfl⟩ (fun g ⟨_, _, _, _, _, _, _, h⟩ => by subst h; simp) (fun n g M ⟨_, _, _, _, _, _, _, h⟩ => by
    subst h
    exact body_ok (k := 3))
  refine ⟨_, run_rt (M1 := M') (M2 := M'.take 0) fn_law (by rfl) (by rfl) ?_ rfl rfl⟩
  refine execs_nx (g1 := [some (.scr ns), a1, a2, a3, a4, a5, a6, a7]) (M1 := M') e ?_
  exact execs_rt (by (simp [↓bind_L, ↓out_L, ↓seq_L, bindL_ok, bindL_ex, bindL_no, outL_ok, outL_ex, outL_no, seqL_nx, seqL_rt, seqL_ex, seqL_bk, seqL_ct, seqL_no, Iv.execs, Iv.exec, Iv.ev, Iv.evs, Iv.evi, Iv.evN, Iv.evo, Iv.evc, Iv.sto, Iv.stos, out_ok, out_ex, seq_nx, seq_rt, seq_ex, seq_bk, seq_ct, end_nx, end_rt, end_ex, trunc_ok, trunc_ex, take_len, take_app, take_set,  clo_int, clo_bl, clo_str, clo_non, clo_scr, clo_cl, clo_tup, clo_lst, clo_obj, clo_cel, clL_nil, clL_cons, clF_nil, clF_cons, ov_int, ov_bl, ov_str, ov_non, ov_tup, ov_lst, ov_scr, ov_obj, dv_int, dv_str, dv_tup, dv_lst, dv_scr, dv_obj, lv_lst, lv_scr, bin_int, bi_add, bi_sub, bi_mulL, bi_mulR, bi_mod, bi_divS, bi_pow, cbOk, cbOp, cmp_lt, cmp_le, cmp_gt, cmp_ge, cmp_eq, cmp_ne, is_non, isn_non, eq_str, ne_str, tru_bl, tru_int, tru_non, tru_lst, tru_tup, isNon, ov_cel, dv_cel, lv_cel, subs_cel, setSub_cel, subs_tup, subs_lst, subs_scr,  L2.atI, L2.ixN, callP, noEx_ok, mayW_int] <;> try simp only [bindL_un, outL_un, seqL_un]))
end Lw
open PySem PySem.W PySem.Calls PyProof.Rows
theorem Lw.holds_of (hL : ∀ ns : List Int, ns.length ≤ 63 → (∀ z ∈ ns, Builtin.Int.intBits z ≤ 1048576) → ∃ M', Iv.run Lw.G 12 0 "law" [.scr ns] [] = .ok (.bl true) M') : PySem.Challenge.rw_rowclash_k71_formulas_refuse.Holds := by
  w_on; o_law
  refine HandSHeadRun.head_any (r := Lw.R) (q := view Lw.R.prog [48]) (H := Lw.hk) (ob := Lw.ob) (M := 40000) (loose := Lw.names) (d := HandSHeadRun.topDef Lw.R.prog 48) (kwd := []) Lw.ob_eq (by kernel_rfl) (fun s => by kernel_rfl) Lw.hdrun (by kernel_rfl) (by kernel_rfl) (by kernel_rfl) (by rfl) (by first | assumption | decide +kernel) (by decide +kernel) ⟨rfl, rfl, rfl, rfl, rfl, by decide +kernel⟩ ?hw ?hc
  case hw => w_witness2
  case hc =>
    refine Iv.walk_E (l := PySem.Challenge.rw_rowclash_k71_formulas_refuse) (n := 63) (k := 5 * 12) (x := "_law_script") rfl (by decide) (by kernel_rfl) ⟨rfl, by decide, by decide⟩ ?F
    intro w mg fa h Y G hmg0
    obtain ⟨K, KX, c⟩ := Y
    have hmg : mg ("law" : PySem.Str) = some (.ref fa) := by
      have e : (HandSHeadRun.topDef Lw.R.prog 48).name = ("law" : PySem.Str) := by kernel_rfl
      rw [← e]
      exact hmg0
    exact Iv.law_F (j := 11) (d := Lw.d_law) KX G c (fun K e => (Iv.b2 e).1) Lw.defs Lw.sts (by kernel_rfl) (by kernel_rfl) rfl rfl rfl rfl hmg rfl (by decide) (fun _ _ _ _ _ _ us hl => match us, hl with | [_], _ => rfl) (fun base hT => Iv.lamD_of (Iv.saidK_of KX G (Iv.b2 (Iv.b2 c.more).2).1 (Iv.b2 (Iv.b2 (Iv.b2 c.more).2).2).1 (c.fns _ (List.mem_append_right _ (show Lw.d__law_word ∈ Lw.xtl from by unfold Lw.xtl; simp))) (c.fns _ (List.mem_append_right _ (show Lw.d__law_said ∈ Lw.xtl from by unfold Lw.xtl; simp))) Lw.t__law_word Lw.t__law_said) (by kernel_rfl) (Iv.b2 (Iv.b2 (Iv.b2 c.more).2).2).2 hT) hL
theorem PySem.Challenge.cw_rowclash_k71_formulas_refuse_holds : PySem.Challenge.rw_rowclash_k71_formulas_refuse.Holds :=
  Lw.holds_of fun ns hl _ => Lw.law_run ns hl

