import PyProof.Rows.All
import HandS.CallLocal
import HandS.Conv
import HandS.Deep
import HandS.Defaults
import HandS.Exc
import HandS.Flow
import HandS.ForMost
import HandS.Gcd
import HandS.Head0
import HandS.Head1
import HandS.Head2
import HandS.Head3
import HandS.HeadEnd
import HandS.HeadHook1
import HandS.HeadHook2
import HandS.HeadNt
import HandS.IsInst
import HandS.Iter
import HandS.NamedTupSort
import HandS.SetFor
import HandS.SortInts
import HandS.Strs
import HandS.Style
import HandS.TryOnly
import HandS.TupAny
import HandS.TupMul
import HandS.TupSets
import HandS.Walk
import HandS.Wide
import HandS.WordsExc
import KE.GoesEnum
import Wide.Once
import PySem.Challenge.RW_eightparts_k80_main_across_powers_traces
set_option Elab.async false
set_option linter.all false
set_option maxRecDepth 100000
-- text MnSem
/-! Mn: a small functional semantics of the programs' Python (values, a small heap for lists that are changed) -/
namespace Mn
open PySem PySem.Spec

/-- values; scr: a list that is only read (the law's script); lst: a list by value (never changed); ref: a list in the small heap; fn: a def of the module -/
inductive PV where
  | non | bl (b : Bool) | int (i : Int) | str (x : Str) | fn (x : Str)
  | tup (xs : List PV) | lst (xs : List PV) | scr (xs : List PV) | ref (n : Nat)
instance : Inhabited PV := ⟨.non⟩
abbrev MH := List (List PV)
abbrev Env := List (Option PV)
abbrev Den := Env → MH → Option (PV × MH)
abbrev TDen := Env → MH → Option (Bool × MH)
abbrev LDen := Env → MH → Option (List PV × MH)

/-- what a statement does -/
inductive SR where
  | nx (e : Env) (h : MH) | ct (e : Env) (h : MH) | bk (e : Env) (h : MH) | rt (v : PV) (h : MH) | ex (h : MH) | bad
abbrev SDen := Env → MH → SR
inductive FR where
  | ok (v : PV) (h : MH) | ex (h : MH) | bad
abbrev FDen := List PV → MH → FR

mutual
/-- no reference from n on -/
def PV.bel (n : Nat) : PV → Bool
  | .ref m => Nat.blt m n
  | .tup xs => belAll n xs
  | .lst xs => belAll n xs
  | .scr xs => belAll n xs
  | .non => true | .bl _ => true | .int _ => true | .str _ => true | .fn _ => true
def belAll (n : Nat) : List PV → Bool
  | [] => true
  | x :: xs => x.bel n && belAll n xs
end

mutual
/-- data without references -/
def PV.data : PV → Option PyData
  | .non => some .none
  | .bl b => some (.bool b)
  | .int i => some (.int i)
  | .str x => some (.str x)
  | .tup xs => (dataAll xs).map .tuple
  | .lst xs => (dataAll xs).map .list
  | .scr xs => (dataAll xs).map .list
  | .fn _ => none
  | .ref _ => none
def dataAll : List PV → Option (List PyData)
  | [] => some []
  | x :: xs => match x.data with
    | some d => (dataAll xs).map (d :: ·)
    | none => none
end
def dataH (h : MH) : PV → Option PyData
  | .ref n => match h[n]? with
    | some xs => (dataAll xs).map .list
    | none => none
  | v => v.data

/-- items of a tuple or a list -/
def seqH (h : MH) : PV → Option (List PV)
  | .tup xs => some xs
  | .lst xs => some xs
  | .scr xs => some xs
  | .ref n => h[n]?
  | _ => none
/-- items of a list -/
def lstH (h : MH) : PV → Option (List PV)
  | .lst xs => some xs
  | .ref n => h[n]?
  | _ => none

def lim : Nat := 100000
/-- a new list: by value, or in the heap -/
def mkL (m : Nat) (xs : List PV) (h : MH) : Option (PV × MH) :=
  match Nat.ble xs.length lim with
  | true => match m with
    | 0 => some (.lst xs, h)
    | _ + 1 => some (.ref h.length, h ++ [xs])
  | false => none
def mkT (xs : List PV) (h : MH) : Option (PV × MH) :=
  match Nat.ble xs.length lim with
  | true => some (.tup xs, h)
  | false => none

def small (i : Int) : Bool := decide (-(2 ^ 64) < i) && decide (i < 2 ^ 64)

/-- factors whose product is made -/
def mulOk (i j : Int) : Bool := small i || (small j || Nat.blt (i.natAbs.log2 + j.natAbs.log2) 1000000)
/-- a divisor that is not too long -/
def divOk (j : Int) : Bool := small j || Nat.blt j.natAbs.log2 9000
/-! ### operators -/
def opAdd (m : Nat) (x y : PV) (h : MH) : Option (PV × MH) :=
  match x, y with
  | .int i, .int j => some (.int (i + j), h)
  | .tup xs, .tup ys => mkT (xs ++ ys) h
  | x, y => match lstH h x, lstH h y with
    | some xs, some ys => mkL m (xs ++ ys) h
    | _, _ => none
def opSub (x y : PV) (h : MH) : Option (PV × MH) :=
  match x, y with
  | .int i, .int j => some (.int (i - j), h)
  | _, _ => none
def repL (k : Nat) (xs : List PV) : List PV := (List.replicate k xs).flatten
def opMul (m : Nat) (x y : PV) (h : MH) : Option (PV × MH) :=
  match x, y with
  | .int i, .int j => match mulOk i j with
    | true => some (.int (i * j), h)
    | false => none
  | .tup xs, .int k => match !xs.isEmpty && (decide (2 ≤ k) && (decide (k ≤ 1000) && Nat.ble xs.length 50)) with
    | true => some (.tup (repL k.toNat xs), h)
    | false => none
  | x, .int k => match lstH h x with
    | some xs => match decide (0 ≤ k) && (decide (k ≤ 1000) && Nat.ble xs.length 50) with
      | true => mkL m (repL k.toNat xs) h
      | false => none
    | none => none
  | _, _ => none
def opDiv (x y : PV) (h : MH) : Option (PV × MH) :=
  match x, y with
  | .int i, .int j => match divOk j && !decide (j = 0) with
    | true => some (.int (Int.fdiv i j), h)
    | false => none
  | _, _ => none
def opMod (x y : PV) (h : MH) : Option (PV × MH) :=
  match x, y with
  | .int i, .int j => match !decide (j = 0) with
    | true => some (.int (Int.fmod i j), h)
    | false => none
  | _, _ => none
def opPow (x y : PV) (h : MH) : Option (PV × MH) :=
  match x, y with
  | .int i, .int j => match small i && (decide (0 ≤ j) && decide (j ≤ 1000)) with
    | true => some (.int (i ^ j.toNat), h)
    | false => none
  | _, _ => none
def binop (m : Nat) (op : Operator) (x y : PV) (h : MH) : Option (PV × MH) :=
  match op with
  | .Add => opAdd m x y h
  | .Sub => opSub x y h
  | .Mult => opMul m x y h
  | .FloorDiv => opDiv x y h
  | .Mod => opMod x y h
  | .Pow => opPow x y h
  | _ => none

def eqH (h : MH) (x y : PV) : Option Bool :=
  match dataH h x, dataH h y with
  | some d, some e => match SeqAt.shaped d && SeqAt.shaped e with
    | true => some (PyData.eqv d e)
    | false => none
  | _, _ => none
def inH (h : MH) (x s : PV) : Option Bool :=
  match dataH h x, dataH h s with
  | some d, some (.list ds) => match SeqAt.shaped d && SeqAt.shaped (.list ds) with
    | true => some (ds.any fun z => PyData.eqv z d)
    | false => none
  | some d, some (.tuple ds) => match SeqAt.shaped d && SeqAt.shaped (.tuple ds) with
    | true => some (ds.any fun z => PyData.eqv z d)
    | false => none
  | _, _ => none
def isNon : PV → Bool
  | .non => true
  | _ => false
def cmpop (op : CmpOp) (x y : PV) (h : MH) : Option Bool :=
  match op with
  | .Eq => eqH h x y
  | .NotEq => (eqH h x y).map (!·)
  | .Lt => match x, y with
    | .int i, .int j => some (decide (i < j))
    | _, _ => none
  | .LtE => match x, y with
    | .int i, .int j => some (decide (i ≤ j))
    | _, _ => none
  | .Gt => match x, y with
    | .int i, .int j => some (decide (j < i))
    | _, _ => none
  | .GtE => match x, y with
    | .int i, .int j => some (decide (j ≤ i))
    | _, _ => none
  | .Is => match y with
    | .non => some (isNon x)
    | _ => none
  | .IsNot => match y with
    | .non => some (!isNon x)
    | _ => none
  | .In => inH h x y
  | .NotIn => (inH h x y).map (!·)

/-! ### combinators: expressions -/
def dVar (i : Nat) : Den := fun e h => match e[i]? with
  | some (some v) => some (v, h)
  | _ => none
def dC (v : PV) : Den := fun _ h => some (v, h)
def dBin (m : Nat) (op : Operator) (a b : Den) : Den := fun e h => match a e h with
  | some (x, h1) => match b e h1 with
    | some (y, h2) => binop m op x y h2
    | none => none
  | none => none
def dNeg (a : Den) : Den := fun e h => match a e h with
  | some (.int i, h1) => some (.int (-i), h1)
  | _ => none
def dCmp (op : CmpOp) (a b : Den) : Den := fun e h => match a e h with
  | some (x, h1) => match b e h1 with
    | some (y, h2) => (cmpop op x y h2).map fun c => (.bl c, h2)
    | none => none
  | none => none
def dChain (op op' : CmpOp) (a b c : Den) : Den := fun e h => match a e h with
  | some (x, h1) => match b e h1 with
    | some (y, h2) => match cmpop op x y h2 with
      | some true => match c e h2 with
        | some (z, h3) => (cmpop op' y z h3).map fun c => (.bl c, h3)
        | none => none
      | some false => some (.bl false, h2)
      | none => none
    | none => none
  | none => none
/-- a value that is a bool, as a test -/
def tVal (a : Den) : TDen := fun e h => match a e h with
  | some (.bl c, h1) => some (c, h1)
  | _ => none
def tNot (a : TDen) : TDen := fun e h => match a e h with
  | some (c, h1) => some (!c, h1)
  | none => none
def tAnd (a b : TDen) : TDen := fun e h => match a e h with
  | some (true, h1) => b e h1
  | some (false, h1) => some (false, h1)
  | none => none
def tOr (a b : TDen) : TDen := fun e h => match a e h with
  | some (true, h1) => some (true, h1)
  | some (false, h1) => b e h1
  | none => none
def tIf (t a b : TDen) : TDen := fun e h => match t e h with
  | some (true, h1) => a e h1
  | some (false, h1) => b e h1
  | none => none
def dNot (a : Den) : Den := fun e h => match a e h with
  | some (.bl c, h1) => some (.bl (!c), h1)
  | _ => none
def dAnd (a b : Den) : Den := fun e h => match a e h with
  | some (.bl true, h1) => b e h1
  | some (.bl false, h1) => some (.bl false, h1)
  | _ => none
/-- or: of bools, of lists -/
def dOr (a b : Den) : Den := fun e h => match a e h with
  | some (.bl true, h1) => some (.bl true, h1)
  | some (.bl false, h1) => b e h1
  | some (v, h1) => match lstH h1 v with
    | some [] => b e h1
    | some (_ :: _) => some (v, h1)
    | none => none
  | none => none
def dIf (t : TDen) (a b : Den) : Den := fun e h => match t e h with
  | some (true, h1) => a e h1
  | some (false, h1) => b e h1
  | none => none
def lNil : LDen := fun _ h => some ([], h)
def lCons (a : Den) (l : LDen) : LDen := fun e h => match a e h with
  | some (x, h1) => match l e h1 with
    | some (xs, h2) => some (x :: xs, h2)
    | none => none
  | none => none
def dTup (l : LDen) : Den := fun e h => match l e h with
  | some (xs, h1) => mkT xs h1
  | none => none
def dLst (m : Nat) (l : LDen) : Den := fun e h => match l e h with
  | some (xs, h1) => mkL m xs h1
  | none => none
def dIx (a b : Den) : Den := fun e h => match a e h with
  | some (x, h1) => match b e h1 with
    | some (.int i, h2) => match seqH h2 x with
      | some xs => (L2.atI xs i).map fun v => (v, h2)
      | none => none
    | _ => none
  | none => none
/-- the end of a slice -/
abbrev ODen := Env → MH → Option (Option Int × MH)
def oNon : ODen := fun _ h => some (none, h)
def oSome (a : Den) : ODen := fun e h => match a e h with
  | some (.int i, h1) => some (some i, h1)
  | _ => none
def cutP (xs : List PV) (lo hi : Option Int) : List PV := (xs.drop (HT.sIx xs.length 0 lo)).take (HT.sIx xs.length xs.length hi - HT.sIx xs.length 0 lo)
def dSl (m : Nat) (a : Den) (lo hi : ODen) : Den := fun e h => match a e h with
  | some (x, h1) => match lo e h1 with
    | some (i, h2) => match hi e h2 with
      | some (j, h3) => match x with
        | .tup xs => some (.tup (cutP xs i j), h3)
        | x => match seqH h3 x with
          | some xs => mkL m (cutP xs i j) h3
          | none => none
      | none => none
    | none => none
  | none => none
def sRun (f : FDen) (xs : List PV) (h : MH) : Option (PV × MH) := match f xs h with
  | .ok v h' => some (v, h')
  | _ => none
def dCall (f : FDen) (l : LDen) : Den := fun e h => match l e h with
  | some (xs, h1) => sRun f xs h1
  | none => none

/-! ### built-in functions -/
def sumI : List PV → Option Int
  | [] => some 0
  | .int i :: r => match sumI r with
    | some s => some (i + s)
    | none => none
  | _ => none
def boolsOf : List PV → Option (List Bool)
  | [] => some []
  | .bl b :: r => match boolsOf r with
    | some s => some (b :: s)
    | none => none
  | _ => none
def kindIs (h : MH) (T : String) : PV → Option Bool
  | .non => some false
  | .bl _ => some (T == "bool" || T == "int")
  | .int _ => some (T == "int")
  | .str _ => some (T == "str")
  | .tup _ => some (T == "tuple")
  | .lst _ => some (T == "list")
  | .scr _ => some (T == "list")
  | .ref n => match h[n]? with
    | some _ => some (T == "list")
    | none => none
  | .fn _ => none
def bLen (xs : List PV) (h : MH) : Option (PV × MH) := match xs with
  | [x] => match seqH h x with
    | some ys => some (.int ys.length, h)
    | none => none
  | _ => none
def bAbs (xs : List PV) (h : MH) : Option (PV × MH) := match xs with
  | [.int i] => some (.int (if i < 0 then -i else i), h)
  | _ => none
def bInt (xs : List PV) (h : MH) : Option (PV × MH) := match xs with
  | [.int i] => some (.int i, h)
  | [.bl k] => some (.int (if k then 1 else 0), h)
  | _ => none
def bMin (xs : List PV) (h : MH) : Option (PV × MH) := match xs with
  | [.int i, .int j] => some (.int (if j < i then j else i), h)
  | _ => none
def bSum (xs : List PV) (h : MH) : Option (PV × MH) := match xs with
  | [x] => match lstH h x with
    | some ys => (sumI ys).map fun s => (.int s, h)
    | none => none
  | _ => none
def bAll (xs : List PV) (h : MH) : Option (PV × MH) := match xs with
  | [x] => match lstH h x with
    | some ys => (boolsOf ys).map fun s => (.bl (s.all id), h)
    | none => none
  | _ => none
def bAny (xs : List PV) (h : MH) : Option (PV × MH) := match xs with
  | [x] => match lstH h x with
    | some ys => (boolsOf ys).map fun s => (.bl (s.any id), h)
    | none => none
  | _ => none
def bGcd (xs : List PV) (h : MH) : Option (PV × MH) := match xs with
  | [.int i, .int j] => some (.int ((Nat.gcd i.natAbs j.natAbs : Nat) : Int), h)
  | _ => none
def bTuple (xs : List PV) (h : MH) : Option (PV × MH) := match xs with
  | [.tup ys] => some (.tup ys, h)
  | [x] => match lstH h x with
    | some ys => some (.tup ys, h)
    | none => none
  | _ => none
def bList (m : Nat) (xs : List PV) (h : MH) : Option (PV × MH) := match xs with
  | [x] => match seqH h x with
    | some ys => mkL m ys h
    | none => none
  | _ => none
def rgL (a b : Int) : List PV := (List.range (b - a).toNat).map fun (i : Nat) => .int (a + (i : Int))
def rgOk (a b : Int) : Bool := decide (-1000000 ≤ a) && (decide (a ≤ 1000000) && (decide (-1000000 ≤ b) && (decide (b ≤ 1000000) && Nat.ble (b - a).toNat lim)))
def iRange (xs : List PV) : Option (List PV) := match xs with
  | [.int j] => match rgOk 0 j with
    | true => some (rgL 0 j)
    | false => none
  | [.int i, .int j] => match rgOk i j with
    | true => some (rgL i j)
    | false => none
  | _ => none

/-! ### order and sorting: ints; tuples of ints -/
def ltI : List Int → List Int → Bool := HT.lexLt
def intsOf : List PV → Option (List Int)
  | [] => some []
  | .int i :: r => match intsOf r with
    | some s => some (i :: s)
    | none => none
  | _ => none
def rowsOf : List PV → Option (List (List Int))
  | [] => some []
  | .tup xs :: r => match intsOf xs, rowsOf r with
    | some i, some s => some (i :: s)
    | _, _ => none
  | _ => none
def ins {α : Type} (lt : α → α → Bool) (x : α) : List α → List α
  | [] => [x]
  | y :: ys => match lt y x with
    | true => y :: ins lt x ys
    | false => x :: y :: ys
def srt {α : Type} (lt : α → α → Bool) : List α → List α
  | [] => []
  | x :: xs => ins lt x (srt lt xs)

/-! ### loops -/
abbrev Asg := PV → Env → Option Env
def lcGo (asg : Asg) (tst : TDen) (elt : Den) (env : Env) : List PV → MH → Option (List PV × MH)
  | [], h => some ([], h)
  | x :: xs, h => match asg x env with
    | none => none
    | some e => match tst e h with
      | some (true, h1) => match elt e h1 with
        | some (v, h2) => match lcGo asg tst elt env xs h2 with
          | some (vs, h3) => some (v :: vs, h3)
          | none => none
        | none => none
      | some (false, h1) => lcGo asg tst elt env xs h1
      | none => none
def lcRef (asg : Asg) (tst : TDen) (elt : Den) (env : Env) (n : Nat) : Nat → Nat → MH → Option (List PV × MH)
  | 0, _, _ => none
  | k + 1, i, h => match h[n]? with
    | none => none
    | some ys => match ys[i]? with
      | none => some ([], h)
      | some x => match asg x env with
        | none => none
        | some e => match tst e h with
          | some (true, h1) => match elt e h1 with
            | some (v, h2) => match lcRef asg tst elt env n k (i + 1) h2 with
              | some (vs, h3) => some (v :: vs, h3)
              | none => none
            | none => none
          | some (false, h1) => lcRef asg tst elt env n k (i + 1) h1
          | none => none
def forGo (asg : Asg) (body : SDen) : List PV → Env → MH → SR
  | [], e, h => .nx e h
  | x :: xs, e, h => match asg x e with
    | none => .bad
    | some e1 => match body e1 h with
      | .nx e2 h2 => forGo asg body xs e2 h2
      | .ct e2 h2 => forGo asg body xs e2 h2
      | .bk e2 h2 => .nx e2 h2
      | .rt v h2 => .rt v h2
      | .ex h2 => .ex h2
      | .bad => .bad
def forRef (asg : Asg) (body : SDen) (n : Nat) : Nat → Nat → Env → MH → SR
  | 0, _, _, _ => .bad
  | k + 1, i, e, h => match h[n]? with
    | none => .bad
    | some ys => match ys[i]? with
      | none => .nx e h
      | some x => match asg x e with
        | none => .bad
        | some e1 => match body e1 h with
          | .nx e2 h2 => forRef asg body n k (i + 1) e2 h2
          | .ct e2 h2 => forRef asg body n k (i + 1) e2 h2
          | .bk e2 h2 => .nx e2 h2
          | .rt v h2 => .rt v h2
          | .ex h2 => .ex h2
          | .bad => .bad
def whGo (c : TDen) (body : SDen) : Nat → Env → MH → SR
  | 0, _, _ => .bad
  | k + 1, e, h => match c e h with
    | none => .bad
    | some (false, h1) => .nx e h1
    | some (true, h1) => match body e h1 with
      | .nx e2 h2 => whGo c body k e2 h2
      | .ct e2 h2 => whGo c body k e2 h2
      | .bk e2 h2 => .nx e2 h2
      | .rt v h2 => .rt v h2
      | .ex h2 => .ex h2
      | .bad => .bad

/-- what is walked: items that stand fast; a list of the heap -/
inductive Src where
  | st (xs : List PV) | rf (n : Nat)
abbrev IDen := Env → MH → Option (Src × MH)
def iSeq (a : Den) : IDen := fun e h => match a e h with
  | some (.tup xs, h1) => some (.st xs, h1)
  | some (.lst xs, h1) => some (.st xs, h1)
  | some (.scr xs, h1) => some (.st xs, h1)
  | some (.ref n, h1) => some (.rf n, h1)
  | _ => none
def iRg (l : LDen) : IDen := fun e h => match l e h with
  | some (xs, h1) => (iRange xs).map fun ys => (.st ys, h1)
  | none => none
/-- items that stand fast: of a tuple, a list by value -/
def stV : PV → Option (List PV)
  | .tup xs => some xs
  | .lst xs => some xs
  | .scr xs => some xs
  | _ => none
def enumL (k : Nat) : List PV → List PV
  | [] => []
  | x :: xs => .tup [.int (k : Int), x] :: enumL (k + 1) xs
def iEnum (l : LDen) : IDen := fun e h => match l e h with
  | some ([x], h1) => (stV x).map fun xs => (.st (enumL 0 xs), h1)
  | _ => none
def zip2 : List PV → List PV → List PV
  | x :: xs, y :: ys => .tup [x, y] :: zip2 xs ys
  | _, _ => []
def iZip (l : LDen) : IDen := fun e h => match l e h with
  | some ([x, y], h1) => match stV x, stV y with
    | some xs, some ys => some (.st (zip2 xs ys), h1)
    | _, _ => none
  | _ => none
def wipe (env : Env) : List Nat → Env
  | [] => env
  | v :: vs => (wipe env vs).set v none
def dLc (m : Nat) (it : IDen) (asg : Asg) (tst : TDen) (elt : Den) (own : List Nat) : Den := fun e h => match it e h with
  | some (.st xs, h1) => match lcGo asg tst elt (wipe e own) xs h1 with
    | some (vs, h2) => match Nat.ble xs.length lim with
      | true => mkL m vs h2
      | false => none
    | none => none
  | some (.rf n, h1) => match h1[n]? with
    | some xs => match Nat.ble xs.length lim with
      | true => match lcRef asg tst elt (wipe e own) n (xs.length + 1) 0 h1 with
        | some (vs, h2) => mkL m vs h2
        | none => none
      | false => none
    | none => none
  | none => none

/-! ### targets -/
def aName (i : Nat) : Asg := fun v e => some (e.set i (some v))
abbrev Asgs := List PV → Env → Option Env
def aNil : Asgs := fun vs e => match vs with
  | [] => some e
  | _ => none
def aCons (t : Asg) (u : Asgs) : Asgs := fun vs e => match vs with
  | v :: r => match t v e with
    | some e1 => u r e1
    | none => none
  | [] => none
def aTup (n : Nat) (u : Asgs) : Asg := fun v e => match v with
  | .tup xs => match Nat.beq xs.length n with
    | true => u xs e
    | false => none
  | _ => none

/-! ### statements -/
/-- a target that may change the heap -/
abbrev GDen := PV → Env → MH → Option (Env × MH)
def gA (a : Asg) : GDen := fun v e h => (a v e).map fun e1 => (e1, h)
def gSub (o i : Den) : GDen := fun v e h => match o e h with
  | some (.ref n, h1) => match i e h1 with
    | some (.int k, h2) => match h2[n]? with
      | some xs => match L2.ixN xs.length k, v.bel n with
        | some j, true => some (e, h2.set n (xs.set j v))
        | _, _ => none
      | none => none
    | _ => none
  | _ => none
abbrev GDens := List PV → Env → MH → Option (Env × MH)
def gNil : GDens := fun vs e h => match vs with
  | [] => some (e, h)
  | _ => none
def gCons (t : GDen) (u : GDens) : GDens := fun vs e h => match vs with
  | v :: r => match t v e h with
    | some (e1, h1) => u r e1 h1
    | none => none
  | [] => none
def gTup (n : Nat) (u : GDens) : GDen := fun v e h => match v with
  | .tup xs => match Nat.beq xs.length n with
    | true => u xs e h
    | false => none
  | _ => none
def sAsg (a : Den) (g : GDen) : SDen := fun e h => match a e h with
  | some (v, h1) => match g v e h1 with
    | some (e2, h2) => .nx e2 h2
    | none => .bad
  | none => .bad
/-- names = values, stored from the right -/
def sPar (is : List Nat) (l : LDen) : SDen := fun e h => match l e h with
  | some (vs, h1) => match Nat.beq vs.length is.length with
    | true => .nx ((is.zip vs).foldl (fun e p => e.set p.1 (some p.2)) e) h1
    | false => .bad
  | none => .bad
def sDrop (a : Den) : SDen := fun e h => match a e h with
  | some (_, h1) => .nx e h1
  | none => .bad
def sRet (a : Den) : SDen := fun e h => match a e h with
  | some (v, h1) => .rt v h1
  | none => .bad
def sIf (t : TDen) (a b : SDen) : SDen := fun e h => match t e h with
  | some (true, h1) => a e h1
  | some (false, h1) => b e h1
  | none => .bad
def sNext : SDen := fun e h => .nx e h
def sCont : SDen := fun e h => .ct e h
def sSeq (a b : SDen) : SDen := fun e h => match a e h with
  | .nx e1 h1 => b e1 h1
  | r => r
def sFor (it : IDen) (a : Asg) (body : SDen) : SDen := fun e h => match it e h with
  | some (.st xs, h1) => forGo a body xs e h1
  | some (.rf n, h1) => match h1[n]? with
    | some xs => forRef a body n (xs.length + 1) 0 e h1
    | none => .bad
  | none => .bad
def fuel : Nat := 1000000
def sWh (c : TDen) (body : SDen) : SDen := fun e h => whGo c body fuel e h
def sRaise : SDen := fun _ h => .ex h
/-- append, extend -/
def mApp (i : Nat) (l : LDen) : Den := fun e h => match e[i]? with
  | some (some (.ref n)) => match l e h with
    | some ([v], h1) => match h1[n]? with
      | some xs => match v.bel n && Nat.ble xs.length lim with
        | true => some (.non, h1.set n (xs ++ [v]))
        | false => none
      | none => none
    | _ => none
  | _ => none
def mExt (i : Nat) (l : LDen) : Den := fun e h => match e[i]? with
  | some (some (.ref n)) => match l e h with
    | some ([v], h1) => match h1[n]?, lstH h1 v with
      | some xs, some ys => match belAll n ys && (Nat.ble xs.length lim && Nat.ble ys.length lim) with
        | true => some (.non, h1.set n (xs ++ ys))
        | false => none
      | _, _ => none
    | _ => none
  | _ => none

/-! ### a def -/
def fin (keep : Bool) (n : Nat) (v : PV) (h : MH) : FR :=
  match keep with
  | true => .ok v h
  | false => match v with
    | .ref m => match Nat.blt m n with
      | true => .ok (.ref m) (h.take n)
      | false => match h[m]? with
        | some xs => match belAll n xs with
          | true => .ok (.lst xs) (h.take n)
          | false => .bad
        | none => .bad
    | v => match v.bel n with
      | true => .ok v (h.take n)
      | false => .bad
/-- the def of np parameters, ns slots -/
def runF (keep : Bool) (np ns : Nat) (body : SDen) : FDen := fun xs h => match Nat.beq xs.length np with
  | true => match body (xs.map some ++ List.replicate (ns - np) none) h with
    | .rt v h1 => fin keep h.length v h1
    | .nx _ h1 => fin keep h.length .non h1
    | _ => .bad
  | false => .bad
end Mn
-- text MnRel
/-! Mn: values and the small heap against the layer's abstract heap -/
namespace Mn
open PySem PySem.Spec L2

/-- where the small heap's lists lie; hid: lists under way that no value leads to -/
structure Mu where
  l : List Addr
  hid : List Addr
def Mu.out (μ : Mu) (a : Addr) : Prop := a ∉ μ.l ∧ a ∉ μ.hid
def Mu.add (μ : Mu) (p : Addr) : Mu := ⟨μ.l ++ [p], μ.hid⟩

/-- a list that is only read -/
def Fix (K : PySem.W.Frag) (H : Hp) (μ : Mu) (a : Addr) (us : List V) : Prop :=
  ((∃ o, H a = some (.frz o (.lst us))) ∧ μ.out a) ∨
    ∃ (o : Obj) (its : Array Value) (n : Nat), K.lookup a = some o ∧ o.cls = .type "list" ∧ o.dict = none ∧ o.data = .seq its n ∧ its.size ≤ sizeLine ∧ Vals us its.toList
theorem Fix.sq {K : PySem.W.Frag} {H : Hp} {μ : Mu} {a : Addr} {us : List V} (h : Fix K H μ a us) : SqL K H a us := by
  rcases h with ⟨h, _⟩ | h
  · exact .inl (.inr h)
  · exact .inr h
/-- a tuple -/
def TupA (K : PySem.W.Frag) (H : Hp) (μ : Mu) (a : Addr) (us : List V) : Prop :=
  (Rd H a (.tup us) ∧ μ.out a) ∨
    ∃ (o : Obj) (its : Array Value) (n : Nat), K.lookup a = some o ∧ o.cls = .type "tuple" ∧ o.data = .seq its n ∧ its.size ≤ sizeLine ∧ Vals us its.toList
theorem TupA.sq {K : PySem.W.Frag} {H : Hp} {μ : Mu} {a : Addr} {us : List V} (h : TupA K H μ a us) : SqT K H a us := by
  rcases h with ⟨h, _⟩ | h
  · exact .inl h
  · exact .inr h

mutual
inductive Rep (K : PySem.W.Frag) (mg : Str → Option Value) (H : Hp) (μ : Mu) : PV → V → Prop
  | non : Rep K mg H μ .non .non
  | bl (b : Bool) : Rep K mg H μ (.bl b) (.bl b)
  | int (i : Int) : Rep K mg H μ (.int i) (.int i)
  | str (x : Str) : Rep K mg H μ (.str x) (.str x)
  | fn {x : Str} {f : Addr} : mg x = some (.ref f) → Rep K mg H μ (.fn x) (.ref f)
  | tup {xs : List PV} {a : Addr} {us : List V} : TupA K H μ a us → RepAll K mg H μ xs us → Rep K mg H μ (.tup xs) (.ref a)
  | lst {xs : List PV} {a : Addr} {us : List V} : H a = some (.lst us) → μ.out a → RepAll K mg H μ xs us → Rep K mg H μ (.lst xs) (.ref a)
  | scr {xs : List PV} {a : Addr} {us : List V} : Fix K H μ a us → RepAll K mg H μ xs us → Rep K mg H μ (.scr xs) (.ref a)
  | ref {n : Nat} {a : Addr} : μ.l[n]? = some a → Rep K mg H μ (.ref n) (.ref a)
inductive RepAll (K : PySem.W.Frag) (mg : Str → Option Value) (H : Hp) (μ : Mu) : List PV → List V → Prop
  | nil : RepAll K mg H μ [] []
  | cons {x : PV} {u : V} {xs : List PV} {us : List V} : Rep K mg H μ x u → RepAll K mg H μ xs us → RepAll K mg H μ (x :: xs) (u :: us)
end

/-- the small heap's lists are tracked -/
structure Trk (H : Hp) (μ : Mu) : Prop where
  lst : ∀ a ∈ μ.l, ∃ us, H a = some (.lst us)
  hid : ∀ a ∈ μ.hid, (∃ o, H a = some o) ∧ a ∉ μ.l
/-- from one point to a later one -/
structure Ext (μ : Mu) (H : Hp) (μ' : Mu) (H' : Hp) : Prop where
  pre : ∃ ex, μ'.l = μ.l ++ ex ∧ ∀ a ∈ ex, H a = none
  hid1 : ∀ a ∈ μ.hid, a ∈ μ'.hid
  hid2 : ∀ a ∈ μ'.hid, a ∈ μ.hid ∨ H a = none
  kept : ∀ a o, H a = some o → a ∉ μ.l → H' a = some o
  trk : Trk H' μ'
section
variable {K : PySem.W.Frag} {mg : Str → Option Value} {H H1 H2 H' : Hp} {μ μ1 μ2 μ' : Mu}
theorem Ext.refl (t : Trk H μ) : Ext μ H μ H := ⟨⟨[], by simp, fun _ h => absurd h (by simp)⟩, fun _ h => h, fun _ h => .inl h, fun _ _ h _ => h, t⟩
theorem Ext.get (e : Ext μ H μ' H') {n : Nat} {a : Addr} (h : μ.l[n]? = some a) : μ'.l[n]? = some a := by
  obtain ⟨ex, q, _⟩ := e.pre
  rw [q, List.getElem?_append_left (List.getElem?_eq_some_iff.mp h).1]
  exact h
theorem Ext.mem (e : Ext μ H μ' H') {a : Addr} (h : a ∈ μ.l) : a ∈ μ'.l := by
  obtain ⟨ex, q, _⟩ := e.pre
  rw [q]
  exact List.mem_append_left _ h
theorem Ext.outl (e : Ext μ H μ' H') {a : Addr} {o : HO} (h : H a = some o) (hn : a ∉ μ.l) : a ∉ μ'.l := by
  obtain ⟨ex, q0, q⟩ := e.pre
  intro z
  rw [q0] at z
  rcases List.mem_append.mp z with z | z
  · exact hn z
  · rw [q a z] at h; cases h
theorem Ext.out (e : Ext μ H μ' H') {a : Addr} {o : HO} (h : H a = some o) (hn : μ.out a) : μ'.out a := ⟨e.outl h hn.1, fun z => by
  rcases e.hid2 a z with y | y
  · exact hn.2 y
  · rw [y] at h; cases h⟩
theorem Ext.was (e1 : Ext μ H μ1 H1) {a : Addr} (n1 : H1 a = none) : H a = none := by
  cases e : H a with
  | none => rfl
  | some o =>
    by_cases hm : a ∈ μ.l
    · obtain ⟨us, hu⟩ := e1.trk.lst a (e1.mem hm)
      rw [n1] at hu; cases hu
    · rw [e1.kept a o e hm] at n1; cases n1
theorem Ext.trans (e1 : Ext μ H μ1 H1) (e2 : Ext μ1 H1 μ2 H2) : Ext μ H μ2 H2 := by
  refine ⟨?_, fun a h => e2.hid1 a (e1.hid1 a h), fun a h => ?_, fun a o h hn => e2.kept a o (e1.kept a o h hn) (e1.outl h hn), e2.trk⟩
  · obtain ⟨ex1, h1, q1⟩ := e1.pre
    obtain ⟨ex2, h2, q2⟩ := e2.pre
    refine ⟨ex1 ++ ex2, by rw [h2, h1, List.append_assoc], fun a ha => ?_⟩
    rcases List.mem_append.mp ha with z | z
    · exact q1 a z
    · exact e1.was (q2 a z)
  · rcases e2.hid2 a h with z | z
    · exact e1.hid2 a z
    · exact .inr (e1.was z)
theorem Fix.ext (e : Ext μ H μ' H') {a : Addr} {us : List V} (h : Fix K H μ a us) : Fix K H' μ' a us := by
  rcases h with ⟨⟨o, h⟩, hn⟩ | h
  · exact .inl ⟨⟨o, e.kept _ _ h hn.1⟩, e.out h hn⟩
  · exact .inr h
theorem TupA.ext (e : Ext μ H μ' H') {a : Addr} {us : List V} (h : TupA K H μ a us) : TupA K H' μ' a us := by
  rcases h with ⟨h | ⟨o, h⟩, hn⟩ | h
  · exact .inl ⟨.inl (e.kept _ _ h hn.1), e.out h hn⟩
  · exact .inl ⟨.inr ⟨o, e.kept _ _ h hn.1⟩, e.out h hn⟩
  · exact .inr h
mutual
theorem Rep.ext (e : Ext μ H μ' H') : ∀ {x : PV} {u : V}, Rep K mg H μ x u → Rep K mg H' μ' x u
  | _, _, .non => .non
  | _, _, .bl b => .bl b
  | _, _, .int i => .int i
  | _, _, .str x => .str x
  | _, _, .fn h => .fn h
  | _, _, .tup h r => .tup (h.ext e) (RepAll.ext e r)
  | _, _, .lst h n r => .lst (e.kept _ _ h n.1) (e.out h n) (RepAll.ext e r)
  | _, _, .scr h r => .scr (h.ext e) (RepAll.ext e r)
  | _, _, .ref h => .ref (e.get h)
theorem RepAll.ext (e : Ext μ H μ' H') : ∀ {xs : List PV} {us : List V}, RepAll K mg H μ xs us → RepAll K mg H' μ' xs us
  | _, _, .nil => .nil
  | _, _, .cons r t => .cons (Rep.ext e r) (RepAll.ext e t)
end
/-! fewer lists are in the small heap -/
theorem Mu.out.less (hs : ∀ a ∈ μ.l, a ∈ μ'.l) (hd : ∀ a ∈ μ.hid, a ∈ μ'.hid) {a : Addr} (h : μ'.out a) : μ.out a := ⟨fun z => h.1 (hs a z), fun z => h.2 (hd a z)⟩
theorem Fix.less (hs : ∀ a ∈ μ.l, a ∈ μ'.l) (hd : ∀ a ∈ μ.hid, a ∈ μ'.hid) {a : Addr} {us : List V} (h : Fix K H μ' a us) : Fix K H μ a us := by
  rcases h with ⟨h, hn⟩ | h
  · exact .inl ⟨h, hn.less hs hd⟩
  · exact .inr h
theorem TupA.less (hs : ∀ a ∈ μ.l, a ∈ μ'.l) (hd : ∀ a ∈ μ.hid, a ∈ μ'.hid) {a : Addr} {us : List V} (h : TupA K H μ' a us) : TupA K H μ a us := by
  rcases h with ⟨h, hn⟩ | h
  · exact .inl ⟨h, hn.less hs hd⟩
  · exact .inr h
mutual
theorem Rep.less (hs : ∀ a ∈ μ.l, a ∈ μ'.l) (hd : ∀ a ∈ μ.hid, a ∈ μ'.hid) (hg : ∀ n a, n < μ.l.length → μ'.l[n]? = some a → μ.l[n]? = some a) : ∀ {x : PV} {u : V}, x.bel μ.l.length = true → Rep K mg H μ' x u → Rep K mg H μ x u
  | _, _, _, .non => .non
  | _, _, _, .bl b => .bl b
  | _, _, _, .int i => .int i
  | _, _, _, .str x => .str x
  | _, _, _, .fn h => .fn h
  | _, _, b, .tup h r => .tup (h.less hs hd) (RepAll.less hs hd hg (by simpa [PV.bel] using b) r)
  | _, _, b, .lst h n r => .lst h (n.less hs hd) (RepAll.less hs hd hg (by simpa [PV.bel] using b) r)
  | _, _, b, .scr h r => .scr (h.less hs hd) (RepAll.less hs hd hg (by simpa [PV.bel] using b) r)
  | _, _, b, .ref h => .ref (hg _ _ (by simpa [PV.bel, Nat.blt_eq] using b) h)
theorem RepAll.less (hs : ∀ a ∈ μ.l, a ∈ μ'.l) (hd : ∀ a ∈ μ.hid, a ∈ μ'.hid) (hg : ∀ n a, n < μ.l.length → μ'.l[n]? = some a → μ.l[n]? = some a) : ∀ {xs : List PV} {us : List V}, belAll μ.l.length xs = true → RepAll K mg H μ' xs us → RepAll K mg H μ xs us
  | _, _, _, .nil => .nil
  | _, _, b, .cons r t => by
    have b' := Bool.and_eq_true_iff.mp (show (PV.bel μ.l.length _ && belAll μ.l.length _) = true by simpa [belAll] using b)
    exact .cons (Rep.less hs hd hg b'.1 r) (RepAll.less hs hd hg b'.2 t)
end
/-! a list under way changes: no value leads to it -/
theorem Fix.put {D : Addr} {o : HO} (hD : D ∈ μ.hid) {a : Addr} {us : List V} (h : Fix K H μ a us) : Fix K (upd H D o) μ a us := by
  rcases h with ⟨⟨ob, h⟩, hn⟩ | h
  · exact .inl ⟨⟨ob, by rw [upd_ne (fun z => hn.2 (by rw [z]; exact hD))]; exact h⟩, hn⟩
  · exact .inr h
theorem TupA.put {D : Addr} {o : HO} (hD : D ∈ μ.hid) {a : Addr} {us : List V} (h : TupA K H μ a us) : TupA K (upd H D o) μ a us := by
  rcases h with ⟨h | ⟨ob, h⟩, hn⟩ | h
  · exact .inl ⟨.inl (by rw [upd_ne (fun z => hn.2 (by rw [z]; exact hD))]; exact h), hn⟩
  · exact .inl ⟨.inr ⟨ob, by rw [upd_ne (fun z => hn.2 (by rw [z]; exact hD))]; exact h⟩, hn⟩
  · exact .inr h
mutual
theorem Rep.put {D : Addr} {o : HO} (hD : D ∈ μ.hid) : ∀ {x : PV} {u : V}, Rep K mg H μ x u → Rep K mg (upd H D o) μ x u
  | _, _, .non => .non
  | _, _, .bl b => .bl b
  | _, _, .int i => .int i
  | _, _, .str x => .str x
  | _, _, .fn h => .fn h
  | _, _, .tup h r => .tup (h.put hD) (RepAll.put hD r)
  | _, _, .lst h n r => .lst (by rw [upd_ne (fun z => n.2 (by rw [z]; exact hD))]; exact h) n (RepAll.put hD r)
  | _, _, .scr h r => .scr (h.put hD) (RepAll.put hD r)
  | _, _, .ref h => .ref h
theorem RepAll.put {D : Addr} {o : HO} (hD : D ∈ μ.hid) : ∀ {xs : List PV} {us : List V}, RepAll K mg H μ xs us → RepAll K mg (upd H D o) μ xs us
  | _, _, .nil => .nil
  | _, _, .cons r t => .cons (Rep.put hD r) (RepAll.put hD t)
end
/-! an address that carries nothing is hidden -/
def Mu.hide (μ : Mu) (D : Addr) : Mu := ⟨μ.l, D :: μ.hid⟩
theorem Fix.hide {D : Addr} (hD : H D = none) {a : Addr} {us : List V} (h : Fix K H μ a us) : Fix K H (μ.hide D) a us := by
  rcases h with ⟨⟨ob, h⟩, hn⟩ | h
  · refine .inl ⟨⟨ob, h⟩, hn.1, fun z => ?_⟩
    rcases List.mem_cons.mp z with z | z
    · rw [z, hD] at h; cases h
    · exact hn.2 z
  · exact .inr h
theorem TupA.hide {D : Addr} (hD : H D = none) {a : Addr} {us : List V} (h : TupA K H μ a us) : TupA K H (μ.hide D) a us := by
  rcases h with ⟨h, hn⟩ | h
  · refine .inl ⟨h, hn.1, fun z => ?_⟩
    rcases List.mem_cons.mp z with z | z
    · rcases h with h | ⟨o, h⟩ <;> (rw [z, hD] at h; cases h)
    · exact hn.2 z
  · exact .inr h
mutual
theorem Rep.hide {D : Addr} (hD : H D = none) : ∀ {x : PV} {u : V}, Rep K mg H μ x u → Rep K mg H (μ.hide D) x u
  | _, _, .non => .non
  | _, _, .bl b => .bl b
  | _, _, .int i => .int i
  | _, _, .str x => .str x
  | _, _, .fn h => .fn h
  | _, _, .tup h r => .tup (h.hide hD) (RepAll.hide hD r)
  | _, _, .lst h n r => .lst h ⟨n.1, fun z => (List.mem_cons.mp z).elim (fun z => by rw [z, hD] at h; cases h) n.2⟩ (RepAll.hide hD r)
  | _, _, .scr h r => .scr (h.hide hD) (RepAll.hide hD r)
  | _, _, .ref h => .ref h
theorem RepAll.hide {D : Addr} (hD : H D = none) : ∀ {xs : List PV} {us : List V}, RepAll K mg H μ xs us → RepAll K mg H (μ.hide D) xs us
  | _, _, .nil => .nil
  | _, _, .cons r t => .cons (Rep.hide hD r) (RepAll.hide hD t)
end
theorem RepAll.length : ∀ {xs : List PV} {us : List V}, RepAll K mg H μ xs us → xs.length = us.length
  | _, _, .nil => rfl
  | _, _, .cons _ t => by rw [List.length_cons, List.length_cons, RepAll.length t]
theorem RepAll.get : ∀ {xs : List PV} {us : List V} {i : Nat} {x : PV}, RepAll K mg H μ xs us → xs[i]? = some x → ∃ u, us[i]? = some u ∧ Rep K mg H μ x u
  | _, _, _, _, .nil, h => by simp at h
  | _, _, 0, _, .cons r _, h => by
    simp at h
    subst h
    exact ⟨_, rfl, r⟩
  | _, _, i + 1, x, .cons _ t, h => by
    obtain ⟨u, h1, h2⟩ := RepAll.get (i := i) (x := x) t (by simpa using h)
    exact ⟨u, by simpa using h1, h2⟩
theorem RepAll.getV : ∀ {xs : List PV} {us : List V} {i : Nat} {u : V}, RepAll K mg H μ xs us → us[i]? = some u → ∃ x, xs[i]? = some x ∧ Rep K mg H μ x u := fun {xs us i u} r h => by
  have hl := r.length
  have hi := (List.getElem?_eq_some_iff.mp h).1
  obtain ⟨u', h1, h2⟩ := r.get (i := i) (x := xs[i]'(by omega)) (by simp)
  rw [h] at h1; cases h1
  exact ⟨_, by simp, h2⟩
theorem RepAll.append : ∀ {xs ys : List PV} {us vs : List V}, RepAll K mg H μ xs us → RepAll K mg H μ ys vs → RepAll K mg H μ (xs ++ ys) (us ++ vs)
  | _, _, _, _, .nil, s => s
  | _, _, _, _, .cons r t, s => .cons r (RepAll.append t s)
theorem RepAll.take : ∀ {xs : List PV} {us : List V} (n : Nat), RepAll K mg H μ xs us → RepAll K mg H μ (xs.take n) (us.take n)
  | _, _, 0, _ => .nil
  | _, _, _ + 1, .nil => .nil
  | _, _, n + 1, .cons r t => .cons r (RepAll.take n t)
theorem RepAll.drop : ∀ {xs : List PV} {us : List V} (n : Nat), RepAll K mg H μ xs us → RepAll K mg H μ (xs.drop n) (us.drop n)
  | _, _, 0, r => r
  | _, _, _ + 1, .nil => .nil
  | _, _, n + 1, .cons _ t => RepAll.drop n t
theorem RepAll.set {x : PV} {u : V} (r : Rep K mg H μ x u) : ∀ {xs : List PV} {us : List V} (i : Nat), RepAll K mg H μ xs us → RepAll K mg H μ (xs.set i x) (us.set i u)
  | _, _, _, .nil => .nil
  | _, _, 0, .cons _ t => .cons r t
  | _, _, i + 1, .cons q t => .cons q (RepAll.set r i t)
theorem RepAll.erase : ∀ {xs : List PV} {us : List V} (i : Nat), RepAll K mg H μ xs us → RepAll K mg H μ (xs.eraseIdx i) (us.eraseIdx i)
  | _, _, _, .nil => .nil
  | _, _, 0, .cons _ t => t
  | _, _, i + 1, .cons q t => .cons q (RepAll.erase i t)
theorem RepAll.rep {xs : List PV} {us : List V} (h : RepAll K mg H μ xs us) : ∀ k : Nat, RepAll K mg H μ (repL k xs) ((List.replicate k us).flatten)
  | 0 => .nil
  | k + 1 => by
    show RepAll K mg H μ (List.replicate (k + 1) xs).flatten _
    rw [List.replicate_succ, List.replicate_succ, List.flatten_cons, List.flatten_cons]
    exact h.append (RepAll.rep h k)
/-- a value's references are in the heap -/
theorem bel_mono {m n : Nat} (h : m ≤ n) : (∀ x : PV, x.bel m = true → x.bel n = true) ∧ (∀ xs : List PV, belAll m xs = true → belAll n xs = true) := by
  refine ⟨fun x => ?_, fun xs => ?_⟩
  · exact PV.rec (motive_1 := fun x => x.bel m = true → x.bel n = true) (motive_2 := fun xs => belAll m xs = true → belAll n xs = true)
      (by simp [PV.bel]) (by simp [PV.bel]) (by simp [PV.bel]) (by simp [PV.bel]) (by simp [PV.bel])
      (fun xs ih => by simpa [PV.bel] using ih) (fun xs ih => by simpa [PV.bel] using ih) (fun xs ih => by simpa [PV.bel] using ih)
      (fun k => by simp only [PV.bel, Nat.blt_eq]; omega) (by simp [belAll]) (fun x xs h1 h2 => by simp only [belAll, Bool.and_eq_true]; exact fun z => ⟨h1 z.1, h2 z.2⟩) x
  · induction xs with
    | nil => simp [belAll]
    | cons x xs ih =>
      simp only [belAll, Bool.and_eq_true]
      intro z
      refine ⟨?_, ih z.2⟩
      exact PV.rec (motive_1 := fun x => x.bel m = true → x.bel n = true) (motive_2 := fun xs => belAll m xs = true → belAll n xs = true)
        (by simp [PV.bel]) (by simp [PV.bel]) (by simp [PV.bel]) (by simp [PV.bel]) (by simp [PV.bel])
        (fun xs ih => by simpa [PV.bel] using ih) (fun xs ih => by simpa [PV.bel] using ih) (fun xs ih => by simpa [PV.bel] using ih)
        (fun k => by simp only [PV.bel, Nat.blt_eq]; omega) (by simp [belAll]) (fun x xs h1 h2 => by simp only [belAll, Bool.and_eq_true]; exact fun z => ⟨h1 z.1, h2 z.2⟩) x z.1
mutual
theorem Rep.bel : ∀ {x : PV} {u : V}, Rep K mg H μ x u → x.bel μ.l.length = true
  | _, _, .non => by simp [PV.bel]
  | _, _, .bl b => by simp [PV.bel]
  | _, _, .int i => by simp [PV.bel]
  | _, _, .str x => by simp [PV.bel]
  | _, _, .fn h => by simp [PV.bel]
  | _, _, .tup h r => by simpa [PV.bel] using RepAll.bel r
  | _, _, .lst h n r => by simpa [PV.bel] using RepAll.bel r
  | _, _, .scr h r => by simpa [PV.bel] using RepAll.bel r
  | _, _, .ref h => by simpa [PV.bel, Nat.blt_eq] using (List.getElem?_eq_some_iff.mp h).1
theorem RepAll.bel : ∀ {xs : List PV} {us : List V}, RepAll K mg H μ xs us → belAll μ.l.length xs = true
  | _, _, .nil => by simp [belAll]
  | _, _, .cons r t => by simp [belAll, Rep.bel r, RepAll.bel t]
end
end

/-- the small heap -/
structure Hh (K : PySem.W.Frag) (mg : Str → Option Value) (μ : Mu) (H : Hp) (h : MH) : Prop where
  len : μ.l.length = h.length
  nd : μ.l.Nodup
  hid : ∀ a ∈ μ.hid, (∃ o, H a = some o) ∧ a ∉ μ.l
  obj : ∀ n xs, h[n]? = some xs → ∃ a us, μ.l[n]? = some a ∧ H a = some (.lst us) ∧ RepAll K mg H μ xs us ∧ belAll n xs = true
section
variable {K : PySem.W.Frag} {mg : Str → Option Value} {H H1 H2 H' : Hp} {μ μ1 μ2 μ' : Mu} {h h' : MH}
theorem Hh.trk (hh : Hh K mg μ H h) : Trk H μ := ⟨fun a ha => by
  obtain ⟨n, hn, e⟩ := List.getElem_of_mem ha
  have hl := hh.len
  obtain ⟨b, us, h1, h2, _⟩ := hh.obj n (h[n]'(by omega)) (by simp)
  have e2 : μ.l[n]? = some a := by rw [List.getElem?_eq_getElem hn, e]
  rw [h1] at e2; cases e2
  exact ⟨us, h2⟩, hh.hid⟩
theorem Hh.refl (hh : Hh K mg μ H h) : Ext μ H μ H := Ext.refl hh.trk
/-- back to the first lists: what has come since is forgotten -/
theorem Hh.cut (hh : Hh K mg μ' H' h') (e : Ext μ H μ' H') : Hh K mg μ H' (h'.take μ.l.length) := by
  obtain ⟨ex, q0, q⟩ := e.pre
  have hl := hh.len
  rw [q0, List.length_append] at hl
  refine ⟨by rw [List.length_take]; omega, ?_, fun a ha => ⟨(hh.hid a (e.hid1 a ha)).1, fun z => (hh.hid a (e.hid1 a ha)).2 (e.mem z)⟩, fun n xs hn => ?_⟩
  · have := hh.nd
    rw [q0] at this
    exact (List.nodup_append.mp this).1
  have hlt : n < μ.l.length := by
    have := (List.getElem?_eq_some_iff.mp hn).1
    rw [List.length_take] at this
    omega
  rw [List.getElem?_take_of_lt hlt] at hn
  obtain ⟨a, us, h1, h2, h3, h4⟩ := hh.obj n xs hn
  refine ⟨a, us, ?_, h2, ?_, h4⟩
  · rw [q0, List.getElem?_append_left hlt] at h1; exact h1
  · refine RepAll.less (μ := μ) (μ' := μ') (fun a ha => e.mem ha) e.hid1 (fun m b hm hb => ?_) ((bel_mono (Nat.le_of_lt hlt)).2 xs h4) h3
    rw [q0, List.getElem?_append_left hm] at hb; exact hb
theorem Ext.cut (e : Ext μ H μ' H') : Ext μ H μ H' := ⟨⟨[], by simp, fun _ h => absurd h (by simp)⟩, fun _ h => h, fun _ h => .inl h, e.kept, ⟨fun a ha => e.trk.lst a (e.mem ha), fun a ha => by
  obtain ⟨h1, h2⟩ := e.trk.hid a (e.hid1 a ha)
  exact ⟨h1, fun z => h2 (e.mem z)⟩⟩⟩
theorem Rep.cut (e : Ext μ H μ' H') {x : PV} {u : V} (b : x.bel μ.l.length = true) (r : Rep K mg H' μ' x u) : Rep K mg H' μ x u := by
  obtain ⟨ex, q0, q⟩ := e.pre
  refine r.less (μ := μ) (μ' := μ') (fun a ha => e.mem ha) e.hid1 (fun m c hm hc => ?_) b
  rw [q0, List.getElem?_append_left hm] at hc; exact hc
theorem RepAll.cut (e : Ext μ H μ' H') {x : List PV} {u : List V} (b : belAll μ.l.length x = true) (r : RepAll K mg H' μ' x u) : RepAll K mg H' μ x u := by
  obtain ⟨ex, q0, q⟩ := e.pre
  refine r.less (μ := μ) (μ' := μ') (fun a ha => e.mem ha) e.hid1 (fun m c hm hc => ?_) b
  rw [q0, List.getElem?_append_left hm] at hc; exact hc
/-- a new object that is none of the small heap's -/
theorem Hh.new (hh : Hh K mg μ H h) {p : Addr} {o : HO} (np : H p = none) : Ext μ H μ (upd H p o) ∧ Hh K mg μ (upd H p o) h ∧ μ.out p := by
  have out : p ∉ μ.l := fun z => by
    obtain ⟨us, q⟩ := hh.trk.lst p z
    rw [np] at q; cases q
  have outh : p ∉ μ.hid := fun z => by
    obtain ⟨⟨o, q⟩, _⟩ := hh.hid p z
    rw [np] at q; cases q
  have hid : ∀ a ∈ μ.hid, (∃ x, upd H p o a = some x) ∧ a ∉ μ.l := fun a ha => by
    obtain ⟨⟨o, q⟩, z⟩ := hh.hid a ha
    exact ⟨⟨o, by rw [upd_ne (ne_of_none q np)]; exact q⟩, z⟩
  have e : Ext μ H μ (upd H p o) := ⟨⟨[], by simp, fun _ h => absurd h (by simp)⟩, fun _ h => h, fun _ h => .inl h, fun a x ha _ => by rw [upd_ne (ne_of_none ha np)]; exact ha, ⟨fun a ha => by
    obtain ⟨us, q⟩ := hh.trk.lst a ha
    exact ⟨us, by rw [upd_ne (ne_of_none q np)]; exact q⟩, hid⟩⟩
  refine ⟨e, ⟨hh.len, hh.nd, hid, fun n xs hn => ?_⟩, out, outh⟩
  obtain ⟨a, us, h1, h2, h3, h4⟩ := hh.obj n xs hn
  exact ⟨a, us, h1, by rw [upd_ne (ne_of_none h2 np)]; exact h2, h3.ext e, h4⟩
/-- a new list in the small heap -/
theorem Hh.alloc (hh : Hh K mg μ H h) {p : Addr} {us : List V} {xs : List PV} (np : H p = none) (r : RepAll K mg H μ xs us) : Ext μ H (μ.add p) (upd H p (.lst us)) ∧ Hh K mg (μ.add p) (upd H p (.lst us)) (h ++ [xs]) := by
  obtain ⟨e0, hh0, out, outh⟩ := hh.new (o := .lst us) np
  have hid : ∀ a ∈ μ.hid, (∃ x, upd H p (.lst us) a = some x) ∧ a ∉ (μ.add p).l := fun a ha => by
    obtain ⟨q, z⟩ := hh0.hid a ha
    refine ⟨q, fun y => ?_⟩
    rcases List.mem_append.mp y with y | y
    · exact z y
    · rw [List.mem_singleton.mp y] at ha; exact outh ha
  have e : Ext μ H (μ.add p) (upd H p (.lst us)) := ⟨⟨[p], rfl, fun a ha => by rw [List.mem_singleton.mp ha]; exact np⟩, fun _ h => h, fun _ h => .inl h, fun a x ha _ => by rw [upd_ne (ne_of_none ha np)]; exact ha, ⟨fun a ha => by
    rcases List.mem_append.mp ha with ha | ha
    · obtain ⟨vs, q⟩ := hh.trk.lst a ha
      exact ⟨vs, by rw [upd_ne (ne_of_none q np)]; exact q⟩
    · rw [List.mem_singleton.mp ha]
      exact ⟨us, upd_same⟩, hid⟩⟩
  refine ⟨e, ⟨?_, ?_, hid, fun n ys hn => ?_⟩⟩
  · show (μ.l ++ [p]).length = _
    simp [hh.len]
  · show (μ.l ++ [p]).Nodup
    rw [List.nodup_append]
    exact ⟨hh.nd, by simp, fun a ha b hb z => out (by rw [List.mem_singleton.mp hb] at z; rw [← z]; exact ha)⟩
  · by_cases hlt : n < h.length
    · rw [List.getElem?_append_left hlt] at hn
      obtain ⟨a, vs, h1, h2, h3, h4⟩ := hh.obj n ys hn
      exact ⟨a, vs, e.get h1, by rw [upd_ne (ne_of_none h2 np)]; exact h2, h3.ext e, h4⟩
    · have hn2 : n = h.length := by
        have := (List.getElem?_eq_some_iff.mp hn).1
        rw [List.length_append, List.length_singleton] at this
        omega
      subst hn2
      have q : ys = xs := by simpa using hn.symm
      subst q
      refine ⟨p, us, ?_, upd_same, r.ext e, ?_⟩
      · show (μ.l ++ [p])[h.length]? = some p
        rw [← hh.len]; simp
      · rw [← hh.len]; exact r.bel
/-- a list of the small heap changed -/
theorem Hh.put (hh : Hh K mg μ H h) {n : Nat} {a : Addr} {us : List V} {xs : List PV} (ha : μ.l[n]? = some a) (r : RepAll K mg H μ xs us) (b : belAll n xs = true) : Ext μ H μ (upd H a (.lst us)) ∧ Hh K mg μ (upd H a (.lst us)) (h.set n xs) := by
  have hm : a ∈ μ.l := List.mem_of_getElem? ha
  have hid : ∀ c ∈ μ.hid, (∃ x, upd H a (.lst us) c = some x) ∧ c ∉ μ.l := fun c hc => by
    obtain ⟨⟨o, q⟩, z⟩ := hh.hid c hc
    exact ⟨⟨o, by rw [upd_ne (fun y => z (by rw [y]; exact hm))]; exact q⟩, z⟩
  have e : Ext μ H μ (upd H a (.lst us)) := ⟨⟨[], by simp, fun _ h => absurd h (by simp)⟩, fun _ h => h, fun _ h => .inl h, fun c x hc hn => by rw [upd_ne (fun z => hn (by rw [z]; exact hm))]; exact hc, ⟨fun c hc => by
    by_cases z : c = a
    · subst z; exact ⟨us, upd_same⟩
    · obtain ⟨vs, q⟩ := hh.trk.lst c hc
      exact ⟨vs, by rw [upd_ne z]; exact q⟩, hid⟩⟩
  refine ⟨e, ⟨by simp [hh.len], hh.nd, hid, fun m ys hn => ?_⟩⟩
  by_cases z : m = n
  · subst z
    have hlt : m < h.length := by rw [← hh.len]; exact (List.getElem?_eq_some_iff.mp ha).1
    rw [List.getElem?_set_self hlt] at hn; cases hn
    exact ⟨a, us, ha, upd_same, r.ext e, b⟩
  · rw [List.getElem?_set_ne (Ne.symm z)] at hn
    obtain ⟨c, vs, h1, h2, h3, h4⟩ := hh.obj m ys hn
    refine ⟨c, vs, h1, ?_, h3.ext e, h4⟩
    rw [upd_ne]
    · exact h2
    · rintro rfl
      obtain ⟨l1, q1⟩ := List.getElem?_eq_some_iff.mp h1
      obtain ⟨l2, q2⟩ := List.getElem?_eq_some_iff.mp ha
      exact z ((List.getElem_inj hh.nd).mp (q1.trans q2.symm))
/-- a list under way begins -/
theorem Hh.begin (hh : Hh K mg μ H h) {D : Addr} {o : HO} (nD : H D = none) : Ext μ H (μ.hide D) (upd H D o) ∧ Hh K mg (μ.hide D) (upd H D o) h := by
  obtain ⟨e, hh1, out⟩ := hh.new (o := o) nD
  have hid : ∀ a ∈ (μ.hide D).hid, (∃ x, upd H D o a = some x) ∧ a ∉ (μ.hide D).l := fun a ha => by
    rcases List.mem_cons.mp ha with z | z
    · rw [z]; exact ⟨⟨o, upd_same⟩, out.1⟩
    · exact hh1.hid a z
  have E : Ext μ H (μ.hide D) (upd H D o) := ⟨e.pre, fun a ha => List.mem_cons_of_mem _ ha, fun a ha => (List.mem_cons.mp ha).elim (fun z => .inr (by rw [z]; exact nD)) .inl, e.kept, e.trk.lst, hid⟩
  refine ⟨E, hh.len, hh.nd, hid, fun n xs hn => ?_⟩
  obtain ⟨a, us, h1, h2, h3, h4⟩ := hh.obj n xs hn
  exact ⟨a, us, h1, by rw [upd_ne (ne_of_none h2 nD)]; exact h2, h3.ext E, h4⟩
/-- it changes -/
theorem Hh.turn (hh : Hh K mg μ H h) {D : Addr} {o : HO} (hD : D ∈ μ.hid) : Hh K mg μ (upd H D o) h := by
  have hn := (hh.hid D hD).2
  refine ⟨hh.len, hh.nd, fun a ha => ?_, fun n xs hn' => ?_⟩
  · obtain ⟨⟨ob, q⟩, z⟩ := hh.hid a ha
    by_cases y : a = D
    · rw [y]; exact ⟨⟨o, upd_same⟩, hn⟩
    · exact ⟨⟨ob, by rw [upd_ne y]; exact q⟩, z⟩
  · obtain ⟨a, us, h1, h2, h3, h4⟩ := hh.obj n xs hn'
    exact ⟨a, us, h1, by rw [upd_ne (fun z => hn (by rw [← z]; exact List.mem_of_getElem? h1))]; exact h2, h3.put hD, h4⟩
theorem Ext.turn (e : Ext μ H μ' H') {D : Addr} {o : HO} (nD : H D = none) (hD : D ∈ μ'.hid) : Ext μ H μ' (upd H' D o) := by
  have hn := (e.trk.hid D hD).2
  refine ⟨e.pre, e.hid1, e.hid2, fun a x ha hm => by rw [upd_ne (ne_of_none ha nD)]; exact e.kept a x ha hm, fun a ha => ?_, fun a ha => ?_⟩
  · obtain ⟨us, q⟩ := e.trk.lst a ha
    exact ⟨us, by rw [upd_ne (fun z => hn (by rw [← z]; exact ha))]; exact q⟩
  · obtain ⟨⟨ob, q⟩, z⟩ := e.trk.hid a ha
    by_cases y : a = D
    · rw [y]; exact ⟨⟨o, upd_same⟩, hn⟩
    · exact ⟨⟨ob, by rw [upd_ne y]; exact q⟩, z⟩
mutual
theorem Rep.move (ho : ∀ a, μ'.out a → μ.out a) (hg : ∀ (n : Nat) (a : Addr), μ'.l[n]? = some a → μ.l[n]? = some a) : ∀ {x : PV} {u : V}, Rep K mg H μ' x u → Rep K mg H μ x u
  | _, _, .non => .non
  | _, _, .bl b => .bl b
  | _, _, .int i => .int i
  | _, _, .str x => .str x
  | _, _, .fn h => .fn h
  | _, _, .tup h r => .tup (h.elim (fun z => .inl ⟨z.1, ho _ z.2⟩) .inr) (RepAll.move ho hg r)
  | _, _, .lst h n r => .lst h (ho _ n) (RepAll.move ho hg r)
  | _, _, .scr h r => .scr (h.elim (fun z => .inl ⟨z.1, ho _ z.2⟩) .inr) (RepAll.move ho hg r)
  | _, _, .ref h => .ref (hg _ _ h)
theorem RepAll.move (ho : ∀ a, μ'.out a → μ.out a) (hg : ∀ (n : Nat) (a : Addr), μ'.l[n]? = some a → μ.l[n]? = some a) : ∀ {xs : List PV} {us : List V}, RepAll K mg H μ' xs us → RepAll K mg H μ xs us
  | _, _, .nil => .nil
  | _, _, .cons r t => .cons (Rep.move ho hg r) (RepAll.move ho hg t)
end
/-- the lists under way come to light: all but those of before -/
def Mu.back (μ' μ : Mu) : Mu := ⟨μ'.l, μ.hid⟩
theorem Ext.back (e : Ext μ H μ' H') : Ext μ H (μ'.back μ) H' := ⟨e.pre, fun _ h => h, fun _ h => .inl h, e.kept, e.trk.lst, fun a ha => e.trk.hid a (e.hid1 a ha)⟩
theorem RepAll.back (e : Ext μ H μ' H') {x : List PV} {u : List V} (r : RepAll K mg H' μ' x u) : RepAll K mg H' (μ'.back μ) x u :=
  r.move (μ := μ'.back μ) (μ' := μ') (fun a h => ⟨h.1, fun z => h.2 (e.hid1 a z)⟩) fun _ _ h => h
theorem Hh.back (hh : Hh K mg μ' H' h') (e : Ext μ H μ' H') : Hh K mg (μ'.back μ) H' h' := by
  refine ⟨hh.len, hh.nd, fun a ha => hh.hid a (e.hid1 a ha), fun n xs hn => ?_⟩
  obtain ⟨a, us, h1, h2, h3, h4⟩ := hh.obj n xs hn
  exact ⟨a, us, h1, h2, h3.back e, h4⟩
/-- a list under way joins the small heap -/
theorem Hh.join (hh : Hh K mg μ' H' h') (e : Ext μ H μ' H') {D : Addr} {us : List V} {xs : List PV} (hD : D ∈ μ'.hid) (hp : H' D = some (.lst us)) (nD : H D = none) (nh : D ∉ μ.hid) (r : RepAll K mg H' μ' xs us) :
    Ext μ H ((μ'.back μ).add D) H' ∧ Hh K mg ((μ'.back μ).add D) H' (h' ++ [xs]) := by
  have out := (hh.hid D hD).2
  have hid : ∀ a ∈ μ.hid, (∃ x, H' a = some x) ∧ a ∉ ((μ'.back μ).add D).l := fun a ha => by
    obtain ⟨q, z⟩ := hh.hid a (e.hid1 a ha)
    refine ⟨q, fun y => ?_⟩
    rcases List.mem_append.mp y with y | y
    · exact z y
    · rw [List.mem_singleton.mp y] at ha; exact nh ha
  have lst : ∀ a ∈ ((μ'.back μ).add D).l, ∃ us, H' a = some (.lst us) := fun a ha => by
    rcases List.mem_append.mp ha with ha | ha
    · exact hh.trk.lst a ha
    · rw [List.mem_singleton.mp ha]
      exact ⟨us, hp⟩
  have ho : ∀ a, μ'.out a → ((μ'.back μ).add D).out a := fun a h => ⟨fun z => (List.mem_append.mp z).elim h.1 fun z => by
    rw [List.mem_singleton.mp z] at h
    exact h.2 hD, fun z => h.2 (e.hid1 a z)⟩
  have hg : ∀ (n : Nat) (a : Addr), μ'.l[n]? = some a → ((μ'.back μ).add D).l[n]? = some a := fun n a h => by
    show (μ'.l ++ [D])[n]? = some a
    rw [List.getElem?_append_left (List.getElem?_eq_some_iff.mp h).1]
    exact h
  refine ⟨⟨?_, fun _ h => h, fun _ h => .inl h, e.kept, lst, hid⟩, ?_, ?_, hid, fun n ys hn => ?_⟩
  · obtain ⟨ex, q, z⟩ := e.pre
    refine ⟨ex ++ [D], by show μ'.l ++ [D] = _; rw [q, List.append_assoc], fun a ha => ?_⟩
    rcases List.mem_append.mp ha with ha | ha
    · exact z a ha
    · rw [List.mem_singleton.mp ha]; exact nD
  · show (μ'.l ++ [D]).length = _
    simp [hh.len]
  · show (μ'.l ++ [D]).Nodup
    rw [List.nodup_append]
    exact ⟨hh.nd, by simp, fun a ha b hb z => out (by rw [List.mem_singleton.mp hb] at z; rw [← z]; exact ha)⟩
  · by_cases hlt : n < h'.length
    · rw [List.getElem?_append_left hlt] at hn
      obtain ⟨a, vs, h1, h2, h3, h4⟩ := hh.obj n ys hn
      exact ⟨a, vs, hg _ _ h1, h2, h3.move ho hg, h4⟩
    · have hn2 : n = h'.length := by
        have := (List.getElem?_eq_some_iff.mp hn).1
        rw [List.length_append, List.length_singleton] at this
        omega
      subst hn2
      have q : ys = xs := by simpa using hn.symm
      subst q
      refine ⟨D, us, ?_, hp, r.move ho hg, ?_⟩
      · show (μ'.l ++ [D])[h'.length]? = some D
        rw [← hh.len]; simp
      · rw [← hh.len]; exact r.bel
end

/-- the values by slot -/
structure Ev (K : PySem.W.Frag) (mg : Str → Option Value) (μ : Mu) (H : Hp) (σ : L2.St) (env : Env) : Prop where
  len : env.length = σ.length
  get : ∀ (i : Nat) (v : PV), env[i]? = some (some v) → ∃ u : V, σ[i]? = some (some u) ∧ Rep K mg H μ v u
section
variable {K : PySem.W.Frag} {mg : Str → Option Value} {H H1 H2 H' : Hp} {μ μ1 μ2 μ' : Mu} {h h' : MH} {σ : L2.St} {env : Env}
theorem Ev.ext (ev : Ev K mg μ H σ env) (e : Ext μ H μ' H') : Ev K mg μ' H' σ env := ⟨ev.len, fun i v hv => by
  obtain ⟨u, h1, h2⟩ := ev.get i v hv
  exact ⟨u, h1, h2.ext e⟩⟩
theorem Ev.set (ev : Ev K mg μ H σ env) (i : Nat) {v : PV} {u : V} (r : Rep K mg H μ v u) : Ev K mg μ H (σ.set i (some u)) (env.set i (some v)) := by
  refine ⟨by simp [ev.len], fun j w hw => ?_⟩
  by_cases z : i = j
  · subst z
    by_cases hi : i < env.length
    · rw [List.getElem?_set_self hi] at hw; cases hw
      exact ⟨u, by rw [List.getElem?_set_self (by rw [← ev.len]; exact hi)], r⟩
    · rw [List.getElem?_eq_none (by simpa using hi)] at hw; cases hw
  · rw [List.getElem?_set_ne z] at hw
    obtain ⟨x, h1, h2⟩ := ev.get j w hw
    exact ⟨x, by rw [List.getElem?_set_ne z]; exact h1, h2⟩
theorem Ev.unset (ev : Ev K mg μ H σ env) (i : Nat) : Ev K mg μ H (σ.set i none) (env.set i none) := by
  refine ⟨by simp [ev.len], fun j w hw => ?_⟩
  by_cases z : i = j
  · subst z
    by_cases hi : i < env.length
    · rw [List.getElem?_set_self hi] at hw; cases hw
    · rw [List.getElem?_eq_none (by simpa using hi)] at hw; cases hw
  · rw [List.getElem?_set_ne z] at hw
    obtain ⟨x, h1, h2⟩ := ev.get j w hw
    exact ⟨x, by rw [List.getElem?_set_ne z]; exact h1, h2⟩
theorem Ev.wipe (ev : Ev K mg μ H σ env) : ∀ vs : List Nat, Ev K mg μ H (L2.wipe σ vs) (Mn.wipe env vs)
  | [] => ev
  | v :: vs => by
    show Ev K mg μ H ((L2.wipe σ vs).set v none) ((Mn.wipe env vs).set v none)
    exact (Ev.wipe ev vs).unset v
theorem ev_start {xs : List PV} {us : List V} (r : RepAll K mg H μ xs us) (N : List Str) (k : Nat) (hk : N.length = k) : Ev K mg μ H (L2.start N us) (xs.map some ++ List.replicate (k - us.length) none) := by
  subst hk
  have hl := r.length
  refine ⟨by simp [L2.start, hl], fun i v hv => ?_⟩
  by_cases hi : i < xs.length
  · rw [List.getElem?_append_left (by simpa using hi), List.getElem?_map] at hv
    cases e : xs[i]? with
    | none => rw [e] at hv; cases hv
    | some w =>
      rw [e] at hv
      have q : w = v := by simpa using hv
      subst q
      obtain ⟨u, h1, h2⟩ := r.get e
      refine ⟨u, ?_, h2⟩
      unfold L2.start
      rw [List.getElem?_append_left (by simpa using (by omega : i < us.length)), List.getElem?_map, h1]
      rfl
  · rw [List.getElem?_append_right (by simpa using hi), List.getElem?_replicate] at hv
    split at hv <;> cases hv
end
end Mn
-- text MnOps
/-! Mn: operators, comparisons, built-in functions -/
namespace Mn
open PySem PySem.Spec L2 PyProof.Rows

/-- what is handed on -/
abbrev Go (K : PySem.W.Frag) (mg : Str → Option Value) (μ : Mu) (H : Hp) (v : PV) (h' : MH) (Q : VK) : Prop :=
  ∀ (μ' : Mu) (H' : Hp) (u : V), Ext μ H μ' H' → Hh K mg μ' H' h' → Rep K mg H' μ' v u → Q u H'
/-- two values' operation, by the small semantics -/
def rM (K : PySem.W.Frag) (mg : Str → Option Value) (f : PV → PV → MH → Option (PV × MH)) : R2 := fun a b H Q =>
  ∃ μ h x y v h', Hh K mg μ H h ∧ Rep K mg H μ x a ∧ Rep K mg H μ y b ∧ f x y h = some (v, h') ∧ Go K mg μ H v h' Q
def rMB (K : PySem.W.Frag) (mg : Str → Option Value) (f : PV → PV → MH → Option Bool) : R2 := fun a b H Q =>
  ∃ μ h x y c, Hh K mg μ H h ∧ Rep K mg H μ x a ∧ Rep K mg H μ y b ∧ f x y h = some c ∧ Q (.bl c) H
def rMC (K : PySem.W.Frag) (mg : Str → Option Value) (f : List PV → MH → Option (PV × MH)) : List V → Hp → VK → Prop := fun us H Q =>
  ∃ μ h xs v h', Hh K mg μ H h ∧ RepAll K mg H μ xs us ∧ f xs h = some (v, h') ∧ Go K mg μ H v h' Q
theorem OpR.imp {X : Cx} {f : Value → Value → Sem Value} {r r' : R2} (o : OpR X f r) (h : ∀ x y H Q, r' x y H Q → r x y H Q) : OpR X f r' :=
  fun pins s σ H x y v u Q I rx ry q => o pins s σ H x y v u Q I rx ry (h _ _ _ _ q)
theorem CallR.imp {X : Cx} {f : Value} {r r' : List V → Hp → VK → Prop} (o : CallR X f r) (h : ∀ xs H Q, r' xs H Q → r xs H Q) : CallR X f r' :=
  fun pins s σ H xs us Q I rx q => o pins s σ H xs us Q I rx (h _ _ _ q)

theorem lim_ok {n : Nat} (h : Nat.ble n lim = true) : n ≤ sizeLine := by
  have := Nat.le_of_ble_eq_true h
  unfold lim at this
  rw [sizeLine_eq]; omega
section
variable {K : PySem.W.Frag} {mg : Str → Option Value} {H : Hp} {μ : Mu} {h h' : MH} {m : Nat} {xs ys : List PV} {us ws : List V} {v : PV} {Q : VK} {x y : PV} {a b : V}
/-- a new list -/
theorem mkL_ok (e : mkL m xs h = some (v, h')) (hh : Hh K mg μ H h) (r : RepAll K mg H μ xs us) (k : Go K mg μ H v h' Q) :
    us.length ≤ sizeLine ∧ ∀ p, H p = none → Q (.ref p) (upd H p (.lst us)) := by
  unfold mkL at e
  cases hb : Nat.ble xs.length lim with
  | false => rw [hb] at e; cases e
  | true =>
    rw [hb] at e
    refine ⟨by rw [← r.length]; exact lim_ok hb, fun p np => ?_⟩
    cases m with
    | zero =>
      cases e
      obtain ⟨E, h2, out⟩ := hh.new (o := .lst us) np
      exact k μ _ _ E h2 (.lst upd_same out (r.ext E))
    | succ m =>
      cases e
      obtain ⟨E, h2⟩ := hh.alloc np r
      exact k _ _ _ E h2 (.ref (by show (μ.l ++ [p])[h.length]? = some p; rw [← hh.len]; simp))
theorem mkT_ok (e : mkT xs h = some (v, h')) (hh : Hh K mg μ H h) (r : RepAll K mg H μ xs us) (k : Go K mg μ H v h' Q) :
    us.length ≤ sizeLine ∧ ∀ p, H p = none → Q (.ref p) (upd H p (.tup us)) := by
  unfold mkT at e
  cases hb : Nat.ble xs.length lim with
  | false => rw [hb] at e; cases e
  | true =>
    rw [hb] at e
    refine ⟨by rw [← r.length]; exact lim_ok hb, fun p np => ?_⟩
    cases e
    obtain ⟨E, h2, out⟩ := hh.new (o := .tup us) np
    exact k μ _ _ E h2 (.tup (.inl ⟨.inl upd_same, out⟩) (r.ext E))
/-- the same value, nothing changed -/
theorem Go.here (k : Go K mg μ H v h Q) (hh : Hh K mg μ H h) (r : Rep K mg H μ v a) : Q a H := k μ H a hh.refl hh r
theorem Rep.int_inv {i : Int} (r : Rep K mg H μ (.int i) a) : a = .int i := by cases r; rfl
theorem Rep.bl_inv {i : Bool} (r : Rep K mg H μ (.bl i) a) : a = .bl i := by cases r; rfl
theorem Rep.tup_inv (r : Rep K mg H μ (.tup xs) a) : ∃ p us, a = .ref p ∧ TupA K H μ p us ∧ RepAll K mg H μ xs us := by
  cases r with
  | tup h r => exact ⟨_, _, rfl, h, r⟩
/-- a list that is tracked -/
theorem lstH_ok (hh : Hh K mg μ H h) (r : Rep K mg H μ x a) (e : lstH h x = some xs) : ∃ p us, a = .ref p ∧ H p = some (.lst us) ∧ RepAll K mg H μ xs us := by
  cases r with
  | lst h1 h2 h3 => cases e; exact ⟨_, _, rfl, h1, h3⟩
  | ref h1 =>
    obtain ⟨p, us, q1, q2, q3, _⟩ := hh.obj _ _ e
    rw [h1] at q1; cases q1
    exact ⟨_, _, rfl, q2, q3⟩
  | _ => cases e
/-- items of a sequence -/
theorem seqH_ok (hh : Hh K mg μ H h) (r : Rep K mg H μ x a) (e : seqH h x = some xs) : ∃ p us, a = .ref p ∧ (SqL K H p us ∨ SqT K H p us) ∧ RepAll K mg H μ xs us := by
  cases r with
  | tup h1 h3 => cases e; exact ⟨_, _, rfl, .inr h1.sq, h3⟩
  | lst h1 h2 h3 => cases e; exact ⟨_, _, rfl, .inl (.of h1), h3⟩
  | scr h1 h3 => cases e; exact ⟨_, _, rfl, .inl h1.sq, h3⟩
  | ref h1 =>
    obtain ⟨p, us, q1, q2, q3, _⟩ := hh.obj _ _ e
    rw [h1] at q1; cases q1
    exact ⟨_, _, rfl, .inl (.of q2), q3⟩
  | _ => cases e
mutual
theorem data_ok : ∀ {x : PV} {a : V} {d : PyData}, Rep K mg H μ x a → x.data = some d → Dp K H a d
  | _, _, _, .non, e => by cases e; exact .non
  | _, _, _, .bl b, e => by cases e; exact .bl b
  | _, _, _, .int i, e => by cases e; exact .int i
  | _, _, _, .str s, e => by cases e; exact .str s
  | _, _, _, .fn _, e => by cases e
  | _, _, _, .ref _, e => by cases e
  | .tup xs, _, d, .tup h r, e => by
    have e' : (dataAll xs).map PyData.tuple = some d := e
    cases q : dataAll xs with
    | none => rw [q] at e'; cases e'
    | some ds => rw [q] at e'; cases e'; exact .tup h.sq (dataAll_ok r q)
  | .lst xs, _, d, .lst h n r, e => by
    have e' : (dataAll xs).map PyData.list = some d := e
    cases q : dataAll xs with
    | none => rw [q] at e'; cases e'
    | some ds => rw [q] at e'; cases e'; exact .lst (.of h) (dataAll_ok r q)
  | .scr xs, _, d, .scr h r, e => by
    have e' : (dataAll xs).map PyData.list = some d := e
    cases q : dataAll xs with
    | none => rw [q] at e'; cases e'
    | some ds => rw [q] at e'; cases e'; exact .lst h.sq (dataAll_ok r q)
theorem dataAll_ok : ∀ {xs : List PV} {us : List V} {ds : List PyData}, RepAll K mg H μ xs us → dataAll xs = some ds → DpAll K H us ds
  | _, _, _, .nil, e => by cases e; exact .nil
  | x :: xs, _, ds, .cons r t, e => by
    have e' : (match x.data with | some d => (dataAll xs).map (d :: ·) | none => none) = some ds := e
    cases q : x.data with
    | none => rw [q] at e'; cases e'
    | some d =>
      rw [q] at e'
      cases q2 : dataAll xs with
      | none => rw [q2] at e'; cases e'
      | some ds' => rw [q2] at e'; cases e'; exact .cons (data_ok r q) (dataAll_ok t q2)
end
theorem dataH_ok (hh : Hh K mg μ H h) {d : PyData} (r : Rep K mg H μ x a) (e : dataH h x = some d) : Dp K H a d := by
  cases r with
  | ref h1 =>
    rename_i n p
    have e' : (match h[n]? with | some xs => (dataAll xs).map PyData.list | none => none) = some d := e
    cases q : h[n]? with
    | none => rw [q] at e'; cases e'
    | some xs =>
      rw [q] at e'
      obtain ⟨p', us, q1, q2, q3, _⟩ := hh.obj _ _ q
      rw [h1] at q1; cases q1
      have e2 : (dataAll xs).map PyData.list = some d := e'
      cases q4 : dataAll xs with
      | none => rw [q4] at e2; cases e2
      | some ds => rw [q4] at e2; cases e2; exact .lst (.of q2) (dataAll_ok q3 q4)
  | non => exact data_ok (mg := mg) (μ := μ) .non e
  | bl b => exact data_ok (mg := mg) (μ := μ) (.bl b) e
  | int b => exact data_ok (mg := mg) (μ := μ) (.int b) e
  | str b => exact data_ok (mg := mg) (μ := μ) (.str b) e
  | fn q => exact data_ok (μ := μ) (.fn q) e
  | tup h r => exact data_ok (.tup h r) e
  | lst h n r => exact data_ok (.lst h n r) e
  | scr h r => exact data_ok (.scr h r) e
end

section
variable {X : Cx}
/-! ### operators -/
theorem om_add (m : Nat) : OpR X (binaryOp .Add) (rM X.K X.mg (opAdd m)) := by
  refine OpR.imp (OpR.or op_add (OpR.or op_catA op_cat)) fun a b H Q hq => ?_
  obtain ⟨μ, h, x, y, v, h', hh, rx, ry, e, k⟩ := hq
  unfold opAdd at e
  split at e
  · cases e
    exact .inl ⟨_, _, rx.int_inv, ry.int_inv, k.here hh (.int _)⟩
  · obtain ⟨p, us, rfl, t1, r1⟩ := rx.tup_inv
    obtain ⟨q, ws, rfl, t2, r2⟩ := ry.tup_inv
    have r := r1.append r2
    obtain ⟨z, mk⟩ := mkT_ok e hh r k
    refine .inr (.inl ⟨p, q, us, ws, rfl, rfl, t1.sq, t2.sq, by rw [← List.length_append]; exact z, fun e1 => ?_, fun e1 e2 => ?_, fun _ _ => mk⟩)
    · subst e1
      cases r1
      unfold mkT at e
      split at e
      · cases e
        exact k.here hh (.tup t2 r2)
      · cases e
    · subst e2
      cases r2
      unfold mkT at e
      rw [List.append_nil] at e
      split at e
      · cases e
        exact k.here hh (.tup t1 r1)
      · cases e
  · split at e
    · rename_i xs ys e1 e2
      obtain ⟨p, us, rfl, t1, r1⟩ := lstH_ok hh rx e1
      obtain ⟨q, ws, rfl, t2, r2⟩ := lstH_ok hh ry e2
      obtain ⟨z, mk⟩ := mkL_ok e hh (r1.append r2) k
      exact .inr (.inr ⟨p, q, us, ws, rfl, rfl, t1, t2, by rw [← List.length_append]; exact z, mk⟩)
    · cases e
theorem om_sub : OpR X (binaryOp .Sub) (rM X.K X.mg opSub) := by
  refine OpR.imp op_sub fun a b H Q hq => ?_
  obtain ⟨μ, h, x, y, v, h', hh, rx, ry, e, k⟩ := hq
  unfold opSub at e
  split at e
  · cases e
    exact ⟨_, _, rx.int_inv, ry.int_inv, k.here hh (.int _)⟩
  · cases e
theorem small_ok {i : Int} (h : small i = true) : -(2 ^ 64) < i ∧ i < 2 ^ 64 := by
  unfold small at h
  rw [Bool.and_eq_true] at h
  exact ⟨of_decide_eq_true h.1, of_decide_eq_true h.2⟩
theorem small_wide {j : Int} (h : small j = true) : j.natAbs.log2 < 9000 := by
  obtain ⟨h1, h2⟩ := small_ok h
  refine Nat.lt_of_lt_of_le (PySem.Flt.log2_lt_of (show 0 < 65 by decide) (show j.natAbs < 2 ^ 65 by omega)) (by decide)
theorem op_mulI : OpR X (binaryOp .Mult) (rI IntMulOk fun i j => .int (i * j)) := opI fun _ _ _ _ _ _ _ hc q => mul_int q hc
/-- // of any divisor, not 0 -/
theorem op_fdivM : OpR X (binaryOp .FloorDiv) (rI (fun _ j => j ≠ 0 ∧ j.natAbs.log2 < 9000) fun i j => .int (i.fdiv j)) := opI fun i j _ _ _ _ _ hc q =>
  floordiv_int hc.1 q (.inl (PyProof.noPylong_of_log2 hc.2))
theorem om_mul (m : Nat) : OpR X (binaryOp .Mult) (rM X.K X.mg (opMul m)) := by
  refine OpR.imp (OpR.or op_mulI (OpR.or op_repT op_rep)) fun a b H Q hq => ?_
  obtain ⟨μ, h, x, y, v, h', hh, rx, ry, e, k⟩ := hq
  unfold opMul at e
  split at e
  · split at e
    · rename_i hs
      cases e
      refine .inl ⟨_, _, rx.int_inv, ry.int_inv, ?_, k.here hh (.int _)⟩
      unfold mulOk at hs
      rw [Bool.or_eq_true, Bool.or_eq_true, Nat.blt_eq] at hs
      exact hs.elim (fun z => CMul.ok (.inl (small_ok z))) fun z => z.elim (fun z => CMul.ok (.inr (small_ok z))) fun z => CMulW.ok z
    · cases e
  · rename_i xs kk
    split at e
    · rename_i hs
      obtain ⟨p, us, rfl, t1, r1⟩ := rx.tup_inv
      cases e
      simp only [Bool.and_eq_true, decide_eq_true_eq, Nat.ble_eq, Bool.not_eq_true', List.isEmpty_eq_false_iff] at hs
      obtain ⟨h1, h2, h3, h4⟩ := hs
      have hl := r1.length
      have rr := r1.rep kk.toNat
      have hne : us ≠ [] := fun z => h1 (List.eq_nil_of_length_eq_zero (by rw [hl, z]; rfl))
      refine .inr (.inl ⟨p, kk, us, rfl, ry.int_inv, t1.sq, hne, h2, h3, by omega, fun q nq => ?_⟩)
      obtain ⟨E, h2', out⟩ := hh.new (o := .tup ((List.replicate kk.toNat us).flatten)) nq
      exact k μ _ _ E h2' (.tup (.inl ⟨.inl upd_same, out⟩) (rr.ext E))
    · cases e
  · rename_i x' kk _ _
    split at e
    · rename_i xs e1
      split at e
      · rename_i hs
        obtain ⟨p, us, rfl, t1, r1⟩ := lstH_ok hh rx e1
        simp only [Bool.and_eq_true, decide_eq_true_eq, Nat.ble_eq] at hs
        obtain ⟨h2, h3, h4⟩ := hs
        have hl := r1.length
        obtain ⟨z, mk⟩ := mkL_ok e hh (r1.rep kk.toNat) k
        refine .inr (.inr ⟨p, kk, us, rfl, ry.int_inv, t1, by omega, by omega, ?_, mk⟩)
        rw [sizeLine_eq]
        have : us.length * kk.toNat ≤ 50 * 1000 := Nat.mul_le_mul (by omega) (by omega)
        omega
      · cases e
    · cases e
  · cases e
theorem om_div : OpR X (binaryOp .FloorDiv) (rM X.K X.mg opDiv) := by
  refine OpR.imp op_fdivM fun a b H Q hq => ?_
  obtain ⟨μ, h, x, y, v, h', hh, rx, ry, e, k⟩ := hq
  unfold opDiv at e
  split at e
  · split at e
    · rename_i hs
      cases e
      simp only [Bool.and_eq_true, Bool.not_eq_true', decide_eq_false_iff_not, divOk, Bool.or_eq_true, Nat.blt_eq] at hs
      exact ⟨_, _, rx.int_inv, ry.int_inv, ⟨hs.2, hs.1.elim small_wide id⟩, k.here hh (.int _)⟩
    · cases e
  · cases e
theorem om_mod : OpR X (binaryOp .Mod) (rM X.K X.mg opMod) := by
  refine OpR.imp op_modN fun a b H Q hq => ?_
  obtain ⟨μ, h, x, y, v, h', hh, rx, ry, e, k⟩ := hq
  unfold opMod at e
  split at e
  · split at e
    · rename_i hs
      cases e
      simp only [Bool.not_eq_true', decide_eq_false_iff_not] at hs
      exact ⟨_, _, rx.int_inv, ry.int_inv, hs, k.here hh (.int _)⟩
    · cases e
  · cases e
theorem om_pow : OpR X (binaryOp .Pow) (rM X.K X.mg opPow) := by
  refine OpR.imp op_pow fun a b H Q hq => ?_
  obtain ⟨μ, h, x, y, v, h', hh, rx, ry, e, k⟩ := hq
  unfold opPow at e
  split at e
  · split at e
    · rename_i hs
      cases e
      simp only [Bool.and_eq_true, decide_eq_true_eq] at hs
      obtain ⟨h1, h2, h3⟩ := hs
      obtain ⟨s1, s2⟩ := small_ok h1
      exact ⟨_, _, rx.int_inv, ry.int_inv, ⟨h2, by omega, by omega⟩, k.here hh (.int _)⟩
    · cases e
  · cases e
theorem om_bin (m : Nat) (op : Operator) : OpR X (binaryOp op) (rM X.K X.mg (binop m op)) := by
  cases op with
  | Add => exact om_add m
  | Sub => exact om_sub
  | Mult => exact om_mul m
  | FloorDiv => exact om_div
  | Mod => exact om_mod
  | Pow => exact om_pow
  | _ => exact fun _ _ _ _ _ _ _ _ _ _ _ _ hq => by obtain ⟨_, _, _, _, _, _, _, _, _, e, _⟩ := hq; cases e

/-! ### comparisons -/
theorem eqH_ok {K : PySem.W.Frag} {mg : Str → Option Value} {μ : Mu} {H : Hp} {h : MH} {x y : PV} {a b : V} {c : Bool} (hh : Hh K mg μ H h) (rx : Rep K mg H μ x a) (ry : Rep K mg H μ y b) (e : eqH h x y = some c) :
    ∃ d d', Dp K H a d ∧ Dp K H b d' ∧ SeqAt.shaped d = true ∧ SeqAt.shaped d' = true ∧ c = PyData.eqv d d' := by
  unfold eqH at e
  split at e
  · rename_i d d' e1 e2
    split at e
    · rename_i hs
      rw [Bool.and_eq_true] at hs
      cases e
      exact ⟨d, d', dataH_ok hh rx e1, dataH_ok hh ry e2, hs.1, hs.2, rfl⟩
    · cases e
  · cases e
theorem om_eq (hu : X.A.units + 64 < cLine) : OpR X (compareOp .Eq) (rMB X.K X.mg fun x y h => cmpop .Eq x y h) := by
  refine OpR.imp (op_eqD hu) fun a b H Q hq => ?_
  obtain ⟨μ, h, x, y, c, hh, rx, ry, e, k⟩ := hq
  obtain ⟨d, d', h1, h2, h3, h4, rfl⟩ := eqH_ok hh rx ry e
  exact ⟨d, d', h1, h2, h3, h4, k⟩
theorem om_ne (hu : X.A.units + 64 < cLine) : OpR X (compareOp .NotEq) (rMB X.K X.mg fun x y h => cmpop .NotEq x y h) := by
  refine OpR.imp (op_neD hu) fun a b H Q hq => ?_
  obtain ⟨μ, h, x, y, c, hh, rx, ry, e, k⟩ := hq
  have e' : (eqH h x y).map (!·) = some c := e
  cases q : eqH h x y with
  | none => rw [q] at e'; cases e'
  | some c' =>
    rw [q] at e'
    cases e'
    obtain ⟨d, d', h1, h2, h3, h4, rfl⟩ := eqH_ok hh rx ry q
    exact ⟨d, d', h1, h2, h3, h4, k⟩
theorem om_lt : OpR X (compareOp .Lt) (rMB X.K X.mg fun x y h => cmpop .Lt x y h) := by
  refine OpR.imp op_lt fun a b H Q hq => ?_
  obtain ⟨μ, h, x, y, c, hh, rx, ry, e, k⟩ := hq
  simp only [cmpop] at e
  split at e
  · cases e; exact ⟨_, _, rx.int_inv, ry.int_inv, k⟩
  · cases e
theorem om_le : OpR X (compareOp .LtE) (rMB X.K X.mg fun x y h => cmpop .LtE x y h) := by
  refine OpR.imp op_le fun a b H Q hq => ?_
  obtain ⟨μ, h, x, y, c, hh, rx, ry, e, k⟩ := hq
  simp only [cmpop] at e
  split at e
  · cases e; exact ⟨_, _, rx.int_inv, ry.int_inv, k⟩
  · cases e
theorem om_gt : OpR X (compareOp .Gt) (rMB X.K X.mg fun x y h => cmpop .Gt x y h) := by
  refine OpR.imp op_gt fun a b H Q hq => ?_
  obtain ⟨μ, h, x, y, c, hh, rx, ry, e, k⟩ := hq
  simp only [cmpop] at e
  split at e
  · cases e; exact ⟨_, _, rx.int_inv, ry.int_inv, k⟩
  · cases e
theorem om_ge : OpR X (compareOp .GtE) (rMB X.K X.mg fun x y h => cmpop .GtE x y h) := by
  refine OpR.imp op_ge fun a b H Q hq => ?_
  obtain ⟨μ, h, x, y, c, hh, rx, ry, e, k⟩ := hq
  simp only [cmpop] at e
  split at e
  · cases e; exact ⟨_, _, rx.int_inv, ry.int_inv, k⟩
  · cases e
theorem isNon_ok {K : PySem.W.Frag} {mg : Str → Option Value} {μ : Mu} {H : Hp} {x : PV} {a : V} (r : Rep K mg H μ x a) : decide (a = .non) = isNon x := by
  cases r <;> simp [isNon]
theorem om_is : OpR X (compareOp .Is) (rMB X.K X.mg fun x y h => cmpop .Is x y h) := by
  refine OpR.imp op_isN fun a b H Q hq => ?_
  obtain ⟨μ, h, x, y, c, hh, rx, ry, e, k⟩ := hq
  simp only [cmpop] at e
  split at e
  · cases e
    cases ry
    exact ⟨rfl, by rw [isNon_ok rx]; exact k⟩
  · cases e
theorem om_isnot : OpR X (compareOp .IsNot) (rMB X.K X.mg fun x y h => cmpop .IsNot x y h) := by
  refine OpR.imp op_notN fun a b H Q hq => ?_
  obtain ⟨μ, h, x, y, c, hh, rx, ry, e, k⟩ := hq
  simp only [cmpop] at e
  split at e
  · cases e
    cases ry
    exact ⟨rfl, by rw [isNon_ok rx]; exact k⟩
  · cases e
theorem inH_ok {μ : Mu} {H : Hp} {h : MH} {x y : PV} {a b : V} {c : Bool} (hh : Hh X.K X.mg μ H h) (rx : Rep X.K X.mg H μ x a) (ry : Rep X.K X.mg H μ y b) (e : inH h x y = some c) :
    ∃ d ds, Dp X.K H a d ∧ SeqAt.shaped d = true ∧ c = (ds.any fun z => PyData.eqv z d) ∧ ((Dp X.K H b (.list ds) ∧ SeqAt.shaped (.list ds) = true) ∨ (Dp X.K H b (.tuple ds) ∧ SeqAt.shaped (.tuple ds) = true)) := by
  unfold inH at e
  split at e
  · rename_i d ds e1 e2
    split at e
    · rename_i hs
      rw [Bool.and_eq_true] at hs
      cases e
      exact ⟨d, ds, dataH_ok hh rx e1, hs.1, rfl, .inl ⟨dataH_ok hh ry e2, hs.2⟩⟩
    · cases e
  · rename_i d ds e1 e2
    split at e
    · rename_i hs
      rw [Bool.and_eq_true] at hs
      cases e
      exact ⟨d, ds, dataH_ok hh rx e1, hs.1, rfl, .inr ⟨dataH_ok hh ry e2, hs.2⟩⟩
    · cases e
  · cases e
def rInT (K : PySem.W.Frag) : R2 := fun x y H Q => ∃ d ds, Dp K H x d ∧ Dp K H y (.tuple ds) ∧ SeqAt.shaped d = true ∧ SeqAt.shaped (.tuple ds) = true ∧ Q (.bl (ds.any fun z => PyData.eqv z d)) H
def rNotInT (K : PySem.W.Frag) : R2 := fun x y H Q => ∃ d ds, Dp K H x d ∧ Dp K H y (.tuple ds) ∧ SeqAt.shaped d = true ∧ SeqAt.shaped (.tuple ds) = true ∧ Q (.bl (!ds.any fun z => PyData.eqv z d)) H
theorem op_inT (hu : X.A.units + 65 < cLine) : OpR X (compareOp .In) (rInT X.K) := by
  intro pins s σ H x y v u Q I rx ry h
  obtain ⟨d, ds, hd, he, sd, se, q⟩ := h
  obtain ⟨as, r1⟩ := Dp.reads I d x v hd rx
  obtain ⟨bs, r2⟩ := Dp.reads I (.tuple ds) y u he ry
  exact SeqAt.in_tuple_reads r2 r1 (SeqAt.canLay_of_shaped se) (SeqAt.canLay_of_shaped sd) (room_in_shaped sd hu) ⟨.bl _, H, I, rfl, q⟩
theorem op_notInT (hu : X.A.units + 65 < cLine) : OpR X (compareOp .NotIn) (rNotInT X.K) := by
  intro pins s σ H x y v u Q I rx ry h
  obtain ⟨d, ds, hd, he, sd, se, q⟩ := h
  obtain ⟨as, r1⟩ := Dp.reads I d x v hd rx
  obtain ⟨bs, r2⟩ := Dp.reads I (.tuple ds) y u he ry
  exact SeqAt.notIn_tuple_reads r2 r1 (SeqAt.canLay_of_shaped se) (SeqAt.canLay_of_shaped sd) (room_in_shaped sd hu) ⟨.bl _, H, I, rfl, q⟩
theorem om_in (hu : X.A.units + 65 < cLine) : OpR X (compareOp .In) (rMB X.K X.mg fun x y h => cmpop .In x y h) := by
  refine OpR.imp (OpR.or (op_inD hu) (op_inT hu)) fun a b H Q hq => ?_
  obtain ⟨μ, h, x, y, c, hh, rx, ry, e, k⟩ := hq
  obtain ⟨d, ds, h1, h2, rfl, h3 | h3⟩ := inH_ok hh rx ry e
  · exact .inl ⟨d, ds, h1, h3.1, h2, h3.2, k⟩
  · exact .inr ⟨d, ds, h1, h3.1, h2, h3.2, k⟩
theorem om_notin (hu : X.A.units + 65 < cLine) : OpR X (compareOp .NotIn) (rMB X.K X.mg fun x y h => cmpop .NotIn x y h) := by
  refine OpR.imp (OpR.or (op_notInD hu) (op_notInT hu)) fun a b H Q hq => ?_
  obtain ⟨μ, h, x, y, c, hh, rx, ry, e, k⟩ := hq
  have e' : (inH h x y).map (!·) = some c := e
  cases q : inH h x y with
  | none => rw [q] at e'; cases e'
  | some c' =>
    rw [q] at e'
    cases e'
    obtain ⟨d, ds, h1, h2, rfl, h3 | h3⟩ := inH_ok hh rx ry q
    · exact .inl ⟨d, ds, h1, h3.1, h2, h3.2, k⟩
    · exact .inr ⟨d, ds, h1, h3.1, h2, h3.2, k⟩
theorem om_cmp (hu : X.A.units + 65 < cLine) (op : CmpOp) : OpR X (compareOp op) (rMB X.K X.mg fun x y h => cmpop op x y h) := by
  cases op with
  | Eq => exact om_eq (by omega)
  | NotEq => exact om_ne (by omega)
  | Lt => exact om_lt
  | LtE => exact om_le
  | Gt => exact om_gt
  | GtE => exact om_ge
  | Is => exact om_is
  | IsNot => exact om_isnot
  | In => exact om_in hu
  | NotIn => exact om_notin hu
end
end Mn
-- text MnCall
/-! Mn: built-in functions -/
namespace Mn
open PySem PySem.Spec L2 PyProof.Rows

section
variable {K : PySem.W.Frag} {mg : Str → Option Value} {H : Hp} {μ : Mu}
theorem RepAll.one {x : PV} {us : List V} (r : RepAll K mg H μ [x] us) : ∃ u, us = [u] ∧ Rep K mg H μ x u := by
  cases r with
  | cons r t => cases t; exact ⟨_, rfl, r⟩
theorem RepAll.two {x y : PV} {us : List V} (r : RepAll K mg H μ [x, y] us) : ∃ u w, us = [u, w] ∧ Rep K mg H μ x u ∧ Rep K mg H μ y w := by
  cases r with
  | cons r t => obtain ⟨w, rfl, r2⟩ := t.one; exact ⟨_, _, rfl, r, r2⟩
theorem sumI_ok : ∀ {xs : List PV} {us : List V} {s : Int}, RepAll K mg H μ xs us → sumI xs = some s → ∃ ns : List Int, us = ns.map V.int ∧ ns.sum = s
  | _, _, _, .nil, e => by cases e; exact ⟨[], rfl, rfl⟩
  | x :: xs, _, s, .cons r t, e => by
    cases r with
    | int i =>
      have e' : (match sumI xs with | some s => some (i + s) | none => none) = some s := e
      cases q : sumI xs with
      | none => rw [q] at e'; cases e'
      | some s' =>
        rw [q] at e'
        cases e'
        obtain ⟨ns, rfl, rfl⟩ := sumI_ok t q
        exact ⟨i :: ns, rfl, by rw [List.sum_cons]⟩
    | _ => cases e
theorem boolsOf_ok : ∀ {xs : List PV} {us : List V} {s : List Bool}, RepAll K mg H μ xs us → boolsOf xs = some s → us = s.map V.bl
  | _, _, _, .nil, e => by cases e; rfl
  | x :: xs, _, s, .cons r t, e => by
    cases r with
    | bl i =>
      have e' : (match boolsOf xs with | some s => some (i :: s) | none => none) = some s := e
      cases q : boolsOf xs with
      | none => rw [q] at e'; cases e'
      | some s' =>
        rw [q] at e'
        cases e'
        rw [boolsOf_ok t q]
        rfl
    | _ => cases e
theorem intsOf_ok : ∀ {xs : List PV} {us : List V} {s : List Int}, RepAll K mg H μ xs us → intsOf xs = some s → us = s.map V.int
  | _, _, _, .nil, e => by cases e; rfl
  | x :: xs, _, s, .cons r t, e => by
    cases r with
    | int i =>
      have e' : (match intsOf xs with | some s => some (i :: s) | none => none) = some s := e
      cases q : intsOf xs with
      | none => rw [q] at e'; cases e'
      | some s' =>
        rw [q] at e'
        cases e'
        rw [intsOf_ok t q]
        rfl
    | _ => cases e
end
section
variable {X : Cx}
theorem cm_len : CallR X (.builtin "len") (rMC X.K X.mg bLen) := by
  refine CallR.imp call_len_seq fun us H Q hq => ?_
  obtain ⟨μ, h, xs, v, h', hh, r, e, k⟩ := hq
  unfold bLen at e
  split at e
  · obtain ⟨u, rfl, r1⟩ := r.one
    split at e
    · rename_i ys e1
      cases e
      obtain ⟨p, ws, rfl, hs, r2⟩ := seqH_ok hh r1 e1
      exact ⟨p, ws, rfl, hs, by rw [← r2.length]; exact k.here hh (.int _)⟩
    · cases e
  · cases e
theorem cm_abs : CallR X (.builtin "abs") (rMC X.K X.mg bAbs) := by
  refine CallR.imp call_abs fun us H Q hq => ?_
  obtain ⟨μ, h, xs, v, h', hh, r, e, k⟩ := hq
  unfold bAbs at e
  split at e
  · obtain ⟨u, rfl, r1⟩ := r.one
    cases e
    exact ⟨_, by rw [r1.int_inv], k.here hh (.int _)⟩
  · cases e
theorem cm_int : CallR X (.type "int") (rMC X.K X.mg bInt) := by
  refine CallR.imp call_int1 fun us H Q hq => ?_
  obtain ⟨μ, h, xs, v, h', hh, r, e, k⟩ := hq
  unfold bInt at e
  split at e
  · obtain ⟨u, rfl, r1⟩ := r.one
    cases e
    exact .inl ⟨_, by rw [r1.int_inv], k.here hh (.int _)⟩
  · obtain ⟨u, rfl, r1⟩ := r.one
    cases e
    exact .inr ⟨_, by rw [r1.bl_inv], k.here hh (.int _)⟩
  · cases e
theorem cm_min (hc : X.calm = true) : CallR X (.builtin "min") (rMC X.K X.mg bMin) := by
  refine CallR.imp (call_min2 hc) fun us H Q hq => ?_
  obtain ⟨μ, h, xs, v, h', hh, r, e, k⟩ := hq
  unfold bMin at e
  split at e
  · obtain ⟨u, w, rfl, r1, r2⟩ := r.two
    cases e
    exact ⟨_, _, by rw [r1.int_inv, r2.int_inv], k.here hh (.int _)⟩
  · cases e
theorem cm_gcd : CallR X (.builtin "math.gcd") (rMC X.K X.mg bGcd) := by
  refine CallR.imp cr_gcd fun us H Q hq => ?_
  obtain ⟨μ, h, xs, v, h', hh, r, e, k⟩ := hq
  unfold bGcd at e
  split at e
  · obtain ⟨u, w, rfl, r1, r2⟩ := r.two
    cases e
    exact ⟨_, _, by rw [r1.int_inv, r2.int_inv], k.here hh (.int _)⟩
  · cases e
theorem cm_sum (hc : X.calm = true) : CallR X (.builtin "sum") (rMC X.K X.mg bSum) := by
  refine CallR.imp (cr_sum hc) fun us H Q hq => ?_
  obtain ⟨μ, h, xs, v, h', hh, r, e, k⟩ := hq
  unfold bSum at e
  split at e
  · obtain ⟨u, rfl, r1⟩ := r.one
    split at e
    · rename_i ys e1
      cases q : sumI ys with
      | none => rw [q] at e; cases e
      | some s =>
        rw [q] at e
        cases e
        obtain ⟨p, ws, rfl, hs, r2⟩ := lstH_ok hh r1 e1
        obtain ⟨ns, rfl, rfl⟩ := sumI_ok r2 q
        exact ⟨p, ns, rfl, .of hs, k.here hh (.int _)⟩
    · cases e
  · cases e
theorem cm_all (hc : X.calm = true) : CallR X (.builtin "all") (rMC X.K X.mg bAll) := by
  refine CallR.imp (cr_all hc) fun us H Q hq => ?_
  obtain ⟨μ, h, xs, v, h', hh, r, e, k⟩ := hq
  unfold bAll at e
  split at e
  · obtain ⟨u, rfl, r1⟩ := r.one
    split at e
    · rename_i ys e1
      cases q : boolsOf ys with
      | none => rw [q] at e; cases e
      | some s =>
        rw [q] at e
        cases e
        obtain ⟨p, ws, rfl, hs, r2⟩ := lstH_ok hh r1 e1
        have := boolsOf_ok r2 q
        subst this
        exact ⟨p, s, rfl, .of hs, k.here hh (.bl _)⟩
    · cases e
  · cases e
theorem cm_any (hc : X.calm = true) : CallR X (.builtin "any") (rMC X.K X.mg bAny) := by
  refine CallR.imp (cr_any hc) fun us H Q hq => ?_
  obtain ⟨μ, h, xs, v, h', hh, r, e, k⟩ := hq
  unfold bAny at e
  split at e
  · obtain ⟨u, rfl, r1⟩ := r.one
    split at e
    · rename_i ys e1
      cases q : boolsOf ys with
      | none => rw [q] at e; cases e
      | some s =>
        rw [q] at e
        cases e
        obtain ⟨p, ws, rfl, hs, r2⟩ := lstH_ok hh r1 e1
        have := boolsOf_ok r2 q
        subst this
        exact ⟨p, s, rfl, .of hs, k.here hh (.bl _)⟩
    · cases e
  · cases e
theorem cm_tuple : CallR X (.type "tuple") (rMC X.K X.mg bTuple) := by
  refine CallR.imp call_tuple_of fun us H Q hq => ?_
  obtain ⟨μ, h, xs, v, h', hh, r, e, k⟩ := hq
  unfold bTuple at e
  split at e
  · obtain ⟨u, rfl, r1⟩ := r.one
    obtain ⟨p, us, rfl, t1, r2⟩ := r1.tup_inv
    cases e
    exact ⟨p, us, rfl, .inr ⟨t1.sq, k.here hh (.tup t1 r2)⟩⟩
  · obtain ⟨u, rfl, r1⟩ := r.one
    split at e
    · rename_i ys e1
      cases e
      obtain ⟨p, ws, rfl, hs, r2⟩ := lstH_ok hh r1 e1
      refine ⟨p, ws, rfl, .inl ⟨.of hs, fun q nq => ?_⟩⟩
      obtain ⟨E, h2', out⟩ := hh.new (o := .tup ws) nq
      exact k μ _ _ E h2' (.tup (.inl ⟨.inl upd_same, out⟩) (r2.ext E))
    · cases e
  · cases e
theorem cm_list (m : Nat) : CallR X (.type "list") (rMC X.K X.mg (bList m)) := by
  refine CallR.imp call_list_of fun us H Q hq => ?_
  obtain ⟨μ, h, xs, v, h', hh, r, e, k⟩ := hq
  unfold bList at e
  split at e
  · obtain ⟨u, rfl, r1⟩ := r.one
    split at e
    · rename_i ys e1
      obtain ⟨p, ws, rfl, hs, r2⟩ := seqH_ok hh r1 e1
      exact ⟨p, ws, rfl, hs, (mkL_ok e hh r2 k).2⟩
    · cases e
  · cases e

/-! ### isinstance -/
theorem TyX.tup {K : PySem.W.Frag} {H : Hp} {μ : Mu} {a : Addr} {us : List V} (t : TupA K H μ a us) : TyX K H (.ref a) (.type "tuple") := by
  rcases t with ⟨h | ⟨o, h⟩, _⟩ | ⟨o, its, n, h, c, _⟩
  · exact .base (.tup h)
  · exact .fTuple h
  · exact .kTuple h c
theorem TyX.fix {K : PySem.W.Frag} {H : Hp} {μ : Mu} {a : Addr} {us : List V} (t : Fix K H μ a us) : TyX K H (.ref a) (.type "list") := by
  rcases t with ⟨⟨o, h⟩, _⟩ | ⟨o, its, n, h, c, _⟩
  · exact .base (.frz h)
  · exact .kList h c
/-- the name of a value's type -/
def tyName : PV → String
  | .non => "NoneType"
  | .bl _ => "bool"
  | .int _ => "int"
  | .str _ => "str"
  | .tup _ => "tuple"
  | .fn _ => "function"
  | _ => "list"
theorem tyName_ok {K : PySem.W.Frag} {mg : Str → Option Value} {H : Hp} {μ : Mu} {h : MH} {x : PV} {a : V} (hh : Hh K mg μ H h) (r : Rep K mg H μ x a) (hf : tyName x ≠ "function") : TyX K H a (.type (tyName x)) := by
  cases r with
  | non => exact .base .non
  | bl b => exact .base (.bl b)
  | int b => exact .base (.int b)
  | str b => exact .base (.str b)
  | fn q => exact absurd rfl hf
  | tup t r => exact TyX.tup t
  | lst h1 h2 h3 => exact .base (.lst h1)
  | scr t r => exact TyX.fix t
  | ref q =>
    obtain ⟨us, hu⟩ := hh.trk.lst _ (List.mem_of_getElem? q)
    exact .base (.lst hu)
/-- the types that isinstance is asked for -/
def knownTy (T : String) : Bool := T == "int" || (T == "bool" || (T == "str" || (T == "tuple" || T == "list")))
def kit1 (x : PV) (T : String) : Bool := tyName x == T || (tyName x == "bool" && T == "int")
theorem kit_int (T : String) (h : knownTy T = true) : kitB "int" T = some ("int" == T) := by
  simp only [knownTy, Bool.or_eq_true, beq_iff_eq] at h
  rcases h with rfl | rfl | rfl | rfl | rfl <;> decide +kernel
theorem kit_bool (T : String) (h : knownTy T = true) : kitB "bool" T = some ("bool" == T || T == "int") := by
  simp only [knownTy, Bool.or_eq_true, beq_iff_eq] at h
  rcases h with rfl | rfl | rfl | rfl | rfl <;> decide +kernel
theorem kit_str (T : String) (h : knownTy T = true) : kitB "str" T = some ("str" == T) := by
  simp only [knownTy, Bool.or_eq_true, beq_iff_eq] at h
  rcases h with rfl | rfl | rfl | rfl | rfl <;> decide +kernel
theorem kit_tuple (T : String) (h : knownTy T = true) : kitB "tuple" T = some ("tuple" == T) := by
  simp only [knownTy, Bool.or_eq_true, beq_iff_eq] at h
  rcases h with rfl | rfl | rfl | rfl | rfl <;> decide +kernel
theorem kit_list (T : String) (h : knownTy T = true) : kitB "list" T = some ("list" == T) := by
  simp only [knownTy, Bool.or_eq_true, beq_iff_eq] at h
  rcases h with rfl | rfl | rfl | rfl | rfl <;> decide +kernel
theorem kit_none (T : String) (h : knownTy T = true) : kitB "NoneType" T = some ("NoneType" == T) := by
  simp only [knownTy, Bool.or_eq_true, beq_iff_eq] at h
  rcases h with rfl | rfl | rfl | rfl | rfl <;> decide +kernel
theorem kit1_ok {x : PV} (hf : tyName x ≠ "function") {T : String} (h : knownTy T = true) : kitB (tyName x) T = some (kit1 x T) := by
  cases x <;> first
    | exact absurd rfl hf
    | (simp only [tyName, kit1]; first | rw [kit_int T h] | rw [kit_bool T h] | rw [kit_str T h] | rw [kit_tuple T h] | rw [kit_list T h] | rw [kit_none T h]); simp
end
end Mn
-- text MnExpr
/-! Mn: expressions -/
namespace Mn
open PySem PySem.Spec L2 PyProof.Rows

/-- an expression does what its denotation says -/
def tD (K : PySem.W.Frag) (mg : Str → Option Value) (d : Den) : TE := fun σ H Q =>
  ∃ μ env h v h', Hh K mg μ H h ∧ Ev K mg μ H σ env ∧ d env h = some (v, h') ∧ Go K mg μ H v h' Q
def tTd (K : PySem.W.Frag) (mg : Str → Option Value) (d : TDen) : TT := fun σ H Q =>
  ∃ μ env h c h', Hh K mg μ H h ∧ Ev K mg μ H σ env ∧ d env h = some (c, h') ∧ ∀ (μ' : Mu) (H' : Hp), Ext μ H μ' H' → Hh K mg μ' H' h' → Q c H'
def tLd (K : PySem.W.Frag) (mg : Str → Option Value) (d : LDen) : TA := fun σ H Q =>
  ∃ μ env h vs h', Hh K mg μ H h ∧ Ev K mg μ H σ env ∧ d env h = some (vs, h') ∧ ∀ (μ' : Mu) (H' : Hp) (us : List V), Ext μ H μ' H' → Hh K mg μ' H' h' → RepAll K mg H' μ' vs us → Q us H'
abbrev ME (X : Cx) (e : Expr) (d : Den) : Prop := PE X e (tD X.K X.mg d)
abbrev MT (X : Cx) (e : Expr) (d : TDen) : Prop := PT X e (tTd X.K X.mg d)
abbrev ML (X : Cx) (es : List Expr) (d : LDen) : Prop := PA X es (tLd X.K X.mg d)
theorem _root_.L2.PE.imp {X : Cx} {e : Expr} {t t' : TE} (p : PE X e t) (h : ∀ σ H Q, t' σ H Q → t σ H Q) : PE X e t' := ⟨fun pins s σ H Q I q => p.run pins s σ H Q I (h σ H Q q)⟩
theorem _root_.L2.PT.imp {X : Cx} {e : Expr} {t t' : TT} (p : PT X e t) (h : ∀ σ H Q, t' σ H Q → t σ H Q) : PT X e t' := ⟨fun pins s σ H Q I q => p.run pins s σ H Q I (h σ H Q q)⟩
theorem _root_.L2.PA.imp {X : Cx} {e : List Expr} {t t' : TA} (p : PA X e t) (h : ∀ σ H Q, t' σ H Q → t σ H Q) : PA X e t' := ⟨fun pos pins s σ H Q I q => p.run pos pins s σ H Q I (h σ H Q q)⟩

section
variable {K : PySem.W.Frag} {mg : Str → Option Value} {H : Hp} {μ : Mu} {h h1 h2 : MH} {σ : L2.St} {env : Env} {x y : PV}
/-- two expressions in a row -/
theorem two {da db : Den} (hh : Hh K mg μ H h) (ev : Ev K mg μ H σ env) (e1 : da env h = some (x, h1)) (e2 : db env h1 = some (y, h2)) {R : V → V → Hp → Prop}
    (k : ∀ (μ' : Mu) (H' : Hp) (a b : V), Ext μ H μ' H' → Hh K mg μ' H' h2 → Rep K mg H' μ' x a → Rep K mg H' μ' y b → R a b H') :
    tD K mg da σ H fun a H1 => tD K mg db σ H1 fun b H2 => R a b H2 :=
  ⟨μ, env, h, x, h1, hh, ev, e1, fun μ1 H1 a E1 hh1 r1 => ⟨μ1, env, h1, y, h2, hh1, ev.ext E1, e2, fun μ2 H2 b E2 hh2 r2 => k μ2 H2 a b (E1.trans E2) hh2 (r1.ext E2) r2⟩⟩
end

section
variable {X : Cx} {a b c : Expr} {da db dc : Den} {pos : Pos}
theorem me_c {e : Expr} {v : PV} {u : V} (h : PE X e (tC u)) (r : ∀ H μ, Rep X.K X.mg H μ v u) : ME X e (dC v) := by
  refine h.imp fun σ H Q hq => ?_
  obtain ⟨μ, env, h, w, h', hh, ev, e, k⟩ := hq
  cases e
  exact k.here hh (r _ _)
theorem me_var {i : Nat} {x : Str} (hN : X.N[i]? = some x) (hv : Vis X.env.scope x) (hd : (x == ("__debug__" : Str)) = false) (hcd : (x == ("__classdict__" : Str)) = false) : ME X (.Name x pos) (dVar i) := by
  refine (pe_var hN hv hd hcd).imp fun σ H Q hq => ?_
  obtain ⟨μ, env, h, w, h', hh, ev, e, k⟩ := hq
  unfold dVar at e
  split at e
  · rename_i v hi
    cases e
    obtain ⟨u, h1, h2⟩ := ev.get _ _ hi
    exact ⟨u, h1, k.here hh h2⟩
  · cases e
theorem me_bin (m : Nat) {op : Operator} (ha : ME X a da) (hb : ME X b db) : ME X (.BinOp a op b pos) (dBin m op da db) := by
  refine (pe_op (om_bin m op) ha hb).imp fun σ H Q hq => ?_
  obtain ⟨μ, env, h, w, h', hh, ev, e, k⟩ := hq
  unfold dBin at e
  split at e
  · rename_i x h1 e1
    split at e
    · rename_i y h2 e2
      exact two hh ev e1 e2 fun μ' H' a b E hh' ra rb => ⟨μ', h2, x, y, w, h', hh', ra, rb, e, fun μ2 H2 u E2 => k μ2 H2 u (E.trans E2)⟩
    · cases e
  · cases e
theorem me_neg (ha : ME X a da) : ME X (.UnaryOp .USub a pos) (dNeg da) := by
  refine (pe_un un_neg ha).imp fun σ H Q hq => ?_
  obtain ⟨μ, env, h, w, h', hh, ev, e, k⟩ := hq
  unfold dNeg at e
  split at e
  · rename_i i h1 e1
    cases e
    exact ⟨μ, env, h, _, _, hh, ev, e1, fun μ1 H1 a E1 hh1 r1 => ⟨i, r1.int_inv, k μ1 H1 _ E1 hh1 (.int _)⟩⟩
  · cases e
theorem me_not (ha : ME X a da) : ME X (.UnaryOp .Not a pos) (dNot da) := by
  refine (pe_not ha).imp fun σ H Q hq => ?_
  obtain ⟨μ, env, h, w, h', hh, ev, e, k⟩ := hq
  unfold dNot at e
  split at e
  · rename_i i h1 e1
    cases e
    exact ⟨μ, env, h, _, _, hh, ev, e1, fun μ1 H1 a E1 hh1 r1 => ⟨i, r1.bl_inv, k μ1 H1 _ E1 hh1 (.bl _)⟩⟩
  · cases e
theorem me_cmp (hu : X.A.units + 65 < cLine) {op : CmpOp} (ha : ME X a da) (hb : ME X b db) (hm : behindInMarks op b = false) : ME X (.Compare a [op] [b] pos) (dCmp op da db) := by
  refine (pe_cmpR (om_cmp hu op) ha hb hm).imp fun σ H Q hq => ?_
  obtain ⟨μ, env, h, w, h', hh, ev, e, k⟩ := hq
  unfold dCmp at e
  split at e
  · rename_i x h1 e1
    split at e
    · rename_i y h2 e2
      cases q : cmpop op x y h2 with
      | none => rw [q] at e; cases e
      | some c =>
        rw [q] at e
        cases e
        exact two hh ev e1 e2 fun μ' H' a b E hh' ra rb => ⟨μ', _, x, y, c, hh', ra, rb, q, k μ' H' _ E hh' (.bl _)⟩
    · cases e
  · cases e
theorem mt_cmp (hu : X.A.units + 65 < cLine) {op : CmpOp} (ha : ME X a da) (hb : ME X b db) (hm : behindInMarks op b = false) : MT X (.Compare a [op] [b] pos) (tVal (dCmp op da db)) := by
  refine (pt_cmpR (om_cmp hu op) ha hb hm).imp fun σ H Q hq => ?_
  obtain ⟨μ, env, h, w, h', hh, ev, e, k⟩ := hq
  unfold tVal at e
  split at e
  · rename_i c0 h0 e0
    cases e
    unfold dCmp at e0
    split at e0
    · rename_i x h1 e1
      split at e0
      · rename_i y h2 e2
        cases q : cmpop op x y h2 with
        | none => rw [q] at e0; cases e0
        | some c =>
          rw [q] at e0
          cases e0
          exact two hh ev e1 e2 fun μ' H' a b E hh' ra rb => ⟨μ', _, x, y, _, hh', ra, rb, q, _, rfl, k μ' H' E hh'⟩
      · cases e0
    · cases e0
  · cases e
theorem chain_ok {op op' : CmpOp} {σ : L2.St} {H : Hp} {Q : VK} {μ : Mu} {env : Env} {h h' : MH} {w : PV} (hh : Hh X.K X.mg μ H h) (ev : Ev X.K X.mg μ H σ env) (e : dChain op op' da db dc env h = some (w, h'))
    (k : Go X.K X.mg μ H w h' Q) : tChain (rMB X.K X.mg fun x y h => cmpop op x y h) (rMB X.K X.mg fun x y h => cmpop op' x y h) (tD X.K X.mg da) (tD X.K X.mg db) (tD X.K X.mg dc) σ H Q := by
  unfold dChain at e
  split at e
  · rename_i x h1 e1
    split at e
    · rename_i y h2 e2
      split at e
      · rename_i q1
        split at e
        · rename_i z h3 e3
          cases q2 : cmpop op' y z h3 with
          | none => rw [q2] at e; cases e
          | some c =>
            rw [q2] at e
            cases e
            refine two hh ev e1 e2 fun μ1 H1 a b E hh1 ra rb => ⟨μ1, _, x, y, true, hh1, ra, rb, q1, true, rfl, ?_⟩
            show tD X.K X.mg dc σ H1 _
            exact ⟨μ1, env, _, _, _, hh1, ev.ext E, e3, fun μ2 H2 c2 E2 hh2 rc => ⟨μ2, _, y, z, c, hh2, rb.ext E2, rc, q2, k μ2 H2 _ (E.trans E2) hh2 (.bl _)⟩⟩
        · cases e
      · rename_i q1
        cases e
        refine two hh ev e1 e2 fun μ1 H1 a b E hh1 ra rb => ⟨μ1, _, x, y, false, hh1, ra, rb, q1, false, rfl, ?_⟩
        exact k μ1 H1 _ E hh1 (.bl _)
      · cases e
    · cases e
  · cases e
theorem me_chain (hu : X.A.units + 65 < cLine) {op op' : CmpOp} (ha : ME X a da) (hb : ME X b db) (hc : ME X c dc) (hm : behindInMarks op' c = false) : ME X (.Compare a [op, op'] [b, c] pos) (dChain op op' da db dc) := by
  refine (pe_chain (om_cmp hu op) (om_cmp hu op') ha hb hc (show lastMarks [op, op'] [b, c] = false from hm)).imp fun σ H Q hq => ?_
  obtain ⟨μ, env, h, w, h', hh, ev, e, k⟩ := hq
  exact chain_ok hh ev e k
theorem mt_chain (hu : X.A.units + 65 < cLine) {op op' : CmpOp} (ha : ME X a da) (hb : ME X b db) (hc : ME X c dc) (hm : behindInMarks op' c = false) : MT X (.Compare a [op, op'] [b, c] pos) (tVal (dChain op op' da db dc)) := by
  refine (pt_chain (om_cmp hu op) (om_cmp hu op') ha hb hc (show lastMarks [op, op'] [b, c] = false from hm)).imp fun σ H Q hq => ?_
  obtain ⟨μ, env, h, w, h', hh, ev, e, k⟩ := hq
  unfold tVal at e
  split at e
  · rename_i c0 h0 e0
    cases e
    exact chain_ok hh ev e0 fun μ1 H1 u E1 hh1 r1 => ⟨_, r1.bl_inv, k μ1 H1 E1 hh1⟩
  · cases e
theorem mt_val (ha : ME X a da) (he : ∀ whole, isTrue a X.env whole = (do let v ← whole; standAt a.pos; holding [v] (truthy v))) : MT X a (tVal da) := by
  refine (pt_val ha he).imp fun σ H Q hq => ?_
  obtain ⟨μ, env, h, w, h', hh, ev, e, k⟩ := hq
  unfold tVal at e
  split at e
  · rename_i c0 h0 e0
    cases e
    exact ⟨μ, env, h, _, _, hh, ev, e0, fun μ1 H1 a E1 hh1 r1 => ⟨_, r1.bl_inv, k μ1 H1 E1 hh1⟩⟩
  · cases e
end
end Mn
-- text MnExpr2
/-! Mn: tests, lists of expressions, displays, subscripts, calls -/
namespace Mn
open PySem PySem.Spec L2 PyProof.Rows
section
variable {X : Cx} {a b c : Expr} {da db dc : Den} {ta tb tc : TDen} {pos : Pos} {rest es : List Expr}
/-! ### tests -/
theorem mt_not (ha : MT X a ta) : MT X (.UnaryOp .Not a pos) (tNot ta) := by
  refine (pt_not ha).imp fun σ H Q hq => ?_
  obtain ⟨μ, env, h, w, h', hh, ev, e, k⟩ := hq
  unfold Mn.tNot at e
  split at e
  · rename_i c0 h0 e0
    cases e
    exact ⟨μ, env, h, _, _, hh, ev, e0, k⟩
  · cases e
/-- a BoolOp as a test, whatever stands for it as a whole -/
abbrev MW (X : Cx) (e : Expr) (d : TDen) : Prop := PW X e (tTd X.K X.mg d)
theorem _root_.L2.PW.imp {X : Cx} {e : Expr} {t t' : TT} (p : PW X e t) (h : ∀ σ H Q, t' σ H Q → t σ H Q) : PW X e t' := ⟨fun w pins s σ H Q I q => p.run w pins s σ H Q I (h σ H Q q)⟩
theorem mw_and (ha : MT X a ta) (hb : MW X (.BoolOp .And (b :: rest) pos) tb) : MW X (.BoolOp .And (a :: b :: rest) pos) (tAnd ta tb) := by
  refine (pw_and ha hb).imp fun σ H Q hq => ?_
  obtain ⟨μ, env, h, w, h', hh, ev, e, k⟩ := hq
  unfold Mn.tAnd at e
  split at e
  · rename_i h0 e0
    exact ⟨μ, env, h, _, _, hh, ev, e0, fun μ1 H1 E1 hh1 => ⟨μ1, env, _, _, _, hh1, ev.ext E1, e, fun μ2 H2 E2 hh2 => k μ2 H2 (E1.trans E2) hh2⟩⟩
  · rename_i h0 e0
    cases e
    exact ⟨μ, env, h, _, _, hh, ev, e0, fun μ1 H1 E1 hh1 => k μ1 H1 E1 hh1⟩
  · cases e
theorem mw_or (ha : MT X a ta) (hb : MW X (.BoolOp .Or (b :: rest) pos) tb) : MW X (.BoolOp .Or (a :: b :: rest) pos) (tOr ta tb) := by
  refine (pw_or ha hb).imp fun σ H Q hq => ?_
  obtain ⟨μ, env, h, w, h', hh, ev, e, k⟩ := hq
  unfold Mn.tOr at e
  split at e
  · rename_i h0 e0
    cases e
    exact ⟨μ, env, h, _, _, hh, ev, e0, fun μ1 H1 E1 hh1 => k μ1 H1 E1 hh1⟩
  · rename_i h0 e0
    exact ⟨μ, env, h, _, _, hh, ev, e0, fun μ1 H1 E1 hh1 => ⟨μ1, env, _, _, _, hh1, ev.ext E1, e, fun μ2 H2 E2 hh2 => k μ2 H2 (E1.trans E2) hh2⟩⟩
  · cases e
theorem mt_if {t : Expr} {tt : TDen} (ht : MT X t tt) (ha : MT X a ta) (hb : MT X b tb) : MT X (.IfExp t a b pos) (tIf tt ta tb) := by
  refine ⟨fun pins s σ H Q I hq => ?_⟩
  obtain ⟨μ, env, h, w, h', hh, ev, e, k⟩ := hq
  unfold Mn.tIf at e
  have run : ∀ {c : Bool} {h1 : MH}, tt env h = some (c, h1) → (∀ (μ1 : Mu) (H1 : Hp), Ext μ H μ1 H1 → Hh X.K X.mg μ1 H1 h1 → if c = true then tTd X.K X.mg ta σ H1 Q else tTd X.K X.mg tb σ H1 Q) →
      wpAny (model X.prog X.w) X.A (isTrue (.IfExp t a b pos) X.env (eval (.IfExp t a b pos) X.env)) (TP X pins σ Q) X.xe s := fun {c h1} e1 q => by
    refine isTrue_IfExp (thn (ht.run pins s σ H (fun c H1 => if c = true then tTd X.K X.mg ta σ H1 Q else tTd X.K X.mg tb σ H1 Q) I ⟨μ, env, h, _, _, hh, ev, e1, q⟩) fun d s1 ⟨H1, I1, q1⟩ => ?_)
    cases d with
    | true => exact ha.run pins s1 σ H1 Q I1 q1
    | false => exact hb.run pins s1 σ H1 Q I1 q1
  split at e
  · rename_i h0 e0
    exact run e0 fun μ1 H1 E1 hh1 => ⟨μ1, env, _, _, _, hh1, ev.ext E1, e, fun μ2 H2 E2 hh2 => k μ2 H2 (E1.trans E2) hh2⟩
  · rename_i h0 e0
    exact run e0 fun μ1 H1 E1 hh1 => ⟨μ1, env, _, _, _, hh1, ev.ext E1, e, fun μ2 H2 E2 hh2 => k μ2 H2 (E1.trans E2) hh2⟩
  · cases e
/-! ### and, or, if as values -/
theorem me_and (ha : ME X a da) (hb : ME X (.BoolOp .And (b :: rest) pos) db) : ME X (.BoolOp .And (a :: b :: rest) pos) (dAnd da db) := by
  refine (pe_and ha hb).imp fun σ H Q hq => ?_
  obtain ⟨μ, env, h, w, h', hh, ev, e, k⟩ := hq
  unfold dAnd at e
  split at e
  · rename_i h0 e0
    exact ⟨μ, env, h, _, _, hh, ev, e0, fun μ1 H1 a1 E1 hh1 r1 => ⟨true, r1.bl_inv, ⟨μ1, env, _, _, _, hh1, ev.ext E1, e, fun μ2 H2 u E2 hh2 r2 => k μ2 H2 u (E1.trans E2) hh2 r2⟩⟩⟩
  · rename_i h0 e0
    cases e
    exact ⟨μ, env, h, _, _, hh, ev, e0, fun μ1 H1 a1 E1 hh1 r1 => ⟨false, r1.bl_inv, k μ1 H1 _ E1 hh1 (.bl _)⟩⟩
  · cases e
theorem me_or (ha : ME X a da) (hb : ME X (.BoolOp .Or (b :: rest) pos) db) : ME X (.BoolOp .Or (a :: b :: rest) pos) (dOr da db) := by
  refine (pe_orT ha hb).imp fun σ H Q hq => ?_
  obtain ⟨μ, env, h, w, h', hh, ev, e, k⟩ := hq
  unfold dOr at e
  split at e
  · rename_i h0 e0
    cases e
    exact ⟨μ, env, h, _, _, hh, ev, e0, fun μ1 H1 a1 E1 hh1 r1 => ⟨true, by rw [r1.bl_inv]; rfl, k μ1 H1 a1 E1 hh1 r1⟩⟩
  · rename_i h0 e0
    exact ⟨μ, env, h, _, _, hh, ev, e0, fun μ1 H1 a1 E1 hh1 r1 => ⟨false, by rw [r1.bl_inv]; rfl, ⟨μ1, env, _, _, _, hh1, ev.ext E1, e, fun μ2 H2 u E2 hh2 r2 => k μ2 H2 u (E1.trans E2) hh2 r2⟩⟩⟩
  · rename_i v h0 _ _ e0
    split at e
    · rename_i e1
      refine ⟨μ, env, h, _, _, hh, ev, e0, fun μ1 H1 a1 E1 hh1 r1 => ⟨false, ?_, ⟨μ1, env, _, _, _, hh1, ev.ext E1, e, fun μ2 H2 u E2 hh2 r2 => k μ2 H2 u (E1.trans E2) hh2 r2⟩⟩⟩
      obtain ⟨p, us, rfl, q, r⟩ := lstH_ok hh1 r1 e1
      cases r
      exact .inl ⟨[], .of q, rfl⟩
    · rename_i x xs e1
      cases e
      refine ⟨μ, env, h, _, _, hh, ev, e0, fun μ1 H1 a1 E1 hh1 r1 => ⟨true, ?_, k μ1 H1 a1 E1 hh1 r1⟩⟩
      obtain ⟨p, us, rfl, q, r⟩ := lstH_ok hh1 r1 e1
      cases r
      exact .inl ⟨_, .of q, rfl⟩
    · cases e
  · cases e
theorem me_if {t : Expr} {tt : TDen} (ht : MT X t tt) (ha : ME X a da) (hb : ME X b db) : ME X (.IfExp t a b pos) (dIf tt da db) := by
  refine (pe_ifExp ht ha hb).imp fun σ H Q hq => ?_
  obtain ⟨μ, env, h, w, h', hh, ev, e, k⟩ := hq
  unfold dIf at e
  split at e
  · rename_i h0 e0
    exact ⟨μ, env, h, _, _, hh, ev, e0, fun μ1 H1 E1 hh1 => ⟨μ1, env, _, _, _, hh1, ev.ext E1, e, fun μ2 H2 u E2 hh2 r2 => k μ2 H2 u (E1.trans E2) hh2 r2⟩⟩
  · rename_i h0 e0
    exact ⟨μ, env, h, _, _, hh, ev, e0, fun μ1 H1 E1 hh1 => ⟨μ1, env, _, _, _, hh1, ev.ext E1, e, fun μ2 H2 u E2 hh2 r2 => k μ2 H2 u (E1.trans E2) hh2 r2⟩⟩
  · cases e
/-! ### lists of expressions -/
def isStar : Expr → Bool
  | .Starred _ _ => true
  | _ => false
def noStar : List Expr → Bool
  | [] => true
  | e :: es => !isStar e && noStar es
theorem star_of {e : Expr} (h : isStar e = false) (es : List Expr) (env : PySem.Env) : starEach (e :: es) env = (false, eval e env) :: starEach es env := by
  cases e <;> first | rfl | cases h
theorem any_star (p : Pos) (env : PySem.Env) : ∀ {es : List Expr}, noStar es = true → (backTo p (starEach es env)).any (·.1) = false
  | [], _ => rfl
  | e :: es, h => by
    have h' := Bool.and_eq_true_iff.mp h
    rw [star_of (by simpa using h'.1)]
    show (false || (backTo p (starEach es env)).any (·.1)) = false
    rw [any_star p env h'.2]
    rfl
theorem ml_nil : ML X [] lNil := by
  refine pa_nil.imp fun σ H Q hq => ?_
  obtain ⟨μ, env, h, w, h', hh, ev, e, k⟩ := hq
  cases e
  exact k μ H [] hh.refl hh .nil
theorem ml_cons {dl : LDen} (ha : ME X a da) (hr : ML X es dl) (hs : isStar a = false) : ML X (a :: es) (lCons da dl) := by
  refine (pa_cons ha hr (star_of hs _ _)).imp fun σ H Q hq => ?_
  obtain ⟨μ, env, h, w, h', hh, ev, e, k⟩ := hq
  unfold lCons at e
  split at e
  · rename_i x h1 e1
    split at e
    · rename_i xs h2 e2
      cases e
      exact ⟨μ, env, h, _, _, hh, ev, e1, fun μ1 H1 a1 E1 hh1 r1 => ⟨μ1, env, _, _, _, hh1, ev.ext E1, e2, fun μ2 H2 us E2 hh2 r2 => k μ2 H2 _ (E1.trans E2) hh2 (.cons (r1.ext E2) r2)⟩⟩
    · cases e
  · cases e
theorem me_tup {dl : LDen} {x1 : Nat} (hl : ML X es dl) : ME X (.Tuple es x1 pos) (dTup dl) := by
  refine (pe_tup hl).imp fun σ H Q hq => ?_
  obtain ⟨μ, env, h, w, h', hh, ev, e, k⟩ := hq
  unfold dTup at e
  split at e
  · rename_i xs h1 e1
    exact ⟨μ, env, h, _, _, hh, ev, e1, fun μ1 H1 us E1 hh1 r1 => mkT_ok e hh1 r1 fun μ2 H2 u E2 hh2 r2 => k μ2 H2 u (E1.trans E2) hh2 r2⟩
  · cases e
theorem me_lst (m : Nat) {dl : LDen} (hl : ML X es dl) : ME X (.List es pos) (dLst m dl) := by
  refine (pe_lst hl).imp fun σ H Q hq => ?_
  obtain ⟨μ, env, h, w, h', hh, ev, e, k⟩ := hq
  unfold dLst at e
  split at e
  · rename_i xs h1 e1
    exact ⟨μ, env, h, _, _, hh, ev, e1, fun μ1 H1 us E1 hh1 r1 => mkL_ok e hh1 r1 fun μ2 H2 u E2 hh2 r2 => k μ2 H2 u (E1.trans E2) hh2 r2⟩
  · cases e
/-! ### subscripts -/
theorem atI_rep {K : PySem.W.Frag} {mg : Str → Option Value} {H : Hp} {μ : Mu} {xs : List PV} {us : List V} {i : Int} {v : PV} (r : RepAll K mg H μ xs us) (e : L2.atI xs i = some v) : ∃ u, L2.atI us i = some u ∧ Rep K mg H μ v u := by
  unfold L2.atI at e ⊢
  rw [← r.length]
  cases q : ixN xs.length i with
  | none => rw [q] at e; cases e
  | some j =>
    rw [q] at e
    exact r.get e
def isSlice : Expr → Bool
  | .Slice _ _ _ _ => true
  | _ => false
theorem plain_ix {b : Expr} (h : isSlice b = false) : PlainIx b := by
  intro o i
  cases b <;> first | rfl | cases h
theorem me_ix (ha : ME X a da) (hb : ME X b db) (hs : isSlice b = false) : ME X (.Subscript a b pos) (dIx da db) := by
  refine (pe_ix (ix_list.or ix_tup) ha hb (plain_ix hs)).imp fun σ H Q hq => ?_
  obtain ⟨μ, env, h, w, h', hh, ev, e, k⟩ := hq
  unfold dIx at e
  split at e
  · rename_i x h1 e1
    split at e
    · rename_i i h2 e2
      split at e
      · rename_i xs e3
        cases q : L2.atI xs i with
        | none => rw [q] at e; cases e
        | some v =>
          rw [q] at e
          cases e
          refine two hh ev e1 e2 fun μ' H' a b E hh' ra rb => ?_
          obtain ⟨p, us, rfl, hs, r⟩ := seqH_ok hh' ra e3
          obtain ⟨u, h3, h4⟩ := atI_rep r q
          rcases hs with hs | hs
          · exact .inl ⟨p, us, i, u, rfl, rb.int_inv, hs, h3, k μ' H' u E hh' h4⟩
          · exact .inr ⟨p, us, i, u, rfl, rb.int_inv, hs, h3, k μ' H' u E hh' h4⟩
      · cases e
    · cases e
  · cases e
def tOd (K : PySem.W.Frag) (mg : Str → Option Value) (d : ODen) : TO := fun σ H Q =>
  ∃ μ env h c h', Hh K mg μ H h ∧ Ev K mg μ H σ env ∧ d env h = some (c, h') ∧ ∀ (μ' : Mu) (H' : Hp), Ext μ H μ' H' → Hh K mg μ' H' h' → Q c H'
theorem _root_.L2.PO.imp {X : Cx} {e : Option Expr} {t t' : TO} (p : PO X e t) (h : ∀ σ H Q, t' σ H Q → t σ H Q) : PO X e t' := ⟨fun pins s σ H Q I q => p.run pins s σ H Q I (h σ H Q q)⟩
theorem mo_non : PO X none (tOd X.K X.mg oNon) := by
  refine po_none.imp fun σ H Q hq => ?_
  obtain ⟨μ, env, h, w, h', hh, ev, e, k⟩ := hq
  cases e
  exact k μ H hh.refl hh
theorem mo_some (ha : ME X a da) : PO X (some a) (tOd X.K X.mg (oSome da)) := by
  refine (po_some ha).imp fun σ H Q hq => ?_
  obtain ⟨μ, env, h, w, h', hh, ev, e, k⟩ := hq
  unfold oSome at e
  split at e
  · rename_i i h1 e1
    cases e
    exact ⟨μ, env, h, _, _, hh, ev, e1, fun μ1 H1 a1 E1 hh1 r1 => ⟨i, r1.int_inv, k μ1 H1 E1 hh1⟩⟩
  · cases e
theorem cut_rep {K : PySem.W.Frag} {mg : Str → Option Value} {H : Hp} {μ : Mu} {xs : List PV} {us : List V} (i j : Option Int) (r : RepAll K mg H μ xs us) : RepAll K mg H μ (cutP xs i j) (cutV us i j) := by
  unfold cutP cutV
  rw [r.length]
  exact (r.drop _).take _
theorem lsqH_ok {K : PySem.W.Frag} {mg : Str → Option Value} {H : Hp} {μ : Mu} {h : MH} {x : PV} {a : V} {xs : List PV} (hh : Hh K mg μ H h) (r : Rep K mg H μ x a) (e : seqH h x = some xs) (hx : ∀ ys, x ≠ .tup ys) : ∃ p us, a = .ref p ∧ SqL K H p us ∧ RepAll K mg H μ xs us := by
  cases r with
  | tup h1 h3 => exact absurd rfl (hx _)
  | lst h1 h2 h3 => cases e; exact ⟨_, _, rfl, .of h1, h3⟩
  | scr h1 h3 => cases e; exact ⟨_, _, rfl, h1.sq, h3⟩
  | ref h1 =>
    obtain ⟨p, us, q1, q2, q3, _⟩ := hh.obj _ _ e
    rw [h1] at q1; cases q1
    exact ⟨_, _, rfl, .of q2, q3⟩
  | _ => cases e
theorem me_sl (m : Nat) {lo hi : Option Expr} {dl dh : ODen} {p2 : Pos} (ha : ME X a da) (hl : PO X lo (tOd X.K X.mg dl)) (hh' : PO X hi (tOd X.K X.mg dh)) : ME X (.Subscript a (.Slice lo hi none p2) pos) (dSl m da dl dh) := by
  refine (pe_slice (sl_tupA.or sl_list) ha hl hh').imp fun σ H Q hq => ?_
  obtain ⟨μ, env, h, w, h', hh, ev, e, k⟩ := hq
  unfold dSl at e
  split at e
  · rename_i x h1 e1
    split at e
    · rename_i i h2 e2
      split at e
      · rename_i j h3 e3
        refine ⟨μ, env, h, _, _, hh, ev, e1, fun μ1 H1 a1 E1 hh1 r1 => ⟨μ1, env, _, _, _, hh1, ev.ext E1, e2, fun μ2 H2 E2 hh2 => ⟨μ2, env, _, _, _, hh2, (ev.ext E1).ext E2, e3, fun μ3 H3 E3 hh3 => ?_⟩⟩⟩
        have r3 := (r1.ext E2).ext E3
        have E := (E1.trans E2).trans E3
        split at e
        · cases e
          obtain ⟨p, us, rfl, t, r⟩ := r3.tup_inv
          refine .inl ⟨p, us, rfl, t.sq, fun hw => ?_, fun hw q nq => ?_⟩
          · refine k μ3 H3 _ E hh3 (.tup t ?_)
            have c : cutV us i j = us := by
              unfold cutV
              rw [hw.1, hw.2]
              simp
            rw [← c]
            exact cut_rep i j r
          · obtain ⟨E', h2', out⟩ := hh3.new (o := .tup (cutV us i j)) nq
            exact k _ _ _ (E.trans E') h2' (.tup (.inl ⟨.inl upd_same, out⟩) ((cut_rep i j r).ext E'))
        · rename_i x' hx
          split at e
          · rename_i xs e4
            obtain ⟨p, us, rfl, hs, r⟩ := lsqH_ok hh3 r3 e4 fun ys => hx ys
            exact .inr ⟨p, us, rfl, hs, (mkL_ok e hh3 (cut_rep i j r) fun μ4 H4 u E4 hh4 r4 => k μ4 H4 u (E.trans E4) hh4 r4).2⟩
          · cases e
      · cases e
    · cases e
  · cases e
end
end Mn
-- text MnCalls
/-! Mn: calls of defs and of built-in functions; methods of lists -/
namespace Mn
open PySem PySem.Spec L2 PyProof.Rows

/-- a def's promise: what its denotation says; C: the class of the one exception -/
def spD (K : PySem.W.Frag) (mg : Str → Option Value) (np : Nat) (D : FDen) : Sp := fun vs H Q E =>
  ∃ μ h xs, Hh K mg μ H h ∧ RepAll K mg H μ xs vs ∧ xs.length = np ∧ match D xs h with
    | .ok v h' => Go K mg μ H v h' Q
    | .ex h' => ∀ (μ' : Mu) (H' : Hp) (C : Addr), mg "CanNot" = some (.ref C) → Ext μ H μ' H' → Hh K mg μ' H' h' → E (.ref C) none H'
    | .bad => False
theorem spD_len {K : PySem.W.Frag} {mg : Str → Option Value} {np : Nat} {D : FDen} {vs : List V} {H : Hp} {Q : VK} {E : XK} (h : spD K mg np D vs H Q E) : vs.length = np := by
  obtain ⟨μ, h, xs, hh, r, hl, _⟩ := h
  rw [← r.length, hl]
/-- the module's def x keeps its denotation, by at most level k -/
structure FOk (P : Program) (w : World) (K : PySem.W.Frag) (mg : Str → Option Value) (base : Heap) (k : Nat) (x : Str) (D : FDen) : Prop where
  ex : ∃ (f : Addr) (fd : FuncData) (ps : List Str), mg x = some (.ref f) ∧ PySem.W.keepIn K (.ref f) = true ∧ FnOk P w K mg base (L2.CX P w) k f fd ps (spD K mg ps.length D) ∧ Binds K fd ps [] ∧ ∀ xs h, xs.length ≠ ps.length → D xs h = .bad
theorem FOk.mono {P : Program} {w : World} {K : PySem.W.Frag} {mg : Str → Option Value} {base : Heap} {j k : Nat} {x : Str} {D : FDen} (F : FOk P w K mg base j x D) (h : j ≤ k) : FOk P w K mg base k x D := by
  obtain ⟨f, fd, ps, h1, h2, h3, h4, h5⟩ := F.ex
  exact ⟨f, fd, ps, h1, h2, h3.mono h, h4, h5⟩
section
variable {X : Cx} {k : Nat} {x : Str} {D : FDen} {p pos : Pos} {e : Expr} {es : List Expr} {dl : LDen}
/-- from the arguments to the promise -/
theorem run_sp {K : PySem.W.Frag} {mg : Str → Option Value} {μ : Mu} {H : Hp} {h1 h' : MH} {xs : List PV} {us : List V} {np : Nat} {v : PV} {Q : VK} {E : XK} (hh : Hh K mg μ H h1) (r : RepAll K mg H μ xs us) (hb : ∀ xs h, xs.length ≠ np → D xs h = .bad)
    (e : sRun D xs h1 = some (v, h')) (k : Go K mg μ H v h' Q) : spD K mg np D (us ++ []) H Q E := by
  rw [List.append_nil]
  unfold sRun at e
  refine ⟨μ, h1, xs, hh, r, ?_, ?_⟩
  · by_cases hl : xs.length = np
    · exact hl
    · rw [hb xs h1 hl] at e; cases e
  · split at e
    · rename_i q
      cases e
      rw [q]
      exact k
    · cases e
theorem me_call (F : FOk X.prog X.w X.K X.mg X.base k x D) (hr : Room k X.A) (hg : Gl X x) (hdb : (x == ("__debug__" : Str)) = false) (hl : ML X (e :: es) dl) (hs : noStar (e :: es) = true) : ME X (.Call (.Name x p) (e :: es) [] pos) (dCall D dl) := by
  obtain ⟨f, fd, ps, h1, h2, h3, h4, h5⟩ := F.ex
  have hs' := Bool.and_eq_true_iff.mp (show (!isStar e && noStar es) = true from hs)
  refine (pe_call h3 hr hg h1 h2 h4 .nil passL hl hdb (star_of (by simpa using hs'.1) _ _) (any_star _ _ hs'.2)).imp fun σ H Q hq => ?_
  obtain ⟨μ, env, h, w, h', hh, ev, e, k⟩ := hq
  unfold dCall at e
  split at e
  · rename_i xs h1' e1
    exact ⟨μ, env, h, _, _, hh, ev, e1, fun μ1 H1 us E1 hh1 r1 => run_sp hh1 r1 h5 e fun μ2 H2 u E2 hh2 r2 => k μ2 H2 u (E1.trans E2) hh2 r2⟩
  · cases e
theorem me_call0 (F : FOk X.prog X.w X.K X.mg X.base k x D) (hr : Room k X.A) (hg : Gl X x) (hdb : (x == ("__debug__" : Str)) = false) : ME X (.Call (.Name x p) [] [] pos) (dCall D lNil) := by
  obtain ⟨f, fd, ps, h1, h2, h3, h4, h5⟩ := F.ex
  refine (pe_call0 h3 hr hg h1 h2 h4 .nil passL hdb).imp fun σ H Q hq => ?_
  obtain ⟨μ, env, h, w, h', hh, ev, e, k⟩ := hq
  have e' : sRun D [] h = some (w, h') := e
  show spD X.K X.mg ps.length D ([] ++ []) H Q E0
  exact run_sp hh .nil h5 e' k
/-- a local name that holds a def -/
def dCallV (i : Nat) (tbl : List (Str × FDen)) (l : LDen) : Den := fun e h => match e[i]? with
  | some (some (.fn x)) => match tbl.lookup x with
    | some D => dCall D l e h
    | none => none
  | _ => none
theorem me_callV {i : Nat} {tbl : List (Str × FDen)} (F : ∀ y D, tbl.lookup y = some D → FOk X.prog X.w X.K X.mg X.base k y D) (hr : Room k X.A) (hN : X.N[i]? = some x) (hv : Vis X.env.scope x) (hdb : (x == ("__debug__" : Str)) = false) (hcd : (x == ("__classdict__" : Str)) = false)
    (hl : ML X (e :: es) dl) (hs : noStar (e :: es) = true) : ME X (.Call (.Name x p) (e :: es) [] pos) (dCallV i tbl dl) := by
  have hs' := Bool.and_eq_true_iff.mp (show (!isStar e && noStar es) = true from hs)
  refine ⟨fun pins s σ H Q I hq => ?_⟩
  obtain ⟨μ, env, h, w, h', hh, ev, e, k⟩ := hq
  unfold dCallV at e
  split at e
  · rename_i y hy
    split at e
    · rename_i D hD
      obtain ⟨u, s1, s2⟩ := ev.get _ _ hy
      obtain ⟨f, fd, ps, h1, h2, h3, h4, h5⟩ := (F y D hD).ex
      cases s2 with
      | fn q =>
        rw [h1] at q; cases q
        refine (pe_callL (i := i) h3 hr hN hv h2 h4 .nil passL hl hdb hcd (star_of (by simpa using hs'.1) _ _) (any_star _ _ hs'.2)).run pins s σ H Q I ⟨s1, ?_⟩
        unfold dCall at e
        split at e
        · rename_i xs h1' e1
          exact ⟨μ, env, h, _, _, hh, ev, e1, fun μ1 H1 us E1 hh1 r1 => run_sp hh1 r1 h5 e fun μ2 H2 u E2 hh2 r2 => k μ2 H2 u (E1.trans E2) hh2 r2⟩
        · cases e
    · cases e
  · cases e

/-! ### built-in functions -/
def dBlt (f : List PV → MH → Option (PV × MH)) (l : LDen) : Den := fun e h => match l e h with
  | some (xs, h1) => f xs h1
  | none => none
theorem blt_ok {f : List PV → MH → Option (PV × MH)} {σ : L2.St} {H : Hp} {Q : VK} (hq : tD X.K X.mg (dBlt f dl) σ H Q) : tCB (rMC X.K X.mg f) (tLd X.K X.mg dl) σ H Q := by
  obtain ⟨μ, env, h, w, h', hh, ev, e, k⟩ := hq
  unfold dBlt at e
  split at e
  · rename_i xs h1 e1
    exact ⟨μ, env, h, _, _, hh, ev, e1, fun μ1 H1 us E1 hh1 r1 => ⟨μ1, _, xs, _, _, hh1, r1, e, fun μ2 H2 u E2 => k μ2 H2 u (E1.trans E2)⟩⟩
  · cases e
theorem me_bltB {id : String} {f : List PV → MH → Option (PV × MH)} (hc : CallR X (.builtin id) (rMC X.K X.mg f)) (hg : Gl X x) (hm : X.mg x = none) (hv : bootBuiltins x = some (.builtin id)) (hl : ML X (e :: es) dl) (hs : noStar (e :: es) = true) (hn : x ≠ "__name__") (hdb : (x == ("__debug__" : Str)) = false) :
    ME X (.Call (.Name x p) (e :: es) [] pos) (dBlt f dl) := by
  have hs' := Bool.and_eq_true_iff.mp (show (!isStar e && noStar es) = true from hs)
  exact (pe_callB hc hg hm hv hl hn hdb (star_of (by simpa using hs'.1) _ _) (any_star _ _ hs'.2)).imp fun σ H Q hq => blt_ok hq
theorem me_bltT {id : String} {f : List PV → MH → Option (PV × MH)} (hc : CallR X (.type id) (rMC X.K X.mg f)) (hg : Gl X x) (hm : X.mg x = none) (hv : bootBuiltins x = some (.type id)) (hl : ML X (e :: es) dl) (hs : noStar (e :: es) = true) (hn : x ≠ "__name__") (hdb : (x == ("__debug__" : Str)) = false) :
    ME X (.Call (.Name x p) (e :: es) [] pos) (dBlt f dl) := by
  have hs' := Bool.and_eq_true_iff.mp (show (!isStar e && noStar es) = true from hs)
  exact (pe_callTy hc hg hm hv hl hn hdb (star_of (by simpa using hs'.1) _ _) (any_star _ _ hs'.2)).imp fun σ H Q hq => blt_ok hq
theorem me_gcd {f : List PV → MH → Option (PV × MH)} (hc : CallR X (.builtin "math.gcd") (rMC X.K X.mg f)) (hg : Gl X x) (hm : X.mg x = some (.builtin "math.gcd")) (hl : ML X (e :: es) dl) (hs : noStar (e :: es) = true) (hdb : (x == ("__debug__" : Str)) = false) :
    ME X (.Call (.Name x p) (e :: es) [] pos) (dBlt f dl) := by
  have hs' := Bool.and_eq_true_iff.mp (show (!isStar e && noStar es) = true from hs)
  exact (pe_callBfun hc hg hm hl hdb (star_of (by simpa using hs'.1) _ _) (any_star _ _ hs'.2)).imp fun σ H Q hq => blt_ok hq

/-! ### isinstance -/
def dIs (Ts : List String) (a : Den) : Den := fun e h => match a e h with
  | some (x, h1) => match tyName x == "function" with
    | true => none
    | false => some (.bl (Ts.any (kit1 x)), h1)
  | none => none
theorem kitAny_ok {K : PySem.W.Frag} {x : PV} (hf : tyName x ≠ "function") : ∀ {Ts : List String}, Ts.all knownTy = true → PySem.W.kitAny K (.type (tyName x)) (Ts.map Value.type) = some (Ts.any (kit1 x))
  | [], _ => kitAny_nil
  | T :: Ts, h => by
    have h' := Bool.and_eq_true_iff.mp (show (knownTy T && Ts.all knownTy) = true from h)
    refine kitAny_cons (kit_ty (kit1_ok hf h'.1)) (fun q => ?_) (fun q => ?_)
    · rw [kitAny_ok hf h'.2, List.any_cons, q, Bool.false_or]
    · rw [List.any_cons, q, Bool.true_or]
theorem tyV_of {xs : List V} : ∀ {Ts : List String}, Paired ClsV (Ts.map V.ty) (Ts.map Value.type)
  | [] => .nil
  | T :: Ts => .cons (.ty T) (tyV_of (xs := xs))
variable {a : Expr} {da : Den}
theorem me_is1 {T : String} {p2 : Pos} {y : Str} (ha : ME X a da) (hs : isStar a = false) (hg : Gl X "isinstance") (hm : X.mg "isinstance" = none) (hgT : Gl X y) (hmT : X.mg y = none) (hvT : bootBuiltins y = some (.type T)) (hnT : y ≠ "__name__") (hdT : (y == ("__debug__" : Str)) = false) (hk : knownTy T = true) :
    ME X (.Call (.Name "isinstance" p) [a, .Name y p2] [] pos) (dIs [T] da) := by
  have ht : PE X (.Name y p2) (tC (.ty T)) := pe_bltn hgT hmT hvT rfl hnT hdT
  refine (pe_callB call_isi hg hm boot_isinstance (pa_cons ha (pa_cons ht pa_nil) (star_of hs _ _)) (by decide) (by decide) (star_of hs _ _) rfl).imp fun σ H Q hq => ?_
  obtain ⟨μ, env, h, w, h', hh, ev, e, k⟩ := hq
  unfold dIs at e
  split at e
  · rename_i x h1 e1
    split at e
    · cases e
    · rename_i hf
      cases e
      have hf' : tyName x ≠ "function" := by simpa using hf
      refine ⟨μ, env, h, _, _, hh, ev, e1, fun μ1 H1 u E1 hh1 r1 => ⟨u, .ty T, .type (tyName x), .type T, kit1 x T, rfl, .ty T, tyName_ok hh1 r1 hf', kit_ty (kit1_ok hf' hk), ?_⟩⟩
      have := k μ1 H1 _ E1 hh1 (.bl _)
      simpa using this
  · cases e
theorem me_is2 {T1 T2 : String} {p2 p3 p4 : Pos} {kk : Nat} {y1 y2 : Str} (ha : ME X a da) (hs : isStar a = false) (hg : Gl X "isinstance") (hm : X.mg "isinstance" = none) (h1 : PE X (.Name y1 p2) (tC (.ty T1))) (h2 : PE X (.Name y2 p3) (tC (.ty T2))) (hk : [T1, T2].all knownTy = true) :
    ME X (.Call (.Name "isinstance" p) [a, .Tuple [.Name y1 p2, .Name y2 p3] kk p4] [] pos) (dIs [T1, T2] da) := by
  refine (pe_callB call_isiT hg hm boot_isinstance (pa_cons ha (pa_cons (pe_tup (pa_cons h1 (pa_cons h2 pa_nil))) pa_nil) (star_of hs _ _)) (by decide) (by decide) (star_of hs _ _) rfl).imp fun σ H Q hq => ?_
  obtain ⟨μ, env, h, w, h', hh, ev, e, k⟩ := hq
  unfold dIs at e
  split at e
  · rename_i x h1 e1
    split at e
    · cases e
    · rename_i hf
      cases e
      have hf' : tyName x ≠ "function" := by simpa using hf
      refine ⟨μ, env, h, _, _, hh, ev, e1, fun μ1 H1 u E1 hh1 r1 => ⟨by show 2 ≤ sizeLine; rw [sizeLine_eq]; decide, fun q nq => ?_⟩⟩
      obtain ⟨E2, hh2, _⟩ := hh1.new (o := .tup [.ty T1, .ty T2]) nq
      exact ⟨u, q, [.ty T1, .ty T2], .type (tyName x), [.type T1, .type T2], _, rfl, upd_same, tyV_of (xs := []) (Ts := [T1, T2]), tyName_ok hh2 (r1.ext E2) hf', kitAny_ok (Ts := [T1, T2]) hf' hk, k μ1 _ _ (E1.trans E2) hh2 (.bl _)⟩
  · cases e
end
end Mn
-- text MnIter
/-! Mn: what is walked -/
namespace Mn
open PySem PySem.Spec L2 PyProof.Rows

/-! ### enumerate of a list or a tuple: enumerate(v) begins -/
/-- the two new cells: the items' iterator, the counter -/
abbrev cellE (h : Heap) : Obj := { cls := .type "enumerate", data := .fields #[.none, .bool false, .ref h.objs.size, rawInt 0, .none, .none] }
theorem makes_enum {v : Value} {o : Obj} {Hv : Heap → Prop} (B : Begins v o Hv) :
    Meets (Builtin.«enumerate.__new__» ⟨[.type "enumerate", v], []⟩) (fun _ R s => Hv s.heap ∧ R (.ok (.ret (.ref (s.heap.push o).objs.size))) { s with heap := (s.heap.push o).push (cellE s.heap) }) := by
  refine .of_wp fun pg wd Ar Rs sh hyp => ?_
  obtain ⟨hp, gs, dr, tk, os⟩ := sh
  obtain ⟨hv, hyp⟩ := hyp
  have sub1 := sub_enumerate
  have begun : ∀ {Ar' : Around} {Ex : Value → Shared → Prop} {Post : Value → Shared → Prop}, Post (.ref hp.objs.size) ⟨hp.push o, gs, dr, tk, os⟩ → wpAny (model pg wd) Ar' (pyIter v) Post Ex ⟨hp, gs, dr, tk, os⟩ := fun post => B.iter pg wd _ _ ⟨hp, gs, dr, tk, os⟩ _ hv post
  wp_walk using begun
  refine wpAny_stack_any fun frames => wpAny_pure ?_
  split
  · rename_i cl _ _ _ _ _
    cases hcl : (cl == Value.type "enumerate") <;> (wp_walk using begun; exact ⟨_, rfl, hyp⟩)
  · wp_walk using begun
    exact ⟨_, rfl, hyp⟩
theorem call_enum {pg : Program} {wd : World} {Ar : Around} {Ex : Value → Shared → Prop} {s : Shared} {v : Value} {o : Obj} {Hv : Heap → Prop} {Post : Value → Shared → Prop} (B : Begins v o Hv) (hv : Hv s.heap)
    (fin : ∀ hn, IsEnum hn (s.heap.objs.size + 1) s.heap.objs.size 0 .none → hn.get? s.heap.objs.size = some o → hn.objs.size = s.heap.objs.size + 2 → (∀ b o, s.heap.get? b = some o → hn.get? b = some o) → Post (.ref (s.heap.objs.size + 1)) { s with heap := hn }) :
    wpAny (model pg wd) Ar (call (.type "enumerate") [v]) Post Ex s := by
  have size1 : (s.heap.push o).objs.size = s.heap.objs.size + 1 := Heap.size_push _ o
  have isE : IsEnum ((s.heap.push o).push (cellE s.heap)) (s.heap.objs.size + 1) s.heap.objs.size 0 .none := by
    have top := Heap.get?_push_size (s.heap.push o) (o := cellE s.heap) rfl
    rw [size1] at top
    exact top
  have first : ((s.heap.push o).push (cellE s.heap)).get? s.heap.objs.size = some o := Heap.get?_push_of_some _ (Heap.get?_push_size s.heap B.free)
  refine callType_new F.called_enumerate (by decide) (F.typeCall_enumerate_1 v) (F.newCall_enumerate_1 v) (fun ob => F.args_object_init_2 ob v) F.entry_enumerate_new (makes_enum B) ⟨hv, ?_⟩
  show _ ∧ _
  rw [size1]
  exact ⟨⟨_, isE, rfl⟩, fin _ isE first (by rw [Heap.size_push, size1]) fun b ob e => Heap.get?_push_of_some _ (Heap.get?_push_of_some _ e)⟩

/-! ### a list (false) or a tuple (true) -/
def SqK (tp : Bool) (K : PySem.W.Frag) (H : Hp) (a : Addr) (xs : List V) : Prop := match tp with
  | false => SqL K H a xs
  | true => SqT K H a xs
def RawK (tp : Bool) (h : Heap) (a : Addr) (its : Array Value) : Prop := match tp with
  | false => h.IsList a its
  | true => h.IsTuple a its
def IterK (tp : Bool) (h : Heap) (it a : Addr) (i : Nat) : Prop := match tp with
  | false => h.IsListIter it a i
  | true => h.IsTupleIter it a i
def newK (tp : Bool) (a : Addr) : Obj := match tp with
  | false => { cls := .type "list_iterator", data := .fields #[.ref a, .int 0 0] }
  | true => { cls := .type "tuple_iterator", data := .fields #[.ref a, .int 0 0] }
theorem IterK.lt {tp : Bool} {h : Heap} {it a : Addr} {i : Nat} (x : IterK tp h it a i) : ∃ o, h.get? it = some o ∧ (∀ v, o.data ≠ .cell v) := by
  cases tp with
  | false => obtain ⟨o, e, _, d⟩ := x; exact ⟨o, e, fun v q => by rw [d] at q; cases q⟩
  | true => obtain ⟨o, e, _, d⟩ := x; exact ⟨o, e, fun v q => by rw [d] at q; cases q⟩
theorem IterK.at {tp : Bool} {h h' : Heap} {it a : Addr} {i : Nat} (x : IterK tp h it a i) (k : ∀ o, h.get? it = some o → h'.get? it = some o) : IterK tp h' it a i := by
  cases tp with
  | false => exact Heap.IsListIter.at x k
  | true => exact Heap.IsTupleIter.at x k
theorem RawK.at {tp : Bool} {h h' : Heap} {a : Addr} {its : Array Value} (x : RawK tp h a its) (k : ∀ o, h.get? a = some o → h'.get? a = some o) : RawK tp h' a its := by
  cases tp with
  | false => exact Heap.IsList.at x k
  | true => exact Heap.IsTuple.at x k
theorem begins_k (tp : Bool) (a : Addr) (its : Array Value) : Begins (.ref a) (newK tp a) fun h => RawK tp h a its := by
  cases tp with
  | false => exact begins_list a its
  | true => exact begins_tuple a its
theorem iter_new {tp : Bool} {h : Heap} {it a : Addr} (x : h.get? it = some (newK tp a)) : IterK tp h it a 0 := by
  cases tp with
  | false => exact ⟨_, x, rfl, rfl⟩
  | true => exact ⟨_, x, rfl, rfl⟩
theorem draws_k {prog : Program} {w : World} {A : Around} (tp : Bool) (hh : A.handled = none) (it a : Addr) (hne : a ≠ it) (its : Array Value) :
    Draws prog w A it [it, a] its.size (fun i v => its[i]? = some v) (fun i h => IterK tp h it a i ∧ RawK tp h a its) := by
  cases tp with
  | false => exact Draws.list hh it a hne its
  | true => exact Draws.tuple hh it a hne its
section
variable {X : Cx} {pins : List (Addr × Obj)} {σ : L2.St} {H : Hp} {s : Shared} {a : Addr} {xs ys : List V} {tp : Bool}
theorem inv_sq (I : Inv X pins σ H s) (h : SqK tp X.K H a xs) : ∃ its : List Value, Vals xs its ∧ RawK tp s.heap a its.toArray ∧ a < s.heap.objs.size := by
  cases tp with
  | false =>
    obtain ⟨its, rv, p, _⟩ := I.list h
    exact ⟨its, rv, p.isList, p.lt⟩
  | true =>
    obtain ⟨its, rv, p, _⟩ := I.tuple h
    obtain ⟨o, e, _⟩ := id p
    exact ⟨its, rv, p, Heap.lt_size e⟩
theorem sq_inj (I : Inv X pins σ H s) (h : SqK tp X.K H a xs) (h' : SqK tp X.K H a ys) : xs = ys := by
  cases tp with
  | false => exact I.list_inj h h'
  | true => exact I.tuple_inj h h'
end

/-- an iterator that hands out new tuples (WalksT, told anew at each turn from what the invariant holds) is walked as the layer asks -/
theorem turn_of {P : Program} {w : World} {K : PySem.W.Frag} {elts : List Expr} {kk : Nat} {tpos : Pos} {J : It} {wr fr : List Addr} {it : Addr} {tn : Nat → Heap → Prop} (mem : it ∈ fr) (sub : ∀ b ∈ wr, b ∈ fr) (obj : ∀ i h, tn i h → ∀ b ∈ fr, ∃ o, h.get? b = some o ∧ ∀ v, o.data ≠ .cell v)
    (keep : ∀ i h h', tn i h → (∀ b ∈ fr, ∀ o, h.get? b = some o → h'.get? b = some o) → tn i h') (self : ∀ (A : Around) (i : Nat) (s : Shared) (Q : Value → Shared → Prop) (E : Value → Shared → Prop), tn i s.heap → Q (.ref it) s → wpAny (model P w) A (pyIter (.ref it)) Q E s)
    (walks : ∀ (X : Cx), X.prog = P → X.w = w → X.K = K → X.calm = true → ∀ (i : Nat) (pins : List (Addr × Obj)) (s : Shared) (σ : L2.St) (H : Hp), Inv X pins σ H s → tn i s.heap → J.go i H ∨ J.stop i H →
      ∃ fp n Pt St Mid, WalksT P w X.A it fp wr n Pt St Mid ∧ St i s.heap ∧ (J.go i H → i < n) ∧ (J.stop i H → i = n) ∧ (∀ h', St (i + 1) h' → tn (i + 1) h') ∧
        ∀ vals, Pt i vals → J.go i H → ∃ xs, Vals xs vals.toList ∧ xs.length ≤ sizeLine ∧ ∀ T, H T = none → J.yld i H (.ref T) (upd H T (.tup xs))) :
    Turn P w K (.Tuple elts kk tpos) J fr it tn where
  mem := mem
  obj := obj
  keep := keep
  self := self
  item := by
    intro X eP ew eK hc i pins s σ H E I own tni go
    obtain ⟨fp, n, Pt, St, Mid, W, st, h1, _, back, val⟩ := walks X eP ew eK hc i pins s σ H I tni (.inl go)
    subst eP ew eK
    refine W.item i s _ E (h1 go) st fun T vals ha tk hPt hle hTa mid ka => ⟨.ref T, rfl, ?_⟩
    refine W.go elts kk tpos i T { s with heap := ha, toks := tk } _ E mid fun hb stb kb => ?_
    obtain ⟨xs, rel, short, yld⟩ := val vals hPt go
    have hn : H T = none := I.hok.fresh hle
    have far := W.apart i T ha mid
    have there : IsTup hb T vals := by
      obtain ⟨o, e, r⟩ := hTa
      exact ⟨o, kb T o far e, r⟩
    have made : ObjOk X.prog X.w (upd H T (.tup xs)) hb T (.tup xs) := ⟨short, vals.toList, rel, there⟩
    refine ⟨.ref T, upd H T (.tup xs), I.turnedNew (t' := tk) (ch := fr) (fun b o nb e => kb b o (fun z => nb (sub b z)) (ka b o (fun z => nb (sub b z)) e)) own hle made, rfl, yld T hn, back hb stb, fun b mb => ?_⟩
    obtain ⟨ob, eb, _⟩ := obj i s.heap tni b mb
    rw [upd_ne (Nat.ne_of_lt (Nat.lt_of_lt_of_le (Heap.lt_size eb) hle))]
    exact (own b mb).1
  done := by
    intro X eP ew eK hc i pins s σ H E I own tni stop
    obtain ⟨fp, n, Pt, St, Mid, W, st, _, h2, _⟩ := walks X eP ew eK hc i pins s σ H I tni (.inr stop)
    subst eP ew eK
    rw [h2 stop] at st
    exact W.done s _ E st fun ha tk ka => ⟨rfl, I.turnedL (t' := tk) (ch := fr) (fun b o nb e => ka b o (fun z => nb (sub b z)) e) own⟩

/-- enumerate: the items as they stand at each turn -/
def ItE (tp : Bool) (K : PySem.W.Frag) (a : Addr) : It where
  go := fun i H => ∃ us u, SqK tp K H a us ∧ us[i]? = some u
  yld := fun i H v Hn => ∃ T u, v = .ref T ∧ H T = none ∧ Hn = upd H T (.tup [.int (i : Nat), u]) ∧ ∀ us, SqK tp K H a us → us[i]? = some u
  stop := fun i H => ∃ us : List V, SqK tp K H a us ∧ us.length = i
theorem turn_enumK {P : Program} {w : World} {K : PySem.W.Frag} {elts : List Expr} {kk : Nat} {tpos : Pos} (tp : Bool) (a e it : Addr) :
    Turn P w K (.Tuple elts kk tpos) (ItE tp K a) [e, it] e (fun i h => (∃ old, IsEnum h e it ((i : Nat) : Int) old) ∧ IterK tp h it a i ∧ e ≠ it ∧ a ≠ it ∧ e ≠ a) := by
  refine turn_of (wr := [e, it]) (by simp) (fun _ m => m) (fun i h ⟨⟨old, he⟩, hi, _⟩ b mb => ?_) (fun i h h' ⟨⟨old, he⟩, hi, far⟩ k => ⟨⟨old, k _ (by simp) _ he⟩, hi.at (k it (by simp)), far⟩) (fun A i s Q E ⟨⟨_, he⟩, _⟩ q => wpAny_pyIter_enum he q) ?_
  · have mb' : b = e ∨ b = it := by simpa using mb
    rcases mb' with rfl | rfl
    · exact ⟨_, he, nofun⟩
    · exact hi.lt
  intro X eP ew eK hc i pins s σ H I st going
  subst eP ew eK
  obtain ⟨⟨old, he⟩, hi, far1, far2, far3⟩ := st
  have src : ∃ us, SqK tp X.K H a us := going.elim (fun ⟨us, _, q, _⟩ => ⟨us, q⟩) fun ⟨us, q, _⟩ => ⟨us, q⟩
  obtain ⟨us, hq⟩ := src
  obtain ⟨its, rel, raw, _⟩ := inv_sq I hq
  have hlen : its.toArray.size = us.length := by rw [List.size_toArray, ← rel.length]
  refine ⟨_, _, _, _, _, WalksT.enumerateD (draws_k (A := X.A.in1) tp (I.ok.hd hc) it a far2 its.toArray) e far1 (by simp; exact ⟨far1, far3⟩) (by simp), ⟨⟨old, he⟩, hi, raw⟩, fun ⟨ws, u, q, g⟩ => ?_, fun ⟨ws, q, g⟩ => ?_, fun h' ⟨m, hi', _⟩ => ⟨m, hi', far1, far2, far3⟩, ?_⟩
  · rw [hlen, sq_inj I hq q]
    exact (List.getElem?_eq_some_iff.mp g).1
  · rw [hlen, sq_inj I hq q]
    exact g.symm
  · rintro vals ⟨t, x, hx, rfl⟩ ⟨ws, u, q, g⟩
    rw [← sq_inj I hq q] at g
    obtain ⟨y, hy, ry⟩ := rel.get g
    have e1 : its.toArray[i]? = some y := by simpa using hy
    rw [e1] at hx
    cases hx
    exact ⟨[.int (i : Nat), u], .cons ⟨_, rfl⟩ (.cons ry .nil), by show 2 ≤ sizeLine; decide, fun T hT => ⟨T, u, rfl, hT, rfl, fun vs q' => by rw [sq_inj I q' hq]; exact g⟩⟩
/-- zip: the items as they stand at each turn -/
def ItZ (t1 t2 : Bool) (K : PySem.W.Frag) (a b : Addr) : It where
  go := fun i H => ∃ us ws u v, SqK t1 K H a us ∧ SqK t2 K H b ws ∧ us[i]? = some u ∧ ws[i]? = some v
  yld := fun i H x Hn => ∃ T u v, x = .ref T ∧ H T = none ∧ Hn = upd H T (.tup [u, v]) ∧ (∀ us, SqK t1 K H a us → us[i]? = some u) ∧ ∀ ws, SqK t2 K H b ws → ws[i]? = some v
  stop := fun i H => ∃ us ws : List V, SqK t1 K H a us ∧ SqK t2 K H b ws ∧ i ≤ us.length ∧ i ≤ ws.length ∧ (us.length = i ∨ ws.length = i)
theorem turn_zipK {P : Program} {w : World} {K : PySem.W.Frag} {elts : List Expr} {kk : Nat} {tpos : Pos} {t1 t2 : Bool} {a b z TI TO i1 i2 : Addr} (D : ZipSep2 z TI TO i1 i2 [i1, a] [i2, b]) (ha : a ≠ i1) (hb : b ≠ i2) :
    Turn P w K (.Tuple elts kk tpos) (ItZ t1 t2 K a b) [z, TI, TO, i1, i2] z (fun i h => IsZip h z TI TO .none ∧ IsPair h TI (.ref i1) (.ref i2) ∧ (∃ x y, IsPair h TO x y) ∧ IterK t1 h i1 a i ∧ IterK t2 h i2 b i) := by
  refine turn_of (wr := [z, TO, i1, i2]) (by simp) (fun c mc => ?_) (fun i h ⟨hz, hTI, ⟨x, y, hTO⟩, h1, h2⟩ c mc => ?_) (fun i h h' ⟨hz, hTI, ⟨x, y, hTO⟩, h1, h2⟩ k => ⟨k _ (by simp) _ hz, k _ (by simp) _ hTI, ⟨x, y, k _ (by simp) _ hTO⟩, h1.at (k i1 (by simp)), h2.at (k i2 (by simp))⟩) (fun A i s Q E st q => wpAny_pyIter_zip st.1 q) ?_
  · simp at mc ⊢
    rcases mc with m | m | m | m <;> simp [m]
  · have mc' : c = z ∨ c = TI ∨ c = TO ∨ c = i1 ∨ c = i2 := by simpa using mc
    rcases mc' with e | e | e | e | e <;> rw [e]
    · exact ⟨_, hz, fun _ => by simp⟩
    · exact ⟨_, hTI, fun _ => by simp⟩
    · exact ⟨_, hTO, fun _ => by simp⟩
    · exact h1.lt
    · exact h2.lt
  intro X eP ew eK hc i pins s σ H I st going
  subst eP ew eK
  obtain ⟨hz, hTI, hTO, h1, h2⟩ := st
  have src : ∃ us ws, SqK t1 X.K H a us ∧ SqK t2 X.K H b ws := going.elim (fun ⟨us, ws, _, _, q1, q2, _⟩ => ⟨us, ws, q1, q2⟩) fun ⟨us, ws, q1, q2, _⟩ => ⟨us, ws, q1, q2⟩
  obtain ⟨us, ws, hq1, hq2⟩ := src
  obtain ⟨its, rel, raw, _⟩ := inv_sq I hq1
  obtain ⟨its2, rel2, raw2, _⟩ := inv_sq I hq2
  have hl1 : its.toArray.size = us.length := by rw [List.size_toArray, ← rel.length]
  have hl2 : its2.toArray.size = ws.length := by rw [List.size_toArray, ← rel2.length]
  refine ⟨_, _, _, _, _, WalksT.zipD2 D (draws_k (A := X.A.in1) t1 (I.ok.hd hc) i1 a ha its.toArray) (draws_k (A := X.A.in1) t2 (I.ok.hd hc) i2 b hb its2.toArray), ⟨hz, hTI, hTO, ⟨h1, raw⟩, ⟨h2, raw2⟩⟩, fun ⟨vs, xs, u, v, q1, q2, g1, g2⟩ => ?_, fun ⟨vs, xs, q1, q2, g1, g2, g3⟩ => ?_, fun h' ⟨m1, m2, m3, m4, m5⟩ => ⟨m1, m2, m3, m4.1, m5.1⟩, ?_⟩
  · rw [hl1, hl2, sq_inj I hq1 q1, sq_inj I hq2 q2]
    have := (List.getElem?_eq_some_iff.mp g1).1
    have := (List.getElem?_eq_some_iff.mp g2).1
    omega
  · rw [hl1, hl2, sq_inj I hq1 q1, sq_inj I hq2 q2]
    omega
  · rintro vals ⟨x1, x2, p1, p2, rfl⟩ ⟨vs, xs, u, v, q1, q2, g1, g2⟩
    rw [← sq_inj I hq1 q1] at g1
    rw [← sq_inj I hq2 q2] at g2
    obtain ⟨y1, k1, r1⟩ := rel.get g1
    obtain ⟨y2, k2, r2⟩ := rel2.get g2
    have e1 : its.toArray[i]? = some y1 := by simpa using k1
    have e2 : its2.toArray[i]? = some y2 := by simpa using k2
    rw [e1] at p1
    rw [e2] at p2
    cases p1
    cases p2
    exact ⟨[u, v], .cons r1 (.cons r2 .nil), by show 2 ≤ sizeLine; decide, fun T hT => ⟨T, u, v, rfl, hT, rfl, fun l q => by rw [sq_inj I q hq1]; exact g1, fun l q => by rw [sq_inj I q hq2]; exact g2⟩⟩

/-! ### the rules -/
section
variable {X : Cx} {tg : Expr} {p pos tpos : Pos} {elts : List Expr} {kk : Nat}
/-- what lies at or above the heap's end is the layer's to turn -/
theorem fp_new {pins : List (Addr × Obj)} {σ : L2.St} {H : Hp} {s : Shared} (I : Inv X pins σ H s) {l : List Addr} (hl : ∀ b ∈ l, s.heap.objs.size ≤ b) : ∀ b ∈ l, FpOk X pins H b := fun b hb => I.fpOk (hl b hb) (I.hok.fresh (hl b hb))
def iAny (K : PySem.W.Frag) (tl : TE) : TI := fun σ H R => tl σ H fun x H1 => ∃ a, x = .ref a ∧ (((∃ xs, SqL K H1 a xs) ∧ R (Itl K a) H1) ∨ ((∃ xs, SqT K H1 a xs) ∧ R (Itt K a) H1))
/-- a list or a tuple, whichever comes -/
theorem pi_any {l : Expr} {tl : TE} (hl : PE X l tl) : PI X tg l (iAny X.K tl) where
  run pins s σ H R I h := by
    refine wpAny_mono (hl.run pins s σ H _ I h) (fun v s1 hv => ?_) fun _ _ e => e
    obtain ⟨x, H1, I1, r1, a, rfl, hx⟩ := hv
    cases r1
    have own : ∀ b ∈ [s1.heap.objs.size], FpOk X pins H1 b := fp_new I1 (by simp)
    have grown : ∀ {o : Obj}, Inv X pins σ H1 { s1 with heap := s1.heap.push o } := fun {o} => I1.kept (t' := s1.toks) fun b ob e => Heap.get?_push_of_some o e
    rcases hx with ⟨⟨us, hq⟩, q⟩ | ⟨⟨us, hq⟩, q⟩
    · obtain ⟨its, _, pl, _⟩ := I1.list hq
      exact wpAny_pyIter_list pl.isList ⟨_, _, _, _, H1, rfl, grown, turn_list a _, ⟨_, Heap.get?_push_size s1.heap rfl, rfl, rfl⟩, own, q⟩
    · obtain ⟨its, _, pt, _⟩ := I1.tuple hq
      have pt' : s1.heap.IsTuple a its.toArray := pt
      exact wpAny_pyIter_tuple pt' ⟨_, _, _, _, H1, rfl, grown, turn_tuple a _, ⟨_, Heap.get?_push_size s1.heap rfl, rfl, rfl⟩, own, q⟩
def iEnm (K : PySem.W.Frag) (ta : TA) : TI := fun σ H R => ta σ H fun vs H1 => ∃ tp a xs, vs = [.ref a] ∧ SqK tp K H1 a xs ∧ R (ItE tp K a) H1
theorem pi_enm {e : Expr} {ta : TA} (hg : Gl X "enumerate") (hm : X.mg "enumerate" = none) (ha : PA X [e] ta) (hs : starEach [e] X.env = [(false, eval e X.env)]) : PI X (.Tuple elts kk tpos) (.Call (.Name "enumerate" p) [e] [] pos) (iEnm X.K ta) where
  run pins s σ H R I h := by
    refine Call_ (ld_blt I hg hm boot_enumerate (PyProof.Rows.callWith_type1 (wpAny_mono (ha.run pos pins s σ H _ I h) (fun us s1 hus => ?_) fun _ _ e => e) hs rfl))
    obtain ⟨vs, H1, I1, r1, tp, a, xs, rfl, hq, q⟩ := hus
    have er := Vals.ref1 r1
    subst er
    obtain ⟨its, _, raw, la⟩ := inv_sq I1 hq
    have la' : a < s1.heap.objs.size := la
    refine call_enum (begins_k tp a its.toArray) raw fun hn he hit _ hk => wpAny_pyIter_enum he ⟨_, _, _, _, H1, rfl, I1.kept (t' := s1.toks) hk, turn_enumK tp a _ s1.heap.objs.size, ⟨⟨.none, he⟩, iter_new hit, Nat.succ_ne_self _, Nat.ne_of_lt la', Nat.ne_of_gt (Nat.lt_succ_of_lt la')⟩, fp_new I1 ?_, q⟩
    intro b mb
    simp at mb
    rcases mb with m | m <;> (rw [m]; first | exact Nat.le_refl _ | exact Nat.le_add_right s1.heap.objs.size _)
def iZp (K : PySem.W.Frag) (ta : TA) : TI := fun σ H R => ta σ H fun vs H1 => ∃ t1 t2 a b xs ys, vs = [.ref a, .ref b] ∧ SqK t1 K H1 a xs ∧ SqK t2 K H1 b ys ∧ R (ItZ t1 t2 K a b) H1
theorem pi_zp {e e2 : Expr} {ta : TA} (hg : Gl X "zip") (hm : X.mg "zip" = none) (ha : PA X [e, e2] ta) (hs : starEach [e, e2] X.env = (false, eval e X.env) :: starEach [e2] X.env) (hpl : (backTo pos (starEach [e2] X.env)).any (·.1) = false) :
    PI X (.Tuple elts kk tpos) (.Call (.Name "zip" p) [e, e2] [] pos) (iZp X.K ta) where
  run pins s σ H R I h := by
    refine Call_ (ld_blt I hg hm PyProof.Rows.boot_zip (PyProof.Rows.callWith_type1 (wpAny_mono (ha.run pos pins s σ H _ I h) (fun us s1 hus => ?_) fun _ _ e => e) hs hpl))
    obtain ⟨vs, H1, I1, r1, t1, t2, a, b, xs, ys, rfl, hq1, hq2, q⟩ := hus
    obtain ⟨u1, u2, rfl, ra, rb⟩ := r1.two
    cases ra
    cases rb
    obtain ⟨its, _, raw1, la⟩ := inv_sq I1 hq1
    obtain ⟨its2, _, raw2, lb⟩ := inv_sq I1 hq2
    have la' : a < s1.heap.objs.size := la
    have lb' : b < s1.heap.objs.size := lb
    refine zip_begins2 (begins_k t1 a its.toArray) (begins_k t2 b its2.toArray) raw1 raw2 fun hn hz hTI hTO h1 h2 _ hk => wpAny_pyIter_zip hz ⟨_, _, _, _, H1, rfl, I1.kept (t' := s1.toks) hk,
      turn_zipK (zip_sep2 (fp1 := [a]) (fp2 := [b]) (by simpa using la') (by simpa using lb')) (Nat.ne_of_lt la') (Nat.ne_of_lt (Nat.lt_succ_of_lt lb')), ⟨hz, hTI, ⟨_, _, hTO⟩, iter_new h1, iter_new h2⟩, fp_new I1 ?_, q⟩
    intro c mc
    simp at mc
    rcases mc with m | m | m | m | m <;> (rw [m]; first | exact Nat.le_refl _ | exact Nat.le_add_right s1.heap.objs.size _)
end
end Mn
-- text MnLoop
section
set_option maxHeartbeats 1000000
/-! Mn: what is walked, targets, comprehensions, loops -/
namespace Mn
open PySem PySem.Spec L2 PyProof.Rows

def cur : Src → MH → Option (List PV)
  | .st xs, _ => some xs
  | .rf n, h => h[n]?
def Src.ends : Src → Nat → Nat → Prop
  | .st _, i, n => i = n
  | .rf _, i, n => n ≤ i
/-- the iterator J walks src, from this point on -/
def Wk (K : PySem.W.Frag) (mg : Str → Option Value) (μ : Mu) (H : Hp) (J : It) (src : Src) : Prop := ∀ (μ2 : Mu) (H2 : Hp) (h2 : MH), Ext μ H μ2 H2 → Hh K mg μ2 H2 h2 → ∀ ys, cur src h2 = some ys →
  (∀ i, i < ys.length → J.go i H2) ∧ (∀ i, src.ends i ys.length → J.stop i H2) ∧
  ∀ i x H3, i < ys.length → J.yld i H2 x H3 → ∃ v, ys[i]? = some v ∧ Ext μ2 H2 μ2 H3 ∧ Hh K mg μ2 H3 h2 ∧ Rep K mg H3 μ2 v x
def tId (K : PySem.W.Frag) (mg : Str → Option Value) (d : IDen) : TI := fun σ H R => ∃ μ env h src h', Hh K mg μ H h ∧ Ev K mg μ H σ env ∧ d env h = some (src, h') ∧
  ∀ (μ' : Mu) (H' : Hp) (J : It), Ext μ H μ' H' → Hh K mg μ' H' h' → Wk K mg μ' H' J src → R J H'
abbrev MI (X : Cx) (tg e : Expr) (d : IDen) : Prop := PI X tg e (tId X.K X.mg d)
theorem _root_.L2.PI.imp {X : Cx} {tg e : Expr} {t t' : TI} (p : PI X tg e t) (h : ∀ σ H R, t' σ H R → t σ H R) : PI X tg e t' := ⟨fun pins s σ H R I q => p.run pins s σ H R I (h σ H R q)⟩
section
variable {K : PySem.W.Frag} {mg : Str → Option Value} {H : Hp} {μ : Mu} {a b : Addr} {us ws : List V} {xs ys : List PV}
theorem wk_tup (t : TupA K H μ a us) (r : RepAll K mg H μ xs us) : Wk K mg μ H (Itt K a) (.st xs) := by
  intro μ2 H2 h2 E hh ys e
  cases e
  have q := (t.ext E).sq
  have r2 := r.ext E
  have hl := r2.length
  refine ⟨fun i hi => ⟨us, us[i]'(by omega), q, by simp⟩, fun i hi => ⟨us, q, by have : i = xs.length := hi; omega⟩, fun i x H3 hi y => ?_⟩
  obtain ⟨rfl, y⟩ := y
  obtain ⟨v, hv, rv⟩ := r2.getV (y us q)
  exact ⟨v, hv, hh.refl, hh, rv⟩
theorem wk_lst (h : ∀ (μ2 : Mu) (H2 : Hp), Ext μ H μ2 H2 → SqL K H2 a us) (r : RepAll K mg H μ xs us) : Wk K mg μ H (Itl K a) (.st xs) := by
  intro μ2 H2 h2 E hh ys e
  cases e
  have q := h _ _ E
  have r2 := r.ext E
  have hl := r2.length
  refine ⟨fun i hi => ⟨us, us[i]'(by omega), q, by simp⟩, fun i hi => ⟨us, q, by have : i = xs.length := hi; omega⟩, fun i x H3 hi y => ?_⟩
  obtain ⟨rfl, y⟩ := y
  obtain ⟨v, hv, rv⟩ := r2.getV (y us q)
  exact ⟨v, hv, hh.refl, hh, rv⟩
theorem wk_ref {n : Nat} (g : μ.l[n]? = some a) : Wk K mg μ H (Itl K a) (.rf n) := by
  intro μ2 H2 h2 E hh ys e
  obtain ⟨p, us, h1, h3, r2, _⟩ := hh.obj n ys e
  have g2 := E.get g
  rw [h1] at g2; cases g2
  have q : SqL K H2 a us := .of h3
  have hl := r2.length
  refine ⟨fun i hi => ⟨us, us[i]'(by omega), q, by simp⟩, fun i hi => ⟨us, q, by have : ys.length ≤ i := hi; omega⟩, fun i x H3 hi y => ?_⟩
  obtain ⟨rfl, y⟩ := y
  obtain ⟨v, hv, rv⟩ := r2.getV (y us q)
  exact ⟨v, hv, hh.refl, hh, rv⟩
theorem rgL_length (lo hi : Int) : (rgL lo hi).length = (hi - lo).toNat := by simp [rgL]
theorem wk_range (lo hi : Int) : Wk K mg μ H (Itr lo (hi - lo).toNat) (.st (rgL lo hi)) := by
  intro μ2 H2 h2 E hh ys e
  cases e
  refine ⟨fun i h => ?_, fun i h => ?_, fun i x H3 h y => ?_⟩
  · rw [rgL_length] at h; exact h
  · have h' : i = (rgL lo hi).length := h
    rw [rgL_length] at h'; exact Nat.le_of_eq h'.symm
  · obtain ⟨rfl, rfl⟩ := y
    rw [rgL_length] at h
    exact ⟨.int (lo + i), by unfold rgL; rw [List.getElem?_map, List.getElem?_range h]; rfl, hh.refl, hh, .int _⟩
/-- a list (false) or a tuple (true) that stands fast -/
def StA (tp : Bool) (K : PySem.W.Frag) (H : Hp) (μ : Mu) (a : Addr) (us : List V) : Prop := match tp with
  | false => (H a = some (.lst us) ∧ μ.out a) ∨ Fix K H μ a us
  | true => TupA K H μ a us
theorem StA.ext {tp : Bool} {μ2 : Mu} {H2 : Hp} (E : Ext μ H μ2 H2) (h : StA tp K H μ a us) : StA tp K H2 μ2 a us := by
  cases tp with
  | false =>
    rcases h with ⟨h, o⟩ | h
    · exact .inl ⟨E.kept _ _ h o.1, E.out h o⟩
    · exact .inr (h.ext E)
  | true => exact TupA.ext E h
theorem StA.sq {tp : Bool} (h : StA tp K H μ a us) : SqK tp K H a us := by
  cases tp with
  | false =>
    rcases h with ⟨h, o⟩ | h
    · exact .of h
    · exact h.sq
  | true => exact TupA.sq h
theorem stV_ok {x : PV} {u : V} (r : Rep K mg H μ x u) (e : stV x = some xs) : ∃ tp p us, u = .ref p ∧ StA tp K H μ p us ∧ RepAll K mg H μ xs us := by
  cases r with
  | tup h1 h3 => cases e; exact ⟨true, _, _, rfl, h1, h3⟩
  | lst h1 h2 h3 => cases e; exact ⟨false, _, _, rfl, .inl ⟨h1, h2⟩, h3⟩
  | scr h1 h3 => cases e; exact ⟨false, _, _, rfl, .inr h1, h3⟩
  | _ => cases e
theorem enumL_length : ∀ (k : Nat) (xs : List PV), (enumL k xs).length = xs.length
  | _, [] => rfl
  | k, x :: xs => by unfold enumL; rw [List.length_cons, List.length_cons, enumL_length (k + 1) xs]
theorem enumL_get : ∀ (k : Nat) (xs : List PV) (i : Nat) (v : PV), xs[i]? = some v → (enumL k xs)[i]? = some (.tup [.int ((k + i : Nat) : Int), v])
  | _, [], i, v, h => by simp at h
  | k, x :: xs, 0, v, h => by
    have : x = v := by simpa using h
    subst this
    rfl
  | k, x :: xs, i + 1, v, h => by
    have e := enumL_get (k + 1) xs i v (by simpa using h)
    rw [show k + 1 + i = k + (i + 1) by omega] at e
    unfold enumL
    simpa using e
theorem zip2_get : ∀ (xs ys : List PV) (i : Nat) (v w : PV), xs[i]? = some v → ys[i]? = some w → (zip2 xs ys)[i]? = some (.tup [v, w])
  | [], _, i, v, w, h, _ => by simp at h
  | _ :: _, [], i, v, w, _, h => by simp at h
  | x :: xs, y :: ys, 0, v, w, h, h2 => by
    have e1 : x = v := by simpa using h
    have e2 : y = w := by simpa using h2
    subst e1 e2
    rfl
  | x :: xs, y :: ys, i + 1, v, w, h, h2 => by
    have e := zip2_get xs ys i v w (by simpa using h) (by simpa using h2)
    unfold zip2
    simpa using e
theorem zip2_length : ∀ (xs ys : List PV), (zip2 xs ys).length = min xs.length ys.length
  | [], _ => by simp [zip2]
  | _ :: _, [] => by simp [zip2]
  | x :: xs, y :: ys => by unfold zip2; rw [List.length_cons, List.length_cons, List.length_cons, zip2_length xs ys]; omega
theorem wk_enum {tp : Bool} (t : StA tp K H μ a us) (r : RepAll K mg H μ xs us) : Wk K mg μ H (ItE tp K a) (.st (enumL 0 xs)) := by
  intro μ2 H2 h2 E hh ys e
  cases e
  have q := (t.ext E).sq
  have r2 := r.ext E
  have hl := r2.length
  have he := enumL_length 0 xs
  refine ⟨fun i hi => ⟨us, us[i]'(by omega), q, by simp⟩, fun i hi => ⟨us, q, by have : i = (enumL 0 xs).length := hi; omega⟩, fun i x H3 hi y => ?_⟩
  obtain ⟨T, x, rfl, hT, rfl, y⟩ := y
  obtain ⟨v, hv, rv⟩ := r2.getV (y us q)
  obtain ⟨E', hh', out⟩ := hh.new (o := .tup [.int (i : Nat), x]) hT
  refine ⟨_, enumL_get 0 xs i v hv, E', hh', .tup (.inl ⟨.inl upd_same, out⟩) (.cons ?_ (.cons (rv.ext E') .nil))⟩
  rw [Nat.zero_add]
  exact .int _
theorem wk_zip {t1 t2 : Bool} (s1 : StA t1 K H μ a us) (r1 : RepAll K mg H μ xs us) (s2 : StA t2 K H μ b ws) (r2 : RepAll K mg H μ ys ws) : Wk K mg μ H (ItZ t1 t2 K a b) (.st (zip2 xs ys)) := by
  intro μ2 H2 h2 E hh zs e
  cases e
  have q1 := (s1.ext E).sq
  have q2 := (s2.ext E).sq
  have x1 := r1.ext E
  have x2 := r2.ext E
  have hl1 := x1.length
  have hl2 := x2.length
  have hz := zip2_length xs ys
  refine ⟨fun i hi => ⟨us, ws, us[i]'(by omega), ws[i]'(by omega), q1, q2, by simp, by simp⟩, fun i hi => ⟨us, ws, q1, q2, ?_, ?_, ?_⟩, fun i x H3 hi y => ?_⟩
  · have : i = (zip2 xs ys).length := hi; omega
  · have : i = (zip2 xs ys).length := hi; omega
  · have : i = (zip2 xs ys).length := hi; omega
  · obtain ⟨T, x, z, rfl, hT, rfl, y1, y2⟩ := y
    obtain ⟨v, hv, rv⟩ := x1.getV (y1 us q1)
    obtain ⟨w, hw, rw'⟩ := x2.getV (y2 ws q2)
    obtain ⟨E', hh', out⟩ := hh.new (o := .tup [x, z]) hT
    exact ⟨_, zip2_get xs ys i v w hv hw, E', hh', .tup (.inl ⟨.inl upd_same, out⟩) (.cons (rv.ext E') (.cons (rw'.ext E') .nil))⟩
end

/-! ### sources -/
def iRg1 (a : Den) : IDen := fun e h => match a e h with
  | some (.int j, h1) => match rgOk 0 j with
    | true => some (.st (rgL 0 j), h1)
    | false => none
  | _ => none
def iRg2 (a b : Den) : IDen := fun e h => match a e h with
  | some (.int i, h1) => match b e h1 with
    | some (.int j, h2) => match rgOk i j with
      | true => some (.st (rgL i j), h2)
      | false => none
    | _ => none
  | _ => none
def iEn (a : Den) : IDen := fun e h => match a e h with
  | some (x, h1) => match stV x with
    | some xs => some (.st (enumL 0 xs), h1)
    | none => none
  | none => none
def iZi (a b : Den) : IDen := fun e h => match a e h with
  | some (x, h1) => match b e h1 with
    | some (y, h2) => match stV x, stV y with
      | some xs, some ys => some (.st (zip2 xs ys), h2)
      | _, _ => none
    | none => none
  | none => none
section
variable {X : Cx} {tg a b : Expr} {da db : Den} {p pos tpos : Pos} {elts : List Expr} {kk : Nat}
theorem mi_seq (ha : ME X a da) : MI X tg a (iSeq da) := by
  refine (pi_any ha).imp fun σ H R hq => ?_
  obtain ⟨μ, env, h, src, h', hh, ev, e, k⟩ := hq
  unfold iSeq at e
  split at e
  · rename_i xs h1 e1
    cases e
    refine ⟨μ, env, h, _, _, hh, ev, e1, fun μ1 H1 u E1 hh1 r1 => ?_⟩
    cases r1 with
    | tup t r => exact ⟨_, rfl, .inr ⟨⟨_, t.sq⟩, k μ1 H1 _ E1 hh1 (wk_tup t r)⟩⟩
  · rename_i xs h1 e1
    cases e
    refine ⟨μ, env, h, _, _, hh, ev, e1, fun μ1 H1 u E1 hh1 r1 => ?_⟩
    cases r1 with
    | lst t o r => exact ⟨_, rfl, .inl ⟨⟨_, .of t⟩, k μ1 H1 _ E1 hh1 (wk_lst (fun μ2 H2 E => .of (E.kept _ _ t o.1)) r)⟩⟩
  · rename_i xs h1 e1
    cases e
    refine ⟨μ, env, h, _, _, hh, ev, e1, fun μ1 H1 u E1 hh1 r1 => ?_⟩
    cases r1 with
    | scr t r => exact ⟨_, rfl, .inl ⟨⟨_, t.sq⟩, k μ1 H1 _ E1 hh1 (wk_lst (fun μ2 H2 E => (t.ext E).sq) r)⟩⟩
  · rename_i n h1 e1
    cases e
    refine ⟨μ, env, h, _, _, hh, ev, e1, fun μ1 H1 u E1 hh1 r1 => ?_⟩
    cases r1 with
    | ref g =>
      obtain ⟨us, hu⟩ := hh1.trk.lst _ (List.mem_of_getElem? g)
      exact ⟨_, rfl, .inl ⟨⟨_, .of hu⟩, k μ1 H1 _ E1 hh1 (wk_ref g)⟩⟩
  · cases e
theorem rgOk_ok {a b : Int} (h : rgOk a b = true) : -(2 ^ 62) ≤ a ∧ a < 2 ^ 62 ∧ -(2 ^ 62) ≤ b ∧ b < 2 ^ 62 := by
  unfold rgOk at h
  simp only [Bool.and_eq_true, decide_eq_true_eq, Nat.ble_eq] at h
  omega
theorem mi_rg1 (hg : Gl X "range") (hm : X.mg "range" = none) (ha : ME X a da) (hs : isStar a = false) : MI X tg (.Call (.Name "range" p) [a] [] pos) (iRg1 da) := by
  refine (pi_range1 hg hm (pa_cons ha pa_nil (star_of hs _ _)) (star_of hs _ _)).imp fun σ H R hq => ?_
  obtain ⟨μ, env, h, src, h', hh, ev, e, k⟩ := hq
  unfold iRg1 at e
  split at e
  · rename_i j h1 e1
    split at e
    · rename_i ok
      cases e
      obtain ⟨_, _, h3, h4⟩ := rgOk_ok ok
      refine ⟨μ, env, h, _, _, hh, ev, e1, fun μ1 H1 u E1 hh1 r1 => ⟨j, by rw [r1.int_inv], h3, h4, ?_⟩⟩
      have q := k μ1 H1 _ E1 hh1 (wk_range 0 j)
      rw [Int.sub_zero] at q
      exact q
    · cases e
  · cases e
theorem mi_rg2 (hg : Gl X "range") (hm : X.mg "range" = none) (ha : ME X a da) (hb : ME X b db) (hs : isStar a = false) (hs2 : isStar b = false) : MI X tg (.Call (.Name "range" p) [a, b] [] pos) (iRg2 da db) := by
  refine (pi_range2 hg hm (pa_cons ha (pa_cons hb pa_nil (star_of hs2 _ _)) (star_of hs _ _)) (by rw [star_of hs, star_of hs2]; rfl) (star_of hs2 _ _)).imp fun σ H R hq => ?_
  obtain ⟨μ, env, h, src, h', hh, ev, e, k⟩ := hq
  unfold iRg2 at e
  split at e
  · rename_i i h1 e1
    split at e
    · rename_i j h2 e2
      split at e
      · rename_i ok
        cases e
        exact two hh ev e1 e2 fun μ' H' a b E hh' ra rb => ⟨i, j, by rw [ra.int_inv, rb.int_inv], rgOk_ok ok, k μ' H' _ E hh' (wk_range i j)⟩
      · cases e
    · cases e
  · cases e
theorem mi_enum (hg : Gl X "enumerate") (hm : X.mg "enumerate" = none) (ha : ME X a da) (hs : isStar a = false) : MI X (.Tuple elts kk tpos) (.Call (.Name "enumerate" p) [a] [] pos) (iEn da) := by
  refine (pi_enm hg hm (pa_cons ha pa_nil (star_of hs _ _)) (star_of hs _ _)).imp fun σ H R hq => ?_
  obtain ⟨μ, env, h, src, h', hh, ev, e, k⟩ := hq
  unfold iEn at e
  split at e
  · rename_i x h1 e1
    split at e
    · rename_i xs e2
      cases e
      refine ⟨μ, env, h, _, _, hh, ev, e1, fun μ1 H1 u E1 hh1 r1 => ?_⟩
      obtain ⟨tp, p, us, rfl, t, r⟩ := stV_ok r1 e2
      exact ⟨tp, p, us, rfl, t.sq, k μ1 H1 _ E1 hh1 (wk_enum t r)⟩
    · cases e
  · cases e
theorem mi_zip (hg : Gl X "zip") (hm : X.mg "zip" = none) (ha : ME X a da) (hb : ME X b db) (hs : isStar a = false) (hs2 : isStar b = false) : MI X (.Tuple elts kk tpos) (.Call (.Name "zip" p) [a, b] [] pos) (iZi da db) := by
  refine (pi_zp hg hm (pa_cons ha (pa_cons hb pa_nil (star_of hs2 _ _)) (star_of hs _ _)) (star_of hs _ _) (by rw [star_of hs2]; rfl)).imp fun σ H R hq => ?_
  obtain ⟨μ, env, h, src, h', hh, ev, e, k⟩ := hq
  unfold iZi at e
  split at e
  · rename_i x h1 e1
    split at e
    · rename_i y h2 e2
      split at e
      · rename_i xs ys q1 q2
        cases e
        refine two hh ev e1 e2 fun μ' H' a b E hh' ra rb => ?_
        obtain ⟨t1, p1, us, rfl, s1, r1⟩ := stV_ok ra q1
        obtain ⟨t2, p2, ws, rfl, s2, r2⟩ := stV_ok rb q2
        exact ⟨t1, t2, p1, p2, us, ws, rfl, s1.sq, s2.sq, k μ' H' _ E hh' (wk_zip s1 r1 s2 r2)⟩
      · cases e
    · cases e
  · cases e
end

/-! ### targets of loops -/
theorem wipe_at (σ : L2.St) : ∀ (vs : List Nat) (j : Nat), (L2.wipe σ vs)[j]? = if j ∈ vs then (if j < σ.length then some none else none) else σ[j]?
  | [], j => by simp [L2.wipe]
  | v :: vs, j => by
    show ((L2.wipe σ vs).set v none)[j]? = _
    rw [List.getElem?_set]
    by_cases h : v = j
    · subst h
      rw [if_pos rfl, wipe_length]
      simp
    · rw [if_neg h, wipe_at σ vs j]
      have : j ≠ v := fun z => h z.symm
      simp [this]
theorem wipe_set {σ : L2.St} {vs : List Nat} {i : Nat} (x : Option V) (h : i ∈ vs) : L2.wipe (σ.set i x) vs = L2.wipe σ vs := by
  apply List.ext_getElem?
  intro j
  rw [wipe_at, wipe_at]
  by_cases hj : j ∈ vs
  · rw [if_pos hj, if_pos hj, List.length_set]
  · rw [if_neg hj, if_neg hj, List.getElem?_set_ne]
    rintro rfl
    exact hj h
theorem wipe_wipe (σ : L2.St) (vs : List Nat) : L2.wipe (L2.wipe σ vs) vs = L2.wipe σ vs := by
  apply List.ext_getElem?
  intro j
  rw [wipe_at, wipe_length, wipe_at]
  by_cases hj : j ∈ vs
  · rw [if_pos hj, if_pos hj]
  · rw [if_neg hj, if_neg hj]
def tAd (K : PySem.W.Frag) (mg : Str → Option Value) (own : List Nat) (a : Asg) : TG := fun v σ H Q => ∃ μ env x e', Ev K mg μ H σ env ∧ Rep K mg H μ x v ∧ a x env = some e' ∧ ∀ σ', Ev K mg μ H σ' e' → L2.wipe σ' own = L2.wipe σ own → Q σ' H
def tAds (K : PySem.W.Frag) (mg : Str → Option Value) (own : List Nat) (a : Asgs) : TGs := fun vs σ H Q => ∃ μ env xs e', Ev K mg μ H σ env ∧ RepAll K mg H μ xs vs ∧ a xs env = some e' ∧ ∀ σ', Ev K mg μ H σ' e' → L2.wipe σ' own = L2.wipe σ own → Q σ' H
abbrev MA (X : Cx) (own : List Nat) (tg : Expr) (a : Asg) : Prop := PG X tg (tAd X.K X.mg own a)
abbrev MAs (X : Cx) (own : List Nat) (tg : List Expr) (a : Asgs) : Prop := PGs X tg (tAds X.K X.mg own a)
theorem _root_.L2.PG.imp {X : Cx} {e : Expr} {t t' : TG} (p : PG X e t) (h : ∀ v σ H Q, t' v σ H Q → t v σ H Q) : PG X e t' := ⟨fun pins s σ H v u Q I r q => p.run pins s σ H v u Q I r (h v σ H Q q)⟩
theorem _root_.L2.PGs.imp {X : Cx} {e : List Expr} {t t' : TGs} (p : PGs X e t) (h : ∀ v σ H Q, t' v σ H Q → t v σ H Q) : PGs X e t' := ⟨fun pins s σ H v u Q I r q => p.run pins s σ H v u Q I r (h v σ H Q q)⟩
section
variable {X : Cx} {pos : Pos} {own : List Nat}
theorem ma_name {i : Nat} {x : Str} (hN : X.N.Nodup) (hi : X.N[i]? = some x) (hx : Loc X.env.scope x) (hf : X.fn x = true ∨ X.env.scope.names.lookup x = some .local) (ho : i ∈ own) : MA X own (.Name x pos) (aName i) := by
  refine (pg_name hN hi hx hf).imp fun v σ H Q hq => ?_
  obtain ⟨μ, env, y, e', ev, r, e, k⟩ := hq
  cases e
  exact k _ (ev.set i r) (wipe_set _ ho)
theorem mas_nil : MAs X own [] aNil := by
  refine pgs_nil.imp fun v σ H Q hq => ?_
  obtain ⟨μ, env, xs, e', ev, r, e, k⟩ := hq
  cases r with
  | nil => cases e; exact ⟨rfl, k σ ev rfl⟩
  | cons _ _ => cases e
theorem each_of {e : Expr} (h : isStar e = false) (es : List Expr) (env : PySem.Env) : assignEach (e :: es) env = (false, assign e env) :: assignEach es env := by
  cases e <;> first | rfl | cases h
theorem mas_cons {e : Expr} {es : List Expr} {a : Asg} {u : Asgs} (h1 : MA X own e a) (h2 : MAs X own es u) (hs : isStar e = false) : MAs X own (e :: es) (aCons a u) := by
  refine (pgs_cons h1 h2 (by rw [each_of hs]; rfl)).imp fun v σ H Q hq => ?_
  obtain ⟨μ, env, xs, e', ev, r, e, k⟩ := hq
  cases r with
  | nil => cases e
  | cons r rr =>
    unfold aCons at e
    simp only at e
    split at e
    · rename_i e1 q1
      exact ⟨_, _, rfl, μ, env, _, e1, ev, r, q1, fun σ1 ev1 w1 => ⟨μ, e1, _, e', ev1, rr, e, fun σ2 ev2 w2 => k σ2 ev2 (w2.trans w1)⟩⟩
    · cases e
theorem each_len (env : PySem.Env) : ∀ {es : List Expr}, noStar es = true → (assignEach es env).length = es.length ∧ (assignEach es env).findIdx? (·.1) = none
  | [], _ => ⟨rfl, rfl⟩
  | e :: es, h => by
    have h' := Bool.and_eq_true_iff.mp (show (!isStar e && noStar es) = true from h)
    obtain ⟨h1, h2⟩ := each_len env h'.2
    rw [each_of (by simpa using h'.1)]
    refine ⟨by simp [h1], ?_⟩
    rw [List.findIdx?_cons, h2]
    rfl
theorem ma_tup {es : List Expr} {k : Nat} {u : Asgs} (hc : X.calm = true) (h : MAs X own es u) (hs : noStar es = true) : MA X own (.Tuple es k pos) (aTup es.length u) := by
  refine (pg_tup hc h (each_len X.env hs).1 (each_len X.env hs).2).imp fun v σ H Q hq => ?_
  obtain ⟨μ, env, x, e', ev, r, e, k⟩ := hq
  unfold aTup at e
  split at e
  · split at e
    · rename_i hb
      obtain ⟨p, us, rfl, t, r⟩ := r.tup_inv
      exact ⟨p, us, rfl, t.sq, by rw [← r.length]; exact Nat.eq_of_beq_eq_true hb, μ, env, _, e', ev, r, e, k⟩
    · cases e
  · cases e
end

/-! ### comprehensions -/
def tYesD : TDen := fun _ h => some (true, h)
abbrev MTs (X : Cx) (ifs : List Expr) (d : TDen) : Prop := PTs X ifs (tTd X.K X.mg d)
theorem mts_nil {X : Cx} : MTs X [] tYesD := ⟨fun pins s σ H Q I hq => by
  obtain ⟨μ, env, h, c, h', hh, ev, e, k⟩ := hq
  cases e
  exact pts_nil.run pins s σ H Q I (k μ H hh.refl hh)⟩
theorem mts_one {X : Cx} {c : Expr} {d : TDen} (h : MT X c d) : MTs X [c] d := pts_one h
section
variable {X : Cx}
theorem lc_end {K : PySem.W.Frag} {mg : Str → Option Value} {μ1 μ' : Mu} {H1 H' : Hp} {h1 h2 h' : MH} {m : Nat} {vs : List PV} {us : List V} {v : PV} {D : Addr} {Q : VK} (hh1 : Hh K mg μ1 H1 h1) (nD : H1 D = none) (E : Ext μ1 H1 μ' H') (hh : Hh K mg μ' H' h2) (hD : D ∈ μ'.hid) (hd : H' D = some (.lst us))
    (r : RepAll K mg H' μ' vs us) (e : mkL m vs h2 = some (v, h')) (k : ∀ (μ2 : Mu) (H2 : Hp) (u : V), Ext μ1 H1 μ2 H2 → Hh K mg μ2 H2 h' → Rep K mg H2 μ2 v u → Q u H2) : Q (.ref D) H' := by
  have nh : D ∉ μ1.hid := fun z => by
    obtain ⟨⟨o, q⟩, _⟩ := hh1.hid D z
    rw [nD] at q; cases q
  unfold mkL at e
  cases hb : Nat.ble vs.length lim with
  | false => rw [hb] at e; cases e
  | true =>
    rw [hb] at e
    cases m with
    | zero =>
      cases e
      exact k _ H' _ E.back (hh.back E) (.lst hd ⟨(hh.hid D hD).2, nh⟩ (r.back E))
    | succ m =>
      cases e
      obtain ⟨E2, hh2⟩ := hh.join E hD hd nD nh r
      exact k _ H' _ E2 hh2 (.ref (by show (μ'.l ++ [D])[h2.length]? = some D; rw [← hh.len]; simp))
theorem lim_lt {n : Nat} (h : Nat.ble n lim = true) : n < sizeLine := by
  have := Nat.le_of_ble_eq_true h
  unfold lim at this
  rw [sizeLine_eq]; omega
/-- the point of a comprehension -/
structure LcI (K : PySem.W.Frag) (mg : Str → Option Value) (μ1 : Mu) (H1 : Hp) (D : Addr) (σ0 : L2.St) (env0 : Env) (H : Hp) (h : MH) (acc : List PV) (i : Nat) : Prop where
  ex : ∃ μ us, Ext μ1 H1 μ H ∧ Hh K mg μ H h ∧ D ∈ μ.hid ∧ H D = some (.lst us) ∧ RepAll K mg H μ acc us ∧ acc.length ≤ i ∧ Ev K mg μ H σ0 env0
theorem Ev.put {K : PySem.W.Frag} {mg : Str → Option Value} {H : Hp} {μ : Mu} {σ : L2.St} {env : Env} {D : Addr} {o : HO} (hD : D ∈ μ.hid) (ev : Ev K mg μ H σ env) : Ev K mg μ (upd H D o) σ env := ⟨ev.len, fun i v hv => by
  obtain ⟨u, h1, h2⟩ := ev.get i v hv
  exact ⟨u, h1, h2.put hD⟩⟩
theorem lc_step {K : PySem.W.Frag} {mg : Str → Option Value} {μ1 : Mu} {H1 : Hp} {D : Addr} {σ : L2.St} {env0 e : Env} {H : Hp} {h h1 : MH} {acc ys : List PV} {i : Nat} {J : It} {src : Src} {own : List Nat} {asg : Asg} {tst : TDen} {elt : Den} {v : PV} {b : Bool} {Nx : Hp → Prop} (nD : H1 D = none)
    (L : LcI K mg μ1 H1 D (L2.wipe σ own) env0 H h acc i) (wk : Wk K mg μ1 H1 J src) (hc : cur src h = some ys) (hv : ys[i]? = some v) (hi : i < sizeLine) (ha : asg v env0 = some e) (ht : tst e h = some (b, h1))
    (hN : if b = true then ∃ y h2, elt e h1 = some (y, h2) ∧ ∀ H', LcI K mg μ1 H1 D (L2.wipe σ own) env0 H' h2 (acc ++ [y]) (i + 1) → Nx H' else ∀ H', LcI K mg μ1 H1 D (L2.wipe σ own) env0 H' h1 acc (i + 1) → Nx H') :
    J.go i H ∧ ∀ x H', J.yld i H x H' → tAd K mg own asg x (L2.wipe σ own) H' fun σ2 H2 => L2.wipe σ2 own = L2.wipe σ own ∧ tTd K mg tst σ2 H2 fun b H3 =>
      if b = true then tD K mg elt σ2 H3 fun y H4 => ∃ acc, H4 D = some (.lst acc) ∧ acc.length < sizeLine ∧ Nx (upd H4 D (.lst (acc ++ [y]))) else Nx H3 := by
  obtain ⟨μ, us, E, hh, hD, hd, r, hl, ev⟩ := L.ex
  obtain ⟨w1, w2, w3⟩ := wk μ H h E hh ys hc
  have hlt : i < ys.length := (List.getElem?_eq_some_iff.mp hv).1
  refine ⟨w1 i hlt, fun x H' y => ?_⟩
  obtain ⟨v', hv', E', hh', rv⟩ := w3 i x H' hlt y
  rw [hv] at hv'; cases hv'
  refine ⟨μ, env0, v, e, ev.ext E', rv, ha, fun σ2 ev2 w => ⟨w.trans (wipe_wipe _ _), μ, e, h, b, h1, hh', ev2, ht, fun μ3 H3 E3 hh3 => ?_⟩⟩
  have hdl := (hh.hid D hD).2
  have hd3 : H3 D = some (.lst us) := E3.kept _ _ (E'.kept _ _ hd hdl) hdl
  have hD3 : D ∈ μ3.hid := E3.hid1 _ hD
  cases b with
  | false =>
    show if false = true then _ else _
    rw [if_neg (by decide)]
    rw [if_neg (by decide)] at hN
    exact hN H3 ⟨μ3, us, (E.trans E').trans E3, hh3, hD3, hd3, (r.ext E').ext E3, by omega, (ev.ext E').ext E3⟩
  | true =>
    show if true = true then _ else _
    rw [if_pos rfl]
    rw [if_pos rfl] at hN
    obtain ⟨y, h2, hy, hN⟩ := hN
    refine ⟨μ3, e, h1, y, h2, hh3, ev2.ext E3, hy, fun μ4 H4 u E4 hh4 r4 => ?_⟩
    have hdl3 := (hh3.hid D hD3).2
    have hd4 : H4 D = some (.lst us) := E4.kept _ _ hd3 hdl3
    have hD4 : D ∈ μ4.hid := E4.hid1 _ hD3
    have hrl := r.length
    refine ⟨us, hd4, by omega, hN _ ⟨μ4, us ++ [u], (((E.trans E').trans E3).trans E4).turn nD hD4, hh4.turn hD4, hD4, upd_same, ?_, by simp; omega, (((ev.ext E').ext E3).ext E4).put hD4⟩⟩
    exact ((((r.ext E').ext E3).ext E4).put hD4).append (.cons (r4.put hD4) .nil)
theorem lc_tr {K : PySem.W.Frag} {mg : Str → Option Value} (m : Nat) {di : IDen} {asg : Asg} {tst : TDen} {de : Den} {own : List Nat} {σ : L2.St} {H : Hp} {Q : VK} (hq : tD K mg (dLc m di asg tst de own) σ H Q) :
    tLc (tId K mg di) (tAd K mg own asg) (tTd K mg tst) (tD K mg de) own σ H Q := by
  obtain ⟨μ, env, h, v, h', hh, ev, e, k⟩ := hq
  unfold dLc at e
  split at e
  · rename_i xs h1 e1
    split at e
    · rename_i vs h2 e2
      split at e
      · rename_i hb
        have hb' := lim_lt hb
        refine ⟨μ, env, h, _, h1, hh, ev, e1, fun μ1 H1 J E1 hh1 wk D nD => ?_⟩
        refine ⟨fun i mm H' => mm = xs.length - i ∧ i ≤ xs.length ∧ ∃ h' acc rest, LcI K mg μ1 H1 D (L2.wipe σ own) (Mn.wipe env own) H' h' acc i ∧ lcGo asg tst de (Mn.wipe env own) (xs.drop i) h' = some (rest, h2) ∧ acc ++ rest = vs, ⟨xs.length, by simp, Nat.zero_le _, h1, [], vs, ?_, by simpa using e2, rfl⟩, ?_⟩
        · obtain ⟨E2, hh2⟩ := hh1.begin (D := D) (o := .lst []) nD
          exact ⟨μ1.hide D, [], E2, hh2, List.mem_cons_self .., upd_same, .nil, Nat.le_refl _, ((ev.ext E1).ext E2).wipe own⟩
        · rintro i mm H' ⟨rfl, hi, h3, acc, rest, L, hg, hv⟩
          by_cases hlt : i < xs.length
          · right
            have hx : xs[i]? = some xs[i] := List.getElem?_eq_getElem hlt
            rw [List.drop_eq_getElem_cons hlt] at hg
            unfold lcGo at hg
            split at hg
            · cases hg
            · rename_i e4 ha
              split at hg
              · rename_i h4 ht
                split at hg
                · rename_i y h5 hy
                  split at hg
                  · rename_i vs' h6 hr
                    cases hg
                    have S := lc_step (Nx := fun H'' => xs.length - (i + 1) = xs.length - (i + 1) ∧ i + 1 ≤ xs.length ∧ ∃ h' acc rest, LcI K mg μ1 H1 D (L2.wipe σ own) (Mn.wipe env own) H'' h' acc (i + 1) ∧ lcGo asg tst de (Mn.wipe env own) (xs.drop (i + 1)) h' = some (rest, h2) ∧ acc ++ rest = vs)
                      nD L wk rfl hx (by omega) ha ht (elt := de) (by rw [if_pos rfl]; exact ⟨y, h5, hy, fun H'' L' => ⟨rfl, hlt, h5, _, _, L', hr, by rw [← hv]; simp⟩⟩)
                    exact ⟨S.1, _, fun H'' q => ⟨xs.length - (i + 1), by omega, q⟩, S.2⟩
                  · cases hg
                · cases hg
              · rename_i h4 ht
                have S := lc_step (Nx := fun H'' => xs.length - (i + 1) = xs.length - (i + 1) ∧ i + 1 ≤ xs.length ∧ ∃ h' acc rest, LcI K mg μ1 H1 D (L2.wipe σ own) (Mn.wipe env own) H'' h' acc (i + 1) ∧ lcGo asg tst de (Mn.wipe env own) (xs.drop (i + 1)) h' = some (rest, h2) ∧ acc ++ rest = vs)
                  nD L wk rfl hx (by omega) ha ht (elt := de) (by rw [if_neg (by decide)]; exact fun H'' L' => ⟨rfl, hlt, h4, _, _, L', hg, hv⟩)
                exact ⟨S.1, _, fun H'' q => ⟨xs.length - (i + 1), by omega, q⟩, S.2⟩
              · cases hg
          · left
            have hi2 : i = xs.length := by omega
            rw [List.drop_of_length_le (by omega)] at hg
            cases hg
            rw [List.append_nil] at hv
            subst hv
            obtain ⟨μ', us, E, hh', hD, hd, r, hl, ev'⟩ := L.ex
            exact ⟨((wk μ' H' h2 E hh' xs rfl).2.1) i hi2, lc_end hh1 nD E hh' hD hd r e fun μ2 H2 u E2 => k μ2 H2 u (E1.trans E2)⟩
      · cases e
    · cases e
  · rename_i n h1 e1
    split at e
    · rename_i xs ex
      split at e
      · rename_i hb
        have hb' := lim_lt hb
        split at e
        · rename_i vs h2 e2
          refine ⟨μ, env, h, _, h1, hh, ev, e1, fun μ1 H1 J E1 hh1 wk D nD => ?_⟩
          refine ⟨fun i mm H' => i + mm = xs.length + 1 ∧ ∃ h' acc rest, LcI K mg μ1 H1 D (L2.wipe σ own) (Mn.wipe env own) H' h' acc i ∧ lcRef asg tst de (Mn.wipe env own) n mm i h' = some (rest, h2) ∧ acc ++ rest = vs, ⟨xs.length + 1, by omega, h1, [], vs, ?_, e2, rfl⟩, ?_⟩
          · obtain ⟨E2, hh2⟩ := hh1.begin (D := D) (o := .lst []) nD
            exact ⟨μ1.hide D, [], E2, hh2, List.mem_cons_self .., upd_same, .nil, Nat.le_refl _, ((ev.ext E1).ext E2).wipe own⟩
          · rintro i mm H' ⟨hi, h3, acc, rest, L, hg, hv⟩
            cases mm with
            | zero => cases hg
            | succ mm =>
              unfold lcRef at hg
              split at hg
              · cases hg
              · rename_i ys hys
                split at hg
                · rename_i hnone
                  left
                  cases hg
                  rw [List.append_nil] at hv
                  subst hv
                  obtain ⟨μ', us, E, hh', hD, hd, r, hl, ev'⟩ := L.ex
                  exact ⟨((wk μ' H' h2 E hh' ys hys).2.1) i (List.getElem?_eq_none_iff.mp hnone), lc_end hh1 nD E hh' hD hd r e fun μ2 H2 u E2 => k μ2 H2 u (E1.trans E2)⟩
                · rename_i x hx
                  right
                  split at hg
                  · cases hg
                  · rename_i e4 ha
                    split at hg
                    · rename_i h4 ht
                      split at hg
                      · rename_i y h5 hy
                        split at hg
                        · rename_i vs' h6 hr
                          cases hg
                          have S := lc_step (Nx := fun H'' => (i + 1) + mm = xs.length + 1 ∧ ∃ h' acc rest, LcI K mg μ1 H1 D (L2.wipe σ own) (Mn.wipe env own) H'' h' acc (i + 1) ∧ lcRef asg tst de (Mn.wipe env own) n mm (i + 1) h' = some (rest, h2) ∧ acc ++ rest = vs)
                            nD L wk hys hx (by omega) ha ht (elt := de) (by rw [if_pos rfl]; exact ⟨y, h5, hy, fun H'' L' => ⟨by omega, h5, _, _, L', hr, by rw [← hv]; simp⟩⟩)
                          exact ⟨S.1, _, fun H'' q => ⟨mm, by omega, q⟩, S.2⟩
                        · cases hg
                      · cases hg
                    · rename_i h4 ht
                      have S := lc_step (Nx := fun H'' => (i + 1) + mm = xs.length + 1 ∧ ∃ h' acc rest, LcI K mg μ1 H1 D (L2.wipe σ own) (Mn.wipe env own) H'' h' acc (i + 1) ∧ lcRef asg tst de (Mn.wipe env own) n mm (i + 1) h' = some (rest, h2) ∧ acc ++ rest = vs)
                        nD L wk hys hx (by omega) ha ht (elt := de) (by rw [if_neg (by decide)]; exact fun H'' L' => ⟨by omega, h4, _, _, L', hg, hv⟩)
                      exact ⟨S.1, _, fun H'' q => ⟨mm, by omega, q⟩, S.2⟩
                    · cases hg
        · cases e
      · cases e
    · cases e
  · cases e
variable {elt tg iter : Expr} {ifs : List Expr} {scope : Scope} {own : List (Str × Nat)} {pos : Pos} {di : IDen} {asg : Asg} {tst : TDen} {de : Den}
theorem me_lc (m : Nat) (hc : X.calm = true) (hN : X.N.Nodup) (hi : MI X tg iter di) (ok : BlkOk X.N X.env.scope scope own)
    (hg : ∀ (s : Shared) (H : Hp) (C : Addr) (cl : List (Str × Addr)) (fp : List Addr), MA (X.blk s H scope (compEnvC scope cl C X.env) fp) (own.map (·.2)) tg asg) (ht : ∀ (s : Shared) (H : Hp) (C : Addr) (cl : List (Str × Addr)) (fp : List Addr), MTs (X.blk s H scope (compEnvC scope cl C X.env) fp) ifs tst)
    (he : ∀ (s : Shared) (H : Hp) (C : Addr) (cl : List (Str × Addr)) (fp : List Addr), ME (X.blk s H scope (compEnvC scope cl C X.env) fp) elt de) (hs : ∀ x, foldedSetIterable iter X.env x = pure x) :
    ME X (.ListComp elt [⟨tg, iter, ifs, 0⟩] scope pos) (dLc m di asg tst de (own.map (·.2))) :=
  (pe_lc hc hN hi ok hg ht he hs).imp fun σ H Q hq => lc_tr m hq
end
end Mn
end
-- text MnStmt
/-! Mn: statements -/
namespace Mn
open PySem PySem.Spec L2 PyProof.Rows

/-- what must hold of where a statement ends -/
def SEnd (K : PySem.W.Frag) (mg : Str → Option Value) (μ : Mu) (H : Hp) (D : Ends) : SR → Prop
  | .nx e h' => ∀ (μ' : Mu) (H' : Hp) (σ' : L2.St), Ext μ H μ' H' → Hh K mg μ' H' h' → Ev K mg μ' H' σ' e → D.nx σ' H'
  | .ct e h' => ∀ (μ' : Mu) (H' : Hp) (σ' : L2.St), Ext μ H μ' H' → Hh K mg μ' H' h' → Ev K mg μ' H' σ' e → D.ct σ' H'
  | .bk e h' => ∀ (μ' : Mu) (H' : Hp) (σ' : L2.St), Ext μ H μ' H' → Hh K mg μ' H' h' → Ev K mg μ' H' σ' e → D.bk σ' H'
  | .rt v h' => Go K mg μ H v h' D.rt
  | .ex _ => False
  | .bad => False
theorem SEnd.later {K : PySem.W.Frag} {mg : Str → Option Value} {μ μ1 : Mu} {H H1 : Hp} {D : Ends} {r : SR} (E : Ext μ H μ1 H1) (k : SEnd K mg μ H D r) : SEnd K mg μ1 H1 D r := by
  cases r with
  | nx e h => exact fun μ' H' σ' E' => k μ' H' σ' (E.trans E')
  | ct e h => exact fun μ' H' σ' E' => k μ' H' σ' (E.trans E')
  | bk e h => exact fun μ' H' σ' E' => k μ' H' σ' (E.trans E')
  | rt v h => exact fun μ' H' u E' => k μ' H' u (E.trans E')
  | ex h => exact k
  | bad => exact k
def tSd (K : PySem.W.Frag) (mg : Str → Option Value) (d : SDen) : TS := fun D σ H => ∃ μ env h, Hh K mg μ H h ∧ Ev K mg μ H σ env ∧ SEnd K mg μ H D (d env h)
abbrev MS (X : Cx) (st : Stmt) (d : SDen) : Prop := PS X st (tSd X.K X.mg d)
abbrev MSs (X : Cx) (sts : List Stmt) (d : SDen) : Prop := PSs X sts (tSd X.K X.mg d)
theorem _root_.L2.PS.imp {X : Cx} {st : Stmt} {t t' : TS} (p : PS X st t) (h : ∀ D σ H, t' D σ H → t D σ H) : PS X st t' := ⟨fun pins s σ H D I q => p.run pins s σ H D I (h D σ H q)⟩
theorem _root_.L2.PSs.imp {X : Cx} {st : List Stmt} {t t' : TS} (p : PSs X st t) (h : ∀ D σ H, t' D σ H → t D σ H) : PSs X st t' := ⟨fun pins s σ H D I q => p.run pins s σ H D I (h D σ H q)⟩
section
variable {X : Cx} {pos : Pos} {e a b : Expr} {da db : Den} {st : Stmt} {rest : List Stmt} {d d' : SDen}
theorem mss_nil : MSs X [] sNext := pss_nil.imp fun D σ H ⟨μ, env, h, hh, ev, k⟩ => k μ H σ hh.refl hh ev
theorem tSeq_ok {D : Ends} {σ : L2.St} {H : Hp} (q : tSd X.K X.mg (sSeq d d') D σ H) : tSeq (tSd X.K X.mg d) (tSd X.K X.mg d') D σ H := by
  obtain ⟨μ, env, h, hh, ev, k⟩ := q
  refine ⟨μ, env, h, hh, ev, ?_⟩
  unfold sSeq at k
  split at k
  · rename_i e1 h1 q1
    rw [q1]
    exact fun μ' H' σ' E hh' ev' => ⟨μ', e1, h1, hh', ev', k.later E⟩
  · rename_i r hr
    cases q : d env h with
    | nx e1 h1 => exact absurd q (hr e1 h1)
    | _ => rw [q] at k; exact k
theorem mss_cons (h1 : MS X st d) (h2 : MSs X rest d') : MSs X (st :: rest) (sSeq d d') := (pss_cons h1 h2).imp fun _ _ _ q => tSeq_ok q
theorem mss_one (h1 : MS X st d) : MSs X [st] d := pss_one h1
theorem ms_doc {x j pos'} : MS X (.Expr (.Constant (.str x) j pos) pos') sNext := ps_doc.imp fun D σ H ⟨μ, env, h, hh, ev, k⟩ => k μ H σ hh.refl hh ev
theorem ms_pass : MS X (.Pass pos) sNext := ps_pass.imp fun D σ H ⟨μ, env, h, hh, ev, k⟩ => k μ H σ hh.refl hh ev
def sBrk : SDen := fun e h => .bk e h
theorem ms_continue : MS X (.Continue pos) sCont := ps_continue.imp fun D σ H ⟨μ, env, h, hh, ev, k⟩ => k μ H σ hh.refl hh ev
theorem ms_break : MS X (.Break pos) sBrk := ps_break.imp fun D σ H ⟨μ, env, h, hh, ev, k⟩ => k μ H σ hh.refl hh ev
def sNever : SDen := fun _ _ => .bad
theorem ms_never : MS X st sNever := ps_never.imp fun D σ H ⟨μ, env, h, hh, ev, k⟩ => k
theorem ms_ret (he : ME X e da) : MS X (.Return (some e) pos) (sRet da) := (ps_ret he).imp fun D σ H ⟨μ, env, h, hh, ev, k⟩ => by
  unfold sRet at k
  split at k
  · rename_i v h1 q
    exact ⟨μ, env, h, v, h1, hh, ev, q, k⟩
  · exact k.elim
theorem ms_drop (he : ME X e da) (hs : swapsWith e none pos.line X.env = pure false) : MS X (.Expr e pos) (sDrop da) := (ps_expr he hs).imp fun D σ H ⟨μ, env, h, hh, ev, k⟩ => by
  unfold sDrop at k
  split at k
  · rename_i v h1 q
    exact ⟨μ, env, h, v, h1, hh, ev, q, fun μ1 H1 u E1 hh1 _ => k μ1 H1 σ E1 hh1 (ev.ext E1)⟩
  · exact k.elim
theorem ms_if {c : Expr} {p q : List Stmt} {tc : TDen} (hc : MT X c tc) (ha : MSs X p d) (hb : MSs X q d') : MS X (.If c p q pos) (sIf tc d d') := (ps_if hc ha hb).imp fun D σ H ⟨μ, env, h, hh, ev, k⟩ => by
  unfold sIf at k
  split at k
  · rename_i h1 q
    exact ⟨μ, env, h, _, h1, hh, ev, q, fun μ1 H1 E1 hh1 => iteT (A := tSd X.K X.mg d D σ H1) ⟨μ1, env, h1, hh1, ev.ext E1, k.later E1⟩⟩
  · rename_i h1 q
    exact ⟨μ, env, h, _, h1, hh, ev, q, fun μ1 H1 E1 hh1 => iteF (B := tSd X.K X.mg d' D σ H1) ⟨μ1, env, h1, hh1, ev.ext E1, k.later E1⟩⟩
  · exact k.elim

/-! ### assignments -/
def tGd (K : PySem.W.Frag) (mg : Str → Option Value) (g : GDen) : TG := fun v σ H Q => ∃ μ env h x e' h', Hh K mg μ H h ∧ Ev K mg μ H σ env ∧ Rep K mg H μ x v ∧ g x env h = some (e', h') ∧ ∀ (μ' : Mu) (H' : Hp) (σ' : L2.St), Ext μ H μ' H' → Hh K mg μ' H' h' → Ev K mg μ' H' σ' e' → Q σ' H'
def tGds (K : PySem.W.Frag) (mg : Str → Option Value) (g : GDens) : TGs := fun vs σ H Q => ∃ μ env h xs e' h', Hh K mg μ H h ∧ Ev K mg μ H σ env ∧ RepAll K mg H μ xs vs ∧ g xs env h = some (e', h') ∧ ∀ (μ' : Mu) (H' : Hp) (σ' : L2.St), Ext μ H μ' H' → Hh K mg μ' H' h' → Ev K mg μ' H' σ' e' → Q σ' H'
abbrev MG (X : Cx) (tg : Expr) (g : GDen) : Prop := PG X tg (tGd X.K X.mg g)
abbrev MGs (X : Cx) (tgs : List Expr) (g : GDens) : Prop := PGs X tgs (tGds X.K X.mg g)
theorem mg_name {i : Nat} {x : Str} (hN : X.N.Nodup) (hi : X.N[i]? = some x) (hx : Loc X.env.scope x) (hf : X.fn x = true ∨ X.env.scope.names.lookup x = some .local) : MG X (.Name x pos) (gA (aName i)) :=
  (pg_name hN hi hx hf).imp fun v σ H Q ⟨μ, env, h, y, e', h', hh, ev, r, q, k⟩ => by
    cases q
    exact k μ H _ hh.refl hh (ev.set i r)
theorem mgs_nil : MGs X [] gNil := pgs_nil.imp fun v σ H Q ⟨μ, env, h, y, e', h', hh, ev, r, q, k⟩ => by
  cases r with
  | nil => cases q; exact ⟨rfl, k μ H σ hh.refl hh ev⟩
  | cons _ _ => cases q
theorem mgs_cons {es : List Expr} {g : GDen} {gs : GDens} (h1 : MG X e g) (h2 : MGs X es gs) (hs : isStar e = false) : MGs X (e :: es) (gCons g gs) := (pgs_cons h1 h2 (by rw [each_of hs]; rfl)).imp fun v σ H Q ⟨μ, env, h, y, e', h', hh, ev, r, q, k⟩ => by
  cases r with
  | nil => cases q
  | cons r rr =>
    unfold Mn.gCons at q
    simp only at q
    split at q
    · rename_i e1 h1 q1
      exact ⟨_, _, rfl, μ, env, h, _, e1, h1, hh, ev, r, q1, fun μ1 H1 σ1 E1 hh1 ev1 => ⟨μ1, e1, h1, _, e', h', hh1, ev1, rr.ext E1, q, fun μ2 H2 σ2 E2 => k μ2 H2 σ2 (E1.trans E2)⟩⟩
    · cases q
theorem belAll_set {n : Nat} {x : PV} (hx : x.bel n = true) : ∀ {xs : List PV} {j : Nat}, belAll n xs = true → belAll n (xs.set j x) = true
  | [], _, h => by simpa using h
  | y :: ys, 0, h => by simp only [List.set, belAll, Bool.and_eq_true] at h ⊢; exact ⟨hx, h.2⟩
  | y :: ys, j + 1, h => by simp only [List.set, belAll, Bool.and_eq_true] at h ⊢; exact ⟨h.1, belAll_set hx h.2⟩
/-- a, b, .. = a tuple or a list of that length -/
def gUnp (n : Nat) (u : GDens) : GDen := fun v e h => match seqH h v with
  | some xs => match Nat.beq xs.length n with
    | true => u xs e h
    | false => none
  | none => none
theorem _root_.L2.PG.or {X : Cx} {tg : Expr} {t t' : TG} (p : PG X tg t) (p' : PG X tg t') : PG X tg fun v σ H Q => t v σ H Q ∨ t' v σ H Q := ⟨fun pins s σ H v u Q I r h => h.elim (p.run pins s σ H v u Q I r) (p'.run pins s σ H v u Q I r)⟩
theorem mg_unp {es : List Expr} {k : Nat} {u : GDens} (hc : X.calm = true) (h : MGs X es u) (hs : noStar es = true) : MG X (.Tuple es k pos) (gUnp es.length u) :=
  ((pg_tup hc h (each_len X.env hs).1 (each_len X.env hs).2).or (pg_lst hc h (each_len X.env hs).1 (each_len X.env hs).2)).imp fun v σ H Q ⟨μ, env, h, y, e', h', hh, ev, r, q, k⟩ => by
    unfold gUnp at q
    split at q
    · rename_i xs e1
      split at q
      · rename_i hb
        obtain ⟨p, us, rfl, sq, rr⟩ := seqH_ok hh r e1
        have hl : us.length = es.length := by rw [← rr.length]; exact Nat.eq_of_beq_eq_true hb
        rcases sq with sq | sq
        · exact .inr ⟨p, us, rfl, sq, hl, μ, env, h, xs, e', h', hh, ev, rr, q, k⟩
        · exact .inl ⟨p, us, rfl, sq, hl, μ, env, h, xs, e', h', hh, ev, rr, q, k⟩
      · cases q
    · cases q
theorem mg_sub {o i : Expr} {dob di : Den} (ho : ME X o dob) (hi : ME X i di) (ha : ∀ v, assign (.Subscript o i pos) X.env v = (do
      let ov ← holding [v] (eval o X.env)
      let iv ← holding [v, ov] (eval i X.env)
      standAt pos
      holding [v, ov, iv] (setItem ov iv v)
      release [v, ov, iv] [])) : MG X (.Subscript o i pos) (Mn.gSub dob di) := (pg_sub ho hi set_list ha).imp fun v σ H Q ⟨μ, env, h, y, e', h', hh, ev, r, q, k⟩ => by
  unfold Mn.gSub at q
  split at q
  · rename_i n h1 q1
    split at q
    · rename_i kk h2 q2
      split at q
      · rename_i xs q3
        split at q
        · rename_i j q4 q5
          cases q
          refine ⟨μ, env, h, _, h1, hh, ev, q1, fun μ1 H1 u1 E1 hh1 r1 => ⟨μ1, env, h1, _, h2, hh1, ev.ext E1, q2, fun μ2 H2 u2 E2 hh2 r2 => ?_⟩⟩
          have r1' := r1.ext E2
          have E := E1.trans E2
          obtain ⟨p, us, rfl, hp, rr⟩ := lstH_ok (x := .ref n) hh2 r1' q3
          have rv := r.ext E
          obtain ⟨E3, hh3⟩ : Ext μ2 H2 μ2 (upd H2 p (.lst (us.set j v))) ∧ Hh X.K X.mg μ2 (upd H2 p (.lst (us.set j v))) (h2.set n (xs.set j y)) := by
            obtain ⟨p', us', g1, g2, g3, g4⟩ := hh2.obj n xs q3
            have gp : μ2.l[n]? = some p := by cases r1' with | ref g => exact g
            refine hh2.put gp (rr.set rv j) ?_
            exact belAll_set q5 g4
          exact ⟨p, us, kk, j, rfl, r2.int_inv, hp, by rw [← rr.length]; exact q4, k μ2 _ σ (E.trans E3) hh3 (ev.ext (E.trans E3))⟩
        · cases q
      · cases q
    · cases q
  · cases q

/-! ### which stores are swapped -/
def isNameE : Expr → Bool
  | .Name _ _ => true
  | _ => false
theorem fmap_lt {f : Expr → Option Str} (hf : ∀ t, isNameE t = false → f t = none) : ∀ {ts : List Expr}, ts.all isNameE = false → (ts.filterMap f).length < ts.length
  | [], h => by simp at h
  | t :: ts, h => by
    have le : (ts.filterMap f).length ≤ ts.length := List.length_filterMap_le f ts
    cases ht : isNameE t with
    | false =>
      rw [List.filterMap_cons, hf t ht]
      simp only [List.length_cons]
      omega
    | true =>
      have h' : ts.all isNameE = false := by simpa [ht] using h
      have := fmap_lt hf h'
      rw [List.filterMap_cons]
      split <;> simp only [List.length_cons] <;> omega
/-- no swap: sure signs -/
def swpN (ts vs : List Expr) : Bool := !(ts.length == 2 || ts.length == 3) || (vs.length != ts.length || (!ts.all isNameE || vs.all (foldedForSure 8)))
theorem swp_none {ts vs : List Expr} {k k2 : Nat} {p p2 : Pos} {env : PySem.Env} (hv : noStar vs = true) (h : swpN ts vs = true) : swappedStores [.Tuple ts k p] (.Tuple vs k2 p2) env = pure none := by
  unfold swpN at h
  unfold swappedStores
  simp only [Bool.or_eq_true] at h
  dsimp only
  split
  · rfl
  rename_i c1
  split
  · rfl
  rename_i c2
  split
  · rfl
  rename_i c3
  split
  · rfl
  rename_i c4
  exfalso
  simp only [Bool.not_eq_true, Bool.or_eq_false_iff] at c1 c3
  rcases h with h | h | h | h
  · rw [c1.1.1] at h; cases h
  · rw [c1.1.2] at h; cases h
  · have lt := fmap_lt (f := fun t => match t with
      | .Name id pos => if env.kindOf id == some .local && pos.line == (ts.head?.map (·.pos.line)).getD 0 then some id else none
      | _ => none) (fun t ht => by cases t <;> first | rfl | cases ht) (by simpa using h)
    have e := c3.1
    simp only [bne_eq_false_iff_eq] at e
    exact absurd e (Nat.ne_of_lt lt)
  · exact c4 h
def notFold (vs : List Expr) : Bool := !vs.all (foldedForSure 8) && !vs.all (constantsAlone 8)
theorem star_any : ∀ {vs : List Expr}, noStar vs = true → (vs.any fun | .Starred .. => true | _ => false) = false
  | [], _ => rfl
  | v :: vs, h => by
    have h' := Bool.and_eq_true_iff.mp (show (!isStar v && noStar vs) = true from h)
    rw [List.any_cons, star_any h'.2, Bool.or_false]
    have h0 : isStar v = false := by simpa using h'.1
    cases v <;> first | rfl | cases h0
theorem block_fn {env : PySem.Env} (hk : env.scope.kind = .function) : env.blockKind = .function := by
  unfold Env.blockKind
  rw [hk]
  rfl
theorem swp_two {x y : Str} {px py p p2 : Pos} {a b : Expr} {k k2 : Nat} {env : PySem.Env} (hk : env.scope.kind = .function) (hx : env.scope.names.lookup x = some .local) (hy : env.scope.names.lookup y = some .local) (hl : py.line = px.line) (hn : x ≠ y) (hv : noStar [a, b] = true) (hf : notFold [a, b] = true) :
    swappedStores [.Tuple [.Name x px, .Name y py] k p] (.Tuple [a, b] k2 p2) env = pure (some [x, y]) := by
  have b1 := block_fn hk
  have kx : env.kindOf x = some .local := hx
  have ky : env.kindOf y = some .local := hy
  have st := star_any hv
  unfold notFold at hf
  rw [Bool.and_eq_true, Bool.not_eq_true', Bool.not_eq_true'] at hf
  unfold swappedStores
  dsimp only
  simp only [b1, st, hf.1, hf.2, List.filterMap_cons, List.filterMap_nil, kx, ky, List.head?_cons, Option.map_some, Option.getD_some, Expr.pos, hl]
  have hyx : (y == x) = false := by simpa using fun e => hn e.symm
  have s1 : isStar a = false := by simp [noStar] at hv; exact hv.1
  have s2 : isStar b = false := by simp [noStar] at hv; exact hv.2
  simp [List.eraseDups_cons, hyx]
  rintro (h | h)
  · exact absurd (show isStar a = true from h) (by rw [s1]; decide)
  · exact absurd (show isStar b = true from h) (by rw [s2]; decide)
theorem swp_three {x y z : Str} {px py pz p p2 : Pos} {a b c : Expr} {k k2 : Nat} {env : PySem.Env} (hk : env.scope.kind = .function) (hx : env.scope.names.lookup x = some .local) (hy : env.scope.names.lookup y = some .local) (hz : env.scope.names.lookup z = some .local) (hl : py.line = px.line) (hl2 : pz.line = px.line) (hn : x ≠ y) (hn2 : x ≠ z) (hn3 : y ≠ z) (hv : noStar [a, b, c] = true) (hf : notFold [a, b, c] = true) :
    swappedStores [.Tuple [.Name x px, .Name y py, .Name z pz] k p] (.Tuple [a, b, c] k2 p2) env = pure (some [x, y, z]) := by
  have b1 := block_fn hk
  have kx : env.kindOf x = some .local := hx
  have ky : env.kindOf y = some .local := hy
  have kz : env.kindOf z = some .local := hz
  have st := star_any hv
  unfold notFold at hf
  rw [Bool.and_eq_true, Bool.not_eq_true', Bool.not_eq_true'] at hf
  unfold swappedStores
  dsimp only
  simp only [b1, st, hf.1, hf.2, List.filterMap_cons, List.filterMap_nil, kx, ky, kz, List.head?_cons, Option.map_some, Option.getD_some, Expr.pos, hl, hl2]
  have hyx : (y == x) = false := by simpa using fun e => hn e.symm
  have hzx : (z == x) = false := by simpa using fun e => hn2 e.symm
  have hzy : (z == y) = false := by simpa using fun e => hn3 e.symm
  have s1 : isStar a = false := by simp [noStar] at hv; exact hv.1
  have s2 : isStar b = false := by simp [noStar] at hv; exact hv.2.1
  have s3 : isStar c = false := by simp [noStar] at hv; exact hv.2.2
  simp [List.eraseDups_cons, hyx, hzx, hzy]
  rintro (h | h | h)
  · exact absurd (show isStar a = true from h) (by rw [s1]; decide)
  · exact absurd (show isStar b = true from h) (by rw [s2]; decide)
  · exact absurd (show isStar c = true from h) (by rw [s3]; decide)
def isLc : Expr → Bool
  | .ListComp _ _ _ _ => true
  | .SetComp _ _ _ _ => true
  | .DictComp _ _ _ _ _ => true
  | _ => false
theorem sw_no {e : Expr} {t : Option Expr} {l : Nat} {env : PySem.Env} (h : isLc e = false) : swapsWith e t l env = pure false := by
  cases e <;> first | rfl | cases h
def isTupE : Expr → Bool
  | .Tuple _ _ _ => true
  | _ => false
theorem swp_val {e : Expr} {ts : List Expr} {env : PySem.Env} (h : isTupE e = false) : swappedStores ts e env = pure none := by
  cases e <;> first | (cases h; done) | (unfold swappedStores; rcases ts with _ | ⟨t, _ | ⟨t2, ts⟩⟩ <;> first | rfl | (cases t <;> rfl))
theorem swp_tgt {e t : Expr} {env : PySem.Env} (h : isTupE t = false) (h2 : ∀ ts p, t ≠ .List ts p) : swappedStores [t] e env = pure none := by
  unfold swappedStores
  cases t <;> first | (cases h; done) | exact absurd rfl (h2 _ _) | rfl
theorem sw_tup {e : Expr} {ts : List Expr} {k l : Nat} {p : Pos} {env : PySem.Env} : swapsWith e (some (.Tuple ts k p)) l env = pure false := by
  unfold swapsWith
  cases e <;> rfl
theorem sw_sub {e o i : Expr} {l : Nat} {p : Pos} {env : PySem.Env} : swapsWith e (some (.Subscript o i p)) l env = pure false := by
  unfold swapsWith
  cases e <;> rfl
theorem sw_false {elt : Expr} {gs : List Comprehension} {scope : Scope} {pos py : Pos} {y : Str} {l : Nat} {env : PySem.Env} (hc : (env.scope.names.lookup y == some .local && (py.line == pos.line && !(scope.names.any fun (n, k) => n == y && (k == .local || k == .cell)))) = false) :
    swapsWith (.ListComp elt gs scope pos) (some (.Name y py)) l env = pure false := by
  unfold swapsWith
  dsimp only
  have e : (env.blockKind == .function && env.kindOf y == some .local && py.line == (Expr.ListComp elt gs scope pos).pos.line && !(scope.names.any fun (n, k) => n == y && (k == .local || k == .cell))) = false := by
    rw [Bool.and_assoc, Bool.and_assoc]
    show (env.blockKind == .function && (env.scope.names.lookup y == some .local && (py.line == pos.line && _))) = false
    rw [hc, Bool.and_false]
  rw [e]
end
end Mn
-- text MnStmt2
/-! Mn: assignments, loops, methods -/
namespace Mn
open PySem PySem.Spec L2 PyProof.Rows
section
variable {X : Cx} {pos : Pos} {e tg : Expr} {da : Den} {g : GDen}
theorem asg_ok {D : Ends} {σ : L2.St} {H : Hp} (q : tSd X.K X.mg (sAsg da g) D σ H) : tD X.K X.mg da σ H fun x H1 => tGd X.K X.mg g x σ H1 D.nx := by
  obtain ⟨μ, env, h, hh, ev, k⟩ := q
  unfold sAsg at k
  split at k
  · rename_i v h1 q1
    split at k
    · rename_i e2 h2 q2
      exact ⟨μ, env, h, v, h1, hh, ev, q1, fun μ1 H1 u E1 hh1 r1 => ⟨μ1, env, h1, v, e2, h2, hh1, ev.ext E1, r1, q2, fun μ2 H2 σ2 E2 => k μ2 H2 σ2 (E1.trans E2)⟩⟩
    · exact k.elim
  · exact k.elim
theorem ms_asg (he : ME X e da) (hg : MG X tg g) (hs : swapsWith e (some tg) pos.line X.env = pure false) (hw : swappedStores [tg] e X.env = pure none) (ht : isStar tg = false) : MS X (.Assign [tg] e pos) (sAsg da g) :=
  (ps_asg he hg hs hw (by rw [each_of ht]; rfl)).imp fun D σ H q => asg_ok q
theorem ms_setLc (m : Nat) {i : Nat} {y : Str} {py : Pos} {elt tg iter : Expr} {ifs : List Expr} {scope : Scope} {own : List (Str × Nat)} {spos : Pos} {di : IDen} {asg : Asg} {tst : TDen} {de : Den} (hc : X.calm = true) (hN : X.N.Nodup) (hy : X.N[i]? = some y) (hyl : X.env.scope.names.lookup y = some .local)
    (hsw : swapsWith (.ListComp elt [⟨tg, iter, ifs, 0⟩] scope pos) (some (.Name y py)) spos.line X.env = pure true) (hi : MI X tg iter di) (ok : BlkOk X.N X.env.scope scope own)
    (hg : ∀ (s : Shared) (H : Hp) (C : Addr) (cl : List (Str × Addr)) (fp : List Addr), MA (X.blk s H scope (compEnvC scope cl C X.env) fp) (own.map (·.2)) tg asg) (ht : ∀ (s : Shared) (H : Hp) (C : Addr) (cl : List (Str × Addr)) (fp : List Addr), MTs (X.blk s H scope (compEnvC scope cl C X.env) fp) ifs tst)
    (he : ∀ (s : Shared) (H : Hp) (C : Addr) (cl : List (Str × Addr)) (fp : List Addr), ME (X.blk s H scope (compEnvC scope cl C X.env) fp) elt de) (hs : ∀ x, foldedSetIterable iter X.env x = pure x) :
    MS X (.Assign [.Name y py] (.ListComp elt [⟨tg, iter, ifs, 0⟩] scope pos) spos) (sAsg (dLc m di asg tst de (own.map (·.2))) (gA (aName i))) :=
  (ps_setLc hc hN hy hyl hsw hi ok hg ht he hs).imp fun D σ H q => by
    obtain ⟨μ, env, h, v, h1, hh, ev, q1, k⟩ := asg_ok q
    exact lc_tr m ⟨μ, env, h, v, h1, hh, ev, q1, fun μ1 H1 u E1 hh1 r1 => by
      obtain ⟨μ2, env2, h2, x, e', h', hh2, ev2, r2, q2, k2⟩ := k μ1 H1 u E1 hh1 r1
      cases q2
      exact k2 μ2 H1 _ hh2.refl hh2 (ev2.set i r2)⟩
theorem ms_par {i j : Nat} {x y : Str} {a b : Expr} {dl : LDen} {px py pt : Pos} {kt k2 : Nat} {pt2 : Pos} (hc : X.calm = true) (hN : X.N.Nodup) (hi : X.N[i]? = some x) (hj : X.N[j]? = some y) (hij : i ≠ j) (hx : X.env.scope.names.lookup x = some .local) (hy : X.env.scope.names.lookup y = some .local) (ha : ML X [a, b] dl)
    (hw : swappedStores [.Tuple [.Name x px, .Name y py] kt pt] (.Tuple [a, b] k2 pt2) X.env = pure (some [x, y])) : MS X (.Assign [.Tuple [.Name x px, .Name y py] kt pt] (.Tuple [a, b] k2 pt2) pos) (sPar [i, j] dl) :=
  (ps_par hc hN hi hj hij hx hy ha hw (show swapsWithSole _ _ _ _ = pure false from rfl)).imp fun D σ H ⟨μ, env, h, hh, ev, k⟩ => by
    unfold sPar at k
    split at k
    · rename_i vs h1 q
      split at k
      · rename_i hb
        have hl : vs.length = 2 := Nat.eq_of_beq_eq_true hb
        obtain ⟨v, w, rfl⟩ : ∃ v w, vs = [v, w] := by
          rcases vs with _ | ⟨v, _ | ⟨w, _ | ⟨_, _⟩⟩⟩ <;> first | exact ⟨_, _, rfl⟩ | simp at hl
        refine ⟨μ, env, h, _, h1, hh, ev, q, fun μ1 H1 us E1 hh1 r1 => ?_⟩
        obtain ⟨u1, u2, rfl, r2, r3⟩ := r1.two
        exact ⟨u1, u2, rfl, k μ1 H1 _ E1 hh1 (((ev.ext E1).set i r2).set j r3)⟩
      · exact k.elim
    · exact k.elim
theorem ms_par3 {i j l : Nat} {x y z : Str} {a b c : Expr} {dl : LDen} {px py pz pt : Pos} {kt k2 : Nat} {pt2 : Pos} (hc : X.calm = true) (hN : X.N.Nodup) (hi : X.N[i]? = some x) (hj : X.N[j]? = some y) (hl : X.N[l]? = some z) (hij : i ≠ j) (hil : i ≠ l) (hjl : j ≠ l)
    (hx : X.env.scope.names.lookup x = some .local) (hy : X.env.scope.names.lookup y = some .local) (hz : X.env.scope.names.lookup z = some .local) (ha : ML X [a, b, c] dl)
    (hw : swappedStores [.Tuple [.Name x px, .Name y py, .Name z pz] kt pt] (.Tuple [a, b, c] k2 pt2) X.env = pure (some [x, y, z])) : MS X (.Assign [.Tuple [.Name x px, .Name y py, .Name z pz] kt pt] (.Tuple [a, b, c] k2 pt2) pos) (sPar [i, j, l] dl) :=
  (ps_par3 hc hN hi hj hl hij hil hjl hx hy hz ha hw (show swapsWithSole _ _ _ _ = pure false from rfl)).imp fun D σ H ⟨μ, env, h, hh, ev, k⟩ => by
    unfold sPar at k
    split at k
    · rename_i vs h1 q
      split at k
      · rename_i hb
        have hl : vs.length = 3 := Nat.eq_of_beq_eq_true hb
        obtain ⟨v, w, v3, rfl⟩ : ∃ v w v3, vs = [v, w, v3] := by
          rcases vs with _ | ⟨v, _ | ⟨w, _ | ⟨v3, _ | ⟨_, _⟩⟩⟩⟩ <;> first | exact ⟨_, _, _, rfl⟩ | simp at hl
        refine ⟨μ, env, h, _, h1, hh, ev, q, fun μ1 H1 us E1 hh1 r1 => ?_⟩
        cases r1 with
        | cons r2 r1 =>
          obtain ⟨u1, u2, rfl, r3, r4⟩ := r1.two
          exact ⟨_, u1, u2, rfl, k μ1 H1 _ E1 hh1 ((((ev.ext E1).set i r2).set j r3).set l r4)⟩
      · exact k.elim
    · exact k.elim

/-! ### loops -/
variable {iter : Expr} {body : List Stmt} {di : IDen} {asg : Asg} {db : SDen} {own : List Nat}
/-- where a loop's body may end -/
def StepEnd (K : PySem.W.Frag) (mg : Str → Option Value) (μ : Mu) (H : Hp) (D : Ends) (N : L2.St → Hp → Prop) : SR → Prop
  | .nx e2 h2 => ∀ (μ' : Mu) (H' : Hp) (σ' : L2.St), Ext μ H μ' H' → Hh K mg μ' H' h2 → Ev K mg μ' H' σ' e2 → N σ' H'
  | .ct e2 h2 => ∀ (μ' : Mu) (H' : Hp) (σ' : L2.St), Ext μ H μ' H' → Hh K mg μ' H' h2 → Ev K mg μ' H' σ' e2 → N σ' H'
  | .bk e2 h2 => SEnd K mg μ H D (.nx e2 h2)
  | .rt v h2 => SEnd K mg μ H D (.rt v h2)
  | .ex _ => False
  | .bad => False
theorem for_step {K : PySem.W.Frag} {mg : Str → Option Value} {μ : Mu} {H : Hp} {σ : L2.St} {env e1 : Env} {h : MH} {J : It} {src : Src} {ys : List PV} {i : Nat} {v : PV} {D : Ends} {N : L2.St → Hp → Prop} {r : SR} (hh : Hh K mg μ H h) (ev : Ev K mg μ H σ env) (wk : Wk K mg μ H J src) (hc : cur src h = some ys) (hv : ys[i]? = some v)
    (ha : asg v env = some e1) (hr : db e1 h = r) (hN : StepEnd K mg μ H D N r) :
    J.go i H ∧ ∀ x H', J.yld i H x H' → tAd K mg own asg x σ H' fun σ2 H2 => tSd K mg db { D with nx := N, ct := N, bk := D.nx } σ2 H2 := by
  obtain ⟨w1, w2, w3⟩ := wk μ H h hh.refl hh ys hc
  have hlt : i < ys.length := (List.getElem?_eq_some_iff.mp hv).1
  refine ⟨w1 i hlt, fun x H' y => ?_⟩
  obtain ⟨v', hv', E', hh', rv⟩ := w3 i x H' hlt y
  rw [hv] at hv'; cases hv'
  refine ⟨μ, env, v, e1, ev.ext E', rv, ha, fun σ2 ev2 _ => ⟨μ, e1, h, hh', ev2, ?_⟩⟩
  rw [hr]
  cases r with
  | nx e2 h2 => exact fun μ2 H2 σ' E2 => hN μ2 H2 σ' (E'.trans E2)
  | ct e2 h2 => exact fun μ2 H2 σ' E2 => hN μ2 H2 σ' (E'.trans E2)
  | bk e2 h2 => exact fun μ2 H2 σ' E2 => hN μ2 H2 σ' (E'.trans E2)
  | rt v h2 => exact fun μ2 H2 u E2 => hN μ2 H2 u (E'.trans E2)
  | ex h2 => exact hN
  | bad => exact hN
theorem Wk.later {K : PySem.W.Frag} {mg : Str → Option Value} {μ μ1 : Mu} {H H1 : Hp} {J : It} {src : Src} (E : Ext μ H μ1 H1) (w : Wk K mg μ H J src) : Wk K mg μ1 H1 J src := fun μ2 H2 h2 E2 => w μ2 H2 h2 (E.trans E2)
theorem ms_for (hp : PassesOwn (model X.prog X.w) X.A X.env X.xe) (hc : X.calm = true) (hi : MI X tg iter di) (hg : MA X own tg asg) (hb : MSs X body db) (hs : ∀ x, foldedSetIterable iter X.env x = pure x) : MS X (.For tg iter body [] pos) (sFor di asg db) :=
  (ps_for hp hc hi hg hb hs).imp fun D σ H ⟨μ, env, h, hh, ev, k⟩ => by
    unfold sFor at k
    split at k
    · rename_i xs h1 q
      refine ⟨μ, env, h, _, h1, hh, ev, q, fun μ1 H1 J E1 hh1 wk => ?_⟩
      refine ⟨fun i m σ' H' => m = xs.length - i ∧ i ≤ xs.length ∧ ∃ μ' e' h', Hh X.K X.mg μ' H' h' ∧ Ev X.K X.mg μ' H' σ' e' ∧ Wk X.K X.mg μ' H' J (.st xs) ∧ SEnd X.K X.mg μ' H' D (forGo asg db (xs.drop i) e' h'), ⟨xs.length, by simp, Nat.zero_le _, μ1, env, h1, hh1, ev.ext E1, wk, by simpa using k.later E1⟩, ?_⟩
      rintro i m σ' H' ⟨rfl, hle, μ', e', h', hh', ev', wk', k'⟩
      by_cases hlt : i < xs.length
      · right
        have hx : xs[i]? = some xs[i] := List.getElem?_eq_getElem hlt
        rw [List.drop_eq_getElem_cons hlt] at k'
        unfold forGo at k'
        split at k'
        · exact k'.elim
        · rename_i e1 ha
          have S := for_step (own := own) (D := D) (N := fun σ'' H'' => xs.length - (i + 1) = xs.length - (i + 1) ∧ i + 1 ≤ xs.length ∧ ∃ μ' e' h', Hh X.K X.mg μ' H'' h' ∧ Ev X.K X.mg μ' H'' σ'' e' ∧ Wk X.K X.mg μ' H'' J (.st xs) ∧ SEnd X.K X.mg μ' H'' D (forGo asg db (xs.drop (i + 1)) e' h'))
            (db := db) hh' ev' wk' rfl hx ha rfl (by
              cases hr : db e1 h' with
              | nx e2 h2 => rw [hr] at k'; exact fun μ2 H2 σ2 E2 hh2 ev2 => ⟨rfl, hlt, μ2, e2, h2, hh2, ev2, wk'.later E2, k'.later E2⟩
              | ct e2 h2 => rw [hr] at k'; exact fun μ2 H2 σ2 E2 hh2 ev2 => ⟨rfl, hlt, μ2, e2, h2, hh2, ev2, wk'.later E2, k'.later E2⟩
              | bk e2 h2 => rw [hr] at k'; exact k'
              | rt v h2 => rw [hr] at k'; exact k'
              | ex h2 => rw [hr] at k'; exact k'
              | bad => rw [hr] at k'; exact k')
          exact ⟨S.1, _, fun σ'' H'' q => ⟨xs.length - (i + 1), by omega, q⟩, S.2⟩
      · left
        have hi2 : i = xs.length := by omega
        rw [List.drop_of_length_le (by omega)] at k'
        exact ⟨((wk' μ' H' h' hh'.refl hh' xs rfl).2.1) i hi2, k' μ' H' σ' hh'.refl hh' ev'⟩
    · rename_i n h1 q
      split at k
      · rename_i xs hx0
        refine ⟨μ, env, h, _, h1, hh, ev, q, fun μ1 H1 J E1 hh1 wk => ?_⟩
        refine ⟨fun i m σ' H' => ∃ μ' e' h', Hh X.K X.mg μ' H' h' ∧ Ev X.K X.mg μ' H' σ' e' ∧ Wk X.K X.mg μ' H' J (.rf n) ∧ SEnd X.K X.mg μ' H' D (forRef asg db n m i e' h'), ⟨xs.length + 1, μ1, env, h1, hh1, ev.ext E1, wk, k.later E1⟩, ?_⟩
        rintro i m σ' H' ⟨μ', e', h', hh', ev', wk', k'⟩
        cases m with
        | zero => exact k'.elim
        | succ m =>
          unfold forRef at k'
          split at k'
          · exact k'.elim
          · rename_i ys hys
            split at k'
            · rename_i hnone
              exact .inl ⟨((wk' μ' H' h' hh'.refl hh' ys hys).2.1) i (List.getElem?_eq_none_iff.mp hnone), k' μ' H' σ' hh'.refl hh' ev'⟩
            · rename_i x hx
              right
              split at k'
              · exact k'.elim
              · rename_i e1 ha
                have S := for_step (own := own) (D := D) (N := fun σ'' H'' => ∃ μ' e' h', Hh X.K X.mg μ' H'' h' ∧ Ev X.K X.mg μ' H'' σ'' e' ∧ Wk X.K X.mg μ' H'' J (.rf n) ∧ SEnd X.K X.mg μ' H'' D (forRef asg db n m (i + 1) e' h'))
                  (db := db) hh' ev' wk' hys hx ha rfl (by
                    cases hr : db e1 h' with
                    | nx e2 h2 => rw [hr] at k'; exact fun μ2 H2 σ2 E2 hh2 ev2 => ⟨μ2, e2, h2, hh2, ev2, wk'.later E2, k'.later E2⟩
                    | ct e2 h2 => rw [hr] at k'; exact fun μ2 H2 σ2 E2 hh2 ev2 => ⟨μ2, e2, h2, hh2, ev2, wk'.later E2, k'.later E2⟩
                    | bk e2 h2 => rw [hr] at k'; exact k'
                    | rt v h2 => rw [hr] at k'; exact k'
                    | ex h2 => rw [hr] at k'; exact k'
                    | bad => rw [hr] at k'; exact k')
                exact ⟨S.1, _, fun σ'' H'' q => ⟨m, Nat.lt_succ_self m, q⟩, S.2⟩
      · exact k.elim
    · exact k.elim
theorem ms_while {c : Expr} {tc : TDen} (hp : PassesOwn (model X.prog X.w) X.A X.env X.xe) (hc : MT X c tc) (hb : MSs X body db) : MS X (.While c body [] pos) (sWh tc db) :=
  (ps_while hp hc hb).imp fun D σ H ⟨μ, env, h, hh, ev, k⟩ => by
    unfold sWh at k
    refine ⟨fun m σ' H' => ∃ μ' e' h', Hh X.K X.mg μ' H' h' ∧ Ev X.K X.mg μ' H' σ' e' ∧ SEnd X.K X.mg μ' H' D (whGo tc db m e' h'), ⟨fuel, μ, env, h, hh, ev, k⟩, ?_⟩
    rintro m σ' H' ⟨μ', e', h', hh', ev', k'⟩
    cases m with
    | zero => exact k'.elim
    | succ m =>
      unfold whGo at k'
      split at k'
      · exact k'.elim
      · rename_i h1 q1
        refine ⟨μ', e', h', false, h1, hh', ev', q1, fun μ1 H1 E1 hh1 => ?_⟩
        exact iteF (k' μ1 H1 σ' E1 hh1 (ev'.ext E1))
      · rename_i h1 q1
        refine ⟨μ', e', h', true, h1, hh', ev', q1, fun μ1 H1 E1 hh1 => ?_⟩
        refine iteT ⟨fun σ'' H'' => ∃ μ2 e2 h2, Hh X.K X.mg μ2 H'' h2 ∧ Ev X.K X.mg μ2 H'' σ'' e2 ∧ SEnd X.K X.mg μ2 H'' D (whGo tc db m e2 h2), fun σ'' H'' q => ⟨m, Nat.lt_succ_self m, q⟩, μ1, e', h1, hh1, ev'.ext E1, ?_⟩
        have k1 := SEnd.later E1 k'
        cases hr : db e' h1 with
        | nx e2 h2 => rw [hr] at k1; exact fun μ2 H2 σ2 E2 hh2 ev2 => ⟨μ2, e2, h2, hh2, ev2, k1.later E2⟩
        | ct e2 h2 => rw [hr] at k1; exact fun μ2 H2 σ2 E2 hh2 ev2 => ⟨μ2, e2, h2, hh2, ev2, k1.later E2⟩
        | bk e2 h2 => rw [hr] at k1; exact k1
        | rt v h2 => rw [hr] at k1; exact k1
        | ex h2 => rw [hr] at k1; exact k1
        | bad => rw [hr] at k1; exact k1
theorem ms_try {h0 : ExceptHandler} {hs : List ExceptHandler} (hb : MSs X.nox body db) : MS X (.Try body (h0 :: hs) [] [] pos) db := ps_try_thru0 hb

/-! ### methods of lists -/
def dApp (o a : Den) : Den := fun e h => match o e h with
  | some (.ref n, h1) => match a e h1 with
    | some (v, h2) => match h2[n]? with
      | some xs => match v.bel n && Nat.ble xs.length lim with
        | true => some (.non, h2.set n (xs ++ [v]))
        | false => none
      | none => none
    | none => none
  | _ => none
def dExt (o a : Den) : Den := fun e h => match o e h with
  | some (.ref n, h1) => match a e h1 with
    | some (v, h2) => match h2[n]?, lstH h2 v with
      | some xs, some ys => match belAll n ys && (Nat.ble xs.length lim && Nat.ble ys.length lim) with
        | true => some (.non, h2.set n (xs ++ ys))
        | false => none
      | _, _ => none
    | none => none
  | _ => none
theorem few_one {cpos : Pos} {env : PySem.Env} (hs : isStar e = false) : ((backTo cpos (starEach [e] env)).all (fun x => !x.1) && (backToKw cpos (keywordEach [] env)).all (fun x => x.1.isSome) && decide ([e].length + ([] : List Keyword).length + (if ([] : List Keyword).isEmpty then 0 else 1) < 30)) = true := by
  rw [star_of hs]
  rfl
theorem belAll_app {n : Nat} : ∀ {xs ys : List PV}, belAll n xs = true → belAll n ys = true → belAll n (xs ++ ys) = true
  | [], _, _, h => h
  | x :: xs, ys, h, h2 => by
    simp only [List.cons_append, belAll, Bool.and_eq_true] at h ⊢
    exact ⟨h.1, belAll_app h.2 h2⟩
variable {x : Str} {p apos cpos : Pos} {dob : Den}
theorem me_app (ho : ME X (.Name x p) dob) (ha : ME X e da) (hs : isStar e = false) (hline : (apos.endLine == cpos.line) = true) : ME X (.Call (.Attribute (.Name x p) "append" apos) [e] [] cpos) (dApp dob da) :=
  (pe_bm F.plainAttrs_list F.slot_list_append F.type_list_append mt_append ho (pa_cons ha pa_nil (star_of hs _ _)) rfl (few_one hs) hline (star_of hs _ _) rfl).imp fun σ H Q hq => by
    obtain ⟨μ, env, h, w, h', hh, ev, q, k⟩ := hq
    unfold dApp at q
    split at q
    · rename_i n h1 q1
      split at q
      · rename_i v h2 q2
        split at q
        · rename_i xs q3
          split at q
          · rename_i hb
            cases q
            rw [Bool.and_eq_true] at hb
            refine ⟨μ, env, h, _, h1, hh, ev, q1, fun μ1 H1 u1 E1 hh1 r1 => ?_⟩
            cases r1 with
            | ref gp =>
              obtain ⟨us, hu⟩ := hh1.trk.lst _ (List.mem_of_getElem? gp)
              refine ⟨.inl ⟨rfl, us, .of hu⟩, μ1, env, h1, v, h2, hh1, ev.ext E1, q2, fun μ2 H2 u2 E2 hh2 r2 => ?_⟩
              obtain ⟨p', us', g1, g2, g3, g4⟩ := hh2.obj n xs q3
              have gp2 := E2.get gp
              rw [g1] at gp2; cases gp2
              obtain ⟨E3, hh3⟩ := hh2.put g1 (g3.append (.cons r2 .nil)) (belAll_app g4 (by simp [belAll, hb.1]))
              exact ⟨_, us', u2, rfl, rfl, g2, by rw [← g3.length]; exact lim_lt hb.2, k μ2 _ _ ((E1.trans E2).trans E3) hh3 .non⟩
          · cases q
        · cases q
      · cases q
    · cases q
theorem me_ext (ho : ME X (.Name x p) dob) (ha : ME X e da) (hs : isStar e = false) (hline : (apos.endLine == cpos.line) = true) : ME X (.Call (.Attribute (.Name x p) "extend" apos) [e] [] cpos) (dExt dob da) :=
  (pe_bm F.plainAttrs_list F.slot_list_extend F.type_list_extend mt_extend ho (pa_cons ha pa_nil (star_of hs _ _)) rfl (few_one hs) hline (star_of hs _ _) rfl).imp fun σ H Q hq => by
    obtain ⟨μ, env, h, w, h', hh, ev, q, k⟩ := hq
    unfold dExt at q
    split at q
    · rename_i n h1 q1
      split at q
      · rename_i v h2 q2
        split at q
        · rename_i xs ys q3 q4
          split at q
          · rename_i hb
            cases q
            simp only [Bool.and_eq_true] at hb
            refine ⟨μ, env, h, _, h1, hh, ev, q1, fun μ1 H1 u1 E1 hh1 r1 => ?_⟩
            cases r1 with
            | ref gp =>
              obtain ⟨us, hu⟩ := hh1.trk.lst _ (List.mem_of_getElem? gp)
              refine ⟨.inl ⟨rfl, us, .of hu⟩, μ1, env, h1, v, h2, hh1, ev.ext E1, q2, fun μ2 H2 u2 E2 hh2 r2 => ?_⟩
              obtain ⟨p', us', g1, g2, g3, g4⟩ := hh2.obj n xs q3
              have gp2 := E2.get gp
              rw [g1] at gp2; cases gp2
              obtain ⟨b, ws, rfl, hb2, r3⟩ := lstH_ok hh2 r2 q4
              obtain ⟨E3, hh3⟩ := hh2.put g1 (g3.append r3) (belAll_app g4 hb.1)
              refine ⟨_, b, us', ws, rfl, rfl, g2, hb2, ?_, k μ2 _ _ ((E1.trans E2).trans E3) hh3 .non⟩
              have l1 := Nat.le_of_ble_eq_true hb.2.1
              have l2 := Nat.le_of_ble_eq_true hb.2.2
              rw [← g3.length, ← r3.length, sizeLine_eq]
              unfold lim at l1 l2
              omega
          · cases q
        · cases q
      · cases q
    · cases q
end
end Mn
-- text MnSort
/-! Mn: sorted, of ints and of tuples of ints -/
namespace Mn
open PySem PySem.Spec L2 PyProof.Rows

/-! ### the order of rows of ints; sorting by insertion -/
theorem lex_same : ∀ {xs ys : List Int}, HT.lexLt xs ys = false → HT.lexLt ys xs = false → xs = ys
  | [], [], _, _ => rfl
  | [], _ :: _, h, _ => by rw [HT.lexLt_nil_cons] at h; cases h
  | _ :: _, [], _, h => by rw [HT.lexLt_nil_cons] at h; cases h
  | x :: xs, y :: ys, h, h2 => by
    rw [HT.lexLt_cons] at h h2
    by_cases e : x = y
    · subst e
      rw [if_pos rfl] at h h2
      rw [lex_same h h2]
    · rw [if_neg e] at h
      rw [if_neg (Ne.symm e)] at h2
      have a := of_decide_eq_false h
      have b := of_decide_eq_false h2
      omega
section
variable {α : Type} {lt : α → α → Bool}
theorem ins_perm (x : α) : ∀ l : List α, (ins lt x l).Perm (x :: l)
  | [] => List.Perm.refl _
  | y :: ys => by
    unfold ins
    split
    · exact (List.Perm.cons y (ins_perm x ys)).trans (List.Perm.swap x y ys)
    · exact List.Perm.refl _
theorem srt_perm : ∀ l : List α, (srt lt l).Perm l
  | [] => List.Perm.refl _
  | x :: xs => (ins_perm x (srt lt xs)).trans (List.Perm.cons x (srt_perm xs))
theorem ins_sorted (O : SrtO.Swo lt) (x : α) : ∀ {l : List α}, l.Pairwise (fun a b => lt b a = false) → (ins lt x l).Pairwise (fun a b => lt b a = false)
  | [], _ => List.pairwise_singleton _ _
  | y :: ys, h => by
    have h1 := (List.pairwise_cons.mp h).1
    have h2 := (List.pairwise_cons.mp h).2
    unfold ins
    split
    · rename_i e
      refine List.pairwise_cons.mpr ⟨fun z hz => ?_, ins_sorted O x h2⟩
      rcases List.mem_cons.mp ((ins_perm x ys).mem_iff.mp hz) with q | q
      · rw [q]; exact O.asym _ _ e
      · exact h1 z q
    · rename_i e
      refine List.pairwise_cons.mpr ⟨fun z hz => ?_, h⟩
      rcases List.mem_cons.mp hz with q | q
      · rw [q]; exact e
      · exact O.tr x y z e (h1 z q)
theorem srt_sorted (O : SrtO.Swo lt) : ∀ l : List α, (srt lt l).Pairwise (fun a b => lt b a = false)
  | [] => List.Pairwise.nil
  | x :: xs => ins_sorted O x (srt_sorted O xs)
/-- only one sorted order -/
theorem srt_one (O : SrtO.Swo lt) (tri : ∀ a b, lt a b = false → lt b a = false → a = b) {l m : List α} (p : l.Perm m) (s : l.Pairwise (fun a b => lt b a = false)) : l = srt lt m :=
  List.Perm.eq_of_pairwise (le := fun a b => lt b a = false) (fun a b _ _ h1 h2 => tri a b h2 h1) s (srt_sorted O m) (p.trans (srt_perm m).symm)
end
def ltZ (a b : Int) : Bool := decide (a < b)
theorem swoZ : SrtO.Swo ltZ := by
  refine ⟨fun x y h => ?_, fun x y z h1 h2 => ?_⟩
  · have := of_decide_eq_true h
    exact decide_eq_false (by omega)
  · have := of_decide_eq_false h1
    have := of_decide_eq_false h2
    exact decide_eq_false (by omega)
theorem swoR : SrtO.Swo ltI := NtL.swo_lexL (fun l : List Int => l)

/-! ### sorted(list of tuples of ints) -/
section
variable {prog : Program} {w : World} {A : Around} {E : Value → Shared → Prop} {s : Shared}
theorem lex_any {b fin : Bool} {P : Bool → Shared → Prop} {vs us : List Value} {ns ms : List Int} (hv : IntsAre vs ns) : ∀ {us : List Value} {ms : List Int} (i : Nat), IntsAre us ms → fin = decide (ns.length < ms.length) → P (HT.lexLt ns ms) s → PySem.W.KatLex prog w A b fin P (vs.zip us) i s := by
  induction hv with
  | nil =>
    intro us ms i hu hf hp
    cases hu with
    | nil =>
      have f0 : fin = false := by rw [hf]; rfl
      rw [f0]
      exact PySem.W.kat_nil hp
    | cons n t r =>
      have f1 : fin = true := by rw [hf]; simp
      rw [f1]
      exact PySem.W.kat_nil hp
  | cons n t r ih =>
    rename_i ws ks
    intro us ms i hu hf hp
    cases hu with
    | nil =>
      have f0 : fin = false := by rw [hf]; simp
      rw [f0]
      exact PySem.W.kat_nil hp
    | cons m u r2 =>
      rename_i ws2 ks2
      rw [HT.lexLt_cons] at hp
      show PySem.W.KatLex prog w A b fin P ((Value.int n t, Value.int m u) :: ws.zip ws2) i s
      refine PySem.W.kat_cons (wpAny_eqBool_int ?_)
      cases e : (n == m) with
      | true =>
        have en : n = m := by simpa using e
        rw [if_pos en] at hp
        refine PySem.W.kat_yes (ih (i + 1) r2 ?_ hp)
        rw [hf]
        simp
      | false =>
        have en : ¬ n = m := by simpa using e
        rw [if_neg en] at hp
        exact PySem.W.kat_no (TS.oneLt_ints _ hp)
/-- tuples of ints, none empty -/
def RowsAt (h : Heap) (vs : List Value) : Prop := ∀ v ∈ vs, ∃ ns, TS.TupInts h v ns ∧ ns ≠ []
theorem rows_first {h : Heap} : ∀ {vs : List Value}, RowsAt h vs → ∃ fs, PySem.W.KatTups h vs fs ∧ fs.length = vs.length ∧ ∀ f ∈ fs, ∃ n t, f = Value.int n t
  | [], _ => ⟨[], PySem.W.KatTups.nil, rfl, fun f hf => absurd hf (by simp)⟩
  | v :: vs, x => by
    obtain ⟨ns, ⟨a, its, rfl, ⟨o, ho, hc, c, hd⟩, hi⟩, hne⟩ := x v (List.mem_cons_self ..)
    obtain ⟨fs, kt, hl, hf⟩ := rows_first fun u hu => x u (List.mem_cons_of_mem _ hu)
    generalize eL : its.toList = L at hi
    cases hi with
    | nil => exact absurd rfl hne
    | cons n t r =>
      have e0 : its[0]? = some (Value.int n t) := by rw [← Array.getElem?_toList, eL]; rfl
      refine ⟨.int n t :: fs, PySem.W.KatTups.cons ho hc hd e0 kt, by simp [hl], fun f mf => ?_⟩
      rcases List.mem_cons.mp mf with z | z
      · exact ⟨n, t, z⟩
      · exact hf f z
theorem rows_sortable {h0 h1 : Heap} {a : Addr} {vs : List Value} (x : RowsAt h0 vs) (h2 : 2 ≤ vs.length) (keep : ∀ b o, h0.get? b = some o → b ≠ a ∧ h1.get? b = some o) :
    SrtO.SortableO prog w A { s with heap := h1 } a vs fun v u => HT.lexLt (TS.intsOf h0 v) (TS.intsOf h0 u) := by
  intro h3 k3
  have up : ∀ b o, h0.get? b = some o → o.cls = .type "tuple" → h3.get? b = some o := fun b o e _ => k3 b o (keep b o e).1 (keep b o e).2
  have x3 : RowsAt h3 vs := fun v hv => by
    obtain ⟨ns, t, ne⟩ := x v hv
    exact ⟨ns, t.keeps up, ne⟩
  obtain ⟨fs, kt, hl, hf⟩ := rows_first x3
  refine ⟨tuples' true, fun Q E hq => PySem.W.kat_kind (T := .type "int") kt (by omega) (fun f mf => ?_) rfl hq, fun p q mp mq => ?_⟩
  · obtain ⟨n, t, rfl⟩ := hf f mf
    exact PySem.W.Looks.of_pure rfl
  · obtain ⟨ns, t1, _⟩ := x p.1 mp
    obtain ⟨ms, t2, _⟩ := x q.1 mq
    have i1 := t1.ints
    have i2 := t2.ints
    obtain ⟨a1, xs, e1, ⟨o1, g1, _, n1, d1⟩, j1⟩ := t1.keeps up
    obtain ⟨a2, ys, e2, ⟨o2, g2, _, n2, d2⟩, j2⟩ := t2.keeps up
    show wpAny (model prog w) A (keyLt' (tuples' true) p.1 q.1) (fun r s' => s' = _ ∧ r = HT.lexLt (TS.intsOf h0 p.1) (TS.intsOf h0 q.1)) (fun _ _ => False) { s with heap := h3 }
    rw [i1, i2, e1, e2]
    refine PySem.W.kat_lt g1 d1 g2 d2 (lex_any (us := ys.toList) (ms := ms) j1 0 j2 ?_ ⟨rfl, rfl⟩)
    have l1 := j1.length
    have l2 := j2.length
    rw [Array.length_toList] at l1 l2
    rw [l1, l2]
end
/-- sorted(xs), xs a list of tuples of ints, none empty -/
def rSortR (K : PySem.W.Frag) : List V → Hp → VK → Prop := fun vs H Q => ∃ (a : Addr) (L : List (V × List Int)), vs = [V.ref a] ∧ SqL K H a (L.map (·.1)) ∧ (∀ p ∈ L, p.2 ≠ [] ∧ ∃ t, p.1 = V.ref t ∧ SqT K H t (p.2.map V.int)) ∧
  ∀ (M : List (V × List Int)) (p : Addr), M.Perm L → M.Pairwise (fun x y => HT.lexLt y.2 x.2 = false) → H p = none → Q (.ref p) (upd H p (.lst (M.map (·.1))))
section
variable {X : Cx}
theorem pairs_of {pins : List (Addr × Obj)} {σ : L2.St} {H : Hp} {s : Shared} (I : Inv X pins σ H s) : ∀ {L : List (V × List Int)} {its : List Value}, Vals (L.map (·.1)) its → (∀ p ∈ L, p.2 ≠ [] ∧ ∃ t, p.1 = V.ref t ∧ SqT X.K H t (p.2.map V.int)) →
    L = its.map (fun v => (backV v, TS.intsOf s.heap v)) ∧ RowsAt s.heap its ∧ ∀ v ∈ its, ∃ t, v = Value.ref t
  | [], _, .nil, _ => ⟨rfl, fun v hv => absurd hv (by simp), fun v hv => absurd hv (by simp)⟩
  | p :: L, v :: its, .cons r rr, h => by
    obtain ⟨ne, t, e, ht⟩ := h p (List.mem_cons_self ..)
    obtain ⟨h1, h2, h3⟩ := pairs_of I rr fun q hq => h q (List.mem_cons_of_mem _ hq)
    have r' : RelV p.1 v := r
    rw [e] at r'
    cases r'
    have ti := tupI_raw I ht
    refine ⟨?_, fun u hu => ?_, fun u hu => ?_⟩
    · rw [List.map_cons, ← h1, ti.ints]
      obtain ⟨p1, p2⟩ := p
      have e' : p1 = V.ref t := e
      rw [e']
      rfl
    · rcases List.mem_cons.mp hu with z | z
      · rw [z]; exact ⟨_, ti, ne⟩
      · exact h2 u z
    · rcases List.mem_cons.mp hu with z | z
      · exact ⟨t, z⟩
      · exact h3 u z
theorem cr_sortedR : CallR X (.builtin "sorted") (rSortR X.K) := fun pins s σ H vs us Q I r h => by
  obtain ⟨a, L, rfl, hs, hx, q⟩ := h
  obtain ⟨its, rv, pl, hz⟩ := I.list hs
  obtain ⟨eL, rows, refs⟩ := pairs_of I rv hx
  have eu := Vals.ref1 r
  subst eu
  refine SrtO.sorted_ord (NtL.swo_lexL _) pl.isList (by rw [← rv.length]; exact hz) (fun h2 h1 a1 _ kk => rows_sortable rows h2 kk) fun out hs hb => ?_
  obtain ⟨c, there⟩ := sortedAll_at s.heap its out.toArray
  have refs' : ∀ u ∈ out, ∃ t, u = Value.ref t := fun u hu => refs u (hb.perm.mem_iff.mp hu)
  have eM : (out.map fun v => (backV v, TS.intsOf s.heap v)).map (·.1) = out.map backV := by rw [List.map_map]; rfl
  have long : (out.map backV).length ≤ sizeLine := by
    rw [List.length_map, hb.perm.length_eq, ← rv.length]
    exact hz
  refine ⟨.ref _, upd H (s.heap.objs.size + 1) (.lst (out.map backV)), I.laid (t' := s.toks) (fun _ _ => sortedAll_old) (Nat.le_succ _) ⟨long, out, c, vals_back refs', there⟩, rfl, ?_⟩
  have fin := q (out.map fun v => (backV v, TS.intsOf s.heap v)) _ (by rw [eL]; exact hb.perm.map _) (List.pairwise_map.mpr hs) (I.hok.fresh (Nat.le_succ s.heap.objs.size))
  rw [eM] at fin
  exact fin
end
def rowV (r : List Int) : PV := .tup (r.map .int)
/-- sorted: of ints, of rows of ints -/
def bSorted (m : Nat) (xs : List PV) (h : MH) : Option (PV × MH) := match xs with
  | [x] => match lstH h x with
    | some ys => match intsOf ys with
      | some ns => mkL m ((srt ltZ ns).map .int) h
      | none => match rowsOf ys with
        | some rs => match rs.all fun r => !r.isEmpty with
          | true => mkL m ((srt ltI rs).map rowV) h
          | false => none
        | none => none
    | none => none
  | _ => none
section
variable {K : PySem.W.Frag} {mg : Str → Option Value} {H : Hp} {μ : Mu}
theorem RepAll.ints (ns : List Int) : RepAll K mg H μ (ns.map .int) (ns.map V.int) := by
  induction ns with
  | nil => exact .nil
  | cons n ns ih => exact .cons (.int n) ih
/-- a list of rows: each value with its row -/
theorem rows_pair : ∀ {ys : List PV} {us : List V} {rs : List (List Int)}, RepAll K mg H μ ys us → rowsOf ys = some rs → ∃ L : List (V × List Int), L.map (·.1) = us ∧ L.map (·.2) = rs ∧ ∀ p ∈ L, Rep K mg H μ (rowV p.2) p.1 ∧ ∃ t, p.1 = V.ref t ∧ SqT K H t (p.2.map V.int)
  | _, _, _, .nil, e => by cases e; exact ⟨[], rfl, rfl, fun p hp => absurd hp (by simp)⟩
  | y :: ys, _, rs, .cons r rr, e => by
    cases r with
    | tup t r2 =>
      rename_i xs a us'
      have e' : (match intsOf xs, rowsOf ys with | some i, some s => some (i :: s) | _, _ => none) = some rs := e
      split at e'
      · rename_i i s q1 q2
        cases e'
        obtain ⟨L, h1, h2, h3⟩ := rows_pair rr q2
        have eu := intsOf_ok r2 q1
        subst eu
        refine ⟨(V.ref a, i) :: L, by rw [List.map_cons, h1], by rw [List.map_cons, h2], fun p hp => ?_⟩
        rcases List.mem_cons.mp hp with z | z
        · subst z
          exact ⟨.tup t (RepAll.ints i), a, rfl, t.sq⟩
        · exact h3 p z
      · cases e'
    | _ => cases e
theorem RepAll.rows : ∀ {L : List (V × List Int)}, (∀ p ∈ L, Rep K mg H μ (rowV p.2) p.1) → RepAll K mg H μ ((L.map (·.2)).map rowV) (L.map (·.1))
  | [], _ => .nil
  | p :: L, h => .cons (h p (List.mem_cons_self ..)) (RepAll.rows fun q hq => h q (List.mem_cons_of_mem _ hq))
end
section
variable {X : Cx}
theorem cm_sorted (m : Nat) : CallR X (.builtin "sorted") (rMC X.K X.mg (bSorted m)) := CallR.imp (CallR.or cr_sortedI cr_sortedR) fun us H Q hq => by
  obtain ⟨μ, h, xs, v, h', hh, r, e, k⟩ := hq
  unfold bSorted at e
  split at e
  · obtain ⟨u, rfl, r1⟩ := r.one
    split at e
    · rename_i ys e1
      obtain ⟨p, ws, rfl, hs, r2⟩ := lstH_ok hh r1 e1
      split at e
      · rename_i ns e2
        have ew := intsOf_ok r2 e2
        subst ew
        refine .inl ⟨p, ns, rfl, .of hs, fun ns' q pm pw nq => ?_⟩
        have es : ns' = srt ltZ ns := srt_one swoZ (fun a b h1 h2 => by have := of_decide_eq_false h1; have := of_decide_eq_false h2; omega) pm (pw.imp fun {a b} hab => decide_eq_false (by omega))
        subst es
        exact (mkL_ok e hh (RepAll.ints _) k).2 q nq
      · split at e
        · rename_i rs e3
          split at e
          · rename_i hne
            obtain ⟨L, h1, h2, h3⟩ := rows_pair r2 e3
            refine .inr ⟨p, L, rfl, by rw [h1]; exact .of hs, fun p hp => ⟨?_, (h3 p hp).2⟩, fun M q pm pw nq => ?_⟩
            · have hm : p.2 ∈ rs := by rw [← h2]; exact List.mem_map.mpr ⟨p, hp, rfl⟩
              have := List.all_eq_true.mp hne p.2 hm
              simpa using this
            · have es : M.map (·.2) = srt ltI rs := srt_one swoR (fun a b => lex_same) (by rw [← h2]; exact pm.map _) (List.pairwise_map.mpr pw)
              rw [← es] at e
              exact (mkL_ok e hh (RepAll.rows fun p hp => (h3 p (pm.mem_iff.mp hp)).1) k).2 q nq
          · cases e
        · cases e
    · cases e
  · cases e
end
end Mn
-- text MnSet
section
set_option maxHeartbeats 4000000
/-! Mn: sorted(set(list)) -/
namespace Mn
open PySem PySem.Spec L2 PyProof.Rows

section
variable {P : Program} {w : World} {Ar : Around} {Ex : Value → Shared → Prop} {s : Shared}
abbrev bareSet (w : World) : Obj := { cls := .type "set", dict := none, data := .set #[] 0 (.fresh 0 0 (!w.params.followText "set-order")) }
/-- set(list of ints): the members (SetFor's rule is for a tuple) -/
theorem set_of_list {l : Addr} {its : Array Value} (ns : List Int) {Post : Value → Shared → Prop} (calm : Ar.handled = none) (isl : s.heap.IsList l its) (alli : IntsAre its.toList ns) (few : ns.length + 1 < scanBound)
    (fin : ∀ (hn : Heap) (tk c : Nat), SetR w hn s.heap.objs.size (fun j => decide (j ∈ ns)) c → c ≤ ns.length → (∀ b o, s.heap.get? b = some o → hn.get? b = some o) → Post (.ref s.heap.objs.size) { s with heap := hn, toks := tk }) :
    wpAny (model P w) Ar (call (.type "set") [.ref l]) Post Ex s := by
  have size0 : its.size = ns.length := by rw [← Array.length_toList]; exact alli.length
  obtain ⟨cs, tls, mro0⟩ := F.called_set.mro
  have made0 := F.called_set.made
  have sub0 := F.called_set.sub
  have not0 := F.called_set.notType
  have can0 := F.called_set.canCreate
  have chk0 := F.typeCall_set_1 (.ref l)
  refine wpAny_call (codeAny_of_tree (show wpAny _ _ (callAny (.type "set") _) _ _ _ from wpAny_pure ⟨Code.quiet_builtin _ (by decide +kernel), codeAny_builtin F.entry_type_call ?_⟩))
  rw [Around.under_plain (weight_type_call_type "set" [Value.ref l] []) rfl]
  repeat any_goals (first | assumption | wp_step)
  refine codeAny_mono (code_set_led1 (.ref l) (E := Ex) (Q₁ := fun ob sn => ob = .ref s.heap.objs.size ∧ sn = { s with heap := s.heap.push (bareSet w) }) ⟨rfl, rfl⟩) fun res sn hres => ?_
  cases res with
  | error e => exact hres
  | ok flow =>
    cases flow with
    | ret ob =>
      obtain ⟨rfl, rfl⟩ := hres
      have atS : (s.heap.push (bareSet w)).get? s.heap.objs.size = some (bareSet w) := Heap.get?_push_size s.heap rfl
      have tyS : Shared.TypeIs { s with heap := s.heap.push (bareSet w) } (.ref s.heap.objs.size) "set" := ⟨_, atS, rfl⟩
      have init0 := F.called_set.init.lookup
      have bind0 := F.called_set.init.bind (.ref s.heap.objs.size)
      repeat any_goals (first | assumption | wp_step)
      refine codeAny_mono (codeAny_call_builtin (R := wants (fun r s2 => r = .none ∧ ∃ hn tk c, s2 = { s with heap := hn, toks := tk } ∧ SetR w hn s.heap.objs.size (fun j => decide (j ∈ ns)) c ∧ c ≤ ns.length ∧ (∀ b o, s.heap.get? b = some o → hn.get? b = some o)) Ex) F.called_set.init.plain F.entry_set_init (check_set_init_1 tyS ?_)) fun res2 s2 hres2 => ?_
      · obtain ⟨⟨lcls, ldict, ldata, lslots⟩, lat, lc, ln, ld⟩ := isl
        simp only at lc ld
        subst lc ld
        have lat' : (s.heap.push (bareSet w)).get? l = some { cls := .type "list", dict := ldict, data := .seq its ln, slots := lslots } := Heap.get?_push_of_some _ lat
        have nsub1 := F.sub_list_set
        have nsub2 := F.sub_list_frozenset
        have ndict : (Value.type "list" == Value.type "dict") = false := by decide
        have isl' : (s.heap.push (bareSet w)).IsList l its := ⟨_, lat', rfl, ln, rfl⟩
        unfold Builtin.«set.__init__» Builtin.Frozenset.updateFrom noKeywords
        generalize ePI : pyIter = PI
        wp_walk
        subst ePI
        refine wpAny_pyIter_list isl' (wpAny_bind (wpAny_runValue ?_))
        have below : l < s.heap.objs.size := Heap.lt_size lat
        have calm3 : Ar.in1.in1.in1.handled = none := by simp [calm]
        have size1 : (s.heap.push (bareSet w)).objs.size = s.heap.objs.size + 1 := Heap.size_push s.heap _
        have apart1 : l ≠ (s.heap.push (bareSet w)).objs.size := by rw [size1]; exact Nat.ne_of_lt (Nat.lt_succ_of_lt below)
        have apart2 : s.heap.objs.size ∉ [(s.heap.push (bareSet w)).objs.size, l] := by
          rw [size1]
          simp only [List.mem_cons, List.not_mem_nil, or_false, not_or]
          exact ⟨Nat.ne_of_lt (Nat.lt_succ_self _), Nat.ne_of_gt below⟩
        have vals : ∀ (i : Nat) (v : Value), its[i]? = some v → ∃ k t, ns[i]? = some k ∧ v = .int k t := fun i v hv => by
          have lt : i < ns.length := by rw [← size0]; exact (Array.getElem?_eq_some_iff.mp hv).1
          obtain ⟨t, e⟩ := PyProof.Rows.IntsAre.int_at alli i v (by rw [Array.getElem?_toList]; exact hv)
          exact ⟨ns[i], t, List.getElem?_eq_getElem lt, by rw [e, List.getD_eq_getElem?_getD, List.getElem?_eq_getElem lt]; rfl⟩
        refine set_update_ints ((Walks.list calm3 _ l apart1 its).toS) s.heap.objs.size apart2 ns size0 few vals (its.size - 0) 0 _ (by omega) (Nat.zero_le _) ⟨⟨_, Heap.get?_push_size _ rfl, rfl, rfl⟩, (isl'.push _)⟩ ?start ?stop
        case start => exact ⟨0, Nat.le_refl 0, setR_new_at (Heap.get?_push_of_some _ atS)⟩
        case stop =>
          intro s3 c3 moved le3 set3
          obtain ⟨h3, g3, d3, t3, o3⟩ := s3
          have eg : g3 = s.gens := moved.gens
          have ed : d3 = s.drawn := moved.drawn
          have eo : o3 = s.os := moved.os
          subst eg ed eo
          rw [size0] at le3
          show wpAny _ _ _ _ _ _
          refine wpAny_pure (show wpAny _ _ (ret Value.none) _ _ _ from wpAny_pure ⟨rfl, h3, t3, c3, rfl, set3, le3, fun b o e => ?_⟩)
          have lt0 : b < s.heap.objs.size := Heap.lt_size e
          refine moved.heap b o ?_ (Heap.get?_push_of_some _ (Heap.get?_push_of_some _ e))
          rw [size1]
          simp only [List.mem_cons, List.not_mem_nil, or_false, not_or]
          exact ⟨Nat.ne_of_lt lt0, Nat.ne_of_lt (Nat.lt_succ_of_lt lt0)⟩
      · cases res2 with
        | error e => exact hres2
        | ok flow2 =>
          cases flow2 with
          | ret r =>
            obtain ⟨rfl, hn, tk, c, rfl, set4, le4, keep4⟩ := hres2
            repeat any_goals (first | assumption | wp_step)
            exact fin _ _ _ set4 le4 keep4
          | _ => exact hres2.elim
    | _ => exact hres.elim
end
end Mn
end
-- text MnSet2
/-! Mn: sorted(set(list)), the rule -/
namespace Mn
open PySem PySem.Spec L2 PyProof.Rows

/-! ### sorted, each once -/
section
variable {α : Type} {lt : α → α → Bool}
def insU (lt : α → α → Bool) (x : α) : List α → List α
  | [] => [x]
  | y :: ys => match lt y x with
    | true => y :: insU lt x ys
    | false => match lt x y with
      | true => x :: y :: ys
      | false => y :: ys
def srtU (lt : α → α → Bool) : List α → List α
  | [] => []
  | x :: xs => insU lt x (srtU lt xs)
theorem mem_insU (tri : ∀ a b, lt a b = false → lt b a = false → a = b) (x z : α) : ∀ l : List α, z ∈ insU lt x l ↔ z = x ∨ z ∈ l
  | [] => by simp [insU]
  | y :: ys => by
    unfold insU
    split
    · rw [List.mem_cons, mem_insU tri x z ys, List.mem_cons]
      constructor
      · rintro (h | h | h) <;> simp [h]
      · rintro (h | h | h) <;> simp [h]
    · rename_i e1
      split
      · simp [List.mem_cons]
      · rename_i e2
        have := tri _ _ e1 e2
        subst this
        simp [List.mem_cons]
theorem mem_srtU (tri : ∀ a b, lt a b = false → lt b a = false → a = b) (z : α) : ∀ l : List α, z ∈ srtU lt l ↔ z ∈ l
  | [] => by simp [srtU]
  | x :: xs => by
    show z ∈ insU lt x (srtU lt xs) ↔ _
    rw [mem_insU tri, mem_srtU tri z xs, List.mem_cons]
theorem lt_trans_of (O : SrtO.Swo lt) {x y z : α} (h1 : lt x y = true) (h2 : lt y z = true) : lt x z = true := by
  cases e : lt x z with
  | true => rfl
  | false => rw [O.tr y z x (O.asym _ _ h2) e] at h1; cases h1
theorem insU_up (O : SrtO.Swo lt) (tri : ∀ a b, lt a b = false → lt b a = false → a = b) (x : α) : ∀ {l : List α}, l.Pairwise (fun a b => lt a b = true) → (insU lt x l).Pairwise (fun a b => lt a b = true)
  | [], _ => List.pairwise_singleton _ _
  | y :: ys, h => by
    have h1 := (List.pairwise_cons.mp h).1
    have h2 := (List.pairwise_cons.mp h).2
    unfold insU
    split
    · rename_i e
      refine List.pairwise_cons.mpr ⟨fun z hz => ?_, insU_up O tri x h2⟩
      rcases (mem_insU tri x z ys).mp hz with q | q
      · rw [q]; exact e
      · exact h1 z q
    · split
      · rename_i e
        refine List.pairwise_cons.mpr ⟨fun z hz => ?_, h⟩
        rcases List.mem_cons.mp hz with q | q
        · rw [q]; exact e
        · exact lt_trans_of O e (h1 z q)
      · exact h
theorem srtU_up (O : SrtO.Swo lt) (tri : ∀ a b, lt a b = false → lt b a = false → a = b) : ∀ l : List α, (srtU lt l).Pairwise (fun a b => lt a b = true)
  | [] => List.Pairwise.nil
  | x :: xs => insU_up O tri x (srtU_up O tri xs)
theorem nodup_of_up (O : SrtO.Swo lt) {l : List α} (h : l.Pairwise (fun a b => lt a b = true)) : l.Nodup := h.imp fun {a b} q e => by
  subst e
  rw [O.refl a] at q
  cases q
theorem srtU_one (O : SrtO.Swo lt) (tri : ∀ a b, lt a b = false → lt b a = false → a = b) {l m : List α} (nd : l.Nodup) (hm : ∀ z, z ∈ l ↔ z ∈ m) (s : l.Pairwise (fun a b => lt b a = false)) : l = srtU lt m := by
  have up := srtU_up O tri m
  have p : l.Perm (srtU lt m) := (List.perm_ext_iff_of_nodup nd (nodup_of_up O up)).mpr fun z => (hm z).trans (mem_srtU tri z m).symm
  exact List.Perm.eq_of_pairwise (le := fun a b => lt b a = false) (fun a b _ _ h1 h2 => tri a b h2 h1) s (up.imp fun {a b} h => O.asym _ _ h) p
end

/-! ### sorted(a set of tuples of ints) -/
section
variable {P : Program} {w : World} {Ar : Around} {Ex : Value → Shared → Prop} {s : Shared}
theorem sorted_setR {a : Addr} {L : List (Addr × List Int)} {es : Array (Int × Value)} {ep : Nat} {t : SetTable} {Post : Value → Shared → Prop} (R : SetTR P w s.heap a L es ep t) (calm : Ar.handled = none) (ne : ∀ p ∈ L, p.2 ≠ [])
    (fin : ∀ (sn : Shared) (p : Addr) (out : List Value) (c : Nat), (∀ b o, s.heap.get? b = some o → sn.heap.get? b = some o) → sn.gens = s.gens → sn.os = s.os → s.heap.objs.size ≤ p → sn.heap.get? p = some (seqObj "list" out.toArray c) →
      out.Perm (L.map fun q => Value.ref q.1) → out.Pairwise (fun u v => HT.lexLt (TS.intsOf s.heap v) (TS.intsOf s.heap u) = false) → Post (.ref p) sn) :
    wpAny (model P w) Ar (call (.builtin "sorted") [.ref a]) Post Ex s := by
  obtain ⟨ob, atA, exact0, data0⟩ := R.ob
  have size0 := R.size
  have few0 := R.few
  have cells : es.toList.map (·.2) = L.map fun q => Value.ref q.1 := by
    rw [R.rows]
    unfold L2.rowsOf
    rw [List.map_map]
    rfl
  refine Calls.call_function_entry kind_sorted plain_sorted entry_sorted (args_sorted1 (.ref a)) ?_
  unfold Builtin.«sorted»
  refine wpAny_bind (m := checkCount "sorted" 1 1 _) (wpAny_pure (wpAny_bind (collect_set (A := Ar.in1) calm ⟨ob, atA, exact0.1, data0⟩ R.fits (by unfold scanBound; omega) R.tab.ris R.led fun s1 vs keep1 _ gens1 os1 perm1 => ?_)))
  rw [cells] at perm1
  have len1 : vs.length ≤ sizeLine := by rw [perm1.length_eq, List.length_map, sizeLine_eq]; omega
  have row : ∀ v ∈ vs, ∃ q ∈ L, v = Value.ref q.1 := fun v hv => by
    obtain ⟨q, hq, e⟩ := List.mem_map.mp (perm1.mem_iff.mp hv)
    exact ⟨q, hq, e.symm⟩
  have at0 : RowsAt s.heap vs := fun v hv => by
    obtain ⟨q, hq, rfl⟩ := row v hv
    exact ⟨q.2, tupInts_of (R.tup q hq), ne q hq⟩
  refine wpAny_bind (wpAny_newList ?_ len1)
  have new1 : (s1.heap.push (seqObj "list" vs.toArray 0)).get? s1.heap.objs.size = some (seqObj "list" vs.toArray 0) := Heap.get?_push_size s1.heap rfl
  have keep2 : ∀ b o, s.heap.get? b = some o → b ≠ s1.heap.objs.size ∧ (s1.heap.push (seqObj "list" vs.toArray 0)).get? b = some o := fun b o e => ⟨Nat.ne_of_lt (Heap.lt_size (keep1 b o e)), Heap.get?_push_of_some _ (keep1 b o e)⟩
  refine wpAny_bind (wpAny_holding (wpAny_call_entry slot_list_sort ⟨_, new1, rfl⟩ entry_list_sort (SrtO.list_sort_ord (s := { s1 with heap := s1.heap.push (seqObj "list" vs.toArray 0) }) (NtL.swo_lexL (TS.intsOf s.heap)) new1 len1
    (fun h2 => rows_sortable at0 h2 keep2) fun out sorted2 stable2 => ⟨_, rfl, ?_⟩) (args_list_sort _)))
  obtain ⟨c, there⟩ := sortedHeap_at (vs := vs) (out := out.toArray) new1
  refine wpAny_pure ⟨_, rfl, fin _ s1.heap.objs.size out c (fun b o e => ?_) gens1 os1 ?_ there (stable2.perm.trans perm1) sorted2⟩
  · have q := keep1 b o e
    have lt := Heap.lt_size q
    show (sortedHeap (s1.heap.push (seqObj "list" vs.toArray 0)) s1.heap.objs.size vs out.toArray).get? b = some o
    rw [sortedHeap_old (Nat.ne_of_lt lt) (by rw [size_push']; exact Nat.lt_succ_of_lt lt)]
    exact Heap.get?_push_of_some _ q
  · rcases Nat.lt_or_ge s1.heap.objs.size s.heap.objs.size with z | z
    · obtain ⟨o, e⟩ : ∃ o, s.heap.get? a = some o := ⟨_, atA⟩
      omega
    · exact z
end
end Mn
-- text MnSet3
/-! Mn: sorted(set(list)), as an expression -/
namespace Mn
open PySem PySem.Spec L2 PyProof.Rows

def rSetI (K : PySem.W.Frag) (w : World) : List V → Hp → VK → Prop := fun vs H Q => ∃ (l : Addr) (ns : List Int), vs = [V.ref l] ∧ SqL K H l (ns.map V.int) ∧ ns.length < 64 ∧ ∀ (a : Addr) (c : Nat), H a = none → c ≤ ns.length → Q (.ref a) (upd H a (SetO w a (fun j => decide (j ∈ ns)) c))
def rSortSR (K : PySem.W.Frag) (P : Program) (w : World) : List V → Hp → VK → Prop := fun vs H Q => ∃ (a : Addr) (L : List (Addr × List Int)), vs = [V.ref a] ∧ H a = some (SetTO P w a L) ∧ (∀ p ∈ L, SqT K H p.1 (p.2.map V.int)) ∧ (∀ p ∈ L, p.2 ≠ []) ∧
  ∀ (M : List (Addr × List Int)) (p : Addr), M.Perm L → (M.map (·.2)).Nodup → M.Pairwise (fun x y => HT.lexLt y.2 x.2 = false) → M.length < 64 → H p = none → Q (.ref p) (upd H p (.lst (M.map fun q => V.ref q.1)))
def adr : Value → Addr
  | .ref a => a
  | _ => 0
section
variable {X : Cx}
theorem cr_setI (hc : X.calm = true) : CallR X (.type "set") (rSetI X.K X.w) := fun pins s σ H vs us Q I r h => by
  obtain ⟨l, ns, rfl, hl, few, q⟩ := h
  obtain ⟨its, rv, pl, hz⟩ := I.list hl
  have eu := Vals.ref1 r
  subst eu
  refine set_of_list (P := X.prog) (w := X.w) ns (I.ok.hd hc) pl.isList (by simpa using rv.ints) (by unfold scanBound; omega) fun hn tk c R le keep => ?_
  exact ⟨.ref s.heap.objs.size, upd H s.heap.objs.size (SetO X.w s.heap.objs.size (fun j => decide (j ∈ ns)) c), I.laid (t' := tk) keep (Nat.le_refl _) (setO_new R), rfl, q _ c (I.hok.fresh (Nat.le_refl _)) le⟩
theorem cr_sortSR (hc : X.calm = true) : CallR X (.builtin "sorted") (rSortSR X.K X.prog X.w) := fun pins s σ H vs us Q I r h => by
  obtain ⟨a, L, rfl, ha, hk, ne, q⟩ := h
  have R0 : SetT0 X.prog X.w s.heap a L := (I.hok a _ ha).1
  obtain ⟨es, ep, t, R⟩ := R0.full fun p hp => Inv.isT I (hk p hp)
  have eu := Vals.ref1 r
  subst eu
  refine sorted_setR R (I.ok.hd hc) ne fun sn p out c keep eg eo hp there perm up => ?_
  have back : (L.map fun q => Value.ref q.1).map (fun v => (adr v, TS.intsOf s.heap v)) = L := by
    rw [List.map_map]
    conv => rhs; rw [← List.map_id L]
    refine List.map_congr_left fun q hq => ?_
    show (q.1, TS.intsOf s.heap (.ref q.1)) = q
    rw [(tupI_raw I (hk q hq)).ints]
  have pM : (out.map fun v => (adr v, TS.intsOf s.heap v)).Perm L := by
    have z := perm.map fun v => (adr v, TS.intsOf s.heap v)
    rw [back] at z
    exact z
  have refs : ∀ u ∈ out, u = Value.ref (adr u) := fun u hu => by
    obtain ⟨x, _, e⟩ := List.mem_map.mp (perm.mem_iff.mp hu)
    rw [← e]; rfl
  have few : out.length < 64 := by rw [perm.length_eq, List.length_map]; exact R.few
  have vals : ∀ l : List Value, (∀ u ∈ l, u = Value.ref (adr u)) → Vals ((l.map fun v => (adr v, TS.intsOf s.heap v)).map fun q => V.ref q.1) l := fun l => by
    induction l with
    | nil => exact fun _ => .nil
    | cons u l ih =>
      intro hu
      refine .cons ?_ (ih fun v hv => hu v (List.mem_cons_of_mem _ hv))
      rw [hu u (List.mem_cons_self ..)]
      rfl
  have hlen : ((out.map fun v => (adr v, TS.intsOf s.heap v)).map fun q => V.ref q.1).length ≤ sizeLine := by rw [List.length_map, List.length_map, sizeLine_eq]; omega
  have hn : H p = none := I.hok.fresh hp
  have J : Inv X pins σ (upd H p (.lst ((out.map fun v => (adr v, TS.intsOf s.heap v)).map fun q => V.ref q.1))) { s with heap := sn.heap, gens := sn.gens, drawn := sn.drawn, toks := sn.toks } :=
    I.call (ch := []) (Un.laid keep hp hn) (I.hok.laid keep hp ⟨hlen, out, c, vals out refs, there⟩) (by rw [eg]; exact I.bare) (fun _ z => nomatch z)
  have es2 : sn = { s with heap := sn.heap, gens := sn.gens, drawn := sn.drawn, toks := sn.toks } := by
    obtain ⟨_, _, _, _, _⟩ := sn
    obtain ⟨_, _, _, _, _⟩ := s
    have eo' := eo
    subst eo'
    rfl
  rw [es2]
  exact ⟨.ref p, _, J, rfl, q _ p pM ((pM.map (·.2)).nodup_iff.mpr R.nd) (List.pairwise_map.mpr up) (by rw [List.length_map]; exact few) hn⟩
end
theorem rows_adr {K : PySem.W.Frag} {mg : Str → Option Value} {H : Hp} {μ : Mu} : ∀ {ys : List PV} {us : List V} {rs : List (List Int)}, RepAll K mg H μ ys us → rowsOf ys = some rs →
    ∃ L : List (Addr × List Int), (L.map fun q => V.ref q.1) = us ∧ L.map (·.2) = rs ∧ ∀ p ∈ L, Rep K mg H μ (rowV p.2) (.ref p.1) ∧ SqT K H p.1 (p.2.map V.int)
  | ys, us, rs, r, e => by
    obtain ⟨L, h1, h2, h3⟩ := rows_pair r e
    have conv : ∀ L : List (V × List Int), (∀ p ∈ L, Rep K mg H μ (rowV p.2) p.1 ∧ ∃ t, p.1 = V.ref t ∧ SqT K H t (p.2.map V.int)) → ∃ M : List (Addr × List Int), (M.map fun q => V.ref q.1) = L.map (·.1) ∧ M.map (·.2) = L.map (·.2) ∧ ∀ p ∈ M, Rep K mg H μ (rowV p.2) (.ref p.1) ∧ SqT K H p.1 (p.2.map V.int) := fun L => by
      induction L with
      | nil => exact fun _ => ⟨[], rfl, rfl, fun p hp => absurd hp (by simp)⟩
      | cons p L ih =>
        intro hp
        obtain ⟨M, m1, m2, m3⟩ := ih fun q hq => hp q (List.mem_cons_of_mem _ hq)
        obtain ⟨rp, t, et, ht⟩ := hp p (List.mem_cons_self ..)
        refine ⟨(t, p.2) :: M, by rw [List.map_cons, List.map_cons, m1, et], by rw [List.map_cons, List.map_cons, m2], fun q hq => ?_⟩
        rcases List.mem_cons.mp hq with z | z
        · subst z
          rw [et] at rp
          exact ⟨rp, ht⟩
        · exact m3 q z
    obtain ⟨M, m1, m2, m3⟩ := conv L h3
    exact ⟨M, m1.trans h1, m2.trans h2, m3⟩
/-- sorted(set(list)) -/
def dSortSet (m : Nat) (a : Den) : Den := fun e h => match a e h with
  | some (x, h1) => match lstH h1 x with
    | some ys => match Nat.blt ys.length 64 with
      | true => match intsOf ys with
        | some ns => mkL m ((srtU ltZ ns).map .int) h1
        | none => match rowsOf ys with
          | some rs => match rs.all fun r => !r.isEmpty with
            | true => mkL m ((srtU ltI rs).map rowV) h1
            | false => none
          | none => none
      | false => none
    | none => none
  | none => none
section
variable {X : Cx} {p p2 pos q : Pos} {e : Expr} {da : Den}
theorem me_sortSet (m : Nat) (hc : X.calm = true) (hu : X.A.units + 64 < cLine) (hg : Gl X "sorted") (hm : X.mg "sorted" = none) (hg2 : Gl X "set") (hm2 : X.mg "set" = none) (ha : ME X e da) (hs : isStar e = false) :
    ME X (.Call (.Name "sorted" p) [.Call (.Name "set" p2) [e] [] q] [] pos) (dSortSet m da) := by
  have inner := pe_callTy (CallR.or (cr_setI hc) (cr_setOfT hc hu)) hg2 hm2 PyProof.Rows.boot_set (pa_cons ha pa_nil (star_of hs _ _)) (by decide) (by decide) (star_of hs _ _) rfl (p := p2) (pos := q)
  refine (pe_callB (CallR.or (cr_sortedSet hc) (cr_sortSR hc)) hg hm PyProof.Rows.boot_sorted (pa_cons inner pa_nil rfl) (by decide) (by decide) rfl rfl).imp fun σ H Q hq => ?_
  obtain ⟨μ, env, h, w, h', hh, ev, eq, k⟩ := hq
  unfold dSortSet at eq
  split at eq
  · rename_i x h1 e1
    refine ⟨μ, env, h, x, h1, hh, ev, e1, fun μ1 H1 u E1 hh1 r1 => ?_⟩
    split at eq
    · rename_i ys e2
      obtain ⟨l, us, rfl, hl, r2⟩ := lstH_ok hh1 r1 e2
      split at eq
      · rename_i hb
        have h64 : ys.length < 64 := by simpa [Nat.blt_eq] using hb
        split at eq
        · rename_i ns e3
          have eu := intsOf_ok r2 e3
          subst eu
          have few : ns.length < 64 := by have := r2.length; rw [List.length_map] at this; omega
          refine .inl ⟨l, ns, rfl, .of hl, few, fun a c na hcn => .inl ⟨a, fun j => decide (j ∈ ns), c, rfl, upd_same, by omega, fun out p2 up mem len np => ?_⟩⟩
          obtain ⟨E2, hh2, _⟩ := hh1.new (o := SetO X.w a (fun j => decide (j ∈ ns)) c) na
          have es : out = srtU ltZ ns := srtU_one swoZ (fun a b h1 h2 => by have := of_decide_eq_false h1; have := of_decide_eq_false h2; omega) (up.imp fun {a b} hab e => by omega) (fun z => (mem z).trans decide_eq_true_iff) (up.imp fun {a b} hab => decide_eq_false (by omega))
          subst es
          exact (mkL_ok eq hh2 (RepAll.ints _) fun μ3 H3 u3 E3 => k μ3 H3 u3 ((E1.trans E2).trans E3)).2 p2 np
        · split at eq
          · rename_i rs e4
            split at eq
            · rename_i hne
              obtain ⟨L, m1, m2, m3⟩ := rows_adr r2 e4
              have few : L.length < 64 := by
                have z1 := r2.length
                have z2 := congrArg List.length m1
                rw [List.length_map] at z2
                omega
              refine .inr ⟨l, L, rfl, by rw [m1]; exact .of hl, fun p hp => (m3 p hp).2, few, fun a S na sub all => .inr ⟨a, S, rfl, upd_same, fun p hp => ?_, fun p hp => ?_, fun M p2 pm nd up _ np => ?_⟩⟩
              · obtain ⟨E2, hh2, _⟩ := hh1.new (o := SetTO X.prog X.w a S) na
                have rp := (m3 p (sub p hp)).1.ext E2
                obtain ⟨p', us', ep, t, _⟩ := rp.tup_inv
                cases ep
                have st := (m3 p (sub p hp)).2
                rcases st with st | st
                · refine .inl ?_
                  rcases st with st | ⟨o, st⟩
                  · exact .inl (E2.kept _ _ st (fun z => by
                      obtain ⟨us2, e5⟩ := hh1.trk.lst _ z
                      rw [st] at e5; cases e5))
                  · exact .inr ⟨o, E2.kept _ _ st (fun z => by
                      obtain ⟨us2, e5⟩ := hh1.trk.lst _ z
                      rw [st] at e5; cases e5)⟩
                · exact .inr st
              · have hm' : p.2 ∈ rs := by rw [← m2]; exact List.mem_map.mpr ⟨p, sub p hp, rfl⟩
                have := List.all_eq_true.mp hne p.2 hm'
                simpa using this
              · obtain ⟨E2, hh2, _⟩ := hh1.new (o := SetTO X.prog X.w a S) na
                have es : M.map (·.2) = srtU ltI rs := by
                  refine srtU_one swoR (fun a b => lex_same) nd (fun z => ?_) (List.pairwise_map.mpr up)
                  rw [← m2]
                  constructor
                  · intro hz
                    obtain ⟨y, hy, rfl⟩ := List.mem_map.mp hz
                    exact List.mem_map.mpr ⟨y, sub y (pm.mem_iff.mp hy), rfl⟩
                  · intro hz
                    obtain ⟨y, hy, rfl⟩ := List.mem_map.mp hz
                    exact ((pm.map (·.2)).mem_iff).mpr (all y hy)
                rw [← es] at eq
                have rr : RepAll X.K X.mg (upd H1 a (SetTO X.prog X.w a S)) μ1 ((M.map (·.2)).map rowV) (M.map fun q => V.ref q.1) := by
                  have z := RepAll.rows (K := X.K) (mg := X.mg) (H := upd H1 a (SetTO X.prog X.w a S)) (μ := μ1) (L := M.map fun q => (V.ref q.1, q.2)) (fun p hp => by
                    obtain ⟨y, hy, rfl⟩ := List.mem_map.mp hp
                    exact (m3 y (sub y (pm.mem_iff.mp hy))).1.ext E2)
                  simpa [List.map_map, Function.comp_def] using z
                exact (mkL_ok eq hh2 rr fun μ3 H3 u3 E3 => k μ3 H3 u3 ((E1.trans E2).trans E3)).2 p2 np
            · cases eq
          · cases eq
      · cases eq
    · cases eq
  · cases eq
end
end Mn
-- text MnComp
/-! Mn: from the syntax tree to denotations -/
namespace Mn
open PySem PySem.Spec L2 PyProof.Rows

/-! ### a dict of ints in the module -/
structure DicOk (K : PySem.W.Frag) (a : Addr) (kvs : List (Int × Int)) : Prop where
  ex : ∃ (es : Array DictEntry) (n : Nat), K.lookup a = some ⟨.type "dict", none, .dict es n, #[]⟩ ∧ (∀ e ∈ es, ∃ k t, e.key = .int k t ∧ e.hash = hashInt k) ∧ ∀ k v, kvs.lookup k = some v → ∃ t, findBy Value.isInt es k = some (.int v t)
def dDic (kvs : List (Int × Int)) (a : Den) : Den := fun e h => match a e h with
  | some (.int i, h1) => match kvs.lookup i with
    | some v => some (.int v, h1)
    | none => none
  | _ => none
section
variable {X : Cx} {x : Str} {p pos : Pos} {b : Expr} {db : Den} {d : Addr} {kvs : List (Int × Int)}
def rDic (d : Addr) (kvs : List (Int × Int)) : R2 := fun x y H Q => ∃ i v, x = .ref d ∧ y = .int i ∧ kvs.lookup i = some v ∧ Q (.int v) H
theorem ix_dic (D : DicOk X.K d kvs) : IxR X (rDic d kvs) := by
  intro value slice pins s σ H x y v u Q I rx ry h hs
  obtain ⟨i, w, rfl, rfl, e, q⟩ := h
  obtain ⟨es, n, hl, hk, hf⟩ := D.ex
  cases rx
  obtain ⟨t, rfl⟩ := ry
  have ho : s.heap.get? d = some ⟨.type "dict", none, .dict es n, #[]⟩ := I.kIn _ _ hl
  obtain ⟨tv, ef⟩ := hf i w e
  have hm : s.heap.MapOf (intKind X.prog X.w) d (fun k => findBy Value.isInt es k) := ⟨_, es, n, ho, ⟨rfl, rfl, rfl⟩, rfl, fun en hen => by
    obtain ⟨k, t, e1, e2⟩ := hk en hen
    exact ⟨k, by rw [e1]; exact intKind_is X.prog X.w k t, e2⟩, fun _ => rfl⟩
  have hT : s.TypeIs (.ref d) "dict" := hm.typeIs
  refine tail_any hT PySem.slot_dict_getitem.lookup ?_ hs
  exact wpAny_getItem_of (intKind_is X.prog X.w i t) hm ef ⟨.int w, H, I.tok _, ⟨_, rfl⟩, q⟩
theorem me_dic (D : DicOk X.K d kvs) (hg : Gl X x) (hm : X.mg x = some (.ref d)) (hdb : (x == ("__debug__" : Str)) = false) (hb : ME X b db) (hs : isSlice b = false) : ME X (.Subscript (.Name x p) b pos) (dDic kvs db) := by
  refine (pe_ix (ix_dic D) (pe_glob hg hm (show RelV (.ref d) (.ref d) from rfl) hdb) hb (plain_ix hs)).imp fun σ H Q hq => ?_
  obtain ⟨μ, env, h, w, h', hh, ev, e, k⟩ := hq
  unfold dDic at e
  split at e
  · rename_i i h1 e1
    split at e
    · rename_i v e2
      cases e
      exact ⟨μ, env, h, _, _, hh, ev, e1, fun μ1 H1 u E1 hh1 r1 => ⟨i, v, rfl, r1.int_inv, e2, k μ1 H1 _ E1 hh1 (.int v)⟩⟩
    · cases e
  · cases e
end
end Mn
-- text MnC
/-! Mn: the compiler -/
namespace Mn
open PySem PySem.Spec L2 PyProof.Rows

/-- what a def's text is read in: the slots, the scope (a block's own), the slots that a block's targets may set; the defs, constants, dicts of the module -/
structure Ct where
  N : List Str
  sc : Scope
  sc0 : Scope
  own : List Nat
  df : List (Str × FDen)
  cs : List (Str × PV)
  dc : List (Str × List (Int × Int))
  gcd : Bool
  mu : List (Str × Nat)
def Ct.blk (ct : Ct) (scope : Scope) (own : List (Str × Nat)) : Ct := { ct with sc := relS scope ct.sc, sc0 := scope, own := own.map (·.2) }
def idxOf (x : Str) : List Str → Nat
  | [] => 0
  | y :: ys => match x == y with
    | true => 0
    | false => idxOf x ys + 1
/-- a name of the frame -/
def slot (ct : Ct) (x : Str) : Option Nat :=
  match ct.sc.names.lookup x with
  | some .globalImplicit => none
  | some .globalExplicit => none
  | none => none
  | some _ => match decide (ct.N[idxOf x ct.N]? = some x) && !(x == ("__debug__" : Str) || x == ("__classdict__" : Str)) with
    | true => some (idxOf x ct.N)
    | false => none
/-- a name of the frame that may be stored to -/
def slotL (ct : Ct) (x : Str) : Option Nat :=
  match ct.sc.names.lookup x == some .local || (ct.sc.names.lookup x == some .cell && ct.sc0.names.lookup x == some .cell) with
  | true => slot ct x
  | false => none
def isGl (ct : Ct) (x : Str) : Bool := ct.sc.names.lookup x == some .globalImplicit && !(x == ("__debug__" : Str))
/-- the built-in names that are used -/
def bts : List Str := ["len", "abs", "int", "min", "sum", "all", "any", "tuple", "list", "sorted", "set", "isinstance", "range", "enumerate", "zip", "bool", "str"]
def ownOf (N : List Str) : List (Str × NameKind) → List (Str × Nat)
  | [] => []
  | (x, k) :: r => match (k == .local || k == .cell) && decide (x ∈ N) with
    | true => (x, idxOf x N) :: ownOf N r
    | false => ownOf N r
def tyOf (x : Str) : Option String :=
  match x == ("int" : Str) with
  | true => some "int"
  | false => match x == ("bool" : Str) with
    | true => some "bool"
    | false => match x == ("str" : Str) with
      | true => some "str"
      | false => match x == ("tuple" : Str) with
        | true => some "tuple"
        | false => match x == ("list" : Str) with
          | true => some "list"
          | false => none
def isPlainT : Expr → Bool
  | .UnaryOp .Not _ _ => false
  | .BoolOp _ _ _ => false
  | .IfExp _ _ _ _ => false
  | .Compare _ _ _ _ => false
  | _ => true
def isSetE : Expr → Bool
  | .Set _ _ _ => true
  | _ => false
def muOf (ct : Ct) (tg : Expr) : Nat := match tg with
  | .Name x _ => (ct.mu.lookup x).getD 0
  | _ => 0
def bltin (m : Nat) (x : Str) : Option (List PV → MH → Option (PV × MH)) :=
  match x == ("len" : Str) with
  | true => some bLen
  | false => match x == ("abs" : Str) with
    | true => some bAbs
    | false => match x == ("min" : Str) with
      | true => some bMin
      | false => match x == ("sum" : Str) with
        | true => some bSum
        | false => match x == ("all" : Str) with
          | true => some bAll
          | false => match x == ("any" : Str) with
            | true => some bAny
            | false => match x == ("sorted" : Str) with
              | true => some (bSorted m)
              | false => none
def btype (m : Nat) (x : Str) : Option (List PV → MH → Option (PV × MH)) :=
  match x == ("int" : Str) with
  | true => some bInt
  | false => match x == ("tuple" : Str) with
    | true => some bTuple
    | false => match x == ("list" : Str) with
      | true => some (bList m)
      | false => none
def btsNodup : Bool := true

/-- a target that is no tuple, no list -/
def isTgt : Expr → Bool
  | .Name _ _ => true
  | .Subscript _ _ _ => true
  | _ => false
def isTgt2 : Expr → Bool
  | .Name _ _ => true
  | .Subscript _ _ _ => true
  | .Tuple _ _ _ => true
  | _ => false
/-- whether a comprehension's value goes to the name ahead of its block's end: some true, some false; none where that is not said -/
def lcSwap (ct : Ct) (tg e : Expr) : Option Bool := match e with
  | .ListComp _ _ scope pos => match tg with
    | .Name y py => some (ct.sc.names.lookup y == some .local && (py.line == pos.line && !(scope.names.any fun (n, k) => n == y && (k == .local || k == .cell))))
    | _ => some false
  | .SetComp _ _ _ _ => none
  | .DictComp _ _ _ _ _ => none
  | _ => some false
mutual
/-- m: how deep the new lists that this makes are to lie in the heap -/
def cE (n : Nat) (ct : Ct) (m : Nat) (e : Expr) : Option Den :=
  match n with
  | 0 => none
  | n + 1 => match e with
    | .Constant c _ _ => match c with
      | .none => some (dC .non)
      | .bool b => some (dC (.bl b))
      | .int i => some (dC (.int i))
      | .str x => some (dC (.str x))
      | _ => none
    | .Name x _ => match slot ct x with
      | some i => some (dVar i)
      | none => match isGl ct x with
        | true => match ct.cs.lookup x with
          | some v => some (dC v)
          | none => match ct.df.lookup x with
            | some _ => some (dC (.fn x))
            | none => none
        | false => none
    | .BinOp a op b _ => match cE n ct 0 a, cE n ct 0 b with
      | some da, some db => some (dBin m op da db)
      | _, _ => none
    | .UnaryOp .USub a _ => match cE n ct 0 a with
      | some da => some (dNeg da)
      | none => none
    | .UnaryOp .Not a _ => match cE n ct 0 a with
      | some da => some (dNot da)
      | none => none
    | .BoolOp op [a] _ => cE n ct m a
    | .BoolOp .And (a :: b :: rest) pos => match cE n ct m a, cE n ct m (.BoolOp .And (b :: rest) pos) with
      | some da, some db => some (dAnd da db)
      | _, _ => none
    | .BoolOp .Or (a :: b :: rest) pos => match cE n ct m a, cE n ct m (.BoolOp .Or (b :: rest) pos) with
      | some da, some db => some (dOr da db)
      | _, _ => none
    | .IfExp t a b _ => match cT n ct t, cE n ct m a, cE n ct m b with
      | some dt, some da, some db => some (dIf dt da db)
      | _, _, _ => none
    | .Compare a [op] [b] _ => match cE n ct 0 a, cE n ct 0 b, isSetE b with
      | some da, some db, false => some (dCmp op da db)
      | _, _, _ => none
    | .Compare a [op, op'] [b, c] _ => match cE n ct 0 a, cE n ct 0 b, cE n ct 0 c, isSetE c with
      | some da, some db, some dc, false => some (dChain op op' da db dc)
      | _, _, _, _ => none
    | .Call (.Name x _) args [] _ => match slot ct x with
      | some i => match args with
        | [] => none
        | a :: as => match cL n ct 0 (a :: as) with
          | some dl => some (dCallV i ct.df dl)
          | none => none
      | none => match isGl ct x with
        | false => none
        | true => match ct.df.lookup x with
          | some D => match cL n ct 0 args with
            | some dl => some (dCall D dl)
            | none => none
          | none => match args with
            | [] => none
            | a :: as => match x == ("gcd" : Str) && ct.gcd with
              | true => match cL n ct 0 (a :: as) with
                | some dl => some (dBlt bGcd dl)
                | none => none
              | false => match bts.contains x with
                | false => none
                | true => match x == ("isinstance" : Str) with
                  | true => match as with
                    | [.Name y _] => match tyOf y, isGl ct y, cE n ct 0 a, isStar a with
                      | some T, true, some da, false => some (dIs [T] da)
                      | _, _, _, _ => none
                    | [.Tuple [.Name y1 _, .Name y2 _] _ _] => match tyOf y1, tyOf y2, isGl ct y1 && isGl ct y2, cE n ct 0 a, isStar a with
                      | some T1, some T2, true, some da, false => some (dIs [T1, T2] da)
                      | _, _, _, _, _ => none
                    | _ => none
                  | false => match x == ("sorted" : Str), a, as with
                    | true, .Call (.Name s _) [e1] [] _, [] => match s == ("set" : Str) && (isGl ct s && !isStar e1) with
                      | true => match cE n ct 0 e1 with
                        | some da => some (dSortSet m da)
                        | none => none
                      | false => match cL n ct 0 [a] with
                        | some dl => some (dBlt (bSorted m) dl)
                        | none => none
                    | _, _, _ => match cL n ct 0 (a :: as) with
                      | none => none
                      | some dl => match bltin m x with
                        | some f => some (dBlt f dl)
                        | none => match btype m x with
                          | some f => some (dBlt f dl)
                          | none => none
    | .Call (.Attribute (.Name x p) name apos) [a] [] cpos => match (apos.endLine == cpos.line) && !isStar a with
      | false => none
      | true => match cE n ct 0 (.Name x p), cE n ct m a with
        | some dob, some da => match name == ("append" : Str) with
          | true => some (dApp dob da)
          | false => match name == ("extend" : Str) with
            | true => some (dExt dob da)
            | false => none
        | _, _ => none
    | .Subscript a (.Slice lo hi none _) _ => match cE n ct 0 a, cO n ct lo, cO n ct hi with
      | some da, some dl, some dh => some (dSl m da dl dh)
      | _, _, _ => none
    | .Subscript a b _ => match isSlice b with
      | true => none
      | false => match cE n ct 0 b with
        | none => none
        | some db => match a with
          | .Name x p => match isGl ct x, ct.dc.lookup x with
            | true, some kvs => some (dDic kvs db)
            | _, _ => match cE n ct 0 (.Name x p) with
              | some da => some (dIx da db)
              | none => none
          | a => match cE n ct 0 a with
            | some da => some (dIx da db)
            | none => none
    | .Tuple es _ _ => match cL n ct (m - 1) es with
      | some dl => some (dTup dl)
      | none => none
    | .List es _ => match cL n ct (m - 1) es with
      | some dl => some (dLst m dl)
      | none => none
    | .ListComp elt [⟨tg, iter, ifs, 0⟩] scope _ => match isSetE iter, blkC ct.N ct.sc scope (ownOf ct.N scope.names) with
      | false, true => match cI n ct tg iter, cA n (ct.blk scope (ownOf ct.N scope.names)) tg, cTs n (ct.blk scope (ownOf ct.N scope.names)) ifs, cE n (ct.blk scope (ownOf ct.N scope.names)) (m - 1) elt with
        | some di, some da, some dt, some de => some (dLc m di da dt de ((ownOf ct.N scope.names).map (·.2)))
        | _, _, _, _ => none
      | _, _ => none
    | _ => none
def cO (n : Nat) (ct : Ct) (e : Option Expr) : Option ODen :=
  match n with
  | 0 => none
  | n + 1 => match e with
    | none => some oNon
    | some e => match cE n ct 0 e with
      | some d => some (oSome d)
      | none => none
def cL (n : Nat) (ct : Ct) (m : Nat) (es : List Expr) : Option LDen :=
  match n with
  | 0 => none
  | n + 1 => match es with
    | [] => some lNil
    | e :: es => match isStar e, cE n ct m e, cL n ct m es with
      | false, some d, some dl => some (lCons d dl)
      | _, _, _ => none
def cTs (n : Nat) (ct : Ct) (ifs : List Expr) : Option TDen :=
  match n with
  | 0 => none
  | n + 1 => match ifs with
    | [] => some tYesD
    | [c] => cT n ct c
    | _ => none
def cT (n : Nat) (ct : Ct) (e : Expr) : Option TDen :=
  match n with
  | 0 => none
  | n + 1 => match e with
    | .UnaryOp .Not a _ => match cT n ct a with
      | some d => some (tNot d)
      | none => none
    | .BoolOp op es pos => cW n ct op es pos
    | .IfExp t a b _ => match cT n ct t, cT n ct a, cT n ct b with
      | some dt, some da, some db => some (tIf dt da db)
      | _, _, _ => none
    | .Compare a [op] [b] _ => match cE n ct 0 a, cE n ct 0 b, isSetE b with
      | some da, some db, false => some (tVal (dCmp op da db))
      | _, _, _ => none
    | .Compare a [op, op'] [b, c] _ => match cE n ct 0 a, cE n ct 0 b, cE n ct 0 c, isSetE c with
      | some da, some db, some dc, false => some (tVal (dChain op op' da db dc))
      | _, _, _, _ => none
    | e => match isPlainT e, cE n ct 0 e with
      | true, some d => some (tVal d)
      | _, _ => none
def cW (n : Nat) (ct : Ct) (op : BoolOp) (es : List Expr) (pos : Pos) : Option TDen :=
  match n with
  | 0 => none
  | n + 1 => match es with
    | [] => none
    | [a] => cT n ct a
    | a :: b :: rest => match op, cT n ct a, cW n ct op (b :: rest) pos with
      | .And, some da, some db => some (tAnd da db)
      | .Or, some da, some db => some (tOr da db)
      | _, _, _ => none
def cI (n : Nat) (ct : Ct) (tg iter : Expr) : Option IDen :=
  match n with
  | 0 => none
  | n + 1 => match iter with
    | .Call (.Name x _) [a] [] _ => match x == ("range" : Str) && (isGl ct x && (bts.contains x && !isStar a)) with
      | true => match cE n ct 0 a with
        | some da => some (iRg1 da)
        | none => none
      | false => match x == ("enumerate" : Str) && (isGl ct x && (bts.contains x && (!isStar a && isTupE tg))) with
        | true => match cE n ct 0 a with
          | some da => some (iEn da)
          | none => none
        | false => match cE n ct 0 iter with
          | some d => some (iSeq d)
          | none => none
    | .Call (.Name x _) [a, b] [] _ => match x == ("range" : Str) && (isGl ct x && (bts.contains x && (!isStar a && !isStar b))) with
      | true => match cE n ct 0 a, cE n ct 0 b with
        | some da, some db => some (iRg2 da db)
        | _, _ => none
      | false => match x == ("zip" : Str) && (isGl ct x && (bts.contains x && (!isStar a && (!isStar b && isTupE tg)))) with
        | true => match cE n ct 0 a, cE n ct 0 b with
          | some da, some db => some (iZi da db)
          | _, _ => none
        | false => match cE n ct 0 iter with
          | some d => some (iSeq d)
          | none => none
    | iter => match cE n ct 0 iter with
      | some d => some (iSeq d)
      | none => none
/-- a loop's target -/
def cA (n : Nat) (ct : Ct) (tg : Expr) : Option Asg :=
  match n with
  | 0 => none
  | n + 1 => match tg with
    | .Name x _ => match slotL ct x with
      | some i => match decide (i ∈ ct.own) with
        | true => some (aName i)
        | false => none
      | none => none
    | .Tuple es _ _ => match noStar es, cAs n ct es with
      | true, some u => some (aTup es.length u)
      | _, _ => none
    | _ => none
def cAs (n : Nat) (ct : Ct) (es : List Expr) : Option Asgs :=
  match n with
  | 0 => none
  | n + 1 => match es with
    | [] => some aNil
    | e :: es => match isStar e, cA n ct e, cAs n ct es with
      | false, some a, some u => some (aCons a u)
      | _, _, _ => none
/-- a target of an assignment -/
def cG (n : Nat) (ct : Ct) (tg : Expr) : Option GDen :=
  match n with
  | 0 => none
  | n + 1 => match tg with
    | .Name x _ => match slotL ct x with
      | some i => some (gA (aName i))
      | none => none
    | .Tuple es _ _ => match noStar es, cGs n ct es with
      | true, some u => some (gUnp es.length u)
      | _, _ => none
    | .Subscript o i _ => match isSlice i, cE n ct 0 o, cE n ct 0 i with
      | false, some dob, some di => some (gSub dob di)
      | _, _, _ => none
    | _ => none
def cGs (n : Nat) (ct : Ct) (es : List Expr) : Option GDens :=
  match n with
  | 0 => none
  | n + 1 => match es with
    | [] => some gNil
    | e :: es => match isStar e, cG n ct e, cGs n ct es with
      | false, some a, some u => some (gCons a u)
      | _, _, _ => none
def cS (n : Nat) (ct : Ct) (st : Stmt) : Option SDen :=
  match n with
  | 0 => none
  | n + 1 => match st with
    | .Pass _ => some sNext
    | .Continue _ => some sCont
    | .Break _ => some sBrk
    | .Return (some e) _ => match cE n ct ((ct.mu.lookup ("return" : Str)).getD 0) e with
      | some d => some (sRet d)
      | none => none
    | .Raise _ _ _ => some sNever
    | .Expr (.Constant (.str _) _ _) _ => some sNext
    | .Expr e _ => match isLc e, cE n ct 0 e with
      | false, some d => some (sDrop d)
      | _, _ => none
    | .If c a b _ => match cT n ct c, cSs n ct a, cSs n ct b with
      | some dc, some da, some db => some (sIf dc da db)
      | _, _, _ => none
    | .For tg iter body [] _ => match isSetE iter with
      | true => none
      | false => match cI n ct tg iter, cA n ct tg, cSs n ct body with
        | some di, some da, some db => some (sFor di da db)
        | _, _, _ => none
    | .While c body [] _ => match cT n ct c, cSs n ct body with
      | some dc, some db => some (sWh dc db)
      | _, _ => none
    | .Try body (_ :: _) [] [] _ => cSs n ct body
    | .Assign [tg] (.Tuple vs _ _) _ => match tg with
      | .Tuple ts _ _ => match noStar vs with
        | false => none
        | true => match swpN ts vs with
          | true => match cL n ct 0 vs, cG n ct tg with
            | some dl, some g => some (sAsg (dTup dl) g)
            | _, _ => none
          | false => match notFold vs with
            | false => none
            | true => cPar n ct ts vs
      | tg => match isTgt tg, cL n ct 0 vs, cG n ct tg with
        | true, some dl, some g => some (sAsg (dTup dl) g)
        | _, _, _ => none
    | .Assign [tg] e _ => match isTupE e with
      | true => none
      | false => match isTgt2 tg, cE n ct (muOf ct tg) e, cG n ct tg with
        | true, some d, some g => match lcSwap ct tg e with
          | some _ => some (sAsg d g)
          | none => none
        | _, _, _ => none
    | _ => none
def cPar (n : Nat) (ct : Ct) (ts vs : List Expr) : Option SDen :=
  match n with
  | 0 => none
  | n + 1 => match ts, vs with
    | [.Name x px, .Name y py], [a, b] => match ct.sc.names.lookup x == some .local && (ct.sc.names.lookup y == some .local && (py.line == px.line && !(x == y))), slot ct x, slot ct y with
      | true, some i, some j => match cE n ct (muOf ct (.Name x px)) a, cE n ct (muOf ct (.Name y py)) b, Nat.beq i j with
        | some da, some db, false => some (sPar [i, j] (lCons da (lCons db lNil)))
        | _, _, _ => none
      | _, _, _ => none
    | [.Name x px, .Name y py, .Name z pz], [a, b, c] => match ct.sc.names.lookup x == some .local && (ct.sc.names.lookup y == some .local && (ct.sc.names.lookup z == some .local && (py.line == px.line && (pz.line == px.line && (!(x == y) && (!(x == z) && !(y == z))))))), slot ct x, slot ct y, slot ct z with
      | true, some i, some j, some l => match cE n ct (muOf ct (.Name x px)) a, cE n ct (muOf ct (.Name y py)) b, cE n ct (muOf ct (.Name z pz)) c, Nat.beq i j || (Nat.beq i l || Nat.beq j l) with
        | some da, some db, some dc, false => some (sPar [i, j, l] (lCons da (lCons db (lCons dc lNil))))
        | _, _, _, _ => none
      | _, _, _, _ => none
    | _, _ => none
def cSs (n : Nat) (ct : Ct) (sts : List Stmt) : Option SDen :=
  match n with
  | 0 => none
  | n + 1 => match sts with
    | [] => some sNext
    | st :: sts => match cS n ct st, cSs n ct sts with
      | some d, some d' => some (sSeq d d')
      | _, _ => none
end
end Mn
-- text MnSound
section
set_option maxHeartbeats 4000000
/-! Mn: the compiler is sound -/
namespace Mn
open PySem PySem.Spec L2 PyProof.Rows

/-- the context that a compiled text runs in -/
structure Cd (X : Cx) (ct : Ct) (k : Nat) : Prop where
  calm : X.calm = true
  nd : X.N.Nodup
  n : X.N = ct.N
  sc : X.env.scope = ct.sc
  kind : ct.sc.kind = .function
  fn : ∀ x, ct.sc0.names.lookup x = some .cell → X.fn x = true
  room : Room k X.A
  pass : PassesOwn (model X.prog X.w) X.A X.env X.xe
  df : ∀ x D, ct.df.lookup x = some D → FOk X.prog X.w X.K X.mg X.base k x D
  cs : ∀ x v, ct.cs.lookup x = some v → ∃ w u, X.mg x = some u ∧ RelV w u ∧ ∀ H μ, Rep X.K X.mg H μ v w
  dc : ∀ x kvs, ct.dc.lookup x = some kvs → ∃ d, X.mg x = some (.ref d) ∧ DicOk X.K d kvs
  gcd : ct.gcd = true → X.mg "gcd" = some (.builtin "math.gcd")
  bt : ∀ x, bts.contains x = true → X.mg x = none
section
variable {X : Cx} {ct : Ct} {k : Nat}
theorem Cd.hu (c : Cd X ct k) : X.A.units + 65 < cLine := by have := c.room.un; omega
theorem Cd.blk (c : Cd X ct k) {scope : Scope} {own : List (Str × Nat)} (ok : BlkOk X.N X.env.scope scope own) (s : Shared) (H : Hp) (C : Addr) (cl : List (Str × Addr)) (fp : List Addr) : Cd (X.blk s H scope (compEnvC scope cl C X.env) fp) (ct.blk scope own) k where
  calm := c.calm
  nd := c.nd
  n := c.n
  sc := by
    show relS scope X.env.scope = relS scope ct.sc
    rw [c.sc]
  kind := ok.kind
  fn := fun x h => by
    show (scope.names.lookup x == some .cell) = true
    have h' : scope.names.lookup x = some .cell := h
    rw [h']
    rfl
  room := c.room
  pass := PassesOwn.never
  df := c.df
  cs := c.cs
  dc := c.dc
  gcd := c.gcd
  bt := c.bt
theorem Cd.nox (c : Cd X ct k) : Cd X.nox ct k := ⟨c.calm, c.nd, c.n, c.sc, c.kind, c.fn, c.room, PassesOwn.never, c.df, c.cs, c.dc, c.gcd, c.bt⟩
theorem Cd.slot (c : Cd X ct k) {x : Str} {i : Nat} (h : slot ct x = some i) : X.N[i]? = some x ∧ Vis X.env.scope x ∧ (x == ("__debug__" : Str)) = false ∧ (x == ("__classdict__" : Str)) = false := by
  unfold Mn.slot at h
  split at h
  · cases h
  · cases h
  · cases h
  · rename_i kd h1 h2 h3
    split at h
    · rename_i hb
      cases h
      simp only [Bool.and_eq_true, Bool.not_eq_true', Bool.or_eq_false_iff, decide_eq_true_eq] at hb
      refine ⟨by rw [c.n]; exact hb.1, ?_, hb.2.1, hb.2.2⟩
      rw [c.sc]
      unfold Vis
      rw [h3]
      cases kd with
      | «local» => exact .inl rfl
      | cell => exact .inr (.inl rfl)
      | free => exact .inr (.inr rfl)
      | globalExplicit => exact absurd rfl h2
      | globalImplicit => exact absurd rfl h1
    · cases h
theorem Cd.slotL (c : Cd X ct k) {x : Str} {i : Nat} (h : slotL ct x = some i) : X.N[i]? = some x ∧ Loc X.env.scope x ∧ (X.fn x = true ∨ X.env.scope.names.lookup x = some .local) := by
  unfold Mn.slotL at h
  split at h
  · rename_i hb
    obtain ⟨h1, _⟩ := c.slot h
    rw [Bool.or_eq_true, Bool.and_eq_true] at hb
    refine ⟨h1, ?_, ?_⟩
    · rw [c.sc]
      exact hb.elim (fun z => .inl (by simpa using z)) fun z => .inr (by simpa using z.1)
    · rw [c.sc]
      exact hb.elim (fun z => .inr (by simpa using z)) fun z => .inl (c.fn x (by simpa using z.2))
  · cases h
theorem Cd.gl (c : Cd X ct k) {x : Str} (h : isGl ct x = true) : Gl X x ∧ (x == ("__debug__" : Str)) = false := by
  unfold isGl at h
  rw [Bool.and_eq_true] at h
  refine ⟨?_, by simpa using h.2⟩
  show X.env.scope.names.lookup x = _
  rw [c.sc]
  simpa using h.1
theorem tyOf_ok {y : Str} {T : String} (h : tyOf y = some T) : bootBuiltins y = some (.type T) ∧ knownTy T = true ∧ bts.contains y = true ∧ y ≠ "__name__" := by
  unfold tyOf at h
  split at h
  · rename_i e; cases h; have e' : y = "int" := by simpa using e
    subst e'; exact ⟨boot_int, rfl, by decide, by decide⟩
  split at h
  · rename_i e; cases h; have e' : y = "bool" := by simpa using e
    subst e'; exact ⟨boot_bool, rfl, by decide, by decide⟩
  split at h
  · rename_i e; cases h; have e' : y = "str" := by simpa using e
    subst e'; exact ⟨boot_str, rfl, by decide, by decide⟩
  split at h
  · rename_i e; cases h; have e' : y = "tuple" := by simpa using e
    subst e'; exact ⟨boot_tuple, rfl, by decide, by decide⟩
  split at h
  · rename_i e; cases h; have e' : y = "list" := by simpa using e
    subst e'; exact ⟨boot_list, rfl, by decide, by decide⟩
  · cases h
theorem isTrue_plain {e : Expr} (h : isPlainT e = true) (env : PySem.Env) (whole : Sem Value) : isTrue e env whole = (do let v ← whole; standAt e.pos; holding [v] (truthy v)) := by
  cases e with
  | UnaryOp op _ _ => cases op <;> first | (cases h; done) | rfl
  | _ => first | (cases h; done) | rfl
theorem beh_no {op : CmpOp} {b : Expr} (h : isSetE b = false) : behindInMarks op b = false := by
  cases b <;> first | (cases h; done) | rfl
theorem fold_no {e : Expr} (h : isSetE e = false) (env : PySem.Env) (x : Value) : foldedSetIterable e env x = pure x := by
  cases e <;> first | (cases h; done) | rfl
end
end Mn
end
-- text MnSound2
section
set_option maxHeartbeats 8000000
/-! Mn: the compiler is sound, expressions -/
namespace Mn
open PySem PySem.Spec L2 PyProof.Rows

structure Snd (n : Nat) : Prop where
  e : ∀ {X : Cx} {ct : Ct} {k : Nat}, Cd X ct k → ∀ {m e d}, cE n ct m e = some d → ME X e d
  o : ∀ {X : Cx} {ct : Ct} {k : Nat}, Cd X ct k → ∀ {e d}, cO n ct e = some d → PO X e (tOd X.K X.mg d)
  l : ∀ {X : Cx} {ct : Ct} {k : Nat}, Cd X ct k → ∀ {m es d}, cL n ct m es = some d → ML X es d ∧ noStar es = true
  ts : ∀ {X : Cx} {ct : Ct} {k : Nat}, Cd X ct k → ∀ {es d}, cTs n ct es = some d → MTs X es d
  t : ∀ {X : Cx} {ct : Ct} {k : Nat}, Cd X ct k → ∀ {e d}, cT n ct e = some d → MT X e d
  w : ∀ {X : Cx} {ct : Ct} {k : Nat}, Cd X ct k → ∀ {op es pos d}, cW n ct op es pos = some d → MW X (.BoolOp op es pos) d
  i : ∀ {X : Cx} {ct : Ct} {k : Nat}, Cd X ct k → ∀ {tg e d}, cI n ct tg e = some d → MI X tg e d
  a : ∀ {X : Cx} {ct : Ct} {k : Nat}, Cd X ct k → ∀ {tg d}, cA n ct tg = some d → MA X ct.own tg d
  as : ∀ {X : Cx} {ct : Ct} {k : Nat}, Cd X ct k → ∀ {tg d}, cAs n ct tg = some d → MAs X ct.own tg d
section
variable {X : Cx} {ct : Ct} {k n m : Nat}
theorem isTup_shape {tg : Expr} (h : isTupE tg = true) : ∃ es kk p, tg = .Tuple es kk p := by
  cases tg <;> first | (cases h; done) | exact ⟨_, _, _, rfl⟩
theorem snd_l (S : Snd n) (c : Cd X ct k) {es : List Expr} {d : LDen} (h : cL (n + 1) ct m es = some d) : ML X es d ∧ noStar es = true := by
  unfold cL at h
  split at h
  · cases h; exact ⟨ml_nil, rfl⟩
  · split at h
    · rename_i hs h1 h2
      cases h
      obtain ⟨q1, q2⟩ := S.l c h2
      exact ⟨ml_cons (S.e c h1) q1 hs, by simp [noStar, hs, q2]⟩
    · cases h
theorem snd_o (S : Snd n) (c : Cd X ct k) {e : Option Expr} {d : ODen} (h : cO (n + 1) ct e = some d) : PO X e (tOd X.K X.mg d) := by
  unfold cO at h
  split at h
  · cases h; exact mo_non
  · split at h
    · rename_i h1
      cases h
      exact mo_some (S.e c h1)
    · cases h
theorem snd_ts (S : Snd n) (c : Cd X ct k) {es : List Expr} {d : TDen} (h : cTs (n + 1) ct es = some d) : MTs X es d := by
  unfold cTs at h
  split at h
  · cases h; exact mts_nil
  · exact mts_one (S.t c h)
  · cases h
theorem snd_w (S : Snd n) (c : Cd X ct k) {op : BoolOp} {es : List Expr} {pos : Pos} {d : TDen} (h : cW (n + 1) ct op es pos = some d) : MW X (.BoolOp op es pos) d := by
  unfold cW at h
  split at h
  · cases h
  · cases op with
    | And => exact pw_and1 (S.t c h)
    | Or => exact pw_or1 (S.t c h)
  · split at h
    · rename_i h1 h2
      cases h
      exact mw_and (S.t c h1) (S.w c h2)
    · rename_i h1 h2
      cases h
      exact mw_or (S.t c h1) (S.w c h2)
    · cases h
theorem snd_t (S : Snd n) (c : Cd X ct k) {e : Expr} {d : TDen} (h : cT (n + 1) ct e = some d) : MT X e d := by
  unfold cT at h
  split at h
  · split at h
    · rename_i h1
      cases h
      exact mt_not (S.t c h1)
    · cases h
  · exact (S.w c h).pt
  · split at h
    · rename_i h1 h2 h3
      cases h
      exact mt_if (S.t c h1) (S.t c h2) (S.t c h3)
    · cases h
  · split at h
    · rename_i h1 h2 h3
      cases h
      exact mt_cmp c.hu (S.e c h1) (S.e c h2) (beh_no h3)
    · cases h
  · split at h
    · rename_i h1 h2 h3 h4
      cases h
      exact mt_chain c.hu (S.e c h1) (S.e c h2) (S.e c h3) (beh_no h4)
    · cases h
  · split at h
    · rename_i h1 h2
      cases h
      exact mt_val (S.e c h2) fun whole => isTrue_plain h1 X.env whole
    · cases h
theorem snd_as (S : Snd n) (c : Cd X ct k) {es : List Expr} {d : Asgs} (h : cAs (n + 1) ct es = some d) : MAs X ct.own es d := by
  unfold cAs at h
  split at h
  · cases h; exact mas_nil
  · split at h
    · rename_i hs h1 h2
      cases h
      exact mas_cons (S.a c h1) (S.as c h2) hs
    · cases h
theorem snd_a (S : Snd n) (c : Cd X ct k) {tg : Expr} {d : Asg} (h : cA (n + 1) ct tg = some d) : MA X ct.own tg d := by
  unfold cA at h
  split at h
  · split at h
    · rename_i h1
      split at h
      · rename_i h2
        cases h
        obtain ⟨q1, q2, q3⟩ := c.slotL h1
        exact ma_name c.nd q1 q2 q3 (of_decide_eq_true h2)
      · cases h
    · cases h
  · split at h
    · rename_i hs h1
      cases h
      exact ma_tup c.calm (S.as c h1) hs
    · cases h
  · cases h
theorem snd_i (S : Snd n) (c : Cd X ct k) {tg iter : Expr} {d : IDen} (h : cI (n + 1) ct tg iter = some d) : MI X tg iter d := by
  unfold cI at h
  split at h
  · split at h
    · rename_i hb
      simp only [Bool.and_eq_true, Bool.not_eq_true'] at hb
      obtain ⟨h1, h2, h3, h4⟩ := hb
      have e := eq_of_beq h1
      subst e
      split at h
      · rename_i h5
        cases h
        exact mi_rg1 (c.gl h2).1 (c.bt _ h3) (S.e c h5) h4
      · cases h
    · split at h
      · rename_i hb
        simp only [Bool.and_eq_true, Bool.not_eq_true'] at hb
        obtain ⟨h1, h2, h3, h4, h6⟩ := hb
        have e := eq_of_beq h1
        subst e
        obtain ⟨es, kk, pt, rfl⟩ := isTup_shape h6
        split at h
        · rename_i h5
          cases h
          exact mi_enum (c.gl h2).1 (c.bt _ h3) (S.e c h5) h4
        · cases h
      · split at h
        · rename_i h5
          cases h
          exact mi_seq (S.e c h5)
        · cases h
  · split at h
    · rename_i hb
      simp only [Bool.and_eq_true, Bool.not_eq_true'] at hb
      obtain ⟨h1, h2, h3, h4, h6⟩ := hb
      have e := eq_of_beq h1
      subst e
      split at h
      · rename_i h5 h7
        cases h
        exact mi_rg2 (c.gl h2).1 (c.bt _ h3) (S.e c h5) (S.e c h7) h4 h6
      · cases h
    · split at h
      · rename_i hb
        simp only [Bool.and_eq_true, Bool.not_eq_true'] at hb
        obtain ⟨h1, h2, h3, h4, h6, h8⟩ := hb
        have e := eq_of_beq h1
        subst e
        obtain ⟨es, kk, pt, rfl⟩ := isTup_shape h8
        split at h
        · rename_i h5 h7
          cases h
          exact mi_zip (c.gl h2).1 (c.bt _ h3) (S.e c h5) (S.e c h7) h4 h6
        · cases h
      · split at h
        · rename_i h5
          cases h
          exact mi_seq (S.e c h5)
        · cases h
  · split at h
    · rename_i h5
      cases h
      exact mi_seq (S.e c h5)
    · cases h
theorem snd_blt (c : Cd X ct k) {x : Str} {p pos : Pos} {a : Expr} {as : List Expr} {dl : LDen} {d : Den} (hg : isGl ct x = true) (hx : bts.contains x = true) (hl : ML X (a :: as) dl) (hs : noStar (a :: as) = true)
    (h : (match bltin m x with | some f => some (dBlt f dl) | none => match btype m x with | some f => some (dBlt f dl) | none => none) = some d) : ME X (.Call (.Name x p) (a :: as) [] pos) d := by
  obtain ⟨g, hdb⟩ := c.gl hg
  have hm := c.bt x hx
  split at h
  · rename_i f hf
    cases h
    unfold bltin at hf
    split at hf
    · rename_i e; cases hf; have e' := eq_of_beq e; subst e'; exact me_bltB cm_len g hm boot_len hl hs (by decide) hdb
    split at hf
    · rename_i e; cases hf; have e' := eq_of_beq e; subst e'; exact me_bltB cm_abs g hm boot_abs hl hs (by decide) hdb
    split at hf
    · rename_i e; cases hf; have e' := eq_of_beq e; subst e'; exact me_bltB (cm_min c.calm) g hm boot_min hl hs (by decide) hdb
    split at hf
    · rename_i e; cases hf; have e' := eq_of_beq e; subst e'; exact me_bltB (cm_sum c.calm) g hm boot_sum hl hs (by decide) hdb
    split at hf
    · rename_i e; cases hf; have e' := eq_of_beq e; subst e'; exact me_bltB (cm_all c.calm) g hm boot_all hl hs (by decide) hdb
    split at hf
    · rename_i e; cases hf; have e' := eq_of_beq e; subst e'; exact me_bltB (cm_any c.calm) g hm boot_any hl hs (by decide) hdb
    split at hf
    · rename_i e; cases hf; have e' := eq_of_beq e; subst e'; exact me_bltB (cm_sorted m) g hm boot_sorted hl hs (by decide) hdb
    · cases hf
  · split at h
    · rename_i f hf
      cases h
      unfold btype at hf
      split at hf
      · rename_i e; cases hf; have e' := eq_of_beq e; subst e'; exact me_bltT cm_int g hm boot_int hl hs (by decide) hdb
      split at hf
      · rename_i e; cases hf; have e' := eq_of_beq e; subst e'; exact me_bltT cm_tuple g hm boot_tuple hl hs (by decide) hdb
      split at hf
      · rename_i e; cases hf; have e' := eq_of_beq e; subst e'; exact me_bltT (cm_list m) g hm boot_list hl hs (by decide) hdb
      · cases hf
    · cases h
end
end Mn
end
-- text MnSound3
section
set_option maxHeartbeats 8000000
/-! Mn: the compiler is sound, expressions in one -/
namespace Mn
open PySem PySem.Spec L2 PyProof.Rows
section
variable {X : Cx} {ct : Ct} {k n m : Nat}
theorem star_one {a : Expr} (h : isStar a = false) : noStar [a] = true := by simp [noStar, h]
theorem snd_call (S : Snd n) (c : Cd X ct k) {x : Str} {p pos : Pos} {args : List Expr} {d : Den} (h : cE (n + 1) ct m (.Call (.Name x p) args [] pos) = some d) : ME X (.Call (.Name x p) args [] pos) d := by
  unfold cE at h
  simp only at h
  split at h
  · rename_i i h1
    split at h
    · cases h
    · rename_i a as
      split at h
      · rename_i dl h2
        cases h
        obtain ⟨q1, q2⟩ := S.l c h2
        obtain ⟨s1, s2, s3, s4⟩ := c.slot h1
        exact me_callV c.df c.room s1 s2 s3 s4 q1 q2
      · cases h
  · split at h
    · cases h
    · rename_i hg
      obtain ⟨g, hdb⟩ := c.gl hg
      split at h
      · rename_i D h1
        split at h
        · rename_i dl h2
          cases h
          obtain ⟨q1, q2⟩ := S.l c h2
          cases args with
          | nil =>
            have e : dl = lNil := by
              cases n with
              | zero => cases h2
              | succ n => unfold cL at h2; cases h2; rfl
            subst e
            exact me_call0 (c.df _ _ h1) c.room g hdb
          | cons a as => exact me_call (c.df _ _ h1) c.room g hdb q1 q2
        · cases h
      · split at h
        · cases h
        · rename_i a as
          split at h
          · rename_i hb
            rw [Bool.and_eq_true] at hb
            have e := eq_of_beq hb.1
            subst e
            split at h
            · rename_i dl h2
              cases h
              obtain ⟨q1, q2⟩ := S.l c h2
              exact me_gcd cm_gcd g (c.gcd hb.2) q1 q2 hdb
            · cases h
          · split at h
            · cases h
            · rename_i hx
              have hm := c.bt x hx
              split at h
              · rename_i hb
                have e := eq_of_beq hb
                subst e
                split at h
                · rename_i y p2
                  split at h
                  · rename_i T da h1 h2 h3 h4
                    cases h
                    obtain ⟨t1, t2, t3, t4⟩ := tyOf_ok h1
                    obtain ⟨g2, d2⟩ := c.gl h2
                    exact me_is1 (S.e c h3) h4 g hm g2 (c.bt _ t3) t1 t4 d2 t2
                  · cases h
                · rename_i y1 p2 y2 p3 kk p4
                  split at h
                  · rename_i T1 T2 da h1 h2 h3 h4 h5
                    cases h
                    rw [Bool.and_eq_true] at h3
                    obtain ⟨t1, t2, t3, t4⟩ := tyOf_ok h1
                    obtain ⟨u1, u2, u3, u4⟩ := tyOf_ok h2
                    obtain ⟨g2, d2⟩ := c.gl h3.1
                    obtain ⟨g3, d3⟩ := c.gl h3.2
                    exact me_is2 (S.e c h4) h5 g hm (pe_bltn g2 (c.bt _ t3) t1 rfl t4 d2) (pe_bltn g3 (c.bt _ u3) u1 rfl u4 d3) (by simp [t2, u2])
                  · cases h
                · cases h
              · split at h
                · rename_i s p2 e1 p3 hb
                  have e := eq_of_beq hb
                  subst e
                  split at h
                  · rename_i hb2
                    simp only [Bool.and_eq_true, Bool.not_eq_true'] at hb2
                    obtain ⟨h1, h2, h3⟩ := hb2
                    have e := eq_of_beq h1
                    subst e
                    split at h
                    · rename_i da h4
                      cases h
                      have hu := c.hu
                      exact me_sortSet m c.calm (by omega) g hm (c.gl h2).1 (c.bt _ (by decide)) (S.e c h4) h3
                    · cases h
                  · split at h
                    · rename_i dl h2
                      cases h
                      obtain ⟨q1, q2⟩ := S.l c h2
                      exact me_bltB (cm_sorted m) g hm boot_sorted q1 q2 (by decide) hdb
                    · cases h
                · split at h
                  · cases h
                  · rename_i dl h2
                    obtain ⟨q1, q2⟩ := S.l c h2
                    exact snd_blt c hg hx q1 q2 h
theorem snd_e (S : Snd n) (c : Cd X ct k) {e : Expr} {d : Den} (h : cE (n + 1) ct m e = some d) : ME X e d := by
  by_cases hcall : ∃ x p args pos, e = .Call (.Name x p) args [] pos
  · obtain ⟨x, p, args, pos, rfl⟩ := hcall
    exact snd_call S c h
  unfold cE at h
  simp only at h
  split at h
  · split at h
    · cases h; exact me_c pe_non fun _ _ => .non
    · cases h; exact me_c pe_bl fun _ _ => .bl _
    · cases h; exact me_c pe_int fun _ _ => .int _
    · cases h; exact me_c pe_str fun _ _ => .str _
    · cases h
  · split at h
    · rename_i i h1
      cases h
      obtain ⟨s1, s2, s3, s4⟩ := c.slot h1
      exact me_var s1 s2 s3 s4
    · split at h
      · rename_i hg
        obtain ⟨g, hdb⟩ := c.gl hg
        split at h
        · rename_i v h1
          cases h
          obtain ⟨w, u, q1, q2, q3⟩ := c.cs _ _ h1
          exact me_c (pe_glob g q1 q2 hdb) q3
        · split at h
          · rename_i D h1
            cases h
            obtain ⟨f, fd, ps, q1, _⟩ := (c.df _ _ h1).ex
            exact me_c (pe_glob g q1 (show RelV (.ref f) (.ref f) from rfl) hdb) fun _ _ => .fn q1
          · cases h
      · cases h
  · split at h
    · rename_i h1 h2
      cases h
      exact me_bin m (S.e c h1) (S.e c h2)
    · cases h
  · split at h
    · rename_i h1
      cases h
      exact me_neg (S.e c h1)
    · cases h
  · split at h
    · rename_i h1
      cases h
      exact me_not (S.e c h1)
    · cases h
  · exact pe_one (S.e c h)
  · split at h
    · rename_i h1 h2
      cases h
      exact me_and (S.e c h1) (S.e c h2)
    · cases h
  · split at h
    · rename_i h1 h2
      cases h
      exact me_or (S.e c h1) (S.e c h2)
    · cases h
  · split at h
    · rename_i h1 h2 h3
      cases h
      exact me_if (S.t c h1) (S.e c h2) (S.e c h3)
    · cases h
  · split at h
    · rename_i h1 h2 h3
      cases h
      exact me_cmp c.hu (S.e c h1) (S.e c h2) (beh_no h3)
    · cases h
  · split at h
    · rename_i h1 h2 h3 h4
      cases h
      exact me_chain c.hu (S.e c h1) (S.e c h2) (S.e c h3) (beh_no h4)
    · cases h
  · exact absurd ⟨_, _, _, _, rfl⟩ hcall
  · split at h
    · cases h
    · rename_i hb
      rw [Bool.and_eq_true, Bool.not_eq_true'] at hb
      split at h
      · rename_i h1 h2
        split at h
        · rename_i hn
          cases h
          have e := eq_of_beq hn
          subst e
          exact me_app (S.e c h1) (S.e c h2) hb.2 hb.1
        · split at h
          · rename_i hn
            cases h
            have e := eq_of_beq hn
            subst e
            exact me_ext (S.e c h1) (S.e c h2) hb.2 hb.1
          · cases h
      · cases h
  · split at h
    · rename_i h1 h2 h3
      cases h
      exact me_sl m (S.e c h1) (S.o c h2) (S.o c h3)
    · cases h
  · split at h
    · cases h
    · rename_i hs
      split at h
      · cases h
      · rename_i db h1
        split at h
        · rename_i x p
          split at h
          · rename_i kvs hg h2
            cases h
            obtain ⟨g, hdb⟩ := c.gl hg
            obtain ⟨dd, q1, q2⟩ := c.dc _ _ h2
            exact me_dic q2 g q1 hdb (S.e c h1) hs
          · split at h
            · rename_i h3
              cases h
              exact me_ix (S.e c h3) (S.e c h1) hs
            · cases h
        · split at h
          · rename_i h3
            cases h
            exact me_ix (S.e c h3) (S.e c h1) hs
          · cases h
  · split at h
    · rename_i h1
      cases h
      exact me_tup (S.l c h1).1
    · cases h
  · split at h
    · rename_i h1
      cases h
      exact me_lst m (S.l c h1).1
    · cases h
  · split at h
    · rename_i hs hb
      split at h
      · rename_i h1 h2 h3 h4
        cases h
        have ok := blkOk_by hb
        rw [← c.n, ← c.sc] at ok
        have cb := c.blk ok
        rw [c.n] at cb
        rw [c.n] at ok
        exact me_lc m c.calm c.nd (S.i c h1) (by rw [c.n]; exact ok) (fun s H C cl fp => S.a (cb s H C cl fp) h2) (fun s H C cl fp => S.ts (cb s H C cl fp) h3) (fun s H C cl fp => S.e (cb s H C cl fp) h4) fun x => fold_no hs X.env x
      · cases h
    · cases h
  · cases h
theorem snd_zero : Snd 0 where
  e := fun _ _ _ _ h => by cases h
  o := fun _ _ _ h => by cases h
  l := fun _ _ _ _ h => by cases h
  ts := fun _ _ _ h => by cases h
  t := fun _ _ _ h => by cases h
  w := fun _ _ _ _ _ h => by cases h
  i := fun _ _ _ _ h => by cases h
  a := fun _ _ _ h => by cases h
  as := fun _ _ _ h => by cases h
theorem snd : ∀ n : Nat, Snd n
  | 0 => snd_zero
  | n + 1 => 
    have S := snd n
    { e := fun c _ _ _ h => snd_e S c h
      o := fun c _ _ h => snd_o S c h
      l := fun c _ _ _ h => snd_l S c h
      ts := fun c _ _ h => snd_ts S c h
      t := fun c _ _ h => snd_t S c h
      w := fun c _ _ _ _ h => snd_w S c h
      i := fun c _ _ _ h => snd_i S c h
      a := fun c _ _ h => snd_a S c h
      as := fun c _ _ h => snd_as S c h }
end
end Mn
end
-- text MnSound4
section
set_option maxHeartbeats 8000000
/-! Mn: the compiler is sound, statements and defs -/
namespace Mn
open PySem PySem.Spec L2 PyProof.Rows
structure SndS (n : Nat) : Prop where
  g : ∀ {X : Cx} {ct : Ct} {k : Nat}, Cd X ct k → ∀ {tg d}, cG n ct tg = some d → MG X tg d
  gs : ∀ {X : Cx} {ct : Ct} {k : Nat}, Cd X ct k → ∀ {tg d}, cGs n ct tg = some d → MGs X tg d
  s : ∀ {X : Cx} {ct : Ct} {k : Nat}, Cd X ct k → ∀ {st d}, cS n ct st = some d → MS X st d
  ss : ∀ {X : Cx} {ct : Ct} {k : Nat}, Cd X ct k → ∀ {sts d}, cSs n ct sts = some d → MSs X sts d
section
variable {X : Cx} {ct : Ct} {k n : Nat}
theorem sub_asg {i : Expr} (h : isSlice i = false) (o : Expr) (pos : Pos) (env : PySem.Env) (v : Value) : assign (.Subscript o i pos) env v = (do
      let ov ← holding [v] (eval o env)
      let iv ← holding [v, ov] (eval i env)
      standAt pos
      holding [v, ov, iv] (setItem ov iv v)
      release [v, ov, iv] []) := by
  cases i <;> first | (cases h; done) | rfl
theorem snd_g (S : SndS n) (c : Cd X ct k) {tg : Expr} {d : GDen} (h : cG (n + 1) ct tg = some d) : MG X tg d := by
  unfold cG at h
  split at h
  · split at h
    · rename_i h1
      cases h
      obtain ⟨q1, q2, q3⟩ := c.slotL h1
      exact mg_name c.nd q1 q2 q3
    · cases h
  · split at h
    · rename_i hs h1
      cases h
      exact mg_unp c.calm (S.gs c h1) hs
    · cases h
  · split at h
    · rename_i hs h1 h2
      cases h
      exact mg_sub ((snd n).e c h1) ((snd n).e c h2) (sub_asg hs _ _ _)
    · cases h
  · cases h
theorem snd_gs (S : SndS n) (c : Cd X ct k) {es : List Expr} {d : GDens} (h : cGs (n + 1) ct es = some d) : MGs X es d := by
  unfold cGs at h
  split at h
  · cases h; exact mgs_nil
  · split at h
    · rename_i hs h1 h2
      cases h
      exact mgs_cons (S.g c h1) (S.gs c h2) hs
    · cases h
theorem snd_ss (S : SndS n) (c : Cd X ct k) {sts : List Stmt} {d : SDen} (h : cSs (n + 1) ct sts = some d) : MSs X sts d := by
  unfold cSs at h
  split at h
  · cases h; exact mss_nil
  · split at h
    · rename_i h1 h2
      cases h
      exact mss_cons (S.s c h1) (S.ss c h2)
    · cases h
theorem cE_lc {m : Nat} {elt : Expr} {gs : List Comprehension} {scope : Scope} {pos : Pos} {d : Den} (h : cE n ct m (.ListComp elt gs scope pos) = some d) : ∃ n' tg iter ifs, n = n' + 1 ∧ gs = [⟨tg, iter, ifs, 0⟩] ∧ isSetE iter = false ∧ blkC ct.N ct.sc scope (ownOf ct.N scope.names) = true ∧
    ∃ di da dt de, cI n' ct tg iter = some di ∧ cA n' (ct.blk scope (ownOf ct.N scope.names)) tg = some da ∧ cTs n' (ct.blk scope (ownOf ct.N scope.names)) ifs = some dt ∧ cE n' (ct.blk scope (ownOf ct.N scope.names)) (m - 1) elt = some de ∧ d = dLc m di da dt de ((ownOf ct.N scope.names).map (·.2)) := by
  cases n with
  | zero => cases h
  | succ n =>
    unfold cE at h
    simp only at h
    split at h <;> first | (cases ‹Expr.ListComp _ _ _ _ = _›; done) | skip
    · rename_i e2
      cases e2
      split at h
      · rename_i hs hb
        split at h
        · rename_i h1 h2 h3 h4
          cases h
          exact ⟨_, _, _, _, rfl, rfl, hs, hb, _, _, _, _, h1, h2, h3, h4, rfl⟩
        · cases h
      · cases h
    · cases h
theorem lcSwap_no {tg e : Expr} (he : ∀ elt gs sc p, e ≠ .ListComp elt gs sc p) {b : Bool} (h : lcSwap ct tg e = some b) : isLc e = false := by
  cases e <;> first | rfl | (cases h; done) | exact absurd rfl (he _ _ _ _)
theorem tgt_tup {tg : Expr} (h : isTgt tg = true) : isTupE tg = false ∧ isStar tg = false ∧ ∀ ts p, tg ≠ .List ts p := by
  cases tg <;> first | (cases h; done) | exact ⟨rfl, rfl, fun _ _ e => nomatch e⟩
theorem tgt2 {tg : Expr} (h : isTgt2 tg = true) : isStar tg = false := by
  cases tg <;> first | (cases h; done) | rfl
theorem snd_asg (S : SndS n) (c : Cd X ct k) {tg e : Expr} {pos : Pos} {d : Den} {g : GDen} {b : Bool} (he : isTupE e = false) (ht : isTgt2 tg = true) (h1 : cE n ct (muOf ct tg) e = some d) (h2 : cG n ct tg = some g) (h3 : lcSwap ct tg e = some b) : MS X (.Assign [tg] e pos) (sAsg d g) := by
  have hw : swappedStores [tg] e X.env = pure none := swp_val he
  by_cases hl : ∃ elt gs sc p, e = .ListComp elt gs sc p
  · obtain ⟨elt, gs, scope, p, rfl⟩ := hl
    cases tg with
    | Name y py =>
      cases b with
      | false =>
        refine ms_asg ((snd n).e c h1) (S.g c h2) (sw_false ?_) hw rfl
        rw [c.sc]
        exact Option.some.inj h3
      | true =>
        obtain ⟨n', tg', iter, ifs, rfl, rfl, hs, hb, di, da, dt, de, q1, q2, q3, q4, rfl⟩ := cE_lc h1
        unfold cG at h2
        simp only at h2
        split at h2
        · rename_i i h5
          cases h2
          obtain ⟨r1, r2, r3⟩ := c.slotL h5
          have ok := blkOk_by hb
          rw [← c.n, ← c.sc] at ok
          have cb := c.blk ok
          have h3' := Option.some.inj h3
          simp only [Bool.and_eq_true] at h3'
          have yl : X.env.scope.names.lookup y = some .local := by rw [c.sc]; simpa using h3'.1
          have sw : swapsWith (.ListComp elt [⟨tg', iter, ifs, 0⟩] scope p) (some (.Name y py)) pos.line X.env = pure true := sw_true (by rw [c.sc]; exact c.kind) yl h3'.2.1 (by simpa using h3'.2.2)
          rw [c.n] at cb ok
          exact ms_setLc _ c.calm c.nd r1 yl sw ((snd n').i c q1) (by rw [c.n]; exact ok) (fun s H C cl fp => (snd n').a (cb s H C cl fp) q2) (fun s H C cl fp => (snd n').ts (cb s H C cl fp) q3) (fun s H C cl fp => (snd n').e (cb s H C cl fp) q4) fun x => fold_no hs X.env x
        · cases h2
    | Tuple ts kk p2 => exact ms_asg ((snd n).e c h1) (S.g c h2) sw_tup hw rfl
    | Subscript o i p2 => exact ms_asg ((snd n).e c h1) (S.g c h2) sw_sub hw rfl
    | _ => cases ht
  · refine ms_asg ((snd n).e c h1) (S.g c h2) (sw_no (lcSwap_no (fun elt gs sc p q => hl ⟨elt, gs, sc, p, q⟩) h3)) hw (tgt2 ht)
theorem snd_par (c : Cd X ct k) {ts vs : List Expr} {kk k2 : Nat} {p p2 pos : Pos} {d : SDen} (hv : noStar vs = true) (hf : notFold vs = true)
    (h : cPar (n + 1) ct ts vs = some d) : MS X (.Assign [.Tuple ts kk p] (.Tuple vs k2 p2) pos) d := by
  simp only [cPar] at h
  have hk : X.env.scope.kind = .function := by rw [c.sc]; exact c.kind
  split at h
  · rename_i x px y py a b
    split at h
    · rename_i i j hb h1 h2
      split at h
      · rename_i da db h3 h4 h5
        cases h
        simp only [Bool.and_eq_true, Bool.not_eq_true'] at hb
        obtain ⟨b1, b2, b3, b4⟩ := hb
        have lx : X.env.scope.names.lookup x = some .local := by rw [c.sc]; simpa using b1
        have ly : X.env.scope.names.lookup y = some .local := by rw [c.sc]; simpa using b2
        have hij : i ≠ j := fun e => by subst e; rw [Nat.beq_refl] at h5; cases h5
        simp only [noStar, Bool.and_eq_true, Bool.not_eq_true', and_true] at hv
        exact ms_par c.calm c.nd (c.slot h1).1 (c.slot h2).1 hij lx ly (ml_cons ((snd n).e c h3) (ml_cons ((snd n).e c h4) ml_nil hv.2) hv.1) (swp_two hk lx ly (by simpa using b3) (by simpa using b4) (by simp [noStar, hv.1, hv.2]) hf)
      · cases h
    · cases h
  · rename_i x px y py z pz a b c'
    split at h
    · rename_i i j l hb h1 h2 h2'
      split at h
      · rename_i da db dc h3 h4 h4' h5
        cases h
        simp only [Bool.and_eq_true, Bool.not_eq_true'] at hb
        obtain ⟨b1, b2, b3, b4, b5, b6, b7, b8⟩ := hb
        have lx : X.env.scope.names.lookup x = some .local := by rw [c.sc]; simpa using b1
        have ly : X.env.scope.names.lookup y = some .local := by rw [c.sc]; simpa using b2
        have lz : X.env.scope.names.lookup z = some .local := by rw [c.sc]; simpa using b3
        simp only [Bool.or_eq_false_iff] at h5
        have hij : i ≠ j := fun e => by subst e; rw [Nat.beq_refl] at h5; cases h5.1
        have hil : i ≠ l := fun e => by subst e; rw [Nat.beq_refl] at h5; cases h5.2.1
        have hjl : j ≠ l := fun e => by subst e; rw [Nat.beq_refl] at h5; cases h5.2.2
        simp only [noStar, Bool.and_eq_true, Bool.not_eq_true', and_true] at hv
        exact ms_par3 c.calm c.nd (c.slot h1).1 (c.slot h2).1 (c.slot h2').1 hij hil hjl lx ly lz (ml_cons ((snd n).e c h3) (ml_cons ((snd n).e c h4) (ml_cons ((snd n).e c h4') ml_nil hv.2.2) hv.2.1) hv.1)
          (swp_three hk lx ly lz (by simpa using b4) (by simpa using b5) (by simpa using b6) (by simpa using b7) (by simpa using b8) (by simp [noStar, hv.1, hv.2.1, hv.2.2]) hf)
      · cases h
    · cases h
  · cases h
theorem snd_s (S : SndS n) (c : Cd X ct k) {st : Stmt} {d : SDen} (h : cS (n + 1) ct st = some d) : MS X st d := by
  unfold cS at h
  split at h
  · cases h; exact ms_pass
  · cases h; exact ms_continue
  · cases h; exact ms_break
  · split at h
    · rename_i h1
      cases h
      exact ms_ret ((snd n).e c h1)
    · cases h
  · cases h; exact ms_never
  · cases h; exact ms_doc
  · split at h
    · rename_i hs h1
      cases h
      exact ms_drop ((snd n).e c h1) (sw_no hs)
    · cases h
  · split at h
    · rename_i h1 h2 h3
      cases h
      exact ms_if ((snd n).t c h1) (S.ss c h2) (S.ss c h3)
    · cases h
  · split at h
    · cases h
    · rename_i hs
      split at h
      · rename_i h1 h2 h3
        cases h
        exact ms_for c.pass c.calm ((snd n).i c h1) ((snd n).a c h2) (S.ss c h3) fun x => fold_no hs X.env x
      · cases h
  · split at h
    · rename_i h1 h2
      cases h
      exact ms_while c.pass ((snd n).t c h1) (S.ss c h2)
    · cases h
  · exact ms_try (S.ss c.nox h)
  · split at h
    · rename_i ts kk p
      split at h
      · cases h
      · rename_i hv
        split at h
        · rename_i hn
          split at h
          · rename_i h1 h2
            cases h
            exact ms_asg (me_tup ((snd n).l c h1).1) (S.g c h2) (sw_no rfl) (swp_none hv hn) rfl
          · cases h
        · split at h
          · cases h
          · rename_i hf
            cases n with
            | zero => cases h
            | succ n => exact snd_par c hv hf h
    · split at h
      · rename_i ht h1 h2
        cases h
        obtain ⟨t1, t2, t3⟩ := tgt_tup ht
        exact ms_asg (me_tup ((snd n).l c h1).1) (S.g c h2) (sw_no rfl) (swp_tgt t1 t3) t2
      · cases h
  · split at h
    · cases h
    · rename_i he
      split at h
      · rename_i ht h1 h2
        split at h
        · rename_i b h3
          cases h
          exact snd_asg S c he ht h1 h2 h3
        · cases h
      · cases h
  · cases h
theorem sndS_zero : SndS 0 where
  g := fun _ _ _ h => by cases h
  gs := fun _ _ _ h => by cases h
  s := fun _ _ _ h => by cases h
  ss := fun _ _ _ h => by cases h
theorem sndS : ∀ n : Nat, SndS n
  | 0 => sndS_zero
  | n + 1 =>
    have S := sndS n
    { g := fun c _ _ h => snd_g S c h
      gs := fun c _ _ h => snd_gs S c h
      s := fun c _ _ h => snd_s S c h
      ss := fun c _ _ h => snd_ss S c h }
end
end Mn
end
-- text MnDef
section
set_option maxHeartbeats 4000000
/-! Mn: a def keeps its denotation -/
namespace Mn
open PySem PySem.Spec L2 PyProof.Rows
theorem fin_go {K : PySem.W.Frag} {mg : Str → Option Value} {μ : Mu} {H : Hp} {h h1 h2 : MH} {keep : Bool} {v w : PV} {Q : VK} (hh : Hh K mg μ H h) (e : fin keep h.length v h1 = .ok w h2) (k : Go K mg μ H w h2 Q) : Go K mg μ H v h1 Q := by
  intro μ' H' u E hh' r
  have cut1 : Hh K mg μ H' (h1.take h.length) := by
    have q := hh'.cut E
    rw [hh.len] at q
    exact q
  unfold fin at e
  split at e
  · cases e; exact k μ' H' u E hh' r
  · split at e
    · rename_i m
      split at e
      · rename_i hb
        cases e
        refine k μ H' u E.cut cut1 (r.cut E ?_)
        rw [hh.len]
        simpa [PV.bel] using hb
      · rename_i hb
        split at e
        · rename_i xs hx
          split at e
          · rename_i hbel
            cases e
            cases r with
            | ref g =>
              obtain ⟨a, us, g2, hl, ra, _⟩ := hh'.obj m xs hx
              rw [g] at g2
              cases g2
              refine k μ H' _ E.cut cut1 (.lst hl ⟨fun z => ?_, fun z => ?_⟩ (ra.cut E (by rw [hh.len]; exact hbel)))
              · obtain ⟨i, hi, ei⟩ := List.getElem_of_mem z
                have gi : μ'.l[i]? = some _ := E.get (by rw [List.getElem?_eq_getElem hi, ei])
                obtain ⟨l1, q1⟩ := List.getElem?_eq_some_iff.mp gi
                obtain ⟨l2, q2⟩ := List.getElem?_eq_some_iff.mp g
                have em : i = m := (List.getElem_inj hh'.nd).mp (q1.trans q2.symm)
                have hlen := hh.len
                have : m < h.length := by omega
                rw [Nat.blt_eq.mpr this] at hb
                cases hb
              · exact (hh'.hid _ (E.hid1 _ z)).2 (List.mem_of_getElem? g)
          · cases e
        · cases e
    · split at e
      · rename_i hb
        cases e
        exact k μ H' u E.cut cut1 (r.cut E (by rw [hh.len]; exact hb))
      · cases e

def fscC (N ps : List Str) (sc : Scope) : Bool := (sc.kind == .function) && (!sc.isCoroutine && (!sc.isGenerator && (decide N.Nodup && (decide (N.take ps.length = ps) && (ps.all (fun x => sc.names.lookup x == some .local || sc.names.lookup x == some .cell) && sc.names.all fun y => !(y.2 == .free))))))
theorem fsc_of {N ps : List Str} {sc : Scope} (h : fscC N ps sc = true) : FnScope N ps sc := by
  unfold fscC at h
  simp only [Bool.and_eq_true, Bool.not_eq_true', decide_eq_true_eq, List.all_eq_true, Bool.or_eq_true, beq_iff_eq] at h
  obtain ⟨h1, h2, h3, h4, h5, h6, h7⟩ := h
  exact ⟨h1, h2, h3, h4, h5, h6, fun y hy => by have := h7 y hy; simpa using this⟩
/-- what all texts of the module share -/
structure Md (P : Program) (w : World) (K : PySem.W.Frag) (mg : Str → Option Value) (base : Heap) (cs : List (Str × PV)) (dc : List (Str × List (Int × Int))) (gcd : Bool) : Prop where
  cs : ∀ x v, cs.lookup x = some v → ∃ w u, mg x = some u ∧ RelV w u ∧ ∀ H μ, Rep K mg H μ v w
  dc : ∀ x kvs, dc.lookup x = some kvs → ∃ d, mg x = some (.ref d) ∧ DicOk K d kvs
  gcd : gcd = true → mg "gcd" = some (.builtin "math.gcd")
  bt : ∀ x, bts.contains x = true → mg x = none
/-- the table's defs keep their denotations at level k -/
def TbOk (P : Program) (w : World) (K : PySem.W.Frag) (mg : Str → Option Value) (base : Heap) (k : Nat) (df : List (Str × FDen)) : Prop := ∀ x D, df.lookup x = some D → FOk P w K mg base k x D
section
variable {P : Program} {w : World} {K : PySem.W.Frag} {mg : Str → Option Value} {base : Heap} {k : Nat} {df : List (Str × FDen)} {cs : List (Str × PV)} {dc : List (Str × List (Int × Int))} {gcd : Bool}
theorem TbOk.mono {j : Nat} (T : TbOk P w K mg base j df) (h : j ≤ k) : TbOk P w K mg base k df := fun x D e => (T x D e).mono h
theorem TbOk.nil : TbOk P w K mg base k [] := fun _ _ e => by cases e
theorem TbOk.cons {x : Str} {D : FDen} (F : FOk P w K mg base k x D) (T : TbOk P w K mg base k df) : TbOk P w K mg base k ((x, D) :: df) := fun y D' e => by
  rw [List.lookup_cons] at e
  split at e
  · rename_i h
    cases e
    have := eq_of_beq h
    subst this
    exact F
  · exact T y D' e
/-- the compile-time context of a def -/
abbrev ctOf (df : List (Str × FDen)) (cs : List (Str × PV)) (dc : List (Str × List (Int × Int))) (gcd : Bool) (N : List Str) (sc : Scope) (mu : List (Str × Nat)) : Ct := ⟨N, sc, sc, List.range N.length, df, cs, dc, gcd, mu⟩
/-- THE STEP: a def whose text compiles keeps its denotation, one level up -/
theorem fnok_of {x qual : Str} {st : Stmt} {f : Addr} {fd : FuncData} {N ps : List Str} {mu : List (Str × Nat)} {n : Nat} {d : SDen} {keep : Bool} (M : Md P w K mg base cs dc gcd) (T : TbOk P w K mg base k df) (F : Fun K x qual st f fd)
    (S : fscC N ps (defScope st) = true) (hc : cSs n (ctOf df cs dc gcd N (defScope st) mu) (defBody st) = some d) : FnOk P w K mg base (L2.CX P w) (k + 1) f fd ps (spD K mg ps.length (runF keep ps.length N.length d)) := by
  have S' := fsc_of S
  refine F.okX S' (fun vs H Q E h => spD_len h) fun cdv A outer s H vs Q E hr hsp => ?_
  refine ⟨tSd K mg d, ?_, ?_⟩
  · have hX : Cd (cxOf (L2.CX P w) P w K mg base N qual (defScope st) f cdv A outer s H E).nox (ctOf df cs dc gcd N (defScope st) mu) k := by
      exact ⟨rfl, S'.nd, rfl, rfl, S'.kind, fun _ _ => rfl, hr, PassesOwn.never, T, M.cs, M.dc, M.gcd, M.bt⟩
    exact PSs.nox ((sndS n).ss hX hc)
  · obtain ⟨μ, h, xs, hh, r, hl, q⟩ := hsp
    have ev := ev_start r N N.length rfl
    have hl' : vs.length = ps.length := by rw [← r.length]; exact hl
    rw [hl'] at ev
    refine ⟨μ, _, h, hh, ev, ?_⟩
    unfold runF at q
    rw [show Nat.beq xs.length ps.length = true by rw [hl]; exact Nat.beq_refl _] at q
    simp only at q
    cases hd : d (xs.map some ++ List.replicate (N.length - ps.length) none) h with
    | rt v h1 =>
      rw [hd] at q
      simp only at q
      split at q
      · rename_i v' h' e
        exact fin_go hh e q
      · rename_i h' e
        exfalso
        revert e
        unfold fin
        split <;> (try (intro e; cases e; done))
        split
        · split <;> (try (intro e; cases e; done))
          split <;> (try (intro e; cases e; done))
          split <;> (intro e; cases e)
        · split <;> (intro e; cases e)
      · exact q.elim
    | nx e h1 =>
      rw [hd] at q
      simp only at q
      intro μ' H' σ' E' hh' _
      split at q
      · rename_i v' h' e
        exact fin_go hh e q μ' H' .non E' hh' .non
      · rename_i h' e
        exfalso
        revert e
        unfold fin
        split <;> (intro e; cases e)
      · exact q.elim
    | ct e h1 => rw [hd] at q; exact (show False from q).elim
    | bk e h1 => rw [hd] at q; exact (show False from q).elim
    | ex h1 => rw [hd] at q; exact (show False from q).elim
    | bad => rw [hd] at q; exact (show False from q).elim
theorem fok_of {x qual : Str} {st : Stmt} {f : Addr} {fd : FuncData} {N ps : List Str} {mu : List (Str × Nat)} {n : Nat} {d : SDen} {keep : Bool} (M : Md P w K mg base cs dc gcd) (T : TbOk P w K mg base k df) (hm : mg x = some (.ref f)) (F : Fun K x qual st f fd) (B : Binds K fd ps [])
    (S : fscC N ps (defScope st) = true) (hc : cSs n (ctOf df cs dc gcd N (defScope st) mu) (defBody st) = some d) : FOk P w K mg base (k + 1) x (runF keep ps.length N.length d) := by
  refine ⟨f, fd, ps, hm, F.kp, fnok_of M T F S hc, B, fun xs h hl => ?_⟩
  unfold runF
  have : Nat.beq xs.length ps.length = false := by
    cases e : Nat.beq xs.length ps.length with
    | false => rfl
    | true => exact absurd (Nat.eq_of_beq_eq_true e) hl
  rw [this]
/-- a def that is never run -/
def fNo : FDen := fun _ _ => .bad
theorem fok_no {x qual : Str} {st : Stmt} {f : Addr} {fd : FuncData} {ps : List Str} (hm : mg x = some (.ref f)) (F : Fun K x qual st f fd) (B : Binds K fd ps []) : FOk P w K mg base k x fNo := by
  refine ⟨f, fd, ps, hm, F.kp, ⟨fun vs H Q E h => spD_len h, fun A outer s H args us vs Q E _ _ _ _ h => ?_⟩, B, fun _ _ _ => rfl⟩
  obtain ⟨_, _, _, _, _, _, q⟩ := h
  exact q.elim
end
end Mn
end
-- text MnHead
section
set_option maxHeartbeats 4000000
/-! Mn: what stands behind the top: defs, constants, dicts -/
namespace Mn
open PySem PySem.Spec L2 PyProof.Rows

/-! ### constants -/
mutual
def conB (K : PySem.W.Frag) : PV → Value → Bool
  | .int i, .int j _ => decide (i = j)
  | .str x, .str y _ => decide (x = y)
  | .bl b, .bool c => b == c
  | .non, .none => true
  | .tup xs, .ref a => match K.lookup a with
    | some ⟨.type c, _, .seq its _, _⟩ => decide (c = "tuple") && (decide (its.size ≤ sizeLine) && conAll K xs its.toList)
    | _ => false
  | _, _ => false
def conAll (K : PySem.W.Frag) : List PV → List Value → Bool
  | [], [] => true
  | x :: xs, u :: us => conB K x u && conAll K xs us
  | _, _ => false
end
mutual
theorem conB_ok {K : PySem.W.Frag} {mg : Str → Option Value} : ∀ {x : PV} {u : Value}, conB K x u = true → ∃ w, RelV w u ∧ ∀ H μ, Rep K mg H μ x w
  | .int i, u, h => by
    unfold conB at h
    split at h <;> first | (cases ‹PV.int _ = _›; done) | skip
    · rename_i i' j t e
      cases e
      have := of_decide_eq_true h
      subst this
      exact ⟨.int i, ⟨t, rfl⟩, fun _ _ => .int i⟩
    · cases h
  | .str x, u, h => by
    unfold conB at h
    split at h <;> first | (cases ‹PV.str _ = _›; done) | skip
    · rename_i x' y t e
      cases e
      have := of_decide_eq_true h
      subst this
      exact ⟨.str x, ⟨t, rfl⟩, fun _ _ => .str x⟩
    · cases h
  | .bl b, u, h => by
    unfold conB at h
    split at h <;> first | (cases ‹PV.bl _ = _›; done) | skip
    · rename_i b' c e
      cases e
      have := eq_of_beq h
      subst this
      exact ⟨.bl b, rfl, fun _ _ => .bl b⟩
    · cases h
  | .non, u, h => by
    unfold conB at h
    split at h <;> first | (cases ‹PV.non = _›; done) | skip
    · exact ⟨.non, rfl, fun _ _ => .non⟩
    · cases h
  | .tup xs, u, h => by
    unfold conB at h
    split at h <;> first | (cases ‹PV.tup _ = _›; done) | skip
    · rename_i xs' a e
      cases e
      split at h
      · rename_i c od its n osl hl
        simp only [Bool.and_eq_true, decide_eq_true_eq] at h
        obtain ⟨h1, h2, h3⟩ := h
        subst h1
        obtain ⟨ws, r1, r2⟩ := conAll_ok (mg := mg) h3
        exact ⟨.ref a, rfl, fun H μ => .tup (.inr ⟨_, its, n, hl, rfl, rfl, h2, r1⟩) (r2 H μ)⟩
      · cases h
    · cases h
  | .fn x, u, h => by
    unfold conB at h
    cases h
  | .lst xs, u, h => by
    unfold conB at h
    cases h
  | .scr xs, u, h => by
    unfold conB at h
    cases h
  | .ref n, u, h => by
    unfold conB at h
    cases h
theorem conAll_ok {K : PySem.W.Frag} {mg : Str → Option Value} : ∀ {xs : List PV} {us : List Value}, conAll K xs us = true → ∃ ws, Vals ws us ∧ ∀ H μ, RepAll K mg H μ xs ws
  | [], [], _ => ⟨[], .nil, fun _ _ => .nil⟩
  | [], _ :: _, h => by simp [conAll] at h
  | _ :: _, [], h => by simp [conAll] at h
  | x :: xs, u :: us, h => by
    have h' := Bool.and_eq_true_iff.mp (show (conB K x u && conAll K xs us) = true by simpa [conAll] using h)
    obtain ⟨w, r1, r2⟩ := conB_ok (mg := mg) h'.1
    obtain ⟨ws, r3, r4⟩ := conAll_ok (mg := mg) h'.2
    exact ⟨w :: ws, .cons r1 r3, fun H μ => .cons (r2 H μ) (r4 H μ)⟩
end
/-! ### dicts of ints -/
def dicAll : List (Int × Int) → List DictEntry → Bool
  | [], [] => true
  | (k, v) :: r, e :: es => (match e.key, e.val with
    | .int i _, .int j _ => decide (i = k) && (decide (j = v) && decide (e.hash = hashInt k))
    | _, _ => false) && dicAll r es
  | _, _ => false
def dicB (K : PySem.W.Frag) (kvs : List (Int × Int)) (a : Addr) : Bool := match K.lookup a with
  | some ⟨.type c, none, .dict es _, sl⟩ => decide (c = "dict") && (sl.isEmpty && dicAll kvs es.toList)
  | _ => false
theorem dicAll_ok : ∀ {kvs : List (Int × Int)} {es : List DictEntry}, dicAll kvs es = true → (∀ e ∈ es, ∃ k t, e.key = .int k t ∧ e.hash = hashInt k) ∧ ∀ k v, kvs.lookup k = some v → ∃ t, (es.find? fun e => Value.isInt k e.key).map (·.val) = some (.int v t)
  | [], [], _ => ⟨fun e he => absurd he (by simp), fun k v h => by cases h⟩
  | [], _ :: _, h => by simp [dicAll] at h
  | _ :: _, [], h => by simp [dicAll] at h
  | (k0, v0) :: r, e :: es, h => by
    have h' := Bool.and_eq_true_iff.mp (show ((match e.key, e.val with
      | .int i _, .int j _ => decide (i = k0) && (decide (j = v0) && decide (e.hash = hashInt k0))
      | _, _ => false) && dicAll r es) = true by simpa [dicAll] using h)
    obtain ⟨q1, q2⟩ := dicAll_ok h'.2
    have h1 := h'.1
    split at h1
    · rename_i i t j u ek ev
      simp only [Bool.and_eq_true, decide_eq_true_eq] at h1
      obtain ⟨e1, e2, e3⟩ := h1
      subst e1 e2
      refine ⟨fun x hx => ?_, fun k v hk => ?_⟩
      · rcases List.mem_cons.mp hx with z | z
        · rw [z]; exact ⟨i, t, ek, e3⟩
        · exact q1 x z
      · rw [List.lookup_cons] at hk
        split at hk
        · rename_i hb
          have := eq_of_beq hb
          subst this
          cases hk
          refine ⟨u, ?_⟩
          rw [List.find?_cons_of_pos]
          · rw [Option.map_some, ev]
          · rw [ek]; simp [Value.isInt]
        · rename_i hb
          obtain ⟨t', h2⟩ := q2 k v hk
          refine ⟨t', ?_⟩
          rw [List.find?_cons_of_neg]
          · exact h2
          · rw [ek]
            have hb' : ¬ k = i := by simpa using hb
            intro z
            have z' : (i == k) = true := z
            exact hb' (eq_of_beq z').symm
    · cases h1
theorem dicB_ok {K : PySem.W.Frag} {kvs : List (Int × Int)} {a : Addr} (h : dicB K kvs a = true) : DicOk K a kvs := by
  unfold dicB at h
  split at h
  · rename_i c es n sl hl
    simp only [Bool.and_eq_true, decide_eq_true_eq] at h
    obtain ⟨h1, h2, h3⟩ := h
    subst h1
    have h2' : sl = #[] := by simpa using h2
    subst h2'
    obtain ⟨q1, q2⟩ := dicAll_ok h3
    refine ⟨es, n, hl, fun e he => q1 e (Array.mem_toList_iff.mpr he), fun k v hk => ?_⟩
    obtain ⟨t, e⟩ := q2 k v hk
    refine ⟨t, ?_⟩
    unfold findBy
    rw [← Array.find?_toList]
    exact e
  · cases h
/-! ### the Hook -/
structure Hd where
  fa : List He.Fa
  fn : List He.DefD
  cs : List (Str × PV)
  dc : List (Str × List (Int × Int))
  gcd : Bool
def Hd.more (D : Hd) (K : PySem.W.Frag) : Bool :=
  (D.cs.all fun q => match PySem.W.nsIn K mainGlobals q.1 with
    | some (some u) => conB K q.2 u
    | _ => false) &&
  ((D.dc.all fun q => match PySem.W.nsIn K mainGlobals q.1 with
    | some (some (.ref a)) => dicB K q.2 a
    | _ => false) &&
  (!D.gcd || He.eqO (PySem.W.nsIn K mainGlobals "gcd") (some (some (.builtin "math.gcd")))))
/-- one step down: a dict's values, a tuple's items, a function's code -/
def downG (g : Addr → Option Obj) (as : List Addr) : List Addr := as.flatMap fun a => match g a with
  | some ⟨_, _, .dict es _, _⟩ => es.toList.flatMap fun e => He.refV e.val
  | some ⟨.type c, _, .seq its _, _⟩ => match c == "tuple" with
    | true => its.toList.flatMap He.refV
    | false => []
  | some ⟨_, _, .func fd, _⟩ => He.refV fd.code
  | _ => []
def asM (g : Addr → Option Obj) : List Addr := frLM [mainGlobals] fun a0 => frLM (downG g a0) fun a1 => frLM (downG g a1) fun a2 => frLM (downG g a2) fun a3 => a0 ++ (a1 ++ (a2 ++ a3))
where
  /-- read to its end before it is used -/
  frLM : List Addr → (List Addr → List Addr) → List Addr := fun l k => k l
abbrev AlM : Type := Bool × List He.FnW
def obsM (D : Hd) (K : PySem.W.Frag) : AlM := ((He.obsD D.fa D.fn K).1 && D.more K, (He.obsD D.fa D.fn K).2)
def valM (D : Hd) : AlM := He.valD D.fn
def hookM (D : Hd) : PySem.W.Hook where
  α := AlM
  obs := fun s => obsM D (He.frG s.heap.get? (asM s.heap.get?))
  val := fun _ => valM D
  says := fun _ h => ∃ K : PySem.W.Frag, K.In h ∧ obsM D K = valM D
  of := fun _ _ e => ⟨_, He.frG_in, e⟩
  keeps := fun _ _ _ ⟨K, hK, c⟩ k => ⟨K, PySem.W.Frag.In.keeps hK k, c⟩
theorem hookM_eq {D : Hd} {g : Addr → Option Obj} {s : Shared} (h : ∀ a, g a = s.heap.get? a) : obsM D (He.frG g (asM g)) = (hookM D).obs s := by
  have e : g = s.heap.get? := funext h
  rw [e]
  rfl
section
variable {D : Hd} {K : PySem.W.Frag} {h : Heap} {mg : Str → Option Value} {P : Program} {w : World} {base : Heap}
theorem says_d (c : obsM D K = valM D) : He.SaysD D.fa D.fn K ∧ D.more K = true := by
  have c1 : ((He.obsD D.fa D.fn K).1 && D.more K) = true := by
    have z : (obsM D K).1 = (valM D).1 := by rw [c]
    exact z
  have c2 : (obsM D K).2 = (valM D).2 := by rw [c]
  rw [Bool.and_eq_true] at c1
  exact ⟨Prod.ext c1.1 c2, c1.2⟩
theorem lookup_mem {α β : Type} [BEq α] [LawfulBEq α] {x : α} {v : β} : ∀ {l : List (α × β)}, l.lookup x = some v → (x, v) ∈ l
  | [], h => by cases h
  | (y, u) :: l, h => by
    rw [List.lookup_cons] at h
    split at h
    · rename_i hb
      cases h
      have := eq_of_beq hb
      subst this
      exact List.mem_cons_self ..
    · exact List.mem_cons_of_mem _ (lookup_mem h)
theorem md_of (X : K.In h) (G : h.Ns mainGlobals mg) (c : obsM D K = valM D) (hb : ∀ x, bts.contains x = true → .free x ∈ D.fa) : Md P w K mg base D.cs D.dc D.gcd := by
  obtain ⟨c1, c2⟩ := says_d c
  unfold Hd.more at c2
  simp only [Bool.and_eq_true, List.all_eq_true] at c2
  obtain ⟨h1, h2, h3⟩ := c2
  refine ⟨fun x v e => ?_, fun x v e => ?_, fun e => ?_, fun x e => ?_⟩
  · have q := h1 _ (lookup_mem e)
    simp only at q
    split at q
    · rename_i u hu
      obtain ⟨wv, r1, r2⟩ := conB_ok (mg := mg) q
      exact ⟨wv, u, PySem.W.mg_of X G hu, r1, r2⟩
    · cases q
  · have q := h2 _ (lookup_mem e)
    simp only at q
    split at q
    · rename_i a ha
      exact ⟨a, PySem.W.mg_of X G ha, dicB_ok q⟩
    · cases q
  · rw [e] at h3
    exact PySem.W.mg_of X G (He.eqO_ok (by simpa using h3))
  · obtain ⟨i, hi⟩ := List.mem_iff_getElem?.mp (hb x e)
    exact He.free_ok X G (c1.fact i hi)
/-- the i-th def -/
theorem def_of (X : K.In h) (G : h.Ns mainGlobals mg) (c : obsM D K = valM D) (i j : Nat) {x : Str} {st : Stmt} (hi : D.fn[i]? = some ⟨(x, none), x, x, defArgs st, defBody st, defScope st, [], []⟩) (hj : D.fa[j]? = some (.glo x)) :
    ∃ f fd, mg x = some (.ref f) ∧ Fun K x x st f fd := by
  obtain ⟨c1, _⟩ := says_d c
  obtain ⟨fd, F⟩ := c1.def_ i hi
  exact ⟨_, fd, He.glo_ok X G (c1.fact j hj), He5.fun_of F⟩
/-- the same, with what binds its one argument -/
theorem def_ofB (X : K.In h) (G : h.Ns mainGlobals mg) (c : obsM D K = valM D) (i j : Nat) {x p : Str} {st : Stmt} (hi : D.fn[i]? = some ⟨(x, none), x, x, defArgs st, defBody st, defScope st, [], []⟩) (hj : D.fa[j]? = some (.glo x))
    (hb : ∀ (dV kV doc pm : Value) (an : Option Addr) (cdv ct : Value) (us : List Value), us.length = [p].length → bindArgs (PySem.W.fnOf x x (defArgs st) (defBody st) (defScope st) .none kV doc pm an cdv ct) ⟨us, []⟩ = pure ([p].zip us)) :
    ∃ f fd, mg x = some (.ref f) ∧ Fun K x x st f fd ∧ ∀ (s : Shared) (v : Value), BindsTo s fd ⟨[v], []⟩ [(p, v)] := by
  obtain ⟨c1, _⟩ := says_d c
  obtain ⟨fd, F⟩ := c1.def_ i hi
  have b := FunD.bindsA (ps := [p]) F fun kV doc pm an cdv ct us hl => hb .none kV doc pm an cdv ct us hl
  exact ⟨_, fd, He.glo_ok X G (c1.fact j hj), He5.fun_of F, fun s v => b s [v] rfl⟩
/-- the law's own promise, of a script -/
theorem law_sp {D : FDen} {H : Hp} {a : Addr} {ns : List Int} (ho : L2.Only H) (hS : SqL K H a (ns.map V.int)) (ht : ∃ h', D [.scr (ns.map .int)] [] = .ok (.bl true) h') : spD K mg 1 D [.ref a] H (fun v _ => v = .bl true) fun _ _ _ => False := by
  obtain ⟨h', e⟩ := ht
  refine ⟨⟨[], []⟩, [], [.scr (ns.map .int)], ⟨rfl, List.nodup_nil, fun _ z => absurd z (by simp), fun n xs z => by simp at z⟩, .cons (.scr ?_ (RepAll.ints ns)) .nil, rfl, ?_⟩
  · rcases hS with (hS | hS) | hS
    · rcases ho a with z | ⟨o, xs, z⟩
      · rw [z] at hS; cases hS
      · rw [z] at hS; cases hS
    · exact .inl ⟨hS, by simp, by simp⟩
    · exact .inr hS
  · rw [e]
    exact fun μ' H' u _ _ r => r.bl_inv
theorem cx_no {P : Program} {w : World} (H : Hp) (s : Shared) (e : Value) (s' : Shared) (h : L2.CX P w [] H s (fun _ _ _ => False) e s') : False := by
  obtain ⟨_, _, _, _, _, _, _, _, _, _, _, _, z⟩ := h
  exact z
/-- a wider word on what is let out -/
theorem fn_cx {CX CX' : CXT} {k : Nat} {f : Addr} {fd : FuncData} {ps : List Str} {sp : Sp} (F : FnOk P w K mg base CX k f fd ps sp) (h : ∀ outer H s E e s', CX outer H s E e s' → CX' outer H s E e s') : FnOk P w K mg base CX' k f fd ps sp :=
  ⟨F.len, fun A outer s H args us vs Q E hr he hb hv hs => codeAny_mono (F.run A outer s H args us vs Q E hr he hb hv hs) fun r s' hq => by
    cases r with
    | error e => exact h _ _ _ _ _ _ hq
    | ok fl => cases fl <;> exact hq⟩
end
end Mn
end
-- text LawK80Defs
section
set_option maxHeartbeats 0
namespace LawK80
open PySem PySem.Spec L2 Mn
/-! constants of the module -/
def k_LINES : PV := .tup [.tup [.int 1, .int 2, .int 4], .tup [.int 2, .int 3, .int 5], .tup [.int 3, .int 4, .int 6], .tup [.int 4, .int 5, .int 7], .tup [.int 5, .int 6, .int 1], .tup [.int 6, .int 7, .int 2], .tup [.int 7, .int 1, .int 3]]
def k_NONE : PV := .tup [.int 0, .int 0, .int 0, .int 0, .int 0, .int 0, .int 0, .int 0]
def k_ONE : PV := .tup [.int 1, .int 0, .int 0, .int 0, .int 0, .int 0, .int 0, .int 0]
def k_PRODUCTS : PV := .tup [.tup [.tup [.int 1, .int 0], .tup [.int 1, .int 1], .tup [.int 1, .int 2], .tup [.int 1, .int 3], .tup [.int 1, .int 4], .tup [.int 1, .int 5], .tup [.int 1, .int 6], .tup [.int 1, .int 7]], .tup [.tup [.int 1, .int 1], .tup [.int (-1), .int 0], .tup [.int 1, .int 4], .tup [.int 1, .int 7], .tup [.int (-1), .int 2], .tup [.int 1, .int 6], .tup [.int (-1), .int 5], .tup [.int (-1), .int 3]], .tup [.tup [.int 1, .int 2], .tup [.int (-1), .int 4], .tup [.int (-1), .int 0], .tup [.int 1, .int 5], .tup [.int 1, .int 1], .tup [.int (-1), .int 3], .tup [.int 1, .int 7], .tup [.int (-1), .int 6]], .tup [.tup [.int 1, .int 3], .tup [.int (-1), .int 7], .tup [.int (-1), .int 5], .tup [.int (-1), .int 0], .tup [.int 1, .int 6], .tup [.int 1, .int 2], .tup [.int (-1), .int 4], .tup [.int 1, .int 1]], .tup [.tup [.int 1, .int 4], .tup [.int 1, .int 2], .tup [.int (-1), .int 1], .tup [.int (-1), .int 6], .tup [.int (-1), .int 0], .tup [.int 1, .int 7], .tup [.int 1, .int 3], .tup [.int (-1), .int 5]], .tup [.tup [.int 1, .int 5], .tup [.int (-1), .int 6], .tup [.int 1, .int 3], .tup [.int (-1), .int 2], .tup [.int (-1), .int 7], .tup [.int (-1), .int 0], .tup [.int 1, .int 1], .tup [.int 1, .int 4]], .tup [.tup [.int 1, .int 6], .tup [.int 1, .int 5], .tup [.int (-1), .int 7], .tup [.int 1, .int 4], .tup [.int (-1), .int 3], .tup [.int (-1), .int 1], .tup [.int (-1), .int 0], .tup [.int 1, .int 2]], .tup [.tup [.int 1, .int 7], .tup [.int 1, .int 3], .tup [.int 1, .int 6], .tup [.int (-1), .int 1], .tup [.int 1, .int 5], .tup [.int (-1), .int 4], .tup [.int (-1), .int 2], .tup [.int (-1), .int 0]]]
def k_PLACES : PV := .tup [.int 0, .int 1, .int 2, .int 3, .int 4, .int 5, .int 6, .int 7]
def k_CODE_ONE : PV := .tup [.tup [], .tup [.int 0, .int 1, .int 2, .int 3, .int 4, .int 5, .int 6, .int 7], .tup [.int 0, .int 1, .int 2, .int 4], .tup [.int 0, .int 1, .int 3, .int 7], .tup [.int 0, .int 1, .int 5, .int 6], .tup [.int 0, .int 2, .int 3, .int 6], .tup [.int 0, .int 2, .int 5, .int 7], .tup [.int 0, .int 3, .int 4, .int 5], .tup [.int 0, .int 4, .int 6, .int 7], .tup [.int 1, .int 2, .int 3, .int 5], .tup [.int 1, .int 2, .int 6, .int 7], .tup [.int 1, .int 3, .int 4, .int 6], .tup [.int 1, .int 4, .int 5, .int 7], .tup [.int 2, .int 3, .int 4, .int 7], .tup [.int 2, .int 4, .int 5, .int 6], .tup [.int 3, .int 5, .int 6, .int 7]]
def k_WHOLE_ONE : PV := .tup [.int 2, .int 0, .int 0, .int 0, .int 0, .int 0, .int 0, .int 0]
def k_MOST : PV := .int 200
def k_MOST_TIMES : PV := .int 60
def h_ORDERS : List (Int × Int) := [(2, 1), ((-2), 2), ((-1), 3), (0, 4), (1, 6)]
def kcs : List (Str × PV) := [("LINES", k_LINES), ("NONE", k_NONE), ("ONE", k_ONE), ("PRODUCTS", k_PRODUCTS), ("PLACES", k_PLACES), ("CODE_ONE", k_CODE_ONE), ("WHOLE_ONE", k_WHOLE_ONE), ("MOST", k_MOST), ("MOST_TIMES", k_MOST_TIMES)]
def kdc : List (Str × List (Int × Int)) := [("ORDERS", h_ORDERS)]
def top (i : Nat) : Stmt := PySem.Challenge.pw_eightparts_k80_main_across_powers_traces.main.body.getD i (.Pass ⟨0, 0, 0, 0⟩)
/-! what the defs do -/
def df__law_by : List (Str × FDen) := []
def b__law_by : SDen := sSeq (sRet (dBlt bTuple (lCons (dLc 0 (iSeq (dVar 0)) (aName 2) (tYesD) (dBin 0 .Mult (dVar 2) (dVar 1)) [2]) (lNil)))) (sNext)
def D__law_by : FDen := runF false 2 3 b__law_by
theorem c__law_by : cSs 40 (ctOf df__law_by kcs kdc true ["one", "number_so", "own"] (defScope (top 91)) []) (defBody (top 91)) = some b__law_by := by rfl
def df_product_of : List (Str × FDen) := []
def b_product_of : SDen := sSeq (sAsg (dLst 1 (lCons (dC (.int 0)) (lCons (dC (.int 0)) (lCons (dC (.int 0)) (lCons (dC (.int 0)) (lCons (dC (.int 0)) (lCons (dC (.int 0)) (lCons (dC (.int 0)) (lCons (dC (.int 0)) (lNil)))))))))) (gA (aName 2))) (sSeq (sFor (iEn (dVar 0)) (aTup 2 (aCons (aName 3) (aCons (aName 4) (aNil)))) (sSeq (sIf (tVal (dCmp .NotEq (dVar 4) (dC (.int 0)))) (sSeq (sAsg (dIx (dC k_PRODUCTS) (dVar 3)) (gA (aName 5))) (sSeq (sFor (iEn (dVar 1)) (aTup 2 (aCons (aName 6) (aCons (aName 7) (aNil)))) (sSeq (sIf (tVal (dCmp .NotEq (dVar 7) (dC (.int 0)))) (sSeq (sAsg (dIx (dVar 5) (dVar 6)) (gUnp 2 (gCons (gA (aName 8)) (gCons (gA (aName 9)) (gNil))))) (sSeq (sAsg (dBin 0 .Add (dIx (dVar 2) (dVar 9)) (dBin 0 .Mult (dBin 0 .Mult (dVar 8) (dVar 4)) (dVar 7))) (gSub (dVar 2) (dVar 9))) (sNext))) (sNext)) (sNext))) (sNext))) (sNext)) (sNext))) (sSeq (sRet (dBlt bTuple (lCons (dVar 2) (lNil)))) (sNext)))
def D_product_of : FDen := runF false 2 10 b_product_of
theorem c_product_of : cSs 40 (ctOf df_product_of kcs kdc true ["one", "other", "found", "place", "near", "row", "mate", "far", "sign", "letter"] (defScope (top 24)) [("found", 1)]) (defBody (top 24)) = some b_product_of := by rfl
def df_multiplied : List (Str × FDen) := [("product_of", D_product_of)]
def b_multiplied : SDen := sSeq (sRet (dBlt bTuple (lCons (dLc 0 (iSeq (dCall D_product_of (lCons (dVar 0) (lCons (dVar 1) (lNil))))) (aName 2) (tYesD) (dBin 0 .FloorDiv (dVar 2) (dC (.int 2))) [2]) (lNil)))) (sNext)
def D_multiplied : FDen := runF false 2 3 b_multiplied
theorem c_multiplied : cSs 40 (ctOf df_multiplied kcs kdc true ["one", "other", "own"] (defScope (top 46)) []) (defBody (top 46)) = some b_multiplied := by rfl
def df_odd_places : List (Str × FDen) := []
def b_odd_places : SDen := sSeq (sRet (dBlt bTuple (lCons (dLc 0 (iEn (dVar 0)) (aTup 2 (aCons (aName 1) (aCons (aName 2) (aNil)))) (tVal (dCmp .NotEq (dBin 0 .Mod (dVar 2) (dC (.int 2))) (dC (.int 0)))) (dVar 1) [1, 2]) (lNil)))) (sNext)
def D_odd_places : FDen := runF false 1 3 b_odd_places
theorem c_odd_places : cSs 40 (ctOf df_odd_places kcs kdc true ["halves", "place", "own"] (defScope (top 38)) []) (defBody (top 38)) = some b_odd_places := by rfl
def df_set_of : List (Str × FDen) := []
def b_set_of : SDen := sSeq (sRet (dBlt bTuple (lCons (dSortSet 0 (dVar 0)) (lNil)))) (sNext)
def D_set_of : FDen := runF false 1 1 b_set_of
theorem c_set_of : cSs 40 (ctOf df_set_of kcs kdc true ["row"] (defScope (top 10)) []) (defBody (top 10)) = some b_set_of := by rfl
def df_code_words : List (Str × FDen) := [("set_of", D_set_of)]
def b_code_words : SDen := sSeq (sAsg (dLc 0 (iSeq (dC k_LINES)) (aName 4) (tYesD) (dBlt bTuple (lCons (dBlt (bSorted 0) (lCons (dBin 0 .Add (dTup (lCons (dC (.int 0)) (lNil))) (dVar 4)) (lNil))) (lNil))) [4]) (gA (aName 1))) (sSeq (sAsg (dBin 0 .Add (dBin 0 .Add (dLst 0 (lCons (dTup (lNil)) (lCons (dC k_PLACES) (lNil)))) (dVar 1)) (dLc 0 (iSeq (dVar 1)) (aName 5) (tYesD) (dBlt bTuple (lCons (dLc 0 (iSeq (dC k_PLACES)) (aName 6) (tVal (dCmp .NotIn (dVar 6) (dVar 5))) (dVar 6) [6]) (lNil))) [5])) (gA (aName 2))) (sSeq (sAsg (dBlt (bList 1) (lCons (dC k_PLACES) (lNil))) (gA (aName 3))) (sSeq (sAsg (dTup (lCons (dIx (dVar 3) (dVar 0)) (lCons (dIx (dVar 3) (dC (.int 0))) (lNil)))) (gUnp 2 (gCons (gSub (dVar 3) (dC (.int 0))) (gCons (gSub (dVar 3) (dVar 0)) (gNil))))) (sSeq (sRet (dCall D_set_of (lCons (dLc 0 (iSeq (dVar 2)) (aName 5) (tYesD) (dBlt bTuple (lCons (dBlt (bSorted 0) (lCons (dLc 0 (iSeq (dVar 5)) (aName 6) (tYesD) (dIx (dVar 3) (dVar 6)) [6]) (lNil))) (lNil))) [5]) (lNil)))) (sNext)))))
def D_code_words : FDen := runF false 1 7 b_code_words
theorem c_code_words : cSs 40 (ctOf df_code_words kcs kdc true ["ring", "fours", "words", "table", "line", "own", "place"] (defScope (top 37)) [("table", 1)]) (defBody (top 37)) = some b_code_words := by rfl
def df_in_ring : List (Str × FDen) := [("odd_places", D_odd_places), ("code_words", D_code_words)]
def b_in_ring : SDen := sSeq (sRet (dCmp .In (dCall D_odd_places (lCons (dVar 1) (lNil))) (dIf (tVal (dCmp .Eq (dVar 0) (dC (.int 1)))) (dC k_CODE_ONE) (dCall D_code_words (lCons (dVar 0) (lNil)))))) (sNext)
def D_in_ring : FDen := runF false 2 2 b_in_ring
theorem c_in_ring : cSs 40 (ctOf df_in_ring kcs kdc true ["ring", "halves"] (defScope (top 39)) []) (defBody (top 39)) = some b_in_ring := by rfl
def df_root_down : List (Str × FDen) := []
def b_root_down : SDen := sSeq (sAsg (dTup (lCons (dC (.int 0)) (lCons (dC (.int 1)) (lNil)))) (gUnp 2 (gCons (gA (aName 1)) (gCons (gA (aName 2)) (gNil))))) (sSeq (sWh (tVal (dCmp .LtE (dBin 0 .Mult (dVar 2) (dVar 2)) (dVar 0))) (sSeq (sAsg (dBin 0 .Mult (dVar 2) (dC (.int 2))) (gA (aName 2))) (sNext))) (sSeq (sWh (tVal (dCmp .Gt (dBin 0 .Sub (dVar 2) (dVar 1)) (dC (.int 1)))) (sSeq (sAsg (dBin 0 .FloorDiv (dBin 0 .Add (dVar 1) (dVar 2)) (dC (.int 2))) (gA (aName 3))) (sSeq (sAsg (dIf (tVal (dCmp .LtE (dBin 0 .Mult (dVar 3) (dVar 3)) (dVar 0))) (dTup (lCons (dVar 3) (lCons (dVar 2) (lNil)))) (dTup (lCons (dVar 1) (lCons (dVar 3) (lNil))))) (gUnp 2 (gCons (gA (aName 1)) (gCons (gA (aName 2)) (gNil))))) (sNext)))) (sSeq (sRet (dVar 1)) (sNext))))
def D_root_down : FDen := runF false 1 4 b_root_down
theorem c_root_down : cSs 40 (ctOf df_root_down kcs kdc true ["number", "near", "far", "mid"] (defScope (top 11)) []) (defBody (top 11)) = some b_root_down := by rfl
def df_sum_of : List (Str × FDen) := []
def b_sum_of : SDen := sSeq (sRet (dBlt bTuple (lCons (dLc 0 (iZi (dVar 0) (dVar 1)) (aTup 2 (aCons (aName 2) (aCons (aName 3) (aNil)))) (tYesD) (dBin 0 .Add (dVar 2) (dVar 3)) [2, 3]) (lNil)))) (sNext)
def D_sum_of : FDen := runF false 2 4 b_sum_of
theorem c_sum_of : cSs 40 (ctOf df_sum_of kcs kdc true ["one", "other", "near", "far"] (defScope (top 27)) []) (defBody (top 27)) = some b_sum_of := by rfl
def df_times_of : List (Str × FDen) := []
def b_times_of : SDen := sSeq (sRet (dBlt bTuple (lCons (dLc 0 (iSeq (dVar 0)) (aName 2) (tYesD) (dBin 0 .Mult (dVar 2) (dVar 1)) [2]) (lNil)))) (sNext)
def D_times_of : FDen := runF false 2 3 b_times_of
theorem c_times_of : cSs 40 (ctOf df_times_of kcs kdc true ["row", "number", "own"] (defScope (top 28)) []) (defBody (top 28)) = some b_times_of := by rfl
def df_pair_in : List (Str × FDen) := []
def b_pair_in : SDen := sSeq (sAsg (dVar 0) (gUnp 2 (gCons (gA (aName 3)) (gCons (gA (aName 4)) (gNil))))) (sSeq (sAsg (dTup (lCons (dTup (lCons (dC (.int 0)) (lCons (dC (.int 1)) (lNil)))) (lCons (dTup (lCons (dC (.int 1)) (lCons (dC (.int 0)) (lNil)))) (lNil)))) (gUnp 2 (gCons (gA (aName 5)) (gCons (gA (aName 6)) (gNil))))) (sSeq (sFor (iRg1 (dVar 1)) (aName 2) (sSeq (sPar [5, 6] (lCons (dVar 6) (lCons (dTup (lCons (dBin 0 .Sub (dBin 0 .Mult (dVar 3) (dIx (dVar 6) (dC (.int 0)))) (dBin 0 .Mult (dVar 4) (dIx (dVar 5) (dC (.int 0))))) (lCons (dBin 0 .Sub (dBin 0 .Mult (dVar 3) (dIx (dVar 6) (dC (.int 1)))) (dBin 0 .Mult (dVar 4) (dIx (dVar 5) (dC (.int 1))))) (lNil)))) (lNil)))) (sNext))) (sSeq (sRet (dVar 5)) (sNext))))
def D_pair_in : FDen := runF false 2 7 b_pair_in
theorem c_pair_in : cSs 40 (ctOf df_pair_in kcs kdc true ["rule", "many", "lap", "trace", "whole", "now", "later"] (defScope (top 56)) []) (defBody (top 56)) = some b_pair_in := by rfl
def df_square_sum_of : List (Str × FDen) := []
def b_square_sum_of : SDen := sSeq (sRet (dBlt bSum (lCons (dLc 0 (iSeq (dVar 0)) (aName 1) (tYesD) (dBin 0 .Mult (dVar 1) (dVar 1)) [1]) (lNil)))) (sNext)
def D_square_sum_of : FDen := runF false 1 2 b_square_sum_of
theorem c_square_sum_of : cSs 40 (ctOf df_square_sum_of kcs kdc true ["row", "own"] (defScope (top 26)) []) (defBody (top 26)) = some b_square_sum_of := by rfl
def df_power_in : List (Str × FDen) := [("sum_of", D_sum_of), ("times_of", D_times_of), ("pair_in", D_pair_in), ("square_sum_of", D_square_sum_of)]
def b_power_in : SDen := sSeq (sAsg (dCall D_pair_in (lCons (dTup (lCons (dBin 0 .Mult (dC (.int 2)) (dIx (dVar 0) (dC (.int 0)))) (lCons (dCall D_square_sum_of (lCons (dVar 0) (lNil))) (lNil)))) (lCons (dVar 1) (lNil)))) (gUnp 2 (gCons (gA (aName 2)) (gCons (gA (aName 3)) (gNil))))) (sSeq (sRet (dCall D_sum_of (lCons (dCall D_times_of (lCons (dVar 0) (lCons (dVar 2) (lNil)))) (lCons (dCall D_times_of (lCons (dC k_ONE) (lCons (dVar 3) (lNil)))) (lNil))))) (sNext))
def D_power_in : FDen := runF false 2 4 b_power_in
theorem c_power_in : cSs 40 (ctOf df_power_in kcs kdc true ["eight", "many", "first", "plain"] (defScope (top 57)) []) (defBody (top 57)) = some b_power_in := by rfl
def df_over_of : List (Str × FDen) := []
def b_over_of : SDen := sSeq (sRet (dBlt bTuple (lCons (dLc 0 (iSeq (dVar 0)) (aName 2) (tYesD) (dBin 0 .FloorDiv (dVar 2) (dVar 1)) [2]) (lNil)))) (sNext)
def D_over_of : FDen := runF false 2 3 b_over_of
theorem c_over_of : cSs 40 (ctOf df_over_of kcs kdc true ["row", "number", "own"] (defScope (top 29)) []) (defBody (top 29)) = some b_over_of := by rfl
def df_common_of : List (Str × FDen) := []
def b_common_of : SDen := sSeq (sAsg (dC (.int 0)) (gA (aName 1))) (sSeq (sFor (iSeq (dVar 0)) (aName 2) (sSeq (sAsg (dBlt bGcd (lCons (dVar 1) (lCons (dVar 2) (lNil)))) (gA (aName 1))) (sNext))) (sSeq (sRet (dVar 1)) (sNext)))
def D_common_of : FDen := runF false 1 3 b_common_of
theorem c_common_of : cSs 40 (ctOf df_common_of kcs kdc true ["row", "found", "own"] (defScope (top 14)) []) (defBody (top 14)) = some b_common_of := by rfl
def df_side_of : List (Str × FDen) := []
def b_side_of : SDen := sSeq (sRet (dBin 0 .Add (dTup (lCons (dC (.int 0)) (lNil))) (dSl 0 (dVar 0) (oSome (dC (.int 1))) (oNon)))) (sNext)
def D_side_of : FDen := runF false 1 1 b_side_of
theorem c_side_of : cSs 40 (ctOf df_side_of kcs kdc true ["eight"] (defScope (top 30)) []) (defBody (top 30)) = some b_side_of := by rfl
def df_raised : List (Str × FDen) := []
def b_raised : SDen := sSeq (sAsg (dC (.int 1)) (gA (aName 2))) (sSeq (sFor (iRg1 (dVar 1)) (aName 3) (sSeq (sAsg (dBin 0 .Mult (dVar 2) (dVar 0)) (gA (aName 2))) (sNext))) (sSeq (sRet (dVar 2)) (sNext)))
def D_raised : FDen := runF false 2 4 b_raised
theorem c_raised : cSs 40 (ctOf df_raised kcs kdc true ["number", "often", "found", "lap"] (defScope (top 12)) []) (defBody (top 12)) = some b_raised := by rfl
def df_root_of_number : List (Str × FDen) := [("raised", D_raised)]
def b_root_of_number : SDen := sSeq (sAsg (dTup (lCons (dC (.int 0)) (lCons (dC (.int 1)) (lNil)))) (gUnp 2 (gCons (gA (aName 2)) (gCons (gA (aName 3)) (gNil))))) (sSeq (sWh (tVal (dCmp .LtE (dCall D_raised (lCons (dVar 3) (lCons (dVar 1) (lNil)))) (dVar 0))) (sSeq (sAsg (dBin 0 .Mult (dVar 3) (dC (.int 2))) (gA (aName 3))) (sNext))) (sSeq (sWh (tVal (dCmp .Gt (dBin 0 .Sub (dVar 3) (dVar 2)) (dC (.int 1)))) (sSeq (sAsg (dBin 0 .FloorDiv (dBin 0 .Add (dVar 2) (dVar 3)) (dC (.int 2))) (gA (aName 4))) (sSeq (sAsg (dIf (tVal (dCmp .LtE (dCall D_raised (lCons (dVar 4) (lCons (dVar 1) (lNil)))) (dVar 0))) (dTup (lCons (dVar 4) (lCons (dVar 3) (lNil)))) (dTup (lCons (dVar 2) (lCons (dVar 4) (lNil))))) (gUnp 2 (gCons (gA (aName 2)) (gCons (gA (aName 3)) (gNil))))) (sNext)))) (sSeq (sRet (dIf (tVal (dCmp .Eq (dCall D_raised (lCons (dVar 2) (lCons (dVar 1) (lNil)))) (dVar 0))) (dVar 2) (dC .non))) (sNext))))
def D_root_of_number : FDen := runF false 2 5 b_root_of_number
theorem c_root_of_number : cSs 40 (ctOf df_root_of_number kcs kdc true ["number", "times", "near", "far", "mid"] (defScope (top 58)) []) (defBody (top 58)) = some b_root_of_number := by rfl
def df_roots_in : List (Str × FDen) := [("root_down", D_root_down), ("power_in", D_power_in), ("sum_of", D_sum_of), ("times_of", D_times_of), ("square_sum_of", D_square_sum_of), ("over_of", D_over_of), ("common_of", D_common_of), ("side_of", D_side_of), ("root_of_number", D_root_of_number)]
def b_roots_in : SDen := sSeq (sAsg (dCall D_root_of_number (lCons (dCall D_square_sum_of (lCons (dVar 0) (lNil))) (lCons (dVar 1) (lNil)))) (gA (aName 2))) (sSeq (sIf (tOr (tVal (dCmp .Is (dVar 2) (dC .non))) (tVal (dCmp .Eq (dVar 1) (dC (.int 1))))) (sSeq (sRet (dIf (tVal (dCmp .Is (dVar 2) (dC .non))) (dLst 0 (lNil)) (dLst 0 (lCons (dVar 0) (lNil))))) (sNext)) (sNext)) (sSeq (sAsg (dCall D_over_of (lCons (dCall D_side_of (lCons (dVar 0) (lNil))) (lCons (dCall D_common_of (lCons (dCall D_side_of (lCons (dVar 0) (lNil))) (lNil))) (lNil)))) (gA (aName 3))) (sSeq (sAsg (dCall D_square_sum_of (lCons (dVar 3) (lNil))) (gA (aName 4))) (sSeq (sAsg (dLst 1 (lNil)) (gA (aName 5))) (sSeq (sFor (iRg2 (dC (.int 1)) (dBin 0 .Add (dCall D_root_down (lCons (dBin 0 .FloorDiv (dVar 2) (dVar 4)) (lNil))) (dC (.int 1)))) (aName 6) (sSeq (sAsg (dBin 0 .Sub (dVar 2) (dBin 0 .Mult (dBin 0 .Mult (dVar 6) (dVar 6)) (dVar 4))) (gA (aName 7))) (sSeq (sAsg (dCall D_root_down (lCons (dVar 7) (lNil))) (gA (aName 8))) (sSeq (sIf (tVal (dCmp .NotEq (dBin 0 .Mult (dVar 8) (dVar 8)) (dVar 7))) (sSeq (sCont) (sNext)) (sNext)) (sSeq (sFor (iSeq (dSortSet 0 (dLst 0 (lCons (dVar 8) (lCons (dNeg (dVar 8)) (lNil)))))) (aName 9) (sSeq (sFor (iSeq (dTup (lCons (dVar 6) (lCons (dNeg (dVar 6)) (lNil))))) (aName 10) (sSeq (sAsg (dCall D_sum_of (lCons (dCall D_times_of (lCons (dC k_ONE) (lCons (dVar 9) (lNil)))) (lCons (dCall D_times_of (lCons (dVar 3) (lCons (dVar 10) (lNil)))) (lNil)))) (gA (aName 11))) (sSeq (sIf (tVal (dCmp .Eq (dCall D_power_in (lCons (dVar 11) (lCons (dVar 1) (lNil)))) (dVar 0))) (sSeq (sDrop (dApp (dVar 5) (dVar 11))) (sNext)) (sNext)) (sNext)))) (sNext))) (sNext)))))) (sSeq (sRet (dBlt (bSorted 0) (lCons (dVar 5) (lNil)))) (sNext)))))))
def D_roots_in : FDen := runF false 2 12 b_roots_in
theorem c_roots_in : cSs 40 (ctOf df_roots_in kcs kdc true ["goal", "times", "size", "side", "by", "found", "often", "left", "plain", "first", "second", "own"] (defScope (top 59)) [("found", 1)]) (defBody (top 59)) = some b_roots_in := by rfl
def df_is_long : List (Str × FDen) := []
def b_is_long : SDen := sSeq (sRet (dAnd (dIs ["tuple"] (dVar 0)) (dCmp .Eq (dBlt bLen (lCons (dVar 0) (lNil))) (dVar 1)))) (sNext)
def D_is_long : FDen := runF false 2 2 b_is_long
theorem c_is_long : cSs 40 (ctOf df_is_long kcs kdc true ["thing", "length"] (defScope (top 7)) []) (defBody (top 7)) = some b_is_long := by rfl
def df_is_number : List (Str × FDen) := []
def b_is_number : SDen := sSeq (sRet (dAnd (dIs ["int"] (dVar 0)) (dNot (dIs ["bool"] (dVar 0))))) (sNext)
def D_is_number : FDen := runF false 1 1 b_is_number
theorem c_is_number : cSs 40 (ctOf df_is_number kcs kdc true ["thing"] (defScope (top 5)) []) (defBody (top 5)) = some b_is_number := by rfl
def df_are_numbers : List (Str × FDen) := [("is_number", D_is_number)]
def b_are_numbers : SDen := sSeq (sRet (dAnd (dIs ["tuple"] (dVar 0)) (dBlt bAll (lCons (dLc 0 (iSeq (dVar 0)) (aName 1) (tYesD) (dCall D_is_number (lCons (dVar 1) (lNil))) [1]) (lNil))))) (sNext)
def D_are_numbers : FDen := runF false 1 2 b_are_numbers
theorem c_are_numbers : cSs 40 (ctOf df_are_numbers kcs kdc true ["thing", "own"] (defScope (top 9)) []) (defBody (top 9)) = some b_are_numbers := by rfl
def df_is_eight_in : List (Str × FDen) := [("is_long", D_is_long), ("are_numbers", D_are_numbers)]
def b_is_eight_in : SDen := sSeq (sRet (dAnd (dCall D_is_long (lCons (dVar 0) (lCons (dC (.int 8)) (lNil)))) (dCall D_are_numbers (lCons (dVar 0) (lNil))))) (sNext)
def D_is_eight_in : FDen := runF false 1 1 b_is_eight_in
theorem c_is_eight_in : cSs 40 (ctOf df_is_eight_in kcs kdc true ["thing"] (defScope (top 20)) []) (defBody (top 20)) = some b_is_eight_in := by rfl
def df_is_whole_in : List (Str × FDen) := [("is_eight_in", D_is_eight_in), ("in_ring", D_in_ring)]
def b_is_whole_in : SDen := sSeq (sRet (dAnd (dCall D_is_eight_in (lCons (dVar 0) (lNil))) (dCall D_in_ring (lCons (dC (.int 1)) (lCons (dVar 0) (lNil)))))) (sNext)
def D_is_whole_in : FDen := runF false 1 1 b_is_whole_in
theorem c_is_whole_in : cSs 40 (ctOf df_is_whole_in kcs kdc true ["thing"] (defScope (top 42)) []) (defBody (top 42)) = some b_is_whole_in := by rfl
def df_tupled (self : FDen) : List (Str × FDen) := [("tupled", self)]
def b_tupled (self : FDen) : SDen := sSeq (sRet (dIf (tVal (dIs ["list", "tuple"] (dVar 0))) (dBlt bTuple (lCons (dLc 0 (iSeq (dVar 0)) (aName 1) (tYesD) (dCall self (lCons (dVar 1) (lNil))) [1]) (lNil))) (dVar 0))) (sNext)
def D_tupled_0 : FDen := fNo
def D_tupled_1 : FDen := runF false 1 2 (b_tupled D_tupled_0)
def D_tupled_2 : FDen := runF false 1 2 (b_tupled D_tupled_1)
def D_tupled_3 : FDen := runF false 1 2 (b_tupled D_tupled_2)
def D_tupled_4 : FDen := runF false 1 2 (b_tupled D_tupled_3)
def D_tupled_5 : FDen := runF false 1 2 (b_tupled D_tupled_4)
def D_tupled : FDen := D_tupled_5
theorem c_tupled (self : FDen) : cSs 40 (ctOf (df_tupled self) kcs kdc true ["value", "own"] (defScope (top 8)) []) (defBody (top 8)) = some (b_tupled self) := by rfl
def df_sure_whole : List (Str × FDen) := [("is_whole_in", D_is_whole_in), ("tupled", D_tupled)]
def b_sure_whole : SDen := sSeq (sAsg (dCall D_tupled (lCons (dVar 0) (lNil))) (gA (aName 1))) (sSeq (sIf (tNot (tVal (dCall D_is_whole_in (lCons (dVar 1) (lNil))))) (sSeq (sNever) (sNext)) (sNext)) (sSeq (sRet (dVar 1)) (sNext)))
def D_sure_whole : FDen := runF false 1 2 b_sure_whole
theorem c_sure_whole : cSs 40 (ctOf df_sure_whole kcs kdc true ["value", "own"] (defScope (top 43)) []) (defBody (top 43)) = some b_sure_whole := by rfl
def df_whole_roots : List (Str × FDen) := [("multiplied", D_multiplied), ("in_ring", D_in_ring), ("roots_in", D_roots_in), ("times_of", D_times_of), ("sure_whole", D_sure_whole)]
def b_whole_roots : SDen := sSeq (sAsg (dCall D_sure_whole (lCons (dVar 0) (lNil))) (gA (aName 1))) (sSeq (sIf (tVal (dCmp .Eq (dSl 0 (dVar 1) (oSome (dC (.int 1))) (oNon)) (dSl 0 (dC k_NONE) (oSome (dC (.int 1))) (oNon)))) (sSeq (sNever) (sNext)) (sNext)) (sSeq (sAsg (dLc 0 (iSeq (dCall D_roots_in (lCons (dCall D_times_of (lCons (dVar 1) (lCons (dC (.int 2)) (lNil)))) (lCons (dC (.int 2)) (lNil))))) (aName 3) (tVal (dCall D_in_ring (lCons (dC (.int 1)) (lCons (dVar 3) (lNil))))) (dVar 3) [3]) (gA (aName 2))) (sSeq (sRet (dLc 0 (iSeq (dVar 2)) (aName 3) (tVal (dCmp .Eq (dCall D_multiplied (lCons (dVar 3) (lCons (dVar 3) (lNil)))) (dVar 1))) (dVar 3) [3])) (sNext))))
def D_whole_roots : FDen := runF false 1 4 b_whole_roots
theorem c_whole_roots : cSs 40 (ctOf df_whole_roots kcs kdc true ["whole", "own", "found", "row"] (defScope (top 67)) []) (defBody (top 67)) = some b_whole_roots := by rfl
def df__law_four : List (Str × FDen) := []
def b__law_four : SDen := sSeq (sAsg (dVar 0) (gUnp 4 (gCons (gA (aName 2)) (gCons (gA (aName 3)) (gCons (gA (aName 4)) (gCons (gA (aName 5)) (gNil))))))) (sSeq (sAsg (dVar 1) (gUnp 4 (gCons (gA (aName 6)) (gCons (gA (aName 7)) (gCons (gA (aName 8)) (gCons (gA (aName 9)) (gNil))))))) (sSeq (sRet (dTup (lCons (dBin 0 .Sub (dBin 0 .Sub (dBin 0 .Sub (dBin 0 .Mult (dVar 2) (dVar 6)) (dBin 0 .Mult (dVar 3) (dVar 7))) (dBin 0 .Mult (dVar 4) (dVar 8))) (dBin 0 .Mult (dVar 5) (dVar 9))) (lCons (dBin 0 .Sub (dBin 0 .Add (dBin 0 .Add (dBin 0 .Mult (dVar 2) (dVar 7)) (dBin 0 .Mult (dVar 3) (dVar 6))) (dBin 0 .Mult (dVar 4) (dVar 9))) (dBin 0 .Mult (dVar 5) (dVar 8))) (lCons (dBin 0 .Sub (dBin 0 .Add (dBin 0 .Add (dBin 0 .Mult (dVar 2) (dVar 8)) (dBin 0 .Mult (dVar 4) (dVar 6))) (dBin 0 .Mult (dVar 5) (dVar 7))) (dBin 0 .Mult (dVar 3) (dVar 9))) (lCons (dBin 0 .Sub (dBin 0 .Add (dBin 0 .Add (dBin 0 .Mult (dVar 2) (dVar 9)) (dBin 0 .Mult (dVar 5) (dVar 6))) (dBin 0 .Mult (dVar 3) (dVar 8))) (dBin 0 .Mult (dVar 4) (dVar 7))) (lNil))))))) (sNext)))
def D__law_four : FDen := runF false 2 10 b__law_four
theorem c__law_four : cSs 40 (ctOf df__law_four kcs kdc true ["one", "two", "a", "b", "c", "d", "p", "q", "r", "s"] (defScope (top 86)) []) (defBody (top 86)) = some b__law_four := by rfl
def df__law_mul : List (Str × FDen) := [("_law_four", D__law_four)]
def b__law_mul : SDen := sSeq (sPar [4, 5] (lCons (dTup (lCons (dIx (dVar 0) (dC (.int 0))) (lCons (dIx (dVar 0) (dC (.int 1))) (lCons (dIx (dVar 0) (dC (.int 2))) (lCons (dIx (dVar 0) (dC (.int 4))) (lNil)))))) (lCons (dTup (lCons (dIx (dVar 0) (dC (.int 3))) (lCons (dIx (dVar 0) (dC (.int 7))) (lCons (dIx (dVar 0) (dC (.int 5))) (lCons (dBin 0 .Sub (dC (.int 0)) (dIx (dVar 0) (dC (.int 6)))) (lNil)))))) (lNil)))) (sSeq (sPar [6, 7] (lCons (dTup (lCons (dIx (dVar 1) (dC (.int 0))) (lCons (dIx (dVar 1) (dC (.int 1))) (lCons (dIx (dVar 1) (dC (.int 2))) (lCons (dIx (dVar 1) (dC (.int 4))) (lNil)))))) (lCons (dTup (lCons (dIx (dVar 1) (dC (.int 3))) (lCons (dIx (dVar 1) (dC (.int 7))) (lCons (dIx (dVar 1) (dC (.int 5))) (lCons (dBin 0 .Sub (dC (.int 0)) (dIx (dVar 1) (dC (.int 6)))) (lNil)))))) (lNil)))) (sSeq (sAsg (dLc 0 (iZi (dCall D__law_four (lCons (dVar 4) (lCons (dVar 6) (lNil)))) (dCall D__law_four (lCons (dTup (lCons (dIx (dVar 7) (dC (.int 0))) (lCons (dBin 0 .Sub (dC (.int 0)) (dIx (dVar 7) (dC (.int 1)))) (lCons (dBin 0 .Sub (dC (.int 0)) (dIx (dVar 7) (dC (.int 2)))) (lCons (dBin 0 .Sub (dC (.int 0)) (dIx (dVar 7) (dC (.int 3)))) (lNil)))))) (lCons (dVar 5) (lNil))))) (aTup 2 (aCons (aName 8) (aCons (aName 9) (aNil)))) (tYesD) (dBin 0 .Sub (dVar 8) (dVar 9)) [8, 9]) (gA (aName 2))) (sSeq (sAsg (dLc 0 (iZi (dCall D__law_four (lCons (dVar 7) (lCons (dVar 4) (lNil)))) (dCall D__law_four (lCons (dVar 5) (lCons (dTup (lCons (dIx (dVar 6) (dC (.int 0))) (lCons (dBin 0 .Sub (dC (.int 0)) (dIx (dVar 6) (dC (.int 1)))) (lCons (dBin 0 .Sub (dC (.int 0)) (dIx (dVar 6) (dC (.int 2)))) (lCons (dBin 0 .Sub (dC (.int 0)) (dIx (dVar 6) (dC (.int 3)))) (lNil)))))) (lNil))))) (aTup 2 (aCons (aName 8) (aCons (aName 9) (aNil)))) (tYesD) (dBin 0 .Add (dVar 8) (dVar 9)) [8, 9]) (gA (aName 3))) (sSeq (sRet (dTup (lCons (dIx (dVar 2) (dC (.int 0))) (lCons (dIx (dVar 2) (dC (.int 1))) (lCons (dIx (dVar 2) (dC (.int 2))) (lCons (dIx (dVar 3) (dC (.int 0))) (lCons (dIx (dVar 2) (dC (.int 3))) (lCons (dIx (dVar 3) (dC (.int 2))) (lCons (dBin 0 .Sub (dC (.int 0)) (dIx (dVar 3) (dC (.int 3)))) (lCons (dIx (dVar 3) (dC (.int 1))) (lNil))))))))))) (sNext)))))
def D__law_mul : FDen := runF false 2 10 b__law_mul
theorem c__law_mul : cSs 40 (ctOf df__law_mul kcs kdc true ["one", "two", "near", "far", "a", "b", "c", "d", "x", "y"] (defScope (top 87)) []) (defBody (top 87)) = some b__law_mul := by rfl
def df__law_wmul : List (Str × FDen) := [("_law_mul", D__law_mul)]
def b__law_wmul : SDen := sSeq (sRet (dBlt bTuple (lCons (dLc 0 (iSeq (dCall D__law_mul (lCons (dVar 0) (lCons (dVar 1) (lNil))))) (aName 2) (tYesD) (dBin 0 .FloorDiv (dVar 2) (dC (.int 2))) [2]) (lNil)))) (sNext)
def D__law_wmul : FDen := runF false 2 3 b__law_wmul
theorem c__law_wmul : cSs 40 (ctOf df__law_wmul kcs kdc true ["one", "two", "own"] (defScope (top 97)) []) (defBody (top 97)) = some b__law_wmul := by rfl
def df__law_same (self : FDen) : List (Str × FDen) := [("_law_same", self)]
def b__law_same (self : FDen) : SDen := sSeq (sIf (tVal (dIs ["list", "tuple"] (dVar 1))) (sSeq (sIf (tOr (tVal (dCmp .NotEq (dIs ["list"] (dVar 0)) (dIs ["list"] (dVar 1)))) (tVal (dCmp .NotEq (dIs ["tuple"] (dVar 0)) (dIs ["tuple"] (dVar 1))))) (sSeq (sRet (dC (.bl false))) (sNext)) (sNext)) (sSeq (sRet (dAnd (dCmp .Eq (dBlt bLen (lCons (dVar 0) (lNil))) (dBlt bLen (lCons (dVar 1) (lNil)))) (dBlt bAll (lCons (dLc 0 (iZi (dVar 0) (dVar 1)) (aTup 2 (aCons (aName 2) (aCons (aName 3) (aNil)))) (tYesD) (dCall self (lCons (dVar 2) (lCons (dVar 3) (lNil)))) [2, 3]) (lNil))))) (sNext))) (sNext)) (sSeq (sIf (tVal (dCmp .Is (dVar 1) (dC .non))) (sSeq (sRet (dCmp .Is (dVar 0) (dC .non))) (sNext)) (sNext)) (sSeq (sIf (tVal (dIs ["bool", "str"] (dVar 1))) (sSeq (sRet (dAnd (dCmp .Eq (dIs ["bool"] (dVar 0)) (dIs ["bool"] (dVar 1))) (dAnd (dCmp .Eq (dIs ["str"] (dVar 0)) (dIs ["str"] (dVar 1))) (dCmp .Eq (dVar 0) (dVar 1))))) (sNext)) (sNext)) (sSeq (sRet (dAnd (dIs ["int"] (dVar 0)) (dAnd (dNot (dIs ["bool"] (dVar 0))) (dCmp .Eq (dVar 0) (dVar 1))))) (sNext))))
def D__law_same_0 : FDen := fNo
def D__law_same_1 : FDen := runF false 2 4 (b__law_same D__law_same_0)
def D__law_same_2 : FDen := runF false 2 4 (b__law_same D__law_same_1)
def D__law_same_3 : FDen := runF false 2 4 (b__law_same D__law_same_2)
def D__law_same_4 : FDen := runF false 2 4 (b__law_same D__law_same_3)
def D__law_same_5 : FDen := runF false 2 4 (b__law_same D__law_same_4)
def D__law_same : FDen := D__law_same_5
theorem c__law_same (self : FDen) : cSs 40 (ctOf (df__law_same self) kcs kdc true ["got", "due", "mine", "its"] (defScope (top 82)) []) (defBody (top 82)) = some (b__law_same self) := by rfl
def df_sure_number : List (Str × FDen) := [("is_number", D_is_number)]
def b_sure_number : SDen := sSeq (sIf (tNot (tVal (dCall D_is_number (lCons (dVar 0) (lNil))))) (sSeq (sNever) (sNext)) (sNext)) (sSeq (sRet (dVar 0)) (sNext))
def D_sure_number : FDen := runF false 1 1 b_sure_number
theorem c_sure_number : cSs 40 (ctOf df_sure_number kcs kdc true ["value"] (defScope (top 23)) []) (defBody (top 23)) = some b_sure_number := by rfl
def df_order_in : List (Str × FDen) := []
def b_order_in : SDen := sSeq (sRet (dDic h_ORDERS (dIx (dVar 0) (dC (.int 0))))) (sNext)
def D_order_in : FDen := runF false 1 1 b_order_in
theorem c_order_in : cSs 40 (ctOf df_order_in kcs kdc true ["unit"] (defScope (top 73)) []) (defBody (top 73)) = some b_order_in := by rfl
def df_sure_unit : List (Str × FDen) := [("square_sum_of", D_square_sum_of), ("sure_whole", D_sure_whole)]
def b_sure_unit : SDen := sSeq (sAsg (dCall D_sure_whole (lCons (dVar 0) (lNil))) (gA (aName 1))) (sSeq (sIf (tVal (dCmp .NotEq (dCall D_square_sum_of (lCons (dVar 1) (lNil))) (dC (.int 4)))) (sSeq (sNever) (sNext)) (sNext)) (sSeq (sRet (dVar 1)) (sNext)))
def D_sure_unit : FDen := runF false 1 2 b_sure_unit
theorem c_sure_unit : cSs 40 (ctOf df_sure_unit kcs kdc true ["value", "own"] (defScope (top 45)) []) (defBody (top 45)) = some b_sure_unit := by rfl
def df_unit_power : List (Str × FDen) := [("sure_number", D_sure_number), ("order_in", D_order_in), ("multiplied", D_multiplied), ("sure_unit", D_sure_unit)]
def b_unit_power : SDen := sSeq (sAsg (dCall D_sure_unit (lCons (dVar 0) (lNil))) (gA (aName 2))) (sSeq (sAsg (dC k_WHOLE_ONE) (gA (aName 3))) (sSeq (sFor (iRg1 (dBin 0 .Mod (dCall D_sure_number (lCons (dVar 1) (lNil))) (dCall D_order_in (lCons (dVar 2) (lNil))))) (aName 4) (sSeq (sAsg (dCall D_multiplied (lCons (dVar 3) (lCons (dVar 2) (lNil)))) (gA (aName 3))) (sNext))) (sSeq (sRet (dVar 3)) (sNext))))
def D_unit_power : FDen := runF false 2 5 b_unit_power
theorem c_unit_power : cSs 40 (ctOf df_unit_power kcs kdc true ["unit", "number", "own", "found", "lap"] (defScope (top 75)) []) (defBody (top 75)) = some b_unit_power := by rfl
def df__law_left : List (Str × FDen) := []
def b__law_left : SDen := sSeq (sRet (dBin 0 .Sub (dVar 0) (dBin 0 .Mult (dBin 0 .FloorDiv (dVar 0) (dVar 1)) (dVar 1)))) (sNext)
def D__law_left : FDen := runF false 2 2 b__law_left
theorem c__law_left : cSs 40 (ctOf df__law_left kcs kdc true ["number_so", "by_so"] (defScope (top 85)) []) (defBody (top 85)) = some b__law_left := by rfl
def df_is_within : List (Str × FDen) := [("is_number", D_is_number)]
def b_is_within : SDen := sSeq (sRet (dAnd (dCall D_is_number (lCons (dVar 0) (lNil))) (dChain .LtE .LtE (dVar 1) (dVar 0) (dVar 2)))) (sNext)
def D_is_within : FDen := runF false 3 3 b_is_within
theorem c_is_within : cSs 40 (ctOf df_is_within kcs kdc true ["thing", "least", "most"] (defScope (top 6)) []) (defBody (top 6)) = some b_is_within := by rfl
def df_sure_power : List (Str × FDen) := [("is_within", D_is_within)]
def b_sure_power : SDen := sSeq (sIf (tNot (tVal (dCall D_is_within (lCons (dVar 0) (lCons (dC (.int 0)) (lCons (dC k_MOST) (lNil))))))) (sSeq (sNever) (sNext)) (sNext)) (sSeq (sRet (dVar 0)) (sNext))
def D_sure_power : FDen := runF false 1 1 b_sure_power
theorem c_sure_power : cSs 40 (ctOf df_sure_power kcs kdc true ["value"] (defScope (top 60)) []) (defBody (top 60)) = some b_sure_power := by rfl
def df_whole_power : List (Str × FDen) := [("sum_of", D_sum_of), ("times_of", D_times_of), ("pair_in", D_pair_in), ("sure_power", D_sure_power), ("square_sum_of", D_square_sum_of), ("sure_whole", D_sure_whole)]
def b_whole_power : SDen := sSeq (sAsg (dCall D_sure_whole (lCons (dVar 0) (lNil))) (gA (aName 2))) (sSeq (sAsg (dCall D_pair_in (lCons (dTup (lCons (dIx (dVar 2) (dC (.int 0))) (lCons (dBin 0 .FloorDiv (dCall D_square_sum_of (lCons (dVar 2) (lNil))) (dC (.int 4))) (lNil)))) (lCons (dCall D_sure_power (lCons (dVar 1) (lNil))) (lNil)))) (gUnp 2 (gCons (gA (aName 3)) (gCons (gA (aName 4)) (gNil))))) (sSeq (sRet (dCall D_sum_of (lCons (dCall D_times_of (lCons (dVar 2) (lCons (dVar 3) (lNil)))) (lCons (dCall D_times_of (lCons (dC k_WHOLE_ONE) (lCons (dVar 4) (lNil)))) (lNil))))) (sNext)))
def D_whole_power : FDen := runF false 2 5 b_whole_power
theorem c_whole_power : cSs 40 (ctOf df_whole_power kcs kdc true ["whole", "many", "own", "first", "plain"] (defScope (top 64)) []) (defBody (top 64)) = some b_whole_power := by rfl
def df__law_lists (self : FDen) : List (Str × FDen) := [("_law_lists", self)]
def b__law_lists (self : FDen) : SDen := sSeq (sRet (dIf (tVal (dIs ["list", "tuple"] (dVar 0))) (dLc 0 (iSeq (dVar 0)) (aName 1) (tYesD) (dCall self (lCons (dVar 1) (lNil))) [1]) (dVar 0))) (sNext)
def D__law_lists_0 : FDen := fNo
def D__law_lists_1 : FDen := runF false 1 2 (b__law_lists D__law_lists_0)
def D__law_lists_2 : FDen := runF false 1 2 (b__law_lists D__law_lists_1)
def D__law_lists_3 : FDen := runF false 1 2 (b__law_lists D__law_lists_2)
def D__law_lists_4 : FDen := runF false 1 2 (b__law_lists D__law_lists_3)
def D__law_lists_5 : FDen := runF false 1 2 (b__law_lists D__law_lists_4)
def D__law_lists : FDen := D__law_lists_5
theorem c__law_lists (self : FDen) : cSs 40 (ctOf (df__law_lists self) kcs kdc true ["matter", "bit"] (defScope (top 81)) []) (defBody (top 81)) = some (b__law_lists self) := by rfl
def df_order_of : List (Str × FDen) := [("order_in", D_order_in), ("sure_unit", D_sure_unit)]
def b_order_of : SDen := sSeq (sRet (dCall D_order_in (lCons (dCall D_sure_unit (lCons (dVar 0) (lNil))) (lNil)))) (sNext)
def D_order_of : FDen := runF false 1 1 b_order_of
theorem c_order_of : cSs 40 (ctOf df_order_of kcs kdc true ["unit"] (defScope (top 74)) []) (defBody (top 74)) = some b_order_of := by rfl
def df__law_take : List (Str × FDen) := []
def b__law_take : SDen := sSeq (sIf (tVal (dCmp .Gt (dIx (dVar 0) (dC (.int 0))) (dC (.int 0)))) (sSeq (sAsg (dBin 0 .Mod (dBlt bInt (lCons (dIx (dVar 0) (dC (.int 0))) (lNil))) (dVar 1)) (gA (aName 5))) (sSeq (sAsg (dBin 0 .FloorDiv (dIx (dVar 0) (dC (.int 0))) (dVar 1)) (gSub (dVar 0) (dC (.int 0)))) (sSeq (sRet (dVar 5)) (sNext)))) (sNext)) (sSeq (sAsg (dBin 0 .Add (dIx (dVar 0) (dC (.int 2))) (dC (.int 1))) (gSub (dVar 0) (dC (.int 2)))) (sSeq (sAsg (dBin 0 .Mod (dBlt bInt (lCons (dBin 0 .Mult (dBin 0 .Add (dIx (dVar 0) (dC (.int 1))) (dBin 0 .Mult (dC (.int 48271)) (dIx (dVar 0) (dC (.int 2))))) (dBin 0 .Add (dC (.int 39373)) (dIx (dVar 0) (dC (.int 2))))) (lNil))) (dC (.int 2147483647))) (gA (aName 2))) (sSeq (sAsg (dBin 0 .Add (dBin 0 .Mod (dBlt bInt (lCons (dVar 2) (lNil))) (dC (.int 40009))) (dC (.int 7))) (gA (aName 3))) (sSeq (sAsg (dBin 0 .Mod (dBlt bInt (lCons (dBin 0 .Mult (dBin 0 .Add (dBin 0 .Add (dVar 2) (dIx (dVar 0) (dC (.int 2)))) (dBin 0 .FloorDiv (dIx (dVar 0) (dC (.int 1))) (dC (.int 1000003)))) (dVar 3)) (lNil))) (dC (.int 2147483629))) (gA (aName 4))) (sSeq (sRet (dBin 0 .Mod (dBlt bInt (lCons (dBin 0 .FloorDiv (dBin 0 .Mod (dBlt bInt (lCons (dBin 0 .Add (dBin 0 .Mult (dVar 4) (dC (.int 48271))) (dVar 2)) (lNil))) (dC (.int 2147483587))) (dC (.int 64))) (lNil))) (dVar 1))) (sNext))))))
def D__law_take : FDen := runF false 2 6 b__law_take
theorem c__law_take : cSs 40 (ctOf df__law_take kcs kdc true ["tin", "below_so", "once_so", "wide_so", "twice_so", "drawn_so"] (defScope (top 78)) [("tin", 1)]) (defBody (top 78)) = some b__law_take := by rfl
def df__law_mate : List (Str × FDen) := []
def b__law_mate : SDen := sSeq (sRet (dBin 0 .Add (dTup (lCons (dIx (dVar 0) (dC (.int 0))) (lNil))) (dBlt bTuple (lCons (dLc 0 (iSeq (dSl 0 (dVar 0) (oSome (dC (.int 1))) (oNon))) (aName 1) (tYesD) (dBin 0 .Sub (dC (.int 0)) (dVar 1)) [1]) (lNil))))) (sNext)
def D__law_mate : FDen := runF false 1 2 b__law_mate
theorem c__law_mate : cSs 40 (ctOf df__law_mate kcs kdc true ["one", "own"] (defScope (top 88)) []) (defBody (top 88)) = some b__law_mate := by rfl
def df_trace : List (Str × FDen) := [("sure_whole", D_sure_whole)]
def b_trace : SDen := sSeq (sRet (dIx (dCall D_sure_whole (lCons (dVar 0) (lNil))) (dC (.int 0)))) (sNext)
def D_trace : FDen := runF false 1 1 b_trace
theorem c_trace : cSs 40 (ctOf df_trace kcs kdc true ["whole"] (defScope (top 51)) []) (defBody (top 51)) = some b_trace := by rfl
def df__law_of : List (Str × FDen) := [("_law_take", D__law_take)]
def b__law_of : SDen := sSeq (sRet (dIx (dVar 1) (dCall D__law_take (lCons (dVar 0) (lCons (dBlt bLen (lCons (dVar 1) (lNil))) (lNil)))))) (sNext)
def D__law_of : FDen := runF false 2 2 b__law_of
theorem c__law_of : cSs 40 (ctOf df__law_of kcs kdc true ["tin", "goods_so"] (defScope (top 80)) []) (defBody (top 80)) = some b__law_of := by rfl
def df__law_code : List (Str × FDen) := []
def b__law_code : SDen := sSeq (sRet (dTup (lCons (dTup (lCons (dC (.int 0)) (lCons (dC (.int 1)) (lCons (dC (.int 2)) (lCons (dC (.int 4)) (lNil)))))) (lCons (dTup (lCons (dC (.int 0)) (lCons (dC (.int 1)) (lCons (dC (.int 3)) (lCons (dC (.int 7)) (lNil)))))) (lCons (dTup (lCons (dC (.int 0)) (lCons (dC (.int 1)) (lCons (dC (.int 5)) (lCons (dC (.int 6)) (lNil)))))) (lCons (dTup (lCons (dC (.int 0)) (lCons (dC (.int 2)) (lCons (dC (.int 3)) (lCons (dC (.int 6)) (lNil)))))) (lCons (dTup (lCons (dC (.int 0)) (lCons (dC (.int 2)) (lCons (dC (.int 5)) (lCons (dC (.int 7)) (lNil)))))) (lCons (dTup (lCons (dC (.int 0)) (lCons (dC (.int 3)) (lCons (dC (.int 4)) (lCons (dC (.int 5)) (lNil)))))) (lCons (dTup (lCons (dC (.int 0)) (lCons (dC (.int 4)) (lCons (dC (.int 6)) (lCons (dC (.int 7)) (lNil)))))) (lCons (dTup (lCons (dC (.int 1)) (lCons (dC (.int 2)) (lCons (dC (.int 3)) (lCons (dC (.int 5)) (lNil)))))) (lCons (dTup (lCons (dC (.int 1)) (lCons (dC (.int 2)) (lCons (dC (.int 6)) (lCons (dC (.int 7)) (lNil)))))) (lCons (dTup (lCons (dC (.int 1)) (lCons (dC (.int 3)) (lCons (dC (.int 4)) (lCons (dC (.int 6)) (lNil)))))) (lCons (dTup (lCons (dC (.int 1)) (lCons (dC (.int 4)) (lCons (dC (.int 5)) (lCons (dC (.int 7)) (lNil)))))) (lCons (dTup (lCons (dC (.int 2)) (lCons (dC (.int 3)) (lCons (dC (.int 4)) (lCons (dC (.int 7)) (lNil)))))) (lCons (dTup (lCons (dC (.int 2)) (lCons (dC (.int 4)) (lCons (dC (.int 5)) (lCons (dC (.int 6)) (lNil)))))) (lCons (dTup (lCons (dC (.int 3)) (lCons (dC (.int 5)) (lCons (dC (.int 6)) (lCons (dC (.int 7)) (lNil)))))) (lNil))))))))))))))))) (sNext)
def D__law_code : FDen := runF false 0 0 b__law_code
theorem c__law_code : cSs 40 (ctOf df__law_code kcs kdc true [] (defScope (top 96)) []) (defBody (top 96)) = some b__law_code := by rfl
def df__law_signed : List (Str × FDen) := []
def b__law_signed : SDen := sSeq (sAsg (dLst 0 (lCons (dTup (lNil)) (lNil))) (gA (aName 1))) (sSeq (sFor (iRg1 (dC (.int 8))) (aName 2) (sSeq (sAsg (dLst 1 (lNil)) (gA (aName 3))) (sSeq (sFor (iSeq (dVar 1)) (aName 4) (sSeq (sDrop (dExt (dVar 3) (dLc 0 (iSeq (dIf (tVal (dCmp .In (dVar 2) (dVar 0))) (dTup (lCons (dNeg (dC (.int 1))) (lCons (dC (.int 1)) (lNil)))) (dTup (lCons (dC (.int 0)) (lNil))))) (aName 5) (tYesD) (dBin 0 .Add (dVar 4) (dTup (lCons (dVar 5) (lNil)))) [5]))) (sNext))) (sSeq (sAsg (dVar 3) (gA (aName 1))) (sNext))))) (sSeq (sRet (dVar 1)) (sNext)))
def D__law_signed : FDen := runF false 1 6 b__law_signed
theorem c__law_signed : cSs 40 (ctOf df__law_signed kcs kdc true ["places_so", "found", "k", "later_so", "own", "bit_so"] (defScope (top 98)) [("later_so", 1)]) (defBody (top 98)) = some b__law_signed := by rfl
def df__law_letter : List (Str × FDen) := []
def b__law_letter : SDen := sSeq (sRet (dBlt bTuple (lCons (dLc 0 (iRg1 (dC (.int 8))) (aName 1) (tYesD) (dBlt bInt (lCons (dCmp .Eq (dVar 1) (dVar 0)) (lNil))) [1]) (lNil)))) (sNext)
def D__law_letter : FDen := runF false 1 2 b__law_letter
theorem c__law_letter : cSs 40 (ctOf df__law_letter kcs kdc true ["place_so", "own"] (defScope (top 92)) []) (defBody (top 92)) = some b__law_letter := by rfl
def df__law_units : List (Str × FDen) := [("_law_code", D__law_code), ("_law_signed", D__law_signed), ("_law_by", D__law_by), ("_law_letter", D__law_letter)]
def b__law_units : SDen := sSeq (sAsg (dLst 1 (lNil)) (gA (aName 0))) (sSeq (sFor (iRg1 (dC (.int 8))) (aName 1) (sSeq (sDrop (dExt (dVar 0) (dLst 0 (lCons (dCall D__law_by (lCons (dCall D__law_letter (lCons (dVar 1) (lNil))) (lCons (dNeg (dC (.int 2))) (lNil)))) (lCons (dCall D__law_by (lCons (dCall D__law_letter (lCons (dVar 1) (lNil))) (lCons (dC (.int 2)) (lNil)))) (lNil)))))) (sNext))) (sSeq (sFor (iSeq (dCall D__law_code (lNil))) (aName 2) (sSeq (sDrop (dExt (dVar 0) (dCall D__law_signed (lCons (dVar 2) (lNil))))) (sNext))) (sSeq (sRet (dBlt (bSorted 0) (lCons (dVar 0) (lNil)))) (sNext))))
def D__law_units : FDen := runF false 0 3 b__law_units
theorem c__law_units : cSs 40 (ctOf df__law_units kcs kdc true ["found", "k", "own"] (defScope (top 99)) [("found", 1)]) (defBody (top 99)) = some b__law_units := by rfl
def df__law_unit : List (Str × FDen) := [("_law_of", D__law_of), ("_law_units", D__law_units)]
def b__law_unit : SDen := sSeq (sRet (dCall D__law_of (lCons (dVar 0) (lCons (dCall D__law_units (lNil)) (lNil))))) (sNext)
def D__law_unit : FDen := runF false 1 1 b__law_unit
theorem c__law_unit : cSs 40 (ctOf df__law_unit kcs kdc true ["tin"] (defScope (top 100)) []) (defBody (top 100)) = some b__law_unit := by rfl
def df__law_units_right : List (Str × FDen) := [("_law_by", D__law_by), ("whole_roots", D_whole_roots), ("_law_wmul", D__law_wmul), ("_law_same", D__law_same), ("unit_power", D_unit_power), ("_law_left", D__law_left), ("whole_power", D_whole_power), ("_law_lists", D__law_lists), ("order_of", D_order_of), ("_law_take", D__law_take), ("_law_mate", D__law_mate), ("trace", D_trace), ("_law_unit", D__law_unit)]
def b__law_units_right : SDen := sSeq (sAsg (dCall D__law_unit (lCons (dVar 0) (lNil))) (gA (aName 1))) (sSeq (sPar [5, 6] (lCons (dLst 1 (lCons (dC (.int 2)) (lCons (dIx (dVar 1) (dC (.int 0))) (lNil)))) (lCons (dIx (dVar 1) (dC (.int 0))) (lNil)))) (sSeq (sFor (iRg1 (dC (.int 12))) (aName 2) (sSeq (sDrop (dApp (dVar 5) (dBin 0 .Sub (dBin 0 .Mult (dVar 6) (dIx (dVar 5) (dNeg (dC (.int 1))))) (dIx (dVar 5) (dNeg (dC (.int 2))))))) (sNext))) (sSeq (sAsg (dTup (lCons (dTup (lCons (dC (.int 2)) (lCons (dC (.int 0)) (lCons (dC (.int 0)) (lCons (dC (.int 0)) (lCons (dC (.int 0)) (lCons (dC (.int 0)) (lCons (dC (.int 0)) (lCons (dC (.int 0)) (lNil)))))))))) (lCons (dC (.int 0)) (lNil)))) (gUnp 2 (gCons (gA (aName 7)) (gCons (gA (aName 8)) (gNil))))) (sSeq (sFor (iRg1 (dC (.int 13))) (aName 3) (sSeq (sIf (tNot (tVal (dCall D__law_same (lCons (dLst 0 (lCons (dCall D_whole_power (lCons (dVar 1) (lCons (dVar 3) (lNil)))) (lCons (dCall D_unit_power (lCons (dVar 1) (lCons (dVar 3) (lNil)))) (lCons (dCall D_trace (lCons (dVar 7) (lNil))) (lCons (dCall D_unit_power (lCons (dVar 1) (lCons (dBin 0 .Sub (dC (.int 0)) (dVar 3)) (lNil)))) (lNil)))))) (lCons (dLst 0 (lCons (dVar 7) (lCons (dVar 7) (lCons (dIx (dVar 5) (dVar 3)) (lCons (dCall D__law_mate (lCons (dVar 7) (lNil))) (lNil)))))) (lNil)))))) (sSeq (sRet (dC (.bl false))) (sNext)) (sNext)) (sSeq (sAsg (dCall D__law_wmul (lCons (dVar 7) (lCons (dVar 1) (lNil)))) (gA (aName 7))) (sSeq (sIf (tAnd (tVal (dCmp .Eq (dVar 7) (dTup (lCons (dC (.int 2)) (lCons (dC (.int 0)) (lCons (dC (.int 0)) (lCons (dC (.int 0)) (lCons (dC (.int 0)) (lCons (dC (.int 0)) (lCons (dC (.int 0)) (lCons (dC (.int 0)) (lNil)))))))))))) (tVal (dCmp .Eq (dVar 8) (dC (.int 0))))) (sSeq (sAsg (dBin 0 .Add (dVar 3) (dC (.int 1))) (gA (aName 8))) (sNext)) (sNext)) (sNext))))) (sSeq (sAsg (dCall D__law_take (lCons (dVar 0) (lCons (dC (.int 200)) (lNil)))) (gA (aName 3))) (sSeq (sIf (tNot (tVal (dCall D__law_same (lCons (dLst 0 (lCons (dCall D_order_of (lCons (dVar 1) (lNil))) (lCons (dCall D_unit_power (lCons (dVar 1) (lCons (dVar 3) (lNil)))) (lCons (dCall D_whole_power (lCons (dCall D__law_lists (lCons (dVar 1) (lNil))) (lCons (dVar 3) (lNil)))) (lNil))))) (lCons (dBin 0 .Add (dLst 0 (lCons (dVar 8) (lNil))) (dBin 0 .Mult (dLst 0 (lCons (dCall D_unit_power (lCons (dVar 1) (lCons (dCall D__law_left (lCons (dVar 3) (lCons (dVar 8) (lNil)))) (lNil)))) (lNil))) (dC (.int 2)))) (lNil)))))) (sSeq (sRet (dC (.bl false))) (sNext)) (sNext)) (sSeq (sAsg (dCall D__law_wmul (lCons (dVar 1) (lCons (dVar 1) (lNil)))) (gA (aName 4))) (sSeq (sIf (tVal (dCmp .NotEq (dLc 0 (iSeq (dSl 0 (dVar 4) (oSome (dC (.int 1))) (oNon))) (aName 10) (tVal (dCmp .NotEq (dVar 10) (dC (.int 0)))) (dVar 10) [10]) (dLst 0 (lNil)))) (sSeq (sAsg (dCall D_whole_roots (lCons (dVar 4) (lNil))) (gA (aName 9))) (sSeq (sIf (tVal (dCmp .NotEq (dVar 9) (dBlt (bSorted 0) (lCons (dLst 0 (lCons (dVar 1) (lCons (dCall D__law_by (lCons (dVar 1) (lCons (dNeg (dC (.int 1))) (lNil)))) (lNil)))) (lNil))))) (sSeq (sRet (dC (.bl false))) (sNext)) (sNext)) (sNext))) (sNext)) (sSeq (sRet (dC (.bl true))) (sNext))))))))))
def D__law_units_right : FDen := runF false 1 11 b__law_units_right
theorem c__law_units_right : cSs 40 (ctOf df__law_units_right kcs kdc true ["tin", "unit_so", "lap", "k", "square_so", "traces_so", "t", "here", "order_so", "roots_so", "own"] (defScope (top 102)) [("traces_so", 1)]) (defBody (top 102)) = some b__law_units_right := by rfl
def df_sure_eight : List (Str × FDen) := [("is_eight_in", D_is_eight_in), ("tupled", D_tupled)]
def b_sure_eight : SDen := sSeq (sAsg (dCall D_tupled (lCons (dVar 0) (lNil))) (gA (aName 1))) (sSeq (sIf (tNot (tVal (dCall D_is_eight_in (lCons (dVar 1) (lNil))))) (sSeq (sNever) (sNext)) (sNext)) (sSeq (sRet (dVar 1)) (sNext)))
def D_sure_eight : FDen := runF false 1 2 b_sure_eight
theorem c_sure_eight : cSs 40 (ctOf df_sure_eight kcs kdc true ["value", "own"] (defScope (top 21)) []) (defBody (top 21)) = some b_sure_eight := by rfl
def df_size : List (Str × FDen) := [("square_sum_of", D_square_sum_of), ("sure_eight", D_sure_eight)]
def b_size : SDen := sSeq (sRet (dCall D_square_sum_of (lCons (dCall D_sure_eight (lCons (dVar 0) (lNil))) (lNil)))) (sNext)
def D_size : FDen := runF false 1 1 b_size
theorem c_size : cSs 40 (ctOf df_size kcs kdc true ["eight"] (defScope (top 32)) []) (defBody (top 32)) = some b_size := by rfl
def df_sure_two : List (Str × FDen) := [("sure_eight", D_sure_eight)]
def b_sure_two : SDen := sSeq (sRet (dTup (lCons (dCall D_sure_eight (lCons (dVar 0) (lNil))) (lCons (dCall D_sure_eight (lCons (dVar 1) (lNil))) (lNil))))) (sNext)
def D_sure_two : FDen := runF false 2 2 b_sure_two
theorem c_sure_two : cSs 40 (ctOf df_sure_two kcs kdc true ["one", "other"] (defScope (top 22)) []) (defBody (top 22)) = some b_sure_two := by rfl
def df_product : List (Str × FDen) := [("product_of", D_product_of), ("sure_two", D_sure_two)]
def b_product : SDen := sSeq (sAsg (dCall D_sure_two (lCons (dVar 0) (lCons (dVar 1) (lNil)))) (gUnp 2 (gCons (gA (aName 2)) (gCons (gA (aName 3)) (gNil))))) (sSeq (sRet (dCall D_product_of (lCons (dVar 2) (lCons (dVar 3) (lNil))))) (sNext))
def D_product : FDen := runF false 2 4 b_product
theorem c_product : cSs 40 (ctOf df_product kcs kdc true ["one", "other", "near", "far"] (defScope (top 31)) []) (defBody (top 31)) = some b_product := by rfl
def df_mate_of : List (Str × FDen) := []
def b_mate_of : SDen := sSeq (sRet (dBin 0 .Add (dTup (lCons (dIx (dVar 0) (dC (.int 0))) (lNil))) (dBlt bTuple (lCons (dLc 0 (iSeq (dSl 0 (dVar 0) (oSome (dC (.int 1))) (oNon))) (aName 1) (tYesD) (dNeg (dVar 1)) [1]) (lNil))))) (sNext)
def D_mate_of : FDen := runF false 1 2 b_mate_of
theorem c_mate_of : cSs 40 (ctOf df_mate_of kcs kdc true ["eight", "own"] (defScope (top 25)) []) (defBody (top 25)) = some b_mate_of := by rfl
def df_whole_mate : List (Str × FDen) := [("mate_of", D_mate_of), ("sure_whole", D_sure_whole)]
def b_whole_mate : SDen := sSeq (sRet (dCall D_mate_of (lCons (dCall D_sure_whole (lCons (dVar 0) (lNil))) (lNil)))) (sNext)
def D_whole_mate : FDen := runF false 1 1 b_whole_mate
theorem c_whole_mate : cSs 40 (ctOf df_whole_mate kcs kdc true ["whole"] (defScope (top 49)) []) (defBody (top 49)) = some b_whole_mate := by rfl
def df_size_of : List (Str × FDen) := [("square_sum_of", D_square_sum_of)]
def b_size_of : SDen := sSeq (sRet (dBin 0 .FloorDiv (dCall D_square_sum_of (lCons (dVar 0) (lNil))) (dC (.int 4)))) (sNext)
def D_size_of : FDen := runF false 1 1 b_size_of
theorem c_size_of : cSs 40 (ctOf df_size_of kcs kdc true ["whole"] (defScope (top 47)) []) (defBody (top 47)) = some b_size_of := by rfl
def df_whole_size : List (Str × FDen) := [("size_of", D_size_of), ("sure_whole", D_sure_whole)]
def b_whole_size : SDen := sSeq (sRet (dCall D_size_of (lCons (dCall D_sure_whole (lCons (dVar 0) (lNil))) (lNil)))) (sNext)
def D_whole_size : FDen := runF false 1 1 b_whole_size
theorem c_whole_size : cSs 40 (ctOf df_whole_size kcs kdc true ["whole"] (defScope (top 50)) []) (defBody (top 50)) = some b_whole_size := by rfl
def df_sure_wholes : List (Str × FDen) := [("sure_whole", D_sure_whole)]
def b_sure_wholes : SDen := sSeq (sRet (dTup (lCons (dCall D_sure_whole (lCons (dVar 0) (lNil))) (lCons (dCall D_sure_whole (lCons (dVar 1) (lNil))) (lNil))))) (sNext)
def D_sure_wholes : FDen := runF false 2 2 b_sure_wholes
theorem c_sure_wholes : cSs 40 (ctOf df_sure_wholes kcs kdc true ["one", "other"] (defScope (top 44)) []) (defBody (top 44)) = some b_sure_wholes := by rfl
def df_whole_product : List (Str × FDen) := [("multiplied", D_multiplied), ("sure_wholes", D_sure_wholes)]
def b_whole_product : SDen := sSeq (sAsg (dCall D_sure_wholes (lCons (dVar 0) (lCons (dVar 1) (lNil)))) (gUnp 2 (gCons (gA (aName 2)) (gCons (gA (aName 3)) (gNil))))) (sSeq (sRet (dCall D_multiplied (lCons (dVar 2) (lCons (dVar 3) (lNil))))) (sNext))
def D_whole_product : FDen := runF false 2 4 b_whole_product
theorem c_whole_product : cSs 40 (ctOf df_whole_product kcs kdc true ["one", "other", "near", "far"] (defScope (top 48)) []) (defBody (top 48)) = some b_whole_product := by rfl
def df_of_eight : List (Str × FDen) := [("times_of", D_times_of), ("sure_eight", D_sure_eight)]
def b_of_eight : SDen := sSeq (sRet (dCall D_times_of (lCons (dCall D_sure_eight (lCons (dVar 0) (lNil))) (lCons (dC (.int 2)) (lNil))))) (sNext)
def D_of_eight : FDen := runF false 1 1 b_of_eight
theorem c_of_eight : cSs 40 (ctOf df_of_eight kcs kdc true ["eight"] (defScope (top 52)) []) (defBody (top 52)) = some b_of_eight := by rfl
def df__law_whole_number : List (Str × FDen) := [("_law_take", D__law_take)]
def b__law_whole_number : SDen := sSeq (sRet (dBin 0 .Sub (dCall D__law_take (lCons (dVar 0) (lCons (dBin 0 .Add (dBin 0 .Mult (dC (.int 2)) (dVar 1)) (dC (.int 1))) (lNil)))) (dVar 1))) (sNext)
def D__law_whole_number : FDen := runF false 2 2 b__law_whole_number
theorem c__law_whole_number : cSs 40 (ctOf df__law_whole_number kcs kdc true ["tin", "top_so"] (defScope (top 93)) []) (defBody (top 93)) = some b__law_whole_number := by rfl
def df__law_eight : List (Str × FDen) := [("_law_whole_number", D__law_whole_number), ("_law_take", D__law_take)]
def b__law_eight : SDen := sSeq (sIf (tVal (dCmp .Gt (dCall D__law_take (lCons (dVar 0) (lCons (dC (.int 3)) (lNil)))) (dC (.int 0)))) (sSeq (sRet (dBlt bTuple (lCons (dLc 0 (iRg1 (dC (.int 8))) (aName 2) (tYesD) (dCall D__law_whole_number (lCons (dVar 0) (lCons (dVar 1) (lNil)))) [2]) (lNil)))) (sNext)) (sNext)) (sSeq (sRet (dBlt bTuple (lCons (dLc 0 (iRg1 (dC (.int 8))) (aName 2) (tYesD) (dBin 0 .Mult (dCall D__law_whole_number (lCons (dVar 0) (lCons (dVar 1) (lNil)))) (dBlt bInt (lCons (dCmp .Eq (dCall D__law_take (lCons (dVar 0) (lCons (dC (.int 3)) (lNil)))) (dC (.int 0))) (lNil)))) [2]) (lNil)))) (sNext))
def D__law_eight : FDen := runF false 2 3 b__law_eight
theorem c__law_eight : cSs 40 (ctOf df__law_eight kcs kdc true ["tin", "top_so", "k"] (defScope (top 94)) []) (defBody (top 94)) = some b__law_eight := by rfl
def df_power : List (Str × FDen) := [("power_in", D_power_in), ("sure_power", D_sure_power), ("sure_eight", D_sure_eight)]
def b_power : SDen := sSeq (sAsg (dCall D_sure_eight (lCons (dVar 0) (lNil))) (gA (aName 2))) (sSeq (sRet (dCall D_power_in (lCons (dVar 2) (lCons (dCall D_sure_power (lCons (dVar 1) (lNil))) (lNil))))) (sNext))
def D_power : FDen := runF false 2 3 b_power
theorem c_power : cSs 40 (ctOf df_power kcs kdc true ["eight", "many", "own"] (defScope (top 62)) []) (defBody (top 62)) = some b_power := by rfl
def df__law_is_int : List (Str × FDen) := []
def b__law_is_int : SDen := sSeq (sRet (dAnd (dIs ["int"] (dVar 0)) (dNot (dIs ["bool"] (dVar 0))))) (sNext)
def D__law_is_int : FDen := runF false 1 1 b__law_is_int
theorem c__law_is_int : cSs 40 (ctOf df__law_is_int kcs kdc true ["k"] (defScope (top 84)) []) (defBody (top 84)) = some b__law_is_int := by rfl
def df_told_in : List (Str × FDen) := [("sum_of", D_sum_of), ("times_of", D_times_of), ("square_sum_of", D_square_sum_of)]
def b_told_in : SDen := sSeq (sPar [3, 4, 5] (lCons (dTup (lCons (dBin 0 .Mult (dC (.int 2)) (dIx (dVar 0) (dC (.int 0)))) (lCons (dCall D_square_sum_of (lCons (dVar 0) (lNil))) (lNil)))) (lCons (dTup (lCons (dC (.int 1)) (lCons (dC (.int 0)) (lNil)))) (lCons (dTup (lCons (dBin 0 .Mult (dC (.int 2)) (dIx (dVar 0) (dC (.int 0)))) (lCons (dNeg (dCall D_square_sum_of (lCons (dVar 0) (lNil)))) (lNil)))) (lNil))))) (sSeq (sFor (iRg2 (dC (.int 1)) (dBin 0 .Add (dC k_MOST) (dC (.int 1)))) (aName 2) (sSeq (sIf (tVal (dCmp .Eq (dCall D_sum_of (lCons (dCall D_times_of (lCons (dVar 0) (lCons (dIx (dVar 4) (dC (.int 0))) (lNil)))) (lCons (dCall D_times_of (lCons (dC k_ONE) (lCons (dIx (dVar 4) (dC (.int 1))) (lNil)))) (lNil)))) (dVar 1))) (sSeq (sRet (dVar 2)) (sNext)) (sNext)) (sSeq (sPar [4, 5] (lCons (dVar 5) (lCons (dTup (lCons (dBin 0 .Sub (dBin 0 .Mult (dIx (dVar 3) (dC (.int 0))) (dIx (dVar 5) (dC (.int 0)))) (dBin 0 .Mult (dIx (dVar 3) (dC (.int 1))) (dIx (dVar 4) (dC (.int 0))))) (lCons (dBin 0 .Sub (dBin 0 .Mult (dIx (dVar 3) (dC (.int 0))) (dIx (dVar 5) (dC (.int 1)))) (dBin 0 .Mult (dIx (dVar 3) (dC (.int 1))) (dIx (dVar 4) (dC (.int 1))))) (lNil)))) (lNil)))) (sNext)))) (sSeq (sRet (dC .non)) (sNext)))
def D_told_in : FDen := runF false 2 6 b_told_in
theorem c_told_in : cSs 40 (ctOf df_told_in kcs kdc true ["eight", "goal", "many", "rule", "now", "later"] (defScope (top 69)) []) (defBody (top 69)) = some b_told_in := by rfl
def df_is_power_of : List (Str × FDen) := [("told_in", D_told_in), ("sure_eight", D_sure_eight)]
def b_is_power_of : SDen := sSeq (sAsg (dCall D_sure_eight (lCons (dVar 0) (lNil))) (gA (aName 2))) (sSeq (sRet (dCmp .IsNot (dCall D_told_in (lCons (dVar 2) (lCons (dCall D_sure_eight (lCons (dVar 1) (lNil))) (lNil)))) (dC .non))) (sNext))
def D_is_power_of : FDen := runF false 2 3 b_is_power_of
theorem c_is_power_of : cSs 40 (ctOf df_is_power_of kcs kdc true ["eight", "goal", "own"] (defScope (top 68)) []) (defBody (top 68)) = some b_is_power_of := by rfl
def df__law_unmarked : List (Str × FDen) := []
def b__law_unmarked : SDen := sSeq (sRet (dIf (tAnd (tVal (dIs ["list"] (dVar 0))) (tAnd (tVal (dCmp .Gt (dBlt bLen (lCons (dVar 0) (lNil))) (dC (.int 0)))) (tVal (dIs ["str"] (dIx (dVar 0) (dC (.int 0))))))) (dLst 0 (lCons (dC (.str "told")) (lCons (dC (.str "a mark")) (lNil)))) (dVar 0))) (sNext)
def D__law_unmarked : FDen := runF false 1 1 b__law_unmarked
theorem c__law_unmarked : cSs 40 (ctOf df__law_unmarked kcs kdc true ["told_so"] (defScope (top 83)) []) (defBody (top 83)) = some b__law_unmarked := by rfl
def df_power_told : List (Str × FDen) := [("told_in", D_told_in), ("sure_eight", D_sure_eight)]
def b_power_told : SDen := sSeq (sAsg (dCall D_sure_eight (lCons (dVar 0) (lNil))) (gA (aName 2))) (sSeq (sAsg (dCall D_told_in (lCons (dVar 2) (lCons (dCall D_sure_eight (lCons (dVar 1) (lNil))) (lNil)))) (gA (aName 3))) (sSeq (sIf (tVal (dCmp .Is (dVar 3) (dC .non))) (sSeq (sNever) (sNext)) (sNext)) (sSeq (sRet (dVar 3)) (sNext))))
def D_power_told : FDen := runF false 2 4 b_power_told
theorem c_power_told : cSs 40 (ctOf df_power_told kcs kdc true ["eight", "goal", "own", "found"] (defScope (top 70)) []) (defBody (top 70)) = some b_power_told := by rfl
def df__law_heard : List (Str × FDen) := [("_law_unmarked", D__law_unmarked), ("power_told", D_power_told)]
def b__law_heard : SDen := sSeq (sAsg (dTup (lCons (dC .non) (lCons (dC .non) (lNil)))) (gUnp 2 (gCons (gA (aName 3)) (gCons (gA (aName 4)) (gNil))))) (sSeq (sSeq (sAsg (dCallV 0 df__law_heard (lCons (dVar 1) (lCons (dVar 2) (lNil)))) (gA (aName 3))) (sNext)) (sSeq (sRet (dIf (tVal (dCmp .Is (dVar 4) (dC .non))) (dCall D__law_unmarked (lCons (dVar 3) (lNil))) (dVar 4))) (sNext)))
def D__law_heard : FDen := runF false 3 5 b__law_heard
theorem c__law_heard : cSs 40 (ctOf df__law_heard kcs kdc true ["own", "one", "two", "told_so", "caught"] (defScope (top 101)) []) (defBody (top 101)) = some b__law_heard := by rfl
def df_sure_times : List (Str × FDen) := [("is_within", D_is_within)]
def b_sure_times : SDen := sSeq (sIf (tNot (tVal (dCall D_is_within (lCons (dVar 0) (lCons (dC (.int 1)) (lCons (dC k_MOST_TIMES) (lNil))))))) (sSeq (sNever) (sNext)) (sNext)) (sSeq (sRet (dVar 0)) (sNext))
def D_sure_times : FDen := runF false 1 1 b_sure_times
theorem c_sure_times : cSs 40 (ctOf df_sure_times kcs kdc true ["value"] (defScope (top 61)) []) (defBody (top 61)) = some b_sure_times := by rfl
def df_roots_of : List (Str × FDen) := [("roots_in", D_roots_in), ("sure_times", D_sure_times), ("sure_eight", D_sure_eight)]
def b_roots_of : SDen := sSeq (sAsg (dCall D_sure_eight (lCons (dVar 0) (lNil))) (gA (aName 2))) (sSeq (sAsg (dCall D_sure_times (lCons (dVar 1) (lNil))) (gA (aName 3))) (sSeq (sIf (tVal (dCmp .Eq (dSl 0 (dVar 2) (oSome (dC (.int 1))) (oNon)) (dSl 0 (dC k_NONE) (oSome (dC (.int 1))) (oNon)))) (sSeq (sNever) (sNext)) (sNext)) (sSeq (sRet (dCall D_roots_in (lCons (dVar 2) (lCons (dVar 3) (lNil))))) (sNext))))
def D_roots_of : FDen := runF false 2 4 b_roots_of
theorem c_roots_of : cSs 40 (ctOf df_roots_of kcs kdc true ["goal", "times", "own", "told"] (defScope (top 66)) []) (defBody (top 66)) = some b_roots_of := by rfl
def df__law_dot : List (Str × FDen) := []
def b__law_dot : SDen := sSeq (sRet (dBlt bSum (lCons (dLc 0 (iZi (dVar 0) (dVar 1)) (aTup 2 (aCons (aName 2) (aCons (aName 3) (aNil)))) (tYesD) (dBin 0 .Mult (dVar 2) (dVar 3)) [2, 3]) (lNil)))) (sNext)
def D__law_dot : FDen := runF false 2 4 b__law_dot
theorem c__law_dot : cSs 40 (ctOf df__law_dot kcs kdc true ["one", "two", "a", "b"] (defScope (top 89)) []) (defBody (top 89)) = some b__law_dot := by rfl
def df_square_law : List (Str × FDen) := [("square_sum_of", D_square_sum_of), ("sure_eight", D_sure_eight)]
def b_square_law : SDen := sSeq (sAsg (dCall D_sure_eight (lCons (dVar 0) (lNil))) (gA (aName 1))) (sSeq (sRet (dTup (lCons (dBin 0 .Mult (dC (.int 2)) (dIx (dVar 1) (dC (.int 0)))) (lCons (dCall D_square_sum_of (lCons (dVar 1) (lNil))) (lNil))))) (sNext))
def D_square_law : FDen := runF false 1 2 b_square_law
theorem c_square_law : cSs 40 (ctOf df_square_law kcs kdc true ["eight", "own"] (defScope (top 33)) []) (defBody (top 33)) = some b_square_law := by rfl
def df_powers_added : List (Str × FDen) := [("sure_power", D_sure_power), ("sum_of", D_sum_of), ("power_in", D_power_in), ("sure_eight", D_sure_eight)]
def b_powers_added : SDen := sSeq (sAsg (dCall D_sure_eight (lCons (dVar 0) (lNil))) (gA (aName 2))) (sSeq (sAsg (dC k_NONE) (gA (aName 3))) (sSeq (sFor (iRg1 (dBin 0 .Add (dCall D_sure_power (lCons (dVar 1) (lNil))) (dC (.int 1)))) (aName 4) (sSeq (sAsg (dCall D_sum_of (lCons (dVar 3) (lCons (dCall D_power_in (lCons (dVar 2) (lCons (dVar 4) (lNil)))) (lNil)))) (gA (aName 3))) (sNext))) (sSeq (sRet (dVar 3)) (sNext))))
def D_powers_added : FDen := runF false 2 5 b_powers_added
theorem c_powers_added : cSs 40 (ctOf df_powers_added kcs kdc true ["eight", "many", "own", "found", "lap"] (defScope (top 65)) []) (defBody (top 65)) = some b_powers_added := by rfl
def df__law_plus : List (Str × FDen) := []
def b__law_plus : SDen := sSeq (sRet (dBlt bTuple (lCons (dLc 0 (iZi (dVar 0) (dVar 1)) (aTup 2 (aCons (aName 2) (aCons (aName 3) (aNil)))) (tYesD) (dBin 0 .Add (dVar 2) (dVar 3)) [2, 3]) (lNil)))) (sNext)
def D__law_plus : FDen := runF false 2 4 b__law_plus
theorem c__law_plus : cSs 40 (ctOf df__law_plus kcs kdc true ["one", "two", "a", "b"] (defScope (top 90)) []) (defBody (top 90)) = some b__law_plus := by rfl
def df__law_size_power : List (Str × FDen) := [("_law_dot", D__law_dot)]
def b__law_size_power : SDen := sSeq (sAsg (dC (.int 1)) (gA (aName 2))) (sSeq (sFor (iRg1 (dVar 1)) (aName 3) (sSeq (sAsg (dBin 0 .Mult (dVar 2) (dCall D__law_dot (lCons (dVar 0) (lCons (dVar 0) (lNil))))) (gA (aName 2))) (sNext))) (sSeq (sRet (dVar 2)) (sNext)))
def D__law_size_power : FDen := runF false 2 4 b__law_size_power
theorem c__law_size_power : cSs 40 (ctOf df__law_size_power kcs kdc true ["eight_so", "many_so", "found", "lap"] (defScope (top 104)) []) (defBody (top 104)) = some b__law_size_power := by rfl
def df_power_pair : List (Str × FDen) := [("pair_in", D_pair_in), ("sure_power", D_sure_power), ("square_sum_of", D_square_sum_of), ("sure_eight", D_sure_eight)]
def b_power_pair : SDen := sSeq (sAsg (dCall D_sure_eight (lCons (dVar 0) (lNil))) (gA (aName 2))) (sSeq (sRet (dCall D_pair_in (lCons (dTup (lCons (dBin 0 .Mult (dC (.int 2)) (dIx (dVar 2) (dC (.int 0)))) (lCons (dCall D_square_sum_of (lCons (dVar 2) (lNil))) (lNil)))) (lCons (dCall D_sure_power (lCons (dVar 1) (lNil))) (lNil))))) (sNext))
def D_power_pair : FDen := runF false 2 3 b_power_pair
theorem c_power_pair : cSs 40 (ctOf df_power_pair kcs kdc true ["eight", "many", "own"] (defScope (top 63)) []) (defBody (top 63)) = some b_power_pair := by rfl
def df__law_some : List (Str × FDen) := [("_law_letter", D__law_letter), ("_law_take", D__law_take), ("_law_eight", D__law_eight)]
def b__law_some : SDen := sSeq (sAsg (dCall D__law_eight (lCons (dVar 0) (lCons (dVar 1) (lNil)))) (gA (aName 2))) (sSeq (sRet (dIf (tVal (dCmp .NotEq (dVar 2) (dBin 0 .Mult (dTup (lCons (dC (.int 0)) (lNil))) (dC (.int 8))))) (dVar 2) (dCall D__law_letter (lCons (dCall D__law_take (lCons (dVar 0) (lCons (dC (.int 8)) (lNil)))) (lNil))))) (sNext))
def D__law_some : FDen := runF false 2 3 b__law_some
theorem c__law_some : cSs 40 (ctOf df__law_some kcs kdc true ["tin", "top_so", "own"] (defScope (top 95)) []) (defBody (top 95)) = some b__law_some := by rfl
def df__law_eights_right : List (Str × FDen) := [("_law_same", D__law_same), ("_law_by", D__law_by), ("_law_mate", D__law_mate), ("size", D_size), ("product", D_product), ("whole_mate", D_whole_mate), ("whole_size", D_whole_size), ("whole_product", D_whole_product), ("of_eight", D_of_eight), ("whole_power", D_whole_power), ("_law_eight", D__law_eight), ("power", D_power), ("_law_is_int", D__law_is_int), ("is_power_of", D_is_power_of), ("_law_heard", D__law_heard), ("power_told", D_power_told), ("roots_of", D_roots_of), ("_law_take", D__law_take), ("_law_dot", D__law_dot), ("square_law", D_square_law), ("powers_added", D_powers_added), ("_law_mul", D__law_mul), ("_law_plus", D__law_plus), ("_law_size_power", D__law_size_power), ("power_pair", D_power_pair), ("_law_lists", D__law_lists), ("_law_letter", D__law_letter), ("_law_some", D__law_some)]
def b__law_eights_right : SDen := sSeq (sAsg (dCall D__law_some (lCons (dVar 0) (lCons (dC (.int 3)) (lNil)))) (gA (aName 1))) (sSeq (sAsg (dLst 1 (lCons (dTup (lCons (dC (.int 0)) (lCons (dC (.int 1)) (lNil)))) (lCons (dTup (lCons (dC (.int 1)) (lCons (dC (.int 0)) (lNil)))) (lNil)))) (gA (aName 2))) (sSeq (sFor (iRg1 (dC (.int 11))) (aName 3) (sSeq (sAsg (dSl 0 (dVar 2) (oSome (dNeg (dC (.int 2)))) (oNon)) (gUnp 2 (gCons (gUnp 2 (gCons (gA (aName 16)) (gCons (gA (aName 17)) (gNil)))) (gCons (gUnp 2 (gCons (gA (aName 18)) (gCons (gA (aName 19)) (gNil)))) (gNil))))) (sSeq (sDrop (dApp (dVar 2) (dTup (lCons (dBin 0 .Sub (dBin 0 .Mult (dBin 0 .Mult (dC (.int 2)) (dIx (dVar 1) (dC (.int 0)))) (dVar 18)) (dBin 0 .Mult (dCall D__law_dot (lCons (dVar 1) (lCons (dVar 1) (lNil)))) (dVar 16))) (lCons (dBin 0 .Sub (dBin 0 .Mult (dBin 0 .Mult (dC (.int 2)) (dIx (dVar 1) (dC (.int 0)))) (dVar 19)) (dBin 0 .Mult (dCall D__law_dot (lCons (dVar 1) (lCons (dVar 1) (lNil)))) (dVar 17))) (lNil)))))) (sNext)))) (sSeq (sAsg (dCall D__law_letter (lCons (dC (.int 0)) (lNil))) (gA (aName 4))) (sSeq (sAsg (dBin 0 .Mult (dTup (lCons (dC (.int 0)) (lNil))) (dC (.int 8))) (gA (aName 5))) (sSeq (sFor (iRg1 (dC (.int 9))) (aName 6) (sSeq (sAsg (dIx (dVar 2) (dVar 6)) (gUnp 2 (gCons (gA (aName 14)) (gCons (gA (aName 15)) (gNil))))) (sSeq (sAsg (dCall D__law_plus (lCons (dCall D__law_by (lCons (dVar 1) (lCons (dVar 14) (lNil)))) (lCons (dCall D__law_by (lCons (dCall D__law_letter (lCons (dC (.int 0)) (lNil))) (lCons (dVar 15) (lNil)))) (lNil)))) (gA (aName 10))) (sSeq (sIf (tOr (tVal (dCmp .NotEq (dVar 10) (dVar 4))) (tNot (tVal (dCall D__law_same (lCons (dLst 0 (lCons (dCall D_power (lCons (dVar 1) (lCons (dVar 6) (lNil)))) (lCons (dCall D_power_pair (lCons (dCall D__law_lists (lCons (dVar 1) (lNil))) (lCons (dVar 6) (lNil)))) (lCons (dCall D_size (lCons (dVar 4) (lNil))) (lNil))))) (lCons (dLst 0 (lCons (dVar 4) (lCons (dTup (lCons (dVar 14) (lCons (dVar 15) (lNil)))) (lCons (dCall D__law_size_power (lCons (dVar 1) (lCons (dVar 6) (lNil)))) (lNil))))) (lNil))))))) (sSeq (sRet (dC (.bl false))) (sNext)) (sNext)) (sSeq (sAsg (dCall D__law_plus (lCons (dVar 5) (lCons (dVar 4) (lNil)))) (gA (aName 5))) (sSeq (sAsg (dCall D__law_mul (lCons (dVar 4) (lCons (dVar 1) (lNil)))) (gA (aName 4))) (sNext))))))) (sSeq (sIf (tNot (tVal (dCall D__law_same (lCons (dLst 0 (lCons (dCall D_powers_added (lCons (dVar 1) (lCons (dC (.int 8)) (lNil)))) (lCons (dCall D_square_law (lCons (dVar 1) (lNil))) (lNil)))) (lCons (dLst 0 (lCons (dVar 5) (lCons (dTup (lCons (dBin 0 .Mult (dC (.int 2)) (dIx (dVar 1) (dC (.int 0)))) (lCons (dCall D__law_dot (lCons (dVar 1) (lCons (dVar 1) (lNil)))) (lNil)))) (lNil)))) (lNil)))))) (sSeq (sRet (dC (.bl false))) (sNext)) (sNext)) (sSeq (sAsg (dBin 0 .Add (dC (.int 2)) (dCall D__law_take (lCons (dVar 0) (lCons (dC (.int 4)) (lNil))))) (gA (aName 6))) (sSeq (sAsg (dCall D_power (lCons (dVar 1) (lCons (dVar 6) (lNil)))) (gA (aName 7))) (sSeq (sIf (tVal (dCmp .NotEq (dLc 0 (iSeq (dSl 0 (dVar 7) (oSome (dC (.int 1))) (oNon))) (aName 20) (tVal (dCmp .NotEq (dVar 20) (dC (.int 0)))) (dVar 20) [20]) (dLst 0 (lNil)))) (sSeq (sAsg (dCall D_roots_of (lCons (dVar 7) (lCons (dVar 6) (lNil)))) (gA (aName 11))) (sSeq (sIf (tOr (tVal (dCmp .NotIn (dVar 1) (dVar 11))) (tOr (tVal (dCmp .NotEq (dLc 0 (iSeq (dVar 11)) (aName 20) (tVal (dCmp .NotEq (dCall D_power (lCons (dVar 20) (lCons (dVar 6) (lNil)))) (dVar 7))) (dVar 20) [20]) (dLst 0 (lNil)))) (tVal (dCmp .NotEq (dVar 11) (dSortSet 0 (dVar 11)))))) (sSeq (sRet (dC (.bl false))) (sNext)) (sNext)) (sNext))) (sNext)) (sSeq (sAsg (dCall D__law_heard (lCons (dC (.fn "power_told")) (lCons (dVar 1) (lCons (dVar 7) (lNil))))) (gA (aName 8))) (sSeq (sIf (tOr (tNot (tVal (dCall D__law_is_int (lCons (dVar 8) (lNil))))) (tOr (tNot (tVal (dChain .LtE .LtE (dC (.int 1)) (dVar 8) (dVar 6)))) (tOr (tVal (dCmp .NotEq (dCall D_power (lCons (dVar 1) (lCons (dVar 8) (lNil)))) (dVar 7))) (tNot (tVal (dCall D_is_power_of (lCons (dVar 1) (lCons (dVar 7) (lNil))))))))) (sSeq (sRet (dC (.bl false))) (sNext)) (sNext)) (sSeq (sIf (tVal (dCmp .NotEq (dLc 0 (iRg2 (dC (.int 1)) (dVar 8)) (aName 21) (tVal (dCmp .Eq (dCall D_power (lCons (dVar 1) (lCons (dVar 21) (lNil)))) (dVar 7))) (dVar 21) [21]) (dLst 0 (lNil)))) (sSeq (sRet (dC (.bl false))) (sNext)) (sNext)) (sSeq (sPar [12, 13] (lCons (dCall D__law_by (lCons (dVar 1) (lCons (dC (.int 2)) (lNil)))) (lCons (dCall D__law_eight (lCons (dVar 0) (lCons (dC (.int 3)) (lNil)))) (lNil)))) (sSeq (sAsg (dLst 0 (lCons (dCall D_of_eight (lCons (dVar 1) (lNil))) (lCons (dCall D_whole_power (lCons (dVar 12) (lCons (dVar 6) (lNil)))) (lCons (dCall D_whole_product (lCons (dVar 12) (lCons (dCall D_of_eight (lCons (dVar 13) (lNil))) (lNil)))) (lCons (dCall D_whole_size (lCons (dVar 12) (lNil))) (lCons (dCall D_whole_mate (lCons (dVar 12) (lNil))) (lNil))))))) (gA (aName 9))) (sSeq (sRet (dCall D__law_same (lCons (dVar 9) (lCons (dLst 0 (lCons (dVar 12) (lCons (dCall D__law_by (lCons (dVar 7) (lCons (dC (.int 2)) (lNil)))) (lCons (dCall D__law_by (lCons (dCall D_product (lCons (dVar 1) (lCons (dVar 13) (lNil)))) (lCons (dC (.int 2)) (lNil)))) (lCons (dCall D_size (lCons (dVar 1) (lNil))) (lCons (dCall D__law_by (lCons (dCall D__law_mate (lCons (dVar 1) (lNil))) (lCons (dC (.int 2)) (lNil)))) (lNil))))))) (lNil))))) (sNext))))))))))))))))
def D__law_eights_right : FDen := runF false 1 22 b__law_eights_right
theorem c__law_eights_right : cSs 40 (ctOf df__law_eights_right kcs kdc true ["tin", "eight_so", "rows_so", "lap", "here", "total_so", "k", "goal", "told_so", "got", "mine_so", "roots_so", "twice_so", "other", "u", "v", "a", "b", "c", "d", "own", "j"] (defScope (top 103)) [("rows_so", 1)]) (defBody (top 103)) = some b__law_eights_right := by rfl
def df__law_box : List (Str × FDen) := []
def b__law_box : SDen := sSeq (sAsg (dIf (tVal (dCmp .Lt (dVar 1) (dBlt bLen (lCons (dVar 0) (lNil))))) (dIx (dVar 0) (dVar 1)) (dC (.int 0))) (gA (aName 2))) (sSeq (sRet (dLst 1 (lCons (dBin 0 .Mult (dBlt bAbs (lCons (dVar 2) (lNil))) (dBlt bInt (lCons (dCmp .GtE (dBlt bAbs (lCons (dVar 2) (lNil))) (dBin 0 .Pow (dC (.int 10)) (dC (.int 18)))) (lNil)))) (lCons (dBin 0 .Add (dBin 0 .Add (dBin 0 .Mod (dBlt bInt (lCons (dVar 2) (lNil))) (dC (.int 2305843009213693951))) (dBin 0 .Mult (dC (.int 39373)) (dVar 1))) (dC (.int 9213080))) (lCons (dC (.int 0)) (lNil)))))) (sNext))
def D__law_box : FDen := runF true 2 3 b__law_box
theorem c__law_box : cSs 40 (ctOf df__law_box kcs kdc true ["script", "k", "bit_so"] (defScope (top 77)) [("return", 1)]) (defBody (top 77)) = some b__law_box := by rfl
def df__law_cells : List (Str × FDen) := []
def b__law_cells : SDen := sSeq (sAsg (dOr (dBlt (bList 1) (lCons (dSl 0 (dVar 0) (oNon) (oSome (dVar 1))) (lNil))) (dLst 1 (lCons (dC (.int 0)) (lNil)))) (gA (aName 2))) (sSeq (sFor (iEn (dSl 0 (dVar 0) (oSome (dVar 1)) (oSome (dC (.int 63))))) (aTup 2 (aCons (aName 3) (aCons (aName 4) (aNil)))) (sSeq (sAsg (dBin 0 .Mod (dBlt bInt (lCons (dVar 3) (lNil))) (dVar 1)) (gA (aName 5))) (sSeq (sAsg (dBin 0 .Add (dIx (dVar 2) (dVar 5)) (dBin 0 .Mult (dVar 4) (dBin 0 .Add (dVar 3) (dC (.int 2))))) (gSub (dVar 2) (dVar 5))) (sNext)))) (sSeq (sRet (dVar 2)) (sNext)))
def D__law_cells : FDen := runF false 2 6 b__law_cells
theorem c__law_cells : cSs 40 (ctOf df__law_cells kcs kdc true ["script", "most_so", "cells_so", "k", "bit_so", "at_so"] (defScope (top 79)) [("cells_so", 1)]) (defBody (top 79)) = some b__law_cells := by rfl
def df_law : List (Str × FDen) := [("_law_units_right", D__law_units_right), ("_law_eights_right", D__law_eights_right), ("_law_box", D__law_box), ("_law_cells", D__law_cells)]
def b_law : SDen := sSeq (sAsg (dCall D__law_box (lCons (dCall D__law_cells (lCons (dVar 0) (lCons (dC (.int 1)) (lNil)))) (lCons (dC (.int 0)) (lNil)))) (gA (aName 1))) (sSeq (sRet (dBlt bAll (lCons (dLc 0 (iRg1 (dC (.int 4))) (aName 2) (tYesD) (dAnd (dCall D__law_units_right (lCons (dVar 1) (lNil))) (dCall D__law_eights_right (lCons (dVar 1) (lNil)))) [2]) (lNil)))) (sNext))
def D_law : FDen := runF false 1 3 b_law
theorem c_law : cSs 40 (ctOf df_law kcs kdc true ["script", "tin", "lap"] (defScope (top 105)) []) (defBody (top 105)) = some b_law := by rfl
end LawK80
end
-- text LawK80Chain
section
set_option maxHeartbeats 0
namespace LawK80
open PySem PySem.Spec L2 Mn
def mkD (x : Str) (i : Nat) : He.DefD := ⟨(x, none), x, x, defArgs (top i), defBody (top i), defScope (top i), [], []⟩
def fns0 : List He.DefD := [mkD "_law_by" 91, mkD "product_of" 24, mkD "multiplied" 46, mkD "odd_places" 38, mkD "set_of" 10, mkD "code_words" 37, mkD "in_ring" 39, mkD "root_down" 11, mkD "sum_of" 27, mkD "times_of" 28, mkD "pair_in" 56, mkD "square_sum_of" 26, mkD "power_in" 57, mkD "over_of" 29, mkD "common_of" 14, mkD "side_of" 30, mkD "raised" 12, mkD "root_of_number" 58, mkD "roots_in" 59, mkD "is_long" 7]
def fns1 : List He.DefD := [mkD "is_number" 5, mkD "are_numbers" 9, mkD "is_eight_in" 20, mkD "is_whole_in" 42, mkD "tupled" 8, mkD "sure_whole" 43, mkD "whole_roots" 67, mkD "_law_four" 86, mkD "_law_mul" 87, mkD "_law_wmul" 97, mkD "_law_same" 82, mkD "sure_number" 23, mkD "order_in" 73, mkD "sure_unit" 45, mkD "unit_power" 75, mkD "_law_left" 85, mkD "is_within" 6, mkD "sure_power" 60, mkD "whole_power" 64, mkD "_law_lists" 81]
def fns2 : List He.DefD := [mkD "order_of" 74, mkD "_law_take" 78, mkD "_law_mate" 88, mkD "trace" 51, mkD "_law_of" 80, mkD "_law_code" 96, mkD "_law_signed" 98, mkD "_law_letter" 92, mkD "_law_units" 99, mkD "_law_unit" 100, mkD "_law_units_right" 102, mkD "sure_eight" 21, mkD "size" 32, mkD "sure_two" 22, mkD "product" 31, mkD "mate_of" 25, mkD "whole_mate" 49, mkD "size_of" 47, mkD "whole_size" 50, mkD "sure_wholes" 44]
def fns3 : List He.DefD := [mkD "whole_product" 48, mkD "of_eight" 52, mkD "_law_whole_number" 93, mkD "_law_eight" 94, mkD "power" 62, mkD "_law_is_int" 84, mkD "told_in" 69, mkD "is_power_of" 68, mkD "_law_unmarked" 83, mkD "power_told" 70, mkD "_law_heard" 101, mkD "sure_times" 61, mkD "roots_of" 66, mkD "_law_dot" 89, mkD "square_law" 33, mkD "powers_added" 65, mkD "_law_plus" 90, mkD "_law_size_power" 104, mkD "power_pair" 63, mkD "_law_some" 95]
def fns4 : List He.DefD := [mkD "_law_eights_right" 103, mkD "_law_box" 77, mkD "_law_cells" 79, mkD "law" 105]
def fns : List He.DefD := fns0 ++ fns1 ++ fns2 ++ fns3 ++ fns4
def fas0 : List He.Fa := [.glo "_law_by", .glo "product_of", .glo "multiplied", .glo "odd_places", .glo "set_of", .glo "code_words", .glo "in_ring", .glo "root_down", .glo "sum_of", .glo "times_of", .glo "pair_in", .glo "square_sum_of", .glo "power_in", .glo "over_of", .glo "common_of", .glo "side_of", .glo "raised", .glo "root_of_number", .glo "roots_in", .glo "is_long"]
def fas1 : List He.Fa := [.glo "is_number", .glo "are_numbers", .glo "is_eight_in", .glo "is_whole_in", .glo "tupled", .glo "sure_whole", .glo "whole_roots", .glo "_law_four", .glo "_law_mul", .glo "_law_wmul", .glo "_law_same", .glo "sure_number", .glo "order_in", .glo "sure_unit", .glo "unit_power", .glo "_law_left", .glo "is_within", .glo "sure_power", .glo "whole_power", .glo "_law_lists"]
def fas2 : List He.Fa := [.glo "order_of", .glo "_law_take", .glo "_law_mate", .glo "trace", .glo "_law_of", .glo "_law_code", .glo "_law_signed", .glo "_law_letter", .glo "_law_units", .glo "_law_unit", .glo "_law_units_right", .glo "sure_eight", .glo "size", .glo "sure_two", .glo "product", .glo "mate_of", .glo "whole_mate", .glo "size_of", .glo "whole_size", .glo "sure_wholes"]
def fas3 : List He.Fa := [.glo "whole_product", .glo "of_eight", .glo "_law_whole_number", .glo "_law_eight", .glo "power", .glo "_law_is_int", .glo "told_in", .glo "is_power_of", .glo "_law_unmarked", .glo "power_told", .glo "_law_heard", .glo "sure_times", .glo "roots_of", .glo "_law_dot", .glo "square_law", .glo "powers_added", .glo "_law_plus", .glo "_law_size_power", .glo "power_pair", .glo "_law_some"]
def fas4 : List He.Fa := [.glo "_law_eights_right", .glo "_law_box", .glo "_law_cells", .glo "law", .free "len", .free "abs", .free "int", .free "min", .free "sum", .free "all", .free "any", .free "tuple", .free "list", .free "sorted", .free "set", .free "isinstance", .free "range", .free "enumerate", .free "zip", .free "bool"]
def fas5 : List He.Fa := [.free "str"]
def fas : List He.Fa := fas0 ++ fas1 ++ fas2 ++ fas3 ++ fas4 ++ fas5
def los0 : List Str := ["CanNot", "Unfit", "is_number", "is_within", "is_long", "tupled", "are_numbers", "set_of", "root_down", "raised", "common_of", "LINES", "NONE", "ONE", "PRODUCTS", "is_eight_in", "sure_eight", "sure_two", "sure_number", "product_of"]
def los1 : List Str := ["mate_of", "square_sum_of", "sum_of", "times_of", "over_of", "side_of", "product", "size", "square_law", "PLACES", "CODE_ONE", "code_words", "odd_places", "in_ring", "WHOLE_ONE", "is_whole_in", "sure_whole", "sure_wholes", "sure_unit", "multiplied"]
def los2 : List Str := ["size_of", "whole_product", "whole_mate", "whole_size", "trace", "of_eight", "MOST", "MOST_TIMES", "pair_in", "power_in", "root_of_number", "roots_in", "sure_power", "sure_times", "power", "power_pair", "whole_power", "powers_added", "roots_of", "whole_roots"]
def los3 : List Str := ["is_power_of", "told_in", "power_told", "ORDERS", "order_in", "order_of", "unit_power", "_law_box", "_law_take", "_law_cells", "_law_of", "_law_lists", "_law_same", "_law_unmarked", "_law_is_int", "_law_left", "_law_four", "_law_mul", "_law_mate", "_law_dot"]
def los4 : List Str := ["_law_plus", "_law_by", "_law_letter", "_law_whole_number", "_law_eight", "_law_some", "_law_code", "_law_wmul", "_law_signed", "_law_units", "_law_unit", "_law_heard", "_law_units_right", "_law_eights_right", "_law_size_power"]
def los : List Str := los0 ++ los1 ++ los2 ++ los3 ++ los4
def hd : Hd := ⟨fas, fns, kcs, kdc, true⟩
theorem bts_free : ∀ x, bts.contains x = true → He.Fa.free x ∈ hd.fa := by
  intro x hx
  have h : x ∈ bts := by simpa using hx
  have all : ∀ y ∈ bts, He.Fa.free y ∈ hd.fa := by
    intro y hy
    unfold bts at hy
    show _ ∈ fas
    unfold fas fas0 fas1 fas2 fas3 fas4 fas5
    simp only [List.mem_cons, List.not_mem_nil, or_false] at hy
    rcases hy with rfl | rfl | rfl | rfl | rfl | rfl | rfl | rfl | rfl | rfl | rfl | rfl | rfl | rfl | rfl | rfl | rfl <;> simp
  exact all x h
theorem chain {P : Program} {w : World} {K : PySem.W.Frag} {mg : Str → Option Value} {h : Heap} (X : K.In h) (G : h.Ns mainGlobals mg) (c : obsM hd K = valM hd) :
    ∃ f fd, mg "law" = some (.ref f) ∧ (∀ (s : Shared) (v : Value), BindsTo s fd ⟨[v], []⟩ [("script", v)]) ∧ ∀ base : Heap, FnOk P w K mg base (L2.CX P w) 10 f fd ["script"] (spD K mg 1 D_law) := by
  obtain ⟨f__law_by, fd__law_by, m__law_by, F__law_by⟩ := def_of X G c 0 0 (x := "_law_by") (st := top 91) rfl rfl
  have B__law_by : Binds K fd__law_by ["one", "number_so"] [] := F__law_by.binds fun _ _ _ _ _ _ us hl => match us, hl with | [_, _], _ => rfl
  obtain ⟨f_product_of, fd_product_of, m_product_of, F_product_of⟩ := def_of X G c 1 1 (x := "product_of") (st := top 24) rfl rfl
  have B_product_of : Binds K fd_product_of ["one", "other"] [] := F_product_of.binds fun _ _ _ _ _ _ us hl => match us, hl with | [_, _], _ => rfl
  obtain ⟨f_multiplied, fd_multiplied, m_multiplied, F_multiplied⟩ := def_of X G c 2 2 (x := "multiplied") (st := top 46) rfl rfl
  have B_multiplied : Binds K fd_multiplied ["one", "other"] [] := F_multiplied.binds fun _ _ _ _ _ _ us hl => match us, hl with | [_, _], _ => rfl
  obtain ⟨f_odd_places, fd_odd_places, m_odd_places, F_odd_places⟩ := def_of X G c 3 3 (x := "odd_places") (st := top 38) rfl rfl
  have B_odd_places : Binds K fd_odd_places ["halves"] [] := F_odd_places.binds fun _ _ _ _ _ _ us hl => match us, hl with | [_], _ => rfl
  obtain ⟨f_set_of, fd_set_of, m_set_of, F_set_of⟩ := def_of X G c 4 4 (x := "set_of") (st := top 10) rfl rfl
  have B_set_of : Binds K fd_set_of ["row"] [] := F_set_of.binds fun _ _ _ _ _ _ us hl => match us, hl with | [_], _ => rfl
  obtain ⟨f_code_words, fd_code_words, m_code_words, F_code_words⟩ := def_of X G c 5 5 (x := "code_words") (st := top 37) rfl rfl
  have B_code_words : Binds K fd_code_words ["ring"] [] := F_code_words.binds fun _ _ _ _ _ _ us hl => match us, hl with | [_], _ => rfl
  obtain ⟨f_in_ring, fd_in_ring, m_in_ring, F_in_ring⟩ := def_of X G c 6 6 (x := "in_ring") (st := top 39) rfl rfl
  have B_in_ring : Binds K fd_in_ring ["ring", "halves"] [] := F_in_ring.binds fun _ _ _ _ _ _ us hl => match us, hl with | [_, _], _ => rfl
  obtain ⟨f_root_down, fd_root_down, m_root_down, F_root_down⟩ := def_of X G c 7 7 (x := "root_down") (st := top 11) rfl rfl
  have B_root_down : Binds K fd_root_down ["number"] [] := F_root_down.binds fun _ _ _ _ _ _ us hl => match us, hl with | [_], _ => rfl
  obtain ⟨f_sum_of, fd_sum_of, m_sum_of, F_sum_of⟩ := def_of X G c 8 8 (x := "sum_of") (st := top 27) rfl rfl
  have B_sum_of : Binds K fd_sum_of ["one", "other"] [] := F_sum_of.binds fun _ _ _ _ _ _ us hl => match us, hl with | [_, _], _ => rfl
  obtain ⟨f_times_of, fd_times_of, m_times_of, F_times_of⟩ := def_of X G c 9 9 (x := "times_of") (st := top 28) rfl rfl
  have B_times_of : Binds K fd_times_of ["row", "number"] [] := F_times_of.binds fun _ _ _ _ _ _ us hl => match us, hl with | [_, _], _ => rfl
  obtain ⟨f_pair_in, fd_pair_in, m_pair_in, F_pair_in⟩ := def_of X G c 10 10 (x := "pair_in") (st := top 56) rfl rfl
  have B_pair_in : Binds K fd_pair_in ["rule", "many"] [] := F_pair_in.binds fun _ _ _ _ _ _ us hl => match us, hl with | [_, _], _ => rfl
  obtain ⟨f_square_sum_of, fd_square_sum_of, m_square_sum_of, F_square_sum_of⟩ := def_of X G c 11 11 (x := "square_sum_of") (st := top 26) rfl rfl
  have B_square_sum_of : Binds K fd_square_sum_of ["row"] [] := F_square_sum_of.binds fun _ _ _ _ _ _ us hl => match us, hl with | [_], _ => rfl
  obtain ⟨f_power_in, fd_power_in, m_power_in, F_power_in⟩ := def_of X G c 12 12 (x := "power_in") (st := top 57) rfl rfl
  have B_power_in : Binds K fd_power_in ["eight", "many"] [] := F_power_in.binds fun _ _ _ _ _ _ us hl => match us, hl with | [_, _], _ => rfl
  obtain ⟨f_over_of, fd_over_of, m_over_of, F_over_of⟩ := def_of X G c 13 13 (x := "over_of") (st := top 29) rfl rfl
  have B_over_of : Binds K fd_over_of ["row", "number"] [] := F_over_of.binds fun _ _ _ _ _ _ us hl => match us, hl with | [_, _], _ => rfl
  obtain ⟨f_common_of, fd_common_of, m_common_of, F_common_of⟩ := def_of X G c 14 14 (x := "common_of") (st := top 14) rfl rfl
  have B_common_of : Binds K fd_common_of ["row"] [] := F_common_of.binds fun _ _ _ _ _ _ us hl => match us, hl with | [_], _ => rfl
  obtain ⟨f_side_of, fd_side_of, m_side_of, F_side_of⟩ := def_of X G c 15 15 (x := "side_of") (st := top 30) rfl rfl
  have B_side_of : Binds K fd_side_of ["eight"] [] := F_side_of.binds fun _ _ _ _ _ _ us hl => match us, hl with | [_], _ => rfl
  obtain ⟨f_raised, fd_raised, m_raised, F_raised⟩ := def_of X G c 16 16 (x := "raised") (st := top 12) rfl rfl
  have B_raised : Binds K fd_raised ["number", "often"] [] := F_raised.binds fun _ _ _ _ _ _ us hl => match us, hl with | [_, _], _ => rfl
  obtain ⟨f_root_of_number, fd_root_of_number, m_root_of_number, F_root_of_number⟩ := def_of X G c 17 17 (x := "root_of_number") (st := top 58) rfl rfl
  have B_root_of_number : Binds K fd_root_of_number ["number", "times"] [] := F_root_of_number.binds fun _ _ _ _ _ _ us hl => match us, hl with | [_, _], _ => rfl
  obtain ⟨f_roots_in, fd_roots_in, m_roots_in, F_roots_in⟩ := def_of X G c 18 18 (x := "roots_in") (st := top 59) rfl rfl
  have B_roots_in : Binds K fd_roots_in ["goal", "times"] [] := F_roots_in.binds fun _ _ _ _ _ _ us hl => match us, hl with | [_, _], _ => rfl
  obtain ⟨f_is_long, fd_is_long, m_is_long, F_is_long⟩ := def_of X G c 19 19 (x := "is_long") (st := top 7) rfl rfl
  have B_is_long : Binds K fd_is_long ["thing", "length"] [] := F_is_long.binds fun _ _ _ _ _ _ us hl => match us, hl with | [_, _], _ => rfl
  obtain ⟨f_is_number, fd_is_number, m_is_number, F_is_number⟩ := def_of X G c 20 20 (x := "is_number") (st := top 5) rfl rfl
  have B_is_number : Binds K fd_is_number ["thing"] [] := F_is_number.binds fun _ _ _ _ _ _ us hl => match us, hl with | [_], _ => rfl
  obtain ⟨f_are_numbers, fd_are_numbers, m_are_numbers, F_are_numbers⟩ := def_of X G c 21 21 (x := "are_numbers") (st := top 9) rfl rfl
  have B_are_numbers : Binds K fd_are_numbers ["thing"] [] := F_are_numbers.binds fun _ _ _ _ _ _ us hl => match us, hl with | [_], _ => rfl
  obtain ⟨f_is_eight_in, fd_is_eight_in, m_is_eight_in, F_is_eight_in⟩ := def_of X G c 22 22 (x := "is_eight_in") (st := top 20) rfl rfl
  have B_is_eight_in : Binds K fd_is_eight_in ["thing"] [] := F_is_eight_in.binds fun _ _ _ _ _ _ us hl => match us, hl with | [_], _ => rfl
  obtain ⟨f_is_whole_in, fd_is_whole_in, m_is_whole_in, F_is_whole_in⟩ := def_of X G c 23 23 (x := "is_whole_in") (st := top 42) rfl rfl
  have B_is_whole_in : Binds K fd_is_whole_in ["thing"] [] := F_is_whole_in.binds fun _ _ _ _ _ _ us hl => match us, hl with | [_], _ => rfl
  obtain ⟨f_tupled, fd_tupled, m_tupled, F_tupled⟩ := def_of X G c 24 24 (x := "tupled") (st := top 8) rfl rfl
  have B_tupled : Binds K fd_tupled ["value"] [] := F_tupled.binds fun _ _ _ _ _ _ us hl => match us, hl with | [_], _ => rfl
  obtain ⟨f_sure_whole, fd_sure_whole, m_sure_whole, F_sure_whole⟩ := def_of X G c 25 25 (x := "sure_whole") (st := top 43) rfl rfl
  have B_sure_whole : Binds K fd_sure_whole ["value"] [] := F_sure_whole.binds fun _ _ _ _ _ _ us hl => match us, hl with | [_], _ => rfl
  obtain ⟨f_whole_roots, fd_whole_roots, m_whole_roots, F_whole_roots⟩ := def_of X G c 26 26 (x := "whole_roots") (st := top 67) rfl rfl
  have B_whole_roots : Binds K fd_whole_roots ["whole"] [] := F_whole_roots.binds fun _ _ _ _ _ _ us hl => match us, hl with | [_], _ => rfl
  obtain ⟨f__law_four, fd__law_four, m__law_four, F__law_four⟩ := def_of X G c 27 27 (x := "_law_four") (st := top 86) rfl rfl
  have B__law_four : Binds K fd__law_four ["one", "two"] [] := F__law_four.binds fun _ _ _ _ _ _ us hl => match us, hl with | [_, _], _ => rfl
  obtain ⟨f__law_mul, fd__law_mul, m__law_mul, F__law_mul⟩ := def_of X G c 28 28 (x := "_law_mul") (st := top 87) rfl rfl
  have B__law_mul : Binds K fd__law_mul ["one", "two"] [] := F__law_mul.binds fun _ _ _ _ _ _ us hl => match us, hl with | [_, _], _ => rfl
  obtain ⟨f__law_wmul, fd__law_wmul, m__law_wmul, F__law_wmul⟩ := def_of X G c 29 29 (x := "_law_wmul") (st := top 97) rfl rfl
  have B__law_wmul : Binds K fd__law_wmul ["one", "two"] [] := F__law_wmul.binds fun _ _ _ _ _ _ us hl => match us, hl with | [_, _], _ => rfl
  obtain ⟨f__law_same, fd__law_same, m__law_same, F__law_same⟩ := def_of X G c 30 30 (x := "_law_same") (st := top 82) rfl rfl
  have B__law_same : Binds K fd__law_same ["got", "due"] [] := F__law_same.binds fun _ _ _ _ _ _ us hl => match us, hl with | [_, _], _ => rfl
  obtain ⟨f_sure_number, fd_sure_number, m_sure_number, F_sure_number⟩ := def_of X G c 31 31 (x := "sure_number") (st := top 23) rfl rfl
  have B_sure_number : Binds K fd_sure_number ["value"] [] := F_sure_number.binds fun _ _ _ _ _ _ us hl => match us, hl with | [_], _ => rfl
  obtain ⟨f_order_in, fd_order_in, m_order_in, F_order_in⟩ := def_of X G c 32 32 (x := "order_in") (st := top 73) rfl rfl
  have B_order_in : Binds K fd_order_in ["unit"] [] := F_order_in.binds fun _ _ _ _ _ _ us hl => match us, hl with | [_], _ => rfl
  obtain ⟨f_sure_unit, fd_sure_unit, m_sure_unit, F_sure_unit⟩ := def_of X G c 33 33 (x := "sure_unit") (st := top 45) rfl rfl
  have B_sure_unit : Binds K fd_sure_unit ["value"] [] := F_sure_unit.binds fun _ _ _ _ _ _ us hl => match us, hl with | [_], _ => rfl
  obtain ⟨f_unit_power, fd_unit_power, m_unit_power, F_unit_power⟩ := def_of X G c 34 34 (x := "unit_power") (st := top 75) rfl rfl
  have B_unit_power : Binds K fd_unit_power ["unit", "number"] [] := F_unit_power.binds fun _ _ _ _ _ _ us hl => match us, hl with | [_, _], _ => rfl
  obtain ⟨f__law_left, fd__law_left, m__law_left, F__law_left⟩ := def_of X G c 35 35 (x := "_law_left") (st := top 85) rfl rfl
  have B__law_left : Binds K fd__law_left ["number_so", "by_so"] [] := F__law_left.binds fun _ _ _ _ _ _ us hl => match us, hl with | [_, _], _ => rfl
  obtain ⟨f_is_within, fd_is_within, m_is_within, F_is_within⟩ := def_of X G c 36 36 (x := "is_within") (st := top 6) rfl rfl
  have B_is_within : Binds K fd_is_within ["thing", "least", "most"] [] := F_is_within.binds fun _ _ _ _ _ _ us hl => match us, hl with | [_, _, _], _ => rfl
  obtain ⟨f_sure_power, fd_sure_power, m_sure_power, F_sure_power⟩ := def_of X G c 37 37 (x := "sure_power") (st := top 60) rfl rfl
  have B_sure_power : Binds K fd_sure_power ["value"] [] := F_sure_power.binds fun _ _ _ _ _ _ us hl => match us, hl with | [_], _ => rfl
  obtain ⟨f_whole_power, fd_whole_power, m_whole_power, F_whole_power⟩ := def_of X G c 38 38 (x := "whole_power") (st := top 64) rfl rfl
  have B_whole_power : Binds K fd_whole_power ["whole", "many"] [] := F_whole_power.binds fun _ _ _ _ _ _ us hl => match us, hl with | [_, _], _ => rfl
  obtain ⟨f__law_lists, fd__law_lists, m__law_lists, F__law_lists⟩ := def_of X G c 39 39 (x := "_law_lists") (st := top 81) rfl rfl
  have B__law_lists : Binds K fd__law_lists ["matter"] [] := F__law_lists.binds fun _ _ _ _ _ _ us hl => match us, hl with | [_], _ => rfl
  obtain ⟨f_order_of, fd_order_of, m_order_of, F_order_of⟩ := def_of X G c 40 40 (x := "order_of") (st := top 74) rfl rfl
  have B_order_of : Binds K fd_order_of ["unit"] [] := F_order_of.binds fun _ _ _ _ _ _ us hl => match us, hl with | [_], _ => rfl
  obtain ⟨f__law_take, fd__law_take, m__law_take, F__law_take⟩ := def_of X G c 41 41 (x := "_law_take") (st := top 78) rfl rfl
  have B__law_take : Binds K fd__law_take ["tin", "below_so"] [] := F__law_take.binds fun _ _ _ _ _ _ us hl => match us, hl with | [_, _], _ => rfl
  obtain ⟨f__law_mate, fd__law_mate, m__law_mate, F__law_mate⟩ := def_of X G c 42 42 (x := "_law_mate") (st := top 88) rfl rfl
  have B__law_mate : Binds K fd__law_mate ["one"] [] := F__law_mate.binds fun _ _ _ _ _ _ us hl => match us, hl with | [_], _ => rfl
  obtain ⟨f_trace, fd_trace, m_trace, F_trace⟩ := def_of X G c 43 43 (x := "trace") (st := top 51) rfl rfl
  have B_trace : Binds K fd_trace ["whole"] [] := F_trace.binds fun _ _ _ _ _ _ us hl => match us, hl with | [_], _ => rfl
  obtain ⟨f__law_of, fd__law_of, m__law_of, F__law_of⟩ := def_of X G c 44 44 (x := "_law_of") (st := top 80) rfl rfl
  have B__law_of : Binds K fd__law_of ["tin", "goods_so"] [] := F__law_of.binds fun _ _ _ _ _ _ us hl => match us, hl with | [_, _], _ => rfl
  obtain ⟨f__law_code, fd__law_code, m__law_code, F__law_code⟩ := def_of X G c 45 45 (x := "_law_code") (st := top 96) rfl rfl
  have B__law_code : Binds K fd__law_code [] [] := F__law_code.binds fun _ _ _ _ _ _ us hl => match us, hl with | [], _ => rfl
  obtain ⟨f__law_signed, fd__law_signed, m__law_signed, F__law_signed⟩ := def_of X G c 46 46 (x := "_law_signed") (st := top 98) rfl rfl
  have B__law_signed : Binds K fd__law_signed ["places_so"] [] := F__law_signed.binds fun _ _ _ _ _ _ us hl => match us, hl with | [_], _ => rfl
  obtain ⟨f__law_letter, fd__law_letter, m__law_letter, F__law_letter⟩ := def_of X G c 47 47 (x := "_law_letter") (st := top 92) rfl rfl
  have B__law_letter : Binds K fd__law_letter ["place_so"] [] := F__law_letter.binds fun _ _ _ _ _ _ us hl => match us, hl with | [_], _ => rfl
  obtain ⟨f__law_units, fd__law_units, m__law_units, F__law_units⟩ := def_of X G c 48 48 (x := "_law_units") (st := top 99) rfl rfl
  have B__law_units : Binds K fd__law_units [] [] := F__law_units.binds fun _ _ _ _ _ _ us hl => match us, hl with | [], _ => rfl
  obtain ⟨f__law_unit, fd__law_unit, m__law_unit, F__law_unit⟩ := def_of X G c 49 49 (x := "_law_unit") (st := top 100) rfl rfl
  have B__law_unit : Binds K fd__law_unit ["tin"] [] := F__law_unit.binds fun _ _ _ _ _ _ us hl => match us, hl with | [_], _ => rfl
  obtain ⟨f__law_units_right, fd__law_units_right, m__law_units_right, F__law_units_right⟩ := def_of X G c 50 50 (x := "_law_units_right") (st := top 102) rfl rfl
  have B__law_units_right : Binds K fd__law_units_right ["tin"] [] := F__law_units_right.binds fun _ _ _ _ _ _ us hl => match us, hl with | [_], _ => rfl
  obtain ⟨f_sure_eight, fd_sure_eight, m_sure_eight, F_sure_eight⟩ := def_of X G c 51 51 (x := "sure_eight") (st := top 21) rfl rfl
  have B_sure_eight : Binds K fd_sure_eight ["value"] [] := F_sure_eight.binds fun _ _ _ _ _ _ us hl => match us, hl with | [_], _ => rfl
  obtain ⟨f_size, fd_size, m_size, F_size⟩ := def_of X G c 52 52 (x := "size") (st := top 32) rfl rfl
  have B_size : Binds K fd_size ["eight"] [] := F_size.binds fun _ _ _ _ _ _ us hl => match us, hl with | [_], _ => rfl
  obtain ⟨f_sure_two, fd_sure_two, m_sure_two, F_sure_two⟩ := def_of X G c 53 53 (x := "sure_two") (st := top 22) rfl rfl
  have B_sure_two : Binds K fd_sure_two ["one", "other"] [] := F_sure_two.binds fun _ _ _ _ _ _ us hl => match us, hl with | [_, _], _ => rfl
  obtain ⟨f_product, fd_product, m_product, F_product⟩ := def_of X G c 54 54 (x := "product") (st := top 31) rfl rfl
  have B_product : Binds K fd_product ["one", "other"] [] := F_product.binds fun _ _ _ _ _ _ us hl => match us, hl with | [_, _], _ => rfl
  obtain ⟨f_mate_of, fd_mate_of, m_mate_of, F_mate_of⟩ := def_of X G c 55 55 (x := "mate_of") (st := top 25) rfl rfl
  have B_mate_of : Binds K fd_mate_of ["eight"] [] := F_mate_of.binds fun _ _ _ _ _ _ us hl => match us, hl with | [_], _ => rfl
  obtain ⟨f_whole_mate, fd_whole_mate, m_whole_mate, F_whole_mate⟩ := def_of X G c 56 56 (x := "whole_mate") (st := top 49) rfl rfl
  have B_whole_mate : Binds K fd_whole_mate ["whole"] [] := F_whole_mate.binds fun _ _ _ _ _ _ us hl => match us, hl with | [_], _ => rfl
  obtain ⟨f_size_of, fd_size_of, m_size_of, F_size_of⟩ := def_of X G c 57 57 (x := "size_of") (st := top 47) rfl rfl
  have B_size_of : Binds K fd_size_of ["whole"] [] := F_size_of.binds fun _ _ _ _ _ _ us hl => match us, hl with | [_], _ => rfl
  obtain ⟨f_whole_size, fd_whole_size, m_whole_size, F_whole_size⟩ := def_of X G c 58 58 (x := "whole_size") (st := top 50) rfl rfl
  have B_whole_size : Binds K fd_whole_size ["whole"] [] := F_whole_size.binds fun _ _ _ _ _ _ us hl => match us, hl with | [_], _ => rfl
  obtain ⟨f_sure_wholes, fd_sure_wholes, m_sure_wholes, F_sure_wholes⟩ := def_of X G c 59 59 (x := "sure_wholes") (st := top 44) rfl rfl
  have B_sure_wholes : Binds K fd_sure_wholes ["one", "other"] [] := F_sure_wholes.binds fun _ _ _ _ _ _ us hl => match us, hl with | [_, _], _ => rfl
  obtain ⟨f_whole_product, fd_whole_product, m_whole_product, F_whole_product⟩ := def_of X G c 60 60 (x := "whole_product") (st := top 48) rfl rfl
  have B_whole_product : Binds K fd_whole_product ["one", "other"] [] := F_whole_product.binds fun _ _ _ _ _ _ us hl => match us, hl with | [_, _], _ => rfl
  obtain ⟨f_of_eight, fd_of_eight, m_of_eight, F_of_eight⟩ := def_of X G c 61 61 (x := "of_eight") (st := top 52) rfl rfl
  have B_of_eight : Binds K fd_of_eight ["eight"] [] := F_of_eight.binds fun _ _ _ _ _ _ us hl => match us, hl with | [_], _ => rfl
  obtain ⟨f__law_whole_number, fd__law_whole_number, m__law_whole_number, F__law_whole_number⟩ := def_of X G c 62 62 (x := "_law_whole_number") (st := top 93) rfl rfl
  have B__law_whole_number : Binds K fd__law_whole_number ["tin", "top_so"] [] := F__law_whole_number.binds fun _ _ _ _ _ _ us hl => match us, hl with | [_, _], _ => rfl
  obtain ⟨f__law_eight, fd__law_eight, m__law_eight, F__law_eight⟩ := def_of X G c 63 63 (x := "_law_eight") (st := top 94) rfl rfl
  have B__law_eight : Binds K fd__law_eight ["tin", "top_so"] [] := F__law_eight.binds fun _ _ _ _ _ _ us hl => match us, hl with | [_, _], _ => rfl
  obtain ⟨f_power, fd_power, m_power, F_power⟩ := def_of X G c 64 64 (x := "power") (st := top 62) rfl rfl
  have B_power : Binds K fd_power ["eight", "many"] [] := F_power.binds fun _ _ _ _ _ _ us hl => match us, hl with | [_, _], _ => rfl
  obtain ⟨f__law_is_int, fd__law_is_int, m__law_is_int, F__law_is_int⟩ := def_of X G c 65 65 (x := "_law_is_int") (st := top 84) rfl rfl
  have B__law_is_int : Binds K fd__law_is_int ["k"] [] := F__law_is_int.binds fun _ _ _ _ _ _ us hl => match us, hl with | [_], _ => rfl
  obtain ⟨f_told_in, fd_told_in, m_told_in, F_told_in⟩ := def_of X G c 66 66 (x := "told_in") (st := top 69) rfl rfl
  have B_told_in : Binds K fd_told_in ["eight", "goal"] [] := F_told_in.binds fun _ _ _ _ _ _ us hl => match us, hl with | [_, _], _ => rfl
  obtain ⟨f_is_power_of, fd_is_power_of, m_is_power_of, F_is_power_of⟩ := def_of X G c 67 67 (x := "is_power_of") (st := top 68) rfl rfl
  have B_is_power_of : Binds K fd_is_power_of ["eight", "goal"] [] := F_is_power_of.binds fun _ _ _ _ _ _ us hl => match us, hl with | [_, _], _ => rfl
  obtain ⟨f__law_unmarked, fd__law_unmarked, m__law_unmarked, F__law_unmarked⟩ := def_of X G c 68 68 (x := "_law_unmarked") (st := top 83) rfl rfl
  have B__law_unmarked : Binds K fd__law_unmarked ["told_so"] [] := F__law_unmarked.binds fun _ _ _ _ _ _ us hl => match us, hl with | [_], _ => rfl
  obtain ⟨f_power_told, fd_power_told, m_power_told, F_power_told⟩ := def_of X G c 69 69 (x := "power_told") (st := top 70) rfl rfl
  have B_power_told : Binds K fd_power_told ["eight", "goal"] [] := F_power_told.binds fun _ _ _ _ _ _ us hl => match us, hl with | [_, _], _ => rfl
  obtain ⟨f__law_heard, fd__law_heard, m__law_heard, F__law_heard⟩ := def_of X G c 70 70 (x := "_law_heard") (st := top 101) rfl rfl
  have B__law_heard : Binds K fd__law_heard ["own", "one", "two"] [] := F__law_heard.binds fun _ _ _ _ _ _ us hl => match us, hl with | [_, _, _], _ => rfl
  obtain ⟨f_sure_times, fd_sure_times, m_sure_times, F_sure_times⟩ := def_of X G c 71 71 (x := "sure_times") (st := top 61) rfl rfl
  have B_sure_times : Binds K fd_sure_times ["value"] [] := F_sure_times.binds fun _ _ _ _ _ _ us hl => match us, hl with | [_], _ => rfl
  obtain ⟨f_roots_of, fd_roots_of, m_roots_of, F_roots_of⟩ := def_of X G c 72 72 (x := "roots_of") (st := top 66) rfl rfl
  have B_roots_of : Binds K fd_roots_of ["goal", "times"] [] := F_roots_of.binds fun _ _ _ _ _ _ us hl => match us, hl with | [_, _], _ => rfl
  obtain ⟨f__law_dot, fd__law_dot, m__law_dot, F__law_dot⟩ := def_of X G c 73 73 (x := "_law_dot") (st := top 89) rfl rfl
  have B__law_dot : Binds K fd__law_dot ["one", "two"] [] := F__law_dot.binds fun _ _ _ _ _ _ us hl => match us, hl with | [_, _], _ => rfl
  obtain ⟨f_square_law, fd_square_law, m_square_law, F_square_law⟩ := def_of X G c 74 74 (x := "square_law") (st := top 33) rfl rfl
  have B_square_law : Binds K fd_square_law ["eight"] [] := F_square_law.binds fun _ _ _ _ _ _ us hl => match us, hl with | [_], _ => rfl
  obtain ⟨f_powers_added, fd_powers_added, m_powers_added, F_powers_added⟩ := def_of X G c 75 75 (x := "powers_added") (st := top 65) rfl rfl
  have B_powers_added : Binds K fd_powers_added ["eight", "many"] [] := F_powers_added.binds fun _ _ _ _ _ _ us hl => match us, hl with | [_, _], _ => rfl
  obtain ⟨f__law_plus, fd__law_plus, m__law_plus, F__law_plus⟩ := def_of X G c 76 76 (x := "_law_plus") (st := top 90) rfl rfl
  have B__law_plus : Binds K fd__law_plus ["one", "two"] [] := F__law_plus.binds fun _ _ _ _ _ _ us hl => match us, hl with | [_, _], _ => rfl
  obtain ⟨f__law_size_power, fd__law_size_power, m__law_size_power, F__law_size_power⟩ := def_of X G c 77 77 (x := "_law_size_power") (st := top 104) rfl rfl
  have B__law_size_power : Binds K fd__law_size_power ["eight_so", "many_so"] [] := F__law_size_power.binds fun _ _ _ _ _ _ us hl => match us, hl with | [_, _], _ => rfl
  obtain ⟨f_power_pair, fd_power_pair, m_power_pair, F_power_pair⟩ := def_of X G c 78 78 (x := "power_pair") (st := top 63) rfl rfl
  have B_power_pair : Binds K fd_power_pair ["eight", "many"] [] := F_power_pair.binds fun _ _ _ _ _ _ us hl => match us, hl with | [_, _], _ => rfl
  obtain ⟨f__law_some, fd__law_some, m__law_some, F__law_some⟩ := def_of X G c 79 79 (x := "_law_some") (st := top 95) rfl rfl
  have B__law_some : Binds K fd__law_some ["tin", "top_so"] [] := F__law_some.binds fun _ _ _ _ _ _ us hl => match us, hl with | [_, _], _ => rfl
  obtain ⟨f__law_eights_right, fd__law_eights_right, m__law_eights_right, F__law_eights_right⟩ := def_of X G c 80 80 (x := "_law_eights_right") (st := top 103) rfl rfl
  have B__law_eights_right : Binds K fd__law_eights_right ["tin"] [] := F__law_eights_right.binds fun _ _ _ _ _ _ us hl => match us, hl with | [_], _ => rfl
  obtain ⟨f__law_box, fd__law_box, m__law_box, F__law_box⟩ := def_of X G c 81 81 (x := "_law_box") (st := top 77) rfl rfl
  have B__law_box : Binds K fd__law_box ["script", "k"] [] := F__law_box.binds fun _ _ _ _ _ _ us hl => match us, hl with | [_, _], _ => rfl
  obtain ⟨f__law_cells, fd__law_cells, m__law_cells, F__law_cells⟩ := def_of X G c 82 82 (x := "_law_cells") (st := top 79) rfl rfl
  have B__law_cells : Binds K fd__law_cells ["script", "most_so"] [] := F__law_cells.binds fun _ _ _ _ _ _ us hl => match us, hl with | [_, _], _ => rfl
  obtain ⟨f_law, fd_law, m_law, F_law, b_law⟩ := def_ofB (p := "script") X G c 83 83 (x := "law") (st := top 105) rfl rfl fun _ _ _ _ _ _ _ us hl => match us, hl with | [_], _ => rfl
  refine ⟨f_law, fd_law, m_law, b_law, fun base => ?_⟩
  have M : Md P w K mg base kcs kdc true := md_of X G c bts_free
  have K__law_by : FOk P w K mg base 1 "_law_by" D__law_by := fok_of (ps := ["one", "number_so"]) (N := ["one", "number_so", "own"]) (k := 0) M (TbOk.nil) m__law_by F__law_by B__law_by rfl c__law_by
  have K_product_of : FOk P w K mg base 1 "product_of" D_product_of := fok_of (ps := ["one", "other"]) (N := ["one", "other", "found", "place", "near", "row", "mate", "far", "sign", "letter"]) (k := 0) M (TbOk.nil) m_product_of F_product_of B_product_of rfl c_product_of
  have K_multiplied : FOk P w K mg base 2 "multiplied" D_multiplied := fok_of (ps := ["one", "other"]) (N := ["one", "other", "own"]) (k := 1) M (TbOk.cons (K_product_of.mono (by decide : 1 ≤ 1)) (TbOk.nil)) m_multiplied F_multiplied B_multiplied rfl c_multiplied
  have K_odd_places : FOk P w K mg base 1 "odd_places" D_odd_places := fok_of (ps := ["halves"]) (N := ["halves", "place", "own"]) (k := 0) M (TbOk.nil) m_odd_places F_odd_places B_odd_places rfl c_odd_places
  have K_set_of : FOk P w K mg base 1 "set_of" D_set_of := fok_of (ps := ["row"]) (N := ["row"]) (k := 0) M (TbOk.nil) m_set_of F_set_of B_set_of rfl c_set_of
  have K_code_words : FOk P w K mg base 2 "code_words" D_code_words := fok_of (ps := ["ring"]) (N := ["ring", "fours", "words", "table", "line", "own", "place"]) (k := 1) M (TbOk.cons (K_set_of.mono (by decide : 1 ≤ 1)) (TbOk.nil)) m_code_words F_code_words B_code_words rfl c_code_words
  have K_in_ring : FOk P w K mg base 3 "in_ring" D_in_ring := fok_of (ps := ["ring", "halves"]) (N := ["ring", "halves"]) (k := 2) M (TbOk.cons (K_odd_places.mono (by decide : 1 ≤ 2)) (TbOk.cons (K_code_words.mono (by decide : 2 ≤ 2)) (TbOk.nil))) m_in_ring F_in_ring B_in_ring rfl c_in_ring
  have K_root_down : FOk P w K mg base 1 "root_down" D_root_down := fok_of (ps := ["number"]) (N := ["number", "near", "far", "mid"]) (k := 0) M (TbOk.nil) m_root_down F_root_down B_root_down rfl c_root_down
  have K_sum_of : FOk P w K mg base 1 "sum_of" D_sum_of := fok_of (ps := ["one", "other"]) (N := ["one", "other", "near", "far"]) (k := 0) M (TbOk.nil) m_sum_of F_sum_of B_sum_of rfl c_sum_of
  have K_times_of : FOk P w K mg base 1 "times_of" D_times_of := fok_of (ps := ["row", "number"]) (N := ["row", "number", "own"]) (k := 0) M (TbOk.nil) m_times_of F_times_of B_times_of rfl c_times_of
  have K_pair_in : FOk P w K mg base 1 "pair_in" D_pair_in := fok_of (ps := ["rule", "many"]) (N := ["rule", "many", "lap", "trace", "whole", "now", "later"]) (k := 0) M (TbOk.nil) m_pair_in F_pair_in B_pair_in rfl c_pair_in
  have K_square_sum_of : FOk P w K mg base 1 "square_sum_of" D_square_sum_of := fok_of (ps := ["row"]) (N := ["row", "own"]) (k := 0) M (TbOk.nil) m_square_sum_of F_square_sum_of B_square_sum_of rfl c_square_sum_of
  have K_power_in : FOk P w K mg base 2 "power_in" D_power_in := fok_of (ps := ["eight", "many"]) (N := ["eight", "many", "first", "plain"]) (k := 1) M (TbOk.cons (K_sum_of.mono (by decide : 1 ≤ 1)) (TbOk.cons (K_times_of.mono (by decide : 1 ≤ 1)) (TbOk.cons (K_pair_in.mono (by decide : 1 ≤ 1)) (TbOk.cons (K_square_sum_of.mono (by decide : 1 ≤ 1)) (TbOk.nil))))) m_power_in F_power_in B_power_in rfl c_power_in
  have K_over_of : FOk P w K mg base 1 "over_of" D_over_of := fok_of (ps := ["row", "number"]) (N := ["row", "number", "own"]) (k := 0) M (TbOk.nil) m_over_of F_over_of B_over_of rfl c_over_of
  have K_common_of : FOk P w K mg base 1 "common_of" D_common_of := fok_of (ps := ["row"]) (N := ["row", "found", "own"]) (k := 0) M (TbOk.nil) m_common_of F_common_of B_common_of rfl c_common_of
  have K_side_of : FOk P w K mg base 1 "side_of" D_side_of := fok_of (ps := ["eight"]) (N := ["eight"]) (k := 0) M (TbOk.nil) m_side_of F_side_of B_side_of rfl c_side_of
  have K_raised : FOk P w K mg base 1 "raised" D_raised := fok_of (ps := ["number", "often"]) (N := ["number", "often", "found", "lap"]) (k := 0) M (TbOk.nil) m_raised F_raised B_raised rfl c_raised
  have K_root_of_number : FOk P w K mg base 2 "root_of_number" D_root_of_number := fok_of (ps := ["number", "times"]) (N := ["number", "times", "near", "far", "mid"]) (k := 1) M (TbOk.cons (K_raised.mono (by decide : 1 ≤ 1)) (TbOk.nil)) m_root_of_number F_root_of_number B_root_of_number rfl c_root_of_number
  have K_roots_in : FOk P w K mg base 3 "roots_in" D_roots_in := fok_of (ps := ["goal", "times"]) (N := ["goal", "times", "size", "side", "by", "found", "often", "left", "plain", "first", "second", "own"]) (k := 2) M (TbOk.cons (K_root_down.mono (by decide : 1 ≤ 2)) (TbOk.cons (K_power_in.mono (by decide : 2 ≤ 2)) (TbOk.cons (K_sum_of.mono (by decide : 1 ≤ 2)) (TbOk.cons (K_times_of.mono (by decide : 1 ≤ 2)) (TbOk.cons (K_square_sum_of.mono (by decide : 1 ≤ 2)) (TbOk.cons (K_over_of.mono (by decide : 1 ≤ 2)) (TbOk.cons (K_common_of.mono (by decide : 1 ≤ 2)) (TbOk.cons (K_side_of.mono (by decide : 1 ≤ 2)) (TbOk.cons (K_root_of_number.mono (by decide : 2 ≤ 2)) (TbOk.nil)))))))))) m_roots_in F_roots_in B_roots_in rfl c_roots_in
  have K_is_long : FOk P w K mg base 1 "is_long" D_is_long := fok_of (ps := ["thing", "length"]) (N := ["thing", "length"]) (k := 0) M (TbOk.nil) m_is_long F_is_long B_is_long rfl c_is_long
  have K_is_number : FOk P w K mg base 1 "is_number" D_is_number := fok_of (ps := ["thing"]) (N := ["thing"]) (k := 0) M (TbOk.nil) m_is_number F_is_number B_is_number rfl c_is_number
  have K_are_numbers : FOk P w K mg base 2 "are_numbers" D_are_numbers := fok_of (ps := ["thing"]) (N := ["thing", "own"]) (k := 1) M (TbOk.cons (K_is_number.mono (by decide : 1 ≤ 1)) (TbOk.nil)) m_are_numbers F_are_numbers B_are_numbers rfl c_are_numbers
  have K_is_eight_in : FOk P w K mg base 3 "is_eight_in" D_is_eight_in := fok_of (ps := ["thing"]) (N := ["thing"]) (k := 2) M (TbOk.cons (K_is_long.mono (by decide : 1 ≤ 2)) (TbOk.cons (K_are_numbers.mono (by decide : 2 ≤ 2)) (TbOk.nil))) m_is_eight_in F_is_eight_in B_is_eight_in rfl c_is_eight_in
  have K_is_whole_in : FOk P w K mg base 4 "is_whole_in" D_is_whole_in := fok_of (ps := ["thing"]) (N := ["thing"]) (k := 3) M (TbOk.cons (K_is_eight_in.mono (by decide : 3 ≤ 3)) (TbOk.cons (K_in_ring.mono (by decide : 3 ≤ 3)) (TbOk.nil))) m_is_whole_in F_is_whole_in B_is_whole_in rfl c_is_whole_in
  have K_tupled_0 : FOk P w K mg base 0 "tupled" D_tupled_0 := fok_no m_tupled F_tupled B_tupled
  have K_tupled_1 : FOk P w K mg base 1 "tupled" D_tupled_1 := fok_of (ps := ["value"]) (N := ["value", "own"]) (k := 0) M (TbOk.cons (K_tupled_0) (TbOk.nil)) m_tupled F_tupled B_tupled rfl (c_tupled D_tupled_0)
  have K_tupled_2 : FOk P w K mg base 2 "tupled" D_tupled_2 := fok_of (ps := ["value"]) (N := ["value", "own"]) (k := 1) M (TbOk.cons (K_tupled_1) (TbOk.nil)) m_tupled F_tupled B_tupled rfl (c_tupled D_tupled_1)
  have K_tupled_3 : FOk P w K mg base 3 "tupled" D_tupled_3 := fok_of (ps := ["value"]) (N := ["value", "own"]) (k := 2) M (TbOk.cons (K_tupled_2) (TbOk.nil)) m_tupled F_tupled B_tupled rfl (c_tupled D_tupled_2)
  have K_tupled_4 : FOk P w K mg base 4 "tupled" D_tupled_4 := fok_of (ps := ["value"]) (N := ["value", "own"]) (k := 3) M (TbOk.cons (K_tupled_3) (TbOk.nil)) m_tupled F_tupled B_tupled rfl (c_tupled D_tupled_3)
  have K_tupled_5 : FOk P w K mg base 5 "tupled" D_tupled_5 := fok_of (ps := ["value"]) (N := ["value", "own"]) (k := 4) M (TbOk.cons (K_tupled_4) (TbOk.nil)) m_tupled F_tupled B_tupled rfl (c_tupled D_tupled_4)
  have K_tupled : FOk P w K mg base 5 "tupled" D_tupled := K_tupled_5
  have K_sure_whole : FOk P w K mg base 6 "sure_whole" D_sure_whole := fok_of (ps := ["value"]) (N := ["value", "own"]) (k := 5) M (TbOk.cons (K_is_whole_in.mono (by decide : 4 ≤ 5)) (TbOk.cons (K_tupled.mono (by decide : 5 ≤ 5)) (TbOk.nil))) m_sure_whole F_sure_whole B_sure_whole rfl c_sure_whole
  have K_whole_roots : FOk P w K mg base 7 "whole_roots" D_whole_roots := fok_of (ps := ["whole"]) (N := ["whole", "own", "found", "row"]) (k := 6) M (TbOk.cons (K_multiplied.mono (by decide : 2 ≤ 6)) (TbOk.cons (K_in_ring.mono (by decide : 3 ≤ 6)) (TbOk.cons (K_roots_in.mono (by decide : 3 ≤ 6)) (TbOk.cons (K_times_of.mono (by decide : 1 ≤ 6)) (TbOk.cons (K_sure_whole.mono (by decide : 6 ≤ 6)) (TbOk.nil)))))) m_whole_roots F_whole_roots B_whole_roots rfl c_whole_roots
  have K__law_four : FOk P w K mg base 1 "_law_four" D__law_four := fok_of (ps := ["one", "two"]) (N := ["one", "two", "a", "b", "c", "d", "p", "q", "r", "s"]) (k := 0) M (TbOk.nil) m__law_four F__law_four B__law_four rfl c__law_four
  have K__law_mul : FOk P w K mg base 2 "_law_mul" D__law_mul := fok_of (ps := ["one", "two"]) (N := ["one", "two", "near", "far", "a", "b", "c", "d", "x", "y"]) (k := 1) M (TbOk.cons (K__law_four.mono (by decide : 1 ≤ 1)) (TbOk.nil)) m__law_mul F__law_mul B__law_mul rfl c__law_mul
  have K__law_wmul : FOk P w K mg base 3 "_law_wmul" D__law_wmul := fok_of (ps := ["one", "two"]) (N := ["one", "two", "own"]) (k := 2) M (TbOk.cons (K__law_mul.mono (by decide : 2 ≤ 2)) (TbOk.nil)) m__law_wmul F__law_wmul B__law_wmul rfl c__law_wmul
  have K__law_same_0 : FOk P w K mg base 0 "_law_same" D__law_same_0 := fok_no m__law_same F__law_same B__law_same
  have K__law_same_1 : FOk P w K mg base 1 "_law_same" D__law_same_1 := fok_of (ps := ["got", "due"]) (N := ["got", "due", "mine", "its"]) (k := 0) M (TbOk.cons (K__law_same_0) (TbOk.nil)) m__law_same F__law_same B__law_same rfl (c__law_same D__law_same_0)
  have K__law_same_2 : FOk P w K mg base 2 "_law_same" D__law_same_2 := fok_of (ps := ["got", "due"]) (N := ["got", "due", "mine", "its"]) (k := 1) M (TbOk.cons (K__law_same_1) (TbOk.nil)) m__law_same F__law_same B__law_same rfl (c__law_same D__law_same_1)
  have K__law_same_3 : FOk P w K mg base 3 "_law_same" D__law_same_3 := fok_of (ps := ["got", "due"]) (N := ["got", "due", "mine", "its"]) (k := 2) M (TbOk.cons (K__law_same_2) (TbOk.nil)) m__law_same F__law_same B__law_same rfl (c__law_same D__law_same_2)
  have K__law_same_4 : FOk P w K mg base 4 "_law_same" D__law_same_4 := fok_of (ps := ["got", "due"]) (N := ["got", "due", "mine", "its"]) (k := 3) M (TbOk.cons (K__law_same_3) (TbOk.nil)) m__law_same F__law_same B__law_same rfl (c__law_same D__law_same_3)
  have K__law_same_5 : FOk P w K mg base 5 "_law_same" D__law_same_5 := fok_of (ps := ["got", "due"]) (N := ["got", "due", "mine", "its"]) (k := 4) M (TbOk.cons (K__law_same_4) (TbOk.nil)) m__law_same F__law_same B__law_same rfl (c__law_same D__law_same_4)
  have K__law_same : FOk P w K mg base 5 "_law_same" D__law_same := K__law_same_5
  have K_sure_number : FOk P w K mg base 2 "sure_number" D_sure_number := fok_of (ps := ["value"]) (N := ["value"]) (k := 1) M (TbOk.cons (K_is_number.mono (by decide : 1 ≤ 1)) (TbOk.nil)) m_sure_number F_sure_number B_sure_number rfl c_sure_number
  have K_order_in : FOk P w K mg base 1 "order_in" D_order_in := fok_of (ps := ["unit"]) (N := ["unit"]) (k := 0) M (TbOk.nil) m_order_in F_order_in B_order_in rfl c_order_in
  have K_sure_unit : FOk P w K mg base 7 "sure_unit" D_sure_unit := fok_of (ps := ["value"]) (N := ["value", "own"]) (k := 6) M (TbOk.cons (K_square_sum_of.mono (by decide : 1 ≤ 6)) (TbOk.cons (K_sure_whole.mono (by decide : 6 ≤ 6)) (TbOk.nil))) m_sure_unit F_sure_unit B_sure_unit rfl c_sure_unit
  have K_unit_power : FOk P w K mg base 8 "unit_power" D_unit_power := fok_of (ps := ["unit", "number"]) (N := ["unit", "number", "own", "found", "lap"]) (k := 7) M (TbOk.cons (K_sure_number.mono (by decide : 2 ≤ 7)) (TbOk.cons (K_order_in.mono (by decide : 1 ≤ 7)) (TbOk.cons (K_multiplied.mono (by decide : 2 ≤ 7)) (TbOk.cons (K_sure_unit.mono (by decide : 7 ≤ 7)) (TbOk.nil))))) m_unit_power F_unit_power B_unit_power rfl c_unit_power
  have K__law_left : FOk P w K mg base 1 "_law_left" D__law_left := fok_of (ps := ["number_so", "by_so"]) (N := ["number_so", "by_so"]) (k := 0) M (TbOk.nil) m__law_left F__law_left B__law_left rfl c__law_left
  have K_is_within : FOk P w K mg base 2 "is_within" D_is_within := fok_of (ps := ["thing", "least", "most"]) (N := ["thing", "least", "most"]) (k := 1) M (TbOk.cons (K_is_number.mono (by decide : 1 ≤ 1)) (TbOk.nil)) m_is_within F_is_within B_is_within rfl c_is_within
  have K_sure_power : FOk P w K mg base 3 "sure_power" D_sure_power := fok_of (ps := ["value"]) (N := ["value"]) (k := 2) M (TbOk.cons (K_is_within.mono (by decide : 2 ≤ 2)) (TbOk.nil)) m_sure_power F_sure_power B_sure_power rfl c_sure_power
  have K_whole_power : FOk P w K mg base 7 "whole_power" D_whole_power := fok_of (ps := ["whole", "many"]) (N := ["whole", "many", "own", "first", "plain"]) (k := 6) M (TbOk.cons (K_sum_of.mono (by decide : 1 ≤ 6)) (TbOk.cons (K_times_of.mono (by decide : 1 ≤ 6)) (TbOk.cons (K_pair_in.mono (by decide : 1 ≤ 6)) (TbOk.cons (K_sure_power.mono (by decide : 3 ≤ 6)) (TbOk.cons (K_square_sum_of.mono (by decide : 1 ≤ 6)) (TbOk.cons (K_sure_whole.mono (by decide : 6 ≤ 6)) (TbOk.nil))))))) m_whole_power F_whole_power B_whole_power rfl c_whole_power
  have K__law_lists_0 : FOk P w K mg base 0 "_law_lists" D__law_lists_0 := fok_no m__law_lists F__law_lists B__law_lists
  have K__law_lists_1 : FOk P w K mg base 1 "_law_lists" D__law_lists_1 := fok_of (ps := ["matter"]) (N := ["matter", "bit"]) (k := 0) M (TbOk.cons (K__law_lists_0) (TbOk.nil)) m__law_lists F__law_lists B__law_lists rfl (c__law_lists D__law_lists_0)
  have K__law_lists_2 : FOk P w K mg base 2 "_law_lists" D__law_lists_2 := fok_of (ps := ["matter"]) (N := ["matter", "bit"]) (k := 1) M (TbOk.cons (K__law_lists_1) (TbOk.nil)) m__law_lists F__law_lists B__law_lists rfl (c__law_lists D__law_lists_1)
  have K__law_lists_3 : FOk P w K mg base 3 "_law_lists" D__law_lists_3 := fok_of (ps := ["matter"]) (N := ["matter", "bit"]) (k := 2) M (TbOk.cons (K__law_lists_2) (TbOk.nil)) m__law_lists F__law_lists B__law_lists rfl (c__law_lists D__law_lists_2)
  have K__law_lists_4 : FOk P w K mg base 4 "_law_lists" D__law_lists_4 := fok_of (ps := ["matter"]) (N := ["matter", "bit"]) (k := 3) M (TbOk.cons (K__law_lists_3) (TbOk.nil)) m__law_lists F__law_lists B__law_lists rfl (c__law_lists D__law_lists_3)
  have K__law_lists_5 : FOk P w K mg base 5 "_law_lists" D__law_lists_5 := fok_of (ps := ["matter"]) (N := ["matter", "bit"]) (k := 4) M (TbOk.cons (K__law_lists_4) (TbOk.nil)) m__law_lists F__law_lists B__law_lists rfl (c__law_lists D__law_lists_4)
  have K__law_lists : FOk P w K mg base 5 "_law_lists" D__law_lists := K__law_lists_5
  have K_order_of : FOk P w K mg base 8 "order_of" D_order_of := fok_of (ps := ["unit"]) (N := ["unit"]) (k := 7) M (TbOk.cons (K_order_in.mono (by decide : 1 ≤ 7)) (TbOk.cons (K_sure_unit.mono (by decide : 7 ≤ 7)) (TbOk.nil))) m_order_of F_order_of B_order_of rfl c_order_of
  have K__law_take : FOk P w K mg base 1 "_law_take" D__law_take := fok_of (ps := ["tin", "below_so"]) (N := ["tin", "below_so", "once_so", "wide_so", "twice_so", "drawn_so"]) (k := 0) M (TbOk.nil) m__law_take F__law_take B__law_take rfl c__law_take
  have K__law_mate : FOk P w K mg base 1 "_law_mate" D__law_mate := fok_of (ps := ["one"]) (N := ["one", "own"]) (k := 0) M (TbOk.nil) m__law_mate F__law_mate B__law_mate rfl c__law_mate
  have K_trace : FOk P w K mg base 7 "trace" D_trace := fok_of (ps := ["whole"]) (N := ["whole"]) (k := 6) M (TbOk.cons (K_sure_whole.mono (by decide : 6 ≤ 6)) (TbOk.nil)) m_trace F_trace B_trace rfl c_trace
  have K__law_of : FOk P w K mg base 2 "_law_of" D__law_of := fok_of (ps := ["tin", "goods_so"]) (N := ["tin", "goods_so"]) (k := 1) M (TbOk.cons (K__law_take.mono (by decide : 1 ≤ 1)) (TbOk.nil)) m__law_of F__law_of B__law_of rfl c__law_of
  have K__law_code : FOk P w K mg base 1 "_law_code" D__law_code := fok_of (ps := []) (N := []) (k := 0) M (TbOk.nil) m__law_code F__law_code B__law_code rfl c__law_code
  have K__law_signed : FOk P w K mg base 1 "_law_signed" D__law_signed := fok_of (ps := ["places_so"]) (N := ["places_so", "found", "k", "later_so", "own", "bit_so"]) (k := 0) M (TbOk.nil) m__law_signed F__law_signed B__law_signed rfl c__law_signed
  have K__law_letter : FOk P w K mg base 1 "_law_letter" D__law_letter := fok_of (ps := ["place_so"]) (N := ["place_so", "own"]) (k := 0) M (TbOk.nil) m__law_letter F__law_letter B__law_letter rfl c__law_letter
  have K__law_units : FOk P w K mg base 2 "_law_units" D__law_units := fok_of (ps := []) (N := ["found", "k", "own"]) (k := 1) M (TbOk.cons (K__law_code.mono (by decide : 1 ≤ 1)) (TbOk.cons (K__law_signed.mono (by decide : 1 ≤ 1)) (TbOk.cons (K__law_by.mono (by decide : 1 ≤ 1)) (TbOk.cons (K__law_letter.mono (by decide : 1 ≤ 1)) (TbOk.nil))))) m__law_units F__law_units B__law_units rfl c__law_units
  have K__law_unit : FOk P w K mg base 3 "_law_unit" D__law_unit := fok_of (ps := ["tin"]) (N := ["tin"]) (k := 2) M (TbOk.cons (K__law_of.mono (by decide : 2 ≤ 2)) (TbOk.cons (K__law_units.mono (by decide : 2 ≤ 2)) (TbOk.nil))) m__law_unit F__law_unit B__law_unit rfl c__law_unit
  have K__law_units_right : FOk P w K mg base 9 "_law_units_right" D__law_units_right := fok_of (ps := ["tin"]) (N := ["tin", "unit_so", "lap", "k", "square_so", "traces_so", "t", "here", "order_so", "roots_so", "own"]) (k := 8) M (TbOk.cons (K__law_by.mono (by decide : 1 ≤ 8)) (TbOk.cons (K_whole_roots.mono (by decide : 7 ≤ 8)) (TbOk.cons (K__law_wmul.mono (by decide : 3 ≤ 8)) (TbOk.cons (K__law_same.mono (by decide : 5 ≤ 8)) (TbOk.cons (K_unit_power.mono (by decide : 8 ≤ 8)) (TbOk.cons (K__law_left.mono (by decide : 1 ≤ 8)) (TbOk.cons (K_whole_power.mono (by decide : 7 ≤ 8)) (TbOk.cons (K__law_lists.mono (by decide : 5 ≤ 8)) (TbOk.cons (K_order_of.mono (by decide : 8 ≤ 8)) (TbOk.cons (K__law_take.mono (by decide : 1 ≤ 8)) (TbOk.cons (K__law_mate.mono (by decide : 1 ≤ 8)) (TbOk.cons (K_trace.mono (by decide : 7 ≤ 8)) (TbOk.cons (K__law_unit.mono (by decide : 3 ≤ 8)) (TbOk.nil)))))))))))))) m__law_units_right F__law_units_right B__law_units_right rfl c__law_units_right
  have K_sure_eight : FOk P w K mg base 6 "sure_eight" D_sure_eight := fok_of (ps := ["value"]) (N := ["value", "own"]) (k := 5) M (TbOk.cons (K_is_eight_in.mono (by decide : 3 ≤ 5)) (TbOk.cons (K_tupled.mono (by decide : 5 ≤ 5)) (TbOk.nil))) m_sure_eight F_sure_eight B_sure_eight rfl c_sure_eight
  have K_size : FOk P w K mg base 7 "size" D_size := fok_of (ps := ["eight"]) (N := ["eight"]) (k := 6) M (TbOk.cons (K_square_sum_of.mono (by decide : 1 ≤ 6)) (TbOk.cons (K_sure_eight.mono (by decide : 6 ≤ 6)) (TbOk.nil))) m_size F_size B_size rfl c_size
  have K_sure_two : FOk P w K mg base 7 "sure_two" D_sure_two := fok_of (ps := ["one", "other"]) (N := ["one", "other"]) (k := 6) M (TbOk.cons (K_sure_eight.mono (by decide : 6 ≤ 6)) (TbOk.nil)) m_sure_two F_sure_two B_sure_two rfl c_sure_two
  have K_product : FOk P w K mg base 8 "product" D_product := fok_of (ps := ["one", "other"]) (N := ["one", "other", "near", "far"]) (k := 7) M (TbOk.cons (K_product_of.mono (by decide : 1 ≤ 7)) (TbOk.cons (K_sure_two.mono (by decide : 7 ≤ 7)) (TbOk.nil))) m_product F_product B_product rfl c_product
  have K_mate_of : FOk P w K mg base 1 "mate_of" D_mate_of := fok_of (ps := ["eight"]) (N := ["eight", "own"]) (k := 0) M (TbOk.nil) m_mate_of F_mate_of B_mate_of rfl c_mate_of
  have K_whole_mate : FOk P w K mg base 7 "whole_mate" D_whole_mate := fok_of (ps := ["whole"]) (N := ["whole"]) (k := 6) M (TbOk.cons (K_mate_of.mono (by decide : 1 ≤ 6)) (TbOk.cons (K_sure_whole.mono (by decide : 6 ≤ 6)) (TbOk.nil))) m_whole_mate F_whole_mate B_whole_mate rfl c_whole_mate
  have K_size_of : FOk P w K mg base 2 "size_of" D_size_of := fok_of (ps := ["whole"]) (N := ["whole"]) (k := 1) M (TbOk.cons (K_square_sum_of.mono (by decide : 1 ≤ 1)) (TbOk.nil)) m_size_of F_size_of B_size_of rfl c_size_of
  have K_whole_size : FOk P w K mg base 7 "whole_size" D_whole_size := fok_of (ps := ["whole"]) (N := ["whole"]) (k := 6) M (TbOk.cons (K_size_of.mono (by decide : 2 ≤ 6)) (TbOk.cons (K_sure_whole.mono (by decide : 6 ≤ 6)) (TbOk.nil))) m_whole_size F_whole_size B_whole_size rfl c_whole_size
  have K_sure_wholes : FOk P w K mg base 7 "sure_wholes" D_sure_wholes := fok_of (ps := ["one", "other"]) (N := ["one", "other"]) (k := 6) M (TbOk.cons (K_sure_whole.mono (by decide : 6 ≤ 6)) (TbOk.nil)) m_sure_wholes F_sure_wholes B_sure_wholes rfl c_sure_wholes
  have K_whole_product : FOk P w K mg base 8 "whole_product" D_whole_product := fok_of (ps := ["one", "other"]) (N := ["one", "other", "near", "far"]) (k := 7) M (TbOk.cons (K_multiplied.mono (by decide : 2 ≤ 7)) (TbOk.cons (K_sure_wholes.mono (by decide : 7 ≤ 7)) (TbOk.nil))) m_whole_product F_whole_product B_whole_product rfl c_whole_product
  have K_of_eight : FOk P w K mg base 7 "of_eight" D_of_eight := fok_of (ps := ["eight"]) (N := ["eight"]) (k := 6) M (TbOk.cons (K_times_of.mono (by decide : 1 ≤ 6)) (TbOk.cons (K_sure_eight.mono (by decide : 6 ≤ 6)) (TbOk.nil))) m_of_eight F_of_eight B_of_eight rfl c_of_eight
  have K__law_whole_number : FOk P w K mg base 2 "_law_whole_number" D__law_whole_number := fok_of (ps := ["tin", "top_so"]) (N := ["tin", "top_so"]) (k := 1) M (TbOk.cons (K__law_take.mono (by decide : 1 ≤ 1)) (TbOk.nil)) m__law_whole_number F__law_whole_number B__law_whole_number rfl c__law_whole_number
  have K__law_eight : FOk P w K mg base 3 "_law_eight" D__law_eight := fok_of (ps := ["tin", "top_so"]) (N := ["tin", "top_so", "k"]) (k := 2) M (TbOk.cons (K__law_whole_number.mono (by decide : 2 ≤ 2)) (TbOk.cons (K__law_take.mono (by decide : 1 ≤ 2)) (TbOk.nil))) m__law_eight F__law_eight B__law_eight rfl c__law_eight
  have K_power : FOk P w K mg base 7 "power" D_power := fok_of (ps := ["eight", "many"]) (N := ["eight", "many", "own"]) (k := 6) M (TbOk.cons (K_power_in.mono (by decide : 2 ≤ 6)) (TbOk.cons (K_sure_power.mono (by decide : 3 ≤ 6)) (TbOk.cons (K_sure_eight.mono (by decide : 6 ≤ 6)) (TbOk.nil)))) m_power F_power B_power rfl c_power
  have K__law_is_int : FOk P w K mg base 1 "_law_is_int" D__law_is_int := fok_of (ps := ["k"]) (N := ["k"]) (k := 0) M (TbOk.nil) m__law_is_int F__law_is_int B__law_is_int rfl c__law_is_int
  have K_told_in : FOk P w K mg base 2 "told_in" D_told_in := fok_of (ps := ["eight", "goal"]) (N := ["eight", "goal", "many", "rule", "now", "later"]) (k := 1) M (TbOk.cons (K_sum_of.mono (by decide : 1 ≤ 1)) (TbOk.cons (K_times_of.mono (by decide : 1 ≤ 1)) (TbOk.cons (K_square_sum_of.mono (by decide : 1 ≤ 1)) (TbOk.nil)))) m_told_in F_told_in B_told_in rfl c_told_in
  have K_is_power_of : FOk P w K mg base 7 "is_power_of" D_is_power_of := fok_of (ps := ["eight", "goal"]) (N := ["eight", "goal", "own"]) (k := 6) M (TbOk.cons (K_told_in.mono (by decide : 2 ≤ 6)) (TbOk.cons (K_sure_eight.mono (by decide : 6 ≤ 6)) (TbOk.nil))) m_is_power_of F_is_power_of B_is_power_of rfl c_is_power_of
  have K__law_unmarked : FOk P w K mg base 1 "_law_unmarked" D__law_unmarked := fok_of (ps := ["told_so"]) (N := ["told_so"]) (k := 0) M (TbOk.nil) m__law_unmarked F__law_unmarked B__law_unmarked rfl c__law_unmarked
  have K_power_told : FOk P w K mg base 7 "power_told" D_power_told := fok_of (ps := ["eight", "goal"]) (N := ["eight", "goal", "own", "found"]) (k := 6) M (TbOk.cons (K_told_in.mono (by decide : 2 ≤ 6)) (TbOk.cons (K_sure_eight.mono (by decide : 6 ≤ 6)) (TbOk.nil))) m_power_told F_power_told B_power_told rfl c_power_told
  have K__law_heard : FOk P w K mg base 8 "_law_heard" D__law_heard := fok_of (ps := ["own", "one", "two"]) (N := ["own", "one", "two", "told_so", "caught"]) (k := 7) M (TbOk.cons (K__law_unmarked.mono (by decide : 1 ≤ 7)) (TbOk.cons (K_power_told.mono (by decide : 7 ≤ 7)) (TbOk.nil))) m__law_heard F__law_heard B__law_heard rfl c__law_heard
  have K_sure_times : FOk P w K mg base 3 "sure_times" D_sure_times := fok_of (ps := ["value"]) (N := ["value"]) (k := 2) M (TbOk.cons (K_is_within.mono (by decide : 2 ≤ 2)) (TbOk.nil)) m_sure_times F_sure_times B_sure_times rfl c_sure_times
  have K_roots_of : FOk P w K mg base 7 "roots_of" D_roots_of := fok_of (ps := ["goal", "times"]) (N := ["goal", "times", "own", "told"]) (k := 6) M (TbOk.cons (K_roots_in.mono (by decide : 3 ≤ 6)) (TbOk.cons (K_sure_times.mono (by decide : 3 ≤ 6)) (TbOk.cons (K_sure_eight.mono (by decide : 6 ≤ 6)) (TbOk.nil)))) m_roots_of F_roots_of B_roots_of rfl c_roots_of
  have K__law_dot : FOk P w K mg base 1 "_law_dot" D__law_dot := fok_of (ps := ["one", "two"]) (N := ["one", "two", "a", "b"]) (k := 0) M (TbOk.nil) m__law_dot F__law_dot B__law_dot rfl c__law_dot
  have K_square_law : FOk P w K mg base 7 "square_law" D_square_law := fok_of (ps := ["eight"]) (N := ["eight", "own"]) (k := 6) M (TbOk.cons (K_square_sum_of.mono (by decide : 1 ≤ 6)) (TbOk.cons (K_sure_eight.mono (by decide : 6 ≤ 6)) (TbOk.nil))) m_square_law F_square_law B_square_law rfl c_square_law
  have K_powers_added : FOk P w K mg base 7 "powers_added" D_powers_added := fok_of (ps := ["eight", "many"]) (N := ["eight", "many", "own", "found", "lap"]) (k := 6) M (TbOk.cons (K_sure_power.mono (by decide : 3 ≤ 6)) (TbOk.cons (K_sum_of.mono (by decide : 1 ≤ 6)) (TbOk.cons (K_power_in.mono (by decide : 2 ≤ 6)) (TbOk.cons (K_sure_eight.mono (by decide : 6 ≤ 6)) (TbOk.nil))))) m_powers_added F_powers_added B_powers_added rfl c_powers_added
  have K__law_plus : FOk P w K mg base 1 "_law_plus" D__law_plus := fok_of (ps := ["one", "two"]) (N := ["one", "two", "a", "b"]) (k := 0) M (TbOk.nil) m__law_plus F__law_plus B__law_plus rfl c__law_plus
  have K__law_size_power : FOk P w K mg base 2 "_law_size_power" D__law_size_power := fok_of (ps := ["eight_so", "many_so"]) (N := ["eight_so", "many_so", "found", "lap"]) (k := 1) M (TbOk.cons (K__law_dot.mono (by decide : 1 ≤ 1)) (TbOk.nil)) m__law_size_power F__law_size_power B__law_size_power rfl c__law_size_power
  have K_power_pair : FOk P w K mg base 7 "power_pair" D_power_pair := fok_of (ps := ["eight", "many"]) (N := ["eight", "many", "own"]) (k := 6) M (TbOk.cons (K_pair_in.mono (by decide : 1 ≤ 6)) (TbOk.cons (K_sure_power.mono (by decide : 3 ≤ 6)) (TbOk.cons (K_square_sum_of.mono (by decide : 1 ≤ 6)) (TbOk.cons (K_sure_eight.mono (by decide : 6 ≤ 6)) (TbOk.nil))))) m_power_pair F_power_pair B_power_pair rfl c_power_pair
  have K__law_some : FOk P w K mg base 4 "_law_some" D__law_some := fok_of (ps := ["tin", "top_so"]) (N := ["tin", "top_so", "own"]) (k := 3) M (TbOk.cons (K__law_letter.mono (by decide : 1 ≤ 3)) (TbOk.cons (K__law_take.mono (by decide : 1 ≤ 3)) (TbOk.cons (K__law_eight.mono (by decide : 3 ≤ 3)) (TbOk.nil)))) m__law_some F__law_some B__law_some rfl c__law_some
  have K__law_eights_right : FOk P w K mg base 9 "_law_eights_right" D__law_eights_right := fok_of (ps := ["tin"]) (N := ["tin", "eight_so", "rows_so", "lap", "here", "total_so", "k", "goal", "told_so", "got", "mine_so", "roots_so", "twice_so", "other", "u", "v", "a", "b", "c", "d", "own", "j"]) (k := 8) M (TbOk.cons (K__law_same.mono (by decide : 5 ≤ 8)) (TbOk.cons (K__law_by.mono (by decide : 1 ≤ 8)) (TbOk.cons (K__law_mate.mono (by decide : 1 ≤ 8)) (TbOk.cons (K_size.mono (by decide : 7 ≤ 8)) (TbOk.cons (K_product.mono (by decide : 8 ≤ 8)) (TbOk.cons (K_whole_mate.mono (by decide : 7 ≤ 8)) (TbOk.cons (K_whole_size.mono (by decide : 7 ≤ 8)) (TbOk.cons (K_whole_product.mono (by decide : 8 ≤ 8)) (TbOk.cons (K_of_eight.mono (by decide : 7 ≤ 8)) (TbOk.cons (K_whole_power.mono (by decide : 7 ≤ 8)) (TbOk.cons (K__law_eight.mono (by decide : 3 ≤ 8)) (TbOk.cons (K_power.mono (by decide : 7 ≤ 8)) (TbOk.cons (K__law_is_int.mono (by decide : 1 ≤ 8)) (TbOk.cons (K_is_power_of.mono (by decide : 7 ≤ 8)) (TbOk.cons (K__law_heard.mono (by decide : 8 ≤ 8)) (TbOk.cons (K_power_told.mono (by decide : 7 ≤ 8)) (TbOk.cons (K_roots_of.mono (by decide : 7 ≤ 8)) (TbOk.cons (K__law_take.mono (by decide : 1 ≤ 8)) (TbOk.cons (K__law_dot.mono (by decide : 1 ≤ 8)) (TbOk.cons (K_square_law.mono (by decide : 7 ≤ 8)) (TbOk.cons (K_powers_added.mono (by decide : 7 ≤ 8)) (TbOk.cons (K__law_mul.mono (by decide : 2 ≤ 8)) (TbOk.cons (K__law_plus.mono (by decide : 1 ≤ 8)) (TbOk.cons (K__law_size_power.mono (by decide : 2 ≤ 8)) (TbOk.cons (K_power_pair.mono (by decide : 7 ≤ 8)) (TbOk.cons (K__law_lists.mono (by decide : 5 ≤ 8)) (TbOk.cons (K__law_letter.mono (by decide : 1 ≤ 8)) (TbOk.cons (K__law_some.mono (by decide : 4 ≤ 8)) (TbOk.nil))))))))))))))))))))))))))))) m__law_eights_right F__law_eights_right B__law_eights_right rfl c__law_eights_right
  have K__law_box : FOk P w K mg base 1 "_law_box" D__law_box := fok_of (ps := ["script", "k"]) (N := ["script", "k", "bit_so"]) (k := 0) M (TbOk.nil) m__law_box F__law_box B__law_box rfl c__law_box
  have K__law_cells : FOk P w K mg base 1 "_law_cells" D__law_cells := fok_of (ps := ["script", "most_so"]) (N := ["script", "most_so", "cells_so", "k", "bit_so", "at_so"]) (k := 0) M (TbOk.nil) m__law_cells F__law_cells B__law_cells rfl c__law_cells
  exact fnok_of (ps := ["script"]) (N := ["script", "tin", "lap"]) (k := 9) M (TbOk.cons (K__law_units_right.mono (by decide : 9 ≤ 9)) (TbOk.cons (K__law_eights_right.mono (by decide : 9 ≤ 9)) (TbOk.cons (K__law_box.mono (by decide : 1 ≤ 9)) (TbOk.cons (K__law_cells.mono (by decide : 1 ≤ 9)) (TbOk.nil))))) F_law rfl c_law
end LawK80
end
-- text LawK80Run
section
set_option maxHeartbeats 0
namespace LawK80
open PySem PySem.Spec L2 Mn PyProof.Rows
abbrev R : PySem.W.OpenRow := PySem.W.OpenLaw.row PySem.Challenge.rw_eightparts_k80_main_across_powers_traces
abbrev hk : PySem.W.Hook := hookM hd
def ob (s : PySem.W.SharedT) : AlM := obsM hd (He.frG (HandSHeadRun.getT s) (asM (HandSHeadRun.getT s)))
theorem ob_eq (s : PySem.W.SharedT) : ob s = hk.obs s.abs := hookM_eq (HandSHeadRun.getT_eq s)
theorem run1 (w : World) : HandSHeadRun.RunEqI R (PySem.W.view R.prog [0, 105]) hk ob 20000 los (w.withFollow "special-get-raises" true) := by
  unfold HandSHeadRun.RunEqI
  kernel_rfl
theorem run0 (w : World) : HandSHeadRun.RunEqI R (PySem.W.view R.prog [0, 105]) hk ob 20000 los (w.withFollow "special-get-raises" false) := by
  unfold HandSHeadRun.RunEqI
  kernel_rfl
end LawK80
end
-- text MnPl
/-! Mn: reckoning with denotations -/
namespace Mn
open PySem PySem.Spec

/-- a row of ints as a value -/
abbrev ev (a : List Int) : PV := .tup (a.map .int)
theorem lcGo_ints {α : Type} {asg : Asg} {tst : TDen} {elt : Den} {env : Env} {h : MH} (g : α → PV) (f : α → PV) : ∀ (xs : List α), (∀ x ∈ xs, ∃ e, asg (g x) env = some e ∧ tst e h = some (true, h) ∧ elt e h = some (f x, h)) → lcGo asg tst elt env (xs.map g) h = some (xs.map f, h)
  | [], _ => rfl
  | x :: xs, hf => by
    obtain ⟨e, h1, h2, h3⟩ := hf x (List.mem_cons_self ..)
    have ih := lcGo_ints g f xs fun y hy => hf y (List.mem_cons_of_mem _ hy)
    rw [List.map_cons]
    unfold lcGo
    rw [h1]
    simp only [h2, h3, ih, List.map_cons]
/-- with a test -/
theorem lcGo_filter {α : Type} {asg : Asg} {tst : TDen} {elt : Den} {env : Env} {h : MH} (g : α → PV) (p : α → Bool) (f : α → PV) : ∀ (xs : List α), (∀ x ∈ xs, ∃ e, asg (g x) env = some e ∧ tst e h = some (p x, h) ∧ (p x = true → elt e h = some (f x, h))) → lcGo asg tst elt env (xs.map g) h = some ((xs.filter p).map f, h)
  | [], _ => rfl
  | x :: xs, hf => by
    obtain ⟨e, h1, h2, h3⟩ := hf x (List.mem_cons_self ..)
    have ih := lcGo_filter g p f xs fun y hy => hf y (List.mem_cons_of_mem _ hy)
    rw [List.map_cons]
    unfold lcGo
    rw [h1]
    cases hp : p x with
    | true => simp only [h2, hp, h3 hp, ih, List.filter_cons, if_true, List.map_cons]
    | false => simp [h2, hp, ih, List.filter_cons]
/-- a loop that goes to its end -/
theorem forGo_fold {α S : Type} {asg : Asg} {body : SDen} (g : α → PV) (step : S → α → S) (P : S → Env → MH → Prop) : ∀ (xs : List α) (s : S) (e : Env) (h : MH),
    (∀ x ∈ xs, ∀ s e h, P s e h → ∃ e1 e2 h2, asg (g x) e = some e1 ∧ (body e1 h = .nx e2 h2 ∨ body e1 h = .ct e2 h2) ∧ P (step s x) e2 h2) →
    P s e h → ∃ e' h', forGo asg body (xs.map g) e h = .nx e' h' ∧ P (xs.foldl step s) e' h'
  | [], s, e, h, _, hp => ⟨e, h, rfl, hp⟩
  | x :: xs, s, e, h, hb, hp => by
    obtain ⟨e1, e2, h2, a1, a2, a3⟩ := hb x (List.mem_cons_self ..) s e h hp
    obtain ⟨e', h', i1, i2⟩ := forGo_fold g step P xs _ e2 h2 (fun y hy => hb y (List.mem_cons_of_mem _ hy)) a3
    refine ⟨e', h', ?_, i2⟩
    rw [List.map_cons]
    unfold forGo
    rw [a1]
    rcases a2 with a2 | a2 <;> simp only [a2, i1]
theorem zip2_ints (a b : List Int) : zip2 (a.map .int) (b.map .int) = (a.zip b).map fun p => .tup [.int p.1, .int p.2] := by
  induction a generalizing b with
  | nil => rfl
  | cons x a ih => cases b with
    | nil => rfl
    | cons y b => simp [zip2, ih]
theorem enumL_ints (a : List Int) : ∀ k, enumL k (a.map .int) = (a.zipIdx k).map fun p => .tup [.int (p.2 : Int), .int p.1] := by
  induction a with
  | nil => intro k; rfl
  | cons x a ih => intro k; simp [enumL, ih]
theorem ble_lim {n : Nat} (h : n ≤ 100000) : Nat.ble n lim = true := Nat.ble_eq.mpr h
theorem sumI_ints (a : List Int) : sumI (a.map .int) = some a.sum := by
  induction a with
  | nil => rfl
  | cons x a ih => simp [sumI, ih]
theorem boolsOf_map {α : Type} (p : α → Bool) (a : List α) : boolsOf (a.map fun x => .bl (p x)) = some (a.map p) := by
  induction a with
  | nil => rfl
  | cons x a ih => simp [boolsOf, ih]
theorem belAll_ints (n : Nat) (a : List Int) : belAll n (a.map .int) = true := by
  induction a with
  | nil => rfl
  | cons x a ih => simp [belAll, PV.bel, ih]
theorem bel_ev (n : Nat) (a : List Int) : PV.bel n (ev a) = true := by simp [PV.bel, belAll_ints]
theorem e_mkT {xs : List PV} {h : MH} (hl : xs.length ≤ 100000) : mkT xs h = some (.tup xs, h) := by simp only [mkT, ble_lim hl]
theorem e_mkL0 {xs : List PV} {h : MH} (hl : xs.length ≤ 100000) : mkL 0 xs h = some (.lst xs, h) := by simp only [mkL, ble_lim hl]
theorem e_mkL1 {xs : List PV} {h : MH} (hl : xs.length ≤ 100000) : mkL 1 xs h = some (.ref h.length, h ++ [xs]) := by simp only [mkL, ble_lim hl]
theorem small_iff {i : Int} : small i = true ↔ -(2 ^ 64) < i ∧ i < 2 ^ 64 := by simp [small]
theorem mul_l {m : Nat} {i j : Int} {h : MH} (hs : small i = true) : opMul m (.int i) (.int j) h = some (.int (i * j), h) := by simp only [opMul, mulOk, hs, Bool.true_or]
theorem mul_w {m : Nat} {i j : Int} {h : MH} (hs : mulOk i j = true) : opMul m (.int i) (.int j) h = some (.int (i * j), h) := by simp only [opMul, hs]
theorem mul_r {m : Nat} {i j : Int} {h : MH} (hs : small j = true) : opMul m (.int i) (.int j) h = some (.int (i * j), h) := by simp only [opMul, mulOk, hs, Bool.true_or, Bool.or_true]
/-! combinators, applied -/
variable {e : Env} {h h1 h2 h3 : MH} {v w x y : PV}
theorem q_var {i : Nat} (hv : e[i]? = some (some v)) : dVar i e h = some (v, h) := by simp only [dVar, hv]
theorem q_c : dC v e h = some (v, h) := rfl
theorem q_bin {m : Nat} {op : Operator} {a b : Den} (ha : a e h = some (x, h1)) (hb : b e h1 = some (y, h2)) : dBin m op a b e h = binop m op x y h2 := by simp only [dBin, ha, hb]
theorem q_cmp {op : CmpOp} {a b : Den} (ha : a e h = some (x, h1)) (hb : b e h1 = some (y, h2)) : dCmp op a b e h = (cmpop op x y h2).map fun c => (.bl c, h2) := by simp only [dCmp, ha, hb]
theorem q_seq {a b : SDen} {e1 : Env} (ha : a e h = .nx e1 h1) : sSeq a b e h = b e1 h1 := by simp only [sSeq, ha]
theorem q_ret {a : Den} (ha : a e h = some (v, h1)) : sSeq (sRet a) sNext e h = .rt v h1 := by simp only [sSeq, sRet, ha]
theorem q_ret1 {a : Den} {b : SDen} (ha : a e h = some (v, h1)) : sSeq (sRet a) b e h = .rt v h1 := by simp only [sSeq, sRet, ha]
theorem q_asg {a : Den} {g : GDen} {e1 : Env} (ha : a e h = some (v, h1)) (hg : g v e h1 = some (e1, h2)) : sAsg a g e h = .nx e1 h2 := by simp only [sAsg, ha, hg]
theorem fin_data {n : Nat} (hv : v.bel n = true) (hn : ∀ m, v ≠ .ref m) : fin false n v h = .ok v (h.take n) := by
  cases v <;> first | exact absurd rfl (hn _) | simp only [fin, hv]
theorem run_rt {np ns : Nat} {body : SDen} {xs : List PV} (hl : Nat.beq xs.length np = true) (hb : body (xs.map some ++ List.replicate (ns - np) none) h = .rt v h1) : runF false np ns body xs h = fin false h.length v h1 := by simp only [runF, hl, hb]
/-- not a list of the heap -/
def nref : PV → Bool
  | .ref _ => false
  | _ => true
theorem done {np ns : Nat} {body : SDen} {xs : List PV} (hl : Nat.beq xs.length np = true) (hb : body (xs.map some ++ List.replicate (ns - np) none) h = .rt v h) (hv : v.bel h.length = true) (hn : nref v = true) : runF false np ns body xs h = .ok v h := by
  rw [run_rt hl hb, fin_data hv (by intro m hm; subst hm; cases hn), List.take_length]
/-- the heap grew inside -/
theorem done_app {np ns : Nat} {body : SDen} {xs : List PV} {g : MH} (hl : Nat.beq xs.length np = true) (hb : body (xs.map some ++ List.replicate (ns - np) none) h = .rt v (h ++ g)) (hv : v.bel h.length = true) (hn : nref v = true) : runF false np ns body xs h = .ok v h := by
  rw [run_rt hl hb, fin_data hv (by intro m hm; subst hm; cases hn), List.take_left']
  rfl
theorem q_call {f : FDen} {l : LDen} {xs : List PV} (hl : l e h = some (xs, h1)) (hf : f xs h1 = .ok v h2) : dCall f l e h = some (v, h2) := by simp only [dCall, hl, sRun, hf]
theorem q_cons {a : Den} {l : LDen} {xs : List PV} (ha : a e h = some (x, h1)) (hl : l e h1 = some (xs, h2)) : lCons a l e h = some (x :: xs, h2) := by simp only [lCons, ha, hl]
theorem q_nil : lNil e h = some ([], h) := rfl
theorem q_one {a : Den} (ha : a e h = some (x, h1)) : lCons a lNil e h = some ([x], h1) := q_cons ha q_nil
theorem q_two {a b : Den} (ha : a e h = some (x, h1)) (hb : b e h1 = some (y, h2)) : lCons a (lCons b lNil) e h = some ([x, y], h2) := q_cons ha (q_one hb)
theorem q_blt {f : List PV → MH → Option (PV × MH)} {l : LDen} {xs : List PV} (hl : l e h = some (xs, h1)) : dBlt f l e h = f xs h1 := by simp only [dBlt, hl]
theorem q_tupL {a : Den} {xs : List PV} (ha : a e h = some (.lst xs, h1)) : dBlt bTuple (lCons a lNil) e h = some (.tup xs, h1) := by rw [q_blt (q_one ha)]; rfl
theorem q_sumL {a : Den} {r : List Int} (ha : a e h = some (.lst (r.map .int), h1)) : dBlt bSum (lCons a lNil) e h = some (.int r.sum, h1) := by rw [q_blt (q_one ha)]; simp only [bSum, lstH, sumI_ints, Option.map]
theorem q_allL {a : Den} {α : Type} {r : List α} {p : α → Bool} (ha : a e h = some (.lst (r.map fun x => .bl (p x)), h1)) : dBlt bAll (lCons a lNil) e h = some (.bl (r.all p), h1) := by
  rw [q_blt (q_one ha)]; simp only [bAll, lstH, boolsOf_map, Option.map, List.all_map]; rfl
theorem q_lc {α : Type} {it : IDen} {asg : Asg} {tst : TDen} {elt : Den} {own : List Nat} {g f : α → PV} {xs : List α} (hi : it e h = some (.st (xs.map g), h1)) (hl : xs.length ≤ 100000)
    (hf : ∀ x ∈ xs, ∃ e1, asg (g x) (wipe e own) = some e1 ∧ tst e1 h1 = some (true, h1) ∧ elt e1 h1 = some (f x, h1)) : dLc 0 it asg tst elt own e h = some (.lst (xs.map f), h1) := by
  simp only [dLc, hi, lcGo_ints g f xs hf, ble_lim (show (xs.map g).length ≤ 100000 by simpa using hl)]
  exact e_mkL0 (by simpa using hl)
theorem q_lcf {α : Type} {it : IDen} {asg : Asg} {tst : TDen} {elt : Den} {own : List Nat} {g f : α → PV} {p : α → Bool} {xs : List α} (hi : it e h = some (.st (xs.map g), h1)) (hl : xs.length ≤ 100000)
    (hf : ∀ x ∈ xs, ∃ e1, asg (g x) (wipe e own) = some e1 ∧ tst e1 h1 = some (p x, h1) ∧ (p x = true → elt e1 h1 = some (f x, h1))) : dLc 0 it asg tst elt own e h = some (.lst ((xs.filter p).map f), h1) := by
  simp only [dLc, hi, lcGo_filter g p f xs hf, ble_lim (show (xs.map g).length ≤ 100000 by simpa using hl)]
  exact e_mkL0 (by have := List.length_filter_le p xs; simp; omega)
theorem q_zi {a b : Den} {r s : List Int} (ha : a e h = some (ev r, h1)) (hb : b e h1 = some (ev s, h2)) : iZi a b e h = some (.st ((r.zip s).map fun p => .tup [.int p.1, .int p.2]), h2) := by
  simp only [iZi, ha, hb, stV, zip2_ints]
theorem q_zil {a b : Den} {r s : List Int} (ha : a e h = some (.lst (r.map .int), h1)) (hb : b e h1 = some (.lst (s.map .int), h2)) : iZi a b e h = some (.st ((r.zip s).map fun p => .tup [.int p.1, .int p.2]), h2) := by
  simp only [iZi, ha, hb, stV, zip2_ints]
theorem q_en {a : Den} {r : List Int} (ha : a e h = some (ev r, h1)) : iEn a e h = some (.st ((r.zipIdx 0).map fun p => .tup [.int (p.2 : Int), .int p.1]), h1) := by
  simp only [iEn, ha, stV, enumL_ints]
theorem rgL_nat (n : Nat) : rgL 0 (n : Int) = (List.range n).map fun (i : Nat) => PV.int (i : Int) := by simp [rgL]
theorem q_rg {a : Den} {n : Nat} (ha : a e h = some (.int (n : Int), h1)) (hn : n ≤ 100000) : iRg1 a e h = some (.st ((List.range n).map fun (i : Nat) => PV.int (i : Int)), h1) := by
  have ok : rgOk 0 (n : Int) = true := by simp only [rgOk, Bool.and_eq_true, decide_eq_true_eq]; refine ⟨by omega, by omega, by omega, by omega, ?_⟩; exact ble_lim (by omega)
  simp only [iRg1, ha, ok, rgL_nat]
theorem q_seqv {a : Den} {r : List Int} (ha : a e h = some (ev r, h1)) : iSeq a e h = some (.st (r.map .int), h1) := by simp only [iSeq, ha]
theorem q_seqt {a : Den} {r : List PV} (ha : a e h = some (.tup r, h1)) : iSeq a e h = some (.st r, h1) := by simp only [iSeq, ha]
theorem q_seql {a : Den} {r : List PV} (ha : a e h = some (.lst r, h1)) : iSeq a e h = some (.st r, h1) := by simp only [iSeq, ha]
theorem q_mulL {m : Nat} {a b : Den} {i j : Int} (ha : a e h = some (.int i, h1)) (hb : b e h1 = some (.int j, h2)) (hs : small i = true) : dBin m .Mult a b e h = some (.int (i * j), h2) := (q_bin ha hb).trans (mul_l (m := m) hs)
theorem q_mulR {m : Nat} {a b : Den} {i j : Int} (ha : a e h = some (.int i, h1)) (hb : b e h1 = some (.int j, h2)) (hs : small j = true) : dBin m .Mult a b e h = some (.int (i * j), h2) := (q_bin ha hb).trans (mul_r (m := m) hs)
theorem q_div {m : Nat} {a b : Den} {i j : Int} (ha : a e h = some (.int i, h1)) (hb : b e h1 = some (.int j, h2)) (hs : small j = true) (h0 : j ≠ 0) : dBin m .FloorDiv a b e h = some (.int (Int.fdiv i j), h2) := (q_bin ha hb).trans (by simp [binop, opDiv, divOk, hs, h0])
theorem q_divW {m : Nat} {a b : Den} {i j : Int} (ha : a e h = some (.int i, h1)) (hb : b e h1 = some (.int j, h2)) (hs : divOk j = true) (h0 : j ≠ 0) : dBin m .FloorDiv a b e h = some (.int (Int.fdiv i j), h2) := (q_bin ha hb).trans (by simp [binop, opDiv, hs, h0])
theorem q_mulW {m : Nat} {a b : Den} {i j : Int} (ha : a e h = some (.int i, h1)) (hb : b e h1 = some (.int j, h2)) (hs : mulOk i j = true) : dBin m .Mult a b e h = some (.int (i * j), h2) := (q_bin ha hb).trans (mul_w (m := m) hs)
theorem q_mod {m : Nat} {a b : Den} {i j : Int} (ha : a e h = some (.int i, h1)) (hb : b e h1 = some (.int j, h2)) (h0 : j ≠ 0) : dBin m .Mod a b e h = some (.int (Int.fmod i j), h2) := (q_bin ha hb).trans (by simp [binop, opMod, h0])
theorem q_if1 {t : TDen} {a b : SDen} (ht : t e h = some (true, h1)) : sIf t a b e h = a e h1 := by simp only [sIf, ht]
theorem q_if0 {t : TDen} {a b : SDen} (ht : t e h = some (false, h1)) : sIf t a b e h = b e h1 := by simp only [sIf, ht]
theorem q_val {a : Den} {c : Bool} (ha : a e h = some (.bl c, h1)) : tVal a e h = some (c, h1) := by simp only [tVal, ha]
theorem q_not {a : TDen} {c : Bool} (ha : a e h = some (c, h1)) : tNot a e h = some (!c, h1) := by simp only [tNot, ha]
theorem q_and1 {a b : Den} (ha : a e h = some (.bl true, h1)) : dAnd a b e h = b e h1 := by simp only [dAnd, ha]
theorem q_and0 {a b : Den} (ha : a e h = some (.bl false, h1)) : dAnd a b e h = some (.bl false, h1) := by simp only [dAnd, ha]
theorem q_dif1 {t : TDen} {a b : Den} (ht : t e h = some (true, h1)) : dIf t a b e h = a e h1 := by simp only [dIf, ht]
theorem q_dif0 {t : TDen} {a b : Den} (ht : t e h = some (false, h1)) : dIf t a b e h = b e h1 := by simp only [dIf, ht]
/-- a guard that does not strike -/
theorem q_guard {a : Den} {r b : SDen} (ha : a e h = some (.bl true, h1)) : sSeq (sIf (tNot (tVal a)) r sNext) b e h = b e h1 := q_seq ((q_if0 (q_not (q_val ha))).trans rfl)
/-! equality of rows -/
theorem eqvAll_list {α : Type} [DecidableEq α] (f : α → PyData) (hf : ∀ a b, PyData.eqv (f a) (f b) = decide (a = b)) : ∀ xs ys : List α, PyData.eqvAll (xs.map f) (ys.map f) = decide (xs = ys)
  | [], [] => by simp [PyData.eqvAll]
  | [], _ :: _ => by simp [PyData.eqvAll]
  | _ :: _, [] => by simp [PyData.eqvAll]
  | a :: r, b :: t => by
    simp only [List.map_cons, PyData.eqvAll, hf, eqvAll_list f hf r t]
    by_cases h : a = b <;> by_cases h' : r = t <;> simp [h, h']
theorem canLay_list {α : Type} (f : α → PyData) (hf : ∀ a, (f a).canLay0 = true) : ∀ xs : List α, PyData.canLayAll0 (xs.map f) = true
  | [] => by simp [PyData.canLayAll0]
  | a :: r => by simp [PyData.canLayAll0, hf, canLay_list f hf r]
theorem depth_list {α : Type} (f : α → PyData) (n : Nat) (hf : ∀ a, (f a).depth ≤ n) : ∀ xs : List α, PyData.depthAll (xs.map f) ≤ n
  | [] => by simp [PyData.depthAll]
  | a :: r => by
    have := depth_list f n hf r
    have := hf a
    simp only [List.map_cons, PyData.depthAll]
    omega
abbrev di (i : Int) : PyData := .int i
abbrev dr (a : List Int) : PyData := .tuple (a.map .int)
theorem di_eq (i j : Int) : PyData.eqv (di i) (di j) = decide (i = j) := by simp [PyData.eqv]; by_cases h : i = j <;> simp [h]
theorem di_lay (i : Int) : (di i).canLay0 = true := by simp [PyData.canLay0]
theorem di_dep (i : Int) : (di i).depth ≤ 1 := by simp [PyData.depth]
theorem dr_eq (a b : List Int) : PyData.eqv (dr a) (dr b) = decide (a = b) := by simp only [PyData.eqv]; exact eqvAll_list _ di_eq a b
theorem dr_lay (a : List Int) : (dr a).canLay0 = true := by simp only [PyData.canLay0]; exact canLay_list _ di_lay a
theorem dr_dep (a : List Int) : (dr a).depth ≤ 2 := by have : PyData.depthAll (a.map PyData.int) ≤ 1 := depth_list _ 1 di_dep a; simp only [PyData.depth]; omega
theorem shaped_of {d : PyData} (hl : d.canLay0 = true) (hd : d.depth ≤ 64) : SeqAt.shaped d = true := by simp [SeqAt.shaped, hl, hd]
theorem dataAll_list {α : Type} (g : α → PV) (f : α → PyData) (hf : ∀ a, (g a).data = some (f a)) : ∀ xs : List α, dataAll (xs.map g) = some (xs.map f)
  | [] => rfl
  | a :: r => by simp [dataAll, hf, dataAll_list g f hf r]
theorem data_ev (a : List Int) : (ev a).data = some (dr a) := by simp only [PV.data, dataAll_list PV.int di (fun _ => rfl), Option.map]
theorem eqH_int (i j : Int) : eqH h (.int i) (.int j) = some (decide (i = j)) := by
  have q : ∀ i : Int, dataH h (.int i) = some (di i) := fun _ => rfl
  simp only [eqH, q, shaped_of (di_lay i) (by have := di_dep i; omega), shaped_of (di_lay j) (by have := di_dep j; omega), Bool.and_self, di_eq]
theorem eqH_ev (a b : List Int) : eqH h (ev a) (ev b) = some (decide (a = b)) := by
  have q : ∀ a : List Int, dataH h (ev a) = some (dr a) := data_ev
  simp only [eqH, q, shaped_of (dr_lay a) (by have := dr_dep a; omega), shaped_of (dr_lay b) (by have := dr_dep b; omega), Bool.and_self, dr_eq]
theorem list_eq (a b : List PyData) : PyData.eqv (.list a) (.list b) = PyData.eqvAll a b := by simp only [PyData.eqv]
theorem tup_eq (a b : List PyData) : PyData.eqv (.tuple a) (.tuple b) = PyData.eqvAll a b := by simp only [PyData.eqv]
theorem list_ok {α : Type} (f : α → PyData) (hf : ∀ a, (f a).canLay0 = true) (n : Nat) (hd : ∀ a, (f a).depth ≤ n) (hn : n ≤ 60) (xs : List α) : SeqAt.shaped (.list (xs.map f)) = true :=
  shaped_of (by simp only [PyData.canLay0]; exact canLay_list f hf xs) (by have := depth_list f n hd xs; simp only [PyData.depth]; omega)
theorem tup_ok {α : Type} (f : α → PyData) (hf : ∀ a, (f a).canLay0 = true) (n : Nat) (hd : ∀ a, (f a).depth ≤ n) (hn : n ≤ 60) (xs : List α) : SeqAt.shaped (.tuple (xs.map f)) = true :=
  shaped_of (by simp only [PyData.canLay0]; exact canLay_list f hf xs) (by have := depth_list f n hd xs; simp only [PyData.depth]; omega)
theorem eqH_li (a b : List Int) : eqH h (.lst (a.map .int)) (.lst (b.map .int)) = some (decide (a = b)) := by
  have q : ∀ a : List Int, dataH h (.lst (a.map .int)) = some (.list (a.map di)) := fun a => by simp only [dataH, PV.data, dataAll_list PV.int di (fun _ => rfl), Option.map]
  simp only [eqH, q, list_ok di di_lay 1 di_dep (by omega), Bool.and_self, list_eq, eqvAll_list _ di_eq]
theorem eqH_le (a b : List (List Int)) : eqH h (.lst (a.map ev)) (.lst (b.map ev)) = some (decide (a = b)) := by
  have q : ∀ a : List (List Int), dataH h (.lst (a.map ev)) = some (.list (a.map dr)) := fun a => by simp only [dataH, PV.data, dataAll_list ev dr data_ev, Option.map]
  simp only [eqH, q, list_ok dr dr_lay 2 dr_dep (by omega), Bool.and_self, list_eq, eqvAll_list _ dr_eq]
theorem any_dr (a : List Int) (rs : List (List Int)) : ((rs.map dr).any fun z => PyData.eqv z (dr a)) = decide (a ∈ rs) := by
  induction rs with
  | nil => simp
  | cons r rs ih => simp only [List.map_cons, List.any_cons, ih, dr_eq, List.mem_cons]; by_cases h : a = r <;> simp [h, eq_comm]
theorem inH_le (a : List Int) (rs : List (List Int)) : inH h (ev a) (.lst (rs.map ev)) = some (decide (a ∈ rs)) := by
  have q : dataH h (.lst (rs.map ev)) = some (.list (rs.map dr)) := by simp only [dataH, PV.data, dataAll_list ev dr data_ev, Option.map]
  have q' : dataH h (ev a) = some (dr a) := data_ev a
  simp only [inH, q, q', list_ok dr dr_lay 2 dr_dep (by omega), shaped_of (dr_lay a) (by have := dr_dep a; omega), Bool.and_self, any_dr]
theorem inH_te (a : List Int) (rs : List (List Int)) : inH h (ev a) (.tup (rs.map ev)) = some (decide (a ∈ rs)) := by
  have q : dataH h (.tup (rs.map ev)) = some (.tuple (rs.map dr)) := by simp only [dataH, PV.data, dataAll_list ev dr data_ev, Option.map]
  have q' : dataH h (ev a) = some (dr a) := data_ev a
  simp only [inH, q, q', tup_ok dr dr_lay 2 dr_dep (by omega), shaped_of (dr_lay a) (by have := dr_dep a; omega), Bool.and_self, any_dr]
theorem q_eqE {a b : Den} {r s : List Int} (ha : a e h = some (ev r, h1)) (hb : b e h1 = some (ev s, h2)) : dCmp .Eq a b e h = some (.bl (decide (r = s)), h2) := by rw [q_cmp ha hb]; simp only [cmpop, eqH_ev, Option.map]
theorem q_neE {a b : Den} {r s : List Int} (ha : a e h = some (ev r, h1)) (hb : b e h1 = some (ev s, h2)) : dCmp .NotEq a b e h = some (.bl (!decide (r = s)), h2) := by rw [q_cmp ha hb]; simp only [cmpop, eqH_ev, Option.map]
theorem q_eqI {a b : Den} {r s : Int} (ha : a e h = some (.int r, h1)) (hb : b e h1 = some (.int s, h2)) : dCmp .Eq a b e h = some (.bl (decide (r = s)), h2) := by rw [q_cmp ha hb]; simp only [cmpop, eqH_int, Option.map]
theorem q_neI {a b : Den} {r s : Int} (ha : a e h = some (.int r, h1)) (hb : b e h1 = some (.int s, h2)) : dCmp .NotEq a b e h = some (.bl (!decide (r = s)), h2) := by rw [q_cmp ha hb]; simp only [cmpop, eqH_int, Option.map]
theorem q_lenT {a : Den} {r : List PV} (ha : a e h = some (.tup r, h1)) : dBlt bLen (lCons a lNil) e h = some (.int r.length, h1) := by rw [q_blt (q_one ha)]; rfl
theorem q_lenL {a : Den} {r : List PV} (ha : a e h = some (.lst r, h1)) : dBlt bLen (lCons a lNil) e h = some (.int r.length, h1) := by rw [q_blt (q_one ha)]; rfl
theorem q_par {is : List Nat} {l : LDen} {vs : List PV} (hl : l e h = some (vs, h1)) (hn : Nat.beq vs.length is.length = true) : sPar is l e h = .nx ((is.zip vs).foldl (fun e p => e.set p.1 (some p.2)) e) h1 := by simp only [sPar, hl, hn]
theorem q_tup {l : LDen} {xs : List PV} (hl : l e h = some (xs, h1)) (hn : xs.length ≤ 100000) : dTup l e h = some (.tup xs, h1) := by simp only [dTup, hl, mkT, ble_lim hn]
theorem q_tup2 {a b : Den} (ha : a e h = some (x, h1)) (hb : b e h1 = some (y, h2)) : dTup (lCons a (lCons b lNil)) e h = some (.tup [x, y], h2) := q_tup (q_two ha hb) (by simp)
theorem q_ix {a b : Den} {i : Int} {xs : List PV} (ha : a e h = some (x, h1)) (hb : b e h1 = some (.int i, h2)) (hs : seqH h2 x = some xs) (hi : L2.atI xs i = some v) : dIx a b e h = some (v, h2) := by simp only [dIx, ha, hb, hs, hi, Option.map]
theorem q_add {m : Nat} {a b : Den} {i j : Int} (ha : a e h = some (.int i, h1)) (hb : b e h1 = some (.int j, h2)) : dBin m .Add a b e h = some (.int (i + j), h2) := (q_bin ha hb).trans rfl
theorem q_sub {m : Nat} {a b : Den} {i j : Int} (ha : a e h = some (.int i, h1)) (hb : b e h1 = some (.int j, h2)) : dBin m .Sub a b e h = some (.int (i - j), h2) := (q_bin ha hb).trans rfl
theorem q_unp {n : Nat} {u : GDens} {xs : List PV} {e1 : Env} (hs : seqH h v = some xs) (hn : Nat.beq xs.length n = true) (hu : u xs e h = some (e1, h1)) : gUnp n u v e h = some (e1, h1) := by simp only [gUnp, hs, hn, hu]
/-- a for loop over items that stand fast, to its end -/
theorem q_for {α S : Type} {it : IDen} {asg : Asg} {body : SDen} {g : α → PV} {xs : List α} (step : S → α → S) (P : S → Env → MH → Prop) (s : S) (hi : it e h = some (.st (xs.map g), h1)) (hp : P s e h1)
    (hb : ∀ x ∈ xs, ∀ s e h, P s e h → ∃ e1 e2 h2, asg (g x) e = some e1 ∧ (body e1 h = .nx e2 h2 ∨ body e1 h = .ct e2 h2) ∧ P (step s x) e2 h2) :
    ∃ e' h', sFor it asg body e h = .nx e' h' ∧ P (xs.foldl step s) e' h' := by
  obtain ⟨e', h', a1, a2⟩ := forGo_fold g step P xs s e h1 hb hp
  exact ⟨e', h', by simp only [sFor, hi, a1], a2⟩
theorem atI_nat {α : Type} (xs : List α) (k : Nat) : L2.atI xs (k : Int) = xs[k]? := by
  unfold L2.atI L2.ixN
  rw [if_pos (by omega)]
  by_cases hk : k < xs.length
  · rw [if_pos (by omega)]; simp
  · rw [if_neg (by omega)]; simp [List.getElem?_eq_none (Nat.le_of_not_lt hk)]
theorem atI_hd {α : Type} (x : α) (xs : List α) : L2.atI (x :: xs) 0 = some x := (atI_nat (x :: xs) 0).trans (by simp)
theorem q_hd {a : Den} {i : Int} {r : List Int} (ha : a e h = some (ev (i :: r), h1)) : dIx a (dC (.int 0)) e h = some (.int i, h1) := q_ix ha q_c rfl (atI_hd _ _)
theorem q_neg {a : Den} {i : Int} (ha : a e h = some (.int i, h1)) : dNeg a e h = some (.int (-i), h1) := by simp only [dNeg, ha]
theorem q_rg2 {a b : Den} {n m : Nat} (ha : a e h = some (.int (n : Int), h1)) (hb : b e h1 = some (.int (m : Int), h2)) (hn : n ≤ 100000) (hm : m ≤ 100000) : iRg2 a b e h = some (.st ((List.range (m - n)).map fun (i : Nat) => PV.int ((n + i : Nat) : Int)), h2) := by
  have ok : rgOk (n : Int) (m : Int) = true := by simp only [rgOk, Bool.and_eq_true, decide_eq_true_eq]; refine ⟨by omega, by omega, by omega, by omega, ?_⟩; exact ble_lim (by omega)
  simp only [iRg2, ha, hb, ok, rgL]
  rw [show ((m : Int) - n).toNat = m - n from by omega]
  simp
/-- the heap changed inside -/
theorem done_h {np ns : Nat} {body : SDen} {xs : List PV} {h' : MH} (hl : Nat.beq xs.length np = true) (hb : body (xs.map some ++ List.replicate (ns - np) none) h = .rt v h1) (hv : v.bel h.length = true) (hn : nref v = true) (ht : h1.take h.length = h') : runF false np ns body xs h = .ok v h' := by
  rw [run_rt hl hb, fin_data hv (by intro m hm; subst hm; cases hn), ht]
theorem q_gtI {a b : Den} {r s : Int} (ha : a e h = some (.int r, h1)) (hb : b e h1 = some (.int s, h2)) : dCmp .Gt a b e h = some (.bl (decide (s < r)), h2) := by rw [q_cmp ha hb]; rfl
theorem q_ltI {a b : Den} {r s : Int} (ha : a e h = some (.int r, h1)) (hb : b e h1 = some (.int s, h2)) : dCmp .Lt a b e h = some (.bl (decide (r < s)), h2) := by rw [q_cmp ha hb]; rfl
theorem q_leI {a b : Den} {r s : Int} (ha : a e h = some (.int r, h1)) (hb : b e h1 = some (.int s, h2)) : dCmp .LtE a b e h = some (.bl (decide (r ≤ s)), h2) := by rw [q_cmp ha hb]; rfl
theorem q_int {a : Den} {i : Int} (ha : a e h = some (.int i, h1)) : dBlt bInt (lCons a lNil) e h = some (.int i, h1) := by rw [q_blt (q_one ha)]; rfl
theorem q_ifT {t : TDen} {a b : SDen} {c : Bool} (ht : t e h = some (c, h1)) : sIf t a b e h = cond c (a e h1) (b e h1) := by cases c <;> simp only [sIf, ht, cond]
/-! the draws -/
def TC (n : Nat) (cell : List PV) : Prop := ∃ a b c : Int, cell = [.int a, .int b, .int c] ∧ 0 ≤ c ∧ c ≤ n
theorem q_seqR {a b : SDen} (ha : a e h = .rt v h1) : sSeq a b e h = .rt v h1 := by simp only [sSeq, ha]
theorem small_mod {x m : Int} (h0 : 0 < m) (hm : m < 2 ^ 63) (k : Int) (hk : 0 ≤ k) (hk' : k < 2 ^ 60) : small (Int.fmod x m + k) = true := by
  have := Int.fmod_nonneg_of_pos x h0
  have := Int.fmod_lt_of_pos x h0
  rw [small_iff]; omega
theorem TC.mono {n m : Nat} {cell : List PV} (t : TC n cell) (hm : n ≤ m) : TC m cell := by
  obtain ⟨a, b, c, rfl, h0, h1⟩ := t
  exact ⟨a, b, c, rfl, h0, by omega⟩
/-- a comprehension whose elements are drawn -/
theorem lcGo_draws {α : Type} {asg : Asg} {tst : TDen} {elt : Den} {env : Env} {rest : MH} (g : α → PV) (p : Int → Prop) (N d : Nat) : ∀ (xs : List α) (n : Nat) (cell : List PV),
    (∀ x ∈ xs, ∀ n cell, TC n cell → n ≤ N → ∃ e i cell', asg (g x) env = some e ∧ tst e (cell :: rest) = some (true, cell :: rest) ∧ elt e (cell :: rest) = some (.int i, cell' :: rest) ∧ p i ∧ TC (n + d) cell') →
    TC n cell → n + d * xs.length ≤ N → ∃ (ns : List Int) (cell' : List PV), lcGo asg tst elt env (xs.map g) (cell :: rest) = some (ns.map .int, cell' :: rest) ∧ ns.length = xs.length ∧ (∀ i ∈ ns, p i) ∧ TC (n + d * xs.length) cell'
  | [], n, cell, _, ht, _ => ⟨[], cell, rfl, rfl, by simp, by simpa using ht⟩
  | x :: xs, n, cell, hb, ht, hN => by
    have hN' : n + d + d * xs.length ≤ N := by simp only [List.length_cons, Nat.mul_add] at hN; omega
    obtain ⟨e, i, cell', a1, a2, a3, a4, a5⟩ := hb x (List.mem_cons_self ..) n cell ht (by omega)
    obtain ⟨ns, c2, b1, b2, b3, b4⟩ := lcGo_draws g p N d xs (n + d) cell' (fun y hy => hb y (List.mem_cons_of_mem _ hy)) a5 hN'
    refine ⟨i :: ns, c2, ?_, by simp [b2], ?_, ?_⟩
    · rw [List.map_cons]
      unfold lcGo
      rw [a1]
      simp only [a2, a3, b1, List.map_cons]
    · intro j hj
      rcases List.mem_cons.mp hj with rfl | hj
      · exact a4
      · exact b3 j hj
    · rw [show n + d * (x :: xs).length = n + d + d * xs.length from by simp only [List.length_cons, Nat.mul_add]; omega]
      exact b4
theorem q_draws {α : Type} {it : IDen} {asg : Asg} {tst : TDen} {elt : Den} {own : List Nat} {g : α → PV} {xs : List α} {cell : List PV} {rest : MH} {n : Nat} (p : Int → Prop) (N d : Nat) (hi : it e (cell :: rest) = some (.st (xs.map g), cell :: rest)) (hl : xs.length ≤ 100000)
    (hb : ∀ x ∈ xs, ∀ n cell, TC n cell → n ≤ N → ∃ e1 i cell', asg (g x) (wipe e own) = some e1 ∧ tst e1 (cell :: rest) = some (true, cell :: rest) ∧ elt e1 (cell :: rest) = some (.int i, cell' :: rest) ∧ p i ∧ TC (n + d) cell')
    (ht : TC n cell) (hN : n + d * xs.length ≤ N) : ∃ (ns : List Int) (cell' : List PV), dLc 0 it asg tst elt own e (cell :: rest) = some (.lst (ns.map .int), cell' :: rest) ∧ ns.length = xs.length ∧ (∀ i ∈ ns, p i) ∧ TC (n + d * xs.length) cell' := by
  obtain ⟨ns, c2, b1, b2, b3, b4⟩ := lcGo_draws (asg := asg) (tst := tst) (elt := elt) (env := wipe e own) (rest := rest) g p N d xs n cell hb ht hN
  refine ⟨ns, c2, ?_, b2, b3, b4⟩
  simp only [dLc, hi, b1, ble_lim (show (xs.map g).length ≤ 100000 by simpa using hl)]
  exact e_mkL0 (by simp; omega)
theorem getHL (h : MH) (s : List PV) : (h ++ [s])[h.length]? = some s := by simp
theorem setHL (h : MH) (s t : List PV) : (h ++ [s]).set h.length t = h ++ [t] := by simp
theorem ixN_ok {n : Nat} {i : Int} (h0 : 0 ≤ i) (h1 : i < n) : L2.ixN n i = some i.toNat := by unfold L2.ixN; rw [if_pos h0, if_pos h1]
theorem atI_ints {s : List Int} {i : Int} (h0 : 0 ≤ i) (h1 : i < s.length) : L2.atI (s.map PV.int) i = some (.int (s.getD i.toNat 0)) := by
  unfold L2.atI
  rw [ixN_ok h0 (by simpa using h1)]
  have : i.toNat < s.length := by omega
  simp [this]
theorem q_gsub {o i : Den} {n : Nat} {k : Int} {j : Nat} {xs : List PV} (ho : o e h = some (.ref n, h1)) (hi : i e h1 = some (.int k, h2)) (hx : h2[n]? = some xs) (hj : L2.ixN xs.length k = some j) (hv : v.bel n = true) : gSub o i v e h = some (e, h2.set n (xs.set j v)) := by simp only [gSub, ho, hi, hx, hj, hv]
theorem q_mul {m : Nat} {a b : Den} {i j : Int} (ha : a e h = some (.int i, h1)) (hb : b e h1 = some (.int j, h2)) (hs : small i = true ∨ small j = true) : dBin m .Mult a b e h = some (.int (i * j), h2) := hs.elim (q_mulL ha hb) (q_mulR ha hb)
theorem q_zi0 {a b : Den} {xs ys : List PV} (ha : a e h = some (x, h1)) (hb : b e h1 = some (y, h2)) (hx : stV x = some xs) (hy : stV y = some ys) : iZi a b e h = some (.st (zip2 xs ys), h2) := by simp only [iZi, ha, hb, hx, hy]
theorem q_callV {i : Nat} {tbl : List (Str × FDen)} {l : LDen} {x : Str} {D : FDen} (he : e[i]? = some (some (.fn x))) (hd : tbl.lookup x = some D) : dCallV i tbl l e h = dCall D l e h := by simp only [dCallV, he, hd]
/-- a while loop with a measure -/
theorem whGo_ok {S : Type} {cond : TDen} {body : SDen} (P : S → Env → MH → Prop) (c : S → Bool) (m : S → Nat) (hc : ∀ s e h, P s e h → cond e h = some (c s, h))
    (hb : ∀ s e h, P s e h → c s = true → ∃ s2 e2 h2, body e h = .nx e2 h2 ∧ P s2 e2 h2 ∧ m s2 < m s) : ∀ (k : Nat) (s : S) (e : Env) (h : MH), P s e h → m s < k → ∃ s' e' h', whGo cond body k e h = .nx e' h' ∧ P s' e' h' ∧ c s' = false
  | 0, s, e, h, hp, hm => by omega
  | k + 1, s, e, h, hp, hm => by
    unfold whGo
    rw [hc s e h hp]
    cases hs : c s with
    | false => exact ⟨s, e, h, rfl, hp, hs⟩
    | true =>
      obtain ⟨s2, e2, h2, b1, b2, b3⟩ := hb s e h hp hs
      simp only [b1]
      exact whGo_ok P c m hc hb k s2 e2 h2 b2 (by omega)
theorem q_wh {S : Type} {cond : TDen} {body : SDen} (P : S → Env → MH → Prop) (c : S → Bool) (m : S → Nat) (s : S) (hp : P s e h) (hm : m s < 1000000) (hc : ∀ s e h, P s e h → cond e h = some (c s, h))
    (hb : ∀ s e h, P s e h → c s = true → ∃ s2 e2 h2, body e h = .nx e2 h2 ∧ P s2 e2 h2 ∧ m s2 < m s) : ∃ s' e' h', sWh cond body e h = .nx e' h' ∧ P s' e' h' ∧ c s' = false :=
  whGo_ok P c m hc hb fuel s e h hp hm
/-- a loop to its end, with its laps counted -/
theorem forGo_foldN {α S : Type} {asg : Asg} {body : SDen} (g : α → PV) (step : S → α → S) (P : Nat → S → Env → MH → Prop) (N : Nat) : ∀ (xs : List α) (i : Nat) (s : S) (e : Env) (h : MH),
    (∀ x ∈ xs, ∀ i s e h, i < N → P i s e h → ∃ e1 e2 h2, asg (g x) e = some e1 ∧ (body e1 h = .nx e2 h2 ∨ body e1 h = .ct e2 h2) ∧ P (i + 1) (step s x) e2 h2) →
    i + xs.length ≤ N → P i s e h → ∃ e' h', forGo asg body (xs.map g) e h = .nx e' h' ∧ P (i + xs.length) (xs.foldl step s) e' h'
  | [], i, s, e, h, _, _, hp => ⟨e, h, rfl, hp⟩
  | x :: xs, i, s, e, h, hb, hN, hp => by
    simp only [List.length_cons] at hN
    obtain ⟨e1, e2, h2, a1, a2, a3⟩ := hb x (List.mem_cons_self ..) i s e h (by omega) hp
    obtain ⟨e', h', i1, i2⟩ := forGo_foldN g step P N xs (i + 1) _ e2 h2 (fun y hy => hb y (List.mem_cons_of_mem _ hy)) (by omega) a3
    refine ⟨e', h', ?_, ?_⟩
    · rw [List.map_cons]
      unfold forGo
      rw [a1]
      rcases a2 with a2 | a2 <;> simp only [a2, i1]
    · rw [show i + (x :: xs).length = i + 1 + xs.length from by simp only [List.length_cons]; omega]
      exact i2
theorem q_forN {α S : Type} {it : IDen} {asg : Asg} {body : SDen} {g : α → PV} {xs : List α} (step : S → α → S) (P : Nat → S → Env → MH → Prop) (s : S) (hi : it e h = some (.st (xs.map g), h1)) (hp : P 0 s e h1)
    (hb : ∀ x ∈ xs, ∀ i s e h, i < xs.length → P i s e h → ∃ e1 e2 h2, asg (g x) e = some e1 ∧ (body e1 h = .nx e2 h2 ∨ body e1 h = .ct e2 h2) ∧ P (i + 1) (step s x) e2 h2) :
    ∃ e' h', sFor it asg body e h = .nx e' h' ∧ P xs.length (xs.foldl step s) e' h' := by
  obtain ⟨e', h', a1, a2⟩ := forGo_foldN g step P xs.length xs 0 s e h1 hb (by omega) hp
  exact ⟨e', h', by simp only [sFor, hi, a1], by simpa using a2⟩
end Mn
-- text K80a
namespace LawK80
open PySem PySem.Spec Mn
variable {h : MH}
theorem zw (f : Int → Int → Int) (a : List Int) : ∀ b : List Int, ((a.zip b).map fun p => PV.int (f p.1 p.2)) = (List.zipWith f a b).map .int := by
  induction a with
  | nil => intro b; rfl
  | cons x a ih => intro b; cases b with
    | nil => rfl
    | cons y b => simp [ih]
theorem mw (f : Int → Int) (a : List Int) : (a.map fun p => PV.int (f p)) = (a.map f).map .int := by simp
theorem okk {v w : PV} {h : MH} (e : v = w) : FR.ok v h = .ok w h := by rw [e]
abbrev plusR (a b : List Int) : List Int := List.zipWith (fun x y => x + y) a b
abbrev byR (a : List Int) (k : Int) : List Int := a.map fun x => x * k
abbrev sqR (a : List Int) : Int := (a.map fun x => x * x).sum
abbrev dotR (a b : List Int) : Int := (List.zipWith (fun x y => x * y) a b).sum
def smR (a : List Int) : Prop := ∀ x ∈ a, small x = true
theorem s_sum_of {a b : List Int} (hl : a.length ≤ 1000) : D_sum_of [ev a, ev b] h = .ok (ev (plusR a b)) h :=
  (done rfl (q_ret (q_tupL (q_lc (q_zi rfl rfl) (by simp; omega) fun p _ => ⟨_, rfl, rfl, rfl⟩))) (by rw [zw]; exact bel_ev _ _) rfl).trans (okk (by rw [zw]))
theorem s__law_plus {a b : List Int} (hl : a.length ≤ 1000) : D__law_plus [ev a, ev b] h = .ok (ev (plusR a b)) h :=
  (done rfl (q_ret (q_tupL (q_lc (q_zi rfl rfl) (by simp; omega) fun p _ => ⟨_, rfl, rfl, rfl⟩))) (by rw [zw]; exact bel_ev _ _) rfl).trans (okk (by rw [zw]))
theorem s_times_of {a : List Int} {k : Int} (hl : a.length ≤ 1000) (hs : smR a ∨ small k = true) : D_times_of [ev a, .int k] h = .ok (ev (byR a k)) h :=
  (done rfl (q_ret (q_tupL (q_lc (f := fun p => .int (p * k)) (q_seqv rfl) (by omega) fun p hp => ⟨_, rfl, rfl, hs.elim (fun q => q_mulL rfl rfl (q p hp)) fun q => q_mulR rfl rfl q⟩))) (by rw [mw]; exact bel_ev _ _) rfl).trans (okk (by rw [mw (fun x => x * k)]))
theorem s__law_by {a : List Int} {k : Int} (hl : a.length ≤ 1000) (hs : smR a ∨ small k = true) : D__law_by [ev a, .int k] h = .ok (ev (byR a k)) h :=
  (done rfl (q_ret (q_tupL (q_lc (f := fun p => .int (p * k)) (q_seqv rfl) (by omega) fun p hp => ⟨_, rfl, rfl, hs.elim (fun q => q_mulL rfl rfl (q p hp)) fun q => q_mulR rfl rfl q⟩))) (by rw [mw]; exact bel_ev _ _) rfl).trans (okk (by rw [mw (fun x => x * k)]))
theorem s_square_sum_of {a : List Int} (hl : a.length ≤ 1000) (hs : smR a) : D_square_sum_of [ev a] h = .ok (.int (sqR a)) h :=
  done rfl (q_ret (q_sumL ((q_lc (f := fun p => .int (p * p)) (q_seqv rfl) (by omega) fun p hp => ⟨_, rfl, rfl, q_mulL rfl rfl (hs p hp)⟩).trans (by rw [mw (fun x => x * x)])))) rfl rfl
theorem s__law_dot {a b : List Int} (hl : a.length ≤ 1000) (hs : smR a) : D__law_dot [ev a, ev b] h = .ok (.int (dotR a b)) h :=
  done rfl (q_ret (q_sumL ((q_lc (f := fun p => .int (p.1 * p.2)) (q_zi rfl rfl) (by simp; omega) fun p hp => ⟨_, rfl, rfl, q_mulL rfl rfl (hs p.1 (List.of_mem_zip hp).1)⟩).trans (by rw [zw (fun x y => x * y)])))) rfl rfl
abbrev overR (a : List Int) (k : Int) : List Int := a.map fun x => Int.fdiv x k
theorem s_over_of {a : List Int} {k : Int} (hl : a.length ≤ 1000) (hk : small k = true) (h0 : k ≠ 0) : D_over_of [ev a, .int k] h = .ok (ev (overR a k)) h := by
  exact (done rfl (q_ret (q_tupL (q_lc (f := fun p => .int (Int.fdiv p k)) (q_seqv rfl) (by omega) fun p hp => ⟨_, rfl, rfl, q_div rfl rfl hk h0⟩))) (by rw [mw]; exact bel_ev _ _) rfl).trans (okk (by rw [mw (fun x => Int.fdiv x k)]))
theorem s_is_number {i : Int} : D_is_number [.int i] h = .ok (.bl true) h := done rfl rfl rfl rfl
theorem s__law_is_int {i : Int} : D__law_is_int [.int i] h = .ok (.bl true) h := done rfl rfl rfl rfl
theorem s_sure_number {i : Int} : D_sure_number [.int i] h = .ok (.int i) h := done rfl ((q_guard (q_call (q_one rfl) s_is_number)).trans rfl) rfl rfl
theorem s_are_numbers {a : List Int} (hl : a.length ≤ 1000) : D_are_numbers [ev a] h = .ok (.bl true) h := by
  refine done (v := .bl true) rfl ?_ rfl rfl
  refine q_ret ?_
  refine (q_and1 rfl).trans ?_
  have A : dBlt bAll (lCons (dLc 0 (iSeq (dVar 0)) (aName 1) tYesD (dCall D_is_number (lCons (dVar 1) lNil)) [1]) lNil) [some (ev a), none] h = some (.bl (a.all fun _ => true), h) :=
    q_allL (q_lc (f := fun x => .bl true) (q_seqv rfl) (by omega) fun p hp => ⟨_, rfl, rfl, q_call (q_one rfl) s_is_number⟩)
  exact A.trans (by simp)
theorem s_is_long {a : List Int} (hl : a.length = 8) : D_is_long [ev a, .int 8] h = .ok (.bl true) h := by
  refine done (v := .bl true) rfl (q_ret ((q_and1 rfl).trans ?_)) rfl rfl
  exact (q_eqI (q_lenT rfl) rfl).trans (by simp [hl])
theorem s_is_eight_in {a : List Int} (hl : a.length = 8) : D_is_eight_in [ev a] h = .ok (.bl true) h :=
  done rfl (q_ret ((q_and1 (q_call (q_two rfl rfl) (s_is_long hl))).trans (q_call (q_one rfl) (s_are_numbers (by omega))))) rfl rfl
theorem s_tupled4 {i : Int} : D_tupled_4 [.int i] h = .ok (.int i) h := done rfl rfl rfl rfl
theorem s_tupled {a : List Int} (hl : a.length ≤ 1000) : D_tupled [ev a] h = .ok (ev a) h := by
  delta D_tupled D_tupled_5 b_tupled
  exact done (v := ev a) rfl (q_ret ((q_dif1 rfl).trans (q_tupL (q_lc (q_seqv rfl) (by omega) fun p hp => ⟨_, rfl, rfl, q_call (q_one rfl) s_tupled4⟩)))) (bel_ev _ _) rfl
theorem s_tupledl {a : List Int} (hl : a.length ≤ 1000) : D_tupled [.lst (a.map .int)] h = .ok (ev a) h := by
  delta D_tupled D_tupled_5 b_tupled
  exact done (v := ev a) rfl (q_ret ((q_dif1 rfl).trans (q_tupL (q_lc (q_seql rfl) (by omega) fun p hp => ⟨_, rfl, rfl, q_call (q_one rfl) s_tupled4⟩)))) (bel_ev _ _) rfl
theorem s_sure_eight {a : List Int} (hl : a.length = 8) : D_sure_eight [ev a] h = .ok (ev a) h :=
  done rfl ((q_seq (q_asg (q_call (q_one rfl) (s_tupled (by omega))) rfl)).trans ((q_guard (q_call (q_one rfl) (s_is_eight_in hl))).trans rfl)) (bel_ev _ _) rfl
theorem s_sure_eightl {a : List Int} (hl : a.length = 8) : D_sure_eight [.lst (a.map .int)] h = .ok (ev a) h :=
  done rfl ((q_seq (q_asg (q_call (q_one rfl) (s_tupledl (by omega))) rfl)).trans ((q_guard (q_call (q_one rfl) (s_is_eight_in hl))).trans rfl)) (bel_ev _ _) rfl
theorem s_is_within {i lo hi : Int} (hl : lo ≤ i) (hh : i ≤ hi) : D_is_within [.int i, .int lo, .int hi] h = .ok (.bl true) h := by
  refine done (v := .bl true) rfl (q_ret ((q_and1 (q_call (q_one rfl) s_is_number)).trans ?_)) rfl rfl
  simp [dChain, dVar, cmpop, hl, hh]
theorem s_sure_power {i : Int} (hl : 0 ≤ i) (hh : i ≤ 200) : D_sure_power [.int i] h = .ok (.int i) h :=
  done rfl ((q_guard (q_call (q_cons rfl (q_two rfl rfl)) (s_is_within hl hh))).trans rfl) rfl rfl
theorem s_sure_times {i : Int} (hl : 1 ≤ i) (hh : i ≤ 60) : D_sure_times [.int i] h = .ok (.int i) h :=
  done rfl ((q_guard (q_call (q_cons rfl (q_two rfl rfl)) (s_is_within hl hh))).trans rfl) rfl rfl
end LawK80
-- text K80t
namespace LawK80
open PySem PySem.Spec Mn
theorem s__law_take {cell : List PV} {rest : MH} {n : Nat} {below : Int} (ht : TC n cell) (hn : n ≤ 1000000) (hb : 0 < below) (hs : small below = true) :
    ∃ (r : Nat) (cell' : List PV), (r : Int) < below ∧ TC (n + 1) cell' ∧ D__law_take [.ref 0, .int below] (cell :: rest) = .ok (.int (r : Int)) (cell' :: rest) := by
  obtain ⟨a, b, c, rfl, h0, h1⟩ := ht
  have ne : below ≠ 0 := by omega
  by_cases ha : 0 < a
  · have m0 := Int.fmod_nonneg_of_pos a hb
    have m1 := Int.fmod_lt_of_pos a hb
    refine ⟨(Int.fmod a below).toNat, [.int (Int.fdiv a below), .int b, .int c], by omega, ⟨_, _, _, rfl, h0, by omega⟩, ?_⟩
    refine done_h (h1 := [.int (Int.fdiv a below), .int b, .int c] :: rest) rfl ?_ rfl rfl (by simp)
    rw [Int.toNat_of_nonneg m0]
    refine q_seqR ((q_if1 ((q_val (q_gtI (q_ix rfl rfl rfl rfl) rfl)).trans (by simp [ha]; rfl))).trans ?_)
    refine (q_seq (q_asg (q_mod (q_int (q_ix rfl rfl rfl rfl)) rfl ne) rfl)).trans ?_
    exact (q_seq (q_asg (q_div (q_ix rfl rfl rfl rfl) rfl hs ne) rfl)).trans rfl
  · have m0 : ∀ x : Int, 0 ≤ Int.fmod x below := fun x => Int.fmod_nonneg_of_pos x hb
    have m1 : ∀ x : Int, Int.fmod x below < below := fun x => Int.fmod_lt_of_pos x hb
    have hc : small (39373 + (c + 1)) = true := by rw [small_iff]; omega
    suffices ∃ x : Int, D__law_take [.ref 0, .int below] ([.int a, .int b, .int c] :: rest) = .ok (.int (Int.fmod x below)) ([.int a, .int b, .int (c + 1)] :: rest) by
      obtain ⟨x, hx⟩ := this
      refine ⟨(Int.fmod x below).toNat, [.int a, .int b, .int (c + 1)], by have := m0 x; have := m1 x; omega, ⟨_, _, _, rfl, by omega, by omega⟩, ?_⟩
      rw [Int.toNat_of_nonneg (m0 x), hx]
    let o := Int.fmod ((b + 48271 * (c + 1)) * (39373 + (c + 1))) 2147483647
    let w := Int.fmod o 40009 + 7
    let t := Int.fmod ((o + (c + 1) + Int.fdiv b 1000003) * w) 2147483629
    refine ⟨Int.fdiv (Int.fmod (t * 48271 + o) 2147483587) 64, done_h (h1 := [.int a, .int b, .int (c + 1)] :: rest) rfl ?_ rfl rfl (by simp)⟩
    refine (q_seq ((q_if0 ((q_val (q_gtI (q_ix rfl rfl rfl rfl) rfl)).trans (by simp [ha]; rfl))).trans rfl)).trans ?_
    refine (q_seq (q_asg (q_add (q_ix rfl rfl rfl rfl) rfl) rfl)).trans ?_
    refine (q_seq (q_asg (q_mod (q_int (q_mulR (q_add (q_ix rfl rfl rfl rfl) (q_mulL rfl (q_ix rfl rfl rfl rfl) (by decide))) (q_add rfl (q_ix rfl rfl rfl rfl)) hc)) rfl (by decide)) rfl)).trans ?_
    refine (q_seq (q_asg (q_add (q_mod (q_int rfl) rfl (by decide)) rfl) rfl)).trans ?_
    refine (q_seq (q_asg (q_mod (q_int (q_mulR (q_add (q_add rfl (q_ix rfl rfl rfl rfl)) (q_div (q_ix rfl rfl rfl rfl) rfl (by decide) (by decide))) rfl (small_mod (by decide) (by decide) _ (by decide) (by decide)))) rfl (by decide)) rfl)).trans ?_
    exact q_ret (q_mod (q_int (q_div (q_mod (q_int (q_add (q_mulR rfl rfl (by decide)) rfl)) rfl (by decide)) rfl (by decide) (by decide))) rfl ne)
theorem s__law_whole_number {cell : List PV} {rest : MH} {n : Nat} (ht : TC n cell) (hn : n ≤ 1000000) :
    ∃ (r : Int) (cell' : List PV), (-3 ≤ r ∧ r ≤ 3) ∧ TC (n + 1) cell' ∧ D__law_whole_number [.ref 0, .int 3] (cell :: rest) = .ok (.int r) (cell' :: rest) := by
  obtain ⟨r, c1, h1, h2, h3⟩ := s__law_take (rest := rest) (below := 7) ht hn (by decide) (by decide)
  refine ⟨r - 3, c1, by omega, h2, done_h (h1 := c1 :: rest) rfl ?_ rfl rfl (by simp)⟩
  exact q_ret (q_sub (q_call (q_two rfl ((q_add (q_mulL rfl rfl (by decide)) rfl).trans rfl)) h3) rfl)
theorem s__law_eight {cell : List PV} {rest : MH} {n : Nat} (ht : TC n cell) (hn : n ≤ 999000) :
    ∃ (r : List Int) (cell' : List PV), r.length = 8 ∧ (∀ i ∈ r, -3 ≤ i ∧ i ≤ 3) ∧ TC (n + 17) cell' ∧ D__law_eight [.ref 0, .int 3] (cell :: rest) = .ok (ev r) (cell' :: rest) := by
  obtain ⟨k, c1, h1, h2, h3⟩ := s__law_take (rest := rest) (below := 3) ht (by omega) (by decide) (by decide)
  have G : dCmp .Gt (dCall D__law_take (lCons (dVar 0) (lCons (dC (.int 3)) (lNil)))) (dC (.int 0)) [some (.ref 0), some (.int 3), none] (cell :: rest) = some (.bl (decide (0 < (k : Int))), c1 :: rest) := q_gtI (q_call (q_two rfl rfl) h3) rfl
  by_cases hk : 0 < (k : Int)
  · obtain ⟨r, c2, b1, b2, b3, b4⟩ := q_draws (e := [some (.ref 0), some (.int 3), none]) (it := iRg1 (dC (.int 8))) (asg := aName 2) (tst := tYesD) (elt := dCall D__law_whole_number (lCons (dVar 0) (lCons (dVar 1) (lNil)))) (own := [2]) (rest := rest) (g := fun i : Nat => .int (i : Int)) (xs := List.range 8) (fun i => -3 ≤ i ∧ i ≤ 3) 1000000 1 (q_rg rfl (by decide)) (by simp)
      (fun x hx n cell ht hn => by
        obtain ⟨r, c, d1, d2, d3⟩ := s__law_whole_number (rest := rest) ht hn
        exact ⟨_, r, c, rfl, rfl, q_call (q_two rfl rfl) d3, d1, d2⟩) h2 (by simp; omega)
    refine ⟨r, c2, by simpa using b2, b3, b4.mono (by simp <;> omega), done_h (h1 := c2 :: rest) rfl ?_ (bel_ev _ _) rfl (by simp)⟩
    exact q_seqR ((q_if1 ((q_val G).trans (by first | rw [decide_eq_true hk] | rw [decide_eq_false hk]))).trans (q_ret (q_tupL b1)))
  · obtain ⟨r, c2, b1, b2, b3, b4⟩ := q_draws (e := [some (.ref 0), some (.int 3), none]) (it := iRg1 (dC (.int 8))) (asg := aName 2) (tst := tYesD) (elt := (dBin 0 .Mult (dCall D__law_whole_number (lCons (dVar 0) (lCons (dVar 1) (lNil)))) (dBlt bInt (lCons (dCmp .Eq (dCall D__law_take (lCons (dVar 0) (lCons (dC (.int 3)) (lNil)))) (dC (.int 0))) (lNil))))) (own := [2]) (rest := rest) (g := fun i : Nat => .int (i : Int)) (xs := List.range 8) (fun i => -3 ≤ i ∧ i ≤ 3) 999900 2 (q_rg rfl (by decide)) (by simp)
      (fun x hx n cell ht hn => by
        obtain ⟨r, c, d1, d2, d3⟩ := s__law_whole_number (rest := rest) ht (by omega)
        obtain ⟨q, c', f1, f2, f3⟩ := s__law_take (rest := rest) (below := 3) d2 (by omega) (by decide) (by decide)
        have hs : small r = true := by rw [small_iff]; omega
        refine ⟨_, r * (if decide ((q : Int) = 0) then 1 else 0), c', rfl, rfl, q_mulL (q_call (q_two rfl rfl) d3) ((q_blt (q_one (q_eqI (q_call (q_two rfl rfl) f3) rfl))).trans rfl) hs, ?_, f2⟩
        split <;> omega) h2 (by simp; omega)
    refine ⟨r, c2, by simpa using b2, b3, b4.mono (by simp <;> omega), done_h (h1 := c2 :: rest) rfl ?_ (bel_ev _ _) rfl (by simp)⟩
    exact (q_seq ((q_if0 ((q_val G).trans (by first | rw [decide_eq_true hk] | rw [decide_eq_false hk]))).trans rfl)).trans (q_ret (q_tupL b1))
end LawK80
-- text K80b
namespace LawK80
open PySem PySem.Spec Mn
variable {h : MH}
abbrev pr (p : Int × Int) : PV := .tup [.int p.1, .int p.2]
abbrev P2 := (Int × Int) × (Int × Int)
def pst (t n : Int) (s : P2) : P2 := (s.2, (t * s.2.1 - n * s.1.1, t * s.2.2 - n * s.1.2))
def pairT (t n : Int) (k : Nat) : P2 := (List.range k).foldl (fun s _ => pst t n s) ((0, 1), (1, 0))
def pairN (t n : Int) (k : Nat) : Int × Int := (pairT t n k).1
theorem pairT_succ (t n : Int) (k : Nat) : pairT t n (k + 1) = pst t n (pairT t n k) := by simp [pairT, List.range_succ]
theorem s_pair_in {t n : Int} {k : Nat} (ht : small t = true) (hn : small n = true) (hk : k ≤ 100000) : D_pair_in [.tup [.int t, .int n], .int (k : Int)] h = .ok (pr (pairN t n k)) h := by
  refine done (v := pr (pairN t n k)) rfl ?_ rfl rfl
  refine (q_seq (q_asg rfl (q_unp (xs := [.int t, .int n]) rfl rfl rfl))).trans ?_
  refine (q_seq (q_asg rfl (q_unp (xs := [pr (0, 1), pr (1, 0)]) rfl rfl rfl))).trans ?_
  obtain ⟨e', h', a1, o, a2, a3⟩ := q_for (it := iRg1 (dVar 1)) (asg := aName 2) (body := (sSeq (sPar [5, 6] (lCons (dVar 6) (lCons (dTup (lCons (dBin 0 .Sub (dBin 0 .Mult (dVar 3) (dIx (dVar 6) (dC (.int 0)))) (dBin 0 .Mult (dVar 4) (dIx (dVar 5) (dC (.int 0))))) (lCons (dBin 0 .Sub (dBin 0 .Mult (dVar 3) (dIx (dVar 6) (dC (.int 1)))) (dBin 0 .Mult (dVar 4) (dIx (dVar 5) (dC (.int 1))))) (lNil)))) (lNil)))) (sNext)))
    (e := [some (.tup [.int t, .int n]), some (.int k), none, some (.int t), some (.int n), some (pr (0, 1)), some (pr (1, 0))]) (h := h) (h1 := h) (g := fun i : Nat => .int (i : Int)) (xs := List.range k)
    (fun s _ => pst t n s) (fun s e h' => ∃ o, e = [some (.tup [.int t, .int n]), some (.int k), o, some (.int t), some (.int n), some (pr s.1), some (pr s.2)] ∧ h' = h) ((0, 1), (1, 0)) (q_rg rfl hk) ⟨none, rfl, rfl⟩
    (by
      rintro x hx s e h' ⟨o, rfl, rfl⟩
      exact ⟨_, _, _, rfl, .inl ((q_seq (q_par (q_two rfl (q_tup2 (q_sub (q_mulL rfl (q_ix rfl rfl rfl rfl) ht) (q_mulL rfl (q_ix rfl rfl rfl rfl) hn)) (q_sub (q_mulL rfl (q_ix rfl rfl rfl rfl) ht) (q_mulL rfl (q_ix rfl rfl rfl rfl) hn)))) rfl)).trans rfl), _, rfl, rfl⟩)
  subst a2 a3
  refine (q_seq a1).trans ?_
  rfl
abbrev one8 : List Int := [1, 0, 0, 0, 0, 0, 0, 0]
theorem sm_one : smR one8 := by intro x hx; simp at hx; rcases hx with rfl | rfl <;> decide
structure Ok8 (x : Int) (r : List Int) : Prop where
  len : r.length = 7
  sm : smR (x :: r)
  t : small (2 * x) = true
  n : small (sqR (x :: r)) = true
def powL (x : Int) (r : List Int) (k : Nat) : List Int := plusR (byR (x :: r) (pairN (2 * x) (sqR (x :: r)) k).1) (byR one8 (pairN (2 * x) (sqR (x :: r)) k).2)
theorem c8 {x : Int} {r : List Int} (o : r.length = 7) : (x :: r).length = 8 := by simp [o]
theorem lP {a : List Int} (k : Int) (b : List Int) (hl : a.length = 8) (hb : b.length = 8) : (plusR a b).length = 8 := by simp [hl, hb]
theorem pow_len {x : Int} {r : List Int} (o : r.length = 7) (k : Nat) : (powL x r k).length = 8 := by simp [powL, o]
theorem s_power_in {x : Int} {r : List Int} {k : Nat} (o : Ok8 x r) (hk : k ≤ 100000) : D_power_in [ev (x :: r), .int (k : Int)] h = .ok (ev (powL x r k)) h := by
  have l8 := c8 (x := x) o.len
  refine done (v := ev (powL x r k)) rfl ?_ (bel_ev _ _) rfl
  refine (q_seq (q_asg (q_call (q_two (q_tup2 (q_mulL rfl (q_hd rfl) (by decide)) (q_call (q_one rfl) (s_square_sum_of (by omega) o.sm))) rfl) (s_pair_in o.t o.n hk)) (q_unp rfl rfl rfl))).trans ?_
  exact q_ret (q_call (q_two (q_call (q_two rfl rfl) (s_times_of (by omega) (.inl o.sm))) (q_call (q_two (x := ev one8) rfl rfl) (s_times_of (by decide) (.inl sm_one)))) (s_sum_of (by simp [o.len])))
theorem s_power {x : Int} {r : List Int} {k : Nat} (o : Ok8 x r) (hk : k ≤ 200) : D_power [ev (x :: r), .int (k : Int)] h = .ok (ev (powL x r k)) h := by
  refine done (v := ev (powL x r k)) rfl ?_ (bel_ev _ _) rfl
  refine (q_seq (q_asg (q_call (q_one rfl) (s_sure_eight (c8 o.len))) rfl)).trans ?_
  exact q_ret (q_call (q_two rfl (q_call (q_one rfl) (s_sure_power (by omega) (by omega)))) (s_power_in o (by omega)))
theorem s_power_pairl {x : Int} {r : List Int} {k : Nat} (o : Ok8 x r) (hk : k ≤ 200) : D_power_pair [.lst ((x :: r).map .int), .int (k : Int)] h = .ok (pr (pairN (2 * x) (sqR (x :: r)) k)) h := by
  have l8 := c8 (x := x) o.len
  refine done (v := pr (pairN (2 * x) (sqR (x :: r)) k)) rfl ?_ rfl rfl
  refine (q_seq (q_asg (q_call (q_one rfl) (s_sure_eightl (c8 o.len))) rfl)).trans ?_
  exact q_ret (q_call (q_two (q_tup2 (q_mulL rfl (q_hd rfl) (by decide)) (q_call (q_one rfl) (s_square_sum_of (by omega) o.sm))) (q_call (q_one rfl) (s_sure_power (by omega) (by omega)))) (s_pair_in o.t o.n (by omega)))
theorem s_size {a : List Int} (hl : a.length = 8) (hs : smR a) : D_size [ev a] h = .ok (.int (sqR a)) h :=
  done rfl (q_ret (q_call (q_one (q_call (q_one rfl) (s_sure_eight hl))) (s_square_sum_of (by omega) hs))) rfl rfl
theorem s_square_law {x : Int} {r : List Int} (o : Ok8 x r) : D_square_law [ev (x :: r)] h = .ok (pr (2 * x, sqR (x :: r))) h :=
  have l8 := c8 (x := x) o.len
  done rfl ((q_seq (q_asg (q_call (q_one rfl) (s_sure_eight l8)) rfl)).trans (q_ret (q_tup2 (q_mulL rfl (q_hd rfl) (by decide)) (q_call (q_one rfl) (s_square_sum_of (by omega) o.sm))))) rfl rfl
def letR (k : Nat) : List Int := (List.range 8).map fun i => if i = k then 1 else 0
theorem s__law_letter {k : Nat} : D__law_letter [.int (k : Int)] h = .ok (ev (letR k)) h := by
  refine (done (v := .tup ((List.range 8).map fun i => .int (if i = k then 1 else 0))) rfl (q_ret (q_tupL (q_lc (q_rg (n := 8) rfl (by decide)) (by simp) fun i hi => ⟨_, rfl, rfl, ?_⟩))) ?_ rfl).trans (okk ?_)
  · rw [q_blt (q_one (q_eqI rfl rfl))]
    have : decide ((i : Int) = (k : Int)) = decide (i = k) := by simp [Int.natCast_inj]
    rw [this]
    by_cases hq : i = k <;> simp [bInt, hq]
  · rw [show ((List.range 8).map fun i => PV.int (if i = k then 1 else 0)) = (letR k).map .int from by simp [letR]]; exact bel_ev _ _
  · simp [letR]
theorem let0 : letR 0 = one8 := by decide
def spow (n : Int) (k : Nat) : Int := (List.range k).foldl (fun s _ => s * n) 1
theorem spow_eq (n : Int) (k : Nat) : spow n k = n ^ k := by
  induction k with
  | zero => simp [spow]
  | succ k ih => simp only [spow, List.range_succ, List.foldl_append, List.foldl_cons, List.foldl_nil] at *; rw [ih, Int.pow_succ]
theorem dot_self (a : List Int) : dotR a a = sqR a := by
  unfold dotR sqR
  congr 1
  induction a with
  | nil => rfl
  | cons x a ih => simp [ih]
theorem s__law_size_power {a : List Int} {k : Nat} (hl : a.length ≤ 1000) (hs : smR a) (hn : small (sqR a) = true) (hk : k ≤ 100000) : D__law_size_power [ev a, .int (k : Int)] h = .ok (.int (sqR a ^ k)) h := by
  refine done (v := .int (sqR a ^ k)) rfl ?_ rfl rfl
  refine (q_seq (q_asg rfl rfl)).trans ?_
  obtain ⟨e', h', a1, o, a2, a3⟩ := q_for (it := iRg1 (dVar 1)) (asg := aName 3) (body := (sSeq (sAsg (dBin 0 .Mult (dVar 2) (dCall D__law_dot (lCons (dVar 0) (lCons (dVar 0) (lNil))))) (gA (aName 2))) (sNext)))
    (e := [some (ev a), some (.int k), some (.int 1), none]) (h := h) (h1 := h) (g := fun i : Nat => .int (i : Int)) (xs := List.range k)
    (fun s _ => s * sqR a) (fun s e h' => ∃ o, e = [some (ev a), some (.int k), some (.int s), o] ∧ h' = h) 1 (q_rg rfl hk) ⟨none, rfl, rfl⟩
    (by
      rintro x hx s e h' ⟨o, rfl, rfl⟩
      exact ⟨_, _, _, rfl, .inl ((q_seq (q_asg (q_mulR rfl (q_call (q_two rfl rfl) (s__law_dot hl hs)) (by rw [dot_self]; exact hn)) rfl)).trans rfl), _, by rw [dot_self]; rfl, rfl⟩)
  subst a2 a3
  refine (q_seq a1).trans ?_
  rw [← spow_eq]
  rfl
end LawK80
-- text K80u
namespace LawK80
open PySem PySem.Spec Mn
abbrev zero8 : List Int := [0, 0, 0, 0, 0, 0, 0, 0]
theorem let_len (k : Nat) : (letR k).length = 8 := by simp [letR]
theorem let_mem (k : Nat) : ∀ i ∈ letR k, -3 ≤ i ∧ i ≤ 3 := by
  intro i hi
  simp only [letR, List.mem_map] at hi
  obtain ⟨j, _, rfl⟩ := hi
  split <;> omega
theorem s__law_some {cell : List PV} {rest : MH} {n : Nat} (ht : TC n cell) (hn : n ≤ 999000) :
    ∃ (r : List Int) (cell' : List PV), r.length = 8 ∧ (∀ i ∈ r, -3 ≤ i ∧ i ≤ 3) ∧ TC (n + 18) cell' ∧ D__law_some [.ref 0, .int 3] (cell :: rest) = .ok (ev r) (cell' :: rest) := by
  obtain ⟨r, c1, h1, h2, h3, h4⟩ := s__law_eight (rest := rest) ht hn
  have G : dCmp .NotEq (dVar 2) (dBin 0 .Mult (dTup (lCons (dC (.int 0)) (lNil))) (dC (.int 8))) [some (.ref 0), some (.int 3), some (ev r)] (c1 :: rest) = some (.bl (!decide (r = zero8)), c1 :: rest) := q_neE rfl rfl
  by_cases hz : r = zero8
  · obtain ⟨k, c2, f1, f2, f3⟩ := s__law_take (rest := rest) (below := 8) h3 (by omega) (by decide) (by decide)
    refine ⟨letR k, c2, let_len k, let_mem k, f2, done_h (h1 := c2 :: rest) rfl ?_ (bel_ev _ _) rfl (by simp)⟩
    refine (q_seq (q_asg (q_call (q_two rfl rfl) h4) rfl)).trans ?_
    exact q_ret ((q_dif0 ((q_val G).trans (by rw [decide_eq_true hz]; rfl))).trans (q_call (q_one (q_call (q_two rfl rfl) f3)) s__law_letter))
  · refine ⟨r, c1, h1, h2, h3.mono (by omega), done_h (h1 := c1 :: rest) rfl ?_ (bel_ev _ _) rfl (by simp)⟩
    refine (q_seq (q_asg (q_call (q_two rfl rfl) h4) rfl)).trans ?_
    exact q_ret ((q_dif1 ((q_val G).trans (by rw [decide_eq_false hz]; rfl))).trans rfl)
/-! product_of -/
def tab8 : List (List (Int × Int)) := [[(1, 0), (1, 1), (1, 2), (1, 3), (1, 4), (1, 5), (1, 6), (1, 7)], [(1, 1), (-1, 0), (1, 4), (1, 7), (-1, 2), (1, 6), (-1, 5), (-1, 3)], [(1, 2), (-1, 4), (-1, 0), (1, 5), (1, 1), (-1, 3), (1, 7), (-1, 6)], [(1, 3), (-1, 7), (-1, 5), (-1, 0), (1, 6), (1, 2), (-1, 4), (1, 1)], [(1, 4), (1, 2), (-1, 1), (-1, 6), (-1, 0), (1, 7), (1, 3), (-1, 5)], [(1, 5), (-1, 6), (1, 3), (-1, 2), (-1, 7), (-1, 0), (1, 1), (1, 4)], [(1, 6), (1, 5), (-1, 7), (1, 4), (-1, 3), (-1, 1), (-1, 0), (1, 2)], [(1, 7), (1, 3), (1, 6), (-1, 1), (1, 5), (-1, 4), (-1, 2), (-1, 0)]]
theorem tab_eq : k_PRODUCTS = .tup (tab8.map fun r => .tup (r.map pr)) := rfl
def cell1 (row : List (Int × Int)) (near : Int) (s : List Int) (p : Int × Nat) : List Int :=
  s.set (row.getD p.2 (0, 0)).2.toNat (s.getD (row.getD p.2 (0, 0)).2.toNat 0 + (row.getD p.2 (0, 0)).1 * near * p.1)
def cell2 (b : List Int) (s : List Int) (p : Int × Nat) : List Int := (b.zipIdx 0).foldl (cell1 (tab8.getD p.2 []) p.1) s
def prodL (a b : List Int) : List Int := (a.zipIdx 0).foldl (cell2 b) zero8
theorem tab_len : tab8.length = 8 := rfl
theorem tab_row : ∀ row ∈ tab8, row.length = 8 ∧ ∀ q ∈ row, small q.1 = true ∧ 0 ≤ q.2 ∧ q.2 < 8 := by decide
abbrev inB : SDen := (sSeq (sIf (tVal (dCmp .NotEq (dVar 7) (dC (.int 0)))) (sSeq (sAsg (dIx (dVar 5) (dVar 6)) (gUnp 2 (gCons (gA (aName 8)) (gCons (gA (aName 9)) (gNil))))) (sSeq (sAsg (dBin 0 .Add (dIx (dVar 2) (dVar 9)) (dBin 0 .Mult (dBin 0 .Mult (dVar 8) (dVar 4)) (dVar 7))) (gSub (dVar 2) (dVar 9))) (sNext))) (sNext)) (sNext))
theorem cell1_len (row : List (Int × Int)) (near : Int) (s : List Int) (p : Int × Nat) : (cell1 row near s p).length = s.length := by simp [cell1]
theorem set_same {α : Type} (s : List α) (k : Nat) (d : α) : s.set k (s.getD k d) = s := by
  apply List.ext_getElem? 
  intro i
  by_cases hk : k = i
  · subst hk
    by_cases hl : k < s.length <;> simp [hl]
  · rw [List.getElem?_set_ne hk]
theorem inB_ok {h : MH} {va vb vp : PV} {near : Int} {row : List (Int × Int)} (hr : row ∈ tab8) {s : List Int} (hs : s.length = 8) {p : Int × Nat} (hp : p.2 < 8) (hf : small p.1 = true) (o8 o9 : Option PV) :
    ∃ q8 q9, inB [some va, some vb, some (.ref h.length), some vp, some (.int near), some (.tup (row.map pr)), some (.int (p.2 : Int)), some (.int p.1), o8, o9] (h ++ [s.map .int])
      = .nx [some va, some vb, some (.ref h.length), some vp, some (.int near), some (.tup (row.map pr)), some (.int (p.2 : Int)), some (.int p.1), q8, q9] (h ++ [(cell1 row near s p).map .int]) := by
  obtain ⟨rl, rq⟩ := tab_row row hr
  by_cases h0 : p.1 = 0
  · refine ⟨o8, o9, (q_seq ((q_if0 ((q_val (q_neI rfl rfl)).trans (by rw [decide_eq_true h0]; rfl))).trans rfl)).trans ?_⟩
    have : cell1 row near s p = s := by simp only [cell1, h0, Int.mul_zero, Int.add_zero]; exact set_same _ _ _
    rw [this]; rfl
  · have hg : row.getD p.2 (0, 0) ∈ row := by rw [List.getD_eq_getElem?_getD, List.getElem?_eq_getElem (by omega)]; exact List.getElem_mem _
    obtain ⟨q1, q2, q3⟩ := rq _ hg
    have hi : L2.atI (row.map pr) (p.2 : Int) = some (pr (row.getD p.2 (0, 0))) := by
      rw [atI_nat, List.getElem?_map, List.getD_eq_getElem?_getD, List.getElem?_eq_getElem (by omega)]; rfl
    refine ⟨some (.int (row.getD p.2 (0, 0)).1), some (.int (row.getD p.2 (0, 0)).2), (q_seq (h1 := h ++ [(cell1 row near s p).map .int]) ((q_if1 ((q_val (q_neI rfl rfl)).trans (by rw [decide_eq_false h0]; rfl))).trans ?_)).trans rfl⟩
    refine (q_seq (q_asg (q_ix rfl rfl rfl hi) (q_unp rfl rfl rfl))).trans ?_
    refine (q_seq (q_asg (q_add (q_ix rfl rfl (getHL _ _) (atI_ints q2 (by omega))) (q_mulR (q_mulL rfl rfl q1) rfl hf)) (q_gsub rfl rfl (getHL _ _) (ixN_ok q2 (by rw [List.length_map, hs]; exact q3)) rfl))).trans ?_
    rw [setHL, ← List.map_set]
    rfl
abbrev outB : SDen := (sSeq (sIf (tVal (dCmp .NotEq (dVar 4) (dC (.int 0)))) (sSeq (sAsg (dIx (dC k_PRODUCTS) (dVar 3)) (gA (aName 5))) (sSeq (sFor (iEn (dVar 1)) (aTup 2 (aCons (aName 6) (aCons (aName 7) (aNil)))) inB) (sNext))) (sNext)) (sNext))
theorem cell2_len (b : List Int) (s : List Int) (p : Int × Nat) : (cell2 b s p).length = s.length := by
  unfold cell2
  generalize b.zipIdx 0 = z
  induction z generalizing s with
  | nil => rfl
  | cons q z ih => rw [List.foldl_cons, ih, cell1_len]
theorem foldl_same {α S : Type} (f : S → α → S) (s : S) : ∀ z : List α, (∀ q ∈ z, f s q = s) → z.foldl f s = s
  | [], _ => rfl
  | q :: z, hq => by rw [List.foldl_cons, hq q (List.mem_cons_self ..)]; exact foldl_same f s z fun r hr => hq r (List.mem_cons_of_mem _ hr)
theorem zi_lt {b : List Int} (hb : b.length = 8) {p : Int × Nat} (hp : p ∈ b.zipIdx 0) : p.2 < 8 ∧ p.1 ∈ b := by
  have := List.mem_zipIdx hp
  obtain ⟨h1, h2, h3⟩ := this
  refine ⟨by omega, ?_⟩
  rw [h3]; exact List.getElem_mem _
theorem outB_ok {h : MH} {va : PV} {a b : List Int} (hb : b.length = 8) (hs : smR b) {s : List Int} (hl : s.length = 8) {p : Int × Nat} (hp : p.2 < 8) (o5 o6 o7 o8 o9 : Option PV) :
    ∃ q5 q6 q7 q8 q9, outB [some va, some (ev b), some (.ref h.length), some (.int (p.2 : Int)), some (.int p.1), o5, o6, o7, o8, o9] (h ++ [s.map .int])
      = .nx [some va, some (ev b), some (.ref h.length), some (.int (p.2 : Int)), some (.int p.1), q5, q6, q7, q8, q9] (h ++ [(cell2 b s p).map .int]) := by
  by_cases h0 : p.1 = 0
  · refine ⟨o5, o6, o7, o8, o9, (q_seq ((q_if0 ((q_val (q_neI rfl rfl)).trans (by rw [decide_eq_true h0]; rfl))).trans rfl)).trans ?_⟩
    have : cell2 b s p = s := foldl_same _ _ _ fun q _ => by simp only [cell1, h0, Int.mul_zero, Int.zero_mul, Int.add_zero]; exact set_same _ _ _
    rw [this]; rfl
  · have hr : tab8.getD p.2 [] ∈ tab8 := by rw [List.getD_eq_getElem?_getD, List.getElem?_eq_getElem (show p.2 < tab8.length from hp)]; exact List.getElem_mem _
    have hi : L2.atI (tab8.map fun r => PV.tup (r.map pr)) (p.2 : Int) = some (.tup ((tab8.getD p.2 []).map pr)) := by
      rw [atI_nat, List.getElem?_map, List.getD_eq_getElem?_getD, List.getElem?_eq_getElem (show p.2 < tab8.length from hp)]; rfl
    obtain ⟨e', h', a1, ⟨q6, q7, q8, q9, a2, a3⟩, a4⟩ := q_for (it := iEn (dVar 1)) (asg := (aTup 2 (aCons (aName 6) (aCons (aName 7) (aNil))))) (body := inB)
      (e := [some va, some (ev b), some (.ref h.length), some (.int (p.2 : Int)), some (.int p.1), some (.tup ((tab8.getD p.2 []).map pr)), o6, o7, o8, o9]) (h := h ++ [s.map .int]) (h1 := h ++ [s.map .int])
      (fun s q => cell1 (tab8.getD p.2 []) p.1 s q)
      (fun s e h' => (∃ q6 q7 q8 q9, e = [some va, some (ev b), some (.ref h.length), some (.int (p.2 : Int)), some (.int p.1), some (.tup ((tab8.getD p.2 []).map pr)), q6, q7, q8, q9] ∧ h' = h ++ [s.map .int]) ∧ s.length = 8) s (q_en rfl) ⟨⟨o6, o7, o8, o9, rfl, rfl⟩, hl⟩
      (by
        rintro x hx s e h' ⟨⟨q6, q7, q8, q9, rfl, rfl⟩, hl⟩
        obtain ⟨x2, x1⟩ := zi_lt hb hx
        obtain ⟨r8, r9, c⟩ := inB_ok (h := h) (va := va) (vb := ev b) (vp := .int (p.2 : Int)) (near := p.1) hr hl x2 (hs _ x1) q8 q9
        exact ⟨_, _, _, rfl, .inl c, ⟨_, _, _, _, rfl, rfl⟩, by rw [cell1_len, hl]⟩)
    subst a2 a3
    refine ⟨some (.tup ((tab8.getD p.2 []).map pr)), q6, q7, q8, q9, (q_seq (h1 := h ++ [(cell2 b s p).map .int]) ((q_if1 ((q_val (q_neI rfl rfl)).trans (by rw [decide_eq_false h0]; rfl))).trans ?_)).trans rfl⟩
    refine (q_seq (q_asg (q_ix (x := k_PRODUCTS) rfl rfl rfl hi) rfl)).trans ?_
    exact (q_seq a1).trans rfl
theorem s_product_of {h : MH} {a b : List Int} (ha : a.length = 8) (hb : b.length = 8) (hs : smR b) : D_product_of [ev a, ev b] h = .ok (ev (prodL a b)) h := by
  obtain ⟨e', h', a1, ⟨q3, q4, q5, q6, q7, q8, q9, a2, a3⟩, a4⟩ := q_for (it := iEn (dVar 0)) (asg := (aTup 2 (aCons (aName 3) (aCons (aName 4) (aNil))))) (body := outB)
      (e := [some (ev a), some (ev b), some (.ref h.length), none, none, none, none, none, none, none]) (h := h ++ [zero8.map .int]) (h1 := h ++ [zero8.map .int])
      (fun s q => cell2 b s q)
      (fun s e h' => (∃ q3 q4 q5 q6 q7 q8 q9, e = [some (ev a), some (ev b), some (.ref h.length), q3, q4, q5, q6, q7, q8, q9] ∧ h' = h ++ [s.map .int]) ∧ s.length = 8) zero8 (q_en rfl) ⟨⟨_, _, _, _, _, _, _, rfl, rfl⟩, rfl⟩
      (by
        rintro x hx s e h' ⟨⟨q3, q4, q5, q6, q7, q8, q9, rfl, rfl⟩, hl⟩
        obtain ⟨x2, x1⟩ := zi_lt ha hx
        obtain ⟨r5, r6, r7, r8, r9, c⟩ := outB_ok (h := h) (va := ev a) (a := a) hb hs hl (p := x) x2 q5 q6 q7 q8 q9
        exact ⟨_, _, _, rfl, .inl c, ⟨_, _, _, _, _, _, _, rfl, rfl⟩, by rw [cell2_len, hl]⟩)
  subst a2 a3
  refine done_app (g := [(prodL a b).map .int]) rfl ?_ (bel_ev _ _) rfl
  refine (q_seq (q_asg (h1 := h ++ [zero8.map .int]) (v := .ref h.length) rfl rfl)).trans ?_
  refine (q_seq a1).trans (q_ret ?_)
  rw [q_blt (q_one rfl)]
  show (match lstH _ _ with | some ys => some (PV.tup ys, _) | none => none) = _
  simp only [lstH, getHL]
  rfl
end LawK80
-- text K80v
namespace LawK80
open PySem PySem.Spec Mn
variable {h : MH}
def four (a b c d p q r s : Int) : List Int := [a*p - b*q - c*r - d*s, a*q + b*p + c*s - d*r, a*r + c*p + d*q - b*s, a*s + d*p + b*r - c*q]
def Sm4 (a b c d : Int) : Prop := small a = true ∧ small b = true ∧ small c = true ∧ small d = true
theorem s__law_four {a b c d p q r s : Int} (H : Sm4 a b c d ∨ Sm4 p q r s) : D__law_four [ev [a, b, c, d], ev [p, q, r, s]] h = .ok (ev (four a b c d p q r s)) h := by
  refine done (v := ev (four a b c d p q r s)) rfl ?_ (bel_ev _ _) rfl
  refine (q_seq (q_asg rfl (q_unp (xs := [.int a, .int b, .int c, .int d]) rfl rfl rfl))).trans ?_
  refine (q_seq (q_asg rfl (q_unp (xs := [.int p, .int q, .int r, .int s]) rfl rfl rfl))).trans ?_
  refine q_ret (q_tup (xs := (four a b c d p q r s).map .int) (q_cons (h1 := h) ?_ (q_cons (h1 := h) ?_ (q_cons (h1 := h) ?_ (q_one ?_)))) (by simp [four]))
  · exact q_sub (q_sub (q_sub (q_mul rfl rfl (H.imp (·.1) (·.1))) (q_mul rfl rfl (H.imp (·.2.1) (·.2.1)))) (q_mul rfl rfl (H.imp (·.2.2.1) (·.2.2.1)))) (q_mul rfl rfl (H.imp (·.2.2.2) (·.2.2.2)))
  · exact q_sub (q_add (q_add (q_mul rfl rfl (H.imp (·.1) (·.2.1))) (q_mul rfl rfl (H.imp (·.2.1) (·.1)))) (q_mul rfl rfl (H.imp (·.2.2.1) (·.2.2.2)))) (q_mul rfl rfl (H.imp (·.2.2.2) (·.2.2.1)))
  · exact q_sub (q_add (q_add (q_mul rfl rfl (H.imp (·.1) (·.2.2.1))) (q_mul rfl rfl (H.imp (·.2.2.1) (·.1)))) (q_mul rfl rfl (H.imp (·.2.2.2) (·.2.1)))) (q_mul rfl rfl (H.imp (·.2.1) (·.2.2.2)))
  · exact q_sub (q_add (q_add (q_mul rfl rfl (H.imp (·.1) (·.2.2.2))) (q_mul rfl rfl (H.imp (·.2.2.2) (·.1)))) (q_mul rfl rfl (H.imp (·.2.1) (·.2.2.1)))) (q_mul rfl rfl (H.imp (·.2.2.1) (·.2.1)))
def nearL (x0 x1 x2 x3 x4 x5 x6 x7 y0 y1 y2 y3 y4 y5 y6 y7 : Int) : List Int := List.zipWith (fun x y => x - y) (four x0 x1 x2 x4 y0 y1 y2 y4) (four y3 (0 - y7) (0 - y5) (0 - (0 - y6)) x3 x7 x5 (0 - x6))
def farL (x0 x1 x2 x3 x4 x5 x6 x7 y0 y1 y2 y3 y4 y5 y6 y7 : Int) : List Int := List.zipWith (fun x y => x + y) (four y3 y7 y5 (0 - y6) x0 x1 x2 x4) (four x3 x7 x5 (0 - x6) y0 (0 - y1) (0 - y2) (0 - y4))
def lmulL : List Int → List Int → List Int
  | [x0, x1, x2, x3, x4, x5, x6, x7], [y0, y1, y2, y3, y4, y5, y6, y7] =>
    let n := nearL x0 x1 x2 x3 x4 x5 x6 x7 y0 y1 y2 y3 y4 y5 y6 y7
    let f := farL x0 x1 x2 x3 x4 x5 x6 x7 y0 y1 y2 y3 y4 y5 y6 y7
    [n.getD 0 0, n.getD 1 0, n.getD 2 0, f.getD 0 0, n.getD 3 0, f.getD 2 0, 0 - f.getD 3 0, f.getD 1 0]
  | _, _ => []
theorem small_neg {i : Int} (hs : small i = true) : small (0 - i) = true := by rw [small_iff] at *; omega
theorem s__law_mul {x0 x1 x2 x3 x4 x5 x6 x7 y0 y1 y2 y3 y4 y5 y6 y7 : Int} (hs : smR [y0, y1, y2, y3, y4, y5, y6, y7]) :
    D__law_mul [ev [x0, x1, x2, x3, x4, x5, x6, x7], ev [y0, y1, y2, y3, y4, y5, y6, y7]] h = .ok (ev (lmulL [x0, x1, x2, x3, x4, x5, x6, x7] [y0, y1, y2, y3, y4, y5, y6, y7])) h := by
  have m0 := hs y0 (by simp)
  have m1 := hs y1 (by simp)
  have m2 := hs y2 (by simp)
  have m3 := hs y3 (by simp)
  have m4 := hs y4 (by simp)
  have m5 := hs y5 (by simp)
  have m6 := hs y6 (by simp)
  have m7 := hs y7 (by simp)
  refine done (v := ev (lmulL [x0, x1, x2, x3, x4, x5, x6, x7] [y0, y1, y2, y3, y4, y5, y6, y7])) rfl ?_ (bel_ev _ _) rfl
  refine (q_seq (q_par (vs := [ev [x0, x1, x2, x4], ev [x3, x7, x5, 0 - x6]]) rfl rfl)).trans ?_
  refine (q_seq (q_par (vs := [ev [y0, y1, y2, y4], ev [y3, y7, y5, 0 - y6]]) rfl rfl)).trans ?_
  refine (q_seq (q_asg (v := .lst ((nearL x0 x1 x2 x3 x4 x5 x6 x7 y0 y1 y2 y3 y4 y5 y6 y7).map .int)) ((q_lc (f := fun p => .int (p.1 - p.2)) (q_zi (q_call (q_two (x := ev [x0, x1, x2, x4]) (y := ev [y0, y1, y2, y4]) rfl rfl) (s__law_four (.inr ⟨m0, m1, m2, m4⟩))) (q_call (q_two (x := ev [y3, 0 - y7, 0 - y5, 0 - (0 - y6)]) (y := ev [x3, x7, x5, 0 - x6]) rfl rfl) (s__law_four (.inl ⟨m3, small_neg m7, small_neg m5, small_neg (small_neg m6)⟩)))) (by simp [four]) fun p hp => ⟨_, rfl, rfl, rfl⟩).trans (by rw [zw (fun x y => x - y)]; rfl)) rfl)).trans ?_
  refine (q_seq (q_asg (v := .lst ((farL x0 x1 x2 x3 x4 x5 x6 x7 y0 y1 y2 y3 y4 y5 y6 y7).map .int)) ((q_lc (f := fun p => .int (p.1 + p.2)) (q_zi (q_call (q_two (x := ev [y3, y7, y5, 0 - y6]) (y := ev [x0, x1, x2, x4]) rfl rfl) (s__law_four (.inl ⟨m3, m7, m5, small_neg m6⟩))) (q_call (q_two (x := ev [x3, x7, x5, 0 - x6]) (y := ev [y0, 0 - y1, 0 - y2, 0 - y4]) rfl rfl) (s__law_four (.inr ⟨m0, small_neg m1, small_neg m2, small_neg m4⟩)))) (by simp [four]) fun p hp => ⟨_, rfl, rfl, rfl⟩).trans (by rw [zw (fun x y => x + y)]; rfl)) rfl)).trans ?_
  exact q_ret rfl
end LawK80
-- text K80w
namespace LawK80
open PySem PySem.Spec Mn
variable {h : MH}
theorem zip2_self : ∀ xs : List PV, zip2 xs xs = xs.map fun x => .tup [x, x]
  | [] => rfl
  | x :: xs => by simp [zip2, zip2_self xs]
theorem same_int (self : FDen) (i : Int) : runF false 2 4 (b__law_same self) [.int i, .int i] h = .ok (.bl true) h := by
  refine done (v := .bl true) rfl ?_ rfl rfl
  refine (q_seq ((q_if0 rfl).trans rfl)).trans ?_
  refine (q_seq ((q_if0 rfl).trans rfl)).trans ?_
  refine (q_seq ((q_if0 rfl).trans rfl)).trans ?_
  exact q_ret ((q_and1 rfl).trans ((q_and1 rfl).trans ((q_eqI rfl rfl).trans (by simp))))
theorem same_tup (self : FDen) (xs : List PV) (hl : xs.length ≤ 1000) (hs : ∀ x ∈ xs, self [x, x] h = .ok (.bl true) h) : runF false 2 4 (b__law_same self) [.tup xs, .tup xs] h = .ok (.bl true) h := by
  refine done (v := .bl true) rfl ?_ rfl rfl
  refine q_seqR ((q_if1 rfl).trans ?_)
  refine (q_seq ((q_if0 rfl).trans rfl)).trans ?_
  refine q_ret ((q_and1 (h1 := h) ((q_eqI (q_lenT rfl) (q_lenT rfl)).trans (by simp))).trans ?_)
  refine (q_allL (r := xs) (p := fun _ => true) (q_lc (g := fun x => .tup [x, x]) (f := fun _ => .bl true) ?_ (by omega) fun x hx => ⟨_, rfl, rfl, q_call (q_two rfl rfl) (hs x hx)⟩)).trans (by simp)
  exact (q_zi0 rfl rfl rfl rfl).trans (by rw [zip2_self])
theorem same_lst (self : FDen) (xs : List PV) (hl : xs.length ≤ 1000) (hs : ∀ x ∈ xs, self [x, x] h = .ok (.bl true) h) : runF false 2 4 (b__law_same self) [.lst xs, .lst xs] h = .ok (.bl true) h := by
  refine done (v := .bl true) rfl ?_ rfl rfl
  refine q_seqR ((q_if1 rfl).trans ?_)
  refine (q_seq ((q_if0 rfl).trans rfl)).trans ?_
  refine q_ret ((q_and1 (h1 := h) ((q_eqI (q_lenL rfl) (q_lenL rfl)).trans (by simp))).trans ?_)
  refine (q_allL (r := xs) (p := fun _ => true) (q_lc (g := fun x => .tup [x, x]) (f := fun _ => .bl true) ?_ (by omega) fun x hx => ⟨_, rfl, rfl, q_call (q_two rfl rfl) (hs x hx)⟩)).trans (by simp)
  exact (q_zi0 rfl rfl rfl rfl).trans (by rw [zip2_self])
theorem same4_ev (a : List Int) (hl : a.length ≤ 1000) : D__law_same_4 [ev a, ev a] h = .ok (.bl true) h :=
  same_tup _ _ (by simpa using hl) fun x hx => by
    obtain ⟨i, _, rfl⟩ := List.mem_map.mp hx
    exact same_int _ i
theorem same4_int (i : Int) : D__law_same_4 [.int i, .int i] h = .ok (.bl true) h := same_int _ i
theorem s_same (xs : List PV) (hl : xs.length ≤ 1000) (hs : ∀ x ∈ xs, (∃ a, x = ev a ∧ a.length ≤ 1000) ∨ ∃ i, x = .int i) : D__law_same [.lst xs, .lst xs] h = .ok (.bl true) h :=
  same_lst _ _ hl fun x hx => by
    rcases hs x hx with ⟨a, rfl, ha⟩ | ⟨i, rfl⟩
    · exact same4_ev a ha
    · exact same4_int i
theorem cut1 (x : PV) (r : List PV) : cutP (x :: r) (some 1) none = r := by
  simp [cutP, HT.sIx]
theorem q_cut1 {m : Nat} {a : Den} {e : Mn.Env} {h1 : MH} {x : Int} {r : List Int} (ha : a e h = some (ev (x :: r), h1)) : dSl m a (oSome (dC (.int 1))) oNon e h = some (ev r, h1) := by
  simp only [dSl, ha, oSome, q_c, oNon, List.map_cons, cut1]
theorem q_addT {m : Nat} {a b : Den} {e : Mn.Env} {h1 h2 : MH} {r s : List Int} (ha : a e h = some (ev r, h1)) (hb : b e h1 = some (ev s, h2)) (hl : r.length + s.length ≤ 1000) : dBin m .Add a b e h = some (ev (r ++ s), h2) := by
  rw [q_bin ha hb]
  simp only [binop, opAdd]
  rw [e_mkT (by simp; omega)]
  simp
theorem s_side_of {x : Int} {r : List Int} (hl : r.length ≤ 900) : D_side_of [ev (x :: r)] h = .ok (ev (0 :: r)) h :=
  done rfl (q_ret (q_addT (r := [0]) rfl (q_cut1 rfl) (by simp; omega))) (bel_ev _ _) rfl
abbrev mateR (x : Int) (r : List Int) : List Int := x :: r.map fun y => -y
theorem s_mate_of {x : Int} {r : List Int} (hl : r.length ≤ 900) : D_mate_of [ev (x :: r)] h = .ok (ev (mateR x r)) h :=
  done rfl (q_ret (q_addT (r := [x]) (s := r.map fun y => -y) ((q_tup (q_one (q_hd rfl)) (by simp)).trans rfl) ((q_tupL (q_lc (f := fun y => .int (-y)) (q_seqv (q_cut1 rfl)) (by omega) fun p hp => ⟨_, rfl, rfl, rfl⟩)).trans (by rw [mw (fun y => -y)])) (by simp; omega))) (bel_ev _ _) rfl
theorem s__law_mate {x : Int} {r : List Int} (hl : r.length ≤ 900) : D__law_mate [ev (x :: r)] h = .ok (ev (mateR x r)) h :=
  done rfl (q_ret (q_addT (r := [x]) (s := r.map fun y => -y) ((q_tup (q_one (q_hd rfl)) (by simp)).trans rfl) ((q_tupL (q_lc (f := fun y => .int (0 - y)) (q_seqv (q_cut1 rfl)) (by omega) fun p hp => ⟨_, rfl, rfl, rfl⟩)).trans (by rw [mw (fun y => 0 - y)]; simp)) (by simp; omega))) (bel_ev _ _) rfl
/-! told_in -/
def hitL (x : Int) (r goal : List Int) (k : Nat) : Bool := decide (powL x r k = goal)
/-- the first k in s, s + 1, .. (f of them) that hits -/
def firstHit (p : Nat → Bool) : Nat → Nat → Option Nat
  | 0, _ => none
  | f + 1, s => if p s then some s else firstHit p f (s + 1)
theorem firstHit_some {p : Nat → Bool} : ∀ {f s k}, firstHit p f s = some k → s ≤ k ∧ k < s + f ∧ p k = true ∧ ∀ j, s ≤ j → j < k → p j = false
  | 0, s, k, e => by cases e
  | f + 1, s, k, e => by
    unfold firstHit at e
    by_cases hp : p s = true
    · rw [if_pos hp] at e; cases e; exact ⟨Nat.le_refl _, by omega, hp, fun j h1 h2 => by omega⟩
    · rw [if_neg hp] at e
      obtain ⟨a1, a2, a3, a4⟩ := firstHit_some e
      refine ⟨by omega, by omega, a3, fun j h1 h2 => ?_⟩
      by_cases hj : j = s
      · subst hj; simpa using hp
      · exact a4 j (by omega) h2
theorem firstHit_ex {p : Nat → Bool} : ∀ {f s k}, s ≤ k → k < s + f → p k = true → ∃ j, firstHit p f s = some j ∧ j ≤ k
  | 0, s, k, h1, h2, _ => by omega
  | f + 1, s, k, h1, h2, hp => by
    unfold firstHit
    by_cases hs : p s = true
    · exact ⟨s, by rw [if_pos hs], h1⟩
    · rw [if_neg hs]
      have : s ≠ k := by rintro rfl; exact hs hp
      exact firstHit_ex (by omega) (by omega) hp
end LawK80
-- text K80x
namespace LawK80
open PySem PySem.Spec Mn
variable {h : MH}
abbrev toldB : SDen := (sSeq (sIf (tVal (dCmp .Eq (dCall D_sum_of (lCons (dCall D_times_of (lCons (dVar 0) (lCons (dIx (dVar 4) (dC (.int 0))) (lNil)))) (lCons (dCall D_times_of (lCons (dC k_ONE) (lCons (dIx (dVar 4) (dC (.int 1))) (lNil)))) (lNil)))) (dVar 1))) (sSeq (sRet (dVar 2)) (sNext)) (sNext)) (sSeq (sPar [4, 5] (lCons (dVar 5) (lCons (dTup (lCons (dBin 0 .Sub (dBin 0 .Mult (dIx (dVar 3) (dC (.int 0))) (dIx (dVar 5) (dC (.int 0)))) (dBin 0 .Mult (dIx (dVar 3) (dC (.int 1))) (dIx (dVar 4) (dC (.int 0))))) (lCons (dBin 0 .Sub (dBin 0 .Mult (dIx (dVar 3) (dC (.int 0))) (dIx (dVar 5) (dC (.int 1)))) (dBin 0 .Mult (dIx (dVar 3) (dC (.int 1))) (dIx (dVar 4) (dC (.int 1))))) (lNil)))) (lNil)))) (sNext)))
def toldE (x : Int) (r goal : List Int) (o : Option PV) (p : P2) : Mn.Env := [some (ev (x :: r)), some (ev goal), o, some (pr (2 * x, sqR (x :: r))), some (pr p.1), some (pr p.2)]
theorem told_loop {x : Int} {r goal : List Int} (ok : Ok8 x r) : ∀ (f s : Nat) (o : Option PV), 
    forGo (aName 2) toldB ((List.range f).map fun i => .int ((s + i : Nat) : Int)) (toldE x r goal o (pairT (2 * x) (sqR (x :: r)) s)) h =
      match firstHit (hitL x r goal) f s with
      | some k => .rt (.int (k : Int)) h
      | none => .nx (toldE x r goal (match f with | 0 => o | f + 1 => some (.int ((s + f : Nat) : Int))) (pairT (2 * x) (sqR (x :: r)) (s + f))) h
  | 0, s, o => rfl
  | f + 1, s, o => by
    have l8 := c8 (x := x) ok.len
    have G : ∀ v, dCmp .Eq (dCall D_sum_of (lCons (dCall D_times_of (lCons (dVar 0) (lCons (dIx (dVar 4) (dC (.int 0))) (lNil)))) (lCons (dCall D_times_of (lCons (dC k_ONE) (lCons (dIx (dVar 4) (dC (.int 1))) (lNil)))) (lNil)))) (dVar 1) (toldE x r goal (some v) (pairT (2 * x) (sqR (x :: r)) s)) h = some (.bl (hitL x r goal s), h) := fun v =>
      q_eqE (r := powL x r s) (q_call (q_two (q_call (q_two (x := ev (x :: r)) rfl (q_ix rfl rfl rfl rfl)) (s_times_of (by omega) (.inl ok.sm))) (q_call (q_two (x := ev one8) rfl (q_ix rfl rfl rfl rfl)) (s_times_of (by decide) (.inl sm_one)))) (s_sum_of (by simp [ok.len]))) rfl
    rw [List.range_succ_eq_map, List.map_cons, List.map_map]
    have ih := told_loop (goal := goal) ok f (s + 1) (some (.int ((s : Nat) : Int)))
    have hm : ((fun i => PV.int ((s + i : Nat) : Int)) ∘ Nat.succ) = fun i => PV.int ((s + 1 + i : Nat) : Int) := by funext i; simp only [Function.comp]; congr 2; omega
    rw [hm]
    unfold forGo firstHit
    show (match toldB (toldE x r goal (some (.int ((s + 0 : Nat) : Int))) (pairT (2 * x) (sqR (x :: r)) s)) h with
      | .nx e2 h2 => forGo (aName 2) toldB _ e2 h2 | .ct e2 h2 => forGo (aName 2) toldB _ e2 h2 | .bk e2 h2 => .nx e2 h2 | .rt v h2 => .rt v h2 | .ex h2 => .ex h2 | .bad => .bad) = _
    by_cases hp : hitL x r goal s = true
    · have B : toldB (toldE x r goal (some (.int ((s + 0 : Nat) : Int))) (pairT (2 * x) (sqR (x :: r)) s)) h = .rt (.int ((s + 0 : Nat) : Int)) h := q_seqR ((q_if1 ((q_val (G _)).trans (by rw [hp]))).trans rfl)
      rw [B, if_pos hp]
      rfl
    · have hp' : hitL x r goal s = false := by simpa using hp
      have B : toldB (toldE x r goal (some (.int ((s + 0 : Nat) : Int))) (pairT (2 * x) (sqR (x :: r)) s)) h = .nx (toldE x r goal (some (.int ((s + 0 : Nat) : Int))) (pairT (2 * x) (sqR (x :: r)) (s + 1))) h := by
        rw [pairT_succ]
        refine (q_seq ((q_if0 ((q_val (G _)).trans (by rw [hp']))).trans rfl)).trans ?_
        exact (q_seq (q_par (q_two rfl (q_tup2 (q_sub (q_mulL (q_ix rfl rfl rfl rfl) (q_ix rfl rfl rfl rfl) ok.t) (q_mulL (q_ix rfl rfl rfl rfl) (q_ix rfl rfl rfl rfl) ok.n)) (q_sub (q_mulL (q_ix rfl rfl rfl rfl) (q_ix rfl rfl rfl rfl) ok.t) (q_mulL (q_ix rfl rfl rfl rfl) (q_ix rfl rfl rfl rfl) ok.n)))) rfl)).trans rfl
      rw [B, if_neg hp]
      simp only [Nat.add_zero]
      rw [ih]
      cases firstHit (hitL x r goal) f (s + 1) with
      | some k => rfl
      | none =>
        simp only
        rw [show s + 1 + f = s + (f + 1) from by omega]
        cases f with
        | zero => rfl
        | succ f => simp only; rw [show s + 1 + f = s + (f + 1) from by omega]
theorem pair1 (t n : Int) : pairT t n 1 = ((1, 0), (t, -n)) := by simp [pairT, pst]
theorem s_told_in {x : Int} {r goal : List Int} {k : Nat} (ok : Ok8 x r) (hk : firstHit (hitL x r goal) 200 1 = some k) : D_told_in [ev (x :: r), ev goal] h = .ok (.int (k : Int)) h := by
  have l8 := c8 (x := x) ok.len
  have L := told_loop (h := h) (goal := goal) ok 200 1 none
  rw [hk, pair1] at L
  refine done (v := .int (k : Int)) rfl ?_ rfl rfl
  have Q : dCall D_square_sum_of (lCons (dVar 0) (lNil)) ([ev (x :: r), ev goal].map some ++ List.replicate (6 - 2) none) h = some (.int (sqR (x :: r)), h) := q_call (q_one rfl) (s_square_sum_of (by omega) ok.sm)
  have M : dBin 0 .Mult (dC (.int 2)) (dIx (dVar 0) (dC (.int 0))) ([ev (x :: r), ev goal].map some ++ List.replicate (6 - 2) none) h = some (.int (2 * x), h) := q_mulL rfl (q_hd rfl) (by decide)
  refine (q_seq (q_par (vs := [pr (2 * x, sqR (x :: r)), pr (1, 0), pr (2 * x, -sqR (x :: r))]) (q_cons (h1 := h) (q_tup2 M Q) (q_two rfl (q_tup2 M (q_neg Q)))) rfl)).trans ?_
  refine q_seqR ?_
  have I : iRg2 (dC (.int 1)) (dBin 0 .Add (dC k_MOST) (dC (.int 1))) (toldE x r goal none ((1, 0), (2 * x, -sqR (x :: r)))) h = some (.st ((List.range (201 - 1)).map fun (i : Nat) => PV.int ((1 + i : Nat) : Int)), h) := q_rg2 (n := 1) (m := 201) rfl rfl (by decide) (by decide)
  show sFor _ _ _ (toldE x r goal none ((1, 0), (2 * x, -sqR (x :: r)))) h = _
  simp only [sFor, I]
  exact L
theorem s_is_power_of {x : Int} {r goal : List Int} {k : Nat} (ok : Ok8 x r) (hg : goal.length = 8) (hk : firstHit (hitL x r goal) 200 1 = some k) : D_is_power_of [ev (x :: r), ev goal] h = .ok (.bl true) h := by
  refine done (v := .bl true) rfl ?_ rfl rfl
  refine (q_seq (q_asg (q_call (q_one rfl) (s_sure_eight (c8 ok.len))) rfl)).trans ?_
  refine q_ret ?_
  rw [q_cmp (q_call (q_two rfl (q_call (q_one rfl) (s_sure_eight hg))) (s_told_in ok hk)) rfl]
  rfl
theorem s_power_told {x : Int} {r goal : List Int} {k : Nat} (ok : Ok8 x r) (hg : goal.length = 8) (hk : firstHit (hitL x r goal) 200 1 = some k) : D_power_told [ev (x :: r), ev goal] h = .ok (.int (k : Int)) h := by
  refine done (v := .int (k : Int)) rfl ?_ rfl rfl
  refine (q_seq (q_asg (q_call (q_one rfl) (s_sure_eight (c8 ok.len))) rfl)).trans ?_
  refine (q_seq (q_asg (q_call (q_two rfl (q_call (q_one rfl) (s_sure_eight hg))) (s_told_in ok hk)) rfl)).trans ?_
  refine (q_seq ((q_if0 rfl).trans rfl)).trans ?_
  exact q_ret rfl
theorem s_heard {x : Int} {r goal : List Int} {k : Nat} (ok : Ok8 x r) (hg : goal.length = 8) (hk : firstHit (hitL x r goal) 200 1 = some k) : D__law_heard [.fn "power_told", ev (x :: r), ev goal] h = .ok (.int (k : Int)) h := by
  refine done (v := .int (k : Int)) rfl ?_ rfl rfl
  refine (q_seq (q_asg rfl rfl)).trans ?_
  refine (q_seq ((q_seq (q_asg (v := .int (k : Int)) (h1 := h) ?_ rfl)).trans rfl)).trans ?_
  · refine (q_callV (x := "power_told") (D := D_power_told) rfl rfl).trans ?_
    exact q_call (q_two rfl rfl) (s_power_told ok hg hk)
  · exact q_ret ((q_dif1 rfl).trans (q_call (q_one rfl) (done (v := .int (k : Int)) rfl (q_ret ((q_dif0 rfl).trans rfl)) rfl rfl)))
end LawK80
-- text K80y
namespace LawK80
open PySem PySem.Spec Mn
variable {h : MH}
def oddR (a : List Int) : List Int := ((a.zipIdx 0).filter fun p => !decide (Int.fmod p.1 2 = 0)).map fun p => (p.2 : Int)
theorem s_odd_places {a : List Int} (hl : a.length ≤ 1000) : D_odd_places [ev a] h = .ok (ev (oddR a)) h := by
  refine (done (v := .tup (((a.zipIdx 0).filter fun p => !decide (Int.fmod p.1 2 = 0)).map fun p => .int (p.2 : Int))) rfl (q_ret (q_tupL (q_lcf (p := fun q : Int × Nat => !decide (Int.fmod q.1 2 = 0)) (q_en rfl) (by simpa using (by omega : a.length ≤ 100000)) fun p hp => ⟨_, rfl, q_val (q_neI (q_mod rfl rfl (by decide)) rfl), fun _ => rfl⟩))) ?_ rfl).trans (okk ?_)
  · have := bel_ev h.length (oddR a)
    simpa [oddR, ev, Function.comp_def] using this
  · simp [oddR, ev, Function.comp_def]
def code1 : List (List Int) := [[], [0, 1, 2, 3, 4, 5, 6, 7], [0, 1, 2, 4], [0, 1, 3, 7], [0, 1, 5, 6], [0, 2, 3, 6], [0, 2, 5, 7], [0, 3, 4, 5], [0, 4, 6, 7], [1, 2, 3, 5], [1, 2, 6, 7], [1, 3, 4, 6], [1, 4, 5, 7], [2, 3, 4, 7], [2, 4, 5, 6], [3, 5, 6, 7]]
def ringB (a : List Int) : Bool := decide (oddR a ∈ code1)
theorem s_in_ring {a : List Int} (hl : a.length ≤ 1000) : D_in_ring [.int 1, ev a] h = .ok (.bl (ringB a)) h := by
  refine done (v := .bl (ringB a)) rfl ?_ rfl rfl
  refine q_ret ?_
  rw [q_cmp (x := ev (oddR a)) (y := .tup (code1.map ev)) (q_call (q_one rfl) (s_odd_places hl)) ((q_dif1 (h1 := h) ((q_val (q_eqI rfl rfl)).trans (by simp))).trans rfl)]
  simp only [cmpop, inH_te, Option.map]
  rfl
theorem s_is_whole_in {a : List Int} (hl : a.length = 8) (hr : ringB a = true) : D_is_whole_in [ev a] h = .ok (.bl true) h :=
  done rfl (q_ret ((q_and1 (q_call (q_one rfl) (s_is_eight_in hl))).trans (by rw [← hr]; exact q_call (q_two rfl rfl) (s_in_ring (by omega))))) rfl rfl
theorem s_sure_whole {a : List Int} (hl : a.length = 8) (hr : ringB a = true) : D_sure_whole [ev a] h = .ok (ev a) h :=
  done rfl ((q_seq (q_asg (q_call (q_one rfl) (s_tupled (by omega))) rfl)).trans ((q_guard (q_call (q_one rfl) (s_is_whole_in hl hr))).trans rfl)) (bel_ev _ _) rfl
theorem s_sure_wholel {a : List Int} (hl : a.length = 8) (hr : ringB a = true) : D_sure_whole [.lst (a.map .int)] h = .ok (ev a) h :=
  done rfl ((q_seq (q_asg (q_call (q_one rfl) (s_tupledl (by omega))) rfl)).trans ((q_guard (q_call (q_one rfl) (s_is_whole_in hl hr))).trans rfl)) (bel_ev _ _) rfl
abbrev halfR (a : List Int) : List Int := a.map fun x => Int.fdiv x 2
theorem prod_len (a b : List Int) : (prodL a b).length = 8 := by
  unfold prodL
  suffices ∀ (z : List (Int × Nat)) (s : List Int), (z.foldl (cell2 b) s).length = s.length by rw [this]; rfl
  intro z
  induction z with
  | nil => intro s; rfl
  | cons q z ih => intro s; rw [List.foldl_cons, ih, cell2_len]
theorem s_multiplied {a b : List Int} (ha : a.length = 8) (hb : b.length = 8) (hs : smR b) : D_multiplied [ev a, ev b] h = .ok (ev (halfR (prodL a b))) h :=
  (done rfl (q_ret (q_tupL (q_lc (f := fun x => .int (Int.fdiv x 2)) (q_seqv (q_call (q_two rfl rfl) (s_product_of ha hb hs))) (by rw [prod_len]; omega) fun p hp => ⟨_, rfl, rfl, q_div rfl rfl (by decide) (by decide)⟩))) (by rw [mw (fun x => Int.fdiv x 2)]; exact bel_ev _ _) rfl).trans (okk (by rw [mw (fun x => Int.fdiv x 2)]))
theorem s_sure_two {a b : List Int} (ha : a.length = 8) (hb : b.length = 8) : D_sure_two [ev a, ev b] h = .ok (.tup [ev a, ev b]) h :=
  done rfl (q_ret (q_tup2 (q_call (q_one rfl) (s_sure_eight ha)) (q_call (q_one rfl) (s_sure_eight hb)))) (by simp [PV.bel, belAll, belAll_ints]) rfl
theorem s_product {a b : List Int} (ha : a.length = 8) (hb : b.length = 8) (hs : smR b) : D_product [ev a, ev b] h = .ok (ev (prodL a b)) h :=
  done rfl ((q_seq (q_asg (q_call (q_two rfl rfl) (s_sure_two ha hb)) (q_unp rfl rfl rfl))).trans (q_ret (q_call (q_two rfl rfl) (s_product_of ha hb hs)))) (bel_ev _ _) rfl
theorem s_sure_wholes {a b : List Int} (ha : a.length = 8) (hb : b.length = 8) (ra : ringB a = true) (rb : ringB b = true) : D_sure_wholes [ev a, ev b] h = .ok (.tup [ev a, ev b]) h :=
  done rfl (q_ret (q_tup2 (q_call (q_one rfl) (s_sure_whole ha ra)) (q_call (q_one rfl) (s_sure_whole hb rb)))) (by simp [PV.bel, belAll, belAll_ints]) rfl
theorem s_whole_product {a b : List Int} (ha : a.length = 8) (hb : b.length = 8) (ra : ringB a = true) (rb : ringB b = true) (hs : smR b) : D_whole_product [ev a, ev b] h = .ok (ev (halfR (prodL a b))) h :=
  done rfl ((q_seq (q_asg (q_call (q_two rfl rfl) (s_sure_wholes ha hb ra rb)) (q_unp rfl rfl rfl))).trans (q_ret (q_call (q_two rfl rfl) (s_multiplied ha hb hs)))) (bel_ev _ _) rfl
theorem s_size_of {a : List Int} (hl : a.length = 8) (hs : smR a) : D_size_of [ev a] h = .ok (.int (Int.fdiv (sqR a) 4)) h :=
  done rfl (q_ret (q_div (q_call (q_one rfl) (s_square_sum_of (by omega) hs)) rfl (by decide) (by decide))) rfl rfl
theorem s_whole_size {a : List Int} (hl : a.length = 8) (hr : ringB a = true) (hs : smR a) : D_whole_size [ev a] h = .ok (.int (Int.fdiv (sqR a) 4)) h :=
  done rfl (q_ret (q_call (q_one (q_call (q_one rfl) (s_sure_whole hl hr))) (s_size_of hl hs))) rfl rfl
theorem s_whole_mate {x : Int} {r : List Int} (hl : r.length = 7) (hr : ringB (x :: r) = true) : D_whole_mate [ev (x :: r)] h = .ok (ev (mateR x r)) h :=
  done rfl (q_ret (q_call (q_one (q_call (q_one rfl) (s_sure_whole (c8 hl) hr))) (s_mate_of (by omega)))) (bel_ev _ _) rfl
theorem s_of_eight {a : List Int} (hl : a.length = 8) : D_of_eight [ev a] h = .ok (ev (byR a 2)) h :=
  done rfl (q_ret (q_call (q_two (q_call (q_one rfl) (s_sure_eight hl)) rfl) (s_times_of (by omega) (.inr (by decide))))) (bel_ev _ _) rfl
theorem s_trace {x : Int} {r : List Int} (hl : r.length = 7) (hr : ringB (x :: r) = true) : D_trace [ev (x :: r)] h = .ok (.int x) h :=
  done rfl (q_ret (q_hd (q_call (q_one rfl) (s_sure_whole (c8 hl) hr)))) rfl rfl
end LawK80
-- text K80z
namespace LawK80
open PySem PySem.Spec Mn
variable {h : MH}
def addedL (x : Int) (r : List Int) (n : Nat) : List Int := (List.range n).foldl (fun s k => plusR s (powL x r k)) zero8
theorem s_powers_added {x : Int} {r : List Int} (o : Ok8 x r) : D_powers_added [ev (x :: r), .int 8] h = .ok (ev (addedL x r 9)) h := by
  refine done (v := ev (addedL x r 9)) rfl ?_ (bel_ev _ _) rfl
  refine (q_seq (q_asg (q_call (q_one rfl) (s_sure_eight (c8 o.len))) rfl)).trans ?_
  refine (q_seq (q_asg rfl rfl)).trans ?_
  obtain ⟨e', h', a1, ⟨q, a2, a3⟩, a4⟩ := q_for (it := (iRg1 (dBin 0 .Add (dCall D_sure_power (lCons (dVar 1) (lNil))) (dC (.int 1))))) (asg := aName 4) (body := (sSeq (sAsg (dCall D_sum_of (lCons (dVar 3) (lCons (dCall D_power_in (lCons (dVar 2) (lCons (dVar 4) (lNil)))) (lNil)))) (gA (aName 3))) (sNext)))
    (e := [some (ev (x :: r)), some (.int 8), some (ev (x :: r)), some (ev zero8), none]) (h := h) (h1 := h) (g := fun i : Nat => .int (i : Int)) (xs := List.range 9)
    (fun s k => plusR s (powL x r k)) (fun s e h' => (∃ q, e = [some (ev (x :: r)), some (.int 8), some (ev (x :: r)), some (ev s), q] ∧ h' = h) ∧ s.length = 8) zero8
    (q_rg (n := 9) ((q_add (q_call (q_one rfl) (s_sure_power (by decide) (by decide))) rfl).trans rfl) (by decide)) ⟨⟨none, rfl, rfl⟩, rfl⟩
    (by
      rintro k hk s e h' ⟨⟨q, rfl, rfl⟩, hl⟩
      have hk' : k < 9 := by simpa using hk
      exact ⟨_, _, _, rfl, .inl ((q_seq (q_asg (q_call (q_two rfl (q_call (q_two rfl rfl) (s_power_in o (by omega)))) (s_sum_of (by omega))) rfl)).trans rfl), ⟨_, rfl, rfl⟩, by simp [hl, pow_len o.len]⟩)
  subst a2 a3
  exact (q_seq a1).trans (q_ret rfl)
abbrev two8 : List Int := [2, 0, 0, 0, 0, 0, 0, 0]
theorem sm_two : smR two8 := by intro x hx; simp at hx; rcases hx with rfl | rfl <;> decide
def wpowL (x : Int) (r : List Int) (k : Nat) : List Int := plusR (byR (x :: r) (pairN x (Int.fdiv (sqR (x :: r)) 4) k).1) (byR two8 (pairN x (Int.fdiv (sqR (x :: r)) 4) k).2)
structure Okw (x : Int) (r : List Int) : Prop where
  len : r.length = 7
  ring : ringB (x :: r) = true
  sm : smR (x :: r)
  n : small (Int.fdiv (sqR (x :: r)) 4) = true
theorem s_whole_power {x : Int} {r : List Int} {k : Nat} (o : Okw x r) (hk : k ≤ 200) : D_whole_power [ev (x :: r), .int (k : Int)] h = .ok (ev (wpowL x r k)) h := by
  have l8 := c8 (x := x) o.len
  refine done (v := ev (wpowL x r k)) rfl ?_ (bel_ev _ _) rfl
  refine (q_seq (q_asg (q_call (q_one rfl) (s_sure_whole l8 o.ring)) rfl)).trans ?_
  refine (q_seq (q_asg (q_call (q_two (q_tup2 (q_hd rfl) (q_div (q_call (q_one rfl) (s_square_sum_of (by omega) o.sm)) rfl (by decide) (by decide))) (q_call (q_one rfl) (s_sure_power (by omega) (by omega)))) (s_pair_in (o.sm x (by simp)) o.n (by omega))) (q_unp rfl rfl rfl))).trans ?_
  exact q_ret (q_call (q_two (q_call (q_two rfl rfl) (s_times_of (by omega) (.inl o.sm))) (q_call (q_two (x := ev two8) rfl rfl) (s_times_of (by decide) (.inl sm_two)))) (s_sum_of (by simp [o.len])))
theorem s_whole_powerl {x : Int} {r : List Int} {k : Nat} (o : Okw x r) (hk : k ≤ 200) : D_whole_power [.lst ((x :: r).map .int), .int (k : Int)] h = .ok (ev (wpowL x r k)) h := by
  have l8 := c8 (x := x) o.len
  refine done (v := ev (wpowL x r k)) rfl ?_ (bel_ev _ _) rfl
  refine (q_seq (q_asg (q_call (q_one rfl) (s_sure_wholel l8 o.ring)) rfl)).trans ?_
  refine (q_seq (q_asg (q_call (q_two (q_tup2 (q_hd rfl) (q_div (q_call (q_one rfl) (s_square_sum_of (by omega) o.sm)) rfl (by decide) (by decide))) (q_call (q_one rfl) (s_sure_power (by omega) (by omega)))) (s_pair_in (o.sm x (by simp)) o.n (by omega))) (q_unp rfl rfl rfl))).trans ?_
  exact q_ret (q_call (q_two (q_call (q_two rfl rfl) (s_times_of (by omega) (.inl o.sm))) (q_call (q_two (x := ev two8) rfl rfl) (s_times_of (by decide) (.inl sm_two)))) (s_sum_of (by simp [o.len])))
theorem s_sure_unit {a : List Int} (hl : a.length = 8) (hr : ringB a = true) (hs : smR a) (hq : sqR a = 4) : D_sure_unit [ev a] h = .ok (ev a) h :=
  done rfl ((q_seq (q_asg (q_call (q_one rfl) (s_sure_whole hl hr)) rfl)).trans ((q_seq ((q_if0 (h1 := h) ((q_val (q_neI (q_call (q_one rfl) (s_square_sum_of (by omega) hs)) rfl)).trans (by rw [hq]; rfl))).trans rfl)).trans rfl)) (bel_ev _ _) rfl
end LawK80
-- text K80ab
namespace LawK80
open PySem PySem.Spec Mn
variable {h : MH}
theorem s_order_in {x o : Int} {r : List Int} (ho : h_ORDERS.lookup x = some o) : D_order_in [ev (x :: r)] h = .ok (.int o) h := by
  refine done (v := .int o) rfl (q_ret ?_) rfl rfl
  simp only [dDic, q_hd (show dVar 0 ([ev (x :: r)].map some ++ List.replicate (1 - 1) none) h = some (ev (x :: r), h) from rfl), ho]
structure Okk (x : Int) (r : List Int) : Prop extends Okw x r where
  q : sqR (x :: r) = 4
theorem s_order_of {x o : Int} {r : List Int} (k : Okk x r) (ho : h_ORDERS.lookup x = some o) : D_order_of [ev (x :: r)] h = .ok (.int o) h :=
  done rfl (q_ret (q_call (q_one (q_call (q_one rfl) (s_sure_unit (c8 k.len) k.ring k.sm k.q))) (s_order_in ho))) rfl rfl
def upowL (a : List Int) (k : Nat) : List Int := (List.range k).foldl (fun s _ => halfR (prodL s a)) two8
theorem s_unit_power {x o k : Int} {r : List Int} (u : Okk x r) (ho : h_ORDERS.lookup x = some o) (h0 : 0 < o) (h6 : o ≤ 6) : D_unit_power [ev (x :: r), .int k] h = .ok (ev (upowL (x :: r) (Int.fmod k o).toNat)) h := by
  have m0 := Int.fmod_nonneg_of_pos k h0
  have m1 := Int.fmod_lt_of_pos k h0
  refine done (v := ev (upowL (x :: r) (Int.fmod k o).toNat)) rfl ?_ (bel_ev _ _) rfl
  refine (q_seq (q_asg (q_call (q_one rfl) (s_sure_unit (c8 u.len) u.ring u.sm u.q)) rfl)).trans ?_
  refine (q_seq (q_asg rfl rfl)).trans ?_
  obtain ⟨e', h', a1, ⟨q, a2, a3⟩, a4⟩ := q_for (it := (iRg1 (dBin 0 .Mod (dCall D_sure_number (lCons (dVar 1) (lNil))) (dCall D_order_in (lCons (dVar 2) (lNil)))))) (asg := aName 4) (body := (sSeq (sAsg (dCall D_multiplied (lCons (dVar 3) (lCons (dVar 2) (lNil)))) (gA (aName 3))) (sNext)))
    (e := [some (ev (x :: r)), some (.int k), some (ev (x :: r)), some (ev two8), none]) (h := h) (h1 := h) (g := fun i : Nat => .int (i : Int)) (xs := List.range (Int.fmod k o).toNat)
    (fun s _ => halfR (prodL s (x :: r))) (fun s e h' => (∃ q, e = [some (ev (x :: r)), some (.int k), some (ev (x :: r)), some (ev s), q] ∧ h' = h) ∧ s.length = 8) two8
    (q_rg (n := (Int.fmod k o).toNat) ((q_mod (q_call (q_one rfl) s_sure_number) (q_call (q_one rfl) (s_order_in ho)) (by omega)).trans (by rw [Int.toNat_of_nonneg m0])) (by omega)) ⟨⟨none, rfl, rfl⟩, rfl⟩
    (by
      rintro j hj s e h' ⟨⟨q, rfl, rfl⟩, hl⟩
      exact ⟨_, _, _, rfl, .inl ((q_seq (q_asg (q_call (q_two rfl rfl) (s_multiplied hl (c8 u.len) u.sm)) rfl)).trans rfl), ⟨_, rfl, rfl⟩, by simp [prod_len]⟩)
  subst a2 a3
  exact (q_seq a1).trans (q_ret rfl)
theorem s__law_left {a b : Int} (hb : small b = true) (h0 : b ≠ 0) : D__law_left [.int a, .int b] h = .ok (.int (a - Int.fdiv a b * b)) h :=
  done rfl (q_ret (q_sub rfl (q_mulR (q_div rfl rfl hb h0) rfl hb))) rfl rfl
def comL (a : List Int) : Int := a.foldl (fun s y => ((Nat.gcd s.natAbs y.natAbs : Nat) : Int)) 0
theorem s_common_of {a : List Int} : D_common_of [ev a] h = .ok (.int (comL a)) h := by
  refine done (v := .int (comL a)) rfl ?_ rfl rfl
  refine (q_seq (q_asg rfl rfl)).trans ?_
  obtain ⟨e', h', a1, q, a2, a3⟩ := q_for (it := (iSeq (dVar 0))) (asg := aName 2) (body := (sSeq (sAsg (dBlt bGcd (lCons (dVar 1) (lCons (dVar 2) (lNil)))) (gA (aName 1))) (sNext)))
    (e := [some (ev a), some (.int 0), none]) (h := h) (h1 := h) (g := PV.int) (xs := a)
    (fun s y => ((Nat.gcd s.natAbs y.natAbs : Nat) : Int)) (fun s e h' => ∃ q, e = [some (ev a), some (.int s), q] ∧ h' = h) 0 (q_seqv rfl) ⟨none, rfl, rfl⟩
    (by
      rintro j hj s e h' ⟨q, rfl, rfl⟩
      exact ⟨_, _, _, rfl, .inl ((q_seq (q_asg ((q_blt (q_two rfl rfl)).trans rfl) rfl)).trans rfl), _, rfl, rfl⟩)
  subst a2 a3
  exact (q_seq a1).trans (q_ret rfl)
end LawK80
-- text K80r
namespace LawK80
open PySem PySem.Spec Mn
variable {h : MH}
theorem small_nat {n : Nat} (hn : n < 2 ^ 60) : small (n : Int) = true := by rw [small_iff]; omega
theorem s_root_down {n : Nat} (hn : n ≤ 100000) : ∃ r : Nat, D_root_down [.int (n : Int)] h = .ok (.int (r : Int)) h ∧ r * r ≤ n ∧ n < (r + 1) * (r + 1) := by
  obtain ⟨f, e1, h1, a1, ⟨q, he, hh, f0, f1⟩, a3⟩ := q_wh (S := Nat) (cond := (tVal (dCmp .LtE (dBin 0 .Mult (dVar 2) (dVar 2)) (dVar 0)))) (body := (sSeq (sAsg (dBin 0 .Mult (dVar 2) (dC (.int 2))) (gA (aName 2))) (sNext)))
    (e := [some (.int (n : Int)), some (.int 0), some (.int 1), none]) (h := h)
    (fun f e h' => ∃ q, e = [some (.int (n : Int)), some (.int 0), some (.int (f : Int)), q] ∧ h' = h ∧ 1 ≤ f ∧ f ≤ 200001) (fun f => decide ((f : Int) * f ≤ n)) (fun f => 200002 - f) 1 ⟨none, rfl, rfl, by omega, by omega⟩ (by omega)
    (by rintro f e h' ⟨q, rfl, rfl, f0, f1⟩; exact q_val (q_leI (q_mulR rfl rfl (small_nat (by omega))) rfl))
    (by
      rintro f e h' ⟨q, rfl, rfl, f0, f1⟩ hc
      have hc' : (f : Int) * f ≤ n := of_decide_eq_true hc
      have hf : (f : Int) ≤ n := Int.le_trans (by have := Int.mul_le_mul_of_nonneg_left (show (1 : Int) ≤ f by omega) (show (0 : Int) ≤ f by omega); simpa using this) hc'
      exact ⟨f * 2, _, _, (q_seq (q_asg ((q_mulR rfl rfl (by decide)).trans rfl) rfl)).trans rfl, ⟨_, rfl, rfl, by omega, by omega⟩, by omega⟩)
  rw [he, hh] at a1
  have hf : n < f * f := by have := of_decide_eq_false a3; rw [← Int.natCast_mul] at this; omega
  obtain ⟨⟨a, b⟩, e2, h2, b1, ⟨q2, he2, hh2, c0, c1, c2, c3⟩, b3⟩ := q_wh (S := Nat × Nat) (cond := (tVal (dCmp .Gt (dBin 0 .Sub (dVar 2) (dVar 1)) (dC (.int 1))))) (body := (sSeq (sAsg (dBin 0 .FloorDiv (dBin 0 .Add (dVar 1) (dVar 2)) (dC (.int 2))) (gA (aName 3))) (sSeq (sAsg (dIf (tVal (dCmp .LtE (dBin 0 .Mult (dVar 3) (dVar 3)) (dVar 0))) (dTup (lCons (dVar 3) (lCons (dVar 2) (lNil)))) (dTup (lCons (dVar 1) (lCons (dVar 3) (lNil))))) (gUnp 2 (gCons (gA (aName 1)) (gCons (gA (aName 2)) (gNil))))) (sNext))))
    (e := [some (.int (n : Int)), some (.int 0), some (.int (f : Int)), q]) (h := h)
    (fun s e h' => ∃ q, e = [some (.int (n : Int)), some (.int (s.1 : Int)), some (.int (s.2 : Int)), q] ∧ h' = h ∧ s.1 < s.2 ∧ s.2 ≤ 200001 ∧ s.1 * s.1 ≤ n ∧ n < s.2 * s.2) (fun s => decide ((1 : Int) < (s.2 : Int) - s.1)) (fun s => s.2 - s.1) (0, f) ⟨q, rfl, rfl, by simp; omega, f1, by simp, hf⟩ (by simp; omega)
    (by rintro s e h' ⟨q, rfl, rfl, _⟩; exact q_val (q_gtI (q_sub rfl rfl) rfl))
    (by
      rintro ⟨a, b⟩ e h ⟨q, rfl, rfl, f0, f1, f2, f3⟩ hc
      have hc' : (1 : Int) < (b : Int) - a := of_decide_eq_true hc
      simp only at f0 f1 f2 f3
      have hd : Int.fdiv ((a : Int) + b) 2 = (((a + b) / 2 : Nat) : Int) := by rw [Int.fdiv_eq_ediv_of_nonneg _ (by decide)]; omega
      have D : dBin 0 .FloorDiv (dBin 0 .Add (dVar 1) (dVar 2)) (dC (.int 2)) [some (.int (n : Int)), some (.int (a : Int)), some (.int (b : Int)), q] h = some (.int (((a + b) / 2 : Nat) : Int), h) := by rw [← hd]; exact q_div (q_add rfl rfl) rfl (by decide) (by decide)
      have G : dCmp .LtE (dBin 0 .Mult (dVar 3) (dVar 3)) (dVar 0) [some (.int (n : Int)), some (.int (a : Int)), some (.int (b : Int)), some (.int (((a + b) / 2 : Nat) : Int))] h = some (.bl (decide ((((a + b) / 2 : Nat) : Int) * (((a + b) / 2 : Nat) : Int) ≤ n)), h) := q_leI (q_mulR rfl rfl (small_nat (by omega))) rfl
      by_cases hm : (((a + b) / 2 : Nat) : Int) * (((a + b) / 2 : Nat) : Int) ≤ n
      · refine ⟨((a + b) / 2, b), _, _, (q_seq (q_asg D rfl)).trans ((q_seq (q_asg ((q_dif1 (h1 := h) ((q_val G).trans (by rw [decide_eq_true hm]))).trans (q_tup2 rfl rfl)) (q_unp rfl rfl rfl))).trans rfl), ⟨_, rfl, rfl, by simp only; omega, f1, ?_, f3⟩, by simp only; omega⟩
        rw [← Int.natCast_mul] at hm; simp only; omega
      · refine ⟨(a, (a + b) / 2), _, _, (q_seq (q_asg D rfl)).trans ((q_seq (q_asg ((q_dif0 (h1 := h) ((q_val G).trans (by rw [decide_eq_false hm]))).trans (q_tup2 rfl rfl)) (q_unp rfl rfl rfl))).trans rfl), ⟨_, rfl, rfl, by simp only; omega, by simp only; omega, f2, ?_⟩, by simp only; omega⟩
        rw [← Int.natCast_mul] at hm; simp only; omega)
  rw [he2, hh2] at b1
  refine ⟨a, done (v := .int (a : Int)) rfl ?_ rfl rfl, c2, ?_⟩
  · refine (q_seq (q_asg rfl (q_unp (xs := [.int 0, .int 1]) rfl rfl rfl))).trans ?_
    exact (q_seq a1).trans ((q_seq b1).trans (q_ret rfl))
  · have : ¬ (1 : Int) < (b : Int) - a := of_decide_eq_false b3
    have hb : b = a + 1 := by simp only at c0; omega
    rw [← hb]; exact c3
end LawK80
-- text K80s
namespace LawK80
open PySem PySem.Spec Mn
variable {h : MH}
theorem s_raised {x : Int} {k : Nat} (hs : small x = true) (hk : k ≤ 100000) : D_raised [.int x, .int (k : Int)] h = .ok (.int (x ^ k)) h := by
  refine done (v := .int (x ^ k)) rfl ?_ rfl rfl
  refine (q_seq (q_asg rfl rfl)).trans ?_
  obtain ⟨e', h', a1, o, a2, a3⟩ := q_for (it := iRg1 (dVar 1)) (asg := aName 3) (body := (sSeq (sAsg (dBin 0 .Mult (dVar 2) (dVar 0)) (gA (aName 2))) (sNext)))
    (e := [some (.int x), some (.int k), some (.int 1), none]) (h := h) (h1 := h) (g := fun i : Nat => .int (i : Int)) (xs := List.range k)
    (fun s _ => s * x) (fun s e h' => ∃ o, e = [some (.int x), some (.int k), some (.int s), o] ∧ h' = h) 1 (q_rg rfl hk) ⟨none, rfl, rfl⟩
    (by
      rintro j hx s e h' ⟨o, rfl, rfl⟩
      exact ⟨_, _, _, rfl, .inl ((q_seq (q_asg (q_mulR rfl rfl hs) rfl)).trans rfl), _, rfl, rfl⟩)
  subst a2 a3
  refine (q_seq a1).trans ?_
  rw [← spow_eq]
  rfl
theorem pow_le {n k f : Nat} (hk : 1 ≤ k) : decide (((f : Int) ^ k) ≤ (n : Int) ^ k) = decide (f ≤ n) := by
  have : ((f : Int) ^ k ≤ (n : Int) ^ k) ↔ f ≤ n := by
    rw [← Int.natCast_pow, ← Int.natCast_pow, Int.ofNat_le]
    exact Nat.pow_le_pow_iff_left (by omega)
  simp [this]
theorem s_root_of_number {n k : Nat} (hn : n ≤ 100000) (hk : 1 ≤ k) (hk' : k ≤ 100000) : D_root_of_number [.int ((n : Int) ^ k), .int (k : Int)] h = .ok (.int (n : Int)) h := by
  obtain ⟨f, e1, h1, a1, ⟨q, he, hh, f0, f1⟩, a3⟩ := q_wh (S := Nat) (cond := (tVal (dCmp .LtE (dCall D_raised (lCons (dVar 3) (lCons (dVar 1) (lNil)))) (dVar 0)))) (body := (sSeq (sAsg (dBin 0 .Mult (dVar 3) (dC (.int 2))) (gA (aName 3))) (sNext)))
    (e := [some (.int ((n : Int) ^ k)), some (.int (k : Int)), some (.int 0), some (.int 1), none]) (h := h)
    (fun f e h' => ∃ q, e = [some (.int ((n : Int) ^ k)), some (.int (k : Int)), some (.int 0), some (.int (f : Int)), q] ∧ h' = h ∧ 1 ≤ f ∧ f ≤ 200001) (fun f => decide (f ≤ n)) (fun f => 200002 - f) 1 ⟨none, rfl, rfl, by omega, by omega⟩ (by omega)
    (by rintro f e h' ⟨q, rfl, rfl, f0, f1⟩; rw [← pow_le hk]; exact q_val (q_leI (q_call (q_two rfl rfl) (s_raised (small_nat (by omega)) hk')) rfl))
    (by
      rintro f e h' ⟨q, rfl, rfl, f0, f1⟩ hc
      have hf : f ≤ n := of_decide_eq_true hc
      exact ⟨f * 2, _, _, (q_seq (q_asg ((q_mulR rfl rfl (by decide)).trans rfl) rfl)).trans rfl, ⟨_, rfl, rfl, by omega, by omega⟩, by omega⟩)
  rw [he, hh] at a1
  have hf : n < f := by have := of_decide_eq_false a3; omega
  obtain ⟨⟨a, b⟩, e2, h2, b1, ⟨q2, he2, hh2, c0, c1, c2, c3⟩, b3⟩ := q_wh (S := Nat × Nat) (cond := (tVal (dCmp .Gt (dBin 0 .Sub (dVar 3) (dVar 2)) (dC (.int 1))))) (body := (sSeq (sAsg (dBin 0 .FloorDiv (dBin 0 .Add (dVar 2) (dVar 3)) (dC (.int 2))) (gA (aName 4))) (sSeq (sAsg (dIf (tVal (dCmp .LtE (dCall D_raised (lCons (dVar 4) (lCons (dVar 1) (lNil)))) (dVar 0))) (dTup (lCons (dVar 4) (lCons (dVar 3) (lNil)))) (dTup (lCons (dVar 2) (lCons (dVar 4) (lNil))))) (gUnp 2 (gCons (gA (aName 2)) (gCons (gA (aName 3)) (gNil))))) (sNext))))
    (e := [some (.int ((n : Int) ^ k)), some (.int (k : Int)), some (.int 0), some (.int (f : Int)), q]) (h := h)
    (fun s e h' => ∃ q, e = [some (.int ((n : Int) ^ k)), some (.int (k : Int)), some (.int (s.1 : Int)), some (.int (s.2 : Int)), q] ∧ h' = h ∧ s.1 < s.2 ∧ s.2 ≤ 200001 ∧ s.1 ≤ n ∧ n < s.2) (fun s => decide ((1 : Int) < (s.2 : Int) - s.1)) (fun s => s.2 - s.1) (0, f) ⟨q, rfl, rfl, by simp; omega, f1, by simp, hf⟩ (by simp; omega)
    (by rintro s e h' ⟨q, rfl, rfl, _⟩; exact q_val (q_gtI (q_sub rfl rfl) rfl))
    (by
      rintro ⟨a, b⟩ e h ⟨q, rfl, rfl, f0, f1, f2, f3⟩ hc
      have hc' : (1 : Int) < (b : Int) - a := of_decide_eq_true hc
      simp only at f0 f1 f2 f3
      have hd : Int.fdiv ((a : Int) + b) 2 = (((a + b) / 2 : Nat) : Int) := by rw [Int.fdiv_eq_ediv_of_nonneg _ (by decide)]; omega
      have D : dBin 0 .FloorDiv (dBin 0 .Add (dVar 2) (dVar 3)) (dC (.int 2)) [some (.int ((n : Int) ^ k)), some (.int (k : Int)), some (.int (a : Int)), some (.int (b : Int)), q] h = some (.int (((a + b) / 2 : Nat) : Int), h) := by rw [← hd]; exact q_div (q_add rfl rfl) rfl (by decide) (by decide)
      have G : dCmp .LtE (dCall D_raised (lCons (dVar 4) (lCons (dVar 1) (lNil)))) (dVar 0) [some (.int ((n : Int) ^ k)), some (.int (k : Int)), some (.int (a : Int)), some (.int (b : Int)), some (.int (((a + b) / 2 : Nat) : Int))] h = some (.bl (decide ((a + b) / 2 ≤ n)), h) := by rw [← pow_le hk]; exact q_leI (q_call (q_two rfl rfl) (s_raised (small_nat (by omega)) hk')) rfl
      by_cases hm : (a + b) / 2 ≤ n
      · exact ⟨((a + b) / 2, b), _, _, (q_seq (q_asg D rfl)).trans ((q_seq (q_asg ((q_dif1 (h1 := h) ((q_val G).trans (by rw [decide_eq_true hm]))).trans (q_tup2 rfl rfl)) (q_unp rfl rfl rfl))).trans rfl), ⟨_, rfl, rfl, by simp only; omega, f1, hm, f3⟩, by simp only; omega⟩
      · exact ⟨(a, (a + b) / 2), _, _, (q_seq (q_asg D rfl)).trans ((q_seq (q_asg ((q_dif0 (h1 := h) ((q_val G).trans (by rw [decide_eq_false hm]))).trans (q_tup2 rfl rfl)) (q_unp rfl rfl rfl))).trans rfl), ⟨_, rfl, rfl, by simp only; omega, by simp only; omega, f2, by simp only; omega⟩, by simp only; omega⟩)
  rw [he2, hh2] at b1
  have hab : a = n := by
    have : ¬ (1 : Int) < (b : Int) - a := of_decide_eq_false b3
    simp only at c0 c2 c3; omega
  subst hab
  refine done (v := .int (a : Int)) rfl ?_ rfl rfl
  refine (q_seq (q_asg rfl (q_unp (xs := [.int 0, .int 1]) rfl rfl rfl))).trans ?_
  refine (q_seq a1).trans ((q_seq b1).trans (q_ret ((q_dif1 (h1 := h) ((q_val (q_eqI (q_call (q_two rfl rfl) (s_raised (small_nat (by omega)) hk')) rfl)).trans (by simp))).trans rfl)))
end LawK80
-- text K80q
namespace LawK80
open PySem PySem.Spec Mn
variable {h : MH}
def isq : Nat → Nat
  | 0 => 0
  | n + 1 => if (isq n + 1) * (isq n + 1) ≤ n + 1 then isq n + 1 else isq n
theorem isq_spec : ∀ n, isq n * isq n ≤ n ∧ n < (isq n + 1) * (isq n + 1)
  | 0 => by simp [isq]
  | n + 1 => by
    obtain ⟨a, b⟩ := isq_spec n
    unfold isq
    split
    · rename_i q
      refine ⟨q, ?_⟩
      have : (isq n + 1 + 1) * (isq n + 1 + 1) = (isq n + 1) * (isq n + 1) + 2 * (isq n + 1) + 1 := by grind
      omega
    · rename_i q
      exact ⟨by omega, by omega⟩
theorem isq_one {n r : Nat} (h1 : r * r ≤ n) (h2 : n < (r + 1) * (r + 1)) : r = isq n := by
  obtain ⟨a, b⟩ := isq_spec n
  have c1 : ¬ r < isq n := fun q => by have := Nat.mul_le_mul (show r + 1 ≤ isq n from q) (show r + 1 ≤ isq n from q); omega
  have c2 : ¬ isq n < r := fun q => by have := Nat.mul_le_mul (show isq n + 1 ≤ r from q) (show isq n + 1 ≤ r from q); omega
  omega
theorem s_root {n : Nat} (hn : n ≤ 100000) : D_root_down [.int (n : Int)] h = .ok (.int (isq n : Int)) h := by
  obtain ⟨r, h1, h2, h3⟩ := s_root_down (h := h) hn
  rw [h1, isq_one h2 h3]
def ownR (side : List Int) (f s : Int) : List Int := plusR (byR one8 f) (byR side s)
def powA (a : List Int) (k : Nat) : List Int := powL (a.headD 0) a.tail k
theorem s_power_inA {a : List Int} {k : Nat} (hl : a.length = 8) (o : Ok8 (a.headD 0) a.tail) (hk : k ≤ 100000) : D_power_in [ev a, .int (k : Int)] h = .ok (ev (powA a k)) h := by
  cases a with
  | nil => simp at hl
  | cons x r => exact s_power_in o hk
end LawK80
-- text K80p
namespace LawK80
open PySem PySem.Spec Mn
def stepC (side goal : List Int) (k : Nat) (f : Int) (L : List (List Int)) (s : Int) : List (List Int) := if powA (ownR side f s) k = goal then L ++ [ownR side f s] else L
def stepB (side goal : List Int) (k o : Nat) (L : List (List Int)) (f : Int) : List (List Int) := [(o : Int), -(o : Int)].foldl (stepC side goal k f) L
def firsts (p : Nat) : List Int := srtU ltZ [(p : Int), -(p : Int)]
def stepA (side goal : List Int) (k size by_ : Nat) (L : List (List Int)) (i : Nat) : List (List Int) :=
  if isq (size - (1 + i) * (1 + i) * by_) * isq (size - (1 + i) * (1 + i) * by_) = size - (1 + i) * (1 + i) * by_ then (firsts (isq (size - (1 + i) * (1 + i) * by_))).foldl (stepB side goal k (1 + i)) L else L
def foundL (side goal : List Int) (k size by_ : Nat) : List (List Int) := (List.range (isq (size / by_))).foldl (stepA side goal k size by_) []
/-- what the loops of roots_in need of the side -/
structure OkS (side : List Int) : Prop where
  len : side.length = 8
  b : ∀ y ∈ side, -1000 ≤ y ∧ y ≤ 1000
theorem own_len {side : List Int} (o : OkS side) (f s : Int) : (ownR side f s).length = 8 := by simp [ownR, o.len]
theorem own_b {side : List Int} (o : OkS side) {f s : Int} (hf : -1000 ≤ f ∧ f ≤ 1000) (hs : -1000 ≤ s ∧ s ≤ 1000) : ∀ y ∈ ownR side f s, -2000000 ≤ y ∧ y ≤ 2000000 := by
  obtain ⟨l, b⟩ := o
  match side, l with
  | [s0, s1, s2, s3, s4, s5, s6, s7], _ =>
    have B : ∀ y : Int, -1000 ≤ y ∧ y ≤ 1000 → -1000000 ≤ y * s ∧ y * s ≤ 1000000 := fun y hy => by
      have h1 : y.natAbs * s.natAbs ≤ 1000 * 1000 := Nat.mul_le_mul (by omega) (by omega)
      have h2 : (y * s).natAbs = y.natAbs * s.natAbs := Int.natAbs_mul y s
      omega
    intro y hy
    have b0 := B s0 (b s0 (by simp))
    have b1 := B s1 (b s1 (by simp))
    have b2 := B s2 (b s2 (by simp))
    have b3 := B s3 (b s3 (by simp))
    have b4 := B s4 (b s4 (by simp))
    have b5 := B s5 (b s5 (by simp))
    have b6 := B s6 (b s6 (by simp))
    have b7 := B s7 (b s7 (by simp))
    simp [ownR] at hy
    rcases hy with rfl | rfl | rfl | rfl | rfl | rfl | rfl | rfl <;> omega
theorem own_ok {side : List Int} (o : OkS side) {f s : Int} (hf : -1000 ≤ f ∧ f ≤ 1000) (hs : -1000 ≤ s ∧ s ≤ 1000) : Ok8 ((ownR side f s).headD 0) (ownR side f s).tail := by
  have l := own_len o f s
  have b := own_b o hf hs
  generalize ownR side f s = a at l b
  match a, l with
  | [s0, s1, s2, s3, s4, s5, s6, s7], _ =>
    have B : ∀ y ∈ [s0, s1, s2, s3, s4, s5, s6, s7], 0 ≤ y * y ∧ y * y ≤ 4000000000000 := fun y hy => by
      have hy := b y hy
      have h1 : y.natAbs * y.natAbs ≤ 2000000 * 2000000 := Nat.mul_le_mul (by omega) (by omega)
      have h2 : (y.natAbs * y.natAbs : Int) = y * y := Int.natAbs_mul_self' y
      omega
    have b0 := B s0 (by simp)
    have b1 := B s1 (by simp)
    have b2 := B s2 (by simp)
    have b3 := B s3 (by simp)
    have b4 := B s4 (by simp)
    have b5 := B s5 (by simp)
    have b6 := B s6 (by simp)
    have b7 := B s7 (by simp)
    refine ⟨rfl, fun y hy => ?_, ?_, ?_⟩
    · have := b y hy; rw [small_iff]; omega
    · have := b s0 (by simp); rw [small_iff]; simp only [List.headD_cons]; omega
    · rw [small_iff]; simp [sqR]; omega
end LawK80
-- text K80p2
namespace LawK80
open PySem PySem.Spec Mn
variable {h : MH}
theorem q_app {o a : Den} {e : Mn.Env} {h h1 h2 : MH} {n : Nat} {v : PV} {xs : List PV} (ho : o e h = some (.ref n, h1)) (ha : a e h1 = some (v, h2)) (hx : h2[n]? = some xs) (hv : v.bel n = true) (hl : xs.length ≤ 100000) : sSeq (sDrop (dApp o a)) sNext e h = .nx e (h2.set n (xs ++ [v])) := by
  have A : dApp o a e h = some (.non, h2.set n (xs ++ [v])) := by simp only [dApp, ho, ha, hx, hv, ble_lim hl, Bool.and_self]
  simp only [sSeq, sDrop, A, sNext]
theorem q_seqC {a b : SDen} {e e1 : Mn.Env} {h h1 : MH} (ha : a e h = .ct e1 h1) : sSeq a b e h = .ct e1 h1 := by simp only [sSeq, ha]
theorem q_sort2 {a b : Den} {e : Mn.Env} {h h1 h2 : MH} {i j : Int} (ha : a e h = some (.int i, h1)) (hb : b e h1 = some (.int j, h2)) : dSortSet 0 (dLst 0 (lCons a (lCons b lNil))) e h = some (.lst ((srtU ltZ [i, j]).map .int), h2) := by
  have L : dLst 0 (lCons a (lCons b lNil)) e h = some (.lst [.int i, .int j], h2) := by simp only [dLst, q_two ha hb]; exact e_mkL0 (by simp)
  have l2 : (srtU ltZ [i, j]).length ≤ 2 := by
    simp only [srtU, insU]
    split <;> (try split) <;> simp
  simp only [dSortSet, L, lstH]
  show mkL 0 _ _ = _
  exact e_mkL0 (by rw [List.length_map]; exact Nat.le_trans l2 (by decide))
abbrev bC : SDen := (sSeq (sAsg (dCall D_sum_of (lCons (dCall D_times_of (lCons (dC k_ONE) (lCons (dVar 9) (lNil)))) (lCons (dCall D_times_of (lCons (dVar 3) (lCons (dVar 10) (lNil)))) (lNil)))) (gA (aName 11))) (sSeq (sIf (tVal (dCmp .Eq (dCall D_power_in (lCons (dVar 11) (lCons (dVar 1) (lNil)))) (dVar 0))) (sSeq (sDrop (dApp (dVar 5) (dVar 11))) (sNext)) (sNext)) (sNext)))
abbrev bB : SDen := (sSeq (sFor (iSeq (dTup (lCons (dVar 6) (lCons (dNeg (dVar 6)) (lNil))))) (aName 10) bC) (sNext))
abbrev bA : SDen := (sSeq (sAsg (dBin 0 .Sub (dVar 2) (dBin 0 .Mult (dBin 0 .Mult (dVar 6) (dVar 6)) (dVar 4))) (gA (aName 7))) (sSeq (sAsg (dCall D_root_down (lCons (dVar 7) (lNil))) (gA (aName 8))) (sSeq (sIf (tVal (dCmp .NotEq (dBin 0 .Mult (dVar 8) (dVar 8)) (dVar 7))) (sSeq (sCont) (sNext)) (sNext)) (sSeq (sFor (iSeq (dSortSet 0 (dLst 0 (lCons (dVar 8) (lCons (dNeg (dVar 8)) (lNil)))))) (aName 9) bB) (sNext)))))
def rE (n : Nat) (goal side : List Int) (k size by_ : Nat) (often left plain first second own : Option PV) : Mn.Env :=
  [some (ev goal), some (.int k), some (.int size), some (ev side), some (.int by_), some (.ref n), often, left, plain, first, second, own]
theorem bel_evs (n : Nat) (L : List (List Int)) : belAll n (L.map ev) = true := by
  induction L with
  | nil => rfl
  | cons a L ih => simp only [List.map_cons, belAll, ih, Bool.and_true]; exact bel_ev n a
theorem bC_ok {goal side : List Int} {k size by_ : Nat} (o : OkS side) (hk : k ≤ 100000) {f s : Int} (hf : -1000 ≤ f ∧ f ≤ 1000) (hs : -1000 ≤ s ∧ s ≤ 1000) {L : List (List Int)} (hl : L.length ≤ 100000) (a7 a8 a9 o11 : Option PV) :
    ∃ q, bC (rE h.length goal side k size by_ a7 a8 a9 (some (.int f)) (some (.int s)) o11) (h ++ [L.map ev]) = .nx (rE h.length goal side k size by_ a7 a8 a9 (some (.int f)) (some (.int s)) q) (h ++ [(stepC side goal k f L s).map ev]) := by
  have sf : small f = true := by rw [small_iff]; omega
  have ss : small s = true := by rw [small_iff]; omega
  have A : dCall D_sum_of (lCons (dCall D_times_of (lCons (dC k_ONE) (lCons (dVar 9) (lNil)))) (lCons (dCall D_times_of (lCons (dVar 3) (lCons (dVar 10) (lNil)))) (lNil))) (rE h.length goal side k size by_ a7 a8 a9 (some (.int f)) (some (.int s)) o11) (h ++ [L.map ev]) = some (ev (ownR side f s), h ++ [L.map ev]) :=
    q_call (q_two (q_call (q_two (x := ev one8) rfl rfl) (s_times_of (by decide) (.inr sf))) (q_call (q_two rfl rfl) (s_times_of (by have := o.len; omega) (.inr ss)))) (s_sum_of (by simp))
  have G : dCmp .Eq (dCall D_power_in (lCons (dVar 11) (lCons (dVar 1) (lNil)))) (dVar 0) (rE h.length goal side k size by_ a7 a8 a9 (some (.int f)) (some (.int s)) (some (ev (ownR side f s)))) (h ++ [L.map ev]) = some (.bl (decide (powA (ownR side f s) k = goal)), h ++ [L.map ev]) :=
    q_eqE (q_call (q_two rfl rfl) (s_power_inA (own_len o f s) (own_ok o hf hs) hk)) rfl
  refine ⟨some (ev (ownR side f s)), (q_seq (q_asg A rfl)).trans ?_⟩
  unfold stepC
  by_cases hp : powA (ownR side f s) k = goal
  · rw [if_pos hp]
    refine (q_seq (h1 := h ++ [(L ++ [ownR side f s]).map ev]) ((q_if1 ((q_val G).trans (by rw [decide_eq_true hp]))).trans ?_)).trans rfl
    refine (q_app rfl rfl (getHL _ _) (bel_ev _ _) (by simpa using hl)).trans ?_
    rw [setHL, List.map_append]; rfl
  · rw [if_neg hp]
    exact (q_seq ((q_if0 ((q_val G).trans (by rw [decide_eq_false hp]))).trans rfl)).trans rfl
theorem stepC_len (side goal : List Int) (k : Nat) (f : Int) (L : List (List Int)) (s : Int) : (stepC side goal k f L s).length ≤ L.length + 1 := by unfold stepC; split <;> simp
theorem bB_ok {goal side : List Int} {k size by_ n : Nat} (o : OkS side) (hk : k ≤ 100000) {f : Int} (hf : -1000 ≤ f ∧ f ≤ 1000) (hn : n ≤ 1000) {L : List (List Int)} (hl : L.length ≤ 99000) (a7 a8 o10 o11 : Option PV) :
    ∃ q r, bB (rE h.length goal side k size by_ (some (.int (n : Int))) a7 a8 (some (.int f)) o10 o11) (h ++ [L.map ev]) = .nx (rE h.length goal side k size by_ (some (.int (n : Int))) a7 a8 (some (.int f)) q r) (h ++ [(stepB side goal k n L f).map ev]) := by
  obtain ⟨e', h', a1, ⟨q, r, a2, a3⟩, _⟩ := q_forN (it := (iSeq (dTup (lCons (dVar 6) (lCons (dNeg (dVar 6)) (lNil)))))) (asg := aName 10) (body := bC) (e := rE h.length goal side k size by_ (some (.int (n : Int))) a7 a8 (some (.int f)) o10 o11) (h := h ++ [L.map ev]) (h1 := h ++ [L.map ev]) (g := PV.int) (xs := [(n : Int), -(n : Int)])
    (stepC side goal k f) (fun i L' e h' => (∃ q r, e = rE h.length goal side k size by_ (some (.int (n : Int))) a7 a8 (some (.int f)) q r ∧ h' = h ++ [L'.map ev]) ∧ L'.length ≤ L.length + i) L (q_seqt (q_tup2 rfl rfl)) ⟨⟨_, _, rfl, rfl⟩, by omega⟩
    (by
      rintro s hs i L' e h' hi ⟨⟨q, r, rfl, rfl⟩, hL⟩
      have hs' : -1000 ≤ s ∧ s ≤ 1000 := by simp at hs; omega
      simp only [List.length_cons, List.length_nil] at hi
      obtain ⟨z, c⟩ := bC_ok (h := h) (goal := goal) (size := size) (by_ := by_) (k := k) o hk hf hs' (L := L') (by omega) (some (.int (n : Int))) a7 a8 r
      exact ⟨_, _, _, rfl, .inl c, ⟨_, _, rfl, rfl⟩, by have := stepC_len side goal k f L' s; omega⟩)
  rw [a2, a3] at a1
  exact ⟨q, r, (q_seq a1).trans rfl⟩
theorem foldlC_len (side goal : List Int) (k : Nat) (f : Int) : ∀ (ss : List Int) (L : List (List Int)), (ss.foldl (stepC side goal k f) L).length ≤ L.length + ss.length
  | [], L => by simp
  | s :: ss, L => by
    have := foldlC_len side goal k f ss (stepC side goal k f L s)
    have := stepC_len side goal k f L s
    simp only [List.foldl_cons, List.length_cons]; omega
theorem stepB_len (side goal : List Int) (k o : Nat) (L : List (List Int)) (f : Int) : (stepB side goal k o L f).length ≤ L.length + 2 := foldlC_len side goal k f _ L
theorem firsts_mem (p : Nat) (f : Int) : f ∈ firsts p ↔ f = p ∨ f = -p := by
  unfold firsts
  rw [mem_srtU (fun a b h1 h2 => by have := of_decide_eq_false h1; have := of_decide_eq_false h2; omega)]
  simp
theorem firsts_len (p : Nat) : (firsts p).length ≤ 2 := by
  simp only [firsts, srtU, insU]
  split <;> (try split) <;> simp
theorem foldlB_len (side goal : List Int) (k o : Nat) : ∀ (ss : List Int) (L : List (List Int)), (ss.foldl (stepB side goal k o) L).length ≤ L.length + 2 * ss.length
  | [], L => by simp
  | s :: ss, L => by
    have := foldlB_len side goal k o ss (stepB side goal k o L s)
    have := stepB_len side goal k o L s
    simp only [List.foldl_cons, List.length_cons]; omega
theorem stepA_len (side goal : List Int) (k size by_ : Nat) (L : List (List Int)) (i : Nat) : (stepA side goal k size by_ L i).length ≤ L.length + 4 := by
  unfold stepA
  split
  · rename_i q
    have := foldlB_len side goal k (1 + i) (firsts (isq (size - (1 + i) * (1 + i) * by_))) L
    have := firsts_len (isq (size - (1 + i) * (1 + i) * by_))
    omega
  · omega
theorem isq_le (n : Nat) : isq n ≤ n := by
  have := (isq_spec n).1
  by_cases h0 : isq n = 0
  · omega
  · have := Nat.mul_le_mul (Nat.le_refl (isq n)) (show 1 ≤ isq n by omega); omega
theorem bA_ok {goal side : List Int} {k size by_ i : Nat} (o : OkS side) (hk : k ≤ 100000) (hz : size ≤ 1000) (hi : (1 + i) * (1 + i) * by_ ≤ size) (hi' : i < 1000) {L : List (List Int)} (hl : L.length ≤ 90000) (a7 a8 a9 a10 a11 : Option PV) :
    ∃ e', (bA (rE h.length goal side k size by_ (some (.int ((1 + i : Nat) : Int))) a7 a8 a9 a10 a11) (h ++ [L.map ev]) = .nx e' (h ++ [(stepA side goal k size by_ L i).map ev]) ∨ bA (rE h.length goal side k size by_ (some (.int ((1 + i : Nat) : Int))) a7 a8 a9 a10 a11) (h ++ [L.map ev]) = .ct e' (h ++ [(stepA side goal k size by_ L i).map ev]))
      ∧ ∃ b7 b8 b9 b10 b11, e' = rE h.length goal side k size by_ (some (.int ((1 + i : Nat) : Int))) b7 b8 b9 b10 b11 := by
  have A : dBin 0 .Sub (dVar 2) (dBin 0 .Mult (dBin 0 .Mult (dVar 6) (dVar 6)) (dVar 4)) (rE h.length goal side k size by_ (some (.int ((1 + i : Nat) : Int))) a7 a8 a9 a10 a11) (h ++ [L.map ev]) = some (.int ((size - (1 + i) * (1 + i) * by_ : Nat) : Int), h ++ [L.map ev]) := by
    rw [Int.ofNat_sub hi, Int.natCast_mul, Int.natCast_mul]
    refine q_sub rfl (q_mulL (q_mulL rfl rfl (small_nat (by omega))) rfl ?_)
    rw [← Int.natCast_mul]
    have := Nat.mul_le_mul (show 1 + i ≤ 1000 by omega) (show 1 + i ≤ 1000 by omega)
    exact small_nat (by omega)
  have R := s_root (h := h ++ [L.map ev]) (n := size - (1 + i) * (1 + i) * by_) (by omega)
  have rs := isq_le (size - (1 + i) * (1 + i) * by_)
  have e2 : bA (rE h.length goal side k size by_ (some (.int ((1 + i : Nat) : Int))) a7 a8 a9 a10 a11) (h ++ [L.map ev]) = _ := (q_seq (q_asg A rfl)).trans (q_seq (q_asg (q_call (q_one rfl) R) rfl))
  have G : dCmp .NotEq (dBin 0 .Mult (dVar 8) (dVar 8)) (dVar 7) (rE h.length goal side k size by_ (some (.int ((1 + i : Nat) : Int))) (some (.int ((size - (1 + i) * (1 + i) * by_ : Nat) : Int))) (some (.int (isq (size - (1 + i) * (1 + i) * by_) : Int))) a9 a10 a11) (h ++ [L.map ev]) = some (.bl (!decide (isq (size - (1 + i) * (1 + i) * by_) * isq (size - (1 + i) * (1 + i) * by_) = size - (1 + i) * (1 + i) * by_)), h ++ [L.map ev]) := by
    refine (q_neI (q_mulR rfl rfl (small_nat (by omega))) rfl).trans ?_
    rw [← Int.natCast_mul]
    simp only [Int.natCast_inj]
  by_cases hp : isq (size - (1 + i) * (1 + i) * by_) * isq (size - (1 + i) * (1 + i) * by_) = size - (1 + i) * (1 + i) * by_
  · obtain ⟨e', h', a1, ⟨q, r, s, a2, a3⟩, _⟩ := q_forN (it := (iSeq (dSortSet 0 (dLst 0 (lCons (dVar 8) (lCons (dNeg (dVar 8)) (lNil))))))) (asg := aName 9) (body := bB)
      (e := (rE h.length goal side k size by_ (some (.int ((1 + i : Nat) : Int))) (some (.int ((size - (1 + i) * (1 + i) * by_ : Nat) : Int))) (some (.int (isq (size - (1 + i) * (1 + i) * by_) : Int))) a9 a10 a11)) (h := h ++ [L.map ev]) (h1 := h ++ [L.map ev]) (g := PV.int) (xs := firsts (isq (size - (1 + i) * (1 + i) * by_)))
      (stepB side goal k (1 + i)) (fun j L' e h' => (∃ q r s, e = (rE h.length goal side k size by_ (some (.int ((1 + i : Nat) : Int))) (some (.int ((size - (1 + i) * (1 + i) * by_ : Nat) : Int))) (some (.int (isq (size - (1 + i) * (1 + i) * by_) : Int))) q r s) ∧ h' = h ++ [L'.map ev]) ∧ L'.length ≤ L.length + 2 * j) L
      (q_seql (q_sort2 rfl rfl)) ⟨⟨_, _, _, rfl, rfl⟩, by omega⟩
      (by
        rintro s hs j L' e h' hj ⟨⟨q, r, t, rfl, rfl⟩, hL⟩
        have hs' : -1000 ≤ s ∧ s ≤ 1000 := by rcases (firsts_mem _ s).mp hs with rfl | rfl <;> omega
        have hj' := firsts_len (isq (size - (1 + i) * (1 + i) * by_))
        obtain ⟨z1, z2, c⟩ := bB_ok (h := h) (goal := goal) (size := size) (by_ := by_) (k := k) (n := 1 + i) o hk hs' (by omega) (L := L') (by omega) (some (.int ((size - (1 + i) * (1 + i) * by_ : Nat) : Int))) (some (.int (isq (size - (1 + i) * (1 + i) * by_) : Int))) r t
        exact ⟨_, _, _, rfl, .inl c, ⟨_, _, _, rfl, rfl⟩, by have := stepB_len side goal k (1 + i) L' s; omega⟩)
    refine ⟨_, .inl ?_, some (.int ((size - (1 + i) * (1 + i) * by_ : Nat) : Int)), some (.int (isq (size - (1 + i) * (1 + i) * by_) : Int)), q, r, s, rfl⟩
    refine e2.trans ?_
    refine (q_seq ((q_if0 ((q_val G).trans (by rw [decide_eq_true hp]; rfl))).trans rfl)).trans ?_
    refine (q_seq a1).trans ?_
    rw [a2, a3]
    unfold stepA
    rw [if_pos hp]
    rfl
  · refine ⟨_, .inr ?_, some (.int ((size - (1 + i) * (1 + i) * by_ : Nat) : Int)), some (.int (isq (size - (1 + i) * (1 + i) * by_) : Int)), a9, a10, a11, rfl⟩
    refine e2.trans ?_
    rw [stepA, if_neg hp]
    exact q_seqC ((q_if1 ((q_val G).trans (by rw [decide_eq_false hp]; rfl))).trans rfl)
end LawK80
-- text K80p3
namespace LawK80
open PySem PySem.Spec Mn
variable {h : MH}
theorem intsOf_ev (a : List Int) (L : List PV) : intsOf (ev a :: L) = none := rfl
theorem intsOf_ints (a : List Int) : intsOf (a.map .int) = some a := by
  induction a with
  | nil => rfl
  | cons x a ih => simp only [List.map_cons, intsOf, ih]
theorem rowsOf_evs (L : List (List Int)) : rowsOf (L.map ev) = some L := by
  induction L with
  | nil => rfl
  | cons a L ih => simp only [List.map_cons, ev, rowsOf, intsOf_ints, ih]
theorem ins_len {α : Type} (lt : α → α → Bool) (x : α) : ∀ l : List α, (ins lt x l).length = l.length + 1
  | [] => rfl
  | y :: ys => by unfold ins; split <;> simp [ins_len lt x ys]
theorem srt_len {α : Type} (lt : α → α → Bool) : ∀ l : List α, (srt lt l).length = l.length
  | [] => rfl
  | x :: xs => by show (ins lt x (srt lt xs)).length = _; rw [ins_len, srt_len lt xs]; rfl
theorem b_sortR {L : List (List Int)} {v : PV} (hv : lstH h v = some (L.map ev)) (hn : ∀ a ∈ L, a ≠ []) (hl : L.length ≤ 100000) : bSorted 0 [v] h = some (.lst ((srt ltI L).map ev), h) := by
  have e0 : bSorted 0 [v] h = (match intsOf (L.map ev) with | some ns => mkL 0 ((srt ltZ ns).map .int) h | none => match rowsOf (L.map ev) with
        | some rs => match rs.all fun r => !r.isEmpty with
          | true => mkL 0 ((srt ltI rs).map rowV) h
          | false => none
        | none => none) := by simp only [bSorted, hv] <;> rfl
  rw [e0]
  cases L with
  | nil => rfl
  | cons a L =>
    have q : ((a :: L).all fun r => !r.isEmpty) = true := by
      simp only [List.all_eq_true]
      intro x hx
      have := hn x hx
      cases x <;> simp_all
    rw [List.map_cons, intsOf_ev, ← List.map_cons, rowsOf_evs]
    simp only [q]
    exact e_mkL0 (by simp [srt_len]; simpa using hl)
theorem own8 {side goal : List Int} (o : OkS side) : True := trivial
theorem foundL_ne {side goal : List Int} (o : OkS side) (k size by_ : Nat) : ∀ a ∈ foundL side goal k size by_, ∃ f s : Int, a = ownR side f s ∧ powA a k = goal := by
  have C : ∀ (f : Int) (ss : List Int) (L : List (List Int)), (∀ a ∈ L, ∃ f s : Int, a = ownR side f s ∧ powA a k = goal) → ∀ a ∈ ss.foldl (stepC side goal k f) L, ∃ f s : Int, a = ownR side f s ∧ powA a k = goal := by
    intro f ss
    induction ss with
    | nil => intro L hL; exact hL
    | cons s ss ih =>
      intro L hL
      rw [List.foldl_cons]
      apply ih
      intro a ha
      unfold stepC at ha
      split at ha
      · rename_i q
        rcases List.mem_append.mp ha with z | z
        · exact hL a z
        · rw [List.mem_singleton] at z; subst z; exact ⟨f, s, rfl, q⟩
      · exact hL a ha
  have B : ∀ (n : Nat) (ss : List Int) (L : List (List Int)), (∀ a ∈ L, ∃ f s : Int, a = ownR side f s ∧ powA a k = goal) → ∀ a ∈ ss.foldl (stepB side goal k n) L, ∃ f s : Int, a = ownR side f s ∧ powA a k = goal := by
    intro n ss
    induction ss with
    | nil => intro L hL; exact hL
    | cons s ss ih => intro L hL; rw [List.foldl_cons]; exact ih _ (C s _ L hL)
  have A : ∀ (ss : List Nat) (L : List (List Int)), (∀ a ∈ L, ∃ f s : Int, a = ownR side f s ∧ powA a k = goal) → ∀ a ∈ ss.foldl (stepA side goal k size by_) L, ∃ f s : Int, a = ownR side f s ∧ powA a k = goal := by
    intro ss
    induction ss with
    | nil => intro L hL; exact hL
    | cons s ss ih =>
      intro L hL
      rw [List.foldl_cons]
      apply ih
      unfold stepA
      split
      · exact B _ _ L hL
      · exact hL
  exact A _ [] (by simp)
theorem s_roots_in {goal side : List Int} {k size by_ : Nat} (hg : goal.length = 8) (sg : smR goal) (hq : sqR goal = (size : Int) ^ k) (hz : size ≤ 1000) (hk : 2 ≤ k) (hk' : k ≤ 60)
    (hc : comL (0 :: goal.tail) ≠ 0) (sc : small (comL (0 :: goal.tail)) = true) (es : overR (0 :: goal.tail) (comL (0 :: goal.tail)) = side) (o : OkS side) (hb : sqR side = (by_ : Int)) (b0 : 0 < by_) :
    D_roots_in [ev goal, .int (k : Int)] h = .ok (.lst ((srt ltI (foundL side goal k size by_)).map ev)) h := by
  have sb : small ((by_ : Nat) : Int) = true := by
    rw [← hb]
    obtain ⟨l, b⟩ := o
    match side, l with
    | [s0, s1, s2, s3, s4, s5, s6, s7], _ =>
      have B : ∀ y ∈ [s0, s1, s2, s3, s4, s5, s6, s7], 0 ≤ y * y ∧ y * y ≤ 1000000 := fun y hy => by
        have hy := b y hy
        have h1 : y.natAbs * y.natAbs ≤ 1000 * 1000 := Nat.mul_le_mul (by omega) (by omega)
        have h2 : (y.natAbs * y.natAbs : Int) = y * y := Int.natAbs_mul_self' y
        omega
      have b0 := B s0 (by simp)
      have b1 := B s1 (by simp)
      have b2 := B s2 (by simp)
      have b3 := B s3 (by simp)
      have b4 := B s4 (by simp)
      have b5 := B s5 (by simp)
      have b6 := B s6 (by simp)
      have b7 := B s7 (by simp)
      rw [small_iff]; simp [sqR]; omega
  have ssd : smR side := fun x hx => by have := o.b x hx; rw [small_iff]; omega
  have side_eq : dCall D_side_of (lCons (dVar 0) lNil) [some (ev goal), some (.int (k : Int)), some (.int (size : Int)), none, none, none, none, none, none, none, none, none] h = some (ev (0 :: goal.tail), h) := by
    cases goal with
    | nil => simp at hg
    | cons x r => exact q_call (q_one rfl) (s_side_of (by simp at hg; omega))
  have F : iRg2 (dC (.int 1)) (dBin 0 .Add (dCall D_root_down (lCons (dBin 0 .FloorDiv (dVar 2) (dVar 4)) (lNil))) (dC (.int 1))) (rE h.length goal side k size by_ none none none none none none) (h ++ [([] : List (List Int)).map ev]) = some (.st ((List.range (isq (size / by_))).map fun (i : Nat) => PV.int ((1 + i : Nat) : Int)), h ++ [([] : List (List Int)).map ev]) := by
    have hd : Int.fdiv (size : Int) (by_ : Int) = ((size / by_ : Nat) : Int) := by rw [Int.fdiv_eq_ediv_of_nonneg _ (by omega)]; rfl
    have dl := Nat.div_le_self size by_
    have il := isq_le (size / by_)
    have := q_rg2 (e := rE h.length goal side k size by_ none none none none none none) (h := h ++ [([] : List (List Int)).map ev]) (a := dC (.int 1)) (b := (dBin 0 .Add (dCall D_root_down (lCons (dBin 0 .FloorDiv (dVar 2) (dVar 4)) (lNil))) (dC (.int 1)))) (n := 1) (m := isq (size / by_) + 1) rfl ((q_add (q_call (q_one ((q_div rfl rfl sb (by omega)).trans (by rw [hd]))) (s_root (by omega))) rfl).trans rfl) (by omega) (by omega)
    rw [this]
    rw [show isq (size / by_) + 1 - 1 = isq (size / by_) from by omega]
  obtain ⟨e', h', a1, ⟨⟨q6, q7, q8, q9, q10, q11, a2, a3⟩, _⟩⟩ := q_forN (it := (iRg2 (dC (.int 1)) (dBin 0 .Add (dCall D_root_down (lCons (dBin 0 .FloorDiv (dVar 2) (dVar 4)) (lNil))) (dC (.int 1))))) (asg := aName 6) (body := bA)
      (e := rE h.length goal side k size by_ none none none none none none) (h := h ++ [([] : List (List Int)).map ev]) (h1 := h ++ [([] : List (List Int)).map ev]) (g := fun (i : Nat) => PV.int ((1 + i : Nat) : Int)) (xs := List.range (isq (size / by_)))
      (stepA side goal k size by_) (fun j L' e h' => (∃ q6 q7 q8 q9 q10 q11, e = rE h.length goal side k size by_ q6 q7 q8 q9 q10 q11 ∧ h' = h ++ [L'.map ev]) ∧ L'.length ≤ 4 * j) [] F ⟨⟨_, _, _, _, _, _, rfl, rfl⟩, by simp⟩
      (by
        rintro i hi j L' e h' hj ⟨⟨q6, q7, q8, q9, q10, q11, rfl, rfl⟩, hL⟩
        have il := isq_le (size / by_)
        have dl := Nat.div_le_self size by_
        have hi := List.mem_range.mp hi
        rw [List.length_range] at hj
        have hm : (1 + i) * (1 + i) * by_ ≤ size := by
          have h1 : (1 + i) * (1 + i) ≤ size / by_ := Nat.le_trans (Nat.mul_le_mul (by omega) (by omega)) (isq_spec (size / by_)).1
          exact Nat.le_trans (Nat.mul_le_mul_right by_ h1) (Nat.div_mul_le_self size by_)
        obtain ⟨e2, c, b7, b8, b9, b10, b11, rfl⟩ := bA_ok (h := h) (goal := goal) (size := size) (by_ := by_) (k := k) o (by omega) hz hm (by omega) (L := L') (by omega) q7 q8 q9 q10 q11
        exact ⟨_, _, _, rfl, c, ⟨_, _, _, _, _, _, rfl, rfl⟩, by have := stepA_len side goal k size by_ L' i; omega⟩)
  rw [a2, a3] at a1
  have fl : (foundL side goal k size by_).length ≤ 4 * (List.range (isq (size / by_))).length := by
    rename_i hh
    exact hh
  have il := isq_le (size / by_)
  have dl := Nat.div_le_self size by_
  rw [List.length_range] at fl
  refine done_app (g := [(foundL side goal k size by_).map ev]) rfl ?_ (by simp only [PV.bel]; exact bel_evs _ _) rfl
  refine (q_seq (q_asg (q_call (q_two (q_call (q_one rfl) ((s_square_sum_of (by omega) sg).trans (by rw [hq]))) rfl) (s_root_of_number (by omega) (by omega) (by omega))) rfl)).trans ?_
  have G : tOr (tVal (dCmp .Is (dVar 2) (dC .non))) (tVal (dCmp .Eq (dVar 1) (dC (.int 1)))) [some (ev goal), some (.int (k : Int)), some (.int (size : Int)), none, none, none, none, none, none, none, none, none] h = some (false, h) := by
    have : tVal (dCmp .Eq (dVar 1) (dC (.int 1))) [some (ev goal), some (.int (k : Int)), some (.int (size : Int)), none, none, none, none, none, none, none, none, none] h = some (false, h) := by
      rw [q_val (q_eqI rfl rfl)]
      rw [decide_eq_false (by omega)]
    exact this
  refine (q_seq ((q_if0 G).trans rfl)).trans ?_
  refine (q_seq (q_asg ((q_call (q_two side_eq (q_call (q_one side_eq) s_common_of)) (s_over_of (by simp; omega) sc hc)).trans (by rw [es])) rfl)).trans ?_
  refine (q_seq (q_asg ((q_call (q_one rfl) (s_square_sum_of (by rw [o.len]; omega) ssd)).trans (by rw [hb])) rfl)).trans ?_
  refine (q_seq (q_asg (h1 := h ++ [([] : List (List Int)).map ev]) (v := .ref h.length) rfl rfl)).trans ?_
  refine (q_seq a1).trans (q_ret ?_)
  rw [q_blt (q_one rfl)]
  refine b_sortR (L := foundL side goal k size by_) ?_ (fun a ha => ?_) (by omega)
  · simp only [lstH, getHL]; rfl
  · obtain ⟨f, s, rfl, _⟩ := foundL_ne o k size by_ a ha
    intro q
    have := own_len o f s
    rw [q] at this
    simp at this
end LawK80
-- text K80p4
namespace LawK80
open PySem PySem.Spec Mn
theorem foldl_app {α β : Type} (step : List β → α → List β) (g : α → List β) (hs : ∀ L s, step L s = L ++ g s) : ∀ (ss : List α) (L : List β), ss.foldl step L = L ++ ss.flatMap g
  | [], L => by simp
  | s :: ss, L => by rw [List.foldl_cons, foldl_app step g hs ss, hs]; simp
def gC (side goal : List Int) (k : Nat) (f s : Int) : List (List Int) := if powA (ownR side f s) k = goal then [ownR side f s] else []
def gB (side goal : List Int) (k o : Nat) (f : Int) : List (List Int) := [(o : Int), -(o : Int)].flatMap (gC side goal k f)
def gA' (side goal : List Int) (k size by_ : Nat) (i : Nat) : List (List Int) :=
  if isq (size - (1 + i) * (1 + i) * by_) * isq (size - (1 + i) * (1 + i) * by_) = size - (1 + i) * (1 + i) * by_ then (firsts (isq (size - (1 + i) * (1 + i) * by_))).flatMap (gB side goal k (1 + i)) else []
theorem found_eq (side goal : List Int) (k size by_ : Nat) : foundL side goal k size by_ = (List.range (isq (size / by_))).flatMap (gA' side goal k size by_) := by
  unfold foundL
  rw [foldl_app _ (gA' side goal k size by_), List.nil_append]
  intro L i
  unfold stepA gA'
  split
  · rw [foldl_app _ (gB side goal k (1 + i))]
    intro L f
    unfold stepB gB
    rw [foldl_app _ (gC side goal k f)]
    intro L s
    unfold stepC gC
    split <;> simp
  · simp
theorem gC_mem {side goal : List Int} {k : Nat} {f s : Int} {a : List Int} (h : a ∈ gC side goal k f s) : a = ownR side f s ∧ powA a k = goal := by
  unfold gC at h
  split at h
  · rw [List.mem_singleton] at h; subst h; rename_i q; exact ⟨rfl, q⟩
  · simp at h
theorem gB_mem {side goal : List Int} {k o : Nat} {f : Int} {a : List Int} (h : a ∈ gB side goal k o f) : ∃ s : Int, (s = o ∨ s = -(o : Int)) ∧ a = ownR side f s ∧ powA a k = goal := by
  unfold gB at h
  obtain ⟨s, hs, ha⟩ := List.mem_flatMap.mp h
  exact ⟨s, by simpa using hs, gC_mem ha⟩
theorem gA_mem {side goal : List Int} {k size by_ i : Nat} {a : List Int} (h : a ∈ gA' side goal k size by_ i) : ∃ f s : Int, (s = ((1 + i : Nat) : Int) ∨ s = -((1 + i : Nat) : Int)) ∧ a = ownR side f s ∧ powA a k = goal := by
  unfold gA' at h
  split at h
  · obtain ⟨f, hf, ha⟩ := List.mem_flatMap.mp h
    obtain ⟨s, h1, h2⟩ := gB_mem ha
    exact ⟨f, s, h1, h2⟩
  · simp at h
theorem own_inj {c : List Int} (h0 : ∃ y ∈ c, y ≠ 0) (hl : c.length = 7) {f s f' s' : Int} (e : ownR (0 :: c) f s = ownR (0 :: c) f' s') : f = f' ∧ s = s' := by
  match c, hl with
  | [c1, c2, c3, c4, c5, c6, c7], _ =>
    simp [ownR] at e
    obtain ⟨e0, e1, e2, e3, e4, e5, e6, e7⟩ := e
    refine ⟨e0, ?_⟩
    obtain ⟨y, hy, ne⟩ := h0
    have Q : y * s = y * s' := by
      simp at hy
      rcases hy with rfl | rfl | rfl | rfl | rfl | rfl | rfl <;> assumption
    exact Int.eq_of_mul_eq_mul_left ne Q
theorem firsts_nd (p : Nat) : (firsts p).Nodup := nodup_of_up swoZ (srtU_up swoZ (fun a b h1 h2 => by have := of_decide_eq_false h1; have := of_decide_eq_false h2; omega) _)
theorem found_nd {c goal : List Int} {k size by_ : Nat} (h0 : ∃ y ∈ c, y ≠ 0) (hl : c.length = 7) : (foundL (0 :: c) goal k size by_).Nodup := by
  rw [found_eq]
  unfold List.Nodup
  rw [List.pairwise_flatMap]
  refine ⟨fun i _ => ?_, ?_⟩
  · unfold gA'
    split
    · rw [List.pairwise_flatMap]
      refine ⟨fun f _ => ?_, ?_⟩
      · unfold gB
        rw [List.pairwise_flatMap]
        refine ⟨fun s _ => ?_, ?_⟩
        · unfold gC; split <;> simp
        · refine List.pairwise_cons.mpr ⟨fun s hs x hx y hy q => ?_, by simp⟩
          subst q
          have := (own_inj h0 hl ((gC_mem hx).1.symm.trans (gC_mem hy).1)).2
          simp at hs; omega
      · refine (firsts_nd _).imp ?_
        intro f f' ne x hx y hy q
        subst q
        obtain ⟨s, _, a1, _⟩ := gB_mem hx
        obtain ⟨s', _, a2, _⟩ := gB_mem hy
        exact ne (own_inj h0 hl (a1.symm.trans a2)).1
    · simp
  · refine List.nodup_range.imp ?_
    intro i j ne x hx y hy q
    subst q
    obtain ⟨f, s, h1, a1, _⟩ := gA_mem hx
    obtain ⟨f', s', h2, a2, _⟩ := gA_mem hy
    have := (own_inj h0 hl (a1.symm.trans a2)).2
    omega
theorem found_len (side goal : List Int) (k size by_ : Nat) : (foundL side goal k size by_).length ≤ 4 * isq (size / by_) := by
  unfold foundL
  suffices ∀ (z : List Nat) (L : List (List Int)), (z.foldl (stepA side goal k size by_) L).length ≤ L.length + 4 * z.length by have := this (List.range (isq (size / by_))) []; simpa using this
  intro z
  induction z with
  | nil => intro L; simp
  | cons i z ih => intro L; have := ih (stepA side goal k size by_ L i); have := stepA_len side goal k size by_ L i; simp only [List.foldl_cons, List.length_cons]; omega
theorem isq_sq (n : Nat) : isq (n * n) = n := (isq_one (n := n * n) (r := n) (Nat.le_refl _) (by grind)).symm
/-- the number itself is found -/
theorem found_mem {side goal : List Int} {k size by_ : Nat} {f s : Int} (hs : s ≠ 0) (hb : 0 < by_) (hz : (size : Int) = f * f + s * s * by_) (hp : powA (ownR side f s) k = goal) : ownR side f s ∈ foundL side goal k size by_ := by
  rw [found_eq]
  have e1 : size = f.natAbs * f.natAbs + s.natAbs * s.natAbs * by_ := by
    have a1 : (f.natAbs * f.natAbs : Int) = f * f := Int.natAbs_mul_self' f
    have a2 : (s.natAbs * s.natAbs : Int) = s * s := Int.natAbs_mul_self' s
    have : (size : Int) = ((f.natAbs * f.natAbs + s.natAbs * s.natAbs * by_ : Nat) : Int) := by push_cast; rw [a1, a2]; exact hz
    omega
  refine List.mem_flatMap.mpr ⟨s.natAbs - 1, List.mem_range.mpr ?_, ?_⟩
  · have hd : s.natAbs * s.natAbs ≤ size / by_ := (Nat.le_div_iff_mul_le hb).mpr (by omega)
    have hi : s.natAbs ≤ isq (size / by_) := by
      have := (isq_spec (size / by_)).2
      refine Decidable.byContradiction fun q => ?_
      have := Nat.mul_le_mul (show isq (size / by_) + 1 ≤ s.natAbs by omega) (show isq (size / by_) + 1 ≤ s.natAbs by omega)
      omega
    omega
  · have e2 : 1 + (s.natAbs - 1) = s.natAbs := by omega
    have e3 : size - s.natAbs * s.natAbs * by_ = f.natAbs * f.natAbs := by omega
    unfold gA'
    rw [e2, e3, isq_sq, if_pos rfl]
    refine List.mem_flatMap.mpr ⟨f, (firsts_mem _ f).mpr (by omega), ?_⟩
    unfold gB
    refine List.mem_flatMap.mpr ⟨s, by simp; omega, ?_⟩
    unfold gC
    rw [if_pos hp]
    exact List.mem_singleton.mpr rfl
/-! the law of powers -/
def NN (t n : Int) (p : Int × Int) : Int := p.1 * p.1 * n + p.1 * p.2 * t + p.2 * p.2
theorem pairT_inv (t n : Int) (k : Nat) : (pairT t n k).2.1 = t * (pairT t n k).1.1 + (pairT t n k).1.2 ∧ (pairT t n k).2.2 = -(n * (pairT t n k).1.1) := by
  induction k with
  | zero => simp [pairT]
  | succ k ih =>
    obtain ⟨a, b⟩ := ih
    rw [pairT_succ]
    simp only [pst]
    refine ⟨?_, ?_⟩ <;> grind
theorem pairN_succ (t n : Int) (k : Nat) : pairN t n (k + 1) = (t * (pairN t n k).1 + (pairN t n k).2, -(n * (pairN t n k).1)) := by
  have := pairT_inv t n k
  unfold pairN
  rw [pairT_succ]
  simp only [pst]
  exact Prod.ext this.1 this.2
theorem pairN_zero (t n : Int) : pairN t n 0 = (0, 1) := rfl
theorem NN_pow (t n : Int) (k : Nat) : NN t n (pairN t n k) = n ^ k := by
  induction k with
  | zero => simp [NN, pairN_zero]
  | succ k ih =>
    rw [pairN_succ, Int.pow_succ, ← ih]
    simp only [NN]
    grind
end LawK80
-- text K80p5
namespace LawK80
open PySem PySem.Spec Mn
/-- the product, part by part -/
theorem lmul_ex (x0 x1 x2 x3 x4 x5 x6 x7 y0 y1 y2 y3 y4 y5 y6 y7 : Int) : lmulL [x0, x1, x2, x3, x4, x5, x6, x7] [y0, y1, y2, y3, y4, y5, y6, y7] =
  [x0*y0 - x1*y1 - x2*y2 - x3*y3 - x4*y4 - x5*y5 - x6*y6 - x7*y7,
   x0*y1 + x1*y0 + x2*y4 + x3*y7 - x4*y2 + x5*y6 - x6*y5 - x7*y3,
   x0*y2 + x2*y0 - x1*y4 + x3*y5 + x4*y1 - x5*y3 + x6*y7 - x7*y6,
   x0*y3 + x3*y0 - x1*y7 - x2*y5 + x4*y6 + x5*y2 - x6*y4 + x7*y1,
   x0*y4 + x4*y0 + x1*y2 - x2*y1 - x3*y6 + x5*y7 + x6*y3 - x7*y5,
   x0*y5 + x5*y0 - x1*y6 + x2*y3 - x3*y2 - x4*y7 + x6*y1 + x7*y4,
   x0*y6 + x6*y0 + x1*y5 - x2*y7 + x3*y4 - x4*y3 - x5*y1 + x7*y2,
   x0*y7 + x7*y0 + x1*y3 + x2*y6 - x3*y1 + x4*y5 - x5*y4 - x6*y2] := by
  simp only [lmulL, nearL, farL, four, List.zipWith_cons_cons, List.zipWith_nil_left, List.getD_cons_zero, List.getD_cons_succ, List.cons.injEq, and_true]
  refine ⟨?_, ?_, ?_, ?_, ?_, ?_, ?_, ?_⟩ <;> grind
theorem prod_ex (x0 x1 x2 x3 x4 x5 x6 x7 y0 y1 y2 y3 y4 y5 y6 y7 : Int) : prodL [x0, x1, x2, x3, x4, x5, x6, x7] [y0, y1, y2, y3, y4, y5, y6, y7] = lmulL [x0, x1, x2, x3, x4, x5, x6, x7] [y0, y1, y2, y3, y4, y5, y6, y7] := by
  rw [lmul_ex]
  simp only [prodL, cell2, cell1, tab8, zero8, List.zipIdx_cons, List.zipIdx_nil, List.foldl_cons, List.foldl_nil, List.getD_cons_zero, List.getD_cons_succ, Nat.zero_add, List.set_cons_zero, List.set_cons_succ, Int.toNat_zero, Int.toNat_one, Int.reduceToNat, Nat.reduceAdd]
  simp only [List.cons.injEq, and_true]
  refine ⟨?_, ?_, ?_, ?_, ?_, ?_, ?_, ?_⟩ <;> grind
end LawK80
-- text K80p6
namespace LawK80
open PySem PySem.Spec Mn
/-- u times an eight and v -/
def mix (u v : Int) (a : List Int) : List Int := plusR (byR a u) (byR one8 v)
theorem powL_mix (x : Int) (r : List Int) (k : Nat) : powL x r k = mix (pairN (2 * x) (sqR (x :: r)) k).1 (pairN (2 * x) (sqR (x :: r)) k).2 (x :: r) := rfl
theorem mix_ex (u v x r1 r2 r3 r4 r5 r6 r7 : Int) : mix u v [x, r1, r2, r3, r4, r5, r6, r7] = [x*u + v, r1*u, r2*u, r3*u, r4*u, r5*u, r6*u, r7*u] := by simp [mix]
theorem sq_ex (x r1 r2 r3 r4 r5 r6 r7 : Int) : sqR [x, r1, r2, r3, r4, r5, r6, r7] = x*x + r1*r1 + r2*r2 + r3*r3 + r4*r4 + r5*r5 + r6*r6 + r7*r7 := by simp [sqR]; grind
theorem mix_mul (u v x r1 r2 r3 r4 r5 r6 r7 : Int) : lmulL (mix u v [x, r1, r2, r3, r4, r5, r6, r7]) [x, r1, r2, r3, r4, r5, r6, r7] = mix (2 * x * u + v) (-(sqR [x, r1, r2, r3, r4, r5, r6, r7] * u)) [x, r1, r2, r3, r4, r5, r6, r7] := by
  rw [mix_ex, mix_ex, lmul_ex, sq_ex]
  simp only [List.cons.injEq, and_true]
  refine ⟨?_, ?_, ?_, ?_, ?_, ?_, ?_, ?_⟩ <;> grind
theorem mix_sq (u v x r1 r2 r3 r4 r5 r6 r7 : Int) : sqR (mix u v [x, r1, r2, r3, r4, r5, r6, r7]) = NN (2 * x) (sqR [x, r1, r2, r3, r4, r5, r6, r7]) (u, v) := by
  rw [mix_ex, sq_ex, sq_ex]
  simp only [NN]
  grind
theorem powL_mul {x : Int} {r : List Int} (hr : r.length = 7) (k : Nat) : lmulL (powL x r k) (x :: r) = powL x r (k + 1) := by
  match r, hr with
  | [r1, r2, r3, r4, r5, r6, r7], _ => rw [powL_mix, mix_mul, powL_mix, pairN_succ]
theorem powL_sq {x : Int} {r : List Int} (hr : r.length = 7) (k : Nat) : sqR (powL x r k) = sqR (x :: r) ^ k := by
  match r, hr with
  | [r1, r2, r3, r4, r5, r6, r7], _ => rw [powL_mix, mix_sq, ← NN_pow (2 * x)]
theorem powL_zero {x : Int} {r : List Int} (hr : r.length = 7) : powL x r 0 = one8 := by
  match r, hr with
  | [r1, r2, r3, r4, r5, r6, r7], _ => rw [powL_mix, mix_ex, pairN_zero]; simp
/-- the greatest common divisor of a row -/
def comN (a : List Int) (s : Nat) : Nat := a.foldl (fun s y => Nat.gcd s y.natAbs) s
theorem com_eq (a : List Int) : ∀ s : Nat, a.foldl (fun s y => ((Nat.gcd s.natAbs y.natAbs : Nat) : Int)) (s : Int) = (comN a s : Int) := by
  induction a with
  | nil => intro s; rfl
  | cons y a ih => intro s; rw [List.foldl_cons]; exact ih _
theorem comL_eq (a : List Int) : comL a = (comN a 0 : Int) := com_eq a 0
theorem comN_by (u : Int) (a : List Int) : ∀ s : Nat, comN (byR a u) (s * u.natAbs) = comN a s * u.natAbs := by
  induction a with
  | nil => intro s; rfl
  | cons y a ih =>
    intro s
    show comN (byR a u) (Nat.gcd (s * u.natAbs) (y * u).natAbs) = comN a (Nat.gcd s y.natAbs) * u.natAbs
    rw [Int.natAbs_mul, Nat.gcd_mul_right]
    exact ih _
theorem comN_dvd (a : List Int) : ∀ s : Nat, comN a s ∣ s ∧ ∀ y ∈ a, comN a s ∣ y.natAbs := by
  induction a with
  | nil => intro s; exact ⟨Nat.dvd_refl _, by simp⟩
  | cons y a ih =>
    intro s
    obtain ⟨h1, h2⟩ := ih (Nat.gcd s y.natAbs)
    refine ⟨Nat.dvd_trans h1 (Nat.gcd_dvd_left ..), fun z hz => ?_⟩
    rcases List.mem_cons.mp hz with rfl | hz
    · exact Nat.dvd_trans h1 (Nat.gcd_dvd_right ..)
    · exact h2 z hz
theorem comN_pos {a : List Int} (h : ∃ y ∈ a, y ≠ 0) : 0 < comN a 0 := by
  obtain ⟨y, hy, ne⟩ := h
  have := (comN_dvd a 0).2 y hy
  refine Nat.pos_of_dvd_of_pos this (by omega)
/-- a row is its common divisor times a row -/
theorem com_split {r : List Int} (h : ∃ y ∈ r, y ≠ 0) : ∃ c : List Int, r = byR c (comN r 0 : Int) ∧ c.length = r.length := by
  have g := comN_pos h
  have d := (comN_dvd r 0).2
  generalize comN r 0 = m at g d
  clear h
  induction r with
  | nil => exact ⟨[], rfl, rfl⟩
  | cons y r ih =>
    obtain ⟨c, e, l⟩ := ih fun z hz => d z (List.mem_cons_of_mem _ hz)
    obtain ⟨q, hq⟩ := Int.ofNat_dvd_left.mpr (d y (List.mem_cons_self ..))
    refine ⟨q :: c, ?_, by simp [l]⟩
    rw [byR, List.map_cons, ← byR, ← e, hq, Int.mul_comm]
/-- the side of a power, over its common divisor -/
theorem over_side {c : List Int} {g : Nat} {u : Int} (hg : 0 < g) (hu : u ≠ 0) (hc : comN (byR c (g : Int)) 0 = g) :
    ∃ σ : Int, (σ = 1 ∨ σ = -1) ∧ comL (0 :: byR (byR c (g : Int)) u) = (g : Int) * u.natAbs ∧ overR (0 :: byR (byR c (g : Int)) u) (comL (0 :: byR (byR c (g : Int)) u)) = 0 :: byR c σ := by
  have e1 : comL (0 :: byR (byR c (g : Int)) u) = (g : Int) * u.natAbs := by
    rw [comL_eq]
    show ((comN (byR (byR c (g : Int)) u) 0 : Nat) : Int) = _
    have := comN_by u (byR c (g : Int)) 0
    rw [Nat.zero_mul] at this
    rw [this, hc]
    push_cast; rfl
  refine ⟨if 0 < u then 1 else -1, by split <;> simp, e1, ?_⟩
  rw [e1]
  show Int.fdiv 0 _ :: List.map _ _ = _
  rw [Int.zero_fdiv]
  congr 1
  rw [byR, byR, List.map_map, List.map_map]
  apply List.map_congr_left
  intro y _
  simp only [Function.comp]
  have gp : (0 : Int) < (g : Int) * u.natAbs := Int.mul_pos (by omega) (by omega)
  rw [Int.fdiv_eq_ediv_of_nonneg _ (by omega)]
  have : y * (g : Int) * u = (y * (if 0 < u then 1 else -1)) * ((g : Int) * u.natAbs) := by
    split
    · have : (u.natAbs : Int) = u := by omega
      rw [this]; grind
    · have : (u.natAbs : Int) = -u := by omega
      rw [this]; grind
  rw [this, Int.mul_ediv_cancel _ (by omega)]
end LawK80
-- text K80p7
namespace LawK80
open PySem PySem.Spec Mn
variable {h : MH}
theorem sqnn (w : Int) : 0 ≤ w * w := by rw [← Int.natAbs_mul_self' w]; exact Int.mul_nonneg (by omega) (by omega)
theorem sq_mem {a : List Int} {y : Int} (hy : y ∈ a) : y * y ≤ sqR a := by
  induction a with
  | nil => simp at hy
  | cons z a ih =>
    have e : sqR (z :: a) = z * z + sqR a := by simp [sqR]
    have p : ∀ b : List Int, 0 ≤ sqR b := by
      intro b
      induction b with
      | nil => simp [sqR]
      | cons w b ih => have e : sqR (w :: b) = w * w + sqR b := by simp [sqR]
                       have : 0 ≤ w * w := sqnn w
                       omega
    have zz : 0 ≤ z * z := sqnn z
    rcases List.mem_cons.mp hy with rfl | hy
    · have := p a; omega
    · have := ih hy; omega
theorem abs_of_sq {y : Int} {m : Nat} (h : y * y ≤ (m : Int) * m) : y.natAbs ≤ m := by
  rw [← Int.natAbs_mul_self' y] at h
  refine Decidable.byContradiction fun q => ?_
  have : (m + 1) * (m + 1) ≤ y.natAbs * y.natAbs := Nat.mul_le_mul (by omega) (by omega)
  have e : (m + 1) * (m + 1) = m * m + 2 * m + 1 := by grind
  have h' : y.natAbs * y.natAbs ≤ m * m := by exact_mod_cast h
  omega
theorem sq_le {a : List Int} (hb : ∀ i ∈ a, -3 ≤ i ∧ i ≤ 3) : 0 ≤ sqR a ∧ sqR a ≤ 9 * a.length := by
  induction a with
  | nil => simp [sqR]
  | cons w b ih =>
    have e : sqR (w :: b) = w * w + sqR b := by simp [sqR]
    have := ih fun i hi => hb i (List.mem_cons_of_mem _ hi)
    have hw := hb w (List.mem_cons_self ..)
    have : 0 ≤ w * w ∧ w * w ≤ 9 := by
      have : w = -3 ∨ w = -2 ∨ w = -1 ∨ w = 0 ∨ w = 1 ∨ w = 2 ∨ w = 3 := by omega
      rcases this with rfl | rfl | rfl | rfl | rfl | rfl | rfl <;> decide
    simp only [List.length_cons]
    omega
theorem ok8_of {x : Int} {r : List Int} (hl : r.length = 7) (hb : ∀ i ∈ x :: r, -3 ≤ i ∧ i ≤ 3) : Ok8 x r := by
  have q := sq_le hb
  have hx := hb x (List.mem_cons_self ..)
  simp only [List.length_cons, hl] at q
  exact ⟨hl, fun y hy => by have := hb y hy; rw [small_iff]; omega, by rw [small_iff]; omega, by rw [small_iff]; omega⟩
theorem pow_b {x : Int} {r : List Int} (hl : r.length = 7) (hb : ∀ i ∈ x :: r, -3 ≤ i ∧ i ≤ 3) {k : Nat} (hk : k ≤ 5) : ∀ y ∈ powL x r k, y.natAbs ≤ 50000 := by
  intro y hy
  apply abs_of_sq
  have h1 := sq_mem hy
  rw [powL_sq hl] at h1
  have q := sq_le hb
  simp only [List.length_cons, hl] at q
  obtain ⟨m, hm⟩ : ∃ m : Nat, sqR (x :: r) = m := ⟨(sqR (x :: r)).toNat, by omega⟩
  rw [hm] at h1 q
  have hm' : m ≤ 72 := by omega
  have : m ^ k ≤ 72 ^ 5 := Nat.le_trans (Nat.pow_le_pow_left hm' k) (Nat.pow_le_pow_right (by decide) hk)
  have h2 : ((m ^ k : Nat) : Int) ≤ ((72 ^ 5 : Nat) : Int) := Int.ofNat_le.mpr this
  rw [Int.natCast_pow] at h2
  have : ((72 ^ 5 : Nat) : Int) ≤ ((50000 : Nat) : Int) * (50000 : Nat) := by decide
  omega
theorem gA_mem2 {side goal : List Int} {k size by_ i : Nat} {a : List Int} (h : a ∈ gA' side goal k size by_ i) : ∃ f s : Int, f.natAbs ≤ size ∧ s.natAbs ≤ 1 + i ∧ a = ownR side f s ∧ powA a k = goal := by
  unfold gA' at h
  split at h
  · obtain ⟨f, hf, ha⟩ := List.mem_flatMap.mp h
    obtain ⟨s, h1, h2⟩ := gB_mem ha
    have := (firsts_mem _ f).mp hf
    have := isq_le (size - (1 + i) * (1 + i) * by_)
    exact ⟨f, s, by omega, by omega, h2⟩
  · simp at h
theorem found_mem2 {side goal : List Int} {k size by_ : Nat} {a : List Int} (h : a ∈ foundL side goal k size by_) : ∃ f s : Int, f.natAbs ≤ size ∧ s.natAbs ≤ 1 + size ∧ a = ownR side f s ∧ powA a k = goal := by
  rw [found_eq] at h
  obtain ⟨i, hi, ha⟩ := List.mem_flatMap.mp h
  have hi := List.mem_range.mp hi
  have := isq_le (size / by_)
  have := Nat.div_le_self size by_
  obtain ⟨f, s, h1, h2, h3⟩ := gA_mem2 ha
  exact ⟨f, s, h1, by omega, h3⟩
theorem tail_pow {x : Int} {r : List Int} (hl : r.length = 7) (k : Nat) : powL x r k = (x * (pairN (2 * x) (sqR (x :: r)) k).1 + (pairN (2 * x) (sqR (x :: r)) k).2) :: byR r (pairN (2 * x) (sqR (x :: r)) k).1 := by
  match r, hl with
  | [r1, r2, r3, r4, r5, r6, r7], _ => rw [powL_mix, mix_ex]; simp
theorem sq_by (a : List Int) (g : Int) : sqR (byR a g) = g * g * sqR a := by
  induction a with
  | nil => simp [sqR, byR]
  | cons w b ih =>
    have e : ∀ (w : Int) (b : List Int), sqR (w :: b) = w * w + sqR b := fun w b => by simp [sqR]
    rw [byR, List.map_cons, e, ← byR, ih, e]; grind
structure Roots (x : Int) (r : List Int) (k : Nat) (L : List (List Int)) : Prop where
  mem : x :: r ∈ L
  all : ∀ a ∈ L, a.length = 8 ∧ Ok8 (a.headD 0) a.tail ∧ powA a k = powL x r k
  up : srtU ltI L = L
  few : L.length < 64
theorem swoR' (a b : List Int) (h1 : ltI a b = false) (h2 : ltI b a = false) : a = b := by
  exact lex_same h1 h2
theorem s_roots {x : Int} {r : List Int} (hl : r.length = 7) (hb : ∀ i ∈ x :: r, -3 ≤ i ∧ i ≤ 3) {k : Nat} (hk : 2 ≤ k) (hk' : k ≤ 5) (hn : ∃ y ∈ (powL x r k).tail, y ≠ 0) :
    ∃ L, D_roots_in [ev (powL x r k), .int (k : Int)] h = .ok (.lst (L.map ev)) h ∧ Roots x r k L := by
  have tp := tail_pow (x := x) hl k
  have pb := pow_b hl hb hk'
  generalize hu : (pairN (2 * x) (sqR (x :: r)) k).1 = u at tp
  have hq := powL_sq (x := x) hl k
  have hlen := pow_len (x := x) hl k
  have u0 : u ≠ 0 := by
    rintro rfl
    obtain ⟨y, hy, ne⟩ := hn
    rw [tp] at hy
    simp only [List.tail_cons, byR, List.mem_map] at hy
    obtain ⟨z, _, rfl⟩ := hy
    simp at ne
  have r0 : ∃ y ∈ r, y ≠ 0 := by
    obtain ⟨y, hy, ne⟩ := hn
    rw [tp] at hy
    simp only [List.tail_cons, byR, List.mem_map] at hy
    obtain ⟨z, hz, rfl⟩ := hy
    exact ⟨z, hz, by rintro rfl; simp at ne⟩
  have gp := comN_pos r0
  obtain ⟨c, ec, lc⟩ := com_split r0
  generalize hg : comN r 0 = g at gp ec
  rw [hl] at lc
  have hgc : comN (byR c (g : Int)) 0 = g := by rw [← ec]; exact hg
  obtain ⟨σ, hσ, e1, e2⟩ := over_side gp u0 hgc
  rw [← ec] at e1 e2
  have cb : ∀ y ∈ c, -3 ≤ y ∧ y ≤ 3 := by
    intro y hy
    have : y * (g : Int) ∈ r := by rw [ec]; exact List.mem_map.mpr ⟨y, hy, rfl⟩
    have h3 := hb _ (List.mem_cons_of_mem _ this)
    have : (y * (g : Int)).natAbs = y.natAbs * g := by rw [Int.natAbs_mul]; rfl
    have : y.natAbs * 1 ≤ y.natAbs * g := Nat.mul_le_mul_left _ gp
    omega
  have c0 : ∃ y ∈ c, y ≠ 0 := by
    obtain ⟨y, hy, ne⟩ := r0
    rw [ec] at hy
    obtain ⟨z, hz, rfl⟩ := List.mem_map.mp hy
    exact ⟨z, hz, by rintro rfl; simp at ne⟩
  have s0 : ∃ y ∈ byR c σ, y ≠ 0 := by
    obtain ⟨y, hy, ne⟩ := c0
    refine ⟨y * σ, List.mem_map.mpr ⟨y, hy, rfl⟩, ?_⟩
    rcases hσ with rfl | rfl <;> omega
  have oks : OkS (0 :: byR c σ) := by
    refine ⟨by simp [lc], fun y hy => ?_⟩
    rcases List.mem_cons.mp hy with rfl | hy
    · omega
    · obtain ⟨z, hz, rfl⟩ := List.mem_map.mp hy
      have := cb z hz
      rcases hσ with rfl | rfl <;> omega
  have sqs : sqR (0 :: byR c σ) = sqR c := by
    have e : sqR (0 :: byR c σ) = sqR (byR c σ) := by simp [sqR]
    rw [e, sq_by]
    rcases hσ with rfl | rfl <;> simp
  have cq := sq_le cb
  have cpos : 0 < sqR c := by
    obtain ⟨y, hy, ne⟩ := c0
    have := sq_mem hy
    have : 0 < y * y := by rw [← Int.natAbs_mul_self' y]; have := Nat.mul_pos (show 0 < y.natAbs by omega) (show 0 < y.natAbs by omega); omega
    omega
  obtain ⟨by_, hby⟩ : ∃ m : Nat, sqR c = m := ⟨(sqR c).toNat, by omega⟩
  have q := sq_le hb
  simp only [List.length_cons, hl] at q
  obtain ⟨size, hsz⟩ : ∃ m : Nat, sqR (x :: r) = m := ⟨(sqR (x :: r)).toNat, by omega⟩
  have hsplit : (size : Int) = x * x + (g : Int) * g * by_ := by
    have e : sqR (x :: r) = x * x + sqR r := by simp [sqR]
    rw [← hsz, e, ← hby, ec, sq_by]
  have tl : (powL x r k).tail = byR r u := by rw [tp]; rfl
  have S := s_roots_in (h := h) (goal := powL x r k) (side := 0 :: byR c σ) (k := k) (size := size) (by_ := by_) hlen
    (fun y hy => by have := pb y hy; rw [small_iff]; omega) (by rw [hq, hsz]) (by omega) hk (by omega)
    (by rw [tl, e1]; have := Int.mul_pos (show (0 : Int) < g by omega) (show (0 : Int) < (u.natAbs : Int) by omega); omega)
    (by
      rw [tl, comL_eq, small_iff]
      obtain ⟨y, hy, ne⟩ := hn
      have d := (comN_dvd (0 :: byR r u) 0).2 y (by rw [tl] at hy; exact List.mem_cons_of_mem _ hy)
      have := Nat.le_of_dvd (by omega) d
      have := pb y (List.mem_of_mem_tail hy)
      omega) (by rw [tl]; exact e2) oks (by rw [sqs, hby]) (by omega)
  refine ⟨_, S, ?_, ?_, ?_, ?_⟩
  · rw [(srt_perm (lt := ltI) _).mem_iff]
    have own : ownR (0 :: byR c σ) x ((g : Int) * σ) = x :: r := by
      rw [ec]
      match c, lc with
      | [c1, c2, c3, c4, c5, c6, c7], _ =>
        have ss : σ * σ = 1 := by rcases hσ with rfl | rfl <;> rfl
        simp [ownR]
        refine ⟨?_, ?_, ?_, ?_, ?_, ?_, ?_⟩ <;> grind
    rw [← own]
    refine found_mem ?_ (by omega) ?_ ?_
    · rcases hσ with rfl | rfl <;> omega
    · rw [hsplit]; rcases hσ with rfl | rfl <;> grind
    · rw [own]; rfl
  · intro a ha
    rw [(srt_perm (lt := ltI) _).mem_iff] at ha
    obtain ⟨f, s, b1, b2, rfl, b3⟩ := found_mem2 ha
    exact ⟨own_len oks f s, own_ok oks (by omega) (by omega), b3⟩
  · refine (srtU_one swoR swoR' ?_ (fun z => Iff.rfl) (srt_sorted swoR _)).symm
    exact (srt_perm (lt := ltI) _).nodup_iff.mpr (found_nd s0 (by simp [lc]))
  · rw [(srt_perm (lt := ltI) _).length_eq]
    have := found_len (0 :: byR c σ) (powL x r k) k size by_
    have d1 : isq (size / by_) * isq (size / by_) ≤ size / by_ := (isq_spec _).1
    have d2 := Nat.div_le_self size by_
    have : isq (size / by_) ≤ 8 := by
      refine Decidable.byContradiction fun z => ?_
      have := Nat.mul_le_mul (show 9 ≤ isq (size / by_) by omega) (show 9 ≤ isq (size / by_) by omega)
      omega
    omega
end LawK80
-- text K80p8
namespace LawK80
open PySem PySem.Spec Mn
variable {h : MH}
theorem s__law_lists {a : List Int} (hl : a.length ≤ 1000) : D__law_lists [ev a] h = .ok (.lst (a.map .int)) h := by
  delta D__law_lists D__law_lists_5 b__law_lists
  refine done (v := .lst (a.map .int)) rfl (q_ret ((q_dif1 rfl).trans (q_lc (q_seqv rfl) (by omega) fun p hp => ⟨_, rfl, rfl, q_call (q_one rfl) (done (v := .int p) rfl rfl rfl rfl)⟩))) ?_ rfl
  simp only [PV.bel]; exact belAll_ints _ _
theorem s_roots_of {x : Int} {r : List Int} (hl : r.length = 7) (hb : ∀ i ∈ x :: r, -3 ≤ i ∧ i ≤ 3) {k : Nat} (hk : 2 ≤ k) (hk' : k ≤ 5) (hn : ∃ y ∈ (powL x r k).tail, y ≠ 0) :
    ∃ L, D_roots_of [ev (powL x r k), .int (k : Int)] h = .ok (.lst (L.map ev)) h ∧ Roots x r k L := by
  obtain ⟨L, e, R⟩ := s_roots (h := h) hl hb hk hk' hn
  refine ⟨L, done (v := .lst (L.map ev)) rfl ?_ (by simp only [PV.bel]; exact bel_evs _ _) rfl, R⟩
  refine (q_seq (q_asg (q_call (q_one rfl) (s_sure_eight (pow_len hl k))) rfl)).trans ?_
  refine (q_seq (q_asg (q_call (q_one rfl) (s_sure_times (by omega) (by omega))) rfl)).trans ?_
  have tp := tail_pow (x := x) hl k
  rw [tp] at hn ⊢
  have ne : byR r (pairN (2 * x) (sqR (x :: r)) k).1 ≠ [0, 0, 0, 0, 0, 0, 0] := by
    intro q
    obtain ⟨y, hy, n0⟩ := hn
    simp only [List.tail_cons] at hy
    rw [q] at hy
    simp at hy
    exact n0 hy
  refine (q_seq ((q_if0 ((q_val (q_eqE (r := byR r (pairN (2 * x) (sqR (x :: r)) k).1) (s := [0, 0, 0, 0, 0, 0, 0]) (q_cut1 rfl) (q_cut1 rfl))).trans (by rw [decide_eq_false ne]))).trans rfl)).trans ?_
  rw [← tp]
  exact q_ret (q_call (q_two rfl rfl) e)
/-! eights_right: the rows -/
abbrev eE (s1 s2 s3 s4 s5 s6 s7 s8 s9 s10 s11 s12 s13 s14 s15 s16 s17 s18 s19 s20 s21 : Option PV) : Mn.Env :=
  [some (.ref 0), s1, s2, s3, s4, s5, s6, s7, s8, s9, s10, s11, s12, s13, s14, s15, s16, s17, s18, s19, s20, s21]
def rowsN (x : Int) (r : List Int) (n : Nat) : List PV := (List.range n).map fun i => pr (pairN (2 * x) (sqR (x :: r)) i)
theorem rows_len (x : Int) (r : List Int) (n : Nat) : (rowsN x r n).length = n := by simp [rowsN]
theorem rows_succ (x : Int) (r : List Int) (n : Nat) : rowsN x r (n + 1) = rowsN x r n ++ [pr (pairN (2 * x) (sqR (x :: r)) n)] := by simp [rowsN, List.range_succ]
theorem rows_cut (x : Int) (r : List Int) (n : Nat) : cutP (rowsN x r (n + 2)) (some (-2)) none = [pr (pairN (2 * x) (sqR (x :: r)) n), pr (pairN (2 * x) (sqR (x :: r)) (n + 1))] := by
  have e : HT.sIx (n + 2) 0 (some (-2)) = n := by
    show (-2 + ((n + 2 : Nat) : Int)).toNat = n
    omega
  unfold cutP
  rw [rows_len, e, HT.sIx_none, rows_succ, rows_succ, List.append_assoc, List.drop_left' (rows_len x r n)]
  simp only [Nat.add_sub_cancel_left]
  rfl
theorem pairN_two (t n : Int) (k : Nat) : pairN t n (k + 2) = (t * (pairN t n (k + 1)).1 - n * (pairN t n k).1, t * (pairN t n (k + 1)).2 - n * (pairN t n k).2) := by
  unfold pairN
  rw [pairT_succ, pairT_succ]
  rfl
abbrev bR : SDen := (sSeq (sAsg (dSl 0 (dVar 2) (oSome (dNeg (dC (.int 2)))) (oNon)) (gUnp 2 (gCons (gUnp 2 (gCons (gA (aName 16)) (gCons (gA (aName 17)) (gNil)))) (gCons (gUnp 2 (gCons (gA (aName 18)) (gCons (gA (aName 19)) (gNil)))) (gNil))))) (sSeq (sDrop (dApp (dVar 2) (dTup (lCons (dBin 0 .Sub (dBin 0 .Mult (dBin 0 .Mult (dC (.int 2)) (dIx (dVar 1) (dC (.int 0)))) (dVar 18)) (dBin 0 .Mult (dCall D__law_dot (lCons (dVar 1) (lCons (dVar 1) (lNil)))) (dVar 16))) (lCons (dBin 0 .Sub (dBin 0 .Mult (dBin 0 .Mult (dC (.int 2)) (dIx (dVar 1) (dC (.int 0)))) (dVar 19)) (dBin 0 .Mult (dCall D__law_dot (lCons (dVar 1) (lCons (dVar 1) (lNil)))) (dVar 17))) (lNil)))))) (sNext)))
theorem bR_ok {x : Int} {r : List Int} (ok : Ok8 x r) {n : Nat} (hn : n ≤ 1000) (s3 s16 s17 s18 s19 : Option PV) :
    ∃ q16 q17 q18 q19, bR (eE (some (ev (x :: r))) (some (.ref h.length)) s3 none none none none none none none none none none none none s16 s17 s18 s19 none none) (h ++ [rowsN x r (n + 2)])
      = .nx (eE (some (ev (x :: r))) (some (.ref h.length)) s3 none none none none none none none none none none none none q16 q17 q18 q19 none none) (h ++ [rowsN x r (n + 3)]) := by
  have l8 := c8 (x := x) ok.len
  have cut : dSl 0 (dVar 2) (oSome (dNeg (dC (.int 2)))) (oNon) (eE (some (ev (x :: r))) (some (.ref h.length)) s3 none none none none none none none none none none none none s16 s17 s18 s19 none none) (h ++ [rowsN x r (n + 2)])
      = some (.lst [pr (pairN (2 * x) (sqR (x :: r)) n), pr (pairN (2 * x) (sqR (x :: r)) (n + 1))], h ++ [rowsN x r (n + 2)]) := by
    have e1 : dSl 0 (dVar 2) (oSome (dNeg (dC (.int 2)))) (oNon) (eE (some (ev (x :: r))) (some (.ref h.length)) s3 none none none none none none none none none none none none s16 s17 s18 s19 none none) (h ++ [rowsN x r (n + 2)])
      = (match seqH (h ++ [rowsN x r (n + 2)]) (.ref h.length) with
          | some xs => mkL 0 (cutP xs (some (-2)) none) (h ++ [rowsN x r (n + 2)])
          | none => none) := rfl
    rw [e1]
    simp only [seqH, getHL, rows_cut]
    rfl
  refine ⟨some (.int (pairN (2 * x) (sqR (x :: r)) n).1), some (.int (pairN (2 * x) (sqR (x :: r)) n).2), some (.int (pairN (2 * x) (sqR (x :: r)) (n + 1)).1), some (.int (pairN (2 * x) (sqR (x :: r)) (n + 1)).2), (q_seq (q_asg cut (q_unp (xs := [pr (pairN (2 * x) (sqR (x :: r)) n), pr (pairN (2 * x) (sqR (x :: r)) (n + 1))]) rfl rfl rfl))).trans ?_⟩
  have D : ∀ {e : Mn.Env} {h : MH}, dVar 1 e h = some (ev (x :: r), h) → dCall D__law_dot (lCons (dVar 1) (lCons (dVar 1) (lNil))) e h = some (.int (sqR (x :: r)), h) := fun hv => (q_call (q_two hv hv) (s__law_dot (by omega) ok.sm)).trans (by rw [dot_self])
  refine (q_app (o := dVar 2) (v := pr (pairN (2 * x) (sqR (x :: r)) (n + 2))) (h1 := h ++ [rowsN x r (n + 2)]) (h2 := h ++ [rowsN x r (n + 2)]) rfl ?_ (getHL _ _) rfl (by rw [rows_len]; omega)).trans ?_
  · rw [pairN_two]
    exact q_tup2 (q_sub (q_mulL (q_mulL rfl (q_hd rfl) (by decide)) rfl ok.t) (q_mulL (D rfl) rfl ok.n)) (q_sub (q_mulL (q_mulL rfl (q_hd rfl) (by decide)) rfl ok.t) (q_mulL (D rfl) rfl ok.n))
  · rw [setHL, ← rows_succ]
    rfl
theorem pow_b9 {x : Int} {r : List Int} (hl : r.length = 7) (hb : ∀ i ∈ x :: r, -3 ≤ i ∧ i ≤ 3) {k : Nat} (hk : k ≤ 10) : ∀ y ∈ powL x r k, y.natAbs ≤ 2000000000 := by
  intro y hy
  apply abs_of_sq
  have h1 := sq_mem hy
  rw [powL_sq hl] at h1
  have q := sq_le hb
  simp only [List.length_cons, hl] at q
  obtain ⟨m, hm⟩ : ∃ m : Nat, sqR (x :: r) = m := ⟨(sqR (x :: r)).toNat, by omega⟩
  rw [hm] at h1 q
  have hm' : m ≤ 72 := by omega
  have : m ^ k ≤ 72 ^ 10 := Nat.le_trans (Nat.pow_le_pow_left hm' k) (Nat.pow_le_pow_right (by decide) hk)
  have h2 : ((m ^ k : Nat) : Int) ≤ ((72 ^ 10 : Nat) : Int) := Int.ofNat_le.mpr this
  rw [Int.natCast_pow] at h2
  have : ((72 ^ 10 : Nat) : Int) ≤ ((2000000000 : Nat) : Int) * (2000000000 : Nat) := by decide
  omega
theorem s__law_mulA {a b : List Int} (ha : a.length = 8) (hb : b.length = 8) (hs : smR b) : D__law_mul [ev a, ev b] h = .ok (ev (lmulL a b)) h := by
  match a, ha, b, hb with
  | [x0, x1, x2, x3, x4, x5, x6, x7], _, [y0, y1, y2, y3, y4, y5, y6, y7], _ => exact s__law_mul hs
abbrev bP : SDen := (sSeq (sAsg (dIx (dVar 2) (dVar 6)) (gUnp 2 (gCons (gA (aName 14)) (gCons (gA (aName 15)) (gNil))))) (sSeq (sAsg (dCall D__law_plus (lCons (dCall D__law_by (lCons (dVar 1) (lCons (dVar 14) (lNil)))) (lCons (dCall D__law_by (lCons (dCall D__law_letter (lCons (dC (.int 0)) (lNil))) (lCons (dVar 15) (lNil)))) (lNil)))) (gA (aName 10))) (sSeq (sIf (tOr (tVal (dCmp .NotEq (dVar 10) (dVar 4))) (tNot (tVal (dCall D__law_same (lCons (dLst 0 (lCons (dCall D_power (lCons (dVar 1) (lCons (dVar 6) (lNil)))) (lCons (dCall D_power_pair (lCons (dCall D__law_lists (lCons (dVar 1) (lNil))) (lCons (dVar 6) (lNil)))) (lCons (dCall D_size (lCons (dVar 4) (lNil))) (lNil))))) (lCons (dLst 0 (lCons (dVar 4) (lCons (dTup (lCons (dVar 14) (lCons (dVar 15) (lNil)))) (lCons (dCall D__law_size_power (lCons (dVar 1) (lCons (dVar 6) (lNil)))) (lNil))))) (lNil))))))) (sSeq (sRet (dC (.bl false))) (sNext)) (sNext)) (sSeq (sAsg (dCall D__law_plus (lCons (dVar 5) (lCons (dVar 4) (lNil)))) (gA (aName 5))) (sSeq (sAsg (dCall D__law_mul (lCons (dVar 4) (lCons (dVar 1) (lNil)))) (gA (aName 4))) (sNext))))))
theorem q_or0 {a b : TDen} {e : Mn.Env} {h h1 : MH} (ha : a e h = some (false, h1)) : tOr a b e h = b e h1 := by simp only [tOr, ha]
theorem q_lst0 {l : LDen} {e : Mn.Env} {h h1 : MH} {xs : List PV} (hl : l e h = some (xs, h1)) (hn : xs.length ≤ 100000) : dLst 0 l e h = some (.lst xs, h1) := by simp only [dLst, hl]; exact e_mkL0 hn
theorem added_succ (x : Int) (r : List Int) (n : Nat) : addedL x r (n + 1) = plusR (addedL x r n) (powL x r n) := by simp [addedL, List.range_succ]
theorem added_len {x : Int} {r : List Int} (hl : r.length = 7) (n : Nat) : (addedL x r n).length = 8 := by
  induction n with
  | zero => rfl
  | succ n ih => rw [added_succ]; simp [ih, pow_len hl]
theorem bP_ok {x : Int} {r : List Int} (hl : r.length = 7) (hb : ∀ i ∈ x :: r, -3 ≤ i ∧ i ≤ 3) {k : Nat} (hk : k ≤ 8) (s3 s10 s14 s15 s16 s17 s18 s19 : Option PV) :
    ∃ q10 q14 q15, bP (eE (some (ev (x :: r))) (some (.ref h.length)) s3 (some (ev (powL x r k))) (some (ev (addedL x r k))) (some (.int (k : Int))) none none none s10 none none none s14 s15 s16 s17 s18 s19 none none) (h ++ [rowsN x r 13])
      = .nx (eE (some (ev (x :: r))) (some (.ref h.length)) s3 (some (ev (powL x r (k + 1)))) (some (ev (addedL x r (k + 1)))) (some (.int (k : Int))) none none none q10 none none none q14 q15 s16 s17 s18 s19 none none) (h ++ [rowsN x r 13]) := by
  have ok := ok8_of hl hb
  have l8 := c8 (x := x) ok.len
  have pl := pow_len (x := x) hl k
  have ps : smR (powL x r k) := fun y hy => by have := pow_b9 hl hb (show k ≤ 10 by omega) y hy; rw [small_iff]; omega
  refine ⟨some (ev (powL x r k)), some (.int (pairN (2 * x) (sqR (x :: r)) k).1), some (.int (pairN (2 * x) (sqR (x :: r)) k).2), ?_⟩
  refine (q_seq (q_asg (q_ix (x := .ref h.length) (v := pr (pairN (2 * x) (sqR (x :: r)) k)) rfl rfl (getHL _ _) (by rw [atI_nat, rowsN, List.getElem?_map, List.getElem?_range (by omega)]; rfl)) (q_unp (xs := [.int (pairN (2 * x) (sqR (x :: r)) k).1, .int (pairN (2 * x) (sqR (x :: r)) k).2]) rfl rfl rfl))).trans ?_
  refine (q_seq (q_asg (v := ev (powL x r k)) (q_call (q_two (q_call (q_two rfl rfl) (s__law_by (by omega) (.inl ok.sm))) (q_call (q_two (x := ev one8) (q_call (q_one rfl) (s__law_letter (k := 0))) rfl) (s__law_by (by decide) (.inl sm_one)))) (s__law_plus (by simp [hl]))) rfl)).trans ?_
  have S : dCall D__law_same (lCons (dLst 0 (lCons (dCall D_power (lCons (dVar 1) (lCons (dVar 6) (lNil)))) (lCons (dCall D_power_pair (lCons (dCall D__law_lists (lCons (dVar 1) (lNil))) (lCons (dVar 6) (lNil)))) (lCons (dCall D_size (lCons (dVar 4) (lNil))) (lNil))))) (lCons (dLst 0 (lCons (dVar 4) (lCons (dTup (lCons (dVar 14) (lCons (dVar 15) (lNil)))) (lCons (dCall D__law_size_power (lCons (dVar 1) (lCons (dVar 6) (lNil)))) (lNil))))) (lNil)))
      (eE (some (ev (x :: r))) (some (.ref h.length)) s3 (some (ev (powL x r k))) (some (ev (addedL x r k))) (some (.int (k : Int))) none none none (some (ev (powL x r k))) none none none (some (.int (pairN (2 * x) (sqR (x :: r)) k).1)) (some (.int (pairN (2 * x) (sqR (x :: r)) k).2)) s16 s17 s18 s19 none none) (h ++ [rowsN x r 13]) = some (.bl true, h ++ [rowsN x r 13]) := by
    refine q_call (q_two (x := .lst [ev (powL x r k), pr (pairN (2 * x) (sqR (x :: r)) k), .int (sqR (x :: r) ^ k)]) (y := .lst [ev (powL x r k), pr (pairN (2 * x) (sqR (x :: r)) k), .int (sqR (x :: r) ^ k)]) (q_lst0 (q_cons (q_call (q_two rfl rfl) (s_power ok (by omega))) (q_two (q_call (q_two (q_call (q_one rfl) (s__law_lists (by omega))) rfl) (s_power_pairl ok (by omega))) (q_call (q_one rfl) ((s_size pl ps).trans (by rw [powL_sq hl]))))) (by simp)) (q_lst0 (q_cons rfl (q_two (q_tup2 rfl rfl) (q_call (q_two rfl rfl) (s__law_size_power (by omega) ok.sm ok.n (by omega))))) (by simp))) (s_same _ (by simp) ?_)
    intro z hz
    simp only [List.mem_cons, List.not_mem_nil, or_false] at hz
    rcases hz with rfl | rfl | rfl
    · exact .inl ⟨_, rfl, by omega⟩
    · exact .inl ⟨[(pairN (2 * x) (sqR (x :: r)) k).1, (pairN (2 * x) (sqR (x :: r)) k).2], rfl, by simp⟩
    · exact .inr ⟨_, rfl⟩
  refine (q_seq ((q_if0 ((q_or0 (h1 := h ++ [rowsN x r 13]) ((q_val (q_neE (r := powL x r k) (s := powL x r k) rfl rfl)).trans (by simp))).trans (q_not (q_val S)))).trans rfl)).trans ?_
  refine (q_seq (q_asg (v := ev (addedL x r (k + 1))) ((q_call (q_two rfl rfl) (s__law_plus (by rw [added_len hl]; omega))).trans (by rw [added_succ])) rfl)).trans ?_
  refine (q_seq (q_asg (v := ev (powL x r (k + 1))) ((q_call (q_two rfl rfl) (s__law_mulA pl l8 ok.sm)).trans (by rw [powL_mul hl])) rfl)).trans rfl
end LawK80
-- text K80p9
namespace LawK80
open PySem PySem.Spec Mn
variable {e : Mn.Env} {h h1 h2 h3 : MH}
theorem q_neLI {a b : Den} {r s : List Int} (ha : a e h = some (.lst (r.map .int), h1)) (hb : b e h1 = some (.lst (s.map .int), h2)) : dCmp .NotEq a b e h = some (.bl (!decide (r = s)), h2) := by rw [q_cmp ha hb]; simp only [cmpop, eqH_li, Option.map]
theorem q_neLE {a b : Den} {r s : List (List Int)} (ha : a e h = some (.lst (r.map ev), h1)) (hb : b e h1 = some (.lst (s.map ev), h2)) : dCmp .NotEq a b e h = some (.bl (!decide (r = s)), h2) := by rw [q_cmp ha hb]; simp only [cmpop, eqH_le, Option.map]
theorem q_notinLE {a b : Den} {r : List Int} {s : List (List Int)} (ha : a e h = some (ev r, h1)) (hb : b e h1 = some (.lst (s.map ev), h2)) : dCmp .NotIn a b e h = some (.bl (!decide (r ∈ s)), h2) := by rw [q_cmp ha hb]; simp only [cmpop, inH_le, Option.map]
theorem q_chainLE {a b c : Den} {i j k : Int} (ha : a e h = some (.int i, h1)) (hb : b e h1 = some (.int j, h2)) (hc : c e h2 = some (.int k, h3)) (h1' : i ≤ j) (h2' : j ≤ k) : dChain .LtE .LtE a b c e h = some (.bl true, h3) := by
  simp only [dChain, ha, hb, hc, cmpop, decide_eq_true h1', decide_eq_true h2', Option.map]
theorem insU_len {α : Type} (lt : α → α → Bool) (x : α) : ∀ l : List α, (insU lt x l).length ≤ l.length + 1
  | [] => by simp [insU]
  | y :: ys => by unfold insU; split <;> (try split) <;> simp; exact insU_len lt x ys
theorem srtU_len {α : Type} (lt : α → α → Bool) : ∀ l : List α, (srtU lt l).length ≤ l.length
  | [] => by simp [srtU]
  | x :: xs => by have := insU_len lt x (srtU lt xs); have := srtU_len lt xs; show (insU lt x (srtU lt xs)).length ≤ _; simp only [List.length_cons]; omega
theorem q_sortSetR {a : Den} {L : List (List Int)} (ha : a e h = some (.lst (L.map ev), h1)) (hn : ∀ a ∈ L, a ≠ []) (hl : L.length < 64) : dSortSet 0 a e h = some (.lst ((srtU ltI L).map ev), h1) := by
  have l1 : Nat.blt (L.map ev).length 64 = true := by rw [List.length_map]; exact Nat.blt_eq.mpr hl
  have e0 : dSortSet 0 a e h = (match intsOf (L.map ev) with | some ns => mkL 0 ((srtU ltZ ns).map .int) h1 | none => match rowsOf (L.map ev) with
        | some rs => match rs.all fun r => !r.isEmpty with
          | true => mkL 0 ((srtU ltI rs).map rowV) h1
          | false => none
        | none => none) := by simp only [dSortSet, ha, lstH, l1] <;> rfl
  rw [e0]
  cases L with
  | nil => rfl
  | cons a L =>
    have q : ((a :: L).all fun r => !r.isEmpty) = true := by
      simp only [List.all_eq_true]
      intro x hx
      have := hn x hx
      cases x <;> simp_all
    rw [List.map_cons, intsOf_ev, ← List.map_cons, rowsOf_evs]
    simp only [q]
    exact e_mkL0 (by have := srtU_len ltI (a :: L); rw [List.length_map]; omega)
theorem odd_even (a : List Int) (k : Nat) : (((byR a 2).zipIdx k).filter fun p => !decide (Int.fmod p.1 2 = 0)) = [] := by
  induction a generalizing k with
  | nil => rfl
  | cons x a ih =>
    rw [byR, List.map_cons, ← byR, List.zipIdx_cons, List.filter_cons, ih]
    have : Int.fmod (x * 2) 2 = 0 := by rw [Int.fmod_eq_emod_of_nonneg _ (by decide)]; omega
    simp [this]
theorem ring_even (a : List Int) : ringB (byR a 2) = true := by
  have : oddR (byR a 2) = [] := by unfold oddR; rw [odd_even]; rfl
  unfold ringB
  rw [this]
  decide
theorem s_power_A {a : List Int} {k : Nat} (hl : a.length = 8) (o : Ok8 (a.headD 0) a.tail) (hk : k ≤ 200) : D_power [ev a, .int (k : Int)] h = .ok (ev (powA a k)) h := by
  cases a with
  | nil => simp at hl
  | cons x r => exact s_power o hk
theorem twice_pow {x : Int} {r : List Int} (hl : r.length = 7) (k : Nat) : wpowL (x * 2) (byR r 2) k = byR (powL x r k) 2 := by
  have e1 : Int.fdiv (sqR ((x * 2) :: byR r 2)) 4 = sqR (x :: r) := by
    have : sqR ((x * 2) :: byR r 2) = 2 * 2 * sqR (x :: r) := sq_by (x :: r) 2
    rw [this, Int.fdiv_eq_ediv_of_nonneg _ (by decide)]; omega
  unfold wpowL
  rw [e1, Int.mul_comm x 2, powL_mix]
  match r, hl with
  | [r1, r2, r3, r4, r5, r6, r7], _ =>
    rw [mix_ex]
    simp
    refine ⟨?_, ?_, ?_, ?_, ?_, ?_, ?_, ?_⟩ <;> grind
theorem prod_exA {a b : List Int} (ha : a.length = 8) (hb : b.length = 8) : prodL a b = lmulL a b := by
  match a, ha, b, hb with
  | [x0, x1, x2, x3, x4, x5, x6, x7], _, [y0, y1, y2, y3, y4, y5, y6, y7], _ => exact prod_ex ..
theorem lmul_by {a b : List Int} (ha : a.length = 8) (hb : b.length = 8) (s t : Int) : lmulL (byR a s) (byR b t) = byR (lmulL a b) (s * t) := by
  match a, ha, b, hb with
  | [x0, x1, x2, x3, x4, x5, x6, x7], _, [y0, y1, y2, y3, y4, y5, y6, y7], _ =>
    rw [lmul_ex]
    simp only [byR, List.map_cons, List.map_nil]
    rw [lmul_ex]
    simp only [List.cons.injEq, and_true]
    refine ⟨?_, ?_, ?_, ?_, ?_, ?_, ?_, ?_⟩ <;> grind
theorem half_by4 (a : List Int) : halfR (byR a 4) = byR a 2 := by
  unfold halfR byR
  rw [List.map_map]
  apply List.map_congr_left
  intro y _
  simp only [Function.comp]
  rw [Int.fdiv_eq_ediv_of_nonneg _ (by decide)]; omega
theorem sm_by {a : List Int} (hb : ∀ i ∈ a, -3 ≤ i ∧ i ≤ 3) : smR (byR a 2) := by
  intro y hy
  obtain ⟨z, hz, rfl⟩ := List.mem_map.mp hy
  have := hb z hz
  rw [small_iff]; omega
theorem mate_by (x : Int) (r : List Int) : mateR (x * 2) (byR r 2) = byR (mateR x r) 2 := by
  simp only [mateR, byR, List.map_cons, List.map_map]
  congr 1
  apply List.map_congr_left
  intro y _
  simp only [Function.comp]; omega
end LawK80
-- text K80c
namespace LawK80
open PySem PySem.Spec Mn
theorem forGo_range {asg : Asg} {body : SDen} (P : Nat → Mn.Env → MH → Prop) (N : Nat) : ∀ (n i : Nat) (e : Mn.Env) (h : MH), i + n ≤ N →
    (∀ j, j < N → ∀ e h, P j e h → ∃ e1 e2 h2, asg (.int (j : Int)) e = some e1 ∧ (body e1 h = .nx e2 h2 ∨ body e1 h = .ct e2 h2) ∧ P (j + 1) e2 h2) → P i e h →
    ∃ e' h', forGo asg body ((List.range n).map fun j => .int ((i + j : Nat) : Int)) e h = .nx e' h' ∧ P (i + n) e' h'
  | 0, i, e, h, _, _, hp => ⟨e, h, rfl, hp⟩
  | n + 1, i, e, h, hN, hb, hp => by
    obtain ⟨e1, e2, h2, a1, a2, a3⟩ := hb i (by omega) e h hp
    obtain ⟨e', h', i1, i2⟩ := forGo_range P N n (i + 1) e2 h2 (by omega) hb a3
    refine ⟨e', h', ?_, by rw [show i + (n + 1) = i + 1 + n from by omega]; exact i2⟩
    rw [List.range_succ_eq_map, List.map_cons, List.map_map]
    have hm : ((fun j => PV.int ((i + j : Nat) : Int)) ∘ Nat.succ) = fun j => PV.int ((i + 1 + j : Nat) : Int) := by funext j; simp only [Function.comp]; congr 2; omega
    rw [hm]
    unfold forGo
    rw [Nat.add_zero, a1]
    rcases a2 with a2 | a2 <;> simp only [a2, i1]
theorem q_forR {it : IDen} {asg : Asg} {body : SDen} {e : Mn.Env} {h h1 : MH} {n : Nat} (P : Nat → Mn.Env → MH → Prop) (hi : it e h = some (.st ((List.range n).map fun (i : Nat) => .int (i : Int)), h1)) (hp : P 0 e h1)
    (hb : ∀ j, j < n → ∀ e h, P j e h → ∃ e1 e2 h2, asg (.int (j : Int)) e = some e1 ∧ (body e1 h = .nx e2 h2 ∨ body e1 h = .ct e2 h2) ∧ P (j + 1) e2 h2) :
    ∃ e' h', sFor it asg body e h = .nx e' h' ∧ P n e' h' := by
  obtain ⟨e', h', a1, a2⟩ := forGo_range P n n 0 e h1 (by omega) hb hp
  simp only [Nat.zero_add] at a1 a2
  exact ⟨e', h', by simp only [sFor, hi, a1], a2⟩
theorem s_eights {cell : List PV} {rest : MH} {n : Nat} (ht : TC n cell) (hn : n ≤ 900000) :
    ∃ cell', TC (n + 40) cell' ∧ D__law_eights_right [.ref 0] (cell :: rest) = .ok (.bl true) (cell' :: rest) := by
  obtain ⟨e8, c1, g1, g2, g3, g4⟩ := s__law_some (rest := rest) ht (by omega)
  match e8, g1 with
  | x :: r, g1 =>
  have hl : r.length = 7 := by simpa using g1
  have ok := ok8_of hl g2
  have l8 := c8 (x := x) ok.len
  obtain ⟨kk, c2, k1, k2, k3⟩ := s__law_take (rest := rest ++ [rowsN x r 13]) (below := 4) g3 (by omega) (by decide) (by decide)
  have hk : 2 ≤ 2 + kk ∧ 2 + kk ≤ 5 := by omega
  generalize hkk : 2 + kk = k at hk
  have kc : (2 : Int) + (kk : Int) = (k : Int) := by omega
  obtain ⟨oth, c3, o1, o2, o3, o4⟩ := s__law_eight (rest := rest ++ [rowsN x r 13]) k2 (by omega)
  refine ⟨c3, o3.mono (by omega), done_h (h1 := c3 :: (rest ++ [rowsN x r 13])) rfl ?_ rfl rfl (by simp)⟩
  refine (q_seq (q_asg (q_call (q_two rfl rfl) g4) rfl)).trans ?_
  -- rows
  refine (q_seq (q_asg (h1 := (c1 :: rest) ++ [rowsN x r 2]) (v := .ref (c1 :: rest).length) rfl rfl)).trans ?_
  obtain ⟨e1, h1, a1, q3, q16, q17, q18, q19, a2, a3⟩ := q_forN (it := iRg1 (dC (.int 11))) (asg := aName 3) (body := bR)
      (e := eE (some (ev (x :: r))) (some (.ref (c1 :: rest).length)) none none none none none none none none none none none none none none none none none none none) (h := (c1 :: rest) ++ [rowsN x r 2]) (h1 := (c1 :: rest) ++ [rowsN x r 2]) (g := fun i : Nat => .int (i : Int)) (xs := List.range 11)
      (fun (s : Unit) _ => s) (fun i _ e h' => ∃ q3 q16 q17 q18 q19, e = eE (some (ev (x :: r))) (some (.ref (c1 :: rest).length)) q3 none none none none none none none none none none none none q16 q17 q18 q19 none none ∧ h' = (c1 :: rest) ++ [rowsN x r (i + 2)]) ()
      (q_rg (n := 11) rfl (by decide)) ⟨_, _, _, _, _, rfl, rfl⟩
      (by
        rintro j hj i s e h' hi ⟨q3, q16, q17, q18, q19, rfl, rfl⟩
        obtain ⟨r16, r17, r18, r19, c⟩ := bR_ok (h := c1 :: rest) ok (n := i) (by simp at hi; omega) (some (.int (j : Int))) q16 q17 q18 q19
        exact ⟨_, _, _, rfl, .inl c, _, _, _, _, _, rfl, rfl⟩)
  rw [a2, a3] at a1
  refine (q_seq a1).trans ?_
  -- powers
  refine (q_seq (q_asg (v := ev (powL x r 0)) ((q_call (q_one rfl) (s__law_letter (k := 0))).trans (by rw [powL_zero hl, let0])) rfl)).trans ?_
  refine (q_seq (q_asg (v := ev (addedL x r 0)) (h1 := (c1 :: rest) ++ [rowsN x r 13]) rfl rfl)).trans ?_
  obtain ⟨e2, h2, b1, p6, p10, p14, p15, b2, b3⟩ := q_forR (it := iRg1 (dC (.int 9))) (asg := aName 6) (body := bP) (n := 9)
      (e := eE (some (ev (x :: r))) (some (.ref (c1 :: rest).length)) q3 (some (ev (powL x r 0))) (some (ev (addedL x r 0))) none none none none none none none none none none q16 q17 q18 q19 none none) (h := (c1 :: rest) ++ [rowsN x r 13]) (h1 := (c1 :: rest) ++ [rowsN x r 13])
      (fun i e h' => ∃ p6 p10 p14 p15, e = eE (some (ev (x :: r))) (some (.ref (c1 :: rest).length)) q3 (some (ev (powL x r i))) (some (ev (addedL x r i))) p6 none none none p10 none none none p14 p15 q16 q17 q18 q19 none none ∧ h' = (c1 :: rest) ++ [rowsN x r 13])
      (q_rg (n := 9) rfl (by decide)) ⟨_, _, _, _, rfl, rfl⟩
      (by
        rintro j hj e h' ⟨p6, p10, p14, p15, rfl, rfl⟩
        obtain ⟨r10, r14, r15, c⟩ := bP_ok (h := c1 :: rest) hl g2 (k := j) (by omega) q3 p10 p14 p15 q16 q17 q18 q19
        exact ⟨_, _, _, rfl, .inl c, _, _, _, _, rfl, rfl⟩)
  rw [b2, b3] at b1
  refine (q_seq b1).trans ?_
  have S1 : dCall D__law_same (lCons (dLst 0 (lCons (dCall D_powers_added (lCons (dVar 1) (lCons (dC (.int 8)) (lNil)))) (lCons (dCall D_square_law (lCons (dVar 1) (lNil))) (lNil)))) (lCons (dLst 0 (lCons (dVar 5) (lCons (dTup (lCons (dBin 0 .Mult (dC (.int 2)) (dIx (dVar 1) (dC (.int 0)))) (lCons (dCall D__law_dot (lCons (dVar 1) (lCons (dVar 1) (lNil)))) (lNil)))) (lNil)))) (lNil)))
      (eE (some (ev (x :: r))) (some (.ref (c1 :: rest).length)) q3 (some (ev (powL x r 9))) (some (ev (addedL x r 9))) p6 none none none p10 none none none p14 p15 q16 q17 q18 q19 none none) ((c1 :: rest) ++ [rowsN x r 13]) = some (.bl true, (c1 :: rest) ++ [rowsN x r 13]) := by
    refine q_call (q_two (x := .lst [ev (addedL x r 9), pr (2 * x, sqR (x :: r))]) (y := .lst [ev (addedL x r 9), pr (2 * x, sqR (x :: r))]) (q_lst0 (q_two (q_call (q_two rfl rfl) (s_powers_added ok)) (q_call (q_one rfl) (s_square_law ok))) (by simp)) (q_lst0 (q_two rfl (q_tup2 (q_mulL rfl (q_hd rfl) (by decide)) ((q_call (q_two rfl rfl) (s__law_dot (by omega) ok.sm)).trans (by rw [dot_self])))) (by simp))) (s_same _ (by simp) ?_)
    intro z hz
    simp only [List.mem_cons, List.not_mem_nil, or_false] at hz
    rcases hz with rfl | rfl
    · exact .inl ⟨_, rfl, by rw [added_len hl]; omega⟩
    · exact .inl ⟨[2 * x, sqR (x :: r)], rfl, by simp⟩
  refine (q_seq ((q_if0 (q_not (q_val S1))).trans rfl)).trans ?_
  refine (q_seq (q_asg (v := .int (k : Int)) (h1 := c2 :: (rest ++ [rowsN x r 13])) ((q_add rfl (q_call (q_two rfl rfl) k3)).trans (by rw [kc])) rfl)).trans ?_
  refine (q_seq (q_asg (v := ev (powL x r k)) (q_call (q_two rfl rfl) (s_power ok (by omega))) rfl)).trans ?_
  -- roots
  have tp := tail_pow (x := x) hl k
  have pl := pow_len (x := x) hl k
  obtain ⟨q11, R⟩ : ∃ q11, sIf (tVal (dCmp .NotEq (dLc 0 (iSeq (dSl 0 (dVar 7) (oSome (dC (.int 1))) (oNon))) (aName 20) (tVal (dCmp .NotEq (dVar 20) (dC (.int 0)))) (dVar 20) [20]) (dLst 0 (lNil)))) (sSeq (sAsg (dCall D_roots_of (lCons (dVar 7) (lCons (dVar 6) (lNil)))) (gA (aName 11))) (sSeq (sIf (tOr (tVal (dCmp .NotIn (dVar 1) (dVar 11))) (tOr (tVal (dCmp .NotEq (dLc 0 (iSeq (dVar 11)) (aName 20) (tVal (dCmp .NotEq (dCall D_power (lCons (dVar 20) (lCons (dVar 6) (lNil)))) (dVar 7))) (dVar 20) [20]) (dLst 0 (lNil)))) (tVal (dCmp .NotEq (dVar 11) (dSortSet 0 (dVar 11)))))) (sSeq (sRet (dC (.bl false))) (sNext)) (sNext)) (sNext))) (sNext)
      (eE (some (ev (x :: r))) (some (.ref (c1 :: rest).length)) q3 (some (ev (powL x r 9))) (some (ev (addedL x r 9))) (some (.int (k : Int))) (some (ev (powL x r k))) none none p10 none none none p14 p15 q16 q17 q18 q19 none none) (c2 :: (rest ++ [rowsN x r 13]))
      = .nx (eE (some (ev (x :: r))) (some (.ref (c1 :: rest).length)) q3 (some (ev (powL x r 9))) (some (ev (addedL x r 9))) (some (.int (k : Int))) (some (ev (powL x r k))) none none p10 q11 none none p14 p15 q16 q17 q18 q19 none none) (c2 :: (rest ++ [rowsN x r 13])) := by
    have F : dCmp .NotEq (dLc 0 (iSeq (dSl 0 (dVar 7) (oSome (dC (.int 1))) (oNon))) (aName 20) (tVal (dCmp .NotEq (dVar 20) (dC (.int 0)))) (dVar 20) [20]) (dLst 0 (lNil))
        (eE (some (ev (x :: r))) (some (.ref (c1 :: rest).length)) q3 (some (ev (powL x r 9))) (some (ev (addedL x r 9))) (some (.int (k : Int))) (some (ev (powL x r k))) none none p10 none none none p14 p15 q16 q17 q18 q19 none none) (c2 :: (rest ++ [rowsN x r 13])) = some (.bl (!decide ((powL x r k).tail.filter (fun y => !decide (y = 0)) = [])), c2 :: (rest ++ [rowsN x r 13])) := by
      refine q_neLI (r := (powL x r k).tail.filter (fun y => !decide (y = 0))) (s := []) (q_lcf (g := PV.int) (f := PV.int) (xs := (powL x r k).tail) (q_seqv ?_) (by rw [List.length_tail]; omega) fun y hy => ⟨_, rfl, q_val (q_neI rfl rfl), fun _ => rfl⟩) rfl
      rw [tp]
      exact q_cut1 rfl
    by_cases hz : (powL x r k).tail.filter (fun y => !decide (y = 0)) = []
    · exact ⟨none, (q_if0 ((q_val F).trans (by rw [decide_eq_true hz]; rfl))).trans rfl⟩
    · have hne : ∃ y ∈ (powL x r k).tail, y ≠ 0 := by
        obtain ⟨y, hy⟩ := List.exists_mem_of_ne_nil _ hz
        obtain ⟨h1, h2⟩ := List.mem_filter.mp hy
        exact ⟨y, h1, by simpa using h2⟩
      obtain ⟨L, Le, LR⟩ := s_roots_of (h := c2 :: (rest ++ [rowsN x r 13])) hl g2 (k := k) hk.1 hk.2 hne
      refine ⟨some (.lst (L.map ev)), (q_if1 ((q_val F).trans (by rw [decide_eq_false hz]; rfl))).trans ?_⟩
      refine (q_seq (q_asg (q_call (q_two rfl rfl) Le) rfl)).trans ?_
      have fil : L.filter (fun a => !decide (powA a k = powL x r k)) = [] := by
        apply List.filter_eq_nil_iff.mpr
        intro a ha
        simp [(LR.all a ha).2.2]
      refine (q_seq ((q_if0 ((q_or0 ((q_val (q_notinLE rfl rfl)).trans (by rw [decide_eq_true LR.mem]; rfl))).trans ((q_or0 ((q_val (q_neLE (r := L.filter (fun a => !decide (powA a k = powL x r k))) (s := []) (q_lcf (g := ev) (f := ev) (xs := L) (q_seql rfl) (by have := LR.few; omega) fun a ha => ⟨_, rfl, q_val (q_neE (q_call (q_two rfl rfl) (s_power_A (LR.all a ha).1 (LR.all a ha).2.1 (by omega))) rfl), fun _ => rfl⟩) rfl)).trans (by rw [fil]; rfl))).trans ((q_val (q_neLE (r := L) (s := srtU ltI L) rfl (q_sortSetR rfl (fun a ha q => by have := (LR.all a ha).1; rw [q] at this; simp at this) LR.few))).trans (by rw [LR.up]; simp))))).trans rfl)).trans rfl
  refine (q_seq R).trans ?_
  -- told
  obtain ⟨j, j1, j2⟩ := firstHit_ex (p := hitL x r (powL x r k)) (f := 200) (s := 1) (k := k) (by omega) (by omega) (decide_eq_true rfl)
  obtain ⟨j3, _, j4, j5⟩ := firstHit_some j1
  refine (q_seq (q_asg (q_call (q_cons (x := .fn "power_told") rfl (q_two rfl rfl)) (s_heard ok pl j1)) rfl)).trans ?_
  have hj : powL x r j = powL x r k := of_decide_eq_true j4
  refine (q_seq ((q_if0 ((q_or0 (q_not (q_val (q_call (q_one rfl) s__law_is_int)))).trans ((q_or0 (q_not (q_val (q_chainLE rfl rfl rfl (by omega) (by omega))))).trans ((q_or0 ((q_val (q_neE (q_call (q_two rfl rfl) (s_power ok (k := j) (by omega))) rfl)).trans (by rw [hj]; simp; rfl))).trans (q_not (q_val (q_call (q_two rfl rfl) (s_is_power_of ok pl j1)))))))).trans rfl)).trans ?_
  have fil : (List.range (j - 1)).filter (fun i => decide (powL x r (1 + i) = powL x r k)) = [] := by
    apply List.filter_eq_nil_iff.mpr
    intro i hi
    have hi := List.mem_range.mp hi
    have := j5 (1 + i) (by omega) (by omega)
    unfold hitL at this
    rw [this]; simp
  refine (q_seq ((q_if0 ((q_val (q_neLI (r := ((List.range (j - 1)).filter (fun i => decide (powL x r (1 + i) = powL x r k))).map fun (i : Nat) => ((1 + i : Nat) : Int)) (s := []) ((q_lcf (f := fun (i : Nat) => PV.int ((1 + i : Nat) : Int)) (p := fun i => decide (powL x r (1 + i) = powL x r k)) (q_rg2 (n := 1) (m := j) rfl rfl (by omega) (by omega)) (by rw [List.length_range]; omega) fun i hi => ⟨_, rfl, q_val (q_eqE (q_call (q_two rfl rfl) (s_power ok (k := 1 + i) (by have := List.mem_range.mp hi; omega))) rfl), fun _ => rfl⟩).trans (by rw [List.map_map]; rfl)) rfl)).trans (by rw [fil]; rfl))).trans rfl)).trans ?_
  -- as wholes
  have ob : smR oth := fun y hy => by have := o2 y hy; rw [small_iff]; omega
  have t2 : (x * 2 :: byR r 2) = byR (x :: r) 2 := rfl
  have ow : Okw (x * 2) (byR r 2) := ⟨by simp [hl], ring_even (x :: r), sm_by g2, by
    have e : sqR (x * 2 :: byR r 2) = 2 * 2 * sqR (x :: r) := sq_by (x :: r) 2
    have q := sq_le g2
    simp only [List.length_cons, hl] at q
    rw [e, Int.fdiv_eq_ediv_of_nonneg _ (by decide), small_iff]; omega⟩
  have w4 : Int.fdiv (sqR (byR (x :: r) 2)) 4 = sqR (x :: r) := by
    rw [sq_by, Int.fdiv_eq_ediv_of_nonneg _ (by decide)]; omega
  refine (q_seq (q_par (vs := [ev (byR (x :: r) 2), ev oth]) (q_two (q_call (q_two rfl rfl) (s__law_by (by omega) (.inr (by decide)))) (q_call (q_two rfl rfl) o4)) rfl)).trans ?_
  have pm : halfR (prodL (byR (x :: r) 2) (byR oth 2)) = byR (prodL (x :: r) oth) 2 := by
    rw [prod_exA (by simp [hl]) (by simp [o1]), lmul_by l8 o1, prod_exA l8 o1]
    exact half_by4 _
  refine (q_seq (q_asg (v := .lst [ev (byR (x :: r) 2), ev (byR (powL x r k) 2), ev (byR (prodL (x :: r) oth) 2), .int (sqR (x :: r)), ev (byR (mateR x r) 2)]) (q_lst0 (q_cons (q_call (q_one rfl) (s_of_eight l8)) (q_cons ((q_call (q_two rfl rfl) (s_whole_power (k := k) ow (by omega))).trans (by rw [twice_pow hl])) (q_cons ((q_call (q_two rfl (q_call (q_one rfl) (s_of_eight o1))) (s_whole_product (by simp [hl]) (by simp [o1]) (ring_even _) (ring_even _) (sm_by o2))).trans (by rw [pm])) (q_two ((q_call (q_one rfl) (s_whole_size (by simp [hl]) (ring_even _) (sm_by g2))).trans (by rw [w4])) ((q_call (q_one rfl) (s_whole_mate (by simp [hl]) (ring_even (x :: r)))).trans (by rw [mate_by])))))) (by simp)) rfl)).trans ?_
  refine q_ret (q_call (q_two rfl (q_lst0 (xs := [ev (byR (x :: r) 2), ev (byR (powL x r k) 2), ev (byR (prodL (x :: r) oth) 2), .int (sqR (x :: r)), ev (byR (mateR x r) 2)]) (q_cons rfl (q_cons (q_call (q_two rfl rfl) (s__law_by (by omega) (.inr (by decide)))) (q_cons (q_call (q_two (q_call (q_two rfl rfl) (s_product l8 o1 ob)) rfl) (s__law_by (by rw [prod_len]; omega) (.inr (by decide)))) (q_two (q_call (q_one rfl) (s_size l8 ok.sm)) (q_call (q_two (q_call (q_one rfl) (s__law_mate (by omega))) rfl) (s__law_by (by simp [hl]) (.inr (by decide)))))))) (by simp))) (s_same _ (by simp) ?_))
  intro z hz
  simp only [List.mem_cons, List.not_mem_nil, or_false] at hz
  rcases hz with rfl | rfl | rfl | rfl | rfl
  · exact .inl ⟨_, rfl, by simp [hl]⟩
  · exact .inl ⟨_, rfl, by simp [pl]⟩
  · exact .inl ⟨_, rfl, by simp [prod_len]⟩
  · exact .inr ⟨_, rfl⟩
  · exact .inl ⟨_, rfl, by simp [hl]⟩
end LawK80
-- text K80d
namespace LawK80
open PySem PySem.Spec Mn
/-- a loop over a sequence that stays as it is -/
theorem forRef_fold {α S : Type} {asg : Asg} {body : SDen} {n : Nat} (g : α → PV) (step : S → α → S) (P : Nat → S → Mn.Env → MH → Prop) (all : List α) (hs : ∀ i s e h, P i s e h → h[n]? = some (all.map g)) :
    ∀ (xs : List α) (i : Nat) (s : S) (e : Mn.Env) (h : MH), all.drop i = xs →
    (∀ x ∈ xs, ∀ i s e h, i < all.length → P i s e h → ∃ e1 e2 h2, asg (g x) e = some e1 ∧ (body e1 h = .nx e2 h2 ∨ body e1 h = .ct e2 h2) ∧ P (i + 1) (step s x) e2 h2) →
    P i s e h → ∀ k, xs.length < k → ∃ e' h', forRef asg body n k i e h = .nx e' h' ∧ P (i + xs.length) (xs.foldl step s) e' h'
  | [], i, s, e, h, hd, _, hp, k + 1, _ => by
    have : (all.map g)[i]? = none := by
      rw [List.getElem?_eq_none]
      have := congrArg List.length hd
      simp at this ⊢; omega
    exact ⟨e, h, by simp only [forRef, hs i s e h hp, this], hp⟩
  | x :: xs, i, s, e, h, hd, hb, hp, k + 1, hk => by
    have hi : i < all.length := by
      have := congrArg List.length hd
      simp at this; omega
    have hx : all[i] = x := by
      have := List.drop_eq_getElem_cons hi
      rw [this] at hd
      exact (List.cons.inj hd).1
    have hd' : all.drop (i + 1) = xs := by
      have := List.drop_eq_getElem_cons hi
      rw [this] at hd
      exact (List.cons.inj hd).2
    have gi : (all.map g)[i]? = some (g x) := by rw [List.getElem?_map, List.getElem?_eq_getElem hi, hx]; rfl
    obtain ⟨e1, e2, h2, a1, a2, a3⟩ := hb x (List.mem_cons_self ..) i s e h hi hp
    obtain ⟨e', h', i1, i2⟩ := forRef_fold g step P all hs xs (i + 1) (step s x) e2 h2 hd' (fun y hy => hb y (List.mem_cons_of_mem _ hy)) a3 k (by simp only [List.length_cons] at hk; omega)
    refine ⟨e', h', ?_, by rw [List.length_cons, show i + (xs.length + 1) = i + 1 + xs.length from by omega]; exact i2⟩
    simp only [forRef, hs i s e h hp, gi, a1]
    rcases a2 with a2 | a2 <;> simp only [a2, i1]
theorem q_forV {α S : Type} {a : Den} {asg : Asg} {body : SDen} {e : Mn.Env} {h h1 : MH} {fv : PV} (xs : List α) (g : α → PV) (step : S → α → S) (P : Nat → S → Mn.Env → MH → Prop) (s : S) (ha : a e h = some (fv, h1)) (hp : P 0 s e h1)
    (hs : ∀ i s e h, P i s e h → seqH h fv = some (xs.map g))
    (hb : ∀ x ∈ xs, ∀ i s e h, i < xs.length → P i s e h → ∃ e1 e2 h2, asg (g x) e = some e1 ∧ (body e1 h = .nx e2 h2 ∨ body e1 h = .ct e2 h2) ∧ P (i + 1) (step s x) e2 h2) :
    ∃ e' h', sFor (iSeq a) asg body e h = .nx e' h' ∧ P xs.length (xs.foldl step s) e' h' := by
  have q := hs 0 s e h1 hp
  cases fv with
  | tup ys =>
    cases q
    exact q_forN step P s (q_seqt ha) hp hb
  | lst ys =>
    cases q
    exact q_forN step P s (q_seql ha) hp hb
  | scr ys =>
    cases q
    exact q_forN step P s (by simp only [iSeq, ha]) hp hb
  | ref n =>
    obtain ⟨e', h', b1, b2⟩ := forRef_fold (n := n) g step P xs hs xs 0 s e h1 rfl hb hp (xs.length + 1) (by omega)
    rw [Nat.zero_add] at b2
    refine ⟨e', h', ?_, b2⟩
    have q' : h1[n]? = some (xs.map g) := q
    simp only [sFor, iSeq, ha, q', List.length_map, b1]
  | non => cases q
  | bl b => cases q
  | int i => cases q
  | str x => cases q
  | fn x => cases q
theorem any_di (i : Int) (a : List Int) : ((a.map di).any fun z => PyData.eqv z (di i)) = decide (i ∈ a) := by
  induction a with
  | nil => simp
  | cons r rs ih => simp only [List.map_cons, List.any_cons, ih, di_eq, List.mem_cons]; by_cases h : i = r <;> simp [h, eq_comm]
theorem inH_ti {h : MH} (i : Int) (a : List Int) : inH h (.int i) (ev a) = some (decide (i ∈ a)) := by
  have q : dataH h (ev a) = some (.tuple (a.map di)) := data_ev a
  have q' : dataH h (.int i) = some (di i) := rfl
  simp only [inH, q, q', tup_ok di di_lay 1 di_dep (by omega), shaped_of (di_lay i) (by have := di_dep i; omega), Bool.and_self, any_di]
theorem q_inTI {a b : Den} {e : Mn.Env} {h h1 h2 : MH} {i : Int} {s : List Int} (ha : a e h = some (.int i, h1)) (hb : b e h1 = some (ev s, h2)) : dCmp .In a b e h = some (.bl (decide (i ∈ s)), h2) := by rw [q_cmp ha hb]; simp only [cmpop, inH_ti, Option.map]
theorem q_ext {o a : Den} {e : Mn.Env} {h h1 h2 : MH} {n : Nat} {v : PV} {xs ys : List PV} (ho : o e h = some (.ref n, h1)) (ha : a e h1 = some (v, h2)) (hv : lstH h2 v = some ys) (hx : h2[n]? = some xs) (hb : belAll n ys = true) (hl : xs.length ≤ 100000) (hl' : ys.length ≤ 100000) : sSeq (sDrop (dExt o a)) sNext e h = .nx e (h2.set n (xs ++ ys)) := by
  have A : dExt o a e h = some (.non, h2.set n (xs ++ ys)) := by simp only [dExt, ho, ha, hx, hv, hb, ble_lim hl, ble_lim hl', Bool.and_self]
  simp only [sSeq, sDrop, A, sNext]
def code14 : List (List Int) := [[0, 1, 2, 4], [0, 1, 3, 7], [0, 1, 5, 6], [0, 2, 3, 6], [0, 2, 5, 7], [0, 3, 4, 5], [0, 4, 6, 7], [1, 2, 3, 5], [1, 2, 6, 7], [1, 3, 4, 6], [1, 4, 5, 7], [2, 3, 4, 7], [2, 4, 5, 6], [3, 5, 6, 7]]
/-! rows with signs -/
def bitsL (ps : List Int) (k : Nat) : List Int := if (k : Int) ∈ ps then [-1, 1] else [0]
def stS (ps : List Int) (k : Nat) (acc : List (List Int)) (own : List Int) : List (List Int) := acc ++ (bitsL ps k).map fun b => own ++ [b]
def signedN (ps : List Int) : Nat → List (List Int)
  | 0 => [[]]
  | k + 1 => (signedN ps k).foldl (stS ps k) []
theorem bits_len (ps : List Int) (k : Nat) : (bitsL ps k).length ≤ 2 := by unfold bitsL; split <;> simp
theorem stS_len (ps : List Int) (k : Nat) : ∀ (xs acc : List (List Int)), (xs.foldl (stS ps k) acc).length ≤ acc.length + 2 * xs.length
  | [], acc => by simp
  | x :: xs, acc => by
    have := stS_len ps k xs (stS ps k acc x)
    have b := bits_len ps k
    have : (stS ps k acc x).length ≤ acc.length + 2 := by simp [stS]; omega
    simp only [List.foldl_cons, List.length_cons]; omega
theorem signedN_len (ps : List Int) : ∀ k, (signedN ps k).length ≤ 2 ^ k
  | 0 => by simp [signedN]
  | k + 1 => by
    have := signedN_len ps k
    have := stS_len ps k (signedN ps k) []
    show ((signedN ps k).foldl (stS ps k) []).length ≤ _
    rw [Nat.pow_succ]
    simp at this; omega
theorem signedN_row (ps : List Int) : ∀ k, ∀ a ∈ signedN ps k, a.length = k
  | 0 => by simp [signedN]
  | k + 1 => by
    have ih := signedN_row ps k
    suffices ∀ (xs acc : List (List Int)), (∀ a ∈ xs, a.length = k) → (∀ a ∈ acc, a.length = k + 1) → ∀ a ∈ xs.foldl (stS ps k) acc, a.length = k + 1 from this _ [] ih (by simp)
    intro xs
    induction xs with
    | nil => intro acc _ h; exact h
    | cons x xs ih2 =>
      intro acc hx ha
      rw [List.foldl_cons]
      refine ih2 _ (fun a h => hx a (List.mem_cons_of_mem _ h)) fun a h => ?_
      rcases List.mem_append.mp h with h | h
      · exact ha a h
      · obtain ⟨b, _, rfl⟩ := List.mem_map.mp h
        simp [hx x (List.mem_cons_self ..)]
abbrev bS1 : SDen := (sSeq (sDrop (dExt (dVar 3) (dLc 0 (iSeq (dIf (tVal (dCmp .In (dVar 2) (dVar 0))) (dTup (lCons (dNeg (dC (.int 1))) (lCons (dC (.int 1)) (lNil)))) (dTup (lCons (dC (.int 0)) (lNil))))) (aName 5) (tYesD) (dBin 0 .Add (dVar 4) (dTup (lCons (dVar 5) (lNil)))) [5]))) (sNext))
abbrev bS : SDen := (sSeq (sAsg (dLst 1 (lNil)) (gA (aName 3))) (sSeq (sFor (iSeq (dVar 1)) (aName 4) bS1) (sSeq (sAsg (dVar 3) (gA (aName 1))) (sNext))))
theorem getHL2 (h : MH) (s : List PV) (j : Nat) (g : MH) {t : List PV} (hj : g[j]? = some t) : (h ++ g)[h.length + j]? = some t := by rw [List.getElem?_append_right (by omega)]; simpa using hj
theorem bS1_ok {g : MH} {ps : List Int} {k : Nat} {fv : PV} {acc : List (List Int)} {own : List Int} (hl : acc.length ≤ 90000) (ho : own.length ≤ 900) (s5 : Option PV) :
    bS1 [some (ev ps), some fv, some (.int (k : Int)), some (.ref g.length), some (ev own), s5] (g ++ [acc.map ev]) = .nx [some (ev ps), some fv, some (.int (k : Int)), some (.ref g.length), some (ev own), s5] (g ++ [(stS ps k acc own).map ev]) := by
  have bl := bits_len ps k
  have I : (dIf (tVal (dCmp .In (dVar 2) (dVar 0))) (dTup (lCons (dNeg (dC (.int 1))) (lCons (dC (.int 1)) (lNil)))) (dTup (lCons (dC (.int 0)) (lNil)))) [some (ev ps), some fv, some (.int (k : Int)), some (.ref g.length), some (ev own), s5] (g ++ [acc.map ev]) = some (ev (bitsL ps k), g ++ [acc.map ev]) := by
    unfold bitsL
    by_cases hp : (k : Int) ∈ ps
    · rw [if_pos hp]
      exact (q_dif1 ((q_val (q_inTI rfl rfl)).trans (by rw [decide_eq_true hp]))).trans rfl
    · rw [if_neg hp]
      exact (q_dif0 ((q_val (q_inTI rfl rfl)).trans (by rw [decide_eq_false hp]))).trans rfl
  refine (q_ext (o := dVar 3) (n := g.length) (v := .lst ((bitsL ps k).map fun b => ev (own ++ [b]))) rfl (q_lc (q_seqv I) (by omega) fun b hb => ⟨_, rfl, rfl, (q_addT (r := own) (s := [b]) rfl (q_tup (q_one rfl) (by simp)) (by simp; omega))⟩) rfl (getHL _ _) ?_ (by simpa using (by omega : acc.length ≤ 100000)) (by rw [List.length_map]; omega)).trans ?_
  · have := bel_evs g.length ((bitsL ps k).map fun b => own ++ [b])
    rw [List.map_map] at this
    exact this
  · rw [setHL]
    unfold stS
    rw [List.map_append, List.map_map]
    rfl
theorem bS_ok {h g : MH} {ps : List Int} {k : Nat} (hk : k ≤ 8) {fv : PV} (hf : seqH (h ++ g) fv = some ((signedN ps k).map ev)) (hr : ∀ n, fv = .ref n → n < (h ++ g).length) (s3 s4 s5 : Option PV) :
    ∃ q4 q5 g', bS [some (ev ps), some fv, some (.int (k : Int)), s3, s4, s5] (h ++ g) = .nx [some (ev ps), some (.ref (h ++ g).length), some (.int (k : Int)), some (.ref (h ++ g).length), q4, q5] (h ++ g') ∧ g' = g ++ [(signedN ps (k + 1)).map ev] := by
  have keep : ∀ t, seqH ((h ++ g) ++ [t]) fv = some ((signedN ps k).map ev) := by
    intro t
    cases fv with
    | ref n => have q : (h ++ g)[n]? = _ := hf; show ((h ++ g) ++ [t])[n]? = _; rw [List.getElem?_append_left (hr n rfl)]; exact q
    | _ => exact hf
  have l2 : 2 ^ k ≤ 2 ^ 8 := Nat.pow_le_pow_right (by decide) hk
  have sl := signedN_len ps k
  obtain ⟨e', h', a1, ⟨q4, q5, a2, a3⟩, _⟩ := q_forV (a := dVar 1) (asg := aName 4) (body := bS1) (e := [some (ev ps), some fv, some (.int (k : Int)), some (.ref (h ++ g).length), s4, s5]) (h := (h ++ g) ++ [([] : List (List Int)).map ev]) (h1 := (h ++ g) ++ [([] : List (List Int)).map ev]) (fv := fv) (signedN ps k) ev
    (stS ps k) (fun i s e h' => (∃ q4 q5, e = [some (ev ps), some fv, some (.int (k : Int)), some (.ref (h ++ g).length), q4, q5] ∧ h' = (h ++ g) ++ [s.map ev]) ∧ s.length ≤ 2 * i) [] rfl ⟨⟨_, _, rfl, rfl⟩, by simp⟩
    (by rintro i s e h' ⟨⟨q4, q5, rfl, rfl⟩, _⟩; exact keep _)
    (by
      rintro x hx i s e h' hi ⟨⟨q4, q5, rfl, rfl⟩, hL⟩
      have xl := signedN_row ps k x hx
      refine ⟨_, _, _, rfl, .inl (bS1_ok (g := h ++ g) (fv := fv) (ps := ps) (k := k) (own := x) (acc := s) (by omega) (by omega) q5), ⟨_, _, rfl, rfl⟩, ?_⟩
      have := bits_len ps k
      simp [stS]; omega)
  rw [a2, a3] at a1
  refine ⟨q4, q5, g ++ [(signedN ps (k + 1)).map ev], ?_, rfl⟩
  refine (q_seq (q_asg (v := .ref (h ++ g).length) (h1 := (h ++ g) ++ [([] : List (List Int)).map ev]) rfl rfl)).trans ?_
  refine (q_seq a1).trans ?_
  rw [← List.append_assoc]
  rfl
theorem s__law_signed {h : MH} {ps : List Int} : D__law_signed [ev ps] h = .ok (.lst ((signedN ps 8).map ev)) h := by
  obtain ⟨e', h', a1, fv, q2, q3, q4, q5, g, a2, a3, a4, a5, a6⟩ := q_forR (it := iRg1 (dC (.int 8))) (asg := aName 2) (body := bS) (n := 8) (e := [some (ev ps), some (.lst [ev []]), none, none, none, none]) (h := h) (h1 := h)
    (fun k e h' => ∃ fv q2 q3 q4 q5 g, e = [some (ev ps), some fv, q2, q3, q4, q5] ∧ h' = h ++ g ∧ seqH (h ++ g) fv = some ((signedN ps k).map ev) ∧ (∀ n, fv = .ref n → n < (h ++ g).length) ∧ (k = 0 ∨ ∃ n, fv = .ref n ∧ h.length ≤ n))
    (q_rg (n := 8) rfl (by decide)) ⟨.lst [ev []], none, none, none, none, [], rfl, by simp, rfl, (by intro n hn; cases hn), .inl rfl⟩
    (by
      rintro k hk e h' ⟨fv, q2, q3, q4, q5, g, rfl, rfl, c1, c2, c3⟩
      obtain ⟨r4, r5, g', b1, rfl⟩ := bS_ok (h := h) (g := g) (ps := ps) (k := k) (by omega) c1 c2 q3 q4 q5
      refine ⟨_, _, _, rfl, .inl b1, .ref (h ++ g).length, _, _, _, _, g ++ [(signedN ps (k + 1)).map ev], rfl, rfl, ?_, ?_, .inr ⟨_, rfl, by simp⟩⟩
      · show (h ++ (g ++ [(signedN ps (k + 1)).map ev]))[(h ++ g).length]? = _
        rw [← List.append_assoc]; exact getHL _ _
      · intro n hn
        cases hn
        simp)
  obtain ⟨n, rfl, a7⟩ : ∃ n, fv = .ref n ∧ h.length ≤ n := by rcases a6 with z | z; exact absurd z (by decide); exact z
  have a5' := a5 n rfl
  rw [a2, a3] at a1
  have fx : (h ++ g)[n]? = some ((signedN ps 8).map ev) := a4
  have B : b__law_signed ([ev ps].map some ++ List.replicate (6 - 1) none) h = .rt (.ref n) (h ++ g) := by
    refine (q_seq (q_asg (v := .lst [ev []]) rfl rfl)).trans ?_
    refine (q_seq a1).trans ?_
    exact q_ret rfl
  show runF false 1 6 b__law_signed [ev ps] h = _
  rw [run_rt rfl B]
  have nl : Nat.blt n h.length = false := by
    cases e : Nat.blt n h.length with
    | false => rfl
    | true => have := Nat.blt_eq.mp e; omega
  simp only [fin, nl, fx, bel_evs, List.take_left']
theorem s__law_code {h : MH} : D__law_code [] h = .ok (.tup (code14.map ev)) h := done (v := .tup (code14.map ev)) rfl (q_ret rfl) (by simp only [PV.bel]; exact bel_evs _ _) rfl
end LawK80
-- text K80e
namespace LawK80
open PySem PySem.Spec Mn
variable {h : MH}
def stU1 (acc : List (List Int)) (k : Nat) : List (List Int) := acc ++ [byR (letR k) (-2), byR (letR k) 2]
def stU2 (acc : List (List Int)) (ps : List Int) : List (List Int) := acc ++ signedN ps 8
def units1 (n : Nat) : List (List Int) := (List.range n).foldl stU1 []
def units0 : List (List Int) := code14.foldl stU2 (units1 8)
theorem units1_succ (n : Nat) : units1 (n + 1) = stU1 (units1 n) n := by simp [units1, List.range_succ]
theorem units1_len (n : Nat) : (units1 n).length = 2 * n := by
  induction n with
  | zero => rfl
  | succ n ih => rw [units1_succ]; simp [stU1, ih]; omega
theorem sm_let (k : Nat) : smR (letR k) := fun y hy => by have := let_mem k y hy; rw [small_iff]; omega
theorem units_row : ∀ a ∈ units0, a.length = 8 := by
  have A : ∀ n, ∀ a ∈ units1 n, a.length = 8 := by
    intro n
    induction n with
    | zero => simp [units1]
    | succ n ih =>
      rw [units1_succ]
      intro a ha
      rcases List.mem_append.mp ha with z | z
      · exact ih a z
      · simp at z; rcases z with rfl | rfl <;> simp [let_len]
  suffices ∀ (cs : List (List Int)) (acc : List (List Int)), (∀ a ∈ acc, a.length = 8) → ∀ a ∈ cs.foldl stU2 acc, a.length = 8 from this _ _ (A 8)
  intro cs
  induction cs with
  | nil => intro acc ha; exact ha
  | cons c cs ih =>
    intro acc ha
    rw [List.foldl_cons]
    refine ih _ fun a h => ?_
    rcases List.mem_append.mp h with z | z
    · exact ha a z
    · exact signedN_row c 8 a z
theorem s__law_units : D__law_units [] h = .ok (.lst ((srt ltI units0).map ev)) h := by
  obtain ⟨e1, h1, a1, q1, a2, a3⟩ := q_forR (it := iRg1 (dC (.int 8))) (asg := aName 1) (n := 8) (body := (sSeq (sDrop (dExt (dVar 0) (dLst 0 (lCons (dCall D__law_by (lCons (dCall D__law_letter (lCons (dVar 1) (lNil))) (lCons (dNeg (dC (.int 2))) (lNil)))) (lCons (dCall D__law_by (lCons (dCall D__law_letter (lCons (dVar 1) (lNil))) (lCons (dC (.int 2)) (lNil)))) (lNil)))))) (sNext)))
    (e := [some (.ref h.length), none, none]) (h := h ++ [([] : List (List Int)).map ev]) (h1 := h ++ [([] : List (List Int)).map ev])
    (fun k e h' => ∃ q1, e = [some (.ref h.length), q1, none] ∧ h' = h ++ [(units1 k).map ev]) (q_rg (n := 8) rfl (by decide)) ⟨none, rfl, rfl⟩
    (by
      rintro k hk e h' ⟨q1, rfl, rfl⟩
      refine ⟨_, [some (.ref h.length), some (.int (k : Int)), none], h ++ [(units1 (k + 1)).map ev], rfl, .inl ((q_ext (o := dVar 0) (n := h.length) (v := .lst ([byR (letR k) (-2), byR (letR k) 2].map ev)) rfl (q_lst0 (q_two (q_call (q_two (q_call (q_one rfl) s__law_letter) rfl) (s__law_by (by rw [let_len]; omega) (.inl (sm_let k)))) (q_call (q_two (q_call (q_one rfl) s__law_letter) rfl) (s__law_by (by rw [let_len]; omega) (.inl (sm_let k))))) (by simp)) rfl (getHL _ _) (bel_evs _ _) (by rw [List.length_map, units1_len]; omega) (by simp)).trans ?_), _, rfl, rfl⟩
      rw [setHL, units1_succ]
      unfold stU1
      rw [List.map_append]
      rfl)
  rw [a2, a3] at a1
  obtain ⟨e2, h2, b1, ⟨q2, b2, b3⟩, b4⟩ := q_forN (it := iSeq (dCall D__law_code lNil)) (asg := aName 2) (body := (sSeq (sDrop (dExt (dVar 0) (dCall D__law_signed (lCons (dVar 2) (lNil))))) (sNext)))
    (e := [some (.ref h.length), q1, none]) (h := h ++ [(units1 8).map ev]) (h1 := h ++ [(units1 8).map ev]) (g := ev) (xs := code14) stU2
    (fun i s e h' => (∃ q2, e = [some (.ref h.length), q1, q2] ∧ h' = h ++ [s.map ev]) ∧ s.length ≤ 16 + 256 * i) (units1 8) (q_seqt (q_call rfl s__law_code)) ⟨⟨none, rfl, rfl⟩, by rw [units1_len]; omega⟩
    (by
      rintro ps hps i s e h' hi ⟨⟨q2, rfl, rfl⟩, hL⟩
      have sl := signedN_len ps 8
      have ci : code14.length = 14 := rfl
      refine ⟨_, [some (.ref h.length), q1, some (ev ps)], h ++ [(stU2 s ps).map ev], rfl, .inl ((q_ext (o := dVar 0) (n := h.length) (v := .lst ((signedN ps 8).map ev)) rfl (q_call (q_one rfl) s__law_signed) rfl (getHL _ _) (bel_evs _ _) (by rw [List.length_map]; omega) (by rw [List.length_map]; omega)).trans ?_), ⟨_, rfl, rfl⟩, by simp [stU2]; omega⟩
      rw [setHL]
      unfold stU2
      rw [List.map_append]
      rfl)
  rw [b2, b3] at b1
  have b4' : units0.length ≤ 16 + 256 * 14 := b4
  refine done_app (g := [units0.map ev]) rfl ?_ (by simp only [PV.bel]; exact bel_evs _ _) rfl
  refine (q_seq (q_asg (v := .ref h.length) (h1 := h ++ [([] : List (List Int)).map ev]) rfl rfl)).trans ?_
  refine (q_seq a1).trans ((q_seq b1).trans (q_ret ?_))
  rw [q_blt (q_one rfl)]
  refine b_sortR (L := units0) ?_ (fun a ha q => ?_) (by omega)
  · simp only [lstH]; exact getHL _ _
  · have := units_row a ha
    rw [q] at this
    simp at this
theorem units_len : units0.length = 240 := by decide +kernel
theorem s__law_unit {cell : List PV} {rest : MH} {n : Nat} (ht : TC n cell) (hn : n ≤ 1000000) :
    ∃ (u : List Int) (cell' : List PV), u ∈ units0 ∧ TC (n + 1) cell' ∧ D__law_unit [.ref 0] (cell :: rest) = .ok (ev u) (cell' :: rest) := by
  obtain ⟨r, c1, h1, h2, h3⟩ := s__law_take (rest := rest) (below := 240) ht hn (by decide) (by decide)
  have hr : r < (srt ltI units0).length := by rw [srt_len, units_len]; omega
  refine ⟨(srt ltI units0)[r], c1, (srt_perm (lt := ltI) _).mem_iff.mp (List.getElem_mem hr), h2, done_h (h1 := c1 :: rest) rfl ?_ (bel_ev _ _) rfl (by simp)⟩
  refine q_ret (q_call (q_two rfl (q_call rfl s__law_units)) ?_)
  refine done_h (h1 := c1 :: rest) rfl ?_ (bel_ev _ _) rfl (by simp)
  refine q_ret (q_ix (x := .lst ((srt ltI units0).map ev)) (i := (r : Int)) rfl (q_call (q_two rfl (q_lenL rfl)) ?_) rfl ?_)
  · rw [List.length_map, srt_len, units_len]; exact h3
  · rw [atI_nat, List.getElem?_map, List.getElem?_eq_getElem hr]; rfl
end LawK80
-- text K80f
namespace LawK80
open PySem PySem.Spec Mn
def wp (u : List Int) (k : Nat) : List Int := wpowL (u.headD 0) u.tail k
def oOf (u : List Int) : Nat := ((h_ORDERS.lookup (u.headD 0)).getD 0).toNat
def mt (a : List Int) : List Int := mateR (a.headD 0) a.tail
def rootsOk (u sq : List Int) : Bool :=
  let sd := (byR sq 2).tail
  let side := overR (0 :: sd) (comL (0 :: sd))
  let b := (sqR side).toNat
  decide (sqR (byR sq 2) = 16) && decide (comL (0 :: sd) ≠ 0) && small (comL (0 :: sd)) && decide (side.length = 8) && side.all (fun y => decide (-1000 ≤ y) && decide (y ≤ 1000)) && decide (0 < b) &&
   decide (sqR side = (b : Int)) && decide (((srt ltI (foundL side (byR sq 2) 2 4 b)).filter ringB).filter (fun r => decide (halfR (lmulL r r) = sq)) = srt ltI [u, byR u (-1)])
def chk (u : List Int) : Bool :=
  decide (sqR u = 4) && ringB u && u.all (fun y => decide (-2 ≤ y) && decide (y ≤ 2)) && decide (h_ORDERS.lookup (u.headD 0) = some (oOf u : Int)) && Nat.blt 0 (oOf u) && Nat.ble (oOf u) 6 && decide (wp u (oOf u) = two8) &&
    (List.range (oOf u)).all (fun j => ringB (wp u j)) && (List.range (oOf u)).all (fun j => Nat.beq j 0 || !decide (wp u j = two8)) && (List.range (oOf u)).all (fun j => decide (wp u ((oOf u - j) % oOf u) = mt (wp u j))) &&
     ((wp u 2).tail.all (fun y => decide (y = 0)) || rootsOk u (wp u 2))
set_option maxHeartbeats 0
theorem all_chk : units0.all chk = true := by decide +kernel
end LawK80
-- text K80g
namespace LawK80
open PySem PySem.Spec Mn
variable {h : MH}
structure Un (x : Int) (r : List Int) (o : Nat) : Prop where
  ok : Okk x r
  bd : ∀ y ∈ x :: r, -2 ≤ y ∧ y ≤ 2
  or : h_ORDERS.lookup x = some (o : Int)
  o0 : 0 < o
  o6 : o ≤ 6
  one : wpowL x r o = two8
  ring : ∀ j, j < o → ringB (wpowL x r j) = true
  two : ∀ j, 0 < j → j < o → wpowL x r j ≠ two8
  mate : ∀ j, j < o → wpowL x r ((o - j) % o) = mt (wpowL x r j)
  roots : (∀ y ∈ (wpowL x r 2).tail, y = 0) ∨ rootsOk (x :: r) (wpowL x r 2) = true
theorem unit_ok {u : List Int} (hu : u ∈ units0) : ∃ x r o, u = x :: r ∧ Un x r o := by
  have c := List.all_eq_true.mp all_chk u hu
  have l := units_row u hu
  match u, l with
  | x :: r, l =>
    refine ⟨x, r, oOf (x :: r), rfl, ?_⟩
    simp only [chk, Bool.and_eq_true, Bool.or_eq_true, decide_eq_true_eq, List.all_eq_true, List.mem_range, Nat.beq_eq, Nat.blt_eq, Nat.ble_eq, Bool.not_eq_true', decide_eq_false_iff_not] at c
    obtain ⟨⟨⟨⟨⟨⟨⟨⟨⟨⟨c1, c2⟩, c3⟩, c4⟩, c5⟩, c6⟩, c7⟩, c11⟩, c8⟩, c9⟩, c10⟩ := c
    have sm : smR (x :: r) := fun y hy => by have := c3 y hy; rw [small_iff]; omega
    exact ⟨⟨⟨by simpa using l, c2, sm, by rw [c1]; decide⟩, c1⟩, c3, c4, c5, c6, c7, c11, fun j h1 h2 => (c8 j h2).elim (fun q => by omega) id, c9, c10⟩
/-! powers of a unit -/
theorem wp_ex (x r1 r2 r3 r4 r5 r6 r7 : Int) (k : Nat) (hq : sqR [x, r1, r2, r3, r4, r5, r6, r7] = 4) : wpowL x [r1, r2, r3, r4, r5, r6, r7] k = [x * (pairN x 1 k).1 + 2 * (pairN x 1 k).2, r1 * (pairN x 1 k).1, r2 * (pairN x 1 k).1, r3 * (pairN x 1 k).1, r4 * (pairN x 1 k).1, r5 * (pairN x 1 k).1, r6 * (pairN x 1 k).1, r7 * (pairN x 1 k).1] := by
  unfold wpowL
  rw [hq, show Int.fdiv 4 4 = 1 from rfl]
  simp
theorem half_by (a : List Int) : halfR (byR a 2) = a := by
  unfold halfR byR
  rw [List.map_map]
  conv => rhs; rw [← List.map_id a]
  apply List.map_congr_left
  intro y _
  simp only [Function.comp, id]
  rw [Int.fdiv_eq_ediv_of_nonneg _ (by decide)]; omega
theorem wp_mul {x : Int} {r : List Int} (hl : r.length = 7) (hq : sqR (x :: r) = 4) (k : Nat) : halfR (lmulL (wpowL x r k) (x :: r)) = wpowL x r (k + 1) := by
  match r, hl with
  | [r1, r2, r3, r4, r5, r6, r7], _ =>
    rw [← half_by (wpowL x [r1, r2, r3, r4, r5, r6, r7] (k + 1))]
    congr 1
    rw [wp_ex _ _ _ _ _ _ _ _ _ hq, wp_ex _ _ _ _ _ _ _ _ _ hq, lmul_ex, pairN_succ]
    rw [sq_ex] at hq
    simp only [byR, List.map_cons, List.map_nil, List.cons.injEq, and_true]
    refine ⟨?_, ?_, ?_, ?_, ?_, ?_, ?_, ?_⟩ <;> grind
theorem wp_zero {x : Int} {r : List Int} (hl : r.length = 7) (hq : sqR (x :: r) = 4) : wpowL x r 0 = two8 := by
  match r, hl with
  | [r1, r2, r3, r4, r5, r6, r7], _ => rw [wp_ex _ _ _ _ _ _ _ _ _ hq, pairN_zero]; simp
theorem wp_len {x : Int} {r : List Int} (hl : r.length = 7) (k : Nat) : (wpowL x r k).length = 8 := by simp [wpowL, hl]
theorem up_eq {x : Int} {r : List Int} (hl : r.length = 7) (hq : sqR (x :: r) = 4) (k : Nat) : upowL (x :: r) k = wpowL x r k := by
  induction k with
  | zero => rw [wp_zero hl hq]; rfl
  | succ k ih =>
    have : upowL (x :: r) (k + 1) = halfR (prodL (upowL (x :: r) k) (x :: r)) := by simp [upowL, List.range_succ]
    rw [this, ih, prod_exA (wp_len hl k) (by simp [hl]), wp_mul hl hq]
theorem wp_per {x : Int} {r : List Int} {o : Nat} (U : Un x r o) (k : Nat) : wpowL x r (k + o) = wpowL x r k := by
  induction k with
  | zero => rw [Nat.zero_add, U.one, wp_zero U.ok.len U.ok.q]
  | succ k ih => rw [show k + 1 + o = k + o + 1 from by omega, ← wp_mul U.ok.len U.ok.q, ih, wp_mul U.ok.len U.ok.q]
theorem wp_mod {x : Int} {r : List Int} {o : Nat} (U : Un x r o) (k : Nat) : wpowL x r (k % o) = wpowL x r k := by
  have : ∀ q m : Nat, wpowL x r (m + o * q) = wpowL x r m := by
    intro q
    induction q with
    | zero => intro m; rfl
    | succ q ih => intro m; rw [Nat.mul_succ, ← Nat.add_assoc, wp_per U, ih]
  have e := this (k / o) (k % o)
  rw [Nat.mod_add_div] at e
  exact e.symm
theorem wp_two {x : Int} {r : List Int} {o : Nat} (U : Un x r o) (k : Nat) : wpowL x r k = two8 ↔ k % o = 0 := by
  rw [← wp_mod U]
  have := Nat.mod_lt k U.o0
  constructor
  · intro q
    refine Decidable.byContradiction fun z => U.two _ (by omega) this q
  · intro q; rw [q, wp_zero U.ok.len U.ok.q]
def trN (x : Int) (k : Nat) : Int := x * (pairN x 1 k).1 + 2 * (pairN x 1 k).2
theorem trN_two (x : Int) (k : Nat) : trN x (k + 2) = x * trN x (k + 1) - trN x k := by
  unfold trN
  rw [pairN_two]
  simp only
  grind
theorem wp_head {x : Int} {r : List Int} (hl : r.length = 7) (hq : sqR (x :: r) = 4) (k : Nat) : ∃ t, wpowL x r k = trN x k :: t ∧ t.length = 7 := by
  match r, hl with
  | [r1, r2, r3, r4, r5, r6, r7], _ => rw [wp_ex _ _ _ _ _ _ _ _ _ hq]; exact ⟨_, rfl, rfl⟩
theorem s_unit_power' {x : Int} {r : List Int} {o : Nat} (U : Un x r o) (k : Nat) : D_unit_power [ev (x :: r), .int (k : Int)] h = .ok (ev (wpowL x r k)) h := by
  rw [s_unit_power U.ok U.or (by have := U.o0; omega) (by have := U.o6; omega), up_eq U.ok.len U.ok.q]
  have : (Int.fmod (k : Int) (o : Int)).toNat = k % o := by rw [Int.fmod_eq_emod_of_nonneg _ (by omega)]; omega
  rw [this, wp_mod U]
theorem s_unit_power_neg {x : Int} {r : List Int} {o : Nat} (U : Un x r o) (k : Nat) : D_unit_power [ev (x :: r), .int (0 - (k : Int))] h = .ok (ev (mt (wpowL x r k))) h := by
  rw [s_unit_power U.ok U.or (by have := U.o0; omega) (by have := U.o6; omega), up_eq U.ok.len U.ok.q]
  have o0 := U.o0
  have hm := Nat.mod_lt k o0
  have : (Int.fmod (0 - (k : Int)) (o : Int)).toNat = (o - k % o) % o := by
    rw [Int.fmod_eq_emod_of_nonneg _ (by omega)]
    have e2 : (0 - (k : Int)) = ((o - k % o : Nat) : Int) + (o : Int) * (-((k / o : Nat) + 1 : Int)) := by
      have := Nat.mod_add_div k o
      have h2 : ((k % o + o * (k / o) : Nat) : Int) = k := by rw [this]
      push_cast at h2
      rw [Int.ofNat_sub (Nat.le_of_lt hm)]
      push_cast
      grind
    rw [e2, Int.add_mul_emod_self_left, ← Int.natCast_emod, Int.toNat_natCast]
  rw [this, U.mate _ hm, wp_mod U]
theorem s__law_wmul {a b : List Int} (ha : a.length = 8) (hb : b.length = 8) (hs : smR b) : D__law_wmul [ev a, ev b] h = .ok (ev (halfR (lmulL a b))) h := by
  have ll : (lmulL a b).length = 8 := by
    match a, ha, b, hb with
    | [x0, x1, x2, x3, x4, x5, x6, x7], _, [y0, y1, y2, y3, y4, y5, y6, y7], _ => rfl
  exact (done rfl (q_ret (q_tupL (q_lc (f := fun x => .int (Int.fdiv x 2)) (q_seqv (q_call (q_two rfl rfl) (s__law_mulA ha hb hs))) (by omega) fun p hp => ⟨_, rfl, rfl, q_div rfl rfl (by decide) (by decide)⟩))) (by rw [mw (fun x => Int.fdiv x 2)]; exact bel_ev _ _) rfl).trans (okk (by rw [mw (fun x => Int.fdiv x 2)]))
end LawK80
-- text K80h
namespace LawK80
open PySem PySem.Spec Mn
variable {h : MH}
theorem s_whole_roots {u sq : List Int} (hl : sq.length = 8) (hr : ringB sq = true) (ss : ∀ y ∈ sq, -2 ≤ y ∧ y ≤ 2) (hq : rootsOk u sq = true) : D_whole_roots [ev sq] h = .ok (.lst ((srt ltI [u, byR u (-1)]).map ev)) h := by
  simp only [rootsOk, Bool.and_eq_true, decide_eq_true_eq, List.all_eq_true] at hq
  obtain ⟨⟨⟨⟨⟨⟨⟨q1, q2⟩, q3⟩, q4⟩, q5⟩, q6⟩, q7⟩, q8⟩ := hq
  generalize hside : overR (0 :: (byR sq 2).tail) (comL (0 :: (byR sq 2).tail)) = side at q4 q5 q6 q7 q8
  generalize hb : (sqR side).toNat = b at q6 q7 q8
  have oks : OkS side := ⟨q4, q5⟩
  have S := s_roots_in (h := h) (goal := byR sq 2) (side := side) (k := 2) (size := 4) (by_ := b) (by simp [hl]) (fun y hy => by
    obtain ⟨z, hz, rfl⟩ := List.mem_map.mp hy
    have := ss z hz
    rw [small_iff]; omega) (by rw [q1]; rfl) (by omega) (by omega) (by omega) q2 q3 hside oks q7 q6
  generalize hL : srt ltI (foundL side (byR sq 2) 2 4 b) = L at S q8
  have Lm : ∀ a ∈ L, a.length = 8 ∧ smR a := by
    intro a ha
    rw [← hL, (srt_perm (lt := ltI) _).mem_iff] at ha
    obtain ⟨f, s, b1, b2, rfl, b3⟩ := found_mem2 ha
    have o := own_ok oks (f := f) (s := s) (by omega) (by omega)
    refine ⟨own_len oks f s, ?_⟩
    have := o.sm
    have l := own_len oks f s
    cases hc : ownR side f s with
    | nil => rw [hc] at l; simp at l
    | cons y t => rw [hc] at this; exact this
  have Ll : L.length ≤ 1000 := by
    rw [← hL, (srt_perm (lt := ltI) _).length_eq]
    have := found_len side (byR sq 2) 2 4 b
    have := isq_le (4 / b)
    have := Nat.div_le_self 4 b
    omega
  have ne : sq.tail ≠ [0, 0, 0, 0, 0, 0, 0] := by
    intro z
    apply q2
    have : (byR sq 2).tail = [0, 0, 0, 0, 0, 0, 0] := by
      cases sq with
      | nil => simp at hl
      | cons t tl => simp only [List.tail_cons] at z; rw [z]; rfl
    rw [this]; decide
  refine done (v := .lst ((srt ltI [u, byR u (-1)]).map ev)) rfl ?_ (by simp only [PV.bel]; exact bel_evs _ _) rfl
  refine (q_seq (q_asg (q_call (q_one rfl) (s_sure_whole hl hr)) rfl)).trans ?_
  have cut : ∀ m {e : Mn.Env} {h : MH} {a : Den}, a e h = some (ev sq, h) → dSl m a (oSome (dC (.int 1))) oNon e h = some (ev sq.tail, h) := by
    intro m e h a ha
    cases sq with
    | nil => simp at hl
    | cons t tl => exact q_cut1 ha
  refine (q_seq ((q_if0 ((q_val (q_eqE (r := sq.tail) (s := [0, 0, 0, 0, 0, 0, 0]) (cut _ rfl) (q_cut1 rfl))).trans (by rw [decide_eq_false ne]))).trans rfl)).trans ?_
  refine (q_seq (q_asg (v := .lst ((L.filter ringB).map ev)) (q_lcf (g := ev) (f := ev) (p := ringB) (xs := L) (q_seql (q_call (q_two (q_call (q_two rfl rfl) (s_times_of (by omega) (.inr (by decide)))) rfl) S)) (by omega) fun a ha => ⟨_, rfl, q_val (q_call (q_two rfl rfl) (s_in_ring (by have := (Lm a ha).1; omega))), fun _ => rfl⟩) rfl)).trans ?_
  refine q_ret ((q_lcf (g := ev) (f := ev) (p := fun r => decide (halfR (lmulL r r) = sq)) (xs := L.filter ringB) (q_seql rfl) (by have := List.length_filter_le ringB L; omega) fun a ha => ⟨_, rfl, ?_, fun _ => rfl⟩).trans (by rw [q8]))
  have hm := Lm a (List.mem_filter.mp ha).1
  exact (q_val (q_eqE (q_call (q_two rfl rfl) (s_multiplied hm.1 hm.1 hm.2)) rfl)).trans (by rw [prod_exA hm.1 hm.1])
/-! units_right -/
abbrev uE (s1 s2 s3 s4 s5 s6 s7 s8 s9 s10 : Option PV) : Mn.Env := [some (.ref 0), s1, s2, s3, s4, s5, s6, s7, s8, s9, s10]
def trL (x : Int) (n : Nat) : List Int := (List.range n).map (trN x)
theorem trL_succ (x : Int) (n : Nat) : trL x (n + 1) = trL x n ++ [trN x n] := by simp [trL, List.range_succ]
theorem trL_len (x : Int) (n : Nat) : (trL x n).length = n := by simp [trL]
theorem atI_back {α : Type} (xs : List α) (k : Nat) (hk : 0 < k) (hl : k ≤ xs.length) : L2.atI xs (-(k : Int)) = xs[xs.length - k]? := by
  unfold L2.atI L2.ixN
  rw [if_neg (by omega), if_pos (by omega)]
  simp only [Option.bind]
  congr 1
  omega
abbrev bT : SDen := (sSeq (sDrop (dApp (dVar 5) (dBin 0 .Sub (dBin 0 .Mult (dVar 6) (dIx (dVar 5) (dNeg (dC (.int 1))))) (dIx (dVar 5) (dNeg (dC (.int 2))))))) (sNext))
theorem bT_ok {x : Int} (hx : -2 ≤ x ∧ x ≤ 2) {n : Nat} (hn : n ≤ 1000) (s1 s2 : Option PV) :
    bT (uE s1 s2 none none (some (.ref h.length)) (some (.int x)) none none none none) (h ++ [(trL x (n + 2)).map .int]) = .nx (uE s1 s2 none none (some (.ref h.length)) (some (.int x)) none none none none) (h ++ [(trL x (n + 3)).map .int]) := by
  have A1 : dIx (dVar 5) (dNeg (dC (.int 1))) (uE s1 s2 none none (some (.ref h.length)) (some (.int x)) none none none none) (h ++ [(trL x (n + 2)).map .int]) = some (.int (trN x (n + 1)), h ++ [(trL x (n + 2)).map .int]) :=
    q_ix (x := .ref h.length) (i := -1) rfl rfl (getHL _ _) (by
      rw [show (-1 : Int) = -((1 : Nat) : Int) from rfl, atI_back _ _ (by decide) (by simp [trL_len]), List.length_map, trL_len, trL, List.getElem?_map, List.getElem?_map, List.getElem?_range (by omega)]; rfl)
  have A2 : dIx (dVar 5) (dNeg (dC (.int 2))) (uE s1 s2 none none (some (.ref h.length)) (some (.int x)) none none none none) (h ++ [(trL x (n + 2)).map .int]) = some (.int (trN x n), h ++ [(trL x (n + 2)).map .int]) :=
    q_ix (x := .ref h.length) (i := -2) rfl rfl (getHL _ _) (by
      rw [show (-2 : Int) = -((2 : Nat) : Int) from rfl, atI_back _ _ (by decide) (by simp [trL_len]), List.length_map, trL_len, trL, List.getElem?_map, List.getElem?_map, List.getElem?_range (by omega)]; rfl)
  refine (q_app (o := dVar 5) (v := .int (trN x (n + 2))) rfl ((q_sub (q_mulL rfl A1 (by rw [small_iff]; omega)) A2).trans (by rw [trN_two])) (getHL _ _) rfl (by rw [List.length_map, trL_len]; omega)).trans ?_
  rw [setHL, trL_succ x (n + 2), List.map_append]
  rfl
abbrev bL : SDen := (sSeq (sIf (tNot (tVal (dCall D__law_same (lCons (dLst 0 (lCons (dCall D_whole_power (lCons (dVar 1) (lCons (dVar 3) (lNil)))) (lCons (dCall D_unit_power (lCons (dVar 1) (lCons (dVar 3) (lNil)))) (lCons (dCall D_trace (lCons (dVar 7) (lNil))) (lCons (dCall D_unit_power (lCons (dVar 1) (lCons (dBin 0 .Sub (dC (.int 0)) (dVar 3)) (lNil)))) (lNil)))))) (lCons (dLst 0 (lCons (dVar 7) (lCons (dVar 7) (lCons (dIx (dVar 5) (dVar 3)) (lCons (dCall D__law_mate (lCons (dVar 7) (lNil))) (lNil)))))) (lNil)))))) (sSeq (sRet (dC (.bl false))) (sNext)) (sNext)) (sSeq (sAsg (dCall D__law_wmul (lCons (dVar 7) (lCons (dVar 1) (lNil)))) (gA (aName 7))) (sSeq (sIf (tAnd (tVal (dCmp .Eq (dVar 7) (dTup (lCons (dC (.int 2)) (lCons (dC (.int 0)) (lCons (dC (.int 0)) (lCons (dC (.int 0)) (lCons (dC (.int 0)) (lCons (dC (.int 0)) (lCons (dC (.int 0)) (lCons (dC (.int 0)) (lNil)))))))))))) (tVal (dCmp .Eq (dVar 8) (dC (.int 0))))) (sSeq (sAsg (dBin 0 .Add (dVar 3) (dC (.int 1))) (gA (aName 8))) (sNext)) (sNext)) (sNext))))
theorem q_tand1 {a b : TDen} {e : Mn.Env} {h h1 : MH} (ha : a e h = some (true, h1)) : tAnd a b e h = b e h1 := by simp only [tAnd, ha]
theorem q_tand0 {a b : TDen} {e : Mn.Env} {h h1 : MH} (ha : a e h = some (false, h1)) : tAnd a b e h = some (false, h1) := by simp only [tAnd, ha]
def ordN (o k : Nat) : Int := if o ≤ k then (o : Int) else 0
theorem bL_ok {x : Int} {r : List Int} {o : Nat} (U : Un x r o) {k : Nat} (hk : k ≤ 12) (s2 : Option PV) :
    bL (uE (some (ev (x :: r))) s2 (some (.int (k : Int))) none (some (.ref h.length)) (some (.int x)) (some (ev (wpowL x r k))) (some (.int (ordN o k))) none none) (h ++ [(trL x 14).map .int])
      = .nx (uE (some (ev (x :: r))) s2 (some (.int (k : Int))) none (some (.ref h.length)) (some (.int x)) (some (ev (wpowL x r (k + 1)))) (some (.int (ordN o (k + 1)))) none none) (h ++ [(trL x 14).map .int]) := by
  obtain ⟨t, wh, tl⟩ := wp_head U.ok.len U.ok.q k
  have l8 := c8 (x := x) U.ok.len
  have wl := wp_len (x := x) U.ok.len k
  have rg : ringB (wpowL x r k) = true := by rw [← wp_mod U]; exact U.ring _ (Nat.mod_lt _ U.o0)
  have tr : D_trace [ev (wpowL x r k)] (h ++ [(trL x 14).map .int]) = .ok (.int (trN x k)) (h ++ [(trL x 14).map .int]) := by rw [wh]; exact s_trace tl (by rw [← wh]; exact rg)
  have mt' : D__law_mate [ev (wpowL x r k)] (h ++ [(trL x 14).map .int]) = .ok (ev (mt (wpowL x r k))) (h ++ [(trL x 14).map .int]) := by rw [wh]; exact s__law_mate (by omega)
  have ml : (mt (wpowL x r k)).length = 8 := by rw [wh]; simp [mt, tl]
  have S : dCall D__law_same (lCons (dLst 0 (lCons (dCall D_whole_power (lCons (dVar 1) (lCons (dVar 3) (lNil)))) (lCons (dCall D_unit_power (lCons (dVar 1) (lCons (dVar 3) (lNil)))) (lCons (dCall D_trace (lCons (dVar 7) (lNil))) (lCons (dCall D_unit_power (lCons (dVar 1) (lCons (dBin 0 .Sub (dC (.int 0)) (dVar 3)) (lNil)))) (lNil)))))) (lCons (dLst 0 (lCons (dVar 7) (lCons (dVar 7) (lCons (dIx (dVar 5) (dVar 3)) (lCons (dCall D__law_mate (lCons (dVar 7) (lNil))) (lNil)))))) (lNil)))
     (uE (some (ev (x :: r))) s2 (some (.int (k : Int))) none (some (.ref h.length)) (some (.int x)) (some (ev (wpowL x r k))) (some (.int (ordN o k))) none none) (h ++ [(trL x 14).map .int]) = some (.bl true, h ++ [(trL x 14).map .int]) := by
    refine q_call (q_two (x := .lst [ev (wpowL x r k), ev (wpowL x r k), .int (trN x k), ev (mt (wpowL x r k))]) (y := .lst [ev (wpowL x r k), ev (wpowL x r k), .int (trN x k), ev (mt (wpowL x r k))])
      (q_lst0 (q_cons (q_call (q_two rfl rfl) (s_whole_power U.ok.toOkw (by omega))) (q_cons (q_call (q_two rfl rfl) (s_unit_power' U k)) (q_two (q_call (q_one rfl) tr) (q_call (q_two rfl (q_sub rfl rfl)) (s_unit_power_neg U k))))) (by simp))
      (q_lst0 (q_cons rfl (q_cons rfl (q_two (q_ix (x := .ref h.length) rfl rfl (getHL _ _) (by rw [atI_nat, trL, List.getElem?_map, List.getElem?_map, List.getElem?_range (by omega)]; rfl)) (q_call (q_one rfl) mt')))) (by simp))) (s_same _ (by simp) ?_)
    intro z hz
    simp only [List.mem_cons, List.not_mem_nil, or_false] at hz
    rcases hz with rfl | rfl | rfl | rfl
    · exact .inl ⟨_, rfl, by omega⟩
    · exact .inl ⟨_, rfl, by omega⟩
    · exact .inr ⟨_, rfl⟩
    · exact .inl ⟨_, rfl, by omega⟩
  refine (q_seq ((q_if0 (q_not (q_val S))).trans rfl)).trans ?_
  refine (q_seq (q_asg (v := ev (wpowL x r (k + 1))) ((q_call (q_two rfl rfl) (s__law_wmul wl l8 U.ok.sm)).trans (by rw [wp_mul U.ok.len U.ok.q])) rfl)).trans ?_
  have o6 := U.o6
  have o0 := U.o0
  by_cases h2 : wpowL x r (k + 1) = two8
  · have hd := (wp_two U (k + 1)).mp h2
    by_cases ho : o ≤ k
    · have e1 : ordN o k = o := if_pos ho
      have e2 : ordN o (k + 1) = o := if_pos (by omega)
      rw [e1, e2]
      exact (q_seq ((q_if0 ((q_tand1 ((q_val (q_eqE (r := wpowL x r (k + 1)) (s := two8) rfl rfl)).trans (by rw [decide_eq_true h2]))).trans ((q_val (q_eqI rfl rfl)).trans (by rw [decide_eq_false (by omega)])))).trans rfl)).trans rfl
    · have e1 : ordN o k = 0 := if_neg ho
      have e3 : k + 1 = o := by
        have := Nat.le_of_dvd (by omega) (Nat.dvd_of_mod_eq_zero hd); omega
      have e2 : ordN o (k + 1) = (k : Int) + 1 := by rw [ordN, if_pos (by omega)]; omega
      rw [e1, e2]
      have G : tAnd (tVal (dCmp .Eq (dVar 7) (dTup (lCons (dC (.int 2)) (lCons (dC (.int 0)) (lCons (dC (.int 0)) (lCons (dC (.int 0)) (lCons (dC (.int 0)) (lCons (dC (.int 0)) (lCons (dC (.int 0)) (lCons (dC (.int 0)) (lNil)))))))))))) (tVal (dCmp .Eq (dVar 8) (dC (.int 0))))
          (uE (some (ev (x :: r))) s2 (some (.int (k : Int))) none (some (.ref h.length)) (some (.int x)) (some (ev (wpowL x r (k + 1)))) (some (.int 0)) none none) (h ++ [(trL x 14).map .int]) = some (true, h ++ [(trL x 14).map .int]) :=
        (q_tand1 ((q_val (q_eqE (r := wpowL x r (k + 1)) (s := two8) rfl rfl)).trans (by rw [decide_eq_true h2]))).trans (q_val (q_eqI (r := 0) (s := 0) rfl rfl))
      refine Eq.trans (q_seq (e1 := uE (some (ev (x :: r))) s2 (some (.int (k : Int))) none (some (.ref h.length)) (some (.int x)) (some (ev (wpowL x r (k + 1)))) (some (.int ((k : Int) + 1))) none none) (h1 := h ++ [(trL x 14).map .int]) ?_) rfl
      exact (q_if1 G).trans rfl
  · have e2 : ordN o (k + 1) = ordN o k := by
      unfold ordN
      by_cases ho : o ≤ k
      · rw [if_pos ho, if_pos (by omega)]
      · rw [if_neg ho, if_neg]
        intro z
        apply h2
        rw [wp_two U, show k + 1 = o by omega, Nat.mod_self]
    rw [e2]
    exact (q_seq ((q_if0 (q_tand0 ((q_val (q_eqE (r := wpowL x r (k + 1)) (s := two8) rfl rfl)).trans (by rw [decide_eq_false h2])))).trans rfl)).trans rfl
end LawK80
-- text K80i
namespace LawK80
open PySem PySem.Spec Mn
theorem wp_one {x : Int} {r : List Int} (hl : r.length = 7) (hq : sqR (x :: r) = 4) : wpowL x r 1 = x :: r := by
  match r, hl with
  | [r1, r2, r3, r4, r5, r6, r7], _ => rw [wp_ex _ _ _ _ _ _ _ _ _ hq, show pairN x 1 1 = (1, 0) from by rw [pairN_succ]; simp [pairN_zero]]; simp
theorem q_addL {a b : Den} {e : Mn.Env} {h h1 h2 : MH} {xs ys : List PV} (ha : a e h = some (.lst xs, h1)) (hb : b e h1 = some (.lst ys, h2)) (hl : xs.length + ys.length ≤ 100000) : dBin 0 .Add a b e h = some (.lst (xs ++ ys), h2) := by
  rw [q_bin ha hb]
  show mkL 0 (xs ++ ys) h2 = _
  exact e_mkL0 (by rw [List.length_append]; exact hl)
theorem q_twiceL {a : Den} {e : Mn.Env} {h h1 : MH} {x : PV} (ha : a e h = some (.lst [x], h1)) : dBin 0 .Mult a (dC (.int 2)) e h = some (.lst [x, x], h1) := (q_bin ha q_c).trans rfl
theorem s_units {cell : List PV} {rest : MH} {n : Nat} (ht : TC n cell) (hn : n ≤ 900000) :
    ∃ cell', TC (n + 40) cell' ∧ D__law_units_right [.ref 0] (cell :: rest) = .ok (.bl true) (cell' :: rest) := by
  obtain ⟨u, c1, g1, g2, g3⟩ := s__law_unit (rest := rest) ht (by omega)
  obtain ⟨x, r, o, rfl, U⟩ := unit_ok g1
  have l8 := c8 (x := x) U.ok.len
  have hx := U.bd x (List.mem_cons_self ..)
  have o0 := U.o0
  have o6 := U.o6
  obtain ⟨k, c2, k1, k2, k3⟩ := s__law_take (rest := rest ++ [(trL x 14).map .int]) (below := 200) g2 (by omega) (by decide) (by decide)
  refine ⟨c2, k2.mono (by omega), done_h (h1 := c2 :: (rest ++ [(trL x 14).map .int])) rfl ?_ rfl rfl (by simp)⟩
  refine (q_seq (q_asg (q_call (q_one rfl) g3) rfl)).trans ?_
  refine (q_seq (q_par (vs := [.ref (c1 :: rest).length, .int x]) (h1 := (c1 :: rest) ++ [(trL x 2).map .int]) (q_two (h1 := (c1 :: rest) ++ [(trL x 2).map .int]) (x := .ref (c1 :: rest).length) (by
    show (match lCons _ _ _ _ with | some (xs, h1) => mkL 1 xs h1 | none => none) = _
    rw [q_two rfl (q_hd rfl)]
    refine (e_mkL1 (by simp)).trans ?_
    simp [trL, List.range_succ, trN, pairN_zero, show pairN x 1 1 = (1, 0) from by rw [pairN_succ]; simp [pairN_zero]]) (q_hd rfl)) rfl)).trans ?_
  -- traces
  obtain ⟨e1, h1, a1, q2, a2, a3⟩ := q_forR (it := iRg1 (dC (.int 12))) (asg := aName 2) (body := bT) (n := 12)
      (e := uE (some (ev (x :: r))) none none none (some (.ref (c1 :: rest).length)) (some (.int x)) none none none none) (h := (c1 :: rest) ++ [(trL x 2).map .int]) (h1 := (c1 :: rest) ++ [(trL x 2).map .int])
      (fun i e h' => ∃ q2, e = uE (some (ev (x :: r))) q2 none none (some (.ref (c1 :: rest).length)) (some (.int x)) none none none none ∧ h' = (c1 :: rest) ++ [(trL x (i + 2)).map .int])
      (q_rg (n := 12) rfl (by decide)) ⟨none, rfl, rfl⟩
      (by
        rintro j hj e h' ⟨q2, rfl, rfl⟩
        exact ⟨_, _, _, rfl, .inl (bT_ok (h := c1 :: rest) hx (n := j) (by omega) (some (ev (x :: r))) (some (.int (j : Int)))), _, rfl, rfl⟩)
  rw [a2, a3] at a1
  refine (q_seq a1).trans ?_
  have two0 : wpowL x r 0 = two8 := wp_zero U.ok.len U.ok.q
  have ord0 : ordN o 0 = 0 := if_neg (by omega)
  refine (q_seq (q_asg (v := .tup [ev two8, .int 0]) (h1 := (c1 :: rest) ++ [(trL x 14).map .int]) rfl (q_unp (xs := [ev two8, .int 0]) rfl rfl rfl))).trans ?_
  -- laps
  obtain ⟨e2, h2, b1, p3, b2, b3⟩ := q_forR (it := iRg1 (dC (.int 13))) (asg := aName 3) (body := bL) (n := 13)
      (e := uE (some (ev (x :: r))) q2 none none (some (.ref (c1 :: rest).length)) (some (.int x)) (some (ev two8)) (some (.int 0)) none none) (h := (c1 :: rest) ++ [(trL x 14).map .int]) (h1 := (c1 :: rest) ++ [(trL x 14).map .int])
      (fun i e h' => ∃ q3, e = uE (some (ev (x :: r))) q2 q3 none (some (.ref (c1 :: rest).length)) (some (.int x)) (some (ev (wpowL x r i))) (some (.int (ordN o i))) none none ∧ h' = (c1 :: rest) ++ [(trL x 14).map .int])
      (q_rg (n := 13) rfl (by decide)) ⟨none, by rw [two0, ord0], rfl⟩
      (by
        rintro j hj e h' ⟨q3, rfl, rfl⟩
        exact ⟨_, _, _, rfl, .inl (bL_ok (h := c1 :: rest) U (k := j) (by omega) q2), _, rfl, rfl⟩)
  have ord13 : ordN o 13 = o := if_pos (by omega)
  rw [b2, b3, ord13] at b1
  refine (q_seq b1).trans ?_
  refine (q_seq (q_asg (v := .int (k : Int)) (h1 := c2 :: (rest ++ [(trL x 14).map .int])) (q_call (q_two rfl rfl) k3) rfl)).trans ?_
  have so : small (o : Int) = true := by rw [small_iff]; omega
  have lf : (k : Int) - Int.fdiv (k : Int) (o : Int) * (o : Int) = ((k % o : Nat) : Int) := by
    rw [Int.fdiv_eq_ediv_of_nonneg _ (by omega)]
    have := Int.mul_ediv_add_emod (k : Int) (o : Int)
    push_cast
    grind
  have S : dCall D__law_same (lCons (dLst 0 (lCons (dCall D_order_of (lCons (dVar 1) (lNil))) (lCons (dCall D_unit_power (lCons (dVar 1) (lCons (dVar 3) (lNil)))) (lCons (dCall D_whole_power (lCons (dCall D__law_lists (lCons (dVar 1) (lNil))) (lCons (dVar 3) (lNil)))) (lNil))))) (lCons (dBin 0 .Add (dLst 0 (lCons (dVar 8) (lNil))) (dBin 0 .Mult (dLst 0 (lCons (dCall D_unit_power (lCons (dVar 1) (lCons (dCall D__law_left (lCons (dVar 3) (lCons (dVar 8) (lNil)))) (lNil)))) (lNil))) (dC (.int 2)))) (lNil)))
      (uE (some (ev (x :: r))) q2 (some (.int (k : Int))) none (some (.ref (c1 :: rest).length)) (some (.int x)) (some (ev (wpowL x r 13))) (some (.int (o : Int))) none none) (c2 :: (rest ++ [(trL x 14).map .int])) = some (.bl true, c2 :: (rest ++ [(trL x 14).map .int])) := by
    have wl := wp_len (x := x) U.ok.len k
    have W : D_unit_power [ev (x :: r), .int ((k % o : Nat) : Int)] (c2 :: (rest ++ [(trL x 14).map .int])) = .ok (ev (wpowL x r k)) (c2 :: (rest ++ [(trL x 14).map .int])) := (s_unit_power' U (k % o)).trans (by rw [wp_mod U])
    have Y : dBin 0 .Add (dLst 0 (lCons (dVar 8) (lNil))) (dBin 0 .Mult (dLst 0 (lCons (dCall D_unit_power (lCons (dVar 1) (lCons (dCall D__law_left (lCons (dVar 3) (lCons (dVar 8) (lNil)))) (lNil)))) (lNil))) (dC (.int 2)))
      (uE (some (ev (x :: r))) q2 (some (.int (k : Int))) none (some (.ref (c1 :: rest).length)) (some (.int x)) (some (ev (wpowL x r 13))) (some (.int (o : Int))) none none) (c2 :: (rest ++ [(trL x 14).map .int])) = some (.lst ([.int o] ++ [ev (wpowL x r k), ev (wpowL x r k)]), c2 :: (rest ++ [(trL x 14).map .int])) :=
      q_addL (q_lst0 (q_one rfl) (by simp)) (q_twiceL (q_lst0 (q_one (q_call (q_two rfl (q_call (q_two rfl rfl) ((s__law_left so (by omega)).trans (by rw [lf])))) W)) (by simp))) (by simp)
    refine q_call (q_two (x := .lst [.int o, ev (wpowL x r k), ev (wpowL x r k)]) (y := .lst [.int o, ev (wpowL x r k), ev (wpowL x r k)])
      (q_lst0 (q_cons (q_call (q_one rfl) (s_order_of U.ok U.or)) (q_two (q_call (q_two rfl rfl) (s_unit_power' U k)) (q_call (q_two (q_call (q_one rfl) (s__law_lists (by omega))) rfl) (s_whole_powerl U.ok.toOkw (by omega))))) (by simp))
      Y) (s_same _ (by simp) ?_)
    intro z hz
    simp only [List.mem_cons, List.not_mem_nil, or_false] at hz
    rcases hz with rfl | rfl | rfl
    · exact .inr ⟨_, rfl⟩
    · exact .inl ⟨_, rfl, by omega⟩
    · exact .inl ⟨_, rfl, by omega⟩
  refine (q_seq ((q_if0 (q_not (q_val S))).trans rfl)).trans ?_
  have sq2 : halfR (lmulL (x :: r) (x :: r)) = wpowL x r 2 := by
    have e1 : wpowL x r 1 = x :: r := wp_one U.ok.len U.ok.q
    have := wp_mul U.ok.len U.ok.q 1
    rw [e1] at this
    exact this
  have wl := wp_len (x := x) U.ok.len 2
  refine (q_seq (q_asg (v := ev (wpowL x r 2)) ((q_call (q_two rfl rfl) (s__law_wmul l8 l8 U.ok.sm)).trans (by rw [sq2])) rfl)).trans ?_
  obtain ⟨t, wh, tl⟩ := wp_head U.ok.len U.ok.q 2
  have F : dCmp .NotEq (dLc 0 (iSeq (dSl 0 (dVar 4) (oSome (dC (.int 1))) (oNon))) (aName 10) (tVal (dCmp .NotEq (dVar 10) (dC (.int 0)))) (dVar 10) [10]) (dLst 0 (lNil))
      (uE (some (ev (x :: r))) q2 (some (.int (k : Int))) (some (ev (wpowL x r 2))) (some (.ref (c1 :: rest).length)) (some (.int x)) (some (ev (wpowL x r 13))) (some (.int (o : Int))) none none) (c2 :: (rest ++ [(trL x 14).map .int])) = some (.bl (!decide ((wpowL x r 2).tail.filter (fun y => !decide (y = 0)) = [])), c2 :: (rest ++ [(trL x 14).map .int])) := by
    refine q_neLI (r := (wpowL x r 2).tail.filter (fun y => !decide (y = 0))) (s := []) (q_lcf (g := PV.int) (f := PV.int) (xs := (wpowL x r 2).tail) (q_seqv ?_) (by rw [List.length_tail]; omega) fun y hy => ⟨_, rfl, q_val (q_neI rfl rfl), fun _ => rfl⟩) rfl
    rw [wh]
    exact q_cut1 rfl
  suffices E : ∃ q9, sIf (tVal (dCmp .NotEq (dLc 0 (iSeq (dSl 0 (dVar 4) (oSome (dC (.int 1))) (oNon))) (aName 10) (tVal (dCmp .NotEq (dVar 10) (dC (.int 0)))) (dVar 10) [10]) (dLst 0 (lNil)))) (sSeq (sAsg (dCall D_whole_roots (lCons (dVar 4) (lNil))) (gA (aName 9))) (sSeq (sIf (tVal (dCmp .NotEq (dVar 9) (dBlt (bSorted 0) (lCons (dLst 0 (lCons (dVar 1) (lCons (dCall D__law_by (lCons (dVar 1) (lCons (dNeg (dC (.int 1))) (lNil)))) (lNil)))) (lNil))))) (sSeq (sRet (dC (.bl false))) (sNext)) (sNext)) (sNext))) (sNext)
      (uE (some (ev (x :: r))) q2 (some (.int (k : Int))) (some (ev (wpowL x r 2))) (some (.ref (c1 :: rest).length)) (some (.int x)) (some (ev (wpowL x r 13))) (some (.int (o : Int))) none none) (c2 :: (rest ++ [(trL x 14).map .int])) =
      .nx (uE (some (ev (x :: r))) q2 (some (.int (k : Int))) (some (ev (wpowL x r 2))) (some (.ref (c1 :: rest).length)) (some (.int x)) (some (ev (wpowL x r 13))) (some (.int (o : Int))) q9 none) (c2 :: (rest ++ [(trL x 14).map .int])) by
    obtain ⟨q9, E⟩ := E
    exact (q_seq E).trans (q_ret rfl)
  by_cases hz : (wpowL x r 2).tail.filter (fun y => !decide (y = 0)) = []
  · exact ⟨none, (q_if0 ((q_val F).trans (by rw [decide_eq_true hz]; rfl))).trans rfl⟩
  · have rk : rootsOk (x :: r) (wpowL x r 2) = true := by
      rcases U.roots with q | q
      · exact absurd (List.filter_eq_nil_iff.mpr fun y hy => by simp [q y hy]) hz
      · exact q
    have rg : ringB (wpowL x r 2) = true := by rw [← wp_mod U]; exact U.ring _ (Nat.mod_lt _ U.o0)
    have sb : ∀ y ∈ wpowL x r 2, -2 ≤ y ∧ y ≤ 2 := by
      intro y hy
      have h4 : sqR (wpowL x r 2) = 4 := by
        have := rk
        simp only [rootsOk, Bool.and_eq_true, decide_eq_true_eq] at this
        have := this.1.1.1.1.1.1.1
        rw [sq_by] at this
        omega
      have := abs_of_sq (m := 2) (by have := sq_mem hy; rw [h4] at this; exact this)
      omega
    refine ⟨some (.lst ((srt ltI [x :: r, byR (x :: r) (-1)]).map ev)), (q_if1 ((q_val F).trans (by rw [decide_eq_false hz]; rfl))).trans ?_⟩
    refine (q_seq (q_asg (q_call (q_one rfl) (s_whole_roots wl rg sb rk)) rfl)).trans ?_
    refine (q_seq ((q_if0 ((q_val (q_neLE (r := srt ltI [x :: r, byR (x :: r) (-1)]) (s := srt ltI [x :: r, byR (x :: r) (-1)]) rfl ((q_blt (q_one (q_lst0 (xs := [x :: r, byR (x :: r) (-1)].map ev) (q_two rfl (q_call (q_two rfl rfl) (s__law_by (by omega) (.inl U.ok.sm)))) (by simp)))).trans (b_sortR (L := [x :: r, byR (x :: r) (-1)]) rfl (by simp) (by simp))))).trans (by simp))).trans rfl)).trans rfl
end LawK80
-- text K80j
namespace LawK80
open PySem PySem.Spec Mn
theorem small_ite (p : Prop) [Decidable p] : small (if p then 1 else 0) = true := by split <;> decide
theorem s__law_box {c : Int} : ∃ cell, TC 0 cell ∧ D__law_box [.lst [.int c], .int 0] [] = .ok (.ref 0) [cell] := by
  refine ⟨[.int ((if c < 0 then -c else c) * (if decide ((10 : Int) ^ 18 ≤ (if c < 0 then -c else c)) then 1 else 0)), .int (Int.fmod c 2305843009213693951 + 39373 * 0 + 9213080), .int 0], ⟨_, _, _, rfl, by omega, by omega⟩, ?_⟩
  have B : b__law_box ([.lst [.int c], .int 0].map some ++ List.replicate (3 - 2) none) [] = .rt (.ref 0) [[.int ((if c < 0 then -c else c) * (if decide ((10 : Int) ^ 18 ≤ (if c < 0 then -c else c)) then 1 else 0)), .int (Int.fmod c 2305843009213693951 + 39373 * 0 + 9213080), .int 0]] := by
    refine (q_seq (q_asg (v := .int c) ((q_dif1 (h1 := []) rfl).trans rfl) rfl)).trans (q_ret ?_)
    have A : dBlt bAbs (lCons (dVar 2) (lNil)) [some (.lst [.int c]), some (.int 0), some (.int c)] [] = some (.int (if c < 0 then -c else c), []) := rfl
    have G : dCmp .GtE (dBlt bAbs (lCons (dVar 2) (lNil))) (dBin 0 .Pow (dC (.int 10)) (dC (.int 18))) [some (.lst [.int c]), some (.int 0), some (.int c)] [] = some (.bl (decide ((10 : Int) ^ 18 ≤ (if c < 0 then -c else c))), []) := by
      rw [q_cmp A (show dBin 0 .Pow (dC (.int 10)) (dC (.int 18)) [some (.lst [.int c]), some (.int 0), some (.int c)] [] = some (.int (10 ^ 18), []) from rfl)]
      rfl
    have I : dBlt bInt (lCons (dCmp .GtE (dBlt bAbs (lCons (dVar 2) (lNil))) (dBin 0 .Pow (dC (.int 10)) (dC (.int 18)))) (lNil)) [some (.lst [.int c]), some (.int 0), some (.int c)] [] = some (.int (if decide ((10 : Int) ^ 18 ≤ (if c < 0 then -c else c)) then 1 else 0), []) := by
      rw [q_blt (q_one G)]; rfl
    have L : ∀ (a b c : Den) (e : Mn.Env) (x y z : PV), a e [] = some (x, []) → b e [] = some (y, []) → c e [] = some (z, []) → dLst 1 (lCons a (lCons b (lCons c lNil))) e [] = some (.ref 0, [[x, y, z]]) := by
      intro a b c e x y z ha hb hc
      simp only [dLst, q_cons ha (q_two hb hc)]
      exact e_mkL1 (by simp)
    refine L _ _ _ _ _ _ _ (q_mulR A I (small_ite _)) (q_add (q_add (q_mod (q_int rfl) rfl (by decide)) (q_mulL rfl rfl (by decide))) rfl) rfl
  show runF true 2 3 b__law_box [.lst [.int c], .int 0] [] = _
  have : runF true 2 3 b__law_box [.lst [.int c], .int 0] [] = (match b__law_box ([.lst [.int c], .int 0].map some ++ List.replicate (3 - 2) none) [] with
    | .rt v h1 => fin true 0 v h1
    | .nx _ h1 => fin true 0 .non h1
    | _ => .bad) := rfl
  rw [this, B]
  rfl
theorem enum_some {ns : List Int} (lo hi : Option Int) : cutP (ns.map .int) lo hi = ((ns.drop (HT.sIx ns.length 0 lo)).take (HT.sIx ns.length ns.length hi - HT.sIx ns.length 0 lo)).map .int := by
  simp [cutP, List.map_drop, List.map_take]
abbrev bK : SDen := (sSeq (sAsg (dBin 0 .Mod (dBlt bInt (lCons (dVar 3) (lNil))) (dVar 1)) (gA (aName 5))) (sSeq (sAsg (dBin 0 .Add (dIx (dVar 2) (dVar 5)) (dBin 0 .Mult (dVar 4) (dBin 0 .Add (dVar 3) (dC (.int 2))))) (gSub (dVar 2) (dVar 5))) (sNext)))
theorem s__law_cells {ns : List Int} (hl : ns.length ≤ 63) : ∃ c : Int, D__law_cells [.scr (ns.map .int), .int 1] [] = .ok (.lst [.int c]) [] := by
  obtain ⟨pre, c0, C⟩ : ∃ (pre : MH) (c0 : Int), dOr (dBlt (bList 1) (lCons (dSl 0 (dVar 0) (oNon) (oSome (dVar 1))) (lNil))) (dLst 1 (lCons (dC (.int 0)) (lNil))) [some (.scr (ns.map .int)), some (.int 1), none, none, none, none] [] = some (.ref pre.length, pre ++ [[.int c0]]) := by
    cases ns with
    | nil => exact ⟨[[]], 0, rfl⟩
    | cons c r =>
      refine ⟨[], c, ?_⟩
      have cut : cutP ((c :: r).map PV.int) none (some 1) = [.int c] := by
        rw [enum_some, HT.sIx_none, show (some (1 : Int)) = some ((1 : Nat) : Int) from rfl, HT.sIx_nat, List.length_cons, show min 1 (r.length + 1) = 1 by omega]
        rfl
      have S : dSl 0 (dVar 0) (oNon) (oSome (dVar 1)) [some (.scr ((c :: r).map .int)), some (.int 1), none, none, none, none] [] = some (.lst [.int c], []) := by
        have e0 : dSl 0 (dVar 0) (oNon) (oSome (dVar 1)) [some (.scr ((c :: r).map .int)), some (.int 1), none, none, none, none] [] = mkL 0 (cutP ((c :: r).map PV.int) none (some 1)) [] := rfl
        rw [e0, cut]
        exact e_mkL0 (by simp)
      have B : dBlt (bList 1) (lCons (dSl 0 (dVar 0) (oNon) (oSome (dVar 1))) (lNil)) [some (.scr ((c :: r).map .int)), some (.int 1), none, none, none, none] [] = some (.ref 0, [[.int c]]) := by
        rw [q_blt (q_one S)]; rfl
      simp only [dOr, B]
      rfl
  generalize hcs : (ns.drop (HT.sIx ns.length 0 (some 1))).take (HT.sIx ns.length ns.length (some 63) - HT.sIx ns.length 0 (some 1)) = cs
  have csl : cs.length ≤ 63 := by rw [← hcs, List.length_take, List.length_drop]; omega
  have I : iEn (dSl 0 (dVar 0) (oSome (dVar 1)) (oSome (dC (.int 63)))) [some (.scr (ns.map .int)), some (.int 1), some (.ref pre.length), none, none, none] (pre ++ [[.int c0]]) = some (.st ((cs.zipIdx 0).map fun p => .tup [.int (p.2 : Int), .int p.1]), pre ++ [[.int c0]]) := by
    have S : dSl 0 (dVar 0) (oSome (dVar 1)) (oSome (dC (.int 63))) [some (.scr (ns.map .int)), some (.int 1), some (.ref pre.length), none, none, none] (pre ++ [[.int c0]]) = some (.lst (cs.map .int), pre ++ [[.int c0]]) := by
      have e0 : dSl 0 (dVar 0) (oSome (dVar 1)) (oSome (dC (.int 63))) [some (.scr (ns.map .int)), some (.int 1), some (.ref pre.length), none, none, none] (pre ++ [[.int c0]]) = mkL 0 (cutP (ns.map PV.int) (some 1) (some 63)) (pre ++ [[.int c0]]) := rfl
      rw [e0, enum_some, hcs]
      exact e_mkL0 (by rw [List.length_map]; omega)
    simp only [iEn, S, stV, enumL_ints]
  obtain ⟨e', h', a1, c, q3, q4, q5, a2, a3⟩ := q_forN (it := iEn (dSl 0 (dVar 0) (oSome (dVar 1)) (oSome (dC (.int 63))))) (asg := (aTup 2 (aCons (aName 3) (aCons (aName 4) (aNil))))) (body := bK)
    (e := [some (.scr (ns.map .int)), some (.int 1), some (.ref pre.length), none, none, none]) (h := pre ++ [[.int c0]]) (h1 := pre ++ [[.int c0]]) (g := fun p : Int × Nat => .tup [.int (p.2 : Int), .int p.1]) (xs := cs.zipIdx 0)
    (fun (s : Unit) _ => s) (fun _ _ e h' => ∃ c q3 q4 q5, e = [some (.scr (ns.map .int)), some (.int 1), some (.ref pre.length), q3, q4, q5] ∧ h' = pre ++ [[.int c]]) () I ⟨c0, none, none, none, rfl, rfl⟩
    (by
      rintro ⟨b, k⟩ hp i s e h' hi ⟨c, q3, q4, q5, rfl, rfl⟩
      have hk : k < 63 := by have := List.mem_zipIdx hp; omega
      have f1 : Int.fmod (k : Int) 1 = 0 := by rw [Int.fmod_eq_emod_of_nonneg _ (by decide)]; omega
      refine ⟨_, [some (.scr (ns.map .int)), some (.int 1), some (.ref pre.length), some (.int (k : Int)), some (.int b), some (.int 0)], pre ++ [[.int (c + b * ((k : Int) + 2))]], rfl, .inl ?_, _, _, _, _, rfl, rfl⟩
      refine (q_seq (q_asg (v := .int 0) ((q_mod (q_int rfl) rfl (by decide)).trans (by rw [f1])) rfl)).trans ?_
      refine (q_seq (q_asg (v := .int (c + b * ((k : Int) + 2))) (q_add (q_ix (x := .ref pre.length) (i := 0) rfl rfl (getHL _ _) (atI_hd _ _)) (q_mulR rfl (q_add rfl rfl) (by rw [small_iff]; omega))) (q_gsub (j := 0) rfl rfl (getHL _ _) (ixN_ok (by omega) (by simp)) rfl))).trans ?_
      rw [setHL]
      rfl)
  rw [a2, a3] at a1
  refine ⟨c, ?_⟩
  have B : b__law_cells ([.scr (ns.map .int), .int 1].map some ++ List.replicate (6 - 2) none) [] = .rt (.ref pre.length) (pre ++ [[.int c]]) := by
    refine (q_seq (q_asg C rfl)).trans ?_
    refine (q_seq a1).trans (q_ret rfl)
  show runF false 2 6 b__law_cells [.scr (ns.map .int), .int 1] [] = _
  rw [run_rt rfl B]
  have nl : Nat.blt pre.length ([] : MH).length = false := by
    cases e : Nat.blt pre.length ([] : MH).length with
    | false => rfl
    | true => have := Nat.blt_eq.mp e; simp at this
  simp only [fin, nl, getHL]
  rfl
theorem lcGo_true {α : Type} {asg : Asg} {tst : TDen} {elt : Den} {env : Mn.Env} {rest : MH} (g : α → PV) (N d : Nat) : ∀ (xs : List α) (n : Nat) (cell : List PV),
    (∀ x ∈ xs, ∀ n cell, TC n cell → n ≤ N → ∃ e cell', asg (g x) env = some e ∧ tst e (cell :: rest) = some (true, cell :: rest) ∧ elt e (cell :: rest) = some (.bl true, cell' :: rest) ∧ TC (n + d) cell') →
    TC n cell → n + d * xs.length ≤ N → ∃ (cell' : List PV), lcGo asg tst elt env (xs.map g) (cell :: rest) = some (xs.map fun _ => .bl true, cell' :: rest)
  | [], n, cell, _, ht, _ => ⟨cell, rfl⟩
  | x :: xs, n, cell, hb, ht, hN => by
    have hN' : n + d + d * xs.length ≤ N := by simp only [List.length_cons, Nat.mul_add] at hN; omega
    obtain ⟨e, cell', a1, a2, a3, a5⟩ := hb x (List.mem_cons_self ..) n cell ht (by omega)
    obtain ⟨c2, b1⟩ := lcGo_true g N d xs (n + d) cell' (fun y hy => hb y (List.mem_cons_of_mem _ hy)) a5 hN'
    refine ⟨c2, ?_⟩
    rw [List.map_cons]
    unfold lcGo
    rw [a1]
    simp only [a2, a3, b1, List.map_cons]
theorem law_true (ns : List Int) (hl : ns.length ≤ 63) : ∃ h', D_law [.scr (ns.map .int)] [] = .ok (.bl true) h' := by
  obtain ⟨c, hc⟩ := s__law_cells hl
  obtain ⟨cell, ht, hb⟩ := s__law_box (c := c)
  obtain ⟨cell', h1⟩ := lcGo_true (asg := aName 2) (tst := tYesD) (elt := (dAnd (dCall D__law_units_right (lCons (dVar 1) (lNil))) (dCall D__law_eights_right (lCons (dVar 1) (lNil))))) (env := [some (.scr (ns.map .int)), some (.ref 0), none]) (rest := []) (fun i : Nat => PV.int (i : Int)) 800000 80 (List.range 4) 0 cell
    (fun x hx n cell ht hn => by
      obtain ⟨c1, t1, u1⟩ := s_units (rest := []) ht (by omega)
      obtain ⟨c2, t2, u2⟩ := s_eights (rest := []) t1 (by omega)
      exact ⟨_, c2, rfl, rfl, (q_and1 (q_call (q_one rfl) u1)).trans (q_call (q_one rfl) u2), t2⟩) ht (by simp)
  refine ⟨[], done_h (h1 := [cell']) rfl ?_ rfl rfl rfl⟩
  refine (q_seq (q_asg (v := .ref 0) (h1 := [cell]) (q_call (q_two (q_call (q_two rfl rfl) hc) rfl) hb) rfl)).trans (q_ret ?_)
  have A : (List.range 4).all (fun _ => true) = true := by decide
  rw [← A]
  refine q_allL (α := Nat) (r := List.range 4) (p := fun _ => true) ?_
  have R : iRg1 (dC (.int 4)) [some (.scr (ns.map .int)), some (.ref 0), none] [cell] = some (.st ((List.range 4).map fun (i : Nat) => PV.int (i : Int)), [cell]) := q_rg (n := 4) rfl (by decide)
  show dLc 0 (iRg1 (dC (.int 4))) _ _ _ _ [some (.scr (ns.map .int)), some (.ref 0), none] [cell] = _
  simp only [dLc, R]
  have h1' : lcGo (aName 2) tYesD (dAnd (dCall D__law_units_right (lCons (dVar 1) (lNil))) (dCall D__law_eights_right (lCons (dVar 1) (lNil)))) (wipe [some (.scr (ns.map .int)), some (.ref 0), none] [2]) ((List.range 4).map fun (i : Nat) => PV.int (i : Int)) [cell] = some ((List.range 4).map fun _ => .bl true, [cell']) := h1
  rw [h1']
  rfl
end LawK80
-- text LawK80True

-- text LawK80End
set_option maxHeartbeats 0
namespace LawK80
open PySem PySem.Spec L2 Mn PyProof.Rows
theorem run (w : World) : HandSHeadRun.RunEqI R (PySem.W.view R.prog [0, 105]) hk ob 20000 los w := PySem.W.byRow2 "special-get-raises" (P := fun w => HandSHeadRun.RunEqI R (PySem.W.view R.prog [0, 105]) hk ob 20000 los w) run0 run1 w
end LawK80
open PySem PySem.W PySem.Calls PyProof.Rows
theorem PySem.Challenge.cw_eightparts_k80_main_across_powers_traces_holds : PySem.Challenge.rw_eightparts_k80_main_across_powers_traces.Holds := by
  w_on; o_law
  refine HandSHeadRun.head_imp (r := OpenLaw.row PySem.Challenge.rw_eightparts_k80_main_across_powers_traces) (q := view (OpenLaw.row PySem.Challenge.rw_eightparts_k80_main_across_powers_traces).prog [0, 105]) (H := LawK80.hk) (ob := LawK80.ob) (M := 20000) (loose := LawK80.los) (d := HandSHeadRun.topDef (OpenLaw.row PySem.Challenge.rw_eightparts_k80_main_across_powers_traces).prog 105) (kwd := []) LawK80.ob_eq
    LawK80.run (by kernel_rfl) (by kernel_rfl) (by kernel_rfl) (by rfl) (by first | assumption | decide +kernel) (by decide +kernel) ⟨rfl, rfl, rfl, rfl, rfl, by decide +kernel⟩ ?hw ?hc
  case hw => w_witness2
  case hc =>
    refine L2.walk_ofE (l := PySem.Challenge.rw_eightparts_k80_main_across_powers_traces) (n := 63) (k := 10) (x := "script") (CX := fun outer H s E e s' => ∃ w, L2.CX (OpenLaw.row PySem.Challenge.rw_eightparts_k80_main_across_powers_traces).prog w outer H s E e s') rfl (by decide) (by kernel_rfl) ⟨rfl, by decide, by decide⟩ ?F (fun H s e s' ⟨w, h⟩ => Mn.cx_no H s e s' h)
    intro w mg fa h Y G hmg0
    obtain ⟨K, KX, c⟩ := Y
    have hmg : mg ("law" : PySem.Str) = some (.ref fa) := by
      have e : (HandSHeadRun.topDef (OpenLaw.row PySem.Challenge.rw_eightparts_k80_main_across_powers_traces).prog 105).name = ("law" : PySem.Str) := by kernel_rfl
      rw [← e]
      exact hmg0
    obtain ⟨f, fd, m, b, F⟩ := LawK80.chain (P := (PySem.Challenge.rw_eightparts_k80_main_across_powers_traces).prog) (w := w) KX G c
    have ef := hmg.symm.trans m
    cases ef
    exact ⟨K, fd, Mn.spD K mg 1 LawK80.D_law, KX, b, fun H a ns hl ho hS => Mn.law_sp ho hS (LawK80.law_true ns hl), fun base _ _ => Mn.fn_cx (F base) fun _ _ _ _ _ _ h => ⟨w, h⟩⟩
