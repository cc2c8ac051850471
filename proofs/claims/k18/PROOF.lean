import PyProof.Rows.All
import HandS.ForMost
import HandS.TupAny
import HandS.Wide
import HandS.IsInst
import HandS.SortInts
import HandS.TryMany
import HandS.Lambda
import HandS.ExcInit
import HandS.Style
import HandS.Zip
import HandS.ListItems
import HandS.DictComp
import HandS.Star
import KE.KSortTupG
import HandS.More
import KE.KIsAll
import PyProof.InstEq
import PyProof.IsiBase
import PyProof.IsiH_set
import PyProof.FactsAll.object_1
import HandS.Conv
import KE.KSortTup
import HandS.SortOrd
import HandS.SortRule
import HandS.TryOnly
import HandS.Iter
import HandS.CallLocal
import Open.SpecLaws
import HandS.Exc
import HandS.ExcOwn
import HandS.ForSpec
import HandS.Head0
import HandS.Head1
import HandS.Head2
import HandS.HeadEnd
import HandS.HeadHook1
import HandS.HeadHook2
import HandS.EndTab
import KE.KNestM
import PySem.Challenge.RW_roundlengths_k18_whole_roads
section
set_option linter.all false
set_option maxRecDepth 100000
/-! Ev: plain data, an own small language, its evaluator. -/
namespace Ev
open PySem

/-- data: sh k is the k-th shared thing of the store; fn, cls: the program's own defs and classes -/
inductive D where
  | non | bl (b : Bool) | int (i : Int) | str (x : Str) | ty (n : String)
  | fn (i : Nat) | cls (i : Nat)
  | tup (xs : List D) | lst (xs : List D) | ro (xs : List D)
  | dic (ks vs : List D)
  | sh (k : Nat)
  deriving Inhabited

/-- built-in calls -/
inductive BI where
  | len | list | tuple | int | sorted | sum | all | any | min1 | max1 | min2 | max2 | abs | dict1 | lrange1 | lrange2 | litems | str | bool | max3 | sum2
  deriving DecidableEq, Inhabited
/-- methods -/
inductive MI where
  | append | extend | pop0 | pop1 | count | index | get1 | get2 | join | insert | clear | update | setdefault | split | startswith
  deriving DecidableEq, Inhabited

/-- a target: a slot, or several -/
inductive Tg where
  | nm (i : Nat)
  | tp (ts : List Tg)
  deriving Inhabited

mutual
inductive E where
  | var (i : Nat)
  | cst (d : D)
  | share (e : E)
  | bin (op : Operator) (a b : B)
  | neg (a : B)
  | cmp (op : CmpOp) (a b : B)
  | chn (a : B) (op : CmpOp) (b : B) (r : Ch)
  | not (a : B)
  | one (a : E)
  | and (a r : E)
  | or (a r : E)
  | ife (t : T) (a b : E)
  | lst (es : Es)
  | tup (es : Es)
  | dsp (ks vs : Es)
  | idx (a i : B)
  | slc (a : B) (lo hi : O)
  | call (f : Nat) (es : Es) (pm : List Nat)
  | cllv (i : Nat) (es : Es)
  | bcl (b : BI) (es : Bs)
  | isi (a : B) (tys : List D)
  | mth (m : MI) (a : B) (es : Bs)
  | app (a : B) (e : E)
  | lc (elt : E) (tg : Tg) (it : It) (ifs : Ts) (own : List Nat)
  | met (f : Nat) (body : E) (fz : List Nat)
  | nev
inductive B where
  | var (i : Nat)
  | of (e : E)
inductive T where
  | of (a : B)
  | cmp (op : CmpOp) (a b : B)
  | chn (a : B) (op : CmpOp) (b : B) (r : Ch)
  | not (t : T)
  | one (t : T)
  | and (t r : T)
  | or (t r : T)
inductive Ch where
  | nil
  | cons (op : CmpOp) (b : B) (r : Ch)
inductive O where
  | no
  | so (e : B)
inductive Es where
  | nil
  | cons (e : E) (r : Es)
  | star (e : B) (r : Es)
inductive Bs where
  | nil
  | cons (e : B) (r : Bs)
inductive Ts where
  | nil
  | cons (t : T) (r : Ts)
inductive It where
  | seq (e : B) (hid : Bool)
  | rng1 (e : B)
  | rng2 (a b : B)
  | zip (es : Es)
  | enm (es : Es)
  | items (a : B)
  | keys (i : Nat)
end
instance : Inhabited E := ⟨.cst .non⟩

mutual
inductive St where
  | exp (e : E)
  | asg (t : Tg) (e : E)
  | par (is : List Nat) (es : Es)
  | aug (i : Nat) (op : Operator) (e : B)
  | sto (a i : B) (e : E)
  | augs (a i : B) (op : Operator) (e : B)
  | iff (t : T) (a b : Ss)
  | for (tg : Tg) (it : It) (b : Ss)
  | whl (t : T) (b : Ss)
  | ret (e : E)
  | retv (i : Nat)
  | retn
  | rse (c : Nat) (es : Es)
  | brk | cnt | pss | doc | nev
inductive Ss where
  | nil
  | cons (s : St) (r : Ss)
end
instance : Inhabited Ss := ⟨.nil⟩

structure Fn where
  np : Nat
  ns : Nat
  body : Ss
  deriving Inhabited
/-- a def that calls what it got and tells how it ended: the word of a right end; class, word, field of each clause -/
structure Met where
  word : Str
  hs : List (Nat × Str × Nat)
  deriving Inhabited

/-! ### states and results -/
inductive Sl where
  | un | fr (d : D) | ow (d : D)
  deriving Inhabited
structure S where
  env : List Sl
  sh : List D
/-- a value: frozen, or a new thing that nobody else holds -/
inductive Rv where
  | fr (d : D) | ow (d : D)
/-- an operand: a value, or the slot of an owned thing -/
inductive Op where
  | v (d : D) | sl (i : Nat)
inductive Res (α : Type) where
  | ok (a : α) (s : S)
  | ex (c : Nat) (ds : List D) (s : S)
  | er
inductive Out where
  | nx (s : S) | rt (r : Rv) (s : S) | bk (s : S) | ct (s : S)
  | ex (c : Nat) (ds : List D) (s : S)
  | er
inductive FR where
  | ok (r : Rv) (sh : List D)
  | ex (c : Nat) (ds : List D) (sh : List D)
  | er
abbrev Rho := Nat → List D → List D → FR

@[inline] def Res.bind {α β : Type} (r : Res α) (f : α → S → Res β) : Res β := match r with
  | .ok a s => f a s
  | .ex c ds s => .ex c ds s
  | .er => .er
@[inline] def Res.out {α : Type} (r : Res α) (f : α → S → Out) : Out := match r with
  | .ok a s => f a s
  | .ex c ds s => .ex c ds s
  | .er => .er
def Rv.d : Rv → D
  | .fr d => d
  | .ow d => d

def slot (env : List Sl) (i : Nat) : Sl := env.getD i .un
def S.set (s : S) (i : Nat) (x : Sl) : S := ⟨s.env.set i x, s.sh⟩
def S.get (s : S) (i : Nat) : Sl := s.env.getD i .un
/-- one look through the store -/
def vw (sh : List D) : D → D
  | .sh k => sh.getD k .non
  | d => d
/-- what an operand holds -/
def cont (s : S) : Op → Option D
  | .v d => some (vw s.sh d)
  | .sl i => match s.get i with
    | .ow d => some d
    | .fr d => some (vw s.sh d)
    | .un => none
def cont2 {α : Type} (s : S) (x y : Op) (f : D → D → Option α) : Option α := (cont s x).bind fun a => (cont s y).bind fun b => f a b
def conts (s : S) : List Op → Option (List D)
  | [] => some []
  | x :: xs => (cont s x).bind fun d => (conts s xs).map (d :: ·)
/-- an operand as a frozen value -/
def fz (s : S) : Op → Res D
  | .v d => .ok d s
  | .sl i => match s.get i with
    | .ow d => .ok d (s.set i (.fr d))
    | .fr d => .ok d s
    | .un => .er

/-! ### operations on data -/
def items : D → Option (List D)
  | .tup xs => some xs
  | .lst xs => some xs
  | .ro xs => some xs
  | _ => none
def itemsL : D → Option (List D)
  | .lst xs => some xs
  | .ro xs => some xs
  | _ => none
def itemsT : D → Option (List D)
  | .tup xs => some xs
  | _ => none
def truth : D → Option Bool
  | .non => some false
  | .bl b => some b
  | .int i => some (i != 0)
  | .str x => if x.length ≤ sizeLine then some (decide (x.length ≠ 0)) else none
  | .tup xs => some (!xs.isEmpty)
  | .lst xs => some (!xs.isEmpty)
  | .ro xs => some (!xs.isEmpty)
  | _ => none
/-- == item by item -/
def eqDs (f : D → D → Option Bool) : List D → List D → Option Bool
  | [], [] => some true
  | x :: xs, y :: ys => (f x y).bind fun c => (eqDs f xs ys).map fun r => c && r
  | [], _ :: _ => some false
  | _ :: _, [] => some false
/-- == of data, so many deep; none where it is not known here -/
def eqD (sh : List D) : Nat → D → D → Option Bool
  | _, .non, .non => some true
  | _, .bl a, .bl b => some (a == b)
  | _, .int a, .int b => some (a == b)
  | _, .bl a, .int b => some ((if a then 1 else 0) == b)
  | _, .int a, .bl b => some (a == (if b then 1 else 0))
  | _, .str a, .str b => some (a == b)
  | n + 1, .tup xs, .tup ys => eqDs (eqD sh n) xs ys
  | n + 1, .lst xs, .lst ys => if xs.length = ys.length then eqDs (eqD sh n) xs ys else some false
  | _, .non, .bl _ => some false | _, .non, .int _ => some false | _, .non, .str _ => some false | _, .non, .tup _ => some false | _, .non, .lst _ => some false
  | _, .bl _, .non => some false | _, .int _, .non => some false | _, .str _, .non => some false | _, .tup _, .non => some false | _, .lst _, .non => some false
  | _, .bl _, .str _ => some false | _, .bl _, .tup _ => some false | _, .bl _, .lst _ => some false
  | _, .str _, .bl _ => some false | _, .tup _, .bl _ => some false | _, .lst _, .bl _ => some false
  | _, .int _, .str _ => some false | _, .int _, .tup _ => some false | _, .int _, .lst _ => some false
  | _, .str _, .int _ => some false | _, .tup _, .int _ => some false | _, .lst _, .int _ => some false
  | _, .str _, .tup _ => some false | _, .str _, .lst _ => some false | _, .tup _, .str _ => some false | _, .lst _, .str _ => some false
  | _, .tup _, .lst _ => some false | _, .lst _, .tup _ => some false
  | _, .sh k, .str _ => (match sh.getD k .non with
    | .lst _ => some false
    | _ => none)
  | _, _, _ => none
/-- how deep == looks -/
def dp : Nat := 60
def intsOf : List D → Option (List Int)
  | [] => some []
  | .int i :: r => (intsOf r).map (i :: ·)
  | _ => none
/-- < of numbers, texts, tuples of numbers -/
def ltD : D → D → Option Bool
  | .int a, .int b => some (decide (a < b))
  | .str a, .str b => some (decide (a.cps.toList < b.cps.toList))
  | .tup xs, .tup ys => (intsOf xs).bind fun ns => (intsOf ys).map fun ms => HT.lexLt ns ms
  | _, _ => none
/-- x into an ascending list, behind what is no greater -/
def ins (x : D) : List D → Option (List D)
  | [] => some [x]
  | y :: ys => match ltD x y with
    | some true => some (x :: y :: ys)
    | some false => (ins x ys).map (y :: ·)
    | none => none
def isort : List D → Option (List D)
  | [] => some []
  | x :: xs => (isort xs).bind (ins x)
def mulOk (a b : Int) : Bool := decide (a.natAbs < 2 ^ 64) || decide (b.natAbs < 2 ^ 64) || decide (a.natAbs.log2 + b.natAbs.log2 < 1000000)
def divOk (b : Int) : Bool := decide (b ≠ 0 ∧ b.natAbs < 1073741824) || decide (0 < b ∧ b.natAbs.log2 < 9000)
def binop (op : Operator) (x y : D) : Option Rv := match op, x, y with
  | .Add, .int a, .int b => some (.fr (.int (a + b)))
  | .Sub, .int a, .int b => some (.fr (.int (a - b)))
  | .Mult, .int a, .int b => if mulOk a b then some (.fr (.int (a * b))) else none
  | .Mod, .int a, .int b => if b ≠ 0 then some (.fr (.int (a.fmod b))) else none
  | .FloorDiv, .int a, .int b => if divOk b then some (.fr (.int (a.fdiv b))) else none
  | .Pow, .int a, .int b => if 0 ≤ b ∧ b ≤ 1000000 ∧ a.natAbs < 2 ^ 64 then some (.fr (.int (a ^ b.toNat))) else none
  | .Add, .lst xs, .lst ys => if xs.length + ys.length ≤ sizeLine then some (.ow (.lst (xs ++ ys))) else none
  | .Add, .tup xs, .tup ys => if xs.length + ys.length ≤ sizeLine ∧ xs ≠ [] ∧ ys ≠ [] then some (.fr (.tup (xs ++ ys))) else none
  | .Add, .str x, .str y => if x.length + y.length ≤ sizeLine then some (.fr (.str (x ++ y))) else none
  | .Mult, .lst xs, .int k => if -(2 ^ 63) ≤ k ∧ k < 2 ^ 63 ∧ xs.length * k.toNat ≤ sizeLine then some (.ow (.lst (List.replicate k.toNat xs).flatten)) else none
  | _, _, _ => none
/-- a op= b -/
def ipop (op : Operator) (x y : D) : Option D := match op, x, y with
  | .Add, .int a, .int b => some (.int (a + b))
  | .Sub, .int a, .int b => some (.int (a - b))
  | .Mult, .int a, .int b => if a.natAbs < 2 ^ 64 ∨ b.natAbs < 2 ^ 64 then some (.int (a * b)) else none
  | .Mod, .int a, .int b => if 0 < b then some (.int (a % b)) else none
  | .FloorDiv, .int a, .int b => if 0 < b ∧ b < 1073741824 then some (.int (a / b)) else none
  | .Add, .str x, .str y => if x.length + y.length ≤ sizeLine then some (.str (x ++ y)) else none
  | _, _, _ => none
def negOpt (neg : Bool) : Option Bool → Option Bool := Option.map fun b => if neg then !b else b
def inD (sh : List D) (x : D) : List D → Option Bool
  | [] => some false
  | y :: ys => (eqD sh dp y x).bind fun c => (inD sh x ys).map fun r => c || r
/-- the place of a key -/
def keyAt (ks : List D) (k : D) : Option Nat := ks.findIdx? fun q => match eqD [] 2 q k with | some b => b | none => false
def isKey : D → Bool
  | .int _ => true
  | .str _ => true
  | _ => false
def keyOk : D → Bool
  | .int _ => true
  | .str _ => true
  | .tup xs => xs.all fun | .int _ => true | .str _ => true | _ => false
  | _ => false
def isNon : D → Bool
  | .non => true
  | _ => false
def isFn : D → Bool
  | .fn _ => true
  | _ => false
def eqF : D → D → Option Bool
  | .fn a, .fn b => if a == b then some true else none
  | _, _ => none
def cmpD (sh : List D) (op : CmpOp) (x y : D) : Option Bool := match op with
  | .Eq => if isFn x then eqF x y else eqD sh dp x y
  | .NotEq => (eqD sh dp x y).map (!·)
  | .Lt => ltD x y
  | .Gt => (match x, y with | .int a, .int b => some (decide (b < a)) | _, _ => none)
  | .LtE => (match x, y with | .int a, .int b => some (decide (a ≤ b)) | _, _ => none)
  | .GtE => (match x, y with | .int a, .int b => some (decide (b ≤ a)) | _, _ => none)
  | .Is => if isNon y then some (isNon x) else none
  | .IsNot => if isNon y then some (!isNon x) else none
  | .In => (match y with
    | .lst ys => inD sh x ys
    | .tup ys => inD sh x ys
    | _ => none)
  | .NotIn => (match y with
    | .lst ys => (inD sh x ys).map (!·)
    | .tup ys => (inD sh x ys).map (!·)
    | _ => none)
/-- the kind of a thing -/
def tyOf : D → String
  | .non => "NoneType" | .bl _ => "bool" | .int _ => "int" | .str _ => "str" | .ty _ => "type"
  | .fn _ => "function" | .cls _ => "type" | .tup _ => "tuple" | .lst _ => "list" | .ro _ => "list" | .dic _ _ => "dict" | .sh _ => ""
def isTy (d : D) : List D → Bool
  | [] => false
  | .ty n :: r => tyOf d == n || (tyOf d == "bool" && n == "int") || isTy d r
  | _ :: r => isTy d r
def okTy : D → Bool
  | .fn _ => true
  | .non => true | .bl _ => true | .int _ => true | .str _ => true | .tup _ => true | .lst _ => true | .ro _ => true | .dic _ _ => true
  | _ => false
def okTg : D → Bool
  | .ty n => n == "bool" || n == "int" || n == "str" || n == "list" || n == "tuple" || n == "dict"
  | _ => false
def isTyO (d : D) (ts : List D) : Option Bool := if okTy d && ts.all okTg then some (isTy d ts) else none
def idxD (x y : D) : Option D := match x, y with
  | .lst xs, .int i => (L2.ixN xs.length i).bind fun j => xs[j]?
  | .tup xs, .int i => (L2.ixN xs.length i).bind fun j => xs[j]?
  | .ro xs, .int i => (L2.ixN xs.length i).bind fun j => xs[j]?
  | .str z, .int i => if z.length ≤ sizeLine then (L2.ixN z.cps.toList.length i).bind fun j => (z.cps.toList[j]?).map fun c => .str ⟨#[c]⟩ else none
  | _, _ => none
def cutL (xs : List D) (lo hi : Option Int) : List D := (xs.drop (HT.sIx xs.length 0 lo)).take (HT.sIx xs.length xs.length hi - HT.sIx xs.length 0 lo)
def slcD (x : D) (lo hi : Option Int) : Option Rv := match x with
  | .lst xs => some (.ow (.lst (cutL xs lo hi)))
  | .ro xs => some (.ow (.lst (cutL xs lo hi)))
  | .tup xs => some (.fr (.tup (cutL xs lo hi)))
  | _ => none
def bools : List D → Option (List Bool)
  | [] => some []
  | .bl b :: r => (bools r).map (b :: ·)
  | _ => none
def maxI : List Int → Option Int
  | [] => none
  | x :: xs => some (xs.foldl max x)
def minI : List Int → Option Int
  | [] => none
  | x :: xs => some (xs.foldl min x)
def rangeD (lo hi : Int) : List D := (List.range (hi - lo).toNat).map fun (k : Nat) => D.int (lo + k)
def rngOk (i : Int) : Bool := decide (-(2 ^ 62) ≤ i ∧ i < 2 ^ 62)
/-- put a pair into a dict's entries: the later value at the elder place -/
def putD (ks vs : List D) (k v : D) : List D × List D := match keyAt ks k with
  | some j => (ks, vs.set j v)
  | none => (ks ++ [k], vs ++ [v])
def pairsD : List D → List D → List D → Option (List D × List D)
  | [], ks, vs => some (ks, vs)
  | .tup [k, v] :: r, ks, vs => if keyOk k then (let p := putD ks vs k v; pairsD r p.1 p.2) else none
  | _, _, _ => none
def zipD : List D → List D → List D
  | x :: xs, y :: ys => .tup [x, y] :: zipD xs ys
  | _, _ => []
def enmD : Nat → List D → List D
  | _, [] => []
  | n, x :: xs => .tup [.int (n : Nat), x] :: enmD (n + 1) xs
def isIntD : D → Bool
  | .int _ => true
  | _ => false
def isTI : D → Bool
  | .tup xs => !xs.isEmpty && (intsOf xs).isSome
  | _ => false
/-- what may be sorted: numbers, or tuples of numbers -/
def srtOk (l : List D) : Bool := l.all isIntD || l.all isTI
def bcl (b : BI) (xs : List D) : Option Rv := match b, xs with
  | .len, [.str x] => if x.length ≤ sizeLine then some (.fr (.int (x.length : Nat))) else none
  | .len, [x] => (items x).map fun l => .fr (.int (l.length : Nat))
  | .list, [x] => (items x).map fun l => .ow (.lst l)
  | .tuple, [x] => (items x).map fun l => .fr (.tup l)
  | .int, [.int i] => some (.fr (.int i))
  | .int, [.bl b] => some (.fr (.int (if b then 1 else 0)))
  | .sorted, [x] => (itemsL x).bind fun l => if srtOk l then (isort l).map fun r => .ow (.lst r) else none
  | .sum, [x] => (itemsL x).bind fun l => (intsOf l).map fun ns => .fr (.int ns.sum)
  | .all, [x] => (itemsL x).bind fun l => (bools l).map fun bs => .fr (.bl (bs.all id))
  | .any, [x] => (itemsL x).bind fun l => (bools l).map fun bs => .fr (.bl (bs.any id))
  | .max1, [x] => (itemsL x).bind fun l => (intsOf l).bind fun ns => (maxI ns).map fun m => .fr (.int m)
  | .min1, [x] => (itemsL x).bind fun l => (intsOf l).bind fun ns => (minI ns).map fun m => .fr (.int m)
  | .max2, [.int i, .int j] => some (.fr (.int (if j > i then j else i)))
  | .min2, [.int i, .int j] => some (.fr (.int (if j < i then j else i)))
  | .abs, [.int i] => some (.fr (.int (if i < 0 then -i else i)))
  | .dict1, [.lst []] => some (.ow (.dic [] []))
  | .lrange1, [.int j] => if rngOk j && decide (j.toNat ≤ sizeLine) then some (.ow (.lst (rangeD 0 j))) else none
  | .lrange2, [.int i, .int j] => if rngOk i && rngOk j && decide ((j - i).toNat ≤ sizeLine) then some (.ow (.lst (rangeD i j))) else none
  | .litems, [.dic [] _] => some (.ow (.lst []))
  | _, _ => none
/-- a method that changes its thing: what it tells, what the thing becomes -/
def mutM (m : MI) (x : D) (as : List D) : Option (D × D) := match m, x, as with
  | .extend, .lst xs, [.lst ys] => if xs.length + ys.length ≤ sizeLine then some (.non, .lst (xs ++ ys)) else none
  | .pop0, .lst xs, [] => (xs[xs.length - 1]?).map fun y => (y, .lst xs.dropLast)
  | .pop1, .lst xs, [.int i] => if -(2 ^ 63) ≤ i ∧ i < 2 ^ 63 then (L2.ixN xs.length i).bind fun k => (xs[k]?).map fun y => (y, .lst (xs.eraseIdx k)) else none
  | _, _, _ => none
/-- x beside each -/
def eqsD (sh : List D) (x : D) : List D → Option (List Bool)
  | [] => some []
  | y :: ys => (eqD sh dp y x).bind fun c => (eqsD sh x ys).map (c :: ·)
def lookM (sh : List D) (m : MI) (x : D) (as : List D) : Option Rv := match m, x, as with
  | .count, .lst xs, [y] => (eqsD sh y xs).map fun bs => .fr (.int (bs.countP id : Nat))
  | .index, .lst xs, [y] => (eqsD sh y xs).bind fun bs => (bs.findIdx? id).map fun j => .fr (.int (j : Nat))
  | _, _, _ => none
def isMut : MI → Bool
  | .append => true | .extend => true | .pop0 => true | .pop1 => true | .insert => true | .clear => true | .update => true | .setdefault => true
  | _ => false
/-- a method's thing is of its kind -/
def kindOk : MI → Option D → Bool
  | .get1, some (.dic _ _) => true
  | .get2, some (.dic _ _) => true
  | .get1, _ => false
  | .get2, _ => false
  | _, some (.lst _) => true
  | _, _ => false
/-- the thing at an operand is changed -/
def put (s : S) (a : Op) (d : D) : Option S := match a with
  | .sl i => (match s.get i with
    | .ow _ => some (s.set i (.ow d))
    | _ => none)
  | .v (.sh k) => if k < s.sh.length then some ⟨s.env, s.sh.set k d⟩ else none
  | .v _ => none

/-! ### evaluation -/
structure Cf where
  fuel : Nat
  rho : Rho
  mets : Nat → Option Met
  ar : List (Nat × Nat)
def ofOpt {α : Type} (o : Option α) (s : S) : Res α := match o with
  | some a => .ok a s
  | none => .er
def boolOf : Rv → Option Bool
  | .fr (.bl b) => some b
  | _ => none
/-- a target takes a value -/
def bindT (f : Nat) : Tg → Rv → S → Option S
  | .nm i, .fr d, s => some (s.set i (.fr d))
  | .nm i, .ow d, s => some (s.set i (.ow d))
  | .tp ts, r, s => match f with
    | 0 => none
    | f + 1 => (match items (vw s.sh r.d) with
      | some xs => if xs.length = ts.length then go f ts xs s else none
      | none => none)
where
  go (f : Nat) : List Tg → List D → S → Option S
    | [], _, s => some s
    | t :: ts, x :: xs, s => (bindT f t (.fr x) s).bind fun s1 => go f ts xs s1
    | _ :: _, [], _ => none
/-- several slots hold what they held before -/
def restore (old : List Sl) : List Nat → List Sl → List Sl
  | [], env => env
  | i :: r, env => (restore old r env).set i (old.getD i .un)
def wipeE : List Nat → List Sl → List Sl
  | [], env => env
  | i :: r, env => (wipeE r env).set i .un
/-- what a walk goes over: these items; the shared list at k -/
inductive Wk where
  | xs (l : List D)
  | hid (i : Nat) (l : List D)
  | shl (k : Nat)
  | zsh (a b : D)
  | esh (a : D)
/-- what a live walk finds at its i-th place: nothing known, the end, a thing -/
def live (sh : List D) (i : Nat) : Wk → Option (Option D)
  | .shl k => (match sh.getD k .non with
    | .lst xs => some xs[i]?
    | _ => none)
  | .zsh a b => (match itemsL (vw sh a), itemsL (vw sh b) with
    | some xs, some ys => some (match xs[i]?, ys[i]? with
      | some x, some y => some (.tup [x, y])
      | _, _ => none)
    | _, _ => none)
  | .esh a => (match itemsL (vw sh a) with
    | some xs => some ((xs[i]?).map fun x => .tup [.int (i : Nat), x])
    | none => none)
  | _ => none
def Wk.own : Wk → List Nat → List Nat
  | .hid i _, own => i :: own
  | _, own => own
def isSh : D → Bool
  | .sh _ => true
  | _ => false
def compL (f : D → S → Res (Option D)) : List D → List D → S → Res (List D)
  | [], acc, s => .ok acc s
  | x :: xs, acc, s => (f x s).bind fun o s1 => match o with
    | some d => if acc.length < sizeLine then compL f xs (acc ++ [d]) s1 else .er
    | none => compL f xs acc s1
def compS (f : D → S → Res (Option D)) (wk : Wk) : Nat → Nat → List D → S → Res (List D)
  | 0, _, _, _ => .er
  | n + 1, i, acc, s => match live s.sh i wk with
    | none => .er
    | some none => .ok acc s
    | some (some x) => (f x s).bind fun o s1 => match o with
      | some d => if acc.length < sizeLine then compS f wk n (i + 1) (acc ++ [d]) s1 else .er
      | none => compS f wk n (i + 1) acc s1
def noEx {α : Type} : Res α → Res α
  | .ok a s => .ok a s
  | _ => .er
def forL (f : D → S → Out) : List D → S → Out
  | [], s => .nx s
  | x :: xs, s => match f x s with
    | .nx s1 => forL f xs s1
    | .ct s1 => forL f xs s1
    | .bk s1 => .nx s1
    | o => o
def forS (f : D → S → Out) (wk : Wk) : Nat → Nat → S → Out
  | 0, _, _ => .er
  | n + 1, i, s => match live s.sh i wk with
    | none => .er
    | some none => .nx s
    | some (some x) => (match f x s with
      | .nx s1 => forS f wk n (i + 1) s1
      | .ct s1 => forS f wk n (i + 1) s1
      | .bk s1 => .nx s1
      | o => o)
def whl (t : S → Res Bool) (b : S → Out) : Nat → S → Out
  | 0, _ => .er
  | n + 1, s => (t s).out fun c s1 => if c then (match b s1 with
    | .nx s2 => whl t b n s2
    | .ct s2 => whl t b n s2
    | .bk s2 => .nx s2
    | o => o) else .nx s1
def Rv.sl : Rv → Sl
  | .fr d => .fr d
  | .ow d => .ow d
def parSet : List Nat → List Rv → S → S
  | i :: is, r :: rs, s => parSet is rs (s.set i r.sl)
  | _, _, s => s
def setSh (s : S) (sh : List D) : S := ⟨s.env, sh⟩
def ofFR (s : S) : FR → Res Rv
  | .ok r sh => .ok r (setSh s sh)
  | .ex c ds sh => .ex c ds (setSh s sh)
  | .er => .er
def permute (pm : List Nat) (ds : List D) : List D := if pm.isEmpty then ds else pm.map fun i => ds.getD i .non
/-- slots frozen; owned slots hidden -/
def frzL : List Nat → S → S
  | [], s => s
  | i :: r, s => match (frzL r s).get i with
    | .ow d => (frzL r s).set i (.fr d)
    | _ => frzL r s
def hide1 : Sl → Sl
  | .ow _ => .un
  | x => x
def hideO (env : List Sl) : List Sl := env.map hide1
/-- the end of a clause -/
def metEnd (m : Met) (env : List Sl) (r : Res Rv) : Res Rv := match r with
  | .ok v s => .ok (.fr (.tup [.str m.word, v.d])) ⟨env, s.sh⟩
  | .ex c ds s => (match m.hs.find? fun h => h.1 == c with
    | some (_, w, j) => (match ds with
      | [d] => if j = 0 then .ok (.fr (.tup [.str w, d])) ⟨env, s.sh⟩ else .er
      | _ => .er)
    | none => .er)
  | .er => .er
def runWk (fuel : Nat) (wk : Wk) (f : D → S → Res (Option D)) (s : S) : Res (List D) := match wk with
  | .xs l => compL f l [] s
  | .hid _ l => compL f l [] s
  | w => compS f w fuel 0 [] s
def wkOf (s : S) (hid : Bool) : Op → Res Wk
  | .sl i => (match s.get i with
    | .ow d => (match items d with
      | some l => if hid then (match d with
        | .lst _ => .ok (.hid i l) s
        | _ => .er) else .ok (.xs l) (s.set i (.fr d))
      | none => .er)
    | _ => .er)
  | .v (.sh k) => (match s.sh.getD k .non with
    | .lst _ => .ok (.shl k) s
    | _ => .er)
  | .v d => (match items d with
    | some l => .ok (.xs l) s
    | none => .er)
def esLen : Es → Nat
  | .nil => 0
  | .cons _ r => esLen r + 1
  | .star _ r => esLen r
mutual
def evE (C : Cf) : E → S → Res Rv
  | .var i, s => (match s.get i with
    | .fr d => .ok (.fr d) s
    | .ow d => .ok (.fr d) (s.set i (.fr d))
    | .un => .er)
  | .cst d, s => .ok (.fr d) s
  | .share e, s => (evE C e s).bind fun r s1 => match r with
    | .ow d => .ok (.fr (.sh s1.sh.length)) (setSh s1 (s1.sh ++ [d]))
    | .fr d => .ok (.fr d) s1
  | .bin op a b, s => (evB C a s).bind fun x s1 => (evB C b s1).bind fun y s2 => ofOpt (cont2 s2 x y (binop op)) s2
  | .neg a, s => (evB C a s).bind fun x s1 => match cont s1 x with
    | some (.int i) => .ok (.fr (.int (-i))) s1
    | _ => .er
  | .cmp op a b, s => (evB C a s).bind fun x s1 => (evB C b s1).bind fun y s2 => ofOpt ((cont2 s2 x y (cmpD s2.sh op)).map fun c => .fr (.bl c)) s2
  | .chn a op b r, s => (evB C a s).bind fun x s1 => (evB C b s1).bind fun y s2 => match cont2 s2 x y (cmpD s2.sh op) with
    | some true => evCh C r y s2
    | some false => .ok (.fr (.bl false)) s2
    | none => .er
  | .not a, s => (evB C a s).bind fun x s1 => ofOpt (((cont s1 x).bind truth).map fun c => .fr (.bl (!c))) s1
  | .one a, s => evE C a s
  | .and a r, s => (evE C a s).bind fun x s1 => match boolOf x with
    | some true => evE C r s1
    | some false => .ok (.fr (.bl false)) s1
    | none => .er
  | .or a r, s => (evE C a s).bind fun x s1 => match boolOf x with
    | some true => .ok (.fr (.bl true)) s1
    | some false => evE C r s1
    | none => .er
  | .ife t a b, s => (evT C t s).bind fun c s1 => if c then evE C a s1 else evE C b s1
  | .lst es, s => (evEs C es s).bind fun ds s1 => if ds.length ≤ sizeLine then .ok (.ow (.lst ds)) s1 else .er
  | .tup es, s => (evEs C es s).bind fun ds s1 => if ds.length ≤ sizeLine then .ok (.fr (.tup ds)) s1 else .er
  | .dsp ks vs, s => (evEs C ks s).bind fun kd s1 => (evEs C vs s1).bind fun vd s2 => if kd.isEmpty || (kd.all fun | .str _ => true | _ => false) then (match pairsD (zipD kd vd) [] [] with
    | some p => .ok (.ow (.dic p.1 p.2)) s2
    | none => .er) else .er
  | .idx a i, s => (evB C a s).bind fun x s1 => (evB C i s1).bind fun y s2 => ofOpt ((cont2 s2 x y idxD).map .fr) s2
  | .slc a lo hi, s => (evB C a s).bind fun x s1 => (evO C lo s1).bind fun l s2 => (evO C hi s2).bind fun h s3 => ofOpt ((cont s3 x).bind fun d => slcD d l h) s3
  | .call f es pm, s => (evEs C es s).bind fun ds s1 => ofFR s1 (C.rho f (permute pm ds) s1.sh)
  | .cllv i es, s => (match s.get i with
    | .fr (.fn f) => if C.ar.contains (f, esLen es) then (evEs C es s).bind fun ds s1 => ofFR s1 (C.rho f ds s1.sh) else .er
    | _ => .er)
  | .bcl b es, s => (evBs C es s).bind fun xs s1 => ofOpt ((conts s1 xs).bind (bcl b)) s1
  | .isi a ts, s => (evB C a s).bind fun x s1 => ofOpt (((cont s1 x).bind fun d => isTyO d ts).map fun c => .fr (.bl c)) s1
  | .mth m a es, s => (evB C a s).bind fun x s1 => if !kindOk m (cont s1 x) then .er else (evBs C es s1).bind fun xs s2 =>
    if isMut m then (match (cont s2 x).bind fun d => (conts s2 xs).bind fun as => mutM m d as with
      | some (r, d) => (match put s2 x d with
        | some s3 => .ok (.fr r) s3
        | none => .er)
      | none => .er)
    else ofOpt ((cont s2 x).bind fun d => (conts s2 xs).bind fun as => lookM s2.sh m d as) s2
  | .app a e, s => (evB C a s).bind fun x s1 => if !kindOk .append (cont s1 x) then .er else (evE C e s1).bind fun r s2 => match cont s2 x with
    | some (.lst xs) => if xs.length < sizeLine then (match put s2 x (.lst (xs ++ [r.d])) with
      | some s3 => .ok (.fr .non) s3
      | none => .er) else .er
    | _ => .er
  | .lc elt tg it ifs own, s => (evIt C it s).bind fun wk s1 =>
    (noEx (runWk C.fuel wk (fun x s2 => match bindT 9 tg (.fr x) ⟨wipeE (wk.own own) s2.env, s2.sh⟩ with
      | some s3 => (evTs C ifs s3).bind fun c s4 => if c then (evE C elt s4).bind fun r s5 => .ok (some r.d) s5 else .ok none s4
      | none => .er) s1)).bind fun ds s6 => .ok (.ow (.lst ds)) ⟨restore s1.env (wk.own own) s6.env, s6.sh⟩
  | .nev, s => .er
  | .met f body fz, s => match C.mets f with
    | some m => metEnd m (frzL fz s).env (evE C body ⟨hideO (frzL fz s).env, s.sh⟩)
    | none => .er
def evB (C : Cf) : B → S → Res Op
  | .var i, s => (match s.get i with
    | .fr d => .ok (.v d) s
    | .ow _ => .ok (.sl i) s
    | .un => .er)
  | .of e, s => (evE C e s).bind fun r s1 => .ok (.v r.d) s1
def evT (C : Cf) : T → S → Res Bool
  | .of a, s => (evB C a s).bind fun x s1 => ofOpt ((cont s1 x).bind truth) s1
  | .cmp op a b, s => (evB C a s).bind fun x s1 => (evB C b s1).bind fun y s2 => ofOpt (cont2 s2 x y (cmpD s2.sh op)) s2
  | .chn a op b r, s => (evB C a s).bind fun x s1 => (evB C b s1).bind fun y s2 => match cont2 s2 x y (cmpD s2.sh op) with
    | some true => (evCh C r y s2).bind fun v s3 => ofOpt (boolOf v) s3
    | some false => .ok false s2
    | none => .er
  | .not t, s => (evT C t s).bind fun c s1 => .ok (!c) s1
  | .one t, s => evT C t s
  | .and t r, s => (evT C t s).bind fun c s1 => if c then evT C r s1 else .ok false s1
  | .or t r, s => (evT C t s).bind fun c s1 => if c then .ok true s1 else evT C r s1
def evCh (C : Cf) : Ch → Op → S → Res Rv
  | .nil, _, s => .ok (.fr (.bl true)) s
  | .cons op b r, x, s => (evB C b s).bind fun y s1 => match cont2 s1 x y (cmpD s1.sh op) with
    | some true => evCh C r y s1
    | some false => .ok (.fr (.bl false)) s1
    | none => .er
def evO (C : Cf) : O → S → Res (Option Int)
  | .no, s => .ok none s
  | .so e, s => (evB C e s).bind fun x s1 => match cont s1 x with
    | some (.int i) => .ok (some i) s1
    | _ => .er
def evEs (C : Cf) : Es → S → Res (List D)
  | .nil, s => .ok [] s
  | .cons e r, s => (evE C e s).bind fun x s1 => (evEs C r s1).bind fun xs s2 => .ok (x.d :: xs) s2
  | .star e r, s => (evB C e s).bind fun x s1 => match (cont s1 x).bind items with
    | some l => (evEs C r s1).bind fun xs s2 => .ok (l ++ xs) s2
    | none => .er
def evRs (C : Cf) : Es → S → Res (List Rv)
  | .nil, s => .ok [] s
  | .cons e r, s => (evE C e s).bind fun x s1 => (evRs C r s1).bind fun xs s2 => .ok (x :: xs) s2
  | .star _ _, s => .er
def evBs (C : Cf) : Bs → S → Res (List Op)
  | .nil, s => .ok [] s
  | .cons e r, s => (evB C e s).bind fun x s1 => (evBs C r s1).bind fun xs s2 => .ok (x :: xs) s2
def evTs (C : Cf) : Ts → S → Res Bool
  | .nil, s => .ok true s
  | .cons t r, s => (evT C t s).bind fun c s1 => if c then evTs C r s1 else .ok false s1
def evIt (C : Cf) : It → S → Res Wk
  | .seq e hid, s => (evB C e s).bind fun x s1 => wkOf s1 hid x
  | .rng1 e, s => (evB C e s).bind fun x s1 => match cont s1 x with
    | some (.int j) => if rngOk j then .ok (.xs (rangeD 0 j)) s1 else .er
    | _ => .er
  | .rng2 a b, s => (evB C a s).bind fun x s1 => (evB C b s1).bind fun y s2 => match cont s2 x, cont s2 y with
    | some (.int i), some (.int j) => if rngOk i && rngOk j then .ok (.xs (rangeD i j)) s2 else .er
    | _, _ => .er
  | .zip es, s => (evEs C es s).bind fun ds s4 => match ds with
    | [dx, dy] => if isSh dx || isSh dy then (match itemsL (vw s4.sh dx), itemsL (vw s4.sh dy) with
        | some _, some _ => .ok (.zsh dx dy) s4
        | _, _ => .er) else (match itemsL dx, itemsL dy with
        | some xs, some ys => .ok (.xs (zipD xs ys)) s4
        | _, _ => match itemsT dx, itemsT dy with
          | some xs, some ys => .ok (.xs (zipD xs ys)) s4
          | _, _ => .er)
    | _ => .er
  | .enm es, s => (evEs C es s).bind fun ds s4 => match ds with
    | [dx] => if isSh dx then (match itemsL (vw s4.sh dx) with
        | some _ => .ok (.esh dx) s4
        | none => .er) else (match itemsL dx with
        | some xs => .ok (.xs (enmD 0 xs)) s4
        | none => .er)
    | _ => .er
  | .items a, s => .er
  | .keys i, s => (match s.get i with
    | .fr (.dic [] _) => .ok (.xs []) s
    | _ => .er)
end
mutual
def exS (C : Cf) : St → S → Out
  | .exp e, s => (evE C e s).out fun _ s1 => .nx s1
  | .asg t e, s => (evE C e s).out fun r s1 => match bindT 9 t r s1 with
    | some s2 => .nx s2
    | none => .er
  | .par is es, s => (evRs C es s).out fun rs s1 => if rs.length = is.length then .nx (parSet is rs s1) else .er
  | .aug i op e, s => (match s.get i with
    | .fr d => (evB C e s).out fun y s1 => match (cont s1 y).bind fun e => ipop op d e with
      | some r => .nx (s1.set i (.fr r))
      | none => .er
    | _ => .er)
  | .sto a i e, s => (evE C e s).out fun r s1 => (evB C a s1).out fun x s2 => (evB C i s2).out fun y s3 => match cont s3 x, cont s3 y with
    | some (.lst xs), some (.int k) => (match L2.ixN xs.length k with
      | some j => (match put s3 x (.lst (xs.set j r.d)) with
        | some s4 => .nx s4
        | none => .er)
      | none => .er)
    | _, _ => .er
  | .augs a i op e, s => (evB C a s).out fun x s1 => (evB C i s1).out fun y s2 => match cont2 s2 x y idxD with
    | some d => (evB C e s2).out fun z s3 => (match (cont s3 z).bind fun e => ipop op d e with
      | some r => (match cont s3 x, cont s3 y with
        | some (.lst xs), some (.int k) => (match L2.ixN xs.length k with
          | some j => (match put s3 x (.lst (xs.set j r)) with
            | some s4 => .nx s4
            | none => .er)
          | none => .er)
        | _, _ => .er)
      | none => .er)
    | none => .er
  | .iff t a b, s => (evT C t s).out fun c s1 => if c then exSs C a s1 else exSs C b s1
  | .for tg it b, s => (evIt C it s).out fun wk s1 =>
    let f : D → S → Out := fun x s2 => match bindT 9 tg (.fr x) s2 with
      | some s3 => exSs C b s3
      | none => .er
    match wk with
    | .xs l => forL f l s1
    | .hid _ _ => .er
    | w => forS f w C.fuel 0 s1
  | .whl t b, s => whl (evT C t) (exSs C b) C.fuel s
  | .ret e, s => (evE C e s).out fun r s1 => .rt r s1
  | .retv i, s => (match s.get i with
    | .fr d => .rt (.fr d) s
    | .ow d => .rt (.ow d) (s.set i .un)
    | .un => .er)
  | .retn, s => .rt (.fr .non) s
  | .rse c es, s => (evEs C es s).out fun ds s1 => .ex c ds s1
  | .brk, s => .bk s
  | .cnt, s => .ct s
  | .pss, s => .nx s
  | .doc, s => .nx s
  | .nev, s => .er
def exSs (C : Cf) : Ss → S → Out
  | .nil, s => .nx s
  | .cons st r, s => match exS C st s with
    | .nx s1 => exSs C r s1
    | o => o
end
structure Prg where
  fns : List Fn
  mets : Nat → Option Met
  ar : List (Nat × Nat)
def outFR : Out → FR
  | .nx s => .ok (.fr .non) s.sh
  | .rt r s => .ok r s.sh
  | .ex c ds s => .ex c ds s.sh
  | _ => .er
def callF (P : Prg) (fuel : Nat) : Nat → Rho
  | 0 => fun _ _ _ => .er
  | n + 1 => fun f ds sh => match P.fns[f]? with
    | some fn => if ds.length = fn.np then outFR (exSs ⟨fuel, callF P fuel n, P.mets, P.ar⟩ fn.body ⟨ds.map .fr ++ List.replicate (fn.ns - fn.np) .un, sh⟩) else .er
    | none => .er
end Ev
end
section
set_option linter.all false
set_option maxRecDepth 100000
/-! Rel: how data, states and stores of Ev stand in the abstract heap of HandS. -/
namespace Ev
open PySem L2 LamX

/-- where the program's own defs and classes stand -/
structure Gl where
  K : PySem.W.Frag
  fa : Nat → Addr
  ca : Nat → Addr
  fld : Nat → List Str
  tabs : List (Addr × Str)
/-- the frozen part of the heap; the shared things' places -/
structure Wd where
  F : Hp
  m : List Addr
def keyD : Key → D
  | .inl i => .int i
  | .inr x => .str x

section
variable (g : Gl) (w : Wd)
mutual
inductive Rep : D → V → Prop
  | non : Rep .non .non
  | bl {b} : Rep (.bl b) (.bl b)
  | int {i} : Rep (.int i) (.int i)
  | str {x} : Rep (.str x) (.str x)
  | ty {n} : Rep (.ty n) (.ty n)
  | fn {i o} : g.K.lookup (g.fa i) = some o → o.cls = .type "function" → Rep (.fn i) (.ref (g.fa i))
  | cls {i} : Rep (.cls i) (.ref (g.ca i))
  | tup {a xs vs} : SqT g.K w.F a vs → Reps xs vs → Rep (.tup xs) (.ref a)
  | lst {a xs vs} : w.F a = some (.lst vs) → Reps xs vs → Rep (.lst xs) (.ref a)
  | ro {a xs vs} : SqL g.K w.F a vs → Reps xs vs → Rep (.ro xs) (.ref a)
  | dicK {a ks ds} {kvs : List (Key × V)} : w.F a = some (.dK kvs) → ks = kvs.map (fun p => keyD p.1) → Reps ds (kvs.map (·.2)) → Rep (.dic ks ds) (.ref a)
  | dicT {a ks ds} {kvs : List (List Key × V)} : kvs ≠ [] → w.F a = some (.dT kvs) → ks = kvs.map (fun p => D.tup (p.1.map keyD)) → Reps ds (kvs.map (·.2)) → Rep (.dic ks ds) (.ref a)
  | sh {k a} : w.m[k]? = some a → Rep (.sh k) (.ref a)
inductive Reps : List D → List V → Prop
  | nil : Reps [] []
  | cons {x v xs vs} : Rep x v → Reps xs vs → Reps (x :: xs) (v :: vs)
end
/-- what stands at a is the container d -/
inductive CO (H : Hp) (a : Addr) : D → Prop
  | lst {xs vs} : H a = some (.lst vs) → Reps g w xs vs → CO H a (.lst xs)
  | dicK {ks ds} {kvs : List (Key × V)} : H a = some (.dK kvs) → ks = kvs.map (fun p => keyD p.1) → Reps g w ds (kvs.map (·.2)) → CO H a (.dic ks ds)
  | dicT {ks ds} {kvs : List (List Key × V)} : kvs ≠ [] → H a = some (.dT kvs) → ks = kvs.map (fun p => D.tup (p.1.map keyD)) → Reps g w ds (kvs.map (·.2)) → CO H a (.dic ks ds)
end
def isDic : HO → Prop
  | .dK _ => True
  | .dT _ => True
  | _ => False

/-- a container that may change -/
def isCon : HO → Prop
  | .lst _ => True
  | .dK _ => True
  | .dT _ => True
  | _ => False
theorem isCon.nt {u : HO} (h : isCon u) : ∀ ps, u ≠ .tbl ps := fun ps z => by subst z; exact h
theorem isCon.ne {u : HO} (h : isCon u) : ∀ φ, u ≠ .ext φ := fun ps z => by subst z; exact h
theorem tabs_upd {H : Hp} {T : List (Addr × Str)} {a : Addr} {o : HO} (t : Tabs T H) (h : H a = none ∨ ∃ u, H a = some u ∧ isCon u) : Tabs T (upd H a o) := fun p hp => by
  obtain ⟨ps, e, k, c⟩ := t p hp
  have ne : ∀ {b : Addr} {v : HO}, H b = some v → (∀ u, v = u → ¬ isCon u) → b ≠ a := fun {b v} e n z => by
    subst z
    rcases h with h | ⟨u, h, hc⟩
    · rw [h] at e; cases e
    · rw [h] at e; cases e; exact n _ rfl hc
  refine ⟨ps, by rw [upd_ne (ne e fun u z q => by subst z; exact q)]; exact e, k, fun pos cv hc => ?_⟩
  obtain ⟨c1, e1, e2⟩ := c pos cv hc
  exact ⟨c1, e1, by rw [upd_ne (ne e2 fun u z q => by subst z; exact q)]; exact e2⟩

/-- more is frozen, more is shared -/
structure Le (w w' : Wd) : Prop where
  F : ∀ a u, w.F a = some u → w'.F a = some u
  m : ∃ r, w'.m = w.m ++ r
theorem Le.refl {w : Wd} : Le w w := ⟨fun _ _ h => h, [], by simp⟩
theorem Le.trans {w w1 w2 : Wd} (a : Le w w1) (b : Le w1 w2) : Le w w2 := by
  obtain ⟨r, e⟩ := a.m
  obtain ⟨r', e'⟩ := b.m
  exact ⟨fun x u h => b.F x u (a.F x u h), r ++ r', by rw [e', e, List.append_assoc]⟩
theorem Le.at {w w' : Wd} (l : Le w w') {k : Nat} {a : Addr} (h : w.m[k]? = some a) : w'.m[k]? = some a := by
  obtain ⟨r, e⟩ := l.m
  rw [e, List.getElem?_append_left (List.getElem?_eq_some_iff.mp h).1]
  exact h
theorem Rd.mono {H H' : Hp} (h : ∀ a u, H a = some u → H' a = some u) {a : Addr} {u : HO} (r : Rd H a u) : Rd H' a u := by
  rcases r with r | ⟨o, r⟩
  · exact .inl (h _ _ r)
  · exact .inr ⟨o, h _ _ r⟩
theorem SqT.mono {K : PySem.W.Frag} {H H' : Hp} (h : ∀ a u, H a = some u → H' a = some u) {a : Addr} {xs : List V} (r : SqT K H a xs) : SqT K H' a xs := by
  rcases r with r | r
  · exact .inl (Rd.mono h r)
  · exact .inr r
theorem SqL.mono {K : PySem.W.Frag} {H H' : Hp} (h : ∀ a u, H a = some u → H' a = some u) {a : Addr} {xs : List V} (r : SqL K H a xs) : SqL K H' a xs := by
  rcases r with r | r
  · exact .inl (Rd.mono h r)
  · exact .inr r
section
variable {g : Gl} {w w' : Wd}
mutual
theorem Rep.mono (l : Le w w') : ∀ {d : D} {v : V}, Rep g w d v → Rep g w' d v
  | _, _, .non => .non
  | _, _, .bl => .bl
  | _, _, .int => .int
  | _, _, .str => .str
  | _, _, .ty => .ty
  | _, _, .fn h1 h2 => .fn h1 h2
  | _, _, .cls => .cls
  | _, _, .tup h r => .tup (SqT.mono l.F h) (Reps.mono l r)
  | _, _, .lst h r => .lst (l.F _ _ h) (Reps.mono l r)
  | _, _, .ro h r => .ro (SqL.mono l.F h) (Reps.mono l r)
  | _, _, .dicK h e r => .dicK (l.F _ _ h) e (Reps.mono l r)
  | _, _, .dicT n h e r => .dicT n (l.F _ _ h) e (Reps.mono l r)
  | _, _, .sh h => .sh (l.at h)
theorem Reps.mono (l : Le w w') : ∀ {ds : List D} {vs : List V}, Reps g w ds vs → Reps g w' ds vs
  | _, _, .nil => .nil
  | _, _, .cons a r => .cons (Rep.mono l a) (Reps.mono l r)
end
theorem Reps.length : ∀ {ds : List D} {vs : List V}, Reps g w ds vs → ds.length = vs.length
  | _, _, .nil => rfl
  | _, _, .cons _ r => by rw [List.length_cons, List.length_cons, Reps.length r]
theorem Reps.append : ∀ {ds es : List D} {vs us : List V}, Reps g w ds vs → Reps g w es us → Reps g w (ds ++ es) (vs ++ us)
  | _, _, _, _, .nil, s => s
  | _, _, _, _, .cons a r, s => .cons a (Reps.append r s)
theorem Reps.get : ∀ {ds : List D} {vs : List V} {i : Nat} {d : D}, Reps g w ds vs → ds[i]? = some d → ∃ v, vs[i]? = some v ∧ Rep g w d v
  | _, _, _, _, .nil, h => by simp at h
  | _, _, 0, _, .cons a r, h => by simp at h; subst h; exact ⟨_, rfl, a⟩
  | _, _, i + 1, d, .cons a r, h => by
    obtain ⟨v, h1, h2⟩ := Reps.get (i := i) (d := d) r (by simpa using h)
    exact ⟨v, by simpa using h1, h2⟩
theorem Reps.getV : ∀ {ds : List D} {vs : List V} {i : Nat} {v : V}, Reps g w ds vs → vs[i]? = some v → ∃ d, ds[i]? = some d ∧ Rep g w d v
  | _, _, _, _, .nil, h => by simp at h
  | _, _, 0, _, .cons a r, h => by simp at h; subst h; exact ⟨_, rfl, a⟩
  | _, _, i + 1, d, .cons a r, h => by
    obtain ⟨v, h1, h2⟩ := Reps.getV (i := i) (v := d) r (by simpa using h)
    exact ⟨v, by simpa using h1, h2⟩
theorem Reps.set {d : D} {v : V} (q : Rep g w d v) : ∀ {ds : List D} {vs : List V} (i : Nat), Reps g w ds vs → Reps g w (ds.set i d) (vs.set i v)
  | _, _, _, .nil => .nil
  | _, _, 0, .cons _ r => .cons q r
  | _, _, i + 1, .cons a r => .cons a (Reps.set q i r)
theorem Reps.take : ∀ {ds : List D} {vs : List V} (n : Nat), Reps g w ds vs → Reps g w (ds.take n) (vs.take n)
  | _, _, 0, _ => by simp; exact .nil
  | _, _, _ + 1, .nil => .nil
  | _, _, n + 1, .cons a r => .cons a (Reps.take n r)
theorem Reps.drop : ∀ {ds : List D} {vs : List V} (n : Nat), Reps g w ds vs → Reps g w (ds.drop n) (vs.drop n)
  | _, _, 0, r => r
  | _, _, _ + 1, .nil => .nil
  | _, _, n + 1, .cons _ r => Reps.drop n r
theorem Reps.eraseIdx : ∀ {ds : List D} {vs : List V} (n : Nat), Reps g w ds vs → Reps g w (ds.eraseIdx n) (vs.eraseIdx n)
  | _, _, _, .nil => .nil
  | _, _, 0, .cons _ r => r
  | _, _, n + 1, .cons a r => .cons a (Reps.eraseIdx n r)
theorem Reps.dropLast {ds : List D} {vs : List V} (r : Reps g w ds vs) : Reps g w ds.dropLast vs.dropLast := by
  rw [List.dropLast_eq_take, List.dropLast_eq_take, r.length]
  exact r.take _
theorem Reps.rep {ds : List D} {vs : List V} (r : Reps g w ds vs) : ∀ k : Nat, Reps g w (List.replicate k ds).flatten (List.replicate k vs).flatten
  | 0 => .nil
  | k + 1 => by
    rw [List.replicate_succ, List.replicate_succ, List.flatten_cons, List.flatten_cons]
    exact r.append (Reps.rep r k)
theorem Reps.isEmpty {ds : List D} {vs : List V} (r : Reps g w ds vs) : ds.isEmpty = vs.isEmpty := by
  cases r <;> rfl
theorem Reps.nil_iff {ds : List D} {vs : List V} (r : Reps g w ds vs) : ds = [] ↔ vs = [] := by
  cases r <;> simp
theorem Rep.intV {i : Int} {v : V} (h : Rep g w (.int i) v) : v = .int i := by cases h; rfl
theorem Rep.blV {b : Bool} {v : V} (h : Rep g w (.bl b) v) : v = .bl b := by cases h; rfl
theorem Rep.strV {x : Str} {v : V} (h : Rep g w (.str x) v) : v = .str x := by cases h; rfl
theorem Rep.nonV {v : V} (h : Rep g w .non v) : v = .non := by cases h; rfl
theorem CO.mono (l : Le w w') {H H' : Hp} {a : Addr} (e : H' a = H a) {d : D} (h : CO g w H a d) : CO g w' H' a d := by
  cases h with
  | lst h r => exact .lst (e.trans h) (r.mono l)
  | dicK h q r => exact .dicK (e.trans h) q (r.mono l)
  | dicT n h q r => exact .dicT n (e.trans h) q (r.mono l)
theorem CO.there {H : Hp} {a : Addr} {d : D} (h : CO g w H a d) : ∃ u, H a = some u := by
  cases h with
  | lst h r => exact ⟨_, h⟩
  | dicK h q r => exact ⟨_, h⟩
  | dicT n h q r => exact ⟨_, h⟩
theorem CO.thereN {H : Hp} {a : Addr} {d : D} (h : CO g w H a d) : ∃ u, H a = some u ∧ isCon u := by
  cases h with
  | lst h r => exact ⟨_, h, trivial⟩
  | dicK h q r => exact ⟨_, h, trivial⟩
  | dicT n h q r => exact ⟨_, h, trivial⟩
end

/-! ### the store -/
structure RSg (g : Gl) (w : Wd) (sh : List D) (H : Hp) : Prop where
  sub : ∀ a u, w.F a = some u → H a = some u
  nt : ∀ a ps, w.F a ≠ some (.tbl ps)
  tabs : Tabs g.tabs H
  ml : w.m.length = sh.length
  mnd : w.m.Nodup
  sh : ∀ (k : Nat) (a : Addr) (d : D), w.m[k]? = some a → sh[k]? = some d → w.F a = none ∧ CO g w H a d
/-- the places of the owned slots -/
def OT (s : S) (σ : L2.St) (a : Addr) : Prop := ∃ (i : Nat) (d : D), s.env[i]? = some (.ow d) ∧ σ[i]? = some (some (.ref a))
structure RS (g : Gl) (w : Wd) (s : S) (σ : L2.St) (H : Hp) : Prop where
  st : RSg g w s.sh H
  len : s.env.length = σ.length
  fr : ∀ (i : Nat) (d : D), s.env[i]? = some (.fr d) → ∃ v, σ[i]? = some (some v) ∧ Rep g w d v
  ow : ∀ (i : Nat) (d : D), s.env[i]? = some (.ow d) → ∃ a, σ[i]? = some (some (.ref a)) ∧ w.F a = none ∧ a ∉ w.m ∧ CO g w H a d
  dis : ∀ (i j : Nat) (a : Addr) (d d' : D), i ≠ j → s.env[i]? = some (.ow d) → s.env[j]? = some (.ow d') → σ[i]? = some (some (.ref a)) → σ[j]? ≠ some (some (.ref a)) --', i ≠ j → s.env[i]? = some (.ow d) → s.env[j]? = some (.ow d') → σ[i]? = some (some (.ref a)) → σ[j]? ≠ some (some (.ref a))
/-- where one began -/
structure Ba where
  w : Wd
  H : Hp
  T : Addr → Prop
/-- nothing but a table stands there -/
def Nw (H : Hp) (a : Addr) : Prop := ∀ u, H a = some u → ∃ ps, u = .tbl ps
theorem Nw.of {H : Hp} {a : Addr} (h : H a = none) : Nw H a := fun u e => by rw [h] at e; cases e
theorem Nw.no {H : Hp} {a : Addr} (h : Nw H a) {u : HO} (e : H a = some u) (hz : ∀ ps, u ≠ .tbl ps) : False := by
  obtain ⟨ps, z⟩ := h u e
  exact hz ps z
structure Tr (b : Ba) (w : Wd) (H : Hp) (T' : Addr → Prop) : Prop where
  le : Le b.w w
  dom : ∀ a u, b.H a = some u → (∀ ps, u ≠ .tbl ps) → ∃ u', H a = some u' ∧ ∀ ps, u' ≠ .tbl ps
  keep : ∀ a u, b.H a = some u → (∀ ps, u ≠ .tbl ps) → a ∉ b.w.m → ¬ b.T a → H a = some u ∧ (b.w.F a = none → w.F a = none) ∧ a ∉ w.m
  own : ∀ a, T' a → b.T a ∨ Nw b.H a
structure RSt (g : Gl) (b : Ba) (w : Wd) (s : S) (σ : L2.St) (H : Hp) : Prop where
  rs : RS g w s σ H
  tr : Tr b w H (OT s σ)
theorem Tr.mono {b : Ba} {w : Wd} {H : Hp} {T1 T2 : Addr → Prop} (t : Tr b w H T1) (h : ∀ a, T2 a → T1 a) : Tr b w H T2 := ⟨t.le, t.dom, t.keep, fun a x => t.own a (h a x)⟩
theorem Tr.fresh {b : Ba} {w : Wd} {H : Hp} {T1 : Addr → Prop} (t : Tr b w H T1) {p : Addr} (h : Nw H p) : Nw b.H p := fun u e => by
  by_cases hz : ∃ ps, u = .tbl ps
  · exact hz
  · obtain ⟨u', e', hz'⟩ := t.dom p u e fun ps z => hz ⟨ps, z⟩
    exact (h.no e' hz').elim
theorem Tr.trans {b : Ba} {w w' : Wd} {H H' : Hp} {T1 T2 : Addr → Prop} (t : Tr b w H T1) (u : Tr ⟨w, H, T1⟩ w' H' T2) : Tr b w' H' T2 where
  le := t.le.trans u.le
  dom := fun a x h hz => by
    obtain ⟨y, h, hz⟩ := t.dom a x h hz
    exact u.dom a y h hz
  keep := fun a x h hz hm hT => by
    obtain ⟨h1, h2, h3⟩ := t.keep a x h hz hm hT
    have nT : ¬ T1 a := fun z => by
      rcases t.own a z with z | z
      · exact hT z
      · exact z.no h hz
    obtain ⟨k1, k2, k3⟩ := u.keep a x h1 hz h3 nT
    exact ⟨k1, fun z => k2 (h2 z), k3⟩
  own := fun a h => by
    rcases u.own a h with z | z
    · exact t.own a z
    · exact .inr (t.fresh z)
theorem Tr.refl {w : Wd} {H : Hp} {T1 : Addr → Prop} : Tr ⟨w, H, T1⟩ w H T1 := ⟨Le.refl, fun a u h hz => ⟨u, h, hz⟩, fun a u h _ hm hT => ⟨h, fun z => z, hm⟩, fun a h => .inl h⟩
/-- a new thing that nobody else holds -/
structure Own (g : Gl) (b : Ba) (w : Wd) (s : S) (σ : L2.St) (H : Hp) (a : Addr) (d : D) : Prop where
  F : w.F a = none
  m : a ∉ w.m
  T : ¬ OT s σ a
  new : Nw b.H a
  co : CO g w H a d
/-- a result -/
inductive RepR (g : Gl) (b : Ba) (w : Wd) (s : S) (σ : L2.St) (H : Hp) : Rv → V → Prop
  | fr {d v} : Rep g w d v → RepR g b w s σ H (.fr d) v
  | ow {d a} : Own g b w s σ H a d → RepR g b w s σ H (.ow d) (.ref a)
/-- an operand -/
inductive RepO (g : Gl) (w : Wd) (s : S) (σ : L2.St) : Op → V → Prop
  | v {d v} : Rep g w d v → RepO g w s σ (.v d) v
  | sl {i v} : σ[i]? = some (some v) → RepO g w s σ (.sl i) v

section
variable {g : Gl} {b : Ba} {w : Wd} {s : S} {σ : L2.St} {H : Hp}
theorem RSg.mem (h : RSg g w s.sh H) {a : Addr} (ha : a ∈ w.m) : ∃ u, H a = some u := by
  obtain ⟨k, hk⟩ := List.getElem?_of_mem ha
  have hl : k < s.sh.length := by
    rw [← h.ml]
    exact (List.getElem?_eq_some_iff.mp hk).1
  obtain ⟨_, c⟩ := h.sh k a s.sh[k] hk (by simp [hl])
  exact c.there
theorem RSg.fsome (h : RSg g w s.sh H) {a : Addr} {u : HO} (e : w.F a = some u) : ∃ u, H a = some u := by
  exact ⟨_, h.sub a u e⟩
theorem RSg.fnone (h : RSg g w s.sh H) {a : Addr} (e : H a = none) : w.F a = none := by
  cases q : w.F a with
  | none => rfl
  | some u =>
    obtain ⟨u, z⟩ := h.fsome q
    rw [e] at z; cases z
theorem RSg.nm (h : RSg g w s.sh H) {a : Addr} (e : H a = none) : a ∉ w.m := fun z => by
  obtain ⟨u, q⟩ := h.mem z
  rw [e] at q; cases q
theorem RSg.fm (h : RSg g w s.sh H) {a : Addr} {u : HO} (e : w.F a = some u) : a ∉ w.m := fun z => by
  obtain ⟨k, hk⟩ := List.getElem?_of_mem z
  have hl : k < s.sh.length := by
    rw [← h.ml]
    exact (List.getElem?_eq_some_iff.mp hk).1
  obtain ⟨q, _⟩ := h.sh k a s.sh[k] hk (by simp [hl])
  rw [e] at q; cases q
theorem RS.owT (h : RS g w s σ H) {a : Addr} (t : OT s σ a) : w.F a = none ∧ a ∉ w.m ∧ ∃ d, CO g w H a d := by
  obtain ⟨i, d, e1, e2⟩ := t
  obtain ⟨a', e3, f, m, c⟩ := h.ow i d e1
  rw [e2] at e3
  cases e3
  exact ⟨f, m, d, c⟩
theorem RS.nT (h : RS g w s σ H) {a : Addr} (e : Nw H a) : ¬ OT s σ a := fun t => by
  obtain ⟨_, _, d, c⟩ := h.owT t
  obtain ⟨u, q, z⟩ := c.thereN
  exact e.no q z.nt

/-! ### a new thing -/
/-- it is laid, frozen -/
theorem RSt.layF {p : Addr} {o : HO} (h : RSt g b w s σ H) (hp : H p = none) (ho : ∀ ps, o ≠ .tbl ps := by intro _ z; cases z) : RSt g b ⟨upd w.F p o, w.m⟩ s σ (upd H p o) ∧ Le w ⟨upd w.F p o, w.m⟩ := by
  have ne : ∀ {a : Addr} {u : HO}, H a = some u → a ≠ p := fun e z => by rw [z, hp] at e; cases e
  have fp : w.F p = none := h.rs.st.fnone hp
  have le : Le w ⟨upd w.F p o, w.m⟩ := ⟨fun a u e => by
    have : a ≠ p := fun z => by rw [z, fp] at e; cases e
    show upd w.F p o a = some u
    rw [upd_ne this]; exact e, [], by simp⟩
  have up : ∀ {a : Addr}, a ≠ p → upd H p o a = H a := fun z => upd_ne z
  have co : ∀ {a : Addr} {d : D}, CO g w H a d → CO g ⟨upd w.F p o, w.m⟩ (upd H p o) a d := fun {a d} c => by
    obtain ⟨u, q⟩ := c.there
    exact c.mono le (up (ne q))
  refine ⟨⟨⟨⟨fun a u e => ?_, fun a ps e => ?_, tabs_upd h.rs.st.tabs (.inl hp), h.rs.st.ml, h.rs.st.mnd, fun k a d e1 e2 => ?_⟩, h.rs.len, fun i d e => ?_, fun i d e => ?_, h.rs.dis⟩, ?_, fun a u e hz => ?_, fun a u e hz hm hT => ?_, h.tr.own⟩, le⟩
  · by_cases ha : a = p
    · subst ha
      have e : upd w.F a o a = some u := e
      rw [upd_same] at e; cases e
      exact upd_same
    · have e : upd w.F p o a = some u := e
      rw [upd_ne ha] at e
      rw [up ha]
      exact h.rs.st.sub a u e
  · have e : upd w.F p o a = some (.tbl ps) := e
    by_cases ha : a = p
    · subst ha
      rw [upd_same] at e
      exact ho ps (Option.some.inj e)
    · rw [upd_ne ha] at e
      exact h.rs.st.nt a ps e
  · obtain ⟨f, c⟩ := h.rs.st.sh k a d e1 e2
    obtain ⟨u, q⟩ := c.there
    exact ⟨by show upd w.F p o a = none; rw [upd_ne (ne q)]; exact f, co c⟩
  · obtain ⟨v, e1, r⟩ := h.rs.fr i d e
    exact ⟨v, e1, r.mono le⟩
  · obtain ⟨a, e1, f, m, c⟩ := h.rs.ow i d e
    obtain ⟨u, q⟩ := c.there
    exact ⟨a, e1, by show upd w.F p o a = none; rw [upd_ne (ne q)]; exact f, m, co c⟩
  · exact h.tr.le.trans le
  · obtain ⟨u', q, hz'⟩ := h.tr.dom a u e hz
    exact ⟨u', by rw [up (ne q)]; exact q, hz'⟩
  · obtain ⟨q, f, m⟩ := h.tr.keep a u e hz hm hT
    exact ⟨by rw [up (ne q)]; exact q, fun z => by show upd w.F p o a = none; rw [upd_ne (ne q)]; exact f z, m⟩
/-- it is laid, nobody's -/
theorem RSt.layO {p : Addr} {o : HO} (h : RSt g b w s σ H) (hp : H p = none) : RSt g b w s σ (upd H p o) ∧ w.F p = none ∧ p ∉ w.m ∧ ¬ OT s σ p ∧ Nw b.H p := by
  have ne : ∀ {a : Addr} {u : HO}, H a = some u → a ≠ p := fun e z => by rw [z, hp] at e; cases e
  have up : ∀ {a : Addr}, a ≠ p → upd H p o a = H a := fun z => upd_ne z
  have co : ∀ {a : Addr} {d : D}, CO g w H a d → CO g w (upd H p o) a d := fun {a d} c => by
    obtain ⟨u, q⟩ := c.there
    exact c.mono Le.refl (up (ne q))
  refine ⟨⟨⟨⟨fun a u e => ?_, h.rs.st.nt, tabs_upd h.rs.st.tabs (.inl hp), h.rs.st.ml, h.rs.st.mnd, fun k a d e1 e2 => ?_⟩, h.rs.len, h.rs.fr, fun i d e => ?_, h.rs.dis⟩, h.tr.le, fun a u e hz => ?_, fun a u e hz hm hT => ?_, h.tr.own⟩, h.rs.st.fnone hp, h.rs.st.nm hp, h.rs.nT (.of hp), h.tr.fresh (.of hp)⟩
  · obtain ⟨u', q⟩ := h.rs.st.fsome e
    rw [up (ne q)]
    exact h.rs.st.sub a u e
  · obtain ⟨f, c⟩ := h.rs.st.sh k a d e1 e2
    exact ⟨f, co c⟩
  · obtain ⟨a, e1, f, m, c⟩ := h.rs.ow i d e
    exact ⟨a, e1, f, m, co c⟩
  · obtain ⟨u', q, hz'⟩ := h.tr.dom a u e hz
    exact ⟨u', by rw [up (ne q)]; exact q, hz'⟩
  · obtain ⟨q, f, m⟩ := h.tr.keep a u e hz hm hT
    exact ⟨by rw [up (ne q)]; exact q, f, m⟩
theorem nt_upd {F : Hp} {a : Addr} {u : HO} (h : ∀ x ps, F x ≠ some (.tbl ps)) (c : isCon u) : ∀ x ps, upd F a u x ≠ some (.tbl ps) := fun x ps e => by
  by_cases hx : x = a
  · subst hx
    rw [upd_same] at e
    exact c.nt ps (Option.some.inj e)
  · rw [upd_ne hx] at e
    exact h x ps e
/-! ### what is nobody's is frozen -/
theorem CO.rep {a : Addr} {d : D} (c : CO g w H a d) : ∃ o, H a = some o ∧ isCon o ∧ ∀ w', Le w w' → w'.F a = some o → Rep g w' d (.ref a) := by
  cases c with
  | lst h r => exact ⟨_, h, trivial, fun w' l e => .lst e (r.mono l)⟩
  | dicK h q r => exact ⟨_, h, trivial, fun w' l e => .dicK e q (r.mono l)⟩
  | dicT n h q r => exact ⟨_, h, trivial, fun w' l e => .dicT n e q (r.mono l)⟩
theorem RSt.freeze {a : Addr} {d : D} (h : RSt g b w s σ H) (o : Own g b w s σ H a d) : ∃ w', RSt g b w' s σ H ∧ Le w w' ∧ Rep g w' d (.ref a) := by
  obtain ⟨u, hu, hcu, rep⟩ := o.co.rep
  have le : Le w ⟨upd w.F a u, w.m⟩ := ⟨fun x v e => by
    have : x ≠ a := fun z => by rw [z, o.F] at e; cases e
    show upd w.F a u x = some v
    rw [upd_ne this]; exact e, [], by simp⟩
  refine ⟨⟨upd w.F a u, w.m⟩, ⟨⟨⟨fun x v e => ?_, nt_upd h.rs.st.nt hcu, h.rs.st.tabs, h.rs.st.ml, h.rs.st.mnd, fun k x d e1 e2 => ?_⟩, h.rs.len, fun i d e => ?_, fun i d e => ?_, h.rs.dis⟩, h.tr.le.trans le, h.tr.dom, fun x v e hz hm hT => ?_, h.tr.own⟩, le, rep _ le upd_same⟩
  · by_cases hx : x = a
    · subst hx
      have e : upd w.F x u x = some v := e
      rw [upd_same] at e; cases e
      exact hu
    · have e : upd w.F a u x = some v := e
      rw [upd_ne hx] at e
      exact h.rs.st.sub x v e
  · obtain ⟨f, c⟩ := h.rs.st.sh k x d e1 e2
    have : x ≠ a := fun z => o.m (by rw [← z]; exact List.mem_of_getElem? e1)
    exact ⟨by show upd w.F a u x = none; rw [upd_ne this]; exact f, c.mono le rfl⟩
  · obtain ⟨v, e1, r⟩ := h.rs.fr i d e
    exact ⟨v, e1, r.mono le⟩
  · obtain ⟨x, e1, f, m, c⟩ := h.rs.ow i d e
    have : x ≠ a := fun z => o.T ⟨i, d, e, by rw [← z]; exact e1⟩
    exact ⟨x, e1, by show upd w.F a u x = none; rw [upd_ne this]; exact f, m, c.mono le rfl⟩
  · obtain ⟨q, f, m⟩ := h.tr.keep x v e hz hm hT
    have : x ≠ a := fun z => by subst z; exact o.new.no e hz
    exact ⟨q, fun z => by show upd w.F a u x = none; rw [upd_ne this]; exact f z, m⟩
/-- a result as a frozen value -/
theorem RSt.fz {r : Rv} {v : V} (h : RSt g b w s σ H) (q : RepR g b w s σ H r v) : ∃ w', RSt g b w' s σ H ∧ Le w w' ∧ Rep g w' r.d v := by
  cases q with
  | fr q => exact ⟨w, h, Le.refl, q⟩
  | ow q => exact h.freeze q
end
end Ev
end
section
set_option linter.all false
set_option maxRecDepth 100000
/-! Rel2: what a step does to the relation. -/
namespace Ev
open PySem L2 LamX
section
variable {g : Gl} {b : Ba} {w : Wd} {s : S} {σ : L2.St} {H : Hp}

theorem S.set_env (s : S) (i : Nat) (x : Sl) : (s.set i x).env = s.env.set i x := rfl
theorem S.set_sh (s : S) (i : Nat) (x : Sl) : (s.set i x).sh = s.sh := rfl
theorem get_fr {i : Nat} {d : D} (h : s.get i = .fr d) : s.env[i]? = some (.fr d) := by
  unfold S.get at h
  rw [List.getD_eq_getElem?_getD] at h
  cases e : s.env[i]? with
  | none => rw [e] at h; cases h
  | some x => rw [e] at h; simp at h; rw [h]
theorem get_ow {i : Nat} {d : D} (h : s.get i = .ow d) : s.env[i]? = some (.ow d) := by
  unfold S.get at h
  rw [List.getD_eq_getElem?_getD] at h
  cases e : s.env[i]? with
  | none => rw [e] at h; cases h
  | some x => rw [e] at h; simp at h; rw [h]
theorem set_at {α : Type} {l : List α} {i j : Nat} {x y : α} (h : (l.set i x)[j]? = some y) : (i = j ∧ y = x) ∨ (i ≠ j ∧ l[j]? = some y) := by
  by_cases e : i = j
  · subst e
    by_cases hl : i < l.length
    · rw [List.getElem?_set_self hl] at h
      exact .inl ⟨rfl, (Option.some.inj h).symm⟩
    · rw [List.getElem?_eq_none (by simpa using hl)] at h
      cases h
  · rw [List.getElem?_set_ne e] at h
    exact .inr ⟨e, h⟩

/-- the owned things after a slot has another thing -/
theorem OT.set {i : Nat} {d : D} {v : Option V} {a : Addr} (h : OT (s.set i (.fr d)) (σ.set i v) a) : OT s σ a := by
  obtain ⟨j, e, h1, h2⟩ := h
  rcases set_at h1 with ⟨_, z⟩ | ⟨n, h1⟩
  · cases z
  · rw [List.getElem?_set_ne n] at h2
    exact ⟨j, e, h1, h2⟩
theorem OT.setE {i : Nat} {x : Sl} {a : Addr} (hx : ∀ d, x ≠ .ow d) (h : OT (s.set i x) σ a) : OT s σ a := by
  obtain ⟨j, e, h1, h2⟩ := h
  rcases set_at h1 with ⟨_, z⟩ | ⟨n, h1⟩
  · exact absurd z.symm (hx e)
  · exact ⟨j, e, h1, h2⟩

/-! ### slots -/
/-- an owned slot's thing is frozen -/
theorem RSt.freezeS {i : Nat} {d : D} (h : RSt g b w s σ H) (e : s.env[i]? = some (.ow d)) :
    ∃ w' a, σ[i]? = some (some (.ref a)) ∧ RSt g b w' (s.set i (.fr d)) σ H ∧ Le w w' ∧ Rep g w' d (.ref a) := by
  obtain ⟨a, ea, f, m, c⟩ := h.rs.ow i d e
  obtain ⟨u, hu, hcu, rep⟩ := c.rep
  have le : Le w ⟨upd w.F a u, w.m⟩ := ⟨fun x v e => by
    have : x ≠ a := fun z => by rw [z, f] at e; cases e
    show upd w.F a u x = some v
    rw [upd_ne this]; exact e, [], by simp⟩
  have r0 : Rep g ⟨upd w.F a u, w.m⟩ d (.ref a) := rep _ le upd_same
  refine ⟨⟨upd w.F a u, w.m⟩, a, ea, ⟨⟨⟨fun x v e => ?_, nt_upd h.rs.st.nt hcu, h.rs.st.tabs, h.rs.st.ml, h.rs.st.mnd, fun k x d e1 e2 => ?_⟩, by rw [S.set_env, List.length_set]; exact h.rs.len, fun j d' e' => ?_, fun j d' e' => ?_, fun j k x d1 d2 n e1 e2 => ?_⟩, (h.tr.le.trans le), h.tr.dom, fun x v e' hz hm hT => ?_, fun x t => h.tr.own x (t.setE fun _ z => by cases z)⟩, le, r0⟩
  · by_cases hx : x = a
    · subst hx
      have e : upd w.F x u x = some v := e
      rw [upd_same] at e; cases e
      exact hu
    · have e : upd w.F a u x = some v := e
      rw [upd_ne hx] at e
      exact h.rs.st.sub x v e
  · obtain ⟨f', c'⟩ := h.rs.st.sh k x d e1 e2
    have : x ≠ a := fun z => m (by rw [← z]; exact List.mem_of_getElem? e1)
    exact ⟨by show upd w.F a u x = none; rw [upd_ne this]; exact f', c'.mono le rfl⟩
  · rcases set_at e' with ⟨q, z⟩ | ⟨n, e'⟩
    · cases z; subst q
      exact ⟨_, ea, r0⟩
    · obtain ⟨v, e1, r⟩ := h.rs.fr j d' e'
      exact ⟨v, e1, r.mono le⟩
  · rcases set_at e' with ⟨q, z⟩ | ⟨n, e'⟩
    · cases z
    · obtain ⟨x, e1, f', m', c'⟩ := h.rs.ow j d' e'
      have : x ≠ a := fun z => h.rs.dis i j a d d' n e e' ea (by rw [← z]; exact e1)
      exact ⟨x, e1, by show upd w.F a u x = none; rw [upd_ne this]; exact f', m', c'.mono le rfl⟩
  · rcases set_at e1 with ⟨_, z⟩ | ⟨_, e1⟩
    · cases z
    · rcases set_at e2 with ⟨_, z⟩ | ⟨_, e2⟩
      · cases z
      · exact h.rs.dis j k x d1 d2 n e1 e2
  · obtain ⟨q, f', m'⟩ := h.tr.keep x v e' hz hm hT
    have : x ≠ a := fun z => by
      subst z
      rcases h.tr.own x ⟨i, d, e, ea⟩ with z | z
      · exact hT z
      · exact z.no e' hz
    exact ⟨q, fun z => by show upd w.F a u x = none; rw [upd_ne this]; exact f' z, m'⟩
/-- a slot takes a frozen value -/
theorem RSt.setF {i : Nat} {d : D} {v : V} (h : RSt g b w s σ H) (r : Rep g w d v) : RSt g b w (s.set i (.fr d)) (σ.set i (some v)) H := by
  refine ⟨⟨h.rs.st, by rw [S.set_env, List.length_set, List.length_set]; exact h.rs.len, fun j d' e => ?_, fun j d' e => ?_, fun j k x d1 d2 n e1 e2 e3 => ?_⟩, h.tr.mono fun a t => t.set⟩
  · rcases set_at e with ⟨q, z⟩ | ⟨n, e⟩
    · cases z; subst q
      have hl : i < σ.length := by
        rw [← h.rs.len]
        have := (List.getElem?_eq_some_iff.mp e).1
        rwa [S.set_env, List.length_set] at this
      exact ⟨v, by rw [List.getElem?_set_self hl], r⟩
    · obtain ⟨v', e1, r'⟩ := h.rs.fr j d' e
      exact ⟨v', by rw [List.getElem?_set_ne n]; exact e1, r'⟩
  · rcases set_at e with ⟨q, z⟩ | ⟨n, e⟩
    · cases z
    · obtain ⟨x, e1, r'⟩ := h.rs.ow j d' e
      exact ⟨x, by rw [List.getElem?_set_ne n]; exact e1, r'⟩
  · rcases set_at e1 with ⟨_, z⟩ | ⟨n1, e1⟩
    · cases z
    · rcases set_at e2 with ⟨_, z⟩ | ⟨n2, e2⟩
      · cases z
      · rw [List.getElem?_set_ne n1] at e3
        rw [List.getElem?_set_ne n2]
        exact h.rs.dis j k x d1 d2 n e1 e2 e3
/-- a slot is forgotten -/
theorem RSt.setU {i : Nat} (h : RSt g b w s σ H) : RSt g b w (s.set i .un) σ H := by
  refine ⟨⟨h.rs.st, by rw [S.set_env, List.length_set]; exact h.rs.len, fun j d' e => ?_, fun j d' e => ?_, fun j k x d1 d2 n e1 e2 e3 => ?_⟩, h.tr.mono fun a t => t.setE fun _ z => by cases z⟩
  · rcases set_at e with ⟨q, z⟩ | ⟨n, e⟩
    · cases z
    · exact h.rs.fr j d' e
  · rcases set_at e with ⟨q, z⟩ | ⟨n, e⟩
    · cases z
    · exact h.rs.ow j d' e
  · rcases set_at e1 with ⟨_, z⟩ | ⟨n1, e1⟩
    · cases z
    · rcases set_at e2 with ⟨_, z⟩ | ⟨n2, e2⟩
      · cases z
      · exact h.rs.dis j k x d1 d2 n e1 e2 e3
/-- a slot takes what is nobody's -/
theorem RSt.setO {i : Nat} {d : D} {a : Addr} (h : RSt g b w s σ H) (o : Own g b w s σ H a d) : RSt g b w (s.set i (.ow d)) (σ.set i (some (.ref a))) H := by
  refine ⟨⟨h.rs.st, by rw [S.set_env, List.length_set, List.length_set]; exact h.rs.len, fun j d' e => ?_, fun j d' e => ?_, fun j k x d1 d2 n e1 e2 e3 e4 => ?_⟩, h.tr.le, h.tr.dom, h.tr.keep, fun x t => ?_⟩
  · rcases set_at e with ⟨q, z⟩ | ⟨n, e⟩
    · cases z
    · obtain ⟨v', e1, r'⟩ := h.rs.fr j d' e
      exact ⟨v', by rw [List.getElem?_set_ne n]; exact e1, r'⟩
  · rcases set_at e with ⟨q, z⟩ | ⟨n, e⟩
    · cases z; subst q
      have hl : i < σ.length := by
        rw [← h.rs.len]
        have := (List.getElem?_eq_some_iff.mp e).1
        rwa [S.set_env, List.length_set] at this
      exact ⟨a, by rw [List.getElem?_set_self hl], o.F, o.m, o.co⟩
    · obtain ⟨x, e1, r'⟩ := h.rs.ow j d' e
      exact ⟨x, by rw [List.getElem?_set_ne n]; exact e1, r'⟩
  · rcases set_at e1 with ⟨q1, z⟩ | ⟨n1, e1⟩
    · subst q1
      rcases set_at e2 with ⟨q2, z⟩ | ⟨n2, e2⟩
      · exact n q2
      · have hx : x = a := by
          by_cases hl : i < σ.length
          · rw [List.getElem?_set_self hl] at e3; cases e3; rfl
          · rw [List.getElem?_eq_none (by simpa using hl)] at e3; cases e3
        subst hx
        rw [List.getElem?_set_ne n2] at e4
        exact o.T ⟨k, d2, e2, e4⟩
    · rcases set_at e2 with ⟨q2, z⟩ | ⟨n2, e2⟩
      · subst q2
        have hx : x = a := by
          by_cases hl : i < σ.length
          · rw [List.getElem?_set_self hl] at e4; cases e4; rfl
          · rw [List.getElem?_eq_none (by simpa using hl)] at e4; cases e4
        subst hx
        rw [List.getElem?_set_ne n1] at e3
        exact o.T ⟨j, d1, e1, e3⟩
      · rw [List.getElem?_set_ne n1] at e3
        rw [List.getElem?_set_ne n2] at e4
        exact h.rs.dis j k x d1 d2 n e1 e2 e3 e4
  · obtain ⟨j, e, h1, h2⟩ := t
    rcases set_at h1 with ⟨q, z⟩ | ⟨n, h1⟩
    · subst q
      have hx : x = a := by
        by_cases hl : i < σ.length
        · rw [List.getElem?_set_self hl] at h2; cases h2; rfl
        · rw [List.getElem?_eq_none (by simpa using hl)] at h2; cases h2
      subst hx
      exact .inr o.new
    · rw [List.getElem?_set_ne n] at h2
      exact h.tr.own x ⟨j, e, h1, h2⟩

/-! ### things changed -/
theorem RSt.ne (h : RSt g b w s σ H) {a : Addr} (hf : w.F a = none) {x : Addr} {u : HO} (e : w.F x = some u) : x ≠ a := fun z => by rw [z, hf] at e; cases e
/-- an owned thing -/
theorem RSt.putO {i : Nat} {d d' : D} {a : Addr} {o : HO} (h : RSt g b w s σ H) (e : s.env[i]? = some (.ow d)) (ea : σ[i]? = some (some (.ref a))) (c : CO g w (upd H a o) a d') : RSt g b w (s.set i (.ow d')) σ (upd H a o) := by
  obtain ⟨a', ea', f, m, c0⟩ := h.rs.ow i d e
  rw [ea] at ea'; cases ea'
  have il : i < s.env.length := (List.getElem?_eq_some_iff.mp e).1
  refine ⟨⟨⟨fun x u hx => ?_, h.rs.st.nt, tabs_upd h.rs.st.tabs (.inr c0.thereN), h.rs.st.ml, h.rs.st.mnd, fun k x d1 e1 e2 => ?_⟩, by rw [S.set_env, List.length_set]; exact h.rs.len, fun j d1 e1 => ?_, fun j d1 e1 => ?_, fun j k x d1 d2 n e1 e2 => ?_⟩, h.tr.le, fun x u hx hz => ?_, fun x u hx hz hm hT => ?_, fun x t => ?_⟩
  · have : x ≠ a := fun z => by rw [z, f] at hx; cases hx
    rw [upd_ne this]
    exact h.rs.st.sub x u hx
  · obtain ⟨f1, c1⟩ := h.rs.st.sh k x d1 e1 e2
    have : x ≠ a := fun z => m (by rw [← z]; exact List.mem_of_getElem? e1)
    exact ⟨f1, c1.mono Le.refl (upd_ne this)⟩
  · rcases set_at e1 with ⟨q, z⟩ | ⟨n, e1⟩
    · cases z
    · exact h.rs.fr j d1 e1
  · rcases set_at e1 with ⟨q, z⟩ | ⟨n, e1⟩
    · cases z; subst q
      exact ⟨a, ea, f, m, c⟩
    · obtain ⟨x, ex, f1, m1, c1⟩ := h.rs.ow j d1 e1
      have : x ≠ a := fun z => h.rs.dis i j a d d1 n e e1 ea (by rw [← z]; exact ex)
      exact ⟨x, ex, f1, m1, c1.mono Le.refl (upd_ne this)⟩
  · have back : ∀ {j : Nat} {d1 : D}, (s.set i (.ow d')).env[j]? = some (.ow d1) → ∃ d2, s.env[j]? = some (.ow d2) := fun {j d1} q => by
      rcases set_at q with ⟨q, z⟩ | ⟨n, q⟩
      · subst q; exact ⟨d, e⟩
      · exact ⟨_, q⟩
    obtain ⟨_, e1⟩ := back e1
    obtain ⟨_, e2⟩ := back e2
    exact h.rs.dis j k x _ _ n e1 e2
  · obtain ⟨u', q, hz'⟩ := h.tr.dom x u hx hz
    by_cases hz : x = a
    · subst hz
      obtain ⟨o', eo, hc⟩ := c.thereN
      rw [upd_same] at eo; cases eo
      exact ⟨_, upd_same, hc.nt⟩
    · exact ⟨u', by rw [upd_ne hz]; exact q, hz'⟩
  · obtain ⟨q, f1, m1⟩ := h.tr.keep x u hx hz hm hT
    have : x ≠ a := fun z => by
      subst z
      rcases h.tr.own x ⟨i, d, e, ea⟩ with z | z
      · exact hT z
      · exact z.no hx hz
    exact ⟨by rw [upd_ne this]; exact q, f1, m1⟩
  · obtain ⟨j, d1, h1, h2⟩ := t
    rcases set_at h1 with ⟨q, z⟩ | ⟨n, h1⟩
    · subst q
      exact h.tr.own x ⟨i, d, e, h2⟩
    · exact h.tr.own x ⟨j, d1, h1, h2⟩
/-- a shared thing -/
theorem RSt.putS {k : Nat} {d' : D} {a : Addr} {o : HO} (h : RSt g b w s σ H) (ea : w.m[k]? = some a) (c : CO g w (upd H a o) a d') : RSt g b w ⟨s.env, s.sh.set k d'⟩ σ (upd H a o) := by
  have am : a ∈ w.m := List.mem_of_getElem? ea
  have hk : k < s.sh.length := by rw [← h.rs.st.ml]; exact (List.getElem?_eq_some_iff.mp ea).1
  obtain ⟨af, c0⟩ := h.rs.st.sh k a s.sh[k] ea (by simp [hk])
  refine ⟨⟨⟨fun x u hx => ?_, h.rs.st.nt, tabs_upd h.rs.st.tabs (.inr c0.thereN), by rw [List.length_set]; exact h.rs.st.ml, h.rs.st.mnd, fun j x d1 e1 e2 => ?_⟩, h.rs.len, h.rs.fr, fun j d1 e1 => ?_, h.rs.dis⟩, h.tr.le, fun x u hx hz => ?_, fun x u hx hz hm hT => ?_, h.tr.own⟩
  · have : x ≠ a := fun z => by rw [z, af] at hx; cases hx
    rw [upd_ne this]
    exact h.rs.st.sub x u hx
  · rcases set_at e2 with ⟨q, z⟩ | ⟨n, e2⟩
    · subst q
      rw [ea] at e1; cases e1
      rw [z]
      exact ⟨af, c⟩
    · obtain ⟨f1, c1⟩ := h.rs.st.sh j x d1 e1 e2
      have : x ≠ a := fun z => by
        subst z
        have h1 := List.getElem?_eq_some_iff.mp ea
        have h2 := List.getElem?_eq_some_iff.mp e1
        exact n ((List.getElem_inj h.rs.st.mnd).mp (h1.2.trans h2.2.symm))
      exact ⟨f1, c1.mono Le.refl (upd_ne this)⟩
  · obtain ⟨x, ex, f1, m1, c1⟩ := h.rs.ow j d1 e1
    have : x ≠ a := fun z => m1 (by rw [z]; exact am)
    exact ⟨x, ex, f1, m1, c1.mono Le.refl (upd_ne this)⟩
  · obtain ⟨u', q, hz'⟩ := h.tr.dom x u hx hz
    by_cases hz : x = a
    · subst hz
      obtain ⟨o', eo, hc⟩ := c.thereN
      rw [upd_same] at eo; cases eo
      exact ⟨_, upd_same, hc.nt⟩
    · exact ⟨u', by rw [upd_ne hz]; exact q, hz'⟩
  · obtain ⟨q, f1, m1⟩ := h.tr.keep x u hx hz hm hT
    have : x ≠ a := fun z => m1 (by rw [z]; exact am)
    exact ⟨by rw [upd_ne this]; exact q, f1, m1⟩
/-- what is nobody's is shared -/
theorem RSt.share {a : Addr} {d : D} (h : RSt g b w s σ H) (o : Own g b w s σ H a d) :
    RSt g b ⟨w.F, w.m ++ [a]⟩ ⟨s.env, s.sh ++ [d]⟩ σ H ∧ Le w ⟨w.F, w.m ++ [a]⟩ ∧ Rep g ⟨w.F, w.m ++ [a]⟩ (.sh s.sh.length) (.ref a) := by
  have le : Le w ⟨w.F, w.m ++ [a]⟩ := ⟨fun _ _ e => e, [a], rfl⟩
  have at_ : ∀ {j : Nat} {x : Addr}, (w.m ++ [a])[j]? = some x → w.m[j]? = some x ∨ (j = s.sh.length ∧ x = a) := fun {j x} e => by
    by_cases hj : j < w.m.length
    · rw [List.getElem?_append_left hj] at e
      exact .inl e
    · have hj : w.m.length ≤ j := Nat.le_of_not_lt hj
      rw [List.getElem?_append_right hj] at e
      have hl := (List.getElem?_eq_some_iff.mp e).1
      have z : j - w.m.length = 0 := by simpa using hl
      rw [z] at e
      have hm := h.rs.st.ml
      exact .inr ⟨by omega, by simpa using e.symm⟩
  refine ⟨⟨⟨⟨h.rs.st.sub, h.rs.st.nt, h.rs.st.tabs, by rw [List.length_append, List.length_append, h.rs.st.ml]; rfl, ?_, fun j x d1 e1 e2 => ?_⟩, h.rs.len, fun j d1 e1 => ?_, fun j d1 e1 => ?_, h.rs.dis⟩, h.tr.le.trans le, h.tr.dom, fun x u hx hz hm hT => ?_, h.tr.own⟩, le, .sh ?_⟩
  · refine List.nodup_append.mpr ⟨h.rs.st.mnd, by simp, fun x hx y hy => ?_⟩
    have : y = a := by simpa using hy
    subst this
    exact fun z => o.m (by rw [← z]; exact hx)
  · rcases at_ e1 with e1 | ⟨ej, ex⟩
    · have hj : j < s.sh.length := by rw [← h.rs.st.ml]; exact (List.getElem?_eq_some_iff.mp e1).1
      rw [List.getElem?_append_left hj] at e2
      obtain ⟨f1, c1⟩ := h.rs.st.sh j x d1 e1 e2
      exact ⟨f1, c1.mono le rfl⟩
    · subst ej ex
      have : d1 = d := by simpa using e2.symm
      subst this
      exact ⟨o.F, o.co.mono le rfl⟩
  · obtain ⟨v, e2, r⟩ := h.rs.fr j d1 e1
    exact ⟨v, e2, r.mono le⟩
  · obtain ⟨x, ex, f1, m1, c1⟩ := h.rs.ow j d1 e1
    refine ⟨x, ex, f1, fun z => ?_, c1.mono le rfl⟩
    rcases List.mem_append.mp z with z | z
    · exact m1 z
    · have : x = a := by simpa using z
      subst this
      exact o.T ⟨j, d1, e1, ex⟩
  · obtain ⟨q, f1, m1⟩ := h.tr.keep x u hx hz hm hT
    refine ⟨q, f1, fun z => ?_⟩
    rcases List.mem_append.mp z with z | z
    · exact m1 z
    · have : x = a := by simpa using z
      subst this
      exact o.new.no hx hz
  · show (w.m ++ [a])[s.sh.length]? = some a
    rw [← h.rs.st.ml]
    simp

/-! ### tables grow -/
theorem RSg.extN {sh : List D} {H' : Hp} (h : RSg g w sh H) (e : ExtN H H') (t : Tabs g.tabs H') : RSg g w sh H' := by
  refine ⟨fun a u q => ?_, h.nt, t, h.ml, h.mnd, fun k a d e1 e2 => ?_⟩
  · exact e a u (h.sub a u q) fun ps y => h.nt a ps (by rw [← y]; exact q)
  · obtain ⟨f, c⟩ := h.sh k a d e1 e2
    obtain ⟨u, q, hc⟩ := c.thereN
    exact ⟨f, c.mono Le.refl ((e a u q hc.nt).trans q.symm)⟩
theorem RSt.extN {H' : Hp} (h : RSt g b w s σ H) (e : ExtN H H') (t : Tabs g.tabs H') : RSt g b w s σ H' := by
  refine ⟨⟨h.rs.st.extN e t, h.rs.len, h.rs.fr, fun i d q => ?_, h.rs.dis⟩, h.tr.le, fun a u q hz => ?_, fun a u q hz hm hT => ?_, h.tr.own⟩
  · obtain ⟨a, e1, f, m, c⟩ := h.rs.ow i d q
    obtain ⟨u, q, hc⟩ := c.thereN
    exact ⟨a, e1, f, m, c.mono Le.refl ((e a u q hc.nt).trans q.symm)⟩
  · obtain ⟨u', q, hz'⟩ := h.tr.dom a u q hz
    exact ⟨u', e a u' q hz', hz'⟩
  · obtain ⟨q1, f, m⟩ := h.tr.keep a u q hz hm hT
    exact ⟨e a u q1 hz, f, m⟩

/-! ### calls -/
theorem RSt.call {w' : Wd} {sh' : List D} {H' : Hp} {T' : Addr → Prop} (h : RSt g b w s σ H) (hg : RSg g w' sh' H') (t : Tr ⟨w, H, fun _ => False⟩ w' H' T') : RSt g b w' (setSh s sh') σ H' := by
  have le := t.le
  have tk : ∀ {a : Addr} {u : HO}, H a = some u → (∀ ps, u ≠ .tbl ps) → a ∉ w.m → H' a = some u ∧ (w.F a = none → w'.F a = none) ∧ a ∉ w'.m := fun {a u} e hz m => t.keep a u e hz m (fun z => z)
  refine ⟨⟨hg, h.rs.len, fun i d e => ?_, fun i d e => ?_, h.rs.dis⟩, ?_⟩
  · obtain ⟨v, e1, r⟩ := h.rs.fr i d e
    exact ⟨v, e1, r.mono le⟩
  · obtain ⟨a, e1, f, m, c⟩ := h.rs.ow i d e
    obtain ⟨u, q, hc⟩ := c.thereN
    obtain ⟨k1, k2, k3⟩ := tk q hc.nt m
    exact ⟨a, e1, k2 f, k3, c.mono le (by rw [k1, q])⟩
  · refine h.tr.trans ⟨t.le, t.dom, fun a u e hz m _ => tk e hz m, fun a ot => .inl ot⟩
theorem Own.ofCall {w' : Wd} {sh' : List D} {H' : Hp} {T' : Addr → Prop} {a : Addr} {d : D} (h : RSt g b w s σ H) (hf : w'.F a = none) (hm : a ∉ w'.m) (hn : Nw H a) (c : CO g w' H' a d) : Own g b w' (setSh s sh') σ H' a d := by
  refine ⟨hf, hm, fun t => ?_, h.tr.fresh hn, c⟩
  obtain ⟨i, d', e1, e2⟩ := t
  exact h.rs.nT hn ⟨i, d', e1, e2⟩
end
end Ev
end
section
set_option linter.all false
set_option maxRecDepth 100000
/-! Rel3: what an operand holds; hidden slots; ends. -/
namespace Ev
open PySem L2
/-- a thing as it is read in H -/
inductive RC (g : Gl) (w : Wd) (H : Hp) : D → V → Prop
  | non : RC g w H .non .non
  | bl {b} : RC g w H (.bl b) (.bl b)
  | int {i} : RC g w H (.int i) (.int i)
  | str {x} : RC g w H (.str x) (.str x)
  | ty {n} : RC g w H (.ty n) (.ty n)
  | fn {i o} : g.K.lookup (g.fa i) = some o → o.cls = .type "function" → RC g w H (.fn i) (.ref (g.fa i))
  | cls {i} : RC g w H (.cls i) (.ref (g.ca i))
  | tup {a xs vs} : SqT g.K H a vs → SqT g.K w.F a vs → Reps g w xs vs → RC g w H (.tup xs) (.ref a)
  | lst {a xs vs} : H a = some (.lst vs) → Reps g w xs vs → RC g w H (.lst xs) (.ref a)
  | ro {a xs vs} : SqL g.K H a vs → Reps g w xs vs → RC g w H (.ro xs) (.ref a)
  | dicK {a ks ds} {kvs : List (Key × V)} : H a = some (.dK kvs) → ks = kvs.map (fun p => keyD p.1) → Reps g w ds (kvs.map (·.2)) → RC g w H (.dic ks ds) (.ref a)
  | dicT {a ks ds} {kvs : List (List Key × V)} : kvs ≠ [] → H a = some (.dT kvs) → ks = kvs.map (fun p => D.tup (p.1.map keyD)) → Reps g w ds (kvs.map (·.2)) → RC g w H (.dic ks ds) (.ref a)
section
variable {g : Gl} {b : Ba} {w w' : Wd} {s : S} {σ : L2.St} {H : Hp}
theorem RSg.subN {sh : List D} (h : RSg g w sh H) {a : Addr} {u : HO} (e : w.F a = some u) (n : ¬ isDic u) : H a = some u := by
  exact h.sub a u e
theorem RSg.subD {sh : List D} (h : RSg g w sh H) {a : Addr} {u : HO} (e : w.F a = some u) : Rd H a u := by
  exact .inl (h.sub a u e)
theorem RSg.sqT {sh : List D} (h : RSg g w sh H) {a : Addr} {vs : List V} (q : SqT g.K w.F a vs) : SqT g.K H a vs := by
  rcases q with (q | ⟨o, q⟩) | q
  · exact .inl (.inl (h.subN q fun z => z))
  · exact .inl (.inr ⟨o, h.subN q fun z => z⟩)
  · exact .inr q
theorem RSg.sqL {sh : List D} (h : RSg g w sh H) {a : Addr} {vs : List V} (q : SqL g.K w.F a vs) : SqL g.K H a vs := by
  rcases q with (q | ⟨o, q⟩) | q
  · exact .inl (.inl (h.subN q fun z => z))
  · exact .inl (.inr ⟨o, h.subN q fun z => z⟩)
  · exact .inr q
/-- a frozen value, read -/
theorem RSg.rc {sh : List D} (h : RSg g w sh H) {d : D} {v : V} (r : Rep g w d v) (n : ∀ k, d ≠ .sh k) : RC g w H d v := by
  cases r with
  | non => exact .non
  | bl => exact .bl
  | int => exact .int
  | str => exact .str
  | ty => exact .ty
  | fn h1 h2 => exact .fn h1 h2
  | cls => exact .cls
  | tup q r => exact .tup (h.sqT q) q r
  | lst q r => exact .lst (h.subN q fun z => z) r
  | ro q r => exact .ro (h.sqL q) r
  | dicK q e r => exact .dicK (h.sub _ _ q) e r
  | dicT n0 q e r => exact .dicT n0 (h.sub _ _ q) e r
  | sh q => exact absurd rfl (n _)
theorem CO.rc {a : Addr} {d : D} (c : CO g w H a d) : RC g w H d (.ref a) := by
  cases c with
  | lst q r => exact .lst q r
  | dicK q e r => exact .dicK q e r
  | dicT n q e r => exact .dicT n q e r
/-- any value, looked through the store -/
theorem RSg.vw {sh : List D} (h : RSg g w sh H) {d : D} {v : V} (r : Rep g w d v) : RC g w H (vw sh d) v := by
  cases r with
  | sh q =>
    rename_i k a
    have hl : k < sh.length := by rw [← h.ml]; exact (List.getElem?_eq_some_iff.mp q).1
    have e : Ev.vw sh (.sh k) = sh[k] := by
      show sh.getD k .non = sh[k]
      rw [List.getD_eq_getElem?_getD, List.getElem?_eq_getElem hl]
      rfl
    rw [e]
    exact (h.sh k a sh[k] q (by simp [hl])).2.rc
  | tup q r => exact h.rc (.tup q r) (fun k z => by cases z)
  | lst q r => exact h.rc (.lst q r) (fun k z => by cases z)
  | ro q r => exact h.rc (.ro q r) (fun k z => by cases z)
  | dicK q e r => exact h.rc (.dicK q e r) (fun k z => by cases z)
  | dicT n q e r => exact h.rc (.dicT n q e r) (fun k z => by cases z)
  | non => exact .non
  | bl => exact .bl
  | int => exact .int
  | str => exact .str
  | ty => exact .ty
  | fn h1 h2 => exact .fn h1 h2
  | cls => exact .cls
theorem RepO.mono {x : Op} {v : V} {s' : S} (l : Le w w') (r : RepO g w s σ x v) : RepO g w' s' σ x v := by
  cases r with
  | v r => exact .v (r.mono l)
  | sl e => exact .sl e
/-- an operand, read -/
theorem RSt.cont {x : Op} {v : V} {d : D} (h : RSt g b w s σ H) (r : RepO g w s σ x v) (e : cont s x = some d) : RC g w H d v := by
  cases r with
  | v r =>
    cases e
    exact h.rs.st.vw r
  | sl hv =>
    rename_i i
    have e : (match s.get i with | .ow d => some d | .fr d => some (Ev.vw s.sh d) | .un => none) = some d := e
    cases q : s.get i with
    | un => rw [q] at e; cases e
    | ow d' =>
      rw [q] at e; cases e
      obtain ⟨a, ea, _, _, c⟩ := h.rs.ow i _ (get_ow q)
      rw [hv] at ea; cases ea
      exact c.rc
    | fr d' =>
      rw [q] at e; cases e
      obtain ⟨v', ea, r⟩ := h.rs.fr i _ (get_fr q)
      rw [hv] at ea; cases ea
      exact h.rs.st.vw r
theorem RC.items {d : D} {v : V} {l : List D} (r : RC g w H d v) (e : items d = some l) : ∃ a vs, v = .ref a ∧ (SqL g.K H a vs ∨ SqT g.K H a vs) ∧ Reps g w l vs := by
  cases r with
  | tup q _ r => cases e; exact ⟨_, _, rfl, .inr q, r⟩
  | lst q r => cases e; exact ⟨_, _, rfl, .inl (SqL.of q), r⟩
  | ro q r => cases e; exact ⟨_, _, rfl, .inl q, r⟩
  | _ => cases e

/-! ### hidden slots -/
theorem wipeE_get {own : List Nat} {env : List Sl} : ∀ {i : Nat} {x : Sl}, (wipeE own env)[i]? = some x → (i ∈ own ∧ x = .un) ∨ (i ∉ own ∧ env[i]? = some x) := by
  induction own with
  | nil => exact fun h => .inr ⟨by simp, h⟩
  | cons j r ih =>
    intro i x h
    rcases set_at (show ((wipeE r env).set j .un)[i]? = some x from h) with ⟨e, z⟩ | ⟨n, h⟩
    · subst e; exact .inl ⟨by simp, z⟩
    · rcases ih h with ⟨m, z⟩ | ⟨m, z⟩
      · exact .inl ⟨List.mem_cons_of_mem _ m, z⟩
      · exact .inr ⟨by simp only [List.mem_cons, not_or]; exact ⟨fun q => n q.symm, m⟩, z⟩
theorem wipeE_len {own : List Nat} {env : List Sl} : (wipeE own env).length = env.length := by
  induction own with
  | nil => rfl
  | cons j r ih => show ((wipeE r env).set j .un).length = _; rw [List.length_set, ih]
theorem restore_len {own : List Nat} {old env : List Sl} : (restore old own env).length = env.length := by
  induction own with
  | nil => rfl
  | cons j r ih => show ((restore old r env).set j _).length = _; rw [List.length_set, ih]
theorem restore_get {own : List Nat} {old env : List Sl} (hl : old.length = env.length) : ∀ {i : Nat} {x : Sl}, (restore old own env)[i]? = some x → (i ∈ own ∧ old[i]? = some x) ∨ (i ∉ own ∧ env[i]? = some x) := by
  induction own with
  | nil => exact fun h => .inr ⟨by simp, h⟩
  | cons j r ih =>
    intro i x h
    have h : ((restore old r env).set j (old.getD j .un))[i]? = some x := h
    rcases set_at h with ⟨e, z⟩ | ⟨n, h⟩
    · subst e
      have hj : j < old.length := by
        have := (List.getElem?_eq_some_iff.mp h).1
        rw [List.length_set, restore_len] at this
        omega
      refine .inl ⟨by simp, ?_⟩
      rw [z, List.getD_eq_getElem?_getD, List.getElem?_eq_getElem hj]
      rfl
    · rcases ih h with ⟨m, z⟩ | ⟨m, z⟩
      · exact .inl ⟨List.mem_cons_of_mem _ m, z⟩
      · exact .inr ⟨by simp only [List.mem_cons, not_or]; exact ⟨fun q => n q.symm, m⟩, z⟩
/-- some slots hidden, others as they were -/
theorem RSt.hide {own : List Nat} {σ' : L2.St} (h : RSt g b w s σ H) (hl : σ'.length = σ.length) (ho : ∀ i, i ∉ own → σ'[i]? = σ[i]?) :
    RSt g ⟨w, H, OT ⟨wipeE own s.env, s.sh⟩ σ'⟩ w ⟨wipeE own s.env, s.sh⟩ σ' H := by
  have back : ∀ {i : Nat} {x : Sl}, (wipeE own s.env)[i]? = some x → x ≠ .un → i ∉ own ∧ s.env[i]? = some x := fun {i x} e n => by
    rcases wipeE_get e with ⟨_, z⟩ | q
    · exact absurd z n
    · exact q
  refine ⟨⟨h.rs.st, by show (wipeE own s.env).length = σ'.length; rw [wipeE_len, hl]; exact h.rs.len, fun i d e => ?_, fun i d e => ?_, fun i j a d d' n e1 e2 e3 => ?_⟩, Tr.refl⟩
  · obtain ⟨n, e⟩ := back e (fun z => by cases z)
    rw [ho i n]
    exact h.rs.fr i d e
  · obtain ⟨n, e⟩ := back e (fun z => by cases z)
    rw [ho i n]
    exact h.rs.ow i d e
  · obtain ⟨n1, e1⟩ := back e1 (fun z => by cases z)
    obtain ⟨n2, e2⟩ := back e2 (fun z => by cases z)
    rw [ho i n1] at e3
    rw [ho j n2]
    exact h.rs.dis i j a d d' n e1 e2 e3
theorem RSt.unhide {own : List Nat} {σ' σ2 : L2.St} {w2 : Wd} {s2 : S} {H2 : Hp} (h : RSt g b w s σ H) (hl : σ'.length = σ.length) (ho : ∀ i, i ∉ own → σ'[i]? = σ[i]?)
    (h2 : RSt g ⟨w, H, OT ⟨wipeE own s.env, s.sh⟩ σ'⟩ w2 s2 σ2 H2) (hl2 : σ2.length = σ.length) (ho2 : ∀ i, i ∉ own → σ2[i]? = σ[i]?) :
    RSt g b w2 ⟨restore s.env own s2.env, s2.sh⟩ σ H2 := by
  have le : Le w w2 := h2.tr.le
  have len2 : s.env.length = s2.env.length := by rw [h.rs.len, h2.rs.len, hl2]
  have sub : ∀ {a : Addr}, OT ⟨wipeE own s.env, s.sh⟩ σ' a → OT s σ a := fun {a} ⟨i, d, e1, e2⟩ => by
    rcases wipeE_get e1 with ⟨_, z⟩ | ⟨n, e1⟩
    · cases z
    · rw [ho i n] at e2
      exact ⟨i, d, e1, e2⟩
  -- a hidden owned thing stands
  have hid : ∀ {i : Nat} {d : D} {a : Addr}, i ∈ own → s.env[i]? = some (.ow d) → σ[i]? = some (some (.ref a)) → ¬ OT ⟨wipeE own s.env, s.sh⟩ σ' a := fun {i d a} hi e ea ⟨j, d', e1, e2⟩ => by
    rcases wipeE_get e1 with ⟨_, z⟩ | ⟨n, e1⟩
    · cases z
    · rw [ho j n] at e2
      exact h.rs.dis i j a d d' (fun z => n (z ▸ hi)) e e1 ea e2
  have stand : ∀ {i : Nat} {d : D}, i ∈ own → s.env[i]? = some (.ow d) → ∃ a, σ[i]? = some (some (.ref a)) ∧ w2.F a = none ∧ a ∉ w2.m ∧ CO g w2 H2 a d ∧ ¬ OT s2 σ2 a := fun {i d} hi e => by
    obtain ⟨a, ea, f, m, c⟩ := h.rs.ow i d e
    obtain ⟨u, hu, hc⟩ := c.thereN
    obtain ⟨q1, q2, q3⟩ := h2.tr.keep a u hu hc.nt m (hid hi e ea)
    refine ⟨a, ea, q2 f, q3, c.mono le (q1.trans hu.symm), fun t => ?_⟩
    rcases h2.tr.own a t with z | z
    · exact hid hi e ea z
    · exact Nw.no z hu hc.nt
  have later : ∀ {i : Nat} {d : D}, i ∉ own → s2.env[i]? = some (.ow d) → ∃ a, σ[i]? = some (some (.ref a)) ∧ w2.F a = none ∧ a ∉ w2.m ∧ CO g w2 H2 a d ∧ OT s2 σ2 a := fun {i d} hi e => by
    obtain ⟨a, ea, f, m, c⟩ := h2.rs.ow i d e
    have t : OT s2 σ2 a := ⟨i, d, e, ea⟩
    rw [ho2 i hi] at ea
    exact ⟨a, ea, f, m, c, t⟩
  refine ⟨⟨h2.rs.st, by show (restore s.env own s2.env).length = _; rw [restore_len, ← len2]; exact h.rs.len, fun i d e => ?_, fun i d e => ?_, fun i j a d d' n e1 e2 e3 e4 => ?_⟩, ?_⟩
  · rcases restore_get len2 e with ⟨_, e⟩ | ⟨n, e⟩
    · obtain ⟨v, ev, r⟩ := h.rs.fr i d e
      exact ⟨v, ev, r.mono le⟩
    · rw [← ho2 i n]
      exact h2.rs.fr i d e
  · rcases restore_get len2 e with ⟨hi, e⟩ | ⟨hi, e⟩
    · obtain ⟨a, x1, x2, x3, x4, _⟩ := stand hi e
      exact ⟨a, x1, x2, x3, x4⟩
    · obtain ⟨a, x1, x2, x3, x4, _⟩ := later hi e
      exact ⟨a, x1, x2, x3, x4⟩
  · rcases restore_get len2 e1 with ⟨hi, e1⟩ | ⟨hi, e1⟩
    · obtain ⟨a1, x1, _, _, _, y1⟩ := stand hi e1
      rw [e3] at x1; cases x1
      rcases restore_get len2 e2 with ⟨hj, e2⟩ | ⟨hj, e2⟩
      · exact h.rs.dis i j a d d' n e1 e2 e3 e4
      · obtain ⟨a2, x2, _, _, _, y2⟩ := later hj e2
        rw [e4] at x2; cases x2
        exact y1 y2
    · obtain ⟨a1, x1, _, _, _, y1⟩ := later hi e1
      rw [e3] at x1; cases x1
      rcases restore_get len2 e2 with ⟨hj, e2⟩ | ⟨hj, e2⟩
      · obtain ⟨a2, x2, _, _, _, y2⟩ := stand hj e2
        rw [e4] at x2; cases x2
        exact y2 y1
      · rw [← ho2 i hi] at e3
        rw [← ho2 j hj] at e4
        exact h2.rs.dis i j a d d' n e1 e2 e3 e4
  · have t2 : Tr ⟨w, H, OT s σ⟩ w2 H2 (OT ⟨restore s.env own s2.env, s2.sh⟩ σ) := by
      refine ⟨le, h2.tr.dom, fun a u e hz m nT => h2.tr.keep a u e hz m fun z => nT (sub z), fun a t => ?_⟩
      obtain ⟨i, d, e1, e2⟩ := t
      rcases restore_get len2 e1 with ⟨hi, e1⟩ | ⟨hi, e1⟩
      · exact .inl ⟨i, d, e1, e2⟩
      · rw [← ho2 i hi] at e2
        rcases h2.tr.own a ⟨i, d, e1, e2⟩ with z | z
        · exact .inl (sub z)
        · exact .inr z
    exact h.tr.trans t2

/-! ### a def's entry -/
theorem RSt.enter {sh : List D} {ds : List D} {vs : List V} (hg : RSg g w sh H) (r : Reps g w ds vs) (n : Nat) :
    RSt g ⟨w, H, fun _ => False⟩ w ⟨ds.map .fr ++ List.replicate n .un, sh⟩ (vs.map some ++ List.replicate n none) H := by
  have look : ∀ {i : Nat} {x : Sl}, (ds.map Sl.fr ++ List.replicate n .un)[i]? = some x → x ≠ .un → ∃ d, x = .fr d ∧ ds[i]? = some d := fun {i x} e nu => by
    by_cases hi : i < ds.length
    · rw [List.getElem?_append_left (by simpa using hi), List.getElem?_map] at e
      cases q : ds[i]? with
      | none => rw [q] at e; cases e
      | some d => rw [q] at e; cases e; exact ⟨d, rfl, rfl⟩
    · rw [List.getElem?_append_right (by simpa using Nat.le_of_not_lt hi), List.getElem?_replicate] at e
      split at e
      · cases e; exact absurd rfl nu
      · cases e
  refine ⟨⟨hg, by simp [r.length], fun i d e => ?_, fun i d e => ?_, fun i j a d d' _ e1 _ _ => ?_⟩, Tr.refl.mono fun a t => ?_⟩
  · obtain ⟨d', q, e'⟩ := look e (fun z => by cases z)
    cases q
    obtain ⟨v, ev, rv⟩ := r.get e'
    refine ⟨v, ?_, rv⟩
    have hi := (List.getElem?_eq_some_iff.mp ev).1
    rw [List.getElem?_append_left (by simpa using hi), List.getElem?_map, ev]
    rfl
  · obtain ⟨d', q, _⟩ := look e (fun z => by cases z)
    cases q
  · obtain ⟨d', q, _⟩ := look e1 (fun z => by cases z)
    cases q
  · obtain ⟨i, d, e1, _⟩ := t
    obtain ⟨d', q, _⟩ := look e1 (fun z => by cases z)
    cases q
end

/-! ### ends -/
def Post {α : Type} (r : Res α) (P : α → S → Prop) (X : Nat → List D → S → Prop) : Prop := match r with
  | .ok a s => P a s
  | .ex c ds s => X c ds s
  | .er => False
theorem post_bind {α β : Type} {r : Res α} {f : α → S → Res β} {P : β → S → Prop} {X : Nat → List D → S → Prop} : Post (r.bind f) P X = Post r (fun a s => Post (f a s) P X) X := by
  cases r <;> rfl
theorem Post.mono {α : Type} {r : Res α} {P P' : α → S → Prop} {X X' : Nat → List D → S → Prop} (h : Post r P X) (hp : ∀ a s, P a s → P' a s) (hx : ∀ c ds s, X c ds s → X' c ds s) : Post r P' X' := by
  cases r with
  | ok a s => exact hp a s h
  | ex c ds s => exact hx c ds s h
  | er => exact h
def PostO (o : Out) (N : S → Prop) (R : Rv → S → Prop) (B C : S → Prop) (X : Nat → List D → S → Prop) : Prop := match o with
  | .nx s => N s
  | .rt r s => R r s
  | .bk s => B s
  | .ct s => C s
  | .ex c ds s => X c ds s
  | .er => False
theorem post_out {α : Type} {r : Res α} {f : α → S → Out} {N : S → Prop} {R : Rv → S → Prop} {B C : S → Prop} {X : Nat → List D → S → Prop} : PostO (r.out f) N R B C X = Post r (fun a s => PostO (f a s) N R B C X) X := by
  cases r <;> rfl
theorem PostO.mono {o : Out} {N N' : S → Prop} {R R' : Rv → S → Prop} {B B' C C' : S → Prop} {X X' : Nat → List D → S → Prop} (h : PostO o N R B C X) (hn : ∀ s, N s → N' s) (hr : ∀ r s, R r s → R' r s) (hb : ∀ s, B s → B' s) (hc : ∀ s, C s → C' s) (hx : ∀ c ds s, X c ds s → X' c ds s) : PostO o N' R' B' C' X' := by
  cases o with
  | nx s => exact hn s h
  | rt r s => exact hr r s h
  | bk s => exact hb s h
  | ct s => exact hc s h
  | ex c ds s => exact hx c ds s h
  | er => exact h
end Ev
end
section
set_option linter.all false
set_option maxRecDepth 100000
set_option maxHeartbeats 4000000
/-! FnLook: a def as an object: its class, itself == itself. -/
namespace FnL
open PySem PySem.Spec PyProof.Rows PySem.SeqAt
theorem lk_class : typeLookup (.type "function") "__class__" = pure (some (.builtin "object.__class__")) := by rw [typeLookup_type, builtinLookup_eq_fast]; kernel_rfl
theorem sub_owner : isSubtype (.type "function") (.type (".".intercalate ("object.__class__".cutAt '.').dropLast)) = pure true := by
  rw [F.owner_object_class, isSubtype_type]; kernel_rfl
theorem slot_ga : Slot "function" "__getattribute__" "object.__getattribute__" :=
  .of (owner := "object") (n := "__getattribute__") (by rw [typeLookup_type, builtinLookup_eq_fast]; kernel_rfl) (by decide +kernel) (by decide +kernel) (by decide +kernel)
    (by first | exact .inl (by decide +kernel) | exact .inr (by decide +kernel)) (by rw [isSubtype_type]; kernel_rfl)
theorem ent_ga : entryFor table "object.__getattribute__" = some Builtin.«object.__getattribute__» := entryFor_of_tree (by kernel_rfl)
theorem lk_ga : typeLookup (.type "function") "__getattr__" = pure none := by rw [typeLookup_type, builtinLookup_eq_fast]; kernel_rfl
theorem slot_eq : Slot "function" "__eq__" "object.__eq__" :=
  .of (owner := "object") (n := "__eq__") (by rw [typeLookup_type, builtinLookup_eq_fast]; kernel_rfl) (by decide +kernel) (by decide +kernel) (by decide +kernel)
    (by first | exact .inl (by decide +kernel) | exact .inr (by decide +kernel)) (by rw [isSubtype_type]; kernel_rfl)
section
variable {prog : Program} {w : World} {A : Around} {E : Value → Shared → Prop} {h : Heap} {g : Array GenState} {d : Drawn} {t : Nat} {os : OsState} {a : Addr} {o : Obj}
theorem cls_get {R : Result → Shared → Prop} (hx : h.get? a = some o) (hc : o.cls = .type "function") (hq : R (.ok (.ret (.type "function"))) ⟨h, g, d, t, os⟩) :
    codeAny (model prog w) A (.call (.builtin "getset_descriptor.__get__") ⟨[.builtin "object.__class__", .ref a, .type "function"], []⟩) R ⟨h, g, d, t, os⟩ := by
  have hT : (⟨h, g, d, t, os⟩ : Shared).TypeIs (.ref a) "function" := ⟨_, hx, hc⟩
  have hT5 : (⟨h, g, d, t, os⟩ : Shared).TypeIs (.builtin "object.__class__") "getset_descriptor" := F.typeOf_object_class
  have f8 := sub_owner
  refine codeAny_call_builtin F.slot_gs_get.plain F.entry_gs_get (F.slot_gs_get.check _ _ _ _ _ _ _ _ hT5 (F.args_gs_get _ _ _) ?_)
  repeat (any_goals (first | assumption | wp_step))
  refine ⟨Code.quiet_builtin _ (by decide +kernel), codeAny_builtin F.entry_object_class ?_⟩
  repeat (any_goals (first | assumption | wp_step))
theorem cls_entry {tk : Tok} {Q : Fin → Shared → Prop} (hx : h.get? a = some o) (hc : o.cls = .type "function") (hq : Q (.done (.ret (.type "function"))) ⟨h, g, d, t, os⟩) :
    wpAny (model prog w) A (Builtin.«object.__getattribute__» ⟨[.ref a, .str "__class__" tk], []⟩) Q E ⟨h, g, d, t, os⟩ := by
  have hT : (⟨h, g, d, t, os⟩ : Shared).TypeIs (.ref a) "function" := ⟨_, hx, hc⟩
  have hT5 : (⟨h, g, d, t, os⟩ : Shared).TypeIs (.builtin "object.__class__") "getset_descriptor" := F.typeOf_object_class
  have f4 := lk_class
  have f5 := F.typeOf_object_class
  have f6 := F.slot_gs_get.lookup
  have f7 := F.slot_gs_set.lookup
  repeat (any_goals (first | assumption | wp_step))
  refine cls_get hx hc ?_
  repeat (any_goals (first | assumption | wp_step))
theorem cls_call {tk : Tok} {R : Result → Shared → Prop} (hx : h.get? a = some o) (hc : o.cls = .type "function") (hq : R (.ok (.ret (.type "function"))) ⟨h, g, d, t, os⟩) :
    codeAny (model prog w) A (.call (.builtin "object.__getattribute__") ⟨[.ref a, .str "__class__" tk], []⟩) R ⟨h, g, d, t, os⟩ :=
  codeAny_call_builtin slot_ga.plain ent_ga (slot_ga.check _ _ _ _ _ _ _ _ (show (⟨h, g, d, t, os⟩ : Shared).TypeIs (.ref a) "function" from ⟨_, hx, hc⟩) (F.args_object_getattribute_2 _ _) (cls_entry hx hc hq))
theorem cls_by {tk : Tok} {Q : Value → Shared → Prop} (hx : h.get? a = some o) (hc : o.cls = .type "function") (hq : Q (.type "function") ⟨h, g, d, t, os⟩) : wpAny (model prog w) A (getAttrBy (.ref a) (.str "__class__" tk) false) Q E ⟨h, g, d, t, os⟩ := by
  have hT : (⟨h, g, d, t, os⟩ : Shared).TypeIs (.ref a) "function" := ⟨_, hx, hc⟩
  have f2 := slot_ga.lookup
  have f3 := slot_ga.bind (.ref a)
  have f4 := lk_ga
  repeat (any_goals (first | assumption | wp_step))
  refine cls_call hx hc ?_
  repeat (any_goals (first | assumption | wp_step))
theorem cls_attr {Q : Option Value → Shared → Prop} (hx : h.get? a = some o) (hc : o.cls = .type "function") (hq : Q (some (.type "function")) ⟨h, g, d, t + 1, os⟩) : wpAny (model prog w) A (getAttr? (.ref a) "__class__") Q E ⟨h, g, d, t, os⟩ := by
  unfold getAttr? getAttrBy?
  repeat (any_goals (first | assumption | with_reducible apply cls_by hx hc | wp_step))
end
theorem kitx_fn {K : PySem.W.Frag} {a : Addr} : PySem.W.KitX K (.ref a) (.type "function") (PySem.W.KitAt a "function") := PySem.W.kitx_of PySem.W.kitAt_ty (fun {_ _ _ _ _ s} p k => by obtain ⟨h, g, d, t, os⟩ := s; obtain ⟨o, h1, h2⟩ := p; exact cls_attr h1 h2 k)
/-- itself == itself -/
theorem rc_self {A : Around} {s : Shared} {a : Addr} {o : Obj} (hu : A.units < cLine) (hx : s.heap.get? a = some o) (hc : o.cls = .type "function") : RcAt A s (.ref a) (.ref a) true := fun prog w E Q h => by
  have hT : s.TypeIs (.ref a) "function" := ⟨_, hx, hc⟩
  simp only [richCompare, cmpInfo_Eq, oneThing_ref]
  refine wpAny_holding (wpAny_bind (wpAny_cRoomFor hu ?_))
  refine wpAny_bind (wpAny_typeOf hT ?_)
  refine wpAny_bind (wpAny_typeOf hT ?_)
  refine wpAny_bind (wpAny_pure ?_)
  simp only [Bool.false_eq_true, if_false]
  refine wpAny_bind (wpAny_tryCompare_slot hT slot_eq ?_)
  refine wpAny_call (codeAny_call_builtin slot_eq.plain F.cmpEntry_eq (slot_eq.check _ _ _ _ _ _ _ _ hT (F.cmpArgs_eq _ _) (objEq_entry_same ?_)))
  exact ⟨nofun, wpAny_pure h⟩
end FnL
end
section
set_option linter.all false
set_option maxRecDepth 100000
set_option maxHeartbeats 1000000
/-! OpsEq: == and != of data. -/
namespace Ev
open PySem PySem.Spec PyProof.Rows L2
section
variable {X : Cx} {g : Gl} {w : Wd} {H : Hp} {sh : List D} {pins : List (Addr × Obj)} {σ : L2.St} {s : Shared}
theorem eqDs_cons {f : D → D → Option Bool} {x y : D} {xs ys : List D} {c : Bool} (h : eqDs f (x :: xs) (y :: ys) = some c) : ∃ a r, f x y = some a ∧ eqDs f xs ys = some r ∧ c = (a && r) := by
  unfold eqDs at h
  cases e : f x y with
  | none => rw [e] at h; cases h
  | some a =>
    rw [e] at h
    cases e2 : eqDs f xs ys with
    | none => rw [e2] at h; cases h
    | some r => rw [e2] at h; cases h; exact ⟨a, r, rfl, rfl, rfl⟩
/-- a value, plain or looked through -/
theorem rep_or (hg : RSg g w sh H) {d : D} {v : V} (r : Rep g w d v) : (∃ k a, d = .sh k ∧ v = .ref a ∧ w.m[k]? = some a) ∨ RC g w H d v := by
  cases r with
  | sh q => exact .inl ⟨_, _, rfl, rfl, q⟩
  | tup q r => exact .inr (hg.rc (.tup q r) (fun k z => by cases z))
  | lst q r => exact .inr (hg.rc (.lst q r) (fun k z => by cases z))
  | ro q r => exact .inr (hg.rc (.ro q r) (fun k z => by cases z))
  | dicK q e r => exact .inr (hg.rc (.dicK q e r) (fun k z => by cases z))
  | dicT n q e r => exact .inr (hg.rc (.dicT n q e r) (fun k z => by cases z))
  | non => exact .inr .non
  | bl => exact .inr .bl
  | int => exact .inr .int
  | str => exact .inr .str
  | ty => exact .inr .ty
  | fn h1 h2 => exact .inr (.fn h1 h2)
  | cls => exact .inr .cls
theorem RC.tupI {xs : List D} {v : V} (r : RC g w H (.tup xs) v) : ∃ a vs, v = .ref a ∧ SqT g.K H a vs ∧ Reps g w xs vs := by
  cases r with
  | tup q _ r => exact ⟨_, _, rfl, q, r⟩
theorem RC.lstI {xs : List D} {v : V} (r : RC g w H (.lst xs) v) : ∃ a vs, v = .ref a ∧ H a = some (.lst vs) ∧ Reps g w xs vs := by
  cases r with
  | lst q r => exact ⟨_, _, rfl, q, r⟩
theorem RC.intI {i : Int} {v : V} (r : RC g w H (.int i) v) : v = .int i := by cases r; rfl
theorem RC.blI {i : Bool} {v : V} (r : RC g w H (.bl i) v) : v = .bl i := by cases r; rfl
theorem RC.strI {i : Str} {v : V} (r : RC g w H (.str i) v) : v = .str i := by cases r; rfl
theorem RC.nonI {v : V} (r : RC g w H .non v) : v = .non := by cases r; rfl
theorem RC.shI {k : Nat} {v : V} (r : RC g w H (.sh k) v) : False := by cases r
theorem tl_no (I : Inv X pins σ H s) {a : Addr} {xs ys : List V} (h : SqT X.K H a xs) (h' : H a = some (.lst ys)) : False := by
  obtain ⟨its, _, ⟨o, e, c, _⟩, _⟩ := I.tuple h
  obtain ⟨its', _, ⟨o', _, e', c', _⟩, _⟩ := I.list (SqL.of h')
  rw [e] at e'; cases e'
  rw [c] at c'; simp at c'
/-- what is one value is equal -/
theorem eq_same (hK : X.K = g.K) (I : Inv X pins σ H s) (hg : RSg g w sh H) : ∀ (n : Nat) {x y : D} {v : V} {c : Bool}, RC g w H x v → RC g w H y v → eqD sh n x y = some c → c = true := by
  intro n
  induction n with
  | zero =>
    intro x y v c rx ry e
    cases x <;> cases y <;> simp [eqD] at e <;> first
      | exact e.symm
      | exact e
      | exact e.2.symm
      | exact e.2
      | (have h1 := rx.intI; have h2 := ry.intI; rw [h1] at h2; cases h2; rw [← e]; simp)
      | (have h1 := rx.blI; have h2 := ry.blI; rw [h1] at h2; cases h2; rw [← e]; simp)
      | (have h1 := rx.strI; have h2 := ry.strI; rw [h1] at h2; cases h2; rw [← e]; simp)
      | (exfalso; cases rx <;> cases ry <;> done)
      | (exfalso; first | (obtain ⟨a, vs, q, h, _⟩ := rx.tupI; obtain ⟨a', vs', q', h', _⟩ := ry.lstI; rw [q] at q'; cases q'; rw [← hK] at h; exact tl_no I h h') | (obtain ⟨a, vs, q, h, _⟩ := rx.lstI; obtain ⟨a', vs', q', h', _⟩ := ry.tupI; rw [q] at q'; cases q'; rw [← hK] at h'; exact tl_no I h' h))
  | succ n ih =>
    intro x y v c rx ry e
    have all : ∀ {xs ys : List D} {vs : List V} {c : Bool}, Reps g w xs vs → Reps g w ys vs → eqDs (eqD sh n) xs ys = some c → c = true := by
      intro xs
      induction xs with
      | nil =>
        intro ys vs c r1 r2 e
        cases r1; cases r2
        cases e; rfl
      | cons x xs ih2 =>
        intro ys vs c r1 r2 e
        cases r1 with
        | cons a r1 =>
          cases r2 with
          | cons a2 r2 =>
            obtain ⟨p, q, e1, e2, rfl⟩ := eqDs_cons e
            have h2 := ih2 r1 r2 e2
            subst h2
            rcases rep_or hg a with ⟨k, ad, rfl, rfl, hk⟩ | ra
            · rcases rep_or hg a2 with ⟨k', ad', rfl, _, _⟩ | rb
              · simp [eqD] at e1
              · cases rb <;> simp [eqD] at e1
            · rcases rep_or hg a2 with ⟨k', ad', rfl, _, _⟩ | rb
              · cases ra <;> simp [eqD] at e1
              · rw [ih ra rb e1] <;> rfl
    by_cases ht : ∃ xs ys, x = .tup xs ∧ y = .tup ys
    · obtain ⟨xs, ys, rfl, rfl⟩ := ht
      obtain ⟨a, vs, rfl, h, r⟩ := rx.tupI
      obtain ⟨a', vs', q', h', r'⟩ := ry.tupI
      cases q'
      rw [← hK] at h h'
      have := I.tuple_inj h h'
      subst this
      exact all r r' e
    by_cases hl : ∃ xs ys, x = .lst xs ∧ y = .lst ys
    · obtain ⟨xs, ys, rfl, rfl⟩ := hl
      obtain ⟨a, vs, rfl, h, r⟩ := rx.lstI
      obtain ⟨a', vs', q', h', r'⟩ := ry.lstI
      cases q'
      rw [h] at h'; cases h'
      have e : (if xs.length = ys.length then eqDs (eqD sh n) xs ys else some false) = some c := e
      rw [if_pos (r.length.trans r'.length.symm)] at e
      exact all r r' e
    cases x <;> cases y <;> simp [eqD] at e <;> first
      | exact e.symm
      | exact e
      | exact e.2.symm
      | exact e.2
      | exact absurd ⟨_, _, rfl, rfl⟩ ht
      | exact absurd ⟨_, _, rfl, rfl⟩ hl
      | (have h1 := rx.intI; have h2 := ry.intI; rw [h1] at h2; cases h2; rw [← e]; simp)
      | (have h1 := rx.blI; have h2 := ry.blI; rw [h1] at h2; cases h2; rw [← e]; simp)
      | (have h1 := rx.strI; have h2 := ry.strI; rw [h1] at h2; cases h2; rw [← e]; simp)
      | (exfalso; cases rx <;> cases ry <;> done)
      | (exfalso; first | (obtain ⟨a, vs, q, h, _⟩ := rx.tupI; obtain ⟨a', vs', q', h', _⟩ := ry.lstI; rw [q] at q'; cases q'; rw [← hK] at h; exact tl_no I h h') | (obtain ⟨a, vs, q, h, _⟩ := rx.lstI; obtain ⟨a', vs', q', h', _⟩ := ry.tupI; rw [q] at q'; cases q'; rw [← hK] at h'; exact tl_no I h' h))

/-! ### the machine's == -/
structure Eq3 (A : Around) (s : Shared) (u v : Value) (c : Bool) : Prop where
  eq : SeqAt.EqAt A s u v c
  rc : SeqAt.RcAt A s u v c
  rn : SeqAt.RcNeAt A s u v (!c)
open SeqAt in
theorem rangeAll {items items2 : Array Value} {e : Nat → Bool} {n : Nat} {c : Bool} (h : (List.range n).all e = c) : (List.range n).all e = c := h
/-- items one by one: the answers as a function of the place -/
theorem eqDs_at {f : D → D → Option Bool} : ∀ {xs ys : List D} {c : Bool}, eqDs f xs ys = some c → ∃ e : Nat → Bool, (∀ j x y, xs[j]? = some x → ys[j]? = some y → f x y = some (e j)) ∧
    c = ((List.range (min xs.length ys.length)).all e && decide (xs.length = ys.length))
  | [], [], c, h => by cases h; exact ⟨fun _ => true, fun j x y h => by simp at h, by simp⟩
  | [], _ :: _, c, h => by cases h; exact ⟨fun _ => true, fun j x y h => by simp at h, by simp⟩
  | _ :: _, [], c, h => by cases h; exact ⟨fun _ => true, fun j x y _ h => by simp at h, by simp⟩
  | x :: xs, y :: ys, c, h => by
    obtain ⟨a, r, e1, e2, rfl⟩ := eqDs_cons h
    obtain ⟨e, h1, h2⟩ := eqDs_at e2
    refine ⟨fun j => match j with | 0 => a | j + 1 => e j, fun j p q hp hq => ?_, ?_⟩
    · cases j with
      | zero => simp at hp hq; subst hp; subst hq; exact e1
      | succ j => exact h1 j p q (by simpa using hp) (by simpa using hq)
    · rw [h2, List.length_cons, List.length_cons]
      have e3 : min (xs.length + 1) (ys.length + 1) = min xs.length ys.length + 1 := by omega
      rw [e3, List.range_succ_eq_map, List.all_cons, List.all_map]
      have e4 : decide (xs.length + 1 = ys.length + 1) = decide (xs.length = ys.length) := by simp
      rw [e4, Bool.and_assoc]
      rfl
theorem vals_at {vs : List V} {us : List Value} (r : Vals vs us) {j : Nat} (h : j < us.toArray.size) : ∃ v, vs[j]? = some v ∧ RelV v us.toArray[j] := by
  have h : j < us.length := by simpa using h
  have hv : j < vs.length := by rw [r.length]; exact h
  obtain ⟨u, hu, rv⟩ := r.get (List.getElem?_eq_getElem hv)
  refine ⟨vs[j], List.getElem?_eq_getElem hv, ?_⟩
  have : us.toArray[j] = u := by
    have h3 := List.getElem?_eq_getElem h
    rw [h3] at hu
    simpa using Option.some.inj hu
  rw [this]
  exact rv
open SeqAt in
/-- both values are read; the answer is that of eqD -/
theorem eq3 (hK : X.K = g.K) (I : Inv X pins σ H s) (hg : RSg g w sh H) : ∀ (n : Nat) (A : Around) {x y : D} {v v' : V} {u u' : Value} {c : Bool}, A.units + n < cLine → RC g w H x v → RC g w H y v' → RelV v u → RelV v' u' → eqD sh n x y = some c → Eq3 A s u u' c := by
  have L : ∀ {xs : List D} {v : V} {u : Value}, RC g w H (.lst xs) v → RelV v u → ∃ a its vs, v = .ref a ∧ u = .ref a ∧ s.heap.IsList a its.toArray ∧ Reps g w xs vs ∧ Vals vs its := fun {xs v u} r rv => by
    obtain ⟨a, vs, rfl, h, q⟩ := r.lstI
    obtain ⟨its, rr, p, _⟩ := I.list (SqL.of h)
    cases rv
    exact ⟨a, its, vs, rfl, rfl, p.isList, q, rr⟩
  have T : ∀ {xs : List D} {v : V} {u : Value}, RC g w H (.tup xs) v → RelV v u → ∃ a its vs, v = .ref a ∧ u = .ref a ∧ s.heap.IsTuple a its.toArray ∧ Reps g w xs vs ∧ Vals vs its := fun {xs v u} r rv => by
    obtain ⟨a, vs, rfl, h, q⟩ := r.tupI
    rw [← hK] at h
    obtain ⟨its, rr, p, _⟩ := I.tuple h
    cases rv
    exact ⟨a, its, vs, rfl, rfl, p, q, rr⟩
  have flat : ∀ (n : Nat) (A : Around) {x y : D} {v v' : V} {u u' : Value} {c : Bool}, A.units < cLine → RC g w H x v → RC g w H y v' → RelV v u → RelV v' u' → (¬ ∃ xs ys, x = .tup xs ∧ y = .tup ys) → (¬ ∃ xs ys, x = .lst xs ∧ y = .lst ys) → eqD sh n x y = some c → Eq3 A s u u' c := by
    intro n A x y v v' u u' c hu rx ry rv rv' nt nl e
    have F : ∀ {i : Nat} {v : V} {u : Value}, RC g w H (.fn i) v → RelV v u → u = .ref (g.fa i) := fun {i v u} r rv => by
      cases r; exact rv
    have iI : ∀ {i : Int} {v : V} {u : Value}, RC g w H (.int i) v → RelV v u → ∃ t, u = .int i t := fun {i v u} r rv => by rw [r.intI] at rv; exact rv
    have sI : ∀ {i : Str} {v : V} {u : Value}, RC g w H (.str i) v → RelV v u → ∃ t, u = .str i t := fun {i v u} r rv => by rw [r.strI] at rv; exact rv
    have bI : ∀ {i : Bool} {v : V} {u : Value}, RC g w H (.bl i) v → RelV v u → u = .bool i := fun {i v u} r rv => by rw [r.blI] at rv; exact rv
    have nI : ∀ {v : V} {u : Value}, RC g w H .non v → RelV v u → u = .none := fun {v u} r rv => by rw [r.nonI] at rv; exact rv
    cases x with
    | non =>
      have q0 := nI rx rv
      cases y with
      | non =>
        have q1 := nI ry rv'
        cases n <;> (have e : some _ = some c := e) <;> cases e <;> rw [q0, q1]
        all_goals exact ⟨.same _, .none_none, .none_none⟩
      | bl y1 =>
        have q1 := bI ry rv'
        cases n <;> (have e : some _ = some c := e) <;> cases e <;> rw [q0, q1]
        all_goals exact ⟨.none_bool _, .none_bool _, .none_bool _⟩
      | int y1 =>
        obtain ⟨t1, q1⟩ := iI ry rv'
        cases n <;> (have e : some _ = some c := e) <;> cases e <;> rw [q0, q1]
        all_goals exact ⟨.none_int _ _, .none_int _ _, .none_int _ _⟩
      | str y1 =>
        obtain ⟨t1, q1⟩ := sI ry rv'
        cases n <;> (have e : some _ = some c := e) <;> cases e <;> rw [q0, q1]
        all_goals exact ⟨.none_str _ _, .none_str _ _, .none_str _ _⟩
      | tup y1 =>
        obtain ⟨a1, its1, _, _, q1, p1, _⟩ := T ry rv'
        cases n <;> (have e : some _ = some c := e) <;> cases e <;> rw [q0, q1]
        all_goals exact ⟨.none_tuple p1 hu, .none_tuple p1 hu, .none_tuple p1 hu⟩
      | lst y1 =>
        obtain ⟨a1, its1, _, _, q1, p1, _⟩ := L ry rv'
        cases n <;> (have e : some _ = some c := e) <;> cases e <;> rw [q0, q1]
        all_goals exact ⟨.none_list p1 hu, .none_list p1 hu, .none_list p1 hu⟩
      | _ => cases n <;> simp only [eqD, reduceCtorEq] at e
    | bl x1 =>
      have q0 := bI rx rv
      cases y with
      | non =>
        have q1 := nI ry rv'
        cases n <;> (have e : some _ = some c := e) <;> cases e <;> rw [q0, q1]
        all_goals exact ⟨.bool_none _, .bool_none _, .bool_none _⟩
      | bl y1 =>
        have q1 := bI ry rv'
        cases n <;> (have e : some _ = some c := e) <;> cases e <;> rw [q0, q1]
        all_goals exact ⟨.bool_bool _ _, .bool_bool _ _, .bool_bool _ _⟩
      | int y1 =>
        obtain ⟨t1, q1⟩ := iI ry rv'
        cases n <;> (have e : some _ = some c := e) <;> cases e <;> rw [q0, q1]
        all_goals exact ⟨.bool_int _ _ _, .bool_int _ _ _, .bool_int _ _ _⟩
      | str y1 =>
        obtain ⟨t1, q1⟩ := sI ry rv'
        cases n <;> (have e : some _ = some c := e) <;> cases e <;> rw [q0, q1]
        all_goals exact ⟨.bool_str _ _ _, .bool_str _ _ _, .bool_str _ _ _⟩
      | tup y1 =>
        obtain ⟨a1, its1, _, _, q1, p1, _⟩ := T ry rv'
        cases n <;> (have e : some _ = some c := e) <;> cases e <;> rw [q0, q1]
        all_goals exact ⟨.bool_tuple _ p1 hu, .bool_tuple _ p1 hu, .bool_tuple _ p1 hu⟩
      | lst y1 =>
        obtain ⟨a1, its1, _, _, q1, p1, _⟩ := L ry rv'
        cases n <;> (have e : some _ = some c := e) <;> cases e <;> rw [q0, q1]
        all_goals exact ⟨.bool_list _ p1 hu, .bool_list _ p1 hu, .bool_list _ p1 hu⟩
      | _ => cases n <;> simp only [eqD, reduceCtorEq] at e
    | int x1 =>
      obtain ⟨t0, q0⟩ := iI rx rv
      cases y with
      | non =>
        have q1 := nI ry rv'
        cases n <;> (have e : some _ = some c := e) <;> cases e <;> rw [q0, q1]
        all_goals exact ⟨.int_none _ _, .int_none _ _, .int_none _ _⟩
      | bl y1 =>
        have q1 := bI ry rv'
        cases n <;> (have e : some _ = some c := e) <;> cases e <;> rw [q0, q1]
        all_goals exact ⟨.int_bool _ _ _, .int_bool _ _ _, .int_bool _ _ _⟩
      | int y1 =>
        obtain ⟨t1, q1⟩ := iI ry rv'
        cases n <;> (have e : some _ = some c := e) <;> cases e <;> rw [q0, q1]
        all_goals exact ⟨.int_int _ _ _ _, .int_int _ _ _ _, .int_int _ _ _ _⟩
      | str y1 =>
        obtain ⟨t1, q1⟩ := sI ry rv'
        cases n <;> (have e : some _ = some c := e) <;> cases e <;> rw [q0, q1]
        all_goals exact ⟨.int_str _ _ _ _, .int_str _ _ _ _, .int_str _ _ _ _⟩
      | tup y1 =>
        obtain ⟨a1, its1, _, _, q1, p1, _⟩ := T ry rv'
        cases n <;> (have e : some _ = some c := e) <;> cases e <;> rw [q0, q1]
        all_goals exact ⟨.int_tuple _ _ p1 hu, .int_tuple _ _ p1 hu, .int_tuple _ _ p1 hu⟩
      | lst y1 =>
        obtain ⟨a1, its1, _, _, q1, p1, _⟩ := L ry rv'
        cases n <;> (have e : some _ = some c := e) <;> cases e <;> rw [q0, q1]
        all_goals exact ⟨.int_list _ _ p1 hu, .int_list _ _ p1 hu, .int_list _ _ p1 hu⟩
      | _ => cases n <;> simp only [eqD, reduceCtorEq] at e
    | str x1 =>
      obtain ⟨t0, q0⟩ := sI rx rv
      cases y with
      | non =>
        have q1 := nI ry rv'
        cases n <;> (have e : some _ = some c := e) <;> cases e <;> rw [q0, q1]
        all_goals exact ⟨.str_none _ _, .str_none _ _, .str_none _ _⟩
      | bl y1 =>
        have q1 := bI ry rv'
        cases n <;> (have e : some _ = some c := e) <;> cases e <;> rw [q0, q1]
        all_goals exact ⟨.str_bool _ _ _, .str_bool _ _ _, .str_bool _ _ _⟩
      | int y1 =>
        obtain ⟨t1, q1⟩ := iI ry rv'
        cases n <;> (have e : some _ = some c := e) <;> cases e <;> rw [q0, q1]
        all_goals exact ⟨.str_int _ _ _ _, .str_int _ _ _ _, .str_int _ _ _ _⟩
      | str y1 =>
        obtain ⟨t1, q1⟩ := sI ry rv'
        cases n <;> (have e : some _ = some c := e) <;> cases e <;> rw [q0, q1]
        all_goals exact ⟨.str_str _ _ _ _, .str_str _ _ _ _, .str_str _ _ _ _⟩
      | tup y1 =>
        obtain ⟨a1, its1, _, _, q1, p1, _⟩ := T ry rv'
        cases n <;> (have e : some _ = some c := e) <;> cases e <;> rw [q0, q1]
        all_goals exact ⟨.str_tuple _ _ p1 hu, .str_tuple _ _ p1 hu, .str_tuple _ _ p1 hu⟩
      | lst y1 =>
        obtain ⟨a1, its1, _, _, q1, p1, _⟩ := L ry rv'
        cases n <;> (have e : some _ = some c := e) <;> cases e <;> rw [q0, q1]
        all_goals exact ⟨.str_list _ _ p1 hu, .str_list _ _ p1 hu, .str_list _ _ p1 hu⟩
      | _ => cases n <;> simp only [eqD, reduceCtorEq] at e
    | tup x1 =>
      obtain ⟨a0, its0, _, _, q0, p0, _⟩ := T rx rv
      cases y with
      | non =>
        have q1 := nI ry rv'
        cases n <;> (have e : some _ = some c := e) <;> cases e <;> rw [q0, q1]
        all_goals exact ⟨.tuple_none p0 hu, .tuple_none p0 hu, .tuple_none p0 hu⟩
      | bl y1 =>
        have q1 := bI ry rv'
        cases n <;> (have e : some _ = some c := e) <;> cases e <;> rw [q0, q1]
        all_goals exact ⟨.tuple_bool _ p0 hu, .tuple_bool _ p0 hu, .tuple_bool _ p0 hu⟩
      | int y1 =>
        obtain ⟨t1, q1⟩ := iI ry rv'
        cases n <;> (have e : some _ = some c := e) <;> cases e <;> rw [q0, q1]
        all_goals exact ⟨.tuple_int _ _ p0 hu, .tuple_int _ _ p0 hu, .tuple_int _ _ p0 hu⟩
      | str y1 =>
        obtain ⟨t1, q1⟩ := sI ry rv'
        cases n <;> (have e : some _ = some c := e) <;> cases e <;> rw [q0, q1]
        all_goals exact ⟨.tuple_str _ _ p0 hu, .tuple_str _ _ p0 hu, .tuple_str _ _ p0 hu⟩
      | tup y1 => exact absurd ⟨_, _, rfl, rfl⟩ nt
      | lst y1 =>
        obtain ⟨a1, its1, _, _, q1, p1, _⟩ := L ry rv'
        cases n <;> (have e : some _ = some c := e) <;> cases e <;> rw [q0, q1]
        all_goals exact ⟨.tuple_list p0 p1 hu, .tuple_list p0 p1 hu, .tuple_list p0 p1 hu⟩
      | _ => cases n <;> simp only [eqD, reduceCtorEq] at e
    | lst x1 =>
      obtain ⟨a0, its0, _, _, q0, p0, _⟩ := L rx rv
      cases y with
      | non =>
        have q1 := nI ry rv'
        cases n <;> (have e : some _ = some c := e) <;> cases e <;> rw [q0, q1]
        all_goals exact ⟨.list_none p0 hu, .list_none p0 hu, .list_none p0 hu⟩
      | bl y1 =>
        have q1 := bI ry rv'
        cases n <;> (have e : some _ = some c := e) <;> cases e <;> rw [q0, q1]
        all_goals exact ⟨.list_bool _ p0 hu, .list_bool _ p0 hu, .list_bool _ p0 hu⟩
      | int y1 =>
        obtain ⟨t1, q1⟩ := iI ry rv'
        cases n <;> (have e : some _ = some c := e) <;> cases e <;> rw [q0, q1]
        all_goals exact ⟨.list_int _ _ p0 hu, .list_int _ _ p0 hu, .list_int _ _ p0 hu⟩
      | str y1 =>
        obtain ⟨t1, q1⟩ := sI ry rv'
        cases n <;> (have e : some _ = some c := e) <;> cases e <;> rw [q0, q1]
        all_goals exact ⟨.list_str _ _ p0 hu, .list_str _ _ p0 hu, .list_str _ _ p0 hu⟩
      | tup y1 =>
        obtain ⟨a1, its1, _, _, q1, p1, _⟩ := T ry rv'
        cases n <;> (have e : some _ = some c := e) <;> cases e <;> rw [q0, q1]
        all_goals exact ⟨.list_tuple p0 p1 hu, .list_tuple p0 p1 hu, .list_tuple p0 p1 hu⟩
      | lst y1 => exact absurd ⟨_, _, rfl, rfl⟩ nl
      | _ => cases n <;> simp only [eqD, reduceCtorEq] at e
    | sh x1 => exact (RC.shI rx).elim
    | _ => cases y <;> cases n <;> simp only [eqD, reduceCtorEq] at e
  intro n
  induction n with
  | zero =>
    intro A x y v v' u u' c hu rx ry rv rv' e
    refine flat 0 A (by omega) rx ry rv rv' ?_ ?_ e
    · rintro ⟨xs, ys, rfl, rfl⟩; simp [eqD] at e
    · rintro ⟨xs, ys, rfl, rfl⟩; simp [eqD] at e
  | succ n ih =>
    intro A x y v v' u u' c hu rx ry rv rv' e
    -- the items
    have item : ∀ {xs ys : List D} {vs vs' : List V} {its its' : List Value} {ev : Nat → Bool}, Reps g w xs vs → Reps g w ys vs' → Vals vs its → Vals vs' its' → (∀ (j : Nat) (p q : D), xs[j]? = some p → ys[j]? = some q → eqD sh n p q = some (ev j)) →
        ∀ j (h1 : j < its.toArray.size) (h2 : j < its'.toArray.size), EqAt A.in1 s its.toArray[j] its'.toArray[j] (ev j) := fun {xs ys vs vs' its its' ev} r r' q q' he j h1 h2 => by
      obtain ⟨vj, e1, r1⟩ := vals_at q h1
      obtain ⟨vj', e2, r2⟩ := vals_at q' h2
      obtain ⟨p, ep, rp⟩ := r.getV e1
      obtain ⟨p', ep', rp'⟩ := r'.getV e2
      have ee := he j p p' ep ep'
      rcases rep_or hg rp with ⟨k, a, rfl, rfl, hk⟩ | ra
      · -- a shared list beside a text
        cases p' <;> simp only [eqD, reduceCtorEq] at ee
        rename_i z
        have ca := hg.vw rp
        have e4 : vw sh (.sh k) = sh.getD k .non := rfl
        rw [e4] at ca
        cases q4 : sh.getD k .non <;> rw [q4] at ee ca <;> simp only [reduceCtorEq, Option.some.injEq] at ee
        obtain ⟨a', its2, _, _, z1, z2, _⟩ := L ca r1
        obtain ⟨t', z3⟩ : ∃ t, its'.toArray[j] = .str z t := by rw [rp'.strV] at r2; exact r2
        rw [z1, z3, ← ee]
        exact .list_str _ _ z2 (by rw [Around.in1_units]; omega)
      · rcases rep_or hg rp' with ⟨k, a, rfl, rfl, hk⟩ | rb
        · cases p <;> simp only [eqD, reduceCtorEq] at ee
        · exact (ih A.in1 (by rw [Around.in1_units]; omega) ra rb r1 r2 ee).eq
    by_cases ht : ∃ xs ys, x = .tup xs ∧ y = .tup ys
    · obtain ⟨xs, ys, rfl, rfl⟩ := ht
      have ee : eqDs (eqD sh n) xs ys = some c := e
      obtain ⟨ev, h1, h2⟩ := eqDs_at ee
      obtain ⟨a, its, vs, ev1, rfl, p, r, q⟩ := T rx rv
      obtain ⟨a', its', vs', ev2, rfl, p', r', q'⟩ := T ry rv'
      have sz : its.toArray.size = xs.length := by simp [r.length, q.length]
      have sz' : its'.toArray.size = ys.length := by simp [r'.length, q'.length]
      have hit := item r r' q q' h1
      have hc : ((List.range (min its.toArray.size its'.toArray.size)).all ev && its.toArray.size == its'.toArray.size) = c := by rw [sz, sz', h2]; rfl
      have r1 := RcAt.tuples p p' (by omega) hit
      have r2 := RcNeAt.tuples p p' (by omega) hit
      rw [hc] at r1 r2
      refine ⟨?_, r1, r2⟩
      by_cases ha : a = a'
      · subst ha
        rw [ev1] at rx; rw [ev2] at ry
        rw [eq_same hK I hg (n + 1) rx ry e]
        exact .same _
      · exact .of_refs ha r1
    by_cases hl : ∃ xs ys, x = .lst xs ∧ y = .lst ys
    · obtain ⟨xs, ys, rfl, rfl⟩ := hl
      have e' := e
      have ee : (if xs.length = ys.length then eqDs (eqD sh n) xs ys else some false) = some c := e
      obtain ⟨a, its, vs, ev1, rfl, p, r, q⟩ := L rx rv
      obtain ⟨a', its', vs', ev2, rfl, p', r', q'⟩ := L ry rv'
      have sz : its.toArray.size = xs.length := by simp [r.length, q.length]
      have sz' : its'.toArray.size = ys.length := by simp [r'.length, q'.length]
      have both : RcAt A s (.ref a) (.ref a') c ∧ RcNeAt A s (.ref a) (.ref a') (!c) := by
        by_cases hn : xs.length = ys.length
        · rw [if_pos hn] at ee
          obtain ⟨ev, h1, h2⟩ := eqDs_at ee
          have hit := item r r' q q' h1
          have hc : (List.range its.toArray.size).all ev = c := by
            rw [sz, h2, ← hn, Nat.min_self]; simp
          have r1 := RcAt.lists p p' (by rw [sz, sz', hn]) (by omega) hit
          have r2 := RcNeAt.lists p p' (by rw [sz, sz', hn]) (by omega) hit
          rw [hc] at r1 r2
          exact ⟨r1, r2⟩
        · rw [if_neg hn] at ee
          cases ee
          have hz : (its.toArray.size != its'.toArray.size) = true := by rw [sz, sz']; simpa using hn
          exact ⟨RcAt.lists_lengths p p' hz (by omega), RcNeAt.lists_lengths p p' hz (by omega)⟩
      refine ⟨?_, both.1, both.2⟩
      by_cases ha : a = a'
      · subst ha
        rw [ev1] at rx; rw [ev2] at ry
        rw [eq_same hK I hg (n + 1) rx ry e']
        exact .same _
      · exact .of_refs ha both.1
    exact flat (n + 1) A (by omega) rx ry rv rv' ht hl e
end
end Ev
end
section
set_option linter.all false
set_option maxRecDepth 100000
set_option maxHeartbeats 1000000
/-! Ops: the operations of Ev are the machine's. -/
namespace Ev
open PySem PySem.Spec PyProof.Rows L2
section
variable {X : Cx} {g : Gl} {b : Ba} {w : Wd} {s : S} {H : Hp} {σ σ₂ : L2.St}
/-- an operation on two values, at these slots -/
def opW (X : Cx) (σ : L2.St) (f : Value → Value → Sem Value) (x y : V) (H : Hp) (Q : VK) : Prop :=
  ∀ (pins : List (Addr × Obj)) (sm : Shared) (v u : Value), Inv X pins σ H sm → RelV x v → RelV y u → wpAny (model X.prog X.w) X.A (f v u) (EP X pins σ Q) X.xe sm
theorem opW_of {f : Value → Value → Sem Value} {r : R2} {x y : V} {Q : VK} (ho : OpR X f r) (h : r x y H Q) : opW X σ f x y H Q := fun pins sm v u I rx ry => ho pins sm σ H x y v u Q I rx ry h
def unW (X : Cx) (σ : L2.St) (f : Value → Sem Value) (x : V) (H : Hp) (Q : VK) : Prop :=
  ∀ (pins : List (Addr × Obj)) (sm : Shared) (v : Value), Inv X pins σ H sm → RelV x v → wpAny (model X.prog X.w) X.A (f v) (EP X pins σ Q) X.xe sm
theorem unW_of {f : Value → Sem Value} {r : V → Hp → VK → Prop} {x : V} {Q : VK} (ho : UnR X f r) (h : r x H Q) : unW X σ f x H Q := fun pins sm v I rx => ho pins sm σ H x v Q I rx h
def callW (X : Cx) (σ : L2.St) (f : Value) (xs : List V) (H : Hp) (Q : VK) : Prop :=
  ∀ (pins : List (Addr × Obj)) (sm : Shared) (us : List Value), Inv X pins σ H sm → Vals xs us → wpAny (model X.prog X.w) X.A (call f us) (EP X pins σ Q) X.xe sm
theorem callW_of {f : Value} {r : List V → Hp → VK → Prop} {xs : List V} {Q : VK} (ho : CallR X f r) (h : r xs H Q) : callW X σ f xs H Q := fun pins sm us I rx => ho pins sm σ H xs us Q I rx h
def truW (X : Cx) (σ : L2.St) (x : V) (H : Hp) (Q : Bool → Hp → Prop) : Prop :=
  ∀ (pins : List (Addr × Obj)) (sm : Shared) (v : Value), Inv X pins σ H sm → RelV x v → wpAny (model X.prog X.w) X.A (truthy v) (TP X pins σ Q) X.xe sm
/-- a result's wish -/
abbrev KR (g : Gl) (b : Ba) (w : Wd) (s : S) (σ : L2.St) (r : Rv) (Q : VK) : Prop := ∀ w' H' v, RSt g b w' s σ H' → Le w w' → RepR g b w' s σ H' r v → Q v H'
/-- a new tuple -/
theorem new_tup {xs : List D} {vs : List V} {Q : VK} (h : RSt g b w s σ H) (r : Reps g w xs vs) (k : KR g b w s σ (.fr (.tup xs)) Q) : ∀ p, H p = none → Q (.ref p) (upd H p (.tup vs)) := fun p hp => by
  obtain ⟨h1, le⟩ := h.layF (o := .tup vs) hp
  exact k _ _ _ h1 le (.fr (.tup (SqT.of upd_same) (r.mono le)))
/-- a new list -/
theorem new_lst {xs : List D} {vs : List V} {Q : VK} (h : RSt g b w s σ H) (r : Reps g w xs vs) (k : KR g b w s σ (.ow (.lst xs)) Q) : ∀ p, H p = none → Q (.ref p) (upd H p (.lst vs)) := fun p hp => by
  obtain ⟨h1, f, m, t, n⟩ := h.layO (o := .lst vs) hp
  exact k _ _ _ h1 Le.refl (.ow ⟨f, m, t, n, .lst upd_same r⟩)
theorem KR.fr {d : D} {v : V} {Q : VK} (k : KR g b w s σ (.fr d) Q) (h : RSt g b w s σ H) (r : Rep g w d v) : Q v H := k w H v h Le.refl (.fr r)
theorem mul_ok {i j : Int} (h : mulOk i j = true) : CMul i j ∨ CMulW i j := by
  unfold mulOk at h
  simp only [Bool.or_eq_true, decide_eq_true_eq] at h
  rcases h with (h | h) | h
  · exact .inl (.inl (by omega))
  · exact .inl (.inr (by omega))
  · exact .inr h
theorem div_ok {j : Int} (h : divOk j = true) : (j ≠ 0 ∧ j.natAbs < 1073741824) ∨ (0 < j ∧ j.natAbs.log2 < 9000) := by
  unfold divOk at h
  simp only [Bool.or_eq_true, decide_eq_true_eq] at h
  exact h
theorem bin_ok (hK : X.K = g.K) (h : RSt g b w s σ H) {op : Operator} {dx dy : D} {x y : V} {r : Rv} {Q : VK} (rx : RC g w H dx x) (ry : RC g w H dy y) (e : binop op dx dy = some r) (k : KR g b w s σ r Q) : opW X σ₂ (binaryOp op) x y H Q := by
  unfold binop at e
  split at e
  · cases e; rw [rx.intI, ry.intI]; exact opW_of op_add ⟨_, _, rfl, rfl, k.fr h .int⟩
  · cases e; rw [rx.intI, ry.intI]; exact opW_of op_sub ⟨_, _, rfl, rfl, k.fr h .int⟩
  · split at e
    · cases e; rw [rx.intI, ry.intI]
      rcases mul_ok (by assumption) with c | c
      · exact opW_of op_mul ⟨_, _, rfl, rfl, c, k.fr h .int⟩
      · exact opW_of op_mulW ⟨_, _, rfl, rfl, c, k.fr h .int⟩
    · cases e
  · split at e
    · cases e; rw [rx.intI, ry.intI]; exact opW_of op_modN ⟨_, _, rfl, rfl, by assumption, k.fr h .int⟩
    · cases e
  · split at e
    · cases e; rw [rx.intI, ry.intI]
      rcases div_ok (by assumption) with c | c
      · exact opW_of op_fdivN ⟨_, _, rfl, rfl, c, k.fr h .int⟩
      · rename_i p q _
        refine opW_of op_fdivW ⟨_, _, rfl, rfl, c, ?_⟩
        show Q (.int (p / q)) H
        rw [← Int.fdiv_eq_ediv_of_nonneg p (by omega)]
        exact k.fr h .int
    · cases e
  · split at e
    · cases e; rw [rx.intI, ry.intI]; exact opW_of op_pow ⟨_, _, rfl, rfl, by assumption, k.fr h .int⟩
    · cases e
  · split at e
    · cases e
      obtain ⟨a, vs, rfl, h1, r1⟩ := rx.lstI
      obtain ⟨a', vs', rfl, h2, r2⟩ := ry.lstI
      exact opW_of op_cat ⟨_, _, _, _, rfl, rfl, h1, h2, by rw [← r1.length, ← r2.length]; assumption, new_lst h (r1.append r2) k⟩
    · cases e
  · split at e
    · rename_i hz
      cases e
      obtain ⟨a, vs, rfl, h1, r1⟩ := rx.tupI
      obtain ⟨a', vs', rfl, h2, r2⟩ := ry.tupI
      rw [← hK] at h1 h2
      refine opW_of op_catT ⟨_, _, _, _, rfl, rfl, h1, h2, fun z => hz.2.1 (r1.nil_iff.mpr z), by rw [← r1.length, ← r2.length]; exact hz.1, fun z => absurd (r2.nil_iff.mpr z) hz.2.2, fun _ => new_tup h (r1.append r2) k⟩
    · cases e
  · split at e
    · cases e; rw [rx.strI, ry.strI]; exact opW_of op_add_str ⟨_, _, rfl, rfl, by assumption, k.fr h .str⟩
    · cases e
  · split at e
    · rename_i hz
      cases e
      obtain ⟨a, vs, rfl, h1, r1⟩ := rx.lstI
      rw [ry.intI]
      exact opW_of op_rep ⟨_, _, _, rfl, rfl, h1, hz.1, hz.2.1, by rw [← r1.length]; exact hz.2.2, new_lst h (r1.rep _) k⟩
    · cases e
  · cases e
/-! ### comparisons -/
theorem isNon_iff {d : D} {v : V} (r : RC g w H d v) : decide (v = .non) = isNon d := by
  cases r <;> simp [isNon]
theorem inD_eq {sh : List D} {x : D} : ∀ {ys : List D} {c : Bool}, inD sh x ys = some c → ∃ e : Nat → Bool, (∀ (j : Nat) (y : D), ys[j]? = some y → eqD sh dp y x = some (e j)) ∧ c = (List.range ys.length).any e
  | [], c, h => by cases h; exact ⟨fun _ => false, fun j y h => by simp at h, by simp⟩
  | y :: ys, c, h => by
    unfold inD at h
    cases e1 : eqD sh dp y x with
    | none => rw [e1] at h; cases h
    | some a =>
      rw [e1] at h
      cases e2 : inD sh x ys with
      | none => rw [e2] at h; cases h
      | some r =>
        rw [e2] at h; cases h
        obtain ⟨e, h1, h2⟩ := inD_eq e2
        refine ⟨fun j => match j with | 0 => a | j + 1 => e j, fun j q hq => ?_, ?_⟩
        · cases j with
          | zero => simp at hq; subst hq; exact e1
          | succ j => exact h1 j q (by simpa using hq)
        · rw [h2, List.length_cons, List.range_succ_eq_map, List.any_cons, List.any_map]
          rfl
/-- two readings of one value -/
theorem rc_same (hK : X.K = g.K) {pins : List (Addr × Obj)} {sm : Shared} (I : Inv X pins σ H sm) {x x' : D} {v : V} (r : RC g w H x v) (r' : RC g w H x' v) (sh : List D) :
    x = x' ∨ (∃ xs xs' vs, x = .tup xs ∧ x' = .tup xs' ∧ Reps g w xs vs ∧ Reps g w xs' vs) ∨ (∃ xs xs' vs, x = .lst xs ∧ x' = .lst xs' ∧ Reps g w xs vs ∧ Reps g w xs' vs) ∨ (∀ n y, eqD sh n x y = none) ∨ ∀ n y, eqD sh n x' y = none := by
  have bad : ∀ {d : D}, (match d with | .ty _ => True | .fn _ => True | .cls _ => True | .ro _ => True | .dic _ _ => True | _ => False) → ∀ n y, eqD sh n d y = none := fun {d} h n y => by
    cases d <;> first | (exfalso; exact h) | (cases n <;> cases y <;> rfl)
  cases x with
  | ty _ => exact .inr (.inr (.inr (.inl (bad trivial))))
  | fn _ => exact .inr (.inr (.inr (.inl (bad trivial))))
  | cls _ => exact .inr (.inr (.inr (.inl (bad trivial))))
  | ro _ => exact .inr (.inr (.inr (.inl (bad trivial))))
  | dic _ _ => exact .inr (.inr (.inr (.inl (bad trivial))))
  | sh _ => exact r.shI.elim
  | non => have := r.nonI; subst this; cases r' <;> exact .inl rfl
  | bl _ => have := r.blI; subst this; cases r' <;> exact .inl rfl
  | int _ => have := r.intI; subst this; cases r' <;> exact .inl rfl
  | str _ => have := r.strI; subst this; cases r' <;> exact .inl rfl
  | tup xs =>
    obtain ⟨a, vs, rfl, h, q⟩ := r.tupI
    cases x' with
    | ty _ => exact .inr (.inr (.inr (.inr (bad trivial))))
    | fn _ => exact .inr (.inr (.inr (.inr (bad trivial))))
    | cls _ => exact .inr (.inr (.inr (.inr (bad trivial))))
    | ro _ => exact .inr (.inr (.inr (.inr (bad trivial))))
    | dic _ _ => exact .inr (.inr (.inr (.inr (bad trivial))))
    | sh _ => exact r'.shI.elim
    | tup ys =>
      obtain ⟨a', vs', e, h', q'⟩ := r'.tupI
      cases e
      rw [← hK] at h h'
      have := I.tuple_inj h h'
      subst this
      exact .inr (.inl ⟨_, _, _, rfl, rfl, q, q'⟩)
    | lst ys =>
      obtain ⟨a', vs', e, h', q'⟩ := r'.lstI
      cases e
      rw [← hK] at h
      exact (tl_no I h h').elim
    | non => have := r'.nonI; cases this
    | bl _ => have := r'.blI; cases this
    | int _ => have := r'.intI; cases this
    | str _ => have := r'.strI; cases this
  | lst xs =>
    obtain ⟨a, vs, rfl, h, q⟩ := r.lstI
    cases x' with
    | ty _ => exact .inr (.inr (.inr (.inr (bad trivial))))
    | fn _ => exact .inr (.inr (.inr (.inr (bad trivial))))
    | cls _ => exact .inr (.inr (.inr (.inr (bad trivial))))
    | ro _ => exact .inr (.inr (.inr (.inr (bad trivial))))
    | dic _ _ => exact .inr (.inr (.inr (.inr (bad trivial))))
    | sh _ => exact r'.shI.elim
    | lst ys =>
      obtain ⟨a', vs', e, h', q'⟩ := r'.lstI
      cases e
      rw [h] at h'; cases h'
      exact .inr (.inr (.inl ⟨_, _, _, rfl, rfl, q, q'⟩))
    | tup ys =>
      obtain ⟨a', vs', e, h', q'⟩ := r'.tupI
      cases e
      rw [← hK] at h'
      exact (tl_no I h' h).elim
    | non => have := r'.nonI; cases this
    | bl _ => have := r'.blI; cases this
    | int _ => have := r'.intI; cases this
    | str _ => have := r'.strI; cases this
theorem eq_det (hK : X.K = g.K) {pins : List (Addr × Obj)} {sm : Shared} {sh : List D} (I : Inv X pins σ H sm) (hg : RSg g w sh H) : ∀ (n : Nat) {x x' y : D} {v : V} {c c' : Bool}, Rep g w x v → Rep g w x' v → eqD sh n x y = some c → eqD sh n x' y = some c' → c = c' := by
  have main : ∀ (n : Nat), (∀ {x x' y : D} {v : V} {c c' : Bool} (m : Nat), m < n → Rep g w x v → Rep g w x' v → eqD sh m x y = some c → eqD sh m x' y = some c' → c = c') →
      ∀ {x x' y : D} {v : V} {c c' : Bool}, RC g w H x v → RC g w H x' v → eqD sh n x y = some c → eqD sh n x' y = some c' → c = c' := by
    intro n ih x x' y v c c' r r' e e'
    have all : ∀ (m : Nat), m < n → ∀ {xs xs' ys : List D} {vs : List V} {c c' : Bool}, Reps g w xs vs → Reps g w xs' vs → eqDs (eqD sh m) xs ys = some c → eqDs (eqD sh m) xs' ys = some c' → c = c' := by
      intro m hm xs
      induction xs with
      | nil => intro xs' ys vs c c' q q' h h'; cases q; cases q'; rw [h] at h'; exact Option.some.inj h'
      | cons x xs ih2 =>
        intro xs' ys vs c c' q q' h h'
        cases q with
        | cons a q =>
          cases q' with
          | cons a' q' =>
            cases ys with
            | nil => rw [show eqDs (eqD sh m) (x :: xs) [] = some false from rfl] at h; cases h; cases h'; rfl
            | cons y ys =>
              obtain ⟨p1, p2, e1, e2, rfl⟩ := eqDs_cons h
              obtain ⟨p1', p2', e1', e2', rfl⟩ := eqDs_cons h'
              rw [ih m hm a a' e1 e1', ih2 q q' e2 e2']
    rcases rc_same hK I r r' sh with rfl | ⟨xs, xs', vs, rfl, rfl, q, q'⟩ | ⟨xs, xs', vs, rfl, rfl, q, q'⟩ | z | z
    · rw [e] at e'; exact Option.some.inj e'
    · cases n with
      | zero => cases y <;> simp only [eqD, reduceCtorEq] at e e' <;> (cases e; cases e'; rfl)
      | succ m =>
        cases y with
        | tup ys => exact all m (Nat.lt_succ_self m) q q' e e'
        | _ => simp only [eqD, reduceCtorEq] at e e' <;> (cases e; cases e'; rfl)
    · cases n with
      | zero => cases y <;> simp only [eqD, reduceCtorEq] at e e' <;> (cases e; cases e'; rfl)
      | succ m =>
        cases y with
        | lst ys =>
          have e : (if xs.length = ys.length then eqDs (eqD sh m) xs ys else some false) = some c := e
          have e' : (if xs'.length = ys.length then eqDs (eqD sh m) xs' ys else some false) = some c' := e'
          rw [q'.length, ← q.length] at e'
          by_cases hn : xs.length = ys.length
          · rw [if_pos hn] at e e'
            exact all m (Nat.lt_succ_self m) q q' e e'
          · rw [if_neg hn] at e e'
            cases e; cases e'; rfl
        | _ => simp only [eqD, reduceCtorEq] at e e' <;> (cases e; cases e'; rfl)
    · rw [z] at e; cases e
    · rw [z] at e'; cases e'
  intro n
  induction n using Nat.strongRecOn with
  | ind n ih =>
    intro x x' y v c c' r r' e e'
    have shS : ∀ {k : Nat} {y : D} {c : Bool}, eqD sh n (.sh k) y = some c → ∃ z, y = .str z := fun {k y c} e => by
      cases n <;> cases y <;> simp only [eqD, reduceCtorEq] at e <;> exact ⟨_, rfl⟩
    have refS : ∀ {d : D} {a : Addr} {z : Str} {c : Bool}, Rep g w d (.ref a) → eqD sh n d (.str z) = some c → c = false := fun {d a z c} r e => by
      cases r <;> cases n <;> simp only [eqD, reduceCtorEq] at e <;> first | (cases e; rfl) | (split at e <;> cases e <;> rfl)
    rcases rep_or hg r with ⟨k, a, rfl, rfl, hk⟩ | q
    · obtain ⟨z, rfl⟩ := shS e
      rw [refS r e, refS r' e']
    · rcases rep_or hg r' with ⟨k', a', rfl, rfl, _⟩ | q'
      · obtain ⟨z, rfl⟩ := shS e'
        rw [refS r e, refS r' e']
      · exact main n (fun m hm r r' e e' => ih m hm r r' e e') q q' e e'
end
end Ev
end
section
set_option linter.all false
set_option maxRecDepth 100000
set_option maxHeartbeats 1000000
/-! Ops2: comparisons, truth, items, slices. -/
namespace Ev
open PySem PySem.Spec PyProof.Rows L2
section
variable {X : Cx} {g : Gl} {b : Ba} {w : Wd} {s : S} {H : Hp} {σ σ₂ : L2.St}
theorem intsOf_eq : ∀ {xs : List D} {ns : List Int}, intsOf xs = some ns → xs = ns.map D.int
  | [], ns, h => by cases h; rfl
  | x :: xs, ns, h => by
    cases x with
    | int i =>
      have h : (intsOf xs).map (i :: ·) = some ns := h
      cases e : intsOf xs with
      | none => rw [e] at h; cases h
      | some ms => rw [e] at h; cases h; rw [intsOf_eq e]; rfl
    | _ => cases h
theorem Reps.ints : ∀ {ns : List Int} {vs : List V}, Reps g w (ns.map D.int) vs → vs = ns.map V.int
  | [], _, r => by cases r; rfl
  | n :: ns, _, r => by
    cases r with
    | cons a r =>
      rw [a.intV, Reps.ints r]; rfl
theorem reps_ints (ns : List Int) : Reps g w (ns.map D.int) (ns.map V.int) := by
  induction ns with
  | nil => exact .nil
  | cons n ns ih => exact .cons .int ih
theorem bools_eq : ∀ {xs : List D} {bs : List Bool}, bools xs = some bs → xs = bs.map D.bl
  | [], ns, h => by cases h; rfl
  | x :: xs, ns, h => by
    cases x with
    | bl i =>
      have h : (bools xs).map (i :: ·) = some ns := h
      cases e : bools xs with
      | none => rw [e] at h; cases h
      | some ms => rw [e] at h; cases h; rw [bools_eq e]; rfl
    | _ => cases h
theorem Reps.bls : ∀ {ns : List Bool} {vs : List V}, Reps g w (ns.map D.bl) vs → vs = ns.map V.bl
  | [], _, r => by cases r; rfl
  | n :: ns, _, r => by
    cases r with
    | cons a r =>
      rw [a.blV, Reps.bls r]; rfl
open SeqAt in
open Classical in
/-- x in ys, item by item -/
theorem in_items (hK : X.K = g.K) {A : Around} {pins : List (Addr × Obj)} {sm : Shared} (I : Inv X pins σ H sm) (hg : RSg g w s.sh H) (hu : A.units + 1 + dp < cLine) {dx : D} {x : V} {v : Value} {ys : List D} {vs : List V} {its : List Value} {c : Bool}
    (rx : RC g w H dx x) (rv : RelV x v) (r : Reps g w ys vs) (q : Vals vs its) (e : inD s.sh dx ys = some c) :
    ∃ ev : Value → Bool, (∀ u ∈ its.toArray, EqAt A.in1 sm u v (ev u)) ∧ its.toArray.any ev = c := by
  obtain ⟨f, h1, h2⟩ := inD_eq e
  have len : ys.length = its.length := r.length.trans q.length
  have at_ : ∀ (j : Nat) (u : Value), its[j]? = some u → ∃ y vy, ys[j]? = some y ∧ Rep g w y vy ∧ RelV vy u := fun j u hu => by
    have hj : j < ys.length := by rw [len]; exact (List.getElem?_eq_some_iff.mp hu).1
    obtain ⟨vy, e1, r1⟩ := r.get (List.getElem?_eq_getElem hj)
    obtain ⟨u', e2, r2⟩ := q.get e1
    rw [hu] at e2; cases e2
    exact ⟨_, vy, List.getElem?_eq_getElem hj, r1, r2⟩
  have eqj : ∀ (j : Nat) (u : Value), its[j]? = some u → EqAt A.in1 sm u v (f j) := fun j u hu' => by
    obtain ⟨y, vy, e1, r1, r2⟩ := at_ j u hu'
    have ee := h1 j y e1
    rcases rep_or hg r1 with ⟨k, a, rfl, rfl, hk⟩ | ra
    · have ca := hg.vw r1
      have : ∃ z, dx = .str z := by
        cases dx <;> simp only [dp, eqD, reduceCtorEq] at ee <;> exact ⟨_, rfl⟩
      obtain ⟨z, rfl⟩ := this
      have ee : (match s.sh.getD k .non with | .lst _ => some false | _ => none) = some (f j) := ee
      have e4 : vw s.sh (.sh k) = s.sh.getD k .non := rfl
      rw [e4] at ca
      cases q4 : s.sh.getD k .non <;> rw [q4] at ee ca <;> simp only [reduceCtorEq, Option.some.injEq] at ee
      obtain ⟨a', vs', z1, z2, _⟩ := ca.lstI
      cases z1
      obtain ⟨its', _, p, _⟩ := I.list (SqL.of z2)
      cases r2
      obtain ⟨t', z3⟩ : ∃ t, v = .str z t := by rw [rx.strI] at rv; exact rv
      rw [z3, ← ee]
      exact .list_str _ _ p.isList (by rw [Around.in1_units]; unfold dp at hu; omega)
    · exact (eq3 hK I hg dp A.in1 (by rw [Around.in1_units]; omega) ra rx r2 rv ee).eq
  refine ⟨fun u => decide (∃ j, its[j]? = some u ∧ f j = true), fun u hu' => ?_, ?_⟩
  · have hu' : u ∈ its := by simpa using hu'
    obtain ⟨j, hj⟩ := List.getElem?_of_mem hu'
    have z := eqj j u hj
    by_cases hc : ∃ j, its[j]? = some u ∧ f j = true
    · obtain ⟨j', hj', hf⟩ := id hc
      have z' := eqj j' u hj'
      rw [hf] at z'
      show EqAt A.in1 sm u v (decide _)
      rw [decide_eq_true hc]
      exact z'
    · have : f j = false := by
        cases q : f j with
        | false => rfl
        | true => exact absurd ⟨j, hj, q⟩ hc
      rw [this] at z
      show EqAt A.in1 sm u v (decide _)
      rw [decide_eq_false hc]
      exact z
  · rw [h2]
    rw [Bool.eq_iff_iff, Array.any_eq_true, List.any_eq_true]
    constructor
    · rintro ⟨i, hi, hd⟩
      obtain ⟨j, hj, hf⟩ := of_decide_eq_true hd
      have hl := (List.getElem?_eq_some_iff.mp hj).1
      exact ⟨j, List.mem_range.mpr (by omega), hf⟩
    · rintro ⟨j, hj, hf⟩
      have hj : j < its.length := by rw [← len]; exact List.mem_range.mp hj
      exact ⟨j, by simpa using hj, decide_eq_true ⟨j, by simp [hj], hf⟩⟩
theorem cmp_ok (hK : X.K = g.K) (hu : X.A.units + 64 < cLine) (h : RSt g b w s σ H) {op : CmpOp} {dx dy : D} {x y : V} {c : Bool} {Q : VK} (rx : RC g w H dx x) (ry : RC g w H dy y) (e : cmpD s.sh op dx dy = some c) (k : Q (.bl c) H) : opW X σ₂ (compareOp op) x y H Q := by
  cases op with
  | Eq =>
    intro pins sm v u I rv rv'
    have e : (if isFn dx then eqF dx dy else eqD s.sh dp dx dy) = some c := e
    by_cases hf : isFn dx = true
    · rw [if_pos hf] at e
      cases dx with
      | fn i =>
        cases dy with
        | fn j =>
          have e : (if i == j then some true else none) = some c := e
          by_cases hij : i = j
          · subst hij
            rw [if_pos (by simp)] at e
            cases e
            cases rx with
            | fn h1 h2 =>
              cases ry with
              | fn h3 h4 =>
                cases (show v = Value.ref _ from rv)
                cases (show u = Value.ref _ from rv')
                rw [← hK] at h1
                exact FnL.rc_self (by omega) (I.kIn _ _ h1) h2 _ _ _ _ ⟨.bl true, H, I, rfl, k⟩
          · rw [if_neg (by simpa using hij)] at e
            cases e
        | _ => cases e
      | _ => cases hf
    rw [if_neg hf] at e
    exact (eq3 hK I h.rs.st dp X.A (by unfold dp; omega) rx ry rv rv' e).rc _ _ _ _ ⟨.bl c, H, I, rfl, k⟩
  | NotEq =>
    intro pins sm v u I rv rv'
    have e : (eqD s.sh dp dx dy).map (!·) = some c := e
    cases q : eqD s.sh dp dx dy with
    | none => rw [q] at e; cases e
    | some c' =>
      rw [q] at e; cases e
      exact (eq3 hK I h.rs.st dp X.A (by unfold dp; omega) rx ry rv rv' q).rn _ _ _ _ ⟨.bl _, H, I, rfl, k⟩
  | Lt =>
    have e : ltD dx dy = some c := e
    unfold ltD at e
    split at e
    · cases e; rw [rx.intI, ry.intI]; exact opW_of op_lt ⟨_, _, rfl, rfl, k⟩
    · cases e; rw [rx.strI, ry.strI]; exact opW_of op_lt_str ⟨_, _, rfl, rfl, k⟩
    · rename_i xs ys _
      cases q1 : intsOf xs with
      | none => rw [q1] at e; cases e
      | some ns =>
        rw [q1] at e
        have e : (intsOf ys).map (fun ms => HT.lexLt ns ms) = some c := e
        cases q2 : intsOf ys with
        | none => rw [q2] at e; cases e
        | some ms =>
          rw [q2] at e; cases e
          obtain ⟨a, vs, rfl, h1, r1⟩ := rx.tupI
          obtain ⟨a', vs', rfl, h2, r2⟩ := ry.tupI
          rw [intsOf_eq q1] at r1
          rw [intsOf_eq q2] at r2
          rw [r1.ints, ← hK] at h1
          rw [r2.ints, ← hK] at h2
          exact opW_of (op_ltT (by omega)) ⟨_, _, _, _, rfl, rfl, h1, h2, k⟩
    · cases e
  | LtE =>
    unfold cmpD at e
    simp only at e
    split at e
    · cases e; rw [rx.intI, ry.intI]; exact opW_of op_le ⟨_, _, rfl, rfl, k⟩
    · cases e
  | Gt =>
    unfold cmpD at e
    simp only at e
    split at e
    · cases e; rw [rx.intI, ry.intI]; exact opW_of op_gt ⟨_, _, rfl, rfl, k⟩
    · cases e
  | GtE =>
    unfold cmpD at e
    simp only at e
    split at e
    · cases e; rw [rx.intI, ry.intI]; exact opW_of op_ge ⟨_, _, rfl, rfl, k⟩
    · cases e
  | Is =>
    unfold cmpD at e
    simp only at e
    split at e
    · rename_i hn
      cases e
      have : dy = .non := by cases dy <;> simp [isNon] at hn <;> rfl
      subst this
      refine opW_of op_isN ⟨ry.nonI, ?_⟩
      rw [isNon_iff rx]
      exact k
    · cases e
  | IsNot =>
    unfold cmpD at e
    simp only at e
    split at e
    · rename_i hn
      cases e
      have : dy = .non := by cases dy <;> simp [isNon] at hn <;> rfl
      subst this
      refine opW_of op_notN ⟨ry.nonI, ?_⟩
      rw [isNon_iff rx]
      exact k
    · cases e
  | In =>
    intro pins sm v u I rv rv'
    unfold cmpD at e
    simp only at e
    split at e
    · obtain ⟨a, vs, rfl, h1, r1⟩ := ry.lstI
      obtain ⟨its, q, p, _⟩ := I.list (SqL.of h1)
      cases rv'
      obtain ⟨ev, z1, z2⟩ := in_items hK (A := X.A) I h.rs.st (by unfold dp; omega) rx rv r1 q e
      refine SeqAt.in_listAt ev p.isList z1 ?_
      rw [z2]
      exact ⟨.bl c, H, I, rfl, k⟩
    · obtain ⟨a, vs, rfl, h1, r1⟩ := ry.tupI
      rw [← hK] at h1
      obtain ⟨its, q, p, _⟩ := I.tuple h1
      cases rv'
      obtain ⟨ev, z1, z2⟩ := in_items hK (A := X.A) I h.rs.st (by unfold dp; omega) rx rv r1 q e
      refine SeqAt.in_tupleAt ev p z1 ?_
      rw [z2]
      exact ⟨.bl c, H, I, rfl, k⟩
    · cases e
  | NotIn =>
    intro pins sm v u I rv rv'
    unfold cmpD at e
    simp only at e
    split at e
    · rename_i ys
      cases qq : inD s.sh dx ys with
      | none => rw [qq] at e; cases e
      | some c' =>
        rw [qq] at e; cases e
        obtain ⟨a, vs, rfl, h1, r1⟩ := ry.lstI
        obtain ⟨its, q, p, _⟩ := I.list (SqL.of h1)
        cases rv'
        obtain ⟨ev, z1, z2⟩ := in_items hK (A := X.A) I h.rs.st (by unfold dp; omega) rx rv r1 q qq
        refine SeqAt.notIn_listAt ev p.isList z1 ?_
        rw [z2]
        exact ⟨.bl _, H, I, rfl, k⟩
    · rename_i ys
      cases qq : inD s.sh dx ys with
      | none => rw [qq] at e; cases e
      | some c' =>
        rw [qq] at e; cases e
        obtain ⟨a, vs, rfl, h1, r1⟩ := ry.tupI
        rw [← hK] at h1
        obtain ⟨its, q, p, _⟩ := I.tuple h1
        cases rv'
        obtain ⟨ev, z1, z2⟩ := in_items hK (A := X.A) I h.rs.st (by unfold dp; omega) rx rv r1 q qq
        refine SeqAt.notIn_tupleAt ev p z1 ?_
        rw [z2]
        exact ⟨.bl _, H, I, rfl, k⟩
    · cases e
/-! ### truth -/
theorem tru_of (hK : X.K = g.K) {d : D} {v : V} {c : Bool} {Q : Bool → Hp → Prop} (r : RC g w H d v) (e : truth d = some c) (k : Q c H) : truW X σ₂ v H Q := by
  have go : TruV X.K v H c → truW X σ₂ v H Q := fun t pins sm u I rv => tru_ok pins sm σ₂ H v u Q I rv ⟨c, t, k⟩
  cases r with
  | non => cases e; exact go rfl
  | bl => cases e; exact go rfl
  | int =>
    cases e
    exact go rfl
  | str =>
    rename_i z
    have e : (if z.length ≤ sizeLine then some (decide (z.length ≠ 0)) else none) = some c := e
    split at e
    · cases e
      refine go ⟨by assumption, ?_⟩
      show decide (z.length ≠ 0) = ((z.length : Int) != 0)
      by_cases hz : z.length = 0 <;> simp [hz]
    · cases e
  | tup q _ r =>
    cases e
    rw [← hK] at q
    exact go (.inr (.inl ⟨_, q, by rw [r.isEmpty]⟩))
  | lst q r => cases e; exact go (.inl ⟨_, SqL.of q, by rw [r.isEmpty]⟩)
  | ro q r =>
    cases e
    rw [← hK] at q
    exact go (.inl ⟨_, q, by rw [r.isEmpty]⟩)
  | _ => cases e
end
end Ev
end
section
set_option linter.all false
set_option maxRecDepth 100000
set_option maxHeartbeats 1000000
/-! Ops3: items, slices, built-in calls, methods. -/
namespace Ev
open PySem PySem.Spec PyProof.Rows L2
section
variable {X : Cx} {g : Gl} {b : Ba} {w : Wd} {s : S} {H : Hp} {σ σ₂ : L2.St}
def ixW (X : Cx) (σ : L2.St) (x y : V) (H : Hp) (Q : VK) : Prop :=
  ∀ (value slice : Expr) (pins : List (Addr × Obj)) (sm : Shared) (v u : Value), Inv X pins σ H sm → RelV x v → RelV y u → subscripted slice false v u = operate [v, u] (getItem v u) → wpAny (model X.prog X.w) X.A (subscriptTail value slice v u) (EP X pins σ Q) X.xe sm
theorem ixW_of {r : R2} {x y : V} {Q : VK} (ho : IxR X r) (h : r x y H Q) : ixW X σ x y H Q := fun a b pins sm v u I rx ry hs => ho a b pins sm σ H x y v u Q I rx ry h hs
theorem atI_of {xs : List D} {vs : List V} {i : Int} {d : D} (r : Reps g w xs vs) (e : (L2.ixN xs.length i).bind (fun j => xs[j]?) = some d) : ∃ v, atI vs i = some v ∧ Rep g w d v := by
  rw [r.length] at e
  cases q : L2.ixN vs.length i with
  | none => rw [q] at e; cases e
  | some j =>
    rw [q] at e
    obtain ⟨v, e1, r1⟩ := r.get (show xs[j]? = some d from e)
    exact ⟨v, by unfold atI; rw [q]; exact e1, r1⟩
theorem idx_ok (hK : X.K = g.K) (h : RSt g b w s σ H) {dx dy d : D} {x y : V} {Q : VK} (rx : RC g w H dx x) (ry : RC g w H dy y) (e : idxD dx dy = some d) (k : ∀ v, Rep g w d v → Q v H) : ixW X σ₂ x y H Q := by
  unfold idxD at e
  split at e
  · obtain ⟨a, vs, rfl, h1, r1⟩ := rx.lstI
    rw [ry.intI]
    obtain ⟨v, e1, r2⟩ := atI_of r1 e
    exact ixW_of ix_list ⟨_, _, _, _, rfl, rfl, SqL.of h1, e1, k v r2⟩
  · obtain ⟨a, vs, rfl, h1, r1⟩ := rx.tupI
    rw [ry.intI]
    rw [← hK] at h1
    obtain ⟨v, e1, r2⟩ := atI_of r1 e
    exact ixW_of ix_tup ⟨_, _, _, _, rfl, rfl, h1, e1, k v r2⟩
  · cases rx with
    | ro h1 r1 =>
      rw [ry.intI]
      rw [← hK] at h1
      obtain ⟨v, e1, r2⟩ := atI_of r1 e
      exact ixW_of ix_list ⟨_, _, _, _, rfl, rfl, h1, e1, k v r2⟩
  · rename_i z i
    split at e
    · rw [rx.strI, ry.intI]
      cases q : L2.ixN z.cps.toList.length i with
      | none => rw [q] at e; cases e
      | some j =>
        rw [q] at e
        have e : (z.cps.toList[j]?).map (fun c => D.str ⟨#[c]⟩) = some d := e
        cases q2 : z.cps.toList[j]? with
        | none => rw [q2] at e; cases e
        | some c =>
          rw [q2] at e; cases e
          exact ixW_of ix_str ⟨_, _, c, rfl, rfl, by assumption, by unfold atI; rw [q]; exact q2, k _ .str⟩
    · cases e
  · cases e
def slW (X : Cx) (σ : L2.St) (x : V) (lo hi : Option Int) (H : Hp) (Q : VK) : Prop :=
  ∀ (pins : List (Addr × Obj)) (sm : Shared) (v vl vu : Value) (sl : Addr), Inv X pins σ H sm → RelV x v → sm.heap.IsSliceOf sl vl vu .none → IsPart vl lo → IsPart vu hi →
    ∃ T id, typeLookup (.type T) "__getitem__" = pure (some (.builtin id)) ∧ sm.TypeIs v T ∧ wpAny (model X.prog X.w) X.A (getItem v (.ref sl)) (EP X pins σ Q) X.xe sm
theorem slW_of {r : V → Option Int → Option Int → Hp → VK → Prop} {x : V} {lo hi : Option Int} {Q : VK} (ho : SlR X r) (h : r x lo hi H Q) : slW X σ x lo hi H Q := fun pins sm v vl vu sl I rx hs pl pu => ho pins sm σ H x v vl vu lo hi sl Q I rx hs pl pu h
theorem Reps.cut {xs : List D} {vs : List V} (r : Reps g w xs vs) (lo hi : Option Int) : Reps g w (cutL xs lo hi) (cutV vs lo hi) := by
  unfold cutL cutV
  rw [r.length]
  exact (r.drop _).take _
theorem slc_ok (hK : X.K = g.K) (h : RSt g b w s σ H) {dx : D} {x : V} {lo hi : Option Int} {r : Rv} {Q : VK} (rx : RC g w H dx x) (e : slcD dx lo hi = some r) (k : KR g b w s σ r Q) : slW X σ₂ x lo hi H Q := by
  unfold slcD at e
  split at e
  · cases e
    obtain ⟨a, vs, rfl, h1, r1⟩ := rx.lstI
    exact slW_of sl_list ⟨_, _, rfl, SqL.of h1, new_lst h (r1.cut lo hi) k⟩
  · cases e
    cases rx with
    | ro h1 r1 =>
      rw [← hK] at h1
      exact slW_of sl_list ⟨_, _, rfl, h1, new_lst h (r1.cut lo hi) k⟩
  · cases e
    cases rx with
    | tup h1 hF r1 =>
      rw [← hK] at h1
      rename_i xs a vs
      refine slW_of sl_tupA ⟨_, _, rfl, h1, fun hw => ?_, fun _ => new_tup h (r1.cut lo hi) k⟩
      have e : cutL xs lo hi = xs := by
        unfold cutL
        rw [r1.length, hw.1, hw.2, List.drop_zero, Nat.sub_zero, ← r1.length, List.take_length]
      rw [e] at k
      exact k.fr h (.tup hF r1)
  · cases e
/-! ### built-in calls -/
theorem RC.seq (hK : X.K = g.K) {d : D} {v : V} {l : List D} (r : RC g w H d v) (e : Ev.items d = some l) : ∃ a vs, v = .ref a ∧ (SqL X.K H a vs ∨ SqT X.K H a vs) ∧ Reps g w l vs := by
  rw [hK]; exact r.items e
theorem maxI_ok : ∀ {ns : List Int} {m : Int}, maxI ns = some m → m ∈ ns ∧ ∀ y ∈ ns, y ≤ m
  | [], m, e => by cases e
  | x :: xs, m, e => by
    have e : xs.foldl max x = m := Option.some.inj e
    subst e
    have go : ∀ (l : List Int) (a : Int), (l.foldl max a = a ∨ l.foldl max a ∈ l) ∧ a ≤ l.foldl max a ∧ ∀ y ∈ l, y ≤ l.foldl max a := by
      intro l
      induction l with
      | nil => intro a; simp
      | cons b l ih =>
        intro a
        obtain ⟨h1, h2, h3⟩ := ih (max a b)
        rw [List.foldl_cons]
        refine ⟨?_, by omega, fun y hy => ?_⟩
        · rcases h1 with h1 | h1
          · rw [h1]
            by_cases hab : a ≤ b
            · right; rw [Int.max_eq_right hab]; simp
            · left; exact Int.max_eq_left (by omega)
          · right; exact List.mem_cons_of_mem _ h1
        · rcases List.mem_cons.mp hy with rfl | hy
          · omega
          · exact h3 y hy
    obtain ⟨h1, h2, h3⟩ := go xs x
    refine ⟨?_, fun y hy => ?_⟩
    · rcases h1 with h1 | h1
      · rw [h1]; simp
      · exact List.mem_cons_of_mem _ h1
    · rcases List.mem_cons.mp hy with rfl | hy
      · exact h2
      · exact h3 y hy
theorem minI_ok : ∀ {ns : List Int} {m : Int}, minI ns = some m → m ∈ ns ∧ ∀ y ∈ ns, m ≤ y
  | [], m, e => by cases e
  | x :: xs, m, e => by
    have e : xs.foldl min x = m := Option.some.inj e
    subst e
    have go : ∀ (l : List Int) (a : Int), (l.foldl min a = a ∨ l.foldl min a ∈ l) ∧ l.foldl min a ≤ a ∧ ∀ y ∈ l, l.foldl min a ≤ y := by
      intro l
      induction l with
      | nil => intro a; simp
      | cons b l ih =>
        intro a
        obtain ⟨h1, h2, h3⟩ := ih (min a b)
        rw [List.foldl_cons]
        refine ⟨?_, by omega, fun y hy => ?_⟩
        · rcases h1 with h1 | h1
          · rw [h1]
            by_cases hab : a ≤ b
            · left; exact Int.min_eq_left hab
            · right; rw [Int.min_eq_right (by omega)]; simp
          · right; exact List.mem_cons_of_mem _ h1
        · rcases List.mem_cons.mp hy with rfl | hy
          · omega
          · exact h3 y hy
    obtain ⟨h1, h2, h3⟩ := go xs x
    refine ⟨?_, fun y hy => ?_⟩
    · rcases h1 with h1 | h1
      · rw [h1]; simp
      · exact List.mem_cons_of_mem _ h1
    · rcases List.mem_cons.mp hy with rfl | hy
      · exact h2
      · exact h3 y hy
inductive RCs (g : Gl) (w : Wd) (H : Hp) : List D → List V → Prop
  | nil : RCs g w H [] []
  | cons {x v xs vs} : RC g w H x v → RCs g w H xs vs → RCs g w H (x :: xs) (v :: vs)
/-- the machine's built-in -/
def biV : BI → Value
  | .len => .builtin "len" | .list => .type "list" | .tuple => .type "tuple" | .int => .type "int" | .sorted => .builtin "sorted" | .sum => .builtin "sum" | .all => .builtin "all" | .any => .builtin "any"
  | .min1 => .builtin "min" | .max1 => .builtin "max" | .min2 => .builtin "min" | .max2 => .builtin "max" | .abs => .builtin "abs" | .dict1 => .type "dict" | .str => .type "str" | .bool => .type "bool"
  | .max3 => .builtin "max" | .sum2 => .builtin "sum" | .lrange1 => .type "list" | .lrange2 => .type "list" | .litems => .type "list"
/-- those that a plain call serves -/
def biPlain : BI → Bool
  | .len => true | .list => true | .tuple => true | .int => true | .sum => true | .all => true | .any => true | .min1 => true | .max1 => true | .min2 => true | .max2 => true | .abs => true | .dict1 => true
  | .sorted => true
  | _ => false
theorem RC.seqL (hK : X.K = g.K) {d : D} {v : V} {l : List D} (r : RC g w H d v) (e : Ev.itemsL d = some l) : ∃ a vs, v = .ref a ∧ SqL X.K H a vs ∧ Reps g w l vs := by
  cases r with
  | lst q r => cases e; exact ⟨_, _, rfl, SqL.of q, r⟩
  | ro q r => cases e; rw [← hK] at q; exact ⟨_, _, rfl, q, r⟩
  | _ => cases e
theorem RC.seqI (hK : X.K = g.K) {d : D} {v : V} {ns : List Int} (r : RC g w H d v) (e : (Ev.itemsL d).bind intsOf = some ns) : ∃ a, v = .ref a ∧ SqL X.K H a (ns.map V.int) := by
  cases q : Ev.itemsL d with
  | none => rw [q] at e; cases e
  | some l =>
    rw [q] at e
    obtain ⟨a, vs, rfl, h, r⟩ := r.seqL hK q
    rw [intsOf_eq e] at r
    rw [r.ints] at h
    exact ⟨a, rfl, h⟩
theorem RC.seqB (hK : X.K = g.K) {d : D} {v : V} {bs : List Bool} (r : RC g w H d v) (e : (Ev.itemsL d).bind bools = some bs) : ∃ a, v = .ref a ∧ SqL X.K H a (bs.map V.bl) := by
  cases q : Ev.itemsL d with
  | none => rw [q] at e; cases e
  | some l =>
    rw [q] at e
    obtain ⟨a, vs, rfl, h, r⟩ := r.seqL hK q
    rw [bools_eq e] at r
    rw [r.bls] at h
    exact ⟨a, rfl, h⟩
theorem bind_map {α β γ : Type} {o : Option α} {f : α → Option β} {k : β → γ} {r : γ} (e : (o.bind fun a => (f a).map k) = some r) : ∃ z, o.bind f = some z ∧ k z = r := by
  cases o with
  | none => cases e
  | some a =>
    have e : (f a).map k = some r := e
    cases q : f a with
    | none => rw [q] at e; cases e
    | some z => rw [q] at e; exact ⟨z, q, Option.some.inj e⟩
theorem bind_bind_map {α β γ δ : Type} {o : Option α} {f : α → Option β} {m : β → Option γ} {k : γ → δ} {r : δ} (e : (o.bind fun a => (f a).bind fun b => (m b).map k) = some r) : ∃ y z, o.bind f = some y ∧ m y = some z ∧ k z = r := by
  cases o with
  | none => cases e
  | some a =>
    have e : ((f a).bind fun b => (m b).map k) = some r := e
    cases q : f a with
    | none => rw [q] at e; cases e
    | some y =>
      rw [q] at e
      have e : (m y).map k = some r := e
      cases q2 : m y with
      | none => rw [q2] at e; cases e
      | some z => rw [q2] at e; exact ⟨y, z, q, q2, Option.some.inj e⟩
/-- sorted: told in a text of its own -/
def SortOk (X : Cx) (g : Gl) : Prop := ∀ (b : Ba) (w : Wd) (s : S) (H : Hp) (σ σ₂ : L2.St) (dx : D) (x : V) (r : Rv) (Q : VK), RSt g b w s σ H → RC g w H dx x → bcl .sorted [dx] = some r → KR g b w s σ r Q → callW X σ₂ (.builtin "sorted") [x] H Q
theorem bcl_ok (hS : SortOk X g) (hK : X.K = g.K) (hc : X.calm = true) (h : RSt g b w s σ H) {bi : BI} (hp : biPlain bi = true) {ds : List D} {vs : List V} {r : Rv} {Q : VK} (rs : RCs g w H ds vs) (e : bcl bi ds = some r) (k : KR g b w s σ r Q) : callW X σ₂ (biV bi) vs H Q := by
  unfold bcl at e
  split at e
  · cases rs with
    | cons a t =>
      cases t
      rw [a.strI]
      split at e
      · cases e; exact callW_of call_len ⟨_, _, rfl, ⟨by assumption, rfl⟩, k.fr h .int⟩
      · cases e
  · cases rs with
    | cons a t =>
      cases t
      rename_i x _ _
      cases q : items x with
      | none => rw [q] at e; cases e
      | some l =>
        rw [q] at e; cases e
        obtain ⟨p, us, rfl, hq, r1⟩ := a.seq hK q
        have k : KR g b w s σ (.fr (.int (l.length : Nat))) Q := k
        rw [r1.length] at k
        exact callW_of call_len_seq ⟨_, _, rfl, hq, k.fr h .int⟩
  · cases rs with
    | cons a t =>
      cases t
      rename_i x _
      cases q : items x with
      | none => rw [q] at e; cases e
      | some l =>
        rw [q] at e; cases e
        obtain ⟨p, us, rfl, hq, r1⟩ := a.seq hK q
        exact callW_of call_list_of ⟨_, _, rfl, hq, new_lst h r1 k⟩
  · cases rs with
    | cons a t =>
      cases t
      rename_i x _
      cases q : items x with
      | none => rw [q] at e; cases e
      | some l =>
        rw [q] at e; cases e
        cases a with
        | tup h1 hF r1 =>
          cases q
          rw [← hK] at h1
          exact callW_of call_tuple_of ⟨_, _, rfl, .inr ⟨h1, k.fr h (.tup hF r1)⟩⟩
        | lst h1 r1 => cases q; exact callW_of call_tuple_of ⟨_, _, rfl, .inl ⟨SqL.of h1, new_tup h r1 k⟩⟩
        | ro h1 r1 =>
          cases q
          rw [← hK] at h1
          exact callW_of call_tuple_of ⟨_, _, rfl, .inl ⟨h1, new_tup h r1 k⟩⟩
        | _ => cases q
  · cases rs with
    | cons a t =>
      cases t; cases e
      rw [a.intI]
      exact callW_of call_int1 (.inl ⟨_, rfl, k.fr h .int⟩)
  · cases rs with
    | cons a t =>
      cases t; cases e
      rw [a.blI]
      exact callW_of call_int1 (.inr ⟨_, rfl, k.fr h .int⟩)
  · cases rs with
    | cons a t =>
      cases t
      exact hS b w s H σ σ₂ _ _ r Q h a e k
  · cases rs with
    | cons a t =>
      cases t
      obtain ⟨ns, e1, rfl⟩ := bind_map e
      obtain ⟨p, rfl, hq⟩ := a.seqI hK e1
      exact callW_of (cr_sum hc) ⟨_, _, rfl, hq, k.fr h .int⟩
  · cases rs with
    | cons a t =>
      cases t
      obtain ⟨ns, e1, rfl⟩ := bind_map e
      obtain ⟨p, rfl, hq⟩ := a.seqB hK e1
      exact callW_of (cr_all hc) ⟨_, _, rfl, hq, k.fr h .bl⟩
  · cases rs with
    | cons a t =>
      cases t
      obtain ⟨ns, e1, rfl⟩ := bind_map e
      obtain ⟨p, rfl, hq⟩ := a.seqB hK e1
      exact callW_of (cr_any hc) ⟨_, _, rfl, hq, k.fr h .bl⟩
  · cases rs with
    | cons a t =>
      cases t
      obtain ⟨ns, m, e1, e2, rfl⟩ := bind_bind_map e
      obtain ⟨p, rfl, hq⟩ := a.seqI hK e1
      obtain ⟨h1, h2⟩ := maxI_ok e2
      exact callW_of (cr_max hc) ⟨_, _, rfl, hq, List.length_pos_of_mem h1, fun m' h3 h4 => by
        have : m' = m := by have := h4 m h1; have := h2 m' h3; omega
        subst this
        exact k.fr h .int⟩
  · cases rs with
    | cons a t =>
      cases t
      obtain ⟨ns, m, e1, e2, rfl⟩ := bind_bind_map e
      obtain ⟨p, rfl, hq⟩ := a.seqI hK e1
      obtain ⟨h1, h2⟩ := minI_ok e2
      exact callW_of (cr_min hc) ⟨_, _, rfl, hq, List.length_pos_of_mem h1, fun m' h3 h4 => by
        have : m' = m := by have := h4 m h1; have := h2 m' h3; omega
        subst this
        exact k.fr h .int⟩
  · cases rs with
    | cons a t =>
      cases t with
      | cons a2 t =>
        cases t; cases e
        rw [a.intI, a2.intI]
        exact callW_of (call_max2 hc) ⟨_, _, rfl, k.fr h .int⟩
  · cases rs with
    | cons a t =>
      cases t with
      | cons a2 t =>
        cases t; cases e
        rw [a.intI, a2.intI]
        exact callW_of (call_min2 hc) ⟨_, _, rfl, k.fr h .int⟩
  · cases rs with
    | cons a t =>
      cases t; cases e
      rw [a.intI]
      exact callW_of call_abs ⟨_, rfl, k.fr h .int⟩
  · cases rs with
    | cons a t =>
      cases t; cases e
      obtain ⟨p, us, rfl, h1, r1⟩ := a.lstI
      cases r1
      refine callW_of (call_dictP hc) ⟨_, [], [], rfl, SqL.of h1, .nil, fun q hq => ?_⟩
      obtain ⟨h2, f, m, t, n⟩ := h.layO (o := .dK []) hq
      exact k _ _ _ h2 Le.refl (.ow ⟨f, m, t, n, .dicK upd_same rfl .nil⟩)
  · exact absurd hp (by decide)
  · exact absurd hp (by decide)
  · exact absurd hp (by decide)
  · cases e
/-! ### methods -/
def mtW (X : Cx) (σ : L2.St) (id : String) (x : V) (xs : List V) (H : Hp) (Q : VK) : Prop :=
  ∀ (pins : List (Addr × Obj)) (sm : Shared) (v : Value) (us : List Value), Inv X pins σ H sm → RelV x v → Vals xs us → wpAny (model X.prog X.w) X.A (call (.builtin id) (v :: us)) (EP X pins σ Q) X.xe sm
theorem mtW_of {id : String} {r : V → List V → Hp → VK → Prop} {x : V} {xs : List V} {Q : VK} (ho : MtR X id r) (h : r x xs H Q) : mtW X σ id x xs H Q := fun pins sm v us I rx rs => ho pins sm σ H x xs v us Q I rx rs h
/-- an operand that may be changed: its place, and what stands behind a change -/
theorem put_ok (h : RSt g b w s σ H) {x : Op} {d d' : D} {v : V} {s' : S} (r : RepO g w s σ x v) (e : cont s x = some d) (p : put s x d' = some s') : ∃ a, v = .ref a ∧ CO g w H a d ∧ ∀ o, CO g w (upd H a o) a d' → RSt g b w s' σ (upd H a o) := by
  cases r with
  | v r =>
    rename_i dv
    unfold put at p
    split at p
    · rename_i i z; cases z
    · rename_i k z
      cases z
      split at p
      · rename_i hk
        cases p
        cases r with
        | sh q =>
          rename_i a
          have e : some (vw s.sh (.sh k)) = some d := e
          have e2 : vw s.sh (.sh k) = s.sh[k] := by
            show s.sh.getD k .non = s.sh[k]
            rw [List.getD_eq_getElem?_getD, List.getElem?_eq_getElem hk]; rfl
          rw [e2] at e
          cases e
          exact ⟨a, rfl, (h.rs.st.sh k a s.sh[k] q (by simp [hk])).2, fun o c => h.putS q c⟩
      · cases p
    · cases p
  | sl hv =>
    rename_i i
    have e : (match s.get i with | .ow d => some d | .fr d => some (vw s.sh d) | .un => none) = some d := e
    have p : (match s.get i with | .ow _ => some (s.set i (.ow d')) | _ => none) = some s' := p
    cases q : s.get i with
    | un => rw [q] at p; cases p
    | fr _ => rw [q] at p; cases p
    | ow d1 =>
      rw [q] at e p
      cases e; cases p
      obtain ⟨a, ea, _, _, c⟩ := h.rs.ow i _ (get_ow q)
      rw [hv] at ea; cases ea
      exact ⟨a, rfl, c, fun o c => h.putO (get_ow q) hv c⟩
theorem CO.lstI {a : Addr} {xs : List D} (c : CO g w H a (.lst xs)) : ∃ vs, H a = some (.lst vs) ∧ Reps g w xs vs := by
  cases c with
  | lst q r => exact ⟨_, q, r⟩
def mtName : MI → Str
  | .append => "append" | .extend => "extend" | .pop0 => "pop" | .pop1 => "pop" | .count => "count" | .index => "index" | .get1 => "get" | .get2 => "get" | .join => "join" | .insert => "insert" | .clear => "clear"
  | .update => "update" | .setdefault => "setdefault" | .split => "split" | .startswith => "startswith"
def mtId : MI → String
  | .append => "list.append" | .extend => "list.extend" | .pop0 => "list.pop" | .pop1 => "list.pop" | .count => "list.count" | .index => "list.index" | .get1 => "dict.get" | .get2 => "dict.get" | .join => "str.join" | .insert => "list.insert" | .clear => "list.clear"
  | .update => "dict.update" | .setdefault => "dict.setdefault" | .split => "str.split" | .startswith => "str.startswith"
/-- those of a list that change it -/
theorem mut_ok (h : RSt g b w s σ H) {m : MI} {x : Op} {d d' r : D} {v : V} {s' : S} {ds : List D} {vs : List V} {Q : VK} (rx : RepO g w s σ x v) (ex : cont s x = some d) (rs : RCs g w H ds vs) (e : mutM m d ds = some (r, d')) (p : put s x d' = some s')
    (k : ∀ H' v, RSt g b w s' σ H' → Rep g w r v → Q v H') : mtW X σ₂ (mtId m) v vs H Q := by
  obtain ⟨a, rfl, c, put⟩ := put_ok h rx ex p
  unfold mutM at e
  split at e
  · split at e
    · cases e
      obtain ⟨us, h1, r1⟩ := c.lstI
      cases rs with
      | cons a1 t =>
        cases t
        obtain ⟨p, zs, rfl, h2, r2⟩ := a1.lstI
        exact mtW_of mt_extend ⟨_, _, _, _, rfl, rfl, h1, h2, by rw [← r1.length, ← r2.length]; assumption, k _ _ (put _ (.lst upd_same (r1.append r2))) .non⟩
    · cases e
  · rename_i xs
    cases rs
    obtain ⟨us, h1, r1⟩ := c.lstI
    cases q : xs[xs.length - 1]? with
    | none => rw [q] at e; cases e
    | some y =>
      rw [q] at e; cases e
      obtain ⟨vy, e1, ry⟩ := r1.get q
      rw [r1.length] at e1
      exact mtW_of mt_pop ⟨_, _, _, rfl, rfl, h1, e1, k _ _ (put _ (.lst upd_same r1.dropLast)) ry⟩
  · split at e
    · rename_i xs i hi
      obtain ⟨us, h1, r1⟩ := c.lstI
      cases rs with
      | cons a1 t =>
        cases t
        rw [a1.intI]
        cases q : L2.ixN xs.length i with
        | none => rw [q] at e; cases e
        | some j =>
          rw [q] at e
          have e : (xs[j]?).map (fun y => (y, D.lst (xs.eraseIdx j))) = some (r, d') := e
          cases q2 : xs[j]? with
          | none => rw [q2] at e; cases e
          | some y =>
            rw [q2] at e; cases e
            obtain ⟨vy, e1, ry⟩ := r1.get q2
            rw [r1.length] at q
            exact mtW_of mt_popAt ⟨_, _, _, _, _, rfl, rfl, h1, hi.1, hi.2, (ixN_seq q).1, e1, k _ _ (put _ (.lst upd_same (r1.eraseIdx _))) ry⟩
    · cases e
  · cases e
/-- xs.append(y) -/
theorem app_okW (h : RSt g b w s σ H) {x : Op} {xs : List D} {y : D} {v vy : V} {s' : S} {Q : VK} (rx : RepO g w s σ x v) (ex : cont s x = some (.lst xs)) (ry : Rep g w y vy) (hz : xs.length < sizeLine) (p : put s x (.lst (xs ++ [y])) = some s')
    (k : ∀ H', RSt g b w s' σ H' → Q .non H') : mtW X σ₂ "list.append" v [vy] H Q := by
  obtain ⟨a, rfl, c, put⟩ := put_ok h rx ex p
  obtain ⟨us, h1, r1⟩ := c.lstI
  exact mtW_of mt_append ⟨_, _, _, rfl, rfl, h1, by rw [← r1.length]; exact hz, k _ (put _ (.lst upd_same (r1.append (.cons ry .nil))))⟩
/-- what a list's method wants of its thing -/
theorem put_list (h : RSt g b w s σ H) {x : Op} {xs : List D} {d' : D} {v : V} {s' : S} (rx : RepO g w s σ x v) (ex : cont s x = some (.lst xs)) (p : put s x d' = some s') : tyV X.K "list" v H := by
  obtain ⟨a, rfl, c, _⟩ := put_ok h rx ex p
  obtain ⟨us, h1, r1⟩ := c.lstI
  exact .inl ⟨rfl, _, SqL.of h1⟩
theorem mut_list {m : MI} {d r d' : D} {ds : List D} (e : mutM m d ds = some (r, d')) : ∃ xs, d = .lst xs := by
  unfold mutM at e
  split at e
  · exact ⟨_, rfl⟩
  · exact ⟨_, rfl⟩
  · exact ⟨_, rfl⟩
  · cases e
/-- xs[i] = y -/
theorem sto_okW (h : RSt g b w s σ H) {x : Op} {xs : List D} {y : D} {v vy : V} {i : Int} {j : Nat} {s' : S} {Q : Hp → Prop} (rx : RepO g w s σ x v) (ex : cont s x = some (.lst xs)) (ry : Rep g w y vy) (hj : L2.ixN xs.length i = some j) (p : put s x (.lst (xs.set j y)) = some s')
    (k : ∀ H', RSt g b w s' σ H' → Q H') : rSetL v (.int i) vy H Q := by
  obtain ⟨a, rfl, c, put⟩ := put_ok h rx ex p
  obtain ⟨us, h1, r1⟩ := c.lstI
  exact ⟨_, _, _, _, rfl, rfl, h1, by rw [← r1.length]; exact hj, k _ (put _ (.lst upd_same (r1.set ry j)))⟩
end
end Ev
end
section
set_option linter.all false
set_option maxRecDepth 100000
set_option maxHeartbeats 2000000
/-! SortD: sorted of ints and of tuples of ints. -/
namespace Ev
open PySem PySem.Spec PyProof.Rows L2
/-! ### the order -/
abbrev lx : List Int → List Int → Bool := HT.lexLt
theorem lx_asym : ∀ {a b : List Int}, lx a b = true → lx b a = false
  | [], [], h => by cases h
  | [], _ :: _, _ => rfl
  | _ :: _, [], h => by cases h
  | x :: a, y :: b, h => by
    have h : (if x = y then lx a b else decide (x < y)) = true := h
    show (if y = x then lx b a else decide (y < x)) = false
    by_cases e : x = y
    · rw [if_pos e] at h
      rw [if_pos e.symm]
      exact lx_asym h
    · rw [if_neg e] at h
      rw [if_neg (fun z => e z.symm)]
      have := of_decide_eq_true h
      exact decide_eq_false (by omega)
theorem lx_tr : ∀ {a b c : List Int}, lx b a = false → lx c b = false → lx c a = false
  | [], b, c, _, _ => by cases c <;> rfl
  | x :: a, [], c, h, h2 => by cases h
  | x :: a, y :: b, [], h, h2 => by cases h2
  | x :: a, y :: b, z :: c, h, h2 => by
    have h : (if y = x then lx b a else decide (y < x)) = false := h
    have h2 : (if z = y then lx c b else decide (z < y)) = false := h2
    show (if z = x then lx c a else decide (z < x)) = false
    by_cases e : y = x
    · rw [if_pos e] at h
      by_cases e2 : z = y
      · rw [if_pos e2] at h2
        rw [if_pos (e2.trans e)]
        exact lx_tr h h2
      · rw [if_neg e2] at h2
        rw [if_neg (fun q => e2 (q.trans e.symm))]
        have := of_decide_eq_false h2
        exact decide_eq_false (by omega)
    · rw [if_neg e] at h
      have h := of_decide_eq_false h
      by_cases e2 : z = y
      · rw [if_pos e2] at h2
        rw [if_neg (fun q => e (e2.symm.trans q))]
        exact decide_eq_false (by omega)
      · rw [if_neg e2] at h2
        have h2 := of_decide_eq_false h2
        by_cases e3 : z = x
        · exact absurd e3 (by omega)
        · rw [if_neg e3]
          exact decide_eq_false (by omega)
theorem lx_eq : ∀ {a b : List Int}, lx a b = false → lx b a = false → a = b
  | [], [], _, _ => rfl
  | [], _ :: _, h, _ => by cases h
  | _ :: _, [], _, h => by cases h
  | x :: a, y :: b, h, h2 => by
    have h : (if x = y then lx a b else decide (x < y)) = false := h
    have h2 : (if y = x then lx b a else decide (y < x)) = false := h2
    by_cases e : x = y
    · subst e
      rw [if_pos rfl] at h h2
      rw [lx_eq h h2]
    · rw [if_neg e] at h
      rw [if_neg (fun z => e z.symm)] at h2
      have h := of_decide_eq_false h
      have h2 := of_decide_eq_false h2
      omega
theorem lx_swo {α : Type} (k : α → List Int) : SrtO.Swo fun x y => lx (k x) (k y) := ⟨fun _ _ h => lx_asym h, fun _ _ _ h h2 => lx_tr h h2⟩
/-- two sorted rearrangements of each other are one -/
theorem srtd_uniq {α : Type} {lt : α → α → Bool} (O : SrtO.Swo lt) : ∀ {l m : List α}, (∀ x ∈ l, ∀ y ∈ l, lt x y = false → lt y x = false → x = y) → SrtO.Srtd lt l → SrtO.Srtd lt m → l.Perm m → l = m
  | [], m, _, _, _, h => (List.Perm.eq_nil h.symm).symm
  | x :: l, [], _, _, _, h => absurd h.length_eq (by simp)
  | x :: l, y :: m, he, hl, hm, h => by
    have h1 : lt x y = false := by
      rcases List.mem_cons.mp (h.mem_iff.mp (List.mem_cons_self (a := x) (l := l))) with e | hx
      · rw [e]; exact O.refl y
      · exact SrtO.srtd_head hm x hx
    have hy0 : y ∈ x :: l := h.mem_iff.mpr (List.mem_cons_self (a := y) (l := m))
    have h2 : lt y x = false := by
      rcases List.mem_cons.mp hy0 with e | hy
      · rw [e]; exact O.refl x
      · exact SrtO.srtd_head hl y hy
    have e : x = y := he x List.mem_cons_self y hy0 h1 h2
    subst e
    rw [srtd_uniq O (fun a ha b hb => he a (List.mem_cons_of_mem _ ha) b (List.mem_cons_of_mem _ hb)) (List.pairwise_cons.mp hl).2 (List.pairwise_cons.mp hm).2 h.cons_inv]
/-! ### isort -/
def kI : D → List Int
  | .int i => [i]
  | .tup xs => (intsOf xs).getD []
  | _ => []
/-- all numbers, or all tuples of numbers -/
def Kd (b : Bool) : D → Prop
  | .int _ => b = true
  | .tup xs => b = false ∧ xs ≠ [] ∧ ∃ ns, intsOf xs = some ns
  | _ => False
theorem intsOf_map : ∀ {xs : List D} {ns : List Int}, intsOf xs = some ns → xs = ns.map D.int
  | [], ns, h => by cases h; rfl
  | x :: xs, ns, h => by
    cases x with
    | int i =>
      have h : (intsOf xs).map (i :: ·) = some ns := h
      cases e : intsOf xs with
      | none => rw [e] at h; cases h
      | some q =>
        rw [e] at h
        cases h
        rw [intsOf_map e]; rfl
    | _ => cases h
theorem kd_lt {b : Bool} {x y : D} (hx : Kd b x) (hy : Kd b y) : ltD x y = some (lx (kI x) (kI y)) := by
  cases x with
  | int i =>
    cases y with
    | int j =>
      show some (decide (i < j)) = some (if i = j then false else decide (i < j))
      by_cases e : i = j
      · rw [if_pos e, decide_eq_false (by omega)]
      · rw [if_neg e]
    | tup ys => cases (show b = true from hx); cases hy.1
    | _ => exact hy.elim
  | tup xs =>
    cases y with
    | int j => cases (show b = true from hy); cases hx.1
    | tup ys =>
      obtain ⟨_, _, ns, e1⟩ := hx
      obtain ⟨_, _, ms, e2⟩ := hy
      show (intsOf xs).bind (fun ns => (intsOf ys).map fun ms => HT.lexLt ns ms) = some (lx ((intsOf xs).getD []) ((intsOf ys).getD []))
      rw [e1, e2]
      rfl
    | _ => exact hy.elim
  | _ => exact hx.elim
theorem kd_inj {b : Bool} {x y : D} (hx : Kd b x) (hy : Kd b y) (e : kI x = kI y) : x = y := by
  cases x with
  | int i =>
    cases y with
    | int j => cases e; rfl
    | tup ys => cases (show b = true from hx); cases hy.1
    | _ => exact hy.elim
  | tup xs =>
    cases y with
    | int j => cases (show b = true from hy); cases hx.1
    | tup ys =>
      obtain ⟨_, _, ns, e1⟩ := hx
      obtain ⟨_, _, ms, e2⟩ := hy
      have e : (intsOf xs).getD [] = (intsOf ys).getD [] := e
      rw [e1, e2] at e
      have e : ns = ms := e
      rw [intsOf_map e1, intsOf_map e2, e]
    | _ => exact hy.elim
  | _ => exact hx.elim
theorem ins_ok {b : Bool} {x : D} (hx : Kd b x) : ∀ {ys : List D}, (∀ y ∈ ys, Kd b y) → SrtO.Srtd (fun x y => lx (kI x) (kI y)) ys → ∃ r, ins x ys = some r ∧ r.Perm (x :: ys) ∧ SrtO.Srtd (fun x y => lx (kI x) (kI y)) r
  | [], _, _ => ⟨[x], rfl, .refl _, List.pairwise_singleton _ _⟩
  | y :: ys, hy, hs => by
    have e := kd_lt hx (hy y List.mem_cons_self)
    unfold ins
    rw [e]
    cases q : lx (kI x) (kI y) with
    | true =>
      refine ⟨x :: y :: ys, rfl, .refl _, List.pairwise_cons.mpr ⟨fun z hz => ?_, hs⟩⟩
      exact lx_asym ((lx_swo kI).lt_all hs q z hz)
    | false =>
      obtain ⟨r, e1, p, s⟩ := ins_ok hx (fun z hz => hy z (List.mem_cons_of_mem _ hz)) (List.pairwise_cons.mp hs).2
      refine ⟨y :: r, by rw [e1]; rfl, (p.cons y).trans (.swap x y ys), List.pairwise_cons.mpr ⟨fun z hz => ?_, s⟩⟩
      rcases List.mem_cons.mp (p.mem_iff.mp hz) with rfl | hz
      · exact q
      · exact SrtO.srtd_head hs z hz
theorem isort_ok {b : Bool} : ∀ {xs : List D}, (∀ x ∈ xs, Kd b x) → ∃ r, isort xs = some r ∧ r.Perm xs ∧ SrtO.Srtd (fun x y => lx (kI x) (kI y)) r
  | [], _ => ⟨[], rfl, .refl _, .nil⟩
  | x :: xs, h => by
    obtain ⟨r, e, p, s⟩ := isort_ok (xs := xs) fun y hy => h y (List.mem_cons_of_mem _ hy)
    obtain ⟨r2, e2, p2, s2⟩ := ins_ok (h x List.mem_cons_self) (ys := r) (fun y hy => h y (List.mem_cons_of_mem _ (p.mem_iff.mp hy))) s
    exact ⟨r2, by show (isort xs).bind (ins x) = _; rw [e]; exact e2, p2.trans (p.cons x), s2⟩
/-- a sorted rearrangement is what isort tells -/
theorem isort_eq {b : Bool} {xs ys : List D} (h : ∀ x ∈ xs, Kd b x) (p : ys.Perm xs) (s : SrtO.Srtd (fun x y => lx (kI x) (kI y)) ys) : isort xs = some ys := by
  obtain ⟨r, e, p2, s2⟩ := isort_ok h
  have := srtd_uniq (lx_swo kI) (fun x hx y hy h1 h2 => kd_inj (h x (p2.mem_iff.mp hx)) (h y (p2.mem_iff.mp hy)) (lx_eq h1 h2)) s2 s (p2.trans p.symm)
  rw [e, this]
/-! ### the machine's sorted -/
/-- a tuple of these numbers stands at v -/
def IsTI (h : Heap) (v : Value) (ns : List Int) : Prop := ∃ (a : Addr) (o : Obj) (its : List Value) (n : Nat), v = .ref a ∧ h.get? a = some o ∧ o.cls = .type "tuple" ∧ o.data = .seq its.toArray n ∧ Vals (ns.map V.int) its
theorem IsTI.keeps {h h' : Heap} {v : Value} {ns : List Int} (t : IsTI h v ns) (k : ∀ b o, h.get? b = some o → o.cls = .type "tuple" → h'.get? b = some o) : IsTI h' v ns := by
  obtain ⟨a, o, its, n, e, ho, hc, r⟩ := t
  exact ⟨a, o, its, n, e, k a o ho hc, hc, r⟩
section
variable {prog : Program} {w : World} {A : Around} {s : Shared}
theorem kat_ints {fin b : Bool} : ∀ {as bs : List Int} {us vs : List Value} (i : Nat), Vals (as.map V.int) us → Vals (bs.map V.int) vs → (fin = decide (us.length < vs.length) ) →
    PySem.W.KatLex prog w A b fin (fun r s' => s' = s ∧ r = lx as bs) (us.zip vs) i s
  | [], [], _, _, i, .nil, .nil, hf => PySem.W.kat_nil ⟨rfl, hf⟩
  | [], b :: bs, _, _, i, .nil, .cons _ _, hf => PySem.W.kat_nil ⟨rfl, by rw [hf]; rfl⟩
  | a :: as, [], _, _, i, .cons _ _, .nil, hf => PySem.W.kat_nil ⟨rfl, by rw [hf]; rfl⟩
  | a :: as, b' :: bs, u :: us, v :: vs, i, .cons ra r, .cons rb q, hf => by
    obtain ⟨t, rfl⟩ := ra
    obtain ⟨t', rfl⟩ := rb
    refine PySem.W.kat_cons (SeqAt.EqAt.int_int a t b' t' prog w _ _ ?_)
    refine PySem.W.kat_go (fun e1 => ?_) (fun e1 => ?_)
    · have ex : a = b' := by simpa using e1
      have ih := kat_ints (fin := fin) (b := b) (i + 1) r q (by rw [hf]; simp)
      have e3 : lx (a :: as) (b' :: bs) = lx as bs := if_pos ex
      rw [e3]
      exact PySem.W.kat_yes ih
    · have ex : ¬ a = b' := by simpa using e1
      have e3 : lx (a :: as) (b' :: bs) = decide (a < b') := if_neg ex
      rw [e3]
      exact PySem.W.kat_no (TS.oneLt_ints (Q := fun r s' => s' = s ∧ r = decide (a < b')) _ ⟨rfl, rfl⟩)
theorem tis_cmp {vs : List Value} {k : Value → List Int} (hp : ∀ v ∈ vs, IsTI s.heap v (k v)) : SrtO.Cmp prog w A s (tuples' true) (fun p => p.1 ∈ vs) (SrtO.lt2 fun v u => lx (k v) (k u)) := by
  intro p q hm hm'
  have h1 := hp _ hm
  have h2 := hp _ hm'
  show wpAny (model prog w) A (keyLt' (tuples' true) p.1 q.1) (fun r s' => s' = s ∧ r = lx (k p.1) (k q.1)) (fun _ _ => False) s
  generalize k p.1 = x at h1 ⊢
  generalize k q.1 = x' at h2 ⊢
  obtain ⟨a, o, its, n, e, ho, hc, hd, r⟩ := h1
  obtain ⟨a', o', its', n', e', ho', hc', hd', r'⟩ := h2
  rw [e, e']
  refine PySem.W.kat_lt ho hd ho' hd' ?_
  simp only [List.size_toArray]
  exact kat_ints 0 r r' rfl
theorem tis_firsts {h : Heap} : ∀ {vs : List Value} {k : Value → List Int}, (∀ v ∈ vs, IsTI h v (k v) ∧ k v ≠ []) → ∃ fs, PySem.W.KatTups h vs fs ∧ fs.length = vs.length ∧ ∀ f ∈ fs, ∃ x t, f = Value.int x t
  | [], _, _ => ⟨[], .nil, rfl, fun _ z => by cases z⟩
  | v :: vs, k, hp => by
    obtain ⟨fs, h1, h2, h3⟩ := tis_firsts (vs := vs) (k := k) fun u hu => hp u (List.mem_cons_of_mem _ hu)
    obtain ⟨⟨a, o, its, n, e, ho, hc, hd, r⟩, hn⟩ := hp v List.mem_cons_self
    cases q : k v with
    | nil => exact absurd q hn
    | cons x xs =>
      rw [q] at r
      cases r with
      | cons ra r =>
        obtain ⟨t, rfl⟩ := ra
        rw [e]
        exact ⟨.int x t :: fs, .cons (f := .int x t) ho hc hd (by simp) h1, by simp [h2], fun f hf => by
          rcases List.mem_cons.mp hf with rfl | hf
          · exact ⟨_, _, rfl⟩
          · exact h3 f hf⟩
theorem tis_sortable {a : Addr} {vs : List Value} {k : Value → List Int} (h0 : 0 < vs.length) (hp : ∀ v ∈ vs, IsTI s.heap v (k v) ∧ k v ≠ []) (ha : ∀ o, s.heap.get? a = some o → o.cls ≠ .type "tuple") : SrtO.SortableO prog w A s a vs fun v u => lx (k v) (k u) := by
  intro h' keep
  have hp' : ∀ v ∈ vs, IsTI h' v (k v) ∧ k v ≠ [] := fun v hm => ⟨(hp v hm).1.keeps fun b o e c => keep b o (fun z => by subst z; exact ha o e c) e, (hp v hm).2⟩
  obtain ⟨fs, h1, h2, h3⟩ := tis_firsts hp'
  refine ⟨tuples' true, fun Q E hq => ?_, tis_cmp (s := { s with heap := h' }) fun v hv => (hp' v hv).1⟩
  refine PySem.W.kat_kind (T := .type "int") h1 (by omega) (fun f hm => ?_) (by rfl) ?_
  · obtain ⟨x, t, rfl⟩ := h3 f hm
    exact PySem.W.Looks.now
  · have e : (Value.type "int" != Value.type "tuple") = true := by first | decide +kernel | rfl | decide
    rw [e]
    exact hq
end
end Ev
namespace Ev
open PySem PySem.Spec PyProof.Rows L2
theorem intsOf_of : ∀ {ns : List Int}, intsOf (ns.map D.int) = some ns
  | [] => rfl
  | n :: ns => by
    show (intsOf (ns.map D.int)).map (n :: ·) = _
    rw [intsOf_of]; rfl
/-- the numbers of the tuple at v -/
def kH (h : Heap) : Value → List Int
  | .ref a => (match h.get? a with
    | some o => (match o.data with
      | .seq its _ => its.toList.map fun
        | .int i _ => i
        | _ => 0
      | _ => [])
    | none => [])
  | _ => []
theorem vals_ints' : ∀ {ns : List Int} {its : List Value}, Vals (ns.map V.int) its → its.map (fun | .int i _ => i | _ => (0 : Int)) = ns
  | [], _, .nil => rfl
  | n :: ns, _, .cons a r => by
    obtain ⟨t, rfl⟩ := a
    rw [List.map_cons, vals_ints' r]
theorem IsTI.kH {h : Heap} {v : Value} {ns : List Int} (t : IsTI h v ns) : Ev.kH h v = ns := by
  obtain ⟨a, o, its, n, rfl, ho, hc, hd, r⟩ := t
  unfold Ev.kH
  simp only [ho, hd]
  exact vals_ints' r
def dOf (h : Heap) (u : Value) : D := .tup ((kH h u).map .int)
section
variable {X : Cx} {g : Gl} {b : Ba} {w : Wd} {s : S} {H : Hp} {σ σ₂ : L2.St}
theorem tup_ti (hK : X.K = g.K) {pins : List (Addr × Obj)} {sm : Shared} (I : Inv X pins σ H sm) (hg : RSg g w s.sh H) {xs : List D} {ns : List Int} {v : V} {u : Value} (e : intsOf xs = some ns) (r : Rep g w (.tup xs) v) (rv : RelV v u) : IsTI sm.heap u ns := by
  have rc := hg.rc r (fun k z => by cases z)
  obtain ⟨a, vs, rfl, h1, r1⟩ := rc.tupI
  rw [← hK] at h1
  obtain ⟨its, rr, ⟨o, h2, h3, n, h4⟩, _⟩ := I.tuple h1
  rw [intsOf_map e] at r1
  rw [Reps.ints r1] at rr
  exact ⟨a, o, its, n, rv, h2, h3, h4, rr⟩
theorem srt_tups (hK : X.K = g.K) {l r : List D} {vs : List V} {a : Addr} {Q : VK} (h : RSt g b w s σ H) (hl : ∀ d ∈ l, Kd false d) (hs : SqL X.K H a vs) (rs : Reps g w l vs) (e : isort l = some r) (k : KR g b w s σ (.ow (.lst r)) Q) : callW X σ₂ (.builtin "sorted") [.ref a] H Q := by
  intro pins sm us I rv0
  obtain ⟨its, rv, hl0, hz⟩ := I.list hs
  obtain ⟨u0, rfl, ru⟩ := vals1 rv0
  obtain rfl : u0 = Value.ref a := ru
  have ti : ∀ (j : Nat) (u : Value), its[j]? = some u → ∃ d v ns, l[j]? = some d ∧ vs[j]? = some v ∧ Rep g w d v ∧ RelV v u ∧ IsTI sm.heap u ns ∧ ns ≠ [] ∧ d = dOf sm.heap u := fun j u hu => by
    have len : l.length = its.length := rs.length.trans rv.length
    have hj : j < l.length := by rw [len]; exact (List.getElem?_eq_some_iff.mp hu).1
    obtain ⟨v, e1, r1⟩ := rs.get (List.getElem?_eq_getElem hj)
    obtain ⟨u', e2, r2⟩ := rv.get e1
    rw [hu] at e2; cases e2
    have kd := hl _ (List.getElem_mem hj)
    generalize hd : l[j] = d at kd r1
    cases d with
    | tup xs =>
      obtain ⟨_, hn, ns, e3⟩ := kd
      have t := tup_ti hK I h.rs.st e3 r1 r2
      refine ⟨.tup xs, v, ns, by rw [List.getElem?_eq_getElem hj, hd], e1, r1, r2, t, fun z => ?_, ?_⟩
      · subst z
        exact hn (intsOf_map e3)
      · unfold dOf
        rw [t.kH, intsOf_map e3]
    | int i => cases kd
    | _ => exact kd.elim
  have tim : ∀ u ∈ its, IsTI sm.heap u (Ev.kH sm.heap u) ∧ Ev.kH sm.heap u ≠ [] := fun u hu => by
    obtain ⟨j, hj⟩ := List.getElem?_of_mem hu
    obtain ⟨d, v, ns, _, _, _, _, t, hn, _⟩ := ti j u hj
    rw [t.kH]
    exact ⟨t, hn⟩
  have lm : its.map (dOf sm.heap) = l := by
    apply List.ext_getElem?
    intro j
    rw [List.getElem?_map]
    cases hj : its[j]? with
    | none =>
      have := List.getElem?_eq_none_iff.mp hj
      rw [List.getElem?_eq_none (by rw [rs.length, rv.length]; exact this)]
      rfl
    | some u =>
      obtain ⟨d, v, ns, e1, _, _, _, _, _, e2⟩ := ti j u hj
      rw [e1, e2]
      rfl
  refine SrtO.sorted_ord (vs := its) (lx_swo (Ev.kH sm.heap)) hl0.isList (by rw [← rv.length]; exact hz) (fun h2 h₁ a ha kk => ?_) fun out h1 h2 => ?_
  · refine tis_sortable (s := { sm with heap := h₁ }) (by omega) (fun v hm => ⟨(tim v hm).1.keeps fun b o e _ => (kk b o e).2, (tim v hm).2⟩) fun o e => ?_
    have e' : some o = some (seqObj "list" its.toArray 0) := e.symm.trans ha
    cases e'
    intro c
    exact absurd (Value.type.inj c) (by decide)
  · have outm : ∀ u ∈ out, u ∈ its := fun u hu => h2.perm.mem_iff.mp hu
    have isref : ∀ u ∈ out, ∃ a, u = Value.ref a := fun u hu => by
      obtain ⟨⟨a, _, _, _, z, _⟩, _⟩ := tim u (outm u hu)
      exact ⟨a, z⟩
    have rr : ∀ (out : List Value), (∀ u ∈ out, u ∈ its) → Reps g w (out.map (dOf sm.heap)) (out.map backV) := by
      intro out
      induction out with
      | nil => intro _; exact .nil
      | cons u out ih =>
        intro hm
        obtain ⟨j, hj⟩ := List.getElem?_of_mem (hm u List.mem_cons_self)
        obtain ⟨d, v, ns, _, _, r1, r2, t, _, e2⟩ := ti j u hj
        obtain ⟨a', _, _, _, rfl, _⟩ := t
        have hv : v = .ref a' := RelV.inj r2 (show RelV (.ref a') (.ref a') from rfl)
        rw [List.map_cons, List.map_cons, ← e2]
        exact .cons (by rw [hv] at r1; exact r1) (ih fun z hz => hm z (List.mem_cons_of_mem _ hz))
    have er : r = out.map (dOf sm.heap) := by
      have p : (out.map (dOf sm.heap)).Perm l := by rw [← lm]; exact h2.perm.map _
      have sd : SrtO.Srtd (fun x y => lx (kI x) (kI y)) (out.map (dOf sm.heap)) := by
        refine List.pairwise_map.mpr (List.Pairwise.imp (fun {x y} q => ?_) h1)
        have kk : ∀ x, kI (dOf sm.heap x) = Ev.kH sm.heap x := fun x => by
          show (intsOf ((Ev.kH sm.heap x).map D.int)).getD [] = _
          rw [intsOf_of]; rfl
        show lx (kI (dOf sm.heap y)) (kI (dOf sm.heap x)) = false
        rw [kk, kk]
        exact q
      have := isort_eq hl p sd
      rw [e] at this
      exact Option.some.inj this
    obtain ⟨n, hn⟩ := sortedAll_at sm.heap its out.toArray
    have newN : H (sm.heap.objs.size + 1) = none := I.hok.fresh (Nat.le_succ _)
    have hsz : (out.map backV).length ≤ sizeLine := by
      rw [List.length_map, h2.perm.length_eq, ← rv.length]
      exact hz
    obtain ⟨q1, q2, q3, q4, q5⟩ := h.layO (o := .lst (out.map backV)) newN
    exact ⟨.ref _, upd H (sm.heap.objs.size + 1) (.lst (out.map backV)), I.laid (t' := sm.toks) (fun b o e => sortedAll_old e) (Nat.le_succ _) ⟨hsz, out, n, vals_back isref, hn⟩, rfl, k _ _ _ q1 Le.refl (.ow ⟨q2, q3, q4, q5, .lst upd_same (by rw [er]; exact rr out outm)⟩)⟩
theorem srt_ints (hK : X.K = g.K) {ns : List Int} {r : List D} {a : Addr} {Q : VK} (h : RSt g b w s σ H) (hs : SqL X.K H a (ns.map V.int)) (e : isort (ns.map D.int) = some r) (k : KR g b w s σ (.ow (.lst r)) Q) : callW X σ₂ (.builtin "sorted") [.ref a] H Q := by
  refine callW_of cr_sortedI ⟨a, ns, rfl, hs, fun ns' p hp hw hn => ?_⟩
  have er : isort (ns.map D.int) = some (ns'.map D.int) := by
    refine isort_eq (b := true) (fun x hx => ?_) (hp.map _) (List.pairwise_map.mpr (List.Pairwise.imp (fun {x y} q => ?_) hw))
    · obtain ⟨i, _, rfl⟩ := List.mem_map.mp hx
      rfl
    · show (if y = x then false else decide (y < x)) = false
      by_cases z : y = x
      · rw [if_pos z]
      · rw [if_neg z]
        exact decide_eq_false (by omega)
  rw [e] at er
  cases er
  obtain ⟨q1, q2, q3, q4, q5⟩ := h.layO (o := .lst (ns'.map V.int)) hn
  refine k _ _ _ q1 Le.refl (.ow ⟨q2, q3, q4, q5, .lst upd_same ?_⟩)
  have : ∀ l : List Int, Reps g w (l.map D.int) (l.map V.int) := fun l => by
    induction l with
    | nil => exact .nil
    | cons i l ih => exact .cons .int ih
  exact this _
end
end Ev
namespace Ev
open PySem PySem.Spec PyProof.Rows L2
theorem allInt : ∀ {l : List D}, l.all isIntD = true → ∃ ns : List Int, l = ns.map D.int
  | [], _ => ⟨[], rfl⟩
  | x :: l, h => by
    rw [List.all_cons, Bool.and_eq_true] at h
    obtain ⟨ns, rfl⟩ := allInt h.2
    cases x with
    | int i => exact ⟨i :: ns, rfl⟩
    | _ => cases h.1
theorem sort_ok {X : Cx} {g : Gl} (hK : X.K = g.K) : SortOk X g := by
  intro b w s H σ σ₂ dx x r Q h rx e k
  have key : ∀ {l : List D} {vs : List V} {a : Addr}, x = .ref a → SqL X.K H a vs → Reps g w l vs → (if srtOk l then (isort l).map fun r => Rv.ow (.lst r) else none) = some r → callW X σ₂ (.builtin "sorted") [x] H Q := by
    intro l vs a hx hs rs e
    subst hx
    by_cases hz : srtOk l = true
    · rw [if_pos hz] at e
      cases q : isort l with
      | none => rw [q] at e; cases e
      | some z =>
        rw [q] at e
        cases e
        by_cases hi : l.all isIntD = true
        · obtain ⟨ns, rfl⟩ := allInt hi
          rw [Reps.ints rs] at hs
          exact srt_ints hK h hs q k
        · unfold srtOk at hz
          have hz : l.all isTI = true := by
            rcases Bool.or_eq_true_iff.mp hz with z | z
            · exact absurd z hi
            · exact z
          refine srt_tups hK h (fun d hd => ?_) hs rs q k
          have z := List.all_eq_true.mp hz d hd
          cases d with
          | tup xs =>
            unfold isTI at z
            rw [Bool.and_eq_true] at z
            obtain ⟨ns, e⟩ := Option.isSome_iff_exists.mp z.2
            refine ⟨rfl, fun q => ?_, ns, e⟩
            subst q
            cases z.1
          | _ => cases z
    · rw [if_neg hz] at e; cases e
  cases rx with
  | lst q r' => exact key rfl (SqL.of q) r' e
  | ro q r' => rw [← hK] at q; exact key rfl q r' e
  | _ => cases e
end Ev
end
section
set_option linter.all false
set_option maxRecDepth 100000
set_option maxHeartbeats 1000000
/-! Sound1: readings of the IR; expressions without calls. -/
namespace Ev
open PySem PySem.Spec PyProof.Rows L2

/-- a reading's setting: the globals, the evaluator's setting, where one began, the wish about exceptions -/
structure Cy where
  g : Gl
  C : Cf
  b : Ba
  xw : Nat → List D → List D → Prop
def X3 (Y : Cy) : Nat → List D → S → Prop := fun c ds s => Y.xw c ds s.sh
inductive RepOs (g : Gl) (w : Wd) (s : S) (σ : L2.St) : List Op → List V → Prop
  | nil : RepOs g w s σ [] []
  | cons {x v xs vs} : RepO g w s σ x v → RepOs g w s σ xs vs → RepOs g w s σ (x :: xs) (v :: vs)
theorem RepOs.mono {g : Gl} {w w' : Wd} {s s' : S} {σ : L2.St} (l : Le w w') : ∀ {xs : List Op} {vs : List V}, RepOs g w s σ xs vs → RepOs g w' s' σ xs vs
  | _, _, .nil => .nil
  | _, _, .cons a r => .cons (a.mono l) (RepOs.mono l r)

def rdE (Y : Cy) (e : E) : TE := fun σ H Q => ∃ w s, RSt Y.g Y.b w s σ H ∧ Post (evE Y.C e s) (fun r s' => KR Y.g Y.b w s' σ r Q) (X3 Y)
def rdB (Y : Cy) (a : B) : TE := fun σ H Q => ∃ w s, RSt Y.g Y.b w s σ H ∧ Post (evB Y.C a s) (fun x s' => ∀ w' H' v, RSt Y.g Y.b w' s' σ H' → Le w w' → RepO Y.g w' s' σ x v → Q v H') (X3 Y)
def rdT (Y : Cy) (t : T) : TT := fun σ H Q => ∃ w s, RSt Y.g Y.b w s σ H ∧ Post (evT Y.C t s) (fun c s' => ∀ w' H', RSt Y.g Y.b w' s' σ H' → Le w w' → Q c H') (X3 Y)
def rdO (Y : Cy) (o : O) : TO := fun σ H Q => ∃ w s, RSt Y.g Y.b w s σ H ∧ Post (evO Y.C o s) (fun c s' => ∀ w' H', RSt Y.g Y.b w' s' σ H' → Le w w' → Q c H') (X3 Y)
def rdEs (Y : Cy) (es : Es) : TA := fun σ H Q => ∃ w s, RSt Y.g Y.b w s σ H ∧ Post (evEs Y.C es s) (fun ds s' => ∀ w' H' vs, RSt Y.g Y.b w' s' σ H' → Le w w' → Reps Y.g w' ds vs → Q vs H') (X3 Y)
def rdBs (Y : Cy) (es : Bs) : TA := fun σ H Q => ∃ w s, RSt Y.g Y.b w s σ H ∧ Post (evBs Y.C es s) (fun xs s' => ∀ w' H' vs, RSt Y.g Y.b w' s' σ H' → Le w w' → RepOs Y.g w' s' σ xs vs → Q vs H') (X3 Y)

section
variable {X : Cx} {Y : Cy} {σ : L2.St} {H : Hp} {w : Wd} {s : S}
theorem pe_to {e : Expr} {t t' : TE} (h : PE X e t) (k : ∀ σ H Q, t' σ H Q → t σ H Q) : PE X e t' := ⟨fun pins s σ H Q I q => h.run pins s σ H Q I (k σ H Q q)⟩
theorem pt_to {e : Expr} {t t' : TT} (h : PT X e t) (k : ∀ σ H Q, t' σ H Q → t σ H Q) : PT X e t' := ⟨fun pins s σ H Q I q => h.run pins s σ H Q I (k σ H Q q)⟩
theorem pw_to {e : Expr} {t t' : TT} (h : PW X e t) (k : ∀ σ H Q, t' σ H Q → t σ H Q) : PW X e t' := ⟨fun wh pins s σ H Q I q => h.run wh pins s σ H Q I (k σ H Q q)⟩
theorem po_to {e : Option Expr} {t t' : TO} (h : PO X e t) (k : ∀ σ H Q, t' σ H Q → t σ H Q) : PO X e t' := ⟨fun pins s σ H Q I q => h.run pins s σ H Q I (k σ H Q q)⟩
theorem pa_to {e : List Expr} {t t' : TA} (h : PA X e t) (k : ∀ σ H Q, t' σ H Q → t σ H Q) : PA X e t' := ⟨fun pos pins s σ H Q I q => h.run pos pins s σ H Q I (k σ H Q q)⟩
def rOp (X : Cx) (f : Value → Value → Sem Value) : R2 := fun x y H Q => ∀ σ, opW X σ f x y H Q
theorem opR {f : Value → Value → Sem Value} : OpR X f (rOp X f) := fun pins s σ H x y v u Q I rx ry h => h σ pins s v u I rx ry
def rIx (X : Cx) : R2 := fun x y H Q => ∀ σ, ixW X σ x y H Q
theorem ixR : IxR X (rIx X) := fun a b pins s σ H x y v u Q I rx ry h hs => h σ a b pins s v u I rx ry hs
def rSl (X : Cx) : V → Option Int → Option Int → Hp → VK → Prop := fun x l u H Q => ∀ σ, slW X σ x l u H Q
theorem slR : SlR X (rSl X) := fun pins s σ H x v vl vu lo hi sl Q I rx hs pl pu h => h σ pins s v vl vu sl I rx hs pl pu
def rCall (X : Cx) (f : Value) : List V → Hp → VK → Prop := fun xs H Q => ∀ σ, callW X σ f xs H Q
theorem callR {f : Value} : CallR X f (rCall X f) := fun pins s σ H xs us Q I rx h => h σ pins s us I rx
def rTru (X : Cx) : V → Hp → (Bool → Hp → Prop) → Prop := fun x H Q => ∀ σ, truW X σ x H Q
def rMt (X : Cx) (id : String) : V → List V → Hp → VK → Prop := fun x xs H Q => ∀ σ, mtW X σ id x xs H Q
theorem mtR {id : String} : MtR X id (rMt X id) := fun pins s σ H x xs v us Q I rx rs h => h σ pins s v us I rx rs

theorem KR.le {g : Gl} {b : Ba} {w w1 : Wd} {r : Rv} {Q : VK} (l : Le w w1) (k : KR g b w s σ r Q) : KR g b w1 s σ r Q := fun w' H' v h l' q => k w' H' v h (l.trans l') q
theorem KR.frz {g : Gl} {b : Ba} {r : Rv} {Q : VK} (k : KR g b w s σ r Q) {w1 : Wd} {H1 : Hp} {v : V} {d : D} (hr : r = .fr d) (l : Le w w1) (h : RSt g b w1 s σ H1) (q : Rep g w1 d v) : Q v H1 := by
  subst hr
  exact k w1 H1 v h l (.fr q)
theorem post_ofOpt {α : Type} {o : Option α} {P : α → S → Prop} {Xw : Nat → List D → S → Prop} (h : Post (ofOpt o s) P Xw) : ∃ a, o = some a ∧ P a s := by
  cases o with
  | none => exact h.elim
  | some a => exact ⟨a, rfl, h⟩
theorem cont2_some {α : Type} {x y : Op} {f : D → D → Option α} {r : α} (e : cont2 s x y f = some r) : ∃ dx dy, cont s x = some dx ∧ cont s y = some dy ∧ f dx dy = some r := by
  unfold cont2 at e
  cases h1 : cont s x with
  | none => rw [h1] at e; cases e
  | some dx =>
    rw [h1] at e
    have e : (cont s y).bind (fun b => f dx b) = some r := e
    cases h2 : cont s y with
    | none => rw [h2] at e; cases e
    | some dy => rw [h2] at e; exact ⟨dx, dy, rfl, rfl, e⟩

/-! ### slots, constants -/
theorem rd_var {i : Nat} {Q : VK} (q : rdE Y (.var i) σ H Q) : tVar i σ H Q := by
  obtain ⟨w, s, h, p⟩ := q
  unfold evE at p
  cases e : s.get i with
  | un => rw [e] at p; exact p.elim
  | fr d =>
    rw [e] at p
    obtain ⟨v, ev, r⟩ := h.rs.fr i d (get_fr e)
    exact ⟨v, ev, p w H v h Le.refl (.fr r)⟩
  | ow d =>
    rw [e] at p
    obtain ⟨w', a, ev, h', l, r⟩ := h.freezeS (get_ow e)
    exact ⟨_, ev, p w' H _ h' l (.fr r)⟩
theorem rdB_var {i : Nat} {Q : VK} (q : rdB Y (.var i) σ H Q) : tVar i σ H Q := by
  obtain ⟨w, s, h, p⟩ := q
  unfold evB at p
  cases e : s.get i with
  | un => rw [e] at p; exact p.elim
  | fr d =>
    rw [e] at p
    obtain ⟨v, ev, r⟩ := h.rs.fr i d (get_fr e)
    exact ⟨v, ev, p w H v h Le.refl (.v r)⟩
  | ow d =>
    rw [e] at p
    obtain ⟨a, ev, _⟩ := h.rs.ow i d (get_ow e)
    exact ⟨_, ev, p w H _ h Le.refl (.sl ev)⟩
theorem rdB_of {e : E} {Q : VK} (q : rdB Y (.of e) σ H Q) : rdE Y e σ H Q := by
  obtain ⟨w, s, h, p⟩ := q
  unfold evB at p
  rw [post_bind] at p
  refine ⟨w, s, h, p.mono (fun r s1 k w1 H1 v h1 l rv => ?_) fun _ _ _ z => z⟩
  obtain ⟨w2, h2, l2, r2⟩ := h1.fz rv
  exact k w2 H1 v h2 (l.trans l2) (.v r2)
theorem rd_cst {d : D} {v : V} (r : ∀ w, Rep Y.g w d v) {Q : VK} (q : rdE Y (.cst d) σ H Q) : tC v σ H Q := by
  obtain ⟨w, s, h, p⟩ := q
  unfold evE at p
  exact p w H v h Le.refl (.fr (r w))
theorem rd_share {e : E} {Q : VK} (q : rdE Y (.share e) σ H Q) : rdE Y e σ H Q := by
  obtain ⟨w, s, h, p⟩ := q
  unfold evE at p
  rw [post_bind] at p
  refine ⟨w, s, h, p.mono (fun r s1 k w1 H1 v h1 l rv => ?_) fun _ _ _ z => z⟩
  cases r with
  | fr d =>
    cases rv with
    | fr rv => exact k w1 H1 v h1 l (.fr rv)
  | ow d =>
    cases rv with
    | ow o =>
      obtain ⟨h2, l2, r2⟩ := h1.share o
      exact k _ H1 _ h2 (l.trans l2) (.fr r2)

/-! ### two operands -/
theorem rd2 {α : Type} {a b : B} {K : Op → Op → S → Res α} {P : α → S → Prop} {G : V → V → Hp → Prop} (h : RSt Y.g Y.b w s σ H) (p : Post ((evB Y.C a s).bind fun x s1 => (evB Y.C b s1).bind fun y s2 => K x y s2) P (X3 Y))
    (k : ∀ x y s2 w2 H2 vx vy, RSt Y.g Y.b w2 s2 σ H2 → Le w w2 → RepO Y.g w2 s2 σ x vx → RepO Y.g w2 s2 σ y vy → Post (K x y s2) P (X3 Y) → G vx vy H2) : rdB Y a σ H fun x H1 => rdB Y b σ H1 fun y H2 => G x y H2 := by
  rw [post_bind] at p
  refine ⟨w, s, h, p.mono (fun x s1 p1 w1 H1 vx h1 l1 rx => ?_) fun _ _ _ z => z⟩
  rw [post_bind] at p1
  refine ⟨w1, s1, h1, p1.mono (fun y s2 p2 w2 H2 vy h2 l2 ry => ?_) fun _ _ _ z => z⟩
  exact k x y s2 w2 H2 vx vy h2 (l1.trans l2) (rx.mono l2) ry p2
theorem rd_bin (hK : X.K = Y.g.K) {op : Operator} {a b : B} {Q : VK} (q : rdE Y (.bin op a b) σ H Q) : tOp (rOp X (binaryOp op)) (rdB Y a) (rdB Y b) σ H Q := by
  obtain ⟨w, s, h, p⟩ := q
  unfold evE at p
  refine rd2 h p fun x y s2 w2 H2 vx vy h2 l rx ry p2 σ₂ => ?_
  obtain ⟨r, e, k⟩ := post_ofOpt p2
  obtain ⟨dx, dy, ex, ey, e⟩ := cont2_some e
  exact bin_ok hK h2 (h2.cont rx ex) (h2.cont ry ey) e (k.le l)
theorem rd_idx (hK : X.K = Y.g.K) {a b : B} {Q : VK} (q : rdE Y (.idx a b) σ H Q) : tOp (rIx X) (rdB Y a) (rdB Y b) σ H Q := by
  obtain ⟨w, s, h, p⟩ := q
  unfold evE at p
  refine rd2 h p fun x y s2 w2 H2 vx vy h2 l rx ry p2 σ₂ => ?_
  obtain ⟨r, e, k⟩ := post_ofOpt p2
  cases e1 : cont2 s2 x y idxD with
  | none => rw [e1] at e; cases e
  | some d =>
    rw [e1] at e; cases e
    obtain ⟨dx, dy, ex, ey, e⟩ := cont2_some e1
    exact idx_ok hK h2 (h2.cont rx ex) (h2.cont ry ey) e fun v rv => k w2 H2 v h2 l (.fr rv)
theorem rd_cmp (hK : X.K = Y.g.K) (hu : X.A.units + 64 < cLine) {op : CmpOp} {a b : B} {Q : VK} (q : rdE Y (.cmp op a b) σ H Q) : tOp (rOp X (compareOp op)) (rdB Y a) (rdB Y b) σ H Q := by
  obtain ⟨w, s, h, p⟩ := q
  unfold evE at p
  refine rd2 h p fun x y s2 w2 H2 vx vy h2 l rx ry p2 σ₂ => ?_
  obtain ⟨r, e, k⟩ := post_ofOpt p2
  cases e1 : cont2 s2 x y (cmpD s2.sh op) with
  | none => rw [e1] at e; cases e
  | some c =>
    rw [e1] at e; cases e
    obtain ⟨dx, dy, ex, ey, e⟩ := cont2_some e1
    exact cmp_ok hK hu h2 (h2.cont rx ex) (h2.cont ry ey) e (k w2 H2 _ h2 l (.fr .bl))
theorem rdT_cmp (hK : X.K = Y.g.K) (hu : X.A.units + 64 < cLine) {op : CmpOp} {a b : B} {Q : Bool → Hp → Prop} (q : rdT Y (.cmp op a b) σ H Q) : tTest (tOp (rOp X (compareOp op)) (rdB Y a) (rdB Y b)) σ H Q := by
  obtain ⟨w, s, h, p⟩ := q
  unfold evT at p
  refine rd2 h p fun x y s2 w2 H2 vx vy h2 l rx ry p2 σ₂ => ?_
  obtain ⟨c, e, k⟩ := post_ofOpt p2
  obtain ⟨dx, dy, ex, ey, e⟩ := cont2_some e
  exact cmp_ok hK hu h2 (h2.cont rx ex) (h2.cont ry ey) e ⟨c, rfl, k w2 H2 h2 l⟩
/-- a op b op' c -/
theorem rd_chn (hK : X.K = Y.g.K) (hu : X.A.units + 64 < cLine) {op op' : CmpOp} {a b c : B} {Q : VK} (q : rdE Y (.chn a op b (.cons op' c .nil)) σ H Q) :
    tChain (rOp X (compareOp op)) (rOp X (compareOp op')) (rdB Y a) (rdB Y b) (rdB Y c) σ H Q := by
  obtain ⟨w, s, h, p⟩ := q
  unfold evE at p
  refine rd2 h p fun x y s2 w2 H2 vx vy h2 l rx ry p2 σ₂ => ?_
  cases e1 : cont2 s2 x y (cmpD s2.sh op) with
  | none => rw [e1] at p2; exact p2.elim
  | some k =>
    rw [e1] at p2
    obtain ⟨dx, dy, ex, ey, e⟩ := cont2_some e1
    refine cmp_ok hK hu h2 (h2.cont rx ex) (h2.cont ry ey) e ⟨k, rfl, ?_⟩
    cases k with
    | false => exact p2 w2 H2 _ h2 l (.fr .bl)
    | true =>
      show rdB Y c σ H2 _
      unfold evCh at p2
      have p2 : Post ((evB Y.C c s2).bind _) _ _ := p2
      rw [post_bind] at p2
      refine ⟨w2, s2, h2, p2.mono (fun z s3 p3 w3 H3 vz h3 l3 rz => ?_) fun _ _ _ z => z⟩
      intro σ₃
      cases e3 : cont2 s3 y z (cmpD s3.sh op') with
      | none => rw [e3] at p3; exact p3.elim
      | some k' =>
        rw [e3] at p3
        obtain ⟨dy', dz, ey', ez, e'⟩ := cont2_some e3
        refine cmp_ok hK hu h3 (h3.cont (ry.mono l3) ey') (h3.cont rz ez) e' ?_
        cases k' with
        | false => exact p3 w3 H3 _ h3 (l.trans l3) (.fr .bl)
        | true =>
          unfold evCh at p3
          exact p3 w3 H3 _ h3 (l.trans l3) (.fr .bl)
theorem rdT_chn (hK : X.K = Y.g.K) (hu : X.A.units + 64 < cLine) {op op' : CmpOp} {a b c : B} {Q : Bool → Hp → Prop} (q : rdT Y (.chn a op b (.cons op' c .nil)) σ H Q) :
    tTest (tChain (rOp X (compareOp op)) (rOp X (compareOp op')) (rdB Y a) (rdB Y b) (rdB Y c)) σ H Q := by
  obtain ⟨w, s, h, p⟩ := q
  unfold evT at p
  refine rd2 h p fun x y s2 w2 H2 vx vy h2 l rx ry p2 σ₂ => ?_
  cases e1 : cont2 s2 x y (cmpD s2.sh op) with
  | none => rw [e1] at p2; exact p2.elim
  | some k =>
    rw [e1] at p2
    obtain ⟨dx, dy, ex, ey, e⟩ := cont2_some e1
    refine cmp_ok hK hu h2 (h2.cont rx ex) (h2.cont ry ey) e ⟨k, rfl, ?_⟩
    cases k with
    | false => exact ⟨false, rfl, p2 w2 H2 h2 l⟩
    | true =>
      show rdB Y c σ H2 _
      unfold evCh at p2
      have p2 : Post (((evB Y.C c s2).bind _).bind _) _ _ := p2
      rw [post_bind, post_bind] at p2
      refine ⟨w2, s2, h2, p2.mono (fun z s3 p3 w3 H3 vz h3 l3 rz => ?_) fun _ _ _ z => z⟩
      intro σ₃
      cases e3 : cont2 s3 y z (cmpD s3.sh op') with
      | none => rw [e3] at p3; exact p3.elim
      | some k' =>
        rw [e3] at p3
        obtain ⟨dy', dz, ey', ez, e'⟩ := cont2_some e3
        refine cmp_ok hK hu h3 (h3.cont (ry.mono l3) ey') (h3.cont rz ez) e' ⟨k', rfl, ?_⟩
        cases k' with
        | false => exact p3 w3 H3 h3 (l.trans l3)
        | true =>
          unfold evCh at p3
          exact p3 w3 H3 h3 (l.trans l3)

/-! ### one operand -/
theorem rd1 {α : Type} {a : B} {K : Op → S → Res α} {P : α → S → Prop} {G : V → Hp → Prop} (h : RSt Y.g Y.b w s σ H) (p : Post ((evB Y.C a s).bind fun x s1 => K x s1) P (X3 Y))
    (k : ∀ x s2 w2 H2 vx, RSt Y.g Y.b w2 s2 σ H2 → Le w w2 → RepO Y.g w2 s2 σ x vx → Post (K x s2) P (X3 Y) → G vx H2) : rdB Y a σ H fun x H1 => G x H1 := by
  rw [post_bind] at p
  exact ⟨w, s, h, p.mono (fun x s1 p1 w1 H1 vx h1 l1 rx => k x s1 w1 H1 vx h1 l1 rx p1) fun _ _ _ z => z⟩
theorem rd_neg {a : B} {Q : VK} (q : rdE Y (.neg a) σ H Q) : tUn (rU fun i => .int (-i)) (rdB Y a) σ H Q := by
  obtain ⟨w, s, h, p⟩ := q
  unfold evE at p
  refine rd1 h p fun x s2 w2 H2 vx h2 l rx p2 => ?_
  cases e : cont s2 x with
  | none => rw [e] at p2; exact p2.elim
  | some d =>
    rw [e] at p2
    cases d with
    | int i => exact ⟨i, (h2.cont rx e).intI, p2 w2 H2 _ h2 l (.fr .int)⟩
    | _ => exact p2.elim
theorem rdT_of (hK : X.K = Y.g.K) {a : B} {Q : Bool → Hp → Prop} (q : rdT Y (.of a) σ H Q) : rdB Y a σ H (fun x H1 => rTru X x H1 Q) := by
  obtain ⟨w, s, h, p⟩ := q
  unfold evT at p
  refine rd1 h p fun x s2 w2 H2 vx h2 l rx p2 σ₂ => ?_
  obtain ⟨c, e, k⟩ := post_ofOpt p2
  cases e1 : cont s2 x with
  | none => rw [e1] at e; cases e
  | some d =>
    rw [e1] at e
    exact tru_of hK (h2.cont rx e1) e (k w2 H2 h2 l)
theorem rd_not (hK : X.K = Y.g.K) {a : B} {Q : VK} (q : rdE Y (.not a) σ H Q) : rdB Y a σ H (fun x H1 => rTru X x H1 fun c H2 => Q (.bl (!c)) H2) := by
  obtain ⟨w, s, h, p⟩ := q
  unfold evE at p
  refine rd1 h p fun x s2 w2 H2 vx h2 l rx p2 σ₂ => ?_
  obtain ⟨r, e, k⟩ := post_ofOpt p2
  cases e1 : cont s2 x with
  | none => rw [e1] at e; cases e
  | some d =>
    rw [e1] at e
    have e : (truth d).map _ = some r := e
    cases e2 : truth d with
    | none => rw [e2] at e; cases e
    | some c =>
      rw [e2] at e; cases e
      exact tru_of hK (h2.cont rx e1) e2 (k w2 H2 _ h2 l (.fr .bl))
/-- a truth test of any value -/
theorem pt_tru {a : Expr} {ta : TE} (ha : PE X a ta) (he : ∀ whole, isTrue a X.env whole = (do let v ← whole; standAt a.pos; holding [v] (truthy v))) : PT X a (fun σ H Q => ta σ H fun x H' => rTru X x H' Q) :=
  ⟨fun pins s σ H Q I h => isTrue_plain (thn (ha.run pins s σ H _ I h) fun v s1 ⟨x, H1, I1, r1, q1⟩ => q1 σ pins s1 v I1 r1) (he _)⟩
theorem pe_notV {a : Expr} {ta : TE} {pos : Pos} (ha : PE X a ta) : PE X (.UnaryOp .Not a pos) (fun σ H Q => ta σ H fun x H1 => rTru X x H1 fun c H2 => Q (.bl (!c)) H2) := by
  refine ⟨fun pins s σ H Q I h => ?_⟩
  refine UnaryOp_ (thn (ha.run pins s σ H _ I h) fun v s1 ⟨x, H1, I1, r1, q1⟩ => ?_)
  exact not_of (thn (q1 σ pins s1 v I1 r1) fun c s2 ⟨H2, I2, q2⟩ => ⟨.bl (!c), H2, I2, rfl, q2⟩)

/-! ### and, or, if -/
theorem boolOf_some {r : Rv} {c : Bool} (h : boolOf r = some c) : r = .fr (.bl c) := by
  cases r with
  | ow d => cases h
  | fr d => cases d <;> first | (cases h; rfl) | cases h
theorem rd_and {a r : E} {Q : VK} (q : rdE Y (.and a r) σ H Q) : tAndV (rdE Y a) (rdE Y r) σ H Q := by
  obtain ⟨w, s, h, p⟩ := q
  unfold evE at p
  rw [post_bind] at p
  refine ⟨w, s, h, p.mono (fun x s1 p1 w1 H1 v h1 l rv => ?_) fun _ _ _ z => z⟩
  cases e : boolOf x with
  | none => rw [e] at p1; exact p1.elim
  | some c =>
    rw [e] at p1
    obtain rfl := boolOf_some e
    cases rv with
    | fr rv =>
      rw [rv.blV]
      refine ⟨c, rfl, ?_⟩
      cases c with
      | true => exact ⟨w1, s1, h1, p1.mono (fun _ _ k => k.le l) fun _ _ _ z => z⟩
      | false => exact p1 w1 H1 _ h1 l (.fr .bl)
theorem rd_or {a r : E} {Q : VK} (q : rdE Y (.or a r) σ H Q) : tOrV (rdE Y a) (rdE Y r) σ H Q := by
  obtain ⟨w, s, h, p⟩ := q
  unfold evE at p
  rw [post_bind] at p
  refine ⟨w, s, h, p.mono (fun x s1 p1 w1 H1 v h1 l rv => ?_) fun _ _ _ z => z⟩
  cases e : boolOf x with
  | none => rw [e] at p1; exact p1.elim
  | some c =>
    rw [e] at p1
    obtain rfl := boolOf_some e
    cases rv with
    | fr rv =>
      rw [rv.blV]
      refine ⟨c, rfl, ?_⟩
      cases c with
      | false => exact ⟨w1, s1, h1, p1.mono (fun _ _ k => k.le l) fun _ _ _ z => z⟩
      | true => exact p1 w1 H1 _ h1 l (.fr .bl)
theorem rd_one {a : E} {Q : VK} (q : rdE Y (.one a) σ H Q) : rdE Y a σ H Q := by
  obtain ⟨w, s, h, p⟩ := q
  unfold evE at p
  exact ⟨w, s, h, p⟩
theorem rd_ife {t : T} {a b : E} {Q : VK} (q : rdE Y (.ife t a b) σ H Q) : tIf (rdT Y t) (rdE Y a) (rdE Y b) σ H Q := by
  obtain ⟨w, s, h, p⟩ := q
  unfold evE at p
  rw [post_bind] at p
  refine ⟨w, s, h, p.mono (fun c s1 p1 w1 H1 h1 l => ?_) fun _ _ _ z => z⟩
  cases c with
  | true => exact ⟨w1, s1, h1, p1.mono (fun _ _ k => k.le l) fun _ _ _ z => z⟩
  | false => exact ⟨w1, s1, h1, p1.mono (fun _ _ k => k.le l) fun _ _ _ z => z⟩
theorem rdT_and {t u : T} {Q : Bool → Hp → Prop} (q : rdT Y (.and t u) σ H Q) : tAnd (rdT Y t) (rdT Y u) σ H Q := by
  obtain ⟨w, s, h, p⟩ := q
  unfold evT at p
  rw [post_bind] at p
  refine ⟨w, s, h, p.mono (fun c s1 p1 w1 H1 h1 l => ?_) fun _ _ _ z => z⟩
  cases c with
  | true => exact ⟨w1, s1, h1, p1.mono (fun _ _ k w' H' h' l' => k w' H' h' (l.trans l')) fun _ _ _ z => z⟩
  | false => exact p1 w1 H1 h1 l
theorem rdT_or {t u : T} {Q : Bool → Hp → Prop} (q : rdT Y (.or t u) σ H Q) : tOr (rdT Y t) (rdT Y u) σ H Q := by
  obtain ⟨w, s, h, p⟩ := q
  unfold evT at p
  rw [post_bind] at p
  refine ⟨w, s, h, p.mono (fun c s1 p1 w1 H1 h1 l => ?_) fun _ _ _ z => z⟩
  cases c with
  | false => exact ⟨w1, s1, h1, p1.mono (fun _ _ k w' H' h' l' => k w' H' h' (l.trans l')) fun _ _ _ z => z⟩
  | true => exact p1 w1 H1 h1 l
theorem rdT_not {t : T} {Q : Bool → Hp → Prop} (q : rdT Y (.not t) σ H Q) : tNot (rdT Y t) σ H Q := by
  obtain ⟨w, s, h, p⟩ := q
  unfold evT at p
  rw [post_bind] at p
  exact ⟨w, s, h, p.mono (fun c s1 p1 w1 H1 h1 l => p1 w1 H1 h1 l) fun _ _ _ z => z⟩
theorem rdT_one {t : T} {Q : Bool → Hp → Prop} (q : rdT Y (.one t) σ H Q) : rdT Y t σ H Q := by
  obtain ⟨w, s, h, p⟩ := q
  unfold evT at p
  exact ⟨w, s, h, p⟩

/-! ### lists of expressions -/
theorem rdEs_nil {Q : List V → Hp → Prop} (q : rdEs Y .nil σ H Q) : tNil σ H Q := by
  obtain ⟨w, s, h, p⟩ := q
  unfold evEs at p
  exact p w H [] h Le.refl .nil
theorem rdEs_cons {e : E} {r : Es} {Q : List V → Hp → Prop} (q : rdEs Y (.cons e r) σ H Q) : tCons (rdE Y e) (rdEs Y r) σ H Q := by
  obtain ⟨w, s, h, p⟩ := q
  unfold evEs at p
  rw [post_bind] at p
  refine ⟨w, s, h, p.mono (fun x s1 p1 w1 H1 v h1 l rv => ?_) fun _ _ _ z => z⟩
  obtain ⟨w2, h2, l2, r2⟩ := h1.fz rv
  rw [post_bind] at p1
  refine ⟨w2, s1, h2, p1.mono (fun xs s3 p3 w3 H3 vs h3 l3 rs => ?_) fun _ _ _ z => z⟩
  exact p3 w3 H3 (v :: vs) h3 ((l.trans l2).trans l3) (.cons (r2.mono l3) rs)
theorem rdEs_star (hK : X.K = Y.g.K) {e : B} {r : Es} {Q : List V → Hp → Prop} (q : rdEs Y (.star e r) σ H Q) : StX.tStar X.K (rdB Y e) (rdEs Y r) σ H Q := by
  obtain ⟨w, s, h, p⟩ := q
  unfold evEs at p
  refine rd1 h p fun x s2 w2 H2 vx h2 l rx p2 => ?_
  cases e1 : cont s2 x with
  | none => rw [e1] at p2; exact p2.elim
  | some d =>
    rw [e1] at p2
    have p2 : Post (match items d with | some l => (evEs Y.C r s2).bind fun xs s2 => .ok (l ++ xs) s2 | none => .er) _ _ := p2
    cases e2 : items d with
    | none => rw [e2] at p2; exact p2.elim
    | some l1 =>
      rw [e2] at p2
      obtain ⟨a, vs, rfl, hq, rq⟩ := (h2.cont rx e1).seq hK e2
      refine ⟨a, vs, rfl, hq.symm, ?_⟩
      have p2 : Post ((evEs Y.C r s2).bind _) _ _ := p2
      rw [post_bind] at p2
      exact ⟨w2, s2, h2, p2.mono (fun xs s3 p3 w3 H3 us h3 l3 rs => p3 w3 H3 _ h3 (l.trans l3) ((rq.mono l3).append rs)) fun _ _ _ z => z⟩
theorem rdBs_nil {Q : List V → Hp → Prop} (q : rdBs Y .nil σ H Q) : tNil σ H Q := by
  obtain ⟨w, s, h, p⟩ := q
  unfold evBs at p
  exact p w H [] h Le.refl .nil
theorem rdBs_cons {e : B} {r : Bs} {Q : List V → Hp → Prop} (q : rdBs Y (.cons e r) σ H Q) : tCons (rdB Y e) (rdBs Y r) σ H Q := by
  obtain ⟨w, s, h, p⟩ := q
  unfold evBs at p
  refine rd1 h p fun x s2 w2 H2 vx h2 l rx p2 => ?_
  rw [post_bind] at p2
  exact ⟨w2, s2, h2, p2.mono (fun xs s3 p3 w3 H3 vs h3 l3 rs => p3 w3 H3 _ h3 (l.trans l3) (.cons (rx.mono l3) rs)) fun _ _ _ z => z⟩
theorem rd_lst {es : Es} {Q : VK} (q : rdE Y (.lst es) σ H Q) : tLst (rdEs Y es) σ H Q := by
  obtain ⟨w, s, h, p⟩ := q
  unfold evE at p
  rw [post_bind] at p
  refine ⟨w, s, h, p.mono (fun ds s1 p1 w1 H1 vs h1 l rs => ?_) fun _ _ _ z => z⟩
  by_cases hz : ds.length ≤ sizeLine
  · rw [if_pos hz] at p1
    exact ⟨by rw [← rs.length]; exact hz, new_lst h1 rs (KR.le l p1)⟩
  · rw [if_neg hz] at p1; exact p1.elim
theorem rd_tup {es : Es} {Q : VK} (q : rdE Y (.tup es) σ H Q) : tTup (rdEs Y es) σ H Q := by
  obtain ⟨w, s, h, p⟩ := q
  unfold evE at p
  rw [post_bind] at p
  refine ⟨w, s, h, p.mono (fun ds s1 p1 w1 H1 vs h1 l rs => ?_) fun _ _ _ z => z⟩
  by_cases hz : ds.length ≤ sizeLine
  · rw [if_pos hz] at p1
    exact ⟨by rw [← rs.length]; exact hz, new_tup h1 rs (KR.le l p1)⟩
  · rw [if_neg hz] at p1; exact p1.elim

/-! ### slices -/
theorem rdO_no {Q : Option Int → Hp → Prop} (q : rdO Y .no σ H Q) : tNoPart σ H Q := by
  obtain ⟨w, s, h, p⟩ := q
  unfold evO at p
  exact p w H h Le.refl
theorem rdO_so {e : B} {Q : Option Int → Hp → Prop} (q : rdO Y (.so e) σ H Q) : tPart (rdB Y e) σ H Q := by
  obtain ⟨w, s, h, p⟩ := q
  unfold evO at p
  refine rd1 h p fun x s2 w2 H2 vx h2 l rx p2 => ?_
  cases e : cont s2 x with
  | none => rw [e] at p2; exact p2.elim
  | some d =>
    rw [e] at p2
    cases d with
    | int i => exact ⟨i, (h2.cont rx e).intI, p2 w2 H2 h2 l⟩
    | _ => exact p2.elim
theorem rd_slc (hK : X.K = Y.g.K) {a : B} {lo hi : O} {Q : VK} (q : rdE Y (.slc a lo hi) σ H Q) : tSl (rSl X) (rdB Y a) (rdO Y lo) (rdO Y hi) σ H Q := by
  obtain ⟨w, s, h, p⟩ := q
  unfold evE at p
  refine rd1 h p fun x s2 w2 H2 vx h2 l rx p2 => ?_
  rw [post_bind] at p2
  refine ⟨w2, s2, h2, p2.mono (fun ol s3 p3 w3 H3 h3 l3 => ?_) fun _ _ _ z => z⟩
  rw [post_bind] at p3
  refine ⟨w3, s3, h3, p3.mono (fun oh s4 p4 w4 H4 h4 l4 => ?_) fun _ _ _ z => z⟩
  intro σ₂
  obtain ⟨r, e, k⟩ := post_ofOpt p4
  cases e1 : cont s4 x with
  | none => rw [e1] at e; cases e
  | some d =>
    rw [e1] at e
    exact slc_ok hK h4 (h4.cont (rx.mono (l3.trans l4)) e1) e (KR.le ((l.trans l3).trans l4) k)
end
end Ev
end
section
set_option linter.all false
set_option maxRecDepth 100000
set_option maxHeartbeats 1000000
/-! Sound2: built-in calls, methods. -/
namespace Ev
open PySem PySem.Spec PyProof.Rows L2
section
variable {X : Cx} {Y : Cy} {σ : L2.St} {H : Hp} {w : Wd} {s : S}
theorem RSt.conts {g : Gl} {b : Ba} {xs : List Op} {vs : List V} {ds : List D} (h : RSt g b w s σ H) (r : RepOs g w s σ xs vs) (e : conts s xs = some ds) : RCs g w H ds vs := by
  induction r generalizing ds with
  | nil => cases e; exact .nil
  | cons a r ih =>
    rename_i x v xs vs
    have e : (Ev.cont s x).bind (fun d => (Ev.conts s xs).map (d :: ·)) = some ds := e
    cases e1 : Ev.cont s x with
    | none => rw [e1] at e; cases e
    | some d =>
      rw [e1] at e
      have e : (Ev.conts s xs).map (d :: ·) = some ds := e
      cases e2 : Ev.conts s xs with
      | none => rw [e2] at e; cases e
      | some es => rw [e2] at e; cases e; exact .cons (h.cont a e1) (ih e2)
theorem rd_bcl (hS : SortOk X Y.g) (hK : X.K = Y.g.K) (hc : X.calm = true) {bi : BI} (hp : biPlain bi = true) {es : Bs} {Q : VK} (q : rdE Y (.bcl bi es) σ H Q) : tCB (rCall X (biV bi)) (rdBs Y es) σ H Q := by
  obtain ⟨w, s, h, p⟩ := q
  unfold evE at p
  rw [post_bind] at p
  refine ⟨w, s, h, p.mono (fun xs s1 p1 w1 H1 vs h1 l rs σ₂ => ?_) fun _ _ _ z => z⟩
  obtain ⟨r, e, k⟩ := post_ofOpt p1
  cases e1 : conts s1 xs with
  | none => rw [e1] at e; cases e
  | some ds =>
    rw [e1] at e
    exact bcl_ok hS hK hc h1 hp (h1.conts rs e1) e (KR.le l k)
theorem reps_rg {g : Gl} (a b : Int) : Reps g w (rangeD a b) (rgV a b) := by
  unfold rangeD rgV
  generalize List.range (b - a).toNat = l
  induction l with
  | nil => exact .nil
  | cons n l ih => exact .cons .int ih
theorem rng_ok {i j : Int} (h1 : rngOk i = true) (h2 : rngOk j = true) (h3 : (j - i).toNat ≤ sizeLine) : RgOk i j := by
  unfold rngOk at h1 h2
  have h1 := of_decide_eq_true h1
  have h2 := of_decide_eq_true h2
  rw [sizeLine_eq] at h3
  exact ⟨h1.1, h1.2, h2.1, h2.2, h3⟩
/-- list(range(a)) -/
theorem rd_lr1 {a : B} {Q : VK} (q : rdE Y (.bcl .lrange1 (.cons a .nil)) σ H Q) : tLstRg (tRg1 (rdB Y a)) σ H Q := by
  obtain ⟨w, s, h, p⟩ := q
  unfold evE evBs evBs at p
  rw [post_bind] at p
  have p : Post (((evB Y.C a s).bind fun x s1 => (Res.ok [] s1).bind fun xs s2 => .ok (x :: xs) s2).bind fun xs s1 => ofOpt ((conts s1 xs).bind (bcl .lrange1)) s1) (fun r s' => KR Y.g Y.b w s' σ r Q) (X3 Y) := by rw [post_bind]; exact p
  rw [post_bind] at p
  refine ⟨w, s, h, ?_⟩
  rw [post_bind] at p
  refine p.mono (fun x s1 p1 w1 H1 v h1 l rx => ?_) fun _ _ _ z => z
  have p1 : Post (ofOpt ((conts s1 [x]).bind (bcl .lrange1)) s1) _ _ := p1
  obtain ⟨r, e, k⟩ := post_ofOpt p1
  have e : ((cont s1 x).bind fun d => some [d]).bind (bcl .lrange1) = some r := e
  cases e1 : cont s1 x with
  | none => rw [e1] at e; cases e
  | some d =>
    rw [e1] at e
    have e : bcl .lrange1 [d] = some r := e
    cases d with
    | int j =>
      have e : (if (rngOk j && decide (j.toNat ≤ sizeLine)) = true then some (Rv.ow (.lst (rangeD 0 j))) else none) = some r := e
      split at e
      · rename_i hz
        cases e
        rw [Bool.and_eq_true] at hz
        refine ⟨j, (h1.cont rx e1).intI, rng_ok (by decide) hz.1 (by rw [Int.sub_zero]; exact of_decide_eq_true hz.2), ?_⟩
        exact new_lst h1 (reps_rg 0 j) (KR.le l k)
      · cases e
    | _ => cases e
/-- list(range(a, b)) -/
theorem rd_lr2 {a b : B} {Q : VK} (q : rdE Y (.bcl .lrange2 (.cons a (.cons b .nil))) σ H Q) : tLstRg (tRg2 (rdB Y a) (rdB Y b)) σ H Q := by
  obtain ⟨w, s, h, p⟩ := q
  unfold evE evBs evBs evBs at p
  have p : Post ((evB Y.C a s).bind fun x s1 => (evB Y.C b s1).bind fun y s2 => ofOpt ((conts s2 [x, y]).bind (bcl .lrange2)) s2) (fun r s' => KR Y.g Y.b w s' σ r Q) (X3 Y) := by
    rw [post_bind] at p ⊢
    rw [post_bind] at p
    refine p.mono (fun x s1 p1 => ?_) fun _ _ _ z => z
    rw [post_bind] at p1 ⊢
    rw [post_bind] at p1
    exact p1
  refine rd2 h p fun x y s2 w2 H2 vx vy h2 l rx ry p2 => ?_
  obtain ⟨r, e, k⟩ := post_ofOpt p2
  have e : ((cont s2 x).bind fun d => ((cont s2 y).bind fun d => some [d]).map (d :: ·)).bind (bcl .lrange2) = some r := e
  cases e1 : cont s2 x with
  | none => rw [e1] at e; cases e
  | some d =>
    cases e2 : cont s2 y with
    | none => rw [e1, e2] at e; cases e
    | some d' =>
      rw [e1, e2] at e
      have e : bcl .lrange2 [d, d'] = some r := e
      cases d with
      | int i =>
        cases d' with
        | int j =>
          have e : (if (rngOk i && rngOk j && decide ((j - i).toNat ≤ sizeLine)) = true then some (Rv.ow (.lst (rangeD i j))) else none) = some r := e
          split at e
          · rename_i hz
            cases e
            rw [Bool.and_eq_true, Bool.and_eq_true] at hz
            refine ⟨i, j, (h2.cont rx e1).intI, (h2.cont ry e2).intI, rng_ok hz.1.1 hz.1.2 (of_decide_eq_true hz.2), ?_⟩
            exact new_lst h2 (reps_rg i j) (KR.le l k)
          · cases e
        | _ => cases e
      | _ => cases e

/-! ### methods -/
theorem kind_lst {m : MI} {o : Option D} (h : kindOk m o = true) (h1 : m ≠ .get1) (h2 : m ≠ .get2) : ∃ xs, o = some (.lst xs) := by
  cases m <;> first
    | exact absurd rfl h1
    | exact absurd rfl h2
    | (cases o with
       | none => cases h
       | some d => cases d <;> first | exact ⟨_, rfl⟩ | cases h)
theorem lst_ty {g : Gl} {K : PySem.W.Frag} {xs : List D} {v : V} (r : RC g w H (.lst xs) v) : tyV K "list" v H := by
  obtain ⟨a, vs, rfl, h, _⟩ := r.lstI
  exact .inl ⟨rfl, _, SqL.of h⟩
def mutMI : MI → Bool
  | .extend => true | .pop0 => true | .pop1 => true
  | _ => false
theorem rd_mut {m : MI} (hm : mutMI m = true) {a : B} {es : Bs} {Q : VK} (q : rdE Y (.mth m a es) σ H Q) : tBM X.K "list" (rMt X (mtId m)) (rdB Y a) (rdBs Y es) σ H Q := by
  obtain ⟨w, s, h, p⟩ := q
  unfold evE at p
  refine rd1 h p fun x s1 w1 H1 vx h1 l rx p1 => ?_
  by_cases hk : kindOk m (cont s1 x) = true
  · rw [hk] at p1
    have p1 : Post ((evBs Y.C es s1).bind _) _ _ := p1
    obtain ⟨xs, ex⟩ := kind_lst hk (by rintro rfl; cases hm) (by rintro rfl; cases hm)
    refine ⟨lst_ty (h1.cont rx ex), ?_⟩
    rw [post_bind] at p1
    refine ⟨w1, s1, h1, p1.mono (fun as s2 p2 w2 H2 vs h2 l2 ra σ₂ => ?_) fun _ _ _ z => z⟩
    have hi : isMut m = true := by cases m <;> first | rfl | cases hm
    rw [if_pos hi] at p2
    cases e1 : cont s2 x with
    | none => rw [e1] at p2; exact p2.elim
    | some d =>
      cases e2 : conts s2 as with
      | none => rw [e1, e2] at p2; exact p2.elim
      | some ds =>
        rw [e1, e2] at p2
        have p2 : Post (match mutM m d ds with | some (r, d) => (match put s2 x d with | some s3 => Res.ok (Rv.fr r) s3 | none => .er) | none => .er) _ _ := p2
        cases e3 : mutM m d ds with
        | none => rw [e3] at p2; exact p2.elim
        | some rd =>
          obtain ⟨r, d'⟩ := rd
          rw [e3] at p2
          have p2 : Post (match put s2 x d' with | some s3 => Res.ok (Rv.fr r) s3 | none => .er) _ _ := p2
          cases e4 : put s2 x d' with
          | none => rw [e4] at p2; exact p2.elim
          | some s3 =>
            rw [e4] at p2
            exact mut_ok h2 (rx.mono l2) e1 (h2.conts ra e2) e3 e4 fun H' v h' rv => p2 w2 H' v h' (l.trans l2) (.fr rv)
  · have hk : kindOk m (cont s1 x) = false := by simpa using hk
    rw [hk] at p1
    exact p1.elim
theorem rd_mut0 {m : MI} (hm : mutMI m = true) {a : B} {Q : VK} (q : rdE Y (.mth m a .nil) σ H Q) : tBM0 X.K "list" (rMt X (mtId m)) (rdB Y a) σ H Q := by
  have z := rd_mut (X := X) hm q
  obtain ⟨w, s, h, p⟩ := z
  refine ⟨w, s, h, p.mono (fun x s1 k w1 H1 v h1 l rx => ?_) fun _ _ _ z => z⟩
  obtain ⟨t, r⟩ := k w1 H1 v h1 l rx
  exact ⟨t, rdBs_nil r⟩
/-- xs.append(e) -/
theorem rd_app {a : B} {e : E} {Q : VK} (q : rdE Y (.app a e) σ H Q) : tBM X.K "list" (rMt X "list.append") (rdB Y a) (tCons (rdE Y e) tNil) σ H Q := by
  obtain ⟨w, s, h, p⟩ := q
  unfold evE at p
  refine rd1 h p fun x s1 w1 H1 vx h1 l rx p1 => ?_
  by_cases hk : kindOk .append (cont s1 x) = true
  · rw [hk] at p1
    have p1 : Post ((evE Y.C e s1).bind _) _ _ := p1
    obtain ⟨xs, ex⟩ := kind_lst hk (by intro z; cases z) (by intro z; cases z)
    refine ⟨lst_ty (h1.cont rx ex), ?_⟩
    rw [post_bind] at p1
    refine ⟨w1, s1, h1, p1.mono (fun r s2 p2 w2 H2 v h2 l2 rv σ₂ => ?_) fun _ _ _ z => z⟩
    obtain ⟨w3, h3, l3, r3⟩ := h2.fz rv
    cases e1 : cont s2 x with
    | none => rw [e1] at p2; exact p2.elim
    | some d =>
      rw [e1] at p2
      cases d with
      | lst ys =>
        have p2 : Post (if ys.length < sizeLine then (match put s2 x (.lst (ys ++ [r.d])) with | some s3 => Res.ok (Rv.fr .non) s3 | none => .er) else .er) _ _ := p2
        by_cases hz : ys.length < sizeLine
        · rw [if_pos hz] at p2
          cases e4 : put s2 x (.lst (ys ++ [r.d])) with
          | none => rw [e4] at p2; exact p2.elim
          | some s3 =>
            rw [e4] at p2
            exact app_okW h3 (rx.mono (l2.trans l3)) e1 r3 hz e4 fun H' h' => p2 w3 H' _ h' ((l.trans l2).trans l3) (.fr .non)
        · rw [if_neg hz] at p2; exact p2.elim
      | _ => exact p2.elim
  · have hk : kindOk .append (cont s1 x) = false := by simpa using hk
    rw [hk] at p1
    exact p1.elim
end
end Ev
end
section
set_option linter.all false
set_option maxRecDepth 100000
set_option maxHeartbeats 1000000
/-! Ops4: isinstance. -/
namespace Ev
open PySem PySem.Spec PyProof.Rows L2
section
variable {X : Cx} {Y : Cy} {g : Gl} {w : Wd} {s : S} {H : Hp} {σ σ₂ : L2.St}
theorem okTy_cases {d : D} (h : okTy d = true) : tyOf d ∈ ["function", "NoneType", "bool", "int", "str", "list", "tuple", "dict"] := by
  cases d <;> first | (simp [tyOf]; done) | cases h
theorem kit_all : (["function", "NoneType", "bool", "int", "str", "list", "tuple", "dict"].all fun a => ["bool", "int", "str", "list", "tuple", "dict"].all fun b => kitB a b == some (a == b || (a == "bool" && b == "int"))) = true := by decide +kernel
theorem kit_of2 {d : D} {n : String} (h : okTy d = true) (h2 : okTg (.ty n) = true) : kitB (tyOf d) n = some (tyOf d == n || (tyOf d == "bool" && n == "int")) := by
  have z := List.all_eq_true.mp kit_all _ (okTy_cases h)
  have hn : n ∈ ["bool", "int", "str", "list", "tuple", "dict"] := by
    simp only [okTg, Bool.or_eq_true, beq_iff_eq] at h2
    simp only [List.mem_cons, List.not_mem_nil, or_false]
    rcases h2 with ((((z | z) | z) | z) | z) | z <;> simp [z]
  have z2 := List.all_eq_true.mp z n hn
  exact beq_iff_eq.mp z2
/-- the machine's kind of what is read -/
theorem kit_rc (hK : X.K = g.K) {pins : List (Addr × Obj)} {sm : Shared} {d : D} {v : V} {u : Value} (I : Inv X pins σ H sm) (r : RC g w H d v) (rv : RelV v u) (h : okTy d = true) :
    ∃ P : Heap → Prop, PySem.W.KitX X.K u (.type (tyOf d)) P ∧ P sm.heap ∧ u ≠ .builtin "__main__.__loader__#opaque" := by
  cases r with
  | non => cases (show u = Value.none from rv); exact ⟨_, PySem.W.kitx_none, True.intro, fun z => nomatch z⟩
  | bl => cases (show u = Value.bool _ from rv); exact ⟨_, PySem.W.kitx_bool, True.intro, fun z => nomatch z⟩
  | int => obtain ⟨t, rfl⟩ := (show ∃ t, u = Value.int _ t from rv); exact ⟨_, PySem.W.kitx_int, True.intro, fun z => nomatch z⟩
  | str => obtain ⟨t, rfl⟩ := (show ∃ t, u = Value.str _ t from rv); exact ⟨_, PySem.W.kitx_str, True.intro, fun z => nomatch z⟩
  | ty => cases h
  | fn h1 h2 =>
    cases (show u = Value.ref _ from rv)
    rw [← hK] at h1
    exact ⟨_, FnL.kitx_fn, ⟨_, I.kIn _ _ h1, h2⟩, fun z => nomatch z⟩
  | cls => cases h
  | tup q q2 r =>
    rename_i a xs vs
    cases (show u = Value.ref a from rv)
    rw [← hK] at q
    obtain ⟨its, _, ⟨o, h1, h2, _⟩, _⟩ := I.tuple q
    exact ⟨_, PySem.W.kitx_tuple, ⟨o, h1, h2⟩, fun z => nomatch z⟩
  | lst q r =>
    rename_i a xs vs
    cases (show u = Value.ref a from rv)
    obtain ⟨its, _, ⟨o, n, h1, h2, _⟩, _⟩ := I.list (SqL.of q)
    exact ⟨_, PySem.W.kitx_list, ⟨o, h1, h2⟩, fun z => nomatch z⟩
  | ro q r =>
    rename_i a xs vs
    cases (show u = Value.ref a from rv)
    rw [← hK] at q
    obtain ⟨its, _, ⟨o, n, h1, h2, _⟩, _⟩ := I.list q
    exact ⟨_, PySem.W.kitx_list, ⟨o, h1, h2⟩, fun z => nomatch z⟩
  | dicK q e r =>
    rename_i a ks ds kvs
    cases (show u = Value.ref a from rv)
    obtain ⟨_, _, vs, _, o, es, ep, h1, h2, _⟩ := (show ObjOk X.prog X.w H sm.heap a (.dK kvs) from I.hok a _ q)
    exact ⟨_, PySem.W.kitx_dict, ⟨o, h1, h2.1⟩, fun z => nomatch z⟩
  | dicT n q e r =>
    rename_i a ks ds kvs
    cases (show u = Value.ref a from rv)
    obtain ⟨_, _, xs, _, o, es, ep, h1, h2, _⟩ := (show ObjOk X.prog X.w H sm.heap a (.dT kvs) from I.hok a _ q)
    exact ⟨_, PySem.W.kitx_dict, ⟨o, h1, h2.1⟩, fun z => nomatch z⟩
theorem isTyO_some {d : D} {ts : List D} {c : Bool} (e : isTyO d ts = some c) : okTy d = true ∧ (∀ t ∈ ts, okTg t = true) ∧ c = isTy d ts := by
  unfold isTyO at e
  split at e
  · rename_i h
    rw [Bool.and_eq_true, List.all_eq_true] at h
    cases e
    exact ⟨h.1, h.2, rfl⟩
  · cases e
/-- isinstance(x, T) -/
theorem isi_one (hK : X.K = g.K) {d : D} {v : V} {n : String} {c : Bool} {Q : VK} (r : RC g w H d v) (e : isTyO d [.ty n] = some c) (k : Q (.bl c) H) : callW X σ₂ (.builtin "isinstance") [v, .ty n] H Q := by
  obtain ⟨h1, h2, rfl⟩ := isTyO_some e
  intro pins sm us I rs
  obtain ⟨u1, u2, rfl, r1, r2⟩ := vals2 rs
  cases (show u2 = Value.type n from r2)
  obtain ⟨P, Z, p, hx⟩ := kit_rc hK I r r1 h1
  refine PySem.W.kia_one Z I.kIn p (kit_ty (kit_of2 h1 (h2 _ List.mem_cons_self))) hx fun tk => ⟨.bl _, H, I.tok tk, rfl, ?_⟩
  have e : isTy d [.ty n] = (tyOf d == n || (tyOf d == "bool" && n == "int")) := by
    show (tyOf d == n || (tyOf d == "bool" && n == "int") || isTy d []) = _
    rw [show isTy d [] = false from rfl, Bool.or_false]
  rw [← e]
  exact k
theorem kitAny_ty {K : PySem.W.Frag} {d : D} (h : okTy d = true) : ∀ {ts : List D}, (∀ t ∈ ts, okTg t = true) → ∃ ns : List String, ts = ns.map D.ty ∧ PySem.W.kitAny K (.type (tyOf d)) (ns.map Value.type) = some (isTy d ts)
  | [], _ => ⟨[], rfl, rfl⟩
  | t :: ts, h2 => by
    obtain ⟨ns, e, q⟩ := kitAny_ty (K := K) h (ts := ts) fun t ht => h2 t (List.mem_cons_of_mem _ ht)
    have ht := h2 t List.mem_cons_self
    cases t with
    | ty n =>
      refine ⟨n :: ns, by rw [e]; rfl, ?_⟩
      have z := kit_ty (K := K) (kit_of2 h ht)
      refine kitAny_cons z (fun hb => ?_) fun hb => ?_
      · show _ = some (tyOf d == n || (tyOf d == "bool" && n == "int") || isTy d ts)
        rw [hb, Bool.false_or]
        exact q
      · show (tyOf d == n || (tyOf d == "bool" && n == "int") || isTy d ts) = true
        rw [hb]
        rfl
    | _ => cases ht
theorem tyVals : ∀ {ns : List String} {us : List Value}, Vals (ns.map V.ty) us → us = ns.map Value.type
  | [], _, .nil => rfl
  | n :: ns, _, .cons a t => by
    cases (show _ = Value.type n from a)
    rw [tyVals t]; rfl
/-- isinstance(x, (T, ..)) -/
theorem isi_tup (hK : X.K = g.K) {d : D} {v : V} {ts : List D} {c : Bool} {p : Addr} {Q : VK} (r : RC g w H d v) (e : isTyO d ts = some c) (k : Q (.bl c) H) : ∀ ns : List String, ts = ns.map D.ty → H p = some (.tup (ns.map V.ty)) → callW X σ₂ (.builtin "isinstance") [v, .ref p] H Q := by
  obtain ⟨h1, h2, rfl⟩ := isTyO_some e
  intro ns en hp pins sm us I rs
  obtain ⟨u1, u2, rfl, r1, r2⟩ := vals2 rs
  cases (show u2 = Value.ref p from r2)
  obtain ⟨P, Z, pp, hx⟩ := kit_rc hK I r r1 h1
  obtain ⟨ns', en', q⟩ := kitAny_ty (K := X.K) h1 h2
  have inj : ∀ {a b : List String}, a.map D.ty = b.map D.ty → a = b := by
    intro a
    induction a with
    | nil => intro b h; cases b with | nil => rfl | cons _ _ => cases h
    | cons x a ih =>
      intro b h
      cases b with
      | nil => cases h
      | cons y b =>
        rw [List.map_cons, List.map_cons] at h
        injection h with h1 h2
        injection h1 with h1
        rw [h1, ih h2]
  have := inj (en.symm.trans en')
  subst this
  obtain ⟨_, its, rv, o, h1', h2', n, h3⟩ := (show ObjOk X.prog X.w H sm.heap p (.tup (ns.map V.ty)) from I.hok p _ hp)
  have e3 := tyVals rv
  subst e3
  obtain ⟨oc, od, dt, sl⟩ := o
  simp only at h2' h3
  subst h2' h3
  exact PySem.W.kia_tup Z I.kIn pp h1' q hx fun tk => ⟨.bl _, H, I.tok tk, rfl, k⟩
def tTys : List String → TA
  | [] => tNil
  | n :: r => tCons (tC (.ty n)) (tTys r)
theorem tTys_ok : ∀ {ns : List String} {σ : L2.St} {H : Hp} {Q : List V → Hp → Prop}, Q (ns.map V.ty) H → tTys ns σ H Q
  | [], _, _, _, h => h
  | n :: r, σ, H, Q, h => tTys_ok (ns := r) (Q := fun xs H2 => Q (.ty n :: xs) H2) h
theorem rd_isi1 (hK : X.K = Y.g.K) {a : B} {n : String} {Q : VK} (q : rdE Y (.isi a [.ty n]) σ H Q) : tCB (rCall X (.builtin "isinstance")) (tCons (rdB Y a) (tCons (tC (.ty n)) tNil)) σ H Q := by
  obtain ⟨w, s, h, p⟩ := q
  unfold evE at p
  refine rd1 h p fun x s2 w2 H2 vx h2 l rx p2 σ₂ => ?_
  obtain ⟨r, e, k⟩ := post_ofOpt p2
  cases e1 : cont s2 x with
  | none => rw [e1] at e; cases e
  | some d =>
    rw [e1] at e
    have e : (isTyO d [.ty n]).map _ = some r := e
    cases e2 : isTyO d [.ty n] with
    | none => rw [e2] at e; cases e
    | some c =>
      rw [e2] at e; cases e
      exact isi_one hK (h2.cont rx e1) e2 (k w2 H2 _ h2 l (.fr .bl))
theorem rd_isiT (hK : X.K = Y.g.K) {a : B} {ns : List String} (hz : ns.length ≤ sizeLine) {Q : VK} (q : rdE Y (.isi a (ns.map D.ty)) σ H Q) : tCB (rCall X (.builtin "isinstance")) (tCons (rdB Y a) (tCons (tTup (tTys ns)) tNil)) σ H Q := by
  obtain ⟨w, s, h, p⟩ := q
  unfold evE at p
  refine rd1 h p fun x s2 w2 H2 vx h2 l rx p2 => ?_
  refine tTys_ok (Q := fun xs H1 => xs.length ≤ sizeLine ∧ ∀ p, H1 p = none → _) ⟨by rw [List.length_map]; exact hz, fun pp hp σ₂ => ?_⟩
  obtain ⟨r, e, k⟩ := post_ofOpt p2
  obtain ⟨h3, _⟩ := h2.layO (o := .tup (ns.map V.ty)) hp
  cases e1 : cont s2 x with
  | none => rw [e1] at e; cases e
  | some d =>
    rw [e1] at e
    have e : (isTyO d (ns.map D.ty)).map _ = some r := e
    cases e2 : isTyO d (ns.map D.ty) with
    | none => rw [e2] at e; cases e
    | some c =>
      rw [e2] at e; cases e
      exact isi_tup hK (h3.cont rx e1) e2 (k w2 _ _ h3 l (.fr .bl)) ns rfl upd_same
end
end Ev
end
section
set_option linter.all false
set_option maxRecDepth 100000
set_option maxHeartbeats 1000000
/-! Chain: comparisons in a row, of any length. -/
namespace Ev
open PySem PySem.Spec PyProof.Rows L2
def rdCh (Y : Cy) (r : Ch) (v : V) : TE := fun σ H Q => ∃ w s x, RSt Y.g Y.b w s σ H ∧ RepO Y.g w s σ x v ∧ Post (evCh Y.C r x s) (fun r s' => KR Y.g Y.b w s' σ r Q) (X3 Y)
/-- the rest of a chain, as a value and as a test -/
structure PCh (X : Cx) (ops : List CmpOp) (es : List Expr) (t : V → TE) : Prop where
  val : ∀ (pos : Pos) (pins : List (Addr × Obj)) (s : Shared) (σ : L2.St) (H : Hp) (v : V) (u : Value) (Q : VK), Inv X pins σ H s → RelV v u → t v σ H Q → wpAny (model X.prog X.w) X.A (compareChain pos u ops (evalEach es X.env)) (EP X pins σ Q) X.xe s
  tst : ∀ (pos : Pos) (pins : List (Addr × Obj)) (s : Shared) (σ : L2.St) (H : Hp) (v : V) (u : Value) (Q : Bool → Hp → Prop), Inv X pins σ H s → RelV v u → t v σ H (fun x H' => ∃ k, x = .bl k ∧ Q k H') → wpAny (model X.prog X.w) X.A (testChain pos u ops (evalEach es X.env)) (TP X pins σ Q) X.xe s
section
variable {X : Cx} {Y : Cy} {σ : L2.St} {H : Hp} {w : Wd} {s : S}
def tLink (op : CmpOp) (tb : TE) (tr : V → TE) (X : Cx) (v : V) : TE := fun σ H Q => tb σ H fun y H1 => rOp X (compareOp op) v y H1 fun z H2 => ∃ k, z = .bl k ∧ if k = true then tr y σ H2 Q else Q (.bl false) H2
theorem pch_to {ops : List CmpOp} {es : List Expr} {t t' : V → TE} (h : PCh X ops es t) (k : ∀ v σ H Q, t' v σ H Q → t v σ H Q) : PCh X ops es t' :=
  ⟨fun pos pins s σ H v u Q I r q => h.val pos pins s σ H v u Q I r (k _ _ _ _ q), fun pos pins s σ H v u Q I r q => h.tst pos pins s σ H v u Q I r (k _ _ _ _ q)⟩
theorem pch_last {op : CmpOp} {e : Expr} {tb : TE} (hb : PE X e tb) : PCh X [op] [e] (fun v σ H Q => tb σ H fun y H1 => rOp X (compareOp op) v y H1 Q) := by
  refine ⟨fun pos pins s σ H v u Q I r q => ?_, fun pos pins s σ H v u Q I r q => ?_⟩
  · exact chain_last (thn (hb.run pins s σ H _ I q) fun u2 s2 ⟨y, H2, I2, r2, q2⟩ => q2 σ pins s2 u u2 I2 r r2)
  · refine test_last (thn (hb.run pins s σ H _ I q) fun u2 s2 ⟨y, H2, I2, r2, q2⟩ => thn (q2 σ pins s2 u u2 I2 r r2) fun d s3 ⟨z, H3, I3, r3, k, e3, q3⟩ => ?_)
    subst e3
    cases r3
    exact wpAny_truthy_bool ⟨H3, I3, q3⟩
theorem pch_link {op op' : CmpOp} {ops : List CmpOp} {e e' : Expr} {es : List Expr} {tb : TE} {tr : V → TE} (hb : PE X e tb) (hr : PCh X (op' :: ops) (e' :: es) tr) : PCh X (op :: op' :: ops) (e :: e' :: es) (tLink op tb tr X) := by
  refine ⟨fun pos pins s σ H v u Q I r q => ?_, fun pos pins s σ H v u Q I r q => ?_⟩
  · refine chain_link (thn (hb.run pins s σ H _ I q) fun u2 s2 ⟨y, H2, I2, r2, q2⟩ => thn (q2 σ pins s2 u u2 I2 r r2) fun d s3 ⟨z, H3, I3, r3, k, e3, q3⟩ => ?_)
    subst e3
    cases r3
    refine wpAny_truthy_bool ?_
    cases k with
    | false => exact ite_ff ⟨.bl false, H3, I3, rfl, q3⟩
    | true => exact ite_tt (hr.val pos pins s3 σ H3 y u2 Q I3 r2 q3)
  · refine test_link (thn (hb.run pins s σ H _ I q) fun u2 s2 ⟨y, H2, I2, r2, q2⟩ => thn (q2 σ pins s2 u u2 I2 r r2) fun d s3 ⟨z, H3, I3, r3, k, e3, q3⟩ => ?_)
    subst e3
    cases r3
    refine wpAny_truthy_bool ?_
    cases k with
    | false =>
      obtain ⟨k', e', q'⟩ := q3
      cases e'
      exact ite_ff ⟨H3, I3, q'⟩
    | true => exact ite_tt (hr.tst pos pins s3 σ H3 y u2 Q I3 r2 q3)
theorem pe_chainN {op o2 : CmpOp} {ops : List CmpOp} {l e e2 : Expr} {es : List Expr} {pos : Pos} {ta tb : TE} {tr : V → TE} (ha : PE X l ta) (hb : PE X e tb) (hr : PCh X (o2 :: ops) (e2 :: es) tr) (hm : lastMarks (op :: o2 :: ops) (e :: e2 :: es) = false) :
    PE X (.Compare l (op :: o2 :: ops) (e :: e2 :: es) pos) (fun σ H Q => ta σ H fun x H1 => tLink op tb tr X x σ H1 Q) := by
  refine ⟨fun pins s σ H Q I h => ?_⟩
  exact Compare_chain (thn (ha.run pins s σ H _ I h) fun v s1 ⟨x, H1, I1, r1, q1⟩ => (pch_link hb hr).val pos pins s1 σ H1 x v Q I1 r1 q1) hm
theorem pt_chainN {op o2 : CmpOp} {ops : List CmpOp} {l e e2 : Expr} {es : List Expr} {pos : Pos} {ta tb : TE} {tr : V → TE} (ha : PE X l ta) (hb : PE X e tb) (hr : PCh X (o2 :: ops) (e2 :: es) tr) (hm : lastMarks (op :: o2 :: ops) (e :: e2 :: es) = false) :
    PT X (.Compare l (op :: o2 :: ops) (e :: e2 :: es) pos) (fun σ H Q => ta σ H fun x H1 => tLink op tb tr X x σ H1 fun z H2 => ∃ k, z = .bl k ∧ Q k H2) := by
  refine ⟨fun pins s σ H Q I h => ?_⟩
  exact isTrue_chain (thn (ha.run pins s σ H _ I h) fun v s1 ⟨x, H1, I1, r1, q1⟩ => (pch_link hb hr).tst pos pins s1 σ H1 x v Q I1 r1 q1) hm
/-- a link of the evaluator -/
theorem rdCh_link (hK : X.K = Y.g.K) (hu : X.A.units + 64 < cLine) {op : CmpOp} {b : B} {r : Ch} {v : V} {Q : VK} (q : rdCh Y (.cons op b r) v σ H Q) : tLink op (rdB Y b) (rdCh Y r) X v σ H Q := by
  obtain ⟨w, s, x, h, rx, p⟩ := q
  unfold evCh at p
  refine rd1 h p fun y s2 w2 H2 vy h2 l ry p2 σ₂ => ?_
  cases e1 : cont2 s2 x y (cmpD s2.sh op) with
  | none => simp only [e1] at p2; exact p2.elim
  | some k =>
    simp only [e1] at p2
    obtain ⟨dx, dy, ex, ey, e⟩ := cont2_some e1
    refine cmp_ok hK hu h2 (h2.cont (rx.mono l) ex) (h2.cont ry ey) e ⟨k, rfl, ?_⟩
    cases k with
    | false => exact p2 w2 H2 _ h2 l (.fr .bl)
    | true => exact ⟨w2, s2, y, h2, ry, Post.mono p2 (fun _ _ k => KR.le l k) fun _ _ _ z => z⟩
theorem rdCh_last (hK : X.K = Y.g.K) (hu : X.A.units + 64 < cLine) {op : CmpOp} {b : B} {v : V} {Q : VK} (q : rdCh Y (.cons op b .nil) v σ H Q) : rdB Y b σ H fun y H1 => rOp X (compareOp op) v y H1 Q := by
  obtain ⟨w, s, x, h, rx, p⟩ := q
  unfold evCh at p
  refine rd1 h p fun y s2 w2 H2 vy h2 l ry p2 σ₂ => ?_
  cases e1 : cont2 s2 x y (cmpD s2.sh op) with
  | none => simp only [e1] at p2; exact p2.elim
  | some k =>
    simp only [e1] at p2
    obtain ⟨dx, dy, ex, ey, e⟩ := cont2_some e1
    refine cmp_ok hK hu h2 (h2.cont (rx.mono l) ex) (h2.cont ry ey) e ?_
    cases k with
    | false => exact p2 w2 H2 _ h2 l (.fr .bl)
    | true =>
      unfold evCh at p2
      exact p2 w2 H2 _ h2 l (.fr .bl)
theorem rd_chnN (hK : X.K = Y.g.K) (hu : X.A.units + 64 < cLine) {op : CmpOp} {a b : B} {r : Ch} {Q : VK} (q : rdE Y (.chn a op b r) σ H Q) : rdB Y a σ H fun x H1 => tLink op (rdB Y b) (rdCh Y r) X x σ H1 Q := by
  obtain ⟨w, s, h, p⟩ := q
  unfold evE at p
  refine rd2 h p fun x y s2 w2 H2 vx vy h2 l rx ry p2 σ₂ => ?_
  cases e1 : cont2 s2 x y (cmpD s2.sh op) with
  | none => simp only [e1] at p2; exact p2.elim
  | some k =>
    simp only [e1] at p2
    obtain ⟨dx, dy, ex, ey, e⟩ := cont2_some e1
    refine cmp_ok hK hu h2 (h2.cont rx ex) (h2.cont ry ey) e ⟨k, rfl, ?_⟩
    cases k with
    | false => exact p2 w2 H2 _ h2 l (.fr .bl)
    | true => exact ⟨w2, s2, y, h2, ry, Post.mono p2 (fun _ _ k => KR.le l k) fun _ _ _ z => z⟩
theorem rdT_chnN (hK : X.K = Y.g.K) (hu : X.A.units + 64 < cLine) {op : CmpOp} {a b : B} {r : Ch} {Q : Bool → Hp → Prop} (q : rdT Y (.chn a op b r) σ H Q) : rdB Y a σ H fun x H1 => tLink op (rdB Y b) (rdCh Y r) X x σ H1 fun z H2 => ∃ k, z = .bl k ∧ Q k H2 := by
  obtain ⟨w, s, h, p⟩ := q
  unfold evT at p
  refine rd2 h p fun x y s2 w2 H2 vx vy h2 l rx ry p2 σ₂ => ?_
  cases e1 : cont2 s2 x y (cmpD s2.sh op) with
  | none => simp only [e1] at p2; exact p2.elim
  | some k =>
    simp only [e1] at p2
    obtain ⟨dx, dy, ex, ey, e⟩ := cont2_some e1
    refine cmp_ok hK hu h2 (h2.cont rx ex) (h2.cont ry ey) e ⟨k, rfl, ?_⟩
    cases k with
    | false => exact ⟨false, rfl, p2 w2 H2 h2 l⟩
    | true =>
      rw [post_bind] at p2
      refine ⟨w2, s2, y, h2, ry, p2.mono (fun v s3 p3 w3 H3 vv h3 l3 rv => ?_) fun _ _ _ z => z⟩
      obtain ⟨c, e4, p4⟩ := post_ofOpt p3
      obtain rfl := boolOf_some e4
      cases rv with
      | fr rv => exact ⟨c, rv.blV, p4 w3 H3 h3 (l.trans l3)⟩
end
end Ev
end
section
set_option linter.all false
set_option maxRecDepth 100000
set_option maxHeartbeats 1000000
/-! Sound3: targets, plain statements. -/
namespace Ev
open PySem PySem.Spec PyProof.Rows L2
def KN (Y : Cy) (w : Wd) (N : L2.St → Hp → Prop) : S → Prop := fun s' => ∀ w' H' σ', RSt Y.g Y.b w' s' σ' H' → Le w w' → N σ' H'
def KT (Y : Cy) (w : Wd) (R : VK) : Rv → S → Prop := fun r s' => ∀ w' H' σ' v, RSt Y.g Y.b w' s' σ' H' → Le w w' → RepR Y.g Y.b w' s' σ' H' r v → R v H'
def rdS (Y : Cy) (st : Ev.St) : TS := fun D σ H => ∃ w s, RSt Y.g Y.b w s σ H ∧ PostO (exS Y.C st s) (KN Y w D.nx) (KT Y w D.rt) (KN Y w D.bk) (KN Y w D.ct) (X3 Y)
def rdSs (Y : Cy) (st : Ss) : TS := fun D σ H => ∃ w s, RSt Y.g Y.b w s σ H ∧ PostO (exSs Y.C st s) (KN Y w D.nx) (KT Y w D.rt) (KN Y w D.bk) (KN Y w D.ct) (X3 Y)
def rdG (Y : Cy) (P : L2.St → Prop) (f : Nat) (t : Tg) : TG := fun v σ H N => P σ ∧ ∃ w s r, RSt Y.g Y.b w s σ H ∧ RepR Y.g Y.b w s σ H r v ∧ ∃ s', bindT f t r s = some s' ∧ ∀ w' H' σ', RSt Y.g Y.b w' s' σ' H' → Le w w' → P σ' → N σ' H'
def rdGs (Y : Cy) (P : L2.St → Prop) (f : Nat) (ts : List Tg) : TGs := fun vs σ H N => P σ ∧ ∃ w s ds, RSt Y.g Y.b w s σ H ∧ Reps Y.g w ds vs ∧ ds.length = ts.length ∧ ∃ s', bindT.go f ts ds s = some s' ∧ ∀ w' H' σ', RSt Y.g Y.b w' s' σ' H' → Le w w' → P σ' → N σ' H'
theorem KN.le {Y : Cy} {w w1 : Wd} {N : L2.St → Hp → Prop} {s : S} (l : Le w w1) (k : KN Y w N s) : KN Y w1 N s := fun w' H' σ' h l' => k w' H' σ' h (l.trans l')
theorem KT.le {Y : Cy} {w w1 : Wd} {N : VK} {r : Rv} {s : S} (l : Le w w1) (k : KT Y w N r s) : KT Y w1 N r s := fun w' H' σ' v h l' => k w' H' σ' v h (l.trans l')
/-- an end, seen later -/
theorem endLe {Y : Cy} {w w1 : Wd} {D : Ends} {o : Out} (l : Le w w1) (p : PostO o (KN Y w D.nx) (KT Y w D.rt) (KN Y w D.bk) (KN Y w D.ct) (X3 Y)) : PostO o (KN Y w1 D.nx) (KT Y w1 D.rt) (KN Y w1 D.bk) (KN Y w1 D.ct) (X3 Y) :=
  p.mono (fun _ k => k.le l) (fun _ _ k => k.le l) (fun _ k => k.le l) (fun _ k => k.le l) fun _ _ _ z => z
section
variable {X : Cx} {Y : Cy} {σ : L2.St} {H : Hp} {w : Wd} {s : S}
theorem ps_to {st : Stmt} {t t' : TS} (h : PS X st t) (k : ∀ D σ H, t' D σ H → t D σ H) : PS X st t' := ⟨fun pins s σ H D I q => h.run pins s σ H D I (k D σ H q)⟩
theorem pss_to {st : List Stmt} {t t' : TS} (h : PSs X st t) (k : ∀ D σ H, t' D σ H → t D σ H) : PSs X st t' := ⟨fun pins s σ H D I q => h.run pins s σ H D I (k D σ H q)⟩
theorem pg_to {e : Expr} {t t' : TG} (h : PG X e t) (k : ∀ v σ H Q, t' v σ H Q → t v σ H Q) : PG X e t' := ⟨fun pins s σ H v u Q I r q => h.run pins s σ H v u Q I r (k v σ H Q q)⟩
theorem pgs_to {e : List Expr} {t t' : TGs} (h : PGs X e t) (k : ∀ v σ H Q, t' v σ H Q → t v σ H Q) : PGs X e t' := ⟨fun pins s σ H vs us Q I r q => h.run pins s σ H vs us Q I r (k vs σ H Q q)⟩
/-- a value into a slot -/
theorem RSt.setR {g : Gl} {b : Ba} {i : Nat} {r : Rv} {v : V} (h : RSt g b w s σ H) (q : RepR g b w s σ H r v) : RSt g b w (s.set i r.sl) (σ.set i (some v)) H := by
  cases q with
  | fr q => exact h.setF q
  | ow q => exact h.setO q
theorem rdG_nm {P : L2.St → Prop} {f i : Nat} {v : V} {N : L2.St → Hp → Prop} (hP : ∀ σ v, P σ → P (σ.set i (some v))) (q : rdG Y P f (.nm i) v σ H N) : gName i v σ H N := by
  obtain ⟨hp, w, s, r, h, rv, s', e, k⟩ := q
  have e : s' = s.set i r.sl := by
    cases r <;> (cases f <;> (unfold bindT at e; cases e; rfl))
  subst e
  exact k w H _ (h.setR rv) Le.refl (hP _ _ hp)
def gAny (K : PySem.W.Frag) (n : Nat) (t : TGs) : TG := fun v σ H Q => ∃ a xs, v = .ref a ∧ (SqL K H a xs ∨ SqT K H a xs) ∧ xs.length = n ∧ t xs σ H Q
theorem pg_any {es : List Expr} {k : Nat} {t : TGs} {n : Nat} {pos : Pos} (hc : X.calm = true) (h : PGs X es t) (hn : (assignEach es X.env).length = n) (hst : (assignEach es X.env).findIdx? (·.1) = none) : PG X (.Tuple es k pos) (gAny X.K n t) := by
  refine ⟨fun pins s σ H v u Q I r hw => ?_⟩
  obtain ⟨a, xs, e1, hq, hl, hw⟩ := hw
  rcases hq with hq | hq
  · exact (pg_lst hc h hn hst).run pins s σ H v u Q I r ⟨a, xs, e1, hq, hl, hw⟩
  · exact (pg_tup hc h hn hst).run pins s σ H v u Q I r ⟨a, xs, e1, hq, hl, hw⟩
theorem rdG_tp {P : L2.St → Prop} (hK : X.K = Y.g.K) {f : Nat} {ts : List Tg} {v : V} {N : L2.St → Hp → Prop} (q : rdG Y P (f + 1) (.tp ts) v σ H N) : gAny X.K ts.length (rdGs Y P f ts) v σ H N := by
  obtain ⟨hp, w, s, r, h, rv, s', e, k⟩ := q
  obtain ⟨w1, h1, l1, r1⟩ := h.fz rv
  unfold bindT at e
  have e : (match items (vw s.sh r.d) with | some xs => if xs.length = ts.length then bindT.go f ts xs s else none | none => none) = some s' := by
    cases r <;> exact e
  cases e1 : items (vw s.sh r.d) with
  | none => rw [e1] at e; cases e
  | some xs =>
    rw [e1] at e
    have e : (if xs.length = ts.length then bindT.go f ts xs s else none) = some s' := e
    by_cases hl : xs.length = ts.length
    · rw [if_pos hl] at e
      obtain ⟨a, vs, rfl, hq, rq⟩ := (h1.rs.st.vw r1).seq hK e1
      exact ⟨a, vs, rfl, hq, by rw [← rq.length]; exact hl, hp, w1, s, xs, h1, rq, hl, s', e, fun w' H' σ' h' l' => k w' H' σ' h' (l1.trans l')⟩
    · rw [if_neg hl] at e; cases e
theorem rdGs_nil {P : L2.St → Prop} {f : Nat} {vs : List V} {N : L2.St → Hp → Prop} (q : rdGs Y P f [] vs σ H N) : gNil vs σ H N := by
  obtain ⟨hp, w, s, ds, h, r, hl, s', e, k⟩ := q
  cases ds with
  | cons d ds => cases hl
  | nil =>
    cases r
    have e : s = s' := by unfold bindT.go at e; exact Option.some.inj e
    subst e
    exact ⟨rfl, k w H σ h Le.refl hp⟩
theorem rdGs_cons {P : L2.St → Prop} {f : Nat} {t : Tg} {ts : List Tg} {vs : List V} {N : L2.St → Hp → Prop} (q : rdGs Y P f (t :: ts) vs σ H N) : gCons (rdG Y P f t) (rdGs Y P f ts) vs σ H N := by
  obtain ⟨hp, w, s, ds, h, r, hl, s', e, k⟩ := q
  cases r with
  | nil => unfold bindT.go at e; cases e
  | cons a r =>
    unfold bindT.go at e
    rename_i x v xs vs
    cases e1 : bindT f t (.fr x) s with
    | none => rw [e1] at e; cases e
    | some s1 =>
      rw [e1] at e
      refine ⟨v, vs, rfl, hp, w, s, .fr x, h, .fr a, s1, e1, fun w1 H1 σ1 h1 l1 hp1 => ?_⟩
      exact ⟨hp1, w1, s1, xs, h1, r.mono l1, Nat.succ.inj hl, s', e, fun w' H' σ' h' l' => k w' H' σ' h' (l1.trans l')⟩

/-! ### statements -/
theorem rd_exp {e : E} {D : Ends} (q : rdS Y (.exp e) D σ H) : tDrop (rdE Y e) D σ H := by
  obtain ⟨w, s, h, p⟩ := q
  unfold exS at p
  rw [post_out] at p
  exact ⟨w, s, h, p.mono (fun r s1 k w1 H1 v h1 l _ => k w1 H1 σ h1 l) fun _ _ _ z => z⟩
/-- the result of an expression into a target -/
theorem rd_asg {tg : Tg} {e : E} {D : Ends} (q : rdS Y (.asg tg e) D σ H) : tAsg (rdE Y e) (rdG Y (fun _ => True) 9 tg) D σ H := by
  obtain ⟨w, s, h, p⟩ := q
  unfold exS at p
  rw [post_out] at p
  refine ⟨w, s, h, p.mono (fun r s1 k w1 H1 v h1 l rv => ?_) fun _ _ _ z => z⟩
  cases e1 : bindT 9 tg r s1 with
  | none => rw [e1] at k; exact k.elim
  | some s2 =>
    rw [e1] at k
    exact ⟨trivial, w1, s1, r, h1, rv, s2, e1, fun w' H' σ' h' l' _ => k w' H' σ' h' (l.trans l')⟩
theorem rd_ret {e : E} {D : Ends} (q : rdS Y (.ret e) D σ H) : tRet (rdE Y e) D σ H := by
  obtain ⟨w, s, h, p⟩ := q
  unfold exS at p
  rw [post_out] at p
  exact ⟨w, s, h, p.mono (fun r s1 k w1 H1 v h1 l rv => k w1 H1 σ v h1 l rv) fun _ _ _ z => z⟩
theorem rd_retv (hT : ∀ a, ¬ Y.b.T a) {i : Nat} {D : Ends} (q : rdS Y (.retv i) D σ H) : tRet (tVar i) D σ H := by
  obtain ⟨w, s, h, p⟩ := q
  unfold exS at p
  cases e : s.get i with
  | un => rw [e] at p; exact p.elim
  | fr d =>
    rw [e] at p
    obtain ⟨v, ev, r⟩ := h.rs.fr i d (get_fr e)
    exact ⟨v, ev, p w H σ v h Le.refl (.fr r)⟩
  | ow d =>
    rw [e] at p
    obtain ⟨a, ev, f, m, c⟩ := h.rs.ow i d (get_ow e)
    refine ⟨_, ev, p w H σ _ h.setU Le.refl (.ow ⟨f, m, fun t => ?_, ?_, c⟩)⟩
    · obtain ⟨j, d', e1, e2⟩ := t
      rcases set_at e1 with ⟨_, z⟩ | ⟨n, e1⟩
      · cases z
      · exact h.rs.dis i j a d d' n (get_ow e) e1 ev e2
    · rcases h.tr.own a ⟨i, d, get_ow e, ev⟩ with z | z
      · exact absurd z (hT a)
      · exact z
theorem rd_retn {D : Ends} (q : rdS Y .retn D σ H) : tRetN D σ H := by
  obtain ⟨w, s, h, p⟩ := q
  unfold exS at p
  exact p w H σ .non h Le.refl (.fr .non)
theorem rd_brk {D : Ends} (q : rdS Y .brk D σ H) : tBreak D σ H := by
  obtain ⟨w, s, h, p⟩ := q
  unfold exS at p
  exact p w H σ h Le.refl
theorem rd_cnt {D : Ends} (q : rdS Y .cnt D σ H) : tCont D σ H := by
  obtain ⟨w, s, h, p⟩ := q
  unfold exS at p
  exact p w H σ h Le.refl
theorem rd_pss {D : Ends} (q : rdS Y .pss D σ H) : tNext D σ H := by
  obtain ⟨w, s, h, p⟩ := q
  unfold exS at p
  exact p w H σ h Le.refl
theorem rd_doc {D : Ends} (q : rdS Y .doc D σ H) : tNext D σ H := by
  obtain ⟨w, s, h, p⟩ := q
  unfold exS at p
  exact p w H σ h Le.refl
theorem rd_iff {t : T} {a b : Ss} {D : Ends} (q : rdS Y (.iff t a b) D σ H) : tIfS (rdT Y t) (rdSs Y a) (rdSs Y b) D σ H := by
  obtain ⟨w, s, h, p⟩ := q
  unfold exS at p
  rw [post_out] at p
  refine ⟨w, s, h, p.mono (fun c s1 k w1 H1 h1 l => ?_) fun _ _ _ z => z⟩
  cases c with
  | true => exact ⟨w1, s1, h1, endLe l k⟩
  | false => exact ⟨w1, s1, h1, endLe l k⟩
theorem rdSs_nil {D : Ends} (q : rdSs Y .nil D σ H) : tNext D σ H := by
  obtain ⟨w, s, h, p⟩ := q
  unfold exSs at p
  exact p w H σ h Le.refl
theorem rdSs_cons {st : Ev.St} {r : Ss} {D : Ends} (q : rdSs Y (.cons st r) D σ H) : tSeq (rdS Y st) (rdSs Y r) D σ H := by
  obtain ⟨w, s, h, p⟩ := q
  unfold exSs at p
  refine ⟨w, s, h, ?_⟩
  cases e : exS Y.C st s with
  | nx s1 =>
    rw [e] at p
    exact fun w1 H1 σ1 h1 l => ⟨w1, s1, h1, endLe l p⟩
  | rt r s1 => rw [e] at p; exact p
  | bk s1 => rw [e] at p; exact p
  | ct s1 => rw [e] at p; exact p
  | ex c ds s1 => rw [e] at p; exact p
  | er => rw [e] at p; exact p

/-! ### op= -/
theorem ip_ok {g : Gl} {b : Ba} {op : Operator} {dx dy r : D} {x y : V} {σ₂ : L2.St} {Q : VK} (rx : RC g w H dx x) (ry : RC g w H dy y) (e : ipop op dx dy = some r) (k : ∀ v, Rep g w r v → Q v H) : opW X σ₂ (inplaceOp op) x y H Q := by
  unfold ipop at e
  split at e
  · cases e; rw [rx.intI, ry.intI]; exact opW_of iop_add ⟨_, _, rfl, rfl, k _ .int⟩
  · cases e; rw [rx.intI, ry.intI]; exact opW_of iop_sub ⟨_, _, rfl, rfl, k _ .int⟩
  · split at e
    · rename_i hz
      cases e; rw [rx.intI, ry.intI]
      refine opW_of iop_mul ⟨_, _, rfl, rfl, ?_, k _ .int⟩
      rcases hz with hz | hz
      · exact .inl (by omega)
      · exact .inr (by omega)
    · cases e
  · split at e
    · cases e; rw [rx.intI, ry.intI]; exact opW_of iop_mod ⟨_, _, rfl, rfl, by assumption, k _ .int⟩
    · cases e
  · split at e
    · cases e; rw [rx.intI, ry.intI]; exact opW_of iop_fdiv ⟨_, _, rfl, rfl, by assumption, k _ .int⟩
    · cases e
  · split at e
    · cases e; rw [rx.strI, ry.strI]; exact opW_of iop_add_str ⟨_, _, rfl, rfl, by assumption, k _ .str⟩
    · cases e
  · cases e
def rIp (X : Cx) (op : Operator) : TIp := fun x y H Q => ∀ σ, opW X σ (inplaceOp op) x y H Q
theorem ipR {op : Operator} : PIp X op (rIp X op) := fun pins s σ H x y v u Q I rx ry h => h σ pins s v u I rx ry
theorem ip_fr {op : Operator} {x y r : D} (e : ipop op x y = some r) : ∀ k, x ≠ .sh k := fun k z => by
  subst z
  unfold ipop at e
  split at e <;> first | contradiction | cases e
theorem rd_aug {i : Nat} {op : Operator} {e : B} {D : Ends} (q : rdS Y (.aug i op e) D σ H) : tAug i (rdB Y e) (rIp X op) D σ H := by
  obtain ⟨w, s, h, p⟩ := q
  unfold exS at p
  cases e1 : s.get i with
  | un => rw [e1] at p; exact p.elim
  | ow d => rw [e1] at p; exact p.elim
  | fr d =>
    rw [e1] at p
    obtain ⟨v, ev, r⟩ := h.rs.fr i d (get_fr e1)
    refine ⟨v, ev, ?_⟩
    have p : PostO ((evB Y.C e s).out _) _ _ _ _ _ := p
    rw [post_out] at p
    refine ⟨w, s, h, p.mono (fun y s1 p1 w1 H1 vy h1 l1 ry => ?_) fun _ _ _ z => z⟩
    intro σ₂
    cases e2 : cont s1 y with
    | none => rw [e2] at p1; exact p1.elim
    | some dy =>
      rw [e2] at p1
      have p1 : PostO (match ipop op d dy with | some r => Out.nx (s1.set i (.fr r)) | none => .er) _ _ _ _ _ := p1
      cases e3 : ipop op d dy with
      | none => rw [e3] at p1; exact p1.elim
      | some z =>
        rw [e3] at p1
        exact ip_ok (b := Y.b) (h1.rs.st.rc (r.mono l1) (ip_fr e3)) (h1.cont ry e2) e3 fun v' rv => p1 w1 H1 _ (h1.setF rv) l1

/-! ### o[i] = e -/
theorem rd_sto {a i : B} {e : E} {D : Ends} (q : rdS Y (.sto a i e) D σ H) : tAsg (rdE Y e) (gSub (rdB Y a) (rdB Y i) rSetL) D σ H := by
  obtain ⟨w, s, h, p⟩ := q
  unfold exS at p
  rw [post_out] at p
  refine ⟨w, s, h, p.mono (fun r s1 p1 w1 H1 v h1 l1 rv => ?_) fun _ _ _ z => z⟩
  obtain ⟨w1', h1', l1', r1⟩ := h1.fz rv
  rw [post_out] at p1
  refine ⟨w1', s1, h1', p1.mono (fun x s2 p2 w2 H2 vx h2 l2 rx => ?_) fun _ _ _ z => z⟩
  rw [post_out] at p2
  refine ⟨w2, s2, h2, p2.mono (fun y s3 p3 w3 H3 vy h3 l3 ry => ?_) fun _ _ _ z => z⟩
  cases e1 : cont s3 x with
  | none => rw [e1] at p3; exact p3.elim
  | some dx =>
    cases e2 : cont s3 y with
    | none => rw [e1, e2] at p3; cases dx <;> exact p3.elim
    | some dy =>
      rw [e1, e2] at p3
      cases dx with
      | lst xs =>
        cases dy with
        | int k =>
          have p3 : PostO (match L2.ixN xs.length k with | some j => (match put s3 x (.lst (xs.set j r.d)) with | some s4 => Out.nx s4 | none => .er) | none => .er) _ _ _ _ _ := p3
          cases e3 : L2.ixN xs.length k with
          | none => rw [e3] at p3; exact p3.elim
          | some j =>
            rw [e3] at p3
            have p3 : PostO (match put s3 x (.lst (xs.set j r.d)) with | some s4 => Out.nx s4 | none => .er) _ _ _ _ _ := p3
            cases e4 : put s3 x (.lst (xs.set j r.d)) with
            | none => rw [e4] at p3; exact p3.elim
            | some s4 =>
              rw [e4] at p3
              rw [(h3.cont ry e2).intI]
              exact sto_okW h3 (rx.mono l3) e1 (r1.mono (l2.trans l3)) e3 e4 fun H' h' => p3 w3 H' σ h' (((l1.trans l1').trans l2).trans l3)
        | _ => exact p3.elim
      | _ => exact p3.elim
end
end Ev
end
section
set_option linter.all false
set_option maxRecDepth 100000
set_option maxHeartbeats 1000000
/-! Sound4: a, b = x, y; while; walks. -/
namespace Ev
open PySem PySem.Spec PyProof.Rows L2
abbrev Cy.at (Y : Cy) (w : Wd) (H : Hp) (T : Addr → Prop) : Cy := { Y with b := ⟨w, H, T⟩ }
/-- begun anew, later -/
def rdEb (Y : Cy) (e : E) : TE := fun σ H Q => ∃ w0 H0 T0, Tr Y.b w0 H0 T0 ∧ rdE (Y.at w0 H0 T0) e σ H Q
section
variable {X : Cx} {Y : Cy} {σ : L2.St} {H : Hp} {w : Wd} {s : S}
theorem pe_base {e : Expr} {ir : E} (h : ∀ w0 H0 T0, Tr Y.b w0 H0 T0 → PE X e (rdE (Y.at w0 H0 T0) ir)) : PE X e (rdEb Y ir) := ⟨fun pins s σ H Q I ⟨w0, H0, T0, t, q⟩ => (h w0 H0 T0 t).run pins s σ H Q I q⟩
theorem RSt.rebase {g : Gl} {b : Ba} (h : RSt g b w s σ H) : RSt g ⟨w, H, OT s σ⟩ w s σ H := ⟨h.rs, Tr.refl⟩
theorem RSt.unbase {g : Gl} {b : Ba} {w0 : Wd} {H0 : Hp} {T0 : Addr → Prop} (t : Tr b w0 H0 T0) (h : RSt g ⟨w0, H0, T0⟩ w s σ H) : RSt g b w s σ H := ⟨h.rs, t.trans h.tr⟩
/-- a result stands while more is reckoned -/
theorem RepR.after {g : Gl} {b : Ba} {r : Rv} {v : V} {w2 : Wd} {s2 : S} {σ2 : L2.St} {H2 : Hp} (h : RSt g b w s σ H) (q : RepR g b w s σ H r v) (h2 : RSt g ⟨w, H, OT s σ⟩ w2 s2 σ2 H2) : RepR g b w2 s2 σ2 H2 r v := by
  cases q with
  | fr q => exact .fr (q.mono h2.tr.le)
  | ow o =>
    obtain ⟨u, hu, hc⟩ := o.co.thereN
    obtain ⟨k1, k2, k3⟩ := h2.tr.keep _ u hu hc.nt o.m o.T
    refine .ow ⟨k2 o.F, k3, fun t => ?_, o.new, o.co.mono h2.tr.le (k1.trans hu.symm)⟩
    rcases h2.tr.own _ t with z | z
    · exact o.T z
    · exact z.no hu hc.nt
theorem rd_par {i j : Nat} (hij : i ≠ j) {e1 e2 : E} {D : Ends} (q : rdS Y (.par [i, j] (.cons e1 (.cons e2 .nil))) D σ H) : tPar i j (tCons (rdE Y e1) (tCons (rdEb Y e2) tNil)) D σ H := by
  obtain ⟨w, s, h, p⟩ := q
  unfold exS at p
  rw [post_out] at p
  unfold evRs evRs evRs at p
  rw [post_bind] at p
  refine ⟨w, s, h, p.mono (fun r1 s1 p1 w1 H1 v1 h1 l1 q1 => ?_) fun _ _ _ z => z⟩
  rw [post_bind, post_bind] at p1
  refine ⟨w1, H1, OT s1 σ, h1.tr, w1, s1, h1.rebase, p1.mono (fun r2 s2 p2 w2 H2 v2 h2 l2 q2 => ?_) fun _ _ _ z => z⟩
  have p2 : PostO (if [r1, r2].length = [i, j].length then Out.nx (parSet [i, j] [r1, r2] s2) else .er) (KN Y w D.nx) (KT Y w D.rt) (KN Y w D.bk) (KN Y w D.ct) (X3 Y) := p2
  rw [if_pos (show [r1, r2].length = [i, j].length from rfl)] at p2
  refine ⟨v1, v2, rfl, p2 w2 H2 _ ?_ (l1.trans l2)⟩
  have hb := h2.unbase h1.tr
  have q1' := RepR.after h1 q1 h2
  have h3 := hb.setR (i := i) q1'
  refine h3.setR (i := j) ?_
  cases q2 with
  | fr q2 => exact .fr q2
  | ow o2 =>
    refine .ow ⟨o2.F, o2.m, fun t => ?_, h1.tr.fresh o2.new, o2.co⟩
    obtain ⟨k, d, e3, e4⟩ := t
    rcases set_at e3 with ⟨hk, z⟩ | ⟨hk, e3⟩
    · subst hk
      cases q1 with
      | fr q1 => cases z
      | ow o1 =>
        have hl : i < σ.length := by
          have := (List.getElem?_eq_some_iff.mp e4).1
          rwa [List.length_set] at this
        rw [List.getElem?_set_self hl] at e4
        cases e4
        obtain ⟨u, hu, hc⟩ := o1.co.thereN
        exact o2.new.no hu hc.nt
    · rw [List.getElem?_set_ne hk] at e4
      exact o2.T ⟨k, d, e3, e4⟩

/-! ### while -/
theorem rd_whl {t : T} {bd : Ss} {D : Ends} (q : rdS Y (.whl t bd) D σ H) : tWhile (rdT Y t) (rdSs Y bd) D σ H := by
  obtain ⟨w, s, h, p⟩ := q
  unfold exS at p
  refine ⟨fun m σ H => ∃ w s, RSt Y.g Y.b w s σ H ∧ PostO (whl (evT Y.C t) (exSs Y.C bd) m s) (KN Y w D.nx) (KT Y w D.rt) (KN Y w D.bk) (KN Y w D.ct) (X3 Y), ⟨_, w, s, h, p⟩, ?_⟩
  rintro m σ H ⟨w, s, h, p⟩
  cases m with
  | zero => exact p.elim
  | succ m =>
    unfold whl at p
    rw [post_out] at p
    refine ⟨w, s, h, p.mono (fun c s1 k w1 H1 h1 l => ?_) fun _ _ _ z => z⟩
    cases c with
    | false => exact k w1 H1 σ h1 l
    | true =>
      refine ⟨fun σ' H' => ∃ w s, RSt Y.g Y.b w s σ' H' ∧ PostO (whl (evT Y.C t) (exSs Y.C bd) m s) (KN Y w D.nx) (KT Y w D.rt) (KN Y w D.bk) (KN Y w D.ct) (X3 Y), fun σ' H' z => ⟨m, Nat.lt_succ_self m, z⟩, ?_⟩
      refine ⟨w1, s1, h1, ?_⟩
      have k : PostO (match exSs Y.C bd s1 with | .nx s2 => whl (evT Y.C t) (exSs Y.C bd) m s2 | .ct s2 => whl (evT Y.C t) (exSs Y.C bd) m s2 | .bk s2 => .nx s2 | o => o) (KN Y w1 D.nx) (KT Y w1 D.rt) (KN Y w1 D.bk) (KN Y w1 D.ct) (X3 Y) := endLe l k
      cases e : exSs Y.C bd s1 with
      | nx s2 => rw [e] at k; exact fun w2 H2 σ2 h2 l2 => ⟨w2, s2, h2, endLe l2 k⟩
      | ct s2 => rw [e] at k; exact fun w2 H2 σ2 h2 l2 => ⟨w2, s2, h2, endLe l2 k⟩
      | bk s2 => rw [e] at k; exact fun w2 H2 σ2 h2 l2 => k w2 H2 σ2 h2 l2
      | rt r s2 => rw [e] at k; exact k
      | ex c ds s2 => rw [e] at k; exact k
      | er => rw [e] at k; exact k.elim
end
end Ev
end
section
set_option linter.all false
set_option maxRecDepth 100000
set_option maxHeartbeats 1000000
/-! Sound5: what loops walk. -/
namespace Ev
open PySem PySem.Spec PyProof.Rows L2
/-- what a walk finds at its i-th place -/
def liveA (sh : List D) (i : Nat) : Wk → Option (Option D)
  | .xs l => some l[i]?
  | .hid _ l => some l[i]?
  | w => live sh i w
/-- a walk and the machine's iterator; Kp: what must stay true of the heap -/
structure WJ (g : Gl) (w : Wd) (H : Hp) (s : S) (σ : L2.St) (wk : Wk) (J : L2.It) (Kp : Hp → Prop) : Prop where
  stop : ∀ (b : Ba) (w2 : Wd) (s2 : S) (σ2 : L2.St) (H2 : Hp) (i : Nat), RSt g b w2 s2 σ2 H2 → Le w w2 → Kp H2 → liveA s2.sh i wk = some none → J.stop i H2
  go : ∀ (b : Ba) (w2 : Wd) (s2 : S) (σ2 : L2.St) (H2 : Hp) (i : Nat) (d : D), RSt g b w2 s2 σ2 H2 → Le w w2 → Kp H2 → liveA s2.sh i wk = some (some d) → J.go i H2 ∧ ∀ x H3, J.yld i H2 x H3 → ∃ w3, RSt g b w3 s2 σ2 H3 ∧ Le w2 w3 ∧ Rep g w3 d x ∧ (H3 = H2 ∨ ∃ T o, H2 T = none ∧ H3 = upd H2 T o)
  kp : Kp H
  hid : (Kp = fun _ => True) ∨ ∃ i l a vs, wk = .hid i l ∧ (Kp = fun H2 => H2 a = some (.lst vs)) ∧ σ[i]? = some (some (.ref a)) ∧ s.env[i]? = some (.ow (.lst l))
def noHid : Wk → Prop
  | .hid _ _ => False
  | _ => True
theorem WJ.all {g : Gl} {w : Wd} {H : Hp} {s : S} {σ : L2.St} {wk : Wk} {J : L2.It} {Kp : Hp → Prop} (j : WJ g w H s σ wk J Kp) (n : noHid wk) : Kp = fun _ => True := by
  rcases j.hid with h | ⟨i, l, a, vs, rfl, _⟩
  · exact h
  · exact n.elim
def rdIt (Y : Cy) (it : Ev.It) : TI := fun σ H R => ∃ w s, RSt Y.g Y.b w s σ H ∧ Post (evIt Y.C it s) (fun wk s' => ∀ w' H' J Kp, RSt Y.g Y.b w' s' σ H' → Le w w' → WJ Y.g w' H' s' σ wk J Kp → R J H') (X3 Y)
section
variable {X : Cx} {Y : Cy} {σ : L2.St} {H : Hp} {w : Wd} {s : S}
theorem pi_to {tg e : Expr} {t t' : TI} (h : PI X tg e t) (k : ∀ σ H R, t' σ H R → t σ H R) : PI X tg e t' := ⟨fun pins s σ H R I q => h.run pins s σ H R I (k σ H R q)⟩
def iSeq (K : PySem.W.Frag) (tl : TE) : TI := fun σ H R => tl σ H fun x H1 => ∃ a, x = .ref a ∧ ((∃ xs, SqL K H1 a xs ∧ R (Itl K a) H1) ∨ ∃ xs, SqT K H1 a xs ∧ R (Itt K a) H1)
theorem pi_seq {tg l : Expr} {tl : TE} (hl : PE X l tl) : PI X tg l (iSeq X.K tl) := by
  refine ⟨fun pins s σ H R I h => ?_⟩
  refine thn (hl.run pins s σ H _ I h) fun v s1 ⟨x, H1, I1, r1, q1⟩ => ?_
  obtain ⟨a, e, q⟩ := q1
  subst e
  cases r1
  rcases q with ⟨xs, hq, q⟩ | ⟨xs, hq, q⟩
  · obtain ⟨its, rv, p, hz⟩ := I1.list hq
    refine wpAny_pyIter_list p.isList ?_
    refine ⟨s1.heap.objs.size, [s1.heap.objs.size], _, _, H1, rfl, I1.kept (t' := s1.toks) fun b o e => Heap.get?_push_of_some _ e, turn_list a _, ⟨_, Heap.get?_push_size _ rfl, rfl, rfl⟩, fun b hb => ?_, q⟩
    have e : b = s1.heap.objs.size := by simpa using hb
    subst e
    exact I1.fpOk (Nat.le_refl _) (I1.hok.fresh (Nat.le_refl _))
  · obtain ⟨its, rv, p, hz⟩ := I1.tuple hq
    refine wpAny_pyIter_tuple (show s1.heap.IsTuple a its.toArray from p) ?_
    refine ⟨s1.heap.objs.size, [s1.heap.objs.size], _, _, H1, rfl, I1.kept (t' := s1.toks) fun b o e => Heap.get?_push_of_some _ e, turn_tuple a _, ⟨_, Heap.get?_push_size _ rfl, rfl, rfl⟩, fun b hb => ?_, q⟩
    have e : b = s1.heap.objs.size := by simpa using hb
    subst e
    exact I1.fpOk (Nat.le_refl _) (I1.hok.fresh (Nat.le_refl _))

/-! ### walks of one thing -/
theorem wj_list {a : Addr} {l : List D} {vs : List V} {wk : Wk} {K : PySem.W.Frag} {Kp : Hp → Prop} (hw : ∀ sh i, liveA sh i wk = some l[i]?) (r : Reps Y.g w l vs) (hq : ∀ b w2 s2 σ2 H2, RSt Y.g b w2 s2 σ2 H2 → Le w w2 → Kp H2 → SqL K H2 a vs) (kp : Kp H)
    (hid : (Kp = fun _ => True) ∨ ∃ i l a vs, wk = .hid i l ∧ (Kp = fun H2 => H2 a = some (.lst vs)) ∧ σ[i]? = some (some (.ref a)) ∧ s.env[i]? = some (.ow (.lst l))) : WJ Y.g w H s σ wk (Itl K a) Kp where
  stop := fun b w2 s2 σ2 H2 i h l2 k e => by
    rw [hw] at e
    have e := Option.some.inj e
    exact ⟨vs, hq b w2 s2 σ2 H2 h l2 k, by rw [← r.length]; exact List.getElem?_eq_none_iff.mp e⟩
  go := fun b w2 s2 σ2 H2 i d h l2 k e => by
    rw [hw] at e
    have e := Option.some.inj e
    obtain ⟨v, ev, rv⟩ := r.get e
    have q := hq b w2 s2 σ2 H2 h l2 k
    refine ⟨⟨vs, v, q, ev⟩, fun x H3 y => ?_⟩
    obtain ⟨rfl, y⟩ := y
    have := y vs q
    rw [ev] at this; cases this
    exact ⟨w2, h, Le.refl, rv.mono l2, .inl rfl⟩
  kp := kp
  hid := hid
theorem wj_tup {a : Addr} {l : List D} {vs : List V} {K : PySem.W.Frag} (r : Reps Y.g w l vs) (hq : ∀ b w2 s2 σ2 H2, RSt Y.g b w2 s2 σ2 H2 → Le w w2 → SqT K H2 a vs) : WJ Y.g w H s σ (.xs l) (Itt K a) (fun _ => True) where
  stop := fun b w2 s2 σ2 H2 i h l2 k e => by
    have e : l[i]? = none := Option.some.inj e
    exact ⟨vs, hq b w2 s2 σ2 H2 h l2, by rw [← r.length]; exact List.getElem?_eq_none_iff.mp e⟩
  go := fun b w2 s2 σ2 H2 i d h l2 k e => by
    have e : l[i]? = some d := Option.some.inj e
    obtain ⟨v, ev, rv⟩ := r.get e
    have q := hq b w2 s2 σ2 H2 h l2
    refine ⟨⟨vs, v, q, ev⟩, fun x H3 y => ?_⟩
    obtain ⟨rfl, y⟩ := y
    have := y vs q
    rw [ev] at this; cases this
    exact ⟨w2, h, Le.refl, rv.mono l2, .inl rfl⟩
  kp := trivial
  hid := .inl rfl
/-- a shared list, as it stands at each turn -/
theorem sh_list {k : Nat} {a : Addr} {l : List D} {b : Ba} {w2 : Wd} {s2 : S} {σ2 : L2.St} {H2 : Hp} (h : RSt Y.g b w2 s2 σ2 H2) (hk : w2.m[k]? = some a) (e : s2.sh.getD k .non = .lst l) : ∃ vs, H2 a = some (.lst vs) ∧ Reps Y.g w2 l vs := by
  have hl : k < s2.sh.length := by rw [← h.rs.st.ml]; exact (List.getElem?_eq_some_iff.mp hk).1
  rw [List.getD_eq_getElem?_getD, List.getElem?_eq_getElem hl] at e
  have e : s2.sh[k] = .lst l := e
  obtain ⟨_, c⟩ := h.rs.st.sh k a (.lst l) hk (by rw [List.getElem?_eq_getElem hl, e])
  exact c.lstI
theorem wj_shl {k : Nat} {a : Addr} {K : PySem.W.Frag} (hk : w.m[k]? = some a) : WJ Y.g w H s σ (.shl k) (Itl K a) (fun _ => True) where
  stop := fun b w2 s2 σ2 H2 i h l2 _ e => by
    have e : (match s2.sh.getD k .non with | .lst xs => some xs[i]? | _ => none) = some none := e
    cases q : s2.sh.getD k .non <;> rw [q] at e <;> simp only [reduceCtorEq, Option.some.injEq] at e
    obtain ⟨vs, hv, r⟩ := sh_list h (l2.at hk) q
    exact ⟨vs, SqL.of hv, by rw [← r.length]; exact List.getElem?_eq_none_iff.mp e⟩
  go := fun b w2 s2 σ2 H2 i d h l2 _ e => by
    have e : (match s2.sh.getD k .non with | .lst xs => some xs[i]? | _ => none) = some (some d) := e
    cases q : s2.sh.getD k .non <;> rw [q] at e <;> simp only [reduceCtorEq, Option.some.injEq] at e
    obtain ⟨vs, hv, r⟩ := sh_list h (l2.at hk) q
    obtain ⟨v, ev, rv⟩ := r.get e
    refine ⟨⟨vs, v, SqL.of hv, ev⟩, fun x H3 y => ?_⟩
    obtain ⟨rfl, y⟩ := y
    have := y vs (SqL.of hv)
    rw [ev] at this; cases this
    exact ⟨w2, h, Le.refl, rv, .inl rfl⟩
  kp := trivial
  hid := .inl rfl
theorem rng_get {lo hi : Int} {i : Nat} : (rangeD lo hi)[i]? = if i < (hi - lo).toNat then some (D.int (lo + i)) else none := by
  unfold rangeD
  rw [List.getElem?_map]
  by_cases h : i < (hi - lo).toNat
  · rw [if_pos h, List.getElem?_range h]; rfl
  · rw [if_neg h, List.getElem?_eq_none (by simpa using h)]; rfl
theorem wj_rng {lo hi : Int} : WJ Y.g w H s σ (.xs (rangeD lo hi)) (Itr lo (hi - lo).toNat) (fun _ => True) where
  stop := fun b w2 s2 σ2 H2 i h l2 _ e => by
    have e : (rangeD lo hi)[i]? = none := Option.some.inj e
    rw [rng_get] at e
    split at e
    · cases e
    · rename_i q; exact Nat.le_of_not_lt q
  go := fun b w2 s2 σ2 H2 i d h l2 _ e => by
    have e : (rangeD lo hi)[i]? = some d := Option.some.inj e
    rw [rng_get] at e
    split at e
    · cases e
      refine ⟨by assumption, fun x H3 y => ?_⟩
      obtain ⟨rfl, rfl⟩ := y
      exact ⟨w2, h, Le.refl, .int, .inl rfl⟩
    · cases e
  kp := trivial
  hid := .inl rfl

/-! ### their readings -/
theorem frz_sq {g : Gl} {l : List D} {v : V} {d : D} (r : Rep g w d v) (e : items d = some l) : ∃ a vs, v = .ref a ∧ Reps g w l vs ∧ ((itemsL d = some l ∧ ∀ b w2 s2 σ2 H2, RSt g b w2 s2 σ2 H2 → Le w w2 → SqL g.K H2 a vs) ∨ (itemsT d = some l ∧ ∀ b w2 s2 σ2 H2, RSt g b w2 s2 σ2 H2 → Le w w2 → SqT g.K H2 a vs)) := by
  cases r with
  | tup q r => cases e; exact ⟨_, _, rfl, r, .inr ⟨rfl, fun b w2 s2 σ2 H2 h l => h.rs.st.sqT (SqT.mono l.F q)⟩⟩
  | lst q r => cases e; exact ⟨_, _, rfl, r, .inl ⟨rfl, fun b w2 s2 σ2 H2 h l => SqL.of (h.rs.st.subN (l.F _ _ q) fun z => z)⟩⟩
  | ro q r => cases e; exact ⟨_, _, rfl, r, .inl ⟨rfl, fun b w2 s2 σ2 H2 h l => h.rs.st.sqL (SqL.mono l.F q)⟩⟩
  | _ => cases e
theorem rdIt_seq (hK : X.K = Y.g.K) {e : B} {hid : Bool} {R : L2.It → Hp → Prop} (q : rdIt Y (.seq e hid) σ H R) : iSeq X.K (rdB Y e) σ H R := by
  obtain ⟨w, s, h, p⟩ := q
  unfold evIt at p
  refine rd1 h p fun x s1 w1 H1 v h1 l1 rx p1 => ?_
  have frz : ∀ {d : D} {l : List D} {w1 : Wd} {s1 : S}, RSt Y.g Y.b w1 s1 σ H1 → Le w w1 → Rep Y.g w1 d v → items d = some l → (∀ w' H' J Kp, RSt Y.g Y.b w' s1 σ H' → Le w w' → WJ Y.g w' H' s1 σ (.xs l) J Kp → R J H') → ∃ a, v = .ref a ∧ ((∃ xs, SqL X.K H1 a xs ∧ R (Itl X.K a) H1) ∨ ∃ xs, SqT X.K H1 a xs ∧ R (Itt X.K a) H1) := fun {d l w1 s1} h1 l1 r e k => by
    obtain ⟨a, vs, rfl, rs, z⟩ := frz_sq r e
    rw [hK]
    rcases z with ⟨_, z⟩ | ⟨_, z⟩
    · exact ⟨a, rfl, .inl ⟨vs, z _ _ _ _ _ h1 Le.refl, k w1 H1 _ (fun _ => True) h1 l1 (wj_list (fun _ _ => rfl) rs (fun b w2 s2 σ2 H2 h l _ => z b w2 s2 σ2 H2 h l) trivial (.inl rfl))⟩⟩
    · exact ⟨a, rfl, .inr ⟨vs, z _ _ _ _ _ h1 Le.refl, k w1 H1 _ (fun _ => True) h1 l1 (wj_tup rs z)⟩⟩
  unfold wkOf at p1
  cases x with
  | sl i =>
    cases rx with
    | sl hv =>
      cases e1 : s1.get i with
      | un => simp only [e1] at p1; exact p1.elim
      | fr d => simp only [e1] at p1; exact p1.elim
      | ow d =>
        simp only [e1] at p1
        cases e2 : items d with
        | none => simp only [e2] at p1; exact p1.elim
        | some l =>
          simp only [e2] at p1
          cases hid with
          | false =>
            obtain ⟨w2, a, ea, h2, l2, r2⟩ := h1.freezeS (get_ow e1)
            rw [hv] at ea; cases ea
            exact frz h2 (l1.trans l2) r2 e2 p1
          | true =>
            cases d with
            | lst xs =>
              cases e2
              obtain ⟨a, ea, f, m, c⟩ := h1.rs.ow i _ (get_ow e1)
              rw [hv] at ea; cases ea
              obtain ⟨vs, hl, rs⟩ := c.lstI
              refine ⟨a, rfl, .inl ⟨vs, SqL.of hl, p1 w1 H1 _ (fun H2 => H2 a = some (.lst vs)) h1 l1 (wj_list (fun _ _ => rfl) rs (fun b w2 s2 σ2 H2 h l k => SqL.of k) hl (.inr ⟨i, _, a, vs, rfl, rfl, hv, get_ow e1⟩))⟩⟩
            | _ => exact p1.elim
  | v d =>
    cases rx with
    | v r =>
      by_cases hs : ∃ k, d = .sh k
      · obtain ⟨k, rfl⟩ := hs
        simp only at p1
        cases e2 : s1.sh.getD k .non <;> rw [e2] at p1 <;> try exact p1.elim
        cases r with
        | sh hk =>
          rename_i a
          obtain ⟨vs, hv, rs⟩ := sh_list h1 hk e2
          exact ⟨a, rfl, .inl ⟨vs, SqL.of hv, p1 w1 H1 _ (fun _ => True) h1 l1 (wj_shl hk)⟩⟩
      · cases e2 : items d with
        | none =>
          cases d <;> first | exact absurd ⟨_, rfl⟩ hs | (simp only [e2] at p1; exact p1.elim)
        | some l =>
          cases d <;> first | exact absurd ⟨_, rfl⟩ hs | (simp only [e2] at p1; exact frz h1 l1 r e2 p1) | cases e2
theorem rdIt_rng1 {e : B} {R : L2.It → Hp → Prop} (q : rdIt Y (.rng1 e) σ H R) : iRng1 (tCons (rdB Y e) tNil) σ H R := by
  obtain ⟨w, s, h, p⟩ := q
  unfold evIt at p
  refine rd1 h p fun x s1 w1 H1 v h1 l1 rx p1 => ?_
  cases e1 : cont s1 x with
  | none => simp only [e1] at p1; exact p1.elim
  | some d =>
    cases d <;> simp only [e1] at p1 <;> try exact p1.elim
    rename_i j
    by_cases hr : rngOk j = true
    · rw [if_pos hr] at p1
      have hr' := of_decide_eq_true hr
      refine ⟨j, by rw [(h1.cont rx e1).intI], hr'.1, hr'.2, ?_⟩
      have z := p1 w1 H1 (Itr 0 (j - 0).toNat) (fun _ => True) h1 l1 wj_rng
      rw [Int.sub_zero] at z
      exact z
    · rw [if_neg hr] at p1; exact p1.elim
theorem rdIt_rng2 {a b : B} {R : L2.It → Hp → Prop} (q : rdIt Y (.rng2 a b) σ H R) : iRng2 (tCons (rdB Y a) (tCons (rdB Y b) tNil)) σ H R := by
  obtain ⟨w, s, h, p⟩ := q
  unfold evIt at p
  refine rd2 h p fun x y s1 w1 H1 v v' h1 l1 rx ry p1 => ?_
  cases e1 : cont s1 x with
  | none => simp only [e1] at p1; exact p1.elim
  | some d =>
    cases e2 : cont s1 y with
    | none => cases d <;> (simp only [e1, e2] at p1; exact p1.elim)
    | some d' =>
      cases d <;> cases d' <;> simp only [e1, e2] at p1 <;> try exact p1.elim
      rename_i i j
      by_cases hr : (rngOk i && rngOk j) = true
      · rw [if_pos hr] at p1
        rw [Bool.and_eq_true] at hr
        have h1' := of_decide_eq_true hr.1
        have h2' := of_decide_eq_true hr.2
        refine ⟨i, j, by rw [(h1.cont rx e1).intI, (h1.cont ry e2).intI], ⟨h1'.1, h1'.2, h2'.1, h2'.2⟩, ?_⟩
        exact p1 w1 H1 (Itr i (j - i).toNat) (fun _ => True) h1 l1 wj_rng
      · rw [if_neg hr] at p1; exact p1.elim
/-! ### zip, enumerate -/
theorem zip_get : ∀ {xs ys : List D} {i : Nat}, (zipD xs ys)[i]? = (match xs[i]?, ys[i]? with | some x, some y => some (.tup [x, y]) | _, _ => none)
  | [], ys, i => by cases ys <;> simp [zipD]
  | x :: xs, [], i => by simp [zipD]
  | x :: xs, y :: ys, 0 => by simp [zipD]
  | x :: xs, y :: ys, i + 1 => by
    have := zip_get (xs := xs) (ys := ys) (i := i)
    simpa [zipD] using this
theorem enm_get : ∀ {xs : List D} {n i : Nat}, (enmD n xs)[i]? = (xs[i]?).map fun x => .tup [.int ((n + i : Nat) : Int), x]
  | [], n, i => by simp [enmD]
  | x :: xs, n, 0 => by simp [enmD]
  | x :: xs, n, i + 1 => by
    have := enm_get (xs := xs) (n := n + 1) (i := i)
    have e : n + 1 + i = n + (i + 1) := by omega
    rw [e] at this
    simpa [enmD] using this
/-- a list at each turn: its data by the store -/
def listAt (d : D) (sh : List D) : Option (List D) := itemsL (vw sh d)
theorem list_at {d : D} {v : V} {b : Ba} {w2 : Wd} {s2 : S} {σ2 : L2.St} {H2 : Hp} {l : List D} (h : RSt Y.g b w2 s2 σ2 H2) (r : Rep Y.g w2 d v) (e : listAt d s2.sh = some l) : ∃ a vs, v = .ref a ∧ SqL Y.g.K H2 a vs ∧ Reps Y.g w2 l vs := by
  unfold listAt at e
  have c := h.rs.st.vw r
  revert c e
  generalize vw s2.sh d = d'
  intro e c
  cases c with
  | lst q r => cases e; exact ⟨_, _, rfl, SqL.of q, r⟩
  | ro q r => cases e; exact ⟨_, _, rfl, q, r⟩
  | _ => cases e
theorem pair_new {g : Gl} {b : Ba} {w2 : Wd} {s2 : S} {σ2 : L2.St} {H2 : Hp} {x y : D} {vx vy : V} {T : Addr} (h : RSt g b w2 s2 σ2 H2) (hT : H2 T = none) (rx : Rep g w2 x vx) (ry : Rep g w2 y vy) :
    ∃ w3, RSt g b w3 s2 σ2 (upd H2 T (.tup [vx, vy])) ∧ Le w2 w3 ∧ Rep g w3 (.tup [x, y]) (.ref T) ∧ (upd H2 T (.tup [vx, vy]) = H2 ∨ ∃ T' o, H2 T' = none ∧ upd H2 T (.tup [vx, vy]) = upd H2 T' o) := by
  obtain ⟨h3, l3⟩ := h.layF (o := .tup [vx, vy]) hT
  exact ⟨_, h3, l3, .tup (SqT.of upd_same) (.cons (rx.mono l3) (.cons (ry.mono l3) .nil)), .inr ⟨T, _, hT, rfl⟩⟩
/-- zip of two lists, by what they are at each turn -/
theorem wj_zip {da db : D} {va vb : V} {a b : Addr} {wk : Wk} (ra : Rep Y.g w da va) (rb : Rep Y.g w db vb) (ea : va = .ref a) (eb : vb = .ref b)
    (hs : ∀ sh i, liveA sh i wk = some none → ∃ xs ys, listAt da sh = some xs ∧ listAt db sh = some ys ∧ (xs[i]? = none ∨ ys[i]? = none))
    (hg : ∀ sh i d, liveA sh i wk = some (some d) → ∃ xs ys x y, listAt da sh = some xs ∧ listAt db sh = some ys ∧ xs[i]? = some x ∧ ys[i]? = some y ∧ d = .tup [x, y]) : WJ Y.g w H s σ wk (Itz Y.g.K a b) (fun _ => True) where
  stop := fun bb w2 s2 σ2 H2 i h l2 _ e => by
    obtain ⟨xs, ys, e1, e2, e3⟩ := hs _ _ e
    obtain ⟨a', vs, z1, q1, r1⟩ := list_at h (ra.mono l2) e1
    obtain ⟨b', us, z2, q2, r2⟩ := list_at h (rb.mono l2) e2
    rw [ea] at z1; cases z1
    rw [eb] at z2; cases z2
    refine ⟨vs, us, q1, q2, ?_⟩
    rcases e3 with e3 | e3
    · exact .inl (by rw [← r1.length]; exact List.getElem?_eq_none_iff.mp e3)
    · exact .inr (by rw [← r2.length]; exact List.getElem?_eq_none_iff.mp e3)
  go := fun bb w2 s2 σ2 H2 i d h l2 _ e => by
    obtain ⟨xs, ys, x, y, e1, e2, e3, e4, rfl⟩ := hg _ _ _ e
    obtain ⟨a', vs, z1, q1, r1⟩ := list_at h (ra.mono l2) e1
    obtain ⟨b', us, z2, q2, r2⟩ := list_at h (rb.mono l2) e2
    rw [ea] at z1; cases z1
    rw [eb] at z2; cases z2
    obtain ⟨vx, ex, rx⟩ := r1.get e3
    obtain ⟨vy, ey, ry⟩ := r2.get e4
    refine ⟨⟨vs, us, vx, vy, q1, q2, ex, ey⟩, fun v H3 z => ?_⟩
    obtain ⟨T, x', y', rfl, hT, rfl, k1, k2⟩ := z
    have k1 := k1 vs q1
    have k2 := k2 us q2
    rw [ex] at k1; cases k1
    rw [ey] at k2; cases k2
    exact pair_new h hT rx ry
  kp := trivial
  hid := .inl rfl
theorem wj_zipT {a b : Addr} {xs ys : List D} {vs us : List V} (r1 : Reps Y.g w xs vs) (r2 : Reps Y.g w ys us) (hq1 : ∀ b w2 s2 σ2 H2, RSt Y.g b w2 s2 σ2 H2 → Le w w2 → SqT Y.g.K H2 a vs) (hq2 : ∀ bb w2 s2 σ2 H2, RSt Y.g bb w2 s2 σ2 H2 → Le w w2 → SqT Y.g.K H2 b us) :
    WJ Y.g w H s σ (.xs (zipD xs ys)) (RZ.ItzT Y.g.K a b) (fun _ => True) where
  stop := fun bb w2 s2 σ2 H2 i h l2 _ e => by
    have e : (zipD xs ys)[i]? = none := Option.some.inj e
    rw [zip_get] at e
    refine ⟨vs, us, hq1 _ _ _ _ _ h l2, hq2 _ _ _ _ _ h l2, ?_⟩
    cases e1 : xs[i]? with
    | none => exact .inl (by rw [← r1.length]; exact List.getElem?_eq_none_iff.mp e1)
    | some x =>
      cases e2 : ys[i]? with
      | none => exact .inr (by rw [← r2.length]; exact List.getElem?_eq_none_iff.mp e2)
      | some y => rw [e1, e2] at e; cases e
  go := fun bb w2 s2 σ2 H2 i d h l2 _ e => by
    have e : (zipD xs ys)[i]? = some d := Option.some.inj e
    rw [zip_get] at e
    cases e1 : xs[i]? with
    | none => rw [e1] at e; cases e
    | some x =>
      cases e2 : ys[i]? with
      | none => rw [e1, e2] at e; cases e
      | some y =>
        rw [e1, e2] at e; cases e
        obtain ⟨vx, ex, rx⟩ := r1.get e1
        obtain ⟨vy, ey, ry⟩ := r2.get e2
        have q1 := hq1 _ _ _ _ _ h l2
        have q2 := hq2 _ _ _ _ _ h l2
        refine ⟨⟨vs, us, vx, vy, q1, q2, ex, ey⟩, fun v H3 z => ?_⟩
        obtain ⟨T, x', y', rfl, hT, rfl, k1, k2⟩ := z
        have k1 := k1 vs q1
        have k2 := k2 us q2
        rw [ex] at k1; cases k1
        rw [ey] at k2; cases k2
        exact pair_new h hT (rx.mono l2) (ry.mono l2)
  kp := trivial
  hid := .inl rfl
theorem nsh_vw {sh : List D} {d : D} (n : isSh d = false) : vw sh d = d := by
  cases d <;> first | rfl | cases n
theorem itemsL_items {d : D} {l : List D} (e : itemsL d = some l) : items d = some l := by cases d <;> first | exact e | cases e
theorem itemsT_items {d : D} {l : List D} (e : itemsT d = some l) : items d = some l := by cases d <;> first | exact e | cases e
theorem itemsT_not {d : D} {l : List D} (e : itemsT d = some l) : itemsL d = none := by cases d <;> first | rfl | cases e
theorem rdIt_zip (hK : X.K = Y.g.K) {es : Es} {R : L2.It → Hp → Prop} (q : rdIt Y (.zip es) σ H R) : RZ.iZipA X.K (rdEs Y es) σ H R := by
  obtain ⟨w, s, h, p⟩ := q
  unfold evIt at p
  rw [post_bind] at p
  refine ⟨w, s, h, p.mono (fun ds s1 p1 w1 H1 vs h1 l1 rs => ?_) fun _ _ _ z => z⟩
  rw [hK]
  rcases rs with _ | ⟨r1, rs⟩
  · exact p1.elim
  rcases rs with _ | ⟨r2, rs⟩
  · exact p1.elim
  rcases rs with _ | ⟨r3, rs⟩
  rotate_left
  · exact p1.elim
  rename_i dx vx dy vy
  by_cases hs : (isSh dx || isSh dy) = true
  · simp only [hs, if_true] at p1
    cases e1 : itemsL (vw s1.sh dx) with
    | none => simp only [e1] at p1; exact p1.elim
    | some xs =>
      cases e2 : itemsL (vw s1.sh dy) with
      | none => simp only [e1, e2] at p1; exact p1.elim
      | some ys =>
        simp only [e1, e2] at p1
        obtain ⟨a, vs, rfl, q1, _⟩ := list_at h1 r1 e1
        obtain ⟨b, us, rfl, q2, _⟩ := list_at h1 r2 e2
        refine ⟨a, b, vs, us, rfl, .inl ⟨q1, q2, p1 w1 H1 _ _ h1 l1 (wj_zip r1 r2 rfl rfl (fun sh i e => ?_) fun sh i d e => ?_)⟩⟩
        · have e : (match itemsL (vw sh dx), itemsL (vw sh dy) with | some xs, some ys => some (match xs[i]?, ys[i]? with | some x, some y => some (D.tup [x, y]) | _, _ => none) | _, _ => none) = some none := e
          unfold listAt
          cases e3 : itemsL (vw sh dx) with
          | none => rw [e3] at e; cases e
          | some xs =>
            cases e4 : itemsL (vw sh dy) with
            | none => rw [e3, e4] at e; cases e
            | some ys =>
              rw [e3, e4] at e
              refine ⟨xs, ys, rfl, rfl, ?_⟩
              cases e5 : xs[i]? with
              | none => exact .inl rfl
              | some x =>
                cases e6 : ys[i]? with
                | none => exact .inr rfl
                | some y => simp only [e5, e6] at e; cases e
        · have e : (match itemsL (vw sh dx), itemsL (vw sh dy) with | some xs, some ys => some (match xs[i]?, ys[i]? with | some x, some y => some (D.tup [x, y]) | _, _ => none) | _, _ => none) = some (some d) := e
          unfold listAt
          cases e3 : itemsL (vw sh dx) with
          | none => rw [e3] at e; cases e
          | some xs =>
            cases e4 : itemsL (vw sh dy) with
            | none => rw [e3, e4] at e; cases e
            | some ys =>
              rw [e3, e4] at e
              cases e5 : xs[i]? with
              | none => simp only [e5] at e; cases e
              | some x =>
                cases e6 : ys[i]? with
                | none => simp only [e5, e6] at e; cases e
                | some y => simp only [e5, e6] at e; cases e; exact ⟨xs, ys, x, y, rfl, rfl, e5, e6, rfl⟩
  · have hs : (isSh dx || isSh dy) = false := by simpa using hs
    have hs2 := hs
    rw [Bool.or_eq_false_iff] at hs2
    simp only [hs] at p1
    have lists : ∀ xs ys, itemsL dx = some xs → itemsL dy = some ys → Post (Res.ok (Wk.xs (zipD xs ys)) s1) (fun wk s' => ∀ w' H' J Kp, RSt Y.g Y.b w' s' σ H' → Le w w' → WJ Y.g w' H' s' σ wk J Kp → R J H') (X3 Y) → ∃ a b xs ys, [vx, vy] = [V.ref a, V.ref b] ∧ ((SqL Y.g.K H1 a xs ∧ SqL Y.g.K H1 b ys ∧ R (Itz Y.g.K a b) H1) ∨ (SqT Y.g.K H1 a xs ∧ SqT Y.g.K H1 b ys ∧ R (RZ.ItzT Y.g.K a b) H1)) := fun xs ys e1 e2 p1 => by
      obtain ⟨a, vs, rfl, q1, _⟩ := list_at h1 r1 (show listAt dx s1.sh = some xs by unfold listAt; rw [nsh_vw hs2.1]; exact e1)
      obtain ⟨b, us, rfl, q2, _⟩ := list_at h1 r2 (show listAt dy s1.sh = some ys by unfold listAt; rw [nsh_vw hs2.2]; exact e2)
      refine ⟨a, b, vs, us, rfl, .inl ⟨q1, q2, p1 w1 H1 _ _ h1 l1 (wj_zip r1 r2 rfl rfl (fun sh i e => ?_) fun sh i d e => ?_)⟩⟩
      · have e : (zipD xs ys)[i]? = none := Option.some.inj e
        rw [zip_get] at e
        refine ⟨xs, ys, by unfold listAt; rw [nsh_vw hs2.1]; exact e1, by unfold listAt; rw [nsh_vw hs2.2]; exact e2, ?_⟩
        cases e5 : xs[i]? with
        | none => exact .inl rfl
        | some x =>
          cases e6 : ys[i]? with
          | none => exact .inr rfl
          | some y => rw [e5, e6] at e; cases e
      · have e : (zipD xs ys)[i]? = some d := Option.some.inj e
        rw [zip_get] at e
        cases e5 : xs[i]? with
        | none => rw [e5] at e; cases e
        | some x =>
          cases e6 : ys[i]? with
          | none => rw [e5, e6] at e; cases e
          | some y => rw [e5, e6] at e; cases e; exact ⟨xs, ys, x, y, by unfold listAt; rw [nsh_vw hs2.1]; exact e1, by unfold listAt; rw [nsh_vw hs2.2]; exact e2, e5, e6, rfl⟩
    have tups : Post (match itemsT dx, itemsT dy with | some xs, some ys => Res.ok (Wk.xs (zipD xs ys)) s1 | _, _ => .er) (fun wk s' => ∀ w' H' J Kp, RSt Y.g Y.b w' s' σ H' → Le w w' → WJ Y.g w' H' s' σ wk J Kp → R J H') (X3 Y) → ∃ a b xs ys, [vx, vy] = [V.ref a, V.ref b] ∧ ((SqL Y.g.K H1 a xs ∧ SqL Y.g.K H1 b ys ∧ R (Itz Y.g.K a b) H1) ∨ (SqT Y.g.K H1 a xs ∧ SqT Y.g.K H1 b ys ∧ R (RZ.ItzT Y.g.K a b) H1)) := fun p1 => by
      cases e1 : itemsT dx with
      | none => simp only [e1] at p1; exact p1.elim
      | some xs =>
        cases e2 : itemsT dy with
        | none => simp only [e1, e2] at p1; exact p1.elim
        | some ys =>
          simp only [e1, e2] at p1
          obtain ⟨a, vs, rfl, rx, z1⟩ := frz_sq r1 (itemsT_items e1)
          obtain ⟨b, us, rfl, ry, z2⟩ := frz_sq r2 (itemsT_items e2)
          rcases z1 with ⟨z, _⟩ | ⟨_, z1⟩
          · rw [itemsT_not e1] at z; cases z
          · rcases z2 with ⟨z, _⟩ | ⟨_, z2⟩
            · rw [itemsT_not e2] at z; cases z
            · exact ⟨a, b, vs, us, rfl, .inr ⟨z1 _ _ _ _ _ h1 Le.refl, z2 _ _ _ _ _ h1 Le.refl, p1 w1 H1 _ _ h1 l1 (wj_zipT rx ry z1 z2)⟩⟩
    cases e1 : itemsL dx with
    | none => simp only [e1] at p1; exact tups p1
    | some xs =>
      cases e2 : itemsL dy with
      | none => simp only [e1, e2] at p1; exact tups p1
      | some ys => simp only [e1, e2] at p1; exact lists xs ys e1 e2 p1
end
end Ev
end
section
set_option linter.all false
set_option maxRecDepth 100000
set_option maxHeartbeats 1000000
/-! Sound6: for. -/
namespace Ev
open PySem PySem.Spec PyProof.Rows L2
/-- the rest of a loop, from the i-th place; n measures it -/
def forR (f : D → S → Out) (wk : Wk) (i n : Nat) (s : S) : Out := match wk with
  | .xs l => forL f (l.drop i) s
  | .hid _ _ => .er
  | w => forS f w n i s
def msr (wk : Wk) (i n : Nat) : Nat := match wk with
  | .xs l => l.length - i
  | _ => n
theorem forR_step {f : D → S → Out} {wk : Wk} {i n : Nat} {s : S} {N : S → Prop} {R : Rv → S → Prop} {Bk Ct : S → Prop} {Xw : Nat → List D → S → Prop} (h : PostO (forR f wk i n s) N R Bk Ct Xw) :
    ∃ o, liveA s.sh i wk = some o ∧ (o = none → N s) ∧ ∀ x, o = some x → ∃ n', msr wk (i + 1) n' < msr wk i n ∧ PostO (f x s) (fun s1 => PostO (forR f wk (i + 1) n' s1) N R Bk Ct Xw) R N (fun s1 => PostO (forR f wk (i + 1) n' s1) N R Bk Ct Xw) Xw := by
  have main : ∀ (x : D) (k : S → Out), PostO (match f x s with | .nx s1 => k s1 | .ct s1 => k s1 | .bk s1 => .nx s1 | o => o) N R Bk Ct Xw → PostO (f x s) (fun s1 => PostO (k s1) N R Bk Ct Xw) R N (fun s1 => PostO (k s1) N R Bk Ct Xw) Xw := fun x k h => by
    cases e : f x s <;> rw [e] at h <;> exact h
  have lv : ∀ (n : Nat), (∀ l, wk ≠ .xs l) → (∀ j l, wk ≠ .hid j l) → PostO (forS f wk n i s) N R Bk Ct Xw → (∀ m s, forR f wk (i + 1) m s = forS f wk m (i + 1) s) → (∀ i n, msr wk i n = n) →
      ∃ o, live s.sh i wk = some o ∧ (o = none → N s) ∧ ∀ x, o = some x → ∃ n', msr wk (i + 1) n' < n ∧ PostO (f x s) (fun s1 => PostO (forR f wk (i + 1) n' s1) N R Bk Ct Xw) R N (fun s1 => PostO (forR f wk (i + 1) n' s1) N R Bk Ct Xw) Xw := fun n h1 h2 h hf hm => by
    cases n with
    | zero => exact h.elim
    | succ n =>
      unfold forS at h
      cases e : live s.sh i wk with
      | none => rw [e] at h; exact h.elim
      | some o =>
        rw [e] at h
        refine ⟨o, rfl, fun z => ?_, fun x z => ?_⟩
        · subst z; exact h
        · subst z
          refine ⟨n, by rw [hm]; exact Nat.lt_succ_self n, ?_⟩
          have := main x (fun s1 => forS f wk n (i + 1) s1) h
          simp only [hf]
          exact this
  cases wk with
  | hid j l => exact h.elim
  | xs l =>
    refine ⟨l[i]?, rfl, fun z => ?_, fun x z => ?_⟩
    · have e : l.drop i = [] := List.drop_eq_nil_of_le (List.getElem?_eq_none_iff.mp z)
      have h : PostO (forL f (l.drop i) s) N R Bk Ct Xw := h
      rw [e] at h
      exact h
    · have hi := (List.getElem?_eq_some_iff.mp z).1
      have hx := (List.getElem?_eq_some_iff.mp z).2
      have e : l.drop i = x :: l.drop (i + 1) := by rw [List.drop_eq_getElem_cons hi, hx]
      have h : PostO (forL f (l.drop i) s) N R Bk Ct Xw := h
      rw [e] at h
      exact ⟨0, by show l.length - (i + 1) < l.length - i; omega, main x _ h⟩
  | shl k => exact lv n (fun _ z => by cases z) (fun _ _ z => by cases z) h (fun _ _ => rfl) fun _ _ => rfl
  | zsh a b => exact lv n (fun _ z => by cases z) (fun _ _ z => by cases z) h (fun _ _ => rfl) fun _ _ => rfl
  | esh a => exact lv n (fun _ z => by cases z) (fun _ _ z => by cases z) h (fun _ _ => rfl) fun _ _ => rfl
section
variable {X : Cx} {Y : Cy} {σ : L2.St} {H : Hp} {w : Wd} {s : S}
theorem rd_for {tg : Tg} {it : Ev.It} {bd : Ss} {D : Ends} (q : rdS Y (.for tg it bd) D σ H) : tFor (rdIt Y it) (rdG Y (fun _ => True) 9 tg) (rdSs Y bd) D σ H := by
  obtain ⟨w, s, h, p⟩ := q
  unfold exS at p
  rw [post_out] at p
  refine ⟨w, s, h, p.mono (fun wk s1 p1 w1 H1 J Kp h1 l1 wj => ?_) fun _ _ _ z => z⟩
  have p1 : PostO (forR (fun x s2 => match bindT 9 tg (.fr x) s2 with | some s3 => exSs Y.C bd s3 | none => .er) wk 0 Y.C.fuel s1) (KN Y w D.nx) (KT Y w D.rt) (KN Y w D.bk) (KN Y w D.ct) (X3 Y) := by
    cases wk <;> exact p1
  have nh : noHid wk := by
    cases wk with
    | hid j l => exact p1.elim
    | _ => exact trivial
  have hkp := wj.all nh
  subst hkp
  generalize hf : (fun (x : Ev.D) (s2 : S) => (match bindT 9 tg (.fr x) s2 with | some s3 => exSs Y.C bd s3 | none => .er : Out)) = f at p1
  refine ⟨fun i m σ' H' => ∃ w2 s2 n, m = msr wk i n ∧ Le w1 w2 ∧ RSt Y.g Y.b w2 s2 σ' H' ∧ PostO (forR f wk i n s2) (KN Y w2 D.nx) (KT Y w2 D.rt) (KN Y w2 D.bk) (KN Y w2 D.ct) (X3 Y), ⟨_, w1, s1, _, rfl, Le.refl, h1, endLe l1 p1⟩, ?_⟩
  rintro i m σ2 H2 ⟨w2, s2, n, rfl, l2, h2, p2⟩
  obtain ⟨o, e1, e2, e3⟩ := forR_step p2
  cases o with
  | none => exact .inl ⟨wj.stop _ _ _ _ _ _ h2 l2 trivial e1, e2 rfl w2 H2 σ2 h2 Le.refl⟩
  | some x =>
    obtain ⟨go, yl⟩ := wj.go _ _ _ _ _ _ _ h2 l2 trivial e1
    obtain ⟨n', hn, p3⟩ := e3 x rfl
    refine .inr ⟨go, fun σ' H' => ∃ w4 s4, Le w1 w4 ∧ RSt Y.g Y.b w4 s4 σ' H' ∧ PostO (forR f wk (i + 1) n' s4) (KN Y w4 D.nx) (KT Y w4 D.rt) (KN Y w4 D.bk) (KN Y w4 D.ct) (X3 Y), fun σ' H' ⟨w4, s4, l4, h4, p4⟩ => ⟨_, hn, w4, s4, n', rfl, l4, h4, p4⟩, fun v H3 y => ?_⟩
    obtain ⟨w3, h3, l3, r3, _⟩ := yl v H3 y
    have e0 : f x s2 = (match bindT 9 tg (.fr x) s2 with | some s3 => exSs Y.C bd s3 | none => .er) := by rw [← hf]
    rw [e0] at p3
    cases e4 : bindT 9 tg (.fr x) s2 with
    | none => simp only [e4] at p3; exact p3.elim
    | some s3 =>
      simp only [e4] at p3
      refine ⟨trivial, w3, s2, .fr x, h3, .fr r3, s3, e4, fun w4 H4 σ4 h4 l4 _ => ⟨w4, s3, h4, ?_⟩⟩
      have l24 := l3.trans l4
      refine PostO.mono p3 (fun s5 k w5 H5 σ5 h5 l5 => ?_) (fun r s5 k => k.le l24) (fun s5 k => k.le l24) (fun s5 k w5 H5 σ5 h5 l5 => ?_) fun _ _ _ z => z
      · exact ⟨w5, s5, ((l2.trans l24).trans l5), h5, endLe (l24.trans l5) k⟩
      · exact ⟨w5, s5, ((l2.trans l24).trans l5), h5, endLe (l24.trans l5) k⟩
end
end Ev
end
section
set_option linter.all false
set_option maxRecDepth 100000
set_option maxHeartbeats 1000000
/-! Sound7: comprehensions. -/
namespace Ev
open PySem PySem.Spec PyProof.Rows L2
def compR (f : D → S → Res (Option D)) (wk : Wk) (i n : Nat) (acc : List D) (s : S) : Res (List D) := match wk with
  | .xs l => compL f (l.drop i) acc s
  | .hid _ l => compL f (l.drop i) acc s
  | w => compS f w n i acc s
def msr2 (wk : Wk) (i n : Nat) : Nat := match wk with
  | .xs l => l.length - i
  | .hid _ l => l.length - i
  | _ => n
theorem compR_step {f : D → S → Res (Option D)} {wk : Wk} {i n : Nat} {acc : List D} {s : S} {P : List D → S → Prop} {Xw : Nat → List D → S → Prop} (h : Post (compR f wk i n acc s) P Xw) :
    ∃ o, liveA s.sh i wk = some o ∧ (o = none → P acc s) ∧ ∀ x, o = some x → ∃ n', msr2 wk (i + 1) n' < msr2 wk i n ∧ Post (f x s) (fun r s1 => match r with
      | some d => acc.length < sizeLine ∧ Post (compR f wk (i + 1) n' (acc ++ [d]) s1) P Xw
      | none => Post (compR f wk (i + 1) n' acc s1) P Xw) Xw := by
  have main : ∀ (x : D) (k : List D → S → Res (List D)), Post ((f x s).bind fun o s1 => match o with | some d => if acc.length < sizeLine then k (acc ++ [d]) s1 else .er | none => k acc s1) P Xw →
      Post (f x s) (fun r s1 => match r with | some d => acc.length < sizeLine ∧ Post (k (acc ++ [d]) s1) P Xw | none => Post (k acc s1) P Xw) Xw := fun x k h => by
    rw [post_bind] at h
    refine h.mono (fun r s1 q => ?_) fun _ _ _ z => z
    cases r with
    | none => exact q
    | some d =>
      have q : Post (if acc.length < sizeLine then k (acc ++ [d]) s1 else .er) P Xw := q
      by_cases hz : acc.length < sizeLine
      · rw [if_pos hz] at q; exact ⟨hz, q⟩
      · rw [if_neg hz] at q; exact q.elim
  have ls : ∀ (l : List D), (∀ m acc s, compR f wk (i + 1) m acc s = compL f (l.drop (i + 1)) acc s) → (∀ i n, msr2 wk i n = l.length - i) → Post (compL f (l.drop i) acc s) P Xw →
      ∃ o, some l[i]? = some o ∧ (o = none → P acc s) ∧ ∀ x, o = some x → ∃ n', msr2 wk (i + 1) n' < msr2 wk i n ∧ Post (f x s) (fun r s1 => match r with
      | some d => acc.length < sizeLine ∧ Post (compR f wk (i + 1) n' (acc ++ [d]) s1) P Xw
      | none => Post (compR f wk (i + 1) n' acc s1) P Xw) Xw := fun l hc hm h => by
    refine ⟨l[i]?, rfl, fun z => ?_, fun x z => ?_⟩
    · have e : l.drop i = [] := List.drop_eq_nil_of_le (List.getElem?_eq_none_iff.mp z)
      rw [e] at h
      exact h
    · have hi := (List.getElem?_eq_some_iff.mp z).1
      have hx := (List.getElem?_eq_some_iff.mp z).2
      have e : l.drop i = x :: l.drop (i + 1) := by rw [List.drop_eq_getElem_cons hi, hx]
      rw [e] at h
      refine ⟨0, by rw [hm, hm]; omega, ?_⟩
      simp only [hc]
      exact main x (fun acc s => compL f (l.drop (i + 1)) acc s) h
  have lv : ∀ (n : Nat), (∀ m acc s, compR f wk (i + 1) m acc s = compS f wk m (i + 1) acc s) → (∀ i n, msr2 wk i n = n) → Post (compS f wk n i acc s) P Xw →
      ∃ o, live s.sh i wk = some o ∧ (o = none → P acc s) ∧ ∀ x, o = some x → ∃ n', msr2 wk (i + 1) n' < n ∧ Post (f x s) (fun r s1 => match r with
      | some d => acc.length < sizeLine ∧ Post (compR f wk (i + 1) n' (acc ++ [d]) s1) P Xw
      | none => Post (compR f wk (i + 1) n' acc s1) P Xw) Xw := fun n hc hm h => by
    cases n with
    | zero => exact h.elim
    | succ n =>
      unfold compS at h
      cases e : live s.sh i wk with
      | none => rw [e] at h; exact h.elim
      | some o =>
        rw [e] at h
        refine ⟨o, rfl, fun z => ?_, fun x z => ?_⟩
        · subst z; exact h
        · subst z
          refine ⟨n, by rw [hm]; exact Nat.lt_succ_self n, ?_⟩
          simp only [hc]
          exact main x (fun acc s => compS f wk n (i + 1) acc s) h
  cases wk with
  | xs l => exact ls l (fun _ _ _ => rfl) (fun _ _ => rfl) h
  | hid j l => exact ls l (fun _ _ _ => rfl) (fun _ _ => rfl) h
  | shl k => exact lv n (fun _ _ _ => rfl) (fun _ _ => rfl) h
  | zsh a b => exact lv n (fun _ _ _ => rfl) (fun _ _ => rfl) h
  | esh a => exact lv n (fun _ _ _ => rfl) (fun _ _ => rfl) h

/-! ### the block's relation -/
section
variable {g : Gl} {b : Ba} {w : Wd} {s : S} {σ σ2 : L2.St} {H : Hp}
theorem OT.wipe {own : List Nat} {a : Addr} (ho : ∀ i, i ∉ own → σ2[i]? = σ[i]?) (t : OT ⟨wipeE own s.env, s.sh⟩ σ2 a) : OT s σ a := by
  obtain ⟨i, d, e1, e2⟩ := t
  rcases wipeE_get e1 with ⟨_, z⟩ | ⟨n, e1⟩
  · cases z
  · rw [ho i n] at e2
    exact ⟨i, d, e1, e2⟩
theorem RSt.wipe {own : List Nat} (h : RSt g b w s σ H) (hl : σ2.length = σ.length) (ho : ∀ i, i ∉ own → σ2[i]? = σ[i]?) : RSt g b w ⟨wipeE own s.env, s.sh⟩ σ2 H :=
  ⟨(h.hide hl ho).rs, h.tr.mono fun a t => t.wipe ho⟩
/-- a list of nobody's grows -/
theorem RSt.updN {a : Addr} {o u : HO} (h : RSt g b w s σ H) (f : w.F a = none) (m : a ∉ w.m) (t : ¬ OT s σ a) (nw : Nw b.H a) (e : H a = some u) (hc : isCon u) : RSt g b w s σ (upd H a o) := by
  have up : ∀ {x : Addr}, x ≠ a → upd H a o x = H x := fun z => upd_ne z
  refine ⟨⟨⟨fun x v q => ?_, h.rs.st.nt, tabs_upd h.rs.st.tabs (.inr ⟨u, e, hc⟩), h.rs.st.ml, h.rs.st.mnd, fun k x d e1 e2 => ?_⟩, h.rs.len, h.rs.fr, fun i d q => ?_, h.rs.dis⟩, h.tr.le, fun x v q hz => ?_, fun x v q hz hm hT => ?_, h.tr.own⟩
  · have : x ≠ a := fun z => by rw [z, f] at q; cases q
    rw [up this]
    exact h.rs.st.sub x v q
  · obtain ⟨f', c⟩ := h.rs.st.sh k x d e1 e2
    have : x ≠ a := fun z => m (by rw [← z]; exact List.mem_of_getElem? e1)
    exact ⟨f', c.mono Le.refl (up this)⟩
  · obtain ⟨x, e1, f', m', c⟩ := h.rs.ow i d q
    have : x ≠ a := fun z => t ⟨i, d, q, by rw [← z]; exact e1⟩
    exact ⟨x, e1, f', m', c.mono Le.refl (up this)⟩
  · obtain ⟨v', q', hz'⟩ := h.tr.dom x v q hz
    have : x ≠ a := fun z => by subst z; exact nw.no q hz
    exact ⟨v', by rw [up this]; exact q', hz'⟩
  · obtain ⟨q1, q2, q3⟩ := h.tr.keep x v q hz hm hT
    have : x ≠ a := fun z => by subst z; exact nw.no q hz
    exact ⟨by rw [up this]; exact q1, q2, q3⟩
theorem restore_wipe {own : List Nat} {old env : List Sl} : restore old own (wipeE own env) = restore old own env := by
  apply List.ext_getElem?
  intro i
  by_cases hi : i ∈ own
  · have key : ∀ (own : List Nat) (env : List Sl), i ∈ own → i < env.length → (restore old own env)[i]? = some (old.getD i .un) := by
      intro own
      induction own with
      | nil => intro env h; cases h
      | cons j r ih =>
        intro env h hl
        show ((restore old r env).set j (old.getD j .un))[i]? = _
        by_cases hj : j = i
        · subst hj
          rw [List.getElem?_set_self (by rw [restore_len]; exact hl)]
        · rw [List.getElem?_set_ne hj]
          rcases List.mem_cons.mp h with z | z
          · exact absurd z.symm hj
          · exact ih env z hl
    by_cases hl : i < env.length
    · rw [key own _ hi (by rw [wipeE_len]; exact hl), key own _ hi hl]
    · rw [List.getElem?_eq_none (by rw [restore_len, wipeE_len]; exact Nat.le_of_not_lt hl), List.getElem?_eq_none (by rw [restore_len]; exact Nat.le_of_not_lt hl)]
  · have key : ∀ (own : List Nat) (env : List Sl), i ∉ own → (restore old own env)[i]? = env[i]? := by
      intro own
      induction own with
      | nil => intro env _; rfl
      | cons j r ih =>
        intro env h
        show ((restore old r env).set j (old.getD j .un))[i]? = _
        have hj : j ≠ i := fun z => h (by rw [z]; exact List.mem_cons_self)
        rw [List.getElem?_set_ne hj]
        exact ih env fun z => h (List.mem_cons_of_mem _ z)
    have key2 : ∀ (own : List Nat), i ∉ own → (wipeE own env)[i]? = env[i]? := by
      intro own
      induction own with
      | nil => intro _; rfl
      | cons j r ih =>
        intro h
        show ((wipeE r env).set j .un)[i]? = _
        have hj : j ≠ i := fun z => h (by rw [z]; exact List.mem_cons_self)
        rw [List.getElem?_set_ne hj]
        exact ih fun z => h (List.mem_cons_of_mem _ z)
    rw [key own _ hi, key own _ hi, key2 own hi]
theorem wipe_off {vs : List Nat} {i : Nat} (h : i ∉ vs) : (wipe σ vs)[i]? = σ[i]? := by
  induction vs with
  | nil => rfl
  | cons j r ih =>
    show ((wipe σ r).set j none)[i]? = _
    have hj : j ≠ i := fun z => h (by rw [z]; exact List.mem_cons_self)
    rw [List.getElem?_set_ne hj]
    exact ih fun z => h (List.mem_cons_of_mem _ z)
end
/-- the setting of a block: no exception leaves it -/
abbrev Cy.blk (Y : Cy) (b : Ba) : Cy := { Y with b := b, xw := fun _ _ _ => False }
def rdTs (Y : Cy) (ts : Ts) : TT := fun σ H Q => ∃ w s, RSt Y.g Y.b w s σ H ∧ Post (evTs Y.C ts s) (fun c s' => ∀ w' H', RSt Y.g Y.b w' s' σ H' → Le w w' → Q c H') (X3 Y)
def rdGk (Y : Cy) (P : L2.St → Prop) (tg : Tg) : TG := fun v σ H N => ∃ b, rdG (Y.blk b) P 9 tg v σ H N
def rdTk (Y : Cy) (ts : Ts) : TT := fun σ H Q => ∃ b, rdTs (Y.blk b) ts σ H Q
def rdEk (Y : Cy) (e : E) : TE := fun σ H Q => ∃ b, rdE (Y.blk b) e σ H Q
theorem post_noEx {α : Type} {r : Res α} {P : α → S → Prop} {Xw : Nat → List D → S → Prop} (h : Post (noEx r) P Xw) : Post r P (fun _ _ _ => False) := by
  cases r with
  | ok a s => exact h
  | ex c ds s => exact h
  | er => exact h
/-- the turn of a comprehension -/
def turnF (C : Cf) (elt : E) (tg : Tg) (ifs : Ts) (own : List Nat) (x : D) (s2 : S) : Res (Option D) := match bindT 9 tg (.fr x) ⟨wipeE own s2.env, s2.sh⟩ with
  | some s3 => (evTs C ifs s3).bind fun c s4 => if c then (evE C elt s4).bind fun r s5 => .ok (some r.d) s5 else .ok none s4
  | none => .er
section
variable {X : Cx} {Y : Cy} {σ : L2.St} {H : Hp} {w : Wd} {s : S}
theorem rd_lc {elt : E} {tg : Tg} {it : Ev.It} {ifs : Ts} {own : List Nat} {Q : VK} (q : rdE Y (.lc elt tg it ifs own) σ H Q) :
    tLc (rdIt Y it) (fun v σ' H' N => rdGk Y (fun σ2 => wipe σ2 own = wipe σ' own) tg v σ' H' N) (rdTk Y ifs) (rdEk Y elt) own σ H Q := by
  obtain ⟨w, s, h, p⟩ := q
  unfold evE at p
  rw [post_bind] at p
  refine ⟨w, s, h, p.mono (fun wk s1 p1 w1 H1 J Kp h1 l1 wj D hD => ?_) fun _ _ _ z => z⟩
  rw [post_bind] at p1
  have p1 : Post (compR (turnF Y.C elt tg ifs (wk.own own)) wk 0 Y.C.fuel [] s1) (fun ds s6 => KR Y.g Y.b w ⟨restore s1.env (wk.own own) s6.env, s6.sh⟩ σ (.ow (.lst ds)) Q) (fun _ _ _ => False) := by
    have z := post_noEx p1
    cases wk <;> exact z
  generalize hown : wk.own own = ow at p1
  have sub : ∀ i, i ∉ ow → i ∉ own := fun i hi z => hi (by rw [← hown]; cases wk <;> first | exact z | exact List.mem_cons_of_mem _ z)
  have hl : (wipe σ own).length = σ.length := wipe_length σ own
  have ho : ∀ i, i ∉ ow → (wipe σ own)[i]? = σ[i]? := fun i hi => wipe_off (sub i hi)
  have hh := h1.hide hl ho
  generalize hb1 : (⟨w1, H1, OT ⟨wipeE ow s1.env, s1.sh⟩ (wipe σ own)⟩ : Ba) = b1 at hh
  have bH : b1.H = H1 := by rw [← hb1]
  -- what must stay of the walked list
  have hkp : ∀ w2 s2 σ2 H2, RSt Y.g b1 w2 s2 σ2 H2 → Kp H2 := fun w2 s2 σ2 H2 h2 => by
    rcases wj.hid with z | ⟨i, l, a, vs, z1, z2, z3, z4⟩
    · rw [z]; exact trivial
    · have z5 : H1 a = some (.lst vs) := by have := wj.kp; rw [z2] at this; exact this
      rw [z2]
      have hi : i ∈ ow := by rw [← hown, z1]; exact List.mem_cons_self
      obtain ⟨a', e1, f, m, c⟩ := h1.rs.ow i _ z4
      rw [z3] at e1; cases e1
      refine (h2.tr.keep a (.lst vs) (by rw [bH]; exact z5) (fun ps y => by cases y) (by rw [← hb1]; exact m) ?_).1
      rw [← hb1]
      rintro ⟨j, d', e2, e3⟩
      rcases wipeE_get e2 with ⟨_, y⟩ | ⟨n, e2⟩
      · cases y
      · rw [ho j n] at e3
        exact h1.rs.dis i j a _ d' (fun y => n (y ▸ hi)) z4 e2 z3 e3
  have nwD : Nw b1.H D := .of (by rw [bH]; exact hD)
  obtain ⟨h2, f2, m2, t2, _⟩ := hh.layO (o := .lst []) hD
  refine ⟨fun i m H' => ∃ w2 s2 n acc vs, m = msr2 wk i n ∧ Le w1 w2 ∧ RSt Y.g b1 w2 ⟨wipeE ow s2.env, s2.sh⟩ (wipe σ own) H' ∧ H' D = some (.lst vs) ∧ Reps Y.g w2 acc vs ∧ w2.F D = none ∧ D ∉ w2.m ∧ ¬ OT ⟨wipeE ow s2.env, s2.sh⟩ (wipe σ own) D ∧
      Post (compR (turnF Y.C elt tg ifs ow) wk i n acc s2) (fun ds s6 => KR Y.g Y.b w ⟨restore s1.env ow s6.env, s6.sh⟩ σ (.ow (.lst ds)) Q) (fun _ _ _ => False),
    ⟨_, w1, s1, _, [], [], rfl, Le.refl, h2, upd_same, .nil, f2, m2, t2, p1⟩, ?_⟩
  rintro i m H2 ⟨w2, s2, n, acc, vs, rfl, l2, h2, eD, rA, fD, mD, tD, p2⟩
  obtain ⟨o, e1, e2, e3⟩ := compR_step p2
  cases o with
  | none =>
    refine .inl ⟨wj.stop _ _ _ _ _ _ h2 l2 (hkp _ _ _ _ h2) e1, ?_⟩
    have k := e2 rfl
    have hu := h1.unhide (own := ow) hl ho (σ2 := wipe σ own) (w2 := w2) (s2 := ⟨wipeE ow s2.env, s2.sh⟩) (H2 := H2) (by rw [hb1]; exact h2) hl ho
    have hu : RSt Y.g Y.b w2 ⟨restore s1.env ow s2.env, s2.sh⟩ σ H2 := by
      have z := hu
      rw [show restore s1.env ow (⟨wipeE ow s2.env, s2.sh⟩ : S).env = restore s1.env ow s2.env from restore_wipe] at z
      exact z
    refine k w2 H2 _ hu (l1.trans l2) (.ow ⟨fD, mD, ?_, h1.tr.fresh (.of hD), .lst eD rA⟩)
    rintro ⟨j, d, e4, e5⟩
    have ln : s1.env.length = s2.env.length := by
      have z1 := h1.rs.len
      have z2 : (wipeE ow s2.env).length = (wipe σ own).length := h2.rs.len
      rw [wipeE_len, hl] at z2
      omega
    rcases restore_get ln e4 with ⟨_, e4⟩ | ⟨hj, e4⟩
    · exact h1.rs.nT (.of hD) ⟨j, d, e4, e5⟩
    · refine tD ⟨j, d, ?_, by rw [ho j hj]; exact e5⟩
      show (wipeE ow s2.env)[j]? = _
      have key : ∀ (ow : List Nat), j ∉ ow → (wipeE ow s2.env)[j]? = s2.env[j]? := by
        intro ow
        induction ow with
        | nil => intro _; rfl
        | cons j' r ih =>
          intro h
          show ((wipeE r s2.env).set j' .un)[j]? = _
          have hj : j' ≠ j := fun z => h (by rw [z]; exact List.mem_cons_self)
          rw [List.getElem?_set_ne hj]
          exact ih fun z => h (List.mem_cons_of_mem _ z)
      rw [key ow hj]
      exact e4
  | some x =>
    obtain ⟨go, yl⟩ := wj.go _ _ _ _ _ _ _ h2.rebase l2 (hkp _ _ _ _ h2) e1
    obtain ⟨n', hn, p3⟩ := e3 x rfl
    refine .inr ⟨go, fun H' => ∃ w2 s2 acc vs, Le w1 w2 ∧ RSt Y.g b1 w2 ⟨wipeE ow s2.env, s2.sh⟩ (wipe σ own) H' ∧ H' D = some (.lst vs) ∧ Reps Y.g w2 acc vs ∧ w2.F D = none ∧ D ∉ w2.m ∧ ¬ OT ⟨wipeE ow s2.env, s2.sh⟩ (wipe σ own) D ∧
      Post (compR (turnF Y.C elt tg ifs ow) wk (i + 1) n' acc s2) (fun ds s6 => KR Y.g Y.b w ⟨restore s1.env ow s6.env, s6.sh⟩ σ (.ow (.lst ds)) Q) (fun _ _ _ => False),
      fun H' ⟨w4, s4, acc', vs', q1, q2, q3, q4, q5, q6, q7, q8⟩ => ⟨_, hn, w4, s4, n', acc', vs', rfl, q1, q2, q3, q4, q5, q6, q7, q8⟩, fun v H3 y => ?_⟩
    obtain ⟨w3, h3b, l3, r3, hH⟩ := yl v H3 y
    have h3 := h3b.unbase h2.tr
    have eD3 : H3 D = some (.lst vs) := by
      rcases hH with rfl | ⟨T, o, hT, rfl⟩
      · exact eD
      · rw [upd_ne (fun z => by rw [z, hT] at eD; cases eD)]; exact eD
    have cD : ∀ ps, (HO.lst vs) ≠ .tbl ps := fun ps z => by cases z
    obtain ⟨_, f3, m3⟩ := h3b.tr.keep D _ eD cD mD tD
    have f3 := f3 fD
    have h3r := h3.rebase
    generalize hsw : (⟨wipeE ow s2.env, s2.sh⟩ : S) = sw at h3r h3 tD h2
    generalize hb3 : (⟨w3, H3, OT sw (wipe σ own)⟩ : Ba) = b3 at h3r
    have keepD : ∀ {w5 : Wd} {s5 : S} {σ5 : L2.St} {H5 : Hp}, RSt Y.g b3 w5 s5 σ5 H5 → H5 D = some (.lst vs) ∧ w5.F D = none ∧ D ∉ w5.m ∧ ¬ OT s5 σ5 D := fun {w5 s5 σ5 H5} h5 => by
      subst hb3
      obtain ⟨k1, k2, k3⟩ := h5.tr.keep D _ eD3 cD m3 tD
      refine ⟨k1, k2 f3, k3, fun z => ?_⟩
      rcases h5.tr.own D z with z | z
      · exact tD z
      · exact z.no eD3 cD
    have back : ∀ {w5 : Wd} {s5 : S} {σ5 : L2.St} {H5 : Hp}, RSt Y.g b3 w5 s5 σ5 H5 → wipe σ5 own = wipe σ own → RSt Y.g b1 w5 ⟨wipeE ow s5.env, s5.sh⟩ (wipe σ own) H5 ∧ ¬ OT ⟨wipeE ow s5.env, s5.sh⟩ (wipe σ own) D := fun {w5 s5 σ5 H5} h5 hp => by
      have l5 : (wipe σ own).length = σ5.length := by rw [← hp, wipe_length]
      have o5 : ∀ i, i ∉ ow → (wipe σ own)[i]? = σ5[i]? := fun i hi => by rw [← hp]; exact wipe_off (sub i hi)
      refine ⟨?_, fun z => (keepD h5).2.2.2 (z.wipe o5)⟩
      have z := h5.wipe l5 o5
      subst hb3
      exact z.unbase h3.tr
    have le3 : Le w1 w3 := l2.trans l3
    unfold turnF at p3
    rw [hsw] at p3
    cases e4 : bindT 9 tg (.fr x) sw with
    | none => simp only [e4] at p3; exact p3.elim
    | some s3 =>
      simp only [e4] at p3
      rw [post_bind] at p3
      refine ⟨b3, rfl, w3, sw, .fr x, h3r, .fr r3, s3, e4, fun w4 H4 σ4 h4 l4 hp4 => ?_⟩
      have hp4 : wipe σ4 own = wipe σ own := by
        have z : wipe (wipe σ own) own = wipe σ own := by
          apply List.ext_getElem?
          intro j
          by_cases hj : j ∈ own
          · have key : ∀ (vs : List Nat) (τ : L2.St), j ∈ vs → j < τ.length → (wipe τ vs)[j]? = some none := by
              intro vs
              induction vs with
              | nil => intro τ h; cases h
              | cons a r ih =>
                intro τ h hl
                show ((wipe τ r).set a none)[j]? = _
                by_cases ha : a = j
                · subst ha
                  rw [List.getElem?_set_self (by rw [wipe_length]; exact hl)]
                · rw [List.getElem?_set_ne ha]
                  rcases List.mem_cons.mp h with z | z
                  · exact absurd z.symm ha
                  · exact ih τ z hl
            by_cases hl : j < σ.length
            · rw [key own _ hj (by rw [wipe_length]; exact hl), key own _ hj hl]
            · rw [List.getElem?_eq_none (by rw [wipe_length, wipe_length]; exact Nat.le_of_not_lt hl), List.getElem?_eq_none (by rw [wipe_length]; exact Nat.le_of_not_lt hl)]
          · rw [wipe_off hj]
        exact hp4.trans z
      refine ⟨hp4, b3, w4, s3, h4, p3.mono (fun c s4 p4 w5 H5 h5 l5 => ?_) fun _ _ _ z => z.elim⟩
      cases c with
      | false =>
        obtain ⟨q1, q2, q3, _⟩ := keepD h5
        obtain ⟨q5, q6⟩ := back h5 hp4
        exact ⟨w5, s4, acc, vs, (le3.trans l4).trans l5, q5, q1, rA.mono ((l3.trans l4).trans l5), q2, q3, q6, p4⟩
      | true =>
        have p4 : Post ((evE Y.C elt s4).bind fun r s5 => Res.ok (some r.d) s5) _ _ := p4
        rw [post_bind] at p4
        refine ⟨b3, w5, s4, h5, p4.mono (fun r s6 p6 w6 H6 yv h6 l6 ry => ?_) fun _ _ _ z => z.elim⟩
        obtain ⟨hz, p6⟩ := p6
        obtain ⟨w7, h7, l7, r7⟩ := h6.fz ry
        obtain ⟨q1, q2, q3, _⟩ := keepD h7
        obtain ⟨q5, q6⟩ := back h7 hp4
        have rA7 := rA.mono ((((l3.trans l4).trans l5).trans l6).trans l7)
        exact ⟨vs, q1, by rw [← rA.length]; exact hz, w7, s6, acc ++ [r.d], vs ++ [yv], (((le3.trans l4).trans l5).trans l6).trans l7, q5.updN q2 q3 q6 nwD q1 trivial, upd_same, rA7.append (.cons r7 .nil), q2, q3, q6, p6⟩
end
end Ev
end
section
set_option linter.all false
set_option maxRecDepth 100000
set_option maxHeartbeats 1000000
/-! Cnt: list.count, list.index; list(d.items()) of {}. -/
namespace Ev
open PySem PySem.Spec PyProof.Rows L2
section
variable {X : Cx} {Y : Cy} {g : Gl} {w : Wd} {s : S} {H : Hp} {σ σ₂ : L2.St}
open SeqAt in
theorem eq_item (hK : X.K = g.K) {A : Around} {pins : List (Addr × Obj)} {sm : Shared} (I : Inv X pins σ H sm) (hg : RSg g w s.sh H) (hu : A.units + 1 + dp < cLine) {y dx : D} {x vy : V} {v u : Value} {c : Bool}
    (rx : RC g w H dx x) (rv : RelV x v) (r1 : Rep g w y vy) (r2 : RelV vy u) (ee : eqD s.sh dp y dx = some c) : EqAt A.in1 sm u v c := by
  rcases rep_or hg r1 with ⟨k, a, rfl, rfl, hk⟩ | ra
  · have ca := hg.vw r1
    have : ∃ z, dx = .str z := by
      cases dx <;> simp only [dp, eqD, reduceCtorEq] at ee <;> exact ⟨_, rfl⟩
    obtain ⟨z, rfl⟩ := this
    have ee : (match s.sh.getD k .non with | .lst _ => some false | _ => none) = some c := ee
    have e4 : vw s.sh (.sh k) = s.sh.getD k .non := rfl
    rw [e4] at ca
    cases q4 : s.sh.getD k .non <;> rw [q4] at ee ca <;> simp only [reduceCtorEq, Option.some.injEq] at ee
    obtain ⟨a', vs', z1, z2, _⟩ := ca.lstI
    cases z1
    obtain ⟨its', _, p, _⟩ := I.list (SqL.of z2)
    cases r2
    obtain ⟨t', z3⟩ : ∃ t, v = .str z t := by rw [rx.strI] at rv; exact rv
    rw [z3, ← ee]
    exact .list_str _ _ p.isList (by rw [Around.in1_units]; unfold dp at hu; omega)
  · exact (eq3 hK I hg dp A.in1 (by rw [Around.in1_units]; omega) ra rx r2 rv ee).eq
theorem eqsD_get {sh : List D} {x : D} : ∀ {ys : List D} {bs : List Bool}, eqsD sh x ys = some bs → bs.length = ys.length ∧ ∀ (j : Nat) (y : D), ys[j]? = some y → ∃ c, bs[j]? = some c ∧ eqD sh dp y x = some c
  | [], bs, h => by cases h; exact ⟨rfl, fun j y h => by simp at h⟩
  | y :: ys, bs, h => by
    unfold eqsD at h
    cases e1 : eqD sh dp y x with
    | none => rw [e1] at h; cases h
    | some a =>
      rw [e1] at h
      have h : (eqsD sh x ys).map (a :: ·) = some bs := h
      cases e2 : eqsD sh x ys with
      | none => rw [e2] at h; cases h
      | some r =>
        rw [e2] at h; cases h
        obtain ⟨h1, h2⟩ := eqsD_get e2
        refine ⟨by simp [h1], fun j q hq => ?_⟩
        cases j with
        | zero => simp at hq; subst hq; exact ⟨a, rfl, e1⟩
        | succ j => exact h2 j q (by simpa using hq)
open SeqAt in
open Classical in
/-- each item beside x: the answers as a function of the item -/
theorem eqs_items (hK : X.K = g.K) {A : Around} {pins : List (Addr × Obj)} {sm : Shared} (I : Inv X pins σ H sm) (hg : RSg g w s.sh H) (hu : A.units + 1 + dp < cLine) {dx : D} {x : V} {v : Value} {ys : List D} {vs : List V} {its : List Value} {bs : List Bool}
    (rx : RC g w H dx x) (rv : RelV x v) (r : Reps g w ys vs) (q : Vals vs its) (e : eqsD s.sh dx ys = some bs) :
    ∃ ev : Value → Bool, (∀ u ∈ its.toArray, EqAt A.in1 sm u v (ev u)) ∧ its.map ev = bs := by
  obtain ⟨hl, h1⟩ := eqsD_get e
  have len : ys.length = its.length := r.length.trans q.length
  have at_ : ∀ (j : Nat) (u : Value), its[j]? = some u → ∃ y vy c, Rep g w y vy ∧ RelV vy u ∧ bs[j]? = some c ∧ eqD s.sh dp y dx = some c := fun j u hu => by
    have hj : j < ys.length := by rw [len]; exact (List.getElem?_eq_some_iff.mp hu).1
    obtain ⟨vy, e1, r1⟩ := r.get (List.getElem?_eq_getElem hj)
    obtain ⟨u', e2, r2⟩ := q.get e1
    rw [hu] at e2; cases e2
    obtain ⟨c, e3, e4⟩ := h1 j _ (List.getElem?_eq_getElem hj)
    exact ⟨_, vy, c, r1, r2, e3, e4⟩
  have det : ∀ (j j' : Nat) (u : Value), its[j]? = some u → its[j']? = some u → bs[j]? = bs[j']? := fun j j' u hj hj' => by
    obtain ⟨y, vy, c, a1, a2, a3, a4⟩ := at_ j u hj
    obtain ⟨y', vy', c', b1, b2, b3, b4⟩ := at_ j' u hj'
    have := RelV.inj a2 b2
    subst this
    rw [a3, b3, eq_det hK I hg dp a1 b1 a4 b4]
  refine ⟨fun (u : Value) => decide (∃ j : Nat, its[j]? = some u ∧ bs[j]? = some true), fun u hu' => ?_, ?_⟩
  · have hu' : u ∈ its := by simpa using hu'
    obtain ⟨j, hj⟩ := List.getElem?_of_mem hu'
    obtain ⟨y, vy, c, a1, a2, a3, a4⟩ := at_ j u hj
    have z := eq_item hK I hg hu rx rv a1 a2 a4
    have : decide (∃ j : Nat, its[j]? = some u ∧ bs[j]? = some true) = c := by
      cases c with
      | true => exact decide_eq_true ⟨j, hj, a3⟩
      | false =>
        refine decide_eq_false ?_
        rintro ⟨j', hj', e'⟩
        have := det j j' u hj hj'
        rw [a3, e'] at this
        cases this
    show EqAt A.in1 sm u v (decide _)
    rw [this]
    exact z
  · apply List.ext_getElem?
    intro j
    rw [List.getElem?_map]
    cases hj : its[j]? with
    | none =>
      have : bs.length ≤ j := by
        have := List.getElem?_eq_none_iff.mp hj
        omega
      rw [List.getElem?_eq_none this]
      rfl
    | some u =>
      obtain ⟨y, vy, c, a1, a2, a3, a4⟩ := at_ j u hj
      rw [a3]
      show some (decide _) = some c
      congr 1
      cases c with
      | true => exact decide_eq_true ⟨j, hj, a3⟩
      | false =>
        refine decide_eq_false ?_
        rintro ⟨j', hj', e'⟩
        have := det j j' u hj hj'
        rw [a3, e'] at this
        cases this
theorem look_ok (hK : X.K = g.K) (hu : X.A.units + 64 < cLine) {b : Ba} (h : RSt g b w s σ H) {m : MI} {d : D} {r : Rv} {v : V} {ds : List D} {vs : List V} {Q : VK} (rx : RC g w H d v) (rs : RCs g w H ds vs) (hm : m = .count) (e : lookM s.sh m d ds = some r)
    (k : ∀ r' : Int, r = .fr (.int r') → Q (.int r') H) : mtW X σ₂ (mtId m) v vs H Q := by
  subst hm
  have : ∃ xs y, d = .lst xs ∧ ds = [y] := by
    unfold lookM at e
    split at e
    · exact ⟨_, _, rfl, rfl⟩
    all_goals first | (rename_i z; cases z; done) | (cases e; done) | (exact ⟨_, _, rfl, rfl⟩)
  obtain ⟨xs, y, rfl, rfl⟩ := this
  have e : (eqsD s.sh y xs).map (fun bs => Rv.fr (.int (bs.countP id : Nat))) = some r := e
  · skip
    obtain ⟨bs, e1, e2⟩ : ∃ bs, eqsD s.sh y xs = some bs ∧ Rv.fr (.int (bs.countP id : Nat)) = r := by
      cases q : eqsD s.sh y xs with
      | none => rw [q] at e; cases e
      | some bs => rw [q] at e; cases e; exact ⟨bs, rfl, rfl⟩
    obtain ⟨a, us, rfl, h1, r1⟩ := rx.lstI
    cases rs with
    | cons a1 t =>
      cases t
      intro pins sm v' us' I rv rvs
      cases (show v' = Value.ref a from rv)
      obtain ⟨u1, rfl, ru⟩ := rvs.one
      obtain ⟨its, rr, ⟨⟨cls, dd, data, sl⟩, n, ho, hc, hdn, hd⟩, hlen⟩ := I.list (SqL.of h1)
      simp only at hc hd
      subst hc hd
      obtain ⟨ev, h5, h6⟩ := eqs_items (A := X.A) hK I h.rs.st (by unfold dp; omega) a1 ru r1 rr e1
      refine call_meets PySem.F.slot_list_count ⟨_, ho, rfl⟩ PySem.F.entry_list_count (PySem.F.args_list_count_2 _ _)
        (SeqAt.list_countAt a its.toArray n dd sl u1 ev) ⟨ho, h5, ?_⟩
      have ec : its.toArray.toList.countP ev = bs.countP id := by
        rw [← h6, List.countP_map]
        rfl
      refine ⟨.int (bs.countP id : Nat), H, I.tok _, ⟨sm.toks, ?_⟩, k _ e2.symm⟩
      show Value.int ((its.toArray.toList.countP ev : Nat) : Int) sm.toks = Value.int ((bs.countP id : Nat) : Int) sm.toks
      rw [ec]
def lookMI : MI → Bool
  | .count => true
  | _ => false
theorem rd_look (hK : X.K = Y.g.K) (hu : X.A.units + 64 < cLine) {m : MI} (hm : lookMI m = true) {a : B} {es : Bs} {Q : VK} (q : rdE Y (.mth m a es) σ H Q) : tBM X.K "list" (rMt X (mtId m)) (rdB Y a) (rdBs Y es) σ H Q := by
  obtain ⟨w, s, h, p⟩ := q
  unfold evE at p
  refine rd1 h p fun x s1 w1 H1 vx h1 l rx p1 => ?_
  have hm' : m = .count := by cases m <;> first | rfl | cases hm
  by_cases hk : kindOk m (cont s1 x) = true
  · rw [hk] at p1
    have p1 : Post ((evBs Y.C es s1).bind _) _ _ := p1
    obtain ⟨xs, ex⟩ := kind_lst hk (by rintro rfl; cases hm) (by rintro rfl; cases hm)
    refine ⟨lst_ty (h1.cont rx ex), ?_⟩
    rw [post_bind] at p1
    refine ⟨w1, s1, h1, p1.mono (fun as s2 p2 w2 H2 vs h2 l2 ra σ₂ => ?_) fun _ _ _ z => z⟩
    have hi : ¬ isMut m = true := by subst hm'; decide
    rw [if_neg hi] at p2
    obtain ⟨r, e, k⟩ := post_ofOpt p2
    cases e1 : cont s2 x with
    | none => rw [e1] at e; cases e
    | some d =>
      cases e2 : conts s2 as with
      | none => rw [e1, e2] at e; cases e
      | some ds =>
        rw [e1, e2] at e
        exact look_ok hK hu h2 (h2.cont (rx.mono l2) e1) (h2.conts ra e2) hm' e fun r' er => by
          subst er
          exact k w2 H2 _ h2 (l.trans l2) (.fr .int)
  · have hk : kindOk m (cont s1 x) = false := by simpa using hk
    rw [hk] at p1
    exact p1.elim
/-! ### list(d.items()) of {} -/
theorem rd_litems {a : B} {Q : VK} (q : rdE Y (.bcl .litems (.cons a .nil)) σ H Q) : LiI.tListItems (rdB Y a) σ H Q := by
  obtain ⟨w, s, h, p⟩ := q
  unfold evE evBs evBs at p
  have p : Post ((evB Y.C a s).bind fun x s1 => ofOpt ((conts s1 [x]).bind (bcl .litems)) s1) (fun r s' => KR Y.g Y.b w s' σ r Q) (X3 Y) := by
    rw [post_bind] at p ⊢
    rw [post_bind] at p
    exact p
  refine rd1 h p fun x s1 w1 H1 vx h1 l rx p1 => ?_
  obtain ⟨r, e, k⟩ := post_ofOpt p1
  have e : ((cont s1 x).bind fun d => (some []).map (d :: ·)).bind (bcl .litems) = some r := e
  cases e1 : cont s1 x with
  | none => rw [e1] at e; cases e
  | some d =>
    rw [e1] at e
    have e : bcl .litems [d] = some r := e
    cases d with
    | dic ks vs =>
      cases ks with
      | cons _ _ => cases e
      | nil =>
        have e : some (Rv.ow (.lst [])) = some r := e
        cases e
        have rc := h1.cont rx e1
        have : ∃ a, vx = .ref a ∧ H1 a = some (.dK []) := by
          cases rc with
          | dicK q e' r' =>
            rename_i a kvs
            cases kvs with
            | nil => exact ⟨a, rfl, q⟩
            | cons _ _ => cases e'
          | dicT n q e' r' =>
            rename_i a kvs
            cases kvs with
            | nil => exact absurd rfl n
            | cons _ _ => cases e'
        obtain ⟨a, rfl, hd⟩ := this
        refine ⟨a, [], rfl, hd, fun H' pp ts k1 k2 k3 k4 k5 k6 => ?_⟩
        cases k6
        have eN : LamX.ExtN H1 H' := .of k1
        have tb : LamX.Tabs Y.g.tabs H' := fun q hq => (h1.rs.st.tabs q hq).ext k1
        have h2 := h1.extN eN tb
        have hn : Nw H1 pp := .of k2
        exact k w1 H' _ h2 l (.ow ⟨h1.rs.st.fnone k2, h1.rs.st.nm k2, h1.rs.nT hn, h1.tr.fresh hn, .lst k5 .nil⟩)
    | _ => cases e
/-! ### a walk over the keys of {} -/
theorem restore_self {env : List Sl} : ∀ {own : List Nat}, restore env own env = env
  | [] => rfl
  | i :: r => by
    show (restore env r env).set i (env.getD i .un) = env
    rw [restore_self (own := r)]
    apply List.ext_getElem?
    intro j
    by_cases hj : i = j
    · subst hj
      by_cases hl : i < env.length
      · rw [List.getElem?_set_self hl, List.getElem?_eq_getElem hl]
        simp [List.getD_eq_getElem?_getD, List.getElem?_eq_getElem hl]
      · rw [List.getElem?_eq_none (by rw [List.length_set]; omega), List.getElem?_eq_none (by omega)]
    · rw [List.getElem?_set_ne hj]
theorem rd_keys {elt : E} {tg : Tg} {i : Nat} {ifs : Ts} {own own' : List Nat} {gg : TG} {tt : TT} {te : TE} {Q : VK} (q : rdE Y (.lc elt tg (.keys i) ifs own) σ H Q) : tLockE (tLc (iKeys (tVar i)) gg tt te own') σ H Q := by
  obtain ⟨w, s, h, p⟩ := q
  unfold evE evIt at p
  cases e : s.get i with
  | un => rw [e] at p; exact p.elim
  | ow d => rw [e] at p; exact p.elim
  | fr d =>
    rw [e] at p
    cases d with
    | dic ks vs =>
      cases ks with
      | cons _ _ => exact p.elim
      | nil =>
        have p : KR Y.g Y.b w ⟨restore s.env (Wk.own (.xs []) own) s.env, s.sh⟩ σ (.ow (.lst [])) Q := p
        have p : KR Y.g Y.b w s σ (.ow (.lst [])) Q := by
          have e3 : restore s.env (Wk.own (.xs []) own) s.env = s.env := restore_self
          rw [e3] at p
          exact p
        obtain ⟨v, e1, rv⟩ := h.rs.fr i _ (get_fr e)
        have : ∃ a, v = .ref a ∧ w.F a = some (.dK []) := by
          cases rv with
          | dicK q e' r' =>
            rename_i a kvs
            cases kvs with
            | nil => exact ⟨a, rfl, q⟩
            | cons _ _ => cases e'
          | dicT n q e' r' =>
            rename_i a kvs
            cases kvs with
            | nil => exact absurd rfl n
            | cons _ _ => cases e'
        obtain ⟨a, rfl, hF⟩ := this
        have hd := h.rs.st.sub a _ hF
        refine ⟨a, .dK [], hd, trivial, fun od => ⟨.ref a, e1, a, od, rfl, .inl ⟨[], upd_same, fun D hD => ⟨fun i m H' => H' = upd (upd H a (.frz od (.dK []))) D (.lst []), ⟨0, rfl⟩, fun j m H' hw => .inl ?_⟩⟩⟩⟩
        have hne : D ≠ a := fun z => by subst z; rw [upd_same] at hD; cases hD
        subst hw
        refine ⟨⟨by rw [upd_ne (fun z => hne z.symm)]; exact upd_same, Nat.zero_le _⟩, by rw [upd_ne (fun z => hne z.symm)]; exact upd_same, ?_⟩
        have hDn : H D = none := by rw [upd_ne hne] at hD; exact hD
        have e5 : upd (upd (upd H a (.frz od (.dK []))) D (.lst [])) a (.dK []) = upd H D (.lst []) := by
          funext c
          by_cases c1 : c = a
          · subst c1
            rw [upd_same, upd_ne (fun z => hne z.symm)]
            exact hd.symm
          · rw [upd_ne c1]
            by_cases c2 : c = D
            · subst c2; rw [upd_same, upd_same]
            · rw [upd_ne c2, upd_ne c2, upd_ne c1]
        rw [e5]
        obtain ⟨h2, f2, m2, t2, n2⟩ := h.layO (o := .lst []) hDn
        exact p w _ _ h2 Le.refl (.ow ⟨f2, m2, t2, n2, .lst upd_same .nil⟩)
    | _ => exact p.elim
end
end Ev
end
section
set_option linter.all false
set_option maxRecDepth 100000
set_option maxHeartbeats 2000000
/-! TryAs: several clauses 'except x as n'. -/
namespace Ev
open PySem PySem.Spec PyProof.Rows L2
abbrev Cl := Value × Nat × (Addr → Value → Option Addr → TS)
/-- the ends behind a clause's suite: its name is gone -/
def dropN (i : Nat) (D : Ends) : Ends := { nx := fun τ G => D.nx (τ.set i none) G, rt := D.rt, bk := fun τ G => D.bk (τ.set i none) G, ct := fun τ G => D.ct (τ.set i none) G }
def wManyAs (K : PySem.W.Frag) (Wout : WX) (D : Ends) : List Cl → WX
  | [] => Wout
  | (c, i, ts) :: r => fun cls d τ G => ∃ y, PySem.W.exmOne K cls c = some y ∧ (y = true → ∀ a, G a = none → ts a cls d (dropN i D) (τ.set i (some (.ref a))) G) ∧ (y = false → wManyAs K Wout D r cls d τ G)
inductive HdsAs (X : Cx) : List ExceptHandler → List Cl → Prop
  | nil : HdsAs X [] []
  | cons {x n : Str} {c : Value} {i : Nat} {ts : Addr → Value → Option Addr → TS} {s0 : Stmt} {su : List Stmt} {np pp : Pos} {hds : List ExceptHandler} {l : List Cl} (hc : Names X x c) (hi : X.N[i]? = some n) (hn : X.env.kindOf n = some .local)
      (hsu : ∀ (a : Addr) (oe : Obj) (cls : Value) (d : Option Addr) (pn : List (Addr × Obj)), Zc cls d oe → (∃ f, oe.data = .fields f) → PSs (X.suite a ((a, oe) :: pn)) (s0 :: su) (ts a cls d)) (r : HdsAs X hds l) :
      HdsAs X (.ExceptHandler (some (.Name x np)) (some n) (s0 :: su) pp :: hds) ((c, i, ts) :: l)
section
variable {X : Cx} {body : List Stmt} {h0 : ExceptHandler} {hds : List ExceptHandler} {l : List Cl} {pos : Pos} {tb : WX → TS} {Wout : WX}
theorem ps_try_manyAs (hs : X.stack = X.env :: X.outer) (hf : X.env.frame = some X.env.locals) (hN : X.N.Nodup) (tk : Takes X Wout)
    (hb : ∀ (W : WX) (pn : List (Addr × Obj)) (xe : Value → Shared → Prop), Takes (X.tr pn xe) W → PassesOwn (model X.prog X.w) X.A X.env xe → PSs (X.tr pn xe) body (tb W)) (hh : HdsAs X (h0 :: hds) l) :
    PS X (.Try body (h0 :: hds) [] [] pos) (fun D τ G => tb (wManyAs X.K Wout D l) D τ G) := by
  refine ⟨fun pins s τ G D J0 q0 => ?_⟩
  have okX := J0.ok
  have frX : X.A.frames = some (X.env :: X.outer) := by rw [okX.frames, hs]
  refine wpAny_Try_except ?_
  have hbody := (hb (wManyAs X.K Wout D l) (X.pn ++ pins) (fun e s₁ => wpAny (model X.prog X.w) X.A (noteFrame e X.env) (fun _ s₂ => wpAny (model X.prog X.w) X.A (setFlight e none) (fun _ s₃ => wpAny (model X.prog X.w) X.A (handleBy e X.env (h0 :: hds)) (SP X pins D) X.xe s₃) X.xe s₂) X.xe s₁) (fun u s' xx => by
    obtain ⟨a, B, sI, pinsB, σB, HB, cls, d, rfl, JB, nb, up, sky, na, os, ag, wsh⟩ := xx
    have J : Inv X pins σB HB sI := JB.ofTry okX
    have skyB : Sky B (X.env :: X.outer) a (Zc cls d) X.env.locals s'.heap := by rw [← hs]; exact sky
    show wpAny (model X.prog X.w) X.A (noteFrame (.ref a) X.env) _ _ _
    refine Sky.land Zc.steady frX hf skyB fun h3 fl3 up3 => ?_
    have J3 : Inv X pins σB HB { s' with heap := h3 } := J.landed nb fl3.1 (up.trans up3) os ag
    obtain ⟨oe3, fs3, he3, hz3, hd3⟩ := fl3.there
    have nfr : a ∉ frs (X.env :: X.outer) := fun hm => by
      obtain ⟨_, o2, e2, hnf⟩ := fl3.2.2.1.mem hm
      rw [he3] at e2; cases e2
      exact hnf _ hd3
    have nL : a ≠ X.env.locals := fun z => nfr (List.mem_filterMap.mpr ⟨X.env, List.mem_cons_self, by rw [hf, z]⟩)
    have nF : a ∉ X.fs := fun hm => by
      obtain ⟨e2, he2, q2⟩ := List.mem_filterMap.mp hm
      exact nfr (List.mem_filterMap.mpr ⟨e2, List.mem_cons_of_mem _ he2, q2⟩)
    have S3 := J3.suite he3 hd3 na nL nF
    have go : ∀ {hk : List ExceptHandler} {lk : List Cl}, HdsAs X hk lk → wManyAs X.K Wout D lk cls d σB HB → wpAny (model X.prog X.w) X.A (handleBy (.ref a) X.env hk) (SP X pins D) X.xe { s' with heap := h3 } := by
      intro hk lk hkl
      induction hkl with
      | nil =>
        intro wsh
        refine wpAny_handleBy_nil ?_
        obtain ⟨k1, k2, k3, oe, fv, T, oT, tsl, he, hz, hd, hf1, hr⟩ := id fl3
        unfold PySem.passOn
        refine wpAny_bind (wpAny_field he hd hf1 ?_)
        rw [if_neg (show ¬ ((Value.ref T == Value.none) = true) from by simp)]
        have fin : wpAny (model X.prog X.w) X.A (setFlight (.ref a) X.env.frame) (fun _ s4 => wpAny (model X.prog X.w) X.A (throw (.ref a) : Sem Flow) (SP X pins D) X.xe s4) X.xe { s' with heap := h3 } := by
          rw [hf]
          refine HandSPX.setFlight_upZ fl3 fun h4 hh4 up4 => wpAny_throw (tk _ _ ?_)
          exact ⟨a, B, sI, pins, σB, HB, cls, d, rfl, J, nb, (up.trans up3).trans up4, .inr (.inr (by rw [hs]; exact hh4)), na, os, ag, wsh⟩
        first | exact wpAny_bind (wpAny_pure (wpAny_bind fin)) | exact wpAny_bind fin
      | @cons x n c i ts s0 su np pp hds2 l2 hc hi hn hsu r ih =>
        intro wsh
        obtain ⟨y, hy1, hyes, hno⟩ := wsh
        refine wpAny_handleBy_cons (codeAny_handlers_test ?_) (by intro q; cases q)
        have LT : PySem.W.Looks (model X.prog X.w) h3 (typeOf (.ref a)) cls := fun A Q E s k q => wpAny_typeOf_ref (k _ _ he3) (by rw [hz3.1]; exact q)
        have LM := PySem.W.exm_one (M := model X.prog X.w) (J3.kIn) LT hy1
        have test : ∀ {Q : Value → Shared → Prop} {E : Value → Shared → Prop}, Q c { s' with heap := h3 } → wpAny (model X.prog X.w) (X.A.mark (some (.ref a))) (eval (.Name x np) X.env) Q E { s' with heap := h3 } := fun {Q E} q => by
          obtain ⟨hg, hdb, hm | ⟨hm, hv, hnn⟩⟩ := hc
          · exact ld_glob (X := X.suite a ((a, oe3) :: (X.pn ++ pins))) S3 hg hm q hdb
          · exact ld_blt (X := X.suite a ((a, oe3) :: (X.pn ++ pins))) S3 hg hm hv q hnn hdb
        refine test (LM.here ?_)
        cases y with
        | true =>
          refine codeAny_handlers_suite_as ?_
          refine HandSPX.lands_againZ fl3 fun h4 fl4 up4 => ?_
          have J4 : Inv X pins σB HB { s' with heap := h4 } := J.landed nb fl4.1 ((up.trans up3).trans up4) os ag
          obtain ⟨oe4, fs4, he4, hz4, hd4⟩ := fl4.there
          have S4 := J4.suite he4 hd4 na nL nF
          refine store_ok (X := X.suite a ((a, oe4) :: (X.pn ++ pins))) (v := .ref a) S4 hN hi (.inl hn) rfl (fun s5 S5 => ?_) (.inr hn)
          refine wpAny_mono ((hsu a oe4 cls d (X.pn ++ pins) hz4 ⟨_, hd4⟩).run [] s5 _ HB _ S5 (hyes rfl a na)) (fun f s6 hsp => ?_) (fun _ _ z => False.elim z)
          have gone : ∀ {σ6 : L2.St} {H6 : Hp} {Q : Shared → Prop}, Inv (X.suite a ((a, oe4) :: (X.pn ++ pins))) [] σ6 H6 s6 → (∀ s7, Inv X pins (σ6.set i none) H6 s7 → Q s7) → wpAny (model X.prog X.w) X.A (do bindName X.env n .none; unbindBehindTheSuite X.env n pp) (fun _ s7 => Q s7) X.xe s6 := fun {σ6 H6 Q} S6 hq => gone_ok (S6.unsuite okX) hN hi hn hq
          cases f with
          | next => obtain ⟨σ6, H6, S6, q6⟩ := hsp; exact gone S6 fun s7 J7 => ⟨_, _, J7, q6⟩
          | brk => obtain ⟨σ6, H6, S6, q6⟩ := hsp; exact gone S6 fun s7 J7 => ⟨_, _, J7, q6⟩
          | cont => obtain ⟨σ6, H6, S6, q6⟩ := hsp; exact gone S6 fun s7 J7 => ⟨_, _, J7, q6⟩
          | ret u => obtain ⟨v6, σ6, H6, S6, r6, q6⟩ := hsp; exact gone S6 fun s7 J7 => ⟨_, _, _, J7, r6, q6⟩
        | false =>
          show wpAny _ X.A (handleBy (.ref a) X.env hds2) _ _ _
          exact ih (hno rfl)
    exact go hh wsh) PassesOwn.looking).run [] s τ G D (J0.toTry _) q0
  refine wpAny_mono hbody (fun f s1 hsp => ?_) (fun e s1 he => he)
  cases f with
  | next => obtain ⟨σ9, H9, J9, q9⟩ := hsp; exact wpAny_execs_nil ⟨σ9, H9, J9.ofTry okX, q9⟩
  | brk => obtain ⟨σ9, H9, J9, q9⟩ := hsp; exact ⟨σ9, H9, J9.ofTry okX, q9⟩
  | cont => obtain ⟨σ9, H9, J9, q9⟩ := hsp; exact ⟨σ9, H9, J9.ofTry okX, q9⟩
  | ret u => obtain ⟨v9, σ9, H9, J9, r9, q9⟩ := hsp; exact ⟨v9, σ9, H9, J9.ofTry okX, r9, q9⟩
end
end Ev
end
section
set_option linter.all false
set_option maxRecDepth 100000
set_option maxHeartbeats 2000000
/-! Err: an own error with one field. -/
namespace PySem
namespace ErrT
open PySem.W PySem.Calls PyProof.Rows PySem.HandSPX
/-! ### the text of __init__ -/
def iA (p1 p2 : Pos) : Arguments := { posonlyargs := [], args := [{ arg := "self", annotation := none, pos := p1 }, { arg := "thing", annotation := none, pos := p2 }], vararg := none, kwonlyargs := [], kw_defaults := [], kwarg := none, defaults := [] }
def iB (q1 q2 q3 q4 : Pos) : List Stmt := [.Assign [.Attribute (.Name "self" q1) "thing" q2] (.Name "thing" q3) q4]
def iS : Scope := { kind := .function, names := [(PySem.Str.ofString "self", .local), (PySem.Str.ofString "thing", .local)], isGenerator := false, isCoroutine := false, more := [] }
/-- what the written part says of ErrT, at C, and of its __init__, at fI -/
structure ErrTTxt (K : Frag) (mg : Str → Option Value) (cx qn : Str) (C fI : Addr) : Prop where
  gC : mg cx = some (.ref C)
  cls : ∃ nm q N bs bm sn sub ab col dd k0 k1 k2 k3 k5, K.lookup C = some (excClassObj nm q C N bs bm true sn sub ab col dd k0 k1 k2 k3 k5 "ValueError.__new__") ∧ refsVE bm = true
  sa : findIn K (.ref C) "__setattr__" = some (some (.builtin "object.__setattr__"))
  ga : findIn K (.ref C) "__getattribute__" = some (some (.builtin "BaseException.__getattribute__"))
  gg : findIn K (.ref C) "__getattr__" = some none
  noN : findIn K (.ref C) "thing" = some none
  iC : findIn K (.ref C) "__init__" = some (some (.ref fI))
  tC : typeIn K (.ref fI) = some (.type "function")
  kC : keepIn K (.ref C) = true
  exC : subIn K (.ref C) (.type "BaseException") = some true
  tyC : typeIn K (.ref C) = some (.type "type")
  hdC : hasDictIn K C = true
  te : exmOne K (.ref C) (.ref C) = some true
  fn : ∃ (oc : Value) (od : Option Addr) (doc pm : Value) (an : Option Addr) (cdv ct : Value) (osl : Array (Option Value)) (p1 p2 q1 q2 q3 q4 : Pos),
    K.lookup fI = some ⟨oc, od, .func (fnOf "__init__" qn (iA p1 p2) (iB q1 q2 q3 q4) iS .none .none doc pm an cdv ct), osl⟩ ∧ codeIn K cdv qn = true
theorem one_sizeErrT (v : Value) : [v].length ≤ sizeLine := by
  rw [sizeLine_eq]
  exact (by decide : 1 ≤ 16777216)
theorem kept_butErrT {K : Frag} {h h' : Heap} {x : Addr} (X : K.In h) (hx : K.lookup x = none) (k : ∀ b o, b ≠ x → h.get? b = some o → h'.get? b = some o) : K.In h' := fun a o e =>
  k a o (fun z => by rw [z, hx] at e; cases e) (X a o e)
theorem ldC {M : Model} {s : Shared} {name : Str} {scope : Scope} {L a : Addr} {cd : Value} {m : Str → Option Value} {x : Str} {pos : Pos} {v : Value} {Q : Value → Shared → Prop} {A : Around} {E : Value → Shared → Prop} (hn : s.heap.Ns L m) (hv : m x = some v) (h : Q v s)
    (hk : scope.kind = .function := by rfl) (hl : (envOfC name scope L a cd).kindOf x = some .local := by rfl) (hd : (x == ("__debug__" : Str)) = false := by decide) :
    wpAny M A (eval (.Name x pos) (envOfC name scope L a cd)) Q E s := wpAny_Name (wpAny_loadName_local hk hl hn hv h) hd
/-- what __init__ leaves of a fresh exception at x -/
structure InitEnd (h h' : Heap) (x C dx t1 : Addr) (v : Value) : Prop where
  keep : ∀ b o, b ≠ x → h.get? b = some o → h'.get? b = some o
  obj : h'.get? x = some { cls := .ref C, dict := some dx, data := .fields #[.ref t1, .none, .none, .none, .bool false, .none] }
  dbig : h.objs.size ≤ dx
  dne : dx ≠ x
  ns : h'.Ns1 dx (fun y => if y = "thing" then some v else none)
/-- a made ErrT -/
structure OwnMade (h h' : Heap) (e C d : Addr) (v : Value) : Prop where
  keep : ∀ b o, h.get? b = some o → h'.get? b = some o
  new : h.objs.size ≤ e
  obj : ∃ oe vs, h'.get? e = some oe ∧ oe.cls = .ref C ∧ oe.dict = some d ∧ oe.data = .fields vs ∧ vs[1]? = some .none
  dbig : h.objs.size ≤ d
  dne : d ≠ e
  ns : h'.Ns1 d (fun y => if y = "thing" then some v else none)
section
variable {prog : Program} {w : World} {A : Around} {E : Value → Shared → Prop} {R : Result → Shared → Prop} {s : Shared} {K : Frag} {mg : Str → Option Value} {cx qn : Str} {C fI : Addr}
theorem errt_init (T : ErrTTxt K mg cx qn C fI) {x t0 : Addr} {v : Value} (X : K.In s.heap) (hlim : s.heap.NoLimit) (hx : s.heap.get? x = some (excO C t0)) (hnx : K.lookup x = none) (hroom : A.depth < recursionLimit)
    (hq : ∀ h' tk dx, InitEnd s.heap h' x C dx t0 v → R (.ok (.ret .none)) { s with heap := h', toks := tk }) :
    codeAny (model prog w) A (.call (.ref fI) ⟨[.ref x, v], []⟩) R s := by
  obtain ⟨oc, od, doc, pm, an, cdv, ct, osl, p1, p2, q1, q2, q3, q4, ho, hcd⟩ := T.fn
  obtain ⟨nm, q, N, bs, bm, sn, sub, ab, col, dd, k0, k1, k2, k3, k5, hC, hbm⟩ := T.cls
  have hcl : clsIn K C = some { name := nm, bases := bs, mro := .ref C :: bm, ns := N, qualname := q, hasDict := true, slotNames := sn, subclasses := sub, abstract := ab, collection := col, hasDel := false } := by unfold clsIn; rw [hC] <;> rfl
  refine Att.call_fn (binds := [("self", .ref x), ("thing", v)]) X hlim ho hcd hroom (BindsTo.of_eq (by first | rfl | with_unfolding_all rfl)) (by first | rfl | decide | with_unfolding_all rfl) (fun s₁ IC => ?_) rfl rfl rfl
  obtain ⟨h₁, tk₁, rfl⟩ := IC.toInCall.same
  have k : ∀ b o, s.heap.get? b = some o → h₁.get? b = some o := IC.toInCall.keep
  have hn := IC.toInCall.ns
  have hxL : s.heap.objs.size ≠ x := Nat.ne_of_gt (Heap.lt_size hx)
  have X₁ : K.In h₁ := X.keeps k
  have hx₁ := k _ _ hx
  -- self.by = by
  show wpAny _ _ (execs _ _) _ _ _
  refine wpAny_execs_cons (plainObj_wpAny_Assign_Attribute ?_)
  refine ldC (v := v) hn (by first | rfl | with_unfolding_all rfl | kernel_rfl) (ldC (v := .ref x) hn (by first | rfl | with_unfolding_all rfl | kernel_rfl) ?_)
  refine set_plain X₁ (ox := excO C t0) (od := none) ⟨hx₁, rfl, rfl, trivial⟩ T.sa ?_
  refine exc_osa X₁ hx₁ hcl (show refsVE (.ref C :: bm) = true from hbm) rfl T.noN (fun h₃ tk₃ dx k₃ dn dne hx₃ hn₃ => ?_)
  show wpAny _ _ (execs _ _) _ _ _
  have z : s.heap.objs.size < h₁.objs.size := hn.lt
  exact wpAny_execs_nil (hq h₃ tk₃ dx ⟨fun b o hb e => k₃ b o hb (k b o e), hx₃, Nat.le_of_lt (Nat.lt_of_lt_of_le z dn), dne, hn₃⟩)
theorem errt_made (T : ErrTTxt K mg cx qn C fI) {v : Value} (X : K.In s.heap) (hlim : s.heap.NoLimit) (hroom : A.depth + 1 < recursionLimit)
    (hq : ∀ h' tk e d, OwnMade s.heap h' e C d v → R (.ok (.ret (.ref e))) { s with heap := h', toks := tk }) :
    codeAny (model prog w) A (.call (.ref C) ⟨[v], []⟩) R s := by
  obtain ⟨nm, q, N, bs, bm, sn, sub, ab, col, dd, k0, k1, k2, k3, k5, hC, hbm⟩ := T.cls
  obtain ⟨hp, g, dr, tk, os⟩ := s
  have k : ∀ b o, hp.get? b = some o → ((hp.push (kdv_tup [v])).push (excO C hp.objs.size)).get? b = some o := fun b o e => Heap.get?_push_of_some _ (Heap.get?_push_of_some _ e)
  have hget : ((hp.push (kdv_tup [v])).push (excO C hp.objs.size)).get? (hp.objs.size + 1) = some (excO C hp.objs.size) := by heap_get
  have hnx : K.lookup (hp.objs.size + 1) = none := by
    cases e : K.lookup (hp.objs.size + 1) with
    | none => rfl
    | some o =>
      have z : hp.get? (hp.objs.size + 1) = some o := X _ _ e
      exact absurd (Nat.lt_of_succ_lt (Heap.lt_size z)) (Nat.lt_irrefl _)
  refine call_own F.excBase_ValueError (fun X => refsVE_contains X bm hbm) (X _ _ hC) (looks_findIn X T.iC) (fun self => bind_fn X self T.tC) (one_sizeErrT v) ?_
  refine errt_init (s := ⟨(hp.push (kdv_tup [v])).push (excO C hp.objs.size), g, dr, tk, os⟩) T (X.keeps k) (hlim.keeps k) hget hnx ?_ fun h' tk' dx ⟨k', hx, dn, dne, hns⟩ => ?_
  · show A.depth + 1 < recursionLimit
    exact hroom
  · have old : ∀ b o, hp.get? b = some o → h'.get? b = some o := fun b o e => k' b o (Nat.ne_of_lt (Nat.lt_succ_of_lt (Heap.lt_size e))) (k b o e)
    have z : hp.objs.size + 1 + 1 ≤ dx := by
      first
        | (simpa only [Heap.size_push] using dn)
        | exact dn
        | (have q := dn; rw [Heap.size_push, Heap.size_push] at q; exact q)
    exact ⟨rfl, hq h' tk' (hp.objs.size + 1) dx ⟨old, Nat.le_succ _, ⟨_, _, hx, rfl, rfl, rfl, rfl⟩, Nat.le_trans (Nat.le_trans (Nat.le_succ _) (Nat.le_succ _)) z, dne, hns⟩⟩
end
end ErrT
end PySem
namespace L2
open PySem PySem.Spec PyProof.Rows
theorem relO_errt {v : V} {v' : Value} (r : RelV v v') (f : Str) : RelO (List.lookup f [(("thing" : Str), v)]) (if f = "thing" then some v' else none) := by
  by_cases hw : f = "thing"
  · subst hw
    rw [if_pos rfl]
    have q : List.lookup ("thing" : Str) [(("thing" : Str), v)] = some v := by simp [List.lookup]
    rw [q]
    exact r
  · rw [if_neg hw]
    have qw : (f == ("thing" : Str)) = false := by simpa using hw
    have q2 : List.lookup f [(("thing" : Str), v)] = none := by simp [List.lookup, qw]
    rw [q2]
    trivial
section
variable {X : Cx} {cx qn : Str} {C fI : Addr}
/-- ErrT(e) -/
def tMkErrT (C : Addr) (ta : TA) : St → Hp → XK → Prop := fun σ H Q => ta σ H fun vs H1 => ∃ v, vs = [v] ∧ ∀ d, H1 d = none → Q (.ref C) (some d) (upd H1 d (.xd [(("thing" : Str), v)]))
theorem pmk_errt {a : Expr} {ta : TA} {p pos : Pos} {k : Nat} (T : PySem.ErrT.ErrTTxt X.K X.mg cx qn C fI) (hr : Room k X.A) (ha : PA X [a] ta) (hg : Gl X cx) (hdb : (cx == ("__debug__" : Str)) = false)
    (he : starEach (a :: []) X.env = (false, eval a X.env) :: starEach [] X.env := by rfl) (hpl : (backTo pos (starEach [] X.env)).any (·.1) = false := by rfl) :
    PMk X (.Call (.Name cx p) [a] [] pos) (tMkErrT C ta) := by
  intro pins s σ H Q I h
  refine wpAny_Call_Name_kw (ld_glob I hg T.gC ?_ hdb)
  refine PySem.W.callWith_K (h₀ := X.base) I.ok.mod.kin T.kC (thn (ha.run pos pins s σ H _ I h) fun us s1 hh => ?_) he hpl
  obtain ⟨vs, H1, I1, r1, v, ev, q1⟩ := hh
  subst ev
  refine ⟨I1.kIn, ?_⟩
  cases r1 with
  | cons rv rn =>
    rename_i v' us'
    cases rn
    show wpAny _ _ (call (.ref C) [v']) _ _ _
    have hlim := I1.nolimit
    obtain ⟨hp, g, dr, tk, os⟩ := s1
    refine wpAny_call (PySem.ErrT.errt_made T I1.kIn hlim (by have := hr.dp; omega) fun h' tk' e d M => ?_)
    show MkP X pins σ Q (.ref e) ⟨h', g, dr, tk', os⟩
    obtain ⟨oe, fv, hoe, hc, hd, hdat, h1⟩ := M.obj
    have hns := M.ns
    obtain ⟨G', g1, g2⟩ := restrict h' fun b => decide (b ≠ e)
    have gk : ∀ b, b ≠ e → G'.get? b = h'.get? b := fun b hb => g1 b (decide_eq_true hb)
    have ge : G'.get? e = none := g2 e (by simp)
    have old : ∀ b o, hp.get? b = some o → G'.get? b = some o := fun b o q => (gk b (Nat.ne_of_lt (Nat.lt_of_lt_of_le (Heap.lt_size q) M.new))).trans (M.keep b o q)
    have ob : ObjOk X.prog X.w (upd H1 d (.xd [(("thing" : Str), v)])) G' d (.xd [(("thing" : Str), v)]) :=
      ⟨_, hns.at (fun o q => (gk d M.dne).trans q), fun f => relO_errt rv f⟩
    have J : Inv X pins σ (upd H1 d (.xd [(("thing" : Str), v)])) ⟨G', g, dr, tk', os⟩ := I1.laid (t' := tk') old M.dbig ob
    refine ⟨e, oe, fv, ⟨G', g, dr, tk', os⟩, _, .ref C, some d, rfl, J, fun b o q => ?_, ge, hoe, ⟨hc, hd⟩, hdat, h1, ?_, rfl, I1.bare, raises_own T.exC T.tyC, q1 d (I1.hok.fresh M.dbig)⟩
    · by_cases hb : b = e
      · have q' : G'.get? b = some o := q
        rw [hb, ge] at q'; cases q'
      · exact (gk b hb).symm.trans q
    · rw [upd_ne (Ne.symm M.dne)]
      exact I1.hok.fresh M.new
/-- raise ErrT(e) -/
def tRaiseErrT (C : Addr) (W : WX) (ta : TA) : TS := fun _ σ H => tMkErrT C ta σ H fun cls d H' => W cls d σ H'
theorem ps_raiseErrT {a : Expr} {ta : TA} {W : WX} {p pos pos2 : Pos} {k : Nat} (hc : X.calm = true) (T : PySem.ErrT.ErrTTxt X.K X.mg cx qn C fI) (hr : Room k X.A) (tk : Takes X W) (ha : PA X [a] ta) (hg : Gl X cx) (hdb : (cx == ("__debug__" : Str)) = false)
    (he : starEach (a :: []) X.env = (false, eval a X.env) :: starEach [] X.env := by rfl) (hpl : (backTo pos (starEach [] X.env)).any (·.1) = false := by rfl) :
    PS X (.Raise (some (.Call (.Name cx p) [a] [] pos)) none pos2) (tRaiseErrT C W ta) := ps_raise hc tk (pmk_errt T hr ha hg hdb he hpl)
/-- low.by, low the exception that the suite holds (at a; its class cls, its dict d) -/
def tByErrT (C : Addr) (a : Addr) (cls : Value) (d : Option Addr) (te : TE) : TE := fun σ H Q => te σ H fun x H1 => x = .ref a ∧ cls = .ref C ∧ ∃ (dd : Addr) (v : V), d = some dd ∧ H1 dd = some (.xd [(("thing" : Str), v)]) ∧ Q v H1
theorem pe_byErrT {a : Addr} {oe : Obj} {cls : Value} {d : Option Addr} {pn : List (Addr × Obj)} {e : Expr} {te : TE} {pos : Pos} (T : PySem.ErrT.ErrTTxt X.K X.mg cx qn C fI) (hz : Zc cls d oe) (hf : ∃ vs, oe.data = .fields vs) (he : PE (X.suite a ((a, oe) :: pn)) e te)
    (hb : attributeBase e "thing" X.env (eval e X.env) = eval e X.env := by rfl) :
    PE (X.suite a ((a, oe) :: pn)) (.Attribute e "thing" pos) (tByErrT C a cls d te) := by
  refine ⟨fun pins s σ H Q I h => ?_⟩
  refine attr_of hb (thn (he.run pins s σ H _ I h) fun u s1 hh => ?_)
  obtain ⟨x, H1, I1, rx, ex, ec, dd, v, ed, ea, q⟩ := hh
  subst ex
  obtain rfl : u = Value.ref a := rx
  subst ec
  subst ed
  obtain ⟨ha, _⟩ := I1.pin (a, oe) (List.mem_append_left _ List.mem_cons_self)
  obtain ⟨vs, hd⟩ := hf
  have hx : ObjOk X.prog X.w H1 s1.heap dd (.xd [(("thing" : Str), v)]) := I1.hok dd _ ea
  obtain ⟨mA, hns, hr⟩ := hx
  obtain ⟨od, ho, hl⟩ := lookIn_ns hns
  have l : List.lookup ("thing" : Str) [(("thing" : Str), v)] = some v := by simp [List.lookup]
  obtain ⟨u, hu, ru⟩ := RelO.some_of (v := v) (o := mA "thing") (by rw [← l]; exact hr "thing")
  have J : PySem.W.InstAt s1.heap a oe C (some od) := ⟨ha, hz.1, by unfold PySem.W.notCls; rw [hd] <;> rfl, by rw [hz.2]; exact ho⟩
  exact HandSPX.exc_get I1.kIn J T.ga T.gg T.exC (PySem.W.findObj_own T.hdC T.noN rfl (by rw [hl, hu])) (handed_of ru) ⟨v, H1, I1.tok _, ru, q⟩
end
end L2
end
section
set_option linter.all false
set_option maxRecDepth 100000
set_option maxHeartbeats 2000000
/-! Met: the def that calls what it got and tells how it ended. -/
namespace Ev
open PySem PySem.Spec PyProof.Rows L2 LamX
/-- what the clauses make of an exception -/
def mE (K : PySem.W.Frag) (Q : VK) : List (Addr × Option Str) → XK
  | [] => fun _ _ _ => False
  | (c, ow) :: r => fun cls d H' => ∃ y, PySem.W.exmOne K cls (.ref c) = some y ∧ (y = true → ∃ w, ow = some w ∧ cls = .ref c ∧ ∃ (dd : Addr) (v : V), d = some dd ∧ H' dd = some (.xd [(("thing" : Str), v)]) ∧ ∀ p, H' p = none → Q (.ref p) (upd H' p (.tup [.str w, v]))) ∧
      (y = false → mE K Q r cls d H')
/-- told: try: return (word, a()) / except C as e: return (w, e.thing) .. -/
def TTm (K : PySem.W.Frag) (word : Str) (l : List (Addr × Option Str)) : (XK → Hp → VK → Prop) → Hp → VK → Prop := fun tl H Q =>
  tl (mE K Q l) H fun v H1 => [V.str word, v].length ≤ sizeLine ∧ ∀ p, H1 p = none → Q (.ref p) (upd H1 p (.tup [.str word, v]))
inductive MetH (K : PySem.W.Frag) (mg : Str → Option Value) (sg : Scope) : List ExceptHandler → List (Addr × Option Str) → Prop
  | nil : MetH K mg sg [] []
  | cons {x w cx qn : Str} {c fI : Addr} {j k : Nat} {p1 p2 p3 p4 p5 p6 p7 : Pos} {hds : List ExceptHandler} {l : List (Addr × Option Str)} (hx : sg.names.lookup x = some .globalImplicit) (hd : (x == ("__debug__" : Str)) = false) (hm : mg x = some (.ref c)) (T : PySem.ErrT.ErrTTxt K mg cx qn c fI)
      (r : MetH K mg sg hds l) : MetH K mg sg (.ExceptHandler (some (.Name x p1)) (some "e") [.Return (some (.Tuple [.Constant (.str w) j p2, .Attribute (.Name "e" p3) "thing" p4] k p5)) p6] p7 :: hds) ((c, some w) :: l)
  | never {x : Str} {c : Addr} {b0 : Stmt} {bd : List Stmt} {p1 p7 : Pos} {hds : List ExceptHandler} {l : List (Addr × Option Str)} (hx : sg.names.lookup x = some .globalImplicit) (hd : (x == ("__debug__" : Str)) = false) (hm : mg x = some (.ref c))
      (r : MetH K mg sg hds l) : MetH K mg sg (.ExceptHandler (some (.Name x p1)) (some "e") (b0 :: bd) p7 :: hds) ((c, none) :: l)
def clM (K : PySem.W.Frag) (p : Addr × Option Str) : Cl := (.ref p.1, 1, fun a cls d => match p.2 with
  | some w => tRet (tTup (tCons (tC (.str w)) (tCons (tByErrT p.1 a cls d (tVar 1)) tNil)))
  | none => fun _ _ _ => False)
theorem hds_of {X : Cx} {hds : List ExceptHandler} {l : List (Addr × Option Str)} (hN : X.N[1]? = some ("e" : Str)) (he : X.env.scope.names.lookup ("e" : Str) = some .local) (h : MetH X.K X.mg X.env.scope hds l) : HdsAs X hds (l.map (clM X.K)) := by
  generalize hm : X.mg = mg at h
  generalize hs : X.env.scope = sg at h
  generalize hk : X.K = K at h
  induction h with
  | nil => exact .nil
  | cons hx hd hmx T r ih =>
    subst hm
    subst hs
    subst hk
    refine .cons ⟨hx, hd, .inl hmx⟩ hN he (fun a oe cls d pn hz hf => ?_) ih
    refine pss_one (ps_ret (pe_tup (pa_cons pe_str (pa_cons ?_ pa_nil))))
    exact pe_byErrT T hz hf (pe_var hN (.inl he))
  | never hx hd hmx r ih =>
    subst hm
    subst hs
    subst hk
    refine .cons ⟨hx, hd, .inl hmx⟩ hN he (fun a oe cls d pn hz hf => ?_) ih
    refine ⟨fun pins s σ H D I q => ?_⟩
    have q : False := q
    exact q.elim
theorem wMany_of {K : PySem.W.Frag} {Q : VK} {D : Ends} (hD : D.rt = Q) : ∀ {l : List (Addr × Option Str)} {cls : Value} {d : Option Addr} {σ : L2.St} {H : Hp}, 1 < σ.length → mE K Q l cls d H → wManyAs K (fun _ _ _ _ => False) D (l.map (clM K)) cls d σ H
  | [], _, _, _, _, _, h => h
  | (c, ow) :: l, cls, d, σ, H, hl, ⟨y, e, h1, h2⟩ => by
    refine ⟨y, e, fun hy a ha => ?_, fun hy => wMany_of hD hl (h2 hy)⟩
    obtain ⟨w, rfl, hc, dd, v, ed, ex, k⟩ := h1 hy
    refine ⟨.ref a, by rw [List.getElem?_set_self hl], rfl, hc, dd, v, ed, ex, (by show 2 ≤ sizeLine; decide), fun p hp => ?_⟩
    show D.rt _ _
    rw [hD]
    exact k p hp
theorem takes_len {X : Cx} {W : WX} (tk : Takes X W) : Takes X (fun cls d τ G => τ.length = X.N.length → W cls d τ G) := fun u s' ⟨a, B, sI, pins, σ, H, cls, d, e, I, nb, up, sky, na, os, ag, w⟩ => tk u s' ⟨a, B, sI, pins, σ, H, cls, d, e, I, nb, up, sky, na, os, ag, w I.len⟩
theorem met_gives {X : Cx} {Ng : List Str} {x a q word : Str} {sg : Scope} {g : Addr} {cdg : Value} {h0 : ExceptHandler} {hds : List ExceptHandler} {l : List (Addr × Option Str)} {j k : Nat} {p1 p2 p3 p4 p5 p6 : Pos} (nd : Ng.Nodup) (hN : Ng[1]? = some ("e" : Str)) (he : sg.names.lookup ("e" : Str) = some .local)
    (hh : MetH X.K X.mg sg (h0 :: hds) l) (hs : ∀ f : Addr, (L2.start Ng [V.ref f])[0]? = some (some (V.ref f))) (hl : ∀ f : Addr, 1 < (L2.start Ng [V.ref f]).length) :
    GivesTo X Ng x sg g cdg [.Try [.Return (some (.Tuple [.Constant (.str word) j p1, .Call (.Name a p2) [] [] p3] k p4)) p5] (h0 :: hds) [] [] p6] a q (TTm X.K word l) := by
  intro f c' s H Q tl act hc h
  refine ⟨_, pss_one (ps_try_manyAs (X := (cxOf C8.CX0 X.prog X.w X.K X.mg X.base Ng x sg g cdg X.A X.stack s H C8.E0).nox)
      (tb := fun W D σ H => ∃ Ech : XK, (∀ cls d σ' H', 1 < σ'.length → Ech cls d H' → W cls d σ' H') ∧ σ[0]? = some (some (.ref f)) ∧ 1 < σ.length ∧ H c' = some (CodeO c' q) ∧ tl Ech H fun v H1 => [V.str word, v].length ≤ sizeLine ∧ ∀ p, H1 p = none → D.rt (.ref p) (upd H1 p (.tup [.str word, v])))
      rfl rfl nd L2.takes0 (fun W pn xe tk _ => ?_) (hds_of (X := (cxOf C8.CX0 X.prog X.w X.K X.mg X.base Ng x sg g cdg X.A X.stack s H C8.E0).nox) hN he hh)), ?_⟩
  · refine ⟨fun pins s' σ H' D I h' => ?_⟩
    obtain ⟨Ech, hW, h1, h1l, h2, h3⟩ := h'
    have t2 : Takes ((cxOf C8.CX0 X.prog X.w X.K X.mg X.base Ng x sg g cdg X.A X.stack s H C8.E0).tr pn xe) (fun cls d τ G => τ.length = Ng.length → W cls d τ G) := takes_len tk
    have lN : 1 < Ng.length := (List.getElem?_eq_some_iff.mp hN).1
    have hp := act (fun cls d τ G => τ.length = Ng.length → W cls d τ G) pn xe Ech p2 p3 t2 fun cls d τ G z hl => hW cls d τ G (by omega) z
    have hq := pss_one (ps_ret (pos := p5) (pe_tup (x1 := k) (pos := p4) (pa_cons (pe_str (x := word) (j := j) (pos := p1)) (pa_cons hp pa_nil))))
    exact hq.run pins s' σ H' D I ⟨h1, h2, h3⟩
  · exact ⟨mE X.K Q l, fun cls d σ' H' hl' z => wMany_of rfl hl' z, hs f, hl f, hc, h⟩
end Ev
end
section
set_option linter.all false
set_option maxRecDepth 100000
set_option maxHeartbeats 1000000
/-! Sound8: calls, errors raised, errors met. -/
namespace Ev
open PySem PySem.Spec PyProof.Rows L2 LamX
/-- an exception in flight: its class, what it carries -/
def ExR (g : Gl) (w : Wd) (H : Hp) (c : Nat) (ds : List D) (cls : Value) (d : Option Addr) : Prop :=
  cls = .ref (g.ca c) ∧ ∃ (dd : Addr) (v : V) (x : D), ds = [x] ∧ d = some dd ∧ H dd = some (.xd [(("thing" : Str), v)]) ∧ Rep g w x v
/-- what a def hands back -/
inductive RepF (g : Gl) (w' : Wd) (H H' : Hp) : Rv → V → Prop
  | fr {d v} : Rep g w' d v → RepF g w' H H' (.fr d) v
  | ow {d a} : w'.F a = none → a ∉ w'.m → Nw H a → CO g w' H' a d → RepF g w' H H' (.ow d) (.ref a)
def spF (g : Gl) (rho : Rho) (f n : Nat) : Sp := fun vs H Q E => vs.length = n ∧ ∃ w sh ds, RSg g w sh H ∧ Reps g w ds vs ∧
  match rho f ds sh with
  | .ok r sh' => ∀ w' H' v, RSg g w' sh' H' → Tr ⟨w, H, fun _ => False⟩ w' H' (fun _ => False) → RepF g w' H H' r v → Q v H'
  | .ex c es sh' => ∀ w' H' cls d, RSg g w' sh' H' → Tr ⟨w, H, fun _ => False⟩ w' H' (fun _ => False) → ExR g w' H' c es cls d → E cls d H'
  | .er => False
/-- the wish about exceptions, the setting's and the context's -/
def Link (Y : Cy) (E : XK) : Prop := ∀ c ds sh w H T cls d, Y.xw c ds sh → RSg Y.g w sh H → Tr Y.b w H T → ExR Y.g w H c ds cls d → E cls d H
theorem Link.base {Y : Cy} {E : XK} (l : Link Y E) {w : Wd} {H : Hp} {T : Addr → Prop} (t : Tr Y.b w H T) : Link (Y.at w H T) E := fun c ds sh w' H' T' cls d x r t' e => l c ds sh w' H' T' cls d x r (t.trans t') e
theorem Link.blk {Y : Cy} {E : XK} {b : Ba} : Link (Y.blk b) E := fun _ _ _ _ _ _ _ _ x => x.elim
section
variable {X : Cx} {Y : Cy} {σ : L2.St} {H : Hp} {w : Wd} {s : S} {E0 : XK}
/-- a call by what its end is -/
theorem call_sp (hl : Link Y E0) {f n : Nat} {ds : List D} {vs : List V} {Q : VK} (h : RSt Y.g Y.b w s σ H) (rs : Reps Y.g w ds vs) (hn : ds.length = n) (p : Post (ofFR s (Y.C.rho f ds s.sh)) (fun r s' => KR Y.g Y.b w s' σ r Q) (X3 Y)) : spF Y.g Y.C.rho f n vs H Q E0 := by
  refine ⟨by rw [← rs.length]; exact hn, w, s.sh, ds, h.rs.st, rs, ?_⟩
  cases e : Y.C.rho f ds s.sh with
  | er => rw [e] at p; exact p.elim
  | ok r sh' =>
    rw [e] at p
    have p : KR Y.g Y.b w (setSh s sh') σ r Q := p
    intro w' H' v hg t rf
    have h' := h.call hg t
    refine p w' H' v h' t.le ?_
    cases rf with
    | fr q => exact .fr q
    | ow f m nw c => exact .ow (Own.ofCall (T' := fun _ => False) h f m nw c)
  | ex c es sh' =>
    rw [e] at p
    intro w' H' cls d hg t er
    exact hl c es sh' w' H' _ cls d p hg (h.call hg t).tr er
theorem rd_call (hl : Link Y E0) {f n : Nat} {es : Es} {Q : VK} (hn : ∀ ds s s', evEs Y.C es s = .ok ds s' → ds.length = n) (q : rdE Y (.call f es []) σ H Q) : tCall (spF Y.g Y.C.rho f n) [] E0 (rdEs Y es) σ H Q := by
  obtain ⟨w, s, h, p⟩ := q
  unfold evE at p
  rw [post_bind] at p
  have key : Post (evEs Y.C es s) (fun ds s1 => ds.length = n ∧ Post (ofFR s1 (Y.C.rho f (permute [] ds) s1.sh)) (fun r s' => KR Y.g Y.b w s' σ r Q) (X3 Y)) (X3 Y) := by
    cases e : evEs Y.C es s with
    | ok ds s1 => rw [e] at p; exact ⟨hn ds s s1 e, p⟩
    | ex c ds s1 => rw [e] at p; exact p
    | er => rw [e] at p; exact p
  refine ⟨w, s, h, key.mono (fun ds s1 ⟨k1, k2⟩ w1 H1 vs h1 l rs => ?_) fun _ _ _ z => z⟩
  show spF Y.g Y.C.rho f n (vs ++ []) H1 Q E0
  rw [List.append_nil]
  refine call_sp hl h1 rs k1 (Post.mono k2 (fun _ _ k => KR.le l k) fun _ _ _ z => z)
/-- a call of what a slot holds -/
def tCLV (Y : Cy) (S : Nat → Nat → Prop) (E0 : XK) (i : Nat) (t : TA) : TE := fun σ H Q => ∃ f n, S f n ∧ σ[i]? = some (some (.ref (Y.g.fa f))) ∧ t σ H fun vs H1 => spF Y.g Y.C.rho f n vs H1 Q E0
theorem rd_cllv (hl : Link Y E0) {i n : Nat} {es : Es} {S : Nat → Nat → Prop} {Q : VK} (hS : ∀ p ∈ Y.C.ar, S p.1 p.2) (hn : ∀ ds s s', evEs Y.C es s = .ok ds s' → ds.length = n) (hm : esLen es = n) (q : rdE Y (.cllv i es) σ H Q) : tCLV Y S E0 i (rdEs Y es) σ H Q := by
  obtain ⟨w, s, h, p⟩ := q
  unfold evE at p
  cases e0 : s.get i with
  | un => rw [e0] at p; exact p.elim
  | ow d => rw [e0] at p; exact p.elim
  | fr d =>
    rw [e0] at p
    cases d with
    | fn f =>
      have p : Post (if Y.C.ar.contains (f, esLen es) then (evEs Y.C es s).bind fun ds s1 => ofFR s1 (Y.C.rho f ds s1.sh) else .er) (fun r s' => KR Y.g Y.b w s' σ r Q) (X3 Y) := p
      by_cases hc : Y.C.ar.contains (f, esLen es) = true
      · rw [if_pos hc, post_bind] at p
        obtain ⟨v, e1, rv⟩ := h.rs.fr i _ (get_fr e0)
        have hS' := hS _ (by simpa using hc)
        rw [hm] at hS'
        cases rv with
        | fn h1 h2 =>
          have key : Post (evEs Y.C es s) (fun ds s1 => ds.length = n ∧ Post (ofFR s1 (Y.C.rho f ds s1.sh)) (fun r s' => KR Y.g Y.b w s' σ r Q) (X3 Y)) (X3 Y) := by
            cases e : evEs Y.C es s with
            | ok ds s1 => rw [e] at p; exact ⟨hn ds s s1 e, p⟩
            | ex c ds s1 => rw [e] at p; exact p
            | er => rw [e] at p; exact p
          refine ⟨f, n, hS', e1, w, s, h, key.mono (fun ds s1 ⟨k1, k2⟩ w1 H1 vs h1 l rs => ?_) fun _ _ _ z => z⟩
          exact call_sp hl h1 rs k1 (Post.mono k2 (fun _ _ k => KR.le l k) fun _ _ _ z => z)
      · rw [if_neg hc] at p; exact p.elim
    | _ => exact p.elim
/-- {} -/
theorem rd_dsp {Q : VK} (q : rdE Y (.dsp .nil .nil) σ H Q) : tDNewK σ H Q := by
  obtain ⟨w, s, h, p⟩ := q
  unfold evE at p
  unfold evEs at p
  intro a ha
  have p : KR Y.g Y.b w s σ (.ow (.dic [] [])) Q := p
  obtain ⟨h2, f, m, t, n⟩ := h.layO (o := .dK []) ha
  exact p _ _ _ h2 Le.refl (.ow ⟨f, m, t, n, .dicK upd_same rfl .nil⟩)
/-! ### raise -/
theorem rd_rse {W : WX} (hl : Link Y E0) (hW : ∀ cls d σ H, E0 cls d H → W cls d σ H) {c : Nat} {e : E} {D : Ends} (q : rdS Y (.rse c (.cons e .nil)) D σ H) : tRaiseErrT (Y.g.ca c) W (rdEs Y (.cons e .nil)) D σ H := by
  obtain ⟨w, s, h, p⟩ := q
  unfold exS at p
  rw [post_out] at p
  have key : Post (evEs Y.C (.cons e .nil) s) (fun ds s1 => (∃ x, ds = [x]) ∧ X3 Y c ds s1) (X3 Y) := by
    have len : ∀ ds s1, evEs Y.C (.cons e .nil) s = .ok ds s1 → ∃ x, ds = [x] := fun ds s1 z => by
      unfold evEs evEs at z
      cases e1 : evE Y.C e s with
      | ok r s2 => rw [e1] at z; cases z; exact ⟨_, rfl⟩
      | ex c ds s2 => rw [e1] at z; cases z
      | er => rw [e1] at z; cases z
    cases e1 : evEs Y.C (.cons e .nil) s with
    | ok ds s1 => rw [e1] at p; exact ⟨len ds s1 e1, p⟩
    | ex c ds s1 => rw [e1] at p; exact p
    | er => rw [e1] at p; exact p
  refine ⟨w, s, h, key.mono (fun ds s1 ⟨⟨x, hx⟩, k2⟩ w1 H1 vs h1 l rs => ?_) fun _ _ _ z => z⟩
  subst hx
  cases rs with
  | cons a t =>
    cases t
    refine ⟨_, rfl, fun d hd => hW _ _ _ _ ?_⟩
    obtain ⟨h2, _⟩ := h1.layO (o := .xd [(("thing" : Str), _)]) hd
    exact hl c [x] s1.sh w1 _ _ _ _ k2 h2.rs.st h2.tr ⟨rfl, d, _, x, rfl, rfl, upd_same, a⟩
/-! ### met -/
theorem RSt.frzL {g : Gl} {b : Ba} : ∀ (l : List Nat) {w : Wd} {s : S}, RSt g b w s σ H → ∃ w', RSt g b w' (frzL l s) σ H ∧ Le w w'
  | [], w, s, h => ⟨w, h, Le.refl⟩
  | i :: r, w, s, h => by
    obtain ⟨w1, h1, l1⟩ := RSt.frzL r h
    unfold Ev.frzL
    cases e : (Ev.frzL r s).get i with
    | un => exact ⟨w1, h1, l1⟩
    | fr d => exact ⟨w1, h1, l1⟩
    | ow d =>
      obtain ⟨w2, a, _, h2, l2, _⟩ := h1.freezeS (get_ow e)
      exact ⟨w2, h2, l1.trans l2⟩
theorem frzL_sh : ∀ (l : List Nat) (s : S), (frzL l s).sh = s.sh
  | [], _ => rfl
  | i :: r, s => by
    unfold frzL
    cases (frzL r s).get i <;> exact frzL_sh r s
theorem hideO_get {env : List Sl} {i : Nat} {x : Sl} (h : (hideO env)[i]? = some x) : (∀ d, x ≠ .ow d) ∧ (x = .un ∨ env[i]? = some x) := by
  unfold hideO at h
  rw [List.getElem?_map] at h
  cases e : env[i]? with
  | none => rw [e] at h; cases h
  | some y =>
    rw [e] at h
    cases h
    cases y with
    | un => exact ⟨fun d z => (by cases z), .inl rfl⟩
    | fr d => exact ⟨fun d z => (by cases z), .inr rfl⟩
    | ow d => exact ⟨fun d z => (by cases z), .inl rfl⟩
theorem RSt.hideO {g : Gl} {b : Ba} (h : RSt g b w s σ H) : RSt g ⟨w, H, fun _ => False⟩ w ⟨Ev.hideO s.env, s.sh⟩ σ H := by
  refine ⟨⟨h.rs.st, by show (Ev.hideO s.env).length = _; unfold Ev.hideO; rw [List.length_map]; exact h.rs.len, fun i d e => ?_, fun i d e => ?_, fun i j a d d' n e1 e2 => ?_⟩, Tr.refl.mono fun a t => ?_⟩
  · rcases (hideO_get e).2 with z | z
    · cases z
    · exact h.rs.fr i d z
  · exact absurd rfl ((hideO_get e).1 d)
  · exact absurd rfl ((hideO_get e1).1 d)
  · obtain ⟨i, d, e, _⟩ := t
    exact absurd rfl ((hideO_get e).1 d)
/-- the body of a lambda, for every wish about exceptions -/
def rdL (Y : Cy) (Ex : XK) (e : E) : TE := fun σ H Q => ∃ b xw, Link { Y with b := b, xw := xw } Ex ∧ rdE { Y with b := b, xw := xw } e σ H Q
def hw (g : Gl) (h : Nat × Str × Nat) : Addr × Option Str := (g.ca h.1, if h.2.2 = 0 then some h.2.1 else none)
theorem mE_of {K : PySem.W.Frag} {g : Gl} {Q : VK} {w1 : Wd} {H1 : Hp} {c : Nat} {x : D} {wd : Str} {j : Nat} : ∀ {l : List (Nat × Str × Nat)} {cls : Value} {d : Option Addr},
    (∀ p ∈ l, PySem.W.exmOne K (.ref (g.ca c)) (.ref (g.ca p.1)) = some (p.1 == c)) → l.find? (fun h => h.1 == c) = some (c, wd, j) → j = 0 → ExR g w1 H1 c [x] cls d →
    (∀ v p, Rep g w1 x v → H1 p = none → Q (.ref p) (upd H1 p (.tup [.str wd, v]))) → mE K Q (l.map (hw g)) cls d H1
  | [], _, _, _, h, _, _, _ => by cases h
  | (c', w', j') :: l, cls, d, hx, hf, hj, er, k => by
    obtain ⟨rfl, dd, v, x', e1, rfl, e3, r⟩ := er
    cases e1
    refine ⟨_, hx _ List.mem_cons_self, fun hy => ?_, fun hy => ?_⟩
    · have hc : c' = c := by simpa using hy
      subst hc
      rw [List.find?_cons_of_pos (by simp)] at hf
      cases hf
      subst hj
      exact ⟨wd, rfl, rfl, dd, v, rfl, e3, fun p hp => k v p r hp⟩
    · rw [List.find?_cons_of_neg (by rw [hy]; simp)] at hf
      exact mE_of (fun p hp => hx p (List.mem_cons_of_mem _ hp)) hf hj ⟨rfl, dd, v, x, rfl, rfl, e3, r⟩ k
theorem rd_met (hl : Link Y E0) {f : Nat} {body : E} {fz : List Nat} {Q : VK} {m : Met} (hm : Y.C.mets f = some m) (hx : ∀ c, ∀ p ∈ m.hs, PySem.W.exmOne X.K (.ref (Y.g.ca c)) (.ref (Y.g.ca p.1)) = some (p.1 == c)) (q : rdE Y (.met f body fz) σ H Q) :
    tLam Y.g.tabs (TTm X.K m.word (m.hs.map (hw Y.g))) (fun E => rdL Y E body) σ H Q := by
  obtain ⟨w, s, h, p⟩ := q
  unfold evE at p
  rw [hm] at p
  refine ⟨h.rs.st.tabs, fun H1 eN T1 => ?_⟩
  have h1 := h.extN eN T1
  obtain ⟨w1, h2, l1⟩ := h1.frzL fz
  have h3 := h2.hideO
  have hp : Post (evE Y.C body ⟨hideO (frzL fz s).env, s.sh⟩) (fun v s' => KR Y.g Y.b w ⟨(frzL fz s).env, s'.sh⟩ σ (.fr (.tup [.str m.word, v.d])) Q)
      (fun c ds s' => ∃ x wd j, ds = [x] ∧ m.hs.find? (fun h => h.1 == c) = some (c, wd, j) ∧ j = 0 ∧ KR Y.g Y.b w ⟨(frzL fz s).env, s'.sh⟩ σ (.fr (.tup [.str wd, x])) Q) := by
    cases e : evE Y.C body ⟨hideO (frzL fz s).env, s.sh⟩ with
    | er => simp only [e] at p; exact p.elim
    | ok v s' => simp only [e] at p; exact p
    | ex c ds s' =>
      simp only [e] at p
      unfold metEnd at p
      simp only at p
      cases e1 : m.hs.find? (fun h => h.1 == c) with
      | none => simp only [e1] at p; exact p.elim
      | some h =>
        obtain ⟨c', wd, j⟩ := h
        have hc : c' = c := by
          have := List.find?_some e1
          simpa using this
        subst hc
        simp only [e1] at p
        cases ds with
        | nil => exact p.elim
        | cons x ds =>
          cases ds with
          | cons y ds => exact p.elim
          | nil =>
            have p : Post (if j = 0 then Res.ok (Rv.fr (.tup [.str wd, x])) ⟨(frzL fz s).env, s'.sh⟩ else .er) (fun r s' => KR Y.g Y.b w s' σ r Q) (X3 Y) := p
            by_cases hj : j = 0
            · rw [if_pos hj] at p
              exact ⟨x, wd, j, rfl, e1, hj, p⟩
            · rw [if_neg hj] at p; exact p.elim
  have two : ∀ x y : V, [x, y].length ≤ sizeLine := fun _ _ => (by decide : 2 ≤ sizeLine)
  -- a new pair behind the body
  have pair : ∀ {w' : Wd} {H' : Hp} {sh' : List D} {T' : Addr → Prop} {wd : Str} {x : D} {v : V} {p : Addr}, RSg Y.g w' sh' H' → Tr ⟨w1, H1, fun _ => False⟩ w' H' T' → Rep Y.g w' x v → H' p = none →
      KR Y.g Y.b w ⟨(frzL fz s).env, sh'⟩ σ (.fr (.tup [.str wd, x])) Q → Q (.ref p) (upd H' p (.tup [.str wd, v])) := fun {w' H' sh' T' wd x v p} hg t r hp k => by
    have h4 := h2.call hg t
    obtain ⟨h5, l5⟩ := h4.layF (o := .tup [.str wd, v]) hp
    exact k _ _ _ h5 ((l1.trans t.le).trans l5) (.fr (.tup (SqT.of upd_same) (.cons .str (.cons (r.mono l5) .nil))))
  rw [frzL_sh] at h3
  refine ⟨⟨w1, H1, fun _ => False⟩, fun c ds sh => ∃ x wd j, ds = [x] ∧ m.hs.find? (fun h => h.1 == c) = some (c, wd, j) ∧ j = 0 ∧ KR Y.g Y.b w ⟨(frzL fz s).env, sh⟩ σ (.fr (.tup [.str wd, x])) Q, ?_, w1, _, h3, hp.mono (fun v s' k w' H' vv h' l' rv => ?_) fun c ds s' z => z⟩
  · rintro c ds sh w' H' T' cls d ⟨x, wd, j, rfl, hf, hj, k⟩ hg t er
    exact mE_of (fun p hp => hx c p hp) hf hj er fun v p r hp => pair hg t r hp k
  · obtain ⟨w2, h4, l2, r2⟩ := h'.fz rv
    exact ⟨two _ _, fun p hp => pair h4.rs.st h4.tr r2 hp k⟩
end
end Ev
end
section
set_option linter.all false
set_option maxRecDepth 100000
set_option maxHeartbeats 1000000
/-! KwCall: calls whose arguments are all keywords. -/
namespace Ev
open PySem PySem.Spec PyProof.Rows L2
def pmV (pm : List Nat) (vs : List V) : List V := pm.map fun i => vs.getD i .non
def pmU (pm : List Nat) (us : List Value) : List Value := pm.map fun i => us.getD i .none
/-- how keywords ks fill the parameters: the i-th parameter is the (pm i)-th keyword -/
def KwB (K : PySem.W.Frag) (fd : FuncData) (ps ks : List Str) (pm : List Nat) : Prop := ∀ (s : Shared) (us : List Value), K.In s.heap → us.length = ks.length → BindsTo s fd ⟨[], ks.zip us⟩ (ps.zip (pmU pm us))
theorem vals_getD {vs : List V} {us : List Value} (r : Vals vs us) (i : Nat) : RelV (vs.getD i .non) (us.getD i .none) := by
  rw [List.getD_eq_getElem?_getD, List.getD_eq_getElem?_getD]
  cases e : vs[i]? with
  | none => rw [r.none_of e]; exact rfl
  | some v =>
    obtain ⟨u, e2, q⟩ := r.get e
    rw [e2]
    exact q
theorem vals_pm {vs : List V} {us : List Value} (r : Vals vs us) : ∀ pm : List Nat, Vals (pmV pm vs) (pmU pm us)
  | [] => .nil
  | i :: pm => .cons (vals_getD r i) (vals_pm r pm)
theorem reps_getD {g : Gl} {w : Wd} {ds : List D} {vs : List V} (r : Reps g w ds vs) (i : Nat) : Rep g w (ds.getD i .non) (vs.getD i .non) := by
  rw [List.getD_eq_getElem?_getD, List.getD_eq_getElem?_getD]
  cases e : ds[i]? with
  | none =>
    have h := List.getElem?_eq_none_iff.mp e
    rw [List.getElem?_eq_none (by rw [← r.length]; exact h)]
    exact .non
  | some d =>
    obtain ⟨v, e2, q⟩ := r.get e
    rw [e2]
    exact q
theorem reps_pm {g : Gl} {w : Wd} {ds : List D} {vs : List V} (r : Reps g w ds vs) : ∀ pm : List Nat, Reps g w (pm.map fun i => ds.getD i .non) (pmV pm vs)
  | [] => .nil
  | i :: pm => .cons (reps_getD r i) (reps_pm r pm)
section
variable {X : Cx} {CX : CXT} {k : Nat} {f : Addr} {fd : FuncData} {ps ks : List Str} {sp : Sp} {E : XK} {x : Str} {p pos : Pos} {kws : List Keyword} {tk : TA} {pm : List Nat}
/-- f(k = v, ..) -/
theorem pe_callKw (F : FnOk X.prog X.w X.K X.mg X.base CX k f fd ps sp) (hr : Room k X.A) (hg : L2.Gl X x) (hm : X.mg x = some (.ref f)) (hk : PySem.W.keepIn X.K (.ref f) = true) (hb : KwB X.K fd ps ks pm) (hx : Passes CX X E)
    (hkw : PK X kws tk) (hln : ∀ σ H Q, tk σ H Q → tk σ H fun vs H' => vs.length = ks.length ∧ Q vs H') (hall : (backToKw pos (keywordEach kws X.env)).all (·.1.isSome) = true) (hks : (backToKw pos (keywordEach kws X.env)).filterMap (·.1) = ks) (hdb : (x == ("__debug__" : Str)) = false)
    (hpl : ((backTo pos (starEach [] X.env)).any (·.1) || (backToKw pos (keywordEach kws X.env)).any (·.1.isNone)) = false) : PE X (.Call (.Name x p) [] kws pos) (fun σ H Q => tk σ H fun vs H1 => sp (pmV pm vs) H1 Q E) := by
  refine ⟨fun pins s σ H Q I h => ?_⟩
  refine wpAny_Call_Name_kw (ld_glob I hg hm ?_ hdb)
  refine PySem.W.callWith_KW0 (h₀ := X.base) I.ok.mod.kin hk hall (thn (hkw.run pos pins s σ H _ I (hln _ _ _ h)) fun us s2 ⟨vs, H2, I2, rv, hl, q2⟩ => ⟨I2.kIn, ?_⟩) hpl
  rw [hks]
  have r2 := vals_pm rv pm
  have hl2 : (pmU pm us).length = ps.length := by rw [← r2.length]; exact F.len _ _ _ _ q2
  refine wpAny_call (codeAny_mono (F.run X.A X.stack s2 H2 ⟨[] ++ [], ks.zip us⟩ (pmU pm us) (pmV pm vs) Q E hr I2.env0 (hb s2 us I2.kIn (rv.length.symm.trans hl)) r2 q2) fun r s' hq => ?_)
  cases r with
  | error e => exact hx pins σ H2 s2 e s' I2 hq
  | ok fl =>
    cases fl with
    | ret u => exact I2.after hq
    | next => exact False.elim hq
    | brk => exact False.elim hq
    | cont => exact False.elim hq
end
section
variable {X : Cx} {Y : Cy} {σ : L2.St} {H : Hp} {w : Wd} {s : S} {E0 : XK}
theorem rd_callKw (hl : Link Y E0) {f n : Nat} {es : Es} {pm : List Nat} (hp : pm ≠ []) (hn : pm.length = n) {Q : VK} (q : rdE Y (.call f es pm) σ H Q) : rdEs Y es σ H fun vs H1 => spF Y.g Y.C.rho f n (pmV pm vs) H1 Q E0 := by
  obtain ⟨w, s, h, p⟩ := q
  unfold evE at p
  rw [post_bind] at p
  refine ⟨w, s, h, p.mono (fun ds s1 k2 w1 H1 vs h1 l rs => ?_) fun _ _ _ z => z⟩
  have e : permute pm ds = pm.map fun i => ds.getD i .non := by
    unfold permute
    rw [if_neg (by cases pm <;> first | exact absurd rfl hp | simp)]
  rw [e] at k2
  exact call_sp hl h1 (reps_pm rs pm) (by rw [List.length_map]; exact hn) (Post.mono k2 (fun _ _ k => KR.le l k) fun _ _ _ z => z)
end
end Ev
end
section
set_option linter.all false
set_option maxRecDepth 100000
set_option maxHeartbeats 1000000
/-! Chk1: an expression tree and its IR, checked; what a checked pair is worth. -/
namespace Ev
open PySem PySem.Spec PyProof.Rows L2 LamX
structure Ck where
  N : List Str
  sc : Scope
  own : Scope
  fns : List (Str × Nat × Nat)
  cls : List (Str × Nat)
  glb : List Str
  mets : List (Str × Nat)
  kws : List (Str × List Str × List Nat)
  lam : Bool
def glob (K : Ck) (x : Str) : Bool := decide (K.sc.names.lookup x = some .globalImplicit) && !decide (x = ("__debug__" : Str))
def isBlt (K : Ck) (x : Str) : Bool := glob K x && K.glb.contains x && !decide (x = ("__name__" : Str))
def visB (K : Ck) (x : Str) : Bool := decide (K.sc.names.lookup x = some .local) || decide (K.sc.names.lookup x = some .cell) || decide (K.sc.names.lookup x = some .free)
def locB (K : Ck) (x : Str) : Bool := decide (K.sc.names.lookup x = some .local) || (decide (K.sc.names.lookup x = some .cell) && decide (K.own.names.lookup x = some .cell))
def okV (K : Ck) (i : Nat) (x : Str) : Bool := decide (K.N[i]? = some x) && visB K x && !decide (x = ("__debug__" : Str)) && !decide (x = ("__classdict__" : Str))
def notStar : Expr → Bool
  | .Starred _ _ => false
  | _ => true
def notSet : Expr → Bool
  | .Set _ _ _ => false
  | _ => true
def notSlice : Expr → Bool
  | .Slice _ _ _ _ => false
  | _ => true
def plainT : Expr → Bool
  | .UnaryOp .Not _ _ => false
  | .BoolOp _ _ _ => false
  | .IfExp _ _ _ _ => false
  | .Compare _ _ _ _ => false
  | _ => true
def plainO : Expr → Bool
  | .Call _ [] [] _ => false
  | _ => true
def notLC : Expr → Bool
  | .ListComp _ _ _ _ => false
  | .SetComp _ _ _ _ => false
  | .DictComp _ _ _ _ _ => false
  | _ => true
theorem star_cons {e : Expr} {es : List Expr} {env : Env} (h : notStar e = true) : starEach (e :: es) env = (false, eval e env) :: starEach es env := by
  cases e <;> first | rfl | cases h
theorem star_plain {pos : Pos} {env : Env} : ∀ {es : List Expr}, es.all notStar = true → (backTo pos (starEach es env)).any (·.1) = false
  | [], _ => rfl
  | e :: es, h => by
    rw [List.all_cons, Bool.and_eq_true] at h
    rw [star_cons h.1]
    show (false || (backTo pos (starEach es env)).any (·.1)) = false
    rw [star_plain h.2]
    rfl
theorem star_few {pos : Pos} {env : Env} : ∀ {es : List Expr}, es.all notStar = true → (backTo pos (starEach es env)).all (fun x => !x.1) = true
  | [], _ => rfl
  | e :: es, h => by
    rw [List.all_cons, Bool.and_eq_true] at h
    rw [star_cons h.1]
    show (!false && (backTo pos (starEach es env)).all (fun x => !x.1)) = true
    rw [star_few h.2]
    rfl
theorem behind_of {op : CmpOp} {e : Expr} (h : notSet e = true) : behindInMarks op e = false := by
  cases e <;> first | rfl | cases h
theorem plainIx_of {b : Expr} (h : notSlice b = true) : PlainIx b := fun o i => by
  cases b <;> first | rfl | cases h
theorem isTrue_of {e : Expr} {env : Env} (h : plainT e = true) : ∀ whole, isTrue e env whole = (do let v ← whole; standAt e.pos; holding [v] (truthy v)) := fun whole => by
  cases e <;> first
    | rfl
    | cases h
    | (rename_i op _ _; cases op <;> first | rfl | cases h)
theorem attr_base {o : Expr} {a : Str} {env : Env} (h : plainO o = true) : attributeBase o a env (eval o env) = eval o env := by
  unfold attributeBase
  cases o <;> first
    | rfl
    | (rename_i f as ks p
       cases as with
       | cons _ _ => cases f <;> rfl
       | nil =>
         cases ks with
         | cons _ _ => cases f <;> rfl
         | nil => cases h)
theorem fold_of {e : Expr} {env : Env} (h : notSet e = true) : ∀ x, foldedSetIterable e env x = pure x := fun x => by
  cases e <;> first | rfl | cases h
theorem swaps_of {v : Expr} {t : Option Expr} {n : Nat} {env : Env} (h : notLC v = true) : swapsWith v t n env = pure false := by
  cases v <;> first | rfl | cases h
def ckC (K : Ck) (d : D) (e : Expr) : Bool := match e with
  | .Constant .none _ _ => (match d with | .non => true | _ => false)
  | .Constant (.bool b) _ _ => (match d with | .bl c => b == c | _ => false)
  | .Constant (.int i) _ _ => (match d with | .int j => decide (i = j) | _ => false)
  | .Constant (.str x) _ _ => (match d with | .str y => decide (x = y) | _ => false)
  | .Name x _ => glob K x && (match d with
    | .fn i => (K.fns.any fun p => decide (p.1 = x) && p.2.1 == i) || (K.mets.any fun p => decide (p.1 = x) && p.2 == i)
    | .cls i => K.cls.any fun p => decide (p.1 = x) && p.2 == i
    | _ => false)
  | _ => false
def biName : BI → Str
  | .len => "len" | .list => "list" | .tuple => "tuple" | .int => "int" | .sorted => "sorted" | .sum => "sum" | .all => "all" | .any => "any"
  | .min1 => "min" | .max1 => "max" | .min2 => "min" | .max2 => "max" | .abs => "abs" | .dict1 => "dict" | .lrange1 => "list" | .lrange2 => "list" | .litems => "list" | .str => "str" | .bool => "bool" | .max3 => "max" | .sum2 => "sum"
def ckTy (K : Ck) (d : D) (e : Expr) : Bool := match d, e with
  | .ty n, .Name x _ => isBlt K x && decide (x = Str.ofString n) && okTg (.ty n)
  | _, _ => false
def ckTys (K : Ck) : List D → List Expr → Bool
  | [], [] => true
  | d :: ds, e :: es => ckTy K d e && ckTys K ds es
  | _, _ => false
/-- targets -/
def ckG (K : Ck) (ok : Nat → Bool) : Nat → Tg → Expr → Bool
  | _, .nm i, e => (match e with
    | .Name x _ => decide (K.N[i]? = some x) && locB K x && ok i
    | _ => false)
  | 0, .tp _, _ => false
  | f + 1, .tp ts, e => (match e with
    | .Tuple es _ _ => go f ts es
    | _ => false)
where
  go (f : Nat) : List Tg → List Expr → Bool
    | [], [] => true
    | t :: ts, e :: es => ckG K ok f t e && go f ts es
    | _, _ => false
def blkK (K : Ck) (scope : Scope) : Ck := { K with sc := relS scope K.sc, own := scope }
def lamK (K : Ck) (scope : Scope) : Ck := { K with sc := scope, own := scope, lam := false }
def ownN (K : Ck) (own : List Nat) : List (Str × Nat) := own.map fun i => (K.N.getD i ("" : Str), i)
def noArgs (p : Arguments) : Bool := p.posonlyargs.isEmpty && p.args.isEmpty && p.vararg.isNone && p.kwonlyargs.isEmpty && p.kw_defaults.isEmpty && p.kwarg.isNone && p.defaults.isEmpty
def isTup : Expr → Bool
  | .Tuple _ _ _ => true
  | _ => false
def kwNames (l : List Keyword) : List Str := l.filterMap fun k => k.arg
def isKeys : Ev.It → Bool
  | .keys _ => true
  | _ => false
/-- a walk over keys, told at once -/
def keyLc : E → Bool
  | .share e => keyLc e
  | .lc _ _ it _ _ => isKeys it
  | _ => false
def ckKeys (K : Ck) (it : Ev.It) (own : List Nat) (e : Expr) : Bool := match it, e with
  | .keys i, .ListComp _ [c] scope _ => (c.is_async == 0) && (match c.iter with
    | .Name x _ => okV K i x
    | _ => false) && blkC K.N K.sc scope (ownN K own)
  | _, _ => false
mutual
def ckE (K : Ck) : E → Expr → Bool
  | .var i, e => (match e with
    | .Name x _ => okV K i x
    | _ => false)
  | .cst d, e => ckC K d e
  | .nev, _ => true
  | .share e, a => ckE K e a
  | .bin op a b, e => (match e with
    | .BinOp l op' r _ => decide (op = op') && ckB K a l && ckB K b r
    | _ => false)
  | .neg a, e => (match e with
    | .UnaryOp .USub x _ => ckB K a x
    | _ => false)
  | .cmp op a b, e => (match e with
    | .Compare l [op'] [r] _ => decide (op = op') && ckB K a l && ckB K b r && notSet r
    | _ => false)
  | .chn a op b r, e => (match e with
    | .Compare l (o1 :: ops) (r1 :: rs) _ => decide (op = o1) && ckB K a l && ckB K b r1 && (r1 :: rs).all notSet && ckCh K r ops rs && (match r with
      | .nil => false
      | .cons _ _ _ => true)
    | _ => false)
  | .not a, e => (match e with
    | .UnaryOp .Not x _ => ckB K a x
    | _ => false)
  | .one a, e => (match e with
    | .BoolOp _ [x] _ => ckE K a x
    | _ => false)
  | .and a r, e => (match e with
    | .BoolOp .And (x :: y :: zs) p => ckE K a x && ckE K r (.BoolOp .And (y :: zs) p)
    | _ => false)
  | .or a r, e => (match e with
    | .BoolOp .Or (x :: y :: zs) p => ckE K a x && ckE K r (.BoolOp .Or (y :: zs) p)
    | _ => false)
  | .ife t a b, e => (match e with
    | .IfExp c x y _ => ckT K t c && ckE K a x && ckE K b y
    | _ => false)
  | .lst es, e => (match e with
    | .List xs _ => ckEs K es xs
    | _ => false)
  | .tup es, e => (match e with
    | .Tuple xs _ _ => ckEs K es xs
    | _ => false)
  | .dsp ks vs, e => (match ks with
    | .nil => (match vs with
      | .nil => (match e with
        | .Dict [] [] _ => true
        | _ => false)
      | _ => false)
    | _ => false)
  | .idx a i, e => (match e with
    | .Subscript x y _ => ckB K a x && ckB K i y && notSlice y
    | _ => false)
  | .slc a lo hi, e => (match e with
    | .Subscript x (.Slice l h none _) _ => ckB K a x && ckO K lo l && ckO K hi h
    | _ => false)
  | .call f es pm, e => (match e with
    | .Call (.Name x _) (y :: ys) [] _ => pm.isEmpty && glob K x && (K.fns.any fun p => decide (p.1 = x) && p.2.1 == f && p.2.2 == (y :: ys).length) && ckEs K es (y :: ys) && (y :: ys).all notStar
    | .Call (.Name x _) [] [] _ => pm.isEmpty && glob K x && (K.fns.any fun p => decide (p.1 = x) && p.2.1 == f && p.2.2 == 0) && ckEs K es []
    | .Call (.Name x _) [] (kw :: kws) _ => !pm.isEmpty && glob K x && (K.fns.any fun p => decide (p.1 = x) && p.2.1 == f && p.2.2 == pm.length) && (K.kws.any fun p => decide (p.1 = x) && decide (p.2.1 = kwNames (kw :: kws)) && decide (p.2.2 = pm)) && ckKs K es (kw :: kws)
    | _ => false)
  | .cllv i es, e => (match e with
    | .Call (.Name x _) (y :: ys) [] _ => okV K i x && ckEs K es (y :: ys) && (y :: ys).all notStar
    | _ => false)
  | .bcl b es, e => (match b with
    | .lrange1 => (match e with
      | .Call (.Name x _) [.Call (.Name y _) [z] [] _] [] _ => decide (x = ("list" : Str)) && isBlt K x && decide (y = ("range" : Str)) && isBlt K y && ckBs K es [z] && notStar z
      | _ => false)
    | .lrange2 => (match e with
      | .Call (.Name x _) [.Call (.Name y _) [z, z2] [] _] [] _ => decide (x = ("list" : Str)) && isBlt K x && decide (y = ("range" : Str)) && isBlt K y && ckBs K es [z, z2] && notStar z && notStar z2
      | _ => false)
    | .litems => (match e with
      | .Call (.Name x _) [.Call (.Attribute o name ap) [] [] cp] [] _ => decide (x = ("list" : Str)) && isBlt K x && decide (name = ("items" : Str)) && plainO o && (ap.endLine == cp.line) && ckBs K es [o]
      | _ => false)
    | b => (match e with
      | .Call (.Name x _) (y :: ys) [] _ => biPlain b && decide (x = biName b) && isBlt K x && ckBs K es (y :: ys) && (y :: ys).all notStar
      | _ => false))
  | .isi a ts, e => (match e with
    | .Call (.Name x _) [y, z] [] _ => decide (x = ("isinstance" : Str)) && isBlt K x && ckB K a y && notStar y && (match z with
      | .Tuple es _ _ => ckTys K ts es && decide (ts.length < 100)
      | z => ckTys K ts [z] && notStar z)
    | _ => false)
  | .mth m a es, e => (match e with
    | .Call (.Attribute o name ap) xs [] cp => (mutMI m || lookMI m) && decide (name = mtName m) && plainO o && (ap.endLine == cp.line) && ckB K a o && ckBs K es xs && xs.all notStar && decide (xs.length < 30)
    | _ => false)
  | .app a x, e => (match e with
    | .Call (.Attribute o name ap) [y] [] cp => decide (name = ("append" : Str)) && plainO o && (ap.endLine == cp.line) && ckB K a o && ckE K x y && notStar y
    | _ => false)
  | .lc elt tg it ifs own, e => if isKeys it then ckKeys K it own e else (match e with
    | .ListComp el [c] scope _ => (c.is_async == 0) && ckIt K it c.target c.iter && notSet c.iter && blkC K.N K.sc scope (ownN K own) && ckG (blkK K scope) (fun i => own.contains i) 9 tg c.target && ckTs (blkK K scope) ifs c.ifs && ckE (blkK K scope) elt el
    | _ => false)
  | .met f body _, e => (match e with
    | .Call (.Name x _) [.Lambda ps bd scope _] [] _ => K.lam && glob K x && (K.mets.any fun p => decide (p.1 = x) && p.2 == f) && lamSB K.sc scope && noArgs ps && ckE (lamK K scope) body bd
    | _ => false)
def ckB (K : Ck) : B → Expr → Bool
  | .var i, e => (match e with
    | .Name x _ => okV K i x
    | _ => false)
  | .of e, a => ckE K e a
def ckT (K : Ck) : T → Expr → Bool
  | .of a, e => plainT e && ckB K a e
  | .cmp op a b, e => (match e with
    | .Compare l [op'] [r] _ => decide (op = op') && ckB K a l && ckB K b r && notSet r
    | _ => false)
  | .chn a op b r, e => (match e with
    | .Compare l (o1 :: ops) (r1 :: rs) _ => decide (op = o1) && ckB K a l && ckB K b r1 && (r1 :: rs).all notSet && ckCh K r ops rs && (match r with
      | .nil => false
      | .cons _ _ _ => true)
    | _ => false)
  | .not t, e => (match e with
    | .UnaryOp .Not x _ => ckT K t x
    | _ => false)
  | .one t, e => (match e with
    | .BoolOp _ [x] _ => ckT K t x
    | _ => false)
  | .and t r, e => (match e with
    | .BoolOp .And (x :: y :: zs) p => ckT K t x && ckT K r (.BoolOp .And (y :: zs) p)
    | _ => false)
  | .or t r, e => (match e with
    | .BoolOp .Or (x :: y :: zs) p => ckT K t x && ckT K r (.BoolOp .Or (y :: zs) p)
    | _ => false)
def ckTs (K : Ck) : Ts → List Expr → Bool
  | .nil, es => es.isEmpty
  | .cons t r, es => (match es with
    | [x] => ckT K t x && (match r with
      | .nil => true
      | .cons _ _ => false)
    | _ => false)
def ckIt (K : Ck) : Ev.It → Expr → Expr → Bool
  | .seq b _, _, e => ckB K b e
  | .rng1 b, _, e => (match e with
    | .Call (.Name x _) [y] [] _ => decide (x = ("range" : Str)) && isBlt K x && ckB K b y && notStar y
    | _ => false)
  | .rng2 a b, _, e => (match e with
    | .Call (.Name x _) [y, z] [] _ => decide (x = ("range" : Str)) && isBlt K x && ckB K a y && ckB K b z && notStar y && notStar z
    | _ => false)
  | .zip es, tg, e => (match e with
    | .Call (.Name x _) [y, z] [] _ => decide (x = ("zip" : Str)) && isBlt K x && isTup tg && ckEs K es [y, z] && notStar y && notStar z
    | _ => false)
  | .enm _, _, _ => false
  | .items _, _, _ => false
  | .keys _, _, _ => false
/-- one more link -/
def ckCh (K : Ck) : Ch → List CmpOp → List Expr → Bool
  | .nil, ops, es => ops.isEmpty && es.isEmpty
  | .cons op b r, ops, es => (match ops with
    | o :: ops => (match es with
      | e :: es => decide (op = o) && ckB K b e && ckCh K r ops es
      | [] => false)
    | [] => false)
def ckO (K : Ck) : O → Option Expr → Bool
  | .no, e => (match e with
    | none => true
    | some _ => false)
  | .so b, e => (match e with
    | some x => ckB K b x
    | none => false)
def ckEs (K : Ck) : Es → List Expr → Bool
  | .nil, es => es.isEmpty
  | .cons e r, es => (match es with
    | x :: xs => notStar x && ckE K e x && ckEs K r xs
    | [] => false)
  | .star b r, es => (match es with
    | .Starred x _ :: xs => ckB K b x && ckEs K r xs
    | _ => false)
def ckKs (K : Ck) : Es → List Keyword → Bool
  | .nil, es => es.isEmpty
  | .cons e r, es => (match es with
    | x :: xs => x.arg.isSome && ckE K e x.value && ckKs K r xs
    | [] => false)
  | .star _ _, _ => false
def ckBs (K : Ck) : Bs → List Expr → Bool
  | .nil, es => es.isEmpty
  | .cons e r, es => (match es with
    | x :: xs => notStar x && ckB K e x && ckBs K r xs
    | [] => false)
end
end Ev
end
section
set_option linter.all false
set_option maxRecDepth 100000
set_option maxHeartbeats 2000000
/-! Chk2: what a checked expression is worth. -/
namespace Ev
open PySem PySem.Spec PyProof.Rows L2 LamX
/-- a def of the program, promised -/
structure FnP (P : Program) (W : World) (K : PySem.W.Frag) (mg : Str → Option Value) (base : Heap) (g : Gl) (rho : Rho) (kws : List (Str × List Str × List Nat)) (k : Nat) (x : Str) (f n : Nat) : Prop where
  hm : mg x = some (.ref (g.fa f))
  kp : PySem.W.keepIn K (.ref (g.fa f)) = true
  fo : ∃ o, K.lookup (g.fa f) = some o ∧ o.cls = .type "function"
  ok : ∃ fd ps, ps.length = n ∧ FnOk P W K mg base (L2.CX P W) k (g.fa f) fd ps (spF g rho f n) ∧ Binds K fd ps [] ∧ ∀ ks pm, (x, ks, pm) ∈ kws → pm.length = n → KwB K fd ps ks pm
/-- the def that meets errors, promised -/
def MetP (X : Cx) (g : Gl) (C : Cf) (x : Str) (f : Nat) : Prop := ∃ (m : Met) (a : Str) (pg : Arguments) (bg : List Stmt) (sg : Scope) (dV kV doc pm cdv ct oc : Value) (an od : Option Addr) (osl : Array (Option Value)) (Ng : List Str),
  C.mets f = some m ∧ (∀ c, ∀ p ∈ m.hs, PySem.W.exmOne X.K (.ref (g.ca c)) (.ref (g.ca p.1)) = some (p.1 == c)) ∧ X.mg x = some (.ref (g.fa f)) ∧ PySem.W.keepIn X.K (.ref (g.fa f)) = true ∧
  X.K.lookup (g.fa f) = some ⟨oc, od, .func (PySem.W.fnOf x x pg bg sg dV kV doc pm an cdv ct), osl⟩ ∧ PySem.W.codeIn X.K cdv x = true ∧ L2.Binds X.K (PySem.W.fnOf x x pg bg sg dV kV doc pm an cdv ct) [a] [] ∧ FnScope Ng [a] sg ∧ Ng[0]? = some a ∧ Vis sg a ∧
  (a == ("__debug__" : Str)) = false ∧ (a == ("__classdict__" : Str)) = false ∧
  ∀ X' : Cx, X'.K = X.K → X'.mg = X.mg → ∀ q, GivesTo X' Ng x sg (g.fa f) cdv bg a q (TTm X.K m.word (m.hs.map (hw g)))
structure XB (X : Cx) (g : Gl) (C : Cf) (K : Ck) (k : Nat) : Prop where
  hK : X.K = g.K
  hN : X.N = K.N
  nd : K.N.Nodup
  calm : X.calm = true
  room : Room k X.A
  fns : ∀ x f n, (x, f, n) ∈ K.fns → FnP X.prog X.w X.K X.mg X.base g C.rho K.kws k x f n
  cls : ∀ x c, (x, c) ∈ K.cls → ∃ qn fI, PySem.ErrT.ErrTTxt X.K X.mg x qn (g.ca c) fI
  glb : ∀ x, x ∈ K.glb → X.mg x = none
  ar : ∀ p ∈ C.ar, ∃ x, (x, p.1, p.2) ∈ K.fns
  mfn : ∀ x f, (x, f) ∈ K.mets → X.mg x = some (.ref (g.fa f)) ∧ ∃ o, X.K.lookup (g.fa f) = some o ∧ o.cls = .type "function"
  srt : ∀ X' : Cx, X'.calm = true → X'.K = g.K → X'.A.units + 64 < cLine → SortOk X' g
structure XOk (X : Cx) (Y : Cy) (K : Ck) (E0 : XK) (k : Nat) : Prop extends XB X Y.g Y.C K k where
  sc : X.env.scope = K.sc
  fnc : ∀ x, K.own.names.lookup x = some .cell → X.fn x = true
  tk : Takes X (fun cls d _ H => E0 cls d H)
  link : Link Y E0
  lam : K.lam = true → Room (k + 2) X.A ∧ ∃ c P, TabB X.base X.mg c P ∧ X.env.code = .ref c ∧ (P, X.env.qual ++ "<lambda>") ∈ Y.g.tabs ∧ (∀ p ∈ Y.g.tabs, p.1 = P → p.2 = X.env.qual ++ "<lambda>") ∧ ∀ x f, (x, f) ∈ K.mets → MetP X Y.g Y.C x f
section
variable {X : Cx} {Y : Cy} {K : Ck} {E0 : XK} {k : Nat}
theorem XOk.units (o : XOk X Y K E0 k) : X.A.units + 64 < cLine := o.room.units
theorem XOk.hsrt (o : XOk X Y K E0 k) : SortOk X Y.g := o.srt X o.calm o.hK o.units
theorem XOk.pass (o : XOk X Y K E0 k) : Passes (L2.CX X.prog X.w) X E0 := passes_call o.tk fun _ _ _ _ h => h
theorem XOk.base (o : XOk X Y K E0 k) {w : Wd} {H : Hp} {T : Addr → Prop} (t : Tr Y.b w H T) : XOk X (Y.at w H T) K E0 k := ⟨o.toXB, o.sc, o.fnc, o.tk, o.link.base t, o.lam⟩
theorem XOk.blk (o : XOk X Y K E0 k) {s : Shared} {H : Hp} {scope : Scope} {C : Addr} {cl : List (Str × Addr)} {fp : List Addr} (b : Ba) : XOk (X.blk s H scope (compEnvC scope cl C X.env) fp) (Y.blk b) (blkK K scope) (fun _ _ _ => False) k where
  hK := o.hK
  hN := o.hN
  nd := o.nd
  calm := o.calm
  room := o.room
  fns := o.fns
  cls := o.cls
  glb := o.glb
  ar := o.ar
  mfn := o.mfn
  srt := o.srt
  sc := by
    show relabel scope X.env = relS scope K.sc
    rw [← o.sc]
    rfl
  fnc := fun x h => by
    show (scope.names.lookup x == some .cell) = true
    rw [show scope.names.lookup x = some .cell from h]
    rfl
  tk := L2.takes0
  link := Link.blk
  lam := o.lam
theorem glob_ok (o : XOk X Y K E0 k) {x : Str} (h : glob K x = true) : L2.Gl X x ∧ (x == ("__debug__" : Str)) = false := by
  unfold glob at h
  simp only [Bool.and_eq_true, decide_eq_true_eq, Bool.not_eq_true', decide_eq_false_iff_not] at h
  refine ⟨?_, by simpa using h.2⟩
  show X.env.scope.names.lookup x = _
  rw [o.sc]
  exact h.1
theorem blt_ok (o : XOk X Y K E0 k) {x : Str} (h : isBlt K x = true) : L2.Gl X x ∧ (x == ("__debug__" : Str)) = false ∧ X.mg x = none ∧ x ≠ "__name__" := by
  unfold isBlt at h
  simp only [Bool.and_eq_true, Bool.not_eq_true', decide_eq_false_iff_not] at h
  obtain ⟨⟨h1, h2⟩, h3⟩ := h
  obtain ⟨g, d⟩ := glob_ok o h1
  exact ⟨g, d, o.glb x (by simpa using h2), h3⟩
theorem vis_ok (o : XOk X Y K E0 k) {x : Str} (h : visB K x = true) : Vis X.env.scope x := by
  unfold visB at h
  simp only [Bool.or_eq_true, decide_eq_true_eq] at h
  rw [o.sc]
  rcases h with (h | h) | h
  · exact .inl h
  · exact .inr (.inl h)
  · exact .inr (.inr h)
theorem pe_slot (o : XOk X Y K E0 k) {i : Nat} {x : Str} {p : Pos} (h : okV K i x = true) : PE X (.Name x p) (tVar i) := by
  unfold okV at h
  simp only [Bool.and_eq_true, decide_eq_true_eq, Bool.not_eq_true', decide_eq_false_iff_not] at h
  obtain ⟨⟨⟨h1, h2⟩, h3⟩, h4⟩ := h
  exact pe_var (by rw [o.hN]; exact h1) (vis_ok o h2) (by simpa using h3) (by simpa using h4)
theorem ok_cst (o : XOk X Y K E0 k) {d : D} {e : Expr} (h : ckC K d e = true) : PE X e (rdE Y (.cst d)) := by
  unfold ckC at h
  split at h
  · cases d <;> simp only [reduceCtorEq] at h
    exact pe_to pe_non fun _ _ _ q => rd_cst (fun _ => .non) q
  · cases d <;> simp only [reduceCtorEq] at h
    have h := eq_of_beq h
    subst h
    exact pe_to pe_bl fun _ _ _ q => rd_cst (fun _ => .bl) q
  · cases d <;> simp only [reduceCtorEq, decide_eq_true_eq] at h
    subst h
    exact pe_to pe_int fun _ _ _ q => rd_cst (fun _ => .int) q
  · cases d <;> simp only [reduceCtorEq, decide_eq_true_eq] at h
    subst h
    exact pe_to pe_str fun _ _ _ q => rd_cst (fun _ => .str) q
  · rename_i x p
    rw [Bool.and_eq_true] at h
    obtain ⟨g, hd⟩ := glob_ok o h.1
    cases d with
    | fn i =>
      rcases (Bool.or_eq_true _ _).mp h.2 with h2 | h2
      rotate_left
      · obtain ⟨⟨x', f⟩, hm, hh⟩ := List.any_eq_true.mp h2
        simp only [Bool.and_eq_true, decide_eq_true_eq, beq_iff_eq] at hh
        obtain ⟨rfl, rfl⟩ := hh
        exact pe_to (pe_glob g (o.mfn _ _ hm).1 (show RelV (.ref _) _ from rfl) hd) fun _ _ _ q => rd_cst (fun _ => by obtain ⟨fo, h1, h2⟩ := (o.mfn _ _ hm).2; rw [o.hK] at h1; exact .fn h1 h2) q
      have h2 := List.any_eq_true.mp h2
      obtain ⟨⟨x', f, n⟩, hm, hh⟩ := h2
      simp only [Bool.and_eq_true, decide_eq_true_eq, beq_iff_eq] at hh
      obtain ⟨rfl, rfl⟩ := hh
      exact pe_to (pe_glob g (o.fns _ _ _ hm).hm (show RelV (.ref _) _ from rfl) hd) fun _ _ _ q => rd_cst (fun _ => by obtain ⟨fo, h1, h2⟩ := (o.fns _ _ _ hm).fo; rw [o.hK] at h1; exact .fn h1 h2) q
    | cls i =>
      have h2 := List.any_eq_true.mp h.2
      obtain ⟨⟨x', c⟩, hm, hh⟩ := h2
      simp only [Bool.and_eq_true, decide_eq_true_eq, beq_iff_eq] at hh
      obtain ⟨rfl, rfl⟩ := hh
      obtain ⟨qn, fI, T⟩ := o.cls _ _ hm
      exact pe_to (pe_glob g T.gC (show RelV (.ref _) _ from rfl) hd) fun _ _ _ q => rd_cst (fun _ => .cls) q
    | _ => cases h.2
  · cases h
/-! ### targets -/
theorem loc_ok (o : XOk X Y K E0 k) {x : Str} (h : locB K x = true) : Loc X.env.scope x ∧ (X.fn x = true ∨ X.env.scope.names.lookup x = some .local) := by
  unfold locB at h
  simp only [Bool.or_eq_true, Bool.and_eq_true, decide_eq_true_eq] at h
  rw [o.sc]
  rcases h with h | h
  · exact ⟨.inl h, .inr h⟩
  · exact ⟨.inr h.1, .inl (o.fnc x h.2)⟩
theorem assign_each {env : Env} : ∀ {es : List Expr} {f : Nat} {ok : Nat → Bool} {ts : List Tg}, ckG.go K ok f ts es = true → (assignEach es env).length = ts.length ∧ (assignEach es env).findIdx? (·.1) = none ∧ ∀ e ∈ es, notStar e = true
  | [], f, ok, [], h => ⟨rfl, rfl, fun _ z => by cases z⟩
  | [], f, ok, t :: ts, h => by cases h
  | e :: es, f, ok, [], h => by cases h
  | e :: es, f, ok, t :: ts, h => by
    have h : (ckG K ok f t e && ckG.go K ok f ts es) = true := h
    rw [Bool.and_eq_true] at h
    obtain ⟨h1, h2, h3⟩ := assign_each (env := env) h.2
    have hn : notStar e = true := by
      cases e <;> first | rfl | (cases f <;> cases t <;> cases h.1)
    have e1 : assignEach (e :: es) env = (false, assign e env) :: assignEach es env := by
      cases e <;> first | rfl | cases hn
    rw [e1]
    refine ⟨by rw [List.length_cons, h1, List.length_cons], ?_, fun e' he => ?_⟩
    · rw [List.findIdx?_cons, h2]; rfl
    · rcases List.mem_cons.mp he with rfl | he
      · exact hn
      · exact h3 e' he
theorem ok_tg (o : XOk X Y K E0 k) {P : L2.St → Prop} {ok : Nat → Bool} (hP : ∀ i, ok i = true → ∀ σ v, P σ → P (σ.set i (some v))) : ∀ (f : Nat) (t : Tg) (e : Expr), ckG K ok f t e = true → PG X e (rdG Y P f t) := by
  have nm : ∀ (f i : Nat) (e : Expr), (match e with | .Name x _ => decide (K.N[i]? = some x) && locB K x && ok i | _ => false) = true → PG X e (rdG Y P f (.nm i)) := fun f i e h => by
    split at h
    · rename_i x p
      simp only [Bool.and_eq_true, decide_eq_true_eq] at h
      obtain ⟨⟨h1, h2⟩, h3⟩ := h
      obtain ⟨l, hf⟩ := loc_ok o h2
      exact pg_to (pg_name (by rw [o.hN]; exact o.nd) (by rw [o.hN]; exact h1) l hf) fun _ _ _ _ q => rdG_nm (hP i h3) q
    · cases h
  intro f
  induction f with
  | zero =>
    intro t e h
    cases t with
    | nm i => exact nm 0 i e (by unfold ckG at h; exact h)
    | tp ts => unfold ckG at h; cases h
  | succ f ih =>
    intro t e h
    cases t with
    | nm i => exact nm (f + 1) i e (by unfold ckG at h; exact h)
    | tp ts =>
      unfold ckG at h
      split at h
      · rename_i es kk p
        have all : ∀ (ts : List Tg) (es : List Expr), ckG.go K ok f ts es = true → PGs X es (rdGs Y P f ts) := by
          intro ts
          induction ts with
          | nil =>
            intro es h
            cases es with
            | nil => exact pgs_to pgs_nil fun _ _ _ _ q => rdGs_nil q
            | cons _ _ => cases h
          | cons t ts ih2 =>
            intro es h
            cases es with
            | nil => cases h
            | cons e es =>
              obtain ⟨_, _, h3⟩ := assign_each (env := X.env) h
              have h : (ckG K ok f t e && ckG.go K ok f ts es) = true := h
              rw [Bool.and_eq_true] at h
              refine pgs_to (pgs_cons (ih t e h.1) (ih2 es h.2) ?_) fun _ _ _ _ q => rdGs_cons q
              have hn := h3 e List.mem_cons_self
              cases e <;> first | rfl | cases hn
        obtain ⟨h1, h2, _⟩ := assign_each (env := X.env) h
        exact pg_to (pg_any o.calm (all ts es h) h1 h2) fun _ _ _ _ q => rdG_tp o.hK q
      · cases h
end
end Ev
end
section
set_option linter.all false
set_option maxRecDepth 100000
set_option maxHeartbeats 4000000
/-! Chk3: checked expressions are read. -/
namespace Ev
open PySem PySem.Spec PyProof.Rows L2 LamX
def biIsTy : BI → Bool
  | .list => true | .tuple => true | .int => true | .dict1 => true
  | _ => false
theorem boot_fn {b : BI} (h : biPlain b = true) (t : biIsTy b = false) : ∃ id, biV b = .builtin id ∧ bootBuiltins (biName b) = some (.builtin id) := by
  cases b <;> first
    | (cases h; done)
    | (cases t; done)
    | exact ⟨_, rfl, by kernel_rfl⟩
theorem boot_ty {b : BI} (h : biPlain b = true) (t : biIsTy b = true) : ∃ id, biV b = .type id ∧ bootBuiltins (biName b) = some (.type id) := by
  cases b <;> first
    | (cases h; done)
    | (cases t; done)
    | exact ⟨_, rfl, by kernel_rfl⟩
section
variable {X : Cx} {Y : Cy} {K : Ck} {E0 : XK} {k : Nat}
theorem evEs_len {C : Cf} : ∀ (es : Es) {K : Ck} {as : List Expr}, ckEs K es as = true → as.all notStar = true → ∀ ds s s', evEs C es s = .ok ds s' → ds.length = as.length
  | .nil, K, as, h, _, ds, s, s', e => by
    unfold ckEs at h
    cases as with
    | nil => unfold evEs at e; cases e; rfl
    | cons _ _ => cases h
  | .cons x r, K, as, h, hn, ds, s, s', e => by
    unfold ckEs at h
    cases as with
    | nil => cases h
    | cons a as =>
      simp only [Bool.and_eq_true] at h
      rw [List.all_cons, Bool.and_eq_true] at hn
      unfold evEs at e
      cases e1 : evE C x s with
      | ex c d s1 => rw [e1] at e; cases e
      | er => rw [e1] at e; cases e
      | ok v s1 =>
        rw [e1] at e
        have e : ((evEs C r s1).bind fun xs s2 => Res.ok (v.d :: xs) s2) = .ok ds s' := e
        cases e2 : evEs C r s1 with
        | ex c d s1 => rw [e2] at e; cases e
        | er => rw [e2] at e; cases e
        | ok vs s2 =>
          rw [e2] at e
          cases e
          rw [List.length_cons, List.length_cons, evEs_len r h.2 hn.2 _ _ _ e2]
  | .star b r, K, as, h, hn, ds, s, s', e => by
    unfold ckEs at h
    cases as with
    | nil => cases h
    | cons a as =>
      cases a <;> first
        | (cases h; done)
        | (rw [List.all_cons] at hn; cases hn)
theorem ty_ok (o : XOk X Y K E0 k) {d : D} {e : Expr} (h : ckTy K d e = true) : ∃ n, d = .ty n ∧ PE X e (tC (.ty n)) := by
  unfold ckTy at h
  split at h
  · rename_i n x p
    simp only [Bool.and_eq_true, decide_eq_true_eq] at h
    obtain ⟨⟨h1, h2⟩, h3⟩ := h
    obtain ⟨g, hd, hm, hnn⟩ := blt_ok o h1
    refine ⟨n, rfl, pe_bltn g hm ?_ (show RelV (.ty n) (.type n) from rfl) hnn hd⟩
    subst h2
    simp only [okTg, Bool.or_eq_true, beq_iff_eq] at h3
    rcases h3 with ((((z | z) | z) | z) | z) | z <;> (subst z; kernel_rfl)
  · cases h
theorem tys_ok (o : XOk X Y K E0 k) : ∀ {ds : List D} {es : List Expr}, ckTys K ds es = true → ∃ ns : List String, ds = ns.map D.ty ∧ PA X es (tTys ns)
  | [], [], _ => ⟨[], rfl, pa_nil⟩
  | [], _ :: _, h => by cases h
  | _ :: _, [], h => by cases h
  | d :: ds, e :: es, h => by
    have h : (ckTy K d e && ckTys K ds es) = true := h
    rw [Bool.and_eq_true] at h
    obtain ⟨n, rfl, p⟩ := ty_ok o h.1
    obtain ⟨ns, rfl, q⟩ := tys_ok o h.2
    refine ⟨n :: ns, rfl, pa_cons p q (star_cons ?_)⟩
    have h1 := h.1
    unfold ckTy at h1
    split at h1
    · rfl
    · cases h1
/-- a built-in called with these arguments -/
theorem pe_blt (o : XOk X Y K E0 k) {b : BI} (hp : biPlain b = true) {x : Str} (hx : x = biName b) (hb : isBlt K x = true) {p pos : Pos} {y : Expr} {ys : List Expr} {t : TA} (ha : PA X (y :: ys) t) (hn : (y :: ys).all notStar = true) : PE X (.Call (.Name x p) (y :: ys) [] pos) (tCB (rCall X (biV b)) t) := by
  subst hx
  obtain ⟨g, hd, hm, hnn⟩ := blt_ok o hb
  rw [List.all_cons, Bool.and_eq_true] at hn
  cases ht : biIsTy b with
  | true =>
    obtain ⟨id, e1, e2⟩ := boot_ty hp ht
    rw [e1]
    exact pe_callTy callR g hm e2 ha hnn hd (star_cons hn.1) (star_plain hn.2)
  | false =>
    obtain ⟨id, e1, e2⟩ := boot_fn hp ht
    rw [e1]
    exact pe_callB callR g hm e2 ha hnn hd (star_cons hn.1) (star_plain hn.2)
theorem pw_of {op : BoolOp} {vs : List Expr} {p : Pos} {t : TT} (h : PT X (.BoolOp op vs p) t) : PW X (.BoolOp op vs p) t := ⟨fun wh pins s σ H Q I q => h.run pins s σ H Q I q⟩
theorem mut_slots {m : MI} (h : mutMI m = true) : Slot "list" (mtName m) (mtId m) ∧ typeOf (.builtin (mtId m)) = pure (.type "method_descriptor") := by
  cases m <;> first
    | (cases h; done)
    | exact ⟨PySem.F.slot_list_extend, PySem.F.type_list_extend⟩
    | exact ⟨PySem.F.slot_list_pop, PySem.F.type_list_pop⟩
theorem lookB {α : Type} {l : List (Str × Nat × Nat)} {x : Str} {f n : Nat} (h : (l.any fun p => decide (p.1 = x) && p.2.1 == f && p.2.2 == n) = true) : (x, f, n) ∈ l := by
  obtain ⟨⟨a, b, c⟩, hm, hh⟩ := List.any_eq_true.mp h
  simp only [Bool.and_eq_true, decide_eq_true_eq, beq_iff_eq] at hh
  obtain ⟨⟨rfl, rfl⟩, rfl⟩ := hh
  exact hm
end
end Ev
end
section
set_option linter.all false
set_option maxRecDepth 100000
set_option maxHeartbeats 8000000
/-! Chk4: the theorem on checked expressions. -/
namespace Ev
open PySem PySem.Spec PyProof.Rows L2 LamX
/-- what a checked tree is worth, whatever the context -/
abbrev GE (e : E) : Prop := ∀ {X : Cx} {Y : Cy} {K : Ck} {E0 : XK} {k : Nat} {a : Expr}, XOk X Y K E0 k → ckE K e a = true → PE X a (rdE Y e)
abbrev GB (e : B) : Prop := ∀ {X : Cx} {Y : Cy} {K : Ck} {E0 : XK} {k : Nat} {a : Expr}, XOk X Y K E0 k → ckB K e a = true → PE X a (rdB Y e)
abbrev GT (e : T) : Prop := ∀ {X : Cx} {Y : Cy} {K : Ck} {E0 : XK} {k : Nat} {a : Expr}, XOk X Y K E0 k → ckT K e a = true → PT X a (rdT Y e)
abbrev GO (e : O) : Prop := ∀ {X : Cx} {Y : Cy} {K : Ck} {E0 : XK} {k : Nat} {a : Option Expr}, XOk X Y K E0 k → ckO K e a = true → PO X a (rdO Y e)
abbrev GEs (e : Es) : Prop := ∀ {X : Cx} {Y : Cy} {K : Ck} {E0 : XK} {k : Nat} {a : List Expr}, XOk X Y K E0 k → ckEs K e a = true → PA X a (rdEs Y e)
abbrev GBs (e : Bs) : Prop := ∀ {X : Cx} {Y : Cy} {K : Ck} {E0 : XK} {k : Nat} {a : List Expr}, XOk X Y K E0 k → ckBs K e a = true → PA X a (rdBs Y e)
abbrev GKs (e : Es) : Prop := ∀ {X : Cx} {Y : Cy} {K : Ck} {E0 : XK} {k : Nat} {a : List Keyword}, XOk X Y K E0 k → ckKs K e a = true → PK X a (rdEs Y e)
abbrev GTs (e : Ts) : Prop := ∀ {X : Cx} {Y : Cy} {K : Ck} {E0 : XK} {k : Nat} {a : List Expr}, XOk X Y K E0 k → ckTs K e a = true → PTs X a (rdTs Y e)
abbrev GIt (e : Ev.It) : Prop := ∀ {X : Cx} {Y : Cy} {K : Ck} {E0 : XK} {k : Nat} {tg a : Expr}, XOk X Y K E0 k → ckIt K e tg a = true → PI X tg a (rdIt Y e)
theorem g_bin {op : Operator} {a b : B} (ha : GB a) (hb : GB b) : GE (.bin op a b) := by
  intro X Y K E0 k e o h
  unfold ckE at h
  split at h
  · simp only [Bool.and_eq_true, decide_eq_true_eq] at h
    obtain ⟨⟨rfl, h1⟩, h2⟩ := h
    exact pe_to (pe_op opR (ha o h1) (hb o h2)) fun _ _ _ q => rd_bin o.hK q
  · cases h
theorem g_var {i : Nat} : GE (.var i) := by
  intro X Y K E0 k e o h
  unfold ckE at h
  split at h
  · exact pe_to (pe_slot o h) fun _ _ _ q => rd_var q
  · cases h
theorem g_cst {d : D} : GE (.cst d) := by
  intro X Y K E0 k e o h
  unfold ckE at h
  exact ok_cst o h
theorem g_share {a : E} (ha : GE a) : GE (.share a) := by
  intro X Y K E0 k e o h
  unfold ckE at h
  exact pe_to (ha o h) fun _ _ _ q => rd_share q
theorem g_neg {a : B} (ha : GB a) : GE (.neg a) := by
  intro X Y K E0 k e o h
  unfold ckE at h
  split at h
  · exact pe_to (pe_un un_neg (ha o h)) fun _ _ _ q => rd_neg q
  · cases h
theorem g_cmp {op : CmpOp} {a b : B} (ha : GB a) (hb : GB b) : GE (.cmp op a b) := by
  intro X Y K E0 k e o h
  unfold ckE at h
  split at h
  · simp only [Bool.and_eq_true, decide_eq_true_eq] at h
    obtain ⟨⟨⟨rfl, h1⟩, h2⟩, h3⟩ := h
    exact pe_to (pe_cmpR opR (ha o h1) (hb o h2) (behind_of h3)) fun _ _ _ q => rd_cmp o.hK o.units q
  · cases h
theorem last_of : ∀ {ops : List CmpOp} {es : List Expr}, es.all notSet = true → lastMarks ops es = false
  | [], es, _ => by cases es <;> rfl
  | [o], [], _ => rfl
  | [o], [e], h => by
    rw [List.all_cons, Bool.and_eq_true] at h
    exact behind_of h.1
  | [o], e :: e2 :: es, h => by
    rw [List.all_cons, Bool.and_eq_true] at h
    show lastMarks [] (e2 :: es) = false
    rfl
  | o :: o2 :: ops, [], _ => rfl
  | o :: o2 :: ops, e :: es, h => by
    rw [List.all_cons, Bool.and_eq_true] at h
    exact last_of (ops := o2 :: ops) h.2
abbrev GCh (r : Ch) : Prop := ∀ {X : Cx} {Y : Cy} {K : Ck} {E0 : XK} {k : Nat} {o1 : CmpOp} {ops : List CmpOp} {e1 : Expr} {es : List Expr}, XOk X Y K E0 k → ckCh K r (o1 :: ops) (e1 :: es) = true → PCh X (o1 :: ops) (e1 :: es) (rdCh Y r)
theorem gCh_last {op : CmpOp} {b : B} (hb : GB b) : GCh (.cons op b .nil) := by
  intro X Y K E0 k o1 ops e1 es o h
  unfold ckCh at h
  simp only [Bool.and_eq_true, decide_eq_true_eq] at h
  obtain ⟨⟨rfl, h1⟩, h2⟩ := h
  unfold ckCh at h2
  simp only [Bool.and_eq_true, List.isEmpty_iff] at h2
  obtain ⟨rfl, rfl⟩ := h2
  exact pch_to (pch_last (hb o h1)) fun _ _ _ _ q => rdCh_last o.hK o.units q
theorem gCh_link {op : CmpOp} {b : B} {r : Ch} (hb : GB b) (hr : GCh r) (hn : r ≠ .nil) : GCh (.cons op b r) := by
  intro X Y K E0 k o1 ops e1 es o h
  unfold ckCh at h
  simp only [Bool.and_eq_true, decide_eq_true_eq] at h
  obtain ⟨⟨rfl, h1⟩, h2⟩ := h
  cases r with
  | nil => exact absurd rfl hn
  | cons op' b' r' =>
    cases ops with
    | nil => unfold ckCh at h2; cases h2
    | cons o2 ops =>
      cases es with
      | nil => unfold ckCh at h2; cases h2
      | cons e2 es => exact pch_to (pch_link (hb o h1) (hr o h2)) fun _ _ _ _ q => rdCh_link o.hK o.units q
theorem g_chn {op : CmpOp} {a b : B} {r : Ch} (ha : GB a) (hb : GB b) (hr : GCh r) : GE (.chn a op b r) := by
  intro X Y K E0 k e o h
  unfold ckE at h
  split at h
  · rename_i l o1 ops r1 rs pos
    simp only [Bool.and_eq_true, decide_eq_true_eq] at h
    obtain ⟨⟨⟨⟨⟨rfl, h1⟩, h2⟩, h3⟩, h4⟩, h5⟩ := h
    cases r with
    | nil => cases h5
    | cons op' b' r' =>
      cases ops with
      | nil => unfold ckCh at h4; cases h4
      | cons o2 ops =>
        cases rs with
        | nil => unfold ckCh at h4; cases h4
        | cons r2 rs => exact pe_to (pe_chainN (ha o h1) (hb o h2) (hr o h4) (last_of h3)) fun _ _ _ q => rd_chnN o.hK o.units q
  · cases h
theorem g_not {a : B} (ha : GB a) : GE (.not a) := by
  intro X Y K E0 k e o h
  unfold ckE at h
  split at h
  · exact pe_to (pe_notV (ha o h)) fun _ _ _ q => rd_not o.hK q
  · cases h
theorem g_one {a : E} (ha : GE a) : GE (.one a) := by
  intro X Y K E0 k e o h
  unfold ckE at h
  split at h
  · exact pe_to (pe_one (ha o h)) fun _ _ _ q => rd_one q
  · cases h
theorem g_and {a r : E} (ha : GE a) (hr : GE r) : GE (.and a r) := by
  intro X Y K E0 k e o h
  unfold ckE at h
  split at h
  · simp only [Bool.and_eq_true] at h
    exact pe_to (pe_and (ha o h.1) (hr o h.2)) fun _ _ _ q => rd_and q
  · cases h
theorem g_or {a r : E} (ha : GE a) (hr : GE r) : GE (.or a r) := by
  intro X Y K E0 k e o h
  unfold ckE at h
  split at h
  · simp only [Bool.and_eq_true] at h
    exact pe_to (pe_or (ha o h.1) (hr o h.2)) fun _ _ _ q => rd_or q
  · cases h
theorem g_ife {t : T} {a b : E} (ht : GT t) (ha : GE a) (hb : GE b) : GE (.ife t a b) := by
  intro X Y K E0 k e o h
  unfold ckE at h
  split at h
  · simp only [Bool.and_eq_true] at h
    exact pe_to (pe_ifExp (ht o h.1.1) (ha o h.1.2) (hb o h.2)) fun _ _ _ q => rd_ife q
  · cases h
theorem g_lst {es : Es} (hs : GEs es) : GE (.lst es) := by
  intro X Y K E0 k e o h
  unfold ckE at h
  split at h
  · exact pe_to (pe_lst (hs o h)) fun _ _ _ q => rd_lst q
  · cases h
theorem g_tup {es : Es} (hs : GEs es) : GE (.tup es) := by
  intro X Y K E0 k e o h
  unfold ckE at h
  split at h
  · exact pe_to (pe_tup (hs o h)) fun _ _ _ q => rd_tup q
  · cases h
theorem g_idx {a b : B} (ha : GB a) (hb : GB b) : GE (.idx a b) := by
  intro X Y K E0 k e o h
  unfold ckE at h
  split at h
  · simp only [Bool.and_eq_true] at h
    exact pe_to (pe_ix ixR (ha o h.1.1) (hb o h.1.2) (plainIx_of h.2)) fun _ _ _ q => rd_idx o.hK q
  · cases h
theorem g_slc {a : B} {lo hi : O} (ha : GB a) (hl : GO lo) (hh : GO hi) : GE (.slc a lo hi) := by
  intro X Y K E0 k e o h
  unfold ckE at h
  split at h
  · simp only [Bool.and_eq_true] at h
    exact pe_to (pe_slice slR (ha o h.1.1) (hl o h.1.2) (hh o h.2)) fun _ _ _ q => rd_slc o.hK q
  · cases h
theorem ks_len {C : Cf} : ∀ (es : Es) {K : Ck} {as : List Keyword}, ckKs K es as = true → (∀ ds s s', evEs C es s = .ok ds s' → ds.length = as.length) ∧ as.length = (kwNames as).length
  | .nil, K, as, h => by
    unfold ckKs at h
    cases as with
    | nil => exact ⟨fun ds s s' e => by unfold evEs at e; cases e; rfl, rfl⟩
    | cons _ _ => cases h
  | .cons x r, K, as, h => by
    unfold ckKs at h
    cases as with
    | nil => cases h
    | cons a as =>
      simp only [Bool.and_eq_true] at h
      obtain ⟨i1, i2⟩ := ks_len (C := C) r h.2
      refine ⟨fun ds s s' e => ?_, ?_⟩
      · unfold evEs at e
        cases e1 : evE C x s with
        | ex c d s1 => rw [e1] at e; cases e
        | er => rw [e1] at e; cases e
        | ok v s1 =>
          rw [e1] at e
          have e : ((evEs C r s1).bind fun xs s2 => Res.ok (v.d :: xs) s2) = .ok ds s' := e
          cases e2 : evEs C r s1 with
          | ex c d s1 => rw [e2] at e; cases e
          | er => rw [e2] at e; cases e
          | ok vs s2 =>
            rw [e2] at e
            cases e
            rw [List.length_cons, List.length_cons, i1 _ _ _ e2]
      · obtain ⟨n, hn⟩ := Option.isSome_iff_exists.mp h.1.1
        unfold kwNames
        rw [List.filterMap_cons, hn]
        show (as.length + 1) = (kwNames as).length + 1
        rw [i2]
  | .star b r, K, as, h => by unfold ckKs at h; cases h
theorem ks_all {X : Cx} {pos : Pos} : ∀ (es : Es) {K : Ck} {as : List Keyword}, ckKs K es as = true → (backToKw pos (keywordEach as X.env)).all (·.1.isSome) = true ∧ (backToKw pos (keywordEach as X.env)).filterMap (·.1) = kwNames as ∧ (backToKw pos (keywordEach as X.env)).any (·.1.isNone) = false
  | .nil, K, as, h => by
    unfold ckKs at h
    cases as with
    | nil => exact ⟨rfl, rfl, rfl⟩
    | cons _ _ => cases h
  | .cons x r, K, as, h => by
    unfold ckKs at h
    cases as with
    | nil => cases h
    | cons a as =>
      simp only [Bool.and_eq_true] at h
      obtain ⟨i1, i2, i3⟩ := ks_all (X := X) (pos := pos) r h.2
      obtain ⟨n, hn⟩ := Option.isSome_iff_exists.mp h.1.1
      obtain ⟨nm, v, p⟩ := a
      have hn : nm = some n := hn
      subst hn
      refine ⟨?_, ?_, ?_⟩
      · show (true && (backToKw pos (keywordEach as X.env)).all (·.1.isSome)) = true
        rw [i1]; rfl
      · show n :: (backToKw pos (keywordEach as X.env)).filterMap (·.1) = n :: kwNames as
        rw [i2]
      · show (false || (backToKw pos (keywordEach as X.env)).any (·.1.isNone)) = false
        rw [i3]; rfl
  | .star b r, K, as, h => by unfold ckKs at h; cases h
theorem g_call {f : Nat} {es : Es} {pm : List Nat} (hs : GEs es) (hks : GKs es) : GE (.call f es pm) := by
  intro X Y K E0 k e o h
  unfold ckE at h
  split at h
  · simp only [Bool.and_eq_true] at h
    obtain ⟨⟨⟨⟨h0, h1⟩, h2⟩, h3⟩, h4⟩ := h
    cases pm with
    | cons _ _ => cases h0
    | nil =>
      obtain ⟨g, hd⟩ := glob_ok o h1
      obtain ⟨hm, kp, _, fd, ps, hl, F, bd, _⟩ := o.fns _ _ _ (lookB (α := Unit) h2)
      have h4' := h4
      rw [List.all_cons, Bool.and_eq_true] at h4'
      exact pe_to (pe_call F o.room g hm kp bd .nil o.pass (hs o h3) hd (star_cons h4'.1) (star_plain h4'.2)) fun _ _ _ q => rd_call o.link (evEs_len es h3 h4) q
  · simp only [Bool.and_eq_true] at h
    obtain ⟨⟨⟨h0, h1⟩, h2⟩, h3⟩ := h
    cases pm with
    | cons _ _ => cases h0
    | nil =>
      obtain ⟨g, hd⟩ := glob_ok o h1
      obtain ⟨hm, kp, _, fd, ps, hl, F, bd, _⟩ := o.fns _ _ _ (lookB (α := Unit) h2)
      have he : es = .nil := by
        cases es with
        | nil => rfl
        | cons _ _ => unfold ckEs at h3; cases h3
        | star _ _ => unfold ckEs at h3; cases h3
      subst he
      refine pe_to (pe_call0 F o.room g hm kp bd .nil o.pass hd) fun σ H Q q => ?_
      obtain ⟨w, s, h, p⟩ := rd_call o.link (n := 0) (fun ds s s' e => by unfold evEs at e; cases e; rfl) q
      exact rdEs_nil ⟨w, s, h, p⟩
  · rename_i x p kw kws pos
    simp only [Bool.and_eq_true, Bool.not_eq_true'] at h
    obtain ⟨⟨⟨⟨h0, h1⟩, h2⟩, h3⟩, h4⟩ := h
    obtain ⟨g, hd⟩ := glob_ok o h1
    obtain ⟨hm, kp, _, fd, ps, hl, F, bd, hkw⟩ := o.fns _ _ _ (lookB (α := Unit) h2)
    obtain ⟨⟨x', ks, pm'⟩, hmem, hh⟩ := List.any_eq_true.mp h3
    simp only [Bool.and_eq_true, decide_eq_true_eq] at hh
    obtain ⟨⟨rfl, rfl⟩, rfl⟩ := hh
    obtain ⟨a1, a2, a3⟩ := ks_all (X := X) (pos := pos) es h4
    refine pe_to (pe_callKw F o.room g hm kp (hkw _ _ hmem rfl) o.pass (hks o h4) (fun σ H Q q => ?_) a1 a2 hd (by rw [a3]; rfl)) fun _ _ _ q => rd_callKw o.link (fun z => by rw [z] at h0; cases h0) rfl q
    obtain ⟨w, s, h, p⟩ := q
    obtain ⟨l1, l2⟩ := ks_len (C := Y.C) es h4
    refine ⟨w, s, h, ?_⟩
    cases e : evEs Y.C es s with
    | er => rw [e] at p; exact p
    | ex c ds s1 => rw [e] at p; exact p
    | ok ds s1 =>
      rw [e] at p
      exact fun w' H' vs h' l rs => ⟨by rw [← rs.length, l1 ds s s1 e, l2], p w' H' vs h' l rs⟩
  · cases h
theorem esLen_of {C : Cf} : ∀ (es : Es) {K : Ck} {as : List Expr}, ckEs K es as = true → as.all notStar = true → esLen es = as.length
  | .nil, K, as, h, _ => by
    unfold ckEs at h
    cases as with
    | nil => rfl
    | cons _ _ => cases h
  | .cons x r, K, as, h, hn => by
    unfold ckEs at h
    cases as with
    | nil => cases h
    | cons a as =>
      simp only [Bool.and_eq_true] at h
      rw [List.all_cons, Bool.and_eq_true] at hn
      show esLen r + 1 = as.length + 1
      rw [esLen_of (C := C) r h.2 hn.2]
  | .star b r, K, as, h, hn => by
    unfold ckEs at h
    cases as with
    | nil => cases h
    | cons a as =>
      cases a <;> first
        | (cases h; done)
        | (rw [List.all_cons] at hn; cases hn)
theorem g_cllv {i : Nat} {es : Es} (hs : GEs es) : GE (.cllv i es) := by
  intro X Y K E0 k e o h
  unfold ckE at h
  split at h
  · rename_i x p y ys pos
    simp only [Bool.and_eq_true] at h
    obtain ⟨⟨h1, h2⟩, h3⟩ := h
    have h1' := h1
    unfold okV at h1'
    simp only [Bool.and_eq_true, decide_eq_true_eq, Bool.not_eq_true', decide_eq_false_iff_not] at h1'
    obtain ⟨⟨⟨q1, q2⟩, q3⟩, q4⟩ := h1'
    have h3' := h3
    rw [List.all_cons, Bool.and_eq_true] at h3'
    refine pe_to (t := tCLV Y (fun f n => ∃ x, (x, f, n) ∈ K.fns) E0 i (rdEs Y es)) ⟨fun pins s σ H Q I q => ?_⟩ fun _ _ _ q => rd_cllv o.link o.ar (evEs_len es h2 h3) (esLen_of (C := Y.C) es h2 h3) q
    obtain ⟨f, n, ⟨xf, hx⟩, e1, q⟩ := q
    obtain ⟨hm, kp, _, fd, ps, hl, F, bd, _⟩ := o.fns _ _ _ hx
    refine (pe_callL (i := i) (dvs := []) F o.room (by rw [o.hN]; exact q1) (vis_ok o q2) kp bd .nil o.pass (hs o h2) (by simpa using q3) (by simpa using q4) (star_cons h3'.1) (star_plain h3'.2)).run pins s σ H Q I ⟨e1, ?_⟩
    have e0 : (fun (vs : List V) (H1 : Hp) => spF Y.g Y.C.rho f n (vs ++ []) H1 Q E0) = fun vs H1 => spF Y.g Y.C.rho f n vs H1 Q E0 := by
      funext vs H1
      rw [List.append_nil]
    rw [e0]
    exact q
  · cases h
theorem gKs_nil : GKs .nil := by
  intro X Y K E0 k e o h
  unfold ckKs at h
  cases e with
  | nil => exact ⟨fun pos pins s σ H Q I q => pk_nil.run pos pins s σ H Q I (rdEs_nil q)⟩
  | cons _ _ => cases h
theorem gKs_cons {x : E} {r : Es} (hx : GE x) (hr : GKs r) : GKs (.cons x r) := by
  intro X Y K E0 k e o h
  unfold ckKs at h
  split at h
  · rename_i a as
    simp only [Bool.and_eq_true] at h
    obtain ⟨nm, v, p⟩ := a
    exact ⟨fun pos pins s σ H Q I q => (pk_cons (hx o h.1.2) (hr o h.2)).run pos pins s σ H Q I (rdEs_cons q)⟩
  · cases h
theorem g_bcl {b : BI} {es : Bs} (hs : GBs es) (h1 : b ≠ .lrange1) (h2 : b ≠ .lrange2) (h3 : b ≠ .litems) : GE (.bcl b es) := by
  intro X Y K E0 k e o h
  unfold ckE at h
  split at h
  · exact absurd rfl h1
  · exact absurd rfl h2
  · exact absurd rfl h3
  · split at h
    · simp only [Bool.and_eq_true, decide_eq_true_eq] at h
      obtain ⟨⟨⟨⟨q1, q2⟩, q3⟩, q4⟩, q5⟩ := h
      exact pe_to (pe_blt o q1 q2 q3 (hs o q4) q5) fun _ _ _ q => rd_bcl o.hsrt o.hK o.calm q1 q
    · cases h
theorem g_lr1 {a : B} (ha : GB a) : GE (.bcl .lrange1 (.cons a .nil)) := by
  intro X Y K E0 k e o h
  unfold ckE at h
  simp only at h
  split at h
  · simp only [Bool.and_eq_true, decide_eq_true_eq] at h
    obtain ⟨⟨⟨⟨⟨rfl, q1⟩, rfl⟩, q2⟩, q3⟩, q4⟩ := h
    obtain ⟨g1, _, m1, _⟩ := blt_ok o q1
    obtain ⟨g2, _, m2, _⟩ := blt_ok o q2
    unfold ckBs at q3
    simp only [Bool.and_eq_true] at q3
    refine pe_to (pe_listRg o.calm g1 m1 (prg_1 g2 m2 (ha o q3.1.2) (star_cons q4)) ?_) fun _ _ _ q => rd_lr1 q
    rfl
  · cases h
theorem g_litems {a : B} (ha : GB a) : GE (.bcl .litems (.cons a .nil)) := by
  intro X Y K E0 k e o h
  unfold ckE at h
  simp only at h
  split at h
  · simp only [Bool.and_eq_true, decide_eq_true_eq] at h
    obtain ⟨⟨⟨⟨⟨rfl, q1⟩, rfl⟩, q2⟩, q3⟩, q4⟩ := h
    obtain ⟨g1, _, m1, _⟩ := blt_ok o q1
    unfold ckBs at q4
    simp only [Bool.and_eq_true] at q4
    exact pe_to (LiI.pe_listItems o.calm (ha o q4.1.2) g1 m1 (by kernel_rfl) (attr_base q2) q3) fun _ _ _ q => rd_litems q
  · cases h
theorem g_lr2 {a b : B} (ha : GB a) (hb : GB b) : GE (.bcl .lrange2 (.cons a (.cons b .nil))) := by
  intro X Y K E0 k e o h
  unfold ckE at h
  simp only at h
  split at h
  · simp only [Bool.and_eq_true, decide_eq_true_eq] at h
    obtain ⟨⟨⟨⟨⟨⟨rfl, q1⟩, rfl⟩, q2⟩, q3⟩, q4⟩, q5⟩ := h
    obtain ⟨g1, _, m1, _⟩ := blt_ok o q1
    obtain ⟨g2, _, m2, _⟩ := blt_ok o q2
    unfold ckBs ckBs at q3
    simp only [Bool.and_eq_true] at q3
    refine pe_to (pe_listRg o.calm g1 m1 (prg_2 g2 m2 (ha o q3.1.2) (hb o q3.2.1.2) (star_cons q4) (star_cons q5) (star_plain (by simp [q5]))) ?_) fun _ _ _ q => rd_lr2 q
    rfl
  · cases h
theorem g_isi {a : B} {ts : List D} (ha : GB a) : GE (.isi a ts) := by
  intro X Y K E0 k e o h
  unfold ckE at h
  split at h
  · rename_i x p y z pos
    simp only [Bool.and_eq_true, decide_eq_true_eq] at h
    obtain ⟨⟨⟨⟨rfl, q1⟩, q2⟩, q3⟩, q4⟩ := h
    obtain ⟨g1, hd, m1, hn⟩ := blt_ok o q1
    have boot : bootBuiltins ("isinstance" : Str) = some (.builtin "isinstance") := by kernel_rfl
    cases z with
    | Tuple es kk pp =>
      simp only [Bool.and_eq_true, decide_eq_true_eq] at q4
      obtain ⟨ns, rfl, pt⟩ := tys_ok o q4.1
      refine pe_to (pe_callB callR g1 m1 boot (pa_cons (ha o q2) (pa_cons (pe_tup pt) pa_nil) (star_cons q3)) hn hd (star_cons q3) rfl) fun _ _ _ q => rd_isiT o.hK ?_ q
      have := q4.2
      rw [List.length_map] at this
      rw [sizeLine_eq]
      omega
    | _ =>
      simp only [Bool.and_eq_true] at q4
      obtain ⟨ns, e1, pt⟩ := tys_ok o q4.1
      have l1 : ns.length = 1 := by
        have e2 : ts.length = 1 := by
          cases ts with
          | nil => cases q4.1
          | cons _ r =>
            cases r with
            | nil => rfl
            | cons _ _ =>
              have q5 := q4.1
              unfold ckTys at q5
              rw [Bool.and_eq_true] at q5
              cases q5.2
        rw [← e2, e1, List.length_map]
      cases ns with
      | nil => cases l1
      | cons n r =>
        cases r with
        | cons _ _ => cases l1
        | nil =>
          subst e1
          exact pe_to (pe_callB callR g1 m1 boot (pa_cons (ha o q2) pt (star_cons q3)) hn hd (star_cons q3) (star_plain (by rw [List.all_cons, q4.2]; rfl))) fun _ _ _ q => rd_isi1 o.hK q
  · cases h
end Ev
end
section
set_option linter.all false
set_option maxRecDepth 100000
set_option maxHeartbeats 8000000
/-! Chk5: the theorem on checked expressions, second part. -/
namespace Ev
open PySem PySem.Spec PyProof.Rows L2 LamX
theorem few_of {cp : Pos} {env : Env} {x : Expr} {xs : List Expr} (h : (x :: xs).all notStar = true) (hl : (x :: xs).length < 30) :
    ((backTo cp (starEach (x :: xs) env)).all (fun x => !x.1) && (backToKw cp (keywordEach [] env)).all (fun x => x.1.isSome) && decide ((x :: xs).length + ([] : List Keyword).length + (if ([] : List Keyword).isEmpty then 0 else 1) < 30)) = true := by
  rw [star_few h]
  show (true && true && decide ((x :: xs).length + 0 + 0 < 30)) = true
  rw [decide_eq_true (by omega)]
  rfl
theorem g_mth {m : MI} {a : B} {es : Bs} (ha : GB a) (hs : GBs es) : GE (.mth m a es) := by
  intro X Y K E0 k e o h
  unfold ckE at h
  split at h
  · rename_i ob name ap xs cp
    simp only [Bool.and_eq_true, decide_eq_true_eq] at h
    obtain ⟨⟨⟨⟨⟨⟨⟨q0, rfl⟩, q3⟩, q4⟩, q5⟩, q6⟩, q7⟩, q8⟩ := h
    by_cases q1 : mutMI m = true
    case neg =>
      have q1 : lookMI m = true := by
        rcases Bool.or_eq_true_iff.mp q0 with z | z
        · exact absurd z q1
        · exact z
      have hm : m = .count := by cases m <;> first | rfl | cases q1
      cases xs with
      | nil =>
        have he : es = .nil := by
          cases es with
          | nil => rfl
          | cons _ _ => unfold ckBs at q6; cases q6
        subst he
        subst hm
        refine pe_to (pe_bm0 PySem.F.plainAttrs_list PySem.F.slot_list_count PySem.F.type_list_count mtR (ha o q5) (attr_base q3) q4) fun _ _ _ q => ?_
        have z := rd_look (X := X) o.hK o.units rfl q
        obtain ⟨w, s, h, p⟩ := z
        refine ⟨w, s, h, p.mono (fun x s1 k w1 H1 v h1 l rx => ?_) fun _ _ _ z => z⟩
        obtain ⟨t, r⟩ := k w1 H1 v h1 l rx
        exact ⟨t, rdBs_nil r⟩
      | cons x xs =>
        have q7' := q7
        rw [List.all_cons, Bool.and_eq_true] at q7'
        subst hm
        exact pe_to (pe_bm PySem.F.plainAttrs_list PySem.F.slot_list_count PySem.F.type_list_count mtR (ha o q5) (hs o q6) (attr_base q3) (few_of q7 q8) q4 (star_cons q7'.1) (star_plain q7'.2)) fun _ _ _ q => rd_look o.hK o.units rfl q
    obtain ⟨sl, ty⟩ := mut_slots q1
    cases xs with
    | nil =>
      have he : es = .nil := by
        cases es with
        | nil => rfl
        | cons _ _ => unfold ckBs at q6; cases q6
      subst he
      exact pe_to (pe_bm0 PySem.F.plainAttrs_list sl ty mtR (ha o q5) (attr_base q3) q4) fun _ _ _ q => rd_mut0 q1 q
    | cons x xs =>
      have q7' := q7
      rw [List.all_cons, Bool.and_eq_true] at q7'
      exact pe_to (pe_bm PySem.F.plainAttrs_list sl ty mtR (ha o q5) (hs o q6) (attr_base q3) (few_of q7 q8) q4 (star_cons q7'.1) (star_plain q7'.2)) fun _ _ _ q => rd_mut q1 q
  · cases h
theorem g_app {a : B} {x : E} (ha : GB a) (hx : GE x) : GE (.app a x) := by
  intro X Y K E0 k e o h
  unfold ckE at h
  split at h
  · simp only [Bool.and_eq_true, decide_eq_true_eq] at h
    obtain ⟨⟨⟨⟨⟨rfl, q3⟩, q4⟩, q5⟩, q6⟩, q7⟩ := h
    exact pe_to (pe_bm PySem.F.plainAttrs_list PySem.F.slot_list_append PySem.F.type_list_append mtR (ha o q5) (pa_cons (hx o q6) pa_nil (star_cons q7)) (attr_base q3) (few_of (by simp [q7]) (by simp)) q4 (star_cons q7) rfl) fun _ _ _ q => rd_app q
  · cases h
theorem gB_var {i : Nat} : GB (.var i) := by
  intro X Y K E0 k e o h
  unfold ckB at h
  split at h
  · exact pe_to (pe_slot o h) fun _ _ _ q => rdB_var q
  · cases h
theorem gB_of {e : E} (he : GE e) : GB (.of e) := by
  intro X Y K E0 k a o h
  unfold ckB at h
  exact pe_to (he o h) fun _ _ _ q => rdB_of q
theorem gT_of {a : B} (ha : GB a) : GT (.of a) := by
  intro X Y K E0 k e o h
  unfold ckT at h
  rw [Bool.and_eq_true] at h
  exact pt_to (pt_tru (ha o h.2) (isTrue_of h.1)) fun _ _ _ q => rdT_of o.hK q
theorem gT_cmp {op : CmpOp} {a b : B} (ha : GB a) (hb : GB b) : GT (.cmp op a b) := by
  intro X Y K E0 k e o h
  unfold ckT at h
  split at h
  · simp only [Bool.and_eq_true, decide_eq_true_eq] at h
    obtain ⟨⟨⟨rfl, h1⟩, h2⟩, h3⟩ := h
    exact pt_to (pt_cmpR opR (ha o h1) (hb o h2) (behind_of h3)) fun _ _ _ q => rdT_cmp o.hK o.units q
  · cases h
theorem gT_chn {op : CmpOp} {a b : B} {r : Ch} (ha : GB a) (hb : GB b) (hr : GCh r) : GT (.chn a op b r) := by
  intro X Y K E0 k e o h
  unfold ckT at h
  split at h
  · rename_i l o1 ops r1 rs pos
    simp only [Bool.and_eq_true, decide_eq_true_eq] at h
    obtain ⟨⟨⟨⟨⟨rfl, h1⟩, h2⟩, h3⟩, h4⟩, h5⟩ := h
    cases r with
    | nil => cases h5
    | cons op' b' r' =>
      cases ops with
      | nil => unfold ckCh at h4; cases h4
      | cons o2 ops =>
        cases rs with
        | nil => unfold ckCh at h4; cases h4
        | cons r2 rs => exact pt_to (pt_chainN (ha o h1) (hb o h2) (hr o h4) (last_of h3)) fun _ _ _ q => rdT_chnN o.hK o.units q
  · cases h
theorem gT_not {t : T} (ht : GT t) : GT (.not t) := by
  intro X Y K E0 k e o h
  unfold ckT at h
  split at h
  · exact pt_to (pt_not (ht o h)) fun _ _ _ q => rdT_not q
  · cases h
theorem pt_one1 {X : Cx} {op : BoolOp} {x : Expr} {p : Pos} {t : TT} (h : PT X x t) : PT X (.BoolOp op [x] p) t := by
  cases op with
  | And => exact (pw_and1 h).pt
  | Or => exact (pw_or1 h).pt
theorem gT_one {t : T} (ht : GT t) : GT (.one t) := by
  intro X Y K E0 k e o h
  unfold ckT at h
  split at h
  · exact pt_to (pt_one1 (ht o h)) fun _ _ _ q => rdT_one q
  · cases h
theorem gT_and {t r : T} (ht : GT t) (hr : GT r) : GT (.and t r) := by
  intro X Y K E0 k e o h
  unfold ckT at h
  split at h
  · simp only [Bool.and_eq_true] at h
    exact pt_to (pw_and (ht o h.1) (pw_of (hr o h.2))).pt fun _ _ _ q => rdT_and q
  · cases h
theorem gT_or {t r : T} (ht : GT t) (hr : GT r) : GT (.or t r) := by
  intro X Y K E0 k e o h
  unfold ckT at h
  split at h
  · simp only [Bool.and_eq_true] at h
    exact pt_to (pw_or (ht o h.1) (pw_of (hr o h.2))).pt fun _ _ _ q => rdT_or q
  · cases h
theorem gO_no : GO .no := by
  intro X Y K E0 k e o h
  unfold ckO at h
  split at h
  · exact po_to po_none fun _ _ _ q => rdO_no q
  · cases h
theorem gO_so {a : B} (ha : GB a) : GO (.so a) := by
  intro X Y K E0 k e o h
  unfold ckO at h
  split at h
  · exact po_to (po_some (ha o h)) fun _ _ _ q => rdO_so q
  · cases h
theorem gEs_nil : GEs .nil := by
  intro X Y K E0 k e o h
  unfold ckEs at h
  cases e with
  | nil => exact pa_to pa_nil fun _ _ _ q => rdEs_nil q
  | cons _ _ => cases h
theorem gEs_cons {x : E} {r : Es} (hx : GE x) (hr : GEs r) : GEs (.cons x r) := by
  intro X Y K E0 k e o h
  unfold ckEs at h
  split at h
  · simp only [Bool.and_eq_true] at h
    exact pa_to (pa_cons (hx o h.1.2) (hr o h.2) (star_cons h.1.1)) fun _ _ _ q => rdEs_cons q
  · cases h
theorem gEs_star {x : B} {r : Es} (hx : GB x) (hr : GEs r) : GEs (.star x r) := by
  intro X Y K E0 k e o h
  unfold ckEs at h
  split at h
  · simp only [Bool.and_eq_true] at h
    exact pa_to (StX.pa_star (hx o h.1) (hr o h.2)) fun _ _ _ q => rdEs_star o.hK q
  · cases h
theorem gBs_nil : GBs .nil := by
  intro X Y K E0 k e o h
  unfold ckBs at h
  cases e with
  | nil => exact pa_to pa_nil fun _ _ _ q => rdBs_nil q
  | cons _ _ => cases h
theorem gBs_cons {x : B} {r : Bs} (hx : GB x) (hr : GBs r) : GBs (.cons x r) := by
  intro X Y K E0 k e o h
  unfold ckBs at h
  split at h
  · simp only [Bool.and_eq_true] at h
    exact pa_to (pa_cons (hx o h.1.2) (hr o h.2) (star_cons h.1.1)) fun _ _ _ q => rdBs_cons q
  · cases h
/-! ### clauses of comprehensions -/
theorem pts_to {X : Cx} {es : List Expr} {t t' : TT} (h : PTs X es t) (k : ∀ σ H Q, t' σ H Q → t σ H Q) : PTs X es t' := ⟨fun pins s σ H Q I q => h.run pins s σ H Q I (k σ H Q q)⟩
theorem gTs_nil : GTs .nil := by
  intro X Y K E0 k e o h
  unfold ckTs at h
  cases e with
  | nil =>
    refine pts_to pts_nil fun σ H Q q => ?_
    obtain ⟨w, s, h, p⟩ := q
    unfold evTs at p
    exact p w H h Le.refl
  | cons _ _ => cases h
theorem gTs_cons {t : T} (ht : GT t) : GTs (.cons t .nil) := by
  intro X Y K E0 k e o h
  unfold ckTs at h
  split at h
  · simp only [Bool.and_eq_true] at h
    refine pts_to (pts_one (ht o h.1)) fun σ H Q q => ?_
    obtain ⟨w, s, h, p⟩ := q
    unfold evTs at p
    rw [post_bind] at p
    refine ⟨w, s, h, p.mono (fun c s1 k1 w1 H1 h1 l1 => ?_) fun _ _ _ z => z⟩
    cases c with
    | false => exact k1 w1 H1 h1 l1
    | true =>
      unfold evTs at k1
      exact k1 w1 H1 h1 l1
  · cases h
theorem no_Ts {K : Ck} {t t2 : T} {r : Ts} {e : List Expr} (h : ckTs K (.cons t (.cons t2 r)) e = true) : False := by
  unfold ckTs at h
  split at h
  · simp only [Bool.and_eq_true] at h
    cases h.2
  · cases h
theorem gIt_seq {b : B} {hid : Bool} (hb : GB b) : GIt (.seq b hid) := by
  intro X Y K E0 k tg e o h
  unfold ckIt at h
  exact pi_to (pi_seq (hb o h)) fun _ _ _ q => rdIt_seq o.hK q
theorem gIt_rng1 {b : B} (hb : GB b) : GIt (.rng1 b) := by
  intro X Y K E0 k tg e o h
  unfold ckIt at h
  split at h
  · simp only [Bool.and_eq_true, decide_eq_true_eq] at h
    obtain ⟨⟨⟨rfl, q1⟩, q2⟩, q3⟩ := h
    obtain ⟨g1, _, m1, _⟩ := blt_ok o q1
    exact pi_to (pi_range1 g1 m1 (pa_cons (hb o q2) pa_nil (star_cons q3)) (star_cons q3)) fun _ _ _ q => rdIt_rng1 q
  · cases h
theorem gIt_rng2 {a b : B} (ha : GB a) (hb : GB b) : GIt (.rng2 a b) := by
  intro X Y K E0 k tg e o h
  unfold ckIt at h
  split at h
  · simp only [Bool.and_eq_true, decide_eq_true_eq] at h
    obtain ⟨⟨⟨⟨⟨rfl, q1⟩, q2⟩, q3⟩, q4⟩, q5⟩ := h
    obtain ⟨g1, _, m1, _⟩ := blt_ok o q1
    exact pi_to (pi_range2 g1 m1 (pa_cons (ha o q2) (pa_cons (hb o q3) pa_nil (star_cons q5)) (star_cons q4)) (by rw [star_cons q4, star_cons q5]; rfl) (by rw [star_cons q5]; rfl)) fun _ _ _ q => rdIt_rng2 q
  · cases h
theorem gIt_zip {es : Es} (hs : GEs es) : GIt (.zip es) := by
  intro X Y K E0 k tg e o h
  unfold ckIt at h
  split at h
  · simp only [Bool.and_eq_true, decide_eq_true_eq] at h
    obtain ⟨⟨⟨⟨⟨rfl, q1⟩, q2⟩, q3⟩, q4⟩, q5⟩ := h
    obtain ⟨g1, _, m1, _⟩ := blt_ok o q1
    cases tg <;> first
      | (cases q2; done)
      | exact pi_to (RZ.pi_zipA g1 m1 (hs o q3) (star_cons q4) (star_plain (by simp [q5]))) fun _ _ _ q => rdIt_zip o.hK q
  · cases h
/-! ### comprehensions, lambdas -/
theorem own_map {K : Ck} {own : List Nat} : (ownN K own).map (·.2) = own := by
  unfold ownN
  rw [List.map_map]
  induction own with
  | nil => rfl
  | cons i r ih => rw [List.map_cons, ih]; rfl
theorem wipe_set {own : List Nat} {i : Nat} {σ : L2.St} {v : V} (h : i ∈ own) : wipe (σ.set i (some v)) own = wipe σ own := by
  apply List.ext_getElem?
  intro j
  have key : ∀ (vs : List Nat) (τ : L2.St), j ∈ vs → j < τ.length → (wipe τ vs)[j]? = some none := by
    intro vs
    induction vs with
    | nil => intro τ h; cases h
    | cons a r ih =>
      intro τ h hl
      show ((wipe τ r).set a none)[j]? = _
      by_cases ha : a = j
      · subst ha
        rw [List.getElem?_set_self (by rw [wipe_length]; exact hl)]
      · rw [List.getElem?_set_ne ha]
        rcases List.mem_cons.mp h with z | z
        · exact absurd z.symm ha
        · exact ih τ z hl
  by_cases hj : j ∈ own
  · by_cases hl : j < σ.length
    · rw [key own _ hj (by rw [List.length_set]; exact hl), key own _ hj hl]
    · rw [List.getElem?_eq_none (by rw [wipe_length, List.length_set]; exact Nat.le_of_not_lt hl), List.getElem?_eq_none (by rw [wipe_length]; exact Nat.le_of_not_lt hl)]
  · rw [wipe_off hj, wipe_off hj, List.getElem?_set_ne (fun z : i = j => hj (by rw [← z]; exact h))]
/-- a comprehension over the keys of {} -/
theorem g_lcK {elt : E} {tg : Tg} {it : Ev.It} {ifs : Ts} {own : List Nat} {X : Cx} {Y : Cy} {K : Ck} {E0 : XK} {k : Nat} {a : Expr} (o : XOk X Y K E0 k) (h : ckKeys K it own a = true) : PE X a (rdE Y (.lc elt tg it ifs own)) := by
  unfold ckKeys at h
  split at h
  · rename_i i el c scope pos
    simp only [Bool.and_eq_true] at h
    obtain ⟨⟨q1, q2⟩, q3⟩ := h
    obtain ⟨tgt, iter, ifsE, as⟩ := c
    have q1 : as = 0 := eq_of_beq q1
    subst q1
    cases iter with
    | Name x p =>
      have q2 : okV K i x = true := q2
      have ok : BlkOk X.N X.env.scope scope (ownN K own) := by
        rw [o.hN, o.sc]
        exact blkOk_by q3
      have m := pe_lc (elt := el) (tg := tgt) (ifs := ifsE) (pos := pos) (g := fun _ _ _ _ => False) (tt := fun _ _ _ => False) (te := fun _ _ _ => False) o.calm (by rw [o.hN]; exact o.nd) (pi_keys (tg := tgt) (pe_slot (p := p) o q2)) ok
        (fun s H C cl fp => ⟨fun pins s' σ H' v u Q I r q => q.elim⟩)
        (fun s H C cl fp => ⟨fun pins s' σ H' Q I q => q.elim⟩)
        (fun s H C cl fp => ⟨fun pins s' σ H' Q I q => q.elim⟩) (fun _ => rfl)
      exact pe_to (pe_lock m) fun _ _ _ q => rd_keys q
    | _ => cases (show false = true from q2)
  · cases h
/-- what a comprehension's block asks of its parts -/
theorem g_lc {elt : E} {tg : Tg} {it : Ev.It} {ifs : Ts} {own : List Nat} (he : GE elt) (hi : GIt it) (hs : GTs ifs) : GE (.lc elt tg it ifs own) := by
  intro X Y K E0 k e o h
  unfold ckE at h
  by_cases hkk : isKeys it = true
  · rw [if_pos hkk] at h
    exact g_lcK o h
  rw [if_neg hkk] at h
  split at h
  · rename_i el c scope pos
    simp only [Bool.and_eq_true] at h
    obtain ⟨⟨⟨⟨⟨⟨q1, q2⟩, q3⟩, q4⟩, q5⟩, q6⟩, q7⟩ := h
    obtain ⟨tgt, iter, ifsE, as⟩ := c
    have q1 : as = 0 := eq_of_beq q1
    subst q1
    have ok : BlkOk X.N X.env.scope scope (ownN K own) := by
      rw [o.hN, o.sc]
      exact blkOk_by q4
    have m := pe_lc (pos := pos) o.calm (by rw [o.hN]; exact o.nd) (hi o q2) ok
      (g := fun v σ' H' N => rdGk Y (fun σ2 => wipe σ2 own = wipe σ' own) tg v σ' H' N) (tt := rdTk Y ifs) (te := rdEk Y elt)
      (fun s H C cl fp => ⟨fun pins s' σ H' v u Q I r ⟨b, q⟩ => (ok_tg (o.blk (s := s) (H := H) (C := C) (cl := cl) (fp := fp) b) (P := fun σ2 => wipe σ2 own = wipe σ own) (ok := fun i => own.contains i) (fun i hi τ v hp => (wipe_set (by simpa using hi)).trans hp) 9 tg tgt q5).run pins s' σ H' v u Q I r q⟩)
      (fun s H C cl fp => ⟨fun pins s' σ H' Q I ⟨b, q⟩ => (hs (o.blk (s := s) (H := H) (C := C) (cl := cl) (fp := fp) b) q6).run pins s' σ H' Q I q⟩)
      (fun s H C cl fp => ⟨fun pins s' σ H' Q I ⟨b, q⟩ => (he (o.blk (s := s) (H := H) (C := C) (cl := cl) (fp := fp) b) q7).run pins s' σ H' Q I q⟩) (fold_of q3)
    rw [own_map] at m
    exact pe_to m fun _ _ _ q => rd_lc q
  · cases h
end Ev
end
section
set_option linter.all false
set_option maxRecDepth 100000
set_option maxHeartbeats 8000000
/-! Chk6: lambdas; all checked expressions. -/
namespace Ev
open PySem PySem.Spec PyProof.Rows L2 LamX
theorem noArgs_of {p : Arguments} (h : noArgs p = true) : p = ⟨[], [], none, [], [], none, []⟩ := by
  obtain ⟨a, b, c, d, e, f, g⟩ := p
  unfold noArgs at h
  simp only [Bool.and_eq_true, List.isEmpty_iff, Option.isNone_iff_eq_none] at h
  obtain ⟨⟨⟨⟨⟨⟨rfl, rfl⟩, rfl⟩, rfl⟩, rfl⟩, rfl⟩, rfl⟩ := h
  rfl
theorem lam_cells {sc scope : Scope} (L : LamS sc scope) {x : Str} : scope.names.lookup x ≠ some .cell := fun h => by
  exact (L.own _ (PySem.mem_of_lookup h)).2 rfl
theorem g_met {f : Nat} {body : E} {fz : List Nat} (hb : GE body) : GE (.met f body fz) := by
  intro X Y K E0 k e o h
  unfold ckE at h
  split at h
  · rename_i x p ps bd scope lp pos
    simp only [Bool.and_eq_true] at h
    obtain ⟨⟨⟨⟨⟨q1, q2⟩, q3⟩, q4⟩, q5⟩, q6⟩ := h
    obtain ⟨g, hd⟩ := glob_ok o q2
    obtain ⟨room2, c, P, TB, hcode, hmT, hu, mets⟩ := o.lam q1
    have hin : (x, f) ∈ K.mets := by
      obtain ⟨⟨a, b⟩, hm, hh⟩ := List.any_eq_true.mp q3
      simp only [Bool.and_eq_true, decide_eq_true_eq, beq_iff_eq] at hh
      obtain ⟨rfl, rfl⟩ := hh
      exact hm
    obtain ⟨m, a, pg, bg, sg, dV, kV, doc, pm, cdv, ct, oc, an, od, osl, Ng, hm, hx, hmg, hkp, lk, hcg, hbd, Sg, hNg, hva, ha1, ha2, hG⟩ := mets x f hin
    have hps := noArgs_of q5
    subst hps
    have L : LamS X.env.scope scope := by rw [o.sc]; exact lamS_by q4
    refine pe_to (pe_lamcall (k := k) (T := Y.g.tabs) (TT := TTm X.K m.word (m.hs.map (hw Y.g))) (t := fun Ex => rdL Y Ex body) g hmg hkp lk hcg hbd Sg hNg hva (hG X rfl rfl _) TB hcode hmT hu room2 L rfl (fun _ _ _ _ _ => rfl) (fun A outer s H Ex f' c' hr => ?_) hd ha1 ha2) fun _ _ _ q => rd_met o.link hm hx q
    refine ⟨fun pins s' σ H' Q I ⟨b, xw, hl, q⟩ => ?_⟩
    have o' : XOk (lamCx X A outer s H Ex scope f' c') { Y with b := b, xw := xw } (lamK K scope) Ex k := {
      hK := o.hK
      hN := o.hN
      nd := o.nd
      calm := rfl
      room := hr
      fns := o.fns
      cls := o.cls
      glb := o.glb
      ar := o.ar
      mfn := o.mfn
      srt := o.srt
      sc := rfl
      fnc := fun x hx => absurd hx (lam_cells L)
      tk := takes_of rfl rfl rfl rfl
      link := hl
      lam := fun h => by cases h }
    exact (hb o' q6).run pins s' σ H' Q I q
  · cases h
theorem g_dsp : GE (.dsp .nil .nil) := by
  intro X Y K E0 k e o h
  unfold ckE at h
  simp only at h
  split at h
  · exact pe_to pe_dnewK fun _ _ _ q => rd_dsp q
  · cases h
theorem g_nev : GE .nev := fun _ _ => ⟨fun pins s σ H Q I ⟨w, st, h, p⟩ => by
  unfold evE at p
  exact p.elim⟩
theorem no_lr1 {K : Ck} {es : Bs} {e : Expr} (hr : ∀ a, es ≠ .cons a .nil) (h : ckE K (.bcl .lrange1 es) e = true) : False := by
  unfold ckE at h
  simp only at h
  split at h
  · simp only [Bool.and_eq_true] at h
    have q := h.1.2
    cases es with
    | nil => unfold ckBs at q; cases q
    | cons a r =>
      cases r with
      | nil => exact hr a rfl
      | cons _ _ =>
        unfold ckBs ckBs at q
        simp only [Bool.and_eq_true] at q
        cases q.2
  · cases h
theorem no_li0 {K : Ck} {e : Expr} (h : ckE K (.bcl .litems .nil) e = true) : False := by
  unfold ckE at h
  simp only at h
  split at h
  · simp only [Bool.and_eq_true] at h
    have q := h.2
    unfold ckBs at q
    cases q
  · cases h
theorem no_li2 {K : Ck} {a b : B} {r : Bs} {e : Expr} (h : ckE K (.bcl .litems (.cons a (.cons b r))) e = true) : False := by
  unfold ckE at h
  simp only at h
  split at h
  · simp only [Bool.and_eq_true] at h
    have q := h.2
    unfold ckBs ckBs at q
    simp only [Bool.and_eq_true] at q
    cases q.2
  · cases h
theorem no_lr2 {K : Ck} {es : Bs} {e : Expr} (hr : ∀ a b, es ≠ .cons a (.cons b .nil)) (h : ckE K (.bcl .lrange2 es) e = true) : False := by
  unfold ckE at h
  simp only at h
  split at h
  · simp only [Bool.and_eq_true] at h
    have q := h.1.1.2
    cases es with
    | nil => unfold ckBs at q; cases q
    | cons a r =>
      cases r with
      | nil =>
        unfold ckBs ckBs at q
        simp only [Bool.and_eq_true] at q
        cases q.2
      | cons b r =>
        cases r with
        | nil => exact hr a b rfl
        | cons _ _ =>
          unfold ckBs ckBs ckBs at q
          simp only [Bool.and_eq_true] at q
          cases q.2.2
  · cases h
mutual
theorem okE : ∀ e : E, GE e
  | .var _ => g_var
  | .cst _ => g_cst
  | .nev => g_nev
  | .share e => g_share (okE e)
  | .bin _ a b => g_bin (okB a) (okB b)
  | .neg a => g_neg (okB a)
  | .cmp _ a b => g_cmp (okB a) (okB b)
  | .chn a _ b r => g_chn (okB a) (okB b) (okCh r)
  | .not a => g_not (okB a)
  | .one a => g_one (okE a)
  | .and a r => g_and (okE a) (okE r)
  | .or a r => g_or (okE a) (okE r)
  | .ife t a b => g_ife (okT t) (okE a) (okE b)
  | .lst es => g_lst (okEs es)
  | .tup es => g_tup (okEs es)
  | .dsp .nil .nil => g_dsp
  | .dsp .nil (.cons _ _) => fun _ h => by unfold ckE at h; cases h
  | .dsp .nil (.star _ _) => fun _ h => by unfold ckE at h; cases h
  | .dsp (.cons _ _) _ => fun _ h => by unfold ckE at h; cases h
  | .dsp (.star _ _) _ => fun _ h => by unfold ckE at h; cases h
  | .idx a i => g_idx (okB a) (okB i)
  | .slc a lo hi => g_slc (okB a) (okO lo) (okO hi)
  | .call _ es _ => g_call (okEs es) (okKs es)
  | .cllv _ es => g_cllv (okEs es)
  | .bcl .lrange1 (.cons a .nil) => g_lr1 (okB a)
  | .bcl .lrange1 .nil => fun _ h => (no_lr1 (fun _ z => by cases z) h).elim
  | .bcl .lrange1 (.cons _ (.cons _ _)) => fun _ h => (no_lr1 (fun _ z => by cases z) h).elim
  | .bcl .lrange2 (.cons a (.cons b .nil)) => g_lr2 (okB a) (okB b)
  | .bcl .lrange2 .nil => fun _ h => (no_lr2 (fun _ _ z => by cases z) h).elim
  | .bcl .lrange2 (.cons _ .nil) => fun _ h => (no_lr2 (fun _ _ z => by cases z) h).elim
  | .bcl .lrange2 (.cons _ (.cons _ (.cons _ _))) => fun _ h => (no_lr2 (fun _ _ z => by cases z) h).elim
  | .bcl .litems .nil => fun _ h => (no_li0 h).elim
  | .bcl .litems (.cons a .nil) => g_litems (okB a)
  | .bcl .litems (.cons _ (.cons _ _)) => fun _ h => (no_li2 h).elim
  | .bcl .len es => g_bcl (okBs es) (by decide) (by decide) (by decide)
  | .bcl .list es => g_bcl (okBs es) (by decide) (by decide) (by decide)
  | .bcl .tuple es => g_bcl (okBs es) (by decide) (by decide) (by decide)
  | .bcl .int es => g_bcl (okBs es) (by decide) (by decide) (by decide)
  | .bcl .sorted es => g_bcl (okBs es) (by decide) (by decide) (by decide)
  | .bcl .sum es => g_bcl (okBs es) (by decide) (by decide) (by decide)
  | .bcl .all es => g_bcl (okBs es) (by decide) (by decide) (by decide)
  | .bcl .any es => g_bcl (okBs es) (by decide) (by decide) (by decide)
  | .bcl .min1 es => g_bcl (okBs es) (by decide) (by decide) (by decide)
  | .bcl .max1 es => g_bcl (okBs es) (by decide) (by decide) (by decide)
  | .bcl .min2 es => g_bcl (okBs es) (by decide) (by decide) (by decide)
  | .bcl .max2 es => g_bcl (okBs es) (by decide) (by decide) (by decide)
  | .bcl .abs es => g_bcl (okBs es) (by decide) (by decide) (by decide)
  | .bcl .dict1 es => g_bcl (okBs es) (by decide) (by decide) (by decide)
  | .bcl .str es => g_bcl (okBs es) (by decide) (by decide) (by decide)
  | .bcl .bool es => g_bcl (okBs es) (by decide) (by decide) (by decide)
  | .bcl .max3 es => g_bcl (okBs es) (by decide) (by decide) (by decide)
  | .bcl .sum2 es => g_bcl (okBs es) (by decide) (by decide) (by decide)
  | .isi a _ => g_isi (okB a)
  | .mth _ a es => g_mth (okB a) (okBs es)
  | .app a e => g_app (okB a) (okE e)
  | .lc elt _ it ifs _ => g_lc (okE elt) (okIt it) (okTs ifs)
  | .met _ body _ => g_met (okE body)
theorem okB : ∀ e : B, GB e
  | .var _ => gB_var
  | .of e => gB_of (okE e)
theorem okT : ∀ e : T, GT e
  | .of a => gT_of (okB a)
  | .cmp _ a b => gT_cmp (okB a) (okB b)
  | .chn a _ b r => gT_chn (okB a) (okB b) (okCh r)
  | .not t => gT_not (okT t)
  | .one t => gT_one (okT t)
  | .and t r => gT_and (okT t) (okT r)
  | .or t r => gT_or (okT t) (okT r)
theorem okCh : ∀ r : Ch, GCh r
  | .nil => fun _ h => by unfold ckCh at h; cases h
  | .cons _ b .nil => gCh_last (okB b)
  | .cons _ b (.cons o c r) => gCh_link (okB b) (okCh (.cons o c r)) (fun z => by cases z)
theorem okO : ∀ e : O, GO e
  | .no => gO_no
  | .so e => gO_so (okB e)
theorem okEs : ∀ e : Es, GEs e
  | .nil => gEs_nil
  | .cons e r => gEs_cons (okE e) (okEs r)
  | .star e r => gEs_star (okB e) (okEs r)
theorem okKs : ∀ e : Es, GKs e
  | .nil => gKs_nil
  | .cons e r => gKs_cons (okE e) (okKs r)
  | .star _ _ => fun _ h => by unfold ckKs at h; cases h
theorem okBs : ∀ e : Bs, GBs e
  | .nil => gBs_nil
  | .cons e r => gBs_cons (okB e) (okBs r)
theorem okTs : ∀ e : Ts, GTs e
  | .nil => gTs_nil
  | .cons t .nil => gTs_cons (okT t)
  | .cons _ (.cons _ _) => fun _ h => (no_Ts h).elim
theorem okIt : ∀ e : Ev.It, GIt e
  | .seq e _ => gIt_seq (okB e)
  | .rng1 e => gIt_rng1 (okB e)
  | .rng2 a b => gIt_rng2 (okB a) (okB b)
  | .zip es => gIt_zip (okEs es)
  | .enm _ => fun _ h => by unfold ckIt at h; cases h
  | .items _ => fun _ h => by unfold ckIt at h; cases h
  | .keys _ => fun _ h => by unfold ckIt at h; cases h
end
end Ev
end
section
set_option linter.all false
set_option maxRecDepth 100000
set_option maxHeartbeats 8000000
/-! Chk7: checked statements. -/
namespace Ev
open PySem PySem.Spec PyProof.Rows L2 LamX
def swB (K : Ck) (x : Str) (line : Nat) (v : Expr) : Bool := match v with
  | .ListComp _ _ sc _ => (K.sc.names.lookup x == some .local) && line == v.pos.line && !(sc.names.any fun (n, k) => n == x && (k == .local || k == .cell))
  | _ => false
def lcOnly : Expr → Bool
  | .ListComp _ _ _ _ => true
  | _ => false
/-- a target that is no plain local name -/
def offT (K : Ck) : Expr → Bool
  | .Name x _ => !decide (K.sc.names.lookup x = some .local)
  | _ => true
def notTup : Expr → Bool
  | .Tuple es _ _ => es.all (foldedForSure 8)
  | _ => true
mutual
def ckS (K : Ck) : Ev.St → Stmt → Bool
  | .exp e, st => (match st with
    | .Expr v _ => notLC v && ckE K e v
    | _ => false)
  | .asg t e, st => (match st with
    | .Assign [.Name x px] v pos => (match t with
      | .nm i => decide (K.N[i]? = some x) && locB K x && ckE K e v && (notLC v || (lcOnly v && !keyLc e && (if swB K x px.line v then true else decide (K.sc.kind = .function))))
      | .tp _ => false)
    | .Assign [.Tuple es k2 pt] v _ => ckG K (fun _ => true) 9 t (.Tuple es k2 pt) && ckE K e v && notLC v && (notTup v || es.any (offT K))
    | _ => false)
  | .par is es, st => (match is with
    | [i, j] => (match es with
      | .cons e1 (.cons e2 .nil) => (match st with
        | .Assign [.Tuple [.Name x px, .Name y py] _ _] (.Tuple [a, b] _ _) _ => decide (K.N[i]? = some x) && decide (K.N[j]? = some y) && decide (i ≠ j) && decide (x ≠ y) && decide (K.sc.names.lookup x = some .local) && decide (K.sc.names.lookup y = some .local) &&
            (px.line == py.line) && notStar a && notStar b && !([a, b].all (foldedForSure 8)) && !([a, b].all (constantsAlone 8)) && decide (K.sc.kind = .function) && ckE K e1 a && ckE K e2 b
        | _ => false)
      | _ => false)
    | _ => false)
  | .aug i op b, st => (match st with
    | .AugAssign (.Name x _) op' v _ => decide (op = op') && decide (K.N[i]? = some x) && locB K x && ckB K b v
    | _ => false)
  | .sto a i e, st => (match st with
    | .Assign [.Subscript o ix _] v _ => ckB K a o && ckB K i ix && notSlice ix && ckE K e v && notLC v
    | _ => false)
  | .augs _ _ _ _, _ => false
  | .iff t a b, st => (match st with
    | .If c x y _ => ckT K t c && ckSs K a x && ckSs K b y
    | _ => false)
  | .for tg it b, st => (match st with
    | .For t iter bd [] _ => ckG K (fun _ => true) 9 tg t && ckIt K it t iter && notSet iter && ckSs K b bd
    | _ => false)
  | .whl t b, st => (match st with
    | .While c bd [] _ => ckT K t c && ckSs K b bd
    | _ => false)
  | .ret e, st => (match st with
    | .Return (some v) _ => ckE K e v
    | _ => false)
  | .retv i, st => (match st with
    | .Return (some (.Name x _)) _ => okV K i x
    | _ => false)
  | .retn, st => (match st with
    | .Return none _ => true
    | _ => false)
  | .rse c es, st => (match es with
    | .cons e .nil => (match st with
      | .Raise (some (.Call (.Name x _) [v] [] _)) none _ => glob K x && (K.cls.any fun p => decide (p.1 = x) && p.2 == c) && ckE K e v && notStar v
      | _ => false)
    | _ => false)
  | .nev, _ => true
  | .brk, st => (match st with
    | .Break _ => true
    | _ => false)
  | .cnt, st => (match st with
    | .Continue _ => true
    | _ => false)
  | .pss, st => (match st with
    | .Pass _ => true
    | _ => false)
  | .doc, st => (match st with
    | .Expr (.Constant (.str _) _ _) _ => true
    | _ => false)
def ckSs (K : Ck) : Ss → List Stmt → Bool
  | .nil, l => l.isEmpty
  | .cons s r, l => (match l with
    | x :: xs => ckS K s x && ckSs K r xs
    | [] => false)
end
/-- a def's body: its context -/
structure XOkS (X : Cx) (Y : Cy) (K : Ck) (E0 : XK) (k : Nat) : Prop extends XOk X Y K E0 k where
  pass : PassesOwn (model X.prog X.w) X.A X.env X.xe
  hT : ∀ a, ¬ Y.b.T a
  kd : K.sc.kind = .function
abbrev GS (s : Ev.St) : Prop := ∀ {X : Cx} {Y : Cy} {K : Ck} {E0 : XK} {k : Nat} {a : Stmt}, XOkS X Y K E0 k → ckS K s a = true → PS X a (rdS Y s)
abbrev GSs (s : Ss) : Prop := ∀ {X : Cx} {Y : Cy} {K : Ck} {E0 : XK} {k : Nat} {a : List Stmt}, XOkS X Y K E0 k → ckSs K s a = true → PSs X a (rdSs Y s)
theorem s_exp {e : E} : GS (.exp e) := by
  intro X Y K E0 k a o h
  unfold ckS at h
  split at h
  · rw [Bool.and_eq_true] at h
    exact ps_to (ps_expr (okE e o.toXOk h.2) (swaps_of h.1)) fun _ _ _ q => rd_exp q
  · cases h
theorem s_iff {t : T} {a b : Ss} (ha : GSs a) (hb : GSs b) : GS (.iff t a b) := by
  intro X Y K E0 k a o h
  unfold ckS at h
  split at h
  · simp only [Bool.and_eq_true] at h
    exact ps_to (ps_if (okT t o.toXOk h.1.1) (ha o h.1.2) (hb o h.2)) fun _ _ _ q => rd_iff q
  · cases h
theorem s_for {tg : Tg} {it : Ev.It} {b : Ss} (hb : GSs b) : GS (.for tg it b) := by
  intro X Y K E0 k a o h
  unfold ckS at h
  split at h
  · simp only [Bool.and_eq_true] at h
    obtain ⟨⟨⟨h1, h2⟩, h3⟩, h4⟩ := h
    exact ps_to (ps_for o.pass o.calm (okIt it o.toXOk h2) (ok_tg o.toXOk (P := fun _ => True) (ok := fun _ => true) (fun _ _ _ _ _ => trivial) 9 tg _ h1) (hb o h4) (fold_of h3)) fun _ _ _ q => rd_for q
  · cases h
theorem s_whl {t : T} {b : Ss} (hb : GSs b) : GS (.whl t b) := by
  intro X Y K E0 k a o h
  unfold ckS at h
  split at h
  · simp only [Bool.and_eq_true] at h
    exact ps_to (ps_while o.pass (okT t o.toXOk h.1) (hb o h.2)) fun _ _ _ q => rd_whl q
  · cases h
theorem s_ret {e : E} : GS (.ret e) := by
  intro X Y K E0 k a o h
  unfold ckS at h
  split at h
  · exact ps_to (ps_ret (okE e o.toXOk h)) fun _ _ _ q => rd_ret q
  · cases h
theorem s_retv {i : Nat} : GS (.retv i) := by
  intro X Y K E0 k a o h
  unfold ckS at h
  split at h
  · exact ps_to (ps_ret (pe_slot o.toXOk h)) fun _ _ _ q => rd_retv o.hT q
  · cases h
theorem s_retn : GS .retn := by
  intro X Y K E0 k a o h
  unfold ckS at h
  split at h
  · exact ps_to ps_retN fun _ _ _ q => rd_retn q
  · cases h
theorem s_brk : GS .brk := by
  intro X Y K E0 k a o h
  unfold ckS at h
  split at h
  · exact ps_to ps_break fun _ _ _ q => rd_brk q
  · cases h
theorem s_cnt : GS .cnt := by
  intro X Y K E0 k a o h
  unfold ckS at h
  split at h
  · exact ps_to ps_continue fun _ _ _ q => rd_cnt q
  · cases h
theorem s_pss : GS .pss := by
  intro X Y K E0 k a o h
  unfold ckS at h
  split at h
  · exact ps_to ps_pass fun _ _ _ q => rd_pss q
  · cases h
theorem s_doc : GS .doc := by
  intro X Y K E0 k a o h
  unfold ckS at h
  split at h
  · exact ps_to ps_doc fun _ _ _ q => rd_doc q
  · cases h
theorem s_rse {c : Nat} {e : E} : GS (.rse c (.cons e .nil)) := by
  intro X Y K E0 k a o h
  unfold ckS at h
  simp only at h
  split at h
  · simp only [Bool.and_eq_true] at h
    obtain ⟨⟨⟨h1, h2⟩, h3⟩, h4⟩ := h
    obtain ⟨g, hd⟩ := glob_ok o.toXOk h1
    obtain ⟨⟨x', c'⟩, hm, hh⟩ := List.any_eq_true.mp h2
    simp only [Bool.and_eq_true, decide_eq_true_eq, beq_iff_eq] at hh
    obtain ⟨rfl, rfl⟩ := hh
    obtain ⟨qn, fI, T⟩ := o.cls _ _ hm
    exact ps_to (ps_raiseErrT o.calm T o.room o.tk (pa_to (pa_cons (okE e o.toXOk h3) pa_nil (star_cons h4)) fun _ _ _ q => by
      obtain ⟨w, s, h, p⟩ := rdEs_cons q
      exact ⟨w, s, h, p.mono (fun r s1 k1 w1 H1 v h1 l rv => rdEs_nil (k1 w1 H1 v h1 l rv)) fun _ _ _ z => z⟩) g hd (star_cons h4) rfl) fun _ _ _ q => rd_rse o.link (fun _ _ _ _ z => z) q
  · cases h
theorem no_rse {K : Ck} {c : Nat} {es : Es} {st : Stmt} (hr : ∀ e, es ≠ .cons e .nil) (h : ckS K (.rse c es) st = true) : False := by
  unfold ckS at h
  split at h
  · exact hr _ rfl
  · cases h
theorem s_aug {i : Nat} {op : Operator} {b : B} : GS (.aug i op b) := by
  intro X Y K E0 k a o h
  unfold ckS at h
  split at h
  · simp only [Bool.and_eq_true, decide_eq_true_eq] at h
    obtain ⟨⟨⟨rfl, h1⟩, h2⟩, h3⟩ := h
    obtain ⟨l, hf⟩ := loc_ok o.toXOk h2
    exact ps_to (ps_aug (by rw [o.hN]; exact o.nd) (by rw [o.hN]; exact h1) l (okB b o.toXOk h3) ipR hf) fun _ _ _ q => rd_aug q
  · cases h
theorem sole {t v : Expr} {n : Nat} {env : Env} : swapsWithSole [t] v n env = swapsWith v (some t) n env := by
  unfold swapsWithSole
  rfl
theorem sole_of {t v : Expr} {n : Nat} {env : Env} (h : notLC v = true) : swapsWithSole [t] v n env = pure false := sole.trans (swaps_of h)
theorem s_sto {a i : B} {e : E} : GS (.sto a i e) := by
  intro X Y K E0 k st o h
  unfold ckS at h
  split at h
  · rename_i ob ix p v pos
    simp only [Bool.and_eq_true] at h
    obtain ⟨⟨⟨⟨h1, h2⟩, h3⟩, h4⟩, h5⟩ := h
    refine ps_to (ps_asg (okE e o.toXOk h4) (pg_sub (okB a o.toXOk h1) (okB i o.toXOk h2) set_list ?_) (sole_of h5) rfl rfl) fun _ _ _ q => rd_sto q
    intro v
    cases ix <;> first | rfl | cases h3
  · cases h
/-! ### assignments -/
theorem swaps_lc {K : Ck} {X : Cx} (hs : X.env.scope = K.sc) (kd : K.sc.kind = .function) {x : Str} {px : Pos} {v : Expr} {n : Nat} (hl : lcOnly v = true) : swapsWith v (some (.Name x px)) n X.env = pure (swB K x px.line v) := by
  cases v <;> first
    | (cases hl; done)
    | skip
  rename_i el gens sc pos
  unfold swB swapsWith
  have hb : X.env.blockKind = .function := by
    unfold Env.blockKind
    rw [hs, kd]
    rfl
  have hk : X.env.kindOf x = K.sc.names.lookup x := by unfold Env.kindOf; rw [hs]
  simp only [pure_bind, hb, hk]
  rfl
theorem s_asgN {i : Nat} {e : E} {X : Cx} {Y : Cy} {K : Ck} {E0 : XK} {k : Nat} {x : Str} {px pos : Pos} {v : Expr} (o : XOkS X Y K E0 k) (h1 : K.N[i]? = some x) (h2 : locB K x = true) (h3 : ckE K e v = true) (h4 : notLC v = true) : PS X (.Assign [.Name x px] v pos) (rdS Y (.asg (.nm i) e)) := by
  obtain ⟨l, hf⟩ := loc_ok o.toXOk h2
  refine ps_to (ps_set (by rw [o.hN]; exact o.nd) (by rw [o.hN]; exact h1) l (okE e o.toXOk h3) (swaps_of h4) hf) fun D σ H q => ?_
  obtain ⟨w, s, h, p⟩ := rd_asg q
  exact ⟨w, s, h, p.mono (fun r s1 k1 w1 H1 v h1 l1 rv => rdG_nm (fun _ _ _ => trivial) (k1 w1 H1 v h1 l1 rv)) fun _ _ _ z => z⟩
/-- the parts of a comprehension that is stored where it stands -/
theorem ps_lcB {X : Cx} {i : Nat} {y : Str} {py : Pos} {elt tg iter : Expr} {ifs : List Expr} {scope : Scope} {own : List (Str × Nat)} {pos spos : Pos} {wi : TI} {g : TG} {tt : TT} {te : TE} (hc : X.calm = true) (hN : X.N.Nodup) (hy : X.N[i]? = some y) (hl : Loc X.env.scope y) (hf : X.fn y = true ∨ X.env.scope.names.lookup y = some .local)
    {sw : Bool} (hsw : swapsWith (.ListComp elt [⟨tg, iter, ifs, 0⟩] scope pos) (some (.Name y py)) spos.line X.env = pure sw) (hyl : sw = true → X.env.scope.names.lookup y = some .local) (hi : PI X tg iter wi) (ok : BlkOk X.N X.env.scope scope own)
    (hg : ∀ (s : Shared) (H : Hp) (C : Addr) (cl : List (Str × Addr)) (fp : List Addr), PG (X.blk s H scope (compEnvC scope cl C X.env) fp) tg g) (ht : ∀ (s : Shared) (H : Hp) (C : Addr) (cl : List (Str × Addr)) (fp : List Addr), PTs (X.blk s H scope (compEnvC scope cl C X.env) fp) ifs tt)
    (he : ∀ (s : Shared) (H : Hp) (C : Addr) (cl : List (Str × Addr)) (fp : List Addr), PE (X.blk s H scope (compEnvC scope cl C X.env) fp) elt te) (hs : ∀ x, foldedSetIterable iter X.env x = pure x) :
    PS X (.Assign [.Name y py] (.ListComp elt [⟨tg, iter, ifs, 0⟩] scope pos) spos) (tAsg (tLc wi g tt te (own.map (·.2))) (gName i)) := by
  cases sw with
  | true => exact ps_setLc hc hN hy (hyl rfl) hsw hi ok hg ht he hs
  | false => exact ps_set hN hy hl (pe_lc hc hN hi ok hg ht he hs) hsw hf
theorem asgLc {i : Nat} {X : Cx} {Y : Cy} {K : Ck} {E0 : XK} {k : Nat} {x : Str} {px pos : Pos} {el : Expr} {gens : List Comprehension} {scope : Scope} {vpos : Pos} (o : XOkS X Y K E0 k) (h1 : K.N[i]? = some x) (h2 : locB K x = true) :
    ∀ e : E, keyLc e = false → ckE K e (.ListComp el gens scope vpos) = true → PS X (.Assign [.Name x px] (.ListComp el gens scope vpos) pos) (tAsg (rdE Y e) (gName i)) := by
  obtain ⟨l, hf⟩ := loc_ok o.toXOk h2
  have sw := swaps_lc (px := px) (n := pos.line) (x := x) (v := .ListComp el gens scope vpos) o.sc o.kd rfl
  have lcC : ∀ (elt : E) (tg : Tg) (it : Ev.It) (ifs : Ts) (own : List Nat), keyLc (.lc elt tg it ifs own) = false → ckE K (.lc elt tg it ifs own) (.ListComp el gens scope vpos) = true → PS X (.Assign [.Name x px] (.ListComp el gens scope vpos) pos) (tAsg (rdE Y (.lc elt tg it ifs own)) (gName i)) := fun elt tg it ifs own hnk h3 => by
    unfold ckE at h3
    rw [if_neg (by rw [show isKeys it = false from hnk]; decide)] at h3
    split at h3
    · rename_i el' c scope' pos' heq
      cases heq
      simp only [Bool.and_eq_true] at h3
      obtain ⟨⟨⟨⟨⟨⟨q1, q2⟩, q3⟩, q4⟩, q5⟩, q6⟩, q7⟩ := h3
      obtain ⟨tgt, iter, ifsE, as⟩ := c
      have q1 : as = 0 := eq_of_beq q1
      subst q1
      have ok : BlkOk X.N X.env.scope scope (ownN K own) := by
        rw [o.hN, o.sc]
        exact blkOk_by q4
      have m := ps_lcB (spos := pos) o.calm (by rw [o.hN]; exact o.nd) (by rw [o.hN]; exact h1) l hf sw (fun hs => by
          unfold swB at hs
          simp only [Bool.and_eq_true, beq_iff_eq] at hs
          rw [o.sc]
          exact hs.1.1) (okIt it o.toXOk q2) ok
        (g := fun v σ' H' N => rdGk Y (fun σ2 => wipe σ2 own = wipe σ' own) tg v σ' H' N) (tt := rdTk Y ifs) (te := rdEk Y elt)
        (fun s H C cl fp => ⟨fun pins s' σ H' v u Q I r ⟨b, q⟩ => (ok_tg (o.toXOk.blk (s := s) (H := H) (C := C) (cl := cl) (fp := fp) b) (P := fun σ2 => wipe σ2 own = wipe σ own) (ok := fun i => own.contains i) (fun i hi τ v hp => (wipe_set (by simpa using hi)).trans hp) 9 tg tgt q5).run pins s' σ H' v u Q I r q⟩)
        (fun s H C cl fp => ⟨fun pins s' σ H' Q I ⟨b, q⟩ => (okTs ifs (o.toXOk.blk (s := s) (H := H) (C := C) (cl := cl) (fp := fp) b) q6).run pins s' σ H' Q I q⟩)
        (fun s H C cl fp => ⟨fun pins s' σ H' Q I ⟨b, q⟩ => (okE elt (o.toXOk.blk (s := s) (H := H) (C := C) (cl := cl) (fp := fp) b) q7).run pins s' σ H' Q I q⟩) (fold_of q3)
      rw [own_map] at m
      exact ps_to m fun D σ H q => rd_lc (Q := fun x H1 => gName i x σ H1 D.nx) q
    · cases h3
  let rec go : ∀ e : E, keyLc e = false → ckE K e (.ListComp el gens scope vpos) = true → PS X (.Assign [.Name x px] (.ListComp el gens scope vpos) pos) (tAsg (rdE Y e) (gName i))
    | .share e, hk, h => by
      unfold ckE at h
      exact ps_to (go e hk h) fun D σ H q => rd_share (Q := fun x H1 => gName i x σ H1 D.nx) q
    | .lc elt tg it ifs own, hk, h => lcC elt tg it ifs own hk h
    | .var _, _, h | .bin _ _ _, _, h | .neg _, _, h | .cmp _ _ _, _, h | .chn _ _ _ _, _, h | .not _, _, h | .one _, _, h | .and _ _, _, h | .or _ _, _, h | .ife _ _ _, _, h | .lst _, _, h | .tup _, _, h | .idx _ _, _, h | .slc _ _ _, _, h | .call _ _ _, _, h | .cllv _ _, _, h | .isi _ _, _, h | .mth _ _ _, _, h | .app _ _, _, h | .met _ _ _, _, h => by unfold ckE at h; cases h
    | .cst _, _, h => by unfold ckE ckC at h; cases h
    | .nev, _, _ => ⟨fun pins s σ H D I ⟨w, st, h, p⟩ => by
      unfold evE at p
      exact p.elim⟩
    | .dsp ks vs, _, h => by
      unfold ckE at h
      cases ks <;> first | (cases h; done) | (cases vs <;> cases h)
    | .bcl b _, _, h => by
      unfold ckE at h
      cases b <;> cases h
  exact go
theorem s_asgLc {i : Nat} {e : E} {X : Cx} {Y : Cy} {K : Ck} {E0 : XK} {k : Nat} {x : Str} {px pos : Pos} {v : Expr} (o : XOkS X Y K E0 k) (h1 : K.N[i]? = some x) (h2 : locB K x = true) (h3 : ckE K e v = true) (h4 : lcOnly v = true) (h5 : keyLc e = false) : PS X (.Assign [.Name x px] v pos) (rdS Y (.asg (.nm i) e)) := by
  cases v <;> first
    | (cases h4; done)
    | skip
  refine ps_to (asgLc o h1 h2 e h5 h3) fun D σ H q => ?_
  obtain ⟨w, s, h, p⟩ := rd_asg q
  exact ⟨w, s, h, p.mono (fun r s1 k1 w1 H1 v h1 l1 rv => rdG_nm (fun _ _ _ => trivial) (k1 w1 H1 v h1 l1 rv)) fun _ _ _ z => z⟩
end Ev
end
section
set_option linter.all false
set_option maxRecDepth 100000
set_option maxHeartbeats 8000000
/-! Chk8: all checked statements. -/
namespace Ev
open PySem PySem.Spec PyProof.Rows L2 LamX
theorem swapped_none {es : List Expr} {k2 : Nat} {pt : Pos} {v : Expr} {env : Env} (h : notTup v = true) : swappedStores [.Tuple es k2 pt] v env = pure none := by
  cases v <;> first
    | rfl
    | skip
  rename_i vs kk pp
  have h : vs.all (foldedForSure 8) = true := h
  unfold swappedStores
  simp only [pure_bind, h, if_true]
  split
  · rfl
  · split
    · rfl
    · split <;> rfl
theorem filt_lt {α β : Type} {f : α → Option β} : ∀ {l : List α}, (l.any fun x => (f x).isNone) = true → (l.filterMap f).length < l.length
  | [], h => by cases h
  | x :: l, h => by
    rw [List.any_cons, Bool.or_eq_true] at h
    have all : ∀ l : List α, (l.filterMap f).length ≤ l.length := fun l => List.length_filterMap_le f l
    cases e : f x with
    | none =>
      rw [List.filterMap_cons, e]
      exact Nat.lt_succ_of_le (all l)
    | some y =>
      rcases h with h | h
      · rw [e] at h; cases h
      · rw [List.filterMap_cons, e]
        exact Nat.succ_lt_succ (filt_lt h)
theorem swapped_off {K : Ck} {X : Cx} (hs : X.env.scope = K.sc) {es : List Expr} {k2 : Nat} {pt : Pos} {v : Expr} (h : es.any (offT K) = true) : swappedStores [.Tuple es k2 pt] v X.env = pure none := by
  cases v <;> first
    | rfl
    | skip
  rename_i vs kk pp
  have key : ∀ line : Nat, (es.filterMap (fun (e : Expr) => match e with
      | .Name id pos => if (X.env.kindOf id == some .local && pos.line == line) = true then some id else none
      | _ => none)).length < es.length := fun line => by
    refine filt_lt ?_
    obtain ⟨e, he, ho⟩ := List.any_eq_true.mp h
    refine List.any_eq_true.mpr ⟨e, he, ?_⟩
    cases e with
    | Name x p =>
      have ho : (!decide (K.sc.names.lookup x = some .local)) = true := ho
      have hk : (X.env.kindOf x == some .local) = false := by
        unfold Env.kindOf
        rw [hs]
        simpa using ho
      simp only [hk, Bool.false_and, Bool.false_eq_true, if_false]
      rfl
    | _ => rfl
  unfold swappedStores
  simp only [pure_bind]
  split
  · rfl
  · split
    · rfl
    · have k := key ((es.head?.map (·.pos.line)).getD 0)
      refine if_pos ?_
      rw [Bool.or_eq_true]
      refine .inl ?_
      simp only [bne_iff_ne, ne_eq]
      exact Nat.ne_of_lt k
theorem s_asgT {t : Tg} {e : E} {X : Cx} {Y : Cy} {K : Ck} {E0 : XK} {k : Nat} {es : List Expr} {k2 : Nat} {pt pos : Pos} {v : Expr} (o : XOkS X Y K E0 k) (h1 : ckG K (fun _ => true) 9 t (.Tuple es k2 pt) = true) (h2 : ckE K e v = true) (h3 : notLC v = true) (h4 : notTup v = true ∨ es.any (offT K) = true) :
    PS X (.Assign [.Tuple es k2 pt] v pos) (rdS Y (.asg t e)) :=
  ps_to (ps_asg (okE e o.toXOk h2) (ok_tg o.toXOk (P := fun _ => True) (ok := fun _ => true) (fun _ _ _ _ _ => trivial) 9 t _ h1) (sole_of h3) (by rcases h4 with h4 | h4; exact swapped_none h4; exact swapped_off o.sc h4) rfl) fun _ _ _ q => rd_asg q
theorem s_asg {t : Tg} {e : E} : GS (.asg t e) := by
  intro X Y K E0 k a o h
  unfold ckS at h
  split at h
  · split at h
    · simp only [Bool.and_eq_true, Bool.or_eq_true, decide_eq_true_eq] at h
      obtain ⟨⟨⟨h1, h2⟩, h3⟩, h4⟩ := h
      rcases h4 with h4 | ⟨⟨h4, h5⟩, _⟩
      · exact s_asgN o h1 h2 h3 h4
      · exact s_asgLc o h1 h2 h3 h4 (by simpa using h5)
    · cases h
  · simp only [Bool.and_eq_true] at h
    obtain ⟨⟨⟨h1, h2⟩, h3⟩, h4⟩ := h
    exact s_asgT o h1 h2 h3 (Bool.or_eq_true_iff.mp h4)
  · cases h
theorem swapped_two {X : Cx} {K : Ck} (hs : X.env.scope = K.sc) (kd : K.sc.kind = .function) {x y : Str} {px py pt : Pos} {kt k2 : Nat} {pt2 : Pos} {a b : Expr} (hx : K.sc.names.lookup x = some .local) (hy : K.sc.names.lookup y = some .local) (hxy : x ≠ y) (hl : (px.line == py.line) = true)
    (ha : notStar a = true) (hb : notStar b = true) (hf : ([a, b].all (foldedForSure 8)) = false) (hc : ([a, b].all (constantsAlone 8)) = false) :
    swappedStores [.Tuple [.Name x px, .Name y py] kt pt] (.Tuple [a, b] k2 pt2) X.env = pure (some [x, y]) := by
  have hb' : X.env.blockKind = .function := by
    unfold Env.blockKind
    rw [hs, kd]
    rfl
  have kx : X.env.kindOf x = some .local := by unfold Env.kindOf; rw [hs, hx]
  have ky : X.env.kindOf y = some .local := by unfold Env.kindOf; rw [hs, hy]
  have hl2 : (py.line == px.line) = true := by simpa using (by simpa using hl : px.line = py.line).symm
  have st : ([a, b].any fun | .Starred .. => true | _ => false) = false := by
    cases a <;> first
      | (cases ha; done)
      | (cases b <;> first
          | (cases hb; done)
          | rfl)
  unfold swappedStores
  have nm : (List.filterMap (fun (e : Expr) => match e with
      | .Name id pos => if (X.env.kindOf id == some .local && pos.line == px.line) = true then some id else none
      | _ => none) [.Name x px, .Name y py]) = [x, y] := by
    simp [List.filterMap, kx, ky, hl2]
  simp only [pure_bind, hb', st, hf, hc]
  have key : ∀ L : List Str, L = [x, y] → (if (L.length != [Expr.Name x px, Expr.Name y py].length || L.eraseDups.length != L.length) = true then (pure none : Sem (Option (List Str))) else
      if false = true then pure none else if false = true then (do unsupported "assign.tuple-of-constant-expressions:order-of-the-stores"; pure (some L)) else pure (some L)) = pure (some [x, y]) := fun L e => by
    subst e
    have ed : ([x, y] : List Str).eraseDups.length = 2 := by
      have e2 : (y == x) = false := by simpa using fun z : y = x => hxy z.symm
      simp [List.eraseDups, List.eraseDupsBy, List.eraseDupsBy.loop, e2]
    rw [ed]
    rfl
  rw [if_neg (by simp)]
  exact (if_neg (fun z => Bool.false_ne_true (st.symm.trans z))).trans (key _ nm)
theorem s_par {i j : Nat} {e1 e2 : E} : GS (.par [i, j] (.cons e1 (.cons e2 .nil))) := by
  intro X Y K E0 k st o h
  unfold ckS at h
  simp only at h
  split at h
  · rename_i x px y py kt pt a b k2 pt2 pos
    simp only [Bool.and_eq_true, decide_eq_true_eq, Bool.not_eq_true'] at h
    obtain ⟨⟨⟨⟨⟨⟨⟨⟨⟨⟨⟨⟨⟨h1, h2⟩, h3⟩, h4⟩, h5⟩, h6⟩, h7⟩, h8⟩, h9⟩, h10⟩, h11⟩, h12⟩, h13⟩, h14⟩ := h
    refine ps_to (ps_par o.calm (by rw [o.hN]; exact o.nd) (by rw [o.hN]; exact h1) (by rw [o.hN]; exact h2) h3 (by rw [o.sc]; exact h5) (by rw [o.sc]; exact h6)
      (pa_cons (okE e1 o.toXOk h13) (pa_cons (pe_base fun w0 H0 T0 t => okE e2 (o.toXOk.base t) h14) pa_nil (star_cons h9)) (star_cons h8))
      (swapped_two o.sc o.kd h5 h6 h4 h7 h8 h9 h10 h11) (sole.trans rfl)) fun _ _ _ q => rd_par h3 q
  · cases h
theorem no_par {K : Ck} {is : List Nat} {es : Es} {st : Stmt} (hr : ∀ i j e1 e2, ¬ (is = [i, j] ∧ es = .cons e1 (.cons e2 .nil))) (h : ckS K (.par is es) st = true) : False := by
  unfold ckS at h
  split at h
  · split at h
    · exact hr _ _ _ _ ⟨rfl, rfl⟩
    · cases h
  · cases h
mutual
theorem okS : ∀ s : Ev.St, GS s
  | .exp _ => s_exp
  | .asg _ _ => s_asg
  | .par [_, _] (.cons _ (.cons _ .nil)) => s_par
  | .par [] _ => fun _ h => (no_par (fun _ _ _ _ z => by cases z.1) h).elim
  | .par [_] _ => fun _ h => (no_par (fun _ _ _ _ z => by cases z.1) h).elim
  | .par (_ :: _ :: _ :: _) _ => fun _ h => (no_par (fun _ _ _ _ z => by cases z.1) h).elim
  | .par [_, _] .nil => fun _ h => (no_par (fun _ _ _ _ z => by cases z.2) h).elim
  | .par [_, _] (.cons _ .nil) => fun _ h => (no_par (fun _ _ _ _ z => by cases z.2) h).elim
  | .par [_, _] (.cons _ (.star _ _)) => fun _ h => (no_par (fun _ _ _ _ z => by cases z.2) h).elim
  | .par [_, _] (.cons _ (.cons _ (.cons _ _))) => fun _ h => (no_par (fun _ _ _ _ z => by cases z.2) h).elim
  | .par [_, _] (.cons _ (.cons _ (.star _ _))) => fun _ h => (no_par (fun _ _ _ _ z => by cases z.2) h).elim
  | .par [_, _] (.star _ _) => fun _ h => (no_par (fun _ _ _ _ z => by cases z.2) h).elim
  | .aug _ _ _ => s_aug
  | .sto _ _ _ => s_sto
  | .augs _ _ _ _ => fun _ h => by unfold ckS at h; cases h
  | .iff _ a b => s_iff (okSs a) (okSs b)
  | .for _ _ b => s_for (okSs b)
  | .whl _ b => s_whl (okSs b)
  | .ret _ => s_ret
  | .retv _ => s_retv
  | .retn => s_retn
  | .rse _ (.cons _ .nil) => s_rse
  | .rse _ .nil => fun _ h => (no_rse (fun _ z => by cases z) h).elim
  | .rse _ (.star _ _) => fun _ h => (no_rse (fun _ z => by cases z) h).elim
  | .rse _ (.cons _ (.cons _ _)) => fun _ h => (no_rse (fun _ z => by cases z) h).elim
  | .rse _ (.cons _ (.star _ _)) => fun _ h => (no_rse (fun _ z => by cases z) h).elim
  | .brk => s_brk
  | .nev => fun _ _ => ⟨fun pins s σ H D I ⟨w, st, h, p⟩ => by
    unfold exS at p
    exact p.elim⟩
  | .cnt => s_cnt
  | .pss => s_pss
  | .doc => s_doc
theorem okSs : ∀ s : Ss, GSs s
  | .nil => by
    intro o h
    rename_i a
    unfold ckSs at h
    cases a with
    | nil => exact pss_to pss_nil fun _ _ _ q => rdSs_nil q
    | cons _ _ => cases h
  | .cons s r => by
    intro o h
    rename_i a
    unfold ckSs at h
    cases a with
    | nil => cases h
    | cons x xs =>
      rw [Bool.and_eq_true] at h
      exact pss_to (pss_cons (okS s o h.1) (okSs r o h.2)) fun _ _ _ q => rdSs_cons q
end
end Ev
end
section
set_option linter.all false
set_option maxRecDepth 100000
set_option maxHeartbeats 4000000
/-! Defs: all defs of a program keep their promises. -/
namespace Ev
open PySem PySem.Spec PyProof.Rows L2 LamX
/-- what is shared by the program's defs -/
structure Tb where
  pg : Prg
  fuel : Nat
  fns : List (Str × Nat × Nat)
  cls : List (Str × Nat)
  glb : List Str
  mets : List (Str × Nat)
  kws : List (Str × List Str × List Nat)
def Tb.ck (t : Tb) (N : List Str) (sc : Scope) (lam : Bool) : Ck := ⟨N, sc, sc, t.fns, t.cls, t.glb, t.mets, t.kws, lam⟩
structure DefP (t : Tb) (K : PySem.W.Frag) (mg : Str → Option Value) (base : Heap) (g : Gl) (x : Str) (f np : Nat) (N ps : List Str) (args : Arguments) (body : List Stmt) (scope : Scope) (lam : Bool) : Prop where
  fn : ∃ fn, t.pg.fns[f]? = some fn ∧ fn.np = np ∧ fn.ns = N.length ∧ ckSs (t.ck N scope lam) fn.body body = true
  len : ps.length = np
  hm : mg x = some (.ref (g.fa f))
  kp : PySem.W.keepIn K (.ref (g.fa f)) = true
  sc : FnScope N ps scope
  fo : ∃ o, K.lookup (g.fa f) = some o ∧ o.cls = .type "function"
  lk : ∃ (oc : Value) (od : Option Addr) (dV kV doc pm : Value) (an : Option Addr) (cdv ct : Value) (osl : Array (Option Value)),
    K.lookup (g.fa f) = some ⟨oc, od, .func (PySem.W.fnOf x x args body scope dV kV doc pm an cdv ct), osl⟩ ∧ PySem.W.codeIn K cdv x = true ∧ Binds K (PySem.W.fnOf x x args body scope dV kV doc pm an cdv ct) ps [] ∧ (∀ ks pl, (x, ks, pl) ∈ t.kws → pl.length = np → KwB K (PySem.W.fnOf x x args body scope dV kV doc pm an cdv ct) ps ks pl) ∧
    (lam = true → ∃ c P, TabB base mg c P ∧ cdv = .ref c ∧ ∀ A : Addr, (P, (envOfC x scope A (g.fa f) cdv).qual ++ "<lambda>") ∈ g.tabs ∧ ∀ p ∈ g.tabs, p.1 = P → p.2 = (envOfC x scope A (g.fa f) cdv).qual ++ "<lambda>")
def kk (n : Nat) : Nat := 3 * n + 1
theorem fn_zero {P : Program} {W : World} {K : PySem.W.Frag} {mg : Str → Option Value} {base : Heap} {g : Gl} {t : Tb} {f np k : Nat} {ps : List Str} {fd : FuncData} {a : Addr} (hl : ps.length = np) : FnOk P W K mg base (L2.CX P W) k a fd ps (spF g (callF t.pg t.fuel 0) f np) :=
  ⟨fun vs H Q E h => h.1.trans hl.symm, fun A outer s H args us vs Q E _ _ _ _ h => by
    obtain ⟨_, w, sh, ds, _, _, z⟩ := h
    exact z.elim⟩
theorem fn_okD {P : Program} {W : World} {K : PySem.W.Frag} {mg : Str → Option Value} {base : Heap} {g : Gl} {t : Tb} {n : Nat} {x : Str} {f np : Nat} {N ps : List Str} {args : Arguments} {body : List Stmt} {scope : Scope} {lam : Bool} (hK : K = g.K)
    (ih : ∀ x f m, (x, f, m) ∈ t.fns → FnP P W K mg base g (callF t.pg t.fuel n) t.kws (kk n) x f m) (hc : ∀ x c, (x, c) ∈ t.cls → ∃ qn fI, PySem.ErrT.ErrTTxt K mg x qn (g.ca c) fI) (hg : ∀ x, x ∈ t.glb → mg x = none)
    (srt : ∀ X' : Cx, X'.calm = true → X'.K = g.K → X'.A.units + 64 < cLine → SortOk X' g) (mets : ∀ x f, (x, f) ∈ t.mets → ∀ (X : Cx) rho, X.K = K → X.mg = mg → MetP X g ⟨t.fuel, rho, t.pg.mets, t.pg.ar⟩ x f) (har : ∀ p ∈ t.pg.ar, ∃ x, (x, p.1, p.2) ∈ t.fns) (mfn : ∀ x f, (x, f) ∈ t.mets → mg x = some (.ref (g.fa f)) ∧ ∃ o, K.lookup (g.fa f) = some o ∧ o.cls = .type "function")
    (d : DefP t K mg base g x f np N ps args body scope lam) :
    ∃ (fd : FuncData) (oc : Value) (od : Option Addr) (osl : Array (Option Value)), K.lookup (g.fa f) = some ⟨oc, od, .func fd, osl⟩ ∧ FnOk P W K mg base (L2.CX P W) (kk (n + 1)) (g.fa f) fd ps (spF g (callF t.pg t.fuel (n + 1)) f np) ∧ Binds K fd ps [] ∧ ∀ ks pm, (x, ks, pm) ∈ t.kws → pm.length = np → KwB K fd ps ks pm := by
  obtain ⟨⟨fn, e1, e2, e3, e4⟩, hl, hm, kp, S, fo, oc, od, dV, kV, doc, pm, an, cdv, ct, osl, lk, hcd, bd, hkw, hlam⟩ := d
  refine ⟨_, oc, od, osl, lk, ?_, bd, hkw⟩
  refine fn_of (k := kk n + 2) (N := N) lk hcd S (fun vs H Q E h => h.1.trans hl.symm) fun A outer s H vs Q E hr hsp => ?_
  obtain ⟨hv, w, sh, ds, hg0, rs, hsp⟩ := hsp
  have hdl : ds.length = np := rs.length.trans hv
  have hcall : callF t.pg t.fuel (n + 1) f ds sh = outFR (exSs ⟨t.fuel, callF t.pg t.fuel n, t.pg.mets, t.pg.ar⟩ fn.body ⟨ds.map Sl.fr ++ List.replicate (fn.ns - fn.np) Sl.un, sh⟩) := by
    show (match t.pg.fns[f]? with | some fn => if ds.length = fn.np then outFR (exSs ⟨t.fuel, callF t.pg t.fuel n, t.pg.mets, t.pg.ar⟩ fn.body ⟨ds.map Sl.fr ++ List.replicate (fn.ns - fn.np) Sl.un, sh⟩) else .er | none => .er) = _
    rw [e1]
    show (if ds.length = fn.np then _ else _) = _
    rw [if_pos (by rw [hdl, e2])]
  rw [hcall] at hsp
  let Y : Cy := ⟨g, ⟨t.fuel, callF t.pg t.fuel n, t.pg.mets, t.pg.ar⟩, ⟨w, H, fun _ => False⟩, fun c es sh' => ∀ w' H' cls d, RSg g w' sh' H' → Tr ⟨w, H, fun _ => False⟩ w' H' (fun _ => False) → ExR g w' H' c es cls d → E cls d H'⟩
  have o : XOkS (cxOf (L2.CX P W) P W K mg base N x scope (g.fa f) cdv A outer s H E) Y (t.ck N scope lam) E (kk n) := {
    hK := hK
    hN := rfl
    nd := S.nd
    calm := rfl
    room := hr.mono (by omega)
    fns := ih
    cls := hc
    glb := hg
    ar := har
    mfn := mfn
    srt := srt
    sc := rfl
    fnc := fun _ _ => rfl
    tk := takes_of rfl rfl rfl rfl
    link := fun c ds sh w' H' T' cls d k1 k2 k3 k4 => k1 w' H' cls d k2 (k3.mono fun _ z => z.elim) k4
    lam := fun h => by
      obtain ⟨c, P', TB, rfl, hq⟩ := hlam h
      exact ⟨hr, c, P', TB, rfl, (hq _).1, (hq _).2, fun x f hx => mets x f hx _ _ rfl rfl⟩
    pass := passes_of rfl
    hT := fun _ z => z
    kd := S.kind }
  refine ⟨rdSs Y fn.body, okSs fn.body o e4, w, ⟨ds.map Sl.fr ++ List.replicate (fn.ns - fn.np) Sl.un, sh⟩, ?_⟩
  · have z := RSt.enter hg0 rs (fn.ns - fn.np)
    have e : L2.start N vs = vs.map some ++ List.replicate (fn.ns - fn.np) none := by
      unfold L2.start
      rw [e3, e2, hv]
    rw [e]
    refine ⟨z, ?_⟩
    cases e5 : exSs ⟨t.fuel, callF t.pg t.fuel n, t.pg.mets, t.pg.ar⟩ fn.body ⟨ds.map Sl.fr ++ List.replicate (fn.ns - fn.np) Sl.un, sh⟩ with
    | nx s1 =>
      rw [e5] at hsp
      exact fun w' H' σ' h' _ => hsp w' H' .non h'.rs.st (h'.tr.mono fun _ z => z.elim) (.fr .non)
    | rt r s1 =>
      rw [e5] at hsp
      intro w' H' σ' v h' _ rv
      refine hsp w' H' v h'.rs.st (h'.tr.mono fun _ z => z.elim) ?_
      cases rv with
      | fr q => exact .fr q
      | ow q => exact .ow q.F q.m q.new q.co
    | bk s1 => rw [e5] at hsp; exact hsp.elim
    | ct s1 => rw [e5] at hsp; exact hsp.elim
    | ex c es s1 => rw [e5] at hsp; exact hsp
    | er => rw [e5] at hsp; exact hsp.elim
theorem fn_succ {P : Program} {W : World} {K : PySem.W.Frag} {mg : Str → Option Value} {base : Heap} {g : Gl} {t : Tb} {n : Nat} {x : Str} {f np : Nat} {N ps : List Str} {args : Arguments} {body : List Stmt} {scope : Scope} {lam : Bool} (hK : K = g.K)
    (ih : ∀ x f m, (x, f, m) ∈ t.fns → FnP P W K mg base g (callF t.pg t.fuel n) t.kws (kk n) x f m) (hc : ∀ x c, (x, c) ∈ t.cls → ∃ qn fI, PySem.ErrT.ErrTTxt K mg x qn (g.ca c) fI) (hg : ∀ x, x ∈ t.glb → mg x = none)
    (srt : ∀ X' : Cx, X'.calm = true → X'.K = g.K → X'.A.units + 64 < cLine → SortOk X' g) (mets : ∀ x f, (x, f) ∈ t.mets → ∀ (X : Cx) rho, X.K = K → X.mg = mg → MetP X g ⟨t.fuel, rho, t.pg.mets, t.pg.ar⟩ x f) (har : ∀ p ∈ t.pg.ar, ∃ x, (x, p.1, p.2) ∈ t.fns) (mfn : ∀ x f, (x, f) ∈ t.mets → mg x = some (.ref (g.fa f)) ∧ ∃ o, K.lookup (g.fa f) = some o ∧ o.cls = .type "function")
    (d : DefP t K mg base g x f np N ps args body scope lam) : FnP P W K mg base g (callF t.pg t.fuel (n + 1)) t.kws (kk (n + 1)) x f np := by
  obtain ⟨fd, _, _, _, _, h1, h2, h3⟩ := fn_okD hK ih hc hg srt mets har mfn d
  exact ⟨d.hm, d.kp, d.fo, fd, ps, d.len, h1, h2, h3⟩
/-- all defs, at every depth of calls -/
theorem fn_all {P : Program} {W : World} {K : PySem.W.Frag} {mg : Str → Option Value} {base : Heap} {g : Gl} {t : Tb} (hK : K = g.K)
    (hc : ∀ x c, (x, c) ∈ t.cls → ∃ qn fI, PySem.ErrT.ErrTTxt K mg x qn (g.ca c) fI) (hg : ∀ x, x ∈ t.glb → mg x = none)
    (srt : ∀ X' : Cx, X'.calm = true → X'.K = g.K → X'.A.units + 64 < cLine → SortOk X' g) (mets : ∀ x f, (x, f) ∈ t.mets → ∀ (X : Cx) rho, X.K = K → X.mg = mg → MetP X g ⟨t.fuel, rho, t.pg.mets, t.pg.ar⟩ x f) (har : ∀ p ∈ t.pg.ar, ∃ x, (x, p.1, p.2) ∈ t.fns) (mfn : ∀ x f, (x, f) ∈ t.mets → mg x = some (.ref (g.fa f)) ∧ ∃ o, K.lookup (g.fa f) = some o ∧ o.cls = .type "function")
    (ds : ∀ e ∈ t.fns, ∃ N ps args body scope lam, DefP t K mg base g e.1 e.2.1 e.2.2 N ps args body scope lam) : ∀ (n : Nat) x f m, (x, f, m) ∈ t.fns → FnP P W K mg base g (callF t.pg t.fuel n) t.kws (kk n) x f m
  | 0, x, f, m, h => by
    obtain ⟨N, ps, args, body, scope, lam, d⟩ := ds _ h
    obtain ⟨oc, od, dV, kV, doc, pm, an, cdv, ct, osl, lk, hcd, bd, hkw, hlam⟩ := d.lk
    exact ⟨d.hm, d.kp, d.fo, _, ps, d.len, fn_zero d.len, bd, hkw⟩
  | n + 1, x, f, m, h => by
    obtain ⟨N, ps, args, body, scope, lam, d⟩ := ds _ h
    exact fn_succ hK (fn_all hK hc hg srt mets har mfn ds n) hc hg srt mets har mfn d
end Ev
end
section
set_option linter.all false
set_option maxRecDepth 100000
set_option maxHeartbeats 4000000
/-! HeadF: what the top leaves, by names. -/
namespace Hf
open PySem PySem.Spec PyProof.Rows L2 LamX Ev
/-- what is asked of a program's top -/
structure Hs where
  fn : List He.DefD
  fa : List He.Fa
  defs : List Str
  cls : List Str
  all : List Str
  hit : List Nat
  lam : List Str
def fnB (K : PySem.W.Frag) (x : Str) : Bool := match K.lookup (He.ga K x) with
  | some o => (match o.cls with
    | .type n => n == "function"
    | _ => false)
  | none => false
theorem fnB_ok {K : PySem.W.Frag} {x : Str} (h : fnB K x = true) : ∃ o, K.lookup (He.ga K x) = some o ∧ o.cls = .type "function" := by
  unfold fnB at h
  cases e : K.lookup (He.ga K x) with
  | none => rw [e] at h; cases h
  | some o =>
    rw [e] at h
    refine ⟨o, rfl, ?_⟩
    cases q : o.cls with
    | type n =>
      simp only [q] at h
      rw [beq_iff_eq.mp h]
    | _ => simp only [q] at h; cases h
/-! ### own errors -/
def isEO (K : PySem.W.Frag) (C : Addr) : Bool := match K.lookup C with
  | some ⟨.type "type", _, .cls cd, sl⟩ => (match cd.mro, sl.toList with
    | .ref C' :: bm, [_, _, _, _, some (.builtin n), _] => C' == C && n == "ValueError.__new__" && !cd.hasDel && cd.hasDict && PySem.HandSPX.refsVE bm
    | _, _ => false)
  | _ => false
theorem isEO_ok {K : PySem.W.Frag} {C : Addr} (q : isEO K C = true) : ∃ nm qn N bs bm sn sub ab col dd k0 k1 k2 k3 k5, K.lookup C = some (excClassObj nm qn C N bs bm true sn sub ab col dd k0 k1 k2 k3 k5 "ValueError.__new__") ∧ PySem.HandSPX.refsVE bm = true := by
  unfold isEO at q
  split at q
  · rename_i dd cd sl ho
    split at q
    · rename_i C' bm k0 k1 k2 k3 n k5 hm hs
      simp only [Bool.and_eq_true, beq_iff_eq, Bool.not_eq_true'] at q
      obtain ⟨⟨⟨⟨rfl, rfl⟩, hdel⟩, hdd⟩, ht⟩ := q
      obtain ⟨nm, bs, mro, ns, qn, hd, sn, sub, ab, col, del⟩ := cd
      dsimp only at hm hdel hdd
      subst hm hdel hdd
      have hsl : sl = #[k0, k1, k2, k3, some (.builtin "ValueError.__new__"), k5] := by
        obtain ⟨l⟩ := sl
        simp only at hs
        rw [hs]
      subst hsl
      exact ⟨nm, qn, ns, bs, bm, sn, sub, ab, col, dd, k0, k1, k2, k3, k5, ho, ht⟩
    · cases q
  · cases q
def fI (K : PySem.W.Frag) (x : Str) : Addr := He.ma K (He.ga K x) "__init__"
def kwN (K : PySem.W.Frag) (a : Addr) : Bool := match K.lookup a with
  | some ⟨_, _, .func fd, _⟩ => (match fd.kwdefaults with
    | .none => true
    | _ => false)
  | _ => false
theorem kwN_ok {K : PySem.W.Frag} {a : Addr} {oc : Value} {od : Option Addr} {fd : FuncData} {osl : Array (Option Value)} (h : kwN K a = true) (e : K.lookup a = some ⟨oc, od, .func fd, osl⟩) : fd.kwdefaults = .none := by
  unfold kwN at h
  rw [e] at h
  simp only at h
  cases q : fd.kwdefaults with
  | none => rfl
  | _ => simp only [q] at h; cases h
def errB (K : PySem.W.Frag) (x : Str) : Bool := kwN K (fI K x) && isEO K (He.ga K x) && He.eqO (PySem.W.findIn K (.ref (He.ga K x)) "__setattr__") (some (some (.builtin "object.__setattr__"))) &&
  He.eqO (PySem.W.findIn K (.ref (He.ga K x)) "__getattribute__") (some (some (.builtin "BaseException.__getattribute__"))) && He.eqO (PySem.W.findIn K (.ref (He.ga K x)) "__getattr__") (some none) &&
  He.eqO (PySem.W.findIn K (.ref (He.ga K x)) "thing") (some none) && He.eqO (PySem.W.findIn K (.ref (He.ga K x)) "__init__") (some (some (.ref (fI K x)))) && decide (PySem.W.typeIn K (.ref (fI K x)) = some (.type "function")) &&
  PySem.W.keepIn K (.ref (He.ga K x)) && decide (PySem.W.subIn K (.ref (He.ga K x)) (.type "BaseException") = some true) && decide (PySem.W.typeIn K (.ref (He.ga K x)) = some (.type "type")) &&
  PySem.W.hasDictIn K (He.ga K x) && decide (PySem.W.exmOne K (.ref (He.ga K x)) (.ref (He.ga K x)) = some true)
/-- the index of a class: its address -/
def caOf (K : PySem.W.Frag) (all : List Str) (c : Nat) : Addr := He.ga K (all.getD c (Str.ofString "RoundError"))
def exB (K : PySem.W.Frag) (all : List Str) (hit : List Nat) : Bool := (List.range (all.length + 1)).all fun c => hit.all fun y => decide (y < all.length) && decide (PySem.W.exmOne K (.ref (caOf K all c)) (.ref (caOf K all y)) = some (y == c))
theorem exB_ok {K : PySem.W.Frag} {all : List Str} {hit : List Nat} (h : exB K all hit = true) (c : Nat) : ∀ y ∈ hit, PySem.W.exmOne K (.ref (caOf K all c)) (.ref (caOf K all y)) = some (y == c) := fun y hy => by
  have key : ∀ c, c < all.length + 1 → y < all.length ∧ PySem.W.exmOne K (.ref (caOf K all c)) (.ref (caOf K all y)) = some (y == c) := fun c hc => by
    have z := List.all_eq_true.mp (List.all_eq_true.mp h c (List.mem_range.mpr hc)) y hy
    rw [Bool.and_eq_true, decide_eq_true_eq, decide_eq_true_eq] at z
    exact z
  by_cases hc : c < all.length + 1
  · exact (key c hc).2
  · obtain ⟨k1, k2⟩ := key all.length (by omega)
    have e1 : caOf K all c = caOf K all all.length := by
      unfold caOf
      rw [List.getD_eq_getElem?_getD, List.getD_eq_getElem?_getD, List.getElem?_eq_none (by omega), List.getElem?_eq_none (Nat.le_refl _)]
    have e2 : (y == c) = (y == all.length) := by
      rw [beq_eq_false_iff_ne.mpr (by omega), beq_eq_false_iff_ne.mpr (by omega)]
    rw [e1, e2]
    exact k2
/-! ### tables of code objects -/
def codeOf (K : PySem.W.Frag) (x : Str) : Addr := match K.lookup (He.ga K x) with
  | some ⟨_, _, .func fd, _⟩ => (match fd.code with
    | .ref c => c
    | _ => 0)
  | _ => 0
def tabOf (K : PySem.W.Frag) (x : Str) : Addr := match K.lookup (codeOf K x) with
  | some ⟨_, _, .fields vs, _⟩ => (match (vs[11]? : Option Value) with
    | some (.ref P) => P
    | _ => 0)
  | _ => 0
def isTab : Option Obj → Bool
  | some ⟨.none, none, .fields vs, sl⟩ => vs.toList.isEmpty && sl.toList.isEmpty
  | _ => false
theorem isTab_ok {o : Option Obj} (h : isTab o = true) : o = some { cls := .none, data := .fields #[] } := by
  unfold isTab at h
  split at h
  · rename_i vs sl
    rw [Bool.and_eq_true, List.isEmpty_iff, List.isEmpty_iff] at h
    obtain ⟨v⟩ := vs
    obtain ⟨l⟩ := sl
    obtain ⟨h1, h2⟩ := h
    have h1 : v = [] := h1
    have h2 : l = [] := h2
    subst h1 h2
    rfl
  · cases h
def lamB (K : PySem.W.Frag) (g : Addr → Option Obj) (x : Str) : Bool := (match K.lookup (He.ga K x) with
  | some ⟨_, _, .func fd, _⟩ => (match fd.code with
    | .ref c => c == codeOf K x
    | _ => false)
  | _ => false) && PySem.W.codeHdIn K (codeOf K x) (tabOf K x) && (K.lookup (tabOf K x)).isNone && isTab (g (tabOf K x))
theorem lamB_code {K : PySem.W.Frag} {x : Str} {oc : Value} {od : Option Addr} {fd : FuncData} {osl : Array (Option Value)} (h : (match K.lookup (He.ga K x) with
  | some ⟨_, _, .func fd, _⟩ => (match fd.code with
    | .ref c => c == codeOf K x
    | _ => false)
  | _ => false) = true) (e : K.lookup (He.ga K x) = some ⟨oc, od, .func fd, osl⟩) : fd.code = .ref (codeOf K x) := by
  rw [e] at h
  simp only at h
  cases q : fd.code with
  | ref c =>
    simp only [q] at h
    rw [beq_iff_eq.mp h]
  | _ => simp only [q] at h; cases h
/-! ### the Hook -/
abbrev Al : Type := Bool × List He.FnW
def okB (S : Hs) (K : PySem.W.Frag) (g : Addr → Option Obj) : Bool := (S.fa.all fun f => f.ok K) && (S.fn.all fun d => d.ok K) && (S.defs.all fun x => fnB K x) && (S.cls.all fun x => errB K x) && exB K S.all S.hit && (S.lam.all fun x => lamB K g x) && decide ((S.lam.map (tabOf K)).Nodup)
def obsK (S : Hs) (K : PySem.W.Frag) (g : Addr → Option Obj) : Al := (okB S K g, S.fn.map fun d => He.fnW K d.at_)
def valS (S : Hs) : Al := (true, S.fn.map He.DefD.val)
/-- what the module reaches but tables -/
def frT (n : Nat) (g : Addr → Option Obj) : PySem.W.Frag := He.frG g ((He.asD g n).filter fun a => !isTab (g a))
def obsG (n : Nat) (S : Hs) (g : Addr → Option Obj) : Al := obsK S (frT n g) g
def Says (S : Hs) (K : PySem.W.Frag) (h : Heap) : Prop := obsK S K h.get? = valS S
def hook (n : Nat) (S : Hs) : PySem.W.Hook where
  α := Al
  obs := fun s => obsG n S s.heap.get?
  val := fun _ => valS S
  says := fun _ h => ∃ (K : PySem.W.Frag) (h0 : Heap), K.In h ∧ (∀ b o, h0.get? b = some o → h.get? b = some o) ∧ Says S K h0
  of := fun _ s e => ⟨_, s.heap, He.frG_in, fun _ _ e => e, e⟩
  keeps := fun _ _ _ ⟨K, h0, hK, k0, c⟩ k => ⟨K, h0, PySem.W.Frag.In.keeps hK k, fun b o e => k b o (k0 b o e), c⟩
theorem obsG_eq {n : Nat} {S : Hs} {g : Addr → Option Obj} {s : Shared} (h : ∀ a, g a = s.heap.get? a) : obsG n S g = (hook n S).obs s := by
  have e : g = s.heap.get? := funext h
  rw [e] <;> rfl
section
variable {S : Hs} {K : PySem.W.Frag} {h0 : Heap}
theorem ok7 {a b c d e f g : Bool} (h : (a && b && c && d && e && f && g) = true) : a = true ∧ b = true ∧ c = true ∧ d = true ∧ e = true ∧ f = true ∧ g = true := by
  simp only [Bool.and_eq_true] at h
  obtain ⟨⟨⟨⟨⟨⟨h1, h2⟩, h3⟩, h4⟩, h5⟩, h6⟩, h7⟩ := h
  exact ⟨h1, h2, h3, h4, h5, h6, h7⟩
theorem Says.b (c : Says S K h0) : okB S K h0.get? = true := congrArg (fun z : Al => z.1) c
theorem Says.fact (c : Says S K h0) (i : Nat) {f : He.Fa} (h : S.fa[i]? = some f := by rfl) : f.ok K = true := List.all_eq_true.mp (ok7 c.b).1 f (List.mem_of_getElem? h)
theorem Says.def_ (c : Says S K h0) (i : Nat) {d : He.DefD} (h : S.fn[i]? = some d := by rfl) : ∃ fd, FunD K d.name d.qual d.params d.body d.scope (d.dvs K) (d.kws K) (He.fAd K d.at_) fd := by
  have e : S.fn.map (fun d => He.fnW K d.at_) = S.fn.map He.DefD.val := congrArg (fun z : Al => z.2) c
  have e2 : (S.fn.map fun d => He.fnW K d.at_)[i]? = (S.fn.map He.DefD.val)[i]? := by rw [e]
  rw [List.getElem?_map, List.getElem?_map, h] at e2
  exact He.DefD.funD (Option.some.inj e2) (List.all_eq_true.mp (ok7 c.b).2.1 d (List.mem_of_getElem? h))
theorem Says.isFn (c : Says S K h0) {x : Str} (h : x ∈ S.defs) : ∃ o, K.lookup (He.ga K x) = some o ∧ o.cls = .type "function" := fnB_ok (List.all_eq_true.mp (ok7 c.b).2.2.1 x h)
theorem Says.err (c : Says S K h0) {x : Str} (h : x ∈ S.cls) : errB K x = true := List.all_eq_true.mp (ok7 c.b).2.2.2.1 x h
theorem Says.ex (c : Says S K h0) : exB K S.all S.hit = true := (ok7 c.b).2.2.2.2.1
theorem Says.lamb (c : Says S K h0) {x : Str} (h : x ∈ S.lam) : lamB K h0.get? x = true := List.all_eq_true.mp (ok7 c.b).2.2.2.2.2.1 x h
theorem Says.nd (c : Says S K h0) : (S.lam.map (tabOf K)).Nodup := of_decide_eq_true (ok7 c.b).2.2.2.2.2.2
/-- an own error's text -/
theorem Says.errT (c : Says S K h0) {h : Heap} {mg : Str → Option Value} (X : K.In h) (G : h.Ns mainGlobals mg) {x qn : Str} (hx : x ∈ S.cls) (i j : Nat) {d : He.DefD} (hd : S.fn[i]? = some d) (hf : S.fa[j]? = some (.glo x)) (hat : d.at_ = (x, some (Str.ofString "__init__"))) (hdf : d.dfl = []) (hkw : d.kwd = []) (hn : d.name = "__init__") (hq : d.qual = qn)
    (hp : ∃ p1 p2, d.params = PySem.ErrT.iA p1 p2) (hb : ∃ q1 q2 q3 q4, d.body = PySem.ErrT.iB q1 q2 q3 q4) (hs : d.scope = PySem.ErrT.iS) : PySem.ErrT.ErrTTxt K mg x qn (He.ga K x) (fI K x) := by
  have e := c.err hx
  unfold errB at e
  simp only [Bool.and_eq_true, decide_eq_true_eq] at e
  obtain ⟨⟨⟨⟨⟨⟨⟨⟨⟨⟨⟨⟨e0, e1⟩, e2⟩, e3⟩, e4⟩, e5⟩, e6⟩, e7⟩, e8⟩, e9⟩, e10⟩, e11⟩, e12⟩ := e
  obtain ⟨fd, F⟩ := c.def_ i hd
  refine ⟨He.glo_ok X G (c.fact j hf), isEO_ok e1, He.eqO_ok e2, He.eqO_ok e3, He.eqO_ok e4, He.eqO_ok e5, He.eqO_ok e6, e7, e8, e9, e10, e11, e12, ?_⟩
  obtain ⟨oc, od, dV, kV, doc, pm, an, cdv, ct, osl, rfl, lk, hcd, hD, hK⟩ := F.ex
  obtain ⟨p1, p2, hp⟩ := hp
  obtain ⟨q1, q2, q3, q4, hb⟩ := hb
  have hdv : d.dvs K = [] := by unfold He.DefD.dvs; rw [hdf]; rfl
  rw [hdv] at hD
  rcases hD with ⟨_, rfl⟩ | ⟨z, _⟩
  rotate_left
  · exact absurd rfl z
  have hfa : He.fAd K d.at_ = fI K x := by rw [hat]; rfl
  rw [hfa] at lk
  have hkv := kwN_ok e0 lk
  rw [hn, hq, hp, hb, hs] at lk
  rw [hq] at hcd
  have hkv : kV = .none := hkv
  subst hkv
  exact ⟨oc, od, doc, pm, an, cdv, ct, osl, p1, p2, q1, q2, q3, q4, lk, hcd⟩
/-- the i-th lambda maker's place in the tables -/
def lamQ (x : Str) : Str := (x ++ (Str.ofString ".<locals>.")) ++ "<lambda>"
def tabsOf (K : PySem.W.Frag) (S : Hs) : List (Addr × Str) := S.lam.map fun x => (tabOf K x, lamQ x)
def csOf (K : PySem.W.Frag) (S : Hs) : List (Addr × Addr) := S.lam.map fun x => (codeOf K x, tabOf K x)
theorem nodup_map {α β : Type} {f : α → β} : ∀ {l : List α}, (l.map f).Nodup → ∀ x ∈ l, ∀ y ∈ l, f x = f y → x = y
  | [], _, _, h, _, _, _ => by cases h
  | a :: l, h, x, hx, y, hy, e => by
    rw [List.map_cons, List.nodup_cons] at h
    rcases List.mem_cons.mp hx with z1 | z1
    · rcases List.mem_cons.mp hy with z2 | z2
      · rw [z1, z2]
      · exact absurd (show f a ∈ l.map f from List.mem_map.mpr ⟨y, z2, by rw [← e, z1]⟩) h.1
    · rcases List.mem_cons.mp hy with z2 | z2
      · exact absurd (show f a ∈ l.map f from List.mem_map.mpr ⟨x, z1, by rw [e, z2]⟩) h.1
      · exact nodup_map h.2 x z1 y z2 e
/-- a def keeps its promise -/
theorem Says.defP (c : Says S K h0) {h : Heap} {mg : Str → Option Value} {base : Heap} (X : K.In h) (G : h.Ns mainGlobals mg) {t : Tb} {g : Ev.Gl} {x : Str} {f np : Nat} {N ps : List Str} {lam : Bool} (i j : Nat) {d : He.DefD} (hd : S.fn[i]? = some d) (hj : S.fa[j]? = some (.glo x))
    (hat : d.at_ = (x, none)) (hdf : d.dfl = []) (hkw : d.kwd = []) (hn : d.name = x) (hq : d.qual = x) (hx : x ∈ S.defs) (hfa : g.fa f = He.ga K x) (hT : g.tabs = tabsOf K S) (hC : ∀ p ∈ csOf K S, TabB base mg p.1 p.2)
    (h1 : ∃ fn, t.pg.fns[f]? = some fn ∧ fn.np = np ∧ fn.ns = N.length ∧ ckSs (t.ck N d.scope lam) fn.body d.body = true) (hl : ps.length = np) (sc : FnScope N ps d.scope)
    (hb : ∀ (kV doc pm : Value) (an : Option Addr) (cdv ct : Value) (us : List Value), us.length = ps.length → bindArgs (PySem.W.fnOf x x d.params d.body d.scope .none kV doc pm an cdv ct) ⟨us, []⟩ = pure (ps.zip us))
    (hkb : ∀ ks pl, (x, ks, pl) ∈ t.kws → pl.length = np → ∀ (kV doc pm : Value) (an : Option Addr) (cdv ct : Value) (us : List Value), us.length = ks.length → bindArgs (PySem.W.fnOf x x d.params d.body d.scope .none kV doc pm an cdv ct) ⟨[], ks.zip us⟩ = pure (ps.zip (pmU pl us)))
    (hlam : lam = true → x ∈ S.lam) : DefP t K mg base g x f np N ps d.params d.body d.scope lam := by
  obtain ⟨fd, F⟩ := c.def_ i hd
  have kp := F.kp
  obtain ⟨oc, od, dV, kV, doc, pm, an, cdv, ct, osl, rfl, lk, hcd, hD, hK⟩ := F.ex
  have hdv : d.dvs K = [] := by unfold He.DefD.dvs; rw [hdf]; rfl
  rw [hdv] at hD
  rcases hD with ⟨_, rfl⟩ | ⟨z, _⟩
  rotate_left
  · exact absurd rfl z
  have hA : He.fAd K d.at_ = He.ga K x := by rw [hat]; rfl
  rw [hA] at lk kp
  rw [hn, hq] at lk
  rw [hq] at hcd
  rw [← hfa] at lk kp
  refine ⟨h1, hl, by rw [hfa]; exact He.glo_ok X G (c.fact j hj), kp, sc, by rw [hfa]; exact c.isFn hx, oc, od, .none, kV, doc, pm, an, cdv, ct, osl, lk, hcd, Binds.all (hb kV doc pm an cdv ct), fun ks pl hm hpl s us _ hlen => BindsTo.of_eq (hkb ks pl hm hpl kV doc pm an cdv ct us hlen), fun hla => ?_⟩
  have hxl := hlam hla
  have lb := c.lamb hxl
  unfold lamB at lb
  simp only [Bool.and_eq_true] at lb
  obtain ⟨⟨⟨b1, b2⟩, b3⟩, b4⟩ := lb
  rw [hfa] at lk
  have hc := lamB_code b1 lk
  have hc : cdv = .ref (codeOf K x) := hc
  refine ⟨codeOf K x, tabOf K x, hC _ (List.mem_map.mpr ⟨x, hxl, rfl⟩), hc, fun A => ⟨?_, fun p hp e => ?_⟩⟩
  · rw [hT]
    exact List.mem_map.mpr ⟨x, hxl, rfl⟩
  · rw [hT] at hp
    obtain ⟨y, hy, rfl⟩ := List.mem_map.mp hp
    have := nodup_map c.nd y hy x hxl e
    subst this
    rfl
/-! ### the def that meets errors -/
def ckH (sg : Scope) : ExceptHandler → Str × Option Str → Bool
  | .ExceptHandler (some (.Name x _)) (some n) (b0 :: bd) _, (y, ow) => decide (x = y) && decide (n = ("e" : Str)) && decide (sg.names.lookup x = some .globalImplicit) && !decide (x = ("__debug__" : Str)) && (match ow with
    | none => true
    | some w => (match b0, bd with
      | .Return (some (.Tuple [.Constant (.str w') _ _, .Attribute (.Name e _) f _] _ _)) _, [] => decide (w = w') && decide (e = ("e" : Str)) && decide (f = ("thing" : Str))
      | _, _ => false))
  | _, _ => false
def ckHs (sg : Scope) : List ExceptHandler → List (Str × Option Str) → Bool
  | [], [] => true
  | h :: hs, p :: ps => ckH sg h p && ckHs sg hs ps
  | _, _ => false
def ckM (sg : Scope) (a word : Str) (l : List (Str × Option Str)) : List Stmt → Bool
  | [.Try [.Return (some (.Tuple [.Constant (.str w) _ _, .Call (.Name a' _) [] [] _] _ _)) _] (h0 :: hds) [] [] _] => decide (w = word) && decide (a' = a) && ckHs sg (h0 :: hds) l
  | _ => false
theorem ckH_ok {mg : Str → Option Value} {sg : Scope} {hd : ExceptHandler} {p : Str × Option Str} {hds : List ExceptHandler} {l : List (Addr × Option Str)} {C : Addr} (h : ckH sg hd p = true) (hm : mg p.1 = some (.ref C))
    (hT : p.2 ≠ none → ∃ cx qn fI, PySem.ErrT.ErrTTxt K mg cx qn C fI) (r : MetH K mg sg hds l) : MetH K mg sg (hd :: hds) ((C, p.2) :: l) := by
  obtain ⟨y, ow⟩ := p
  unfold ckH at h
  split at h
  · rename_i x p1 n b0 bd p7 heq
    obtain ⟨rfl, rfl⟩ := Prod.mk.inj heq
    simp only [Bool.and_eq_true, decide_eq_true_eq, Bool.not_eq_true', decide_eq_false_iff_not] at h
    obtain ⟨⟨⟨⟨rfl, rfl⟩, h3⟩, h4⟩, h5⟩ := h
    cases ow with
    | none => exact .never h3 (by simpa using h4) hm r
    | some w =>
      simp only at h5
      split at h5
      · simp only [Bool.and_eq_true, decide_eq_true_eq] at h5
        obtain ⟨⟨rfl, rfl⟩, rfl⟩ := h5
        obtain ⟨cx, qn, fI, T⟩ := hT (by simp)
        exact .cons h3 (by simpa using h4) hm T r
      · cases h5
  · cases h
theorem ckHs_ok {mg : Str → Option Value} {sg : Scope} {A : Str → Addr} : ∀ {hds : List ExceptHandler} {l : List (Str × Option Str)}, ckHs sg hds l = true → (∀ p ∈ l, mg p.1 = some (.ref (A p.1)) ∧ (p.2 ≠ none → ∃ cx qn fI, PySem.ErrT.ErrTTxt K mg cx qn (A p.1) fI)) → MetH K mg sg hds (l.map fun p => (A p.1, p.2))
  | [], [], _, _ => .nil
  | [], _ :: _, h, _ => by cases h
  | _ :: _, [], h, _ => by cases h
  | hd :: hds, p :: ps, h, hp => by
    have h : (ckH sg hd p && ckHs sg hds ps) = true := h
    rw [Bool.and_eq_true] at h
    obtain ⟨k1, k2⟩ := hp p List.mem_cons_self
    exact ckH_ok h.1 k1 k2 (ckHs_ok h.2 fun q hq => hp q (List.mem_cons_of_mem _ hq))
theorem Says.metP (c : Says S K h0) {h : Heap} {mg : Str → Option Value} (X : K.In h) (G : h.Ns mainGlobals mg) {g : Ev.Gl} {C : Cf} {x a : Str} {f : Nat} {Ng : List Str} {m : Met} {l : List (Str × Option Str)} (i j : Nat) {d : He.DefD} (hd : S.fn[i]? = some d) (hj : S.fa[j]? = some (.glo x))
    (hat : d.at_ = (x, none)) (hdf : d.dfl = []) (hn : d.name = x) (hq : d.qual = x) (hfa : g.fa f = He.ga K x) (hca : ∀ n, g.ca n = caOf K S.all n) (hm : C.mets f = some m) (hhit : ∀ p ∈ m.hs, p.1 ∈ S.hit)
    (hml : m.hs.map (fun p => (S.all.getD p.1 (Str.ofString "RoundError"), if p.2.2 = 0 then some p.2.1 else none)) = l)
    (hcl : ∀ p ∈ l, mg p.1 = some (.ref (He.ga K p.1)) ∧ (p.2 ≠ none → ∃ cx qn fI, PySem.ErrT.ErrTTxt K mg cx qn (He.ga K p.1) fI))
    (sc : FnScope Ng [a] d.scope) (h0' : Ng[0]? = some a) (h1 : Ng[1]? = some ("e" : Str)) (hN2 : Ng.length = 2) (he : d.scope.names.lookup ("e" : Str) = some .local) (ha : d.scope.names.lookup a = some .local) (ha1 : (a == ("__debug__" : Str)) = false) (ha2 : (a == ("__classdict__" : Str)) = false)
    (hb : ∀ (kV doc pm : Value) (an : Option Addr) (cdv ct : Value) (us : List Value), us.length = [a].length → bindArgs (PySem.W.fnOf x x d.params d.body d.scope .none kV doc pm an cdv ct) ⟨us, []⟩ = pure ([a].zip us))
    (hck : ckM d.scope a m.word l d.body = true) (X0 : Cx) (hXK : X0.K = K) (hXm : X0.mg = mg) : MetP X0 g C x f := by
  obtain ⟨fd, F⟩ := c.def_ i hd
  have kp := F.kp
  obtain ⟨oc, od, dV, kV, doc, pm, an, cdv, ct, osl, rfl, lk, hcd, hD, hK⟩ := F.ex
  have hdv : d.dvs K = [] := by unfold He.DefD.dvs; rw [hdf]; rfl
  rw [hdv] at hD
  rcases hD with ⟨_, rfl⟩ | ⟨z, _⟩
  rotate_left
  · exact absurd rfl z
  have hA : He.fAd K d.at_ = He.ga K x := by rw [hat]; rfl
  rw [hA] at lk kp
  rw [hn, hq] at lk
  rw [hq] at hcd
  rw [← hfa] at lk kp
  subst hXK hXm
  refine ⟨m, a, d.params, d.body, d.scope, .none, kV, doc, pm, cdv, ct, oc, an, od, osl, Ng, hm, fun n p hp => ?_, by rw [hfa]; exact He.glo_ok X G (c.fact j hj), kp, lk, hcd, Binds.all (hb kV doc pm an cdv ct), sc, h0', .inl ha, ha1, ha2, fun X' e1 e2 q => ?_⟩
  · rw [hca, hca]
    exact exB_ok c.ex n p.1 (hhit p hp)
  · have hl : m.hs.map (hw g) = l.map fun p => (He.ga X0.K p.1, p.2) := by
      rw [← hml, List.map_map]
      refine List.map_congr_left fun p hp => ?_
      show (g.ca p.1, _) = (He.ga X0.K (S.all.getD p.1 (Str.ofString "RoundError")), _)
      rw [hca]
      rfl
    have hs : ∀ f : Addr, (L2.start Ng [V.ref f])[0]? = some (some (V.ref f)) := fun f => rfl
    have hl' : ∀ f : Addr, 1 < (L2.start Ng [V.ref f]).length := fun f => by
      show 1 < ([V.ref f].map some ++ List.replicate (Ng.length - [V.ref f].length) none).length
      rw [hN2]
      exact Nat.lt_succ_self 1
    rw [hl]
    unfold ckM at hck
    split at hck
    · rename_i w j1 p1 a' p2 p3 k1 p4 p5 h0 hds p6 heq
      simp only [Bool.and_eq_true, decide_eq_true_eq] at hck
      obtain ⟨⟨rfl, rfl⟩, hh⟩ := hck
      rw [heq]
      have mh := ckHs_ok (K := X0.K) (mg := X0.mg) (A := He.ga X0.K) hh hcl
      rw [← e1, ← e2] at mh
      rw [← e1]
      exact met_gives sc.nd h1 he mh hs hl'
    · cases hck
end
/-! ### the end -/
/-- the law's first call -/
theorem start_ok {S : Hs} {K : PySem.W.Frag} {g : Ev.Gl} {rho : Rho} {f : Nat} {H : Hp} {a : Addr} {ns : List Int} (hK : g.K = K) (hT : g.tabs = tabsOf K S) (hH : ∀ p ∈ csOf K S, H p.2 = some (.tbl #[])) (hS : SqL K H a (ns.map V.int))
    (hp : ∃ sh', rho f [.ro (ns.map .int)] [] = .ok (.fr (.bl true)) sh') : spF g rho f 1 [.ref a] H (fun v _ => v = .bl true) fun _ _ _ => False := by
  obtain ⟨sh', e⟩ := hp
  classical
  let F : Hp := fun b => if b = a ∧ ∀ ps, H a ≠ some (.tbl ps) then H b else none
  have hF : ∀ b u, F b = some u → H b = some u ∧ b = a ∧ ∀ ps, H a ≠ some (.tbl ps) := fun b u e => by
    have e : (if b = a ∧ ∀ ps, H a ≠ some (.tbl ps) then H b else none) = some u := e
    by_cases h : b = a ∧ ∀ ps, H a ≠ some (.tbl ps)
    · rw [if_pos h] at e
      exact ⟨e, h⟩
    · rw [if_neg h] at e
      cases e
  have intsR : ∀ l : List Int, Reps g ⟨F, []⟩ (l.map D.int) (l.map V.int) := fun l => by
    induction l with
    | nil => exact .nil
    | cons i l ih => exact .cons .int ih
  refine ⟨rfl, ⟨F, []⟩, [], [.ro (ns.map .int)], ⟨fun b u e => (hF b u e).1, fun b ps e => ?_, fun p hp => ?_, rfl, List.nodup_nil, fun k b d e => by cases k <;> cases e⟩, .cons (.ro ?_ (intsR ns)) .nil, ?_⟩
  · obtain ⟨h1, h2, h3⟩ := hF b _ e
    rw [h2] at h1
    exact h3 ps h1
  · rw [hT] at hp
    obtain ⟨x, hx, rfl⟩ := List.mem_map.mp hp
    exact TabS.nil (hH (codeOf K x, tabOf K x) (List.mem_map.mpr ⟨x, hx, rfl⟩))
  · rw [hK]
    rcases hS with h | h
    · refine .inl ?_
      rcases h with h | ⟨o, h⟩
      · refine .inl ?_
        show (if a = a ∧ ∀ ps, H a ≠ some (.tbl ps) then H a else none) = _
        rw [if_pos ⟨rfl, fun ps z => by rw [z] at h; cases h⟩]
        exact h
      · refine .inr ⟨o, ?_⟩
        show (if a = a ∧ ∀ ps, H a ≠ some (.tbl ps) then H a else none) = _
        rw [if_pos ⟨rfl, fun ps z => by rw [z] at h; cases h⟩]
        exact h
    · exact .inr h
  · rw [e]
    intro w' H' v _ _ rf
    cases rf with
    | fr q => cases q; rfl
theorem cx_no {P : Program} {w : World} (H : Hp) (s : Shared) (e : Value) (s' : Shared) : L2.CX P w [] H s (fun _ _ _ => False) e s' → False := fun ⟨_, _, _, _, _, _, _, _, _, _, _, _, z⟩ => z
theorem walk_ofTE {l : PySem.W.OpenLaw} {n k : Nat} {q : Program} {loose : List Str} {XP : (Str → Option Value) → Heap → Prop} {YP : World → Heap → Prop} {d : DefRec} {CX : World → CXT} {x : Str}
    (hn : l.most = some n) (hn2 : n ≤ sizeLine) (hdf : d.params.defaults = []) (hr : Room k callerA)
    (F : ∀ (w : World) (mg : Str → Option Value) (fa : Addr) (h : Heap), YP w h → h.Ns mainGlobals mg → mg d.name = some (.ref fa) → ∃ K, K.In h ∧ LawAtS l w K (CX w) k n x mg fa h)
    (hCX : ∀ (w : World) (H : Hp) (s : Shared) (e : Value) (s' : Shared), CX w [] H s (fun _ _ _ => False) e s' → False) :
    PySem.W.WalkO q loose XP YP l.row.toRowW d [] (fun f vs => PySem.call f vs) := by
  refine Att.attach_callB hn hdf fun w s₀ s₁ mg mb fa o pm cd doc a vs ns G Y ho hd hcd hmg hobj hints hlen hbits hg => ?_
  obtain ⟨K, KX, fd, cs, sp, hT, nT, C, hb, hsp, hF⟩ := F w mg fa _ Y G.T.g hmg
  exact law_callTs KX G.T.g G.T.b G.T.builtins G.T.nolimit hg hT nT C G.T.bmain hobj hints (Nat.le_trans hlen hn2) hr hF hb (fun H hH hS => hsp H a ns hlen hbits hH hS) fun H e s' => hCX w H s₁ e s'
/-- all about the program and its plain law: the law's promise -/
theorem law_at {S : Hs} {l : PySem.W.OpenLaw} {w : World} {K : PySem.W.Frag} {h h0 : Heap} {mg : Str → Option Value} {fa : Addr} {t : Tb} {g : Ev.Gl} {x f : Nat} {sc : Str} {j : Nat} {N : List Str} {args : Arguments} {body : List Stmt} {scope : Scope} {lam : Bool}
    (X : K.In h) (G : h.Ns mainGlobals mg) (k0 : ∀ b o, h0.get? b = some o → h.get? b = some o) (c : Says S K h0) (hK : g.K = K) (hT : g.tabs = tabsOf K S) (hfa : mg ("law" : Str) = some (.ref fa))
    (hcl : ∀ y i, (y, i) ∈ t.cls → ∃ qn fI, PySem.ErrT.ErrTTxt K mg y qn (g.ca i) fI) (hg : ∀ y, y ∈ t.glb → mg y = none) (mets : ∀ y i, (y, i) ∈ t.mets → ∀ (X : Cx) rho, X.K = K → X.mg = mg → MetP X g ⟨t.fuel, rho, t.pg.mets, t.pg.ar⟩ y i) (har : ∀ p ∈ t.pg.ar, ∃ y, (y, p.1, p.2) ∈ t.fns) (mfn : ∀ y i, (y, i) ∈ t.mets → mg y = some (.ref (g.fa i)) ∧ ∃ o, K.lookup (g.fa i) = some o ∧ o.cls = .type "function")
    (ds : ∀ base : Heap, (∀ p ∈ csOf K S, TabB base mg p.1 p.2) → (∀ e ∈ t.fns, ∃ N ps args body scope lam, DefP t K mg base g e.1 e.2.1 e.2.2 N ps args body scope lam) ∧ DefP t K mg base g "law" f 1 N [sc] args body scope lam)
    (i : Nat) {d : He.DefD} (hd : S.fn[i]? = some d) (hj : S.fa[j]? = some (.glo ("law" : Str))) (hat : d.at_ = (("law" : Str), none)) (hdf : d.dfl = []) (hn : d.name = "law") (hgf : g.fa f = He.ga K ("law" : Str))
    (hb : ∀ (kV doc pm : Value) (an : Option Addr) (cdv ct : Value) (us : List Value), us.length = 1 → bindArgs (PySem.W.fnOf d.name d.qual d.params d.body d.scope .none kV doc pm an cdv ct) ⟨us, []⟩ = pure ([sc].zip us))
    (plain : ∀ ns : List Int, ns.length ≤ 63 → (∀ z ∈ ns, Builtin.Int.intBits z ≤ 1048576) → ∃ sh', callF t.pg t.fuel (x + 1) f [.ro (ns.map .int)] [] = .ok (.fr (.bl true)) sh') :
    LawAtS l w K (L2.CX l.prog w) (kk (x + 1)) 63 sc mg fa h := by
  obtain ⟨fd, F⟩ := c.def_ i hd
  have hga : He.ga K ("law" : Str) = fa := by
    have e := He.glo_ok X G (c.fact j hj)
    rw [hfa] at e
    cases e
    rfl
  have lk0 : ∃ oc od osl, K.lookup fa = some ⟨oc, od, .func fd, osl⟩ := by
    obtain ⟨oc, od, dV, kV, doc, pm, an, cdv, ct, osl, rfl, lk, _⟩ := F.ex
    have hA : He.fAd K d.at_ = fa := by rw [hat, ← hga]; rfl
    rw [hA] at lk
    exact ⟨oc, od, osl, lk⟩
  have lamx : ∀ p ∈ csOf K S, ∃ y ∈ S.lam, p = (codeOf K y, tabOf K y) := fun p hp => by
    obtain ⟨y, hy, e⟩ := List.mem_map.mp hp
    exact ⟨y, hy, e.symm⟩
  refine ⟨fd, csOf K S, spF g (callF t.pg t.fuel (x + 1)) f 1, fun p hp => ?_, fun p hp => ?_, fun p hp => ?_, fun s v => ?_, fun H a ns hl hbits hH hS => start_ok hK hT hH hS (plain ns hl hbits), fun base KB GB TB => ?_⟩
  · obtain ⟨y, hy, rfl⟩ := lamx p hp
    have lb := c.lamb hy
    unfold lamB at lb
    simp only [Bool.and_eq_true] at lb
    exact k0 _ _ (isTab_ok lb.2)
  · obtain ⟨y, hy, rfl⟩ := lamx p hp
    have lb := c.lamb hy
    unfold lamB at lb
    simp only [Bool.and_eq_true] at lb
    exact Option.isNone_iff_eq_none.mp lb.1.2
  · obtain ⟨y, hy, rfl⟩ := lamx p hp
    have lb := c.lamb hy
    unfold lamB at lb
    simp only [Bool.and_eq_true] at lb
    exact PySem.W.codeHd_of_K X lb.1.1.2
  · have hdv : d.dvs K = [] := by unfold He.DefD.dvs; rw [hdf]; rfl
    rw [hdv] at F
    exact FunD.bindsA (ps := [sc]) F (fun kV doc pm an cdv ct us hl => hb kV doc pm an cdv ct us hl) s [v] rfl
  · obtain ⟨d1, d2⟩ := ds base TB
    have srt : ∀ X' : Cx, X'.calm = true → X'.K = g.K → X'.A.units + 64 < cLine → SortOk X' g := fun X' _ e _ => sort_ok e
    obtain ⟨fd', oc, od, osl, lk, ok, _⟩ := fn_okD (P := l.prog) (W := w) (n := x) hK.symm (fn_all hK.symm hcl hg srt mets har mfn d1 x) hcl hg srt mets har mfn d2
    obtain ⟨oc', od', osl', lk'⟩ := lk0
    rw [hgf, hga] at lk ok
    rw [lk'] at lk
    have e : fd = fd' := by
      have := Option.some.inj lk
      injection this with _ _ h3 _
      injection h3
    rw [e]
    exact ok
end Hf
end
section
set_option linter.all false
set_option maxRecDepth 100000
namespace Pg
open Ev
/-- thing -/
def i_is_list : Fn := ⟨1, 1, .cons (.ret (.isi (.var 0) [.ty "list", .ty "tuple"]))
  (.nil)⟩
/-- thing -/
def i_is_integer : Fn := ⟨1, 1, .cons (.ret (.and (.isi (.var 0) [.ty "int"]) (.one (.not (.of (.isi (.var 0) [.ty "bool"]))))))
  (.nil)⟩
/-- thing one -/
def i_are_integers : Fn := ⟨1, 2, .cons (.ret (.and (.call 0 (.cons (.var 0) (.nil)) []) (.one (.bcl .all (.cons (.of (.lc (.call 1 (.cons (.var 1) (.nil)) []) (.nm 1) (.seq (.var 0) true) (.nil) [1])) (.nil))))))
  (.nil)⟩
/-- thing -/
def i_checked_matrix : Fn := ⟨1, 1, .cons (.iff (.or (.not (.of (.of (.call 2 (.cons (.var 0) (.nil)) [])))) (.one (.cmp .NotEq (.of (.bcl .len (.cons (.var 0) (.nil)))) (.of (.cst (.int 4)))))) (.cons (.rse 4 (.cons (.var 0) (.nil)))
  (.nil)) (.nil))
  (.cons (.ret (.bcl .tuple (.cons (.var 0) (.nil))))
  (.nil))⟩
/-- one other first second third fourth mine more less last upper -/
def i_times_of : Fn := ⟨2, 11, .cons (.asg (.tp [.nm 2, .nm 3, .nm 4, .nm 5]) (.var 0))
  (.cons (.asg (.tp [.nm 6, .nm 7, .nm 8, .nm 9]) (.var 1))
  (.cons (.asg (.nm 10) (.tup (.cons (.bin .Add (.of (.bin .Mult (.var 2) (.var 6))) (.of (.bin .Mult (.var 3) (.var 8)))) (.cons (.bin .Add (.of (.bin .Mult (.var 2) (.var 7))) (.of (.bin .Mult (.var 3) (.var 9)))) (.nil)))))
  (.cons (.ret (.tup (.star (.var 10) (.cons (.bin .Add (.of (.bin .Mult (.var 4) (.var 6))) (.of (.bin .Mult (.var 5) (.var 8)))) (.cons (.bin .Add (.of (.bin .Mult (.var 4) (.var 7))) (.of (.bin .Mult (.var 5) (.var 9)))) (.nil))))))
  (.nil))))⟩
/-- numbers found number -/
def i_product_of : Fn := ⟨1, 3, .cons (.asg (.nm 1) (.tup (.cons (.cst (.int 1)) (.cons (.cst (.int 0)) (.cons (.cst (.int 0)) (.cons (.cst (.int 1)) (.nil)))))))
  (.cons (.for (.nm 2) (.seq (.var 0) false) (.cons (.asg (.nm 1) (.call 4 (.cons (.var 1) (.cons (.tup (.cons (.var 2) (.cons (.neg (.of (.cst (.int 1)))) (.cons (.cst (.int 1)) (.cons (.cst (.int 0)) (.nil)))))) (.nil))) []))
  (.nil)))
  (.cons (.retv 1)
  (.nil)))⟩
/-- thing -/
def i_is_road : Fn := ⟨1, 1, .cons (.ret (.and (.call 2 (.cons (.var 0) (.nil)) []) (.one (.cmp .Gt (.of (.bcl .len (.cons (.var 0) (.nil)))) (.of (.cst (.int 0)))))))
  (.nil)⟩
/-- road -/
def i_checked_road : Fn := ⟨1, 1, .cons (.iff (.not (.of (.of (.call 6 (.cons (.var 0) (.nil)) [])))) (.cons (.rse 7 (.cons (.var 0) (.nil)))
  (.nil)) (.nil))
  (.cons (.ret (.bcl .list (.cons (.var 0) (.nil))))
  (.nil))⟩
/-- road -/
def i_worth_of : Fn := ⟨1, 1, .cons (.ret (.call 4 (.cons (.call 5 (.cons (.slc (.var 0) (.no) (.so (.of (.neg (.of (.cst (.int 1))))))) (.nil)) []) (.cons (.tup (.cons (.cst (.int 1)) (.cons (.idx (.var 0) (.of (.neg (.of (.cst (.int 1)))))) (.cons (.cst (.int 0)) (.cons (.cst (.int 1)) (.nil)))))) (.nil))) []))
  (.nil)⟩
/-- road -/
def i_worth : Fn := ⟨1, 1, .cons (.ret (.call 8 (.cons (.call 7 (.cons (.var 0) (.nil)) []) (.nil)) []))
  (.nil)⟩
/-- matrix found here number -/
def i_reduced_to : Fn := ⟨1, 4, .cons (.par [1, 2] (.cons (.lst (.nil)) (.cons (.var 0) (.nil))))
  (.cons (.whl (.cmp .NotEq (.of (.idx (.var 2) (.of (.cst (.int 2))))) (.of (.cst (.int 0)))) (.cons (.asg (.nm 3) (.bin .Sub (.of (.cst (.int 0))) (.of (.bin .FloorDiv (.of (.bin .Sub (.of (.cst (.int 0))) (.of (.idx (.var 2) (.of (.cst (.int 0))))))) (.of (.idx (.var 2) (.of (.cst (.int 2)))))))))
  (.cons (.exp (.app (.var 1) (.var 3)))
  (.cons (.asg (.nm 2) (.call 4 (.cons (.tup (.cons (.cst (.int 0)) (.cons (.cst (.int 1)) (.cons (.neg (.of (.cst (.int 1)))) (.cons (.var 3) (.nil)))))) (.cons (.var 2) (.nil))) []))
  (.nil)))))
  (.cons (.ret (.lst (.star (.var 1) (.cons (.bin .Mult (.of (.idx (.var 2) (.of (.cst (.int 1))))) (.of (.idx (.var 2) (.of (.cst (.int 0)))))) (.nil)))))
  (.nil)))⟩
/-- matrix known road -/
def i_road_of : Fn := ⟨1, 3, .cons (.asg (.nm 1) (.call 3 (.cons (.var 0) (.nil)) []))
  (.cons (.iff (.cmp .NotEq (.of (.bin .Sub (.of (.bin .Mult (.of (.idx (.var 1) (.of (.cst (.int 0))))) (.of (.idx (.var 1) (.of (.cst (.int 3))))))) (.of (.bin .Mult (.of (.idx (.var 1) (.of (.cst (.int 1))))) (.of (.idx (.var 1) (.of (.cst (.int 2))))))))) (.of (.cst (.int 1)))) (.cons (.rse 4 (.cons (.var 0) (.nil)))
  (.nil)) (.nil))
  (.cons (.asg (.nm 2) (.share (.call 10 (.cons (.var 1) (.nil)) [])))
  (.cons (.ret (.tup (.cons (.ife (.cmp .Eq (.of (.call 8 (.cons (.var 2) (.nil)) [])) (.var 1)) (.cst (.int 1)) (.neg (.of (.cst (.int 1))))) (.cons (.var 2) (.nil)))))
  (.nil))))⟩
/-- one other found row at -/
def i__law_r_times : Fn := ⟨2, 5, .cons (.asg (.nm 2) (.lst (.nil)))
  (.cons (.for (.nm 3) (.seq (.of (.tup (.cons (.slc (.var 0) (.no) (.so (.of (.cst (.int 2))))) (.cons (.slc (.var 0) (.so (.of (.cst (.int 2)))) (.no)) (.nil))))) false) (.cons (.exp (.mth .extend (.var 2) (.cons (.of (.lc (.bin .Add (.of (.bin .Mult (.of (.idx (.var 3) (.of (.cst (.int 0))))) (.of (.idx (.var 1) (.var 4))))) (.of (.bin .Mult (.of (.idx (.var 3) (.of (.cst (.int 1))))) (.of (.idx (.var 1) (.of (.bin .Add (.var 4) (.of (.cst (.int 2)))))))))) (.nm 4) (.seq (.of (.tup (.cons (.cst (.int 0)) (.cons (.cst (.int 1)) (.nil))))) false) (.nil) [4])) (.nil))))
  (.nil)))
  (.cons (.ret (.bcl .tuple (.cons (.var 2) (.nil))))
  (.nil)))⟩
/-- numbers found number -/
def i__law_r_product : Fn := ⟨1, 3, .cons (.asg (.nm 1) (.tup (.cons (.cst (.int 1)) (.cons (.cst (.int 0)) (.cons (.cst (.int 0)) (.cons (.cst (.int 1)) (.nil)))))))
  (.cons (.for (.nm 2) (.seq (.var 0) false) (.cons (.asg (.nm 1) (.call 12 (.cons (.var 1) (.cons (.tup (.cons (.var 2) (.cons (.bin .Sub (.of (.cst (.int 0))) (.of (.cst (.int 1)))) (.cons (.cst (.int 1)) (.cons (.cst (.int 0)) (.nil)))))) (.nil))) []))
  (.nil)))
  (.cons (.retv 1)
  (.nil)))⟩
/-- road -/
def i__law_r_worth : Fn := ⟨1, 1, .cons (.ret (.call 12 (.cons (.call 13 (.cons (.slc (.var 0) (.no) (.so (.of (.neg (.of (.cst (.int 1))))))) (.nil)) []) (.cons (.tup (.cons (.cst (.int 1)) (.cons (.idx (.var 0) (.of (.neg (.of (.cst (.int 1)))))) (.cons (.cst (.int 0)) (.cons (.cst (.int 1)) (.nil)))))) (.nil))) []))
  (.nil)⟩
/-- query e -/
def i__law_c_met : Fn := ⟨1, 2, .cons .nev .nil⟩
/-- matrix found here number -/
def i__law_c_reduced : Fn := ⟨1, 4, .cons (.par [1, 2] (.cons (.lst (.nil)) (.cons (.var 0) (.nil))))
  (.cons (.whl (.cmp .NotEq (.of (.idx (.var 2) (.of (.cst (.int 2))))) (.of (.cst (.int 0)))) (.cons (.asg (.nm 3) (.bin .Sub (.of (.cst (.int 0))) (.of (.bcl .int (.cons (.of (.bin .FloorDiv (.of (.bin .Sub (.of (.cst (.int 0))) (.of (.idx (.var 2) (.of (.cst (.int 0))))))) (.of (.idx (.var 2) (.of (.cst (.int 2))))))) (.nil))))))
  (.cons (.exp (.app (.var 1) (.var 3)))
  (.cons (.asg (.nm 2) (.call 12 (.cons (.tup (.cons (.cst (.int 0)) (.cons (.cst (.int 1)) (.cons (.bin .Sub (.of (.cst (.int 0))) (.of (.cst (.int 1)))) (.cons (.var 3) (.nil)))))) (.cons (.var 2) (.nil))) []))
  (.nil)))))
  (.cons (.ret (.bin .Add (.var 1) (.of (.lst (.cons (.bin .Mult (.of (.idx (.var 2) (.of (.cst (.int 0))))) (.of (.idx (.var 2) (.of (.cst (.int 1)))))) (.nil))))))
  (.nil)))⟩
/-- stream size top many k -/
def i__law_c_road : Fn := ⟨3, 5, .cons (.asg (.nm 3) (.bin .Add (.of (.cst (.int 1))) (.of (.call 20 (.cons (.var 0) (.cons (.var 1) (.nil))) []))))
  (.cons (.iff (.cmp .Eq (.of (.call 20 (.cons (.var 0) (.cons (.cst (.int 3)) (.nil))) [])) (.of (.cst (.int 0)))) (.cons (.ret (.lc (.bin .Add (.of (.cst (.int 2))) (.of (.call 20 (.cons (.var 0) (.cons (.cst (.int 3)) (.nil))) []))) (.nm 4) (.rng1 (.var 3)) (.nil) [4]))
  (.nil)) (.nil))
  (.cons (.ret (.lc (.bin .Sub (.of (.call 20 (.cons (.var 0) (.cons (.bin .Add (.of (.bin .Mult (.of (.cst (.int 2))) (.var 2))) (.of (.cst (.int 1)))) (.nil))) [])) (.var 2)) (.nm 4) (.rng1 (.var 3)) (.nil) [4]))
  (.nil)))⟩
/--  -/
def i__law_c_odd_roads : Fn := ⟨0, 0, .cons (.ret (.lst (.cons (.cst .non) (.cons (.cst (.int 5)) (.cons (.cst (.str "ab")) (.cons (.cst (.bl true)) (.cons (.dsp (.nil) (.nil)) (.cons (.lst (.nil)) (.cons (.lst (.cons (.cst (.str "1")) (.nil))) (.cons (.lst (.cons (.cst .non) (.nil))) (.cons (.lst (.cons (.cst (.int 1)) (.cons (.cst (.bl true)) (.nil)))) (.cons (.lst (.cons (.lst (.cons (.cst (.int 1)) (.nil))) (.nil))) (.cons (.cst (.fn 15)) (.nil))))))))))))))
  (.nil)⟩
/-- script -/
def i__law_start : Fn := ⟨1, 1, .cons (.ret (.share (.lst (.cons (.share (.bcl .list (.cons (.var 0) (.nil)))) (.cons (.cst (.int 0)) (.cons (.cst (.int 0)) (.cons (.cst (.int 61)) (.nil))))))))
  (.nil)⟩
/-- stream many cell digit mixed -/
def i__law_draw : Fn := ⟨2, 5, .cons (.sto (.var 0) (.of (.cst (.int 2))) (.bin .Add (.of (.idx (.var 0) (.of (.cst (.int 2))))) (.of (.cst (.int 1)))))
  (.cons (.whl (.and (.cmp .Eq (.of (.idx (.var 0) (.of (.cst (.int 1))))) (.of (.cst (.int 0)))) (.one (.cmp .NotEq (.of (.idx (.var 0) (.of (.cst (.int 0))))) (.of (.lst (.nil)))))) (.cons (.asg (.nm 2) (.mth .pop1 (.of (.idx (.var 0) (.of (.cst (.int 0))))) (.cons (.of (.cst (.int 0))) (.nil))))
  (.cons (.sto (.var 0) (.of (.cst (.int 3))) (.bin .Mod (.of (.bcl .int (.cons (.of (.bin .Add (.of (.bin .Add (.of (.bin .Mult (.of (.idx (.var 0) (.of (.cst (.int 3))))) (.of (.cst (.int 69313))))) (.var 2))) (.of (.cst (.int 31))))) (.nil)))) (.of (.cst (.int 2147483647)))))
  (.cons (.sto (.var 0) (.of (.cst (.int 1))) (.ife (.cmp .GtE (.var 2) (.of (.bin .Pow (.of (.cst (.int 10))) (.of (.cst (.int 18)))))) (.var 2) (.cst (.int 0))))
  (.nil)))))
  (.cons (.iff (.cmp .Gt (.of (.idx (.var 0) (.of (.cst (.int 1))))) (.of (.cst (.int 0)))) (.cons (.asg (.nm 3) (.bin .Mod (.of (.bcl .int (.cons (.of (.idx (.var 0) (.of (.cst (.int 1))))) (.nil)))) (.var 1)))
  (.cons (.sto (.var 0) (.of (.cst (.int 1))) (.bin .FloorDiv (.of (.idx (.var 0) (.of (.cst (.int 1))))) (.var 1)))
  (.cons (.retv 3)
  (.nil)))) (.nil))
  (.cons (.asg (.nm 4) (.bin .Mod (.of (.bcl .int (.cons (.of (.bin .Pow (.of (.bin .Add (.of (.bin .Add (.of (.idx (.var 0) (.of (.cst (.int 3))))) (.of (.bin .Mult (.of (.cst (.int 8923))) (.of (.idx (.var 0) (.of (.cst (.int 2))))))))) (.of (.cst (.int 160001))))) (.of (.cst (.int 5))))) (.nil)))) (.of (.cst (.int 2147483629)))))
  (.cons (.ret (.bin .Mod (.of (.bin .Mod (.of (.bcl .int (.cons (.of (.bin .Pow (.of (.bin .Add (.of (.bin .Add (.of (.bin .Mult (.var 4) (.of (.cst (.int 54133))))) (.of (.bin .Mult (.of (.cst (.int 71881))) (.of (.idx (.var 0) (.of (.cst (.int 2))))))))) (.of (.cst (.int 53))))) (.of (.cst (.int 3))))) (.nil)))) (.of (.cst (.int 1000000007))))) (.var 1)))
  (.nil)))))⟩
/-- stream some -/
def i__law_pick : Fn := ⟨2, 2, .cons (.ret (.idx (.var 1) (.of (.call 20 (.cons (.var 0) (.cons (.bcl .len (.cons (.var 1) (.nil))) (.nil))) []))))
  (.nil)⟩
/-- stream some left k -/
def i__law_mixed : Fn := ⟨2, 4, .cons (.asg (.nm 2) (.bcl .list (.cons (.var 1) (.nil))))
  (.cons (.ret (.lc (.mth .pop1 (.var 2) (.cons (.of (.call 20 (.cons (.var 0) (.cons (.bcl .len (.cons (.var 2) (.nil))) (.nil))) [])) (.nil))) (.nm 3) (.rng1 (.of (.bcl .len (.cons (.var 2) (.nil))))) (.nil) [3]))
  (.nil))⟩
/-- thing found key part -/
def i__law_copied : Fn := ⟨1, 4, .cons (.iff (.of (.of (.isi (.var 0) [.ty "dict"]))) (.cons (.ret (.bcl .dict1 (.cons (.of (.lc (.tup (.cons (.var 2) (.cons (.call 23 (.cons (.idx (.var 0) (.var 2)) (.nil)) []) (.nil)))) (.nm 2) (.keys 0) (.nil) [2])) (.nil))))
  (.nil)) (.nil))
  (.cons (.iff (.not (.of (.of (.isi (.var 0) [.ty "list", .ty "tuple"])))) (.cons (.retv 0)
  (.nil)) (.nil))
  (.cons (.asg (.nm 1) (.lc (.call 23 (.cons (.var 3) (.nil)) []) (.nm 3) (.seq (.var 0) true) (.nil) [3]))
  (.cons (.ret (.ife (.of (.of (.isi (.var 0) [.ty "list"]))) (.var 1) (.bcl .tuple (.cons (.var 1) (.nil)))))
  (.nil))))⟩
/-- found due x y -/
def i__law_same : Fn := ⟨2, 4, .cons (.iff (.of (.of (.isi (.var 1) [.ty "list", .ty "tuple"]))) (.cons (.iff (.or (.cmp .NotEq (.of (.isi (.var 0) [.ty "list"])) (.of (.isi (.var 1) [.ty "list"]))) (.one (.cmp .NotEq (.of (.isi (.var 0) [.ty "tuple"])) (.of (.isi (.var 1) [.ty "tuple"]))))) (.cons (.ret (.cst (.bl false)))
  (.nil)) (.nil))
  (.cons (.ret (.and (.cmp .Eq (.of (.bcl .len (.cons (.var 0) (.nil)))) (.of (.bcl .len (.cons (.var 1) (.nil))))) (.one (.bcl .all (.cons (.of (.lc (.call 24 (.cons (.var 2) (.cons (.var 3) (.nil))) []) (.tp [.nm 2, .nm 3]) (.zip (.cons (.var 0) (.cons (.var 1) .nil))) (.nil) [2, 3])) (.nil))))))
  (.nil))) (.nil))
  (.cons (.iff (.of (.of (.isi (.var 1) [.ty "dict"]))) (.cons (.ret (.and (.isi (.var 0) [.ty "dict"]) (.one (.call 24 (.cons (.bcl .litems (.cons (.var 0) (.nil))) (.cons (.bcl .litems (.cons (.var 1) (.nil))) (.nil))) []))))
  (.nil)) (.nil))
  (.cons (.iff (.of (.of (.isi (.var 1) [.ty "int"]))) (.cons (.ret (.and (.isi (.var 0) [.ty "int"]) (.and (.cmp .Eq (.of (.isi (.var 0) [.ty "bool"])) (.of (.isi (.var 1) [.ty "bool"]))) (.one (.cmp .Eq (.var 0) (.var 1))))))
  (.nil)) (.nil))
  (.cons (.iff (.cmp .Is (.var 1) (.of (.cst .non))) (.cons (.ret (.cmp .Is (.var 0) (.of (.cst .non))))
  (.nil)) (.nil))
  (.cons (.iff (.of (.of (.isi (.var 1) [.ty "str"]))) (.cons (.ret (.and (.isi (.var 0) [.ty "str"]) (.one (.cmp .Eq (.var 0) (.var 1)))))
  (.nil)) (.nil))
  (.cons (.ret (.and (.not (.of (.isi (.var 0) [.ty "int", .ty "str", .ty "list", .ty "tuple", .ty "dict"]))) (.one (.cmp .Eq (.var 0) (.var 1)))))
  (.nil))))))⟩
/-- stream thing found key part -/
def i__law_loose : Fn := ⟨2, 5, .cons (.iff (.of (.of (.isi (.var 1) [.ty "dict"]))) (.cons (.ret (.bcl .dict1 (.cons (.of (.lc (.tup (.cons (.var 3) (.cons (.call 25 (.cons (.var 0) (.cons (.idx (.var 1) (.var 3)) (.nil))) []) (.nil)))) (.nm 3) (.seq (.of (.call 22 (.cons (.var 0) (.cons (.bcl .list (.cons (.var 1) (.nil))) (.nil))) [])) false) (.nil) [3])) (.nil))))
  (.nil)) (.nil))
  (.cons (.iff (.not (.of (.of (.isi (.var 1) [.ty "list", .ty "tuple"])))) (.cons (.retv 1)
  (.nil)) (.nil))
  (.cons (.asg (.nm 2) (.lc (.call 25 (.cons (.var 0) (.cons (.var 4) (.nil))) []) (.nm 4) (.seq (.var 1) true) (.nil) [4]))
  (.cons (.ret (.ife (.cmp .Eq (.of (.call 20 (.cons (.var 0) (.cons (.cst (.int 3)) (.nil))) [])) (.of (.cst (.int 0)))) (.var 2) (.bcl .tuple (.cons (.var 2) (.nil)))))
  (.nil))))⟩
/-- thing key part -/
def i__law_spoilt : Fn := ⟨1, 3, .cons (.iff (.of (.of (.isi (.var 0) [.ty "dict"]))) (.cons .nev (.cons .nev (.nil))) (.nil))
  (.cons (.iff (.of (.of (.isi (.var 0) [.ty "list", .ty "tuple"]))) (.cons (.for (.nm 2) (.seq (.var 0) false) (.cons (.exp (.call 26 (.cons (.var 2) (.nil)) []))
  (.nil)))
  (.nil)) (.nil))
  (.cons (.iff (.of (.of (.isi (.var 0) [.ty "list"]))) (.cons (.exp (.app (.var 0) (.cst (.str "late9"))))
  (.nil)) (.nil))
  (.nil)))⟩
/-- thing many key part -/
def i__law_is_once : Fn := ⟨1, 4, .cons (.iff (.of (.of (.isi (.var 0) [.ty "dict"]))) (.cons .nev (.nil)) (.nil))
  (.cons (.iff (.of (.of (.isi (.var 0) [.ty "list", .ty "tuple"]))) (.cons (.asg (.nm 1) (.bcl .int (.cons (.of (.isi (.var 0) [.ty "list"])) (.nil))))
  (.cons (.ret (.and (.cmp .Eq (.of (.mth .count (.of (.bcl .list (.cons (.var 0) (.nil)))) (.cons (.of (.cst (.str "late9"))) (.nil)))) (.var 1)) (.one (.bcl .all (.cons (.of (.lc (.call 27 (.cons (.var 3) (.nil)) []) (.nm 3) (.seq (.var 0) true) (.nil) [3])) (.nil))))))
  (.nil))) (.nil))
  (.cons (.ret (.cst (.bl true)))
  (.nil)))⟩
/-- thing -/
def i__law_apart : Fn := ⟨1, 1, .cons (.exp (.call 26 (.cons (.var 0) (.nil)) []))
  (.cons (.ret (.call 27 (.cons (.var 0) (.nil)) []))
  (.nil))⟩
/-- stream road due passed was found sign matrix own given mine before number -/
def i__law_road_right : Fn := ⟨2, 13, .cons (.par [2, 3] (.cons (.call 14 (.cons (.var 1) (.nil)) []) (.cons (.call 25 (.cons (.var 0) (.cons (.var 1) (.nil))) []) (.nil))))
  (.cons (.par [4, 5] (.cons (.call 23 (.cons (.var 3) (.nil)) []) (.cons (.share (.lst (.cons (.share (.call 9 (.cons (.var 3) (.nil)) [])) (.cons (.share (.call 9 (.cons (.bcl .list (.cons (.var 1) (.nil))) (.nil)) [0])) (.cons (.var 3) (.nil)))))) (.nil))))
  (.cons (.iff (.not (.of (.of (.call 24 (.cons (.var 5) (.cons (.lst (.cons (.var 2) (.cons (.var 2) (.cons (.var 4) (.nil))))) (.nil))) [])))) (.cons (.ret (.cst (.bl false)))
  (.nil)) (.nil))
  (.cons (.for (.nm 6) (.seq (.of (.tup (.cons (.cst (.int 1)) (.cons (.bin .Sub (.of (.cst (.int 0))) (.of (.cst (.int 1)))) (.nil))))) false) (.cons (.asg (.nm 7) (.bcl .tuple (.cons (.of (.lc (.bin .Mult (.var 6) (.var 12)) (.nm 12) (.seq (.var 2) true) (.nil) [12])) (.nil))))
  (.cons (.par [8, 9] (.cons (.call 16 (.cons (.var 7) (.nil)) []) (.cons (.call 25 (.cons (.var 0) (.cons (.var 7) (.nil))) []) (.nil))))
  (.cons (.asg (.nm 10) (.ife (.cmp .Eq (.of (.call 14 (.cons (.var 8) (.nil)) [])) (.var 7)) (.cst (.int 1)) (.bin .Sub (.of (.cst (.int 0))) (.of (.cst (.int 1))))))
  (.cons (.par [11, 5] (.cons (.call 23 (.cons (.var 9) (.nil)) []) (.cons (.share (.lst (.cons (.share (.call 11 (.cons (.var 9) (.nil)) [])) (.cons (.share (.call 11 (.cons (.bcl .list (.cons (.var 7) (.nil))) (.nil)) [0])) (.nil))))) (.nil))))
  (.cons (.iff (.or (.not (.of (.of (.call 24 (.cons (.bin .Add (.var 5) (.of (.lst (.cons (.var 9) (.nil))))) (.cons (.bin .Add (.of (.bin .Mult (.of (.lst (.cons (.tup (.cons (.var 10) (.cons (.var 8) (.nil)))) (.nil)))) (.of (.cst (.int 2))))) (.of (.lst (.cons (.var 11) (.nil))))) (.nil))) [])))) (.one (.not (.of (.of (.call 28 (.cons (.var 5) (.nil)) [])))))) (.cons (.ret (.cst (.bl false)))
  (.nil)) (.nil))
  (.cons (.iff (.of (.of (.bcl .any (.cons (.of (.lc (.cmp .Lt (.var 12) (.of (.cst (.int 2)))) (.nm 12) (.seq (.of (.slc (.var 8) (.so (.of (.cst (.int 1)))) (.so (.of (.neg (.of (.cst (.int 1)))))))) false) (.nil) [12])) (.nil))))) (.cons (.ret (.cst (.bl false)))
  (.nil)) (.nil))
  (.cons (.iff (.cmp .NotEq (.of (.call 14 (.cons (.var 8) (.nil)) [])) (.of (.bcl .tuple (.cons (.of (.lc (.bin .Mult (.var 10) (.var 12)) (.nm 12) (.seq (.var 7) true) (.nil) [12])) (.nil))))) (.cons (.ret (.cst (.bl false)))
  (.nil)) (.nil))
  (.cons (.iff (.and (.of (.of (.bcl .all (.cons (.of (.lc (.cmp .Gt (.var 12) (.of (.cst (.int 1)))) (.nm 12) (.seq (.of (.slc (.var 1) (.so (.of (.cst (.int 1)))) (.so (.of (.neg (.of (.cst (.int 1)))))))) false) (.nil) [12])) (.nil))))) (.one (.cmp .NotEq (.var 8) (.var 1)))) (.cons (.ret (.cst (.bl false)))
  (.nil)) (.nil))
  (.nil))))))))))
  (.cons (.ret (.cst (.bl true)))
  (.nil)))))⟩
/-- stream here k by -/
def i__law_matrix : Fn := ⟨1, 4, .cons (.asg (.nm 1) (.tup (.cons (.cst (.int 1)) (.cons (.cst (.int 0)) (.cons (.cst (.int 0)) (.cons (.cst (.int 1)) (.nil)))))))
  (.cons (.for (.nm 2) (.rng1 (.of (.call 20 (.cons (.var 0) (.cons (.cst (.int 7)) (.nil))) []))) (.cons (.asg (.nm 3) (.bin .Sub (.of (.call 20 (.cons (.var 0) (.cons (.cst (.int 7)) (.nil))) [])) (.of (.cst (.int 3)))))
  (.cons (.asg (.nm 1) (.call 12 (.cons (.var 1) (.cons (.call 21 (.cons (.var 0) (.cons (.lst (.cons (.tup (.cons (.cst (.int 1)) (.cons (.var 3) (.cons (.cst (.int 0)) (.cons (.cst (.int 1)) (.nil)))))) (.cons (.tup (.cons (.cst (.int 1)) (.cons (.cst (.int 0)) (.cons (.var 3) (.cons (.cst (.int 1)) (.nil)))))) (.cons (.tup (.cons (.cst (.int 0)) (.cons (.bin .Sub (.of (.cst (.int 0))) (.of (.cst (.int 1)))) (.cons (.cst (.int 1)) (.cons (.cst (.int 0)) (.nil)))))) (.nil))))) (.nil))) []) (.nil))) []))
  (.nil))))
  (.cons (.retv 1)
  (.nil)))⟩
/-- stream matrix sign road number -/
def i__law_matrix_right : Fn := ⟨2, 5, .cons (.asg (.tp [.nm 2, .nm 3]) (.call 11 (.cons (.call 25 (.cons (.var 0) (.cons (.var 1) (.nil))) []) (.nil)) []))
  (.cons (.iff (.or (.not (.of (.of (.isi (.var 3) [.ty "list"])))) (.or (.cmp .NotIn (.var 2) (.of (.tup (.cons (.cst (.int 1)) (.cons (.bin .Sub (.of (.cst (.int 0))) (.of (.cst (.int 1)))) (.nil)))))) (.one (.of (.of (.bcl .any (.cons (.of (.lc (.cmp .Lt (.var 4) (.of (.cst (.int 2)))) (.nm 4) (.seq (.of (.slc (.var 3) (.so (.of (.cst (.int 1)))) (.so (.of (.neg (.of (.cst (.int 1)))))))) false) (.nil) [4])) (.nil)))))))) (.cons (.ret (.cst (.bl false)))
  (.nil)) (.nil))
  (.cons (.iff (.or (.cmp .NotEq (.of (.bcl .tuple (.cons (.of (.lc (.bin .Mult (.var 2) (.var 4)) (.nm 4) (.seq (.of (.call 14 (.cons (.var 3) (.nil)) [])) false) (.nil) [4])) (.nil)))) (.var 1)) (.one (.cmp .NotEq (.var 3) (.of (.call 16 (.cons (.var 1) (.nil)) []))))) (.cons (.ret (.cst (.bl false)))
  (.nil)) (.nil))
  (.cons (.ret (.call 24 (.cons (.call 9 (.cons (.bcl .list (.cons (.var 3) (.nil))) (.nil)) []) (.cons (.bcl .tuple (.cons (.of (.lc (.bin .Mult (.var 2) (.var 4)) (.nm 4) (.seq (.var 1) true) (.nil) [4])) (.nil))) (.nil))) []))
  (.nil))))⟩
/-- stream odd odds held other found -/
def i__law_refused_right : Fn := ⟨1, 6, .cons (.for (.nm 1) (.seq (.of (.call 18 (.nil) [])) false) (.cons (.iff (.not (.of (.of (.call 24 (.cons (.met 15 (.call 9 (.cons (.call 23 (.cons (.var 1) (.nil)) []) (.nil)) []) [1]) (.cons (.tup (.cons (.cst (.str "road")) (.cons (.var 1) (.nil)))) (.nil))) [])))) (.cons (.ret (.cst (.bl false)))
  (.nil)) (.nil))
  (.nil)))
  (.cons (.asg (.nm 2) (.lst (.cons (.cst .non) (.cons (.cst (.int 5)) (.cons (.cst (.str "abcd")) (.cons (.cst (.bl true)) (.cons (.dsp (.nil) (.nil)) (.cons (.lst (.nil)) (.cons (.lst (.cons (.cst (.int 1)) (.cons (.cst (.int 0)) (.cons (.cst (.int 0)) (.nil))))) (.cons (.tup (.cons (.cst (.int 1)) (.cons (.cst (.int 0)) (.cons (.cst (.int 0)) (.cons (.cst (.int 1)) (.cons (.cst (.int 0)) (.nil))))))) (.cons (.tup (.cons (.cst (.int 1)) (.cons (.cst (.int 0)) (.cons (.cst (.int 0)) (.cons (.cst (.str "1")) (.nil)))))) (.cons (.tup (.cons (.cst (.int 1)) (.cons (.cst (.int 0)) (.cons (.cst (.int 0)) (.cons (.cst (.bl true)) (.nil)))))) (.cons (.tup (.cons (.cst (.int 2)) (.cons (.cst (.int 0)) (.cons (.cst (.int 0)) (.cons (.cst (.int 1)) (.nil)))))) (.nil))))))))))))))
  (.cons (.exp (.mth .extend (.var 2) (.cons (.of (.lst (.cons (.tup (.cons (.cst (.int 0)) (.cons (.cst (.int 0)) (.cons (.cst (.int 0)) (.cons (.cst (.int 0)) (.nil)))))) (.cons (.tup (.cons (.cst (.int 0)) (.cons (.cst (.int 1)) (.cons (.cst (.int 1)) (.cons (.cst (.int 0)) (.nil)))))) (.cons (.tup (.cons (.cst (.int 1)) (.cons (.cst (.int 0)) (.cons (.cst (.int 0)) (.cons (.bin .Sub (.of (.cst (.int 0))) (.of (.cst (.int 1)))) (.nil)))))) (.cons (.tup (.cons (.cst (.int 3)) (.cons (.cst (.int 1)) (.cons (.cst (.int 1)) (.cons (.cst (.int 1)) (.nil)))))) (.nil))))))) (.nil))))
  (.cons (.for (.nm 1) (.seq (.var 2) false) (.cons (.iff (.not (.of (.of (.call 24 (.cons (.met 15 (.call 11 (.cons (.call 23 (.cons (.var 1) (.nil)) []) (.nil)) []) [1]) (.cons (.tup (.cons (.cst (.str "matrix")) (.cons (.var 1) (.nil)))) (.nil))) [])))) (.cons (.ret (.cst (.bl false)))
  (.nil)) (.nil))
  (.nil)))
  (.cons (.asg (.tp [.nm 3, .nm 4]) (.tup (.cons (.share (.lst (.cons (.cst (.str "x")) (.nil)))) (.cons (.share (.lst (.cons (.cst (.str "y")) (.nil)))) (.nil)))))
  (.cons (.asg (.nm 5) (.share (.lst (.cons (.met 15 (.call 9 (.cons (.var 3) (.nil)) []) [3]) (.nil)))))
  (.cons (.exp (.app (.var 5) (.met 15 (.call 11 (.cons (.var 4) (.nil)) []) [4])))
  (.cons (.exp (.app (.var 3) (.cst (.str "late9"))))
  (.cons (.exp (.app (.var 4) (.cst (.str "late9"))))
  (.cons (.ret (.call 24 (.cons (.var 5) (.cons (.lst (.cons (.tup (.cons (.cst (.str "road")) (.cons (.lst (.cons (.cst (.str "x")) (.cons (.cst (.str "late9")) (.nil)))) (.nil)))) (.cons (.tup (.cons (.cst (.str "matrix")) (.cons (.lst (.cons (.cst (.str "y")) (.cons (.cst (.str "late9")) (.nil)))) (.nil)))) (.nil)))) (.nil))) []))
  (.nil))))))))))⟩
/-- script stream turn found due -/
def i_law : Fn := ⟨1, 5, .cons (.asg (.nm 1) (.call 19 (.cons (.var 0) (.nil)) []))
  (.cons (.for (.nm 2) (.rng1 (.of (.cst (.int 14)))) (.cons (.iff (.or (.not (.of (.of (.call 29 (.cons (.var 1) (.cons (.call 17 (.cons (.var 1) (.cons (.cst (.int 8)) (.cons (.cst (.int 4)) (.nil)))) []) (.nil))) [])))) (.one (.not (.of (.of (.call 31 (.cons (.var 1) (.cons (.call 30 (.cons (.var 1) (.nil)) []) (.nil))) [])))))) (.cons (.ret (.cst (.bl false)))
  (.nil)) (.nil))
  (.nil)))
  (.cons (.asg (.nm 3) (.share (.lst (.cons (.call 9 (.cons (.lst (.cons (.cst (.int 2)) (.cons (.cst (.int 4)) (.cons (.cst (.int 1)) (.nil))))) (.nil)) []) (.cons (.call 11 (.cons (.tup (.cons (.cst (.int 7)) (.cons (.cst (.int 5)) (.cons (.cst (.int 4)) (.cons (.cst (.int 3)) (.nil)))))) (.nil)) []) (.cons (.call 9 (.cons (.lst (.cons (.cst (.int 5)) (.nil))) (.nil)) []) (.cons (.call 11 (.cons (.tup (.cons (.bin .Sub (.of (.cst (.int 0))) (.of (.cst (.int 1)))) (.cons (.cst (.int 0)) (.cons (.cst (.int 0)) (.cons (.bin .Sub (.of (.cst (.int 0))) (.of (.cst (.int 1)))) (.nil)))))) (.nil)) []) (.nil))))))))
  (.cons (.exp (.app (.var 3) (.call 11 (.cons (.tup (.cons (.cst (.int 0)) (.cons (.bin .Sub (.of (.cst (.int 0))) (.of (.cst (.int 1)))) (.cons (.cst (.int 1)) (.cons (.cst (.int 0)) (.nil)))))) (.nil)) [])))
  (.cons (.asg (.nm 4) (.lst (.cons (.tup (.cons (.cst (.int 7)) (.cons (.cst (.int 5)) (.cons (.cst (.int 4)) (.cons (.cst (.int 3)) (.nil)))))) (.cons (.tup (.cons (.cst (.int 1)) (.cons (.lst (.cons (.cst (.int 2)) (.cons (.cst (.int 4)) (.cons (.cst (.int 1)) (.nil))))) (.nil)))) (.cons (.tup (.cons (.cst (.int 1)) (.cons (.cst (.int 5)) (.cons (.cst (.int 0)) (.cons (.cst (.int 1)) (.nil)))))) (.cons (.tup (.cons (.bin .Sub (.of (.cst (.int 0))) (.of (.cst (.int 1)))) (.cons (.lst (.cons (.cst (.int 0)) (.nil))) (.nil)))) (.cons (.tup (.cons (.cst (.int 1)) (.cons (.lst (.cons (.cst (.int 0)) (.cons (.cst (.int 0)) (.nil)))) (.nil)))) (.nil))))))))
  (.cons (.ret (.and (.call 32 (.cons (.var 1) (.nil)) []) (.one (.call 24 (.cons (.var 3) (.cons (.var 4) (.nil))) []))))
  (.nil))))))⟩
def fns : List Fn := [i_is_list, i_is_integer, i_are_integers, i_checked_matrix, i_times_of, i_product_of, i_is_road, i_checked_road, i_worth_of, i_worth, i_reduced_to, i_road_of, i__law_r_times, i__law_r_product, i__law_r_worth, i__law_c_met, i__law_c_reduced, i__law_c_road, i__law_c_odd_roads, i__law_start, i__law_draw, i__law_pick, i__law_mixed, i__law_copied, i__law_same, i__law_loose, i__law_spoilt, i__law_is_once, i__law_apart, i__law_road_right, i__law_matrix, i__law_matrix_right, i__law_refused_right, i_law]
def mets : Nat → Option Met
  | 15 => some ⟨"told", [(4, "matrix", 0), (5, "numbers", 0), (1, "corners", 0), (3, "diagonals", 0), (2, "counts", 0), (7, "road", 0), (8, "step", 0), (6, "other", 0)]⟩
  | _ => none
def prg : Prg := ⟨fns, mets, []⟩
end Pg
end
section
set_option linter.all false
set_option maxRecDepth 100000
/-! Run: how evaluations go, construct by construct. -/
namespace Ev
open PySem
theorem callP {P : Prg} {fuel n f : Nat} {ds sh : List D} {fn : Fn} (h : P.fns[f]? = some fn) (hl : ds.length = fn.np) : callF P fuel (n + 1) f ds sh = outFR (exSs ⟨fuel, callF P fuel n, P.mets, P.ar⟩ fn.body ⟨ds.map .fr ++ List.replicate (fn.ns - fn.np) .un, sh⟩) := by
  show (match P.fns[f]? with | some fn => _ | none => _) = _
  rw [h]
  show (if ds.length = fn.np then _ else _) = _
  rw [if_pos hl]
section
variable {sh : List D}
theorem vw_non : vw sh .non = .non := rfl
theorem vw_bl {b : Bool} : vw sh (.bl b) = .bl b := rfl
theorem vw_int {i : Int} : vw sh (.int i) = .int i := rfl
theorem vw_str {x : Str} : vw sh (.str x) = .str x := rfl
theorem vw_fn {i : Nat} : vw sh (.fn i) = .fn i := rfl
theorem vw_tup {xs : List D} : vw sh (.tup xs) = .tup xs := rfl
theorem vw_lst {xs : List D} : vw sh (.lst xs) = .lst xs := rfl
theorem vw_ro {xs : List D} : vw sh (.ro xs) = .ro xs := rfl
theorem vw_dic {ks vs : List D} : vw sh (.dic ks vs) = .dic ks vs := rfl
end
/-- a method that changes its thing -/
theorem mth_mut {C : Cf} {m : MI} {a : B} {es : Bs} {s s1 s2 s3 : S} {x : Op} {xs : List Op} {d d' r : D} {as : List D} (ha : evB C a s = .ok x s1) (hk : kindOk m (cont s1 x) = true) (hes : evBs C es s1 = .ok xs s2) (hi : isMut m = true) (hd : cont s2 x = some d) (has : conts s2 xs = some as) (hm : mutM m d as = some (r, d')) (hp : put s2 x d' = some s3) :
    evE C (.mth m a es) s = .ok (.fr r) s3 := by
  unfold evE
  rw [ha]
  show (if !kindOk m (cont s1 x) then Res.er else _) = _
  rw [hk]
  show ((evBs C es s1).bind _) = _
  rw [hes]
  show (if isMut m then _ else _) = _
  rw [if_pos hi]
  show (match (cont s2 x).bind fun d => (conts s2 xs).bind fun as => mutM m d as with
      | some (r, d) => (match put s2 x d with
        | some s3 => Res.ok (Rv.fr r) s3
        | none => .er)
      | none => .er) = _
  rw [hd, has]
  show (match mutM m d as with
      | some (r, d) => (match put s2 x d with
        | some s3 => Res.ok (Rv.fr r) s3
        | none => .er)
      | none => .er) = _
  rw [hm]
  show (match put s2 x d' with
        | some s3 => Res.ok (Rv.fr r) s3
        | none => .er) = _
  rw [hp]
theorem app_of {C : Cf} {a : B} {e : E} {s s1 s2 s3 : S} {x : Op} {xs ys : List D} {r : Rv} (ha : evB C a s = .ok x s1) (hk : cont s1 x = some (.lst ys)) (he : evE C e s1 = .ok r s2) (hc : cont s2 x = some (.lst xs)) (hz : xs.length < sizeLine) (hp : put s2 x (.lst (xs ++ [r.d])) = some s3) :
    evE C (.app a e) s = .ok (.fr .non) s3 := by
  rw [evE, ha]
  show (if !kindOk .append (cont s1 x) then Res.er else (evE C e s1).bind fun r s2 => match cont s2 x with
    | some (.lst xs) => if xs.length < sizeLine then (match put s2 x (.lst (xs ++ [r.d])) with
      | some s3 => Res.ok (Rv.fr .non) s3
      | none => .er) else .er
    | _ => .er) = _
  rw [hk, he]
  show (match cont s2 x with
    | some (.lst xs) => if xs.length < sizeLine then (match put s2 x (.lst (xs ++ [r.d])) with
      | some s3 => Res.ok (Rv.fr .non) s3
      | none => .er) else .er
    | _ => .er) = _
  rw [hc]
  show (if xs.length < sizeLine then (match put s2 x (.lst (xs ++ [r.d])) with
      | some s3 => Res.ok (Rv.fr .non) s3
      | none => .er) else .er) = _
  rw [if_pos hz, hp]
theorem isi_of {C : Cf} {a : B} {ts : List D} {s s1 : S} {x : Op} {d : D} {c : Bool} (ha : evB C a s = .ok x s1) (hd : cont s1 x = some d) (hc : isTyO d ts = some c) : evE C (.isi a ts) s = .ok (.fr (.bl c)) s1 := by
  rw [evE, ha]
  show ofOpt (((cont s1 x).bind fun d => isTyO d ts).map fun c => Rv.fr (.bl c)) s1 = _
  rw [hd]
  show ofOpt ((isTyO d ts).map fun c => Rv.fr (.bl c)) s1 = _
  rw [hc]
  rfl
theorem bin_of {C : Cf} {op : Operator} {a b : B} {s s1 s2 : S} {x y : Op} {d d' : D} {r : Rv} (ha : evB C a s = .ok x s1) (hb : evB C b s1 = .ok y s2) (hx : cont s2 x = some d) (hy : cont s2 y = some d') (hr : binop op d d' = some r) : evE C (.bin op a b) s = .ok r s2 := by
  rw [evE, ha]
  show ((evB C b s1).bind fun y s2 => ofOpt (cont2 s2 x y (binop op)) s2) = _
  rw [hb]
  show ofOpt (cont2 s2 x y (binop op)) s2 = _
  unfold cont2
  rw [hx]
  show ofOpt ((cont s2 y).bind fun b => binop op d b) s2 = _
  rw [hy]
  show ofOpt (binop op d d') s2 = _
  rw [hr]
  rfl
/-! ### pieces -/
section
variable {C : Cf} {s s1 s2 s3 : S}
theorem ret_of {e : E} {r : Rv} (h : evE C e s = .ok r s1) : exS C (.ret e) s = .rt r s1 := by
  unfold exS
  rw [h]
  rfl
theorem ret_ex {e : E} {c : Nat} {ds : List D} (h : evE C e s = .ex c ds s1) : exS C (.ret e) s = .ex c ds s1 := by
  unfold exS
  rw [h]
  rfl
theorem asg_nm {i : Nat} {e : E} {r : Rv} (h : evE C e s = .ok r s1) : exS C (.asg (.nm i) e) s = .nx (s1.set i r.sl) := by
  unfold exS
  rw [h]
  cases r <;> rfl
theorem asg_ex {t : Tg} {e : E} {c : Nat} {ds : List D} (h : evE C e s = .ex c ds s1) : exS C (.asg t e) s = .ex c ds s1 := by
  unfold exS
  rw [h]
  rfl
theorem asg_tp {t : Tg} {e : E} {r : Rv} (h : evE C e s = .ok r s1) (hb : bindT 9 t r s1 = some s2) : exS C (.asg t e) s = .nx s2 := by
  unfold exS
  rw [h]
  show (match bindT 9 t r s1 with | some s2 => Out.nx s2 | none => .er) = _
  rw [hb]
theorem exp_of {e : E} {r : Rv} (h : evE C e s = .ok r s1) : exS C (.exp e) s = .nx s1 := by
  unfold exS
  rw [h]
  rfl
theorem iff_of {t : T} {a b : Ss} {c : Bool} (h : evT C t s = .ok c s1) : exS C (.iff t a b) s = if c then exSs C a s1 else exSs C b s1 := by
  rw [exS]
  rw [h]
  rfl
theorem iff_t {t : T} {a b : Ss} (h : evT C t s = .ok true s1) : exS C (.iff t a b) s = exSs C a s1 := by
  rw [iff_of h, if_pos rfl]
theorem iff_f {t : T} {a b : Ss} (h : evT C t s = .ok false s1) : exS C (.iff t a b) s = exSs C b s1 := by
  rw [iff_of h, if_neg (by decide)]
theorem rse_of {c : Nat} {es : Es} {ds : List D} (h : evEs C es s = .ok ds s1) : exS C (.rse c es) s = .ex c ds s1 := by
  unfold exS
  rw [h]
  rfl
theorem call_of {f : Nat} {es : Es} {pm : List Nat} {ds : List D} {r : Rv} {sh' : List D} (hs : evEs C es s = .ok ds s1) (hr : C.rho f (permute pm ds) s1.sh = .ok r sh') : evE C (.call f es pm) s = .ok r ⟨s1.env, sh'⟩ := by
  rw [evE]
  rw [hs]
  show ofFR s1 (C.rho f (permute pm ds) s1.sh) = _
  rw [hr]
  rfl
theorem call_ex {f : Nat} {es : Es} {pm : List Nat} {ds : List D} {c : Nat} {xs : List D} {sh' : List D} (hs : evEs C es s = .ok ds s1) (hr : C.rho f (permute pm ds) s1.sh = .ex c xs sh') : evE C (.call f es pm) s = .ex c xs ⟨s1.env, sh'⟩ := by
  rw [evE]
  rw [hs]
  show ofFR s1 (C.rho f (permute pm ds) s1.sh) = _
  rw [hr]
  rfl
theorem T_of {a : B} {x : Op} {d : D} {c : Bool} (h : evB C a s = .ok x s1) (hc : cont s1 x = some d) (ht : truth d = some c) : evT C (.of a) s = .ok c s1 := by
  rw [evT]
  rw [h]
  show ofOpt ((cont s1 x).bind truth) s1 = _
  rw [hc]
  show ofOpt (truth d) s1 = _
  rw [ht]
  rfl
theorem B_of {e : E} {r : Rv} (h : evE C e s = .ok r s1) : evB C (.of e) s = .ok (.v r.d) s1 := by
  rw [evB]
  rw [h]
  rfl
/-- a test of a truth value told -/
theorem T_bl {e : E} {c : Bool} (h : evE C e s = .ok (.fr (.bl c)) s1) : evT C (.of (.of e)) s = .ok c s1 := T_of (B_of h) rfl rfl
theorem T_not {t : T} {c : Bool} (h : evT C t s = .ok c s1) : evT C (.not t) s = .ok (!c) s1 := by
  rw [evT]
  rw [h]
  rfl
theorem T_one {t : T} : evT C (.one t) s = evT C t s := by rw [evT]
theorem T_or_t {t r : T} (h : evT C t s = .ok true s1) : evT C (.or t r) s = .ok true s1 := by
  rw [evT]
  rw [h]
  rfl
theorem T_or_f {t r : T} (h : evT C t s = .ok false s1) : evT C (.or t r) s = evT C r s1 := by
  rw [evT]
  rw [h]
  rfl
theorem T_and_t {t r : T} (h : evT C t s = .ok true s1) : evT C (.and t r) s = evT C r s1 := by
  rw [evT]
  rw [h]
  rfl
theorem T_and_f {t r : T} (h : evT C t s = .ok false s1) : evT C (.and t r) s = .ok false s1 := by
  rw [evT]
  rw [h]
  rfl
theorem T_cmp {op : CmpOp} {a b : B} {x y : Op} {d d' : D} {c : Bool} (ha : evB C a s = .ok x s1) (hb : evB C b s1 = .ok y s2) (hx : cont s2 x = some d) (hy : cont s2 y = some d') (hc : cmpD s2.sh op d d' = some c) : evT C (.cmp op a b) s = .ok c s2 := by
  rw [evT]
  rw [ha]
  show ((evB C b s1).bind _) = _
  rw [hb]
  show ofOpt (cont2 s2 x y (cmpD s2.sh op)) s2 = _
  unfold cont2
  rw [hx]
  show ofOpt ((cont s2 y).bind fun b => cmpD s2.sh op d b) s2 = _
  rw [hy]
  show ofOpt (cmpD s2.sh op d d') s2 = _
  rw [hc]
  rfl
theorem E_cmp {op : CmpOp} {a b : B} {x y : Op} {d d' : D} {c : Bool} (ha : evB C a s = .ok x s1) (hb : evB C b s1 = .ok y s2) (hx : cont s2 x = some d) (hy : cont s2 y = some d') (hc : cmpD s2.sh op d d' = some c) : evE C (.cmp op a b) s = .ok (.fr (.bl c)) s2 := by
  rw [evE]
  rw [ha]
  show ((evB C b s1).bind _) = _
  rw [hb]
  show ofOpt ((cont2 s2 x y (cmpD s2.sh op)).map fun c => Rv.fr (.bl c)) s2 = _
  unfold cont2
  rw [hx]
  show ofOpt (((cont s2 y).bind fun b => cmpD s2.sh op d b).map fun c => Rv.fr (.bl c)) s2 = _
  rw [hy]
  show ofOpt ((cmpD s2.sh op d d').map fun c => Rv.fr (.bl c)) s2 = _
  rw [hc]
  rfl
theorem E_and_t {a r : E} (h : evE C a s = .ok (.fr (.bl true)) s1) : evE C (.and a r) s = evE C r s1 := by
  rw [evE]
  rw [h]
  rfl
theorem E_and_f {a r : E} (h : evE C a s = .ok (.fr (.bl false)) s1) : evE C (.and a r) s = .ok (.fr (.bl false)) s1 := by
  rw [evE]
  rw [h]
  rfl
theorem E_one {a : E} : evE C (.one a) s = evE C a s := by rw [evE]
theorem bcl1 {b : BI} {a : B} {x : Op} {d : D} {r : Rv} (ha : evB C a s = .ok x s1) (hx : cont s1 x = some d) (hr : bcl b [d] = some r) : evE C (.bcl b (.cons a .nil)) s = .ok r s1 := by
  rw [evE, evBs, ha]
  show ((((evBs C .nil s1).bind fun xs s2 => Res.ok (x :: xs) s2)).bind fun xs s1 => ofOpt ((conts s1 xs).bind (bcl b)) s1) = _
  rw [evBs]
  show ofOpt (((cont s1 x).bind fun d => (conts s1 []).map (d :: ·)).bind (bcl b)) s1 = _
  rw [hx]
  show ofOpt (bcl b [d]) s1 = _
  rw [hr]
  rfl
theorem rng1_of {e : B} {x : Op} {j : Int} (ha : evB C e s = .ok x s1) (hc : cont s1 x = some (.int j)) (hr : rngOk j = true) : evIt C (.rng1 e) s = .ok (.xs (rangeD 0 j)) s1 := by
  rw [evIt, ha]
  show (match cont s1 x with
    | some (.int j) => if rngOk j then Res.ok (Wk.xs (rangeD 0 j)) s1 else .er
    | _ => .er) = _
  rw [hc]
  show (if rngOk j then Res.ok (Wk.xs (rangeD 0 j)) s1 else .er) = _
  rw [if_pos hr]
theorem rng2_of {a b : B} {x y : Op} {i j : Int} (ha : evB C a s = .ok x s1) (hb : evB C b s1 = .ok y s2) (hx : cont s2 x = some (.int i)) (hy : cont s2 y = some (.int j)) (hi : rngOk i = true) (hj : rngOk j = true) : evIt C (.rng2 a b) s = .ok (.xs (rangeD i j)) s2 := by
  rw [evIt, ha]
  show ((evB C b s1).bind fun y s2 => match cont s2 x, cont s2 y with
    | some (.int i), some (.int j) => if rngOk i && rngOk j then Res.ok (Wk.xs (rangeD i j)) s2 else .er
    | _, _ => .er) = _
  rw [hb]
  show (match cont s2 x, cont s2 y with
    | some (.int i), some (.int j) => if rngOk i && rngOk j then Res.ok (Wk.xs (rangeD i j)) s2 else .er
    | _, _ => .er) = _
  rw [hx, hy]
  show (if rngOk i && rngOk j then Res.ok (Wk.xs (rangeD i j)) s2 else .er) = _
  rw [if_pos (by rw [hi, hj]; rfl)]
/-- one turn of a for -/
def turnS (C : Cf) (tg : Tg) (b : Ss) (x : D) (s2 : S) : Out := match bindT 9 tg (.fr x) s2 with
  | some s3 => exSs C b s3
  | none => .er
theorem for_xs {tg : Tg} {it : It} {b : Ss} {l : List D} (hi : evIt C it s = .ok (.xs l) s1) : exS C (.for tg it b) s = forL (turnS C tg b) l s1 := by
  rw [exS, hi]
  rfl
theorem for_shl {tg : Tg} {it : It} {b : Ss} {k : Nat} (hi : evIt C it s = .ok (.shl k) s1) : exS C (.for tg it b) s = forS (turnS C tg b) (.shl k) C.fuel 0 s1 := by
  rw [exS, hi]
  rfl
end
/-! ### statements one by one -/
theorem exSs_nx {C : Cf} {st : St} {r : Ss} {s s1 : S} (h : exS C st s = .nx s1) : exSs C (.cons st r) s = exSs C r s1 := by
  show (match exS C st s with | .nx s1 => exSs C r s1 | o => o) = _
  rw [h]
theorem exSs_rt {C : Cf} {st : St} {r : Ss} {s s1 : S} {v : Rv} (h : exS C st s = .rt v s1) : exSs C (.cons st r) s = .rt v s1 := by
  show (match exS C st s with | .nx s1 => exSs C r s1 | o => o) = _
  rw [h]
theorem exSs_ex {C : Cf} {st : St} {r : Ss} {s s1 : S} {c : Nat} {ds : List D} (h : exS C st s = .ex c ds s1) : exSs C (.cons st r) s = .ex c ds s1 := by
  show (match exS C st s with | .nx s1 => exSs C r s1 | o => o) = _
  rw [h]
/-! ### comprehensions -/
theorem compL_ok {f : D → S → Res (Option D)} {I : S → Prop} {o : D → Option D} : ∀ {l acc : List D} {s : S}, I s → (∀ x ∈ l, ∀ s, I s → ∃ s', f x s = .ok (o x) s' ∧ I s') → acc.length + l.length ≤ sizeLine → ∃ s', compL f l acc s = .ok (acc ++ l.filterMap o) s' ∧ I s'
  | [], acc, s, hI, h, hz => ⟨s, by rw [List.filterMap_nil, List.append_nil]; rfl, hI⟩
  | x :: l, acc, s, hI, h, hz => by
    obtain ⟨s1, e, hI1⟩ := h x List.mem_cons_self s hI
    have h' : ∀ y ∈ l, ∀ s, I s → ∃ s', f y s = .ok (o y) s' ∧ I s' := fun y hy => h y (List.mem_cons_of_mem _ hy)
    rw [List.length_cons] at hz
    unfold compL
    rw [e]
    cases q : o x with
    | none =>
      obtain ⟨s2, e2, hI2⟩ := compL_ok (l := l) (acc := acc) hI1 h' (by omega)
      refine ⟨s2, ?_, hI2⟩
      rw [List.filterMap_cons, q]
      exact e2
    | some d =>
      obtain ⟨s2, e2, hI2⟩ := compL_ok (l := l) (acc := acc ++ [d]) hI1 h' (by rw [List.length_append]; simp; omega)
      refine ⟨s2, ?_, hI2⟩
      rw [List.filterMap_cons, q]
      show (if acc.length < sizeLine then compL f l (acc ++ [d]) s1 else .er) = _
      rw [if_pos (by omega), e2, List.append_assoc]
      rfl
theorem compS_ok {f : D → S → Res (Option D)} {I : S → Prop} {o : D → Option D} {wk : Wk} {l : List D} (hl : ∀ s i, I s → live s.sh i wk = some (l[i]?)) (h : ∀ x ∈ l, ∀ s, I s → ∃ s', f x s = .ok (o x) s' ∧ I s') :
    ∀ {n i : Nat} {acc : List D} {s : S}, i ≤ l.length → I s → l.length < n + i → acc.length + l.length ≤ sizeLine + i → ∃ s', compS f wk n i acc s = .ok (acc ++ (l.drop i).filterMap o) s' ∧ I s'
  | 0, i, acc, s, hle, hI, hn, hz => by
    omega
  | n + 1, i, acc, s, hle, hI, hn, hz => by
    unfold compS
    rw [hl s i hI]
    cases q : l[i]? with
    | none =>
      have := List.getElem?_eq_none_iff.mp q
      refine ⟨s, ?_, hI⟩
      rw [List.drop_eq_nil_of_le this, List.filterMap_nil, List.append_nil]
    | some x =>
      obtain ⟨hlt, hx⟩ := List.getElem?_eq_some_iff.mp q
      obtain ⟨s1, e, hI1⟩ := h x (by rw [← hx]; exact List.getElem_mem hlt) s hI
      have ed : l.drop i = x :: l.drop (i + 1) := by rw [List.drop_eq_getElem_cons hlt, hx]
      simp only
      rw [e, ed]
      cases q2 : o x with
      | none =>
        obtain ⟨s2, e2, hI2⟩ := compS_ok hl h (n := n) (i := i + 1) (acc := acc) (by omega) hI1 (by omega) (by omega)
        refine ⟨s2, ?_, hI2⟩
        rw [List.filterMap_cons, q2]
        exact e2
      | some d =>
        obtain ⟨s2, e2, hI2⟩ := compS_ok hl h (n := n) (i := i + 1) (acc := acc ++ [d]) (by omega) hI1 (by omega) (by rw [List.length_append]; simp; omega)
        refine ⟨s2, ?_, hI2⟩
        rw [List.filterMap_cons, q2]
        show (if acc.length < sizeLine then compS f wk n (i + 1) (acc ++ [d]) s1 else .er) = _
        rw [if_pos (by omega), e2, List.append_assoc]
        rfl
theorem compL_cons {f : D → S → Res (Option D)} {x d : D} {l acc : List D} {s s1 : S} (h : f x s = .ok (some d) s1) (hz : acc.length < sizeLine) : compL f (x :: l) acc s = compL f l (acc ++ [d]) s1 := by
  rw [compL, h]
  show (if acc.length < sizeLine then compL f l (acc ++ [d]) s1 else .er) = _
  rw [if_pos hz]
/-- one turn of a comprehension -/
def turn (C : Cf) (elt : E) (tg : Tg) (ifs : Ts) (own : List Nat) (x : D) (s2 : S) : Res (Option D) := match bindT 9 tg (.fr x) ⟨wipeE own s2.env, s2.sh⟩ with
  | some s3 => (evTs C ifs s3).bind fun c s4 => if c then (evE C elt s4).bind fun r s5 => .ok (some r.d) s5 else .ok none s4
  | none => .er
theorem lc_eq {C : Cf} {elt : E} {tg : Tg} {it : It} {ifs : Ts} {own : List Nat} {s : S} : evE C (.lc elt tg it ifs own) s = (evIt C it s).bind fun wk s1 => (noEx (runWk C.fuel wk (turn C elt tg ifs (wk.own own)) s1)).bind fun ds s6 => .ok (.ow (.lst ds)) ⟨restore s1.env (wk.own own) s6.env, s6.sh⟩ := by
  rfl
/-- a comprehension over these items -/
theorem lc_xs {C : Cf} {elt : E} {tg : Tg} {it : It} {ifs : Ts} {own : List Nat} {s s1 : S} {l : List D} {I : S → Prop} {o : D → Option D} (hi : evIt C it s = .ok (.xs l) s1) (hI : I s1) (h : ∀ x ∈ l, ∀ s, I s → ∃ s', turn C elt tg ifs own x s = .ok (o x) s' ∧ I s') (hz : l.length ≤ sizeLine) :
    ∃ s6, I s6 ∧ evE C (.lc elt tg it ifs own) s = .ok (.ow (.lst (l.filterMap o))) ⟨restore s1.env own s6.env, s6.sh⟩ := by
  obtain ⟨s6, e, hI6⟩ := compL_ok (acc := []) hI h (by simpa using hz)
  refine ⟨s6, hI6, ?_⟩
  rw [lc_eq, hi]
  show (noEx (compL (turn C elt tg ifs own) l [] s1)).bind _ = _
  rw [e]
  rfl
theorem lc_hid {C : Cf} {elt : E} {tg : Tg} {it : It} {ifs : Ts} {own : List Nat} {s s1 : S} {l : List D} {i : Nat} {I : S → Prop} {o : D → Option D} (hi : evIt C it s = .ok (.hid i l) s1) (hI : I s1) (h : ∀ x ∈ l, ∀ s, I s → ∃ s', turn C elt tg ifs (i :: own) x s = .ok (o x) s' ∧ I s') (hz : l.length ≤ sizeLine) :
    ∃ s6, I s6 ∧ evE C (.lc elt tg it ifs own) s = .ok (.ow (.lst (l.filterMap o))) ⟨restore s1.env (i :: own) s6.env, s6.sh⟩ := by
  obtain ⟨s6, e, hI6⟩ := compL_ok (acc := []) hI h (by simpa using hz)
  refine ⟨s6, hI6, ?_⟩
  rw [lc_eq, hi]
  show (noEx (compL (turn C elt tg ifs (i :: own)) l [] s1)).bind _ = _
  rw [e]
  rfl
/-- a live walk -/
theorem lc_live {C : Cf} {elt : E} {tg : Tg} {it : It} {ifs : Ts} {own : List Nat} {s s1 : S} {wk : Wk} {l : List D} {I : S → Prop} {o : D → Option D} (hi : evIt C it s = .ok wk s1) (hw : (∃ k, wk = .shl k) ∨ (∃ a b, wk = .zsh a b) ∨ ∃ a, wk = .esh a) (hl : ∀ s i, I s → live s.sh i wk = some (l[i]?)) (hI : I s1)
    (h : ∀ x ∈ l, ∀ s, I s → ∃ s', turn C elt tg ifs own x s = .ok (o x) s' ∧ I s') (hz : l.length ≤ sizeLine) (hf : l.length < C.fuel) :
    ∃ s6, I s6 ∧ evE C (.lc elt tg it ifs own) s = .ok (.ow (.lst (l.filterMap o))) ⟨restore s1.env own s6.env, s6.sh⟩ := by
  obtain ⟨s6, e, hI6⟩ := compS_ok hl h (n := C.fuel) (i := 0) (acc := []) (Nat.zero_le _) hI (by omega) (by simpa using hz)
  refine ⟨s6, hI6, ?_⟩
  rw [lc_eq, hi]
  rcases hw with ⟨k, rfl⟩ | ⟨a, b, rfl⟩ | ⟨a, rfl⟩
  all_goals
    show (noEx (compS (turn C elt tg ifs own) _ C.fuel 0 [] s1)).bind _ = _
    rw [e]
    rfl
/-! ### for -/
theorem forL_ok {f : D → S → Out} {I : S → Prop} : ∀ {l : List D} {s : S}, I s → (∀ x ∈ l, ∀ s, I s → ∃ s', f x s = .nx s' ∧ I s') → ∃ s', forL f l s = .nx s' ∧ I s'
  | [], s, hI, h => ⟨s, rfl, hI⟩
  | x :: l, s, hI, h => by
    obtain ⟨s1, e, hI1⟩ := h x List.mem_cons_self s hI
    obtain ⟨s2, e2, hI2⟩ := forL_ok (l := l) hI1 fun y hy => h y (List.mem_cons_of_mem _ hy)
    refine ⟨s2, ?_, hI2⟩
    unfold forL
    rw [e]
    exact e2
/-- with a count of turns -/
theorem forL_n {f : D → S → Out} {I : Nat → S → Prop} : ∀ {l : List D} {j : Nat} {s : S}, I j s → (∀ i x, l[i]? = some x → ∀ s, I (j + i) s → ∃ s', f x s = .nx s' ∧ I (j + i + 1) s') → ∃ s', forL f l s = .nx s' ∧ I (j + l.length) s'
  | [], j, s, hI, h => ⟨s, rfl, hI⟩
  | x :: l, j, s, hI, h => by
    obtain ⟨s1, e, hI1⟩ := h 0 x rfl s hI
    obtain ⟨s2, e2, hI2⟩ := forL_n (l := l) (j := j + 1) (I := I) hI1 fun i y hy s hs => by
      obtain ⟨s', q1, q2⟩ := h (i + 1) y (by simpa using hy) s (by rw [show j + (i + 1) = j + 1 + i by omega]; exact hs)
      exact ⟨s', q1, by rw [show j + 1 + i + 1 = j + (i + 1) + 1 by omega]; exact q2⟩
    refine ⟨s2, ?_, ?_⟩
    · unfold forL
      rw [e]
      exact e2
    · rw [List.length_cons, show j + (l.length + 1) = j + 1 + l.length by omega]
      exact hI2
theorem forS_ok {f : D → S → Out} {I : S → Prop} {wk : Wk} {l : List D} (hl : ∀ s i, I s → live s.sh i wk = some (l[i]?)) (h : ∀ x ∈ l, ∀ s, I s → ∃ s', f x s = .nx s' ∧ I s') : ∀ {n i : Nat} {s : S}, i ≤ l.length → I s → l.length < n + i → ∃ s', forS f wk n i s = .nx s' ∧ I s'
  | 0, i, s, hle, hI, hn => by
    omega
  | n + 1, i, s, hle, hI, hn => by
    unfold forS
    rw [hl s i hI]
    cases q : l[i]? with
    | none => exact ⟨s, rfl, hI⟩
    | some x =>
      obtain ⟨hlt, hx⟩ := List.getElem?_eq_some_iff.mp q
      obtain ⟨s1, e, hI1⟩ := h x (by rw [← hx]; exact List.getElem_mem hlt) s hI
      obtain ⟨s2, e2, hI2⟩ := forS_ok hl h (n := n) (i := i + 1) (by omega) hI1 (by omega)
      refine ⟨s2, ?_, hI2⟩
      simp only
      rw [e]
      exact e2
theorem forS_n {f : D → S → Out} {I : Nat → S → Prop} {wk : Wk} {l : List D} (hl : ∀ s i, I i s → live s.sh i wk = some (l[i]?)) (h : ∀ i x, l[i]? = some x → ∀ s, I i s → ∃ s', f x s = .nx s' ∧ I (i + 1) s') : ∀ {n i : Nat} {s : S}, i ≤ l.length → I i s → l.length < n + i → ∃ s', forS f wk n i s = .nx s' ∧ I l.length s'
  | 0, i, s, hle, hI, hn => by
    omega
  | n + 1, i, s, hle, hI, hn => by
    unfold forS
    rw [hl s i hI]
    cases q : l[i]? with
    | none =>
      have := List.getElem?_eq_none_iff.mp q
      have e : i = l.length := by omega
      exact ⟨s, rfl, by rw [← e]; exact hI⟩
    | some x =>
      obtain ⟨hlt, hx⟩ := List.getElem?_eq_some_iff.mp q
      obtain ⟨s1, e, hI1⟩ := h i x q s hI
      obtain ⟨s2, e2, hI2⟩ := forS_n hl h (n := n) (i := i + 1) (by omega) hI1 (by omega)
      refine ⟨s2, ?_, hI2⟩
      simp only
      rw [e]
      exact e2
section
variable {C : Cf} {s s1 s2 s3 : S}
theorem Es_cons {e : E} {r : Es} {v : Rv} {ds : List D} (h : evE C e s = .ok v s1) (h2 : evEs C r s1 = .ok ds s2) : evEs C (.cons e r) s = .ok (v.d :: ds) s2 := by
  rw [evEs, h]
  show ((evEs C r s1).bind fun xs s2 => Res.ok (v.d :: xs) s2) = _
  rw [h2]
  rfl
theorem Es_nil : evEs C .nil s = .ok [] s := by rw [evEs]
theorem big90 : 90000 ≤ sizeLine := by decide
theorem lst_of {es : Es} {ds : List D} (h : evEs C es s = .ok ds s1) (hz : ds.length ≤ 90000) : evE C (.lst es) s = .ok (.ow (.lst ds)) s1 := by
  have sb := big90
  rw [evE, h]
  show (if ds.length ≤ sizeLine then Res.ok (Rv.ow (.lst ds)) s1 else .er) = _
  rw [if_pos (by omega)]
theorem tup_of {es : Es} {ds : List D} (h : evEs C es s = .ok ds s1) (hz : ds.length ≤ 90000) : evE C (.tup es) s = .ok (.fr (.tup ds)) s1 := by
  have sb := big90
  rw [evE, h]
  show (if ds.length ≤ sizeLine then Res.ok (Rv.fr (.tup ds)) s1 else .er) = _
  rw [if_pos (by omega)]
theorem share_ow {e : E} {d : D} (h : evE C e s = .ok (.ow d) s1) : evE C (.share e) s = .ok (.fr (.sh s1.sh.length)) ⟨s1.env, s1.sh ++ [d]⟩ := by
  rw [evE, h]
  rfl
theorem share_fr {e : E} {d : D} (h : evE C e s = .ok (.fr d) s1) : evE C (.share e) s = .ok (.fr d) s1 := by
  rw [evE, h]
  rfl
/-- o[k] = e, o shared -/
theorem sto_sh {a i : B} {e : E} {r : Rv} {m j : Nat} {k : Int} {xs : List D} (he : evE C e s = .ok r s1) (ha : evB C a s1 = .ok (.v (.sh m)) s1) (hi : evB C i s1 = .ok (.v (.int k)) s1) (hm : s1.sh[m]? = some (.lst xs)) (hj : L2.ixN xs.length k = some j) :
    exS C (.sto a i e) s = .nx ⟨s1.env, s1.sh.set m (.lst (xs.set j r.d))⟩ := by
  have hl : m < s1.sh.length := (List.getElem?_eq_some_iff.mp hm).1
  have hv : cont s1 (.v (.sh m)) = some (.lst xs) := by
    show some (s1.sh.getD m .non) = _
    rw [List.getD_eq_getElem?_getD, hm]
    rfl
  rw [exS, he]
  show ((evB C a s1).out _) = _
  rw [ha]
  show ((evB C i s1).out _) = _
  rw [hi]
  show (match cont s1 (.v (.sh m)), cont s1 (.v (.int k)) with
    | some (.lst xs), some (.int k) => (match L2.ixN xs.length k with
      | some j => (match put s1 (.v (.sh m)) (.lst (xs.set j r.d)) with
        | some s4 => Out.nx s4
        | none => .er)
      | none => .er)
    | _, _ => .er) = _
  rw [hv]
  show (match L2.ixN xs.length k with
      | some j => (match put s1 (.v (.sh m)) (.lst (xs.set j r.d)) with
        | some s4 => Out.nx s4
        | none => .er)
      | none => .er) = _
  rw [hj]
  show (match (if m < s1.sh.length then some (⟨s1.env, s1.sh.set m (.lst (xs.set j r.d))⟩ : S) else none) with
        | some s4 => Out.nx s4
        | none => .er) = _
  rw [if_pos hl]
end
theorem add_lst {xs ys : List D} (h : xs.length + ys.length ≤ 90000) : binop .Add (.lst xs) (.lst ys) = some (.ow (.lst (xs ++ ys))) := by
  have sb := big90
  show (if xs.length + ys.length ≤ sizeLine then some (Rv.ow (.lst (xs ++ ys))) else none) = _
  rw [if_pos (by omega)]
end Ev
end
section
set_option linter.all false
set_option maxRecDepth 100000
set_option maxHeartbeats 1000000
/-! Com2: draws. -/
namespace Ev
open PySem
section
variable {P : Prg} {fuel : Nat}
/-- the stream: its cells at 0, itself at 1, drawn from at most c times -/
def SO (c : Nat) (sh : List D) : Prop := ∃ (cs : List Int) (a k m : Int), sh[0]? = some (.lst (cs.map .int)) ∧ sh[1]? = some (.lst [.sh 0, .int a, .int k, .int m]) ∧ 0 ≤ a ∧ 0 ≤ k ∧ k ≤ c ∧ 0 ≤ m ∧ m < 2147483647 ∧ cs.length < 90000
/-- only the stream changed -/
def Ag (sh sh' : List D) : Prop := sh'.length = sh.length ∧ ∀ i, 2 ≤ i → sh'[i]? = sh[i]?
theorem Ag.refl {sh : List D} : Ag sh sh := ⟨rfl, fun _ _ => rfl⟩
theorem Ag.trans {a b c : List D} (h : Ag a b) (h2 : Ag b c) : Ag a c := ⟨h2.1.trans h.1, fun i hi => (h2.2 i hi).trans (h.2 i hi)⟩
theorem Ag.set0 {sh : List D} {d : D} : Ag sh (sh.set 0 d) := ⟨List.length_set, fun i hi => List.getElem?_set_ne (by omega)⟩
theorem Ag.set1 {sh : List D} {d : D} : Ag sh (sh.set 1 d) := ⟨List.length_set, fun i hi => List.getElem?_set_ne (by omega)⟩
def w_draw : St := .whl (.and (.cmp .Eq (.of (.idx (.var 0) (.of (.cst (.int 1))))) (.of (.cst (.int 0)))) (.one (.cmp .NotEq (.of (.idx (.var 0) (.of (.cst (.int 0))))) (.of (.lst (.nil)))))) (.cons (.asg (.nm 2) (.mth .pop1 (.of (.idx (.var 0) (.of (.cst (.int 0))))) (.cons (.of (.cst (.int 0))) (.nil))))
  (.cons (.sto (.var 0) (.of (.cst (.int 3))) (.bin .Mod (.of (.bcl .int (.cons (.of (.bin .Add (.of (.bin .Add (.of (.bin .Mult (.of (.idx (.var 0) (.of (.cst (.int 3))))) (.of (.cst (.int 69313))))) (.var 2))) (.of (.cst (.int 31))))) (.nil)))) (.of (.cst (.int 2147483647)))))
  (.cons (.sto (.var 0) (.of (.cst (.int 1))) (.ife (.cmp .GtE (.var 2) (.of (.bin .Pow (.of (.cst (.int 10))) (.of (.cst (.int 18)))))) (.var 2) (.cst (.int 0))))
  (.nil))))
def b_draw : Ss := .cons (.sto (.var 0) (.of (.cst (.int 2))) (.bin .Add (.of (.idx (.var 0) (.of (.cst (.int 2))))) (.of (.cst (.int 1)))))
  (.cons w_draw
  (.cons (.iff (.cmp .Gt (.of (.idx (.var 0) (.of (.cst (.int 1))))) (.of (.cst (.int 0)))) (.cons (.asg (.nm 3) (.bin .Mod (.of (.bcl .int (.cons (.of (.idx (.var 0) (.of (.cst (.int 1))))) (.nil)))) (.var 1)))
  (.cons (.sto (.var 0) (.of (.cst (.int 1))) (.bin .FloorDiv (.of (.idx (.var 0) (.of (.cst (.int 1))))) (.var 1)))
  (.cons (.retv 3)
  (.nil)))) (.nil))
  (.cons (.asg (.nm 4) (.bin .Mod (.of (.bcl .int (.cons (.of (.bin .Pow (.of (.bin .Add (.of (.bin .Add (.of (.idx (.var 0) (.of (.cst (.int 3))))) (.of (.bin .Mult (.of (.cst (.int 8923))) (.of (.idx (.var 0) (.of (.cst (.int 2))))))))) (.of (.cst (.int 160001))))) (.of (.cst (.int 5))))) (.nil)))) (.of (.cst (.int 2147483629)))))
  (.cons (.ret (.bin .Mod (.of (.bin .Mod (.of (.bcl .int (.cons (.of (.bin .Pow (.of (.bin .Add (.of (.bin .Add (.of (.bin .Mult (.var 4) (.of (.cst (.int 54133))))) (.of (.bin .Mult (.of (.cst (.int 71881))) (.of (.idx (.var 0) (.of (.cst (.int 2))))))))) (.of (.cst (.int 53))))) (.of (.cst (.int 3))))) (.nil)))) (.of (.cst (.int 1000000007))))) (.var 1)))
  (.nil)))))
theorem draw1 {C : Cf} {sh : List D} {many a k m : Int} (h1 : sh[1]? = some (.lst [.sh 0, .int a, .int k, .int m])) :
    exS C (.sto (.var 0) (.of (.cst (.int 2))) (.bin .Add (.of (.idx (.var 0) (.of (.cst (.int 2))))) (.of (.cst (.int 1))))) ⟨[.fr (.sh 1), .fr (.int many), .un, .un, .un], sh⟩ = .nx ⟨[.fr (.sh 1), .fr (.int many), .un, .un, .un], sh.set 1 (.lst [.sh 0, .int a, .int (k + 1), .int m])⟩ := by
  have hv : vw sh (.sh 1) = .lst [.sh 0, .int a, .int k, .int m] := by show sh.getD 1 .non = _; rw [List.getD_eq_getElem?_getD, h1]; rfl
  have hl : 1 < sh.length := (List.getElem?_eq_some_iff.mp h1).1
  simp [exSs, exS, evE, evT, evB, evBs, evEs, evO, evCh, evTs, S.get, S.set, cont, cont2, conts, Res.bind, Res.out, ofOpt, ofFR, setSh, Rv.d, vw_non, vw_bl, vw_int, vw_str, vw_fn, vw_tup, vw_lst, vw_ro, vw_dic, permute, boolOf, fz, outFR, isTyO, okTy, okTg, isTy, tyOf, truth, cmpD, isFn, eqF, isNon, binop, idxD, bcl, items, itemsL, itemsT, List.getD_cons_zero, List.getD_cons_succ, List.set_cons_zero, List.set_cons_succ, bindT, bindT.go, Rv.sl, parSet, hv, put, hl, L2.ixN]
def t_draw : T := .and (.cmp .Eq (.of (.idx (.var 0) (.of (.cst (.int 1))))) (.of (.cst (.int 0)))) (.one (.cmp .NotEq (.of (.idx (.var 0) (.of (.cst (.int 0))))) (.of (.lst (.nil)))))
def wb1 : St := .asg (.nm 2) (.mth .pop1 (.of (.idx (.var 0) (.of (.cst (.int 0))))) (.cons (.of (.cst (.int 0))) (.nil)))
def wb2 : St := .sto (.var 0) (.of (.cst (.int 3))) (.bin .Mod (.of (.bcl .int (.cons (.of (.bin .Add (.of (.bin .Add (.of (.bin .Mult (.of (.idx (.var 0) (.of (.cst (.int 3))))) (.of (.cst (.int 69313))))) (.var 2))) (.of (.cst (.int 31))))) (.nil)))) (.of (.cst (.int 2147483647))))
def wb3 : St := .sto (.var 0) (.of (.cst (.int 1))) (.ife (.cmp .GtE (.var 2) (.of (.bin .Pow (.of (.cst (.int 10))) (.of (.cst (.int 18)))))) (.var 2) (.cst (.int 0)))
theorem w_draw_eq : w_draw = .whl t_draw (.cons wb1 (.cons wb2 (.cons wb3 .nil))) := rfl
/-- the stream as it stands -/
def SA (sh : List D) (cs : List Int) (a k m : Int) : Prop := sh[0]? = some (.lst (cs.map .int)) ∧ sh[1]? = some (.lst [.sh 0, .int a, .int k, .int m])
theorem SA.v0 {sh : List D} {cs : List Int} {a k m : Int} (h : SA sh cs a k m) : vw sh (.sh 0) = .lst (cs.map .int) := by
  show sh.getD 0 .non = _
  rw [List.getD_eq_getElem?_getD, h.1]; rfl
theorem SA.v1 {sh : List D} {cs : List Int} {a k m : Int} (h : SA sh cs a k m) : vw sh (.sh 1) = .lst [.sh 0, .int a, .int k, .int m] := by
  show sh.getD 1 .non = _
  rw [List.getD_eq_getElem?_getD, h.2]; rfl
theorem SA.l1 {sh : List D} {cs : List Int} {a k m : Int} (h : SA sh cs a k m) : 1 < sh.length := (List.getElem?_eq_some_iff.mp h.2).1
theorem SA.set1 {sh : List D} {cs : List Int} {a k m a' k' m' : Int} (h : SA sh cs a k m) : SA (sh.set 1 (.lst [.sh 0, .int a', .int k', .int m'])) cs a' k' m' :=
  ⟨by rw [List.getElem?_set_ne (by decide)]; exact h.1, by rw [List.getElem?_set_self h.l1]⟩
theorem SA.set0 {sh : List D} {cs cs' : List Int} {a k m : Int} (h : SA sh cs a k m) : SA (sh.set 0 (.lst (cs'.map .int))) cs' a k m :=
  ⟨by rw [List.getElem?_set_self (Nat.lt_trans (by decide) h.l1)], by rw [List.getElem?_set_ne (by decide)]; exact h.2⟩
section
variable {C : Cf} {sh : List D} {cs : List Int} {a k m many c : Int} {x2 x3 x4 : Sl}
theorem wt_stop (h : SA sh cs a k m) (hs : a ≠ 0 ∨ cs = []) : evT C t_draw ⟨[.fr (.sh 1), .fr (.int many), x2, x3, x4], sh⟩ = .ok false ⟨[.fr (.sh 1), .fr (.int many), x2, x3, x4], sh⟩ := by
  have h0 := h.v0
  have h1 := h.v1
  unfold t_draw
  by_cases ha : a = 0
  · rcases hs with z | z
    · exact absurd ha z
    · subst z
      simp [exSs, exS, evE, evT, evB, evBs, evEs, evO, evCh, evTs, S.get, S.set, cont, cont2, conts, Res.bind, Res.out, ofOpt, ofFR, setSh, Rv.d, vw_non, vw_bl, vw_int, vw_str, vw_fn, vw_tup, vw_lst, vw_ro, vw_dic, permute, boolOf, fz, outFR, isTyO, okTy, okTg, isTy, tyOf, truth, cmpD, isFn, eqF, isNon, binop, idxD, bcl, items, itemsL, itemsT, List.getD_cons_zero, List.getD_cons_succ, List.set_cons_zero, List.set_cons_succ, bindT, bindT.go, Rv.sl, parSet, h0, h1, L2.ixN, eqD, dp, ha, eqDs]
  · simp [exSs, exS, evE, evT, evB, evBs, evEs, evO, evCh, evTs, S.get, S.set, cont, cont2, conts, Res.bind, Res.out, ofOpt, ofFR, setSh, Rv.d, vw_non, vw_bl, vw_int, vw_str, vw_fn, vw_tup, vw_lst, vw_ro, vw_dic, permute, boolOf, fz, outFR, isTyO, okTy, okTg, isTy, tyOf, truth, cmpD, isFn, eqF, isNon, binop, idxD, bcl, items, itemsL, itemsT, List.getD_cons_zero, List.getD_cons_succ, List.set_cons_zero, List.set_cons_succ, bindT, bindT.go, Rv.sl, parSet, h0, h1, L2.ixN, eqD, dp, ha]
theorem wt_go (h : SA sh (c :: cs) 0 k m) : evT C t_draw ⟨[.fr (.sh 1), .fr (.int many), x2, x3, x4], sh⟩ = .ok true ⟨[.fr (.sh 1), .fr (.int many), x2, x3, x4], sh⟩ := by
  have h0 := h.v0
  have h1 := h.v1
  unfold t_draw
  simp [exSs, exS, evE, evT, evB, evBs, evEs, evO, evCh, evTs, S.get, S.set, cont, cont2, conts, Res.bind, Res.out, ofOpt, ofFR, setSh, Rv.d, vw_non, vw_bl, vw_int, vw_str, vw_fn, vw_tup, vw_lst, vw_ro, vw_dic, permute, boolOf, fz, outFR, isTyO, okTy, okTg, isTy, tyOf, truth, cmpD, isFn, eqF, isNon, binop, idxD, bcl, items, itemsL, itemsT, List.getD_cons_zero, List.getD_cons_succ, List.set_cons_zero, List.set_cons_succ, bindT, bindT.go, Rv.sl, parSet, h0, h1, L2.ixN, eqD, dp]
theorem wb1_ok (h : SA sh (c :: cs) a k m) : exS C wb1 ⟨[.fr (.sh 1), .fr (.int many), x2, x3, x4], sh⟩ = .nx ⟨[.fr (.sh 1), .fr (.int many), .fr (.int c), x3, x4], sh.set 0 (.lst (cs.map .int))⟩ := by
  have h0 := h.v0
  have h1 := h.v1
  have hl : 0 < sh.length := Nat.lt_trans (by decide) h.l1
  unfold wb1
  simp [exSs, exS, evE, evT, evB, evBs, evEs, evO, evCh, evTs, S.get, S.set, cont, cont2, conts, Res.bind, Res.out, ofOpt, ofFR, setSh, Rv.d, vw_non, vw_bl, vw_int, vw_str, vw_fn, vw_tup, vw_lst, vw_ro, vw_dic, permute, boolOf, fz, outFR, isTyO, okTy, okTg, isTy, tyOf, truth, cmpD, isFn, eqF, isNon, binop, idxD, bcl, items, itemsL, itemsT, List.getD_cons_zero, List.getD_cons_succ, List.set_cons_zero, List.set_cons_succ, bindT, bindT.go, Rv.sl, parSet, h0, h1, L2.ixN, kindOk, isMut, mutM, put, hl]
theorem wb2_ok (h : SA sh cs a k m) : exS C wb2 ⟨[.fr (.sh 1), .fr (.int many), .fr (.int c), x3, x4], sh⟩ = .nx ⟨[.fr (.sh 1), .fr (.int many), .fr (.int c), x3, x4], sh.set 1 (.lst [.sh 0, .int a, .int k, .int ((m * 69313 + c + 31).fmod 2147483647)])⟩ := by
  have h1 := h.v1
  have hl := h.l1
  unfold wb2
  simp [exSs, exS, evE, evT, evB, evBs, evEs, evO, evCh, evTs, S.get, S.set, cont, cont2, conts, Res.bind, Res.out, ofOpt, ofFR, setSh, Rv.d, vw_non, vw_bl, vw_int, vw_str, vw_fn, vw_tup, vw_lst, vw_ro, vw_dic, permute, boolOf, fz, outFR, isTyO, okTy, okTg, isTy, tyOf, truth, cmpD, isFn, eqF, isNon, binop, idxD, bcl, items, itemsL, itemsT, List.getD_cons_zero, List.getD_cons_succ, List.set_cons_zero, List.set_cons_succ, bindT, bindT.go, Rv.sl, parSet, h1, L2.ixN, put, hl, mulOk]
theorem wb3_ok (h : SA sh cs a k m) : exS C wb3 ⟨[.fr (.sh 1), .fr (.int many), .fr (.int c), x3, x4], sh⟩ = .nx ⟨[.fr (.sh 1), .fr (.int many), .fr (.int c), x3, x4], sh.set 1 (.lst [.sh 0, .int (if 10 ^ 18 ≤ c then c else 0), .int k, .int m])⟩ := by
  have h1 := h.v1
  have hl := h.l1
  unfold wb3
  by_cases hc : (1000000000000000000 : Int) ≤ c
  · simp [exSs, exS, evE, evT, evB, evBs, evEs, evO, evCh, evTs, S.get, S.set, cont, cont2, conts, Res.bind, Res.out, ofOpt, ofFR, setSh, Rv.d, vw_non, vw_bl, vw_int, vw_str, vw_fn, vw_tup, vw_lst, vw_ro, vw_dic, permute, boolOf, fz, outFR, isTyO, okTy, okTg, isTy, tyOf, truth, cmpD, isFn, eqF, isNon, binop, idxD, bcl, items, itemsL, itemsT, List.getD_cons_zero, List.getD_cons_succ, List.set_cons_zero, List.set_cons_succ, bindT, bindT.go, Rv.sl, parSet, h1, L2.ixN, put, hl, hc]
  · simp [exSs, exS, evE, evT, evB, evBs, evEs, evO, evCh, evTs, S.get, S.set, cont, cont2, conts, Res.bind, Res.out, ofOpt, ofFR, setSh, Rv.d, vw_non, vw_bl, vw_int, vw_str, vw_fn, vw_tup, vw_lst, vw_ro, vw_dic, permute, boolOf, fz, outFR, isTyO, okTy, okTg, isTy, tyOf, truth, cmpD, isFn, eqF, isNon, binop, idxD, bcl, items, itemsL, itemsT, List.getD_cons_zero, List.getD_cons_succ, List.set_cons_zero, List.set_cons_succ, bindT, bindT.go, Rv.sl, parSet, h1, L2.ixN, put, hl, hc]
theorem w_ok : ∀ {cs : List Int} {a m : Int} {sh : List D} {x2 : Sl} {n : Nat}, SA sh cs a k m → 0 ≤ a → 0 ≤ m → m < 2147483647 → cs.length < n → ∃ cs' a' m' sh' x2', whl (evT C t_draw) (exSs C (.cons wb1 (.cons wb2 (.cons wb3 .nil)))) n ⟨[.fr (.sh 1), .fr (.int many), x2, x3, x4], sh⟩ = .nx ⟨[.fr (.sh 1), .fr (.int many), x2', x3, x4], sh'⟩ ∧
    SA sh' cs' a' k m' ∧ Ag sh sh' ∧ 0 ≤ a' ∧ 0 ≤ m' ∧ m' < 2147483647 ∧ cs'.length ≤ cs.length
  | cs, a, m, sh, x2, 0, _, _, _, _, hn => by omega
  | [], a, m, sh, x2, n + 1, h, ha, hm, hm2, hn => by
    refine ⟨[], a, m, sh, x2, ?_, h, Ag.refl, ha, hm, hm2, Nat.le_refl _⟩
    unfold whl
    rw [wt_stop h (.inr rfl)]
    rfl
  | c :: cs, a, m, sh, x2, n + 1, h, ha, hm, hm2, hn => by
    by_cases hz : a = 0
    · subst hz
      have e1 := wb1_ok (C := C) (many := many) (x2 := x2) (x3 := x3) (x4 := x4) h
      have h1 := h.set0 (cs' := cs)
      have e2 := wb2_ok (C := C) (many := many) (c := c) (x3 := x3) (x4 := x4) h1
      have h2 := h1.set1 (a' := 0) (k' := k) (m' := (m * 69313 + c + 31).fmod 2147483647)
      have e3 := wb3_ok (C := C) (many := many) (c := c) (x3 := x3) (x4 := x4) h2
      have h3 := h2.set1 (a' := if 10 ^ 18 ≤ c then c else 0) (k' := k) (m' := (m * 69313 + c + 31).fmod 2147483647)
      obtain ⟨cs', a', m', sh', x2', q1, q2, q3, q4, q5, q6, q7⟩ := w_ok (cs := cs) (n := n) (x2 := .fr (.int c)) h3 (by split <;> omega) (Int.fmod_nonneg_of_pos _ (by decide)) (Int.fmod_lt_of_pos _ (by decide)) (by rw [List.length_cons] at hn; omega)
      refine ⟨cs', a', m', sh', x2', ?_, q2, (Ag.set0.trans (Ag.set1.trans Ag.set1)).trans q3, q4, q5, q6, by rw [List.length_cons]; omega⟩
      unfold whl
      rw [wt_go h]
      show (match exSs C (.cons wb1 (.cons wb2 (.cons wb3 .nil))) _ with | .nx s2 => _ | .ct s2 => _ | .bk s2 => _ | o => o) = _
      rw [exSs_nx e1, exSs_nx e2, exSs_nx e3]
      exact q1
    · refine ⟨c :: cs, a, m, sh, x2, ?_, h, Ag.refl, ha, hm, hm2, Nat.le_refl _⟩
      unfold whl
      rw [wt_stop h (.inl hz)]
      rfl
def if_draw : St := .iff (.cmp .Gt (.of (.idx (.var 0) (.of (.cst (.int 1))))) (.of (.cst (.int 0)))) (.cons (.asg (.nm 3) (.bin .Mod (.of (.bcl .int (.cons (.of (.idx (.var 0) (.of (.cst (.int 1))))) (.nil)))) (.var 1)))
  (.cons (.sto (.var 0) (.of (.cst (.int 1))) (.bin .FloorDiv (.of (.idx (.var 0) (.of (.cst (.int 1))))) (.var 1)))
  (.cons (.retv 3)
  (.nil)))) (.nil)
def s_mixed : St := .asg (.nm 4) (.bin .Mod (.of (.bcl .int (.cons (.of (.bin .Pow (.of (.bin .Add (.of (.bin .Add (.of (.idx (.var 0) (.of (.cst (.int 3))))) (.of (.bin .Mult (.of (.cst (.int 8923))) (.of (.idx (.var 0) (.of (.cst (.int 2))))))))) (.of (.cst (.int 160001))))) (.of (.cst (.int 5))))) (.nil)))) (.of (.cst (.int 2147483629))))
def r_draw : St := .ret (.bin .Mod (.of (.bin .Mod (.of (.bcl .int (.cons (.of (.bin .Pow (.of (.bin .Add (.of (.bin .Add (.of (.bin .Mult (.var 4) (.of (.cst (.int 54133))))) (.of (.bin .Mult (.of (.cst (.int 71881))) (.of (.idx (.var 0) (.of (.cst (.int 2))))))))) (.of (.cst (.int 53))))) (.of (.cst (.int 3))))) (.nil)))) (.of (.cst (.int 1000000007))))) (.var 1))
theorem b_draw_eq : b_draw = .cons (.sto (.var 0) (.of (.cst (.int 2))) (.bin .Add (.of (.idx (.var 0) (.of (.cst (.int 2))))) (.of (.cst (.int 1))))) (.cons w_draw (.cons if_draw (.cons s_mixed (.cons r_draw .nil)))) := rfl
theorem if_yes (h : SA sh cs a k m) (ha : 0 < a) (h1 : 0 < many) (h2 : many < 1073741824) : exS C if_draw ⟨[.fr (.sh 1), .fr (.int many), x2, x3, x4], sh⟩ = .rt (.fr (.int (a.fmod many))) ⟨[.fr (.sh 1), .fr (.int many), x2, .fr (.int (a.fmod many)), x4], sh.set 1 (.lst [.sh 0, .int (a.fdiv many), .int k, .int m])⟩ := by
  have hv := h.v1
  have hl := h.l1
  have n0 : many ≠ 0 := by omega
  have dv : divOk many = true := by
    unfold divOk
    rw [Bool.or_eq_true, decide_eq_true_eq]
    exact .inl ⟨n0, by omega⟩
  unfold if_draw
  simp [exSs, exS, evE, evT, evB, evBs, evEs, evO, evCh, evTs, S.get, S.set, cont, cont2, conts, Res.bind, Res.out, ofOpt, ofFR, setSh, Rv.d, vw_non, vw_bl, vw_int, vw_str, vw_fn, vw_tup, vw_lst, vw_ro, vw_dic, permute, boolOf, fz, outFR, isTyO, okTy, okTg, isTy, tyOf, truth, cmpD, isFn, eqF, isNon, binop, idxD, bcl, items, itemsL, itemsT, List.getD_cons_zero, List.getD_cons_succ, List.set_cons_zero, List.set_cons_succ, bindT, bindT.go, Rv.sl, parSet, hv, L2.ixN, put, hl, ha, n0, dv]
theorem if_no (h : SA sh cs 0 k m) : exS C if_draw ⟨[.fr (.sh 1), .fr (.int many), x2, x3, x4], sh⟩ = .nx ⟨[.fr (.sh 1), .fr (.int many), x2, x3, x4], sh⟩ := by
  have hv := h.v1
  unfold if_draw
  simp [exSs, exS, evE, evT, evB, evBs, evEs, evO, evCh, evTs, S.get, S.set, cont, cont2, conts, Res.bind, Res.out, ofOpt, ofFR, setSh, Rv.d, vw_non, vw_bl, vw_int, vw_str, vw_fn, vw_tup, vw_lst, vw_ro, vw_dic, permute, boolOf, fz, outFR, isTyO, okTy, okTg, isTy, tyOf, truth, cmpD, isFn, eqF, isNon, binop, idxD, bcl, items, itemsL, itemsT, List.getD_cons_zero, List.getD_cons_succ, List.set_cons_zero, List.set_cons_succ, bindT, bindT.go, Rv.sl, parSet, hv, L2.ixN]
theorem mix_ok (h : SA sh cs a k m) (hm : 0 ≤ m) (hm2 : m < 2147483647) (hk : 0 ≤ k) (hk2 : k < 1000000000000) : exS C s_mixed ⟨[.fr (.sh 1), .fr (.int many), x2, x3, x4], sh⟩ = .nx ⟨[.fr (.sh 1), .fr (.int many), x2, x3, .fr (.int (((m + 8923 * k + 160001) ^ 5).fmod 2147483629))], sh⟩ := by
  have hv := h.v1
  have hb : (m + 8923 * k + 160001).natAbs < 18446744073709551616 := by omega
  unfold s_mixed
  simp [exSs, exS, evE, evT, evB, evBs, evEs, evO, evCh, evTs, S.get, S.set, cont, cont2, conts, Res.bind, Res.out, ofOpt, ofFR, setSh, Rv.d, vw_non, vw_bl, vw_int, vw_str, vw_fn, vw_tup, vw_lst, vw_ro, vw_dic, permute, boolOf, fz, outFR, isTyO, okTy, okTg, isTy, tyOf, truth, cmpD, isFn, eqF, isNon, binop, idxD, bcl, items, itemsL, itemsT, List.getD_cons_zero, List.getD_cons_succ, List.set_cons_zero, List.set_cons_succ, bindT, bindT.go, Rv.sl, parSet, hv, L2.ixN, mulOk, hb]
theorem ret_ok {mx : Int} (h : SA sh cs a k m) (hm : 0 ≤ mx) (hm2 : mx < 2147483647) (hk : 0 ≤ k) (hk2 : k < 1000000000000) (h1 : 0 < many) : exS C r_draw ⟨[.fr (.sh 1), .fr (.int many), x2, x3, .fr (.int mx)], sh⟩ = .rt (.fr (.int ((((mx * 54133 + 71881 * k + 53) ^ 3).fmod 1000000007).fmod many))) ⟨[.fr (.sh 1), .fr (.int many), x2, x3, .fr (.int mx)], sh⟩ := by
  have hv := h.v1
  have hb : (mx * 54133 + 71881 * k + 53).natAbs < 18446744073709551616 := by omega
  have n0 : many ≠ 0 := by omega
  unfold r_draw
  simp [exSs, exS, evE, evT, evB, evBs, evEs, evO, evCh, evTs, S.get, S.set, cont, cont2, conts, Res.bind, Res.out, ofOpt, ofFR, setSh, Rv.d, vw_non, vw_bl, vw_int, vw_str, vw_fn, vw_tup, vw_lst, vw_ro, vw_dic, permute, boolOf, fz, outFR, isTyO, okTy, okTg, isTy, tyOf, truth, cmpD, isFn, eqF, isNon, binop, idxD, bcl, items, itemsL, itemsT, List.getD_cons_zero, List.getD_cons_succ, List.set_cons_zero, List.set_cons_succ, bindT, bindT.go, Rv.sl, parSet, hv, L2.ixN, mulOk, hb, n0]
end
theorem SO.sa {c : Nat} {sh : List D} (h : SO c sh) : ∃ cs a k m, SA sh cs a k m ∧ 0 ≤ a ∧ 0 ≤ k ∧ k ≤ c ∧ 0 ≤ m ∧ m < 2147483647 ∧ cs.length < 90000 := by
  obtain ⟨cs, a, k, m, h1, h2, h3⟩ := h
  exact ⟨cs, a, k, m, ⟨h1, h2⟩, h3⟩
theorem draw_ok {f n c : Nat} (hP : P.fns[f]? = some ⟨2, 5, b_draw⟩) (hf : 90000 ≤ fuel) {sh : List D} {many : Int} (h : SO c sh) (hc : c < 999999999999) (h1 : 0 < many) (h2 : many < 1073741824) :
    ∃ d sh', callF P fuel (n + 1) f [.sh 1, .int many] sh = .ok (.fr (.int d)) sh' ∧ 0 ≤ d ∧ d < many ∧ SO (c + 1) sh' ∧ Ag sh sh' := by
  obtain ⟨cs, a, k, m, hs, ha, hk, hkc, hm, hm2, hz⟩ := h.sa
  have e1 := draw1 (C := ⟨fuel, callF P fuel n, P.mets, P.ar⟩) (many := many) hs.2
  have s1 := hs.set1 (a' := a) (k' := k + 1) (m' := m)
  obtain ⟨cs', a', m', sh', x2', e2, s2, ag2, ha', hm', hm2', hz'⟩ := w_ok (C := ⟨fuel, callF P fuel n, P.mets, P.ar⟩) (many := many) (x2 := .un) (x3 := .un) (x4 := .un) (n := fuel) s1 ha hm hm2 (by omega)
  have ag : Ag sh sh' := Ag.set1.trans ag2
  have e2 : exS ⟨fuel, callF P fuel n, P.mets, P.ar⟩ w_draw ⟨[.fr (.sh 1), .fr (.int many), .un, .un, .un], sh.set 1 (.lst [.sh 0, .int a, .int (k + 1), .int m])⟩ = .nx ⟨[.fr (.sh 1), .fr (.int many), x2', .un, .un], sh'⟩ := e2
  rw [callP hP rfl]
  show ∃ d sh', outFR (exSs _ b_draw ⟨[.fr (.sh 1), .fr (.int many), .un, .un, .un], sh⟩) = _ ∧ _
  rw [b_draw_eq, exSs_nx e1, exSs_nx e2]
  by_cases hz2 : a' = 0
  · subst hz2
    have e3 := if_no (C := ⟨fuel, callF P fuel n, P.mets, P.ar⟩) (many := many) (x2 := x2') (x3 := .un) (x4 := .un) s2
    have e4 := mix_ok (C := ⟨fuel, callF P fuel n, P.mets, P.ar⟩) (many := many) (x2 := x2') (x3 := .un) (x4 := .un) s2 hm' hm2' (by omega) (by omega)
    have e5 := ret_ok (C := ⟨fuel, callF P fuel n, P.mets, P.ar⟩) (many := many) (x2 := x2') (x3 := .un) (mx := ((m' + 8923 * (k + 1) + 160001) ^ 5).fmod 2147483629) s2 (Int.fmod_nonneg_of_pos _ (by decide)) (Int.lt_trans (Int.fmod_lt_of_pos _ (by decide)) (by decide)) (by omega) (by omega) h1
    rw [exSs_nx e3, exSs_nx e4, exSs_rt e5]
    exact ⟨_, sh', rfl, Int.fmod_nonneg_of_pos _ h1, Int.fmod_lt_of_pos _ h1, ⟨cs', 0, k + 1, m', s2.1, s2.2, by omega, by omega, by push_cast; omega, hm', hm2', by omega⟩, ag⟩
  · have ha2 : 0 < a' := by omega
    have e3 := if_yes (C := ⟨fuel, callF P fuel n, P.mets, P.ar⟩) (many := many) (x2 := x2') (x3 := .un) (x4 := .un) s2 ha2 h1 h2
    have s3 := s2.set1 (a' := a'.fdiv many) (k' := k + 1) (m' := m')
    rw [exSs_rt e3]
    exact ⟨_, _, rfl, Int.fmod_nonneg_of_pos _ h1, Int.fmod_lt_of_pos _ h1, ⟨cs', a'.fdiv many, k + 1, m', s3.1, s3.2, Int.fdiv_nonneg (by omega) (by omega), by omega, by push_cast; omega, hm', hm2', by omega⟩, ag.trans Ag.set1⟩
end
end Ev
end
section
set_option linter.all false
set_option maxRecDepth 100000
set_option maxHeartbeats 1000000
/-! Com: what all laws share. -/
namespace Ev
open PySem
section
variable {P : Prg} {fuel : Nat}
/-! ### _law_same -/
def lc_same (f : Nat) : E := .lc (.call f (.cons (.var 2) (.cons (.var 3) (.nil))) []) (.tp [.nm 2, .nm 3]) (.zip (.cons (.var 0) (.cons (.var 1) .nil))) (.nil) [2, 3]
def b_same (f : Nat) : Ss := .cons (.iff (.of (.of (.isi (.var 1) [.ty "list", .ty "tuple"]))) (.cons (.iff (.or (.cmp .NotEq (.of (.isi (.var 0) [.ty "list"])) (.of (.isi (.var 1) [.ty "list"]))) (.one (.cmp .NotEq (.of (.isi (.var 0) [.ty "tuple"])) (.of (.isi (.var 1) [.ty "tuple"]))))) (.cons (.ret (.cst (.bl false)))
  (.nil)) (.nil))
  (.cons (.ret (.and (.cmp .Eq (.of (.bcl .len (.cons (.var 0) (.nil)))) (.of (.bcl .len (.cons (.var 1) (.nil))))) (.one (.bcl .all (.cons (.of (lc_same f)) (.nil))))))
  (.nil))) (.nil))
  (.cons (.iff (.of (.of (.isi (.var 1) [.ty "dict"]))) (.cons (.ret (.and (.isi (.var 0) [.ty "dict"]) (.one (.call f (.cons (.bcl .litems (.cons (.var 0) (.nil))) (.cons (.bcl .litems (.cons (.var 1) (.nil))) (.nil))) []))))
  (.nil)) (.nil))
  (.cons (.iff (.of (.of (.isi (.var 1) [.ty "int"]))) (.cons (.ret (.and (.isi (.var 0) [.ty "int"]) (.and (.cmp .Eq (.of (.isi (.var 0) [.ty "bool"])) (.of (.isi (.var 1) [.ty "bool"]))) (.one (.cmp .Eq (.var 0) (.var 1))))))
  (.nil)) (.nil))
  (.cons (.iff (.cmp .Is (.var 1) (.of (.cst .non))) (.cons (.ret (.cmp .Is (.var 0) (.of (.cst .non))))
  (.nil)) (.nil))
  (.cons (.iff (.of (.of (.isi (.var 1) [.ty "str"]))) (.cons (.ret (.and (.isi (.var 0) [.ty "str"]) (.one (.cmp .Eq (.var 0) (.var 1)))))
  (.nil)) (.nil))
  (.cons (.ret (.and (.not (.of (.isi (.var 0) [.ty "int", .ty "str", .ty "list", .ty "tuple", .ty "dict"]))) (.one (.cmp .Eq (.var 0) (.var 1)))))
  (.nil))))))
/-- atoms -/
def atom : D → Bool
  | .non => true | .bl _ => true | .int _ => true | .str _ => true | .fn _ => true
  | _ => false
/-- a list, looked through -/
def Ls (sh : List D) (a : D) (xs : List D) : Prop := vw sh a = .lst xs ∨ vw sh a = .ro xs
def Pt (R : D → D → Prop) (xs ys : List D) : Prop := xs.length = ys.length ∧ ∀ (i : Nat) x y, xs[i]? = some x → ys[i]? = some y → R x y
/-- the same, so many deep -/
def Sm (sh : List D) : Nat → D → D → Prop
  | 0, a, b => a = b ∧ atom a = true
  | h + 1, a, b => (a = b ∧ atom a = true) ∨ (∃ u v, a = .dic [] u ∧ b = .dic [] v) ∨ (∃ xs ys, Ls sh a xs ∧ Ls sh b ys ∧ xs.length < 90000 ∧ Pt (Sm sh h) xs ys) ∨ ∃ xs ys, a = .tup xs ∧ b = .tup ys ∧ xs.length < 90000 ∧ Pt (Sm sh h) xs ys
theorem same_atom {C : Cf} {f : Nat} {a : D} {sh : List D} (h : atom a = true) : exSs C (b_same f) ⟨[.fr a, .fr a, .un, .un], sh⟩ = .rt (.fr (.bl true)) ⟨[.fr a, .fr a, .un, .un], sh⟩ := by
  cases a with
  | int i => show Out.rt (Rv.fr (.bl (i == i))) _ = _; rw [beq_self_eq_true]
  | bl i => show Out.rt (Rv.fr (.bl (i == i))) _ = _; rw [beq_self_eq_true]
  | non => rfl
  | str x => show Out.rt (Rv.fr (.bl (x == x))) _ = _; rw [beq_self_eq_true]
  | fn i =>
    unfold b_same
    simp [exSs, exS, evE, evT, evB, evBs, evEs, evO, evCh, evTs, S.get, S.set, cont, cont2, conts, Res.bind, Res.out, ofOpt, ofFR, setSh, Rv.d, vw_non, vw_bl, vw_int, vw_str, vw_fn, vw_tup, vw_lst, vw_ro, vw_dic, permute, boolOf, fz, outFR, isTyO, okTy, okTg, isTy, tyOf, truth, cmpD, isFn, eqF, isNon, binop, idxD, bcl, items, itemsL, itemsT, List.getD_cons_zero, List.getD_cons_succ, List.set_cons_zero, List.set_cons_succ, bindT, bindT.go, Rv.sl, parSet]
  | _ => cases h
theorem zipD_get : ∀ {xs ys : List D} {i : Nat}, (zipD xs ys)[i]? = (match xs[i]?, ys[i]? with
  | some x, some y => some (.tup [x, y])
  | _, _ => none)
  | [], ys, i => by cases i <;> rfl
  | x :: xs, [], i => by
    cases i with
    | zero => rfl
    | succ i => show none = _; cases (x :: xs)[i + 1]? <;> rfl
  | x :: xs, y :: ys, 0 => rfl
  | x :: xs, y :: ys, i + 1 => zipD_get (xs := xs) (ys := ys) (i := i)
theorem zipD_len : ∀ {xs ys : List D}, (zipD xs ys).length = min xs.length ys.length
  | [], ys => by simp [zipD]
  | x :: xs, [] => by simp [zipD]
  | x :: xs, y :: ys => by
    show (zipD xs ys).length + 1 = _
    rw [zipD_len, List.length_cons, List.length_cons]
    omega
/-- all of some trues -/
theorem bools_const {α : Type} : ∀ {l : List α}, bools (l.filterMap fun _ => some (D.bl true)) = some (l.map fun _ => true)
  | [] => rfl
  | x :: l => by
    show (bools (l.filterMap fun _ => some (D.bl true))).map (true :: ·) = _
    rw [bools_const]
    rfl
theorem all_const {α : Type} {l : List α} : ((l.map fun _ => true).all id) = true := by
  rw [List.all_map, List.all_eq_true]
  intro _ _
  rfl
theorem bools_map {α : Type} : ∀ {l : List α}, bools (l.map fun _ => D.bl true) = some (List.replicate l.length true)
  | [] => rfl
  | x :: l => by
    show (bools (l.map fun _ => D.bl true)).map (true :: ·) = _
    rw [bools_map]
    rfl
theorem all_rep {n : Nat} : (List.replicate n true).all id = true := by
  rw [List.all_eq_true]
  intro x hx
  rw [List.eq_of_mem_replicate hx]
  rfl
theorem size_big : 90000 ≤ sizeLine := by decide
/-- the items of two things side by side -/
theorem same_lc {n f h : Nat} {a b : D} {xs ys sh : List D} (hf : 90000 ≤ fuel) (hx : xs.length < 90000) (hp : xs.length = ys.length) (hk : (Ls sh a xs ∧ Ls sh b ys) ∨ (a = .tup xs ∧ b = .tup ys)) (ih : ∀ (i : Nat) x y, xs[i]? = some x → ys[i]? = some y → callF P fuel n f [x, y] sh = .ok (.fr (.bl true)) sh) :
    evE ⟨fuel, callF P fuel n, P.mets, P.ar⟩ (lc_same f) ⟨[.fr a, .fr b, .un, .un], sh⟩ = .ok (.ow (.lst ((zipD xs ys).filterMap fun _ => some (.bl true)))) ⟨[.fr a, .fr b, .un, .un], sh⟩ := by
  have turnI : ∀ x ∈ zipD xs ys, ∀ s, (∃ u v, s = (⟨[.fr a, .fr b, u, v], sh⟩ : S)) → ∃ s', turn ⟨fuel, callF P fuel n, P.mets, P.ar⟩ (.call f (.cons (.var 2) (.cons (.var 3) (.nil))) []) (.tp [.nm 2, .nm 3]) .nil [2, 3] x s = .ok (some (.bl true)) s' ∧ ∃ u v, s' = (⟨[.fr a, .fr b, u, v], sh⟩ : S) := by
    rintro x hx s ⟨u, v, rfl⟩
    obtain ⟨i, hi⟩ := List.getElem?_of_mem hx
    rw [zipD_get] at hi
    cases q1 : xs[i]? with
    | none => rw [q1] at hi; cases hi
    | some p =>
      cases q2 : ys[i]? with
      | none => rw [q1, q2] at hi; cases hi
      | some q =>
        rw [q1, q2] at hi
        cases hi
        refine ⟨⟨[.fr a, .fr b, .fr p, .fr q], sh⟩, ?_, _, _, rfl⟩
        have e := ih i p q q1 q2
        show (ofFR _ (callF P fuel n f [p, q] sh)).bind _ = _
        rw [e]
        rfl
  have lz : (zipD xs ys).length < 90000 := by rw [zipD_len]; omega
  have sb := size_big
  by_cases hs : isSh a = true ∨ isSh b = true
  · rcases hk with ⟨h1, h2⟩ | ⟨h1, h2⟩
    · have e1 : itemsL (vw sh a) = some xs := by rcases h1 with z | z <;> rw [z] <;> rfl
      have e2 : itemsL (vw sh b) = some ys := by rcases h2 with z | z <;> rw [z] <;> rfl
      have hi : evIt ⟨fuel, callF P fuel n, P.mets, P.ar⟩ (.zip (.cons (.var 0) (.cons (.var 1) .nil))) ⟨[.fr a, .fr b, .un, .un], sh⟩ = .ok (.zsh a b) ⟨[.fr a, .fr b, .un, .un], sh⟩ := by
        show (if isSh a || isSh b then (match itemsL (vw sh a), itemsL (vw sh b) with
          | some _, some _ => Res.ok (Wk.zsh a b) _
          | _, _ => .er) else _) = _
        rw [if_pos (by simpa using hs), e1, e2]
      obtain ⟨s6, ⟨u, v, rfl⟩, e⟩ := lc_live (own := [2, 3]) (l := zipD xs ys) (I := fun s => ∃ u v, s = (⟨[.fr a, .fr b, u, v], sh⟩ : S)) (o := fun _ => some (.bl true)) hi (.inr (.inl ⟨a, b, rfl⟩)) (by
        rintro s i ⟨u, v, rfl⟩
        show (match itemsL (vw sh a), itemsL (vw sh b) with
          | some xs, some ys => some (match xs[i]?, ys[i]? with
            | some x, some y => some (D.tup [x, y])
            | _, _ => none)
          | _, _ => none) = _
        rw [e1, e2, zipD_get]) ⟨_, _, rfl⟩ turnI (by omega) (by show _ < fuel; omega)
      exact e
    · subst h1 h2
      rcases hs with z | z <;> cases z
  · have hs1 : isSh a = false := by
      cases q : isSh a
      · rfl
      · exact absurd (.inl q) hs
    have hs2 : isSh b = false := by
      cases q : isSh b
      · rfl
      · exact absurd (.inr q) hs
    have va : vw sh a = a := by cases a <;> first | rfl | cases hs1
    have vb : vw sh b = b := by cases b <;> first | rfl | cases hs2
    have hi : evIt ⟨fuel, callF P fuel n, P.mets, P.ar⟩ (.zip (.cons (.var 0) (.cons (.var 1) .nil))) ⟨[.fr a, .fr b, .un, .un], sh⟩ = .ok (.xs (zipD xs ys)) ⟨[.fr a, .fr b, .un, .un], sh⟩ := by
      show (if isSh a || isSh b then _ else (match itemsL a, itemsL b with
          | some xs, some ys => Res.ok (Wk.xs (zipD xs ys)) _
          | _, _ => match itemsT a, itemsT b with
            | some xs, some ys => .ok (Wk.xs (zipD xs ys)) _
            | _, _ => .er)) = _
      rw [if_neg (by rw [hs1, hs2]; decide)]
      rcases hk with ⟨h1, h2⟩ | ⟨h1, h2⟩
      · unfold Ls at h1 h2
        rw [va] at h1
        rw [vb] at h2
        rcases h1 with z | z <;> rcases h2 with z' | z' <;> rw [z, z'] <;> rfl
      · rw [h1, h2]; rfl
    obtain ⟨s6, ⟨u, v, rfl⟩, e⟩ := lc_xs (own := [2, 3]) (l := zipD xs ys) (I := fun s => ∃ u v, s = (⟨[.fr a, .fr b, u, v], sh⟩ : S)) (o := fun _ => some (.bl true)) hi ⟨_, _, rfl⟩ turnI (by omega)
    exact e
theorem same_ok {f : Nat} (hP : P.fns[f]? = some ⟨2, 4, b_same f⟩) (hf : 90000 ≤ fuel) {sh : List D} : ∀ {h n : Nat} {a b : D}, Sm sh h a b → h < n → callF P fuel n f [a, b] sh = .ok (.fr (.bl true)) sh := by
  intro h
  induction h with
  | zero =>
    intro n a b hs hn
    obtain ⟨n, rfl⟩ : ∃ m, n = m + 1 := ⟨n - 1, by omega⟩
    obtain ⟨rfl, ha⟩ := hs
    rw [callP hP rfl]
    show outFR (exSs _ (b_same f) ⟨[.fr a, .fr a, .un, .un], sh⟩) = _
    rw [same_atom ha]
    rfl
  | succ h ih =>
    intro n a b hs hn
    obtain ⟨n, rfl⟩ : ∃ m, n = m + 1 := ⟨n - 1, by omega⟩
    rw [callP hP rfl]
    show outFR (exSs _ (b_same f) ⟨[.fr a, .fr b, .un, .un], sh⟩) = _
    rcases hs with ⟨rfl, ha⟩ | ⟨u, v, rfl, rfl⟩ | ⟨xs, ys, ha, hb, hz, hl, hp⟩ | ⟨xs, ys, rfl, rfl, hz, hl, hp⟩
    · rw [same_atom ha]; rfl
    · obtain ⟨n, rfl⟩ : ∃ m, n = m + 1 := ⟨n - 1, by omega⟩
      have e : callF P fuel (n + 1) f [.lst [], .lst []] sh = .ok (.fr (.bl true)) sh := by
        rw [callP hP rfl]
        rfl
      unfold b_same
      rw [exSs_nx (s1 := ⟨[.fr (.dic [] u), .fr (.dic [] v), .un, .un], sh⟩) rfl, exSs_rt (v := .fr (.bl true)) (s1 := ⟨[.fr (.dic [] u), .fr (.dic [] v), .un, .un], sh⟩)]
      · rfl
      simp [exSs, exS, evE, evT, evB, evBs, evEs, evO, evCh, evTs, S.get, S.set, cont, cont2, conts, Res.bind, Res.out, ofOpt, ofFR, setSh, Rv.d, vw_non, vw_bl, vw_int, vw_str, vw_fn, vw_tup, vw_lst, vw_ro, vw_dic, permute, boolOf, fz, outFR, isTyO, okTy, okTg, isTy, tyOf, truth, cmpD, isFn, eqF, isNon, binop, idxD, bcl, items, itemsL, itemsT, List.getD_cons_zero, List.getD_cons_succ, List.set_cons_zero, List.set_cons_succ, bindT, bindT.go, Rv.sl, parSet, e]
    · have lc := same_lc (P := P) (n := n) (f := f) (h := h) (sh := sh) hf hz hl (.inl ⟨ha, hb⟩) fun i x y h1 h2 => ih (hp i x y h1 h2) (by omega)
      generalize he : lc_same f = e at lc
      unfold b_same
      rw [he]
      rw [exSs_rt (v := .fr (.bl true)) (s1 := ⟨[.fr a, .fr b, .un, .un], sh⟩)]
      · rfl
      rcases ha with ha | ha <;> rcases hb with hb | hb <;> simp [exSs, exS, evE, evT, evB, evBs, evEs, evO, evCh, evTs, S.get, S.set, cont, cont2, conts, Res.bind, Res.out, ofOpt, ofFR, setSh, Rv.d, vw_non, vw_bl, vw_int, vw_str, vw_fn, vw_tup, vw_lst, vw_ro, vw_dic, permute, boolOf, fz, outFR, isTyO, okTy, okTg, isTy, tyOf, truth, cmpD, isFn, eqF, isNon, binop, idxD, bcl, items, itemsL, itemsT, List.getD_cons_zero, List.getD_cons_succ, List.set_cons_zero, List.set_cons_succ, bindT, bindT.go, Rv.sl, parSet, ha, hb, lc, hl, bools_map, all_rep, eqD, dp]
    · have lc := same_lc (P := P) (n := n) (f := f) (h := h) (sh := sh) hf hz hl (.inr ⟨rfl, rfl⟩) fun i x y h1 h2 => ih (hp i x y h1 h2) (by omega)
      generalize he : lc_same f = e at lc
      unfold b_same
      rw [he]
      rw [exSs_rt (v := .fr (.bl true)) (s1 := ⟨[.fr (.tup xs), .fr (.tup ys), .un, .un], sh⟩)]
      · rfl
      simp [exSs, exS, evE, evT, evB, evBs, evEs, evO, evCh, evTs, S.get, S.set, cont, cont2, conts, Res.bind, Res.out, ofOpt, ofFR, setSh, Rv.d, vw_non, vw_bl, vw_int, vw_str, vw_fn, vw_tup, vw_lst, vw_ro, vw_dic, permute, boolOf, fz, outFR, isTyO, okTy, okTg, isTy, tyOf, truth, cmpD, isFn, eqF, isNon, binop, idxD, bcl, items, itemsL, itemsT, List.getD_cons_zero, List.getD_cons_succ, List.set_cons_zero, List.set_cons_succ, bindT, bindT.go, Rv.sl, parSet, lc, hl, bools_map, all_rep, eqD, dp]
end
end Ev
end
section
set_option linter.all false
set_option maxRecDepth 100000
set_option maxHeartbeats 1000000
/-! Mix: drawn orders, copies. -/
namespace Ev
open PySem
section
variable {P : Prg} {fuel : Nat}
def b_start : Ss := .cons (.ret (.share (.lst (.cons (.share (.bcl .list (.cons (.var 0) (.nil)))) (.cons (.cst (.int 0)) (.cons (.cst (.int 0)) (.cons (.cst (.int 61)) (.nil))))))))
  (.nil)
theorem start_run {f n : Nat} (hP : P.fns[f]? = some ⟨1, 1, b_start⟩) {ns : List Int} (hz : ns.length < 90000) : ∃ sh, callF P fuel (n + 1) f [.ro (ns.map .int)] [] = .ok (.fr (.sh 1)) sh ∧ SO 0 sh ∧ sh.length = 2 := by
  rw [callP hP rfl]
  refine ⟨[.lst (ns.map .int), .lst [.sh 0, .int 0, .int 0, .int 61]], rfl, ⟨ns, 0, 0, 61, rfl, rfl, by decide, by decide, by decide, by decide, by decide, hz⟩, rfl⟩
/-! ### _law_mixed -/
def mixE (dr : Nat) : E := .mth .pop1 (.var 2) (.cons (.of (.call dr (.cons (.var 0) (.cons (.bcl .len (.cons (.var 2) (.nil))) (.nil))) [])) (.nil))
theorem ixn_nat {n j : Nat} (hj : j < n) : L2.ixN n (j : Nat) = some j := by
  unfold L2.ixN
  simp
  omega
theorem pop1_nat {left : List D} {j : Nat} (hj : j < left.length) (hz : left.length < 90000) : mutM .pop1 (.lst left) [.int (j : Nat)] = some (left[j], .lst (left.eraseIdx j)) := by
  simp only [mutM]
  rw [if_pos ⟨by omega, by omega⟩, ixn_nat hj]
  simp only [Option.bind_some, List.getElem?_eq_getElem hj, Option.map_some]
theorem mix_turn {C : Cf} {dr j : Nat} {x k : D} {x3 : Sl} {left sh sh1 : List D} (e1 : C.rho dr [.sh 1, .int (left.length : Nat)] sh = .ok (.fr (.int (j : Nat))) sh1) (hm : mutM .pop1 (.lst left) [.int (j : Nat)] = some (left[j]!, .lst (left.eraseIdx j))) :
    turn C (mixE dr) (.nm 3) .nil [3] k ⟨[.fr (.sh 1), .fr x, .ow (.lst left), x3], sh⟩ = .ok (some left[j]!) ⟨[.fr (.sh 1), .fr x, .ow (.lst (left.eraseIdx j)), .fr k], sh1⟩ := by
  have e2 : evE C (mixE dr) ⟨[.fr (.sh 1), .fr x, .ow (.lst left), .fr k], sh⟩ = .ok (.fr left[j]!) ⟨[.fr (.sh 1), .fr x, .ow (.lst (left.eraseIdx j)), .fr k], sh1⟩ := by
    refine mth_mut (x := .sl 2) (s1 := ⟨[.fr (.sh 1), .fr x, .ow (.lst left), .fr k], sh⟩) (s2 := ⟨[.fr (.sh 1), .fr x, .ow (.lst left), .fr k], sh1⟩) (xs := [.v (.int (j : Nat))]) rfl rfl ?_ rfl rfl rfl hm rfl
    show ((ofFR _ (C.rho dr [.sh 1, .int (left.length : Nat)] sh)).bind _).bind _ = _
    rw [e1]
    rfl
  show ((evE C (mixE dr) ⟨[.fr (.sh 1), .fr x, .ow (.lst left), .fr k], sh⟩).bind fun r s5 => Res.ok (some r.d) s5) = _
  rw [e2]
  rfl
def lc_mix (dr : Nat) : E := .lc (mixE dr) (.nm 3) (.rng1 (.of (.bcl .len (.cons (.var 2) (.nil))))) (.nil) [3]
def b_mix (dr : Nat) : Ss := .cons (.asg (.nm 2) (.bcl .list (.cons (.var 1) (.nil))))
  (.cons (.ret (lc_mix dr))
  (.nil))
theorem rng_nat {n : Nat} (h : n < 90000) : rngOk (n : Nat) = true := by
  unfold rngOk
  rw [decide_eq_true_eq]
  omega
theorem mix_loop {dr n : Nat} (hD : P.fns[dr]? = some ⟨2, 5, b_draw⟩) (hf : 90000 ≤ fuel) {x : D} : ∀ {l : List D} {left acc : List D} {c : Nat} {sh : List D} {x3 : Sl}, left.length = l.length → SO c sh → c + l.length < 999999999999 → left.length < 90000 → acc.length + l.length ≤ 90000 →
    ∃ r c' sh' x3', compL (turn ⟨fuel, callF P fuel (n + 1), P.mets, P.ar⟩ (mixE dr) (.nm 3) .nil [3]) l acc ⟨[.fr (.sh 1), .fr x, .ow (.lst left), x3], sh⟩ = .ok (acc ++ r) ⟨[.fr (.sh 1), .fr x, .ow (.lst []), x3'], sh'⟩ ∧ r.Perm left ∧ SO c' sh' ∧ c' = c + l.length ∧ Ag sh sh'
  | [], [], acc, c, sh, x3, _, h, _, _, _ => ⟨[], c, sh, x3, by rw [List.append_nil]; rfl, .refl _, h, rfl, Ag.refl⟩
  | [], y :: left, acc, c, sh, x3, hl, _, _, _, _ => by cases hl
  | k :: l, left, acc, c, sh, x3, hl, h, hc, hz, hz2 => by
    rw [List.length_cons] at hl hc hz2
    obtain ⟨d, sh1, e1, d0, d1, h1, ag1⟩ := draw_ok (n := n) hD hf (many := (left.length : Nat)) h (by omega) (by omega) (by omega)
    obtain ⟨j, rfl⟩ := Int.eq_ofNat_of_zero_le d0
    have hj : j < left.length := by omega
    have sb := size_big
    obtain ⟨r, c', sh', x3', e2, p2, h2, ec, ag2⟩ := mix_loop hD hf (x := x) (l := l) (left := left.eraseIdx j) (acc := acc ++ [left[j]]) (c := c + 1) (sh := sh1) (x3 := .fr k) (by rw [List.length_eraseIdx]; simp [hj]; omega) h1 (by omega) (by rw [List.length_eraseIdx]; simp [hj]; omega) (by rw [List.length_append]; simp; omega)
    refine ⟨left[j] :: r, c', sh', x3', ?_, ?_, h2, by rw [ec, List.length_cons]; omega, ag1.trans ag2⟩
    · unfold compL
      have et : turn ⟨fuel, callF P fuel (n + 1), P.mets, P.ar⟩ (mixE dr) (.nm 3) .nil [3] k ⟨[.fr (.sh 1), .fr x, .ow (.lst left), x3], sh⟩ = .ok (some left[j]) ⟨[.fr (.sh 1), .fr x, .ow (.lst (left.eraseIdx j)), .fr k], sh1⟩ := by
        have z := mix_turn (C := ⟨fuel, callF P fuel (n + 1), P.mets, P.ar⟩) (x := x) (k := k) (x3 := x3) e1 (by rw [pop1_nat hj hz, getElem!_pos left j hj])
        rw [getElem!_pos left j hj] at z
        exact z
      rw [et]
      show (if acc.length < sizeLine then compL _ l (acc ++ [left[j]]) _ else .er) = _
      rw [if_pos (by omega), e2, List.append_assoc]
      rfl
    · have p3 : (left[j] :: left.eraseIdx j).Perm left := by
        have : left.Perm (left[j] :: left.eraseIdx j) := by
          rw [List.eraseIdx_eq_take_drop_succ]
          have e := List.take_append_drop j left
          conv => lhs; rw [← e, List.drop_eq_getElem_cons hj]
          exact List.perm_middle
        exact this.symm
      exact (p2.cons _).trans p3
theorem mix_ok' {dr f n c : Nat} (hP : P.fns[f]? = some ⟨2, 4, b_mix dr⟩) (hD : P.fns[dr]? = some ⟨2, 5, b_draw⟩) (hf : 90000 ≤ fuel) {x : D} {l sh : List D} (hx : items (vw sh x) = some l) (h : SO c sh) (hc : c + l.length < 999999999999) (hz : l.length < 90000) :
    ∃ r sh', callF P fuel (n + 2) f [.sh 1, x] sh = .ok (.ow (.lst r)) sh' ∧ r.Perm l ∧ SO (c + l.length) sh' ∧ Ag sh sh' := by
  rw [callP hP rfl]
  obtain ⟨r, c', sh', x3', e, p, h', ec, ag⟩ := mix_loop (P := P) (n := n) hD hf (x := x) (l := rangeD 0 l.length) (left := l) (acc := []) (c := c) (sh := sh) (x3 := .un) (by unfold rangeD; simp) h (by unfold rangeD; simpa using hc) hz (by unfold rangeD; simp; omega)
  have lr : (rangeD 0 (l.length : Nat)).length = l.length := by unfold rangeD; simp
  refine ⟨r, sh', ?_, p, by rw [lr] at ec; rw [← ec]; exact h', ag⟩
  show outFR (exSs _ (b_mix dr) ⟨[.fr (.sh 1), .fr x, .un, .un], sh⟩) = _
  unfold b_mix
  have e1 : exS ⟨fuel, callF P fuel (n + 1), P.mets, P.ar⟩ (.asg (.nm 2) (.bcl .list (.cons (.var 1) (.nil)))) ⟨[.fr (.sh 1), .fr x, .un, .un], sh⟩ = .nx ⟨[.fr (.sh 1), .fr x, .ow (.lst l), .un], sh⟩ := by
    have hv : vw sh x = .tup l ∨ vw sh x = .lst l ∨ vw sh x = .ro l := by
      cases q : vw sh x <;> rw [q] at hx <;> cases hx
      · exact .inl rfl
      · exact .inr (.inl rfl)
      · exact .inr (.inr rfl)
    show ((ofOpt ((some [vw sh x]).bind (bcl .list)) _).out _) = _
    rcases hv with hv | hv | hv <;> rw [hv] <;> rfl
  rw [exSs_nx e1]
  have hi : evIt ⟨fuel, callF P fuel (n + 1), P.mets, P.ar⟩ (.rng1 (.of (.bcl .len (.cons (.var 2) (.nil))))) ⟨[.fr (.sh 1), .fr x, .ow (.lst l), .un], sh⟩ = .ok (.xs (rangeD 0 l.length)) ⟨[.fr (.sh 1), .fr x, .ow (.lst l), .un], sh⟩ := by
    exact rng1_of (x := .v (.int (l.length : Nat))) rfl rfl (rng_nat hz)
  have e2 : evE ⟨fuel, callF P fuel (n + 1), P.mets, P.ar⟩ (lc_mix dr) ⟨[.fr (.sh 1), .fr x, .ow (.lst l), .un], sh⟩ = .ok (.ow (.lst r)) ⟨[.fr (.sh 1), .fr x, .ow (.lst []), .un], sh'⟩ := by
    unfold lc_mix
    rw [lc_eq, hi]
    simp only [Res.bind, runWk, Wk.own]
    rw [e]
    simp only [noEx, List.nil_append, restore]
    rfl
  have e3 : exS ⟨fuel, callF P fuel (n + 1), P.mets, P.ar⟩ (.ret (lc_mix dr)) ⟨[.fr (.sh 1), .fr x, .ow (.lst l), .un], sh⟩ = .rt (.ow (.lst r)) ⟨[.fr (.sh 1), .fr x, .ow (.lst []), .un], sh'⟩ := by
    exact ret_of e2
  rw [exSs_rt e3]
  rfl
end
end Ev
end
section
set_option linter.all false
set_option maxRecDepth 100000
set_option maxHeartbeats 1000000
/-! Cop: copies, loose copies. -/
namespace Ev
open PySem
section
variable {P : Prg} {fuel : Nat}
def lc_cp (f : Nat) : E := .lc (.call f (.cons (.var 3) (.nil)) []) (.nm 3) (.seq (.var 0) true) (.nil) [3]
def b_cp (f : Nat) : Ss := .cons (.iff (.of (.of (.isi (.var 0) [.ty "dict"]))) (.cons (.ret (.bcl .dict1 (.cons (.of (.lc (.tup (.cons (.var 2) (.cons (.call f (.cons (.idx (.var 0) (.var 2)) (.nil)) []) (.nil)))) (.nm 2) (.keys 0) (.nil) [2])) (.nil))))
  (.nil)) (.nil))
  (.cons (.iff (.not (.of (.of (.isi (.var 0) [.ty "list", .ty "tuple"])))) (.cons (.retv 0)
  (.nil)) (.nil))
  (.cons (.asg (.nm 1) (lc_cp f))
  (.cons (.ret (.ife (.of (.of (.isi (.var 0) [.ty "list"]))) (.var 1) (.bcl .tuple (.cons (.var 1) (.nil)))))
  (.nil))))
/-- plain things, so many deep -/
def Gd : Nat → D → Prop
  | 0, d => atom d = true
  | h + 1, d => atom d = true ∨ d = .dic [] [] ∨ ∃ xs, (d = .tup xs ∨ d = .lst xs) ∧ xs.length < 90000 ∧ ∀ x ∈ xs, Gd h x
def cpR : D → Rv
  | .dic ks vs => .ow (.dic ks vs)
  | d => .fr d
theorem cpR_d {d : D} : (cpR d).d = d := by cases d <;> rfl
theorem filterMap_some {l : List D} : l.filterMap (fun x => some x) = l := by
  induction l with
  | nil => rfl
  | cons x l ih => rw [List.filterMap_cons, ih]
theorem cp_ok {f : Nat} (hP : P.fns[f]? = some ⟨1, 4, b_cp f⟩) {sh : List D} : ∀ {h n : Nat} {d : D}, Gd h d → h < n → callF P fuel n f [d] sh = .ok (cpR d) sh := by
  have at_ : ∀ {n : Nat} {d : D}, atom d = true → callF P fuel (n + 1) f [d] sh = .ok (cpR d) sh := fun {n d} ha => by
    rw [callP hP rfl]
    cases d <;> first | rfl | cases ha
  intro h
  induction h with
  | zero =>
    intro n d hs hn
    obtain ⟨n, rfl⟩ : ∃ m, n = m + 1 := ⟨n - 1, by omega⟩
    exact at_ hs
  | succ h ih =>
    intro n d hs hn
    obtain ⟨n, rfl⟩ : ∃ m, n = m + 1 := ⟨n - 1, by omega⟩
    rcases hs with ha | rfl | ⟨xs, hd, hz, hx⟩
    · exact at_ ha
    · rw [callP hP rfl]
      rfl
    · have sb := size_big
      have hi : evIt ⟨fuel, callF P fuel n, P.mets, P.ar⟩ (.seq (.var 0) true) ⟨[.fr d, .un, .un, .un], sh⟩ = .ok (.xs xs) ⟨[.fr d, .un, .un, .un], sh⟩ := by
        rcases hd with rfl | rfl <;> rfl
      obtain ⟨s6, ⟨v, rfl⟩, e⟩ := lc_xs (elt := .call f (.cons (.var 3) (.nil)) []) (tg := .nm 3) (ifs := .nil) (own := [3]) (I := fun s => ∃ v, s = (⟨[.fr d, .un, .un, v], sh⟩ : S)) (o := fun x => some x) hi ⟨_, rfl⟩ (by
        rintro x hx' s ⟨v, rfl⟩
        refine ⟨⟨[.fr d, .un, .un, .fr x], sh⟩, ?_, _, rfl⟩
        have e := ih (hx x hx') (show h < n by omega)
        show (ofFR _ (callF P fuel n f [x] sh)).bind _ = _
        rw [e]
        show Res.ok (some (cpR x).d) _ = _
        rw [cpR_d]
        rfl) (by omega)
      rw [filterMap_some] at e
      have e : evE ⟨fuel, callF P fuel n, P.mets, P.ar⟩ (lc_cp f) ⟨[.fr d, .un, .un, .un], sh⟩ = .ok (.ow (.lst xs)) ⟨[.fr d, .un, .un, .un], sh⟩ := e
      rw [callP hP rfl]
      show outFR (exSs _ (b_cp f) ⟨[.fr d, .un, .un, .un], sh⟩) = _
      unfold b_cp
      rw [exSs_nx (s1 := ⟨[.fr d, .un, .un, .un], sh⟩) (by rcases hd with rfl | rfl <;> rfl), exSs_nx (s1 := ⟨[.fr d, .un, .un, .un], sh⟩) (by rcases hd with rfl | rfl <;> rfl), exSs_nx (asg_nm e)]
      rcases hd with rfl | rfl <;> rfl
/-! ### _law_loose -/
def lc_lo (f : Nat) : E := .lc (.call f (.cons (.var 0) (.cons (.var 4) (.nil))) []) (.nm 4) (.seq (.var 1) true) (.nil) [4]
def b_lo (f dr mx : Nat) : Ss := .cons (.iff (.of (.of (.isi (.var 1) [.ty "dict"]))) (.cons (.ret (.bcl .dict1 (.cons (.of (.lc (.tup (.cons (.var 3) (.cons (.call f (.cons (.var 0) (.cons (.idx (.var 1) (.var 3)) (.nil))) []) (.nil)))) (.nm 3) (.seq (.of (.call mx (.cons (.var 0) (.cons (.bcl .list (.cons (.var 1) (.nil))) (.nil))) [])) false) (.nil) [3])) (.nil))))
  (.nil)) (.nil))
  (.cons (.iff (.not (.of (.of (.isi (.var 1) [.ty "list", .ty "tuple"])))) (.cons (.retv 1)
  (.nil)) (.nil))
  (.cons (.asg (.nm 2) (lc_lo f))
  (.cons (.ret (.ife (.cmp .Eq (.of (.call dr (.cons (.var 0) (.cons (.cst (.int 3)) (.nil))) [])) (.of (.cst (.int 0)))) (.var 2) (.bcl .tuple (.cons (.var 2) (.nil)))))
  (.nil))))
/-- plain things without dicts -/
def Gn : Nat → D → Prop
  | 0, d => atom d = true
  | h + 1, d => atom d = true ∨ ∃ xs, (d = .tup xs ∨ d = .lst xs) ∧ xs.length < 90000 ∧ ∀ x ∈ xs, Gn h x
def sz : Nat → D → Nat
  | 0, _ => 0
  | h + 1, .tup xs => 1 + (xs.map (sz h)).sum
  | h + 1, .lst xs => 1 + (xs.map (sz h)).sum
  | _ + 1, _ => 0
inductive Lo : D → D → Prop
  | atom {d} : Ev.atom d = true → Lo d d
  | con {d d' xs ys} : (d = .tup xs ∨ d = .lst xs) → (d' = .tup ys ∨ d' = .lst ys) → xs.length = ys.length → (∀ (i : Nat) x y, xs[i]? = some x → ys[i]? = some y → Lo x y) → Lo d d'
theorem lo_loop {f n : Nat} {d : D} {w : D → Nat} : ∀ {l acc : List D} {c : Nat} {sh : List D} {v : Sl}, (∀ x ∈ l, ∀ c sh, SO c sh → c + w x < 999999999999 → ∃ d' sh', callF P fuel n f [.sh 1, x] sh = .ok (.fr d') sh' ∧ Lo x d' ∧ SO (c + w x) sh' ∧ Ag sh sh') → SO c sh → c + (l.map w).sum < 999999999999 → acc.length + l.length < 90000 →
    ∃ ys sh' v', compL (turn ⟨fuel, callF P fuel n, P.mets, P.ar⟩ (.call f (.cons (.var 0) (.cons (.var 4) (.nil))) []) (.nm 4) .nil [4]) l acc ⟨[.fr (.sh 1), .fr d, .un, .un, v], sh⟩ = .ok (acc ++ ys) ⟨[.fr (.sh 1), .fr d, .un, .un, v'], sh'⟩ ∧ l.length = ys.length ∧ (∀ (i : Nat) x y, l[i]? = some x → ys[i]? = some y → Lo x y) ∧ SO (c + (l.map w).sum) sh' ∧ Ag sh sh'
  | [], acc, c, sh, v, _, h, _, _ => ⟨[], sh, v, by rw [List.append_nil]; rfl, rfl, fun i x y e => by simp at e, h, Ag.refl⟩
  | x :: l, acc, c, sh, v, hf, h, hc, hz => by
    rw [List.map_cons, List.sum_cons] at hc
    rw [List.length_cons] at hz
    have sb := size_big
    obtain ⟨d', sh1, e1, lo1, h1, ag1⟩ := hf x List.mem_cons_self c sh h (by omega)
    obtain ⟨ys, sh2, v', e2, l2, p2, h2, ag2⟩ := lo_loop (l := l) (acc := acc ++ [d']) (c := c + w x) (sh := sh1) (v := .fr x) (fun y hy => hf y (List.mem_cons_of_mem _ hy)) h1 (by omega) (by rw [List.length_append]; simp; omega)
    refine ⟨d' :: ys, sh2, v', ?_, by rw [List.length_cons, List.length_cons, l2], fun i a b ha hb => ?_, by rw [List.map_cons, List.sum_cons, ← Nat.add_assoc]; exact h2, ag1.trans ag2⟩
    · unfold compL
      have et : turn ⟨fuel, callF P fuel n, P.mets, P.ar⟩ (.call f (.cons (.var 0) (.cons (.var 4) (.nil))) []) (.nm 4) .nil [4] x ⟨[.fr (.sh 1), .fr d, .un, .un, v], sh⟩ = .ok (some d') ⟨[.fr (.sh 1), .fr d, .un, .un, .fr x], sh1⟩ := by
        show (ofFR _ (callF P fuel n f [.sh 1, x] sh)).bind _ = _
        rw [e1]
        rfl
      rw [et]
      show (if acc.length < sizeLine then compL _ l (acc ++ [d']) _ else .er) = _
      rw [if_pos (by omega), e2, List.append_assoc]
      rfl
    · cases i with
      | zero =>
        simp at ha hb
        subst ha hb
        exact lo1
      | succ i => exact p2 i a b (by simpa using ha) (by simpa using hb)
theorem lo_ok {f dr mx : Nat} (hP : P.fns[f]? = some ⟨2, 5, b_lo f dr mx⟩) (hD : P.fns[dr]? = some ⟨2, 5, b_draw⟩) (hf : 90000 ≤ fuel) : ∀ {h n : Nat} {d : D} {c : Nat} {sh : List D}, Gn h d → h + 1 < n → SO c sh → c + sz h d < 999999999999 →
    ∃ d' sh', callF P fuel n f [.sh 1, d] sh = .ok (.fr d') sh' ∧ Lo d d' ∧ SO (c + sz h d) sh' ∧ Ag sh sh' := by
  have at_ : ∀ {n : Nat} {d : D} {sh : List D}, atom d = true → callF P fuel (n + 1) f [.sh 1, d] sh = .ok (.fr d) sh := fun {n d sh} ha => by
    rw [callP hP rfl]
    cases d <;> first | rfl | cases ha
  have sz0 : ∀ {h : Nat} {d : D}, atom d = true → sz h d = 0 := fun {h d} ha => by
    cases h <;> cases d <;> first | rfl | cases ha
  intro h
  induction h with
  | zero =>
    intro n d c sh hs hn hS hc
    obtain ⟨n, rfl⟩ : ∃ m, n = m + 1 := ⟨n - 1, by omega⟩
    exact ⟨d, sh, at_ hs, .atom hs, hS, Ag.refl⟩
  | succ h ih =>
    intro n d c sh hs hn hS hc
    obtain ⟨n, rfl⟩ : ∃ m, n = m + 1 := ⟨n - 1, by omega⟩
    rcases hs with ha | ⟨xs, hd, hz, hx⟩
    · exact ⟨d, sh, at_ ha, .atom ha, by rw [sz0 ha]; exact hS, Ag.refl⟩
    · have es : sz (h + 1) d = 1 + (xs.map (sz h)).sum := by rcases hd with rfl | rfl <;> rfl
      rw [es] at hc ⊢
      have hi : evIt ⟨fuel, callF P fuel n, P.mets, P.ar⟩ (.seq (.var 1) true) ⟨[.fr (.sh 1), .fr d, .un, .un, .un], sh⟩ = .ok (.xs xs) ⟨[.fr (.sh 1), .fr d, .un, .un, .un], sh⟩ := by
        rcases hd with rfl | rfl <;> rfl
      obtain ⟨ys, sh1, v', e1, l1, p1, h1, ag1⟩ := lo_loop (P := P) (fuel := fuel) (f := f) (n := n) (d := d) (w := sz h) (l := xs) (acc := []) (c := c) (sh := sh) (v := .un) (fun x hx' c sh hS hc => ih (hx x hx') (by omega) hS hc) hS (by omega) (by simpa using hz)
      obtain ⟨m, rfl⟩ : ∃ m, n = m + 1 := ⟨n - 1, by omega⟩
      obtain ⟨k, sh2, e2, k0, k1, h2, ag2⟩ := draw_ok (P := P) (fuel := fuel) (n := m) hD hf (many := 3) h1 (by omega) (by decide) (by decide)
      have e : evE ⟨fuel, callF P fuel (m + 1), P.mets, P.ar⟩ (lc_lo f) ⟨[.fr (.sh 1), .fr d, .un, .un, .un], sh⟩ = .ok (.ow (.lst ys)) ⟨[.fr (.sh 1), .fr d, .un, .un, .un], sh1⟩ := by
        unfold lc_lo
        rw [lc_eq, hi]
        show (noEx (compL (turn _ _ _ _ [4]) xs [] _)).bind _ = _
        rw [e1]
        rfl
      have hd1 : ∀ d : D, (d = .tup xs ∨ d = .lst xs) → exS ⟨fuel, callF P fuel (m + 1), P.mets, P.ar⟩ (.iff (.of (.of (.isi (.var 1) [.ty "dict"]))) (.cons (.ret (.bcl .dict1 (.cons (.of (.lc (.tup (.cons (.var 3) (.cons (.call f (.cons (.var 0) (.cons (.idx (.var 1) (.var 3)) (.nil))) []) (.nil)))) (.nm 3) (.seq (.of (.call mx (.cons (.var 0) (.cons (.bcl .list (.cons (.var 1) (.nil))) (.nil))) [])) false) (.nil) [3])) (.nil)))) (.nil)) (.nil)) ⟨[.fr (.sh 1), .fr d, .un, .un, .un], sh⟩ = .nx ⟨[.fr (.sh 1), .fr d, .un, .un, .un], sh⟩ := fun d hd => by rcases hd with rfl | rfl <;> rfl
      have hd2 : ∀ d : D, (d = .tup xs ∨ d = .lst xs) → exS ⟨fuel, callF P fuel (m + 1), P.mets, P.ar⟩ (.iff (.not (.of (.of (.isi (.var 1) [.ty "list", .ty "tuple"])))) (.cons (.retv 1) (.nil)) (.nil)) ⟨[.fr (.sh 1), .fr d, .un, .un, .un], sh⟩ = .nx ⟨[.fr (.sh 1), .fr d, .un, .un, .un], sh⟩ := fun d hd => by rcases hd with rfl | rfl <;> rfl
      have ec : evE ⟨fuel, callF P fuel (m + 1), P.mets, P.ar⟩ (.call dr (.cons (.var 0) (.cons (.cst (.int 3)) (.nil))) []) ⟨[.fr (.sh 1), .fr d, .ow (.lst ys), .un, .un], sh1⟩ = .ok (.fr (.int k)) ⟨[.fr (.sh 1), .fr d, .ow (.lst ys), .un, .un], sh2⟩ := call_of (s1 := ⟨[.fr (.sh 1), .fr d, .ow (.lst ys), .un, .un], sh1⟩) (ds := [.sh 1, .int 3]) rfl e2
      have et : evT ⟨fuel, callF P fuel (m + 1), P.mets, P.ar⟩ (.cmp .Eq (.of (.call dr (.cons (.var 0) (.cons (.cst (.int 3)) (.nil))) [])) (.of (.cst (.int 0)))) ⟨[.fr (.sh 1), .fr d, .ow (.lst ys), .un, .un], sh1⟩ = .ok (k == 0) ⟨[.fr (.sh 1), .fr d, .ow (.lst ys), .un, .un], sh2⟩ :=
        T_cmp (x := .v (.int k)) (y := .v (.int 0)) (s1 := ⟨[.fr (.sh 1), .fr d, .ow (.lst ys), .un, .un], sh2⟩) (d := .int k) (d' := .int 0) (B_of ec) rfl rfl rfl rfl
      have er : ∃ d', (d' = .tup ys ∨ d' = .lst ys) ∧ ∃ s9, s9.sh = sh2 ∧ exS ⟨fuel, callF P fuel (m + 1), P.mets, P.ar⟩ (.ret (.ife (.cmp .Eq (.of (.call dr (.cons (.var 0) (.cons (.cst (.int 3)) (.nil))) [])) (.of (.cst (.int 0)))) (.var 2) (.bcl .tuple (.cons (.var 2) (.nil))))) ⟨[.fr (.sh 1), .fr d, .ow (.lst ys), .un, .un], sh1⟩ = .rt (.fr d') s9 := by
        cases hb : (k == 0) with
        | true =>
          rw [hb] at et
          refine ⟨.lst ys, .inr rfl, ⟨[.fr (.sh 1), .fr d, .fr (.lst ys), .un, .un], sh2⟩, rfl, ret_of ?_⟩
          rw [evE, et]
          rfl
        | false =>
          rw [hb] at et
          refine ⟨.tup ys, .inl rfl, ⟨[.fr (.sh 1), .fr d, .ow (.lst ys), .un, .un], sh2⟩, rfl, ret_of ?_⟩
          rw [evE, et]
          rfl
      obtain ⟨d', hd', s9, e9, er⟩ := er
      refine ⟨d', sh2, ?_, .con hd hd' l1 p1, by rw [show c + (1 + (xs.map (sz h)).sum) = c + (xs.map (sz h)).sum + 1 by omega]; exact h2, ag1.trans ag2⟩
      rw [callP hP rfl]
      show outFR (exSs _ (b_lo f dr mx) ⟨[.fr (.sh 1), .fr d, .un, .un, .un], sh⟩) = _
      unfold b_lo
      rw [exSs_nx (hd1 d hd), exSs_nx (hd2 d hd), exSs_nx (asg_nm e)]
      show outFR (exSs _ (.cons _ .nil) ⟨[.fr (.sh 1), .fr d, .ow (.lst ys), .un, .un], sh1⟩) = _
      rw [exSs_rt er]
      show FR.ok (.fr d') s9.sh = _
      rw [e9]
end
end Ev
end
section
set_option linter.all false
set_option maxRecDepth 100000
set_option maxHeartbeats 1000000
/-! Apart: told things changed throughout; none stands in two places. -/
namespace Ev
open PySem
def late9 : D := .str "late9"
/-- leaves -/
def leaf : D → Bool
  | .non => true | .bl _ => true | .int _ => true
  | .str z => !(z == ("late9" : Str))
  | _ => false
/-- a tree of tuples and shared lists; ks: its lists -/
def Fo (sh : List D) : Nat → D → List Nat → Prop
  | 0, d, ks => leaf d = true ∧ ks = []
  | h + 1, d, ks => (leaf d = true ∧ ks = []) ∨ (∃ (xs : List D) (kss : List (List Nat)), d = .tup xs ∧ xs.length < 80000 ∧ kss.length = xs.length ∧ (∀ (i : Nat) x a, xs[i]? = some x → kss[i]? = some a → Fo sh h x a) ∧ ks = kss.flatten) ∨
    ∃ (k : Nat) (xs : List D) (kss : List (List Nat)), d = .sh k ∧ sh[k]? = some (.lst xs) ∧ xs.length < 80000 ∧ kss.length = xs.length ∧ (∀ (i : Nat) x a, xs[i]? = some x → kss[i]? = some a → Fo sh h x a) ∧ ks = kss.flatten ++ [k]
def late : D → D
  | .lst xs => .lst (xs ++ [late9])
  | d => d
def spo (ks : List Nat) (sh : List D) : List D := sh.mapIdx fun i d => if i ∈ ks then late d else d
theorem spo_get {ks : List Nat} {sh : List D} {i : Nat} : (spo ks sh)[i]? = (sh[i]?).map fun d => if i ∈ ks then late d else d := by
  unfold spo
  rw [List.getElem?_mapIdx]
theorem spo_off {ks : List Nat} {sh : List D} {i : Nat} (h : i ∉ ks) : (spo ks sh)[i]? = sh[i]? := by
  rw [spo_get]
  cases sh[i]? with
  | none => rfl
  | some d => simp [h]
theorem spo_nil {sh : List D} : spo [] sh = sh := by
  apply List.ext_getElem?
  intro i
  rw [spo_off (by simp)]
theorem spo_app {a b : List Nat} {sh : List D} (h : ∀ i ∈ a, i ∉ b) : spo b (spo a sh) = spo (a ++ b) sh := by
  apply List.ext_getElem?
  intro i
  rw [spo_get, spo_get, spo_get]
  cases sh[i]? with
  | none => rfl
  | some d =>
    simp only [Option.map_some, Option.some.injEq]
    by_cases ha : i ∈ a
    · have hb := h i ha
      simp [ha, hb]
    · simp [ha]
theorem spo_len {a : List Nat} {sh : List D} : (spo a sh).length = sh.length := by
  unfold spo
  rw [List.length_mapIdx]
theorem spo_one {k : Nat} {sh : List D} {xs : List D} (h : sh[k]? = some (.lst xs)) : sh.set k (.lst (xs ++ [late9])) = spo [k] sh := by
  apply List.ext_getElem?
  intro i
  rw [spo_get]
  by_cases hi : k = i
  · subst hi
    rw [List.getElem?_set_self (List.getElem?_eq_some_iff.mp h).1, h]
    simp [late]
  · rw [List.getElem?_set_ne hi]
    cases sh[i]? with
    | none => rfl
    | some d => simp [Ne.symm hi]
theorem Fo.congr {sh sh' : List D} : ∀ {h : Nat} {d : D} {ks : List Nat}, Fo sh h d ks → (∀ i ∈ ks, sh'[i]? = sh[i]?) → Fo sh' h d ks := by
  intro h
  induction h with
  | zero => intro d ks hf _; exact hf
  | succ h ih =>
    intro d ks hf hk
    rcases hf with hf | ⟨xs, kss, rfl, hz, hl, hp, rfl⟩ | ⟨k, xs, kss, rfl, hs, hz, hl, hp, rfl⟩
    · exact .inl hf
    · refine .inr (.inl ⟨xs, kss, rfl, hz, hl, fun i x a h1 h2 => ih (hp i x a h1 h2) fun j hj => hk j ?_, rfl⟩)
      exact List.mem_flatten.mpr ⟨a, List.mem_of_getElem? h2, hj⟩
    · refine .inr (.inr ⟨k, xs, kss, rfl, by rw [hk k (by simp)]; exact hs, hz, hl, fun i x a h1 h2 => ih (hp i x a h1 h2) fun j hj => hk j ?_, rfl⟩)
      exact List.mem_append_left _ (List.mem_flatten.mpr ⟨a, List.mem_of_getElem? h2, hj⟩)
theorem take_flat {kss : List (List Nat)} {i : Nat} {a : List Nat} (h : kss[i]? = some a) : (kss.take (i + 1)).flatten = (kss.take i).flatten ++ a := by
  rw [List.take_succ, h]
  simp
theorem flat_disj {kss : List (List Nat)} {i : Nat} {a : List Nat} (nd : kss.flatten.Nodup) (h : kss[i]? = some a) : (∀ j ∈ (kss.take i).flatten, j ∉ a) ∧ a.Nodup := by
  have e : kss.flatten = (kss.take i).flatten ++ (a ++ (kss.drop (i + 1)).flatten) := by
    obtain ⟨hl, ha⟩ := List.getElem?_eq_some_iff.mp h
    conv => lhs; rw [← List.take_append_drop i kss, List.drop_eq_getElem_cons hl, ha]
    simp
  rw [e, List.nodup_append] at nd
  obtain ⟨_, n2, n3⟩ := nd
  rw [List.nodup_append] at n2
  exact ⟨fun j hj hja => n3 j hj j (List.mem_append_left _ hja) rfl, n2.1⟩
section
variable {P : Prg} {fuel : Nat}
def b_spoil (f : Nat) : Ss := .cons (.iff (.of (.of (.isi (.var 0) [.ty "dict"]))) (.cons .nev (.cons .nev (.nil))) (.nil))
  (.cons (.iff (.of (.of (.isi (.var 0) [.ty "list", .ty "tuple"]))) (.cons (.for (.nm 2) (.seq (.var 0) false) (.cons (.exp (.call f (.cons (.var 2) (.nil)) []))
  (.nil)))
  (.nil)) (.nil))
  (.cons (.iff (.of (.of (.isi (.var 0) [.ty "list"]))) (.cons (.exp (.app (.var 0) (.cst (.str "late9"))))
  (.nil)) (.nil))
  (.nil)))
theorem spoil_turn {f n : Nat} {d x : D} {v : Sl} {sh sh' : List D} (e : callF P fuel n f [x] sh = .ok (.fr .non) sh') :
    turnS ⟨fuel, callF P fuel n, P.mets, P.ar⟩ (.nm 2) (.cons (.exp (.call f (.cons (.var 2) (.nil)) [])) (.nil)) x ⟨[.fr d, .un, v], sh⟩ = .nx ⟨[.fr d, .un, .fr x], sh'⟩ := by
  show exSs _ (.cons (.exp (.call f (.cons (.var 2) (.nil)) [])) (.nil)) ⟨[.fr d, .un, .fr x], sh⟩ = _
  have ec : evE ⟨fuel, callF P fuel n, P.mets, P.ar⟩ (.call f (.cons (.var 2) (.nil)) []) ⟨[.fr d, .un, .fr x], sh⟩ = .ok (.fr .non) ⟨[.fr d, .un, .fr x], sh'⟩ := call_of (s1 := ⟨[.fr d, .un, .fr x], sh⟩) (ds := [x]) rfl e
  rw [exSs_nx (exp_of ec)]
  rfl
theorem spoil_ok {f : Nat} (hP : P.fns[f]? = some ⟨1, 3, b_spoil f⟩) (hf : 90000 ≤ fuel) : ∀ {h n : Nat} {d : D} {ks : List Nat} {sh : List D}, Fo sh h d ks → ks.Nodup → h < n → callF P fuel n f [d] sh = .ok (.fr .non) (spo ks sh) := by
  have at_ : ∀ {n : Nat} {d : D} {sh : List D}, leaf d = true → callF P fuel (n + 1) f [d] sh = .ok (.fr .non) (spo [] sh) := fun {n d sh} ha => by
    rw [callP hP rfl, spo_nil]
    cases d <;> first | rfl | cases ha
  intro h
  induction h with
  | zero =>
    intro n d ks sh hs nd hn
    obtain ⟨n, rfl⟩ : ∃ m, n = m + 1 := ⟨n - 1, by omega⟩
    obtain ⟨h1, rfl⟩ := hs
    exact at_ h1
  | succ h ih =>
    intro n d ks sh hs nd hn
    obtain ⟨n, rfl⟩ : ∃ m, n = m + 1 := ⟨n - 1, by omega⟩
    rcases hs with ⟨h1, rfl⟩ | ⟨xs, kss, rfl, hz, hl, hp, rfl⟩ | ⟨k, xs, kss, rfl, hs, hz, hl, hp, rfl⟩
    · exact at_ h1
    · -- a tuple
      obtain ⟨s', e, v, hI⟩ := forL_n (f := turnS ⟨fuel, callF P fuel n, P.mets, P.ar⟩ (.nm 2) (.cons (.exp (.call f (.cons (.var 2) (.nil)) [])) (.nil))) (I := fun i s => ∃ v, s = (⟨[.fr (.tup xs), .un, v], spo (kss.take i).flatten sh⟩ : S)) (l := xs) (j := 0) (s := ⟨[.fr (.tup xs), .un, .un], sh⟩) ⟨.un, by simp [spo_nil]⟩ (by
        rintro i x hx s ⟨v, rfl⟩
        rw [Nat.zero_add]
        have hi : i < kss.length := by rw [hl]; exact (List.getElem?_eq_some_iff.mp hx).1
        have ha := List.getElem?_eq_getElem hi
        obtain ⟨dj, nda⟩ := flat_disj nd ha
        have fo := (hp i x _ hx ha).congr (sh' := spo (kss.take i).flatten sh) fun j hj => spo_off fun z => dj j z hj
        have e := ih fo nda (by omega : h < n)
        rw [spo_app dj, ← take_flat ha] at e
        exact ⟨_, spoil_turn e, .fr x, rfl⟩)
      subst hI
      rw [Nat.zero_add, ← hl, List.take_length] at e
      rw [callP hP rfl]
      show outFR (exSs _ (b_spoil f) ⟨[.fr (.tup xs), .un, .un], sh⟩) = _
      unfold b_spoil
      have e2 : exS ⟨fuel, callF P fuel n, P.mets, P.ar⟩ (.for (.nm 2) (.seq (.var 0) false) (.cons (.exp (.call f (.cons (.var 2) (.nil)) [])) (.nil))) ⟨[.fr (.tup xs), .un, .un], sh⟩ = .nx ⟨[.fr (.tup xs), .un, v], spo kss.flatten sh⟩ := by
        rw [for_xs (l := xs) (s1 := ⟨[.fr (.tup xs), .un, .un], sh⟩) rfl]
        exact e
      have e3 : exS ⟨fuel, callF P fuel n, P.mets, P.ar⟩ (.iff (.of (.of (.isi (.var 0) [.ty "list", .ty "tuple"]))) (.cons (.for (.nm 2) (.seq (.var 0) false) (.cons (.exp (.call f (.cons (.var 2) (.nil)) [])) (.nil))) (.nil)) (.nil)) ⟨[.fr (.tup xs), .un, .un], sh⟩ = .nx ⟨[.fr (.tup xs), .un, v], spo kss.flatten sh⟩ := by
        rw [iff_t (s1 := ⟨[.fr (.tup xs), .un, .un], sh⟩) rfl, exSs_nx e2]
        rfl
      rw [exSs_nx (s1 := ⟨[.fr (.tup xs), .un, .un], sh⟩) rfl, exSs_nx e3]
      rfl
    · -- a list
      have nd' := List.nodup_append.mp nd
      have hk : k ∉ kss.flatten := fun z => nd'.2.2 k z k (by simp) rfl
      have hkt : ∀ i, k ∉ (kss.take i).flatten := fun i z => by
        obtain ⟨a, ha, hka⟩ := List.mem_flatten.mp z
        exact hk (List.mem_flatten.mpr ⟨a, List.mem_of_mem_take ha, hka⟩)
      have gk : ∀ i, (spo (kss.take i).flatten sh).getD k .non = .lst xs := fun i => by
        rw [List.getD_eq_getElem?_getD, spo_off (hkt i), hs]; rfl
      obtain ⟨s', e, v, hI⟩ := forS_n (f := turnS ⟨fuel, callF P fuel n, P.mets, P.ar⟩ (.nm 2) (.cons (.exp (.call f (.cons (.var 2) (.nil)) [])) (.nil))) (I := fun i s => ∃ v, s = (⟨[.fr (.sh k), .un, v], spo (kss.take i).flatten sh⟩ : S)) (l := xs) (wk := .shl k) (n := fuel) (i := 0) (s := ⟨[.fr (.sh k), .un, .un], sh⟩) (by
        rintro s i ⟨v, rfl⟩
        show (match (spo (kss.take i).flatten sh).getD k .non with
          | .lst xs => some xs[i]?
          | _ => none) = _
        rw [gk i]) (by
        rintro i x hx s ⟨v, rfl⟩
        have hi : i < kss.length := by rw [hl]; exact (List.getElem?_eq_some_iff.mp hx).1
        have ha := List.getElem?_eq_getElem hi
        obtain ⟨dj, nda⟩ := flat_disj nd'.1 ha
        have fo := (hp i x _ hx ha).congr (sh' := spo (kss.take i).flatten sh) fun j hj => spo_off fun z => dj j z hj
        have e := ih fo nda (by omega : h < n)
        rw [spo_app dj, ← take_flat ha] at e
        exact ⟨_, spoil_turn e, .fr x, rfl⟩) (Nat.zero_le _) ⟨.un, by simp [spo_nil]⟩ (by omega)
      subst hI
      rw [← hl, List.take_length] at e
      have gk2 : vw (spo kss.flatten sh) (.sh k) = .lst xs := by
        show (spo kss.flatten sh).getD k .non = _
        rw [List.getD_eq_getElem?_getD, spo_off hk, hs]; rfl
      have g0 : vw sh (.sh k) = .lst xs := by
        show sh.getD k .non = _
        rw [List.getD_eq_getElem?_getD, hs]; rfl
      rw [callP hP rfl]
      show outFR (exSs _ (b_spoil f) ⟨[.fr (.sh k), .un, .un], sh⟩) = _
      unfold b_spoil
      have isiT : ∀ {C : Cf} {ts : List D} {sh : List D} {v : Sl} {c : Bool}, vw sh (.sh k) = .lst xs → isTyO (.lst xs) ts = some c → evT C (.of (.of (.isi (.var 0) ts))) ⟨[.fr (.sh k), .un, v], sh⟩ = .ok c ⟨[.fr (.sh k), .un, v], sh⟩ := fun {C ts sh v c} g hc => by
        refine T_bl ?_
        rw [evE]
        show ofOpt ((isTyO (vw sh (.sh k)) ts).map fun c => Rv.fr (.bl c)) _ = _
        rw [g, hc]
        rfl
      have hi : evIt ⟨fuel, callF P fuel n, P.mets, P.ar⟩ (.seq (.var 0) false) ⟨[.fr (.sh k), .un, .un], sh⟩ = .ok (.shl k) ⟨[.fr (.sh k), .un, .un], sh⟩ := by
        show (match vw sh (.sh k) with
          | .lst _ => Res.ok (Wk.shl k) _
          | _ => .er) = _
        rw [g0]
      have e2 : exS ⟨fuel, callF P fuel n, P.mets, P.ar⟩ (.for (.nm 2) (.seq (.var 0) false) (.cons (.exp (.call f (.cons (.var 2) (.nil)) [])) (.nil))) ⟨[.fr (.sh k), .un, .un], sh⟩ = .nx ⟨[.fr (.sh k), .un, v], spo kss.flatten sh⟩ := by
        rw [for_shl hi]
        exact e
      have e3 : exS ⟨fuel, callF P fuel n, P.mets, P.ar⟩ (.iff (.of (.of (.isi (.var 0) [.ty "list", .ty "tuple"]))) (.cons (.for (.nm 2) (.seq (.var 0) false) (.cons (.exp (.call f (.cons (.var 2) (.nil)) [])) (.nil))) (.nil)) (.nil)) ⟨[.fr (.sh k), .un, .un], sh⟩ = .nx ⟨[.fr (.sh k), .un, v], spo kss.flatten sh⟩ := by
        rw [iff_t (isiT g0 rfl), exSs_nx e2]
        rfl
      have sb := size_big
      have hkl : k < (spo kss.flatten sh).length := by rw [spo_len]; exact (List.getElem?_eq_some_iff.mp hs).1
      have e4 : exS ⟨fuel, callF P fuel n, P.mets, P.ar⟩ (.exp (.app (.var 0) (.cst (.str "late9")))) ⟨[.fr (.sh k), .un, v], spo kss.flatten sh⟩ = .nx ⟨[.fr (.sh k), .un, v], spo (kss.flatten ++ [k]) sh⟩ := by
        refine exp_of (r := .fr .non) ?_
        have es := spo_one (k := k) (sh := spo kss.flatten sh) (xs := xs) (by rw [spo_off hk]; exact hs)
        rw [spo_app (fun i hi z => by rw [List.mem_singleton.mp z] at hi; exact hk hi)] at es
        refine app_of (x := .v (.sh k)) (xs := xs) (ys := xs) (r := .fr late9) rfl (congrArg some gk2) rfl (congrArg some gk2) (by omega) ?_
        show (if k < (spo kss.flatten sh).length then some (⟨[.fr (.sh k), .un, v], (spo kss.flatten sh).set k (.lst (xs ++ [late9]))⟩ : S) else none) = _
        rw [if_pos hkl, es]
      rw [exSs_nx (s1 := ⟨[.fr (.sh k), .un, .un], sh⟩) (by rw [iff_f (isiT g0 rfl)]; rfl), exSs_nx e3, exSs_nx (s1 := ⟨[.fr (.sh k), .un, v], spo (kss.flatten ++ [k]) sh⟩) (by rw [iff_t (isiT gk2 rfl), exSs_nx e4]; rfl)]
      rfl
def lc_once (f : Nat) : E := .lc (.call f (.cons (.var 3) (.nil)) []) (.nm 3) (.seq (.var 0) true) (.nil) [3]
def cnt_once : E := .mth .count (.of (.bcl .list (.cons (.var 0) (.nil)))) (.cons (.of (.cst (.str "late9"))) (.nil))
def b_once (f : Nat) : Ss := .cons (.iff (.of (.of (.isi (.var 0) [.ty "dict"]))) (.cons .nev (.nil)) (.nil))
  (.cons (.iff (.of (.of (.isi (.var 0) [.ty "list", .ty "tuple"]))) (.cons (.asg (.nm 1) (.bcl .int (.cons (.of (.isi (.var 0) [.ty "list"])) (.nil))))
  (.cons (.ret (.and (.cmp .Eq (.of cnt_once) (.var 1)) (.one (.bcl .all (.cons (.of (lc_once f)) (.nil))))))
  (.nil))) (.nil))
  (.cons (.ret (.cst (.bl true)))
  (.nil)))
/-- how a leaf, a tuple, a shared list compares with the word -/
def nl (sh : List D) : D → Bool
  | .tup _ => true
  | .sh k => (match sh.getD k .non with
    | .lst _ => true
    | _ => false)
  | d => leaf d
theorem eq_late {sh : List D} {d : D} (h : nl sh d = true) : eqD sh dp d late9 = some false := by
  cases d with
  | str z =>
    have h : (!(z == ("late9" : Str))) = true := h
    show some (z == ("late9" : Str)) = _
    rw [Bool.not_eq_true'] at h
    rw [h]
  | sh k =>
    show (match sh.getD k .non with | .lst _ => some false | _ => none) = some false
    have h : (match sh.getD k .non with | .lst _ => true | _ => false) = true := h
    cases q : sh.getD k .non <;> rw [q] at h <;> first | rfl | cases h
  | _ => first | rfl | cases h
theorem eqs_late {sh : List D} : ∀ {xs : List D}, (∀ x ∈ xs, nl sh x = true) → eqsD sh late9 xs = some (xs.map fun _ => false)
  | [], _ => rfl
  | x :: xs, h => by
    show (eqD sh dp x late9).bind (fun c => (eqsD sh late9 xs).map (c :: ·)) = _
    rw [eq_late (h x List.mem_cons_self), eqs_late fun y hy => h y (List.mem_cons_of_mem _ hy)]
    rfl
theorem eqs_late1 {sh : List D} : ∀ {xs : List D}, (∀ x ∈ xs, nl sh x = true) → eqsD sh late9 (xs ++ [late9]) = some ((xs.map fun _ => false) ++ [true])
  | [], _ => by
    show (some (("late9" : Str) == ("late9" : Str))).bind _ = _
    rw [beq_self_eq_true]
    rfl
  | x :: xs, h => by
    show (eqD sh dp x late9).bind (fun c => (eqsD sh late9 (xs ++ [late9])).map (c :: ·)) = _
    rw [eq_late (h x List.mem_cons_self), eqs_late1 fun y hy => h y (List.mem_cons_of_mem _ hy)]
    rfl
theorem cnt0 {xs : List D} : (xs.map fun _ => false).countP id = 0 := by
  rw [List.countP_map]
  exact List.countP_eq_zero.mpr fun _ _ => by simp
theorem cnt_of {C : Cf} {d : D} {ys sh : List D} {bs : List Bool} {v1 v2 v3 : Sl} (hd : vw sh d = .lst ys ∨ vw sh d = .tup ys) (hb : eqsD sh late9 ys = some bs) : evE C cnt_once ⟨[.fr d, v1, v2, v3], sh⟩ = .ok (.fr (.int (bs.countP id : Nat))) ⟨[.fr d, v1, v2, v3], sh⟩ := by
  have hl : evB C (.of (.bcl .list (.cons (.var 0) (.nil)))) ⟨[.fr d, v1, v2, v3], sh⟩ = .ok (.v (.lst ys)) ⟨[.fr d, v1, v2, v3], sh⟩ := B_of (r := .ow (.lst ys)) (bcl1 (x := .v d) (d := vw sh d) rfl rfl (by rcases hd with h | h <;> rw [h] <;> rfl))
  unfold cnt_once
  rw [evE, hl]
  show ofOpt ((eqsD sh late9 ys).map fun bs => Rv.fr (.int (bs.countP id : Nat))) _ = _
  rw [hb]
  rfl
theorem once_ok {f : Nat} (hP : P.fns[f]? = some ⟨1, 4, b_once f⟩) (hf : 90000 ≤ fuel) {sh0 sh : List D} : ∀ {h n : Nat} {d : D} {ks : List Nat}, Fo sh0 h d ks → (∀ k ∈ ks, sh[k]? = (sh0[k]?).map late) → h < n → 1 < n → callF P fuel n f [d] sh = .ok (.fr (.bl true)) sh := by
  have at_ : ∀ {n : Nat} {d : D}, leaf d = true ∨ d = late9 → callF P fuel (n + 1) f [d] sh = .ok (.fr (.bl true)) sh := fun {n d} ha => by
    rw [callP hP rfl]
    rcases ha with ha | rfl
    · cases d <;> first | rfl | cases ha
    · rfl
  intro h
  induction h with
  | zero =>
    intro n d ks hs hk hn hn1
    obtain ⟨n, rfl⟩ : ∃ m, n = m + 1 := ⟨n - 1, by omega⟩
    exact at_ (.inl hs.1)
  | succ h ih =>
    intro n d ks hs hk hn hn1
    obtain ⟨n, rfl⟩ : ∃ m, n = m + 1 := ⟨n - 1, by omega⟩
    -- what stands in a row of trees
    have nlx : ∀ {d : D} {ks : List Nat}, Fo sh0 h d ks → (∀ k ∈ ks, sh[k]? = (sh0[k]?).map late) → nl sh d = true := fun {d ks} fo hk => by
      have lf : leaf d = true → nl sh d = true := fun z => by cases d <;> first | exact z | cases z
      cases h with
      | zero => exact lf fo.1
      | succ h =>
        rcases fo with ⟨h1, _⟩ | ⟨xs, kss, rfl, _⟩ | ⟨k, xs, kss, rfl, h2, _, _, _, rfl⟩
        · exact lf h1
        · rfl
        · have z := hk k (by simp)
          rw [h2] at z
          show (match sh.getD k .non with | .lst _ => true | _ => false) = true
          rw [List.getD_eq_getElem?_getD, z]
          rfl
    have all_ : ∀ {xs : List D} {kss : List (List Nat)}, kss.length = xs.length → (∀ (i : Nat) x a, xs[i]? = some x → kss[i]? = some a → Fo sh0 h x a) → (∀ k ∈ kss.flatten, sh[k]? = (sh0[k]?).map late) → ∀ x ∈ xs, nl sh x = true ∧ callF P fuel n f [x] sh = .ok (.fr (.bl true)) sh := fun {xs kss} hl hp hk x hx => by
      obtain ⟨i, hi⟩ := List.getElem?_of_mem hx
      have hi2 : i < kss.length := by rw [hl]; exact (List.getElem?_eq_some_iff.mp hi).1
      have ha := List.getElem?_eq_getElem hi2
      have fo := hp i x _ hi ha
      have hk' : ∀ k ∈ kss[i], sh[k]? = (sh0[k]?).map late := fun k hkk => hk k (List.mem_flatten.mpr ⟨_, List.getElem_mem hi2, hkk⟩)
      refine ⟨nlx fo hk', ?_⟩
      by_cases hn2 : 1 < n
      · exact ih fo hk' (by omega) hn2
      · -- h = 0
        have h0 : h = 0 := by omega
        subst h0
        obtain ⟨n, rfl⟩ : ∃ m, n = m + 1 := ⟨n - 1, by omega⟩
        exact at_ (.inl fo.1)
    have sb := size_big
    have turnI : ∀ {d : D} {l : List D}, (∀ x ∈ l, callF P fuel n f [x] sh = .ok (.fr (.bl true)) sh) → ∀ {m : D}, ∀ x ∈ l, ∀ s, (∃ v, s = (⟨[.fr d, .fr m, .un, v], sh⟩ : S)) → ∃ s', turn ⟨fuel, callF P fuel n, P.mets, P.ar⟩ (.call f (.cons (.var 3) (.nil)) []) (.nm 3) .nil [3] x s = .ok (some (.bl true)) s' ∧ ∃ v, s' = (⟨[.fr d, .fr m, .un, v], sh⟩ : S) := by
      rintro d l hl m x hx s ⟨v, rfl⟩
      refine ⟨⟨[.fr d, .fr m, .un, .fr x], sh⟩, ?_, _, rfl⟩
      show (ofFR _ (callF P fuel n f [x] sh)).bind _ = _
      rw [hl x hx]
      rfl
    rcases hs with ⟨h1, rfl⟩ | ⟨xs, kss, rfl, hz, hl, hp, rfl⟩ | ⟨k, xs, kss, rfl, hs, hz, hl, hp, rfl⟩
    · exact at_ (.inl h1)
    · have al := all_ hl hp hk
      obtain ⟨s6, ⟨v, rfl⟩, e⟩ := lc_xs (elt := .call f (.cons (.var 3) (.nil)) []) (tg := .nm 3) (ifs := .nil) (own := [3]) (it := .seq (.var 0) true) (l := xs) (s := ⟨[.fr (.tup xs), .fr (.int 0), .un, .un], sh⟩) (s1 := ⟨[.fr (.tup xs), .fr (.int 0), .un, .un], sh⟩) (I := fun s => ∃ v, s = (⟨[.fr (.tup xs), .fr (.int 0), .un, v], sh⟩ : S)) (o := fun x => some (.bl true)) rfl ⟨_, rfl⟩ (turnI fun x hx => (al x hx).2) (by omega)
      have ec := cnt_of (C := ⟨fuel, callF P fuel n, P.mets, P.ar⟩) (d := .tup xs) (ys := xs) (sh := sh) (v1 := .fr (.int 0)) (v2 := .un) (v3 := .un) (.inr rfl) (eqs_late fun x hx => (al x hx).1)
      rw [cnt0] at ec
      have ea : evE ⟨fuel, callF P fuel n, P.mets, P.ar⟩ (.one (.bcl .all (.cons (.of (lc_once f)) (.nil)))) ⟨[.fr (.tup xs), .fr (.int 0), .un, .un], sh⟩ = .ok (.fr (.bl true)) ⟨[.fr (.tup xs), .fr (.int 0), .un, .un], sh⟩ := by
        rw [E_one]
        refine bcl1 (B_of e) rfl ?_
        show (bools (xs.filterMap fun _ => some (.bl true))).map (fun bs => Rv.fr (.bl (bs.all id))) = _
        rw [bools_const]
        show some (Rv.fr (.bl ((xs.map fun _ => true).all id))) = _
        rw [all_const]
      have er : exS ⟨fuel, callF P fuel n, P.mets, P.ar⟩ (.ret (.and (.cmp .Eq (.of cnt_once) (.var 1)) (.one (.bcl .all (.cons (.of (lc_once f)) (.nil)))))) ⟨[.fr (.tup xs), .fr (.int 0), .un, .un], sh⟩ = .rt (.fr (.bl true)) ⟨[.fr (.tup xs), .fr (.int 0), .un, .un], sh⟩ := by
        refine ret_of ?_
        rw [E_and_t (E_cmp (x := .v (.int 0)) (y := .v (.int 0)) (d := .int 0) (d' := .int 0) (B_of ec) rfl rfl rfl rfl)]
        exact ea
      rw [callP hP rfl]
      show outFR (exSs _ (b_once f) ⟨[.fr (.tup xs), .un, .un, .un], sh⟩) = _
      unfold b_once
      rw [exSs_nx (s1 := ⟨[.fr (.tup xs), .un, .un, .un], sh⟩) rfl, exSs_rt (v := .fr (.bl true)) (s1 := ⟨[.fr (.tup xs), .fr (.int 0), .un, .un], sh⟩) (by
        rw [iff_t (s1 := ⟨[.fr (.tup xs), .un, .un, .un], sh⟩) rfl, exSs_nx (s1 := ⟨[.fr (.tup xs), .fr (.int 0), .un, .un], sh⟩) rfl, exSs_rt er])]
      rfl
    · have hkf : ∀ j ∈ kss.flatten, sh[j]? = (sh0[j]?).map late := fun j hj => hk j (List.mem_append_left _ hj)
      have al := all_ hl hp hkf
      have gk : vw sh (.sh k) = .lst (xs ++ [late9]) := by
        show sh.getD k .non = _
        rw [List.getD_eq_getElem?_getD, hk k (by simp), hs]
        rfl
      obtain ⟨n, rfl⟩ : ∃ m, n = m + 1 := ⟨n - 1, by omega⟩
      have isiT : ∀ {C : Cf} {ts : List D} {v1 v2 v3 : Sl} {c : Bool}, isTyO (.lst (xs ++ [late9])) ts = some c → evE C (.isi (.var 0) ts) ⟨[.fr (.sh k), v1, v2, v3], sh⟩ = .ok (.fr (.bl c)) ⟨[.fr (.sh k), v1, v2, v3], sh⟩ := fun {C ts v1 v2 v3 c} hc => by
        rw [evE]
        show ofOpt ((isTyO (vw sh (.sh k)) ts).map fun c => Rv.fr (.bl c)) _ = _
        rw [gk, hc]
        rfl
      have hi : evIt ⟨fuel, callF P fuel (n + 1), P.mets, P.ar⟩ (.seq (.var 0) true) ⟨[.fr (.sh k), .fr (.int 1), .un, .un], sh⟩ = .ok (.shl k) ⟨[.fr (.sh k), .fr (.int 1), .un, .un], sh⟩ := by
        show (match vw sh (.sh k) with
          | .lst _ => Res.ok (Wk.shl k) _
          | _ => .er) = _
        rw [gk]
      obtain ⟨s6, ⟨v, rfl⟩, e⟩ := lc_live (elt := .call f (.cons (.var 3) (.nil)) []) (tg := .nm 3) (ifs := .nil) (own := [3]) (l := xs ++ [late9]) (I := fun s => ∃ v, s = (⟨[.fr (.sh k), .fr (.int 1), .un, v], sh⟩ : S)) (o := fun x => some (.bl true)) hi (.inl ⟨k, rfl⟩) (by
        rintro s i ⟨v, rfl⟩
        show (match vw sh (.sh k) with | .lst xs => some xs[i]? | _ => none) = _
        rw [gk]) ⟨_, rfl⟩ (turnI fun x hx => by
          rcases List.mem_append.mp hx with hx | hx
          · exact (al x hx).2
          · rw [List.mem_singleton.mp hx]
            exact at_ (.inr rfl)) (by rw [List.length_append]; simp; omega) (by show _ < fuel; rw [List.length_append]; simp; omega)
      have ec := cnt_of (C := ⟨fuel, callF P fuel (n + 1), P.mets, P.ar⟩) (d := .sh k) (ys := xs ++ [late9]) (sh := sh) (v1 := .fr (.int 1)) (v2 := .un) (v3 := .un) (.inl gk) (eqs_late1 fun x hx => (al x hx).1)
      rw [List.countP_append, cnt0] at ec
      have ea : evE ⟨fuel, callF P fuel (n + 1), P.mets, P.ar⟩ (.one (.bcl .all (.cons (.of (lc_once f)) (.nil)))) ⟨[.fr (.sh k), .fr (.int 1), .un, .un], sh⟩ = .ok (.fr (.bl true)) ⟨[.fr (.sh k), .fr (.int 1), .un, .un], sh⟩ := by
        rw [E_one]
        refine bcl1 (B_of e) rfl ?_
        show (bools ((xs ++ [late9]).filterMap fun _ => some (.bl true))).map (fun bs => Rv.fr (.bl (bs.all id))) = _
        rw [bools_const]
        show some (Rv.fr (.bl (((xs ++ [late9]).map fun _ => true).all id))) = _
        rw [all_const]
      have er : exS ⟨fuel, callF P fuel (n + 1), P.mets, P.ar⟩ (.ret (.and (.cmp .Eq (.of cnt_once) (.var 1)) (.one (.bcl .all (.cons (.of (lc_once f)) (.nil)))))) ⟨[.fr (.sh k), .fr (.int 1), .un, .un], sh⟩ = .rt (.fr (.bl true)) ⟨[.fr (.sh k), .fr (.int 1), .un, .un], sh⟩ := by
        refine ret_of ?_
        rw [E_and_t (E_cmp (x := .v (.int 1)) (y := .v (.int 1)) (d := .int 1) (d' := .int 1) (B_of ec) rfl rfl rfl rfl)]
        exact ea
      have ei : exS ⟨fuel, callF P fuel (n + 1), P.mets, P.ar⟩ (.asg (.nm 1) (.bcl .int (.cons (.of (.isi (.var 0) [.ty "list"])) (.nil)))) ⟨[.fr (.sh k), .un, .un, .un], sh⟩ = .nx ⟨[.fr (.sh k), .fr (.int 1), .un, .un], sh⟩ :=
        asg_nm (r := .fr (.int 1)) (bcl1 (x := .v (.bl true)) (d := .bl true) (B_of (isiT rfl)) rfl rfl)
      rw [callP hP rfl]
      show outFR (exSs _ (b_once f) ⟨[.fr (.sh k), .un, .un, .un], sh⟩) = _
      unfold b_once
      rw [exSs_nx (s1 := ⟨[.fr (.sh k), .un, .un, .un], sh⟩) (by rw [iff_f (T_bl (isiT rfl))]; rfl), exSs_rt (v := .fr (.bl true)) (s1 := ⟨[.fr (.sh k), .fr (.int 1), .un, .un], sh⟩) (by
        rw [iff_t (T_bl (isiT rfl)), exSs_nx ei, exSs_rt er])]
      rfl
def b_apart (sp on : Nat) : Ss := .cons (.exp (.call sp (.cons (.var 0) (.nil)) []))
  (.cons (.ret (.call on (.cons (.var 0) (.nil)) []))
  (.nil))
theorem apart_ok {f sp on : Nat} (hP : P.fns[f]? = some ⟨1, 1, b_apart sp on⟩) (hS : P.fns[sp]? = some ⟨1, 3, b_spoil sp⟩) (hO : P.fns[on]? = some ⟨1, 4, b_once on⟩) (hf : 90000 ≤ fuel) {h n : Nat} {d : D} {ks : List Nat} {sh : List D} (fo : Fo sh h d ks) (nd : ks.Nodup) (hn : h < n) (hn1 : 1 < n) :
    callF P fuel (n + 1) f [d] sh = .ok (.fr (.bl true)) (spo ks sh) := by
  have e1 := spoil_ok (P := P) hS hf fo nd hn
  have e2 := once_ok (P := P) (sh := spo ks sh) hO hf fo (fun k hk => by
    rw [spo_get]
    simp [hk]) hn hn1
  rw [callP hP rfl]
  show outFR (exSs _ (b_apart sp on) ⟨[.fr d], sh⟩) = _
  unfold b_apart
  have c1 : evE ⟨fuel, callF P fuel n, P.mets, P.ar⟩ (.call sp (.cons (.var 0) (.nil)) []) ⟨[.fr d], sh⟩ = .ok (.fr .non) ⟨[.fr d], spo ks sh⟩ := call_of (s1 := ⟨[.fr d], sh⟩) (ds := [d]) rfl e1
  have c2 : evE ⟨fuel, callF P fuel n, P.mets, P.ar⟩ (.call on (.cons (.var 0) (.nil)) []) ⟨[.fr d], spo ks sh⟩ = .ok (.fr (.bl true)) ⟨[.fr d], spo ks sh⟩ := call_of (s1 := ⟨[.fr d], spo ks sh⟩) (ds := [d]) rfl e2
  rw [exSs_nx (exp_of c1), exSs_rt (ret_of c2)]
  rfl
end
end Ev
end
section
set_option linter.all false
set_option maxRecDepth 100000
set_option maxHeartbeats 1000000
/-! Gen: of any program. -/
namespace Gp
open PySem Ev
def rngI (lo hi : Int) : List Int := (List.range (hi - lo).toNat).map fun k => lo + (k : Nat)
theorem rangeD_eq {lo hi : Int} : rangeD lo hi = (rngI lo hi).map D.int := by
  unfold rangeD rngI
  rw [List.map_map]
  rfl
theorem mem_rng {lo hi i : Int} : i ∈ rngI lo hi ↔ lo ≤ i ∧ i < hi := by
  unfold rngI
  rw [List.mem_map]
  constructor
  · rintro ⟨k, hk, rfl⟩
    rw [List.mem_range] at hk
    omega
  · rintro ⟨h1, h2⟩
    exact ⟨(i - lo).toNat, by rw [List.mem_range]; omega, by omega⟩
theorem rng_len {lo hi : Int} : (rngI lo hi).length = (hi - lo).toNat := by unfold rngI; simp
theorem rng_small {j : Int} (h1 : -90000 < j) (h2 : j < 90000) : rngOk j = true := by
  unfold rngOk
  rw [decide_eq_true_eq]
  omega
theorem idx_of {C : Cf} {a i : B} {s s1 s2 : S} {x y : Op} {d d' r : D} (ha : evB C a s = .ok x s1) (hb : evB C i s1 = .ok y s2) (hx : cont s2 x = some d) (hy : cont s2 y = some d') (hr : idxD d d' = some r) : evE C (.idx a i) s = .ok (.fr r) s2 := by
  rw [evE, ha]
  show ((evB C i s1).bind fun y s2 => ofOpt ((cont2 s2 x y idxD).map Rv.fr) s2) = _
  rw [hb]
  show ofOpt ((cont2 s2 x y idxD).map Rv.fr) s2 = _
  unfold cont2
  rw [hx]
  show ofOpt (((cont s2 y).bind fun b => idxD d b).map Rv.fr) s2 = _
  rw [hy]
  show ofOpt ((idxD d d').map Rv.fr) s2 = _
  rw [hr]
  rfl
theorem slc_of {C : Cf} {a : B} {s s1 : S} {l : List D} {k : Int} (h : evB C a s = .ok (.v (.lst l)) s1) : evE C (.slc a .no (.so (.of (.cst (.int k))))) s = .ok (.ow (.lst (cutL l none (some k)))) s1 := by
  rw [evE, h]
  show ((evO C .no s1).bind fun l' s2 => (evO C (.so (.of (.cst (.int k)))) s2).bind fun h s3 => ofOpt ((cont s3 (.v (.lst l))).bind fun d => slcD d l' h) s3) = _
  rw [evO]
  show ((evO C (.so (.of (.cst (.int k)))) s1).bind fun h s3 => ofOpt ((cont s3 (.v (.lst l))).bind fun d => slcD d none h) s3) = _
  rw [evO, evB, evE]
  rfl
theorem seq_xs {C : Cf} {b : B} {s s1 : S} {l : List D} (h : evB C b s = .ok (.v (.lst l)) s1) : evIt C (.seq b false) s = .ok (.xs l) s1 := by
  rw [evIt, h]
  rfl
theorem v_fr {C : Cf} {i : Nat} {s : S} {d : D} (h : s.get i = .fr d) : evE C (.var i) s = .ok (.fr d) s := by
  rw [evE, h]
theorem v_ow {C : Cf} {i : Nat} {s : S} {d : D} (h : s.get i = .ow d) : evE C (.var i) s = .ok (.fr d) (s.set i (.fr d)) := by
  rw [evE, h]
theorem SO_app {c : Nat} {sh l : List D} (h : SO c sh) : SO c (sh ++ l) := by
  obtain ⟨cs, a, k, m, h1, h2, h3⟩ := h
  have l0 := (List.getElem?_eq_some_iff.mp h1).1
  have l1 := (List.getElem?_eq_some_iff.mp h2).1
  exact ⟨cs, a, k, m, by rw [List.getElem?_append_left l0]; exact h1, by rw [List.getElem?_append_left l1]; exact h2, h3⟩
theorem SO_set {c k : Nat} {d : D} {sh : List D} (h : SO c sh) (hk : 2 ≤ k) : SO c (sh.set k d) := by
  obtain ⟨cs, a, k', m, h1, h2, h3⟩ := h
  exact ⟨cs, a, k', m, by rw [List.getElem?_set_ne (by omega)]; exact h1, by rw [List.getElem?_set_ne (by omega)]; exact h2, h3⟩
theorem SO_le {c c' : Nat} {sh : List D} (h : SO c sh) (hc : c ≤ c') : SO c' sh := by
  obtain ⟨cs, a, k, m, h1, h2, h3, h4, h5, h6⟩ := h
  exact ⟨cs, a, k, m, h1, h2, h3, h4, by omega, h6⟩
theorem SO_len {c : Nat} {sh : List D} (h : SO c sh) : 2 ≤ sh.length := by
  obtain ⟨cs, a, k, m, h1, h2, h3⟩ := h
  exact (List.getElem?_eq_some_iff.mp h2).1
theorem last_get {sh : List D} {d : D} : (sh ++ [d])[sh.length]? = some d := by simp
theorem set_last {sh : List D} {d d' : D} : (sh ++ [d]).set sh.length d' = sh ++ [d'] := by simp
theorem ls_last {sh : List D} {xs : List D} : Ls (sh ++ [.lst xs]) (.sh sh.length) xs := by
  refine .inl ?_
  show (sh ++ [D.lst xs]).getD sh.length .non = _
  rw [List.getD_eq_getElem?_getD, last_get]
  rfl
theorem pt2 {R : D → D → Prop} {a b x y : D} (h1 : R a x) (h2 : R b y) : Pt R [a, b] [x, y] := ⟨rfl, fun i p q hp hq => by
  match i with
  | 0 => simp at hp hq; subst hp hq; exact h1
  | 1 => simp at hp hq; subst hp hq; exact h2
  | i + 2 => simp at hp⟩
theorem pt3 {R : D → D → Prop} {a b c x y z : D} (h1 : R a x) (h2 : R b y) (h3 : R c z) : Pt R [a, b, c] [x, y, z] := ⟨rfl, fun i p q hp hq => by
  match i with
  | 0 => simp at hp hq; subst hp hq; exact h1
  | 1 => simp at hp hq; subst hp hq; exact h2
  | 2 => simp at hp hq; subst hp hq; exact h3
  | i + 3 => simp at hp⟩
theorem pt4 {R : D → D → Prop} {a b c d x y z w : D} (h1 : R a x) (h2 : R b y) (h3 : R c z) (h4 : R d w) : Pt R [a, b, c, d] [x, y, z, w] := ⟨rfl, fun i p q hp hq => by
  match i with
  | 0 => simp at hp hq; subst hp hq; exact h1
  | 1 => simp at hp hq; subst hp hq; exact h2
  | 2 => simp at hp hq; subst hp hq; exact h3
  | 3 => simp at hp hq; subst hp hq; exact h4
  | i + 4 => simp at hp⟩
theorem pt_refl {R : D → D → Prop} {xs : List D} (h : ∀ x ∈ xs, R x x) : Pt R xs xs := ⟨rfl, fun i p q hp hq => by
  rw [hp] at hq
  cases hq
  exact h p (List.mem_of_getElem? hp)⟩
theorem Sm_at {sh : List D} {h : Nat} {d : D} (ha : atom d = true) : Sm sh h d d := by
  cases h with
  | zero => exact ⟨rfl, ha⟩
  | succ h => exact .inl ⟨rfl, ha⟩
theorem Sm_gd {sh : List D} : ∀ {h : Nat} {d : D}, Gd h d → Sm sh h d d
  | 0, d, g => ⟨rfl, g⟩
  | h + 1, d, g => by
    rcases g with ha | rfl | ⟨xs, hd, hz, hx⟩
    · exact .inl ⟨rfl, ha⟩
    · exact .inr (.inl ⟨_, _, rfl, rfl⟩)
    · rcases hd with rfl | rfl
      · exact .inr (.inr (.inr ⟨xs, xs, rfl, rfl, hz, pt_refl fun x h => Sm_gd (hx x h)⟩))
      · exact .inr (.inr (.inl ⟨xs, xs, .inl rfl, .inl rfl, hz, pt_refl fun x h => Sm_gd (hx x h)⟩))
theorem Sm_tup {sh : List D} {h : Nat} {xs ys : List D} (hz : xs.length < 90000) (p : Pt (Sm sh h) xs ys) : Sm sh (h + 1) (.tup xs) (.tup ys) := .inr (.inr (.inr ⟨xs, ys, rfl, rfl, hz, p⟩))
theorem Sm_lst {sh : List D} {h : Nat} {a b : D} {xs ys : List D} (ha : Ls sh a xs) (hb : Ls sh b ys) (hz : xs.length < 90000) (p : Pt (Sm sh h) xs ys) : Sm sh (h + 1) a b := .inr (.inr (.inl ⟨xs, ys, ha, hb, hz, p⟩))
theorem Sm_l3 {sh : List D} {h : Nat} {m a b c x y z : D} (hl : Ls sh m [a, b, c]) (h1 : Sm sh h a x) (h2 : Sm sh h b y) (h3 : Sm sh h c z) : Sm sh (h + 1) m (.lst [x, y, z]) := Sm_lst hl (.inl rfl) (by show 3 < 90000; omega) (pt3 h1 h2 h3)
theorem Sm_l2 {sh : List D} {h : Nat} {m a b x y : D} (hl : Ls sh m [a, b]) (h1 : Sm sh h a x) (h2 : Sm sh h b y) : Sm sh (h + 1) m (.lst [x, y]) := Sm_lst hl (.inl rfl) (by show 2 < 90000; omega) (pt2 h1 h2)
theorem Sm_t2 {sh : List D} {h : Nat} {a b x y : D} (h1 : Sm sh h a x) (h2 : Sm sh h b y) : Sm sh (h + 1) (.tup [a, b]) (.tup [x, y]) := Sm_tup (by show 2 < 90000; omega) (pt2 h1 h2)
theorem Gd_at {h : Nat} {d : D} (ha : atom d = true) : Gd h d := by
  cases h with
  | zero => exact ha
  | succ h => exact .inl ha
theorem Gd_sq {h : Nat} {d : D} {xs : List D} (hd : d = .tup xs ∨ d = .lst xs) (hz : xs.length < 90000) (hx : ∀ x ∈ xs, Gd h x) : Gd (h + 1) d := .inr (.inr ⟨xs, hd, hz, hx⟩)
theorem slc_mem {l r : List D} {hi : Option Int} (h : slcD (.lst l) none hi = some (.ow (.lst r))) : ∀ x ∈ r, x ∈ l := by
  have h : some (Rv.ow (.lst (cutL l none hi))) = some (.ow (.lst r)) := h
  cases h
  intro x hx
  unfold cutL at hx
  exact List.mem_of_mem_drop (List.mem_of_mem_take hx)
theorem slc_len {l : List D} {hi : Option Int} : (cutL l none hi).length ≤ l.length := by
  unfold cutL
  rw [List.length_take, List.length_drop]
  omega
theorem par2 {C : Cf} {e1 e2 : E} {i j : Nat} {r1 r2 : Rv} {s s1 s2 : S} (h1 : evE C e1 s = .ok r1 s1) (h2 : evE C e2 s1 = .ok r2 s2) : exS C (.par [i, j] (.cons e1 (.cons e2 .nil))) s = .nx ((s2.set i r1.sl).set j r2.sl) := by
  rw [exS, evRs, h1]
  show (((evRs C (.cons e2 .nil) s1).bind fun xs s2 => Res.ok (r1 :: xs) s2)).out _ = _
  rw [evRs, h2]
  show ((((evRs C .nil s2).bind fun xs s2 => Res.ok (r2 :: xs) s2).bind fun xs s2 => Res.ok (r1 :: xs) s2)).out _ = _
  rw [evRs]
  rfl
theorem Ts_one {C : Cf} {t : T} {s s1 : S} {c : Bool} (h : evT C t s = .ok c s1) : evTs C (.cons t .nil) s = .ok c s1 := by
  rw [evTs, h]
  show (if c then evTs C .nil s1 else Res.ok false s1) = _
  cases c with
  | true => rw [if_pos rfl, evTs]
  | false => rw [if_neg (by decide)]
theorem turn_one {C : Cf} {elt : E} {tg : Tg} {t : T} {own : List Nat} {x : D} {s s3 : S} {c : Bool} {r : Rv} (hb : bindT 9 tg (.fr x) ⟨wipeE own s.env, s.sh⟩ = some s3) (ht : evT C t s3 = .ok c s3) (he : evE C elt s3 = .ok r s3) : turn C elt tg (.cons t .nil) own x s = .ok (if c = true then some r.d else none) s3 := by
  unfold turn
  rw [hb]
  show ((evTs C (.cons t .nil) s3).bind fun c s4 => if c then (evE C elt s4).bind fun r s5 => Res.ok (some r.d) s5 else Res.ok none s4) = _
  rw [Ts_one ht]
  show (if c then (evE C elt s3).bind fun r s5 => Res.ok (some r.d) s5 else Res.ok none s3) = _
  cases c with
  | true =>
    rw [if_pos rfl, if_pos rfl, he]
    rfl
  | false => rw [if_neg (by decide), if_neg (by decide)]
theorem mul_ok {a b : Int} (h : a.natAbs < 1000) : binop .Mult (.int a) (.int b) = some (.fr (.int (a * b))) := by
  show (if mulOk a b = true then _ else _) = _
  have h2 : a.natAbs < 2 ^ 64 := Nat.lt_of_lt_of_le h (by decide)
  rw [if_pos]
  unfold mulOk
  rw [decide_eq_true h2]
  rfl
theorem sub_of {C : Cf} {a b : B} {s s1 s2 : S} {x y : Op} {i j : Int} (ha : evB C a s = .ok x s1) (hb : evB C b s1 = .ok y s2) (hx : cont s2 x = some (.int i)) (hy : cont s2 y = some (.int j)) : evE C (.bin .Sub a b) s = .ok (.fr (.int (i - j))) s2 := bin_of ha hb hx hy rfl
theorem cst_ev {C : Cf} {d : D} {s : S} : evE C (.cst d) s = .ok (.fr d) s := by rw [evE]
theorem turn_nil {C : Cf} {elt : E} {tg : Tg} {own : List Nat} {x : D} {s s3 s4 : S} {r : Rv} (hb : bindT 9 tg (.fr x) ⟨wipeE own s.env, s.sh⟩ = some s3) (he : evE C elt s3 = .ok r s4) : turn C elt tg .nil own x s = .ok (some r.d) s4 := by
  unfold turn
  rw [hb]
  show ((evTs C .nil s3).bind fun c s4 => if c then (evE C elt s4).bind fun r s5 => Res.ok (some r.d) s5 else Res.ok none s4) = _
  rw [evTs]
  show ((evE C elt s3).bind fun r s5 => Res.ok (some r.d) s5) = _
  rw [he]
  rfl
theorem rep2 {d : D} : binop .Mult (.lst [d]) (.int 2) = some (.ow (.lst [d, d])) := rfl
theorem rep4 {d : D} : binop .Mult (.lst [d]) (.int 4) = some (.ow (.lst [d, d, d, d])) := rfl
theorem app_sl {C : Cf} {i : Nat} {e : E} {s s1 : S} {xs : List D} {r : Rv} (h0 : s.get i = .ow (.lst xs)) (he : evE C e s = .ok r s1) (h1 : s1.get i = .ow (.lst xs)) (hz : xs.length < 80000) : exS C (.exp (.app (.var i) e)) s = .nx (s1.set i (.ow (.lst (xs ++ [r.d])))) := by
  have sb := size_big
  refine exp_of (r := .fr .non) (app_of (x := .sl i) (ys := xs) (xs := xs) (r := r) (s1 := s) (s2 := s1) ?_ ?_ he ?_ (by omega) ?_)
  · rw [evB, h0]
  · show (match s.get i with | .ow d => some d | .fr d => some (vw s.sh d) | .un => none) = _
    rw [h0]
  · show (match s1.get i with | .ow d => some d | .fr d => some (vw s1.sh d) | .un => none) = _
    rw [h1]
  · show (match s1.get i with | .ow _ => _ | _ => _) = _
    rw [h1]
theorem ife_of {C : Cf} {t : T} {a b : E} {s s1 : S} {c : Bool} (h : evT C t s = .ok c s1) : evE C (.ife t a b) s = if c then evE C a s1 else evE C b s1 := by
  rw [evE, h]
  rfl
theorem B_fr {C : Cf} {i : Nat} {s : S} {d : D} (h : s.get i = .fr d) : evB C (.var i) s = .ok (.v d) s := by rw [evB, h]
theorem B_cst {C : Cf} {d : D} {s : S} : evB C (.of (.cst d)) s = .ok (.v d) s := B_of (r := .fr d) cst_ev
theorem vw_get {sh : List D} {k : Nat} {d : D} (h : sh[k]? = some d) : vw sh (.sh k) = d := by
  show sh.getD k .non = _
  rw [List.getD_eq_getElem?_getD, h]
  rfl
theorem SO_spo {c : Nat} {ks : List Nat} {sh : List D} (h : SO c sh) (hk : ∀ k ∈ ks, 2 ≤ k) : SO c (spo ks sh) := by
  obtain ⟨cs, a, k, m, h1, h2, h3⟩ := h
  exact ⟨cs, a, k, m, by rw [spo_off fun z => by have := hk _ z; omega]; exact h1, by rw [spo_off fun z => by have := hk _ z; omega]; exact h2, h3⟩
theorem nils {xs : List D} : (xs.map fun _ => ([] : List Nat)).flatten = [] := by
  induction xs with
  | nil => rfl
  | cons x xs ih => rw [List.map_cons, List.flatten_cons, ih]; rfl
theorem extend_ok {xs ys : List D} (h : xs.length + ys.length ≤ 90000) : mutM .extend (.lst xs) [.lst ys] = some (.non, .lst (xs ++ ys)) := by
  have sb := size_big
  simp only [mutM]
  rw [if_pos (by omega)]
section
variable {P : Prg} {fuel : Nat}
abbrev cfg (P : Prg) (fuel n : Nat) : Cf := ⟨fuel, callF P fuel n, P.mets, P.ar⟩
theorem callc {n f : Nat} {es : Es} {ds : List D} {r : Rv} {s s1 : S} {sh' : List D} (hs : evEs (cfg P fuel n) es s = .ok ds s1) (hr : callF P fuel n f ds s1.sh = .ok r sh') : evE (cfg P fuel n) (.call f es []) s = .ok r ⟨s1.env, sh'⟩ := call_of hs hr
theorem callx {n f : Nat} {es : Es} {ds xs : List D} {c : Nat} {s s1 : S} {sh' : List D} (hs : evEs (cfg P fuel n) es s = .ok ds s1) (hr : callF P fuel n f ds s1.sh = .ex c xs sh') : evE (cfg P fuel n) (.call f es []) s = .ex c xs ⟨s1.env, sh'⟩ := call_ex hs hr
theorem callp {n f : Nat} {es : Es} {pm : List Nat} {ds ds' : List D} {r : Rv} {s s1 : S} {sh' : List D} (hs : evEs (cfg P fuel n) es s = .ok ds s1) (hp : permute pm ds = ds') (hr : callF P fuel n f ds' s1.sh = .ok r sh') : evE (cfg P fuel n) (.call f es pm) s = .ok r ⟨s1.env, sh'⟩ := call_of hs (by rw [hp]; exact hr)
end
end Gp
end
section
set_option linter.all false
set_option maxRecDepth 100000
set_option maxHeartbeats 1000000
/-! K18a: matrices, roads; no program in sight. -/
namespace K18
structure Mx where
  a : Int
  b : Int
  c : Int
  d : Int
def Mx.mul (x y : Mx) : Mx := ⟨x.a * y.a + x.b * y.c, x.a * y.b + x.b * y.d, x.c * y.a + x.d * y.c, x.c * y.b + x.d * y.d⟩
def Mx.det (x : Mx) : Int := x.a * x.d - x.b * x.c
def one : Mx := ⟨1, 0, 0, 1⟩
def V (n : Int) : Mx := ⟨n, -1, 1, 0⟩
def U (n : Int) : Mx := ⟨1, n, 0, 1⟩
/-- (0, 1, -1, n) -/
def Bm (n : Int) : Mx := ⟨0, 1, -1, n⟩
def sc (s : Int) (x : Mx) : Mx := ⟨s * x.a, s * x.b, s * x.c, s * x.d⟩
theorem mul_assoc (x y z : Mx) : (x.mul y).mul z = x.mul (y.mul z) := by
  unfold Mx.mul
  simp only [Mx.mk.injEq]
  refine ⟨?_, ?_, ?_, ?_⟩ <;> simp only [Int.add_mul, Int.mul_add, Int.mul_assoc] <;> omega
theorem one_mul (x : Mx) : one.mul x = x := by
  unfold Mx.mul one
  cases x
  simp
theorem mul_one (x : Mx) : x.mul one = x := by
  unfold Mx.mul one
  cases x
  simp
theorem det_mul (x y : Mx) : (x.mul y).det = x.det * y.det := by
  unfold Mx.mul Mx.det
  simp only [Int.add_mul, Int.mul_add, Int.sub_mul, Int.mul_sub, Int.mul_assoc]
  have e1 : x.a * (y.b * (x.c * y.a)) = x.a * (y.a * (x.c * y.b)) := by
    rw [Int.mul_left_comm y.b, Int.mul_left_comm y.a, Int.mul_comm y.b]
  have e2 : x.b * (y.d * (x.d * y.c)) = x.b * (y.c * (x.d * y.d)) := by
    rw [Int.mul_left_comm y.d, Int.mul_left_comm y.c, Int.mul_comm y.d]
  have e3 : x.a * (x.d * (y.a * y.d)) = x.a * (y.a * (x.d * y.d)) := by
    rw [Int.mul_left_comm x.d]
  have e4 : x.a * (x.d * (y.b * y.c)) = x.a * (y.b * (x.d * y.c)) := by
    rw [Int.mul_left_comm x.d]
  have e5 : x.b * (x.c * (y.a * y.d)) = x.b * (y.d * (x.c * y.a)) := by
    rw [Int.mul_comm y.a y.d, Int.mul_left_comm x.c]
  have e6 : x.b * (x.c * (y.b * y.c)) = x.b * (y.c * (x.c * y.b)) := by
    rw [Int.mul_comm y.b y.c, Int.mul_left_comm x.c]
  omega
def prod : List Int → Mx
  | [] => one
  | n :: l => (V n).mul (prod l)
theorem prod_append (l m : List Int) : prod (l ++ m) = (prod l).mul (prod m) := by
  induction l with
  | nil => exact (one_mul _).symm
  | cons n l ih =>
    show (V n).mul (prod (l ++ m)) = _
    rw [ih, ← mul_assoc]
    rfl
theorem prod_snoc (l : List Int) (n : Int) : prod (l ++ [n]) = (prod l).mul (V n) := by
  rw [prod_append]
  show (prod l).mul ((V n).mul one) = _
  rw [mul_one]
def W (l : List Int) (last : Int) : Mx := (prod l).mul (U last)
theorem det_V (n : Int) : (V n).det = 1 := by
  show n * 0 - -1 * 1 = 1
  omega
theorem det_prod (l : List Int) : (prod l).det = 1 := by
  induction l with
  | nil => rfl
  | cons n l ih =>
    show ((V n).mul (prod l)).det = 1
    rw [det_mul, det_V, ih]
    rfl
theorem det_W (l : List Int) (last : Int) : (W l last).det = 1 := by
  unfold W
  rw [det_mul, det_prod]
  show 1 * (1 * 1 - last * 0) = 1
  omega
theorem VB (n : Int) (x : Mx) : (V n).mul ((Bm n).mul x) = x := by
  rw [← mul_assoc]
  have e : (V n).mul (Bm n) = one := by
    unfold V Bm Mx.mul one
    simp only [Mx.mk.injEq]
    refine ⟨?_, ?_, ?_, ?_⟩ <;> omega
  rw [e, one_mul]
theorem BV (n : Int) (x : Mx) : (Bm n).mul ((V n).mul x) = x := by
  rw [← mul_assoc]
  have e : (Bm n).mul (V n) = one := by
    unfold V Bm Mx.mul one
    simp only [Mx.mk.injEq]
    refine ⟨?_, ?_, ?_, ?_⟩ <;> omega
  rw [e, one_mul]
theorem det_B (n : Int) (x : Mx) : ((Bm n).mul x).det = x.det := by
  rw [det_mul]
  have e : (Bm n).det = 1 := by
    show 0 * n - 1 * -1 = 1
    omega
  rw [e, Int.one_mul]
/-- the next number -/
def cl (a c : Int) : Int := 0 - Int.fdiv (0 - a) c
def red : Nat → Mx → List Int × Mx
  | 0, m => ([], m)
  | n + 1, m => if m.c = 0 then ([], m) else (cl m.a m.c :: (red n ((Bm (cl m.a m.c)).mul m)).1, (red n ((Bm (cl m.a m.c)).mul m)).2)
theorem B_a (n : Int) (x : Mx) : ((Bm n).mul x).a = x.c := by
  show 0 * x.a + 1 * x.c = x.c
  omega
theorem B_c (n : Int) (x : Mx) : ((Bm n).mul x).c = n * x.c - x.a := by
  show -1 * x.a + n * x.c = _
  omega
/-- what is left is between 0 and what there was -/
theorem cl_ok {a c : Int} (h : c ≠ 0) : (0 < c → 0 ≤ cl a c * c - a ∧ cl a c * c - a < c) ∧ (c < 0 → cl a c * c - a ≤ 0 ∧ c < cl a c * c - a) := by
  have e : cl a c * c - a = (0 - a).fmod c := by
    unfold cl
    have q := Int.mul_fdiv_add_fmod (0 - a) c
    rw [Int.sub_mul, Int.mul_comm ((0 - a).fdiv c) c]
    omega
  rw [e]
  refine ⟨fun hc => ⟨Int.fmod_nonneg_of_pos _ hc, Int.fmod_lt_of_pos _ hc⟩, fun hc => ?_⟩
  have e2 : (0 - a).fmod c = -(a.fmod (-c)) := by
    rw [← Int.neg_fmod_neg, Int.neg_neg, Int.zero_sub]
  have h1 := Int.fmod_nonneg_of_pos a (show 0 < -c by omega)
  have h2 := Int.fmod_lt_of_pos a (show 0 < -c by omega)
  omega
/-- what is less than a thing in size, times it, is nothing -/
theorem mul_small {x c : Int} (hc : 0 < c) (h1 : -c < x * c) (h2 : x * c < c) : x = 0 := by
  have a1 : ¬ 1 ≤ x := fun h => by
    have := Int.mul_le_mul_of_nonneg_right h (Int.le_of_lt hc)
    omega
  have a2 : ¬ x ≤ -1 := fun h => by
    have := Int.mul_le_mul_of_nonneg_right h (Int.le_of_lt hc)
    omega
  omega
/-- just one number leads between -/
theorem cl_uniq {a c k : Int} (h : (0 < c ∧ 0 ≤ k * c - a ∧ k * c - a < c) ∨ (c < 0 ∧ k * c - a ≤ 0 ∧ c < k * c - a)) : cl a c = k := by
  rcases h with ⟨hc, h1, h2⟩ | ⟨hc, h1, h2⟩
  · obtain ⟨g1, g2⟩ := (cl_ok (a := a) (c := c) (by omega)).1 hc
    have z := mul_small (x := cl a c - k) hc (by rw [Int.sub_mul]; omega) (by rw [Int.sub_mul]; omega)
    omega
  · obtain ⟨g1, g2⟩ := (cl_ok (a := a) (c := c) (by omega)).2 hc
    have z := mul_small (x := cl a c - k) (c := -c) (by omega) (by rw [Int.mul_neg, Int.sub_mul]; omega) (by rw [Int.mul_neg, Int.sub_mul]; omega)
    omega
/-- less is left below -/
def Dn (m : Mx) : Prop := (0 < m.a ∧ 0 ≤ m.c ∧ m.c < m.a) ∨ (m.a < 0 ∧ m.c ≤ 0 ∧ m.a < m.c)
theorem St_B {m : Mx} (h : m.c ≠ 0) : Dn ((Bm (cl m.a m.c)).mul m) := by
  unfold Dn
  rw [B_a, B_c]
  have q := cl_ok (a := m.a) h
  rcases Int.lt_or_gt_of_ne h with hc | hc
  · have := q.2 hc
    omega
  · have := q.1 hc
    omega
theorem St_two {m : Mx} (s : Dn m) (h : m.c ≠ 0) : 2 ≤ cl m.a m.c := by
  have q := cl_ok (a := m.a) h
  apply Decidable.byContradiction
  intro z
  have z : cl m.a m.c ≤ 1 := by omega
  rcases s with ⟨s1, s2, s3⟩ | ⟨s1, s2, s3⟩
  · have q := q.1 (by omega)
    have := Int.mul_le_mul_of_nonneg_right z s2
    omega
  · have q := q.2 (by omega)
    have := Int.mul_le_mul_of_nonneg_right z (show 0 ≤ -m.c by omega)
    rw [Int.mul_neg] at this
    omega
theorem c_less {m : Mx} (h : m.c ≠ 0) : ((Bm (cl m.a m.c)).mul m).c.natAbs < m.c.natAbs := by
  rw [B_c]
  have q := cl_ok (a := m.a) h
  rcases Int.lt_or_gt_of_ne h with hc | hc
  · have := q.2 hc
    omega
  · have := q.1 hc
    omega
theorem red_two : ∀ {n : Nat} {m : Mx}, Dn m → ∀ x ∈ (red n m).1, 2 ≤ x
  | 0, m, s, x, h => by cases h
  | n + 1, m, s, x, h => by
    unfold red at h
    by_cases hc : m.c = 0
    · rw [if_pos hc] at h
      cases h
    · rw [if_neg hc] at h
      rcases List.mem_cons.mp h with rfl | h
      · exact St_two s hc
      · exact red_two (St_B hc) x h
theorem red_drop {n : Nat} {m : Mx} : ∀ x ∈ (red n m).1.drop 1, 2 ≤ x := by
  intro x h
  cases n with
  | zero => cases h
  | succ n =>
    unfold red at h
    by_cases hc : m.c = 0
    · rw [if_pos hc] at h
      cases h
    · rw [if_neg hc] at h
      exact red_two (St_B hc) x h
theorem red_ok : ∀ {n : Nat} {m : Mx}, m.det = 1 → m.c.natAbs < n → (red n m).2.c = 0 ∧ (red n m).2.det = 1 ∧ m = (prod (red n m).1).mul (red n m).2 ∧ (red n m).1.length ≤ m.c.natAbs
  | 0, m, hd, h => by omega
  | n + 1, m, hd, h => by
    unfold red
    by_cases hc : m.c = 0
    · rw [if_pos hc]
      exact ⟨hc, hd, (one_mul m).symm, Nat.zero_le _⟩
    · rw [if_neg hc]
      have cless := c_less hc
      obtain ⟨h1, h2, h3, h4⟩ := red_ok (n := n) (m := (Bm (cl m.a m.c)).mul m) (by rw [det_B]; exact hd) (by omega)
      refine ⟨h1, h2, ?_, by rw [List.length_cons]; omega⟩
      show m = ((V _).mul (prod _)).mul _
      rw [mul_assoc, ← h3, VB]
theorem sc_mul (s : Int) (x y : Mx) : sc s (x.mul y) = x.mul (sc s y) := by
  unfold sc Mx.mul
  simp only [Mx.mk.injEq, Int.mul_add]
  refine ⟨?_, ?_, ?_, ?_⟩ <;> simp only [Int.mul_left_comm s]
/-- what a road of numbers above 1 is worth -/
theorem W_pos {t : List Int} {last : Int} (h : ∀ x ∈ t, 2 ≤ x) : 0 < (W t last).a ∧ 0 ≤ (W t last).c ∧ (W t last).c < (W t last).a := by
  induction t with
  | nil =>
    show 0 < 1 * 1 + 0 * 0 ∧ 0 ≤ 0 * 1 + 1 * 0 ∧ 0 * 1 + 1 * 0 < 1 * 1 + 0 * 0
    omega
  | cons k t ih =>
    obtain ⟨h1, h2, h3⟩ := ih fun x hx => h x (List.mem_cons_of_mem _ hx)
    have hk := h k List.mem_cons_self
    have e : W (k :: t) last = (V k).mul (W t last) := mul_assoc _ _ _
    have ea : (W (k :: t) last).a = k * (W t last).a + -1 * (W t last).c := by rw [e]; rfl
    have ec : (W (k :: t) last).c = 1 * (W t last).a + 0 * (W t last).c := by rw [e]; rfl
    have := Int.mul_le_mul_of_nonneg_right hk (Int.le_of_lt h1)
    omega
theorem W_St {t : List Int} {last s : Int} (h : ∀ x ∈ t, 2 ≤ x) (hs : s = 1 ∨ s = -1) : Dn (sc s (W t last)) := by
  obtain ⟨h1, h2, h3⟩ := W_pos (last := last) h
  unfold Dn
  show (0 < s * (W t last).a ∧ 0 ≤ s * (W t last).c ∧ s * (W t last).c < s * (W t last).a) ∨ (s * (W t last).a < 0 ∧ s * (W t last).c ≤ 0 ∧ s * (W t last).a < s * (W t last).c)
  rcases hs with rfl | rfl <;> omega
theorem red_uniq : ∀ {l : List Int} {n : Nat} {last s : Int}, (s = 1 ∨ s = -1) → (∀ x ∈ l.drop 1, 2 ≤ x) → (sc s (W l last)).c.natAbs < n → red n (sc s (W l last)) = (l, sc s (U last))
  | [], n, last, s, hs, hl, hn => by
    have e : W [] last = U last := one_mul _
    rw [e] at hn ⊢
    cases n with
    | zero => omega
    | succ n =>
      unfold red
      rw [if_pos (show (sc s (U last)).c = 0 from Int.mul_zero s)]
  | k :: t, n, last, s, hs, hl, hn => by
    have hl : ∀ x ∈ t, 2 ≤ x := hl
    have e : sc s (W (k :: t) last) = (V k).mul (sc s (W t last)) := by
      show sc s (((V k).mul (prod t)).mul (U last)) = _
      rw [mul_assoc, sc_mul]
      rfl
    have st := W_St (last := last) hl hs
    rw [e] at hn ⊢
    have ea : ((V k).mul (sc s (W t last))).a = k * (sc s (W t last)).a - (sc s (W t last)).c := by
      show k * _ + -1 * _ = _
      omega
    have ec : ((V k).mul (sc s (W t last))).c = (sc s (W t last)).a := by
      show 1 * _ + 0 * _ = _
      omega
    rw [ec] at hn
    have ek : cl ((V k).mul (sc s (W t last))).a ((V k).mul (sc s (W t last))).c = k := by
      rw [ea, ec]
      unfold Dn at st
      exact cl_uniq (by omega)
    cases n with
    | zero => omega
    | succ n =>
      unfold red
      rw [if_neg (by rw [ec]; unfold Dn at st; omega), ek, BV, red_uniq (l := t) hs (fun x hx => hl x (List.mem_of_mem_drop hx)) (by unfold Dn at st; omega)]
theorem unit_two {x y : Int} (h : x * y = 1) : (x = 1 ∧ y = 1) ∨ (x = -1 ∧ y = -1) := by
  have h1 : x.natAbs * y.natAbs = 1 := by rw [← Int.natAbs_mul, h]; rfl
  have hx := Nat.eq_one_of_mul_eq_one_right h1
  have hy := Nat.eq_one_of_mul_eq_one_left h1
  have : x = 1 ∨ x = -1 := by omega
  rcases this with rfl | rfl
  · exact .inl ⟨rfl, by omega⟩
  · exact .inr ⟨rfl, by omega⟩
/-- the reduced road of a matrix, its sign -/
def own (m : Mx) : List Int := (red 90000 m).1
def sgn (m : Mx) : Int := (red 90000 m).2.a
def lst (m : Mx) : Int := (red 90000 m).2.a * (red 90000 m).2.b
theorem own_ok {m : Mx} (hd : m.det = 1) (hc : m.c.natAbs < 90000) : (sgn m = 1 ∨ sgn m = -1) ∧ (red 90000 m).2 = sc (sgn m) (U (lst m)) ∧ m = sc (sgn m) (W (own m) (lst m)) ∧ (own m).length ≤ m.c.natAbs := by
  obtain ⟨h1, h2, h3, h4⟩ := red_ok hd hc
  unfold sgn lst own
  generalize red 90000 m = r at *
  obtain ⟨l, e⟩ := r
  obtain ⟨a, b, c, d⟩ := e
  have h1 : c = 0 := h1
  subst h1
  have h2 : a * d - b * 0 = 1 := h2
  have u := unit_two (x := a) (y := d) (by omega)
  have e2 : (⟨a, b, 0, d⟩ : Mx) = sc a (U (a * b)) := by
    unfold sc U
    simp only [Mx.mk.injEq]
    rcases u with ⟨rfl, rfl⟩ | ⟨rfl, rfl⟩ <;> refine ⟨?_, ?_, ?_, ?_⟩ <;> omega
  refine ⟨by rcases u with ⟨u, _⟩ | ⟨u, _⟩ <;> simp [u], e2, ?_, h4⟩
  show m = sc a ((prod l).mul (U (a * b)))
  rw [sc_mul, ← e2]
  exact h3
theorem own_road {l : List Int} {last s : Int} (hs : s = 1 ∨ s = -1) (hl : ∀ x ∈ l.drop 1, 2 ≤ x) (hc : (sc s (W l last)).c.natAbs < 90000) : own (sc s (W l last)) = l ∧ lst (sc s (W l last)) = last := by
  unfold own lst
  rw [red_uniq hs hl hc]
  refine ⟨rfl, ?_⟩
  show s * 1 * (s * last) = last
  rcases hs with rfl | rfl <;> omega
/-- within bounds -/
def Bd (A : Nat) (m : Mx) : Prop := m.a.natAbs ≤ A ∧ m.b.natAbs ≤ A ∧ m.c.natAbs ≤ A ∧ m.d.natAbs ≤ A
theorem cl_bd {a c : Int} (h : c ≠ 0) : (cl a c).natAbs ≤ a.natAbs + c.natAbs := by
  have q := cl_ok (a := a) h
  have h1 : (cl a c * c).natAbs ≤ a.natAbs + c.natAbs := by
    rcases Int.lt_or_gt_of_ne h with hc | hc
    · have := q.2 hc
      omega
    · have := q.1 hc
      omega
  rw [Int.natAbs_mul] at h1
  have h2 : (cl a c).natAbs * 1 ≤ (cl a c).natAbs * c.natAbs := Nat.mul_le_mul_left _ (by omega)
  omega
theorem red_bd {A : Nat} : ∀ {n : Nat} {m : Mx}, m.a.natAbs ≤ A → m.c.natAbs ≤ A → ∀ x ∈ (red n m).1, x.natAbs ≤ A + A
  | 0, m, ha, hc, x, h => by cases h
  | n + 1, m, ha, hc, x, h => by
    unfold red at h
    by_cases hz : m.c = 0
    · rw [if_pos hz] at h
      cases h
    · rw [if_neg hz] at h
      rcases List.mem_cons.mp h with rfl | h
      · have := cl_bd (a := m.a) hz
        omega
      · have cl' := c_less hz
        exact red_bd (n := n) (by rw [B_a]; exact hc) (by omega) x h
theorem mul_bd {x n : Int} {A k : Nat} (hx : x.natAbs ≤ A) (hn : n.natAbs ≤ k) : (n * x).natAbs ≤ k * A := by
  rw [Int.natAbs_mul]
  exact Nat.mul_le_mul hn hx
theorem prod_bd : ∀ {l : List Int}, (∀ x ∈ l, x.natAbs ≤ 4) → Bd (5 ^ l.length) (prod l)
  | [], h => by
    show 1 ≤ 1 ∧ 0 ≤ 1 ∧ 0 ≤ 1 ∧ 1 ≤ 1
    omega
  | n :: l, h => by
    obtain ⟨h1, h2, h3, h4⟩ := prod_bd (l := l) fun x hx => h x (List.mem_cons_of_mem _ hx)
    have hn := h n List.mem_cons_self
    have a1 := mul_bd h1 hn
    have a2 := mul_bd h2 hn
    have e : 5 ^ (n :: l).length = 5 * 5 ^ l.length := by rw [List.length_cons, Nat.pow_succ, Nat.mul_comm]
    rw [e]
    show (n * (prod l).a + -1 * (prod l).c).natAbs ≤ _ ∧ (n * (prod l).b + -1 * (prod l).d).natAbs ≤ _ ∧ (1 * (prod l).a + 0 * (prod l).c).natAbs ≤ _ ∧ (1 * (prod l).b + 0 * (prod l).d).natAbs ≤ _
    omega
theorem W_bd {l : List Int} {last : Int} (h : ∀ x ∈ l, x.natAbs ≤ 4) (hl : last.natAbs ≤ 4) (hz : l.length ≤ 7) : Bd 400000 (W l last) ∧ (W l last).c.natAbs ≤ 78125 := by
  obtain ⟨h1, h2, h3, h4⟩ := prod_bd h
  have hp : 5 ^ l.length ≤ 78125 := Nat.le_trans (Nat.pow_le_pow_right (by decide) hz) (by decide)
  have a1 := mul_bd h1 hl
  have a2 := mul_bd h3 hl
  rw [Int.mul_comm] at a1 a2
  unfold Bd
  show ((((prod l).a * 1 + (prod l).b * 0).natAbs ≤ _ ∧ ((prod l).a * last + (prod l).b * 1).natAbs ≤ _ ∧ ((prod l).c * 1 + (prod l).d * 0).natAbs ≤ _ ∧ ((prod l).c * last + (prod l).d * 1).natAbs ≤ _)) ∧ ((prod l).c * 1 + (prod l).d * 0).natAbs ≤ _
  omega
theorem sc_bd {m : Mx} {A : Nat} {s : Int} (hs : s = 1 ∨ s = -1) (h : Bd A m) : Bd A (sc s m) := by
  unfold Bd at *
  show (s * m.a).natAbs ≤ A ∧ (s * m.b).natAbs ≤ A ∧ (s * m.c).natAbs ≤ A ∧ (s * m.d).natAbs ≤ A
  rcases hs with rfl | rfl <;> omega
theorem det_sc {m : Mx} {s : Int} (hs : s = 1 ∨ s = -1) : (sc s m).det = m.det := by
  show s * m.a * (s * m.d) - s * m.b * (s * m.c) = m.a * m.d - m.b * m.c
  rcases hs with rfl | rfl
  · simp
  · rw [Int.neg_one_mul, Int.neg_one_mul, Int.neg_one_mul, Int.neg_one_mul, Int.neg_mul_neg, Int.neg_mul_neg]
theorem sc_sc {m : Mx} {s : Int} (hs : s = 1 ∨ s = -1) : sc s (sc s m) = m := by
  unfold sc
  cases m
  simp only [Mx.mk.injEq]
  rcases hs with rfl | rfl <;> refine ⟨?_, ?_, ?_, ?_⟩ <;> omega
theorem sc_one {m : Mx} : sc 1 m = m := by
  unfold sc
  cases m
  simp
/-- with less it is another one -/
theorem sc_ne {m : Mx} (h : m.det = 1) : sc (-1) m ≠ m := by
  intro e
  have ea : -1 * m.a = m.a := congrArg Mx.a e
  have eb : -1 * m.b = m.b := congrArg Mx.b e
  have a0 : m.a = 0 := by omega
  have b0 : m.b = 0 := by omega
  unfold Mx.det at h
  rw [a0, b0] at h
  omega
end K18
end
section
set_option linter.all false
set_option maxRecDepth 100000
set_option maxHeartbeats 1000000
/-! K18b: the program: integers, times, products. -/
namespace K18
open PySem Ev Gp
abbrev P : Prg := Pg.prg
abbrev mD (m : Mx) : D := .tup [.int m.a, .int m.b, .int m.c, .int m.d]
def iL (l : List Int) : List D := l.map D.int
abbrev cf (fuel n : Nat) : Cf := cfg P fuel n
def Sml (x : Int) : Prop := x.natAbs < 1000000000000
theorem mul_of {C : Cf} {a b : B} {s s1 s2 : S} {x y : Op} {i j : Int} (ha : evB C a s = .ok x s1) (hb : evB C b s1 = .ok y s2) (hx : cont s2 x = some (.int i)) (hy : cont s2 y = some (.int j)) (h : Sml i ∨ Sml j) : evE C (.bin .Mult a b) s = .ok (.fr (.int (i * j))) s2 := by
  refine bin_of ha hb hx hy ?_
  show (if mulOk i j = true then _ else _) = _
  rw [if_pos]
  unfold mulOk
  rcases h with h | h
  · have h2 : i.natAbs < 2 ^ 64 := Nat.lt_of_lt_of_le h (by decide)
    rw [decide_eq_true h2]
    rfl
  · have h2 : j.natAbs < 2 ^ 64 := Nat.lt_of_lt_of_le h (by decide)
    rw [decide_eq_true h2, Bool.or_true]
    rfl
theorem add_of {C : Cf} {a b : B} {s s1 s2 : S} {x y : Op} {i j : Int} (ha : evB C a s = .ok x s1) (hb : evB C b s1 = .ok y s2) (hx : cont s2 x = some (.int i)) (hy : cont s2 y = some (.int j)) : evE C (.bin .Add a b) s = .ok (.fr (.int (i + j))) s2 := bin_of ha hb hx hy rfl
/-- what may be multiplied -/
structure TOk (x y : Mx) : Prop where
  aa : Sml x.a ∨ Sml y.a
  bc : Sml x.b ∨ Sml y.c
  ab : Sml x.a ∨ Sml y.b
  bd : Sml x.b ∨ Sml y.d
  ca : Sml x.c ∨ Sml y.a
  dc : Sml x.d ∨ Sml y.c
  cb : Sml x.c ∨ Sml y.b
  dd : Sml x.d ∨ Sml y.d
theorem sml0 : Sml 0 := by show 0 < 1000000000000; omega
theorem sml1 : Sml 1 := by show 1 < 1000000000000; omega
theorem smlm : Sml (-1) := by show 1 < 1000000000000; omega
theorem tok_V {x : Mx} {n : Int} (h : Sml n) : TOk x (V n) := ⟨.inr h, .inr sml1, .inr smlm, .inr sml0, .inr h, .inr sml1, .inr smlm, .inr sml0⟩
theorem tok_B {x : Mx} {n : Int} (h : Sml n) : TOk (Bm n) x := ⟨.inl sml0, .inl sml1, .inl sml0, .inl sml1, .inl smlm, .inl h, .inl smlm, .inl h⟩
theorem tok_U {x : Mx} {n : Int} (h : (Sml x.a ∧ Sml x.c) ∨ Sml n) : TOk x (U n) := ⟨.inr sml1, .inr sml0, h.elim (fun h => .inl h.1) .inr, .inr sml1, .inr sml1, .inr sml0, h.elim (fun h => .inl h.2) .inr, .inr sml1⟩
/-! ### lists of truth -/
def isI : D → Bool
  | .int _ => true
  | _ => false
theorem bools_of {α : Type} {p : α → Bool} : ∀ {l : List α}, bools (l.map fun x => D.bl (p x)) = some (l.map p)
  | [] => rfl
  | x :: l => by
    rw [List.map_cons]
    show (bools (l.map fun x => D.bl (p x))).map (p x :: ·) = _
    rw [bools_of]
    rfl
theorem all_of {α : Type} {p : α → Bool} {l : List α} : bcl .all [.lst (l.map fun x => D.bl (p x))] = some (.fr (.bl (l.all p))) := by
  show ((bools (l.map fun x => D.bl (p x))).map fun bs => Rv.fr (.bl (bs.all id))) = _
  rw [bools_of]
  show some (Rv.fr (.bl ((l.map p).all id))) = _
  rw [List.all_map]
  rfl
theorem any_of {α : Type} {p : α → Bool} {l : List α} : bcl .any [.lst (l.map fun x => D.bl (p x))] = some (.fr (.bl (l.any p))) := by
  show ((bools (l.map fun x => D.bl (p x))).map fun bs => Rv.fr (.bl (bs.any id))) = _
  rw [bools_of]
  show some (Rv.fr (.bl ((l.map p).any id))) = _
  rw [List.any_map]
  rfl
theorem fm_some {α β : Type} {f : α → β} {l : List α} : l.filterMap (fun x => some (f x)) = l.map f := by
  rw [← List.filterMap_eq_map]
  rfl
section
variable {fuel : Nat}
theorem isint_ok {n : Nat} {d : D} {sh : List D} (h : okTy d = true) : callF P fuel (n + 1) 1 [d] sh = .ok (.fr (.bl (isI d))) sh := by
  cases d <;> first | rfl | cases h
/-- is_list of what is no shared list -/
theorem islist_ok {n : Nat} {d : D} {sh : List D} (h : okTy d = true) : callF P fuel (n + 1) 0 [d] sh = .ok (.fr (.bl (isTy d [.ty "list", .ty "tuple"]))) sh := by
  cases d <;> first | rfl | cases h
def ai_lc : E := .lc (.call 1 (.cons (.var 1) (.nil)) []) (.nm 1) (.seq (.var 0) true) (.nil) [1]
theorem ai_body : Pg.i_are_integers.body = .cons (.ret (.and (.call 0 (.cons (.var 0) (.nil)) []) (.one (.bcl .all (.cons (.of ai_lc) (.nil)))))) .nil := rfl
/-- of a list, a tuple -/
theorem ai_seq {n : Nat} {d : D} {xs sh : List D} (hd : d = .lst xs ∨ d = .tup xs) (hx : ∀ x ∈ xs, okTy x = true) (hz : xs.length < 90000) : callF P fuel (n + 2) 2 [d] sh = .ok (.fr (.bl (xs.all isI))) sh := by
  have sb := size_big
  have e0 : callF P fuel (n + 1) 0 [d] sh = .ok (.fr (.bl true)) sh := by rcases hd with rfl | rfl <;> exact islist_ok rfl
  have hi : evIt (cf fuel (n + 1)) (.seq (.var 0) true) ⟨[.fr d, .un], sh⟩ = .ok (.xs xs) ⟨[.fr d, .un], sh⟩ := by rcases hd with rfl | rfl <;> rfl
  obtain ⟨s6, ⟨v, rfl⟩, e⟩ := lc_xs (elt := .call 1 (.cons (.var 1) (.nil)) []) (tg := .nm 1) (ifs := .nil) (own := [1]) (I := fun s => ∃ v, s = (⟨[.fr d, v], sh⟩ : S)) (o := fun x => some (.bl (isI x))) hi ⟨_, rfl⟩ (by
    rintro x hx' s ⟨v, rfl⟩
    exact ⟨_, turn_nil (s3 := ⟨[.fr d, .fr x], sh⟩) rfl (callc (s1 := ⟨[.fr d, .fr x], sh⟩) (ds := [x]) (Es_cons (v := .fr x) (v_fr rfl) Es_nil) (isint_ok (hx x hx'))), _, rfl⟩) (by omega)
  rw [fm_some] at e
  have e : evE (cf fuel (n + 1)) ai_lc ⟨[.fr d, .un], sh⟩ = .ok (.ow (.lst (xs.map fun x => .bl (isI x)))) ⟨[.fr d, .un], sh⟩ := e
  rw [callP (fn := Pg.i_are_integers) rfl rfl]
  show outFR (exSs (cf fuel (n + 1)) Pg.i_are_integers.body ⟨[.fr d, .un], sh⟩) = _
  rw [ai_body, exSs_rt (ret_of (r := .fr (.bl (xs.all isI))) (s1 := ⟨[.fr d, .un], sh⟩) (by
    rw [E_and_t (callc (s1 := ⟨[.fr d, .un], sh⟩) (ds := [d]) (Es_cons (v := .fr d) (v_fr rfl) Es_nil) e0), E_one]
    exact bcl1 (B_of e) rfl all_of))]
  rfl
/-- of what is neither -/
theorem ai_no {n : Nat} {d : D} {sh : List D} (hd : okTy d = true) (ht : isTy d [.ty "list", .ty "tuple"] = false) : callF P fuel (n + 2) 2 [d] sh = .ok (.fr (.bl false)) sh := by
  have e0 := islist_ok (fuel := fuel) (n := n) (sh := sh) hd
  rw [ht] at e0
  rw [callP (fn := Pg.i_are_integers) rfl rfl]
  show outFR (exSs (cf fuel (n + 1)) Pg.i_are_integers.body ⟨[.fr d, .un], sh⟩) = _
  rw [ai_body, exSs_rt (ret_of (E_and_f (callc (s1 := ⟨[.fr d, .un], sh⟩) (ds := [d]) (Es_cons (v := .fr d) (v_fr rfl) Es_nil) e0)))]
  rfl
/-- of a shared list -/
theorem ai_sh {n m : Nat} {xs sh : List D} (hf : 90000 ≤ fuel) (hm : sh[m]? = some (.lst xs)) (hx : ∀ x ∈ xs, okTy x = true) (hz : xs.length < 80000) : callF P fuel (n + 2) 2 [.sh m] sh = .ok (.fr (.bl (xs.all isI))) sh := by
  have sb := size_big
  have g0 : vw sh (.sh m) = .lst xs := vw_get hm
  have e0 : callF P fuel (n + 1) 0 [.sh m] sh = .ok (.fr (.bl true)) sh := by
    rw [callP (fn := Pg.i_is_list) rfl rfl]
    show outFR (exSs (cf fuel n) Pg.i_is_list.body ⟨[.fr (.sh m)], sh⟩) = _
    unfold Pg.i_is_list
    rw [exSs_rt (ret_of (isi_of (x := .v (.sh m)) (d := .lst xs) (c := true) rfl (congrArg some g0) rfl))]
    rfl
  have hi : evIt (cf fuel (n + 1)) (.seq (.var 0) true) ⟨[.fr (.sh m), .un], sh⟩ = .ok (.shl m) ⟨[.fr (.sh m), .un], sh⟩ := by
    rw [evIt, B_fr rfl]
    show (match sh.getD m .non with
      | .lst _ => Res.ok (Wk.shl m) (⟨[.fr (.sh m), .un], sh⟩ : S)
      | _ => .er) = _
    rw [List.getD_eq_getElem?_getD, hm]
    rfl
  obtain ⟨s6, ⟨v, rfl⟩, e⟩ := lc_live (elt := .call 1 (.cons (.var 1) (.nil)) []) (tg := .nm 1) (ifs := .nil) (own := [1]) (l := xs) (I := fun s => ∃ v, s = (⟨[.fr (.sh m), v], sh⟩ : S)) (o := fun x => some (.bl (isI x))) hi (.inl ⟨_, rfl⟩) (by
    rintro s i ⟨v, rfl⟩
    show (match sh.getD m .non with
      | .lst xs => some (xs[i]?)
      | _ => none) = _
    rw [List.getD_eq_getElem?_getD, hm]
    rfl) ⟨_, rfl⟩ (by
    rintro x hx' s ⟨v, rfl⟩
    exact ⟨_, turn_nil (s3 := ⟨[.fr (.sh m), .fr x], sh⟩) rfl (callc (s1 := ⟨[.fr (.sh m), .fr x], sh⟩) (ds := [x]) (Es_cons (v := .fr x) (v_fr rfl) Es_nil) (isint_ok (hx x hx'))), _, rfl⟩) (by omega) (by show xs.length < fuel; omega)
  rw [fm_some] at e
  have e : evE (cf fuel (n + 1)) ai_lc ⟨[.fr (.sh m), .un], sh⟩ = .ok (.ow (.lst (xs.map fun x => .bl (isI x)))) ⟨[.fr (.sh m), .un], sh⟩ := e
  rw [callP (fn := Pg.i_are_integers) rfl rfl]
  show outFR (exSs (cf fuel (n + 1)) Pg.i_are_integers.body ⟨[.fr (.sh m), .un], sh⟩) = _
  rw [ai_body, exSs_rt (ret_of (r := .fr (.bl (xs.all isI))) (s1 := ⟨[.fr (.sh m), .un], sh⟩) (by
    rw [E_and_t (callc (s1 := ⟨[.fr (.sh m), .un], sh⟩) (ds := [.sh m]) (Es_cons (v := .fr (.sh m)) (v_fr rfl) Es_nil) e0), E_one]
    exact bcl1 (B_of e) rfl all_of))]
  rfl
/-! ### times -/
def ts1 : St := .asg (.tp [.nm 2, .nm 3, .nm 4, .nm 5]) (.var 0)
def ts2 : St := .asg (.tp [.nm 6, .nm 7, .nm 8, .nm 9]) (.var 1)
def ts3 : St := .asg (.nm 10) (.tup (.cons (.bin .Add (.of (.bin .Mult (.var 2) (.var 6))) (.of (.bin .Mult (.var 3) (.var 8)))) (.cons (.bin .Add (.of (.bin .Mult (.var 2) (.var 7))) (.of (.bin .Mult (.var 3) (.var 9)))) (.nil))))
def ts4 : St := .ret (.tup (.star (.var 10) (.cons (.bin .Add (.of (.bin .Mult (.var 4) (.var 6))) (.of (.bin .Mult (.var 5) (.var 8)))) (.cons (.bin .Add (.of (.bin .Mult (.var 4) (.var 7))) (.of (.bin .Mult (.var 5) (.var 9)))) (.nil)))))
theorem ts_body : Pg.i_times_of.body = .cons ts1 (.cons ts2 (.cons ts3 (.cons ts4 .nil))) := rfl
theorem amm {C : Cf} {i j k l : Nat} {s : S} {a b c d : Int} (h1 : s.get i = .fr (.int a)) (h2 : s.get j = .fr (.int b)) (h3 : s.get k = .fr (.int c)) (h4 : s.get l = .fr (.int d)) (k1 : Sml a ∨ Sml b) (k2 : Sml c ∨ Sml d) : evE C (.bin .Add (.of (.bin .Mult (.var i) (.var j))) (.of (.bin .Mult (.var k) (.var l)))) s = .ok (.fr (.int (a * b + c * d))) s :=
  add_of (B_of (mul_of (B_fr h1) (B_fr h2) rfl rfl k1)) (B_of (mul_of (B_fr h3) (B_fr h4) rfl rfl k2)) rfl rfl
theorem Es_star {C : Cf} {b : B} {r : Es} {s s1 s2 : S} {xs ds : List D} (h : evB C b s = .ok (.v (.tup xs)) s1) (h2 : evEs C r s1 = .ok ds s2) : evEs C (.star b r) s = .ok (xs ++ ds) s2 := by
  rw [evEs, h]
  show ((evEs C r s1).bind fun ys s2 => Res.ok (xs ++ ys) s2) = _
  rw [h2]
  rfl
theorem times_ok {n : Nat} {x y : Mx} {sh : List D} (t : TOk x y) : callF P fuel (n + 1) 4 [mD x, mD y] sh = .ok (.fr (mD (x.mul y))) sh := by
  obtain ⟨a, b, c, d⟩ := x
  obtain ⟨e, f, g, h⟩ := y
  rw [callP (fn := Pg.i_times_of) rfl rfl]
  show outFR (exSs (cf fuel n) Pg.i_times_of.body ⟨[.fr (.tup [.int a, .int b, .int c, .int d]), .fr (.tup [.int e, .int f, .int g, .int h]), .un, .un, .un, .un, .un, .un, .un, .un, .un], sh⟩) = _
  have a1 : exS (cf fuel n) ts1 ⟨[.fr (.tup [.int a, .int b, .int c, .int d]), .fr (.tup [.int e, .int f, .int g, .int h]), .un, .un, .un, .un, .un, .un, .un, .un, .un], sh⟩ = .nx ⟨[.fr (.tup [.int a, .int b, .int c, .int d]), .fr (.tup [.int e, .int f, .int g, .int h]), .fr (.int a), .fr (.int b), .fr (.int c), .fr (.int d), .un, .un, .un, .un, .un], sh⟩ := rfl
  have a2 : exS (cf fuel n) ts2 ⟨[.fr (.tup [.int a, .int b, .int c, .int d]), .fr (.tup [.int e, .int f, .int g, .int h]), .fr (.int a), .fr (.int b), .fr (.int c), .fr (.int d), .un, .un, .un, .un, .un], sh⟩ = .nx ⟨[.fr (.tup [.int a, .int b, .int c, .int d]), .fr (.tup [.int e, .int f, .int g, .int h]), .fr (.int a), .fr (.int b), .fr (.int c), .fr (.int d), .fr (.int e), .fr (.int f), .fr (.int g), .fr (.int h), .un], sh⟩ := rfl
  generalize hs : (⟨[.fr (.tup [.int a, .int b, .int c, .int d]), .fr (.tup [.int e, .int f, .int g, .int h]), .fr (.int a), .fr (.int b), .fr (.int c), .fr (.int d), .fr (.int e), .fr (.int f), .fr (.int g), .fr (.int h), .un], sh⟩ : S) = s at a2
  have g2 : s.get 2 = .fr (.int a) := by rw [← hs]; rfl
  have g3 : s.get 3 = .fr (.int b) := by rw [← hs]; rfl
  have g6 : s.get 6 = .fr (.int e) := by rw [← hs]; rfl
  have g7 : s.get 7 = .fr (.int f) := by rw [← hs]; rfl
  have g8 : s.get 8 = .fr (.int g) := by rw [← hs]; rfl
  have g9 : s.get 9 = .fr (.int h) := by rw [← hs]; rfl
  have a3 : exS (cf fuel n) ts3 s = .nx (s.set 10 (.fr (.tup [.int (a * e + b * g), .int (a * f + b * h)]))) := asg_nm (tup_of (Es_cons (amm g2 g6 g3 g8 t.aa t.bc) (Es_cons (amm g2 g7 g3 g9 t.ab t.bd) Es_nil)) (by show 2 ≤ 90000; omega))
  generalize hs2 : s.set 10 (.fr (.tup [.int (a * e + b * g), .int (a * f + b * h)])) = s2 at a3
  have k4 : s2.get 4 = .fr (.int c) := by rw [← hs2, ← hs]; rfl
  have k5 : s2.get 5 = .fr (.int d) := by rw [← hs2, ← hs]; rfl
  have k6 : s2.get 6 = .fr (.int e) := by rw [← hs2, ← hs]; rfl
  have k7 : s2.get 7 = .fr (.int f) := by rw [← hs2, ← hs]; rfl
  have k8 : s2.get 8 = .fr (.int g) := by rw [← hs2, ← hs]; rfl
  have k9 : s2.get 9 = .fr (.int h) := by rw [← hs2, ← hs]; rfl
  have k10 : s2.get 10 = .fr (.tup [.int (a * e + b * g), .int (a * f + b * h)]) := by rw [← hs2, ← hs]; rfl
  have sh2 : s2.sh = sh := by rw [← hs2, ← hs]; rfl
  have a4 : exS (cf fuel n) ts4 s2 = .rt (.fr (.tup [.int (a * e + b * g), .int (a * f + b * h), .int (c * e + d * g), .int (c * f + d * h)])) s2 := ret_of (tup_of (ds := [.int (a * e + b * g), .int (a * f + b * h), .int (c * e + d * g), .int (c * f + d * h)]) (Es_star (xs := [.int (a * e + b * g), .int (a * f + b * h)]) (B_fr k10) (Es_cons (amm k4 k6 k5 k8 t.ca t.dc) (Es_cons (amm k4 k7 k5 k9 t.cb t.dd) Es_nil))) (by show 4 ≤ 90000; omega))
  rw [ts_body, exSs_nx a1, exSs_nx a2, exSs_nx a3, exSs_rt a4]
  show FR.ok _ s2.sh = _
  rw [sh2]
  rfl
end
end K18
end
section
set_option linter.all false
set_option maxRecDepth 100000
set_option maxHeartbeats 1000000
/-! K18c: products, worth, reduced roads. -/
namespace K18
open PySem Ev Gp
theorem iL_len {l : List Int} : (iL l).length = l.length := List.length_map _
theorem neg1 {C : Cf} {s : S} : evE C (.neg (.of (.cst (.int 1)))) s = .ok (.fr (.int (-1))) s := by
  rw [evE, B_cst]
  rfl
theorem sub01 {C : Cf} {s : S} : evE C (.bin .Sub (.of (.cst (.int 0))) (.of (.cst (.int 1)))) s = .ok (.fr (.int (-1))) s := sub_of (i := 0) (j := 1) B_cst B_cst rfl rfl
theorem app_sl2 {C : Cf} {i : Nat} {e : E} {s s1 : S} {xs : List D} {r : Rv} (h0 : s.get i = .ow (.lst xs)) (he : evE C e s = .ok r s1) (h1 : s1.get i = .ow (.lst xs)) (hz : xs.length < 90000) : exS C (.exp (.app (.var i) e)) s = .nx (s1.set i (.ow (.lst (xs ++ [r.d])))) := by
  have sb := size_big
  refine exp_of (r := .fr .non) (app_of (x := .sl i) (ys := xs) (xs := xs) (r := r) (s1 := s) (s2 := s1) ?_ ?_ he ?_ (by omega) ?_)
  · rw [evB, h0]
  · show (match s.get i with | .ow d => some d | .fr d => some (vw s.sh d) | .un => none) = _
    rw [h0]
  · show (match s1.get i with | .ow d => some d | .fr d => some (vw s1.sh d) | .un => none) = _
    rw [h1]
  · show (match s1.get i with | .ow _ => _ | _ => _) = _
    rw [h1]
theorem sIx_m1 {l : List D} {x : D} : HT.sIx (l ++ [x]).length (l ++ [x]).length (some (-1)) = l.length := by
  unfold HT.sIx
  simp only
  rw [if_pos (by decide), List.length_append]
  show (-1 + ((l.length + 1 : Nat) : Int)).toNat = l.length
  omega
theorem cut_last {l : List D} {x : D} : cutL (l ++ [x]) none (some (-1)) = l := by
  unfold cutL
  rw [sIx_m1, HT.sIx_none, List.drop_zero, Nat.sub_zero, List.take_left]
theorem ix_last {l : List D} {x : D} : idxD (.lst (l ++ [x])) (.int (-1)) = some x := by
  show ((L2.ixN (l ++ [x]).length (-1)).bind fun j => (l ++ [x])[j]?) = _
  rw [List.length_append]
  show ((L2.ixN (l.length + 1) (-1)).bind fun j => (l ++ [x])[j]?) = _
  have e : L2.ixN (l.length + 1) (-1) = some l.length := by
    unfold L2.ixN
    simp
    omega
  rw [e]
  show (l ++ [x])[l.length]? = _
  simp
/-- the middle -/
theorem cut_mid {l : List D} {x : D} : cutL (l ++ [x]) (some 1) (some (-1)) = l.drop 1 := by
  unfold cutL
  have e1 : HT.sIx (l ++ [x]).length 0 (some 1) = 1 := by
    unfold HT.sIx
    simp only
    rw [if_neg (by decide), List.length_append]
    show min 1 (l.length + 1) = 1
    omega
  have e2 := sIx_m1 (l := l) (x := x)
  rw [e1, e2]
  cases l with
  | nil => rfl
  | cons y l =>
    show (l ++ [x]).take (l.length + 1 - 1) = l
    rw [Nat.add_sub_cancel, List.take_left]
section
variable {fuel : Nat}
/-! ### products -/
def pfor (f : Nat) (pe : E) : St := .for (.nm 2) (.seq (.var 0) false) (.cons (.asg (.nm 1) (.call f (.cons (.var 1) (.cons pe (.nil))) [])) .nil)
def p1 : St := .asg (.nm 1) (.tup (.cons (.cst (.int 1)) (.cons (.cst (.int 0)) (.cons (.cst (.int 0)) (.cons (.cst (.int 1)) (.nil))))))
theorem prod_for {n f : Nat} {pe : E} {d : D} {sh : List D} (ht : ∀ x y, TOk x y → callF P fuel n f [mD x, mD y] sh = .ok (.fr (mD (x.mul y))) sh)
    (hp : ∀ p x, evE (cf fuel n) pe ⟨[.fr d, .fr (mD p), .fr (.int x)], sh⟩ = .ok (.fr (mD (V x))) ⟨[.fr d, .fr (mD p), .fr (.int x)], sh⟩) : ∀ {l : List Int} {p : Mx} {w : Sl}, (∀ x ∈ l, Sml x) →
    ∃ w', forL (turnS (cf fuel n) (.nm 2) (.cons (.asg (.nm 1) (.call f (.cons (.var 1) (.cons pe (.nil))) [])) .nil)) (iL l) ⟨[.fr d, .fr (mD p), w], sh⟩ = .nx ⟨[.fr d, .fr (mD (p.mul (prod l))), w'], sh⟩
  | [], p, w, _ => ⟨w, by
    show Out.nx _ = _
    show Out.nx (⟨[.fr d, .fr (mD p), w], sh⟩ : S) = .nx ⟨[.fr d, .fr (mD (p.mul one)), w], sh⟩
    rw [mul_one]⟩
  | x :: l, p, w, hx => by
    obtain ⟨w', e⟩ := prod_for (l := l) (p := p.mul (V x)) (w := .fr (.int x)) ht hp fun y hy => hx y (List.mem_cons_of_mem _ hy)
    refine ⟨w', ?_⟩
    have e1 : turnS (cf fuel n) (.nm 2) (.cons (.asg (.nm 1) (.call f (.cons (.var 1) (.cons pe (.nil))) [])) .nil) (.int x) ⟨[.fr d, .fr (mD p), w], sh⟩ = .nx ⟨[.fr d, .fr (mD (p.mul (V x))), .fr (.int x)], sh⟩ := by
      show exSs (cf fuel n) _ ⟨[.fr d, .fr (mD p), .fr (.int x)], sh⟩ = _
      rw [exSs_nx (asg_nm (callc (s1 := ⟨[.fr d, .fr (mD p), .fr (.int x)], sh⟩) (ds := [mD p, mD (V x)]) (Es_cons (v := .fr (mD p)) (v_fr rfl) (Es_cons (hp p x) Es_nil)) (ht p (V x) (tok_V (hx x List.mem_cons_self))))), exSs]
      rfl
    show (match turnS (cf fuel n) (.nm 2) (.cons (.asg (.nm 1) (.call f (.cons (.var 1) (.cons pe (.nil))) [])) .nil) (.int x) ⟨[.fr d, .fr (mD p), w], sh⟩ with
      | .nx s1 => forL _ (iL l) s1
      | .ct s1 => forL _ (iL l) s1
      | .bk s1 => .nx s1
      | o => o) = _
    rw [e1]
    show forL _ (iL l) _ = _
    rw [e, mul_assoc]
    rfl
theorem prod_gen {n f : Nat} {pe : E} {l : List Int} {sh : List D} (ht : ∀ x y, TOk x y → callF P fuel n f [mD x, mD y] sh = .ok (.fr (mD (x.mul y))) sh)
    (hp : ∀ d p x, evE (cf fuel n) pe ⟨[.fr d, .fr (mD p), .fr (.int x)], sh⟩ = .ok (.fr (mD (V x))) ⟨[.fr d, .fr (mD p), .fr (.int x)], sh⟩) (hx : ∀ x ∈ l, Sml x) :
    outFR (exSs (cf fuel n) (.cons p1 (.cons (pfor f pe) (.cons (.retv 1) .nil))) ⟨[.fr (.lst (iL l)), .un, .un], sh⟩) = .ok (.fr (mD (prod l))) sh := by
  have a1 : exS (cf fuel n) p1 ⟨[.fr (.lst (iL l)), .un, .un], sh⟩ = .nx ⟨[.fr (.lst (iL l)), .fr (mD one), .un], sh⟩ := asg_nm (tup_of (Es_cons cst_ev (Es_cons cst_ev (Es_cons cst_ev (Es_cons cst_ev Es_nil)))) (by show 4 ≤ 90000; omega))
  obtain ⟨w', e⟩ := prod_for (d := .lst (iL l)) (p := one) (w := .un) ht (hp _) hx
  have a2 : exS (cf fuel n) (pfor f pe) ⟨[.fr (.lst (iL l)), .fr (mD one), .un], sh⟩ = .nx ⟨[.fr (.lst (iL l)), .fr (mD (prod l)), w'], sh⟩ := by
    unfold pfor
    rw [for_xs (l := iL l) (s1 := ⟨[.fr (.lst (iL l)), .fr (mD one), .un], sh⟩) rfl, e, one_mul]
  rw [exSs_nx a1, exSs_nx a2]
  rfl
def pe5 : E := .tup (.cons (.var 2) (.cons (.neg (.of (.cst (.int 1)))) (.cons (.cst (.int 1)) (.cons (.cst (.int 0)) (.nil)))))
def pe13 : E := .tup (.cons (.var 2) (.cons (.bin .Sub (.of (.cst (.int 0))) (.of (.cst (.int 1)))) (.cons (.cst (.int 1)) (.cons (.cst (.int 0)) (.nil)))))
theorem b5 : Pg.i_product_of.body = .cons p1 (.cons (pfor 4 pe5) (.cons (.retv 1) .nil)) := rfl
theorem b13 : Pg.i__law_r_product.body = .cons p1 (.cons (pfor 12 pe13) (.cons (.retv 1) .nil)) := rfl
theorem prod5 {n : Nat} {l : List Int} {sh : List D} (hx : ∀ x ∈ l, Sml x) : callF P fuel (n + 2) 5 [.lst (iL l)] sh = .ok (.fr (mD (prod l))) sh := by
  rw [callP (fn := Pg.i_product_of) rfl rfl]
  show outFR (exSs (cf fuel (n + 1)) Pg.i_product_of.body ⟨[.fr (.lst (iL l)), .un, .un], sh⟩) = _
  rw [b5]
  exact prod_gen (fun x y t => times_ok t) (fun d p x => tup_of (ds := [.int x, .int (-1), .int 1, .int 0]) (Es_cons (v := .fr (.int x)) (v_fr rfl) (Es_cons neg1 (Es_cons cst_ev (Es_cons cst_ev Es_nil)))) (by show 4 ≤ 90000; omega)) hx
/-! ### times of the law -/
def ee (i : Nat) : E := .bin .Add (.of (.bin .Mult (.of (.idx (.var 3) (.of (.cst (.int 0))))) (.of (.idx (.var 1) (.var 4))))) (.of (.bin .Mult (.of (.idx (.var 3) (.of (.cst (.int 1))))) (.of (.idx (.var 1) (.of (.bin .Add (.var 4) (.of (.cst (.int 2)))))))))
def rlc : E := .lc (ee 0) (.nm 4) (.seq (.of (.tup (.cons (.cst (.int 0)) (.cons (.cst (.int 1)) (.nil))))) false) (.nil) [4]
def rb : St := .exp (.mth .extend (.var 2) (.cons (.of rlc) (.nil)))
def r1 : St := .asg (.nm 2) (.lst (.nil))
def rf : St := .for (.nm 3) (.seq (.of (.tup (.cons (.slc (.var 0) (.no) (.so (.of (.cst (.int 2))))) (.cons (.slc (.var 0) (.so (.of (.cst (.int 2)))) (.no)) (.nil))))) false) (.cons rb .nil)
def rr : St := .ret (.bcl .tuple (.cons (.var 2) (.nil)))
theorem b12 : Pg.i__law_r_times.body = .cons r1 (.cons rf (.cons rr .nil)) := rfl
theorem compL2 {f : D → S → Res (Option D)} {x y a b : D} {s s1 s2 : S} (h1 : f x s = .ok (some a) s1) (h2 : f y s1 = .ok (some b) s2) : compL f [x, y] [] s = .ok [a, b] s2 := by
  have sb := size_big
  unfold compL
  rw [h1]
  show (if ([] : List D).length < sizeLine then compL f [y] ([] ++ [a]) s1 else .er) = _
  rw [if_pos (by show 0 < sizeLine; omega)]
  unfold compL
  rw [h2]
  show (if ([a] : List D).length < sizeLine then compL f [] ([a] ++ [b]) s2 else .er) = _
  rw [if_pos (by show 1 < sizeLine; omega)]
  rfl
theorem ext_sl {C : Cf} {i : Nat} {e : E} {s s1 : S} {xs ys : List D} (h0 : s.get i = .ow (.lst xs)) (he : evE C e s = .ok (.ow (.lst ys)) s1) (h1 : s1.get i = .ow (.lst xs)) (hz : xs.length + ys.length ≤ 90000) : exS C (.exp (.mth .extend (.var i) (.cons (.of e) (.nil)))) s = .nx (s1.set i (.ow (.lst (xs ++ ys)))) := by
  have hb : evB C (.var i) s = .ok (.sl i) s := by rw [evB, h0]
  refine exp_of (mth_mut (x := .sl i) (xs := [.v (.lst ys)]) (as := [.lst ys]) (d := .lst xs) (s2 := s1) hb ?_ ?_ rfl ?_ rfl (extend_ok hz) ?_)
  · show kindOk .extend (match s.get i with | .ow d => some d | .fr d => some (vw s.sh d) | .un => none) = true
    rw [h0]
    rfl
  · rw [evBs, B_of he]
    show ((evBs C .nil s1).bind fun xs s2 => Res.ok (Op.v (.lst ys) :: xs) s2) = _
    rw [evBs]
    rfl
  · show (match s1.get i with | .ow d => some d | .fr d => some (vw s1.sh d) | .un => none) = _
    rw [h1]
  · show (match s1.get i with | .ow _ => _ | _ => _) = _
    rw [h1]
theorem row_ok {C : Cf} {x : Sl} {p q e f g h : Int} {acc : List D} {w : Sl} {sh : List D} (hz : acc.length ≤ 80000) (k1 : Sml p ∨ Sml e) (k2 : Sml q ∨ Sml g) (k3 : Sml p ∨ Sml f) (k4 : Sml q ∨ Sml h) :
    exS C rb ⟨[x, .fr (.tup [.int e, .int f, .int g, .int h]), .ow (.lst acc), .fr (.tup [.int p, .int q]), w], sh⟩ = .nx ⟨[x, .fr (.tup [.int e, .int f, .int g, .int h]), .ow (.lst (acc ++ [.int (p * e + q * g), .int (p * f + q * h)])), .fr (.tup [.int p, .int q]), w], sh⟩ := by
  have key : ∀ (i : Int) (y z : Int), idxD (.tup [.int e, .int f, .int g, .int h]) (.int i) = some (.int y) → idxD (.tup [.int e, .int f, .int g, .int h]) (.int (i + 2)) = some (.int z) → (Sml p ∨ Sml y) → (Sml q ∨ Sml z) →
      evE C (ee 0) ⟨[x, .fr (.tup [.int e, .int f, .int g, .int h]), .ow (.lst acc), .fr (.tup [.int p, .int q]), .fr (.int i)], sh⟩ = .ok (.fr (.int (p * y + q * z))) ⟨[x, .fr (.tup [.int e, .int f, .int g, .int h]), .ow (.lst acc), .fr (.tup [.int p, .int q]), .fr (.int i)], sh⟩ := fun i y z hy hz c1 c2 => by
    have b3 : evB C (.var 3) ⟨[x, .fr (.tup [.int e, .int f, .int g, .int h]), .ow (.lst acc), .fr (.tup [.int p, .int q]), .fr (.int i)], sh⟩ = .ok (.v (.tup [.int p, .int q])) ⟨[x, .fr (.tup [.int e, .int f, .int g, .int h]), .ow (.lst acc), .fr (.tup [.int p, .int q]), .fr (.int i)], sh⟩ := B_fr rfl
    have b1 : evB C (.var 1) ⟨[x, .fr (.tup [.int e, .int f, .int g, .int h]), .ow (.lst acc), .fr (.tup [.int p, .int q]), .fr (.int i)], sh⟩ = .ok (.v (.tup [.int e, .int f, .int g, .int h])) ⟨[x, .fr (.tup [.int e, .int f, .int g, .int h]), .ow (.lst acc), .fr (.tup [.int p, .int q]), .fr (.int i)], sh⟩ := B_fr rfl
    have b4 : evB C (.var 4) ⟨[x, .fr (.tup [.int e, .int f, .int g, .int h]), .ow (.lst acc), .fr (.tup [.int p, .int q]), .fr (.int i)], sh⟩ = .ok (.v (.int i)) ⟨[x, .fr (.tup [.int e, .int f, .int g, .int h]), .ow (.lst acc), .fr (.tup [.int p, .int q]), .fr (.int i)], sh⟩ := B_fr rfl
    exact add_of (i := p * y) (j := q * z) (B_of (mul_of (B_of (idx_of b3 B_cst rfl rfl rfl)) (B_of (idx_of b1 b4 rfl rfl hy)) rfl rfl c1)) (B_of (mul_of (B_of (idx_of b3 B_cst rfl rfl rfl)) (B_of (idx_of b1 (B_of (add_of b4 B_cst rfl rfl)) rfl rfl hz)) rfl rfl c2)) rfl rfl
  have t0 := turn_nil (own := [4]) (tg := .nm 4) (s := ⟨[x, .fr (.tup [.int e, .int f, .int g, .int h]), .ow (.lst acc), .fr (.tup [.int p, .int q]), w], sh⟩) (s3 := ⟨[x, .fr (.tup [.int e, .int f, .int g, .int h]), .ow (.lst acc), .fr (.tup [.int p, .int q]), .fr (.int 0)], sh⟩) rfl (key 0 e g rfl rfl k1 k2)
  have t1 := turn_nil (own := [4]) (tg := .nm 4) (s := ⟨[x, .fr (.tup [.int e, .int f, .int g, .int h]), .ow (.lst acc), .fr (.tup [.int p, .int q]), .fr (.int 0)], sh⟩) (s3 := ⟨[x, .fr (.tup [.int e, .int f, .int g, .int h]), .ow (.lst acc), .fr (.tup [.int p, .int q]), .fr (.int 1)], sh⟩) rfl (key 1 f h rfl rfl k3 k4)
  have hi : evIt C (.seq (.of (.tup (.cons (.cst (.int 0)) (.cons (.cst (.int 1)) (.nil))))) false) ⟨[x, .fr (.tup [.int e, .int f, .int g, .int h]), .ow (.lst acc), .fr (.tup [.int p, .int q]), w], sh⟩ = .ok (.xs [.int 0, .int 1]) ⟨[x, .fr (.tup [.int e, .int f, .int g, .int h]), .ow (.lst acc), .fr (.tup [.int p, .int q]), w], sh⟩ := by
    rw [evIt, B_of (tup_of (Es_cons cst_ev (Es_cons cst_ev Es_nil)) (by show 2 ≤ 90000; omega))]
    rfl
  have el : evE C rlc ⟨[x, .fr (.tup [.int e, .int f, .int g, .int h]), .ow (.lst acc), .fr (.tup [.int p, .int q]), w], sh⟩ = .ok (.ow (.lst [.int (p * e + q * g), .int (p * f + q * h)])) ⟨[x, .fr (.tup [.int e, .int f, .int g, .int h]), .ow (.lst acc), .fr (.tup [.int p, .int q]), w], sh⟩ := by
    unfold rlc
    rw [lc_eq, hi]
    show (noEx (compL (turn C (ee 0) (.nm 4) .nil [4]) [.int 0, .int 1] [] ⟨[x, .fr (.tup [.int e, .int f, .int g, .int h]), .ow (.lst acc), .fr (.tup [.int p, .int q]), w], sh⟩)).bind _ = _
    rw [compL2 t0 t1]
    rfl
  unfold rb
  rw [ext_sl (i := 2) (xs := acc) rfl el rfl (by show acc.length + 2 ≤ 90000; omega)]
  rfl
theorem rtimes_ok {n : Nat} {x y : Mx} {sh : List D} (t : TOk x y) : callF P fuel (n + 1) 12 [mD x, mD y] sh = .ok (.fr (mD (x.mul y))) sh := by
  obtain ⟨a, b, c, d⟩ := x
  obtain ⟨e, f, g, h⟩ := y
  rw [callP (fn := Pg.i__law_r_times) rfl rfl]
  show outFR (exSs (cf fuel n) Pg.i__law_r_times.body ⟨[.fr (.tup [.int a, .int b, .int c, .int d]), .fr (.tup [.int e, .int f, .int g, .int h]), .un, .un, .un], sh⟩) = _
  have a1 : exS (cf fuel n) r1 ⟨[.fr (.tup [.int a, .int b, .int c, .int d]), .fr (.tup [.int e, .int f, .int g, .int h]), .un, .un, .un], sh⟩ = .nx ⟨[.fr (.tup [.int a, .int b, .int c, .int d]), .fr (.tup [.int e, .int f, .int g, .int h]), .ow (.lst []), .un, .un], sh⟩ := asg_nm (lst_of Es_nil (by show 0 ≤ 90000; omega))
  have hi : evIt (cf fuel n) (.seq (.of (.tup (.cons (.slc (.var 0) (.no) (.so (.of (.cst (.int 2))))) (.cons (.slc (.var 0) (.so (.of (.cst (.int 2)))) (.no)) (.nil))))) false) ⟨[.fr (.tup [.int a, .int b, .int c, .int d]), .fr (.tup [.int e, .int f, .int g, .int h]), .ow (.lst []), .un, .un], sh⟩ = .ok (.xs [.tup [.int a, .int b], .tup [.int c, .int d]]) ⟨[.fr (.tup [.int a, .int b, .int c, .int d]), .fr (.tup [.int e, .int f, .int g, .int h]), .ow (.lst []), .un, .un], sh⟩ := by
    rw [evIt, B_of (tup_of (ds := [.tup [.int a, .int b], .tup [.int c, .int d]]) (s1 := ⟨[.fr (.tup [.int a, .int b, .int c, .int d]), .fr (.tup [.int e, .int f, .int g, .int h]), .ow (.lst []), .un, .un], sh⟩) (Es_cons (v := .fr (.tup [.int a, .int b])) (s1 := ⟨[.fr (.tup [.int a, .int b, .int c, .int d]), .fr (.tup [.int e, .int f, .int g, .int h]), .ow (.lst []), .un, .un], sh⟩) rfl (Es_cons (v := .fr (.tup [.int c, .int d])) rfl Es_nil)) (by show 2 ≤ 90000; omega))]
    rfl
  have t1 := row_ok (C := cf fuel n) (x := .fr (.tup [.int a, .int b, .int c, .int d])) (p := a) (q := b) (e := e) (f := f) (g := g) (h := h) (acc := []) (w := .un) (sh := sh) (by show 0 ≤ 80000; omega) t.aa t.bc t.ab t.bd
  have t2 := row_ok (C := cf fuel n) (x := .fr (.tup [.int a, .int b, .int c, .int d])) (p := c) (q := d) (e := e) (f := f) (g := g) (h := h) (acc := [.int (a * e + b * g), .int (a * f + b * h)]) (w := .un) (sh := sh) (by show 2 ≤ 80000; omega) t.ca t.dc t.cb t.dd
  have a2 : exS (cf fuel n) rf ⟨[.fr (.tup [.int a, .int b, .int c, .int d]), .fr (.tup [.int e, .int f, .int g, .int h]), .ow (.lst []), .un, .un], sh⟩ = .nx ⟨[.fr (.tup [.int a, .int b, .int c, .int d]), .fr (.tup [.int e, .int f, .int g, .int h]), .ow (.lst [.int (a * e + b * g), .int (a * f + b * h), .int (c * e + d * g), .int (c * f + d * h)]), .fr (.tup [.int c, .int d]), .un], sh⟩ := by
    unfold rf
    rw [for_xs hi]
    unfold forL
    have u1 : turnS (cf fuel n) (.nm 3) (.cons rb .nil) (.tup [.int a, .int b]) ⟨[.fr (.tup [.int a, .int b, .int c, .int d]), .fr (.tup [.int e, .int f, .int g, .int h]), .ow (.lst []), .un, .un], sh⟩ = .nx ⟨[.fr (.tup [.int a, .int b, .int c, .int d]), .fr (.tup [.int e, .int f, .int g, .int h]), .ow (.lst [.int (a * e + b * g), .int (a * f + b * h)]), .fr (.tup [.int a, .int b]), .un], sh⟩ := by
      show exSs (cf fuel n) (.cons rb .nil) ⟨[.fr (.tup [.int a, .int b, .int c, .int d]), .fr (.tup [.int e, .int f, .int g, .int h]), .ow (.lst []), .fr (.tup [.int a, .int b]), .un], sh⟩ = _
      rw [exSs_nx t1, exSs]
      rfl
    rw [u1]
    show forL _ [_] _ = _
    unfold forL
    have u2 : turnS (cf fuel n) (.nm 3) (.cons rb .nil) (.tup [.int c, .int d]) ⟨[.fr (.tup [.int a, .int b, .int c, .int d]), .fr (.tup [.int e, .int f, .int g, .int h]), .ow (.lst [.int (a * e + b * g), .int (a * f + b * h)]), .fr (.tup [.int a, .int b]), .un], sh⟩ = .nx ⟨[.fr (.tup [.int a, .int b, .int c, .int d]), .fr (.tup [.int e, .int f, .int g, .int h]), .ow (.lst [.int (a * e + b * g), .int (a * f + b * h), .int (c * e + d * g), .int (c * f + d * h)]), .fr (.tup [.int c, .int d]), .un], sh⟩ := by
      show exSs (cf fuel n) (.cons rb .nil) ⟨[.fr (.tup [.int a, .int b, .int c, .int d]), .fr (.tup [.int e, .int f, .int g, .int h]), .ow (.lst [.int (a * e + b * g), .int (a * f + b * h)]), .fr (.tup [.int c, .int d]), .un], sh⟩ = _
      rw [exSs_nx t2, exSs]
      rfl
    rw [u2]
    rfl
  rw [b12, exSs_nx a1, exSs_nx a2]
  rfl
theorem prod13 {n : Nat} {l : List Int} {sh : List D} (hx : ∀ x ∈ l, Sml x) : callF P fuel (n + 2) 13 [.lst (iL l)] sh = .ok (.fr (mD (prod l))) sh := by
  rw [callP (fn := Pg.i__law_r_product) rfl rfl]
  show outFR (exSs (cf fuel (n + 1)) Pg.i__law_r_product.body ⟨[.fr (.lst (iL l)), .un, .un], sh⟩) = _
  rw [b13]
  exact prod_gen (fun x y t => rtimes_ok t) (fun d p x => tup_of (ds := [.int x, .int (-1), .int 1, .int 0]) (Es_cons (v := .fr (.int x)) (v_fr rfl) (Es_cons sub01 (Es_cons cst_ev (Es_cons cst_ev Es_nil)))) (by show 4 ≤ 90000; omega)) hx
end
end K18
end
section
set_option linter.all false
set_option maxRecDepth 100000
set_option maxHeartbeats 1000000
/-! K18d: worth, reduced roads of both. -/
namespace K18
open PySem Ev Gp
/-- a list of integers, shared or not -/
def LsI (sh : List D) (d : D) (l : List Int) : Prop := vw sh d = .lst (iL l)
theorem iL_snoc {l : List Int} {x : Int} : iL (l ++ [x]) = iL l ++ [.int x] := by
  unfold iL
  rw [List.map_append]
  rfl
theorem slc_m1 {C : Cf} {i : Nat} {d : D} {l : List Int} {x : Int} {s : S} (hg : s.get i = .fr d) (hd : LsI s.sh d (l ++ [x])) : evE C (.slc (.var i) .no (.so (.of (.neg (.of (.cst (.int 1))))))) s = .ok (.ow (.lst (iL l))) s := by
  have hb : evB C (.var i) s = .ok (.v d) s := B_fr hg
  rw [evE, hb]
  show ((evO C .no s).bind fun l' s2 => (evO C (.so (.of (.neg (.of (.cst (.int 1)))))) s2).bind fun h s3 => ofOpt ((cont s3 (.v d)).bind fun d => slcD d l' h) s3) = _
  rw [evO]
  show ((evO C (.so (.of (.neg (.of (.cst (.int 1)))))) s).bind fun h s3 => ofOpt ((cont s3 (.v d)).bind fun d => slcD d none h) s3) = _
  rw [evO, B_of neg1]
  show ofOpt (slcD (vw s.sh d) none (some (-1))) s = _
  rw [hd, iL_snoc]
  show Res.ok (Rv.ow (.lst (cutL (iL l ++ [.int x]) none (some (-1))))) s = _
  rw [cut_last]
theorem ix_m1 {C : Cf} {i : Nat} {d : D} {l : List Int} {x : Int} {s : S} (hg : s.get i = .fr d) (hd : LsI s.sh d (l ++ [x])) : evE C (.idx (.var i) (.of (.neg (.of (.cst (.int 1)))))) s = .ok (.fr (.int x)) s :=
  idx_of (d := .lst (iL l ++ [.int x])) (d' := .int (-1)) (B_fr hg) (B_of neg1) (by show some (vw s.sh d) = _; rw [hd, iL_snoc]) rfl ix_last
section
variable {fuel : Nat}
def wbody (f g : Nat) : Ss := .cons (.ret (.call f (.cons (.call g (.cons (.slc (.var 0) (.no) (.so (.of (.neg (.of (.cst (.int 1))))))) (.nil)) []) (.cons (.tup (.cons (.cst (.int 1)) (.cons (.idx (.var 0) (.of (.neg (.of (.cst (.int 1)))))) (.cons (.cst (.int 0)) (.cons (.cst (.int 1)) (.nil)))))) (.nil))) [])) .nil
theorem b8 : Pg.i_worth_of.body = wbody 4 5 := rfl
theorem b14 : Pg.i__law_r_worth.body = wbody 12 13 := rfl
theorem worth_gen {n f g : Nat} {d : D} {l : List Int} {x : Int} {sh : List D} (hd : LsI sh d (l ++ [x])) (hl : ∀ x ∈ l, Sml x) (hu : (Sml (prod l).a ∧ Sml (prod l).c) ∨ Sml x) (ht : ∀ x y, TOk x y → callF P fuel n f [mD x, mD y] sh = .ok (.fr (mD (x.mul y))) sh) (hp : callF P fuel n g [.lst (iL l)] sh = .ok (.fr (mD (prod l))) sh) :
    outFR (exSs (cf fuel n) (wbody f g) ⟨[.fr d], sh⟩) = .ok (.fr (mD (W l x))) sh := by
  have k1 : evE (cf fuel n) (.call g (.cons (.slc (.var 0) (.no) (.so (.of (.neg (.of (.cst (.int 1))))))) (.nil)) []) ⟨[.fr d], sh⟩ = .ok (.fr (mD (prod l))) ⟨[.fr d], sh⟩ := callc (s1 := ⟨[.fr d], sh⟩) (ds := [.lst (iL l)]) (Es_cons (slc_m1 (x := x) rfl hd) Es_nil) hp
  have k2 : evE (cf fuel n) (.tup (.cons (.cst (.int 1)) (.cons (.idx (.var 0) (.of (.neg (.of (.cst (.int 1)))))) (.cons (.cst (.int 0)) (.cons (.cst (.int 1)) (.nil)))))) ⟨[.fr d], sh⟩ = .ok (.fr (mD (U x))) ⟨[.fr d], sh⟩ := tup_of (ds := [.int 1, .int x, .int 0, .int 1]) (Es_cons cst_ev (Es_cons (v := .fr (.int x)) (ix_m1 (l := l) rfl hd) (Es_cons cst_ev (Es_cons cst_ev Es_nil)))) (by show 4 ≤ 90000; omega)
  unfold wbody
  rw [exSs_rt (ret_of (callc (s1 := ⟨[.fr d], sh⟩) (ds := [mD (prod l), mD (U x)]) (Es_cons k1 (Es_cons k2 Es_nil)) (ht (prod l) (U x) (tok_U hu))))]
  rfl
theorem wof_ok {n : Nat} {d : D} {l : List Int} {x : Int} {sh : List D} (hd : LsI sh d (l ++ [x])) (hl : ∀ x ∈ l, Sml x) (hu : (Sml (prod l).a ∧ Sml (prod l).c) ∨ Sml x) : callF P fuel (n + 3) 8 [d] sh = .ok (.fr (mD (W l x))) sh := by
  rw [callP (fn := Pg.i_worth_of) rfl rfl]
  show outFR (exSs (cf fuel (n + 2)) Pg.i_worth_of.body ⟨[.fr d], sh⟩) = _
  rw [b8]
  exact worth_gen hd hl hu (fun x y t => times_ok t) (prod5 hl)
theorem rw_ok {n : Nat} {d : D} {l : List Int} {x : Int} {sh : List D} (hd : LsI sh d (l ++ [x])) (hl : ∀ x ∈ l, Sml x) (hu : (Sml (prod l).a ∧ Sml (prod l).c) ∨ Sml x) : callF P fuel (n + 3) 14 [d] sh = .ok (.fr (mD (W l x))) sh := by
  rw [callP (fn := Pg.i__law_r_worth) rfl rfl]
  show outFR (exSs (cf fuel (n + 2)) Pg.i__law_r_worth.body ⟨[.fr d], sh⟩) = _
  rw [b14]
  exact worth_gen hd hl hu (fun x y t => rtimes_ok t) (prod13 hl)
/-! ### checked roads -/
theorem isI_iL {l : List Int} : (iL l).all isI = true := by
  unfold iL
  rw [List.all_map, List.all_eq_true]
  exact fun _ _ => rfl
theorem okTy_iL {l : List Int} : ∀ x ∈ iL l, okTy x = true := fun x hx => by
  obtain ⟨i, _, rfl⟩ := List.mem_map.mp hx
  rfl
def Two (d : D) (xs : List D) : Prop := d = .lst xs ∨ d = .tup xs
theorem road_ok {n : Nat} {d : D} {l : List Int} {x : Int} {sh : List D} (hd : Two d (iL (l ++ [x]))) (hz : l.length < 80000) : callF P fuel (n + 4) 7 [d] sh = .ok (.ow (.lst (iL (l ++ [x])))) sh := by
  have e2 := ai_seq (fuel := fuel) (n := n) (sh := sh) hd okTy_iL (by rw [iL_len, List.length_append]; show l.length + 1 < _; omega)
  rw [isI_iL] at e2
  have e6 : callF P fuel (n + 3) 6 [d] sh = .ok (.fr (.bl true)) sh := by
    rw [callP (fn := Pg.i_is_road) rfl rfl]
    show outFR (exSs (cf fuel (n + 2)) Pg.i_is_road.body ⟨[.fr d], sh⟩) = _
    unfold Pg.i_is_road
    have eb : evB (cf fuel (n + 2)) (.of (.bcl .len (.cons (.var 0) (.nil)))) ⟨[.fr d], sh⟩ = .ok (.v (.int ((iL (l ++ [x])).length : Nat))) ⟨[.fr d], sh⟩ := B_of (r := .fr (.int ((iL (l ++ [x])).length : Nat))) (bcl1 (x := .v d) (d := d) (B_fr rfl) (by rcases hd with rfl | rfl <;> rfl) (by rcases hd with rfl | rfl <;> rfl))
    rw [exSs_rt (ret_of (r := .fr (.bl true)) (s1 := ⟨[.fr d], sh⟩) (by
      rw [E_and_t (callc (s1 := ⟨[.fr d], sh⟩) (ds := [d]) (Es_cons (v := .fr d) (v_fr rfl) Es_nil) e2), E_one]
      refine E_cmp (x := .v (.int ((iL (l ++ [x])).length : Nat))) (y := .v (.int 0)) (d := .int ((iL (l ++ [x])).length : Nat)) (d' := .int 0) eb B_cst rfl rfl ?_
      show some (decide ((0 : Int) < ((iL (l ++ [x])).length : Nat))) = _
      rw [iL_len, List.length_append]
      show some (decide ((0 : Int) < ((l.length + 1 : Nat) : Int))) = _
      rw [decide_eq_true (by omega)]))]
    rfl
  rw [callP (fn := Pg.i_checked_road) rfl rfl]
  show outFR (exSs (cf fuel (n + 3)) Pg.i_checked_road.body ⟨[.fr d], sh⟩) = _
  unfold Pg.i_checked_road
  rw [exSs_nx (s1 := ⟨[.fr d], sh⟩) (by rw [iff_f (T_not (T_bl (callc (s1 := ⟨[.fr d], sh⟩) (ds := [d]) (Es_cons (v := .fr d) (v_fr rfl) Es_nil) e6))), exSs]), exSs_rt (ret_of (bcl1 (x := .v d) (d := d) (r := .ow (.lst (iL (l ++ [x])))) (B_fr rfl) (by rcases hd with rfl | rfl <;> rfl) (by rcases hd with rfl | rfl <;> rfl)))]
  rfl
theorem worth_ok {n : Nat} {d : D} {l : List Int} {x : Int} {sh : List D} (hd : Two d (iL (l ++ [x]))) (hz : l.length < 80000) (hl : ∀ x ∈ l, Sml x) (hu : (Sml (prod l).a ∧ Sml (prod l).c) ∨ Sml x) : callF P fuel (n + 5) 9 [d] sh = .ok (.fr (mD (W l x))) sh := by
  have e7 := road_ok (fuel := fuel) (n := n) (sh := sh) hd hz
  have e8 := wof_ok (fuel := fuel) (n := n + 1) (d := .lst (iL (l ++ [x]))) (sh := sh) rfl hl hu
  rw [callP (fn := Pg.i_worth) rfl rfl]
  show outFR (exSs (cf fuel (n + 4)) Pg.i_worth.body ⟨[.fr d], sh⟩) = _
  unfold Pg.i_worth
  have k7 : evE (cf fuel (n + 4)) (.call 7 (.cons (.var 0) (.nil)) []) ⟨[.fr d], sh⟩ = .ok (.ow (.lst (iL (l ++ [x])))) ⟨[.fr d], sh⟩ := callc (s1 := ⟨[.fr d], sh⟩) (ds := [d]) (Es_cons (v := .fr d) (v_fr rfl) Es_nil) e7
  rw [exSs_rt (ret_of (callc (s1 := ⟨[.fr d], sh⟩) (ds := [.lst (iL (l ++ [x]))]) (Es_cons k7 Es_nil) e8))]
  rfl
/-- what is no road -/
theorem road_no {n : Nat} {d : D} {sh : List D} (e : callF P fuel (n + 3) 6 [d] sh = .ok (.fr (.bl false)) sh) : callF P fuel (n + 5) 9 [d] sh = .ex 7 [d] sh := by
  have e7 : callF P fuel (n + 4) 7 [d] sh = .ex 7 [d] sh := by
    rw [callP (fn := Pg.i_checked_road) rfl rfl]
    show outFR (exSs (cf fuel (n + 3)) Pg.i_checked_road.body ⟨[.fr d], sh⟩) = _
    unfold Pg.i_checked_road
    rw [exSs_ex (c := 7) (ds := [d]) (s1 := ⟨[.fr d], sh⟩) (by
      rw [iff_t (T_not (T_bl (callc (s1 := ⟨[.fr d], sh⟩) (ds := [d]) (Es_cons (v := .fr d) (v_fr rfl) Es_nil) e))), exSs_ex (rse_of (Es_cons (v := .fr d) (v_fr rfl) Es_nil))]
      rfl)]
    rfl
  rw [callP (fn := Pg.i_worth) rfl rfl]
  show outFR (exSs (cf fuel (n + 4)) Pg.i_worth.body ⟨[.fr d], sh⟩) = _
  unfold Pg.i_worth
  have k7 : evE (cf fuel (n + 4)) (.call 7 (.cons (.var 0) (.nil)) []) ⟨[.fr d], sh⟩ = .ex 7 [d] ⟨[.fr d], sh⟩ := callx (s1 := ⟨[.fr d], sh⟩) (ds := [d]) (Es_cons (v := .fr d) (v_fr rfl) Es_nil) e7
  rw [exSs_ex (ret_ex (c := 7) (ds := [d]) (s1 := ⟨[.fr d], sh⟩) (by
    rw [evE, evEs, k7]
    rfl))]
  rfl
/-! ### the loop -/
def wt : T := .cmp .NotEq (.of (.idx (.var 2) (.of (.cst (.int 2))))) (.of (.cst (.int 0)))
theorem wt_ok {C : Cf} {x y w : Sl} {m : Mx} {sh : List D} : evT C wt ⟨[x, y, .fr (mD m), w], sh⟩ = .ok (!(m.c == 0)) ⟨[x, y, .fr (mD m), w], sh⟩ :=
  T_cmp (d := .int m.c) (d' := .int 0) (B_of (idx_of (d := mD m) (d' := .int 2) (B_fr rfl) B_cst rfl rfl rfl)) B_cst rfl rfl rfl
/-- where the loop goes -/
structure Wb (m : Mx) : Prop where
  a : m.a.natAbs ≤ 400000
  c : m.c.natAbs ≤ 400000
theorem Wb_next {m : Mx} (h : Wb m) (hc : m.c ≠ 0) : Wb ((Bm (cl m.a m.c)).mul m) := by
  have := c_less hc
  have hc := h.c
  exact ⟨by rw [B_a]; exact hc, by omega⟩
theorem cl_sml {m : Mx} (h : Wb m) (hc : m.c ≠ 0) : Sml (cl m.a m.c) := by
  have := cl_bd (a := m.a) hc
  have := h.a
  have := h.c
  unfold Sml
  omega
theorem whl_red {C : Cf} {x : Sl} {b : Ss} {sh : List D} (hb : ∀ (acc : List D) (m : Mx) (w : Sl), m.c ≠ 0 → Wb m → acc.length < 90000 → ∃ w', exSs C b ⟨[x, .ow (.lst acc), .fr (mD m), w], sh⟩ = .nx ⟨[x, .ow (.lst (acc ++ [.int (cl m.a m.c)])), .fr (mD ((Bm (cl m.a m.c)).mul m)), w'], sh⟩) :
    ∀ {n N : Nat} {m : Mx} {acc : List D} {w : Sl}, m.c.natAbs < n → n ≤ N → acc.length + n ≤ 90000 → Wb m → ∃ w', whl (evT C wt) (exSs C b) N ⟨[x, .ow (.lst acc), .fr (mD m), w], sh⟩ = .nx ⟨[x, .ow (.lst (acc ++ iL (red n m).1)), .fr (mD (red n m).2), w'], sh⟩
  | 0, N, m, acc, w, h, _, _, _ => by omega
  | n + 1, 0, m, acc, w, h, hN, _, _ => by omega
  | n + 1, N + 1, m, acc, w, h, hN, hz, wb => by
    unfold red
    by_cases hc : m.c = 0
    · refine ⟨w, ?_⟩
      rw [if_pos hc]
      unfold whl
      rw [wt_ok, hc]
      show Out.nx _ = _
      rw [show iL ([], m).1 = ([] : List D) from rfl, List.append_nil]
    · obtain ⟨w1, e1⟩ := hb acc m w hc wb (by omega)
      have cless := c_less hc
      obtain ⟨w2, e2⟩ := whl_red hb (n := n) (N := N) (m := (Bm (cl m.a m.c)).mul m) (acc := acc ++ [.int (cl m.a m.c)]) (w := w1) (by omega) (by omega) (by rw [List.length_append]; show acc.length + 1 + n ≤ _; omega) (Wb_next wb hc)
      refine ⟨w2, ?_⟩
      rw [if_neg hc]
      unfold whl
      rw [wt_ok, beq_eq_false_iff_ne.mpr hc]
      show (match exSs C b ⟨[x, .ow (.lst acc), .fr (mD m), w], sh⟩ with
        | .nx s2 => whl (evT C wt) (exSs C b) N s2
        | .ct s2 => whl (evT C wt) (exSs C b) N s2
        | .bk s2 => .nx s2
        | o => o) = _
      rw [e1]
      show whl (evT C wt) (exSs C b) N _ = _
      rw [e2, List.append_assoc]
      rfl
def wb3 (ne te : E) (f : Nat) : Ss := .cons (.asg (.nm 3) ne) (.cons (.exp (.app (.var 1) (.var 3))) (.cons (.asg (.nm 2) (.call f (.cons te (.cons (.var 2) (.nil))) [])) .nil))
theorem wb3_ok {n f : Nat} {ne te : E} {x : Sl} {sh : List D} (ht : ∀ x y, TOk x y → callF P fuel n f [mD x, mD y] sh = .ok (.fr (mD (x.mul y))) sh)
    (hn : ∀ y (m : Mx) w, m.c ≠ 0 → Wb m → evE (cf fuel n) ne ⟨[x, y, .fr (mD m), w], sh⟩ = .ok (.fr (.int (cl m.a m.c))) ⟨[x, y, .fr (mD m), w], sh⟩)
    (hq : ∀ y z k, evE (cf fuel n) te ⟨[x, y, z, .fr (.int k)], sh⟩ = .ok (.fr (mD (Bm k))) ⟨[x, y, z, .fr (.int k)], sh⟩) (acc : List D) (m : Mx) (w : Sl) (hc : m.c ≠ 0) (wb : Wb m) (hz : acc.length < 90000) :
    ∃ w', exSs (cf fuel n) (wb3 ne te f) ⟨[x, .ow (.lst acc), .fr (mD m), w], sh⟩ = .nx ⟨[x, .ow (.lst (acc ++ [.int (cl m.a m.c)])), .fr (mD ((Bm (cl m.a m.c)).mul m)), w'], sh⟩ := by
  refine ⟨.fr (.int (cl m.a m.c)), ?_⟩
  have k := cl_sml wb hc
  have e1 := hn (.ow (.lst acc)) m w hc wb
  generalize cl m.a m.c = q at *
  have a1 : exS (cf fuel n) (.asg (.nm 3) ne) ⟨[x, .ow (.lst acc), .fr (mD m), w], sh⟩ = .nx ⟨[x, .ow (.lst acc), .fr (mD m), .fr (.int q)], sh⟩ := asg_nm e1
  have a2 : exS (cf fuel n) (.exp (.app (.var 1) (.var 3))) ⟨[x, .ow (.lst acc), .fr (mD m), .fr (.int q)], sh⟩ = .nx ⟨[x, .ow (.lst (acc ++ [.int q])), .fr (mD m), .fr (.int q)], sh⟩ := app_sl2 (xs := acc) (r := .fr (.int q)) rfl (v_fr rfl) rfl hz
  have a3 : exS (cf fuel n) (.asg (.nm 2) (.call f (.cons te (.cons (.var 2) (.nil))) [])) ⟨[x, .ow (.lst (acc ++ [.int q])), .fr (mD m), .fr (.int q)], sh⟩ = .nx ⟨[x, .ow (.lst (acc ++ [.int q])), .fr (mD ((Bm q).mul m)), .fr (.int q)], sh⟩ :=
    asg_nm (callc (s1 := ⟨[x, .ow (.lst (acc ++ [.int q])), .fr (mD m), .fr (.int q)], sh⟩) (ds := [mD (Bm q), mD m]) (Es_cons (hq _ _ _) (Es_cons (v := .fr (mD m)) (v_fr rfl) Es_nil)) (ht (Bm q) m (tok_B k)))
  unfold wb3
  rw [exSs_nx a1, exSs_nx a2, exSs_nx a3, exSs]
def ne10 : E := .bin .Sub (.of (.cst (.int 0))) (.of (.bin .FloorDiv (.of (.bin .Sub (.of (.cst (.int 0))) (.of (.idx (.var 2) (.of (.cst (.int 0))))))) (.of (.idx (.var 2) (.of (.cst (.int 2)))))))
def te10 : E := .tup (.cons (.cst (.int 0)) (.cons (.cst (.int 1)) (.cons (.neg (.of (.cst (.int 1)))) (.cons (.var 3) (.nil)))))
def ne16 : E := .bin .Sub (.of (.cst (.int 0))) (.of (.bcl .int (.cons (.of (.bin .FloorDiv (.of (.bin .Sub (.of (.cst (.int 0))) (.of (.idx (.var 2) (.of (.cst (.int 0))))))) (.of (.idx (.var 2) (.of (.cst (.int 2))))))) (.nil))))
def te16 : E := .tup (.cons (.cst (.int 0)) (.cons (.cst (.int 1)) (.cons (.bin .Sub (.of (.cst (.int 0))) (.of (.cst (.int 1)))) (.cons (.var 3) (.nil)))))
theorem fdiv_of {C : Cf} {x y w : Sl} {m : Mx} {sh : List D} (hc : m.c ≠ 0) (wb : Wb m) : evE C (.bin .FloorDiv (.of (.bin .Sub (.of (.cst (.int 0))) (.of (.idx (.var 2) (.of (.cst (.int 0))))))) (.of (.idx (.var 2) (.of (.cst (.int 2)))))) ⟨[x, y, .fr (mD m), w], sh⟩ = .ok (.fr (.int ((0 - m.a).fdiv m.c))) ⟨[x, y, .fr (mD m), w], sh⟩ := by
  have i0 : evB C (.of (.idx (.var 2) (.of (.cst (.int 0))))) ⟨[x, y, .fr (mD m), w], sh⟩ = .ok (.v (.int m.a)) ⟨[x, y, .fr (mD m), w], sh⟩ := B_of (r := .fr (.int m.a)) (idx_of (d := mD m) (d' := .int 0) (B_fr rfl) B_cst rfl rfl rfl)
  have i2 : evB C (.of (.idx (.var 2) (.of (.cst (.int 2))))) ⟨[x, y, .fr (mD m), w], sh⟩ = .ok (.v (.int m.c)) ⟨[x, y, .fr (mD m), w], sh⟩ := B_of (r := .fr (.int m.c)) (idx_of (d := mD m) (d' := .int 2) (B_fr rfl) B_cst rfl rfl rfl)
  refine bin_of (d := .int (0 - m.a)) (d' := .int m.c) (B_of (sub_of B_cst i0 rfl rfl)) i2 rfl rfl ?_
  show (if divOk m.c = true then _ else _) = _
  have := wb.c
  rw [if_pos (by unfold divOk; rw [decide_eq_true (by omega)]; rfl)]
theorem ne10_ok {C : Cf} {x y w : Sl} {m : Mx} {sh : List D} (hc : m.c ≠ 0) (wb : Wb m) : evE C ne10 ⟨[x, y, .fr (mD m), w], sh⟩ = .ok (.fr (.int (cl m.a m.c))) ⟨[x, y, .fr (mD m), w], sh⟩ := sub_of B_cst (B_of (fdiv_of hc wb)) rfl rfl
theorem ne16_ok {C : Cf} {x y w : Sl} {m : Mx} {sh : List D} (hc : m.c ≠ 0) (wb : Wb m) : evE C ne16 ⟨[x, y, .fr (mD m), w], sh⟩ = .ok (.fr (.int (cl m.a m.c))) ⟨[x, y, .fr (mD m), w], sh⟩ := sub_of B_cst (B_of (bcl1 (B_of (fdiv_of hc wb)) rfl rfl)) rfl rfl
def w0 : St := .par [1, 2] (.cons (.lst (.nil)) (.cons (.var 0) (.nil)))
theorem b10 : Pg.i_reduced_to.body = .cons w0 (.cons (.whl wt (wb3 ne10 te10 4)) (.cons (.ret (.lst (.star (.var 1) (.cons (.bin .Mult (.of (.idx (.var 2) (.of (.cst (.int 1))))) (.of (.idx (.var 2) (.of (.cst (.int 0)))))) (.nil))))) .nil)) := rfl
theorem b16 : Pg.i__law_c_reduced.body = .cons w0 (.cons (.whl wt (wb3 ne16 te16 12)) (.cons (.ret (.bin .Add (.var 1) (.of (.lst (.cons (.bin .Mult (.of (.idx (.var 2) (.of (.cst (.int 0))))) (.of (.idx (.var 2) (.of (.cst (.int 1)))))) (.nil)))))) .nil)) := rfl
theorem w0_ok {C : Cf} {m : Mx} {sh : List D} : exS C w0 ⟨[.fr (mD m), .un, .un, .un], sh⟩ = .nx ⟨[.fr (mD m), .ow (.lst []), .fr (mD m), .un], sh⟩ := by
  unfold w0
  rw [par2 (lst_of Es_nil (by show 0 ≤ 90000; omega)) (v_fr rfl)]
  rfl
/-- what is asked of a matrix -/
structure MOk (m : Mx) : Prop where
  det : m.det = 1
  bd : Bd 400000 m
  c : m.c.natAbs ≤ 78125
theorem MOk.wb {m : Mx} (h : MOk m) : Wb m := ⟨h.bd.1, h.bd.2.2.1⟩
theorem MOk.oo {m : Mx} (h : MOk m) : (sgn m = 1 ∨ sgn m = -1) ∧ (red 90000 m).2 = sc (sgn m) (U (lst m)) ∧ m = sc (sgn m) (W (own m) (lst m)) ∧ (own m).length ≤ m.c.natAbs := own_ok h.det (by have := h.c; omega)
theorem MOk.len {m : Mx} (h : MOk m) : (own m).length ≤ 78125 := Nat.le_trans h.oo.2.2.2 h.c
theorem MOk.fin {m : Mx} (h : MOk m) : Sml (red 90000 m).2.a := by
  rw [h.oo.2.1]
  show Sml (sgn m * 1)
  rcases h.oo.1 with e | e <;> rw [e]
  · exact sml1
  · exact smlm
theorem red_call {n : Nat} {m : Mx} {sh : List D} (hf : 90000 ≤ fuel) (h : MOk m) : callF P fuel (n + 2) 10 [mD m] sh = .ok (.ow (.lst (iL (own m ++ [lst m])))) sh := by
  rw [callP (fn := Pg.i_reduced_to) rfl rfl]
  show outFR (exSs (cf fuel (n + 1)) Pg.i_reduced_to.body ⟨[.fr (mD m), .un, .un, .un], sh⟩) = _
  obtain ⟨w, e⟩ := whl_red (C := cf fuel (n + 1)) (x := .fr (mD m)) (b := wb3 ne10 te10 4) (sh := sh) (wb3_ok (fun x y t => times_ok t) (fun y m w hc wb => ne10_ok hc wb) (fun y z k => tup_of (ds := [.int 0, .int 1, .int (-1), .int k]) (Es_cons cst_ev (Es_cons cst_ev (Es_cons neg1 (Es_cons (v := .fr (.int k)) (v_fr rfl) Es_nil)))) (by show 4 ≤ 90000; omega))) (n := 90000) (N := fuel) (m := m) (acc := []) (w := .un) (by have := h.c; omega) hf (by show 0 + 90000 ≤ 90000; omega) h.wb
  have a2 : exS (cf fuel (n + 1)) (.whl wt (wb3 ne10 te10 4)) ⟨[.fr (mD m), .ow (.lst []), .fr (mD m), .un], sh⟩ = .nx ⟨[.fr (mD m), .ow (.lst (iL (own m))), .fr (mD (red 90000 m).2), w], sh⟩ := by
    rw [exS]
    exact e
  have fin := h.fin
  have len := h.len
  unfold lst
  generalize (red 90000 m).2 = q at *
  generalize own m = o at *
  have i1 : evB (cf fuel (n + 1)) (.of (.idx (.var 2) (.of (.cst (.int 1))))) ⟨[.fr (mD m), .ow (.lst (iL o)), .fr (mD q), w], sh⟩ = .ok (.v (.int q.b)) ⟨[.fr (mD m), .ow (.lst (iL o)), .fr (mD q), w], sh⟩ := B_of (r := .fr (.int q.b)) (idx_of (d := mD q) (d' := .int 1) (B_fr rfl) B_cst rfl rfl rfl)
  have i0 : evB (cf fuel (n + 1)) (.of (.idx (.var 2) (.of (.cst (.int 0))))) ⟨[.fr (mD m), .ow (.lst (iL o)), .fr (mD q), w], sh⟩ = .ok (.v (.int q.a)) ⟨[.fr (mD m), .ow (.lst (iL o)), .fr (mD q), w], sh⟩ := B_of (r := .fr (.int q.a)) (idx_of (d := mD q) (d' := .int 0) (B_fr rfl) B_cst rfl rfl rfl)
  have a3 : evE (cf fuel (n + 1)) (.lst (.star (.var 1) (.cons (.bin .Mult (.of (.idx (.var 2) (.of (.cst (.int 1))))) (.of (.idx (.var 2) (.of (.cst (.int 0)))))) (.nil)))) ⟨[.fr (mD m), .ow (.lst (iL o)), .fr (mD q), w], sh⟩ = .ok (.ow (.lst (iL (o ++ [q.a * q.b])))) ⟨[.fr (mD m), .ow (.lst (iL o)), .fr (mD q), w], sh⟩ := by
    rw [iL_snoc, Int.mul_comm]
    refine lst_of (ds := iL o ++ [.int (q.b * q.a)]) ?_ (by rw [List.length_append, iL_len]; show o.length + 1 ≤ 90000; omega)
    rw [evEs]
    show ((evEs (cf fuel (n + 1)) (.cons _ .nil) ⟨[.fr (mD m), .ow (.lst (iL o)), .fr (mD q), w], sh⟩).bind fun ys s2 => Res.ok (iL o ++ ys) s2) = _
    rw [Es_cons (mul_of i1 i0 rfl rfl (.inr fin)) Es_nil]
    rfl
  rw [b10, exSs_nx w0_ok, exSs_nx a2, exSs_rt (ret_of a3)]
  rfl
theorem cred_call {n : Nat} {m : Mx} {sh : List D} (hf : 90000 ≤ fuel) (h : MOk m) : callF P fuel (n + 2) 16 [mD m] sh = .ok (.ow (.lst (iL (own m ++ [lst m])))) sh := by
  rw [callP (fn := Pg.i__law_c_reduced) rfl rfl]
  show outFR (exSs (cf fuel (n + 1)) Pg.i__law_c_reduced.body ⟨[.fr (mD m), .un, .un, .un], sh⟩) = _
  obtain ⟨w, e⟩ := whl_red (C := cf fuel (n + 1)) (x := .fr (mD m)) (b := wb3 ne16 te16 12) (sh := sh) (wb3_ok (fun x y t => rtimes_ok t) (fun y m w hc wb => ne16_ok hc wb) (fun y z k => tup_of (ds := [.int 0, .int 1, .int (-1), .int k]) (Es_cons cst_ev (Es_cons cst_ev (Es_cons sub01 (Es_cons (v := .fr (.int k)) (v_fr rfl) Es_nil)))) (by show 4 ≤ 90000; omega))) (n := 90000) (N := fuel) (m := m) (acc := []) (w := .un) (by have := h.c; omega) hf (by show 0 + 90000 ≤ 90000; omega) h.wb
  have a2 : exS (cf fuel (n + 1)) (.whl wt (wb3 ne16 te16 12)) ⟨[.fr (mD m), .ow (.lst []), .fr (mD m), .un], sh⟩ = .nx ⟨[.fr (mD m), .ow (.lst (iL (own m))), .fr (mD (red 90000 m).2), w], sh⟩ := by
    rw [exS]
    exact e
  have fin := h.fin
  have len := h.len
  unfold lst
  generalize (red 90000 m).2 = q at *
  generalize own m = o at *
  have i1 : evB (cf fuel (n + 1)) (.of (.idx (.var 2) (.of (.cst (.int 1))))) ⟨[.fr (mD m), .ow (.lst (iL o)), .fr (mD q), w], sh⟩ = .ok (.v (.int q.b)) ⟨[.fr (mD m), .ow (.lst (iL o)), .fr (mD q), w], sh⟩ := B_of (r := .fr (.int q.b)) (idx_of (d := mD q) (d' := .int 1) (B_fr rfl) B_cst rfl rfl rfl)
  have i0 : evB (cf fuel (n + 1)) (.of (.idx (.var 2) (.of (.cst (.int 0))))) ⟨[.fr (mD m), .ow (.lst (iL o)), .fr (mD q), w], sh⟩ = .ok (.v (.int q.a)) ⟨[.fr (mD m), .ow (.lst (iL o)), .fr (mD q), w], sh⟩ := B_of (r := .fr (.int q.a)) (idx_of (d := mD q) (d' := .int 0) (B_fr rfl) B_cst rfl rfl rfl)
  have b1 : evB (cf fuel (n + 1)) (.var 1) ⟨[.fr (mD m), .ow (.lst (iL o)), .fr (mD q), w], sh⟩ = .ok (.sl 1) ⟨[.fr (mD m), .ow (.lst (iL o)), .fr (mD q), w], sh⟩ := rfl
  have a3 : evE (cf fuel (n + 1)) (.bin .Add (.var 1) (.of (.lst (.cons (.bin .Mult (.of (.idx (.var 2) (.of (.cst (.int 0))))) (.of (.idx (.var 2) (.of (.cst (.int 1)))))) (.nil))))) ⟨[.fr (mD m), .ow (.lst (iL o)), .fr (mD q), w], sh⟩ = .ok (.ow (.lst (iL (o ++ [q.a * q.b])))) ⟨[.fr (mD m), .ow (.lst (iL o)), .fr (mD q), w], sh⟩ := by
    rw [iL_snoc]
    exact bin_of (d := .lst (iL o)) (d' := .lst [.int (q.a * q.b)]) b1 (B_of (lst_of (Es_cons (mul_of i0 i1 rfl rfl (.inl fin)) Es_nil) (by show 1 ≤ 90000; omega))) rfl rfl (add_lst (by rw [iL_len]; show o.length + 1 ≤ 90000; omega))
  rw [b16, exSs_nx w0_ok, exSs_nx a2, exSs_rt (ret_of a3)]
  rfl
end
end K18
end
section
set_option linter.all false
set_option maxRecDepth 100000
set_option maxHeartbeats 1000000
/-! K18e: road_of. -/
namespace K18
open PySem Ev Gp
/-! ### equality -/
theorem eqInt {sh : List D} {n : Nat} {a b : Int} : eqD sh n (.int a) (.int b) = some (a == b) := by
  cases n <;> rfl
theorem eqL {sh : List D} {n : Nat} : ∀ {l l' : List Int}, eqDs (eqD sh n) (iL l) (iL l') = some (l == l')
  | [], [] => rfl
  | [], _ :: _ => rfl
  | _ :: _, [] => rfl
  | a :: l, b :: l' => by
    show ((eqD sh n (.int a) (.int b)).bind fun c => (eqDs (eqD sh n) (iL l) (iL l')).map fun r => c && r) = _
    rw [eqInt, eqL]
    rfl
def lM (m : Mx) : List Int := [m.a, m.b, m.c, m.d]
theorem lM_inj {x y : Mx} (h : lM x = lM y) : x = y := by
  unfold lM at h
  obtain ⟨a, b, c, d⟩ := x
  obtain ⟨e, f, g, i⟩ := y
  simp only [List.cons.injEq] at h
  obtain ⟨rfl, rfl, rfl, rfl, _⟩ := h
  rfl
theorem eqM {sh : List D} {x y : Mx} : eqD sh dp (mD x) (mD y) = some (lM x == lM y) := eqL (l := lM x) (l' := lM y)
theorem eqM_c {sh : List D} {x y : Mx} : cmpD sh .Eq (mD x) (mD y) = some (lM x == lM y) := eqM (sh := sh)
theorem neM_c {sh : List D} {x y : Mx} : cmpD sh .NotEq (mD x) (mD y) = some (!(lM x == lM y)) := by
  show (eqD sh dp (mD x) (mD y)).map (!·) = _
  rw [eqM]
  rfl
theorem neL_c {sh : List D} {l l' : List Int} : cmpD sh .NotEq (.lst (iL l)) (.lst (iL l')) = some (!(l == l')) := by
  show (if (iL l).length = (iL l').length then eqDs (eqD sh 59) (iL l) (iL l') else some false).map (!·) = _
  by_cases h : (iL l).length = (iL l').length
  · rw [if_pos h, eqL]
    rfl
  · rw [if_neg h]
    have : l ≠ l' := fun e => h (by rw [e])
    rw [beq_eq_false_iff_ne.mpr this]
    rfl
/-! ### the numbers of a road -/
theorem MOk.nums {m : Mx} (h : MOk m) : ∀ x ∈ own m, Sml x := fun x hx => by
  have := red_bd (A := 400000) h.wb.a h.wb.c x hx
  unfold Sml
  omega
theorem sml_sc {s a : Int} {A : Nat} (hs : s = 1 ∨ s = -1) (h : (s * a).natAbs ≤ A) : a.natAbs ≤ A := by
  rcases hs with rfl | rfl <;> omega
theorem MOk.pac {m : Mx} (h : MOk m) : Sml (prod (own m)).a ∧ Sml (prod (own m)).c := by
  obtain ⟨hs, _, e, _⟩ := h.oo
  have ea : m.a = sgn m * ((prod (own m)).a * 1 + (prod (own m)).b * 0) := congrArg Mx.a e
  have ec : m.c = sgn m * ((prod (own m)).c * 1 + (prod (own m)).d * 0) := congrArg Mx.c e
  have ha := h.wb.a
  have hc := h.wb.c
  rw [ea] at ha
  rw [ec] at hc
  have h1 := sml_sc hs ha
  have h2 := sml_sc hs hc
  unfold Sml
  omega
theorem MOk.ww {m : Mx} (h : MOk m) : W (own m) (lst m) = sc (sgn m) m := by
  obtain ⟨hs, _, e, _⟩ := h.oo
  conv => rhs; rw [e]
  have es : sgn (sc (sgn m) (W (own m) (lst m))) = sgn m := by rw [← e]
  rw [es, sc_sc hs]
/-- whether what a road is worth is the matrix tells the sign -/
theorem MOk.sign {m : Mx} (h : MOk m) : (sgn m = 1 ∧ (lM (W (own m) (lst m)) == lM m) = true) ∨ (sgn m = -1 ∧ (lM (W (own m) (lst m)) == lM m) = false) := by
  rw [h.ww]
  rcases h.oo.1 with e | e
  · refine .inl ⟨e, ?_⟩
    rw [e, sc_one, beq_self_eq_true]
  · refine .inr ⟨e, ?_⟩
    rw [e]
    exact beq_eq_false_iff_ne.mpr fun z => sc_ne h.det (lM_inj z)
section
variable {fuel : Nat}
/-! ### checked matrices -/
def cm1 : St := .iff (.or (.not (.of (.of (.call 2 (.cons (.var 0) (.nil)) [])))) (.one (.cmp .NotEq (.of (.bcl .len (.cons (.var 0) (.nil)))) (.of (.cst (.int 4)))))) (.cons (.rse 4 (.cons (.var 0) (.nil)))
  (.nil)) (.nil)
theorem b3 : Pg.i_checked_matrix.body = .cons cm1 (.cons (.ret (.bcl .tuple (.cons (.var 0) (.nil)))) .nil) := rfl
theorem cm_ok {n : Nat} {d : D} {m : Mx} {sh : List D} (hd : Two d (iL (lM m))) : callF P fuel (n + 3) 3 [d] sh = .ok (.fr (mD m)) sh := by
  have e2 := ai_seq (fuel := fuel) (n := n) (sh := sh) hd okTy_iL (by rw [iL_len]; show 4 < 90000; omega)
  rw [isI_iL] at e2
  rw [callP (fn := Pg.i_checked_matrix) rfl rfl]
  show outFR (exSs (cf fuel (n + 2)) Pg.i_checked_matrix.body ⟨[.fr d], sh⟩) = _
  have eb : evB (cf fuel (n + 2)) (.of (.bcl .len (.cons (.var 0) (.nil)))) ⟨[.fr d], sh⟩ = .ok (.v (.int 4)) ⟨[.fr d], sh⟩ := B_of (r := .fr (.int 4)) (bcl1 (x := .v d) (d := d) (B_fr rfl) (by rcases hd with rfl | rfl <;> rfl) (by rcases hd with rfl | rfl <;> rfl))
  have t0 := T_or_f (r := .one (.cmp .NotEq (.of (.bcl .len (.cons (.var 0) (.nil)))) (.of (.cst (.int 4))))) (T_not (T_bl (callc (s1 := ⟨[.fr d], sh⟩) (ds := [d]) (Es_cons (v := .fr d) (v_fr (i := 0) rfl) Es_nil) e2)))
  rw [T_one] at t0
  have t1 := T_cmp (op := .NotEq) (x := .v (.int 4)) (y := .v (.int 4)) (d := .int 4) (d' := .int 4) (c := false) eb B_cst rfl rfl rfl
  have a1 : exS (cf fuel (n + 2)) cm1 ⟨[.fr d], sh⟩ = .nx ⟨[.fr d], sh⟩ := by
    unfold cm1
    rw [iff_f (t0.trans t1), exSs]
  rw [b3, exSs_nx a1, exSs_rt (ret_of (bcl1 (x := .v d) (d := d) (r := .fr (mD m)) (B_fr rfl) (by rcases hd with rfl | rfl <;> rfl) (by rcases hd with rfl | rfl <;> rfl)))]
  rfl
/-! ### road_of -/
def ro1 : St := .asg (.nm 1) (.call 3 (.cons (.var 0) (.nil)) [])
def rod : E := .bin .Sub (.of (.bin .Mult (.of (.idx (.var 1) (.of (.cst (.int 0))))) (.of (.idx (.var 1) (.of (.cst (.int 3))))))) (.of (.bin .Mult (.of (.idx (.var 1) (.of (.cst (.int 1))))) (.of (.idx (.var 1) (.of (.cst (.int 2)))))))
def ro2 : St := .iff (.cmp .NotEq (.of rod) (.of (.cst (.int 1)))) (.cons (.rse 4 (.cons (.var 0) (.nil)))
  (.nil)) (.nil)
def ro3 : St := .asg (.nm 2) (.share (.call 10 (.cons (.var 1) (.nil)) []))
def ro4 : St := .ret (.tup (.cons (.ife (.cmp .Eq (.of (.call 8 (.cons (.var 2) (.nil)) [])) (.var 1)) (.cst (.int 1)) (.neg (.of (.cst (.int 1))))) (.cons (.var 2) (.nil))))
theorem b11 : Pg.i_road_of.body = .cons ro1 (.cons ro2 (.cons ro3 (.cons ro4 .nil))) := rfl
theorem det_of {C : Cf} {x w : Sl} {m : Mx} {sh : List D} (hb : Bd 400000 m) : evE C rod ⟨[x, .fr (mD m), w], sh⟩ = .ok (.fr (.int m.det)) ⟨[x, .fr (mD m), w], sh⟩ := by
  have ix : ∀ (i : Int) (y : Int), idxD (mD m) (.int i) = some (.int y) → evB C (.of (.idx (.var 1) (.of (.cst (.int i))))) ⟨[x, .fr (mD m), w], sh⟩ = .ok (.v (.int y)) ⟨[x, .fr (mD m), w], sh⟩ := fun i y h => B_of (r := .fr (.int y)) (idx_of (d := mD m) (d' := .int i) (B_fr rfl) B_cst rfl rfl h)
  have i0 := ix 0 m.a rfl
  have i1 := ix 1 m.b rfl
  have i2 := ix 2 m.c rfl
  have i3 := ix 3 m.d rfl
  obtain ⟨h1, h2, h3, h4⟩ := hb
  exact sub_of (i := m.a * m.d) (j := m.b * m.c) (B_of (mul_of i0 i3 rfl rfl (.inl (by unfold Sml; omega)))) (B_of (mul_of i1 i2 rfl rfl (.inl (by unfold Sml; omega)))) rfl rfl
theorem road_call {n : Nat} {d : D} {m : Mx} {sh : List D} (hf : 90000 ≤ fuel) (hd : Two d (iL (lM m))) (h : MOk m) : callF P fuel (n + 4) 11 [d] sh = .ok (.fr (.tup [.int (sgn m), .sh sh.length])) (sh ++ [.lst (iL (own m ++ [lst m]))]) := by
  have e3 := cm_ok (fuel := fuel) (n := n) (sh := sh) hd
  have e10 := red_call (fuel := fuel) (n := n + 1) (sh := sh) hf h
  have e8 := wof_ok (fuel := fuel) (n := n) (d := .sh sh.length) (l := own m) (x := lst m) (sh := sh ++ [.lst (iL (own m ++ [lst m]))]) (vw_get last_get) h.nums (.inl h.pac)
  rw [callP (fn := Pg.i_road_of) rfl rfl]
  show outFR (exSs (cf fuel (n + 3)) Pg.i_road_of.body ⟨[.fr d, .un, .un], sh⟩) = _
  have a1 : exS (cf fuel (n + 3)) ro1 ⟨[.fr d, .un, .un], sh⟩ = .nx ⟨[.fr d, .fr (mD m), .un], sh⟩ := asg_nm (callc (s1 := ⟨[.fr d, .un, .un], sh⟩) (ds := [d]) (Es_cons (v := .fr d) (v_fr rfl) Es_nil) e3)
  have a2 : exS (cf fuel (n + 3)) ro2 ⟨[.fr d, .fr (mD m), .un], sh⟩ = .nx ⟨[.fr d, .fr (mD m), .un], sh⟩ := by
    unfold ro2
    have ed := det_of (C := cf fuel (n + 3)) (x := .fr d) (w := .un) (sh := sh) h.bd
    rw [h.det] at ed
    rw [iff_f (T_cmp (x := .v (.int 1)) (d := .int 1) (d' := .int 1) (c := false) (B_of ed) B_cst rfl rfl rfl), exSs]
  have a3 : exS (cf fuel (n + 3)) ro3 ⟨[.fr d, .fr (mD m), .un], sh⟩ = .nx ⟨[.fr d, .fr (mD m), .fr (.sh sh.length)], sh ++ [.lst (iL (own m ++ [lst m]))]⟩ := asg_nm (share_ow (callc (s1 := ⟨[.fr d, .fr (mD m), .un], sh⟩) (ds := [mD m]) (Es_cons (v := .fr (mD m)) (v_fr rfl) Es_nil) e10))
  generalize sh ++ [D.lst (iL (own m ++ [lst m]))] = sh1 at *
  generalize sh.length = k at *
  have k8 : evB (cf fuel (n + 3)) (.of (.call 8 (.cons (.var 2) (.nil)) [])) ⟨[.fr d, .fr (mD m), .fr (.sh k)], sh1⟩ = .ok (.v (mD (W (own m) (lst m)))) ⟨[.fr d, .fr (mD m), .fr (.sh k)], sh1⟩ := B_of (r := .fr (mD (W (own m) (lst m)))) (callc (s1 := ⟨[.fr d, .fr (mD m), .fr (.sh k)], sh1⟩) (ds := [.sh k]) (Es_cons (v := .fr (.sh k)) (v_fr rfl) Es_nil) e8)
  have tt : evT (cf fuel (n + 3)) (.cmp .Eq (.of (.call 8 (.cons (.var 2) (.nil)) [])) (.var 1)) ⟨[.fr d, .fr (mD m), .fr (.sh k)], sh1⟩ = .ok (lM (W (own m) (lst m)) == lM m) ⟨[.fr d, .fr (mD m), .fr (.sh k)], sh1⟩ := T_cmp (d := mD (W (own m) (lst m))) (d' := mD m) k8 (B_fr rfl) rfl rfl eqM_c
  have ei : evE (cf fuel (n + 3)) (.ife (.cmp .Eq (.of (.call 8 (.cons (.var 2) (.nil)) [])) (.var 1)) (.cst (.int 1)) (.neg (.of (.cst (.int 1))))) ⟨[.fr d, .fr (mD m), .fr (.sh k)], sh1⟩ = .ok (.fr (.int (sgn m))) ⟨[.fr d, .fr (mD m), .fr (.sh k)], sh1⟩ := by
    rw [ife_of tt]
    rcases h.sign with ⟨e1, e2⟩ | ⟨e1, e2⟩
    · rw [e1, e2, if_pos rfl, cst_ev]
    · rw [e1, e2, if_neg (by decide), neg1]
  rw [b11, exSs_nx a1, exSs_nx a2, exSs_nx a3]
  unfold ro4
  rw [exSs_rt (ret_of (tup_of (ds := [.int (sgn m), .sh k]) (Es_cons ei (Es_cons (v := .fr (.sh k)) (v_fr rfl) Es_nil)) (by show 2 ≤ 90000; omega)))]
  rfl
/-! ### what is no matrix -/
theorem road_ex {n : Nat} {d : D} {sh : List D} (e3 : callF P fuel (n + 3) 3 [d] sh = .ex 4 [d] sh) : callF P fuel (n + 4) 11 [d] sh = .ex 4 [d] sh := by
  rw [callP (fn := Pg.i_road_of) rfl rfl]
  show outFR (exSs (cf fuel (n + 3)) Pg.i_road_of.body ⟨[.fr d, .un, .un], sh⟩) = _
  have a1 : exS (cf fuel (n + 3)) ro1 ⟨[.fr d, .un, .un], sh⟩ = .ex 4 [d] ⟨[.fr d, .un, .un], sh⟩ := asg_ex (callx (s1 := ⟨[.fr d, .un, .un], sh⟩) (ds := [d]) (Es_cons (v := .fr d) (v_fr rfl) Es_nil) e3)
  rw [b11, exSs_ex a1]
  rfl
theorem road_det {n : Nat} {d : D} {m : Mx} {sh : List D} (hd : Two d (iL (lM m))) (hb : Bd 400000 m) (h : m.det ≠ 1) : callF P fuel (n + 4) 11 [d] sh = .ex 4 [d] sh := by
  have e3 := cm_ok (fuel := fuel) (n := n) (sh := sh) hd
  rw [callP (fn := Pg.i_road_of) rfl rfl]
  show outFR (exSs (cf fuel (n + 3)) Pg.i_road_of.body ⟨[.fr d, .un, .un], sh⟩) = _
  have a1 : exS (cf fuel (n + 3)) ro1 ⟨[.fr d, .un, .un], sh⟩ = .nx ⟨[.fr d, .fr (mD m), .un], sh⟩ := asg_nm (callc (s1 := ⟨[.fr d, .un, .un], sh⟩) (ds := [d]) (Es_cons (v := .fr d) (v_fr rfl) Es_nil) e3)
  have a2 : exS (cf fuel (n + 3)) ro2 ⟨[.fr d, .fr (mD m), .un], sh⟩ = .ex 4 [d] ⟨[.fr d, .fr (mD m), .un], sh⟩ := by
    unfold ro2
    have ed := det_of (C := cf fuel (n + 3)) (x := .fr d) (w := .un) (sh := sh) hb
    rw [iff_t (T_cmp (x := .v (.int m.det)) (d := .int m.det) (d' := .int 1) (c := true) (B_of ed) B_cst rfl rfl (by
      show some (!(m.det == 1)) = _
      rw [beq_eq_false_iff_ne.mpr h]
      rfl)), exSs_ex (rse_of (Es_cons (v := .fr d) (v_fr (i := 0) rfl) Es_nil))]
    rfl
  rw [b11, exSs_nx a1, exSs_ex a2]
  rfl
/-- integers are not all, or not four -/
theorem cm_no {n : Nat} {d : D} {sh : List D} {c : Bool} (e2 : callF P fuel (n + 2) 2 [d] sh = .ok (.fr (.bl c)) sh) (hl : c = true → ∃ k : Nat, bcl .len [vw sh d] = some (.fr (.int (k : Nat))) ∧ k ≠ 4) : callF P fuel (n + 3) 3 [d] sh = .ex 4 [d] sh := by
  rw [callP (fn := Pg.i_checked_matrix) rfl rfl]
  show outFR (exSs (cf fuel (n + 2)) Pg.i_checked_matrix.body ⟨[.fr d], sh⟩) = _
  have k2 := T_not (T_bl (callc (s1 := ⟨[.fr d], sh⟩) (ds := [d]) (Es_cons (v := .fr d) (v_fr (i := 0) rfl) Es_nil) e2))
  have tt : evT (cf fuel (n + 2)) (.or (.not (.of (.of (.call 2 (.cons (.var 0) (.nil)) [])))) (.one (.cmp .NotEq (.of (.bcl .len (.cons (.var 0) (.nil)))) (.of (.cst (.int 4)))))) ⟨[.fr d], sh⟩ = .ok true ⟨[.fr d], sh⟩ := by
    cases c with
    | false => exact T_or_t k2
    | true =>
      obtain ⟨k, hk, h4⟩ := hl rfl
      rw [T_or_f k2, T_one]
      refine T_cmp (x := .v (.int (k : Nat))) (d := .int (k : Nat)) (d' := .int 4) (B_of (r := .fr (.int (k : Nat))) (bcl1 (x := .v d) (d := vw sh d) (B_fr rfl) rfl hk)) B_cst rfl rfl ?_
      show some (!((k : Int) == 4)) = _
      rw [beq_eq_false_iff_ne.mpr (by omega)]
      rfl
  have a1 : exS (cf fuel (n + 2)) cm1 ⟨[.fr d], sh⟩ = .ex 4 [d] ⟨[.fr d], sh⟩ := by
    unfold cm1
    rw [iff_t tt, exSs_ex (rse_of (Es_cons (v := .fr d) (v_fr (i := 0) rfl) Es_nil))]
    rfl
  rw [b3, exSs_ex a1]
  rfl
end
end K18
end
section
set_option linter.all false
set_option maxRecDepth 100000
set_option maxHeartbeats 1000000
/-! K18f: drawn roads, drawn matrices. -/
namespace K18
open PySem Ev Gp
section
variable {fuel : Nat}
theorem draw20 {n c : Nat} {sh : List D} {many : Int} (hf : 90000 ≤ fuel) (h : SO c sh) (hc : c < 900000000) (h1 : 0 < many) (h2 : many < 1000) : ∃ d sh', callF P fuel (n + 1) 20 [.sh 1, .int many] sh = .ok (.fr (.int d)) sh' ∧ 0 ≤ d ∧ d < many ∧ SO (c + 1) sh' ∧ Ag sh sh' :=
  draw_ok (P := P) (f := 20) rfl hf h (by omega) h1 (by omega)
/-- a comprehension that draws -/
theorem comp_draw {f : D → S → Res (Option D)} {En : Sl → List Sl} {Q : Int → Prop} (ht : ∀ x c sh v, SO c sh → c < 800000000 → ∃ i sh' v', f x ⟨En v, sh⟩ = .ok (some (.int i)) ⟨En v', sh'⟩ ∧ Q i ∧ SO (c + 1) sh') : ∀ {l acc : List D} {c : Nat} {sh : List D} {v : Sl}, SO c sh → c + l.length < 800000000 → acc.length + l.length < 90000 →
    ∃ ns sh' v', compL f l acc ⟨En v, sh⟩ = .ok (acc ++ iL ns) ⟨En v', sh'⟩ ∧ ns.length = l.length ∧ (∀ x ∈ ns, Q x) ∧ SO (c + l.length) sh'
  | [], acc, c, sh, v, h, _, _ => ⟨[], sh, v, by rw [show iL [] = ([] : List D) from rfl, List.append_nil]; rfl, rfl, (fun x hx => by cases hx), h⟩
  | x :: l, acc, c, sh, v, h, hc, hz => by
    have sb := size_big
    rw [List.length_cons] at hc hz
    obtain ⟨i, sh1, v1, e1, q1, s1⟩ := ht x c sh v h (by omega)
    obtain ⟨ns, sh2, v2, e2, l2, q2, s2⟩ := comp_draw ht (l := l) (acc := acc ++ [.int i]) (c := c + 1) (sh := sh1) (v := v1) s1 (by omega) (by rw [List.length_append]; show acc.length + 1 + _ < _; omega)
    refine ⟨i :: ns, sh2, v2, ?_, by rw [List.length_cons, List.length_cons, l2], List.forall_mem_cons.mpr ⟨q1, q2⟩, by rw [List.length_cons]; exact SO_le s2 (by omega)⟩
    unfold compL
    rw [e1]
    show (if acc.length < sizeLine then compL f l (acc ++ [.int i]) ⟨En v1, sh1⟩ else .er) = _
    rw [if_pos (by omega), e2, List.append_assoc]
    rfl
def cr1 : St := .asg (.nm 3) (.bin .Add (.of (.cst (.int 1))) (.of (.call 20 (.cons (.var 0) (.cons (.var 1) (.nil))) [])))
def cla : E := .lc (.bin .Add (.of (.cst (.int 2))) (.of (.call 20 (.cons (.var 0) (.cons (.cst (.int 3)) (.nil))) []))) (.nm 4) (.rng1 (.var 3)) (.nil) [4]
def clb : E := .lc (.bin .Sub (.of (.call 20 (.cons (.var 0) (.cons (.bin .Add (.of (.bin .Mult (.of (.cst (.int 2))) (.var 2))) (.of (.cst (.int 1)))) (.nil))) [])) (.var 2)) (.nm 4) (.rng1 (.var 3)) (.nil) [4]
def cr2 : St := .iff (.cmp .Eq (.of (.call 20 (.cons (.var 0) (.cons (.cst (.int 3)) (.nil))) [])) (.of (.cst (.int 0)))) (.cons (.ret cla)
  (.nil)) (.nil)
theorem b17 : Pg.i__law_c_road.body = .cons cr1 (.cons cr2 (.cons (.ret clb) .nil)) := rfl
theorem croad_ok {n c0 : Nat} {sh : List D} (hf : 90000 ≤ fuel) (h : SO c0 sh) (hc : c0 < 700000000) : ∃ l x sh', callF P fuel (n + 2) 17 [.sh 1, .int 8, .int 4] sh = .ok (.ow (.lst (iL (l ++ [x])))) sh' ∧ l.length ≤ 7 ∧ (∀ y ∈ l, y.natAbs ≤ 4) ∧ x.natAbs ≤ 4 ∧ SO (c0 + 10) sh' := by
  have sb := size_big
  obtain ⟨d, sh1, e1, d0, d8, s1, _⟩ := draw20 (fuel := fuel) (n := n) (many := 8) hf h (by omega) (by omega) (by omega)
  obtain ⟨t, sh2, e2, t0, t3, s2, _⟩ := draw20 (fuel := fuel) (n := n) (many := 3) hf s1 (by omega) (by omega) (by omega)
  rw [callP (fn := Pg.i__law_c_road) rfl rfl]
  show ∃ l x sh', outFR (exSs (cf fuel (n + 1)) Pg.i__law_c_road.body ⟨[.fr (.sh 1), .fr (.int 8), .fr (.int 4), .un, .un], sh⟩) = .ok (.ow (.lst (iL (l ++ [x])))) sh' ∧ _
  have a1 : exS (cf fuel (n + 1)) cr1 ⟨[.fr (.sh 1), .fr (.int 8), .fr (.int 4), .un, .un], sh⟩ = .nx ⟨[.fr (.sh 1), .fr (.int 8), .fr (.int 4), .fr (.int (1 + d)), .un], sh1⟩ :=
    asg_nm (add_of (i := 1) (j := d) B_cst (B_of (callc (s1 := ⟨[.fr (.sh 1), .fr (.int 8), .fr (.int 4), .un, .un], sh⟩) (ds := [.sh 1, .int 8]) (Es_cons (v := .fr (.sh 1)) (v_fr rfl) (Es_cons (v := .fr (.int 8)) (v_fr rfl) Es_nil)) e1)) rfl rfl)
  have k2 : evB (cf fuel (n + 1)) (.of (.call 20 (.cons (.var 0) (.cons (.cst (.int 3)) (.nil))) [])) ⟨[.fr (.sh 1), .fr (.int 8), .fr (.int 4), .fr (.int (1 + d)), .un], sh1⟩ = .ok (.v (.int t)) ⟨[.fr (.sh 1), .fr (.int 8), .fr (.int 4), .fr (.int (1 + d)), .un], sh2⟩ := B_of (r := .fr (.int t)) (callc (s1 := ⟨[.fr (.sh 1), .fr (.int 8), .fr (.int 4), .fr (.int (1 + d)), .un], sh1⟩) (ds := [.sh 1, .int 3]) (Es_cons (v := .fr (.sh 1)) (v_fr rfl) (Es_cons cst_ev Es_nil)) e2)
  have tt : evT (cf fuel (n + 1)) (.cmp .Eq (.of (.call 20 (.cons (.var 0) (.cons (.cst (.int 3)) (.nil))) [])) (.of (.cst (.int 0)))) ⟨[.fr (.sh 1), .fr (.int 8), .fr (.int 4), .fr (.int (1 + d)), .un], sh1⟩ = .ok (t == 0) ⟨[.fr (.sh 1), .fr (.int 8), .fr (.int 4), .fr (.int (1 + d)), .un], sh2⟩ := T_cmp k2 B_cst rfl rfl rfl
  have hi : ∀ sh, evIt (cf fuel (n + 1)) (.rng1 (.var 3)) ⟨[.fr (.sh 1), .fr (.int 8), .fr (.int 4), .fr (.int (1 + d)), .un], sh⟩ = .ok (.xs (rangeD 0 (1 + d))) ⟨[.fr (.sh 1), .fr (.int 8), .fr (.int 4), .fr (.int (1 + d)), .un], sh⟩ := fun sh => rng1_of (x := .v (.int (1 + d))) (B_fr rfl) rfl (rng_small (by omega) (by omega))
  have rl : (rangeD 0 (1 + d)).length = (1 + d).toNat := by
    rw [rangeD_eq, List.length_map, rng_len]
    omega
  have fin : ∀ {ns : List Int}, ns.length = (rangeD 0 (1 + d)).length → (∀ x ∈ ns, x.natAbs ≤ 4) → ∃ l x, ns = l ++ [x] ∧ l.length ≤ 7 ∧ (∀ y ∈ l, y.natAbs ≤ 4) ∧ x.natAbs ≤ 4 := fun {ns} hl hq => by
    have hne : ns ≠ [] := fun z => by rw [z, rl] at hl; simp at hl; omega
    have e : ns = ns.dropLast ++ [ns.getLast hne] := (List.dropLast_concat_getLast hne).symm
    refine ⟨_, _, e, ?_, fun y hy => hq y (List.dropLast_subset _ hy), hq _ (List.getLast_mem hne)⟩
    rw [List.length_dropLast]
    omega
  rw [b17, exSs_nx a1]
  cases q : t == 0 with
  | true =>
    rw [q] at tt
    obtain ⟨ns, sh3, v3, e3, l3, q3, s3⟩ := comp_draw (f := turn (cf fuel (n + 1)) (.bin .Add (.of (.cst (.int 2))) (.of (.call 20 (.cons (.var 0) (.cons (.cst (.int 3)) (.nil))) []))) (.nm 4) .nil [4]) (En := fun v => [.fr (.sh 1), .fr (.int 8), .fr (.int 4), .fr (.int (1 + d)), v]) (Q := fun i => i.natAbs ≤ 4) (by
      intro x c sh v hS hc
      obtain ⟨i, sh', e, i0, i3, s', _⟩ := draw20 (fuel := fuel) (n := n) (many := 3) hf hS (by omega) (by omega) (by omega)
      refine ⟨2 + i, sh', .fr x, turn_nil (s3 := ⟨[.fr (.sh 1), .fr (.int 8), .fr (.int 4), .fr (.int (1 + d)), .fr x], sh⟩) rfl (add_of (i := 2) (j := i) B_cst (B_of (callc (s1 := ⟨[.fr (.sh 1), .fr (.int 8), .fr (.int 4), .fr (.int (1 + d)), .fr x], sh⟩) (ds := [.sh 1, .int 3]) (Es_cons (v := .fr (.sh 1)) (v_fr rfl) (Es_cons cst_ev Es_nil)) e)) rfl rfl), by omega, s'⟩) (l := rangeD 0 (1 + d)) (acc := []) (v := .un) s2 (by rw [rl]; omega) (by rw [rl]; show 0 + _ < _; omega)
    obtain ⟨l, x, rfl, hl, hq, hx⟩ := fin l3 q3
    refine ⟨l, x, sh3, ?_, hl, hq, hx, SO_le s3 (by rw [rl]; omega)⟩
    have ec : evE (cf fuel (n + 1)) cla ⟨[.fr (.sh 1), .fr (.int 8), .fr (.int 4), .fr (.int (1 + d)), .un], sh2⟩ = .ok (.ow (.lst (iL (l ++ [x])))) ⟨[.fr (.sh 1), .fr (.int 8), .fr (.int 4), .fr (.int (1 + d)), .un], sh3⟩ := by
      unfold cla
      rw [lc_eq, hi]
      show (noEx (compL (turn (cf fuel (n + 1)) _ (.nm 4) .nil [4]) (rangeD 0 (1 + d)) [] ⟨[.fr (.sh 1), .fr (.int 8), .fr (.int 4), .fr (.int (1 + d)), .un], sh2⟩)).bind _ = _
      rw [e3]
      rfl
    unfold cr2
    rw [exSs_rt (by rw [iff_t tt, exSs_rt (ret_of ec)])]
    rfl
  | false =>
    rw [q] at tt
    have a2 : exS (cf fuel (n + 1)) cr2 ⟨[.fr (.sh 1), .fr (.int 8), .fr (.int 4), .fr (.int (1 + d)), .un], sh1⟩ = .nx ⟨[.fr (.sh 1), .fr (.int 8), .fr (.int 4), .fr (.int (1 + d)), .un], sh2⟩ := by
      unfold cr2
      rw [iff_f tt, exSs]
    obtain ⟨ns, sh3, v3, e3, l3, q3, s3⟩ := comp_draw (f := turn (cf fuel (n + 1)) (.bin .Sub (.of (.call 20 (.cons (.var 0) (.cons (.bin .Add (.of (.bin .Mult (.of (.cst (.int 2))) (.var 2))) (.of (.cst (.int 1)))) (.nil))) [])) (.var 2)) (.nm 4) .nil [4]) (En := fun v => [.fr (.sh 1), .fr (.int 8), .fr (.int 4), .fr (.int (1 + d)), v]) (Q := fun i => i.natAbs ≤ 4) (by
      intro x c sh v hS hc
      obtain ⟨i, sh', e, i0, i3, s', _⟩ := draw20 (fuel := fuel) (n := n) (many := 9) hf hS (by omega) (by omega) (by omega)
      have em : evE (cf fuel (n + 1)) (.bin .Add (.of (.bin .Mult (.of (.cst (.int 2))) (.var 2))) (.of (.cst (.int 1)))) ⟨[.fr (.sh 1), .fr (.int 8), .fr (.int 4), .fr (.int (1 + d)), .fr x], sh⟩ = .ok (.fr (.int 9)) ⟨[.fr (.sh 1), .fr (.int 8), .fr (.int 4), .fr (.int (1 + d)), .fr x], sh⟩ := add_of (i := 2 * 4) (j := 1) (B_of (mul_of (i := 2) (j := 4) B_cst (B_fr rfl) rfl rfl (.inl (by unfold Sml; omega)))) B_cst rfl rfl
      have k : evE (cf fuel (n + 1)) (.call 20 (.cons (.var 0) (.cons (.bin .Add (.of (.bin .Mult (.of (.cst (.int 2))) (.var 2))) (.of (.cst (.int 1)))) (.nil))) []) ⟨[.fr (.sh 1), .fr (.int 8), .fr (.int 4), .fr (.int (1 + d)), .fr x], sh⟩ = .ok (.fr (.int i)) ⟨[.fr (.sh 1), .fr (.int 8), .fr (.int 4), .fr (.int (1 + d)), .fr x], sh'⟩ := callc (s1 := ⟨[.fr (.sh 1), .fr (.int 8), .fr (.int 4), .fr (.int (1 + d)), .fr x], sh⟩) (ds := [.sh 1, .int 9]) (Es_cons (v := .fr (.sh 1)) (v_fr rfl) (Es_cons em Es_nil)) e
      refine ⟨i - 4, sh', .fr x, turn_nil (s3 := ⟨[.fr (.sh 1), .fr (.int 8), .fr (.int 4), .fr (.int (1 + d)), .fr x], sh⟩) rfl (sub_of (i := i) (j := 4) (B_of k) (B_fr rfl) rfl rfl), by omega, s'⟩) (l := rangeD 0 (1 + d)) (acc := []) (v := .un) s2 (by rw [rl]; omega) (by rw [rl]; show 0 + _ < _; omega)
    obtain ⟨l, x, rfl, hl, hq, hx⟩ := fin l3 q3
    refine ⟨l, x, sh3, ?_, hl, hq, hx, SO_le s3 (by rw [rl]; omega)⟩
    have ec : evE (cf fuel (n + 1)) clb ⟨[.fr (.sh 1), .fr (.int 8), .fr (.int 4), .fr (.int (1 + d)), .un], sh2⟩ = .ok (.ow (.lst (iL (l ++ [x])))) ⟨[.fr (.sh 1), .fr (.int 8), .fr (.int 4), .fr (.int (1 + d)), .un], sh3⟩ := by
      unfold clb
      rw [lc_eq, hi]
      show (noEx (compL (turn (cf fuel (n + 1)) _ (.nm 4) .nil [4]) (rangeD 0 (1 + d)) [] ⟨[.fr (.sh 1), .fr (.int 8), .fr (.int 4), .fr (.int (1 + d)), .un], sh2⟩)).bind _ = _
      rw [e3]
      rfl
    rw [exSs_nx a2, exSs_rt (ret_of ec)]
    rfl
/-! ### drawn matrices -/
def m0 : St := .asg (.nm 1) (.tup (.cons (.cst (.int 1)) (.cons (.cst (.int 0)) (.cons (.cst (.int 0)) (.cons (.cst (.int 1)) (.nil))))))
def m1 : St := .asg (.nm 3) (.bin .Sub (.of (.call 20 (.cons (.var 0) (.cons (.cst (.int 7)) (.nil))) [])) (.of (.cst (.int 3))))
def mls : E := .lst (.cons (.tup (.cons (.cst (.int 1)) (.cons (.var 3) (.cons (.cst (.int 0)) (.cons (.cst (.int 1)) (.nil)))))) (.cons (.tup (.cons (.cst (.int 1)) (.cons (.cst (.int 0)) (.cons (.var 3) (.cons (.cst (.int 1)) (.nil)))))) (.cons (.tup (.cons (.cst (.int 0)) (.cons (.bin .Sub (.of (.cst (.int 0))) (.of (.cst (.int 1)))) (.cons (.cst (.int 1)) (.cons (.cst (.int 0)) (.nil)))))) (.nil))))
def m2 : St := .asg (.nm 1) (.call 12 (.cons (.var 1) (.cons (.call 21 (.cons (.var 0) (.cons mls (.nil))) []) (.nil))) [])
def mfor : St := .for (.nm 2) (.rng1 (.of (.call 20 (.cons (.var 0) (.cons (.cst (.int 7)) (.nil))) []))) (.cons m1 (.cons m2 .nil))
theorem b30 : Pg.i__law_matrix.body = .cons m0 (.cons mfor (.cons (.retv 1) .nil)) := rfl
def L1 (b : Int) : Mx := ⟨1, b, 0, 1⟩
def L2' (b : Int) : Mx := ⟨1, 0, b, 1⟩
theorem pick_ok {n c0 : Nat} {x y z : D} {sh : List D} (hf : 90000 ≤ fuel) (h : SO c0 sh) (hc : c0 < 700000000) : ∃ d sh', callF P fuel (n + 2) 21 [.sh 1, .lst [x, y, z]] sh = .ok (.fr d) sh' ∧ (d = x ∨ d = y ∨ d = z) ∧ SO (c0 + 1) sh' := by
  obtain ⟨d, sh1, e1, d0, d3, s1, _⟩ := draw20 (fuel := fuel) (n := n) (many := 3) hf h (by omega) (by omega) (by omega)
  have hd : d = 0 ∨ d = 1 ∨ d = 2 := by omega
  have key : ∀ r, idxD (.lst [x, y, z]) (.int d) = some r → callF P fuel (n + 2) 21 [.sh 1, .lst [x, y, z]] sh = .ok (.fr r) sh1 := fun r hr => by
    rw [callP (fn := Pg.i__law_pick) rfl rfl]
    show outFR (exSs (cf fuel (n + 1)) Pg.i__law_pick.body ⟨[.fr (.sh 1), .fr (.lst [x, y, z])], sh⟩) = _
    unfold Pg.i__law_pick
    have kl : evE (cf fuel (n + 1)) (.bcl .len (.cons (.var 1) (.nil))) ⟨[.fr (.sh 1), .fr (.lst [x, y, z])], sh⟩ = .ok (.fr (.int 3)) ⟨[.fr (.sh 1), .fr (.lst [x, y, z])], sh⟩ := bcl1 (x := .v (.lst [x, y, z])) (d := .lst [x, y, z]) (B_fr rfl) rfl rfl
    rw [exSs_rt (ret_of (idx_of (x := .v (.lst [x, y, z])) (d := .lst [x, y, z]) (d' := .int d) (B_fr rfl) (B_of (callc (s1 := ⟨[.fr (.sh 1), .fr (.lst [x, y, z])], sh⟩) (ds := [.sh 1, .int 3]) (Es_cons (v := .fr (.sh 1)) (v_fr rfl) (Es_cons kl Es_nil)) e1)) rfl rfl hr))]
    rfl
  rcases hd with rfl | rfl | rfl
  · exact ⟨x, sh1, key x rfl, .inl rfl, s1⟩
  · exact ⟨y, sh1, key y rfl, .inr (.inl rfl), s1⟩
  · exact ⟨z, sh1, key z rfl, .inr (.inr rfl), s1⟩
theorem mul_b {x b : Int} {A : Nat} (hx : x.natAbs ≤ A) (hb : b.natAbs ≤ 3) : (x * b).natAbs ≤ 3 * A := by
  rw [Int.mul_comm]
  exact mul_bd hx hb
theorem step_ok {m : Mx} {b : Int} {A : Nat} (hm : m.det = 1) (hb : Bd A m) (h3 : b.natAbs ≤ 3) : ∀ q, (q = L1 b ∨ q = L2' b ∨ q = V 0) → (m.mul q).det = 1 ∧ Bd (4 * A) (m.mul q) ∧ TOk m q := by
  obtain ⟨h1, h2, h3', h4⟩ := hb
  have sb : Sml b := by unfold Sml; omega
  have a1 := mul_b h1 h3
  have a2 := mul_b h2 h3
  have a3 := mul_b h3' h3
  have a4 := mul_b h4 h3
  rintro q (rfl | rfl | rfl)
  · refine ⟨?_, ?_, tok_U (.inr sb)⟩
    · rw [det_mul, hm]
      show 1 * (1 * 1 - b * 0) = 1
      omega
    · unfold Bd
      show (m.a * 1 + m.b * 0).natAbs ≤ _ ∧ (m.a * b + m.b * 1).natAbs ≤ _ ∧ (m.c * 1 + m.d * 0).natAbs ≤ _ ∧ (m.c * b + m.d * 1).natAbs ≤ _
      omega
  · refine ⟨?_, ?_, ⟨.inr sml1, .inr sb, .inr sml0, .inr sml1, .inr sml1, .inr sb, .inr sml0, .inr sml1⟩⟩
    · rw [det_mul, hm]
      show 1 * (1 * 1 - 0 * b) = 1
      omega
    · unfold Bd
      show (m.a * 1 + m.b * b).natAbs ≤ _ ∧ (m.a * 0 + m.b * 1).natAbs ≤ _ ∧ (m.c * 1 + m.d * b).natAbs ≤ _ ∧ (m.c * 0 + m.d * 1).natAbs ≤ _
      omega
  · refine ⟨?_, ?_, tok_V sml0⟩
    · rw [det_mul, hm, det_V]
      rfl
    · unfold Bd
      show (m.a * 0 + m.b * 1).natAbs ≤ _ ∧ (m.a * -1 + m.b * 0).natAbs ≤ _ ∧ (m.c * 0 + m.d * 1).natAbs ≤ _ ∧ (m.c * -1 + m.d * 0).natAbs ≤ _
      omega
theorem matrix_ok {n c0 : Nat} {sh : List D} (hf : 90000 ≤ fuel) (h : SO c0 sh) (hc : c0 < 600000000) : ∃ m sh', callF P fuel (n + 3) 30 [.sh 1] sh = .ok (.fr (mD m)) sh' ∧ MOk m ∧ SO (c0 + 20) sh' := by
  obtain ⟨k, sh1, e1, k0, k7, s1, _⟩ := draw20 (fuel := fuel) (n := n + 1) (many := 7) hf h (by omega) (by omega) (by omega)
  rw [callP (fn := Pg.i__law_matrix) rfl rfl]
  show ∃ m sh', outFR (exSs (cf fuel (n + 2)) Pg.i__law_matrix.body ⟨[.fr (.sh 1), .un, .un, .un], sh⟩) = .ok (.fr (mD m)) sh' ∧ _
  have a0 : exS (cf fuel (n + 2)) m0 ⟨[.fr (.sh 1), .un, .un, .un], sh⟩ = .nx ⟨[.fr (.sh 1), .fr (mD one), .un, .un], sh⟩ := asg_nm (tup_of (Es_cons cst_ev (Es_cons cst_ev (Es_cons cst_ev (Es_cons cst_ev Es_nil)))) (by show 4 ≤ 90000; omega))
  have hi : evIt (cf fuel (n + 2)) (.rng1 (.of (.call 20 (.cons (.var 0) (.cons (.cst (.int 7)) (.nil))) []))) ⟨[.fr (.sh 1), .fr (mD one), .un, .un], sh⟩ = .ok (.xs (rangeD 0 k)) ⟨[.fr (.sh 1), .fr (mD one), .un, .un], sh1⟩ := rng1_of (x := .v (.int k)) (B_of (r := .fr (.int k)) (callc (s1 := ⟨[.fr (.sh 1), .fr (mD one), .un, .un], sh⟩) (ds := [.sh 1, .int 7]) (Es_cons (v := .fr (.sh 1)) (v_fr rfl) (Es_cons cst_ev Es_nil)) e1)) rfl (rng_small (by omega) (by omega))
  have rl : (rangeD 0 k).length = k.toNat := by
    rw [rangeD_eq, List.length_map, rng_len]
    omega
  obtain ⟨s', e, m, w2, w3, sh', es, hd, hb, so⟩ := forL_n (f := turnS (cf fuel (n + 2)) (.nm 2) (.cons m1 (.cons m2 .nil))) (l := rangeD 0 k) (j := 0) (I := fun j s => ∃ m w2 w3 sh', s = (⟨[.fr (.sh 1), .fr (mD m), w2, w3], sh'⟩ : S) ∧ m.det = 1 ∧ Bd (4 ^ j) m ∧ SO (c0 + 1 + 2 * j) sh') (s := ⟨[.fr (.sh 1), .fr (mD one), .un, .un], sh1⟩) ⟨one, .un, .un, sh1, rfl, rfl, ⟨by decide, by decide, by decide, by decide⟩, s1⟩ (by
    rintro j x hx s ⟨m, w2, w3, sh', rfl, hd, hb, so⟩
    obtain ⟨hj, _⟩ := List.getElem?_eq_some_iff.mp hx
    rw [rl] at hj
    obtain ⟨d, sh2, e2, d0, d7, s2, _⟩ := draw20 (fuel := fuel) (n := n + 1) (many := 7) hf so (by omega) (by omega) (by omega)
    obtain ⟨q, sh3, e3, hq, s3⟩ := pick_ok (fuel := fuel) (n := n) (x := mD (L1 (d - 3))) (y := mD (L2' (d - 3))) (z := mD (V 0)) hf s2 (by omega)
    obtain ⟨q', rfl, hq'⟩ : ∃ q', q = mD q' ∧ (q' = L1 (d - 3) ∨ q' = L2' (d - 3) ∨ q' = V 0) := by
      rcases hq with rfl | rfl | rfl
      · exact ⟨_, rfl, .inl rfl⟩
      · exact ⟨_, rfl, .inr (.inl rfl)⟩
      · exact ⟨_, rfl, .inr (.inr rfl)⟩
    obtain ⟨z1, z2, z3⟩ := step_ok hd hb (b := d - 3) (by omega) q' hq'
    have b1 : exS (cf fuel (n + 2)) m1 ⟨[.fr (.sh 1), .fr (mD m), .fr x, w3], sh'⟩ = .nx ⟨[.fr (.sh 1), .fr (mD m), .fr x, .fr (.int (d - 3))], sh2⟩ := asg_nm (sub_of (i := d) (j := 3) (B_of (callc (s1 := ⟨[.fr (.sh 1), .fr (mD m), .fr x, w3], sh'⟩) (ds := [.sh 1, .int 7]) (Es_cons (v := .fr (.sh 1)) (v_fr rfl) (Es_cons cst_ev Es_nil)) e2)) B_cst rfl rfl)
    have el : evE (cf fuel (n + 2)) mls ⟨[.fr (.sh 1), .fr (mD m), .fr x, .fr (.int (d - 3))], sh2⟩ = .ok (.ow (.lst [mD (L1 (d - 3)), mD (L2' (d - 3)), mD (V 0)])) ⟨[.fr (.sh 1), .fr (mD m), .fr x, .fr (.int (d - 3))], sh2⟩ := by
      have v3 : evE (cf fuel (n + 2)) (.var 3) ⟨[.fr (.sh 1), .fr (mD m), .fr x, .fr (.int (d - 3))], sh2⟩ = .ok (.fr (.int (d - 3))) ⟨[.fr (.sh 1), .fr (mD m), .fr x, .fr (.int (d - 3))], sh2⟩ := v_fr rfl
      exact lst_of (ds := [mD (L1 (d - 3)), mD (L2' (d - 3)), mD (V 0)]) (Es_cons (v := .fr (mD (L1 (d - 3)))) (tup_of (Es_cons cst_ev (Es_cons v3 (Es_cons cst_ev (Es_cons cst_ev Es_nil)))) (by show 4 ≤ 90000; omega)) (Es_cons (v := .fr (mD (L2' (d - 3)))) (tup_of (Es_cons cst_ev (Es_cons cst_ev (Es_cons v3 (Es_cons cst_ev Es_nil)))) (by show 4 ≤ 90000; omega)) (Es_cons (v := .fr (mD (V 0))) (tup_of (Es_cons cst_ev (Es_cons sub01 (Es_cons cst_ev (Es_cons cst_ev Es_nil)))) (by show 4 ≤ 90000; omega)) Es_nil))) (by show 3 ≤ 90000; omega)
    have ep : evE (cf fuel (n + 2)) (.call 21 (.cons (.var 0) (.cons mls (.nil))) []) ⟨[.fr (.sh 1), .fr (mD m), .fr x, .fr (.int (d - 3))], sh2⟩ = .ok (.fr (mD q')) ⟨[.fr (.sh 1), .fr (mD m), .fr x, .fr (.int (d - 3))], sh3⟩ := callc (s1 := ⟨[.fr (.sh 1), .fr (mD m), .fr x, .fr (.int (d - 3))], sh2⟩) (Es_cons (v := .fr (.sh 1)) (v_fr rfl) (Es_cons el Es_nil)) e3
    have b2 : exS (cf fuel (n + 2)) m2 ⟨[.fr (.sh 1), .fr (mD m), .fr x, .fr (.int (d - 3))], sh2⟩ = .nx ⟨[.fr (.sh 1), .fr (mD (m.mul q')), .fr x, .fr (.int (d - 3))], sh3⟩ := asg_nm (callc (ds := [mD m, mD q']) (s1 := ⟨[.fr (.sh 1), .fr (mD m), .fr x, .fr (.int (d - 3))], sh3⟩) (Es_cons (v := .fr (mD m)) (v_fr rfl) (Es_cons ep Es_nil)) (rtimes_ok z3))
    refine ⟨⟨[.fr (.sh 1), .fr (mD (m.mul q')), .fr x, .fr (.int (d - 3))], sh3⟩, ?_, m.mul q', _, _, sh3, rfl, z1, ?_, SO_le s3 (by omega)⟩
    · show exSs (cf fuel (n + 2)) (.cons m1 (.cons m2 .nil)) ⟨[.fr (.sh 1), .fr (mD m), .fr x, w3], sh'⟩ = _
      rw [exSs_nx b1, exSs_nx b2, exSs]
    · rw [show 4 ^ (0 + j + 1) = 4 * 4 ^ (0 + j) by rw [Nat.pow_succ, Nat.mul_comm]]
      exact z2)
  subst es
  rw [rl] at hb so
  have hp : 4 ^ (0 + k.toNat) ≤ 4096 := Nat.le_trans (Nat.pow_le_pow_right (by decide) (show 0 + k.toNat ≤ 6 by omega)) (by decide)
  obtain ⟨h1, h2, h3, h4⟩ := hb
  refine ⟨m, sh', ?_, ⟨hd, ⟨by omega, by omega, by omega, by omega⟩, by omega⟩, SO_le so (by omega)⟩
  have a1 : exS (cf fuel (n + 2)) mfor ⟨[.fr (.sh 1), .fr (mD one), .un, .un], sh⟩ = .nx ⟨[.fr (.sh 1), .fr (mD m), w2, w3], sh'⟩ := by
    unfold mfor
    rw [for_xs hi]
    exact e
  rw [b30, exSs_nx a0, exSs_nx a1]
  rfl
end
end K18
end
section
set_option linter.all false
set_option maxRecDepth 100000
set_option maxHeartbeats 1000000
/-! K18g: road_right. -/
namespace K18
open PySem Ev Gp
theorem Gn_two {d : D} {l : List Int} (hd : Two d (iL l)) (hz : l.length < 90000) : Gn 1 d := .inr ⟨iL l, hd.elim .inr .inl, by rw [iL_len]; exact hz, fun x hx => by
  obtain ⟨i, _, rfl⟩ := List.mem_map.mp hx
  rfl⟩
theorem Gd_two {d : D} {l : List Int} (hd : Two d (iL l)) (hz : l.length < 90000) : Gd 1 d := .inr (.inr ⟨iL l, hd.elim .inr .inl, by rw [iL_len]; exact hz, fun x hx => by
  obtain ⟨i, _, rfl⟩ := List.mem_map.mp hx
  rfl⟩)
theorem sum0 {l : List Int} : ((iL l).map (sz 0)).sum = 0 := by
  induction l with
  | nil => rfl
  | cons x l ih =>
    show (sz 0 (.int x) :: (iL l).map (sz 0)).sum = 0
    rw [List.sum_cons, ih]
    rfl
theorem sz_two {d : D} {l : List Int} (hd : Two d (iL l)) : sz 1 d = 1 := by
  rcases hd with rfl | rfl
  · show 1 + ((iL l).map (sz 0)).sum = 1
    rw [sum0]
  · show 1 + ((iL l).map (sz 0)).sum = 1
    rw [sum0]
theorem Lo_i {a : Int} {y : D} (h : Lo (.int a) y) : y = .int a := by
  cases h with
  | atom _ => rfl
  | con h _ _ _ => rcases h with h | h <;> cases h
theorem Lo_two {d d' : D} {l : List Int} (hd : Two d (iL l)) (h : Lo d d') : Two d' (iL l) := by
  cases h with
  | atom h => rcases hd with rfl | rfl <;> cases h
  | @con _ _ xs ys h h' hl hp =>
    have ex : xs = iL l := by
      rcases hd with rfl | rfl
      · rcases h with h | h
        · cases h
        · injection h with h; exact h.symm
      · rcases h with h | h
        · injection h with h; exact h.symm
        · cases h
    subst ex
    have ey : ys = iL l := by
      apply List.ext_getElem?
      intro i
      cases q : (iL l)[i]? with
      | none =>
        have := List.getElem?_eq_none_iff.mp q
        exact List.getElem?_eq_none_iff.mpr (by omega)
      | some x =>
        obtain ⟨hi, _⟩ := List.getElem?_eq_some_iff.mp q
        have hy : ys[i]? = some (ys[i]'(by omega)) := List.getElem?_eq_getElem (by omega)
        obtain ⟨a, _, rfl⟩ := List.mem_map.mp (List.mem_of_getElem? q)
        have e := Lo_i (hp i _ _ q hy)
        rw [hy, e]
    subst ey
    exact h'.elim .inr .inl
theorem two_vw {d : D} {xs sh : List D} (hd : Two d xs) : vw sh d = d := by rcases hd with rfl | rfl <;> rfl
section
variable {fuel : Nat}
theorem loose_ok {n c0 : Nat} {d : D} {l : List Int} {sh : List D} (hf : 90000 ≤ fuel) (hd : Two d (iL l)) (hz : l.length < 90000) (h : SO c0 sh) (hc : c0 < 600000000) : ∃ d' sh', callF P fuel (n + 3) 25 [.sh 1, d] sh = .ok (.fr d') sh' ∧ Two d' (iL l) ∧ SO (c0 + 1) sh' := by
  obtain ⟨d', sh', e, lo, so, _⟩ := lo_ok (P := P) (fuel := fuel) (f := 25) (dr := 20) (mx := 22) rfl rfl hf (h := 1) (n := n + 3) (d := d) (c := c0) (sh := sh) (Gn_two hd hz) (by omega) h (by rw [sz_two hd]; omega)
  rw [sz_two hd] at so
  exact ⟨d', sh', e, Lo_two hd lo, so⟩
theorem copy_ok {n : Nat} {d : D} {l : List Int} {sh : List D} (hd : Two d (iL l)) (hz : l.length < 90000) : callF P fuel (n + 2) 23 [d] sh = .ok (.fr d) sh := by
  have e := cp_ok (P := P) (fuel := fuel) (f := 23) rfl (sh := sh) (h := 1) (n := n + 2) (Gd_two hd hz) (by omega)
  rw [e]
  rcases hd with rfl | rfl <;> rfl
theorem same24 {n h : Nat} {a b : D} {sh : List D} (hf : 90000 ≤ fuel) (hs : Sm sh h a b) (hn : h < n) : callF P fuel n 24 [a, b] sh = .ok (.fr (.bl true)) sh := same_ok (P := P) (f := 24) rfl hf hs hn
/-! ### statements -/
def h1 : St := .par [2, 3] (.cons (.call 14 (.cons (.var 1) (.nil)) []) (.cons (.call 25 (.cons (.var 0) (.cons (.var 1) (.nil))) []) (.nil)))
def h2 : St := .par [4, 5] (.cons (.call 23 (.cons (.var 3) (.nil)) []) (.cons (.share (.lst (.cons (.share (.call 9 (.cons (.var 3) (.nil)) [])) (.cons (.share (.call 9 (.cons (.bcl .list (.cons (.var 1) (.nil))) (.nil)) [0])) (.cons (.var 3) (.nil)))))) (.nil)))
def h3 : St := .iff (.not (.of (.of (.call 24 (.cons (.var 5) (.cons (.lst (.cons (.var 2) (.cons (.var 2) (.cons (.var 4) (.nil))))) (.nil))) [])))) (.cons (.ret (.cst (.bl false)))
  (.nil)) (.nil)
def gm : E := .lc (.bin .Mult (.var 6) (.var 12)) (.nm 12) (.seq (.var 2) true) (.nil) [12]
def g1 : St := .asg (.nm 7) (.bcl .tuple (.cons (.of gm) (.nil)))
def g2 : St := .par [8, 9] (.cons (.call 16 (.cons (.var 7) (.nil)) []) (.cons (.call 25 (.cons (.var 0) (.cons (.var 7) (.nil))) []) (.nil)))
def g3 : St := .asg (.nm 10) (.ife (.cmp .Eq (.of (.call 14 (.cons (.var 8) (.nil)) [])) (.var 7)) (.cst (.int 1)) (.bin .Sub (.of (.cst (.int 0))) (.of (.cst (.int 1)))))
def g4 : St := .par [11, 5] (.cons (.call 23 (.cons (.var 9) (.nil)) []) (.cons (.share (.lst (.cons (.share (.call 11 (.cons (.var 9) (.nil)) [])) (.cons (.share (.call 11 (.cons (.bcl .list (.cons (.var 7) (.nil))) (.nil)) [0])) (.nil))))) (.nil)))
def g5a : E := .bin .Add (.var 5) (.of (.lst (.cons (.var 9) (.nil))))
def g5b : E := .bin .Add (.of (.bin .Mult (.of (.lst (.cons (.tup (.cons (.var 10) (.cons (.var 8) (.nil)))) (.nil)))) (.of (.cst (.int 2))))) (.of (.lst (.cons (.var 11) (.nil))))
def g5 : St := .iff (.or (.not (.of (.of (.call 24 (.cons g5a (.cons g5b (.nil))) [])))) (.one (.not (.of (.of (.call 28 (.cons (.var 5) (.nil)) [])))))) (.cons (.ret (.cst (.bl false)))
  (.nil)) (.nil)
def g6l : E := .lc (.cmp .Lt (.var 12) (.of (.cst (.int 2)))) (.nm 12) (.seq (.of (.slc (.var 8) (.so (.of (.cst (.int 1)))) (.so (.of (.neg (.of (.cst (.int 1)))))))) false) (.nil) [12]
def g6 : St := .iff (.of (.of (.bcl .any (.cons (.of g6l) (.nil))))) (.cons (.ret (.cst (.bl false)))
  (.nil)) (.nil)
def g7l : E := .lc (.bin .Mult (.var 10) (.var 12)) (.nm 12) (.seq (.var 7) true) (.nil) [12]
def g7 : St := .iff (.cmp .NotEq (.of (.call 14 (.cons (.var 8) (.nil)) [])) (.of (.bcl .tuple (.cons (.of g7l) (.nil))))) (.cons (.ret (.cst (.bl false)))
  (.nil)) (.nil)
def g8l : E := .lc (.cmp .Gt (.var 12) (.of (.cst (.int 1)))) (.nm 12) (.seq (.of (.slc (.var 1) (.so (.of (.cst (.int 1)))) (.so (.of (.neg (.of (.cst (.int 1)))))))) false) (.nil) [12]
def g8 : St := .iff (.and (.of (.of (.bcl .all (.cons (.of g8l) (.nil))))) (.one (.cmp .NotEq (.var 8) (.var 1)))) (.cons (.ret (.cst (.bl false)))
  (.nil)) (.nil)
def gb : Ss := .cons g1 (.cons g2 (.cons g3 (.cons g4 (.cons g5 (.cons g6 (.cons g7 (.cons g8 .nil)))))))
def h4 : St := .for (.nm 6) (.seq (.of (.tup (.cons (.cst (.int 1)) (.cons (.bin .Sub (.of (.cst (.int 0))) (.of (.cst (.int 1)))) (.nil))))) false) gb
theorem b29 : Pg.i__law_road_right.body = .cons h1 (.cons h2 (.cons h3 (.cons h4 (.cons (.ret (.cst (.bl true))) .nil)))) := rfl
/-! ### comprehensions over integers -/
/-- each integer by itself -/
theorem lc_int {C : Cf} {elt : E} {i : Nat} {it : It} {En : Sl → List Sl} {sh : List D} {v0 : Sl} {l : List Int} {g : Int → D} (hi : evIt C it ⟨En v0, sh⟩ = .ok (.xs (iL l)) ⟨En v0, sh⟩) (hw : ∀ v x, bindT 9 (.nm i) (.fr x) ⟨wipeE [i] (En v), sh⟩ = some ⟨En (.fr x), sh⟩) (hr : ∀ v, restore (En v0) [i] (En v) = En v0)
    (he : ∀ x ∈ l, ∃ r, evE C elt ⟨En (.fr (.int x)), sh⟩ = .ok r ⟨En (.fr (.int x)), sh⟩ ∧ r.d = g x) (hz : l.length < 90000) : evE C (.lc elt (.nm i) it .nil [i]) ⟨En v0, sh⟩ = .ok (.ow (.lst (l.map g))) ⟨En v0, sh⟩ := by
  have sb := size_big
  obtain ⟨s6, ⟨v, rfl⟩, e⟩ := lc_xs (elt := elt) (tg := .nm i) (ifs := .nil) (own := [i]) (I := fun s => ∃ v, s = (⟨En v, sh⟩ : S)) (o := fun x => match x with
    | .int j => some (g j)
    | _ => none) hi ⟨_, rfl⟩ (by
    rintro x hx s ⟨v, rfl⟩
    obtain ⟨j, hj, rfl⟩ := List.mem_map.mp hx
    obtain ⟨r, e, q⟩ := he j hj
    refine ⟨⟨En (.fr (.int j)), sh⟩, ?_, .fr (.int j), rfl⟩
    rw [turn_nil (hw v _) e, q]) (by rw [iL_len]; omega)
  rw [e]
  show Res.ok (Rv.ow (.lst _)) (⟨restore (En v0) [i] (En v), sh⟩ : S) = _
  rw [hr]
  have ef : (iL l).filterMap (fun x => match x with
    | .int j => some (g j)
    | _ => none) = l.map g := by
    unfold iL
    rw [List.filterMap_map, ← List.filterMap_eq_map]
    rfl
  rw [ef]
theorem tup_iL {l : List Int} : bcl .tuple [.lst (iL l)] = some (.fr (.tup (iL l))) := rfl
theorem scM {s : Int} {m : Mx} : (lM m).map (fun x => s * x) = lM (sc s m) := rfl
theorem map_int {l : List Int} {f : Int → Int} : l.map (fun x => D.int (f x)) = iL (l.map f) := by
  unfold iL
  rw [List.map_map]
  rfl
/-- a middle slice walked -/
theorem mid_it {C : Cf} {i : Nat} {d : D} {l : List Int} {x : Int} {s : S} (hg : s.get i = .fr d) (hd : LsI s.sh d (l ++ [x])) : evIt C (.seq (.of (.slc (.var i) (.so (.of (.cst (.int 1)))) (.so (.of (.neg (.of (.cst (.int 1)))))))) false) s = .ok (.xs (iL (l.drop 1))) s := by
  have hb : evB C (.var i) s = .ok (.v d) s := B_fr hg
  have e : evE C (.slc (.var i) (.so (.of (.cst (.int 1)))) (.so (.of (.neg (.of (.cst (.int 1))))))) s = .ok (.ow (.lst (iL (l.drop 1)))) s := by
    rw [evE, hb]
    show ((evO C (.so (.of (.cst (.int 1)))) s).bind fun l' s2 => (evO C (.so (.of (.neg (.of (.cst (.int 1)))))) s2).bind fun h s3 => ofOpt ((cont s3 (.v d)).bind fun d => slcD d l' h) s3) = _
    rw [evO, B_cst]
    show ((evO C (.so (.of (.neg (.of (.cst (.int 1)))))) s).bind fun h s3 => ofOpt ((cont s3 (.v d)).bind fun d => slcD d (some 1) h) s3) = _
    rw [evO, B_of neg1]
    show ofOpt (slcD (vw s.sh d) (some 1) (some (-1))) s = _
    rw [hd, iL_snoc]
    show Res.ok (Rv.ow (.lst (cutL (iL l ++ [.int x]) (some 1) (some (-1))))) s = _
    rw [cut_mid]
    unfold iL
    rw [List.map_drop]
  rw [evIt, B_of e]
  rfl
end
end K18
end
section
set_option linter.all false
set_option maxRecDepth 100000
set_option maxHeartbeats 1000000
/-! K18h: one sign. -/
namespace K18
open PySem Ev Gp
/-- the environment of road_right -/
abbrev X (road : D) (due passed was found sign matrix own given mine before number : Sl) : List Sl := [.fr (.sh 1), .fr road, due, passed, was, found, sign, matrix, own, given, mine, before, number]
/-- the store behind the two roads -/
def st3 (m : Mx) (sh : List D) : List D := sh ++ [.lst (iL (own m ++ [lst m])), .lst (iL (own m ++ [lst m])), .lst [.tup [.int (sgn m), .sh sh.length], .tup [.int (sgn m), .sh (sh.length + 1)]]]
theorem st3_get {m : Mx} {sh : List D} {i : Nat} : (st3 m sh)[sh.length + i]? = [D.lst (iL (own m ++ [lst m])), .lst (iL (own m ++ [lst m])), .lst [.tup [.int (sgn m), .sh sh.length], .tup [.int (sgn m), .sh (sh.length + 1)]]][i]? := by
  unfold st3
  rw [List.getElem?_append_right (by omega), Nat.add_sub_cancel_left]
theorem Fo_int {sh : List D} {h : Nat} {i : Int} : Fo sh h (.int i) [] := by
  cases h with
  | zero => exact ⟨rfl, rfl⟩
  | succ h => exact .inl ⟨rfl, rfl⟩
theorem Fo_ints {sh : List D} {k : Nat} {l : List Int} (h : sh[k]? = some (.lst (iL l))) (hz : l.length < 80000) : Fo sh 1 (.sh k) [k] := .inr (.inr ⟨k, iL l, (iL l).map fun _ => [], rfl, h, by rw [iL_len]; exact hz, by rw [List.length_map], fun i x a hx ha => by
  rw [List.getElem?_map, hx] at ha
  cases ha
  obtain ⟨j, _, rfl⟩ := List.mem_map.mp (List.mem_of_getElem? hx)
  exact Fo_int, by rw [nils]; rfl⟩)
theorem Fo_pair {sh : List D} {k : Nat} {s : Int} {l : List Int} (h : sh[k]? = some (.lst (iL l))) (hz : l.length < 80000) : Fo sh 2 (.tup [.int s, .sh k]) [k] := .inr (.inl ⟨_, [[], [k]], rfl, by show 2 < 80000; omega, rfl, fun i x a hx ha => by
  match i with
  | 0 => simp at hx ha; subst hx ha; exact Fo_int
  | 1 => simp at hx ha; subst hx ha; exact Fo_ints h hz
  | i + 2 => simp at hx, rfl⟩)
theorem Fo_st3 {m : Mx} {sh : List D} (hm : MOk m) : Fo (st3 m sh) 3 (.sh (sh.length + 2)) [sh.length, sh.length + 1, sh.length + 2] := by
  have hl : (own m ++ [lst m]).length < 80000 := by
    have := hm.len
    rw [List.length_append]
    show (own m).length + 1 < 80000
    omega
  refine .inr (.inr ⟨_, _, [[sh.length], [sh.length + 1]], rfl, st3_get (i := 2), by show 2 < 80000; omega, rfl, fun i x a hx ha => ?_, rfl⟩)
  match i with
  | 0 => simp at hx ha; subst hx ha; exact Fo_pair (st3_get (i := 0)) hl
  | 1 => simp at hx ha; subst hx ha; exact Fo_pair (st3_get (i := 1)) hl
  | i + 2 => simp at hx
theorem Sm_ints {sh : List D} {h : Nat} {d : D} {l : List Int} (hd : Ls sh d (iL l)) (hz : l.length < 90000) : Sm sh (h + 1) d (.lst (iL l)) := Sm_lst hd (.inl rfl) (by rw [iL_len]; exact hz) (pt_refl fun x hx => by
  obtain ⟨i, _, rfl⟩ := List.mem_map.mp hx
  exact Sm_at rfl)
theorem Sm_two {sh : List D} {h : Nat} {d : D} {l : List Int} (hd : Two d (iL l)) (hz : l.length < 90000) : Sm sh (h + 1) d d := by
  have hp : Pt (Sm sh h) (iL l) (iL l) := pt_refl fun x hx => by
    obtain ⟨i, _, rfl⟩ := List.mem_map.mp hx
    exact Sm_at rfl
  rcases hd with rfl | rfl
  · exact Sm_lst (.inl rfl) (.inl rfl) (by rw [iL_len]; exact hz) hp
  · exact Sm_tup (by rw [iL_len]; exact hz) hp
theorem Sm_mD {sh : List D} {h : Nat} {m : Mx} : Sm sh (h + 1) (mD m) (mD m) := Sm_two (l := lM m) (.inr rfl) (by show 4 < 90000; omega)
section
variable {fuel : Nat}
theorem g1_ok {C : Cf} {road : D} {m : Mx} {s : Int} {w3 w4 w5 w7 w8 w9 w10 w11 : Sl} {sh : List D} (hs : s = 1 ∨ s = -1) : exS C g1 ⟨X road (.fr (mD m)) w3 w4 w5 (.fr (.int s)) w7 w8 w9 w10 w11 .un, sh⟩ = .nx ⟨X road (.fr (mD m)) w3 w4 w5 (.fr (.int s)) (.fr (mD (sc s m))) w8 w9 w10 w11 .un, sh⟩ := by
  have e : evE C gm ⟨X road (.fr (mD m)) w3 w4 w5 (.fr (.int s)) w7 w8 w9 w10 w11 .un, sh⟩ = .ok (.ow (.lst ((lM m).map fun x => D.int (s * x)))) ⟨X road (.fr (mD m)) w3 w4 w5 (.fr (.int s)) w7 w8 w9 w10 w11 .un, sh⟩ :=
    lc_int (En := fun v => X road (.fr (mD m)) w3 w4 w5 (.fr (.int s)) w7 w8 w9 w10 w11 v) (v0 := .un) (l := lM m) (g := fun x => D.int (s * x)) rfl (fun v x => rfl) (fun v => rfl) (fun x _ => ⟨.fr (.int (s * x)), mul_of (i := s) (j := x) (B_fr rfl) (B_fr rfl) rfl rfl (.inl (by unfold Sml; omega)), rfl⟩) (by show 4 < 90000; omega)
  rw [map_int] at e
  unfold g1
  rw [asg_nm (bcl1 (B_of e) rfl tup_iL)]
  rfl
/-- what own numbers are worth -/
theorem ww_call {n : Nat} {m : Mx} {d : D} {sh : List D} (h : MOk m) (hd : LsI sh d (own m ++ [lst m])) : callF P fuel (n + 3) 14 [d] sh = .ok (.fr (mD (W (own m) (lst m)))) sh := rw_ok hd h.nums (.inl h.pac)
theorem g2_ok {n c0 : Nat} {road : D} {m : Mx} {w2 w3 w4 w5 w6 w8 w9 w10 w11 : Sl} {sh : List D} (hf : 90000 ≤ fuel) (h : MOk m) (hS : SO c0 sh) (hc : c0 < 500000000) : ∃ given sh', Two given (iL (lM m)) ∧ SO (c0 + 1) sh' ∧
    exS (cf fuel (n + 3)) g2 ⟨X road w2 w3 w4 w5 w6 (.fr (mD m)) w8 w9 w10 w11 .un, sh⟩ = .nx ⟨X road w2 w3 w4 w5 w6 (.fr (mD m)) (.ow (.lst (iL (own m ++ [lst m])))) (.fr given) w10 w11 .un, sh'⟩ := by
  have e16 := cred_call (fuel := fuel) (n := n + 1) (sh := sh) hf h
  obtain ⟨given, sh', e25, tw, so⟩ := loose_ok (fuel := fuel) (n := n) (d := mD m) (l := lM m) hf (.inr rfl) (by show 4 < 90000; omega) hS (by omega)
  refine ⟨given, sh', tw, so, ?_⟩
  unfold g2
  rw [par2 (callc (s1 := ⟨X road w2 w3 w4 w5 w6 (.fr (mD m)) w8 w9 w10 w11 .un, sh⟩) (ds := [mD m]) (Es_cons (v := .fr (mD m)) (v_fr rfl) Es_nil) e16) (callc (s1 := ⟨X road w2 w3 w4 w5 w6 (.fr (mD m)) w8 w9 w10 w11 .un, sh⟩) (ds := [.sh 1, mD m]) (Es_cons (v := .fr (.sh 1)) (v_fr rfl) (Es_cons (v := .fr (mD m)) (v_fr rfl) Es_nil)) e25)]
  rfl
theorem g3_ok {n : Nat} {road given : D} {m : Mx} {w2 w3 w4 w5 w6 w10 w11 : Sl} {sh : List D} (h : MOk m) : exS (cf fuel (n + 3)) g3 ⟨X road w2 w3 w4 w5 w6 (.fr (mD m)) (.ow (.lst (iL (own m ++ [lst m])))) (.fr given) w10 w11 .un, sh⟩ = .nx ⟨X road w2 w3 w4 w5 w6 (.fr (mD m)) (.fr (.lst (iL (own m ++ [lst m])))) (.fr given) (.fr (.int (sgn m))) w11 .un, sh⟩ := by
  have e14 := ww_call (fuel := fuel) (n := n) (sh := sh) h (d := .lst (iL (own m ++ [lst m]))) rfl
  have hsg := h.sign
  generalize iL (own m ++ [lst m]) = r at *
  generalize W (own m) (lst m) = q at *
  have k : evB (cf fuel (n + 3)) (.of (.call 14 (.cons (.var 8) (.nil)) [])) ⟨X road w2 w3 w4 w5 w6 (.fr (mD m)) (.ow (.lst r)) (.fr given) w10 w11 .un, sh⟩ = .ok (.v (mD q)) ⟨X road w2 w3 w4 w5 w6 (.fr (mD m)) (.fr (.lst r)) (.fr given) w10 w11 .un, sh⟩ := B_of (r := .fr (mD q)) (callc (s1 := ⟨X road w2 w3 w4 w5 w6 (.fr (mD m)) (.fr (.lst r)) (.fr given) w10 w11 .un, sh⟩) (ds := [.lst r]) (Es_cons (v := .fr (.lst r)) (v_ow rfl) Es_nil) e14)
  have tt : evT (cf fuel (n + 3)) (.cmp .Eq (.of (.call 14 (.cons (.var 8) (.nil)) [])) (.var 7)) ⟨X road w2 w3 w4 w5 w6 (.fr (mD m)) (.ow (.lst r)) (.fr given) w10 w11 .un, sh⟩ = .ok (lM q == lM m) ⟨X road w2 w3 w4 w5 w6 (.fr (mD m)) (.fr (.lst r)) (.fr given) w10 w11 .un, sh⟩ := T_cmp (d := mD q) (d' := mD m) k (B_fr rfl) rfl rfl eqM_c
  unfold g3
  rw [asg_nm (r := .fr (.int (sgn m))) (s1 := ⟨X road w2 w3 w4 w5 w6 (.fr (mD m)) (.fr (.lst r)) (.fr given) w10 w11 .un, sh⟩) (by
    rw [ife_of tt]
    rcases hsg with ⟨e1, e2⟩ | ⟨e1, e2⟩
    · rw [e1, e2, if_pos rfl, cst_ev]
    · rw [e1, e2, if_neg (by decide), sub01])]
  rfl
theorem g4_ok {n : Nat} {road given : D} {m : Mx} {w2 w3 w4 w5 w6 w8 w10 w11 : Sl} {sh : List D} (hf : 90000 ≤ fuel) (h : MOk m) (tw : Two given (iL (lM m))) : exS (cf fuel (n + 4)) g4 ⟨X road w2 w3 w4 w5 w6 (.fr (mD m)) w8 (.fr given) w10 w11 .un, sh⟩ = .nx ⟨X road w2 w3 w4 (.fr (.sh (sh.length + 2))) w6 (.fr (mD m)) w8 (.fr given) w10 (.fr given) .un, st3 m sh⟩ := by
  have e23 := copy_ok (fuel := fuel) (n := n + 2) (sh := sh) tw (by show 4 < 90000; omega)
  have r1 := road_call (fuel := fuel) (n := n) (sh := sh) hf tw h
  have r2 := road_call (fuel := fuel) (n := n) (d := .lst (iL (lM m))) (sh := sh ++ [.lst (iL (own m ++ [lst m]))]) hf (.inl rfl) h
  unfold st3
  generalize D.lst (iL (own m ++ [lst m])) = R at *
  generalize sgn m = s at *
  have v9 : ∀ sh, evEs (cf fuel (n + 4)) (.cons (.var 9) .nil) ⟨X road w2 w3 w4 w5 w6 (.fr (mD m)) w8 (.fr given) w10 w11 .un, sh⟩ = .ok [given] ⟨X road w2 w3 w4 w5 w6 (.fr (mD m)) w8 (.fr given) w10 w11 .un, sh⟩ := fun sh => Es_cons (v := .fr given) (v_fr rfl) Es_nil
  have kl : ∀ sh, evEs (cf fuel (n + 4)) (.cons (.bcl .list (.cons (.var 7) (.nil))) .nil) ⟨X road w2 w3 w4 w5 w6 (.fr (mD m)) w8 (.fr given) w10 w11 .un, sh⟩ = .ok [.lst (iL (lM m))] ⟨X road w2 w3 w4 w5 w6 (.fr (mD m)) w8 (.fr given) w10 w11 .un, sh⟩ := fun sh => Es_cons (v := .ow (.lst (iL (lM m)))) (bcl1 (x := .v (mD m)) (d := mD m) (B_fr rfl) rfl rfl) Es_nil
  have k := par2 (i := 11) (j := 5) (callc (v9 sh) e23) (share_ow (lst_of (Es_cons (share_fr (callc (v9 sh) r1)) (Es_cons (share_fr (callp (pm := [0]) (ds' := [.lst (iL (lM m))]) (kl _) rfl r2)) Es_nil)) (by show 2 ≤ 90000; omega)))
  have k' : exS (cf fuel (n + 4)) g4 ⟨X road w2 w3 w4 w5 w6 (.fr (mD m)) w8 (.fr given) w10 w11 .un, sh⟩ = .nx ⟨X road w2 w3 w4 (.fr (.sh (sh ++ [R] ++ [R]).length)) w6 (.fr (mD m)) w8 (.fr given) w10 (.fr given) .un, sh ++ [R] ++ [R] ++ [D.lst [.tup [.int s, .sh sh.length], .tup [.int s, .sh (sh ++ [R]).length]]]⟩ := k
  rw [k']
  simp
end
end K18
end
section
set_option linter.all false
set_option maxRecDepth 100000
set_option maxHeartbeats 1000000
/-! K18i: one sign, second part; road_right. -/
namespace K18
open PySem Ev Gp
section
variable {fuel : Nat}
theorem T_and2 {C : Cf} {t r : T} {s s1 : S} {c c' : Bool} (h : evT C t s = .ok c s1) (h2 : c = true → evT C r s1 = .ok c' s1) (h3 : (c && c') = false) : evT C (.and t r) s = .ok false s1 := by
  cases c with
  | false => exact T_and_f h
  | true =>
    rw [T_and_t h, h2 rfl]
    cases c' with
    | false => rfl
    | true => cases h3
theorem g5_ok {n : Nat} {road given : D} {m : Mx} {w2 w3 w4 w6 : Sl} {sh : List D} (hf : 90000 ≤ fuel) (h : MOk m) (tw : Two given (iL (lM m))) : exS (cf fuel (n + 5)) g5 ⟨X road w2 w3 w4 (.fr (.sh (sh.length + 2))) w6 (.fr (mD m)) (.fr (.lst (iL (own m ++ [lst m])))) (.fr given) (.fr (.int (sgn m))) (.fr given) .un, st3 m sh⟩ = .nx ⟨X road w2 w3 w4 (.fr (.sh (sh.length + 2))) w6 (.fr (mD m)) (.fr (.lst (iL (own m ++ [lst m])))) (.fr given) (.fr (.int (sgn m))) (.fr given) .un, spo [sh.length, sh.length + 1, sh.length + 2] (st3 m sh)⟩ := by
  have ap := apart_ok (P := P) (fuel := fuel) (f := 28) (sp := 26) (on := 27) (n := n + 4) rfl rfl rfl hf (Fo_st3 (sh := sh) h) (by simp) (by omega) (by omega)
  have hl : (own m ++ [lst m]).length < 90000 := by
    have := h.len
    rw [List.length_append]
    show (own m).length + 1 < 90000
    omega
  have sm : Sm (st3 m sh) 3 (.lst [.tup [.int (sgn m), .sh sh.length], .tup [.int (sgn m), .sh (sh.length + 1)], given]) (.lst [.tup [.int (sgn m), .lst (iL (own m ++ [lst m]))], .tup [.int (sgn m), .lst (iL (own m ++ [lst m]))], given]) :=
    Sm_l3 (.inl rfl) (Sm_t2 (h := 1) (Sm_at rfl) (Sm_ints (.inl (vw_get (st3_get (i := 0)))) hl)) (Sm_t2 (h := 1) (Sm_at rfl) (Sm_ints (.inl (vw_get (st3_get (i := 1)))) hl)) (Sm_two tw (by show 4 < 90000; omega))
  have g2 : vw (st3 m sh) (.sh (sh.length + 2)) = .lst [.tup [.int (sgn m), .sh sh.length], .tup [.int (sgn m), .sh (sh.length + 1)]] := vw_get (st3_get (i := 2))
  generalize spo [sh.length, sh.length + 1, sh.length + 2] (st3 m sh) = sh2 at *
  generalize st3 m sh = sh1 at *
  generalize sh.length + 2 = k at *
  generalize sh.length + 1 = k1 at *
  generalize sh.length = k0 at *
  generalize iL (own m ++ [lst m]) = r at *
  generalize sgn m = s at *
  generalize hst : (⟨X road w2 w3 w4 (.fr (.sh k)) w6 (.fr (mD m)) (.fr (.lst r)) (.fr given) (.fr (.int s)) (.fr given) .un, sh1⟩ : S) = st
  have s5 : st.get 5 = .fr (.sh k) := by rw [← hst]; rfl
  have s8 : st.get 8 = .fr (.lst r) := by rw [← hst]; rfl
  have s9 : st.get 9 = .fr given := by rw [← hst]; rfl
  have s10 : st.get 10 = .fr (.int s) := by rw [← hst]; rfl
  have s11 : st.get 11 = .fr given := by rw [← hst]; rfl
  have ssh : st.sh = sh1 := by rw [← hst]
  have ea : evE (cf fuel (n + 5)) g5a st = .ok (.ow (.lst [.tup [.int s, .sh k0], .tup [.int s, .sh k1], given])) st :=
    bin_of (x := .v (.sh k)) (d := .lst [.tup [.int s, .sh k0], .tup [.int s, .sh k1]]) (d' := .lst [given]) (B_fr s5) (B_of (lst_of (Es_cons (v := .fr given) (v_fr s9) Es_nil) (by show 1 ≤ 90000; omega))) (by show some (vw st.sh (.sh k)) = _; rw [ssh, g2]) rfl (add_lst (by show 3 ≤ 90000; omega))
  have eb1 : evE (cf fuel (n + 5)) (.bin .Mult (.of (.lst (.cons (.tup (.cons (.var 10) (.cons (.var 8) (.nil)))) (.nil)))) (.of (.cst (.int 2)))) st = .ok (.ow (.lst [.tup [.int s, .lst r], .tup [.int s, .lst r]])) st :=
    bin_of (x := .v (.lst [.tup [.int s, .lst r]])) (d := .lst [.tup [.int s, .lst r]]) (d' := .int 2) (B_of (r := .ow (.lst [.tup [.int s, .lst r]])) (lst_of (Es_cons (v := .fr (.tup [.int s, .lst r])) (tup_of (Es_cons (v := .fr (.int s)) (v_fr s10) (Es_cons (v := .fr (.lst r)) (v_fr s8) Es_nil)) (by show 2 ≤ 90000; omega)) Es_nil) (by show 1 ≤ 90000; omega))) B_cst rfl rfl rep2
  have eb : evE (cf fuel (n + 5)) g5b st = .ok (.ow (.lst [.tup [.int s, .lst r], .tup [.int s, .lst r], given])) st :=
    bin_of (x := .v (.lst [.tup [.int s, .lst r], .tup [.int s, .lst r]])) (d := .lst [.tup [.int s, .lst r], .tup [.int s, .lst r]]) (d' := .lst [given]) (B_of eb1) (B_of (lst_of (Es_cons (v := .fr given) (v_fr s11) Es_nil) (by show 1 ≤ 90000; omega))) rfl rfl (add_lst (by show 3 ≤ 90000; omega))
  have k24 : evE (cf fuel (n + 5)) (.call 24 (.cons g5a (.cons g5b (.nil))) []) st = .ok (.fr (.bl true)) ⟨st.env, sh1⟩ := callc (s1 := st) (Es_cons ea (Es_cons eb Es_nil)) (by rw [ssh]; exact same24 (n := n + 5) hf sm (by omega))
  have est : (⟨st.env, sh1⟩ : S) = st := by rw [← hst]
  rw [est] at k24
  have k28 : evE (cf fuel (n + 5)) (.call 28 (.cons (.var 5) (.nil)) []) st = .ok (.fr (.bl true)) ⟨st.env, sh2⟩ := callc (s1 := st) (Es_cons (v := .fr (.sh k)) (v_fr s5) Es_nil) (by rw [ssh]; exact ap)
  have t0 := T_or_f (r := .one (.not (.of (.of (.call 28 (.cons (.var 5) (.nil)) []))))) (T_not (T_bl k24))
  rw [T_one] at t0
  have t1 := T_not (T_bl k28)
  unfold g5
  rw [iff_f (t0.trans t1), exSs, ← hst]
theorem g6_ok {C : Cf} {road given : D} {m : Mx} {w2 w3 w4 w5 w6 w7 w9 w10 w11 : Sl} {sh : List D} (h : MOk m) : exS C g6 ⟨X road w2 w3 w4 w5 w6 w7 (.fr (.lst (iL (own m ++ [lst m])))) w9 w10 w11 .un, sh⟩ = .nx ⟨X road w2 w3 w4 w5 w6 w7 (.fr (.lst (iL (own m ++ [lst m])))) w9 w10 w11 .un, sh⟩ := by
  have dr : ∀ x ∈ (own m).drop 1, 2 ≤ x := red_drop
  have hz : ((own m).drop 1).length < 90000 := by
    have := h.len
    rw [List.length_drop]
    omega
  have hi := mid_it (C := C) (i := 8) (d := .lst (iL (own m ++ [lst m]))) (l := own m) (x := lst m) (s := ⟨X road w2 w3 w4 w5 w6 w7 (.fr (.lst (iL (own m ++ [lst m])))) w9 w10 w11 .un, sh⟩) rfl rfl
  generalize iL (own m ++ [lst m]) = r at *
  have e : evE C g6l ⟨X road w2 w3 w4 w5 w6 w7 (.fr (.lst r)) w9 w10 w11 .un, sh⟩ = .ok (.ow (.lst (((own m).drop 1).map fun x => D.bl (decide (x < 2))))) ⟨X road w2 w3 w4 w5 w6 w7 (.fr (.lst r)) w9 w10 w11 .un, sh⟩ :=
    lc_int (En := fun v => X road w2 w3 w4 w5 w6 w7 (.fr (.lst r)) w9 w10 w11 v) (v0 := .un) (g := fun x => D.bl (decide (x < 2))) hi (fun v x => rfl) (fun v => rfl) (fun x _ => ⟨.fr (.bl (decide (x < 2))), E_cmp (d := .int x) (d' := .int 2) (B_fr rfl) B_cst rfl rfl rfl, rfl⟩) hz
  have ea := bcl1 (b := .any) (B_of e) rfl any_of
  have ef : ((own m).drop 1).any (fun x => decide (x < 2)) = false := by
    rw [List.any_eq_false]
    intro x hx
    have := dr x hx
    simp
    omega
  rw [ef] at ea
  unfold g6
  rw [iff_f (T_bl ea), exSs]
theorem g7_ok {n : Nat} {road given : D} {m : Mx} {w2 w3 w4 w5 w6 w9 w11 : Sl} {sh : List D} (h : MOk m) : exS (cf fuel (n + 3)) g7 ⟨X road w2 w3 w4 w5 w6 (.fr (mD m)) (.fr (.lst (iL (own m ++ [lst m])))) w9 (.fr (.int (sgn m))) w11 .un, sh⟩ = .nx ⟨X road w2 w3 w4 w5 w6 (.fr (mD m)) (.fr (.lst (iL (own m ++ [lst m])))) w9 (.fr (.int (sgn m))) w11 .un, sh⟩ := by
  have e14 := ww_call (fuel := fuel) (n := n) (sh := sh) h (d := .lst (iL (own m ++ [lst m]))) rfl
  have hs := h.oo.1
  rw [h.ww] at e14
  generalize iL (own m ++ [lst m]) = r at *
  generalize sgn m = s at *
  have k : evB (cf fuel (n + 3)) (.of (.call 14 (.cons (.var 8) (.nil)) [])) ⟨X road w2 w3 w4 w5 w6 (.fr (mD m)) (.fr (.lst r)) w9 (.fr (.int s)) w11 .un, sh⟩ = .ok (.v (mD (sc s m))) ⟨X road w2 w3 w4 w5 w6 (.fr (mD m)) (.fr (.lst r)) w9 (.fr (.int s)) w11 .un, sh⟩ := B_of (r := .fr (mD (sc s m))) (callc (s1 := ⟨X road w2 w3 w4 w5 w6 (.fr (mD m)) (.fr (.lst r)) w9 (.fr (.int s)) w11 .un, sh⟩) (ds := [.lst r]) (Es_cons (v := .fr (.lst r)) (v_fr rfl) Es_nil) e14)
  have e : evE (cf fuel (n + 3)) g7l ⟨X road w2 w3 w4 w5 w6 (.fr (mD m)) (.fr (.lst r)) w9 (.fr (.int s)) w11 .un, sh⟩ = .ok (.ow (.lst ((lM m).map fun x => D.int (s * x)))) ⟨X road w2 w3 w4 w5 w6 (.fr (mD m)) (.fr (.lst r)) w9 (.fr (.int s)) w11 .un, sh⟩ :=
    lc_int (En := fun v => X road w2 w3 w4 w5 w6 (.fr (mD m)) (.fr (.lst r)) w9 (.fr (.int s)) w11 v) (v0 := .un) (l := lM m) (g := fun x => D.int (s * x)) rfl (fun v x => rfl) (fun v => rfl) (fun x _ => ⟨.fr (.int (s * x)), mul_of (i := s) (j := x) (B_fr rfl) (B_fr rfl) rfl rfl (.inl (by unfold Sml; omega)), rfl⟩) (by show 4 < 90000; omega)
  rw [map_int] at e
  have kt : evB (cf fuel (n + 3)) (.of (.bcl .tuple (.cons (.of g7l) (.nil)))) ⟨X road w2 w3 w4 w5 w6 (.fr (mD m)) (.fr (.lst r)) w9 (.fr (.int s)) w11 .un, sh⟩ = .ok (.v (mD (sc s m))) ⟨X road w2 w3 w4 w5 w6 (.fr (mD m)) (.fr (.lst r)) w9 (.fr (.int s)) w11 .un, sh⟩ := B_of (r := .fr (mD (sc s m))) (bcl1 (B_of e) rfl tup_iL)
  unfold g7
  rw [iff_f (T_cmp (d := mD (sc s m)) (d' := mD (sc s m)) k kt rfl rfl (by rw [neM_c, beq_self_eq_true]; rfl)), exSs]
theorem g8_ok {C : Cf} {m : Mx} {l : List Int} {x s : Int} {w2 w3 w4 w5 w6 w7 w9 w10 w11 : Sl} {sh : List D} (hs : s = 1 ∨ s = -1) (em : m = sc s (W l x)) (h : MOk m) (hz : l.length < 80000) : exS C g8 ⟨X (.lst (iL (l ++ [x]))) w2 w3 w4 w5 w6 w7 (.fr (.lst (iL (own m ++ [lst m])))) w9 w10 w11 .un, sh⟩ = .nx ⟨X (.lst (iL (l ++ [x]))) w2 w3 w4 w5 w6 w7 (.fr (.lst (iL (own m ++ [lst m])))) w9 w10 w11 .un, sh⟩ := by
  have hi := mid_it (C := C) (i := 1) (d := .lst (iL (l ++ [x]))) (l := l) (x := x) (s := ⟨X (.lst (iL (l ++ [x]))) w2 w3 w4 w5 w6 w7 (.fr (.lst (iL (own m ++ [lst m])))) w9 w10 w11 .un, sh⟩) rfl rfl
  have hq : ((l.drop 1).all (fun y => decide (1 < y)) && !((own m ++ [lst m]) == (l ++ [x]))) = false := by
    cases q : (l.drop 1).all (fun y => decide (1 < y)) with
    | false => rfl
    | true =>
      have q := List.all_eq_true.mp q
      have u := own_road (l := l) (last := x) hs (fun y hy => by have := of_decide_eq_true (q y hy); omega) (by rw [← em]; have := h.c; omega)
      rw [← em] at u
      rw [u.1, u.2, beq_self_eq_true]
      rfl
  have hz2 : (l.drop 1).length < 90000 := by
    rw [List.length_drop]
    omega
  have e : evE C g8l ⟨X (.lst (iL (l ++ [x]))) w2 w3 w4 w5 w6 w7 (.fr (.lst (iL (own m ++ [lst m])))) w9 w10 w11 .un, sh⟩ = .ok (.ow (.lst ((l.drop 1).map fun y => D.bl (decide (1 < y))))) ⟨X (.lst (iL (l ++ [x]))) w2 w3 w4 w5 w6 w7 (.fr (.lst (iL (own m ++ [lst m])))) w9 w10 w11 .un, sh⟩ :=
    lc_int (En := fun v => X (.lst (iL (l ++ [x]))) w2 w3 w4 w5 w6 w7 (.fr (.lst (iL (own m ++ [lst m])))) w9 w10 w11 v) (v0 := .un) (g := fun y => D.bl (decide (1 < y))) hi (fun v x => rfl) (fun v => rfl) (fun y _ => ⟨.fr (.bl (decide (1 < y))), E_cmp (d := .int y) (d' := .int 1) (B_fr rfl) B_cst rfl rfl rfl, rfl⟩) hz2
  have ea := bcl1 (b := .all) (B_of e) rfl all_of
  have tn : evT C (.one (.cmp .NotEq (.var 8) (.var 1))) ⟨X (.lst (iL (l ++ [x]))) w2 w3 w4 w5 w6 w7 (.fr (.lst (iL (own m ++ [lst m])))) w9 w10 w11 .un, sh⟩ = .ok (!((own m ++ [lst m]) == (l ++ [x]))) ⟨X (.lst (iL (l ++ [x]))) w2 w3 w4 w5 w6 w7 (.fr (.lst (iL (own m ++ [lst m])))) w9 w10 w11 .un, sh⟩ := by
    rw [T_one]
    exact T_cmp (d := .lst (iL (own m ++ [lst m]))) (d' := .lst (iL (l ++ [x]))) (B_fr rfl) (B_fr rfl) rfl rfl neL_c
  unfold g8
  rw [iff_f (T_and2 (T_bl ea) (fun _ => tn) hq), exSs]
/-- all the statements of one sign -/
theorem gturn {n c0 : Nat} {l : List Int} {x s : Int} {m : Mx} {w3 w4 w5 w6 w7 w8 w9 w10 w11 : Sl} {sh : List D} (hf : 90000 ≤ fuel) (hs : s = 1 ∨ s = -1) (em : m = W l x) (h : MOk (sc s m)) (hz : l.length < 80000) (hS : SO c0 sh) (hc : c0 < 400000000) :
    ∃ v5 v6 v7 v8 v9 v10 v11 sh', SO (c0 + 1) sh' ∧ turnS (cf fuel (n + 5)) (.nm 6) gb (.int s) ⟨X (.lst (iL (l ++ [x]))) (.fr (mD m)) w3 w4 w5 w6 w7 w8 w9 w10 w11 .un, sh⟩ = .nx ⟨X (.lst (iL (l ++ [x]))) (.fr (mD m)) w3 w4 v5 v6 v7 v8 v9 v10 v11 .un, sh'⟩ := by
  have a1 := g1_ok (C := cf fuel (n + 5)) (road := .lst (iL (l ++ [x]))) (m := m) (s := s) (w3 := w3) (w4 := w4) (w5 := w5) (w7 := w7) (w8 := w8) (w9 := w9) (w10 := w10) (w11 := w11) (sh := sh) hs
  obtain ⟨given, sh1, tw, so, a2⟩ := g2_ok (fuel := fuel) (n := n + 2) (road := .lst (iL (l ++ [x]))) (m := sc s m) (w2 := .fr (mD m)) (w3 := w3) (w4 := w4) (w5 := w5) (w6 := .fr (.int s)) (w8 := w8) (w9 := w9) (w10 := w10) (w11 := w11) hf h hS (by omega)
  have a3 := g3_ok (fuel := fuel) (n := n + 2) (road := .lst (iL (l ++ [x]))) (given := given) (w2 := .fr (mD m)) (w3 := w3) (w4 := w4) (w5 := w5) (w6 := .fr (.int s)) (w10 := w10) (w11 := w11) (sh := sh1) h
  have a4 := g4_ok (fuel := fuel) (n := n + 1) (road := .lst (iL (l ++ [x]))) (given := given) (w2 := .fr (mD m)) (w3 := w3) (w4 := w4) (w5 := w5) (w6 := .fr (.int s)) (w8 := .fr (.lst (iL (own (sc s m) ++ [lst (sc s m)])))) (w10 := .fr (.int (sgn (sc s m)))) (w11 := w11) (sh := sh1) hf h tw
  have a5 := g5_ok (fuel := fuel) (n := n) (road := .lst (iL (l ++ [x]))) (given := given) (w2 := .fr (mD m)) (w3 := w3) (w4 := w4) (w6 := .fr (.int s)) (sh := sh1) hf h tw
  have ln := SO_len so
  have so2 : SO (c0 + 1) (spo [sh1.length, sh1.length + 1, sh1.length + 2] (st3 (sc s m) sh1)) := SO_spo (by unfold st3; exact SO_app so) (by
    intro k hk
    simp at hk
    omega)
  generalize spo [sh1.length, sh1.length + 1, sh1.length + 2] (st3 (sc s m) sh1) = sh2 at *
  have a6 := g6_ok (C := cf fuel (n + 5)) (road := .lst (iL (l ++ [x]))) (given := given) (w2 := .fr (mD m)) (w3 := w3) (w4 := w4) (w5 := .fr (.sh (sh1.length + 2))) (w6 := .fr (.int s)) (w7 := .fr (mD (sc s m))) (w9 := .fr given) (w10 := .fr (.int (sgn (sc s m)))) (w11 := .fr given) (sh := sh2) h
  have a7 := g7_ok (fuel := fuel) (n := n + 2) (road := .lst (iL (l ++ [x]))) (given := given) (w2 := .fr (mD m)) (w3 := w3) (w4 := w4) (w5 := .fr (.sh (sh1.length + 2))) (w6 := .fr (.int s)) (w9 := .fr given) (w11 := .fr given) (sh := sh2) h
  have a8 := g8_ok (C := cf fuel (n + 5)) (m := sc s m) (l := l) (x := x) (s := s) (w2 := .fr (mD m)) (w3 := w3) (w4 := w4) (w5 := .fr (.sh (sh1.length + 2))) (w6 := .fr (.int s)) (w7 := .fr (mD (sc s m))) (w9 := .fr given) (w10 := .fr (.int (sgn (sc s m)))) (w11 := .fr given) (sh := sh2) hs (by rw [em]) h hz
  refine ⟨.fr (.sh (sh1.length + 2)), .fr (.int s), .fr (mD (sc s m)), .fr (.lst (iL (own (sc s m) ++ [lst (sc s m)]))), .fr given, .fr (.int (sgn (sc s m))), .fr given, sh2, so2, ?_⟩
  show exSs (cf fuel (n + 5)) gb ⟨X (.lst (iL (l ++ [x]))) (.fr (mD m)) w3 w4 w5 (.fr (.int s)) w7 w8 w9 w10 w11 .un, sh⟩ = _
  unfold gb
  rw [exSs_nx a1, exSs_nx a2, exSs_nx a3, exSs_nx a4, exSs_nx a5, exSs_nx a6, exSs_nx a7, exSs_nx a8, exSs]
end
end K18
end
section
set_option linter.all false
set_option maxRecDepth 100000
set_option maxHeartbeats 1000000
/-! K18j: road_right, matrix_right. -/
namespace K18
open PySem Ev Gp
section
variable {fuel : Nat}
theorem h2_ok {n : Nat} {l : List Int} {x : Int} {passed : D} {sh : List D} (hl : ∀ y ∈ l, Sml y) (hx : Sml x) (hz : l.length < 80000) (tw : Two passed (iL (l ++ [x]))) :
    exS (cf fuel (n + 5)) h2 ⟨X (.lst (iL (l ++ [x]))) (.fr (mD (W l x))) (.fr passed) .un .un .un .un .un .un .un .un .un, sh⟩ = .nx ⟨X (.lst (iL (l ++ [x]))) (.fr (mD (W l x))) (.fr passed) (.fr passed) (.fr (.sh sh.length)) .un .un .un .un .un .un .un, sh ++ [.lst [mD (W l x), mD (W l x), passed]]⟩ := by
  have e23 := copy_ok (fuel := fuel) (n := n + 3) (sh := sh) tw (by rw [List.length_append]; show l.length + 1 < _; omega)
  have e9 := worth_ok (fuel := fuel) (n := n) (sh := sh) tw hz hl (.inr hx)
  have e9' := worth_ok (fuel := fuel) (n := n) (d := .lst (iL (l ++ [x]))) (sh := sh) (.inl rfl) hz hl (.inr hx)
  generalize W l x = m at *
  generalize iL (l ++ [x]) = r at *
  generalize hs : (⟨X (.lst r) (.fr (mD m)) (.fr passed) .un .un .un .un .un .un .un .un .un, sh⟩ : S) = st
  have s1 : st.get 1 = .fr (.lst r) := by rw [← hs]; rfl
  have s3 : st.get 3 = .fr passed := by rw [← hs]; rfl
  have ssh : st.sh = sh := by rw [← hs]
  have est : (⟨st.env, sh⟩ : S) = st := by rw [← hs]
  have v3 : evEs (cf fuel (n + 5)) (.cons (.var 3) .nil) st = .ok [passed] st := Es_cons (v := .fr passed) (v_fr s3) Es_nil
  have kl : evEs (cf fuel (n + 5)) (.cons (.bcl .list (.cons (.var 1) (.nil))) .nil) st = .ok [.lst r] st := Es_cons (v := .ow (.lst r)) (bcl1 (x := .v (.lst r)) (d := .lst r) (B_fr s1) (by show some (vw st.sh (.lst r)) = _; rfl) rfl) Es_nil
  have k23 : evE (cf fuel (n + 5)) (.call 23 (.cons (.var 3) (.nil)) []) st = .ok (.fr passed) st := by
    rw [callc v3 (by rw [ssh]; exact e23), est]
  have k9 : evE (cf fuel (n + 5)) (.share (.call 9 (.cons (.var 3) (.nil)) [])) st = .ok (.fr (mD m)) st := by
    rw [share_fr (callc v3 (by rw [ssh]; exact e9)), est]
  have k9' : evE (cf fuel (n + 5)) (.share (.call 9 (.cons (.bcl .list (.cons (.var 1) (.nil))) (.nil)) [0])) st = .ok (.fr (mD m)) st := by
    rw [share_fr (callp (ds' := [.lst r]) kl rfl (by rw [ssh]; exact e9')), est]
  have kf : evE (cf fuel (n + 5)) (.share (.lst (.cons (.share (.call 9 (.cons (.var 3) (.nil)) [])) (.cons (.share (.call 9 (.cons (.bcl .list (.cons (.var 1) (.nil))) (.nil)) [0])) (.cons (.var 3) (.nil)))))) st = .ok (.fr (.sh sh.length)) ⟨st.env, sh ++ [.lst [mD m, mD m, passed]]⟩ := by
    rw [share_ow (lst_of (ds := [mD m, mD m, passed]) (Es_cons k9 (Es_cons k9' v3)) (by show 3 ≤ 90000; omega)), ssh]
  unfold h2
  rw [par2 k23 kf, ← hs]
  rfl
theorem h3_ok {n : Nat} {road passed : D} {l : List Int} {m : Mx} {sh : List D} (hf : 90000 ≤ fuel) (tw : Two passed (iL l)) (hz : l.length < 90000) : exS (cf fuel (n + 5)) h3 ⟨X road (.fr (mD m)) (.fr passed) (.fr passed) (.fr (.sh sh.length)) .un .un .un .un .un .un .un, sh ++ [.lst [mD m, mD m, passed]]⟩ = .nx ⟨X road (.fr (mD m)) (.fr passed) (.fr passed) (.fr (.sh sh.length)) .un .un .un .un .un .un .un, sh ++ [.lst [mD m, mD m, passed]]⟩ := by
  have sm : Sm (sh ++ [.lst [mD m, mD m, passed]]) 3 (.sh sh.length) (.lst [mD m, mD m, passed]) := Sm_l3 ls_last Sm_mD Sm_mD (Sm_two tw hz)
  generalize sh ++ [D.lst [mD m, mD m, passed]] = sh1 at *
  generalize sh.length = k at *
  generalize hs : (⟨X road (.fr (mD m)) (.fr passed) (.fr passed) (.fr (.sh k)) .un .un .un .un .un .un .un, sh1⟩ : S) = st
  have s2 : st.get 2 = .fr (mD m) := by rw [← hs]; rfl
  have s4 : st.get 4 = .fr passed := by rw [← hs]; rfl
  have s5 : st.get 5 = .fr (.sh k) := by rw [← hs]; rfl
  have ssh : st.sh = sh1 := by rw [← hs]
  have est : (⟨st.env, sh1⟩ : S) = st := by rw [← hs]
  have k24 := callc (P := P) (fuel := fuel) (n := n + 5) (f := 24) (s := st) (s1 := st) (sh' := sh1) (r := .fr (.bl true)) (ds := [.sh k, .lst [mD m, mD m, passed]]) (es := .cons (.var 5) (.cons (.lst (.cons (.var 2) (.cons (.var 2) (.cons (.var 4) (.nil))))) (.nil))) (Es_cons (v := .fr (.sh k)) (v_fr s5) (Es_cons (v := .ow (.lst [mD m, mD m, passed])) (lst_of (Es_cons (v := .fr (mD m)) (v_fr s2) (Es_cons (v := .fr (mD m)) (v_fr s2) (Es_cons (v := .fr passed) (v_fr s4) Es_nil))) (by show 3 ≤ 90000; omega)) Es_nil)) (by rw [ssh]; exact same24 hf sm (by omega))
  rw [est] at k24
  unfold h3
  rw [iff_f (T_not (T_bl k24)), exSs]
theorem road_right {n c0 : Nat} {l : List Int} {x : Int} {sh : List D} (hf : 90000 ≤ fuel) (hl : ∀ y ∈ l, y.natAbs ≤ 4) (hx : x.natAbs ≤ 4) (hz : l.length ≤ 7) (hS : SO c0 sh) (hc : c0 < 300000000) : ∃ sh', callF P fuel (n + 6) 29 [.sh 1, .lst (iL (l ++ [x]))] sh = .ok (.fr (.bl true)) sh' ∧ SO (c0 + 10) sh' := by
  have hl' : ∀ y ∈ l, Sml y := fun y hy => by have := hl y hy; unfold Sml; omega
  have hx' : Sml x := by unfold Sml; omega
  have hb := W_bd hl hx hz
  have mo : ∀ s, s = 1 ∨ s = -1 → MOk (sc s (W l x)) := fun s hs => ⟨by rw [det_sc hs, det_W], sc_bd hs hb.1, by
    show (s * (W l x).c).natAbs ≤ 78125
    have := hb.2
    rcases hs with rfl | rfl <;> omega⟩
  have e14 := rw_ok (fuel := fuel) (n := n + 2) (d := .lst (iL (l ++ [x]))) (sh := sh) rfl hl' (.inr hx')
  have hzl : (l ++ [x]).length < 90000 := by rw [List.length_append]; show l.length + 1 < _; omega
  obtain ⟨passed, sh1, e25, tw, so⟩ := loose_ok (fuel := fuel) (n := n + 2) (d := .lst (iL (l ++ [x]))) hf (.inl rfl) hzl hS (by omega)
  have a1 : exS (cf fuel (n + 5)) h1 ⟨X (.lst (iL (l ++ [x]))) .un .un .un .un .un .un .un .un .un .un .un, sh⟩ = .nx ⟨X (.lst (iL (l ++ [x]))) (.fr (mD (W l x))) (.fr passed) .un .un .un .un .un .un .un .un .un, sh1⟩ := by
    unfold h1
    rw [par2 (callc (s1 := ⟨X (.lst (iL (l ++ [x]))) .un .un .un .un .un .un .un .un .un .un .un, sh⟩) (ds := [.lst (iL (l ++ [x]))]) (Es_cons (v := .fr (.lst (iL (l ++ [x])))) (v_fr rfl) Es_nil) e14) (callc (s1 := ⟨X (.lst (iL (l ++ [x]))) .un .un .un .un .un .un .un .un .un .un .un, sh⟩) (ds := [.sh 1, .lst (iL (l ++ [x]))]) (Es_cons (v := .fr (.sh 1)) (v_fr rfl) (Es_cons (v := .fr (.lst (iL (l ++ [x])))) (v_fr rfl) Es_nil)) e25)]
    rfl
  have a2 := h2_ok (fuel := fuel) (n := n) (sh := sh1) hl' hx' (by omega) tw
  have a3 := h3_ok (fuel := fuel) (n := n) (road := .lst (iL (l ++ [x]))) (m := W l x) (sh := sh1) hf tw hzl
  have so2 : SO (c0 + 1) (sh1 ++ [.lst [mD (W l x), mD (W l x), passed]]) := SO_app so
  generalize sh1 ++ [D.lst [mD (W l x), mD (W l x), passed]] = sh2 at *
  obtain ⟨v5, v6, v7, v8, v9, v10, v11, sh3, so3, t1⟩ := gturn (fuel := fuel) (n := n) (s := 1) (l := l) (x := x) (m := W l x) (w3 := .fr passed) (w4 := .fr passed) (w5 := .fr (.sh sh1.length)) (w6 := .un) (w7 := .un) (w8 := .un) (w9 := .un) (w10 := .un) (w11 := .un) hf (.inl rfl) rfl (mo 1 (.inl rfl)) (by omega) so2 (by omega)
  obtain ⟨u5, u6, u7, u8, u9, u10, u11, sh4, so4, t2⟩ := gturn (fuel := fuel) (n := n) (s := -1) (l := l) (x := x) (m := W l x) (w3 := .fr passed) (w4 := .fr passed) (w5 := v5) (w6 := v6) (w7 := v7) (w8 := v8) (w9 := v9) (w10 := v10) (w11 := v11) hf (.inr rfl) rfl (mo (-1) (.inr rfl)) (by omega) so3 (by omega)
  have a4 : exS (cf fuel (n + 5)) h4 ⟨X (.lst (iL (l ++ [x]))) (.fr (mD (W l x))) (.fr passed) (.fr passed) (.fr (.sh sh1.length)) .un .un .un .un .un .un .un, sh2⟩ = .nx ⟨X (.lst (iL (l ++ [x]))) (.fr (mD (W l x))) (.fr passed) (.fr passed) u5 u6 u7 u8 u9 u10 u11 .un, sh4⟩ := by
    have hi : evIt (cf fuel (n + 5)) (.seq (.of (.tup (.cons (.cst (.int 1)) (.cons (.bin .Sub (.of (.cst (.int 0))) (.of (.cst (.int 1)))) (.nil))))) false) ⟨X (.lst (iL (l ++ [x]))) (.fr (mD (W l x))) (.fr passed) (.fr passed) (.fr (.sh sh1.length)) .un .un .un .un .un .un .un, sh2⟩ = .ok (.xs [.int 1, .int (-1)]) ⟨X (.lst (iL (l ++ [x]))) (.fr (mD (W l x))) (.fr passed) (.fr passed) (.fr (.sh sh1.length)) .un .un .un .un .un .un .un, sh2⟩ := by
      rw [evIt, B_of (tup_of (ds := [.int 1, .int (-1)]) (Es_cons cst_ev (Es_cons sub01 Es_nil)) (by show 2 ≤ 90000; omega))]
      rfl
    unfold h4
    rw [for_xs hi]
    unfold forL
    rw [t1]
    show forL _ [_] _ = _
    unfold forL
    rw [t2]
    rfl
  refine ⟨sh4, ?_, SO_le so4 (by omega)⟩
  rw [callP (fn := Pg.i__law_road_right) rfl rfl]
  show outFR (exSs (cf fuel (n + 5)) Pg.i__law_road_right.body ⟨X (.lst (iL (l ++ [x]))) .un .un .un .un .un .un .un .un .un .un .un, sh⟩) = _
  rw [b29, exSs_nx a1, exSs_nx a2, exSs_nx a3, exSs_nx a4, exSs_rt (ret_of cst_ev)]
  rfl
/-! ### matrix_right -/
def k1 : St := .asg (.tp [.nm 2, .nm 3]) (.call 11 (.cons (.call 25 (.cons (.var 0) (.cons (.var 1) (.nil))) []) (.nil)) [])
def k2l : E := .lc (.cmp .Lt (.var 4) (.of (.cst (.int 2)))) (.nm 4) (.seq (.of (.slc (.var 3) (.so (.of (.cst (.int 1)))) (.so (.of (.neg (.of (.cst (.int 1)))))))) false) (.nil) [4]
def k2t : T := .or (.not (.of (.of (.isi (.var 3) [.ty "list"])))) (.or (.cmp .NotIn (.var 2) (.of (.tup (.cons (.cst (.int 1)) (.cons (.bin .Sub (.of (.cst (.int 0))) (.of (.cst (.int 1)))) (.nil)))))) (.one (.of (.of (.bcl .any (.cons (.of k2l) (.nil)))))))
def k2 : St := .iff k2t (.cons (.ret (.cst (.bl false)))
  (.nil)) (.nil)
def k3l : E := .lc (.bin .Mult (.var 2) (.var 4)) (.nm 4) (.seq (.of (.call 14 (.cons (.var 3) (.nil)) [])) false) (.nil) [4]
def k3 : St := .iff (.or (.cmp .NotEq (.of (.bcl .tuple (.cons (.of k3l) (.nil)))) (.var 1)) (.one (.cmp .NotEq (.var 3) (.of (.call 16 (.cons (.var 1) (.nil)) []))))) (.cons (.ret (.cst (.bl false)))
  (.nil)) (.nil)
def k4l : E := .lc (.bin .Mult (.var 2) (.var 4)) (.nm 4) (.seq (.var 1) true) (.nil) [4]
def k4 : St := .ret (.call 24 (.cons (.call 9 (.cons (.bcl .list (.cons (.var 3) (.nil))) (.nil)) []) (.cons (.bcl .tuple (.cons (.of k4l) (.nil))) (.nil))) [])
theorem b31 : Pg.i__law_matrix_right.body = .cons k1 (.cons k2 (.cons k3 (.cons k4 .nil))) := rfl
theorem notin_s {sh : List D} {s : Int} (hs : s = 1 ∨ s = -1) : cmpD sh .NotIn (.int s) (.tup [.int 1, .int (-1)]) = some false := by
  rcases hs with rfl | rfl <;> rfl
theorem matrix_right {n c0 : Nat} {m : Mx} {sh : List D} (hf : 90000 ≤ fuel) (h : MOk m) (hS : SO c0 sh) (hc : c0 < 300000000) : ∃ sh', callF P fuel (n + 6) 31 [.sh 1, mD m] sh = .ok (.fr (.bl true)) sh' ∧ SO (c0 + 10) sh' := by
  obtain ⟨given, sh1, e25, tw, so⟩ := loose_ok (fuel := fuel) (n := n + 2) (d := mD m) (l := lM m) hf (.inr rfl) (by show 4 < 90000; omega) hS (by omega)
  have e11 := road_call (fuel := fuel) (n := n + 1) (sh := sh1) hf tw h
  have g0 : LsI (sh1 ++ [.lst (iL (own m ++ [lst m]))]) (.sh sh1.length) (own m ++ [lst m]) := vw_get last_get
  have e14 := ww_call (fuel := fuel) (n := n + 2) (d := .sh sh1.length) h g0
  have e16 := cred_call (fuel := fuel) (n := n + 3) (sh := sh1 ++ [.lst (iL (own m ++ [lst m]))]) hf h
  have len := h.len
  have e9 := worth_ok (fuel := fuel) (n := n) (d := .lst (iL (own m ++ [lst m]))) (l := own m) (x := lst m) (sh := sh1 ++ [.lst (iL (own m ++ [lst m]))]) (.inl rfl) (by omega) h.nums (.inl h.pac)
  have hs := h.oo.1
  have dr : ∀ x ∈ (own m).drop 1, 2 ≤ x := red_drop
  have hz : ((own m).drop 1).length < 90000 := by
    rw [List.length_drop]
    omega
  rw [h.ww] at e14 e9
  have so2 : SO (c0 + 1) (sh1 ++ [.lst (iL (own m ++ [lst m]))]) := SO_app so
  have a1 : exS (cf fuel (n + 5)) k1 ⟨[.fr (.sh 1), .fr (mD m), .un, .un, .un], sh⟩ = .nx ⟨[.fr (.sh 1), .fr (mD m), .fr (.int (sgn m)), .fr (.sh sh1.length), .un], sh1 ++ [.lst (iL (own m ++ [lst m]))]⟩ := by
    have k25 : evE (cf fuel (n + 5)) (.call 25 (.cons (.var 0) (.cons (.var 1) (.nil))) []) ⟨[.fr (.sh 1), .fr (mD m), .un, .un, .un], sh⟩ = .ok (.fr given) ⟨[.fr (.sh 1), .fr (mD m), .un, .un, .un], sh1⟩ := callc (s1 := ⟨[.fr (.sh 1), .fr (mD m), .un, .un, .un], sh⟩) (ds := [.sh 1, mD m]) (Es_cons (v := .fr (.sh 1)) (v_fr rfl) (Es_cons (v := .fr (mD m)) (v_fr rfl) Es_nil)) e25
    exact asg_tp (callc (s1 := ⟨[.fr (.sh 1), .fr (mD m), .un, .un, .un], sh1⟩) (ds := [given]) (Es_cons k25 Es_nil) e11) rfl
  refine ⟨sh1 ++ [.lst (iL (own m ++ [lst m]))], ?_, SO_le so2 (by omega)⟩
  generalize hR : D.lst (iL (own m ++ [lst m])) = R at *
  generalize hsh : sh1 ++ [R] = sh2 at *
  generalize sh1.length = k at *
  generalize hsg : sgn m = s at *
  have hi := mid_it (C := cf fuel (n + 5)) (i := 3) (d := .sh k) (l := own m) (x := lst m) (s := ⟨[.fr (.sh 1), .fr (mD m), .fr (.int s), .fr (.sh k), .un], sh2⟩) rfl g0
  have gv : vw sh2 (.sh k) = R := by rw [← hR]; exact g0
  have a2 : exS (cf fuel (n + 5)) k2 ⟨[.fr (.sh 1), .fr (mD m), .fr (.int s), .fr (.sh k), .un], sh2⟩ = .nx ⟨[.fr (.sh 1), .fr (mD m), .fr (.int s), .fr (.sh k), .un], sh2⟩ := by
    have e : evE (cf fuel (n + 5)) k2l ⟨[.fr (.sh 1), .fr (mD m), .fr (.int s), .fr (.sh k), .un], sh2⟩ = .ok (.ow (.lst (((own m).drop 1).map fun x => D.bl (decide (x < 2))))) ⟨[.fr (.sh 1), .fr (mD m), .fr (.int s), .fr (.sh k), .un], sh2⟩ :=
      lc_int (En := fun v => [.fr (.sh 1), .fr (mD m), .fr (.int s), .fr (.sh k), v]) (v0 := .un) (g := fun x => D.bl (decide (x < 2))) hi (fun v x => rfl) (fun v => rfl) (fun x _ => ⟨.fr (.bl (decide (x < 2))), E_cmp (d := .int x) (d' := .int 2) (B_fr rfl) B_cst rfl rfl rfl, rfl⟩) hz
    have ea := bcl1 (b := .any) (B_of e) rfl any_of
    have ef : ((own m).drop 1).any (fun x => decide (x < 2)) = false := by
      rw [List.any_eq_false]
      intro x hx
      have := dr x hx
      simp
      omega
    rw [ef] at ea
    have ei : evE (cf fuel (n + 5)) (.isi (.var 3) [.ty "list"]) ⟨[.fr (.sh 1), .fr (mD m), .fr (.int s), .fr (.sh k), .un], sh2⟩ = .ok (.fr (.bl true)) ⟨[.fr (.sh 1), .fr (mD m), .fr (.int s), .fr (.sh k), .un], sh2⟩ := isi_of (x := .v (.sh k)) (d := R) (B_fr rfl) (by show some (vw sh2 (.sh k)) = _; rw [gv]) (by rw [← hR]; rfl)
    have t1 := T_cmp (C := cf fuel (n + 5)) (op := .NotIn) (a := .var 2) (b := .of (.tup (.cons (.cst (.int 1)) (.cons (.bin .Sub (.of (.cst (.int 0))) (.of (.cst (.int 1)))) (.nil))))) (s := ⟨[.fr (.sh 1), .fr (mD m), .fr (.int s), .fr (.sh k), .un], sh2⟩) (x := .v (.int s)) (y := .v (.tup [.int 1, .int (-1)])) (d := .int s) (d' := .tup [.int 1, .int (-1)]) (B_fr rfl) (B_of (tup_of (ds := [.int 1, .int (-1)]) (Es_cons cst_ev (Es_cons sub01 Es_nil)) (by show 2 ≤ 90000; omega))) rfl rfl (notin_s hs)
    unfold k2 k2t
    rw [iff_f (by rw [T_or_f (T_not (T_bl ei)), T_or_f t1, T_one]; exact T_bl ea), exSs]
  have mul4 : ∀ {it : It} {m' : Mx}, evIt (cf fuel (n + 5)) it ⟨[.fr (.sh 1), .fr (mD m), .fr (.int s), .fr (.sh k), .un], sh2⟩ = .ok (.xs (iL (lM m'))) ⟨[.fr (.sh 1), .fr (mD m), .fr (.int s), .fr (.sh k), .un], sh2⟩ → evE (cf fuel (n + 5)) (.bcl .tuple (.cons (.of (.lc (.bin .Mult (.var 2) (.var 4)) (.nm 4) it (.nil) [4])) (.nil))) ⟨[.fr (.sh 1), .fr (mD m), .fr (.int s), .fr (.sh k), .un], sh2⟩ = .ok (.fr (mD (sc s m'))) ⟨[.fr (.sh 1), .fr (mD m), .fr (.int s), .fr (.sh k), .un], sh2⟩ := fun {it m'} hi => by
    have e := lc_int (i := 4) (elt := .bin .Mult (.var 2) (.var 4)) (En := fun v => [.fr (.sh 1), .fr (mD m), .fr (.int s), .fr (.sh k), v]) (v0 := .un) (l := lM m') (g := fun x => D.int (s * x)) hi (fun v x => rfl) (fun v => rfl) (fun x _ => ⟨.fr (.int (s * x)), mul_of (i := s) (j := x) (B_fr rfl) (B_fr rfl) rfl rfl (.inl (by unfold Sml; omega)), rfl⟩) (by show 4 < 90000; omega)
    rw [map_int] at e
    exact bcl1 (B_of e) rfl tup_iL
  have a3 : exS (cf fuel (n + 5)) k3 ⟨[.fr (.sh 1), .fr (mD m), .fr (.int s), .fr (.sh k), .un], sh2⟩ = .nx ⟨[.fr (.sh 1), .fr (mD m), .fr (.int s), .fr (.sh k), .un], sh2⟩ := by
    have k14 : evIt (cf fuel (n + 5)) (.seq (.of (.call 14 (.cons (.var 3) (.nil)) [])) false) ⟨[.fr (.sh 1), .fr (mD m), .fr (.int s), .fr (.sh k), .un], sh2⟩ = .ok (.xs (iL (lM (sc s m)))) ⟨[.fr (.sh 1), .fr (mD m), .fr (.int s), .fr (.sh k), .un], sh2⟩ := by
      rw [evIt, B_of (r := .fr (mD (sc s m))) (callc (s1 := ⟨[.fr (.sh 1), .fr (mD m), .fr (.int s), .fr (.sh k), .un], sh2⟩) (ds := [.sh k]) (Es_cons (v := .fr (.sh k)) (v_fr rfl) Es_nil) e14)]
      rfl
    have kt := mul4 k14
    rw [sc_sc hs] at kt
    have t1 : evT (cf fuel (n + 5)) (.cmp .NotEq (.of (.bcl .tuple (.cons (.of k3l) (.nil)))) (.var 1)) ⟨[.fr (.sh 1), .fr (mD m), .fr (.int s), .fr (.sh k), .un], sh2⟩ = .ok false ⟨[.fr (.sh 1), .fr (mD m), .fr (.int s), .fr (.sh k), .un], sh2⟩ := T_cmp (x := .v (mD m)) (d := mD m) (d' := mD m) (B_of kt) (B_fr rfl) rfl rfl (by rw [neM_c, beq_self_eq_true]; rfl)
    have e16' : callF P fuel (n + 5) 16 [mD m] sh2 = .ok (.ow R) sh2 := e16
    have t2 : evT (cf fuel (n + 5)) (.cmp .NotEq (.var 3) (.of (.call 16 (.cons (.var 1) (.nil)) []))) ⟨[.fr (.sh 1), .fr (mD m), .fr (.int s), .fr (.sh k), .un], sh2⟩ = .ok false ⟨[.fr (.sh 1), .fr (mD m), .fr (.int s), .fr (.sh k), .un], sh2⟩ := T_cmp (x := .v (.sh k)) (y := .v R) (d := R) (d' := R) (B_fr rfl) (B_of (callc (s1 := ⟨[.fr (.sh 1), .fr (mD m), .fr (.int s), .fr (.sh k), .un], sh2⟩) (ds := [mD m]) (Es_cons (v := .fr (mD m)) (v_fr rfl) Es_nil) e16')) (by show some (vw sh2 (.sh k)) = _; rw [gv]) (by rw [← hR]; rfl) (by rw [← hR, neL_c, beq_self_eq_true]; rfl)
    unfold k3
    rw [iff_f (by rw [T_or_f t1, T_one]; exact t2), exSs]
  have a4 : exS (cf fuel (n + 5)) k4 ⟨[.fr (.sh 1), .fr (mD m), .fr (.int s), .fr (.sh k), .un], sh2⟩ = .rt (.fr (.bl true)) ⟨[.fr (.sh 1), .fr (mD m), .fr (.int s), .fr (.sh k), .un], sh2⟩ := by
    have kl : evE (cf fuel (n + 5)) (.bcl .list (.cons (.var 3) (.nil))) ⟨[.fr (.sh 1), .fr (mD m), .fr (.int s), .fr (.sh k), .un], sh2⟩ = .ok (.ow R) ⟨[.fr (.sh 1), .fr (mD m), .fr (.int s), .fr (.sh k), .un], sh2⟩ := bcl1 (x := .v (.sh k)) (d := R) (B_fr rfl) (by show some (vw sh2 (.sh k)) = _; rw [gv]) (by rw [← hR]; rfl)
    have k9 : evE (cf fuel (n + 5)) (.call 9 (.cons (.bcl .list (.cons (.var 3) (.nil))) (.nil)) []) ⟨[.fr (.sh 1), .fr (mD m), .fr (.int s), .fr (.sh k), .un], sh2⟩ = .ok (.fr (mD (sc s m))) ⟨[.fr (.sh 1), .fr (mD m), .fr (.int s), .fr (.sh k), .un], sh2⟩ := callc (s1 := ⟨[.fr (.sh 1), .fr (mD m), .fr (.int s), .fr (.sh k), .un], sh2⟩) (ds := [R]) (Es_cons kl Es_nil) e9
    have kt : evE (cf fuel (n + 5)) (.bcl .tuple (.cons (.of k4l) (.nil))) ⟨[.fr (.sh 1), .fr (mD m), .fr (.int s), .fr (.sh k), .un], sh2⟩ = .ok (.fr (mD (sc s m))) ⟨[.fr (.sh 1), .fr (mD m), .fr (.int s), .fr (.sh k), .un], sh2⟩ := mul4 (it := .seq (.var 1) true) (m' := m) rfl
    exact ret_of (callc (s1 := ⟨[.fr (.sh 1), .fr (mD m), .fr (.int s), .fr (.sh k), .un], sh2⟩) (ds := [mD (sc s m), mD (sc s m)]) (Es_cons k9 (Es_cons kt Es_nil)) (same24 (n := n + 5) (h := 1) hf Sm_mD (by omega)))
  rw [callP (fn := Pg.i__law_matrix_right) rfl rfl]
  show outFR (exSs (cf fuel (n + 5)) Pg.i__law_matrix_right.body ⟨[.fr (.sh 1), .fr (mD m), .un, .un, .un], sh⟩) = _
  rw [b31, exSs_nx a1, exSs_nx a2, exSs_nx a3, exSs_rt a4]
  rfl
end
end K18
end
section
set_option linter.all false
set_option maxRecDepth 100000
set_option maxHeartbeats 1000000
/-! K18k: what is refused. -/
namespace K18
open PySem Ev Gp
def odds1 : List D := [.non, .int 5, .str "ab", .bl true, .dic [] [], .lst [], .lst [.str "1"], .lst [.non], .lst [.int 1, .bl true], .lst [.lst [.int 1]], .fn 15]
def odds2a : List D := [.non, .int 5, .str "abcd", .bl true, .dic [] [], .lst [], .lst [.int 1, .int 0, .int 0], .tup [.int 1, .int 0, .int 0, .int 1, .int 0], .tup [.int 1, .int 0, .int 0, .str "1"], .tup [.int 1, .int 0, .int 0, .bl true], .tup [.int 2, .int 0, .int 0, .int 1]]
def odds2b : List D := [.tup [.int 0, .int 0, .int 0, .int 0], .tup [.int 0, .int 1, .int 1, .int 0], .tup [.int 1, .int 0, .int 0, .int (-1)], .tup [.int 3, .int 1, .int 1, .int 1]]
/-- no road -/
def NoR (o : D) : Prop := (okTy o = true ∧ isTy o [.ty "list", .ty "tuple"] = false) ∨ ∃ xs, o = .lst xs ∧ (xs = [] ∨ xs.all isI = false) ∧ (∀ x ∈ xs, okTy x = true) ∧ xs.length < 90000
/-- no matrix of determinant 1 -/
def NoM (o : D) : Prop := (okTy o = true ∧ isTy o [.ty "list", .ty "tuple"] = false) ∨ (∃ xs, Two o xs ∧ (xs.length ≠ 4 ∨ xs.all isI = false) ∧ (∀ x ∈ xs, okTy x = true) ∧ xs.length < 90000) ∨ ∃ m, Two o (iL (lM m)) ∧ Bd 400000 m ∧ m.det ≠ 1
theorem all1 {P : D → Prop} {a : D} (h : P a) : ∀ x ∈ [a], P x := List.forall_mem_cons.mpr ⟨h, fun x hx => by cases hx⟩
theorem all0 {P : D → Prop} : ∀ x ∈ ([] : List D), P x := fun x hx => by cases hx
theorem nr_at {o : D} (h : okTy o = true ∧ isTy o [.ty "list", .ty "tuple"] = false) (g : Gd 2 o) : NoR o ∧ Gd 2 o := ⟨.inl h, g⟩
theorem odds1_all : ∀ o ∈ odds1, NoR o ∧ Gd 2 o := by
  unfold odds1
  have l1 : ∀ {a : D}, Gd 1 a → Gd 2 (.lst [a]) := fun h => Gd_sq (.inr rfl) (by show 1 < 90000; omega) (all1 h)
  refine List.forall_mem_cons.mpr ⟨nr_at ⟨rfl, rfl⟩ (Gd_at rfl), List.forall_mem_cons.mpr ⟨nr_at ⟨rfl, rfl⟩ (Gd_at rfl), List.forall_mem_cons.mpr ⟨nr_at ⟨rfl, rfl⟩ (Gd_at rfl), List.forall_mem_cons.mpr ⟨nr_at ⟨rfl, rfl⟩ (Gd_at rfl), List.forall_mem_cons.mpr ⟨nr_at ⟨rfl, rfl⟩ (.inr (.inl rfl)), ?_⟩⟩⟩⟩⟩
  refine List.forall_mem_cons.mpr ⟨⟨.inr ⟨_, rfl, .inl rfl, all0, by show 0 < 90000; omega⟩, Gd_sq (.inr rfl) (by show 0 < 90000; omega) all0⟩, ?_⟩
  refine List.forall_mem_cons.mpr ⟨⟨.inr ⟨_, rfl, .inr rfl, all1 rfl, by show 1 < 90000; omega⟩, l1 (Gd_at rfl)⟩, ?_⟩
  refine List.forall_mem_cons.mpr ⟨⟨.inr ⟨_, rfl, .inr rfl, all1 rfl, by show 1 < 90000; omega⟩, l1 (Gd_at rfl)⟩, ?_⟩
  refine List.forall_mem_cons.mpr ⟨⟨.inr ⟨_, rfl, .inr rfl, List.forall_mem_cons.mpr ⟨rfl, all1 rfl⟩, by show 2 < 90000; omega⟩, Gd_sq (.inr rfl) (by show 2 < 90000; omega) (List.forall_mem_cons.mpr ⟨Gd_at rfl, all1 (Gd_at rfl)⟩)⟩, ?_⟩
  refine List.forall_mem_cons.mpr ⟨⟨.inr ⟨_, rfl, .inr rfl, all1 rfl, by show 1 < 90000; omega⟩, l1 (Gd_sq (.inr rfl) (by show 1 < 90000; omega) (all1 (Gd_at rfl)))⟩, ?_⟩
  exact all1 (nr_at ⟨rfl, rfl⟩ (Gd_at rfl))
theorem Gd_ints {o : D} {l : List Int} (h : Two o (iL l)) (hz : l.length < 90000) : Gd 2 o := Gd_sq h.symm (by rw [iL_len]; exact hz) fun x hx => by
  obtain ⟨i, _, rfl⟩ := List.mem_map.mp hx
  exact Gd_at rfl
theorem odds2_all : ∀ o ∈ odds2a ++ odds2b, NoM o ∧ Gd 2 o := by
  have at_ : ∀ {o : D}, (okTy o = true ∧ isTy o [.ty "list", .ty "tuple"] = false) → Gd 2 o → NoM o ∧ Gd 2 o := fun h g => ⟨.inl h, g⟩
  have mt : ∀ {o : D} (m : Mx), Two o (iL (lM m)) → Bd 400000 m → m.det ≠ 1 → NoM o ∧ Gd 2 o := fun m h1 h2 h3 => ⟨.inr (.inr ⟨m, h1, h2, h3⟩), Gd_ints h1 (by show 4 < 90000; omega)⟩
  have g4 : ∀ {a b c d : D}, atom a = true → atom b = true → atom c = true → atom d = true → Gd 2 (.tup [a, b, c, d]) := fun h1 h2 h3 h4 => Gd_sq (.inl rfl) (by show 4 < 90000; omega) (List.forall_mem_cons.mpr ⟨Gd_at h1, List.forall_mem_cons.mpr ⟨Gd_at h2, List.forall_mem_cons.mpr ⟨Gd_at h3, all1 (Gd_at h4)⟩⟩⟩)
  unfold odds2a odds2b
  refine List.forall_mem_cons.mpr ⟨at_ ⟨rfl, rfl⟩ (Gd_at rfl), List.forall_mem_cons.mpr ⟨at_ ⟨rfl, rfl⟩ (Gd_at rfl), List.forall_mem_cons.mpr ⟨at_ ⟨rfl, rfl⟩ (Gd_at rfl), List.forall_mem_cons.mpr ⟨at_ ⟨rfl, rfl⟩ (Gd_at rfl), List.forall_mem_cons.mpr ⟨at_ ⟨rfl, rfl⟩ (.inr (.inl rfl)), ?_⟩⟩⟩⟩⟩
  refine List.forall_mem_cons.mpr ⟨⟨.inr (.inl ⟨[], .inl rfl, .inl (by decide), all0, by show 0 < 90000; omega⟩), Gd_sq (.inr rfl) (by show 0 < 90000; omega) all0⟩, ?_⟩
  refine List.forall_mem_cons.mpr ⟨⟨.inr (.inl ⟨iL [1, 0, 0], .inl rfl, .inl (by decide), okTy_iL, by show 3 < 90000; omega⟩), Gd_ints (l := [1, 0, 0]) (.inl rfl) (by show 3 < 90000; omega)⟩, ?_⟩
  refine List.forall_mem_cons.mpr ⟨⟨.inr (.inl ⟨iL [1, 0, 0, 1, 0], .inr rfl, .inl (by decide), okTy_iL, by show 5 < 90000; omega⟩), Gd_ints (l := [1, 0, 0, 1, 0]) (.inr rfl) (by show 5 < 90000; omega)⟩, ?_⟩
  refine List.forall_mem_cons.mpr ⟨⟨.inr (.inl ⟨[.int 1, .int 0, .int 0, .str "1"], .inr rfl, .inr rfl, List.forall_mem_cons.mpr ⟨rfl, List.forall_mem_cons.mpr ⟨rfl, List.forall_mem_cons.mpr ⟨rfl, all1 rfl⟩⟩⟩, by show 4 < 90000; omega⟩), g4 rfl rfl rfl rfl⟩, ?_⟩
  refine List.forall_mem_cons.mpr ⟨⟨.inr (.inl ⟨[.int 1, .int 0, .int 0, .bl true], .inr rfl, .inr rfl, List.forall_mem_cons.mpr ⟨rfl, List.forall_mem_cons.mpr ⟨rfl, List.forall_mem_cons.mpr ⟨rfl, all1 rfl⟩⟩⟩, by show 4 < 90000; omega⟩), g4 rfl rfl rfl rfl⟩, ?_⟩
  have bd : ∀ {a b c d : Int}, a.natAbs ≤ 400000 → b.natAbs ≤ 400000 → c.natAbs ≤ 400000 → d.natAbs ≤ 400000 → Bd 400000 ⟨a, b, c, d⟩ := fun h1 h2 h3 h4 => ⟨h1, h2, h3, h4⟩
  refine List.forall_mem_cons.mpr ⟨mt ⟨2, 0, 0, 1⟩ (.inr rfl) (bd (by omega) (by omega) (by omega) (by omega)) (by decide), ?_⟩
  refine List.forall_mem_cons.mpr ⟨mt ⟨0, 0, 0, 0⟩ (.inr rfl) (bd (by omega) (by omega) (by omega) (by omega)) (by decide), ?_⟩
  refine List.forall_mem_cons.mpr ⟨mt ⟨0, 1, 1, 0⟩ (.inr rfl) (bd (by omega) (by omega) (by omega) (by omega)) (by decide), ?_⟩
  refine List.forall_mem_cons.mpr ⟨mt ⟨1, 0, 0, -1⟩ (.inr rfl) (bd (by omega) (by omega) (by omega) (by omega)) (by decide), ?_⟩
  exact all1 (mt ⟨3, 1, 1, 1⟩ (.inr rfl) (bd (by omega) (by omega) (by omega) (by omega)) (by decide))
section
variable {fuel : Nat}
theorem isroad_no {n : Nat} {d : D} {sh : List D} {c : Bool} (e2 : callF P fuel (n + 2) 2 [d] sh = .ok (.fr (.bl c)) sh) (h : c = true → bcl .len [vw sh d] = some (.fr (.int 0))) : callF P fuel (n + 3) 6 [d] sh = .ok (.fr (.bl false)) sh := by
  rw [callP (fn := Pg.i_is_road) rfl rfl]
  show outFR (exSs (cf fuel (n + 2)) Pg.i_is_road.body ⟨[.fr d], sh⟩) = _
  unfold Pg.i_is_road
  have k2 := callc (P := P) (fuel := fuel) (n := n + 2) (f := 2) (s := ⟨[.fr d], sh⟩) (s1 := ⟨[.fr d], sh⟩) (ds := [d]) (es := .cons (.var 0) .nil) (Es_cons (v := .fr d) (v_fr rfl) Es_nil) e2
  cases c with
  | false =>
    rw [exSs_rt (ret_of (E_and_f k2))]
    rfl
  | true =>
    have eb := B_of (bcl1 (C := cf fuel (n + 2)) (a := .var 0) (s := ⟨[.fr d], sh⟩) (s1 := ⟨[.fr d], sh⟩) (x := .v d) (d := vw sh d) (B_fr rfl) rfl (h rfl))
    rw [exSs_rt (ret_of (r := .fr (.bl false)) (s1 := ⟨[.fr d], sh⟩) (by
      rw [E_and_t k2, E_one]
      exact E_cmp (x := .v (.int 0)) (d := .int 0) (d' := .int 0) eb B_cst rfl rfl rfl))]
    rfl
theorem nor_ok {n : Nat} {o : D} {sh : List D} (h : NoR o) : callF P fuel (n + 5) 9 [o] sh = .ex 7 [o] sh := by
  rcases h with ⟨h1, h2⟩ | ⟨xs, rfl, h1, h2, h3⟩
  · exact road_no (isroad_no (ai_no h1 h2) (fun z => by cases z))
  · refine road_no (isroad_no (ai_seq (.inl rfl) h2 h3) fun z => ?_)
    rcases h1 with rfl | h1
    · rfl
    · rw [h1] at z
      cases z
theorem nom_ok {n : Nat} {o : D} {sh : List D} (h : NoM o) : callF P fuel (n + 4) 11 [o] sh = .ex 4 [o] sh := by
  rcases h with ⟨h1, h2⟩ | ⟨xs, tw, h1, h2, h3⟩ | ⟨m, tw, hb, hd⟩
  · exact road_ex (cm_no (ai_no h1 h2) (fun z => by cases z))
  · refine road_ex (cm_no (ai_seq tw h2 h3) fun z => ⟨xs.length, ?_, ?_⟩)
    · rcases tw with rfl | rfl <;> rfl
    · rcases h1 with h1 | h1
      · exact h1
      · rw [h1] at z
        cases z
  · exact road_det tw hb hd
theorem met18 {n c : Nat} {body : E} {fz : List Nat} {env env' : List Sl} {d : D} {w : Str} {sh sh' : List D} (hz : frzL fz ⟨env, sh⟩ = ⟨env, sh⟩) (hh : hideO env = env) (h : evE (cf fuel n) body ⟨env, sh⟩ = .ex c [d] ⟨env', sh'⟩)
    (hw : ([(4, ("matrix" : Str), 0), (5, "numbers", 0), (1, "corners", 0), (3, "diagonals", 0), (2, "counts", 0), (7, "road", 0), (8, "step", 0), (6, "other", 0)] : List (Nat × Str × Nat)).find? (fun h => h.1 == c) = some (c, w, 0)) :
    evE (cf fuel n) (.met 15 body fz) ⟨env, sh⟩ = .ok (.fr (.tup [.str w, d])) ⟨env, sh'⟩ := by
  rw [evE]
  show metEnd _ (frzL fz ⟨env, sh⟩).env (evE (cf fuel n) body ⟨hideO (frzL fz ⟨env, sh⟩).env, sh⟩) = _
  rw [hz]
  show metEnd _ env (evE (cf fuel n) body ⟨hideO env, sh⟩) = _
  rw [hh, h]
  unfold metEnd
  simp only
  rw [hw]
  rfl
def tst (g : Nat) (w : Str) : St := .iff (.not (.of (.of (.call 24 (.cons (.met 15 (.call g (.cons (.call 23 (.cons (.var 1) (.nil)) []) (.nil)) []) [1]) (.cons (.tup (.cons (.cst (.str w)) (.cons (.var 1) (.nil)))) (.nil))) [])))) (.cons (.ret (.cst (.bl false)))
  (.nil)) (.nil)
theorem tst_ok {n g c : Nat} {w : Str} {o : D} {s2 : Sl} {sh : List D} (hf : 90000 ≤ fuel) (h2 : hide1 s2 = s2) (hg : Gd 2 o) (e : callF P fuel (n + 5) g [o] sh = .ex c [o] sh) (hw : ([(4, ("matrix" : Str), 0), (5, "numbers", 0), (1, "corners", 0), (3, "diagonals", 0), (2, "counts", 0), (7, "road", 0), (8, "step", 0), (6, "other", 0)] : List (Nat × Str × Nat)).find? (fun h => h.1 == c) = some (c, w, 0)) :
    exS (cf fuel (n + 5)) (tst g w) ⟨[.fr (.sh 1), .fr o, s2, .un, .un, .un], sh⟩ = .nx ⟨[.fr (.sh 1), .fr o, s2, .un, .un, .un], sh⟩ := by
  have e23 := cp_ok (P := P) (fuel := fuel) (f := 23) rfl (sh := sh) (h := 2) (n := n + 5) hg (by omega)
  have hh : hideO [.fr (.sh 1), .fr o, s2, .un, .un, .un] = [.fr (.sh 1), .fr o, s2, .un, .un, .un] := by
    show [.fr (.sh 1), .fr o, hide1 s2, .un, .un, .un] = _
    rw [h2]
  have k23 : evEs (cf fuel (n + 5)) (.cons (.call 23 (.cons (.var 1) (.nil)) []) .nil) ⟨[.fr (.sh 1), .fr o, s2, .un, .un, .un], sh⟩ = .ok [o] ⟨[.fr (.sh 1), .fr o, s2, .un, .un, .un], sh⟩ := by
    have z := Es_cons (callc (s1 := ⟨[.fr (.sh 1), .fr o, s2, .un, .un, .un], sh⟩) (ds := [o]) (Es_cons (v := .fr o) (v_fr (i := 1) rfl) Es_nil) e23) Es_nil
    rw [cpR_d] at z
    exact z
  have m := met18 (fuel := fuel) (n := n + 5) (c := c) (d := o) (w := w) (fz := [1]) (env' := [.fr (.sh 1), .fr o, s2, .un, .un, .un]) (sh' := sh) rfl hh (callx (s1 := ⟨[.fr (.sh 1), .fr o, s2, .un, .un, .un], sh⟩) (ds := [o]) k23 e) hw
  have t : evE (cf fuel (n + 5)) (.tup (.cons (.cst (.str w)) (.cons (.var 1) (.nil)))) ⟨[.fr (.sh 1), .fr o, s2, .un, .un, .un], sh⟩ = .ok (.fr (.tup [.str w, o])) ⟨[.fr (.sh 1), .fr o, s2, .un, .un, .un], sh⟩ := tup_of (Es_cons cst_ev (Es_cons (v := .fr o) (v_fr rfl) Es_nil)) (by show 2 ≤ 90000; omega)
  have sm : Sm sh 3 (.tup [.str w, o]) (.tup [.str w, o]) := Sm_t2 (Sm_at rfl) (Sm_gd hg)
  unfold tst
  rw [iff_f (T_not (T_bl (callc (s1 := ⟨[.fr (.sh 1), .fr o, s2, .un, .un, .un], sh⟩) (ds := [.tup [.str w, o], .tup [.str w, o]]) (Es_cons m (Es_cons t Es_nil)) (same24 (n := n + 5) hf sm (by omega))))), exSs]
/-! ### the statements -/
def f1 : St := .for (.nm 1) (.seq (.of (.call 18 (.nil) [])) false) (.cons (tst 9 "road") .nil)
def f2 : St := .asg (.nm 2) (.lst (.cons (.cst .non) (.cons (.cst (.int 5)) (.cons (.cst (.str "abcd")) (.cons (.cst (.bl true)) (.cons (.dsp (.nil) (.nil)) (.cons (.lst (.nil)) (.cons (.lst (.cons (.cst (.int 1)) (.cons (.cst (.int 0)) (.cons (.cst (.int 0)) (.nil))))) (.cons (.tup (.cons (.cst (.int 1)) (.cons (.cst (.int 0)) (.cons (.cst (.int 0)) (.cons (.cst (.int 1)) (.cons (.cst (.int 0)) (.nil))))))) (.cons (.tup (.cons (.cst (.int 1)) (.cons (.cst (.int 0)) (.cons (.cst (.int 0)) (.cons (.cst (.str "1")) (.nil)))))) (.cons (.tup (.cons (.cst (.int 1)) (.cons (.cst (.int 0)) (.cons (.cst (.int 0)) (.cons (.cst (.bl true)) (.nil)))))) (.cons (.tup (.cons (.cst (.int 2)) (.cons (.cst (.int 0)) (.cons (.cst (.int 0)) (.cons (.cst (.int 1)) (.nil)))))) (.nil)))))))))))))
def f3e : E := .lst (.cons (.tup (.cons (.cst (.int 0)) (.cons (.cst (.int 0)) (.cons (.cst (.int 0)) (.cons (.cst (.int 0)) (.nil)))))) (.cons (.tup (.cons (.cst (.int 0)) (.cons (.cst (.int 1)) (.cons (.cst (.int 1)) (.cons (.cst (.int 0)) (.nil)))))) (.cons (.tup (.cons (.cst (.int 1)) (.cons (.cst (.int 0)) (.cons (.cst (.int 0)) (.cons (.bin .Sub (.of (.cst (.int 0))) (.of (.cst (.int 1)))) (.nil)))))) (.cons (.tup (.cons (.cst (.int 3)) (.cons (.cst (.int 1)) (.cons (.cst (.int 1)) (.cons (.cst (.int 1)) (.nil)))))) (.nil)))))
def f3 : St := .exp (.mth .extend (.var 2) (.cons (.of f3e) (.nil)))
def f4 : St := .for (.nm 1) (.seq (.var 2) false) (.cons (tst 11 "matrix") .nil)
def f5 : St := .asg (.tp [.nm 3, .nm 4]) (.tup (.cons (.share (.lst (.cons (.cst (.str "x")) (.nil)))) (.cons (.share (.lst (.cons (.cst (.str "y")) (.nil)))) (.nil))))
def f6 : St := .asg (.nm 5) (.share (.lst (.cons (.met 15 (.call 9 (.cons (.var 3) (.nil)) []) [3]) (.nil))))
def f7 : St := .exp (.app (.var 5) (.met 15 (.call 11 (.cons (.var 4) (.nil)) []) [4]))
def f8 (i : Nat) : St := .exp (.app (.var i) (.cst (.str "late9")))
def f10e : E := .lst (.cons (.tup (.cons (.cst (.str "road")) (.cons (.lst (.cons (.cst (.str "x")) (.cons (.cst (.str "late9")) (.nil)))) (.nil)))) (.cons (.tup (.cons (.cst (.str "matrix")) (.cons (.lst (.cons (.cst (.str "y")) (.cons (.cst (.str "late9")) (.nil)))) (.nil)))) (.nil)))
def f10 : St := .ret (.call 24 (.cons (.var 5) (.cons f10e (.nil))) [])
theorem b32 : Pg.i__law_refused_right.body = .cons f1 (.cons f2 (.cons f3 (.cons f4 (.cons f5 (.cons f6 (.cons f7 (.cons (f8 3) (.cons (f8 4) (.cons f10 .nil))))))))) := rfl
theorem odd18 {n : Nat} {sh : List D} : callF P fuel (n + 1) 18 [] sh = .ok (.ow (.lst odds1)) sh := by
  rw [callP (fn := Pg.i__law_c_odd_roads) rfl rfl]
  show outFR (exSs (cf fuel n) Pg.i__law_c_odd_roads.body ⟨[], sh⟩) = _
  unfold Pg.i__law_c_odd_roads
  have l1 : ∀ {e : E} {v : Rv}, evE (cf fuel n) e ⟨[], sh⟩ = .ok v ⟨[], sh⟩ → evE (cf fuel n) (.lst (.cons e .nil)) ⟨[], sh⟩ = .ok (.ow (.lst [v.d])) ⟨[], sh⟩ := fun h => lst_of (Es_cons h Es_nil) (by show 1 ≤ 90000; omega)
  have l0 : evE (cf fuel n) (.lst .nil) ⟨[], sh⟩ = .ok (.ow (.lst [])) ⟨[], sh⟩ := lst_of Es_nil (by show 0 ≤ 90000; omega)
  have l2 : evE (cf fuel n) (.lst (.cons (.cst (.int 1)) (.cons (.cst (.bl true)) (.nil)))) ⟨[], sh⟩ = .ok (.ow (.lst [.int 1, .bl true])) ⟨[], sh⟩ := lst_of (Es_cons cst_ev (Es_cons cst_ev Es_nil)) (by show 2 ≤ 90000; omega)
  have d0 : evE (cf fuel n) (.dsp .nil .nil) ⟨[], sh⟩ = .ok (.ow (.dic [] [])) ⟨[], sh⟩ := by
    rw [evE, evEs]
    rfl
  rw [exSs_rt (ret_of (lst_of (Es_cons cst_ev (Es_cons cst_ev (Es_cons cst_ev (Es_cons cst_ev (Es_cons d0 (Es_cons l0 (Es_cons (l1 cst_ev) (Es_cons (l1 cst_ev) (Es_cons l2 (Es_cons (l1 (l1 cst_ev)) (Es_cons cst_ev Es_nil))))))))))) (by show 11 ≤ 90000; omega)))]
  rfl
theorem f2_ok {C : Cf} {s0 s1 s3 s4 s5 : Sl} {sh : List D} : exS C f2 ⟨[s0, s1, .un, s3, s4, s5], sh⟩ = .nx ⟨[s0, s1, .ow (.lst odds2a), s3, s4, s5], sh⟩ := by
  generalize hs : (⟨[s0, s1, .un, s3, s4, s5], sh⟩ : S) = s
  have d0 : evE C (.dsp .nil .nil) s = .ok (.ow (.dic [] [])) s := by
    rw [evE, evEs]
    rfl
  have l0 : evE C (.lst .nil) s = .ok (.ow (.lst [])) s := lst_of Es_nil (by show 0 ≤ 90000; omega)
  have l3 : evE C (.lst (.cons (.cst (.int 1)) (.cons (.cst (.int 0)) (.cons (.cst (.int 0)) (.nil))))) s = .ok (.ow (.lst [.int 1, .int 0, .int 0])) s := lst_of (Es_cons cst_ev (Es_cons cst_ev (Es_cons cst_ev Es_nil))) (by show 3 ≤ 90000; omega)
  have t4 : ∀ a b c d : D, evE C (.tup (.cons (.cst a) (.cons (.cst b) (.cons (.cst c) (.cons (.cst d) (.nil)))))) s = .ok (.fr (.tup [a, b, c, d])) s := fun a b c d => tup_of (Es_cons cst_ev (Es_cons cst_ev (Es_cons cst_ev (Es_cons cst_ev Es_nil)))) (by show 4 ≤ 90000; omega)
  have t5 : evE C (.tup (.cons (.cst (.int 1)) (.cons (.cst (.int 0)) (.cons (.cst (.int 0)) (.cons (.cst (.int 1)) (.cons (.cst (.int 0)) (.nil))))))) s = .ok (.fr (.tup [.int 1, .int 0, .int 0, .int 1, .int 0])) s := tup_of (Es_cons cst_ev (Es_cons cst_ev (Es_cons cst_ev (Es_cons cst_ev (Es_cons cst_ev Es_nil))))) (by show 5 ≤ 90000; omega)
  unfold f2
  rw [asg_nm (lst_of (Es_cons cst_ev (Es_cons cst_ev (Es_cons cst_ev (Es_cons cst_ev (Es_cons d0 (Es_cons l0 (Es_cons l3 (Es_cons t5 (Es_cons (t4 _ _ _ _) (Es_cons (t4 _ _ _ _) (Es_cons (t4 _ _ _ _) Es_nil))))))))))) (by show 11 ≤ 90000; omega)), ← hs]
  rfl
theorem f3_ok {C : Cf} {s0 s1 s3 s4 s5 : Sl} {sh : List D} : exS C f3 ⟨[s0, s1, .ow (.lst odds2a), s3, s4, s5], sh⟩ = .nx ⟨[s0, s1, .ow (.lst (odds2a ++ odds2b)), s3, s4, s5], sh⟩ := by
  have e : evE C f3e ⟨[s0, s1, .ow (.lst odds2a), s3, s4, s5], sh⟩ = .ok (.ow (.lst odds2b)) ⟨[s0, s1, .ow (.lst odds2a), s3, s4, s5], sh⟩ := by
    generalize hs : (⟨[s0, s1, .ow (.lst odds2a), s3, s4, s5], sh⟩ : S) = s
    have t4 : ∀ a b c d : D, evE C (.tup (.cons (.cst a) (.cons (.cst b) (.cons (.cst c) (.cons (.cst d) (.nil)))))) s = .ok (.fr (.tup [a, b, c, d])) s := fun a b c d => tup_of (Es_cons cst_ev (Es_cons cst_ev (Es_cons cst_ev (Es_cons cst_ev Es_nil)))) (by show 4 ≤ 90000; omega)
    have t4' : ∀ a b c : D, evE C (.tup (.cons (.cst a) (.cons (.cst b) (.cons (.cst c) (.cons (.bin .Sub (.of (.cst (.int 0))) (.of (.cst (.int 1)))) (.nil)))))) s = .ok (.fr (.tup [a, b, c, .int (-1)])) s := fun a b c => tup_of (Es_cons cst_ev (Es_cons cst_ev (Es_cons cst_ev (Es_cons sub01 Es_nil)))) (by show 4 ≤ 90000; omega)
    exact lst_of (Es_cons (t4 _ _ _ _) (Es_cons (t4 _ _ _ _) (Es_cons (t4' _ _ _) (Es_cons (t4 _ _ _ _) Es_nil)))) (by show 4 ≤ 90000; omega)
  unfold f3
  rw [ext_sl (i := 2) (xs := odds2a) (ys := odds2b) rfl e rfl (by show 11 + 4 ≤ 90000; omega)]
  rfl
end
end K18
end
section
set_option linter.all false
set_option maxRecDepth 100000
set_option maxHeartbeats 1000000
/-! K18l: refused_right. -/
namespace K18
open PySem Ev Gp
theorem set_app {sh l : List D} {i : Nat} {d : D} : (sh ++ l).set (sh.length + i) d = sh ++ l.set i d := by
  rw [List.set_append_right _ _ (by omega), Nat.add_sub_cancel_left]
theorem get_app {sh l : List D} {i : Nat} : (sh ++ l)[sh.length + i]? = l[i]? := by
  rw [List.getElem?_append_right (by omega), Nat.add_sub_cancel_left]
section
variable {fuel : Nat}
/-- append to a shared list in a slot -/
theorem app_shl {C : Cf} {i k : Nat} {e : E} {s s1 : S} {xs : List D} {r : Rv} (h0 : s.get i = .fr (.sh k)) (he : evE C e s = .ok r s1) (hv0 : vw s.sh (.sh k) = .lst xs) (hv : s1.sh[k]? = some (.lst xs)) (hz : xs.length < 80000) : exS C (.exp (.app (.var i) e)) s = .nx ⟨s1.env, s1.sh.set k (.lst (xs ++ [r.d]))⟩ := by
  have sb := size_big
  have hl : k < s1.sh.length := (List.getElem?_eq_some_iff.mp hv).1
  refine exp_of (r := .fr .non) (app_of (x := .v (.sh k)) (xs := xs) (ys := xs) (r := r) (s1 := s) (s2 := s1) (B_fr h0) (congrArg some hv0) he (congrArg some (vw_get hv)) (by omega) ?_)
  show (if k < s1.sh.length then some (⟨_, s1.sh.set k (.lst (xs ++ [r.d]))⟩ : S) else none) = _
  rw [if_pos hl]
theorem f1_ok {n : Nat} {sh : List D} (hf : 90000 ≤ fuel) : ∃ s1, hide1 s1 = s1 ∧ exS (cf fuel (n + 5)) f1 ⟨[.fr (.sh 1), .un, .un, .un, .un, .un], sh⟩ = .nx ⟨[.fr (.sh 1), s1, .un, .un, .un, .un], sh⟩ := by
  have hi : evIt (cf fuel (n + 5)) (.seq (.of (.call 18 (.nil) [])) false) ⟨[.fr (.sh 1), .un, .un, .un, .un, .un], sh⟩ = .ok (.xs odds1) ⟨[.fr (.sh 1), .un, .un, .un, .un, .un], sh⟩ := by
    rw [evIt, B_of (r := .ow (.lst odds1)) (callc (s1 := ⟨[.fr (.sh 1), .un, .un, .un, .un, .un], sh⟩) (ds := []) Es_nil odd18)]
    rfl
  obtain ⟨s', e, s1, h, rfl⟩ := forL_ok (f := turnS (cf fuel (n + 5)) (.nm 1) (.cons (tst 9 "road") .nil)) (l := odds1) (I := fun s => ∃ s1, hide1 s1 = s1 ∧ s = (⟨[.fr (.sh 1), s1, .un, .un, .un, .un], sh⟩ : S)) (s := ⟨[.fr (.sh 1), .un, .un, .un, .un, .un], sh⟩) ⟨.un, rfl, rfl⟩ (by
    rintro o ho s ⟨s1, _, rfl⟩
    obtain ⟨h1, h2⟩ := odds1_all o ho
    refine ⟨⟨[.fr (.sh 1), .fr o, .un, .un, .un, .un], sh⟩, ?_, .fr o, rfl, rfl⟩
    show exSs (cf fuel (n + 5)) (.cons (tst 9 "road") .nil) ⟨[.fr (.sh 1), .fr o, .un, .un, .un, .un], sh⟩ = _
    rw [exSs_nx (tst_ok hf rfl h2 (nor_ok (n := n) h1) rfl), exSs])
  refine ⟨s1, h, ?_⟩
  unfold f1
  rw [for_xs hi]
  exact e
theorem f4_ok {n : Nat} {s1 : Sl} {sh : List D} (hf : 90000 ≤ fuel) (h1 : hide1 s1 = s1) : ∃ s1', hide1 s1' = s1' ∧ exS (cf fuel (n + 5)) f4 ⟨[.fr (.sh 1), s1, .ow (.lst (odds2a ++ odds2b)), .un, .un, .un], sh⟩ = .nx ⟨[.fr (.sh 1), s1', .fr (.lst (odds2a ++ odds2b)), .un, .un, .un], sh⟩ := by
  have al := odds2_all
  generalize odds2a ++ odds2b = L at *
  have hi : evIt (cf fuel (n + 5)) (.seq (.var 2) false) ⟨[.fr (.sh 1), s1, .ow (.lst L), .un, .un, .un], sh⟩ = .ok (.xs L) ⟨[.fr (.sh 1), s1, .fr (.lst L), .un, .un, .un], sh⟩ := rfl
  obtain ⟨s', e, s1', h, rfl⟩ := forL_ok (f := turnS (cf fuel (n + 5)) (.nm 1) (.cons (tst 11 "matrix") .nil)) (l := L) (I := fun s => ∃ s1, hide1 s1 = s1 ∧ s = (⟨[.fr (.sh 1), s1, .fr (.lst L), .un, .un, .un], sh⟩ : S)) (s := ⟨[.fr (.sh 1), s1, .fr (.lst L), .un, .un, .un], sh⟩) ⟨s1, h1, rfl⟩ (by
    rintro o ho s ⟨s1, _, rfl⟩
    obtain ⟨h1, h2⟩ := al o ho
    refine ⟨⟨[.fr (.sh 1), .fr o, .fr (.lst L), .un, .un, .un], sh⟩, ?_, .fr o, rfl, rfl⟩
    show exSs (cf fuel (n + 5)) (.cons (tst 11 "matrix") .nil) ⟨[.fr (.sh 1), .fr o, .fr (.lst L), .un, .un, .un], sh⟩ = _
    rw [exSs_nx (tst_ok (g := 11) (c := 4) hf rfl h2 (nom_ok (n := n + 1) h1) rfl), exSs])
  refine ⟨s1', h, ?_⟩
  unfold f4
  rw [for_xs hi]
  exact e
/-- the store behind what is held -/
def st2 (sh : List D) (x y : List D) (z : List D) : List D := sh ++ [.lst x, .lst y, .lst z]
theorem f5_ok {C : Cf} {s0 s1 s2 s5 : Sl} {sh : List D} : exS C f5 ⟨[s0, s1, s2, .un, .un, s5], sh⟩ = .nx ⟨[s0, s1, s2, .fr (.sh sh.length), .fr (.sh (sh.length + 1)), s5], sh ++ [.lst [.str "x"], .lst [.str "y"]]⟩ := by
  have l1 : ∀ (w : Str) sh, evE C (.share (.lst (.cons (.cst (.str w)) .nil))) ⟨[s0, s1, s2, .un, .un, s5], sh⟩ = .ok (.fr (.sh sh.length)) ⟨[s0, s1, s2, .un, .un, s5], sh ++ [.lst [.str w]]⟩ := fun w sh => share_ow (lst_of (ds := [.str w]) (Es_cons cst_ev Es_nil) (by show 1 ≤ 90000; omega))
  have t := tup_of (Es_cons (l1 "x" sh) (Es_cons (l1 "y" _) Es_nil)) (by show 2 ≤ 90000; omega)
  have k : exS C f5 ⟨[s0, s1, s2, .un, .un, s5], sh⟩ = .nx ⟨[s0, s1, s2, .fr (.sh sh.length), .fr (.sh (sh ++ [D.lst [.str "x"]]).length), s5], sh ++ [D.lst [.str "x"]] ++ [D.lst [.str "y"]]⟩ := asg_tp t rfl
  rw [k]
  simp
theorem ai_x {n m : Nat} {w : Str} {sh : List D} (hf : 90000 ≤ fuel) (hm : sh[m]? = some (.lst [.str w])) : callF P fuel (n + 2) 2 [.sh m] sh = .ok (.fr (.bl false)) sh := ai_sh hf hm (all1 rfl) (by show 1 < 80000; omega)
theorem f6_ok {n : Nat} {s1 s2 : Sl} {sh : List D} (hf : 90000 ≤ fuel) (h1 : hide1 s1 = s1) (h2 : hide1 s2 = s2) : exS (cf fuel (n + 5)) f6 ⟨[.fr (.sh 1), s1, s2, .fr (.sh sh.length), .fr (.sh (sh.length + 1)), .un], sh ++ [.lst [.str "x"], .lst [.str "y"]]⟩ = .nx ⟨[.fr (.sh 1), s1, s2, .fr (.sh sh.length), .fr (.sh (sh.length + 1)), .fr (.sh (sh.length + 2))], st2 sh [.str "x"] [.str "y"] [.tup [.str "road", .sh sh.length]]⟩ := by
  have hm : (sh ++ [D.lst [.str "x"], .lst [.str "y"]])[sh.length]? = some (.lst [.str "x"]) := get_app (i := 0)
  have e9 : callF P fuel (n + 5) 9 [.sh sh.length] (sh ++ [.lst [.str "x"], .lst [.str "y"]]) = .ex 7 [.sh sh.length] (sh ++ [.lst [.str "x"], .lst [.str "y"]]) := road_no (isroad_no (ai_x hf hm) (fun z => by cases z))
  have ln : (sh ++ [D.lst [.str "x"], .lst [.str "y"]]).length = sh.length + 2 := by rw [List.length_append]; rfl
  unfold st2
  have ea : sh ++ [D.lst [.str "x"], .lst [.str "y"], .lst [.tup [.str "road", .sh sh.length]]] = (sh ++ [D.lst [.str "x"], .lst [.str "y"]]) ++ [.lst [.tup [.str "road", .sh sh.length]]] := by rw [List.append_assoc]; rfl
  rw [ea, ← ln]
  generalize sh ++ [D.lst [.str "x"], .lst [.str "y"]] = sh1 at *
  generalize sh.length + 1 = k1 at *
  generalize sh.length = k at *
  have hh : hideO [.fr (.sh 1), s1, s2, .fr (.sh k), .fr (.sh k1), .un] = [.fr (.sh 1), s1, s2, .fr (.sh k), .fr (.sh k1), .un] := by
    show [.fr (.sh 1), hide1 s1, hide1 s2, .fr (.sh k), .fr (.sh k1), .un] = _
    rw [h1, h2]
  have m := met18 (fuel := fuel) (n := n + 5) (body := .call 9 (.cons (.var 3) (.nil)) []) (c := 7) (d := .sh k) (w := "road") (fz := [3]) (env := [.fr (.sh 1), s1, s2, .fr (.sh k), .fr (.sh k1), .un]) (env' := [.fr (.sh 1), s1, s2, .fr (.sh k), .fr (.sh k1), .un]) (sh := sh1) (sh' := sh1) rfl hh (callx (s1 := ⟨[.fr (.sh 1), s1, s2, .fr (.sh k), .fr (.sh k1), .un], sh1⟩) (ds := [.sh k]) (Es_cons (v := .fr (.sh k)) (v_fr rfl) Es_nil) e9) rfl
  unfold f6
  rw [asg_nm (share_ow (lst_of (Es_cons m Es_nil) (by show 1 ≤ 90000; omega)))]
  rfl
theorem f7_ok {n : Nat} {s1 s2 : Sl} {sh : List D} (hf : 90000 ≤ fuel) (h1 : hide1 s1 = s1) (h2 : hide1 s2 = s2) : exS (cf fuel (n + 5)) f7 ⟨[.fr (.sh 1), s1, s2, .fr (.sh sh.length), .fr (.sh (sh.length + 1)), .fr (.sh (sh.length + 2))], st2 sh [.str "x"] [.str "y"] [.tup [.str "road", .sh sh.length]]⟩ = .nx ⟨[.fr (.sh 1), s1, s2, .fr (.sh sh.length), .fr (.sh (sh.length + 1)), .fr (.sh (sh.length + 2))], st2 sh [.str "x"] [.str "y"] [.tup [.str "road", .sh sh.length], .tup [.str "matrix", .sh (sh.length + 1)]]⟩ := by
  have hm : (st2 sh [.str "x"] [.str "y"] [.tup [.str "road", .sh sh.length]])[sh.length + 1]? = some (.lst [.str "y"]) := get_app (i := 1)
  have hm2 : (st2 sh [.str "x"] [.str "y"] [.tup [.str "road", .sh sh.length]])[sh.length + 2]? = some (.lst [.tup [.str "road", .sh sh.length]]) := get_app (i := 2)
  have e11 : callF P fuel (n + 5) 11 [.sh (sh.length + 1)] (st2 sh [.str "x"] [.str "y"] [.tup [.str "road", .sh sh.length]]) = .ex 4 [.sh (sh.length + 1)] (st2 sh [.str "x"] [.str "y"] [.tup [.str "road", .sh sh.length]]) := road_ex (n := n + 1) (cm_no (ai_x hf hm) (fun z => by cases z))
  have es : (st2 sh [.str "x"] [.str "y"] [.tup [.str "road", .sh sh.length]]).set (sh.length + 2) (.lst [.tup [.str "road", .sh sh.length], .tup [.str "matrix", .sh (sh.length + 1)]]) = st2 sh [.str "x"] [.str "y"] [.tup [.str "road", .sh sh.length], .tup [.str "matrix", .sh (sh.length + 1)]] := set_app (i := 2)
  rw [← es]
  generalize st2 sh [.str "x"] [.str "y"] [.tup [.str "road", .sh sh.length]] = sh1 at *
  generalize sh.length + 2 = k2 at *
  generalize sh.length + 1 = k1 at *
  generalize sh.length = k at *
  have hh : hideO [.fr (.sh 1), s1, s2, .fr (.sh k), .fr (.sh k1), .fr (.sh k2)] = [.fr (.sh 1), s1, s2, .fr (.sh k), .fr (.sh k1), .fr (.sh k2)] := by
    show [.fr (.sh 1), hide1 s1, hide1 s2, .fr (.sh k), .fr (.sh k1), .fr (.sh k2)] = _
    rw [h1, h2]
  have m := met18 (fuel := fuel) (n := n + 5) (body := .call 11 (.cons (.var 4) (.nil)) []) (c := 4) (d := .sh k1) (w := "matrix") (fz := [4]) (env := [.fr (.sh 1), s1, s2, .fr (.sh k), .fr (.sh k1), .fr (.sh k2)]) (env' := [.fr (.sh 1), s1, s2, .fr (.sh k), .fr (.sh k1), .fr (.sh k2)]) (sh := sh1) (sh' := sh1) rfl hh (callx (s1 := ⟨[.fr (.sh 1), s1, s2, .fr (.sh k), .fr (.sh k1), .fr (.sh k2)], sh1⟩) (ds := [.sh k1]) (Es_cons (v := .fr (.sh k1)) (v_fr rfl) Es_nil) e11) rfl
  unfold f7
  rw [app_shl (k := k2) (xs := [.tup [.str "road", .sh k]]) rfl m (vw_get hm2) hm2 (by show 1 < 80000; omega)]
  rfl
theorem refused_ok {n : Nat} {sh : List D} (hf : 90000 ≤ fuel) : ∃ l, callF P fuel (n + 6) 32 [.sh 1] sh = .ok (.fr (.bl true)) (sh ++ l) := by
  obtain ⟨s1, h1, a1⟩ := f1_ok (fuel := fuel) (n := n) (sh := sh) hf
  have a2 := f2_ok (C := cf fuel (n + 5)) (s0 := .fr (.sh 1)) (s1 := s1) (s3 := .un) (s4 := .un) (s5 := .un) (sh := sh)
  have a3 := f3_ok (C := cf fuel (n + 5)) (s0 := .fr (.sh 1)) (s1 := s1) (s3 := .un) (s4 := .un) (s5 := .un) (sh := sh)
  obtain ⟨u1, k1, a4⟩ := f4_ok (fuel := fuel) (n := n) (s1 := s1) (sh := sh) hf h1
  generalize hL : D.lst (odds2a ++ odds2b) = L at *
  have a5 := f5_ok (C := cf fuel (n + 5)) (s0 := .fr (.sh 1)) (s1 := u1) (s2 := .fr L) (s5 := .un) (sh := sh)
  have a6 := f6_ok (fuel := fuel) (n := n) (s1 := u1) (s2 := .fr L) (sh := sh) hf k1 rfl
  have a7 := f7_ok (fuel := fuel) (n := n) (s1 := u1) (s2 := .fr L) (sh := sh) hf k1 rfl
  have e8 : exS (cf fuel (n + 5)) (f8 3) ⟨[.fr (.sh 1), u1, .fr L, .fr (.sh sh.length), .fr (.sh (sh.length + 1)), .fr (.sh (sh.length + 2))], st2 sh [.str "x"] [.str "y"] [.tup [.str "road", .sh sh.length], .tup [.str "matrix", .sh (sh.length + 1)]]⟩ = .nx ⟨[.fr (.sh 1), u1, .fr L, .fr (.sh sh.length), .fr (.sh (sh.length + 1)), .fr (.sh (sh.length + 2))], st2 sh [.str "x", .str "late9"] [.str "y"] [.tup [.str "road", .sh sh.length], .tup [.str "matrix", .sh (sh.length + 1)]]⟩ := by
    have hm : (st2 sh [.str "x"] [.str "y"] [.tup [.str "road", .sh sh.length], .tup [.str "matrix", .sh (sh.length + 1)]])[sh.length]? = some (.lst [.str "x"]) := get_app (i := 0)
    have es : (st2 sh [.str "x"] [.str "y"] [.tup [.str "road", .sh sh.length], .tup [.str "matrix", .sh (sh.length + 1)]]).set sh.length (.lst [.str "x", .str "late9"]) = st2 sh [.str "x", .str "late9"] [.str "y"] [.tup [.str "road", .sh sh.length], .tup [.str "matrix", .sh (sh.length + 1)]] := set_app (i := 0)
    unfold f8
    rw [app_shl (k := sh.length) (xs := [.str "x"]) rfl cst_ev (vw_get hm) hm (by show 1 < 80000; omega), ← es]
    rfl
  have e9 : exS (cf fuel (n + 5)) (f8 4) ⟨[.fr (.sh 1), u1, .fr L, .fr (.sh sh.length), .fr (.sh (sh.length + 1)), .fr (.sh (sh.length + 2))], st2 sh [.str "x", .str "late9"] [.str "y"] [.tup [.str "road", .sh sh.length], .tup [.str "matrix", .sh (sh.length + 1)]]⟩ = .nx ⟨[.fr (.sh 1), u1, .fr L, .fr (.sh sh.length), .fr (.sh (sh.length + 1)), .fr (.sh (sh.length + 2))], st2 sh [.str "x", .str "late9"] [.str "y", .str "late9"] [.tup [.str "road", .sh sh.length], .tup [.str "matrix", .sh (sh.length + 1)]]⟩ := by
    have hm : (st2 sh [.str "x", .str "late9"] [.str "y"] [.tup [.str "road", .sh sh.length], .tup [.str "matrix", .sh (sh.length + 1)]])[sh.length + 1]? = some (.lst [.str "y"]) := get_app (i := 1)
    have es : (st2 sh [.str "x", .str "late9"] [.str "y"] [.tup [.str "road", .sh sh.length], .tup [.str "matrix", .sh (sh.length + 1)]]).set (sh.length + 1) (.lst [.str "y", .str "late9"]) = st2 sh [.str "x", .str "late9"] [.str "y", .str "late9"] [.tup [.str "road", .sh sh.length], .tup [.str "matrix", .sh (sh.length + 1)]] := set_app (i := 1)
    unfold f8
    rw [app_shl (k := sh.length + 1) (xs := [.str "y"]) rfl cst_ev (vw_get hm) hm (by show 1 < 80000; omega), ← es]
    rfl
  have v0 := vw_get (sh := st2 sh [.str "x", .str "late9"] [.str "y", .str "late9"] [.tup [.str "road", .sh sh.length], .tup [.str "matrix", .sh (sh.length + 1)]]) (get_app (i := 0))
  have v1 := vw_get (sh := st2 sh [.str "x", .str "late9"] [.str "y", .str "late9"] [.tup [.str "road", .sh sh.length], .tup [.str "matrix", .sh (sh.length + 1)]]) (get_app (i := 1))
  have v2 := vw_get (sh := st2 sh [.str "x", .str "late9"] [.str "y", .str "late9"] [.tup [.str "road", .sh sh.length], .tup [.str "matrix", .sh (sh.length + 1)]]) (get_app (i := 2))
  have sm : Sm (st2 sh [.str "x", .str "late9"] [.str "y", .str "late9"] [.tup [.str "road", .sh sh.length], .tup [.str "matrix", .sh (sh.length + 1)]]) 3 (.sh (sh.length + 2)) (.lst [.tup [.str "road", .lst [.str "x", .str "late9"]], .tup [.str "matrix", .lst [.str "y", .str "late9"]]]) :=
    Sm_l2 (.inl v2) (Sm_t2 (h := 1) (Sm_at rfl) (Sm_l2 (h := 0) (.inl v0) (Sm_at rfl) (Sm_at rfl))) (Sm_t2 (h := 1) (Sm_at rfl) (Sm_l2 (h := 0) (.inl v1) (Sm_at rfl) (Sm_at rfl)))
  refine ⟨[.lst [.str "x", .str "late9"], .lst [.str "y", .str "late9"], .lst [.tup [.str "road", .sh sh.length], .tup [.str "matrix", .sh (sh.length + 1)]]], ?_⟩
  have a10 : exS (cf fuel (n + 5)) f10 ⟨[.fr (.sh 1), u1, .fr L, .fr (.sh sh.length), .fr (.sh (sh.length + 1)), .fr (.sh (sh.length + 2))], st2 sh [.str "x", .str "late9"] [.str "y", .str "late9"] [.tup [.str "road", .sh sh.length], .tup [.str "matrix", .sh (sh.length + 1)]]⟩ = .rt (.fr (.bl true)) ⟨[.fr (.sh 1), u1, .fr L, .fr (.sh sh.length), .fr (.sh (sh.length + 1)), .fr (.sh (sh.length + 2))], st2 sh [.str "x", .str "late9"] [.str "y", .str "late9"] [.tup [.str "road", .sh sh.length], .tup [.str "matrix", .sh (sh.length + 1)]]⟩ := by
    generalize st2 sh [.str "x", .str "late9"] [.str "y", .str "late9"] [.tup [.str "road", .sh sh.length], .tup [.str "matrix", .sh (sh.length + 1)]] = sh1 at *
    generalize sh.length + 2 = q2 at *
    generalize sh.length + 1 = q1 at *
    generalize sh.length = q0 at *
    have es : evEs (cf fuel (n + 5)) (.cons (.var 5) (.cons f10e (.nil))) ⟨[.fr (.sh 1), u1, .fr L, .fr (.sh q0), .fr (.sh q1), .fr (.sh q2)], sh1⟩ = .ok [.sh q2, .lst [.tup [.str "road", .lst [.str "x", .str "late9"]], .tup [.str "matrix", .lst [.str "y", .str "late9"]]]] ⟨[.fr (.sh 1), u1, .fr L, .fr (.sh q0), .fr (.sh q1), .fr (.sh q2)], sh1⟩ := by
      have g5 : S.get ⟨[.fr (.sh 1), u1, .fr L, .fr (.sh q0), .fr (.sh q1), .fr (.sh q2)], sh1⟩ 5 = .fr (.sh q2) := rfl
      generalize (⟨[.fr (.sh 1), u1, .fr L, .fr (.sh q0), .fr (.sh q1), .fr (.sh q2)], sh1⟩ : S) = s at *
      have t : ∀ w x : Str, evE (cf fuel (n + 5)) (.tup (.cons (.cst (.str w)) (.cons (.lst (.cons (.cst (.str x)) (.cons (.cst (.str "late9")) (.nil)))) (.nil)))) s = .ok (.fr (.tup [.str w, .lst [.str x, .str "late9"]])) s := fun w x => tup_of (Es_cons cst_ev (Es_cons (v := .ow (.lst [.str x, .str "late9"])) (lst_of (Es_cons cst_ev (Es_cons cst_ev Es_nil)) (by show 2 ≤ 90000; omega)) Es_nil)) (by show 2 ≤ 90000; omega)
      exact Es_cons (v := .fr (.sh q2)) (v_fr g5) (Es_cons (v := .ow (.lst [.tup [.str "road", .lst [.str "x", .str "late9"]], .tup [.str "matrix", .lst [.str "y", .str "late9"]]])) (lst_of (Es_cons (t "road" "x") (Es_cons (t "matrix" "y") Es_nil)) (by show 2 ≤ 90000; omega)) Es_nil)
    exact ret_of (callc (s1 := ⟨[.fr (.sh 1), u1, .fr L, .fr (.sh q0), .fr (.sh q1), .fr (.sh q2)], sh1⟩) es (same24 (n := n + 5) hf sm (by omega)))
  rw [callP (fn := Pg.i__law_refused_right) rfl rfl]
  show outFR (exSs (cf fuel (n + 5)) Pg.i__law_refused_right.body ⟨[.fr (.sh 1), .un, .un, .un, .un, .un], sh⟩) = _
  rw [b32, exSs_nx a1, exSs_nx a2, exSs_nx a3, exSs_nx a4, exSs_nx a5, exSs_nx a6, exSs_nx a7, exSs_nx e8, exSs_nx e9, exSs_rt a10]
  rfl
end
end K18
end
section
set_option linter.all false
set_option maxRecDepth 100000
set_option maxHeartbeats 1000000
/-! K18m: the law holds. -/
namespace K18
open PySem Ev Gp
theorem own_sgn {l : List Int} {last s : Int} (hs : s = 1 ∨ s = -1) (hl : ∀ x ∈ l.drop 1, 2 ≤ x) (hc : (sc s (W l last)).c.natAbs < 90000) : sgn (sc s (W l last)) = s := by
  unfold sgn
  rw [red_uniq hs hl hc]
  show s * 1 = s
  omega
section
variable {fuel : Nat}
def l1 : St := .asg (.nm 1) (.call 19 (.cons (.var 0) (.nil)) [])
def li : St := .iff (.or (.not (.of (.of (.call 29 (.cons (.var 1) (.cons (.call 17 (.cons (.var 1) (.cons (.cst (.int 8)) (.cons (.cst (.int 4)) (.nil)))) []) (.nil))) [])))) (.one (.not (.of (.of (.call 31 (.cons (.var 1) (.cons (.call 30 (.cons (.var 1) (.nil)) []) (.nil))) [])))))) (.cons (.ret (.cst (.bl false)))
  (.nil)) (.nil)
def lf : St := .for (.nm 2) (.rng1 (.of (.cst (.int 14)))) (.cons li .nil)
def l3 : St := .asg (.nm 3) (.share (.lst (.cons (.call 9 (.cons (.lst (.cons (.cst (.int 2)) (.cons (.cst (.int 4)) (.cons (.cst (.int 1)) (.nil))))) (.nil)) []) (.cons (.call 11 (.cons (.tup (.cons (.cst (.int 7)) (.cons (.cst (.int 5)) (.cons (.cst (.int 4)) (.cons (.cst (.int 3)) (.nil)))))) (.nil)) []) (.cons (.call 9 (.cons (.lst (.cons (.cst (.int 5)) (.nil))) (.nil)) []) (.cons (.call 11 (.cons (.tup (.cons (.bin .Sub (.of (.cst (.int 0))) (.of (.cst (.int 1)))) (.cons (.cst (.int 0)) (.cons (.cst (.int 0)) (.cons (.bin .Sub (.of (.cst (.int 0))) (.of (.cst (.int 1)))) (.nil)))))) (.nil)) []) (.nil)))))))
def l4 : St := .exp (.app (.var 3) (.call 11 (.cons (.tup (.cons (.cst (.int 0)) (.cons (.bin .Sub (.of (.cst (.int 0))) (.of (.cst (.int 1)))) (.cons (.cst (.int 1)) (.cons (.cst (.int 0)) (.nil)))))) (.nil)) []))
def l5 : St := .asg (.nm 4) (.lst (.cons (.tup (.cons (.cst (.int 7)) (.cons (.cst (.int 5)) (.cons (.cst (.int 4)) (.cons (.cst (.int 3)) (.nil)))))) (.cons (.tup (.cons (.cst (.int 1)) (.cons (.lst (.cons (.cst (.int 2)) (.cons (.cst (.int 4)) (.cons (.cst (.int 1)) (.nil))))) (.nil)))) (.cons (.tup (.cons (.cst (.int 1)) (.cons (.cst (.int 5)) (.cons (.cst (.int 0)) (.cons (.cst (.int 1)) (.nil)))))) (.cons (.tup (.cons (.bin .Sub (.of (.cst (.int 0))) (.of (.cst (.int 1)))) (.cons (.lst (.cons (.cst (.int 0)) (.nil))) (.nil)))) (.cons (.tup (.cons (.cst (.int 1)) (.cons (.lst (.cons (.cst (.int 0)) (.cons (.cst (.int 0)) (.nil)))) (.nil)))) (.nil)))))))
def l6 : St := .ret (.and (.call 32 (.cons (.var 1) (.nil)) []) (.one (.call 24 (.cons (.var 3) (.cons (.var 4) (.nil))) [])))
theorem b33 : Pg.i_law.body = .cons l1 (.cons lf (.cons l3 (.cons l4 (.cons l5 (.cons l6 .nil))))) := rfl
theorem li_ok {n c0 : Nat} {s0 s2 : Sl} {sh : List D} (hf : 90000 ≤ fuel) (hS : SO c0 sh) (hc : c0 < 200000000) : ∃ sh', exS (cf fuel (n + 6)) li ⟨[s0, .fr (.sh 1), s2, .un, .un], sh⟩ = .nx ⟨[s0, .fr (.sh 1), s2, .un, .un], sh'⟩ ∧ SO (c0 + 60) sh' := by
  obtain ⟨l, x, sh1, e17, hz, hl, hx, so1⟩ := croad_ok (fuel := fuel) (n := n + 4) hf hS (by omega)
  obtain ⟨sh2, e29, so2⟩ := road_right (fuel := fuel) (n := n) hf hl hx hz so1 (by omega)
  obtain ⟨m, sh3, e30, mo, so3⟩ := matrix_ok (fuel := fuel) (n := n + 3) hf so2 (by omega)
  obtain ⟨sh4, e31, so4⟩ := matrix_right (fuel := fuel) (n := n) hf mo so3 (by omega)
  generalize iL (l ++ [x]) = r at *
  have v1 : ∀ sh, evE (cf fuel (n + 6)) (.var 1) ⟨[s0, .fr (.sh 1), s2, .un, .un], sh⟩ = .ok (.fr (.sh 1)) ⟨[s0, .fr (.sh 1), s2, .un, .un], sh⟩ := fun sh => v_fr rfl
  have k17 : evE (cf fuel (n + 6)) (.call 17 (.cons (.var 1) (.cons (.cst (.int 8)) (.cons (.cst (.int 4)) (.nil)))) []) ⟨[s0, .fr (.sh 1), s2, .un, .un], sh⟩ = .ok (.ow (.lst r)) ⟨[s0, .fr (.sh 1), s2, .un, .un], sh1⟩ := callc (s1 := ⟨[s0, .fr (.sh 1), s2, .un, .un], sh⟩) (ds := [.sh 1, .int 8, .int 4]) (Es_cons (v1 _) (Es_cons cst_ev (Es_cons cst_ev Es_nil))) e17
  have k29 : evE (cf fuel (n + 6)) (.call 29 (.cons (.var 1) (.cons (.call 17 (.cons (.var 1) (.cons (.cst (.int 8)) (.cons (.cst (.int 4)) (.nil)))) []) (.nil))) []) ⟨[s0, .fr (.sh 1), s2, .un, .un], sh⟩ = .ok (.fr (.bl true)) ⟨[s0, .fr (.sh 1), s2, .un, .un], sh2⟩ := callc (s1 := ⟨[s0, .fr (.sh 1), s2, .un, .un], sh1⟩) (ds := [.sh 1, .lst r]) (Es_cons (v1 _) (Es_cons k17 Es_nil)) e29
  have k30 : evE (cf fuel (n + 6)) (.call 30 (.cons (.var 1) (.nil)) []) ⟨[s0, .fr (.sh 1), s2, .un, .un], sh2⟩ = .ok (.fr (mD m)) ⟨[s0, .fr (.sh 1), s2, .un, .un], sh3⟩ := callc (s1 := ⟨[s0, .fr (.sh 1), s2, .un, .un], sh2⟩) (ds := [.sh 1]) (Es_cons (v1 _) Es_nil) e30
  have k31 : evE (cf fuel (n + 6)) (.call 31 (.cons (.var 1) (.cons (.call 30 (.cons (.var 1) (.nil)) []) (.nil))) []) ⟨[s0, .fr (.sh 1), s2, .un, .un], sh2⟩ = .ok (.fr (.bl true)) ⟨[s0, .fr (.sh 1), s2, .un, .un], sh4⟩ := callc (s1 := ⟨[s0, .fr (.sh 1), s2, .un, .un], sh3⟩) (ds := [.sh 1, mD m]) (Es_cons (v1 _) (Es_cons k30 Es_nil)) e31
  refine ⟨sh4, ?_, SO_le so4 (by omega)⟩
  have t0 := T_or_f (r := .one (.not (.of (.of (.call 31 (.cons (.var 1) (.cons (.call 30 (.cons (.var 1) (.nil)) []) (.nil))) []))))) (T_not (T_bl k29))
  rw [T_one] at t0
  have t1 := T_not (T_bl k31)
  unfold li
  rw [iff_f (t0.trans t1), exSs]
theorem lf_ok {n : Nat} {s0 : Sl} {sh : List D} (hf : 90000 ≤ fuel) (hS : SO 0 sh) : ∃ s2 sh', exS (cf fuel (n + 6)) lf ⟨[s0, .fr (.sh 1), .un, .un, .un], sh⟩ = .nx ⟨[s0, .fr (.sh 1), s2, .un, .un], sh'⟩ := by
  have hi : evIt (cf fuel (n + 6)) (.rng1 (.of (.cst (.int 14)))) ⟨[s0, .fr (.sh 1), .un, .un, .un], sh⟩ = .ok (.xs (rangeD 0 14)) ⟨[s0, .fr (.sh 1), .un, .un, .un], sh⟩ := rng1_of B_cst rfl (rng_small (by omega) (by omega))
  have ll : (rangeD 0 14).length = 14 := by
    rw [rangeD_eq, List.length_map, rng_len]
    omega
  obtain ⟨s', e, s2, sh', es, so⟩ := forL_n (f := turnS (cf fuel (n + 6)) (.nm 2) (.cons li .nil)) (l := rangeD 0 14) (j := 0) (I := fun j s => ∃ s2 sh', s = (⟨[s0, .fr (.sh 1), s2, .un, .un], sh'⟩ : S) ∧ SO (60 * j) sh') (s := ⟨[s0, .fr (.sh 1), .un, .un, .un], sh⟩) ⟨.un, sh, rfl, hS⟩ (by
    rintro j x hx s ⟨s2, sh', rfl, so⟩
    obtain ⟨hl, _⟩ := List.getElem?_eq_some_iff.mp hx
    rw [ll] at hl
    obtain ⟨sh2, e, q⟩ := li_ok (fuel := fuel) (n := n) (s0 := s0) (s2 := .fr x) hf so (by omega)
    refine ⟨⟨[s0, .fr (.sh 1), .fr x, .un, .un], sh2⟩, ?_, .fr x, sh2, rfl, SO_le q (by omega)⟩
    show exSs (cf fuel (n + 6)) (.cons li .nil) ⟨[s0, .fr (.sh 1), .fr x, .un, .un], sh'⟩ = _
    rw [exSs_nx e, exSs])
  subst es
  refine ⟨s2, sh', ?_⟩
  unfold lf
  rw [for_xs hi]
  exact e
theorem mk {l : List Int} {x s : Int} (hs : s = 1 ∨ s = -1) (hl : ∀ y ∈ l, y.natAbs ≤ 4) (hx : x.natAbs ≤ 4) (hz : l.length ≤ 7) : MOk (sc s (W l x)) := by
  have hb := W_bd hl hx hz
  refine ⟨by rw [det_sc hs, det_W], sc_bd hs hb.1, ?_⟩
  show (s * (W l x).c).natAbs ≤ 78125
  have := hb.2
  rcases hs with rfl | rfl <;> omega
/-- a road told of a matrix that is known -/
theorem road_known {n : Nat} {d : D} {l : List Int} {x s : Int} {m : Mx} {sh : List D} (hf : 90000 ≤ fuel) (hd : Two d (iL (lM m))) (hs : s = 1 ∨ s = -1) (hl : ∀ y ∈ l, y.natAbs ≤ 4) (hx : x.natAbs ≤ 4) (hz : l.length ≤ 7) (h2 : ∀ y ∈ l.drop 1, 2 ≤ y) (e : m = sc s (W l x)) : callF P fuel (n + 4) 11 [d] sh = .ok (.fr (.tup [.int s, .sh sh.length])) (sh ++ [.lst (iL (l ++ [x]))]) := by
  subst e
  have mo := mk hs hl hx hz
  have k := road_call (fuel := fuel) (n := n) (sh := sh) hf hd mo
  have hc : (sc s (W l x)).c.natAbs < 90000 := by have := mo.c; omega
  rw [own_sgn hs h2 hc, (own_road hs h2 hc).1, (own_road hs h2 hc).2] at k
  exact k
/-- the store at the end -/
def st4 (z : List D) (sh : List D) : List D := sh ++ [.lst [.int 2, .int 4, .int 1], .lst [.int 0], .lst [.tup [.int 7, .int 5, .int 4, .int 3], .tup [.int 1, .sh sh.length], .tup [.int 1, .int 5, .int 0, .int 1], .tup [.int (-1), .sh (sh.length + 1)]]] ++ z
theorem l3_ok {n : Nat} {s0 s2 : Sl} {sh : List D} (hf : 90000 ≤ fuel) : exS (cf fuel (n + 6)) l3 ⟨[s0, .fr (.sh 1), s2, .un, .un], sh⟩ = .nx ⟨[s0, .fr (.sh 1), s2, .fr (.sh (sh.length + 2)), .un], st4 [] sh⟩ := by
  have e1 := fun sh => worth_ok (fuel := fuel) (n := n + 1) (d := .lst (iL ([2, 4] ++ [1]))) (l := [2, 4]) (x := 1) (sh := sh) (.inl rfl) (by decide) (fun x hx => by unfold Sml; simp at hx; omega) (.inr sml1)
  have e3 := fun sh => worth_ok (fuel := fuel) (n := n + 1) (d := .lst (iL ([] ++ [5]))) (l := []) (x := 5) (sh := sh) (.inl rfl) (by decide) (fun x hx => by cases hx) (.inr (by unfold Sml; omega))
  have e2 := fun sh => road_known (fuel := fuel) (n := n + 2) (d := .tup [.int 7, .int 5, .int 4, .int 3]) (l := [2, 4]) (x := 1) (s := 1) (m := ⟨7, 5, 4, 3⟩) (sh := sh) hf (.inr rfl) (.inl rfl) (by decide) (by decide) (by decide) (by decide) rfl
  have e4 := fun sh => road_known (fuel := fuel) (n := n + 2) (d := .tup [.int (-1), .int 0, .int 0, .int (-1)]) (l := []) (x := 0) (s := -1) (m := ⟨-1, 0, 0, -1⟩) (sh := sh) hf (.inr rfl) (.inr rfl) (fun y hy => by cases hy) (by decide) (by decide) (fun y hy => by cases hy) rfl
  have k1 : ∀ sh, evE (cf fuel (n + 6)) (.call 9 (.cons (.lst (.cons (.cst (.int 2)) (.cons (.cst (.int 4)) (.cons (.cst (.int 1)) (.nil))))) (.nil)) []) ⟨[s0, .fr (.sh 1), s2, .un, .un], sh⟩ = .ok (.fr (.tup [.int 7, .int 5, .int 4, .int 3])) ⟨[s0, .fr (.sh 1), s2, .un, .un], sh⟩ := fun sh => callc (s1 := ⟨[s0, .fr (.sh 1), s2, .un, .un], sh⟩) (ds := [.lst (iL ([2, 4] ++ [1]))]) (Es_cons (v := .ow (.lst (iL ([2, 4] ++ [1])))) (lst_of (ds := [.int 2, .int 4, .int 1]) (Es_cons cst_ev (Es_cons cst_ev (Es_cons cst_ev Es_nil))) (by show 3 ≤ 90000; omega)) Es_nil) (e1 sh)
  have k3 : ∀ sh, evE (cf fuel (n + 6)) (.call 9 (.cons (.lst (.cons (.cst (.int 5)) (.nil))) (.nil)) []) ⟨[s0, .fr (.sh 1), s2, .un, .un], sh⟩ = .ok (.fr (.tup [.int 1, .int 5, .int 0, .int 1])) ⟨[s0, .fr (.sh 1), s2, .un, .un], sh⟩ := fun sh => callc (s1 := ⟨[s0, .fr (.sh 1), s2, .un, .un], sh⟩) (ds := [.lst (iL ([] ++ [5]))]) (Es_cons (v := .ow (.lst (iL ([] ++ [5])))) (lst_of (ds := [.int 5]) (Es_cons cst_ev Es_nil) (by show 1 ≤ 90000; omega)) Es_nil) (e3 sh)
  have k2 : ∀ sh, evE (cf fuel (n + 6)) (.call 11 (.cons (.tup (.cons (.cst (.int 7)) (.cons (.cst (.int 5)) (.cons (.cst (.int 4)) (.cons (.cst (.int 3)) (.nil)))))) (.nil)) []) ⟨[s0, .fr (.sh 1), s2, .un, .un], sh⟩ = .ok (.fr (.tup [.int 1, .sh sh.length])) ⟨[s0, .fr (.sh 1), s2, .un, .un], sh ++ [.lst [.int 2, .int 4, .int 1]]⟩ := fun sh => callc (s1 := ⟨[s0, .fr (.sh 1), s2, .un, .un], sh⟩) (ds := [.tup [.int 7, .int 5, .int 4, .int 3]]) (Es_cons (v := .fr (.tup [.int 7, .int 5, .int 4, .int 3])) (tup_of (Es_cons cst_ev (Es_cons cst_ev (Es_cons cst_ev (Es_cons cst_ev Es_nil)))) (by show 4 ≤ 90000; omega)) Es_nil) (e2 sh)
  have k4 : ∀ sh, evE (cf fuel (n + 6)) (.call 11 (.cons (.tup (.cons (.bin .Sub (.of (.cst (.int 0))) (.of (.cst (.int 1)))) (.cons (.cst (.int 0)) (.cons (.cst (.int 0)) (.cons (.bin .Sub (.of (.cst (.int 0))) (.of (.cst (.int 1)))) (.nil)))))) (.nil)) []) ⟨[s0, .fr (.sh 1), s2, .un, .un], sh⟩ = .ok (.fr (.tup [.int (-1), .sh sh.length])) ⟨[s0, .fr (.sh 1), s2, .un, .un], sh ++ [.lst [.int 0]]⟩ := fun sh => callc (s1 := ⟨[s0, .fr (.sh 1), s2, .un, .un], sh⟩) (ds := [.tup [.int (-1), .int 0, .int 0, .int (-1)]]) (Es_cons (v := .fr (.tup [.int (-1), .int 0, .int 0, .int (-1)])) (tup_of (Es_cons sub01 (Es_cons cst_ev (Es_cons cst_ev (Es_cons sub01 Es_nil)))) (by show 4 ≤ 90000; omega)) Es_nil) (e4 sh)
  have z := asg_nm (i := 3) (share_ow (lst_of (Es_cons (k1 sh) (Es_cons (k2 sh) (Es_cons (k3 _) (Es_cons (k4 _) Es_nil)))) (by show 4 ≤ 90000; omega)))
  have z' : exS (cf fuel (n + 6)) l3 ⟨[s0, .fr (.sh 1), s2, .un, .un], sh⟩ = .nx ⟨[s0, .fr (.sh 1), s2, .fr (.sh (sh ++ [D.lst [.int 2, .int 4, .int 1]] ++ [D.lst [.int 0]]).length), .un], sh ++ [D.lst [.int 2, .int 4, .int 1]] ++ [D.lst [.int 0]] ++ [D.lst [.tup [.int 7, .int 5, .int 4, .int 3], .tup [.int 1, .sh sh.length], .tup [.int 1, .int 5, .int 0, .int 1], .tup [.int (-1), .sh (sh ++ [D.lst [.int 2, .int 4, .int 1]]).length]]]⟩ := z
  rw [z']
  unfold st4
  simp
end
end K18
end
section
set_option linter.all false
set_option maxRecDepth 100000
set_option maxHeartbeats 1000000
/-! K18n: the law holds. -/
namespace K18
open PySem Ev Gp
def t1 : D := .tup [.int 7, .int 5, .int 4, .int 3]
def t3 : D := .tup [.int 1, .int 5, .int 0, .int 1]
def tl (s : Int) (k : Nat) : D := .tup [.int s, .sh k]
def st6 (sh : List D) : List D := sh ++ [D.lst (iL [2, 4, 1]), D.lst (iL [0]), D.lst [t1, tl 1 sh.length, t3, tl (-1) (sh.length + 1), tl 1 (sh.length + 3)], D.lst (iL [0, 0])]
def due : D := .lst [t1, .tup [.int 1, .lst (iL [2, 4, 1])], t3, .tup [.int (-1), .lst (iL [0])], .tup [.int 1, D.lst (iL [0, 0])]]
section
variable {fuel : Nat}
theorem l4_ok {n : Nat} {s0 s2 : Sl} {sh : List D} (hf : 90000 ≤ fuel) : exS (cf fuel (n + 6)) l4 ⟨[s0, .fr (.sh 1), s2, .fr (.sh (sh.length + 2)), .un], st4 [] sh⟩ = .nx ⟨[s0, .fr (.sh 1), s2, .fr (.sh (sh.length + 2)), .un], st6 sh⟩ := by
  have e4 : st4 [] sh = sh ++ [D.lst (iL [2, 4, 1]), D.lst (iL [0]), D.lst [t1, tl 1 sh.length, t3, tl (-1) (sh.length + 1)]] := by
    unfold st4
    rw [List.append_nil]
    rfl
  rw [e4]
  have ln : (sh ++ [D.lst (iL [2, 4, 1]), D.lst (iL [0]), D.lst [t1, tl 1 sh.length, t3, tl (-1) (sh.length + 1)]]).length = sh.length + 3 := by rw [List.length_append]; rfl
  have e11 := road_known (fuel := fuel) (n := n + 2) (d := .tup [.int 0, .int (-1), .int 1, .int 0]) (l := [0]) (x := 0) (s := 1) (m := ⟨0, -1, 1, 0⟩) (sh := sh ++ [D.lst (iL [2, 4, 1]), D.lst (iL [0]), D.lst [t1, tl 1 sh.length, t3, tl (-1) (sh.length + 1)]]) hf (.inr rfl) (.inl rfl) (by decide) (by decide) (by decide) (fun y hy => by cases hy) rfl
  rw [ln] at e11
  have ea : (sh ++ [D.lst (iL [2, 4, 1]), D.lst (iL [0]), D.lst [t1, tl 1 sh.length, t3, tl (-1) (sh.length + 1)]]) ++ [D.lst (iL ([0] ++ [0]))] = sh ++ [D.lst (iL [2, 4, 1]), D.lst (iL [0]), D.lst [t1, tl 1 sh.length, t3, tl (-1) (sh.length + 1)], D.lst (iL [0, 0])] := by rw [List.append_assoc]; rfl
  rw [ea] at e11
  have g0 : (sh ++ [D.lst (iL [2, 4, 1]), D.lst (iL [0]), D.lst [t1, tl 1 sh.length, t3, tl (-1) (sh.length + 1)]])[sh.length + 2]? = some (.lst [t1, tl 1 sh.length, t3, tl (-1) (sh.length + 1)]) := get_app (i := 2)
  have g1 : (sh ++ [D.lst (iL [2, 4, 1]), D.lst (iL [0]), D.lst [t1, tl 1 sh.length, t3, tl (-1) (sh.length + 1)], D.lst (iL [0, 0])])[sh.length + 2]? = some (.lst [t1, tl 1 sh.length, t3, tl (-1) (sh.length + 1)]) := get_app (i := 2)
  have es : (sh ++ [D.lst (iL [2, 4, 1]), D.lst (iL [0]), D.lst [t1, tl 1 sh.length, t3, tl (-1) (sh.length + 1)], D.lst (iL [0, 0])]).set (sh.length + 2) (.lst [t1, tl 1 sh.length, t3, tl (-1) (sh.length + 1), tl 1 (sh.length + 3)]) = st6 sh := set_app (i := 2)
  have k11 : evE (cf fuel (n + 6)) (.call 11 (.cons (.tup (.cons (.cst (.int 0)) (.cons (.bin .Sub (.of (.cst (.int 0))) (.of (.cst (.int 1)))) (.cons (.cst (.int 1)) (.cons (.cst (.int 0)) (.nil)))))) (.nil)) []) ⟨[s0, .fr (.sh 1), s2, .fr (.sh (sh.length + 2)), .un], sh ++ [D.lst (iL [2, 4, 1]), D.lst (iL [0]), D.lst [t1, tl 1 sh.length, t3, tl (-1) (sh.length + 1)]]⟩ = .ok (.fr (tl 1 (sh.length + 3))) ⟨[s0, .fr (.sh 1), s2, .fr (.sh (sh.length + 2)), .un], sh ++ [D.lst (iL [2, 4, 1]), D.lst (iL [0]), D.lst [t1, tl 1 sh.length, t3, tl (-1) (sh.length + 1)], D.lst (iL [0, 0])]⟩ := callc (ds := [.tup [.int 0, .int (-1), .int 1, .int 0]]) (Es_cons (v := .fr (.tup [.int 0, .int (-1), .int 1, .int 0])) (tup_of (Es_cons cst_ev (Es_cons sub01 (Es_cons cst_ev (Es_cons cst_ev Es_nil)))) (by show 4 ≤ 90000; omega)) Es_nil) e11
  unfold l4
  rw [app_shl (k := sh.length + 2) (xs := [t1, tl 1 sh.length, t3, tl (-1) (sh.length + 1)]) rfl k11 (vw_get g0) g1 (by show 4 < 80000; omega), ← es]
  rfl
theorem l5_ok {C : Cf} {s0 s1 s2 s3 : Sl} {sh : List D} : exS C l5 ⟨[s0, s1, s2, s3, .un], sh⟩ = .nx ⟨[s0, s1, s2, s3, .ow due], sh⟩ := by
  generalize hs : (⟨[s0, s1, s2, s3, .un], sh⟩ : S) = s
  have t4 : ∀ a b c d : D, evE C (.tup (.cons (.cst a) (.cons (.cst b) (.cons (.cst c) (.cons (.cst d) (.nil)))))) s = .ok (.fr (.tup [a, b, c, d])) s := fun a b c d => tup_of (Es_cons cst_ev (Es_cons cst_ev (Es_cons cst_ev (Es_cons cst_ev Es_nil)))) (by show 4 ≤ 90000; omega)
  have t2 : ∀ {e1 e2 : E} {a b : Rv}, evE C e1 s = .ok a s → evE C e2 s = .ok b s → evE C (.tup (.cons e1 (.cons e2 .nil))) s = .ok (.fr (.tup [a.d, b.d])) s := fun h1 h2 => tup_of (Es_cons h1 (Es_cons h2 Es_nil)) (by show 2 ≤ 90000; omega)
  have l3 : evE C (.lst (.cons (.cst (.int 2)) (.cons (.cst (.int 4)) (.cons (.cst (.int 1)) (.nil))))) s = .ok (.ow (.lst [.int 2, .int 4, .int 1])) s := lst_of (Es_cons cst_ev (Es_cons cst_ev (Es_cons cst_ev Es_nil))) (by show 3 ≤ 90000; omega)
  have l1 : evE C (.lst (.cons (.cst (.int 0)) (.nil))) s = .ok (.ow (.lst [.int 0])) s := lst_of (Es_cons cst_ev Es_nil) (by show 1 ≤ 90000; omega)
  have l2 : evE C (.lst (.cons (.cst (.int 0)) (.cons (.cst (.int 0)) (.nil)))) s = .ok (.ow (.lst [.int 0, .int 0])) s := lst_of (Es_cons cst_ev (Es_cons cst_ev Es_nil)) (by show 2 ≤ 90000; omega)
  unfold K18.l5
  rw [asg_nm (lst_of (Es_cons (t4 _ _ _ _) (Es_cons (t2 cst_ev l3) (Es_cons (t4 _ _ _ _) (Es_cons (t2 sub01 l1) (Es_cons (t2 cst_ev l2) Es_nil))))) (by show 5 ≤ 90000; omega)), ← hs]
  rfl
theorem l6_ok {n : Nat} {s0 s2 : Sl} {sh : List D} (hf : 90000 ≤ fuel) : ∃ s, exS (cf fuel (n + 6)) l6 ⟨[s0, .fr (.sh 1), s2, .fr (.sh (sh.length + 2)), .ow due], st6 sh⟩ = .rt (.fr (.bl true)) s := by
  obtain ⟨z, e32⟩ := refused_ok (fuel := fuel) (n := n) (sh := st6 sh) hf
  have e : st6 sh ++ z = sh ++ ([D.lst (iL [2, 4, 1]), D.lst (iL [0]), D.lst [t1, tl 1 sh.length, t3, tl (-1) (sh.length + 1), tl 1 (sh.length + 3)], D.lst (iL [0, 0])] ++ z) := by
    unfold st6
    rw [List.append_assoc]
  have v0 : vw (st6 sh ++ z) (.sh sh.length) = .lst (iL [2, 4, 1]) := by rw [e]; exact vw_get (get_app (i := 0))
  have v1 : vw (st6 sh ++ z) (.sh (sh.length + 1)) = .lst (iL [0]) := by rw [e]; exact vw_get (get_app (i := 1))
  have v2 : vw (st6 sh ++ z) (.sh (sh.length + 2)) = .lst [t1, tl 1 sh.length, t3, tl (-1) (sh.length + 1), tl 1 (sh.length + 3)] := by rw [e]; exact vw_get (get_app (i := 2))
  have v3 : vw (st6 sh ++ z) (.sh (sh.length + 3)) = .lst (iL [0, 0]) := by rw [e]; exact vw_get (get_app (i := 3))
  have pr : ∀ {k : Nat} {l : List Int} {s : Int}, vw (st6 sh ++ z) (.sh k) = .lst (iL l) → l.length < 90000 → Sm (st6 sh ++ z) 2 (tl s k) (.tup [.int s, .lst (iL l)]) := fun hv hz => Sm_t2 (h := 1) (Sm_at rfl) (Sm_ints (.inl hv) hz)
  have sm : Sm (st6 sh ++ z) 3 (.sh (sh.length + 2)) due := by
    refine Sm_lst (.inl v2) (.inl rfl) (by show 5 < 90000; omega) ⟨rfl, fun i p q hp hq => ?_⟩
    match i with
    | 0 => simp at hp hq; subst hp hq; exact Sm_mD (m := ⟨7, 5, 4, 3⟩)
    | 1 => simp at hp hq; subst hp hq; exact pr v0 (by decide)
    | 2 => simp at hp hq; subst hp hq; exact Sm_mD (m := ⟨1, 5, 0, 1⟩)
    | 3 => simp at hp hq; subst hp hq; exact pr v1 (by decide)
    | 4 => simp at hp hq; subst hp hq; exact pr v3 (by decide)
    | i + 5 => simp at hp
  generalize st6 sh ++ z = sh2 at *
  generalize st6 sh = sh1 at *
  have hdue : ∃ xs, due = .lst xs := ⟨_, rfl⟩
  obtain ⟨xs, hx⟩ := hdue
  rw [hx] at sm ⊢
  have k32 : evE (cf fuel (n + 6)) (.call 32 (.cons (.var 1) (.nil)) []) ⟨[s0, .fr (.sh 1), s2, .fr (.sh (sh.length + 2)), .ow (.lst xs)], sh1⟩ = .ok (.fr (.bl true)) ⟨[s0, .fr (.sh 1), s2, .fr (.sh (sh.length + 2)), .ow (.lst xs)], sh2⟩ := callc (s1 := ⟨[s0, .fr (.sh 1), s2, .fr (.sh (sh.length + 2)), .ow (.lst xs)], sh1⟩) (ds := [.sh 1]) (Es_cons (v := .fr (.sh 1)) (v_fr rfl) Es_nil) e32
  have k24 : evE (cf fuel (n + 6)) (.call 24 (.cons (.var 3) (.cons (.var 4) (.nil))) []) ⟨[s0, .fr (.sh 1), s2, .fr (.sh (sh.length + 2)), .ow (.lst xs)], sh2⟩ = .ok (.fr (.bl true)) ⟨[s0, .fr (.sh 1), s2, .fr (.sh (sh.length + 2)), .fr (.lst xs)], sh2⟩ := callc (s1 := ⟨[s0, .fr (.sh 1), s2, .fr (.sh (sh.length + 2)), .fr (.lst xs)], sh2⟩) (ds := [.sh (sh.length + 2), .lst xs]) (Es_cons (v := .fr (.sh (sh.length + 2))) (v_fr rfl) (Es_cons (v := .fr (.lst xs)) (v_ow rfl) Es_nil)) (same24 (n := n + 6) hf sm (by omega))
  refine ⟨⟨[s0, .fr (.sh 1), s2, .fr (.sh (sh.length + 2)), .fr (.lst xs)], sh2⟩, ?_⟩
  unfold l6
  rw [ret_of (by rw [E_and_t k32, E_one]; exact k24)]
theorem law_ok {n : Nat} {ns : List Int} (hf : 90000 ≤ fuel) (hz : ns.length ≤ 63) : ∃ sh', callF P fuel (n + 7) 33 [.ro (ns.map .int)] [] = .ok (.fr (.bl true)) sh' := by
  obtain ⟨sh, e19, so, _⟩ := start_run (P := P) (fuel := fuel) (f := 19) (n := n + 5) (ns := ns) rfl (by omega)
  generalize ns.map D.int = l at e19
  have a1 : exS (cf fuel (n + 6)) l1 ⟨[.fr (.ro l), .un, .un, .un, .un], []⟩ = .nx ⟨[.fr (.ro l), .fr (.sh 1), .un, .un, .un], sh⟩ := asg_nm (callc (s1 := ⟨[.fr (.ro l), .un, .un, .un, .un], []⟩) (ds := [.ro l]) (Es_cons (v := .fr (.ro l)) (v_fr rfl) Es_nil) e19)
  obtain ⟨s2, sh1, af⟩ := lf_ok (fuel := fuel) (n := n) (s0 := .fr (.ro l)) hf so
  have a3 := l3_ok (fuel := fuel) (n := n) (s0 := .fr (.ro l)) (s2 := s2) (sh := sh1) hf
  have a4 := l4_ok (fuel := fuel) (n := n) (s0 := .fr (.ro l)) (s2 := s2) (sh := sh1) hf
  obtain ⟨s9, a6⟩ := l6_ok (fuel := fuel) (n := n) (s0 := .fr (.ro l)) (s2 := s2) (sh := sh1) hf
  refine ⟨s9.sh, ?_⟩
  rw [callP (fn := Pg.i_law) rfl rfl]
  show outFR (exSs (cf fuel (n + 6)) Pg.i_law.body ⟨[.fr (.ro l), .un, .un, .un, .un], []⟩) = _
  rw [b33, exSs_nx a1, exSs_nx af, exSs_nx a3, exSs_nx a4, exSs_nx l5_ok, exSs_rt a6]
  rfl
end
end K18
end
section
set_option Elab.async false
set_option linter.all false
set_option maxRecDepth 100000
set_option maxHeartbeats 8000000
namespace Q
open PySem PySem.Spec PyProof.Rows L2 Ev
def top (i : Nat) : Stmt := PySem.Challenge.pw_roundlengths_k18_whole_roads.main.body.getD i (.Pass ⟨0, 0, 0, 0⟩)
def fnl : List (Str × Nat × Nat) := [(("is_list" : Str), 0, 1), (("is_integer" : Str), 1, 1), (("are_integers" : Str), 2, 1), (("checked_matrix" : Str), 3, 1), (("times_of" : Str), 4, 2), (("product_of" : Str), 5, 1), (("is_road" : Str), 6, 1), (("checked_road" : Str), 7, 1), (("worth_of" : Str), 8, 1), (("worth" : Str), 9, 1), (("reduced_to" : Str), 10, 1), (("road_of" : Str), 11, 1), (("_law_r_times" : Str), 12, 2), (("_law_r_product" : Str), 13, 1), (("_law_r_worth" : Str), 14, 1), (("_law_c_reduced" : Str), 16, 1), (("_law_c_road" : Str), 17, 3), (("_law_c_odd_roads" : Str), 18, 0), (("_law_start" : Str), 19, 1), (("_law_draw" : Str), 20, 2), (("_law_pick" : Str), 21, 2), (("_law_mixed" : Str), 22, 2), (("_law_copied" : Str), 23, 1), (("_law_same" : Str), 24, 2), (("_law_loose" : Str), 25, 2), (("_law_spoilt" : Str), 26, 1), (("_law_is_once" : Str), 27, 1), (("_law_apart" : Str), 28, 1), (("_law_road_right" : Str), 29, 2), (("_law_matrix" : Str), 30, 1), (("_law_matrix_right" : Str), 31, 2), (("_law_refused_right" : Str), 32, 1), (("law" : Str), 33, 1)]
def cll : List (Str × Nat) := [(("BadCorners" : Str), 1), (("BadCounts" : Str), 2), (("BadDiagonals" : Str), 3), (("BadMatrix" : Str), 4), (("BadNumbers" : Str), 5), (("BadOther" : Str), 6), (("BadRoad" : Str), 7), (("BadStep" : Str), 8)]
def gl : List Str := [("len" : Str), ("list" : Str), ("tuple" : Str), ("int" : Str), ("sorted" : Str), ("sum" : Str), ("all" : Str), ("any" : Str), ("min" : Str), ("max" : Str), ("abs" : Str), ("dict" : Str), ("range" : Str), ("zip" : Str), ("enumerate" : Str), ("isinstance" : Str), ("str" : Str), ("bool" : Str)]
def ml : List (Str × Nat) := [(("_law_c_met" : Str), 15)]
def kwl : List (Str × List Str × List Nat) := [(("road_of" : Str), [("matrix" : Str)], [0]), (("worth" : Str), [("road" : Str)], [0])]
def tb : Tb := ⟨Pg.prg, 100000, fnl, cll, gl, ml, kwl⟩
def fn_0 : List He.DefD := [⟨(("is_list" : Str), none), "is_list", "is_list", defArgs (top 11), defBody (top 11), defScope (top 11), [], []⟩,
  ⟨(("is_integer" : Str), none), "is_integer", "is_integer", defArgs (top 12), defBody (top 12), defScope (top 12), [], []⟩,
  ⟨(("are_integers" : Str), none), "are_integers", "are_integers", defArgs (top 14), defBody (top 14), defScope (top 14), [], []⟩,
  ⟨(("checked_matrix" : Str), none), "checked_matrix", "checked_matrix", defArgs (top 16), defBody (top 16), defScope (top 16), [], []⟩,
  ⟨(("times_of" : Str), none), "times_of", "times_of", defArgs (top 17), defBody (top 17), defScope (top 17), [], []⟩,
  ⟨(("product_of" : Str), none), "product_of", "product_of", defArgs (top 18), defBody (top 18), defScope (top 18), [], []⟩,
  ⟨(("is_road" : Str), none), "is_road", "is_road", defArgs (top 20), defBody (top 20), defScope (top 20), [], []⟩,
  ⟨(("checked_road" : Str), none), "checked_road", "checked_road", defArgs (top 21), defBody (top 21), defScope (top 21), [], []⟩,
  ⟨(("worth_of" : Str), none), "worth_of", "worth_of", defArgs (top 22), defBody (top 22), defScope (top 22), [], []⟩,
  ⟨(("worth" : Str), none), "worth", "worth", defArgs (top 23), defBody (top 23), defScope (top 23), [], []⟩,
  ⟨(("reduced_to" : Str), none), "reduced_to", "reduced_to", defArgs (top 24), defBody (top 24), defScope (top 24), [], []⟩,
  ⟨(("road_of" : Str), none), "road_of", "road_of", defArgs (top 25), defBody (top 25), defScope (top 25), [], []⟩,
  ⟨(("_law_r_times" : Str), none), "_law_r_times", "_law_r_times", defArgs (top 27), defBody (top 27), defScope (top 27), [], []⟩,
  ⟨(("_law_r_product" : Str), none), "_law_r_product", "_law_r_product", defArgs (top 28), defBody (top 28), defScope (top 28), [], []⟩,
  ⟨(("_law_r_worth" : Str), none), "_law_r_worth", "_law_r_worth", defArgs (top 29), defBody (top 29), defScope (top 29), [], []⟩,
  ⟨(("_law_c_met" : Str), none), "_law_c_met", "_law_c_met", defArgs (top 30), defBody (top 30), defScope (top 30), [], []⟩,
  ⟨(("_law_c_reduced" : Str), none), "_law_c_reduced", "_law_c_reduced", defArgs (top 31), defBody (top 31), defScope (top 31), [], []⟩,
  ⟨(("_law_c_road" : Str), none), "_law_c_road", "_law_c_road", defArgs (top 32), defBody (top 32), defScope (top 32), [], []⟩,
  ⟨(("_law_c_odd_roads" : Str), none), "_law_c_odd_roads", "_law_c_odd_roads", defArgs (top 33), defBody (top 33), defScope (top 33), [], []⟩,
  ⟨(("_law_start" : Str), none), "_law_start", "_law_start", defArgs (top 34), defBody (top 34), defScope (top 34), [], []⟩,
  ⟨(("_law_draw" : Str), none), "_law_draw", "_law_draw", defArgs (top 35), defBody (top 35), defScope (top 35), [], []⟩,
  ⟨(("_law_pick" : Str), none), "_law_pick", "_law_pick", defArgs (top 36), defBody (top 36), defScope (top 36), [], []⟩,
  ⟨(("_law_mixed" : Str), none), "_law_mixed", "_law_mixed", defArgs (top 37), defBody (top 37), defScope (top 37), [], []⟩,
  ⟨(("_law_copied" : Str), none), "_law_copied", "_law_copied", defArgs (top 38), defBody (top 38), defScope (top 38), [], []⟩,
  ⟨(("_law_same" : Str), none), "_law_same", "_law_same", defArgs (top 39), defBody (top 39), defScope (top 39), [], []⟩,
  ⟨(("_law_loose" : Str), none), "_law_loose", "_law_loose", defArgs (top 40), defBody (top 40), defScope (top 40), [], []⟩,
  ⟨(("_law_spoilt" : Str), none), "_law_spoilt", "_law_spoilt", defArgs (top 41), defBody (top 41), defScope (top 41), [], []⟩,
  ⟨(("_law_is_once" : Str), none), "_law_is_once", "_law_is_once", defArgs (top 42), defBody (top 42), defScope (top 42), [], []⟩,
  ⟨(("_law_apart" : Str), none), "_law_apart", "_law_apart", defArgs (top 43), defBody (top 43), defScope (top 43), [], []⟩,
  ⟨(("_law_road_right" : Str), none), "_law_road_right", "_law_road_right", defArgs (top 44), defBody (top 44), defScope (top 44), [], []⟩]
def fn_1 : List He.DefD := [⟨(("_law_matrix" : Str), none), "_law_matrix", "_law_matrix", defArgs (top 45), defBody (top 45), defScope (top 45), [], []⟩,
  ⟨(("_law_matrix_right" : Str), none), "_law_matrix_right", "_law_matrix_right", defArgs (top 46), defBody (top 46), defScope (top 46), [], []⟩,
  ⟨(("_law_refused_right" : Str), none), "_law_refused_right", "_law_refused_right", defArgs (top 47), defBody (top 47), defScope (top 47), [], []⟩,
  ⟨(("law" : Str), none), "law", "law", defArgs (top 48), defBody (top 48), defScope (top 48), [], []⟩,
  ⟨(("BadCorners" : Str), some "__init__"), "__init__", "BadCorners.__init__", defArgs (inClass (top 2) 0), defBody (inClass (top 2) 0), defScope (inClass (top 2) 0), [], []⟩,
  ⟨(("BadCounts" : Str), some "__init__"), "__init__", "BadCounts.__init__", defArgs (inClass (top 3) 0), defBody (inClass (top 3) 0), defScope (inClass (top 3) 0), [], []⟩,
  ⟨(("BadDiagonals" : Str), some "__init__"), "__init__", "BadDiagonals.__init__", defArgs (inClass (top 4) 0), defBody (inClass (top 4) 0), defScope (inClass (top 4) 0), [], []⟩,
  ⟨(("BadMatrix" : Str), some "__init__"), "__init__", "BadMatrix.__init__", defArgs (inClass (top 5) 0), defBody (inClass (top 5) 0), defScope (inClass (top 5) 0), [], []⟩,
  ⟨(("BadNumbers" : Str), some "__init__"), "__init__", "BadNumbers.__init__", defArgs (inClass (top 6) 0), defBody (inClass (top 6) 0), defScope (inClass (top 6) 0), [], []⟩,
  ⟨(("BadOther" : Str), some "__init__"), "__init__", "BadOther.__init__", defArgs (inClass (top 7) 0), defBody (inClass (top 7) 0), defScope (inClass (top 7) 0), [], []⟩,
  ⟨(("BadRoad" : Str), some "__init__"), "__init__", "BadRoad.__init__", defArgs (inClass (top 8) 0), defBody (inClass (top 8) 0), defScope (inClass (top 8) 0), [], []⟩,
  ⟨(("BadStep" : Str), some "__init__"), "__init__", "BadStep.__init__", defArgs (inClass (top 9) 0), defBody (inClass (top 9) 0), defScope (inClass (top 9) 0), [], []⟩]
def fn : List He.DefD := fn_0 ++ fn_1
def fa_0 : List He.Fa := [.glo "is_list",
  .glo "is_integer",
  .glo "are_integers",
  .glo "checked_matrix",
  .glo "times_of",
  .glo "product_of",
  .glo "is_road",
  .glo "checked_road",
  .glo "worth_of",
  .glo "worth",
  .glo "reduced_to",
  .glo "road_of",
  .glo "_law_r_times",
  .glo "_law_r_product",
  .glo "_law_r_worth",
  .glo "_law_c_met",
  .glo "_law_c_reduced",
  .glo "_law_c_road",
  .glo "_law_c_odd_roads",
  .glo "_law_start",
  .glo "_law_draw",
  .glo "_law_pick",
  .glo "_law_mixed",
  .glo "_law_copied",
  .glo "_law_same",
  .glo "_law_loose",
  .glo "_law_spoilt",
  .glo "_law_is_once",
  .glo "_law_apart",
  .glo "_law_road_right"]
def fa_1 : List He.Fa := [.glo "_law_matrix",
  .glo "_law_matrix_right",
  .glo "_law_refused_right",
  .glo "law",
  .glo "RoundError",
  .glo "BadCorners",
  .glo "BadCounts",
  .glo "BadDiagonals",
  .glo "BadMatrix",
  .glo "BadNumbers",
  .glo "BadOther",
  .glo "BadRoad",
  .glo "BadStep",
  .free "len",
  .free "list",
  .free "tuple",
  .free "int",
  .free "sorted",
  .free "sum",
  .free "all",
  .free "any",
  .free "min",
  .free "max",
  .free "abs",
  .free "dict",
  .free "range",
  .free "zip",
  .free "enumerate",
  .free "isinstance",
  .free "str"]
def fa_2 : List He.Fa := [.free "bool"]
def fa : List He.Fa := fa_0 ++ fa_1 ++ fa_2
def nm_0 : List PySem.Str := ["RoundError", "BadCorners", "BadCounts", "BadDiagonals", "BadMatrix", "BadNumbers", "BadOther", "BadRoad", "BadStep", "is_list", "is_integer", "are_integers", "checked_matrix", "times_of", "product_of", "is_road", "checked_road", "worth_of", "worth", "reduced_to", "road_of", "_law_r_times", "_law_r_product", "_law_r_worth", "_law_c_met", "_law_c_reduced", "_law_c_road", "_law_c_odd_roads", "_law_start", "_law_draw"]
def nm_1 : List PySem.Str := ["_law_pick", "_law_mixed", "_law_copied", "_law_same", "_law_loose", "_law_spoilt", "_law_is_once", "_law_apart", "_law_road_right", "_law_matrix", "_law_matrix_right", "_law_refused_right"]
def names : List PySem.Str := nm_0 ++ nm_1
def Sp : Hf.Hs := ⟨fn, fa, [("is_list" : Str), ("is_integer" : Str), ("are_integers" : Str), ("checked_matrix" : Str), ("times_of" : Str), ("product_of" : Str), ("is_road" : Str), ("checked_road" : Str), ("worth_of" : Str), ("worth" : Str), ("reduced_to" : Str), ("road_of" : Str), ("_law_r_times" : Str), ("_law_r_product" : Str), ("_law_r_worth" : Str), ("_law_c_reduced" : Str), ("_law_c_road" : Str), ("_law_c_odd_roads" : Str), ("_law_start" : Str), ("_law_draw" : Str), ("_law_pick" : Str), ("_law_mixed" : Str), ("_law_copied" : Str), ("_law_same" : Str), ("_law_loose" : Str), ("_law_spoilt" : Str), ("_law_is_once" : Str), ("_law_apart" : Str), ("_law_road_right" : Str), ("_law_matrix" : Str), ("_law_matrix_right" : Str), ("_law_refused_right" : Str), ("law" : Str), ("_law_c_met" : Str)], [("BadCorners" : Str), ("BadCounts" : Str), ("BadDiagonals" : Str), ("BadMatrix" : Str), ("BadNumbers" : Str), ("BadOther" : Str), ("BadRoad" : Str), ("BadStep" : Str)], [("RoundError" : Str), ("BadCorners" : Str), ("BadCounts" : Str), ("BadDiagonals" : Str), ("BadMatrix" : Str), ("BadNumbers" : Str), ("BadOther" : Str), ("BadRoad" : Str), ("BadStep" : Str)], [1, 2, 3, 4, 5, 6, 7, 8], [("_law_refused_right" : Str)]⟩
def fnm : List Str := [("is_list" : Str), ("is_integer" : Str), ("are_integers" : Str), ("checked_matrix" : Str), ("times_of" : Str), ("product_of" : Str), ("is_road" : Str), ("checked_road" : Str), ("worth_of" : Str), ("worth" : Str), ("reduced_to" : Str), ("road_of" : Str), ("_law_r_times" : Str), ("_law_r_product" : Str), ("_law_r_worth" : Str), ("_law_c_met" : Str), ("_law_c_reduced" : Str), ("_law_c_road" : Str), ("_law_c_odd_roads" : Str), ("_law_start" : Str), ("_law_draw" : Str), ("_law_pick" : Str), ("_law_mixed" : Str), ("_law_copied" : Str), ("_law_same" : Str), ("_law_loose" : Str), ("_law_spoilt" : Str), ("_law_is_once" : Str), ("_law_apart" : Str), ("_law_road_right" : Str), ("_law_matrix" : Str), ("_law_matrix_right" : Str), ("_law_refused_right" : Str), ("law" : Str)]
def g0 (K : PySem.W.Frag) : Ev.Gl := ⟨K, fun i => He.ga K (fnm.getD i ("" : Str)), Hf.caOf K Sp.all, fun _ => [], Hf.tabsOf K Sp⟩
abbrev Ro : PySem.W.OpenRow := PySem.W.OpenLaw.row PySem.Challenge.rw_roundlengths_k18_whole_roads
abbrev hk : PySem.W.Hook := Hf.hook 5 Sp
def ob (s : PySem.W.SharedT) : Hf.Al := Hf.obsG 5 Sp (HandSHeadRun.getT s)
theorem ob_eq (s : PySem.W.SharedT) : ob s = hk.obs s.abs := Hf.obsG_eq (HandSHeadRun.getT_eq s)
set_option maxHeartbeats 0 in
theorem run (w : World) : HandSHeadRun.RunEq Ro (PySem.W.view Ro.prog [48]) hk ob 4000 names w := by
  intro os
  kernel_rfl
def N_is_list : List Str := [("thing" : Str)]
theorem ck_is_list : ckSs (tb.ck N_is_list (defScope (top 11)) false) Pg.i_is_list.body (defBody (top 11)) = true := by kernel_rfl
def N_is_integer : List Str := [("thing" : Str)]
theorem ck_is_integer : ckSs (tb.ck N_is_integer (defScope (top 12)) false) Pg.i_is_integer.body (defBody (top 12)) = true := by kernel_rfl
def N_are_integers : List Str := [("thing" : Str), ("one" : Str)]
theorem ck_are_integers : ckSs (tb.ck N_are_integers (defScope (top 14)) false) Pg.i_are_integers.body (defBody (top 14)) = true := by kernel_rfl
def N_checked_matrix : List Str := [("thing" : Str)]
theorem ck_checked_matrix : ckSs (tb.ck N_checked_matrix (defScope (top 16)) false) Pg.i_checked_matrix.body (defBody (top 16)) = true := by kernel_rfl
def N_times_of : List Str := [("one" : Str), ("other" : Str), ("first" : Str), ("second" : Str), ("third" : Str), ("fourth" : Str), ("mine" : Str), ("more" : Str), ("less" : Str), ("last" : Str), ("upper" : Str)]
theorem ck_times_of : ckSs (tb.ck N_times_of (defScope (top 17)) false) Pg.i_times_of.body (defBody (top 17)) = true := by kernel_rfl
def N_product_of : List Str := [("numbers" : Str), ("found" : Str), ("number" : Str)]
theorem ck_product_of : ckSs (tb.ck N_product_of (defScope (top 18)) false) Pg.i_product_of.body (defBody (top 18)) = true := by kernel_rfl
def N_is_road : List Str := [("thing" : Str)]
theorem ck_is_road : ckSs (tb.ck N_is_road (defScope (top 20)) false) Pg.i_is_road.body (defBody (top 20)) = true := by kernel_rfl
def N_checked_road : List Str := [("road" : Str)]
theorem ck_checked_road : ckSs (tb.ck N_checked_road (defScope (top 21)) false) Pg.i_checked_road.body (defBody (top 21)) = true := by kernel_rfl
def N_worth_of : List Str := [("road" : Str)]
theorem ck_worth_of : ckSs (tb.ck N_worth_of (defScope (top 22)) false) Pg.i_worth_of.body (defBody (top 22)) = true := by kernel_rfl
def N_worth : List Str := [("road" : Str)]
theorem ck_worth : ckSs (tb.ck N_worth (defScope (top 23)) false) Pg.i_worth.body (defBody (top 23)) = true := by kernel_rfl
def N_reduced_to : List Str := [("matrix" : Str), ("found" : Str), ("here" : Str), ("number" : Str)]
theorem ck_reduced_to : ckSs (tb.ck N_reduced_to (defScope (top 24)) false) Pg.i_reduced_to.body (defBody (top 24)) = true := by kernel_rfl
def N_road_of : List Str := [("matrix" : Str), ("known" : Str), ("road" : Str)]
theorem ck_road_of : ckSs (tb.ck N_road_of (defScope (top 25)) false) Pg.i_road_of.body (defBody (top 25)) = true := by kernel_rfl
def N__law_r_times : List Str := [("one" : Str), ("other" : Str), ("found" : Str), ("row" : Str), ("at" : Str)]
theorem ck__law_r_times : ckSs (tb.ck N__law_r_times (defScope (top 27)) false) Pg.i__law_r_times.body (defBody (top 27)) = true := by kernel_rfl
def N__law_r_product : List Str := [("numbers" : Str), ("found" : Str), ("number" : Str)]
theorem ck__law_r_product : ckSs (tb.ck N__law_r_product (defScope (top 28)) false) Pg.i__law_r_product.body (defBody (top 28)) = true := by kernel_rfl
def N__law_r_worth : List Str := [("road" : Str)]
theorem ck__law_r_worth : ckSs (tb.ck N__law_r_worth (defScope (top 29)) false) Pg.i__law_r_worth.body (defBody (top 29)) = true := by kernel_rfl
def N__law_c_reduced : List Str := [("matrix" : Str), ("found" : Str), ("here" : Str), ("number" : Str)]
theorem ck__law_c_reduced : ckSs (tb.ck N__law_c_reduced (defScope (top 31)) false) Pg.i__law_c_reduced.body (defBody (top 31)) = true := by kernel_rfl
def N__law_c_road : List Str := [("stream" : Str), ("size" : Str), ("top" : Str), ("many" : Str), ("k" : Str)]
theorem ck__law_c_road : ckSs (tb.ck N__law_c_road (defScope (top 32)) false) Pg.i__law_c_road.body (defBody (top 32)) = true := by kernel_rfl
def N__law_c_odd_roads : List Str := []
theorem ck__law_c_odd_roads : ckSs (tb.ck N__law_c_odd_roads (defScope (top 33)) false) Pg.i__law_c_odd_roads.body (defBody (top 33)) = true := by kernel_rfl
def N__law_start : List Str := [("script" : Str)]
theorem ck__law_start : ckSs (tb.ck N__law_start (defScope (top 34)) false) Pg.i__law_start.body (defBody (top 34)) = true := by kernel_rfl
def N__law_draw : List Str := [("stream" : Str), ("many" : Str), ("cell" : Str), ("digit" : Str), ("mixed" : Str)]
theorem ck__law_draw : ckSs (tb.ck N__law_draw (defScope (top 35)) false) Pg.i__law_draw.body (defBody (top 35)) = true := by kernel_rfl
def N__law_pick : List Str := [("stream" : Str), ("some" : Str)]
theorem ck__law_pick : ckSs (tb.ck N__law_pick (defScope (top 36)) false) Pg.i__law_pick.body (defBody (top 36)) = true := by kernel_rfl
def N__law_mixed : List Str := [("stream" : Str), ("some" : Str), ("left" : Str), ("k" : Str)]
theorem ck__law_mixed : ckSs (tb.ck N__law_mixed (defScope (top 37)) false) Pg.i__law_mixed.body (defBody (top 37)) = true := by kernel_rfl
def N__law_copied : List Str := [("thing" : Str), ("found" : Str), ("key" : Str), ("part" : Str)]
theorem ck__law_copied : ckSs (tb.ck N__law_copied (defScope (top 38)) false) Pg.i__law_copied.body (defBody (top 38)) = true := by kernel_rfl
def N__law_same : List Str := [("found" : Str), ("due" : Str), ("x" : Str), ("y" : Str)]
theorem ck__law_same : ckSs (tb.ck N__law_same (defScope (top 39)) false) Pg.i__law_same.body (defBody (top 39)) = true := by kernel_rfl
def N__law_loose : List Str := [("stream" : Str), ("thing" : Str), ("found" : Str), ("key" : Str), ("part" : Str)]
theorem ck__law_loose : ckSs (tb.ck N__law_loose (defScope (top 40)) false) Pg.i__law_loose.body (defBody (top 40)) = true := by kernel_rfl
def N__law_spoilt : List Str := [("thing" : Str), ("key" : Str), ("part" : Str)]
theorem ck__law_spoilt : ckSs (tb.ck N__law_spoilt (defScope (top 41)) false) Pg.i__law_spoilt.body (defBody (top 41)) = true := by kernel_rfl
def N__law_is_once : List Str := [("thing" : Str), ("many" : Str), ("key" : Str), ("part" : Str)]
theorem ck__law_is_once : ckSs (tb.ck N__law_is_once (defScope (top 42)) false) Pg.i__law_is_once.body (defBody (top 42)) = true := by kernel_rfl
def N__law_apart : List Str := [("thing" : Str)]
theorem ck__law_apart : ckSs (tb.ck N__law_apart (defScope (top 43)) false) Pg.i__law_apart.body (defBody (top 43)) = true := by kernel_rfl
def N__law_road_right : List Str := [("stream" : Str), ("road" : Str), ("due" : Str), ("passed" : Str), ("was" : Str), ("found" : Str), ("sign" : Str), ("matrix" : Str), ("own" : Str), ("given" : Str), ("mine" : Str), ("before" : Str), ("number" : Str)]
theorem ck__law_road_right : ckSs (tb.ck N__law_road_right (defScope (top 44)) false) Pg.i__law_road_right.body (defBody (top 44)) = true := by kernel_rfl
def N__law_matrix : List Str := [("stream" : Str), ("here" : Str), ("k" : Str), ("by" : Str)]
theorem ck__law_matrix : ckSs (tb.ck N__law_matrix (defScope (top 45)) false) Pg.i__law_matrix.body (defBody (top 45)) = true := by kernel_rfl
def N__law_matrix_right : List Str := [("stream" : Str), ("matrix" : Str), ("sign" : Str), ("road" : Str), ("number" : Str)]
theorem ck__law_matrix_right : ckSs (tb.ck N__law_matrix_right (defScope (top 46)) false) Pg.i__law_matrix_right.body (defBody (top 46)) = true := by kernel_rfl
def N__law_refused_right : List Str := [("stream" : Str), ("odd" : Str), ("odds" : Str), ("held" : Str), ("other" : Str), ("found" : Str)]
theorem ck__law_refused_right : ckSs (tb.ck N__law_refused_right (defScope (top 47)) true) Pg.i__law_refused_right.body (defBody (top 47)) = true := by kernel_rfl
def N_law : List Str := [("script" : Str), ("stream" : Str), ("turn" : Str), ("found" : Str), ("due" : Str)]
theorem ck_law : ckSs (tb.ck N_law (defScope (top 48)) false) Pg.i_law.body (defBody (top 48)) = true := by kernel_rfl
section
variable {K : PySem.W.Frag} {h h0 : Heap} {mg : Str → Option Value} {base : Heap} (c : Hf.Says Sp K h0) (X : K.In h) (G : h.Ns mainGlobals mg)
include c X G
omit c X G in
theorem kw_is_list : ∀ e ∈ kwl, e.1 = ("is_list" : Str) → e.2.2.length = 1 → ∀ (kV doc pm : Value) (an : Option Addr) (cdv ct : Value) (us : List Value), us.length = e.2.1.length → bindArgs (PySem.W.fnOf "is_list" "is_list" (defArgs (top 11)) (defBody (top 11)) (defScope (top 11)) .none kV doc pm an cdv ct) ⟨[], e.2.1.zip us⟩ = pure ([("thing" : Str)].zip (pmU e.2.2 us)) :=
  List.forall_mem_cons.mpr ⟨fun z => absurd z (by decide), List.forall_mem_cons.mpr ⟨fun z => absurd z (by decide), List.forall_mem_nil _⟩⟩
theorem dp_is_list (hC : ∀ p ∈ Hf.csOf K Sp, LamX.TabB base mg p.1 p.2) : DefP tb K mg base (g0 K) "is_list" 0 1 N_is_list [("thing" : Str)] (defArgs (top 11)) (defBody (top 11)) (defScope (top 11)) false :=
  c.defP (d := ⟨(("is_list" : Str), none), "is_list", "is_list", defArgs (top 11), defBody (top 11), defScope (top 11), [], []⟩) X G 0 0 rfl rfl rfl rfl rfl rfl rfl (List.mem_of_getElem? (i := 0) rfl) rfl rfl hC ⟨Pg.i_is_list, rfl, rfl, rfl, ck_is_list⟩ rfl ⟨rfl, rfl, rfl, by decide +kernel, rfl, by decide +kernel, by decide +kernel⟩
    (fun _ _ _ _ _ _ us hl => match us, hl with | [_], _ => rfl) (fun ks pl hm hpl => kw_is_list (_, ks, pl) hm rfl hpl) (fun z => by cases z)
omit c X G in
theorem kw_is_integer : ∀ e ∈ kwl, e.1 = ("is_integer" : Str) → e.2.2.length = 1 → ∀ (kV doc pm : Value) (an : Option Addr) (cdv ct : Value) (us : List Value), us.length = e.2.1.length → bindArgs (PySem.W.fnOf "is_integer" "is_integer" (defArgs (top 12)) (defBody (top 12)) (defScope (top 12)) .none kV doc pm an cdv ct) ⟨[], e.2.1.zip us⟩ = pure ([("thing" : Str)].zip (pmU e.2.2 us)) :=
  List.forall_mem_cons.mpr ⟨fun z => absurd z (by decide), List.forall_mem_cons.mpr ⟨fun z => absurd z (by decide), List.forall_mem_nil _⟩⟩
theorem dp_is_integer (hC : ∀ p ∈ Hf.csOf K Sp, LamX.TabB base mg p.1 p.2) : DefP tb K mg base (g0 K) "is_integer" 1 1 N_is_integer [("thing" : Str)] (defArgs (top 12)) (defBody (top 12)) (defScope (top 12)) false :=
  c.defP (d := ⟨(("is_integer" : Str), none), "is_integer", "is_integer", defArgs (top 12), defBody (top 12), defScope (top 12), [], []⟩) X G 1 1 rfl rfl rfl rfl rfl rfl rfl (List.mem_of_getElem? (i := 1) rfl) rfl rfl hC ⟨Pg.i_is_integer, rfl, rfl, rfl, ck_is_integer⟩ rfl ⟨rfl, rfl, rfl, by decide +kernel, rfl, by decide +kernel, by decide +kernel⟩
    (fun _ _ _ _ _ _ us hl => match us, hl with | [_], _ => rfl) (fun ks pl hm hpl => kw_is_integer (_, ks, pl) hm rfl hpl) (fun z => by cases z)
omit c X G in
theorem kw_are_integers : ∀ e ∈ kwl, e.1 = ("are_integers" : Str) → e.2.2.length = 1 → ∀ (kV doc pm : Value) (an : Option Addr) (cdv ct : Value) (us : List Value), us.length = e.2.1.length → bindArgs (PySem.W.fnOf "are_integers" "are_integers" (defArgs (top 14)) (defBody (top 14)) (defScope (top 14)) .none kV doc pm an cdv ct) ⟨[], e.2.1.zip us⟩ = pure ([("thing" : Str)].zip (pmU e.2.2 us)) :=
  List.forall_mem_cons.mpr ⟨fun z => absurd z (by decide), List.forall_mem_cons.mpr ⟨fun z => absurd z (by decide), List.forall_mem_nil _⟩⟩
theorem dp_are_integers (hC : ∀ p ∈ Hf.csOf K Sp, LamX.TabB base mg p.1 p.2) : DefP tb K mg base (g0 K) "are_integers" 2 1 N_are_integers [("thing" : Str)] (defArgs (top 14)) (defBody (top 14)) (defScope (top 14)) false :=
  c.defP (d := ⟨(("are_integers" : Str), none), "are_integers", "are_integers", defArgs (top 14), defBody (top 14), defScope (top 14), [], []⟩) X G 2 2 rfl rfl rfl rfl rfl rfl rfl (List.mem_of_getElem? (i := 2) rfl) rfl rfl hC ⟨Pg.i_are_integers, rfl, rfl, rfl, ck_are_integers⟩ rfl ⟨rfl, rfl, rfl, by decide +kernel, rfl, by decide +kernel, by decide +kernel⟩
    (fun _ _ _ _ _ _ us hl => match us, hl with | [_], _ => rfl) (fun ks pl hm hpl => kw_are_integers (_, ks, pl) hm rfl hpl) (fun z => by cases z)
omit c X G in
theorem kw_checked_matrix : ∀ e ∈ kwl, e.1 = ("checked_matrix" : Str) → e.2.2.length = 1 → ∀ (kV doc pm : Value) (an : Option Addr) (cdv ct : Value) (us : List Value), us.length = e.2.1.length → bindArgs (PySem.W.fnOf "checked_matrix" "checked_matrix" (defArgs (top 16)) (defBody (top 16)) (defScope (top 16)) .none kV doc pm an cdv ct) ⟨[], e.2.1.zip us⟩ = pure ([("thing" : Str)].zip (pmU e.2.2 us)) :=
  List.forall_mem_cons.mpr ⟨fun z => absurd z (by decide), List.forall_mem_cons.mpr ⟨fun z => absurd z (by decide), List.forall_mem_nil _⟩⟩
theorem dp_checked_matrix (hC : ∀ p ∈ Hf.csOf K Sp, LamX.TabB base mg p.1 p.2) : DefP tb K mg base (g0 K) "checked_matrix" 3 1 N_checked_matrix [("thing" : Str)] (defArgs (top 16)) (defBody (top 16)) (defScope (top 16)) false :=
  c.defP (d := ⟨(("checked_matrix" : Str), none), "checked_matrix", "checked_matrix", defArgs (top 16), defBody (top 16), defScope (top 16), [], []⟩) X G 3 3 rfl rfl rfl rfl rfl rfl rfl (List.mem_of_getElem? (i := 3) rfl) rfl rfl hC ⟨Pg.i_checked_matrix, rfl, rfl, rfl, ck_checked_matrix⟩ rfl ⟨rfl, rfl, rfl, by decide +kernel, rfl, by decide +kernel, by decide +kernel⟩
    (fun _ _ _ _ _ _ us hl => match us, hl with | [_], _ => rfl) (fun ks pl hm hpl => kw_checked_matrix (_, ks, pl) hm rfl hpl) (fun z => by cases z)
omit c X G in
theorem kw_times_of : ∀ e ∈ kwl, e.1 = ("times_of" : Str) → e.2.2.length = 2 → ∀ (kV doc pm : Value) (an : Option Addr) (cdv ct : Value) (us : List Value), us.length = e.2.1.length → bindArgs (PySem.W.fnOf "times_of" "times_of" (defArgs (top 17)) (defBody (top 17)) (defScope (top 17)) .none kV doc pm an cdv ct) ⟨[], e.2.1.zip us⟩ = pure ([("one" : Str), ("other" : Str)].zip (pmU e.2.2 us)) :=
  List.forall_mem_cons.mpr ⟨fun z => absurd z (by decide), List.forall_mem_cons.mpr ⟨fun z => absurd z (by decide), List.forall_mem_nil _⟩⟩
theorem dp_times_of (hC : ∀ p ∈ Hf.csOf K Sp, LamX.TabB base mg p.1 p.2) : DefP tb K mg base (g0 K) "times_of" 4 2 N_times_of [("one" : Str), ("other" : Str)] (defArgs (top 17)) (defBody (top 17)) (defScope (top 17)) false :=
  c.defP (d := ⟨(("times_of" : Str), none), "times_of", "times_of", defArgs (top 17), defBody (top 17), defScope (top 17), [], []⟩) X G 4 4 rfl rfl rfl rfl rfl rfl rfl (List.mem_of_getElem? (i := 4) rfl) rfl rfl hC ⟨Pg.i_times_of, rfl, rfl, rfl, ck_times_of⟩ rfl ⟨rfl, rfl, rfl, by decide +kernel, rfl, by decide +kernel, by decide +kernel⟩
    (fun _ _ _ _ _ _ us hl => match us, hl with | [_, _], _ => rfl) (fun ks pl hm hpl => kw_times_of (_, ks, pl) hm rfl hpl) (fun z => by cases z)
omit c X G in
theorem kw_product_of : ∀ e ∈ kwl, e.1 = ("product_of" : Str) → e.2.2.length = 1 → ∀ (kV doc pm : Value) (an : Option Addr) (cdv ct : Value) (us : List Value), us.length = e.2.1.length → bindArgs (PySem.W.fnOf "product_of" "product_of" (defArgs (top 18)) (defBody (top 18)) (defScope (top 18)) .none kV doc pm an cdv ct) ⟨[], e.2.1.zip us⟩ = pure ([("numbers" : Str)].zip (pmU e.2.2 us)) :=
  List.forall_mem_cons.mpr ⟨fun z => absurd z (by decide), List.forall_mem_cons.mpr ⟨fun z => absurd z (by decide), List.forall_mem_nil _⟩⟩
theorem dp_product_of (hC : ∀ p ∈ Hf.csOf K Sp, LamX.TabB base mg p.1 p.2) : DefP tb K mg base (g0 K) "product_of" 5 1 N_product_of [("numbers" : Str)] (defArgs (top 18)) (defBody (top 18)) (defScope (top 18)) false :=
  c.defP (d := ⟨(("product_of" : Str), none), "product_of", "product_of", defArgs (top 18), defBody (top 18), defScope (top 18), [], []⟩) X G 5 5 rfl rfl rfl rfl rfl rfl rfl (List.mem_of_getElem? (i := 5) rfl) rfl rfl hC ⟨Pg.i_product_of, rfl, rfl, rfl, ck_product_of⟩ rfl ⟨rfl, rfl, rfl, by decide +kernel, rfl, by decide +kernel, by decide +kernel⟩
    (fun _ _ _ _ _ _ us hl => match us, hl with | [_], _ => rfl) (fun ks pl hm hpl => kw_product_of (_, ks, pl) hm rfl hpl) (fun z => by cases z)
omit c X G in
theorem kw_is_road : ∀ e ∈ kwl, e.1 = ("is_road" : Str) → e.2.2.length = 1 → ∀ (kV doc pm : Value) (an : Option Addr) (cdv ct : Value) (us : List Value), us.length = e.2.1.length → bindArgs (PySem.W.fnOf "is_road" "is_road" (defArgs (top 20)) (defBody (top 20)) (defScope (top 20)) .none kV doc pm an cdv ct) ⟨[], e.2.1.zip us⟩ = pure ([("thing" : Str)].zip (pmU e.2.2 us)) :=
  List.forall_mem_cons.mpr ⟨fun z => absurd z (by decide), List.forall_mem_cons.mpr ⟨fun z => absurd z (by decide), List.forall_mem_nil _⟩⟩
theorem dp_is_road (hC : ∀ p ∈ Hf.csOf K Sp, LamX.TabB base mg p.1 p.2) : DefP tb K mg base (g0 K) "is_road" 6 1 N_is_road [("thing" : Str)] (defArgs (top 20)) (defBody (top 20)) (defScope (top 20)) false :=
  c.defP (d := ⟨(("is_road" : Str), none), "is_road", "is_road", defArgs (top 20), defBody (top 20), defScope (top 20), [], []⟩) X G 6 6 rfl rfl rfl rfl rfl rfl rfl (List.mem_of_getElem? (i := 6) rfl) rfl rfl hC ⟨Pg.i_is_road, rfl, rfl, rfl, ck_is_road⟩ rfl ⟨rfl, rfl, rfl, by decide +kernel, rfl, by decide +kernel, by decide +kernel⟩
    (fun _ _ _ _ _ _ us hl => match us, hl with | [_], _ => rfl) (fun ks pl hm hpl => kw_is_road (_, ks, pl) hm rfl hpl) (fun z => by cases z)
omit c X G in
theorem kw_checked_road : ∀ e ∈ kwl, e.1 = ("checked_road" : Str) → e.2.2.length = 1 → ∀ (kV doc pm : Value) (an : Option Addr) (cdv ct : Value) (us : List Value), us.length = e.2.1.length → bindArgs (PySem.W.fnOf "checked_road" "checked_road" (defArgs (top 21)) (defBody (top 21)) (defScope (top 21)) .none kV doc pm an cdv ct) ⟨[], e.2.1.zip us⟩ = pure ([("road" : Str)].zip (pmU e.2.2 us)) :=
  List.forall_mem_cons.mpr ⟨fun z => absurd z (by decide), List.forall_mem_cons.mpr ⟨fun z => absurd z (by decide), List.forall_mem_nil _⟩⟩
theorem dp_checked_road (hC : ∀ p ∈ Hf.csOf K Sp, LamX.TabB base mg p.1 p.2) : DefP tb K mg base (g0 K) "checked_road" 7 1 N_checked_road [("road" : Str)] (defArgs (top 21)) (defBody (top 21)) (defScope (top 21)) false :=
  c.defP (d := ⟨(("checked_road" : Str), none), "checked_road", "checked_road", defArgs (top 21), defBody (top 21), defScope (top 21), [], []⟩) X G 7 7 rfl rfl rfl rfl rfl rfl rfl (List.mem_of_getElem? (i := 7) rfl) rfl rfl hC ⟨Pg.i_checked_road, rfl, rfl, rfl, ck_checked_road⟩ rfl ⟨rfl, rfl, rfl, by decide +kernel, rfl, by decide +kernel, by decide +kernel⟩
    (fun _ _ _ _ _ _ us hl => match us, hl with | [_], _ => rfl) (fun ks pl hm hpl => kw_checked_road (_, ks, pl) hm rfl hpl) (fun z => by cases z)
omit c X G in
theorem kw_worth_of : ∀ e ∈ kwl, e.1 = ("worth_of" : Str) → e.2.2.length = 1 → ∀ (kV doc pm : Value) (an : Option Addr) (cdv ct : Value) (us : List Value), us.length = e.2.1.length → bindArgs (PySem.W.fnOf "worth_of" "worth_of" (defArgs (top 22)) (defBody (top 22)) (defScope (top 22)) .none kV doc pm an cdv ct) ⟨[], e.2.1.zip us⟩ = pure ([("road" : Str)].zip (pmU e.2.2 us)) :=
  List.forall_mem_cons.mpr ⟨fun z => absurd z (by decide), List.forall_mem_cons.mpr ⟨fun z => absurd z (by decide), List.forall_mem_nil _⟩⟩
theorem dp_worth_of (hC : ∀ p ∈ Hf.csOf K Sp, LamX.TabB base mg p.1 p.2) : DefP tb K mg base (g0 K) "worth_of" 8 1 N_worth_of [("road" : Str)] (defArgs (top 22)) (defBody (top 22)) (defScope (top 22)) false :=
  c.defP (d := ⟨(("worth_of" : Str), none), "worth_of", "worth_of", defArgs (top 22), defBody (top 22), defScope (top 22), [], []⟩) X G 8 8 rfl rfl rfl rfl rfl rfl rfl (List.mem_of_getElem? (i := 8) rfl) rfl rfl hC ⟨Pg.i_worth_of, rfl, rfl, rfl, ck_worth_of⟩ rfl ⟨rfl, rfl, rfl, by decide +kernel, rfl, by decide +kernel, by decide +kernel⟩
    (fun _ _ _ _ _ _ us hl => match us, hl with | [_], _ => rfl) (fun ks pl hm hpl => kw_worth_of (_, ks, pl) hm rfl hpl) (fun z => by cases z)
omit c X G in
theorem kw_worth : ∀ e ∈ kwl, e.1 = ("worth" : Str) → e.2.2.length = 1 → ∀ (kV doc pm : Value) (an : Option Addr) (cdv ct : Value) (us : List Value), us.length = e.2.1.length → bindArgs (PySem.W.fnOf "worth" "worth" (defArgs (top 23)) (defBody (top 23)) (defScope (top 23)) .none kV doc pm an cdv ct) ⟨[], e.2.1.zip us⟩ = pure ([("road" : Str)].zip (pmU e.2.2 us)) :=
  List.forall_mem_cons.mpr ⟨fun z => absurd z (by decide), List.forall_mem_cons.mpr ⟨fun _ _ _ _ _ _ _ _ us hl => match us, hl with | [_], _ => rfl, List.forall_mem_nil _⟩⟩
theorem dp_worth (hC : ∀ p ∈ Hf.csOf K Sp, LamX.TabB base mg p.1 p.2) : DefP tb K mg base (g0 K) "worth" 9 1 N_worth [("road" : Str)] (defArgs (top 23)) (defBody (top 23)) (defScope (top 23)) false :=
  c.defP (d := ⟨(("worth" : Str), none), "worth", "worth", defArgs (top 23), defBody (top 23), defScope (top 23), [], []⟩) X G 9 9 rfl rfl rfl rfl rfl rfl rfl (List.mem_of_getElem? (i := 9) rfl) rfl rfl hC ⟨Pg.i_worth, rfl, rfl, rfl, ck_worth⟩ rfl ⟨rfl, rfl, rfl, by decide +kernel, rfl, by decide +kernel, by decide +kernel⟩
    (fun _ _ _ _ _ _ us hl => match us, hl with | [_], _ => rfl) (fun ks pl hm hpl => kw_worth (_, ks, pl) hm rfl hpl) (fun z => by cases z)
omit c X G in
theorem kw_reduced_to : ∀ e ∈ kwl, e.1 = ("reduced_to" : Str) → e.2.2.length = 1 → ∀ (kV doc pm : Value) (an : Option Addr) (cdv ct : Value) (us : List Value), us.length = e.2.1.length → bindArgs (PySem.W.fnOf "reduced_to" "reduced_to" (defArgs (top 24)) (defBody (top 24)) (defScope (top 24)) .none kV doc pm an cdv ct) ⟨[], e.2.1.zip us⟩ = pure ([("matrix" : Str)].zip (pmU e.2.2 us)) :=
  List.forall_mem_cons.mpr ⟨fun z => absurd z (by decide), List.forall_mem_cons.mpr ⟨fun z => absurd z (by decide), List.forall_mem_nil _⟩⟩
theorem dp_reduced_to (hC : ∀ p ∈ Hf.csOf K Sp, LamX.TabB base mg p.1 p.2) : DefP tb K mg base (g0 K) "reduced_to" 10 1 N_reduced_to [("matrix" : Str)] (defArgs (top 24)) (defBody (top 24)) (defScope (top 24)) false :=
  c.defP (d := ⟨(("reduced_to" : Str), none), "reduced_to", "reduced_to", defArgs (top 24), defBody (top 24), defScope (top 24), [], []⟩) X G 10 10 rfl rfl rfl rfl rfl rfl rfl (List.mem_of_getElem? (i := 10) rfl) rfl rfl hC ⟨Pg.i_reduced_to, rfl, rfl, rfl, ck_reduced_to⟩ rfl ⟨rfl, rfl, rfl, by decide +kernel, rfl, by decide +kernel, by decide +kernel⟩
    (fun _ _ _ _ _ _ us hl => match us, hl with | [_], _ => rfl) (fun ks pl hm hpl => kw_reduced_to (_, ks, pl) hm rfl hpl) (fun z => by cases z)
omit c X G in
theorem kw_road_of : ∀ e ∈ kwl, e.1 = ("road_of" : Str) → e.2.2.length = 1 → ∀ (kV doc pm : Value) (an : Option Addr) (cdv ct : Value) (us : List Value), us.length = e.2.1.length → bindArgs (PySem.W.fnOf "road_of" "road_of" (defArgs (top 25)) (defBody (top 25)) (defScope (top 25)) .none kV doc pm an cdv ct) ⟨[], e.2.1.zip us⟩ = pure ([("matrix" : Str)].zip (pmU e.2.2 us)) :=
  List.forall_mem_cons.mpr ⟨fun _ _ _ _ _ _ _ _ us hl => match us, hl with | [_], _ => rfl, List.forall_mem_cons.mpr ⟨fun z => absurd z (by decide), List.forall_mem_nil _⟩⟩
theorem dp_road_of (hC : ∀ p ∈ Hf.csOf K Sp, LamX.TabB base mg p.1 p.2) : DefP tb K mg base (g0 K) "road_of" 11 1 N_road_of [("matrix" : Str)] (defArgs (top 25)) (defBody (top 25)) (defScope (top 25)) false :=
  c.defP (d := ⟨(("road_of" : Str), none), "road_of", "road_of", defArgs (top 25), defBody (top 25), defScope (top 25), [], []⟩) X G 11 11 rfl rfl rfl rfl rfl rfl rfl (List.mem_of_getElem? (i := 11) rfl) rfl rfl hC ⟨Pg.i_road_of, rfl, rfl, rfl, ck_road_of⟩ rfl ⟨rfl, rfl, rfl, by decide +kernel, rfl, by decide +kernel, by decide +kernel⟩
    (fun _ _ _ _ _ _ us hl => match us, hl with | [_], _ => rfl) (fun ks pl hm hpl => kw_road_of (_, ks, pl) hm rfl hpl) (fun z => by cases z)
omit c X G in
theorem kw__law_r_times : ∀ e ∈ kwl, e.1 = ("_law_r_times" : Str) → e.2.2.length = 2 → ∀ (kV doc pm : Value) (an : Option Addr) (cdv ct : Value) (us : List Value), us.length = e.2.1.length → bindArgs (PySem.W.fnOf "_law_r_times" "_law_r_times" (defArgs (top 27)) (defBody (top 27)) (defScope (top 27)) .none kV doc pm an cdv ct) ⟨[], e.2.1.zip us⟩ = pure ([("one" : Str), ("other" : Str)].zip (pmU e.2.2 us)) :=
  List.forall_mem_cons.mpr ⟨fun z => absurd z (by decide), List.forall_mem_cons.mpr ⟨fun z => absurd z (by decide), List.forall_mem_nil _⟩⟩
theorem dp__law_r_times (hC : ∀ p ∈ Hf.csOf K Sp, LamX.TabB base mg p.1 p.2) : DefP tb K mg base (g0 K) "_law_r_times" 12 2 N__law_r_times [("one" : Str), ("other" : Str)] (defArgs (top 27)) (defBody (top 27)) (defScope (top 27)) false :=
  c.defP (d := ⟨(("_law_r_times" : Str), none), "_law_r_times", "_law_r_times", defArgs (top 27), defBody (top 27), defScope (top 27), [], []⟩) X G 12 12 rfl rfl rfl rfl rfl rfl rfl (List.mem_of_getElem? (i := 12) rfl) rfl rfl hC ⟨Pg.i__law_r_times, rfl, rfl, rfl, ck__law_r_times⟩ rfl ⟨rfl, rfl, rfl, by decide +kernel, rfl, by decide +kernel, by decide +kernel⟩
    (fun _ _ _ _ _ _ us hl => match us, hl with | [_, _], _ => rfl) (fun ks pl hm hpl => kw__law_r_times (_, ks, pl) hm rfl hpl) (fun z => by cases z)
omit c X G in
theorem kw__law_r_product : ∀ e ∈ kwl, e.1 = ("_law_r_product" : Str) → e.2.2.length = 1 → ∀ (kV doc pm : Value) (an : Option Addr) (cdv ct : Value) (us : List Value), us.length = e.2.1.length → bindArgs (PySem.W.fnOf "_law_r_product" "_law_r_product" (defArgs (top 28)) (defBody (top 28)) (defScope (top 28)) .none kV doc pm an cdv ct) ⟨[], e.2.1.zip us⟩ = pure ([("numbers" : Str)].zip (pmU e.2.2 us)) :=
  List.forall_mem_cons.mpr ⟨fun z => absurd z (by decide), List.forall_mem_cons.mpr ⟨fun z => absurd z (by decide), List.forall_mem_nil _⟩⟩
theorem dp__law_r_product (hC : ∀ p ∈ Hf.csOf K Sp, LamX.TabB base mg p.1 p.2) : DefP tb K mg base (g0 K) "_law_r_product" 13 1 N__law_r_product [("numbers" : Str)] (defArgs (top 28)) (defBody (top 28)) (defScope (top 28)) false :=
  c.defP (d := ⟨(("_law_r_product" : Str), none), "_law_r_product", "_law_r_product", defArgs (top 28), defBody (top 28), defScope (top 28), [], []⟩) X G 13 13 rfl rfl rfl rfl rfl rfl rfl (List.mem_of_getElem? (i := 13) rfl) rfl rfl hC ⟨Pg.i__law_r_product, rfl, rfl, rfl, ck__law_r_product⟩ rfl ⟨rfl, rfl, rfl, by decide +kernel, rfl, by decide +kernel, by decide +kernel⟩
    (fun _ _ _ _ _ _ us hl => match us, hl with | [_], _ => rfl) (fun ks pl hm hpl => kw__law_r_product (_, ks, pl) hm rfl hpl) (fun z => by cases z)
omit c X G in
theorem kw__law_r_worth : ∀ e ∈ kwl, e.1 = ("_law_r_worth" : Str) → e.2.2.length = 1 → ∀ (kV doc pm : Value) (an : Option Addr) (cdv ct : Value) (us : List Value), us.length = e.2.1.length → bindArgs (PySem.W.fnOf "_law_r_worth" "_law_r_worth" (defArgs (top 29)) (defBody (top 29)) (defScope (top 29)) .none kV doc pm an cdv ct) ⟨[], e.2.1.zip us⟩ = pure ([("road" : Str)].zip (pmU e.2.2 us)) :=
  List.forall_mem_cons.mpr ⟨fun z => absurd z (by decide), List.forall_mem_cons.mpr ⟨fun z => absurd z (by decide), List.forall_mem_nil _⟩⟩
theorem dp__law_r_worth (hC : ∀ p ∈ Hf.csOf K Sp, LamX.TabB base mg p.1 p.2) : DefP tb K mg base (g0 K) "_law_r_worth" 14 1 N__law_r_worth [("road" : Str)] (defArgs (top 29)) (defBody (top 29)) (defScope (top 29)) false :=
  c.defP (d := ⟨(("_law_r_worth" : Str), none), "_law_r_worth", "_law_r_worth", defArgs (top 29), defBody (top 29), defScope (top 29), [], []⟩) X G 14 14 rfl rfl rfl rfl rfl rfl rfl (List.mem_of_getElem? (i := 14) rfl) rfl rfl hC ⟨Pg.i__law_r_worth, rfl, rfl, rfl, ck__law_r_worth⟩ rfl ⟨rfl, rfl, rfl, by decide +kernel, rfl, by decide +kernel, by decide +kernel⟩
    (fun _ _ _ _ _ _ us hl => match us, hl with | [_], _ => rfl) (fun ks pl hm hpl => kw__law_r_worth (_, ks, pl) hm rfl hpl) (fun z => by cases z)
omit c X G in
theorem kw__law_c_reduced : ∀ e ∈ kwl, e.1 = ("_law_c_reduced" : Str) → e.2.2.length = 1 → ∀ (kV doc pm : Value) (an : Option Addr) (cdv ct : Value) (us : List Value), us.length = e.2.1.length → bindArgs (PySem.W.fnOf "_law_c_reduced" "_law_c_reduced" (defArgs (top 31)) (defBody (top 31)) (defScope (top 31)) .none kV doc pm an cdv ct) ⟨[], e.2.1.zip us⟩ = pure ([("matrix" : Str)].zip (pmU e.2.2 us)) :=
  List.forall_mem_cons.mpr ⟨fun z => absurd z (by decide), List.forall_mem_cons.mpr ⟨fun z => absurd z (by decide), List.forall_mem_nil _⟩⟩
theorem dp__law_c_reduced (hC : ∀ p ∈ Hf.csOf K Sp, LamX.TabB base mg p.1 p.2) : DefP tb K mg base (g0 K) "_law_c_reduced" 16 1 N__law_c_reduced [("matrix" : Str)] (defArgs (top 31)) (defBody (top 31)) (defScope (top 31)) false :=
  c.defP (d := ⟨(("_law_c_reduced" : Str), none), "_law_c_reduced", "_law_c_reduced", defArgs (top 31), defBody (top 31), defScope (top 31), [], []⟩) X G 16 16 rfl rfl rfl rfl rfl rfl rfl (List.mem_of_getElem? (i := 15) rfl) rfl rfl hC ⟨Pg.i__law_c_reduced, rfl, rfl, rfl, ck__law_c_reduced⟩ rfl ⟨rfl, rfl, rfl, by decide +kernel, rfl, by decide +kernel, by decide +kernel⟩
    (fun _ _ _ _ _ _ us hl => match us, hl with | [_], _ => rfl) (fun ks pl hm hpl => kw__law_c_reduced (_, ks, pl) hm rfl hpl) (fun z => by cases z)
omit c X G in
theorem kw__law_c_road : ∀ e ∈ kwl, e.1 = ("_law_c_road" : Str) → e.2.2.length = 3 → ∀ (kV doc pm : Value) (an : Option Addr) (cdv ct : Value) (us : List Value), us.length = e.2.1.length → bindArgs (PySem.W.fnOf "_law_c_road" "_law_c_road" (defArgs (top 32)) (defBody (top 32)) (defScope (top 32)) .none kV doc pm an cdv ct) ⟨[], e.2.1.zip us⟩ = pure ([("stream" : Str), ("size" : Str), ("top" : Str)].zip (pmU e.2.2 us)) :=
  List.forall_mem_cons.mpr ⟨fun z => absurd z (by decide), List.forall_mem_cons.mpr ⟨fun z => absurd z (by decide), List.forall_mem_nil _⟩⟩
theorem dp__law_c_road (hC : ∀ p ∈ Hf.csOf K Sp, LamX.TabB base mg p.1 p.2) : DefP tb K mg base (g0 K) "_law_c_road" 17 3 N__law_c_road [("stream" : Str), ("size" : Str), ("top" : Str)] (defArgs (top 32)) (defBody (top 32)) (defScope (top 32)) false :=
  c.defP (d := ⟨(("_law_c_road" : Str), none), "_law_c_road", "_law_c_road", defArgs (top 32), defBody (top 32), defScope (top 32), [], []⟩) X G 17 17 rfl rfl rfl rfl rfl rfl rfl (List.mem_of_getElem? (i := 16) rfl) rfl rfl hC ⟨Pg.i__law_c_road, rfl, rfl, rfl, ck__law_c_road⟩ rfl ⟨rfl, rfl, rfl, by decide +kernel, rfl, by decide +kernel, by decide +kernel⟩
    (fun _ _ _ _ _ _ us hl => match us, hl with | [_, _, _], _ => rfl) (fun ks pl hm hpl => kw__law_c_road (_, ks, pl) hm rfl hpl) (fun z => by cases z)
omit c X G in
theorem kw__law_c_odd_roads : ∀ e ∈ kwl, e.1 = ("_law_c_odd_roads" : Str) → e.2.2.length = 0 → ∀ (kV doc pm : Value) (an : Option Addr) (cdv ct : Value) (us : List Value), us.length = e.2.1.length → bindArgs (PySem.W.fnOf "_law_c_odd_roads" "_law_c_odd_roads" (defArgs (top 33)) (defBody (top 33)) (defScope (top 33)) .none kV doc pm an cdv ct) ⟨[], e.2.1.zip us⟩ = pure ([].zip (pmU e.2.2 us)) :=
  List.forall_mem_cons.mpr ⟨fun z => absurd z (by decide), List.forall_mem_cons.mpr ⟨fun z => absurd z (by decide), List.forall_mem_nil _⟩⟩
theorem dp__law_c_odd_roads (hC : ∀ p ∈ Hf.csOf K Sp, LamX.TabB base mg p.1 p.2) : DefP tb K mg base (g0 K) "_law_c_odd_roads" 18 0 N__law_c_odd_roads [] (defArgs (top 33)) (defBody (top 33)) (defScope (top 33)) false :=
  c.defP (d := ⟨(("_law_c_odd_roads" : Str), none), "_law_c_odd_roads", "_law_c_odd_roads", defArgs (top 33), defBody (top 33), defScope (top 33), [], []⟩) X G 18 18 rfl rfl rfl rfl rfl rfl rfl (List.mem_of_getElem? (i := 17) rfl) rfl rfl hC ⟨Pg.i__law_c_odd_roads, rfl, rfl, rfl, ck__law_c_odd_roads⟩ rfl ⟨rfl, rfl, rfl, by decide +kernel, rfl, by decide +kernel, by decide +kernel⟩
    (fun _ _ _ _ _ _ us hl => match us, hl with | [], _ => rfl) (fun ks pl hm hpl => kw__law_c_odd_roads (_, ks, pl) hm rfl hpl) (fun z => by cases z)
omit c X G in
theorem kw__law_start : ∀ e ∈ kwl, e.1 = ("_law_start" : Str) → e.2.2.length = 1 → ∀ (kV doc pm : Value) (an : Option Addr) (cdv ct : Value) (us : List Value), us.length = e.2.1.length → bindArgs (PySem.W.fnOf "_law_start" "_law_start" (defArgs (top 34)) (defBody (top 34)) (defScope (top 34)) .none kV doc pm an cdv ct) ⟨[], e.2.1.zip us⟩ = pure ([("script" : Str)].zip (pmU e.2.2 us)) :=
  List.forall_mem_cons.mpr ⟨fun z => absurd z (by decide), List.forall_mem_cons.mpr ⟨fun z => absurd z (by decide), List.forall_mem_nil _⟩⟩
theorem dp__law_start (hC : ∀ p ∈ Hf.csOf K Sp, LamX.TabB base mg p.1 p.2) : DefP tb K mg base (g0 K) "_law_start" 19 1 N__law_start [("script" : Str)] (defArgs (top 34)) (defBody (top 34)) (defScope (top 34)) false :=
  c.defP (d := ⟨(("_law_start" : Str), none), "_law_start", "_law_start", defArgs (top 34), defBody (top 34), defScope (top 34), [], []⟩) X G 19 19 rfl rfl rfl rfl rfl rfl rfl (List.mem_of_getElem? (i := 18) rfl) rfl rfl hC ⟨Pg.i__law_start, rfl, rfl, rfl, ck__law_start⟩ rfl ⟨rfl, rfl, rfl, by decide +kernel, rfl, by decide +kernel, by decide +kernel⟩
    (fun _ _ _ _ _ _ us hl => match us, hl with | [_], _ => rfl) (fun ks pl hm hpl => kw__law_start (_, ks, pl) hm rfl hpl) (fun z => by cases z)
omit c X G in
theorem kw__law_draw : ∀ e ∈ kwl, e.1 = ("_law_draw" : Str) → e.2.2.length = 2 → ∀ (kV doc pm : Value) (an : Option Addr) (cdv ct : Value) (us : List Value), us.length = e.2.1.length → bindArgs (PySem.W.fnOf "_law_draw" "_law_draw" (defArgs (top 35)) (defBody (top 35)) (defScope (top 35)) .none kV doc pm an cdv ct) ⟨[], e.2.1.zip us⟩ = pure ([("stream" : Str), ("many" : Str)].zip (pmU e.2.2 us)) :=
  List.forall_mem_cons.mpr ⟨fun z => absurd z (by decide), List.forall_mem_cons.mpr ⟨fun z => absurd z (by decide), List.forall_mem_nil _⟩⟩
theorem dp__law_draw (hC : ∀ p ∈ Hf.csOf K Sp, LamX.TabB base mg p.1 p.2) : DefP tb K mg base (g0 K) "_law_draw" 20 2 N__law_draw [("stream" : Str), ("many" : Str)] (defArgs (top 35)) (defBody (top 35)) (defScope (top 35)) false :=
  c.defP (d := ⟨(("_law_draw" : Str), none), "_law_draw", "_law_draw", defArgs (top 35), defBody (top 35), defScope (top 35), [], []⟩) X G 20 20 rfl rfl rfl rfl rfl rfl rfl (List.mem_of_getElem? (i := 19) rfl) rfl rfl hC ⟨Pg.i__law_draw, rfl, rfl, rfl, ck__law_draw⟩ rfl ⟨rfl, rfl, rfl, by decide +kernel, rfl, by decide +kernel, by decide +kernel⟩
    (fun _ _ _ _ _ _ us hl => match us, hl with | [_, _], _ => rfl) (fun ks pl hm hpl => kw__law_draw (_, ks, pl) hm rfl hpl) (fun z => by cases z)
omit c X G in
theorem kw__law_pick : ∀ e ∈ kwl, e.1 = ("_law_pick" : Str) → e.2.2.length = 2 → ∀ (kV doc pm : Value) (an : Option Addr) (cdv ct : Value) (us : List Value), us.length = e.2.1.length → bindArgs (PySem.W.fnOf "_law_pick" "_law_pick" (defArgs (top 36)) (defBody (top 36)) (defScope (top 36)) .none kV doc pm an cdv ct) ⟨[], e.2.1.zip us⟩ = pure ([("stream" : Str), ("some" : Str)].zip (pmU e.2.2 us)) :=
  List.forall_mem_cons.mpr ⟨fun z => absurd z (by decide), List.forall_mem_cons.mpr ⟨fun z => absurd z (by decide), List.forall_mem_nil _⟩⟩
theorem dp__law_pick (hC : ∀ p ∈ Hf.csOf K Sp, LamX.TabB base mg p.1 p.2) : DefP tb K mg base (g0 K) "_law_pick" 21 2 N__law_pick [("stream" : Str), ("some" : Str)] (defArgs (top 36)) (defBody (top 36)) (defScope (top 36)) false :=
  c.defP (d := ⟨(("_law_pick" : Str), none), "_law_pick", "_law_pick", defArgs (top 36), defBody (top 36), defScope (top 36), [], []⟩) X G 21 21 rfl rfl rfl rfl rfl rfl rfl (List.mem_of_getElem? (i := 20) rfl) rfl rfl hC ⟨Pg.i__law_pick, rfl, rfl, rfl, ck__law_pick⟩ rfl ⟨rfl, rfl, rfl, by decide +kernel, rfl, by decide +kernel, by decide +kernel⟩
    (fun _ _ _ _ _ _ us hl => match us, hl with | [_, _], _ => rfl) (fun ks pl hm hpl => kw__law_pick (_, ks, pl) hm rfl hpl) (fun z => by cases z)
omit c X G in
theorem kw__law_mixed : ∀ e ∈ kwl, e.1 = ("_law_mixed" : Str) → e.2.2.length = 2 → ∀ (kV doc pm : Value) (an : Option Addr) (cdv ct : Value) (us : List Value), us.length = e.2.1.length → bindArgs (PySem.W.fnOf "_law_mixed" "_law_mixed" (defArgs (top 37)) (defBody (top 37)) (defScope (top 37)) .none kV doc pm an cdv ct) ⟨[], e.2.1.zip us⟩ = pure ([("stream" : Str), ("some" : Str)].zip (pmU e.2.2 us)) :=
  List.forall_mem_cons.mpr ⟨fun z => absurd z (by decide), List.forall_mem_cons.mpr ⟨fun z => absurd z (by decide), List.forall_mem_nil _⟩⟩
theorem dp__law_mixed (hC : ∀ p ∈ Hf.csOf K Sp, LamX.TabB base mg p.1 p.2) : DefP tb K mg base (g0 K) "_law_mixed" 22 2 N__law_mixed [("stream" : Str), ("some" : Str)] (defArgs (top 37)) (defBody (top 37)) (defScope (top 37)) false :=
  c.defP (d := ⟨(("_law_mixed" : Str), none), "_law_mixed", "_law_mixed", defArgs (top 37), defBody (top 37), defScope (top 37), [], []⟩) X G 22 22 rfl rfl rfl rfl rfl rfl rfl (List.mem_of_getElem? (i := 21) rfl) rfl rfl hC ⟨Pg.i__law_mixed, rfl, rfl, rfl, ck__law_mixed⟩ rfl ⟨rfl, rfl, rfl, by decide +kernel, rfl, by decide +kernel, by decide +kernel⟩
    (fun _ _ _ _ _ _ us hl => match us, hl with | [_, _], _ => rfl) (fun ks pl hm hpl => kw__law_mixed (_, ks, pl) hm rfl hpl) (fun z => by cases z)
omit c X G in
theorem kw__law_copied : ∀ e ∈ kwl, e.1 = ("_law_copied" : Str) → e.2.2.length = 1 → ∀ (kV doc pm : Value) (an : Option Addr) (cdv ct : Value) (us : List Value), us.length = e.2.1.length → bindArgs (PySem.W.fnOf "_law_copied" "_law_copied" (defArgs (top 38)) (defBody (top 38)) (defScope (top 38)) .none kV doc pm an cdv ct) ⟨[], e.2.1.zip us⟩ = pure ([("thing" : Str)].zip (pmU e.2.2 us)) :=
  List.forall_mem_cons.mpr ⟨fun z => absurd z (by decide), List.forall_mem_cons.mpr ⟨fun z => absurd z (by decide), List.forall_mem_nil _⟩⟩
theorem dp__law_copied (hC : ∀ p ∈ Hf.csOf K Sp, LamX.TabB base mg p.1 p.2) : DefP tb K mg base (g0 K) "_law_copied" 23 1 N__law_copied [("thing" : Str)] (defArgs (top 38)) (defBody (top 38)) (defScope (top 38)) false :=
  c.defP (d := ⟨(("_law_copied" : Str), none), "_law_copied", "_law_copied", defArgs (top 38), defBody (top 38), defScope (top 38), [], []⟩) X G 23 23 rfl rfl rfl rfl rfl rfl rfl (List.mem_of_getElem? (i := 22) rfl) rfl rfl hC ⟨Pg.i__law_copied, rfl, rfl, rfl, ck__law_copied⟩ rfl ⟨rfl, rfl, rfl, by decide +kernel, rfl, by decide +kernel, by decide +kernel⟩
    (fun _ _ _ _ _ _ us hl => match us, hl with | [_], _ => rfl) (fun ks pl hm hpl => kw__law_copied (_, ks, pl) hm rfl hpl) (fun z => by cases z)
omit c X G in
theorem kw__law_same : ∀ e ∈ kwl, e.1 = ("_law_same" : Str) → e.2.2.length = 2 → ∀ (kV doc pm : Value) (an : Option Addr) (cdv ct : Value) (us : List Value), us.length = e.2.1.length → bindArgs (PySem.W.fnOf "_law_same" "_law_same" (defArgs (top 39)) (defBody (top 39)) (defScope (top 39)) .none kV doc pm an cdv ct) ⟨[], e.2.1.zip us⟩ = pure ([("found" : Str), ("due" : Str)].zip (pmU e.2.2 us)) :=
  List.forall_mem_cons.mpr ⟨fun z => absurd z (by decide), List.forall_mem_cons.mpr ⟨fun z => absurd z (by decide), List.forall_mem_nil _⟩⟩
theorem dp__law_same (hC : ∀ p ∈ Hf.csOf K Sp, LamX.TabB base mg p.1 p.2) : DefP tb K mg base (g0 K) "_law_same" 24 2 N__law_same [("found" : Str), ("due" : Str)] (defArgs (top 39)) (defBody (top 39)) (defScope (top 39)) false :=
  c.defP (d := ⟨(("_law_same" : Str), none), "_law_same", "_law_same", defArgs (top 39), defBody (top 39), defScope (top 39), [], []⟩) X G 24 24 rfl rfl rfl rfl rfl rfl rfl (List.mem_of_getElem? (i := 23) rfl) rfl rfl hC ⟨Pg.i__law_same, rfl, rfl, rfl, ck__law_same⟩ rfl ⟨rfl, rfl, rfl, by decide +kernel, rfl, by decide +kernel, by decide +kernel⟩
    (fun _ _ _ _ _ _ us hl => match us, hl with | [_, _], _ => rfl) (fun ks pl hm hpl => kw__law_same (_, ks, pl) hm rfl hpl) (fun z => by cases z)
omit c X G in
theorem kw__law_loose : ∀ e ∈ kwl, e.1 = ("_law_loose" : Str) → e.2.2.length = 2 → ∀ (kV doc pm : Value) (an : Option Addr) (cdv ct : Value) (us : List Value), us.length = e.2.1.length → bindArgs (PySem.W.fnOf "_law_loose" "_law_loose" (defArgs (top 40)) (defBody (top 40)) (defScope (top 40)) .none kV doc pm an cdv ct) ⟨[], e.2.1.zip us⟩ = pure ([("stream" : Str), ("thing" : Str)].zip (pmU e.2.2 us)) :=
  List.forall_mem_cons.mpr ⟨fun z => absurd z (by decide), List.forall_mem_cons.mpr ⟨fun z => absurd z (by decide), List.forall_mem_nil _⟩⟩
theorem dp__law_loose (hC : ∀ p ∈ Hf.csOf K Sp, LamX.TabB base mg p.1 p.2) : DefP tb K mg base (g0 K) "_law_loose" 25 2 N__law_loose [("stream" : Str), ("thing" : Str)] (defArgs (top 40)) (defBody (top 40)) (defScope (top 40)) false :=
  c.defP (d := ⟨(("_law_loose" : Str), none), "_law_loose", "_law_loose", defArgs (top 40), defBody (top 40), defScope (top 40), [], []⟩) X G 25 25 rfl rfl rfl rfl rfl rfl rfl (List.mem_of_getElem? (i := 24) rfl) rfl rfl hC ⟨Pg.i__law_loose, rfl, rfl, rfl, ck__law_loose⟩ rfl ⟨rfl, rfl, rfl, by decide +kernel, rfl, by decide +kernel, by decide +kernel⟩
    (fun _ _ _ _ _ _ us hl => match us, hl with | [_, _], _ => rfl) (fun ks pl hm hpl => kw__law_loose (_, ks, pl) hm rfl hpl) (fun z => by cases z)
omit c X G in
theorem kw__law_spoilt : ∀ e ∈ kwl, e.1 = ("_law_spoilt" : Str) → e.2.2.length = 1 → ∀ (kV doc pm : Value) (an : Option Addr) (cdv ct : Value) (us : List Value), us.length = e.2.1.length → bindArgs (PySem.W.fnOf "_law_spoilt" "_law_spoilt" (defArgs (top 41)) (defBody (top 41)) (defScope (top 41)) .none kV doc pm an cdv ct) ⟨[], e.2.1.zip us⟩ = pure ([("thing" : Str)].zip (pmU e.2.2 us)) :=
  List.forall_mem_cons.mpr ⟨fun z => absurd z (by decide), List.forall_mem_cons.mpr ⟨fun z => absurd z (by decide), List.forall_mem_nil _⟩⟩
theorem dp__law_spoilt (hC : ∀ p ∈ Hf.csOf K Sp, LamX.TabB base mg p.1 p.2) : DefP tb K mg base (g0 K) "_law_spoilt" 26 1 N__law_spoilt [("thing" : Str)] (defArgs (top 41)) (defBody (top 41)) (defScope (top 41)) false :=
  c.defP (d := ⟨(("_law_spoilt" : Str), none), "_law_spoilt", "_law_spoilt", defArgs (top 41), defBody (top 41), defScope (top 41), [], []⟩) X G 26 26 rfl rfl rfl rfl rfl rfl rfl (List.mem_of_getElem? (i := 25) rfl) rfl rfl hC ⟨Pg.i__law_spoilt, rfl, rfl, rfl, ck__law_spoilt⟩ rfl ⟨rfl, rfl, rfl, by decide +kernel, rfl, by decide +kernel, by decide +kernel⟩
    (fun _ _ _ _ _ _ us hl => match us, hl with | [_], _ => rfl) (fun ks pl hm hpl => kw__law_spoilt (_, ks, pl) hm rfl hpl) (fun z => by cases z)
omit c X G in
theorem kw__law_is_once : ∀ e ∈ kwl, e.1 = ("_law_is_once" : Str) → e.2.2.length = 1 → ∀ (kV doc pm : Value) (an : Option Addr) (cdv ct : Value) (us : List Value), us.length = e.2.1.length → bindArgs (PySem.W.fnOf "_law_is_once" "_law_is_once" (defArgs (top 42)) (defBody (top 42)) (defScope (top 42)) .none kV doc pm an cdv ct) ⟨[], e.2.1.zip us⟩ = pure ([("thing" : Str)].zip (pmU e.2.2 us)) :=
  List.forall_mem_cons.mpr ⟨fun z => absurd z (by decide), List.forall_mem_cons.mpr ⟨fun z => absurd z (by decide), List.forall_mem_nil _⟩⟩
theorem dp__law_is_once (hC : ∀ p ∈ Hf.csOf K Sp, LamX.TabB base mg p.1 p.2) : DefP tb K mg base (g0 K) "_law_is_once" 27 1 N__law_is_once [("thing" : Str)] (defArgs (top 42)) (defBody (top 42)) (defScope (top 42)) false :=
  c.defP (d := ⟨(("_law_is_once" : Str), none), "_law_is_once", "_law_is_once", defArgs (top 42), defBody (top 42), defScope (top 42), [], []⟩) X G 27 27 rfl rfl rfl rfl rfl rfl rfl (List.mem_of_getElem? (i := 26) rfl) rfl rfl hC ⟨Pg.i__law_is_once, rfl, rfl, rfl, ck__law_is_once⟩ rfl ⟨rfl, rfl, rfl, by decide +kernel, rfl, by decide +kernel, by decide +kernel⟩
    (fun _ _ _ _ _ _ us hl => match us, hl with | [_], _ => rfl) (fun ks pl hm hpl => kw__law_is_once (_, ks, pl) hm rfl hpl) (fun z => by cases z)
omit c X G in
theorem kw__law_apart : ∀ e ∈ kwl, e.1 = ("_law_apart" : Str) → e.2.2.length = 1 → ∀ (kV doc pm : Value) (an : Option Addr) (cdv ct : Value) (us : List Value), us.length = e.2.1.length → bindArgs (PySem.W.fnOf "_law_apart" "_law_apart" (defArgs (top 43)) (defBody (top 43)) (defScope (top 43)) .none kV doc pm an cdv ct) ⟨[], e.2.1.zip us⟩ = pure ([("thing" : Str)].zip (pmU e.2.2 us)) :=
  List.forall_mem_cons.mpr ⟨fun z => absurd z (by decide), List.forall_mem_cons.mpr ⟨fun z => absurd z (by decide), List.forall_mem_nil _⟩⟩
theorem dp__law_apart (hC : ∀ p ∈ Hf.csOf K Sp, LamX.TabB base mg p.1 p.2) : DefP tb K mg base (g0 K) "_law_apart" 28 1 N__law_apart [("thing" : Str)] (defArgs (top 43)) (defBody (top 43)) (defScope (top 43)) false :=
  c.defP (d := ⟨(("_law_apart" : Str), none), "_law_apart", "_law_apart", defArgs (top 43), defBody (top 43), defScope (top 43), [], []⟩) X G 28 28 rfl rfl rfl rfl rfl rfl rfl (List.mem_of_getElem? (i := 27) rfl) rfl rfl hC ⟨Pg.i__law_apart, rfl, rfl, rfl, ck__law_apart⟩ rfl ⟨rfl, rfl, rfl, by decide +kernel, rfl, by decide +kernel, by decide +kernel⟩
    (fun _ _ _ _ _ _ us hl => match us, hl with | [_], _ => rfl) (fun ks pl hm hpl => kw__law_apart (_, ks, pl) hm rfl hpl) (fun z => by cases z)
omit c X G in
theorem kw__law_road_right : ∀ e ∈ kwl, e.1 = ("_law_road_right" : Str) → e.2.2.length = 2 → ∀ (kV doc pm : Value) (an : Option Addr) (cdv ct : Value) (us : List Value), us.length = e.2.1.length → bindArgs (PySem.W.fnOf "_law_road_right" "_law_road_right" (defArgs (top 44)) (defBody (top 44)) (defScope (top 44)) .none kV doc pm an cdv ct) ⟨[], e.2.1.zip us⟩ = pure ([("stream" : Str), ("road" : Str)].zip (pmU e.2.2 us)) :=
  List.forall_mem_cons.mpr ⟨fun z => absurd z (by decide), List.forall_mem_cons.mpr ⟨fun z => absurd z (by decide), List.forall_mem_nil _⟩⟩
theorem dp__law_road_right (hC : ∀ p ∈ Hf.csOf K Sp, LamX.TabB base mg p.1 p.2) : DefP tb K mg base (g0 K) "_law_road_right" 29 2 N__law_road_right [("stream" : Str), ("road" : Str)] (defArgs (top 44)) (defBody (top 44)) (defScope (top 44)) false :=
  c.defP (d := ⟨(("_law_road_right" : Str), none), "_law_road_right", "_law_road_right", defArgs (top 44), defBody (top 44), defScope (top 44), [], []⟩) X G 29 29 rfl rfl rfl rfl rfl rfl rfl (List.mem_of_getElem? (i := 28) rfl) rfl rfl hC ⟨Pg.i__law_road_right, rfl, rfl, rfl, ck__law_road_right⟩ rfl ⟨rfl, rfl, rfl, by decide +kernel, rfl, by decide +kernel, by decide +kernel⟩
    (fun _ _ _ _ _ _ us hl => match us, hl with | [_, _], _ => rfl) (fun ks pl hm hpl => kw__law_road_right (_, ks, pl) hm rfl hpl) (fun z => by cases z)
omit c X G in
theorem kw__law_matrix : ∀ e ∈ kwl, e.1 = ("_law_matrix" : Str) → e.2.2.length = 1 → ∀ (kV doc pm : Value) (an : Option Addr) (cdv ct : Value) (us : List Value), us.length = e.2.1.length → bindArgs (PySem.W.fnOf "_law_matrix" "_law_matrix" (defArgs (top 45)) (defBody (top 45)) (defScope (top 45)) .none kV doc pm an cdv ct) ⟨[], e.2.1.zip us⟩ = pure ([("stream" : Str)].zip (pmU e.2.2 us)) :=
  List.forall_mem_cons.mpr ⟨fun z => absurd z (by decide), List.forall_mem_cons.mpr ⟨fun z => absurd z (by decide), List.forall_mem_nil _⟩⟩
theorem dp__law_matrix (hC : ∀ p ∈ Hf.csOf K Sp, LamX.TabB base mg p.1 p.2) : DefP tb K mg base (g0 K) "_law_matrix" 30 1 N__law_matrix [("stream" : Str)] (defArgs (top 45)) (defBody (top 45)) (defScope (top 45)) false :=
  c.defP (d := ⟨(("_law_matrix" : Str), none), "_law_matrix", "_law_matrix", defArgs (top 45), defBody (top 45), defScope (top 45), [], []⟩) X G 30 30 rfl rfl rfl rfl rfl rfl rfl (List.mem_of_getElem? (i := 29) rfl) rfl rfl hC ⟨Pg.i__law_matrix, rfl, rfl, rfl, ck__law_matrix⟩ rfl ⟨rfl, rfl, rfl, by decide +kernel, rfl, by decide +kernel, by decide +kernel⟩
    (fun _ _ _ _ _ _ us hl => match us, hl with | [_], _ => rfl) (fun ks pl hm hpl => kw__law_matrix (_, ks, pl) hm rfl hpl) (fun z => by cases z)
omit c X G in
theorem kw__law_matrix_right : ∀ e ∈ kwl, e.1 = ("_law_matrix_right" : Str) → e.2.2.length = 2 → ∀ (kV doc pm : Value) (an : Option Addr) (cdv ct : Value) (us : List Value), us.length = e.2.1.length → bindArgs (PySem.W.fnOf "_law_matrix_right" "_law_matrix_right" (defArgs (top 46)) (defBody (top 46)) (defScope (top 46)) .none kV doc pm an cdv ct) ⟨[], e.2.1.zip us⟩ = pure ([("stream" : Str), ("matrix" : Str)].zip (pmU e.2.2 us)) :=
  List.forall_mem_cons.mpr ⟨fun z => absurd z (by decide), List.forall_mem_cons.mpr ⟨fun z => absurd z (by decide), List.forall_mem_nil _⟩⟩
theorem dp__law_matrix_right (hC : ∀ p ∈ Hf.csOf K Sp, LamX.TabB base mg p.1 p.2) : DefP tb K mg base (g0 K) "_law_matrix_right" 31 2 N__law_matrix_right [("stream" : Str), ("matrix" : Str)] (defArgs (top 46)) (defBody (top 46)) (defScope (top 46)) false :=
  c.defP (d := ⟨(("_law_matrix_right" : Str), none), "_law_matrix_right", "_law_matrix_right", defArgs (top 46), defBody (top 46), defScope (top 46), [], []⟩) X G 31 31 rfl rfl rfl rfl rfl rfl rfl (List.mem_of_getElem? (i := 30) rfl) rfl rfl hC ⟨Pg.i__law_matrix_right, rfl, rfl, rfl, ck__law_matrix_right⟩ rfl ⟨rfl, rfl, rfl, by decide +kernel, rfl, by decide +kernel, by decide +kernel⟩
    (fun _ _ _ _ _ _ us hl => match us, hl with | [_, _], _ => rfl) (fun ks pl hm hpl => kw__law_matrix_right (_, ks, pl) hm rfl hpl) (fun z => by cases z)
omit c X G in
theorem kw__law_refused_right : ∀ e ∈ kwl, e.1 = ("_law_refused_right" : Str) → e.2.2.length = 1 → ∀ (kV doc pm : Value) (an : Option Addr) (cdv ct : Value) (us : List Value), us.length = e.2.1.length → bindArgs (PySem.W.fnOf "_law_refused_right" "_law_refused_right" (defArgs (top 47)) (defBody (top 47)) (defScope (top 47)) .none kV doc pm an cdv ct) ⟨[], e.2.1.zip us⟩ = pure ([("stream" : Str)].zip (pmU e.2.2 us)) :=
  List.forall_mem_cons.mpr ⟨fun z => absurd z (by decide), List.forall_mem_cons.mpr ⟨fun z => absurd z (by decide), List.forall_mem_nil _⟩⟩
theorem dp__law_refused_right (hC : ∀ p ∈ Hf.csOf K Sp, LamX.TabB base mg p.1 p.2) : DefP tb K mg base (g0 K) "_law_refused_right" 32 1 N__law_refused_right [("stream" : Str)] (defArgs (top 47)) (defBody (top 47)) (defScope (top 47)) true :=
  c.defP (d := ⟨(("_law_refused_right" : Str), none), "_law_refused_right", "_law_refused_right", defArgs (top 47), defBody (top 47), defScope (top 47), [], []⟩) X G 32 32 rfl rfl rfl rfl rfl rfl rfl (List.mem_of_getElem? (i := 31) rfl) rfl rfl hC ⟨Pg.i__law_refused_right, rfl, rfl, rfl, ck__law_refused_right⟩ rfl ⟨rfl, rfl, rfl, by decide +kernel, rfl, by decide +kernel, by decide +kernel⟩
    (fun _ _ _ _ _ _ us hl => match us, hl with | [_], _ => rfl) (fun ks pl hm hpl => kw__law_refused_right (_, ks, pl) hm rfl hpl) (fun z => List.mem_of_getElem? (i := 0) rfl)
omit c X G in
theorem kw_law : ∀ e ∈ kwl, e.1 = ("law" : Str) → e.2.2.length = 1 → ∀ (kV doc pm : Value) (an : Option Addr) (cdv ct : Value) (us : List Value), us.length = e.2.1.length → bindArgs (PySem.W.fnOf "law" "law" (defArgs (top 48)) (defBody (top 48)) (defScope (top 48)) .none kV doc pm an cdv ct) ⟨[], e.2.1.zip us⟩ = pure ([("script" : Str)].zip (pmU e.2.2 us)) :=
  List.forall_mem_cons.mpr ⟨fun z => absurd z (by decide), List.forall_mem_cons.mpr ⟨fun z => absurd z (by decide), List.forall_mem_nil _⟩⟩
theorem dp_law (hC : ∀ p ∈ Hf.csOf K Sp, LamX.TabB base mg p.1 p.2) : DefP tb K mg base (g0 K) "law" 33 1 N_law [("script" : Str)] (defArgs (top 48)) (defBody (top 48)) (defScope (top 48)) false :=
  c.defP (d := ⟨(("law" : Str), none), "law", "law", defArgs (top 48), defBody (top 48), defScope (top 48), [], []⟩) X G 33 33 rfl rfl rfl rfl rfl rfl rfl (List.mem_of_getElem? (i := 32) rfl) rfl rfl hC ⟨Pg.i_law, rfl, rfl, rfl, ck_law⟩ rfl ⟨rfl, rfl, rfl, by decide +kernel, rfl, by decide +kernel, by decide +kernel⟩
    (fun _ _ _ _ _ _ us hl => match us, hl with | [_], _ => rfl) (fun ks pl hm hpl => kw_law (_, ks, pl) hm rfl hpl) (fun z => by cases z)
theorem er_BadCorners : PySem.ErrT.ErrTTxt K mg "BadCorners" "BadCorners.__init__" (He.ga K ("BadCorners" : Str)) (Hf.fI K ("BadCorners" : Str)) :=
  c.errT (x := ("BadCorners" : Str)) (qn := "BadCorners.__init__") X G (List.mem_of_getElem? (i := 0) rfl) 34 35 rfl rfl rfl rfl rfl rfl rfl ⟨_, _, rfl⟩ ⟨_, _, _, _, rfl⟩ rfl
theorem er_BadCounts : PySem.ErrT.ErrTTxt K mg "BadCounts" "BadCounts.__init__" (He.ga K ("BadCounts" : Str)) (Hf.fI K ("BadCounts" : Str)) :=
  c.errT (x := ("BadCounts" : Str)) (qn := "BadCounts.__init__") X G (List.mem_of_getElem? (i := 1) rfl) 35 36 rfl rfl rfl rfl rfl rfl rfl ⟨_, _, rfl⟩ ⟨_, _, _, _, rfl⟩ rfl
theorem er_BadDiagonals : PySem.ErrT.ErrTTxt K mg "BadDiagonals" "BadDiagonals.__init__" (He.ga K ("BadDiagonals" : Str)) (Hf.fI K ("BadDiagonals" : Str)) :=
  c.errT (x := ("BadDiagonals" : Str)) (qn := "BadDiagonals.__init__") X G (List.mem_of_getElem? (i := 2) rfl) 36 37 rfl rfl rfl rfl rfl rfl rfl ⟨_, _, rfl⟩ ⟨_, _, _, _, rfl⟩ rfl
theorem er_BadMatrix : PySem.ErrT.ErrTTxt K mg "BadMatrix" "BadMatrix.__init__" (He.ga K ("BadMatrix" : Str)) (Hf.fI K ("BadMatrix" : Str)) :=
  c.errT (x := ("BadMatrix" : Str)) (qn := "BadMatrix.__init__") X G (List.mem_of_getElem? (i := 3) rfl) 37 38 rfl rfl rfl rfl rfl rfl rfl ⟨_, _, rfl⟩ ⟨_, _, _, _, rfl⟩ rfl
theorem er_BadNumbers : PySem.ErrT.ErrTTxt K mg "BadNumbers" "BadNumbers.__init__" (He.ga K ("BadNumbers" : Str)) (Hf.fI K ("BadNumbers" : Str)) :=
  c.errT (x := ("BadNumbers" : Str)) (qn := "BadNumbers.__init__") X G (List.mem_of_getElem? (i := 4) rfl) 38 39 rfl rfl rfl rfl rfl rfl rfl ⟨_, _, rfl⟩ ⟨_, _, _, _, rfl⟩ rfl
theorem er_BadOther : PySem.ErrT.ErrTTxt K mg "BadOther" "BadOther.__init__" (He.ga K ("BadOther" : Str)) (Hf.fI K ("BadOther" : Str)) :=
  c.errT (x := ("BadOther" : Str)) (qn := "BadOther.__init__") X G (List.mem_of_getElem? (i := 5) rfl) 39 40 rfl rfl rfl rfl rfl rfl rfl ⟨_, _, rfl⟩ ⟨_, _, _, _, rfl⟩ rfl
theorem er_BadRoad : PySem.ErrT.ErrTTxt K mg "BadRoad" "BadRoad.__init__" (He.ga K ("BadRoad" : Str)) (Hf.fI K ("BadRoad" : Str)) :=
  c.errT (x := ("BadRoad" : Str)) (qn := "BadRoad.__init__") X G (List.mem_of_getElem? (i := 6) rfl) 40 41 rfl rfl rfl rfl rfl rfl rfl ⟨_, _, rfl⟩ ⟨_, _, _, _, rfl⟩ rfl
theorem er_BadStep : PySem.ErrT.ErrTTxt K mg "BadStep" "BadStep.__init__" (He.ga K ("BadStep" : Str)) (Hf.fI K ("BadStep" : Str)) :=
  c.errT (x := ("BadStep" : Str)) (qn := "BadStep.__init__") X G (List.mem_of_getElem? (i := 7) rfl) 41 42 rfl rfl rfl rfl rfl rfl rfl ⟨_, _, rfl⟩ ⟨_, _, _, _, rfl⟩ rfl
theorem cls_ok : ∀ e ∈ cll, ∃ qn fI, PySem.ErrT.ErrTTxt K mg e.1 qn ((g0 K).ca e.2) fI :=
  List.forall_mem_cons.mpr ⟨⟨_, _, er_BadCorners c X G⟩,
   List.forall_mem_cons.mpr ⟨⟨_, _, er_BadCounts c X G⟩,
   List.forall_mem_cons.mpr ⟨⟨_, _, er_BadDiagonals c X G⟩,
   List.forall_mem_cons.mpr ⟨⟨_, _, er_BadMatrix c X G⟩,
   List.forall_mem_cons.mpr ⟨⟨_, _, er_BadNumbers c X G⟩,
   List.forall_mem_cons.mpr ⟨⟨_, _, er_BadOther c X G⟩,
   List.forall_mem_cons.mpr ⟨⟨_, _, er_BadRoad c X G⟩,
   List.forall_mem_cons.mpr ⟨⟨_, _, er_BadStep c X G⟩,
   List.forall_mem_nil _⟩⟩⟩⟩⟩⟩⟩⟩
theorem gl_ok : ∀ y ∈ gl, mg y = none :=
  List.forall_mem_cons.mpr ⟨He.free_ok X G (c.fact 43 (f := .free "len") rfl),
   List.forall_mem_cons.mpr ⟨He.free_ok X G (c.fact 44 (f := .free "list") rfl),
   List.forall_mem_cons.mpr ⟨He.free_ok X G (c.fact 45 (f := .free "tuple") rfl),
   List.forall_mem_cons.mpr ⟨He.free_ok X G (c.fact 46 (f := .free "int") rfl),
   List.forall_mem_cons.mpr ⟨He.free_ok X G (c.fact 47 (f := .free "sorted") rfl),
   List.forall_mem_cons.mpr ⟨He.free_ok X G (c.fact 48 (f := .free "sum") rfl),
   List.forall_mem_cons.mpr ⟨He.free_ok X G (c.fact 49 (f := .free "all") rfl),
   List.forall_mem_cons.mpr ⟨He.free_ok X G (c.fact 50 (f := .free "any") rfl),
   List.forall_mem_cons.mpr ⟨He.free_ok X G (c.fact 51 (f := .free "min") rfl),
   List.forall_mem_cons.mpr ⟨He.free_ok X G (c.fact 52 (f := .free "max") rfl),
   List.forall_mem_cons.mpr ⟨He.free_ok X G (c.fact 53 (f := .free "abs") rfl),
   List.forall_mem_cons.mpr ⟨He.free_ok X G (c.fact 54 (f := .free "dict") rfl),
   List.forall_mem_cons.mpr ⟨He.free_ok X G (c.fact 55 (f := .free "range") rfl),
   List.forall_mem_cons.mpr ⟨He.free_ok X G (c.fact 56 (f := .free "zip") rfl),
   List.forall_mem_cons.mpr ⟨He.free_ok X G (c.fact 57 (f := .free "enumerate") rfl),
   List.forall_mem_cons.mpr ⟨He.free_ok X G (c.fact 58 (f := .free "isinstance") rfl),
   List.forall_mem_cons.mpr ⟨He.free_ok X G (c.fact 59 (f := .free "str") rfl),
   List.forall_mem_cons.mpr ⟨He.free_ok X G (c.fact 60 (f := .free "bool") rfl),
   List.forall_mem_nil _⟩⟩⟩⟩⟩⟩⟩⟩⟩⟩⟩⟩⟩⟩⟩⟩⟩⟩
omit c X G in
theorem ar_ok : ∀ p ∈ Pg.prg.ar, ∃ y, (y, p.1, p.2) ∈ fnl :=
  List.forall_mem_nil _
theorem ds_ok (hC : ∀ p ∈ Hf.csOf K Sp, LamX.TabB base mg p.1 p.2) : ∀ e ∈ fnl, ∃ N ps args body scope lam, DefP tb K mg base (g0 K) e.1 e.2.1 e.2.2 N ps args body scope lam :=
  List.forall_mem_cons.mpr ⟨⟨_, _, _, _, _, _, dp_is_list c X G hC⟩,
   List.forall_mem_cons.mpr ⟨⟨_, _, _, _, _, _, dp_is_integer c X G hC⟩,
   List.forall_mem_cons.mpr ⟨⟨_, _, _, _, _, _, dp_are_integers c X G hC⟩,
   List.forall_mem_cons.mpr ⟨⟨_, _, _, _, _, _, dp_checked_matrix c X G hC⟩,
   List.forall_mem_cons.mpr ⟨⟨_, _, _, _, _, _, dp_times_of c X G hC⟩,
   List.forall_mem_cons.mpr ⟨⟨_, _, _, _, _, _, dp_product_of c X G hC⟩,
   List.forall_mem_cons.mpr ⟨⟨_, _, _, _, _, _, dp_is_road c X G hC⟩,
   List.forall_mem_cons.mpr ⟨⟨_, _, _, _, _, _, dp_checked_road c X G hC⟩,
   List.forall_mem_cons.mpr ⟨⟨_, _, _, _, _, _, dp_worth_of c X G hC⟩,
   List.forall_mem_cons.mpr ⟨⟨_, _, _, _, _, _, dp_worth c X G hC⟩,
   List.forall_mem_cons.mpr ⟨⟨_, _, _, _, _, _, dp_reduced_to c X G hC⟩,
   List.forall_mem_cons.mpr ⟨⟨_, _, _, _, _, _, dp_road_of c X G hC⟩,
   List.forall_mem_cons.mpr ⟨⟨_, _, _, _, _, _, dp__law_r_times c X G hC⟩,
   List.forall_mem_cons.mpr ⟨⟨_, _, _, _, _, _, dp__law_r_product c X G hC⟩,
   List.forall_mem_cons.mpr ⟨⟨_, _, _, _, _, _, dp__law_r_worth c X G hC⟩,
   List.forall_mem_cons.mpr ⟨⟨_, _, _, _, _, _, dp__law_c_reduced c X G hC⟩,
   List.forall_mem_cons.mpr ⟨⟨_, _, _, _, _, _, dp__law_c_road c X G hC⟩,
   List.forall_mem_cons.mpr ⟨⟨_, _, _, _, _, _, dp__law_c_odd_roads c X G hC⟩,
   List.forall_mem_cons.mpr ⟨⟨_, _, _, _, _, _, dp__law_start c X G hC⟩,
   List.forall_mem_cons.mpr ⟨⟨_, _, _, _, _, _, dp__law_draw c X G hC⟩,
   List.forall_mem_cons.mpr ⟨⟨_, _, _, _, _, _, dp__law_pick c X G hC⟩,
   List.forall_mem_cons.mpr ⟨⟨_, _, _, _, _, _, dp__law_mixed c X G hC⟩,
   List.forall_mem_cons.mpr ⟨⟨_, _, _, _, _, _, dp__law_copied c X G hC⟩,
   List.forall_mem_cons.mpr ⟨⟨_, _, _, _, _, _, dp__law_same c X G hC⟩,
   List.forall_mem_cons.mpr ⟨⟨_, _, _, _, _, _, dp__law_loose c X G hC⟩,
   List.forall_mem_cons.mpr ⟨⟨_, _, _, _, _, _, dp__law_spoilt c X G hC⟩,
   List.forall_mem_cons.mpr ⟨⟨_, _, _, _, _, _, dp__law_is_once c X G hC⟩,
   List.forall_mem_cons.mpr ⟨⟨_, _, _, _, _, _, dp__law_apart c X G hC⟩,
   List.forall_mem_cons.mpr ⟨⟨_, _, _, _, _, _, dp__law_road_right c X G hC⟩,
   List.forall_mem_cons.mpr ⟨⟨_, _, _, _, _, _, dp__law_matrix c X G hC⟩,
   List.forall_mem_cons.mpr ⟨⟨_, _, _, _, _, _, dp__law_matrix_right c X G hC⟩,
   List.forall_mem_cons.mpr ⟨⟨_, _, _, _, _, _, dp__law_refused_right c X G hC⟩,
   List.forall_mem_cons.mpr ⟨⟨_, _, _, _, _, _, dp_law c X G hC⟩,
   List.forall_mem_nil _⟩⟩⟩⟩⟩⟩⟩⟩⟩⟩⟩⟩⟩⟩⟩⟩⟩⟩⟩⟩⟩⟩⟩⟩⟩⟩⟩⟩⟩⟩⟩⟩⟩
theorem me__law_c_met (X0 : Cx) (rho : Rho) (hXK : X0.K = K) (hXm : X0.mg = mg) : MetP X0 (g0 K) ⟨100000, rho, Pg.prg.mets, Pg.prg.ar⟩ "_law_c_met" 15 :=
  c.metP (d := ⟨(("_law_c_met" : Str), none), "_law_c_met", "_law_c_met", defArgs (top 30), defBody (top 30), defScope (top 30), [], []⟩) (l := [(("BadMatrix" : Str), some ("matrix" : Str)), (("BadNumbers" : Str), some ("numbers" : Str)), (("BadCorners" : Str), some ("corners" : Str)), (("BadDiagonals" : Str), some ("diagonals" : Str)), (("BadCounts" : Str), some ("counts" : Str)), (("BadRoad" : Str), some ("road" : Str)), (("BadStep" : Str), some ("step" : Str)), (("BadOther" : Str), some ("other" : Str))]) (a := ("query" : Str)) (Ng := [("query" : Str), "e"]) X G 15 15 rfl rfl rfl rfl rfl rfl rfl (fun _ => rfl) rfl (by decide) rfl
   (List.forall_mem_cons.mpr ⟨⟨He.glo_ok X G (c.fact 38 (f := .glo "BadMatrix") rfl), fun _ => ⟨_, _, _, er_BadMatrix c X G⟩⟩,
   List.forall_mem_cons.mpr ⟨⟨He.glo_ok X G (c.fact 39 (f := .glo "BadNumbers") rfl), fun _ => ⟨_, _, _, er_BadNumbers c X G⟩⟩,
   List.forall_mem_cons.mpr ⟨⟨He.glo_ok X G (c.fact 35 (f := .glo "BadCorners") rfl), fun _ => ⟨_, _, _, er_BadCorners c X G⟩⟩,
   List.forall_mem_cons.mpr ⟨⟨He.glo_ok X G (c.fact 37 (f := .glo "BadDiagonals") rfl), fun _ => ⟨_, _, _, er_BadDiagonals c X G⟩⟩,
   List.forall_mem_cons.mpr ⟨⟨He.glo_ok X G (c.fact 36 (f := .glo "BadCounts") rfl), fun _ => ⟨_, _, _, er_BadCounts c X G⟩⟩,
   List.forall_mem_cons.mpr ⟨⟨He.glo_ok X G (c.fact 41 (f := .glo "BadRoad") rfl), fun _ => ⟨_, _, _, er_BadRoad c X G⟩⟩,
   List.forall_mem_cons.mpr ⟨⟨He.glo_ok X G (c.fact 42 (f := .glo "BadStep") rfl), fun _ => ⟨_, _, _, er_BadStep c X G⟩⟩,
   List.forall_mem_cons.mpr ⟨⟨He.glo_ok X G (c.fact 40 (f := .glo "BadOther") rfl), fun _ => ⟨_, _, _, er_BadOther c X G⟩⟩,
   List.forall_mem_nil _⟩⟩⟩⟩⟩⟩⟩⟩)
   ⟨rfl, rfl, rfl, by decide +kernel, rfl, by decide +kernel, by decide +kernel⟩ rfl rfl rfl rfl rfl rfl rfl (fun _ _ _ _ _ _ us hl => match us, hl with | [_], _ => rfl) (by kernel_rfl) X0 hXK hXm
theorem mets_ok : ∀ e ∈ ml, ∀ (X0 : Cx) rho, X0.K = K → X0.mg = mg → MetP X0 (g0 K) ⟨100000, rho, Pg.prg.mets, Pg.prg.ar⟩ e.1 e.2 :=
  List.forall_mem_cons.mpr ⟨me__law_c_met c X G,
   List.forall_mem_nil _⟩
theorem mfn_ok : ∀ e ∈ ml, mg e.1 = some (.ref ((g0 K).fa e.2)) ∧ ∃ o, K.lookup ((g0 K).fa e.2) = some o ∧ o.cls = .type "function" :=
  List.forall_mem_cons.mpr ⟨⟨He.glo_ok X G (c.fact 15 (f := .glo "_law_c_met") rfl), c.isFn (x := ("_law_c_met" : Str)) (List.mem_of_getElem? (i := 33) rfl)⟩,
   List.forall_mem_nil _⟩
end
open PySem PySem.W PySem.Calls PyProof.Rows in
set_option maxHeartbeats 0 in
theorem holds (plain : ∀ ns : List Int, ns.length ≤ 63 → (∀ z ∈ ns, Builtin.Int.intBits z ≤ 1048576) → ∃ sh', callF Pg.prg 100000 (60 + 1) 33 [.ro (ns.map .int)] [] = .ok (.fr (.bl true)) sh') : PySem.Challenge.rw_roundlengths_k18_whole_roads.Holds := by
  w_on; o_law
  refine HandSHeadRun.head_any (r := OpenLaw.row PySem.Challenge.rw_roundlengths_k18_whole_roads) (q := view (OpenLaw.row PySem.Challenge.rw_roundlengths_k18_whole_roads).prog [48]) (H := hk) (ob := ob) (M := 4000) (loose := names) (d := HandSHeadRun.topDef (OpenLaw.row PySem.Challenge.rw_roundlengths_k18_whole_roads).prog 48) (kwd := []) ob_eq
    (by kernel_rfl) (fun s => by kernel_rfl) run (by kernel_rfl) (by kernel_rfl) (by kernel_rfl) (by rfl) (by first | assumption | decide +kernel) (by decide +kernel) ⟨rfl, rfl, rfl, rfl, rfl, by decide +kernel⟩ ?hw ?hc
  case hw => w_witness2
  case hc =>
    refine Hf.walk_ofTE (l := PySem.Challenge.rw_roundlengths_k18_whole_roads) (n := 63) (k := kk (60 + 1)) (x := "script") (CX := fun w => L2.CX (PySem.Challenge.rw_roundlengths_k18_whole_roads).prog w) rfl (by decide) (by kernel_rfl) ⟨rfl, by decide, by decide⟩ ?F (fun w H s e s' z => Hf.cx_no H s e s' z)
    intro w mg fa h Y G hmg0
    obtain ⟨K, h0, KX, k0, c⟩ := Y
    have hmg : mg ("law" : PySem.Str) = some (.ref fa) := by
      have e : (HandSHeadRun.topDef (OpenLaw.row PySem.Challenge.rw_roundlengths_k18_whole_roads).prog 48).name = ("law" : PySem.Str) := by kernel_rfl
      rw [← e]
      exact hmg0
    refine ⟨K, KX, Hf.law_at (S := Sp) (t := tb) (g := g0 K) (x := 60) (f := 33) (N := N_law) (j := 33) (d := ⟨(("law" : PySem.Str), none), "law", "law", defArgs (top 48), defBody (top 48), defScope (top 48), [], []⟩) KX G k0 c rfl rfl hmg (fun y i hm => cls_ok c KX G (y, i) hm) (fun y hy => gl_ok c KX G y hy) (fun y i hm => mets_ok c KX G (y, i) hm) ar_ok (fun y i hm => mfn_ok c KX G (y, i) hm)
      (fun base hC => ⟨ds_ok c KX G hC, dp_law c KX G hC⟩) 33 rfl rfl rfl rfl rfl rfl (fun _ _ _ _ _ _ us hl => match us, hl with | [_], _ => rfl) plain⟩
end Q
end
section
set_option linter.all false
set_option maxRecDepth 100000
set_option maxHeartbeats 8000000
theorem PySem.Challenge.cw_roundlengths_k18_whole_roads_holds : PySem.Challenge.rw_roundlengths_k18_whole_roads.Holds :=
  Q.holds fun ns hz _ => K18.law_ok (n := 54) (by omega) hz
end
