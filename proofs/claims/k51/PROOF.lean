import PyProof.Rows.All
import Wide.All
import OpenK.AllK
import Wide.FinOn
import HandS.ForMost
import HandS.Exc
import HandS.ExcOwn
import HandS.ExcInit
import HandS.ExcField
import HandS.TryMany
import HandS.IsInst
import HandS.Wide
import HandS.More
import HandS.Conv
import HandS.RevRange
import PyProof.ReprRoads
import HandS.WordsExc
import HandS.Defaults
import HandS.HeadHook1
import HandS.HeadHook2
import HandS.HeadHook3
import HandS.HeadHook4
import HandS.Head0
import HandS.Head1
import HandS.Head2
import PySem.Challenge.RW_knitrows_k51_changes_spread
set_option Elab.async false
set_option linter.all false
set_option maxRecDepth 100000
set_option maxHeartbeats 8000000
/-! KnA: trees without places, their check against the text, their readings. -/
namespace Kn
open PySem PySem.Spec PyProof.Rows L2

/-! ### the trees -/
/-- built-in functions and types that are called -/
inductive Bf where
  | len | max | min | abs | sum | repr | sorted | isinstance | int | str | list | tuple | dict | bool
  deriving DecidableEq
/-- methods of built-in types -/
inductive Bm where
  | append | extend | pop | popAt | index | clear | insert
  deriving DecidableEq
mutual
inductive E where
  | var (i : Nat)
  | glb (x : Str) (v : V)
  | bty (b : Bf)
  | cst (v : V)
  | bin (op : Operator) (a b : E)
  | neg (a : E)
  | cmp (op : CmpOp) (a b : E)
  | cm2 (o1 o2 : CmpOp) (a b c : E)
  | and (a b : E)
  | or (a b : E)
  | not (a : E)
  | ite (c : T) (a b : E)
  | lst (es : Es)
  | tup (es : Es)
  | sub (a i : E)
  | slc (a : E) (lo hi : Es)
  | call (x : Str) (sp : Sp) (dv : List V) (es : Es)
  | calk (x : Str) (sp : Sp) (g : List V → List V → List V) (es : Es) (ks : List Str) (kes : Es)
  | bif (b : Bf) (es : Es)
  | bm (m : Bm) (o : E) (es : Es)
  | lc (elt : E) (tg : Tg) (src : Src) (cond : Ts) (own : List Nat)
inductive Es where
  | nil
  | cons (e : E) (es : Es)
inductive T where
  | val (e : E)
  | cmp (op : CmpOp) (a b : E)
  | cm2 (o1 o2 : CmpOp) (a b c : E)
  | and (a b : T)
  | or (a b : T)
  | not (a : T)
inductive Ts where
  | nil
  | one (t : T)
inductive Tg where
  | nm (i : Nat)
  | tp (is : Tgs)
  | ix (o i : E)
inductive Tgs where
  | nil
  | cons (t : Tg) (ts : Tgs)
inductive Src where
  | plain (e : E)
  | rng1 (a : E)
  | rng2 (a b : E)
end

def Tgs.len : Tgs → Nat
  | .nil => 0
  | .cons _ ts => ts.len + 1

/-! ### the check -/
structure CC where
  N : List Str
  sc : Scope
  cl : Bool
def visB (sc : Scope) (x : Str) : Bool := match sc.names.lookup x with
  | some .local => true
  | some .cell => true
  | some .free => true
  | _ => false
def glB (sc : Scope) (x : Str) : Bool := decide (sc.names.lookup x = some .globalImplicit)
def okNm (x : Str) : Bool := !(x == ("__debug__" : Str)) && !(x == ("__classdict__" : Str))
def stB (c : CC) (x : Str) : Bool := match c.sc.names.lookup x with
  | some .local => true
  | some .cell => c.cl
  | _ => false
def notStar : Expr → Bool
  | .Starred _ _ => false
  | _ => true
/-- not a comprehension, a slice, a starred thing or a call without arguments of a bare name -/
def plainE : Expr → Bool
  | .Name _ _ => true
  | .Constant _ _ _ => true
  | .Subscript _ _ _ => true
  | .Attribute _ _ _ => true
  | .Call (.Name x _) _ _ _ => !(x == ("super" : Str))
  | .Call (.Attribute _ _ _) _ _ _ => true
  | .BinOp _ _ _ _ => true
  | _ => false
/-- an expression whose truth is asked of its value -/
def truE : Expr → Bool
  | .Name _ _ => true
  | .Constant _ _ _ => true
  | .Subscript _ _ _ => true
  | .Attribute _ _ _ => true
  | .Call _ _ _ _ => true
  | .BinOp _ _ _ _ => true
  | _ => false
def ixE : Expr → Bool
  | .Slice _ _ _ _ => false
  | _ => true
def cstB : V → Const → Bool
  | .int i, .int j => decide (i = j)
  | .bl a, .bool b => decide (a = b)
  | .non, .none => true
  | .str x, .str y => decide (x = y)
  | _, _ => false
def bfName : Bf → Str
  | .len => "len" | .max => "max" | .min => "min" | .abs => "abs" | .sum => "sum" | .repr => "repr" | .sorted => "sorted" | .isinstance => "isinstance"
  | .int => "int" | .str => "str" | .list => "list" | .tuple => "tuple" | .dict => "dict" | .bool => "bool"
def bmName : Bm → Str
  | .append => "append" | .extend => "extend" | .pop => "pop" | .popAt => "pop" | .index => "index" | .clear => "clear" | .insert => "insert"
def nmOf (N : List Str) (i : Nat) : Str := (N[i]?).getD Str.empty
def ownOf (N : List Str) (is : List Nat) : List (Str × Nat) := is.map fun i => (nmOf N i, i)
def CC.blk (c : CC) (scope : Scope) : CC := ⟨c.N, relS scope c.sc, false⟩
def isGl (c : CC) (f : Expr) (x : Str) : Bool := match f with
  | .Name y _ => decide (y = x) && glB c.sc x && okNm x
  | _ => false
def isStr0 : Expr → Bool
  | .Starred _ _ => false
  | _ => true
def mkKw (ks : List Str) (kws : List Keyword) : Bool := match ks, kws with
  | [], [] => true
  | k :: ks, ⟨some y, _, _⟩ :: kws => decide (y = k) && mkKw ks kws
  | _, _ => false

mutual
def chkE (c : CC) : E → Expr → Bool
  | .var i, e => (match e with | .Name x _ => decide (c.N[i]? = some x) && visB c.sc x && okNm x | _ => false)
  | .glb y _, e => isGl c e y
  | .bty b, e => isGl c e (bfName b)
  | .cst v, e => (match e with | .Constant k _ _ => cstB v k | _ => false)
  | .bin op a b, e => (match e with | .BinOp x o y _ => decide (op = o) && chkE c a x && chkE c b y | _ => false)
  | .neg a, e => (match e with | .UnaryOp .USub x _ => chkE c a x | _ => false)
  | .cmp op a b, e => (match e with | .Compare x [o] [y] _ => decide (op = o) && chkE c a x && chkE c b y && !(behindInMarks op y) | _ => false)
  | .cm2 o1 o2 a b d, e => (match e with | .Compare x [p1, p2] [y, z] _ => decide (o1 = p1) && decide (o2 = p2) && chkE c a x && chkE c b y && chkE c d z && !(lastMarks [o1, o2] [y, z]) | _ => false)
  | .and a b, e => (match e with
    | .BoolOp .And [x, y] _ => chkE c a x && chkE c b y
    | .BoolOp .And (x :: y :: z :: r) p => chkE c a x && chkE c b (.BoolOp .And (y :: z :: r) p)
    | _ => false)
  | .or a b, e => (match e with
    | .BoolOp .Or [x, y] _ => chkE c a x && chkE c b y
    | .BoolOp .Or (x :: y :: z :: r) p => chkE c a x && chkE c b (.BoolOp .Or (y :: z :: r) p)
    | _ => false)
  | .not a, e => (match e with | .UnaryOp .Not x _ => chkE c a x | _ => false)
  | .ite t a b, e => (match e with | .IfExp x y z _ => chkT c t x && chkE c a y && chkE c b z | _ => false)
  | .lst es, e => (match e with | .List xs _ => chkEs c es xs | _ => false)
  | .tup es, e => (match e with | .Tuple xs _ _ => chkEs c es xs | _ => false)
  | .sub a i, e => (match e with | .Subscript x y _ => chkE c a x && chkE c i y && ixE y | _ => false)
  | .slc a lo hi, e => (match e with | .Subscript x (.Slice l h none _) _ => chkE c a x && chkO c lo l && chkO c hi h | _ => false)
  | .call x _ _ es, e => (match e with | .Call f xs [] _ => isGl c f x && chkEs c es xs | _ => false)
  | .calk x _ _ es ks kes, e => (match e with | .Call f xs kws _ => isGl c f x && chkEs c es xs && mkKw ks kws && !kws.isEmpty && chkEs c kes (kws.map (·.value)) | _ => false)
  | .bif b es, e => (match e with | .Call f xs [] _ => isGl c f (bfName b) && chkEs c es xs && !xs.isEmpty | _ => false)
  | .bm m o es, e => (match e with | .Call (.Attribute x y ap) xs [] p => decide (y = bmName m) && chkE c o x && chkEs c es xs && decide (ap.endLine = p.line) && plainE x && decide (xs.length < 25) | _ => false)
  | .lc elt tg src cond own, e => (match e with
    | .ListComp x [⟨t, i, fs, a⟩] scope _ => decide (a = 0) && chkSrc c src i && chkTg (c.blk scope) tg t && chkTs (c.blk scope) cond fs && chkE (c.blk scope) elt x && blkC c.N c.sc scope (ownOf c.N own)
    | _ => false)
def chkEs (c : CC) : Es → List Expr → Bool
  | .nil, xs => xs.isEmpty
  | .cons e es, xs => (match xs with | x :: r => notStar x && chkE c e x && chkEs c es r | [] => false)
def chkO (c : CC) : Es → Option Expr → Bool
  | .nil, x => x.isNone
  | .cons e _, x => (match x with | some y => chkE c e y | none => false)
def chkT (c : CC) : T → Expr → Bool
  | .val e, x => truE x && chkE c e x
  | .cmp op a b, e => (match e with | .Compare x [o] [y] _ => decide (op = o) && chkE c a x && chkE c b y && !(behindInMarks op y) | _ => false)
  | .cm2 o1 o2 a b d, e => (match e with | .Compare x [p1, p2] [y, z] _ => decide (o1 = p1) && decide (o2 = p2) && chkE c a x && chkE c b y && chkE c d z && !(lastMarks [o1, o2] [y, z]) | _ => false)
  | .and a b, e => (match e with
    | .BoolOp .And [x, y] _ => chkT c a x && chkT c b y
    | .BoolOp .And (x :: y :: z :: r) p => chkT c a x && chkT c b (.BoolOp .And (y :: z :: r) p)
    | _ => false)
  | .or a b, e => (match e with
    | .BoolOp .Or [x, y] _ => chkT c a x && chkT c b y
    | .BoolOp .Or (x :: y :: z :: r) p => chkT c a x && chkT c b (.BoolOp .Or (y :: z :: r) p)
    | _ => false)
  | .not a, e => (match e with | .UnaryOp .Not x _ => chkT c a x | _ => false)
def chkTs (c : CC) : Ts → List Expr → Bool
  | .nil, xs => xs.isEmpty
  | .one t, xs => (match xs with | [x] => chkT c t x | _ => false)
def chkTg (c : CC) : Tg → Expr → Bool
  | .nm i, e => (match e with | .Name x _ => decide (c.N[i]? = some x) && stB c x | _ => false)
  | .tp ts, e => (match e with | .Tuple xs _ _ => chkTgs c ts xs | _ => false)
  | .ix o i, e => (match e with | .Subscript x y _ => chkE c o x && chkE c i y && ixE y | _ => false)
def chkTgs (c : CC) : Tgs → List Expr → Bool
  | .nil, xs => xs.isEmpty
  | .cons t ts, xs => (match xs with | x :: r => notStar x && chkTg c t x && chkTgs c ts r | [] => false)
def chkSrc (c : CC) : Src → Expr → Bool
  | .plain e, x => plainE x && chkE c e x
  | .rng1 a, e => (match e with | .Call f [x] [] _ => isGl c f "range" && notStar x && chkE c a x | _ => false)
  | .rng2 a b, e => (match e with | .Call f [x, y] [] _ => isGl c f "range" && notStar x && notStar y && chkE c a x && chkE c b y | _ => false)
end
end Kn

/-! KnB: what the trees read as. -/
namespace Kn
open PySem PySem.Spec PyProof.Rows L2

/-- the module as the readings know it -/
structure Gm where
  P : Program
  w : World
  K : PySem.W.Frag
  mg : Str → Option Value
  base : Heap
abbrev NoW : WX := fun _ _ _ _ => False

/-! ### operators, by values -/
def rAddG (K : PySem.W.Frag) : R2 := fun x y H Q => match x, y with
  | .int i, .int j => Q (.int (i + j)) H
  | .str a, .str b => a.length + b.length ≤ sizeLine ∧ Q (.str (a ++ b)) H
  | .ref p, .ref q => rCat (.ref p) (.ref q) H Q
  | _, _ => False
def rSubG : R2 := fun x y H Q => match x, y with
  | .int i, .int j => Q (.int (i - j)) H
  | _, _ => False
def rMulG : R2 := fun x y H Q => match x, y with
  | .int i, .int j => CMul i j ∧ Q (.int (i * j)) H
  | .ref p, .int k => rRep (.ref p) (.int k) H Q
  | _, _ => False
def rDivG : R2 := fun x y H Q => match x, y with
  | .int i, .int j => (0 < j ∧ j < 2 ^ 62) ∧ Q (.int (i / j)) H
  | _, _ => False
def rModG : R2 := fun x y H Q => match x, y with
  | .int i, .int j => 0 < j ∧ Q (.int (i % j)) H
  | _, _ => False
def rPowG : R2 := fun x y H Q => match x, y with
  | .int i, .int j => CPow i j ∧ Q (.int (i ^ j.toNat)) H
  | _, _ => False
def rBin (G : Gm) : Operator → R2
  | .Add => rAddG G.K
  | .Sub => rSubG
  | .Mult => rMulG
  | .FloorDiv => rDivG
  | .Mod => rModG
  | .Pow => rPowG
  | _ => fun _ _ _ _ => False
def rNegG : V → Hp → VK → Prop := fun x H Q => match x with
  | .int i => Q (.int (-i)) H
  | _ => False
def rEqG (G : Gm) : R2 := fun x y H Q => rEq x y H Q ∨ rEqD G.K x y H Q
def rNeG (G : Gm) : R2 := fun x y H Q => rNe x y H Q ∨ rNeD G.K x y H Q
def rIntB (p : Int → Int → Bool) : R2 := fun x y H Q => match x, y with
  | .int i, .int j => Q (.bl (p i j)) H
  | _, _ => False
def rIsG : R2 := fun x y H Q => match y with
  | .non => Q (.bl (decide (x = .non))) H
  | _ => False
def rIsNotG : R2 := fun x y H Q => match y with
  | .non => Q (.bl (!decide (x = .non))) H
  | _ => False
/-- a text in a dict of the module -/
def rInKd (G : Gm) : R2 := fun x y H Q => ∃ (z : Str) (d : Addr) (r : Option Value) (es : Array DictEntry) (n : Nat), x = .str z ∧ y = .ref d ∧ KDict G.K G.w d es n ∧ PySem.W.nsIn G.K d z = some r ∧ Q (.bl r.isSome) H
def rInDk (k : Bool) : R2 := fun x y H Q => ∃ a o, y = .ref a ∧ DGet H a x o ∧ Q (.bl (o.isSome ^^ k)) H
def rInG (G : Gm) : R2 := fun x y H Q => rInKd G x y H Q ∨ rIn G.K false x y H Q ∨ rInDk false x y H Q
def rNotInG (G : Gm) : R2 := fun x y H Q => rIn G.K true x y H Q ∨ rInDk true x y H Q
def rCmp (G : Gm) : CmpOp → R2
  | .Eq => rEqG G
  | .NotEq => rNeG G
  | .Lt => rIntB fun i j => decide (i < j)
  | .LtE => rIntB fun i j => decide (i ≤ j)
  | .Gt => rIntB fun i j => decide (j < i)
  | .GtE => rIntB fun i j => decide (j ≤ i)
  | .Is => rIsG
  | .IsNot => rIsNotG
  | .In => rInG G
  | .NotIn => rNotInG G
/-- a[i] -/
def rIxDk : R2 := fun x y H Q => ∃ a v, x = .ref a ∧ DGet H a y (some v) ∧ Q v H
def rIxG (G : Gm) : R2 := fun x y H Q => rIx G.K x y H Q ∨ rIxD G.K G.w x y H Q ∨ rIxDk x y H Q
def rSlG (G : Gm) : V → Option Int → Option Int → Hp → VK → Prop := rSlL G.K

/-! ### built-in calls, by values -/
def tabIsi (a b : String) : Bool := decide (a = b) || (decide (a = "bool") && decide (b = "int"))
def tyS : V → Option String
  | .non => some "NoneType"
  | .bl _ => some "bool"
  | .int _ => some "int"
  | .str _ => some "str"
  | _ => none
def okTy (n : String) : Bool := decide (n = "int") || decide (n = "str") || decide (n = "bool") || decide (n = "list") || decide (n = "tuple") || decide (n = "dict")
/-- the kind of what stands at an address -/
def kindAt (H : Hp) (a : Addr) (n : String) : Prop := match H a with
  | some (.lst _) => n = "list"
  | some (.tup _) => n = "tuple"
  | some (.dK _) => n = "dict"
  | _ => False
def rIsiG (G : Gm) : List V → Hp → VK → Prop := fun xs H Q => match xs with
  | [x, .ty n] => okTy n = true ∧ (match x with
    | .ref a => ∃ m, kindAt H a m ∧ Q (.bl (tabIsi m n)) H
    | x => ∃ m, tyS x = some m ∧ Q (.bl (tabIsi m n)) H)
  | _ => False
def rLenG (G : Gm) : List V → Hp → VK → Prop := fun xs H Q => match xs with
  | [.str z] => z.length ≤ sizeLine ∧ Q (.int z.length) H
  | [.ref p] => (∃ ys, SqL G.K H p ys ∧ Q (.int ys.length) H) ∨ (∃ ys, SqT G.K H p ys ∧ Q (.int ys.length) H) ∨ ∃ kvs, H p = some (.dK kvs) ∧ Q (.int kvs.length) H
  | _ => False
def rMaxG (G : Gm) : List V → Hp → VK → Prop := fun xs H Q => match xs with
  | [.int i, .int j] => Q (.int (if j > i then j else i)) H
  | [.ref a] => rMax G.K [.ref a] H Q
  | _ => False
def rMinG (G : Gm) : List V → Hp → VK → Prop := fun xs H Q => match xs with
  | [.int i, .int j] => Q (.int (if j < i then j else i)) H
  | [.ref a] => rMin G.K [.ref a] H Q
  | _ => False
def rIntG : List V → Hp → VK → Prop := fun xs H Q => match xs with
  | [.int i] => Q (.int i) H
  | [.bl k] => Q (.int (if k then 1 else 0)) H
  | _ => False
def rStrG : List V → Hp → VK → Prop := fun xs H Q => match xs with
  | [.str a] => Q (.str a) H
  | [.int i] => i.natAbs.log2 < 1920 ∧ Q (.str (toString i)) H
  | _ => False
def rReprG (G : Gm) : List V → Hp → VK → Prop := fun xs H Q => match xs with
  | [x] => ∃ d, Dp G.K H x d ∧ d.showable = true ∧ d.hasDict = false ∧ d.depth ≤ 60 ∧ d.shown.length ≤ sizeLine ∧ Q (.str d.shown) H
  | _ => False
def rAbsG : List V → Hp → VK → Prop := fun xs H Q => ∃ i, xs = [.int i] ∧ Q (.int (if i < 0 then -i else i)) H
def rSortG (G : Gm) : List V → Hp → VK → Prop := fun xs H Q => rSorted G.K xs H Q ∨ rSortedS G.K xs H Q
def rListG (G : Gm) : List V → Hp → VK → Prop := fun xs H Q => ∃ p ys, xs = [.ref p] ∧ (SqL G.K H p ys ∨ SqT G.K H p ys) ∧ ∀ l, H l = none → Q (.ref l) (upd H l (.lst ys))
def rTupG (G : Gm) : List V → Hp → VK → Prop := fun xs H Q => ∃ p ys, xs = [.ref p] ∧ ((SqL G.K H p ys ∧ ∀ l, H l = none → Q (.ref l) (upd H l (.tup ys))) ∨ (SqT G.K H p ys ∧ Q (.ref p) H))
def rDictG (G : Gm) : List V → Hp → VK → Prop := fun xs H Q => ∃ (a : Addr) (ps : List Addr) (kvs : List (Key × V)), xs = [.ref a] ∧ SqL G.K H a (ps.map V.ref) ∧ Paired (fun p kv => SqT G.K H p [kV kv.1, kv.2]) ps kvs ∧
      ∀ p, H p = none → Q (.ref p) (upd H p (.dK (mergeK [] kvs)))
def rBf (G : Gm) : Bf → List V → Hp → VK → Prop
  | .len => rLenG G
  | .max => rMaxG G
  | .min => rMinG G
  | .abs => rAbsG
  | .sum => rSum G.K
  | .repr => rReprG G
  | .sorted => rSortG G
  | .isinstance => rIsiG G
  | .int => rIntG
  | .str => rStrG
  | .list => rListG G
  | .tuple => rTupG G
  | .dict => rDictG G
  | .bool => fun _ _ _ => False
/-- methods of lists -/
def rBm (G : Gm) : Bm → V → List V → Hp → VK → Prop
  | .append => rAppend
  | .extend => rExtend
  | .pop => rPop
  | .popAt => rPopAt
  | .index => rIndex G.K
  | .clear => rClear
  | .insert => fun x vs H Q => ∃ (l : Addr) (xs : List V) (i : Int) (y : V), x = .ref l ∧ vs = [.int i, y] ∧ False
def bmTy : Bm → String := fun _ => "list"

def btyV (b : Bf) : V := match b with
  | .int => .ty "int" | .str => .ty "str" | .list => .ty "list" | .tuple => .ty "tuple" | .dict => .ty "dict" | .bool => .ty "bool"
  | _ => .non
def btyB (b : Bf) : Bool := match b with
  | .int => true | .str => true | .list => true | .tuple => true | .dict => true | .bool => true
  | _ => false

/-! ### the readings -/
/-- the truth of a value, as a test -/
def tTruG (K : PySem.W.Frag) (te : TE) : TT := fun σ H Q => te σ H fun x H' => ∃ k, TruV K x H' k ∧ Q k H'
def gIxG : TSet := fun o i v H Q => rSetL o i v H Q

/-- a list or a tuple, walked -/
def iSeq (K : PySem.W.Frag) (te : TE) : TI := fun σ H R => te σ H fun x H1 => ∃ a, x = .ref a ∧ (((∃ xs, SqL K H1 a xs) ∧ R (Itl K a) H1) ∨ ((∃ xs, SqT K H1 a xs) ∧ R (Itt K a) H1))
mutual
def rdE (G : Gm) : E → WX → TE
  | .var i, _ => tVar i
  | .glb _ v, _ => tC v
  | .bty b, _ => tC (btyV b)
  | .cst v, _ => tC v
  | .bin op a b, W => tOp (rBin G op) (rdE G a W) (rdE G b W)
  | .neg a, W => tUn rNegG (rdE G a W)
  | .cmp op a b, W => tOp (rCmp G op) (rdE G a W) (rdE G b W)
  | .cm2 o1 o2 a b d, W => tChain (rCmp G o1) (rCmp G o2) (rdE G a W) (rdE G b W) (rdE G d W)
  | .and a b, W => tAndV (rdE G a W) (rdE G b W)
  | .or a b, W => tOrV (rdE G a W) (rdE G b W)
  | .not a, W => tNotV (rdE G a W)
  | .ite t a b, W => tIf (rdT G t W) (rdE G a W) (rdE G b W)
  | .lst es, W => tLst (rdEs G es W)
  | .tup es, W => tTup (rdEs G es W)
  | .sub a i, W => tOp (rIxG G) (rdE G a W) (rdE G i W)
  | .slc a lo hi, W => tSl (rSlG G) (rdE G a W) (rdO G lo W) (rdO G hi W)
  | .call _ sp dv es, W => fun σ H Q => rdEs G es W σ H fun vs H1 => sp (vs ++ dv) H1 Q (fun cls d H' => W cls d σ H')
  | .calk _ sp g es _ kes, W => fun σ H Q => rdEs G es W σ H fun vs H1 => rdEs G kes W σ H1 fun zs H2 => sp (g vs zs) H2 Q (fun cls d H' => W cls d σ H')
  | .bif b es, W => tCB (rBf G b) (rdEs G es W)
  | .bm m o es, W => (match es with
    | .nil => tBM0 G.K (bmTy m) (rBm G m) (rdE G o W)
    | .cons e es => tBM G.K (bmTy m) (rBm G m) (rdE G o W) (tCons (rdE G e W) (rdEs G es W)))
  | .lc elt tg src cond own, W => tLc (rdSrc G src W) (rdTg G tg NoW) (rdTs G cond NoW) (rdE G elt NoW) own
def rdEs (G : Gm) : Es → WX → TA
  | .nil, _ => tNil
  | .cons e es, W => tCons (rdE G e W) (rdEs G es W)
def rdO (G : Gm) : Es → WX → TO
  | .nil, _ => tNoPart
  | .cons e _, W => tPart (rdE G e W)
def rdT (G : Gm) : T → WX → TT
  | .val e, W => tTruG G.K (rdE G e W)
  | .cmp op a b, W => tTest (tOp (rCmp G op) (rdE G a W) (rdE G b W))
  | .cm2 o1 o2 a b d, W => tTest (tChain (rCmp G o1) (rCmp G o2) (rdE G a W) (rdE G b W) (rdE G d W))
  | .and a b, W => tAnd (rdT G a W) (rdT G b W)
  | .or a b, W => tOr (rdT G a W) (rdT G b W)
  | .not a, W => tNot (rdT G a W)
def rdTs (G : Gm) : Ts → WX → TT
  | .nil, _ => tYes
  | .one t, W => rdT G t W
def rdTg (G : Gm) : Tg → WX → TG
  | .nm i, _ => gName i
  | .tp ts, W => fun v σ H Q => ∃ a xs, v = .ref a ∧ SqT G.K H a xs ∧ xs.length = Tgs.len ts ∧ rdTgs G ts W xs σ H Q
  | .ix o i, W => gSub (rdE G o W) (rdE G i W) gIxG
def rdTgs (G : Gm) : Tgs → WX → TGs
  | .nil, _ => gNil
  | .cons t ts, W => gCons (rdTg G t W) (rdTgs G ts W)
def rdSrc (G : Gm) : Src → WX → TI
  | .plain e, W => iSeq G.K (rdE G e W)
  | .rng1 a, W => iRng1 (tCons (rdE G a W) tNil)
  | .rng2 a b, W => iRng2 (tCons (rdE G a W) (tCons (rdE G b W) tNil))
end
end Kn

/-! KnC: the readings hold (operators, calls, contexts). -/
namespace Kn
open PySem PySem.Spec PyProof.Rows L2

theorem PE.imp {X : Cx} {e : Expr} {t t' : TE} (h : PE X e t) (hi : ∀ σ H Q, t' σ H Q → t σ H Q) : PE X e t' := ⟨fun pins s σ H Q I hw => h.run pins s σ H Q I (hi σ H Q hw)⟩
theorem PT.imp {X : Cx} {e : Expr} {t t' : TT} (h : PT X e t) (hi : ∀ σ H Q, t' σ H Q → t σ H Q) : PT X e t' := ⟨fun pins s σ H Q I hw => h.run pins s σ H Q I (hi σ H Q hw)⟩
theorem PE.orr {X : Cx} {e : Expr} {t t' : TE} (h : PE X e t) (h' : PE X e t') : PE X e (fun σ H Q => t σ H Q ∨ t' σ H Q) := ⟨fun pins s σ H Q I hw => hw.elim (h.run pins s σ H Q I) (h'.run pins s σ H Q I)⟩
theorem PI.orr {X : Cx} {tg e : Expr} {t t' : TI} (h : PI X tg e t) (h' : PI X tg e t') : PI X tg e (fun σ H R => t σ H R ∨ t' σ H R) := ⟨fun pins s σ H R I hw => hw.elim (h.run pins s σ H R I) (h'.run pins s σ H R I)⟩
theorem PE.given {X : Cx} {e : Expr} {t : TE} {p : Prop} (h : p → PE X e t) : PE X e (fun σ H Q => p ∧ t σ H Q) := ⟨fun pins s σ H Q I hw => (h hw.1).run pins s σ H Q I hw.2⟩
theorem PI.given {X : Cx} {tg e : Expr} {t : TI} {p : Prop} (h : p → PI X tg e t) : PI X tg e (fun σ H R => p ∧ t σ H R) := ⟨fun pins s σ H R I hw => (h hw.1).run pins s σ H R I hw.2⟩

/-- the module of a context -/
abbrev gm (X : Cx) : Gm := ⟨X.prog, X.w, X.K, X.mg, X.base⟩

section
variable {X : Cx} {n : Nat}
theorem OpR.imp {f : Value → Value → Sem Value} {r r' : R2} (h : OpR X f r) (hi : ∀ x y H Q, r' x y H Q → r x y H Q) : OpR X f r' := fun pins s σ H x y v u Q I rx ry hw => h pins s σ H x y v u Q I rx ry (hi _ _ _ _ hw)
theorem CallR.imp {f : Value} {r r' : List V → Hp → VK → Prop} (h : CallR X f r) (hi : ∀ xs H Q, r' xs H Q → r xs H Q) : CallR X f r' := fun pins s σ H xs us Q I rx hw => h pins s σ H xs us Q I rx (hi _ _ _ hw)
theorem OpR.no {f : Value → Value → Sem Value} : OpR X f (fun _ _ _ _ => False) := fun pins s σ H x y v u Q I rx ry hw => hw.elim

theorem op_addG : OpR X (binaryOp .Add) (rAddG X.K) := OpR.imp (op_add.or (op_add_str.or op_cat)) fun x y H Q h => by
  unfold rAddG at h
  split at h
  · exact .inl ⟨_, _, rfl, rfl, h⟩
  · exact .inr (.inl ⟨_, _, rfl, rfl, h.1, h.2⟩)
  · exact .inr (.inr h)
  · exact h.elim
theorem op_subG : OpR X (binaryOp .Sub) rSubG := OpR.imp op_sub fun x y H Q h => by
  unfold rSubG at h
  split at h
  · exact ⟨_, _, rfl, rfl, h⟩
  · exact h.elim
theorem op_mulG : OpR X (binaryOp .Mult) rMulG := OpR.imp (op_mul.or op_rep) fun x y H Q h => by
  unfold rMulG at h
  split at h
  · exact .inl ⟨_, _, rfl, rfl, h.1, h.2⟩
  · exact .inr h
  · exact h.elim
theorem divW_of {i j : Int} (h : 0 < j ∧ j < 2 ^ 62) : CDivW i j := by
  refine wide_div (b := 62) h.1 ?_ (by decide) (by decide)
  have h1 := h.1
  have h2 := h.2
  have e : ((2 : Int) ^ 62) = 4611686018427387904 := by decide
  have e2 : ((2 : Nat) ^ 62) = 4611686018427387904 := by decide
  rw [e] at h2
  rw [e2]
  omega
theorem op_divG : OpR X (binaryOp .FloorDiv) rDivG := OpR.imp op_fdivW fun x y H Q h => by
  unfold rDivG at h
  split at h
  · exact ⟨_, _, rfl, rfl, divW_of h.1, h.2⟩
  · exact h.elim
theorem op_modG : OpR X (binaryOp .Mod) rModG := OpR.imp op_mod fun x y H Q h => by
  unfold rModG at h
  split at h
  · exact ⟨_, _, rfl, rfl, h.1, h.2⟩
  · exact h.elim
theorem op_powG : OpR X (binaryOp .Pow) rPowG := OpR.imp op_pow fun x y H Q h => by
  unfold rPowG at h
  split at h
  · exact ⟨_, _, rfl, rfl, h.1, h.2⟩
  · exact h.elim
theorem op_binG (op : Operator) : OpR X (binaryOp op) (rBin (gm X) op) := by
  cases op <;> first | exact op_addG | exact op_subG | exact op_mulG | exact op_divG | exact op_modG | exact op_powG | exact OpR.no
theorem un_negG : UnR X (unaryOp .USub) rNegG := fun pins s σ H x v Q I rx h => by
  refine un_neg pins s σ H x v Q I rx ?_
  unfold rNegG at h
  split at h
  · exact ⟨_, rfl, h⟩
  · exact h.elim

theorem op_intB {op : CmpOp} {p : Int → Int → Bool} (h : OpR X (compareOp op) (rI0 fun i j => .bl (p i j))) : OpR X (compareOp op) (rIntB p) := OpR.imp h fun x y H Q h => by
  unfold rIntB at h
  split at h
  · exact ⟨_, _, rfl, rfl, h⟩
  · exact h.elim
theorem op_isG : OpR X (compareOp .Is) rIsG := OpR.imp op_isN fun x y H Q h => by
  unfold rIsG at h
  split at h
  · exact ⟨rfl, h⟩
  · exact h.elim
theorem op_isNotG : OpR X (compareOp .IsNot) rIsNotG := OpR.imp op_notN fun x y H Q h => by
  unfold rIsNotG at h
  split at h
  · exact ⟨rfl, h⟩
  · exact h.elim
theorem op_inKd : OpR X (compareOp .In) (rInKd (gm X)) := fun pins s σ H x y v u Q I rx ry h => by
  obtain ⟨z, d, r, es, m, e1, e2, D, e3, q⟩ := h
  exact op_in_kd D pins s σ H x y v u Q I rx ry ⟨z, r, e1, e2, e3, q⟩
theorem op_inDk (hu : X.A.units + 1 < cLine) : OpR X (compareOp .In) (rInDk false) := fun pins s σ H x y v u Q I rx ry h => by
  obtain ⟨a, o, rfl, g, q⟩ := h
  obtain rfl : u = Value.ref a := ry
  exact d_in hu I g rx fun s3 I3 => ⟨.bl o.isSome, H, I3, rfl, by simpa using q⟩
theorem op_notInDk (hu : X.A.units + 1 < cLine) : OpR X (compareOp .NotIn) (rInDk true) := fun pins s σ H x y v u Q I rx ry h => by
  obtain ⟨a, o, rfl, g, q⟩ := h
  obtain rfl : u = Value.ref a := ry
  exact d_notIn hu I g rx fun s3 I3 => ⟨.bl (!o.isSome), H, I3, rfl, by simpa using q⟩
theorem op_cmpG (hr : Room n X.A) (op : CmpOp) : OpR X (compareOp op) (rCmp (gm X) op) := by
  cases op with
  | Eq => exact op_eq.or (op_eqD hr.units)
  | NotEq => exact op_ne.or (op_neD hr.units)
  | Lt => exact op_intB op_lt
  | LtE => exact op_intB op_le
  | Gt => exact op_intB op_gt
  | GtE => exact op_intB op_ge
  | Is => exact op_isG
  | IsNot => exact op_isNotG
  | In => exact op_inKd.or (op_in_seq.or (op_inDk (Nat.lt_of_le_of_lt (by omega) hr.units)))
  | NotIn => exact op_notIn_seq.or (op_notInDk (Nat.lt_of_le_of_lt (by omega) hr.units))
theorem ix_dk (hu : X.A.units + 1 < cLine) : IxR X rIxDk := by
  intro value slice pins s σ H x y v u Q I rx ry h hs
  obtain ⟨a, r, rfl, g, q⟩ := h
  obtain rfl : v = Value.ref a := rx
  exact tail_any (dict_typeIs I g) PySem.F.slot_dict_getitem.lookup (d_getItem hu I g ry fun w' s' I' rw' => ⟨r, H, I', rw', q⟩) hs
theorem ix_G (hr : Room n X.A) : IxR X (rIxG (gm X)) := IxR.or ix_seq (IxR.or ix_kdict (ix_dk (Nat.lt_of_le_of_lt (by omega) hr.units)))
theorem sl_G : SlR X (rSlG (gm X)) := sl_list

theorem pi_seq {tg l : Expr} {te : TE} (hl : PE X l te) : PI X tg l (iSeq X.K te) := by
  refine ⟨fun pins s σ H R I h => thn (hl.run pins s σ H _ I h) fun v s1 ⟨x, H1, I1, r1, a, e, q1⟩ => ?_⟩
  subst e
  cases r1
  rcases q1 with ⟨⟨xs, hq⟩, q⟩ | ⟨⟨xs, hq⟩, q⟩
  · obtain ⟨us, rv, p, hz⟩ := I1.list hq
    refine wpAny_pyIter_list p.isList ⟨s1.heap.objs.size, [s1.heap.objs.size], _, _, H1, rfl, I1.kept (t' := s1.toks) fun b o eo => Heap.get?_push_of_some _ eo, turn_list a _, ⟨_, Heap.get?_push_size _ rfl, rfl, rfl⟩, fun b hb => ?_, q⟩
    obtain rfl : b = s1.heap.objs.size := by simpa using hb
    exact I1.fpOk Nat.le.refl (I1.hok.fresh Nat.le.refl)
  · obtain ⟨us, rv, p, hz⟩ := I1.tuple hq
    refine wpAny_pyIter_tuple (show s1.heap.IsTuple a us.toArray from p) ⟨s1.heap.objs.size, [s1.heap.objs.size], _, _, H1, rfl, I1.kept (t' := s1.toks) fun b o eo => Heap.get?_push_of_some _ eo, turn_tuple a _, ⟨_, Heap.get?_push_size _ rfl, rfl, rfl⟩, fun b hb => ?_, q⟩
    obtain rfl : b = s1.heap.objs.size := by simpa using hb
    exact I1.fpOk Nat.le.refl (I1.hok.fresh Nat.le.refl)
/-! ### built-in calls -/
theorem kit_tab : ∀ a b : String, (a = "NoneType" ∨ a = "bool" ∨ a = "int" ∨ a = "str" ∨ a = "list" ∨ a = "tuple" ∨ a = "dict") → okTy b = true → kitB a b = some (tabIsi a b) := by
  intro a b ha hb
  unfold okTy at hb
  simp only [Bool.or_eq_true, decide_eq_true_eq] at hb
  rcases ha with rfl | rfl | rfl | rfl | rfl | rfl | rfl <;> rcases hb with ((((rfl | rfl) | rfl) | rfl) | rfl) | rfl <;> decide +kernel
theorem call_isiG : CallR X (.builtin "isinstance") (rIsiG (gm X)) := CallR.imp call_isi fun xs H Q h => by
  unfold rIsiG at h
  split at h
  · rename_i x b
    obtain ⟨hb, h⟩ := h
    split at h
    · rename_i a
      obtain ⟨m, hk, q⟩ := h
      unfold kindAt at hk
      split at hk
      · rename_i ys e
        subst hk
        exact ⟨_, _, _, _, _, rfl, .ty b, .base (.lst e), kit_ty (kit_tab _ _ (by simp) hb), q⟩
      · rename_i ys e
        subst hk
        exact ⟨_, _, _, _, _, rfl, .ty b, .base (.tup e), kit_ty (kit_tab _ _ (by simp) hb), q⟩
      · rename_i ys e
        subst hk
        exact ⟨_, _, _, _, _, rfl, .ty b, .base (.dK e), kit_ty (kit_tab _ _ (by simp) hb), q⟩
      · exact hk.elim
    · obtain ⟨m, hm, q⟩ := h
      unfold tyS at hm
      split at hm
      · cases hm; exact ⟨_, _, _, _, _, rfl, .ty b, .base .non, kit_ty (kit_tab _ _ (by simp) hb), q⟩
      · cases hm; exact ⟨_, _, _, _, _, rfl, .ty b, .base (.bl _), kit_ty (kit_tab _ _ (by simp) hb), q⟩
      · cases hm; exact ⟨_, _, _, _, _, rfl, .ty b, .base (.int _), kit_ty (kit_tab _ _ (by simp) hb), q⟩
      · cases hm; exact ⟨_, _, _, _, _, rfl, .ty b, .base (.str _), kit_ty (kit_tab _ _ (by simp) hb), q⟩
      · cases hm
  · exact h.elim
theorem call_lenG : CallR X (.builtin "len") (rLenG (gm X)) := CallR.imp (call_len.or call_lenD) fun xs H Q h => by
  unfold rLenG at h
  split at h
  · exact .inl ⟨_, _, rfl, ⟨h.1, rfl⟩, h.2⟩
  · rcases h with ⟨ys, hs, q⟩ | ⟨ys, hs, q⟩ | ⟨kvs, hs, q⟩
    · exact .inl ⟨_, _, rfl, .inl ⟨ys, hs, rfl⟩, q⟩
    · exact .inl ⟨_, _, rfl, .inr ⟨ys, hs, rfl⟩, q⟩
    · exact .inr ⟨_, kvs, rfl, hs, q⟩
  · exact h.elim
theorem call_maxG (hc : X.calm = true) : CallR X (.builtin "max") (rMaxG (gm X)) := CallR.imp (CallR.or (call_max2 hc) (cr_max hc)) fun xs H Q h => by
  unfold rMaxG at h
  split at h
  · exact .inl ⟨_, _, rfl, h⟩
  · exact .inr h
  · exact h.elim
theorem call_minG (hc : X.calm = true) : CallR X (.builtin "min") (rMinG (gm X)) := CallR.imp (CallR.or (call_min2 hc) (cr_min hc)) fun xs H Q h => by
  unfold rMinG at h
  split at h
  · exact .inl ⟨_, _, rfl, h⟩
  · exact .inr h
  · exact h.elim
theorem call_intG : CallR X (.type "int") rIntG := CallR.imp call_int1 fun xs H Q h => by
  unfold rIntG at h
  split at h
  · exact .inl ⟨_, rfl, h⟩
  · exact .inr ⟨_, rfl, h⟩
  · exact h.elim
theorem call_strS : CallR X (.type "str") (fun xs H Q => ∃ a, xs = [.str a] ∧ Q (.str a) H) := by
  intro pins s σ H xs us Q I r h
  obtain ⟨a, rfl, q⟩ := h
  obtain ⟨u, rfl, t, rfl⟩ := vals1 r
  exact PySem.P.str_of_str ⟨.str a, H, I, ⟨t, rfl⟩, q⟩
theorem call_strG : CallR X (.type "str") rStrG := CallR.imp (CallR.or call_strS call_str_int) fun xs H Q h => by
  unfold rStrG at h
  split at h
  · exact .inl ⟨_, rfl, h⟩
  · exact .inr ⟨_, rfl, h.1, h.2⟩
  · exact h.elim
end
end Kn

/-! KnD: repr, calls of defs whose room tells the guards, the context of a tree. -/
namespace Kn
open PySem PySem.Spec PyProof.Rows L2

section
variable {X : Cx} {n : Nat}
theorem shown_leaf_none : (PyData.none).shown = ("None" : Str) := by simp [PyData.shown]
theorem call_reprG (hr : Room n X.A) (hg : X.A.guards = some []) : CallR X (.builtin "repr") (rReprG (gm X)) := by
  intro pins s σ H xs us Q I rx h
  unfold rReprG at h
  split at h
  · rename_i x
    obtain ⟨d, hd, hs, hn, h60, hz, q⟩ := h
    obtain ⟨u, rfl, ru⟩ := vals1 rx
    have units := hr.units
    obtain ⟨as, R⟩ := Dp.reads I d x u hd ru
    have ref : ∀ (a : Addr), u = .ref a → wpAny (model X.prog X.w) X.A (call (.builtin "repr") [u]) (EP X pins σ Q) X.xe s := by
      intro a e
      subst e
      exact repr_of_reads' R hs (fun e => by rw [hn] at e; cases e) hg (by omega) (fun _ _ e => e) (fun h' v tk hk => ⟨.str d.shown, H, I.kept (t' := tk) hk, ⟨_, rfl⟩, q⟩) hz
    cases hd with
    | non =>
      cases ru
      exact PySem.P.repr_of_none ⟨.str _, H, I.tok _, ⟨_, rfl⟩, by simpa [PyData.shown] using q⟩
    | bl b =>
      cases ru
      exact PySem.P.repr_of_bool ⟨.str _, H, I.tok _, ⟨_, rfl⟩, by simpa [PyData.shown] using q⟩
    | int i =>
      obtain ⟨t, rfl⟩ := ru
      exact PySem.P.repr_of_int (by simpa [PyData.showable] using hs) ⟨.str _, H, I.tok _, ⟨_, rfl⟩, by simpa [PyData.shown] using q⟩
    | str z =>
      obtain ⟨t, rfl⟩ := ru
      exact PySem.P.repr_of_str ⟨.str _, H, I.tok _, ⟨_, rfl⟩, by simpa [PyData.shown] using q⟩ (by simpa [PyData.shown] using hz)
    | lst hs' ha =>
      cases ru
      exact ref _ rfl
    | tup hs' ha =>
      cases ru
      exact ref _ rfl
  · exact h.elim
end
end Kn

/-! KnE: defs and their promises (the room tells that no repr is under way), contexts of trees. -/
namespace Kn
open PySem PySem.Spec PyProof.Rows L2

/-- the def at f keeps the promise sp -/
structure FnG (G : Gm) (k : Nat) (f : Addr) (fd : FuncData) (ps : List Str) (sp : Sp) : Prop where
  len : ∀ vs H Q E, sp vs H Q E → vs.length = ps.length
  run : ∀ (A : Around) (outer : List Env) (s : Shared) (H : Hp) (args : Args) (us : List Value) (vs : List V) (Q : VK) (E : XK), Room k A → A.guards = some [] →
    Env0 G.P G.w G.K G.mg G.base A outer s H → BindsTo s fd args (ps.zip us) → Vals vs us → sp vs H Q E →
    codeAny (model G.P G.w) A (.call (.ref f) args) (CR (L2.CX G.P G.w) outer G.P G.w H s Q E) s
theorem FnG.lift {G : Gm} {j k : Nat} {f : Addr} {fd : FuncData} {ps : List Str} {sp : Sp} (F : FnG G j f fd ps sp) (h : j ≤ k) : FnG G k f fd ps sp :=
  ⟨F.len, fun A o s H ar us vs Q E hr hg => F.run A o s H ar us vs Q E (hr.mono h) hg⟩
theorem FnG.weaker {G : Gm} {k : Nat} {f : Addr} {fd : FuncData} {ps : List Str} {sp sp' : Sp} (F : FnG G k f fd ps sp) (h : ∀ vs H Q E, sp' vs H Q E → sp vs H Q E) : FnG G k f fd ps sp' :=
  ⟨fun vs H Q E q => F.len vs H Q E (h _ _ _ _ q), fun A o s H ar us vs Q E hr hg e0 hb r q => F.run A o s H ar us vs Q E hr hg e0 hb r (h _ _ _ _ q)⟩

section
variable {X : Cx} {W : WX} {k : Nat} {f : Addr} {fd : FuncData} {ps : List Str} {sp : Sp}
/-- a def is run from a body -/
theorem run_G {pins : List (Addr × Obj)} {σ : L2.St} {H : Hp} {s : Shared} {Q : VK} {us0 us : List Value} {kw : List (Str × Value)} {vs : List V} (F : FnG (gm X) k f fd ps sp) (hr : Room k X.A) (hg : X.A.guards = some []) (tk : Takes X W)
    (I : Inv X pins σ H s) (hb : BindsTo s fd ⟨us0, kw⟩ (ps.zip us)) (r : Vals vs us) (h : sp vs H Q (fun cls d H' => W cls d σ H')) : wpAny (model X.prog X.w) X.A (call (.ref f) us0 kw) (EP X pins σ Q) X.xe s := by
  have go := F.run X.A X.stack s H ⟨us0, kw⟩ us vs Q (fun cls d H' => W cls d σ H') hr hg I.env0 hb r h
  refine wpAny_call (codeAny_mono go fun res s' hres => ?_)
  match res, hres with
  | .error e, hres => exact tk e s' (XE.of_call I (fun _ _ _ z => z) hres)
  | .ok (.ret u), hres => exact I.after hres
  | .ok .next, hres => exact False.elim hres
  | .ok .brk, hres => exact False.elim hres
  | .ok .cont, hres => exact False.elim hres
end

/-- THE RULE for a def of the text -/
theorem fnG_of {G : Gm} {k : Nat} {f : Addr} {name qual : Str} {params : Arguments} {body : List Stmt} {scope : Scope} {dV kV doc pm cdv ct oc : Value} {an od : Option Addr} {osl : Array (Option Value)} {N ps : List Str} {sp : Sp}
    (lk : G.K.lookup f = some ⟨oc, od, .func (PySem.W.fnOf name qual params body scope dV kV doc pm an cdv ct), osl⟩) (hcd : PySem.W.codeIn G.K cdv qual = true) (S : FnScope N ps scope) (len : ∀ vs H Q E, sp vs H Q E → vs.length = ps.length)
    (hbody : ∀ (A : Around) (outer : List Env) (s : Shared) (H : Hp) (vs : List V) (Q : VK) (E : XK), Room k (A.deeper (envOfC qual scope s.heap.objs.size f cdv)) → A.guards = some [] → sp vs H Q E →
      ∃ t, PSs (cxOf (L2.CX G.P G.w) G.P G.w G.K G.mg G.base N qual scope f cdv A outer s H E) body t ∧ t { nx := fun _ H' => Q .non H', rt := Q } (start N vs) H) :
    FnG G (k + 1) f (PySem.W.fnOf name qual params body scope dV kV doc pm an cdv ct) ps sp where
  len := len
  run := by
    intro A outer s H args us vs Q E hr hg e0 hb rel hsp
    have inK : G.K.In s.heap := e0.mod.kin.keeps fun b o z => (e0.bs b o z).1
    have noLim : s.heap.NoLimit := e0.mod.nolimit.keeps fun b o z => (e0.bs b o z).1
    have kinds : ∀ y ∈ ps.zip us, scope.names.lookup y.1 = some .local ∨ (scope.names.lookup y.1 = some .cell ∧ ((cellsFrom (s.heap.objs.size + 1) scope.names []).lookup y.1).isSome = true) := by
      rintro ⟨m, z⟩ hy
      rcases S.par m (List.of_mem_zip hy).1 with q | q
      · exact Or.inl q
      · exact Or.inr ⟨q, PySem.W.cellsFrom_some _ _ _ (Or.inl q)⟩
    refine codeAny_call_function hr.depth (inK _ _ lk) rfl S.co S.gen rfl (PySem.W.codeRec_of inK hcd) (hb _ _ _ _ ?_)
    refine wpAny_newFunctionEnv_cells S.kind kinds fun env he s1 inCall => ?_
    subst he
    refine ⟨noLim.keeps inCall.toInCall.keep, codeAny_func ?_⟩
    obtain ⟨t, ht, hq⟩ := hbody A outer s H vs Q E (hr.deeper _) hg hsp
    have I := inv_start (CX := L2.CX G.P G.w) (E := E) S hr.hd e0 (len _ _ _ _ hsp) rel inCall
    refine wpAny_mono (ht.run [] s1 (start N vs) H _ I hq) ?_ fun e s' z => z
    intro fl s' hs
    cases fl with
    | ret u =>
      obtain ⟨v, σ', H', J, rv, q⟩ := hs
      exact ⟨v, H', J.os, J.bare, J.base, J.hok, rv, q⟩
    | next =>
      obtain ⟨σ', H', J, q⟩ := hs
      exact ⟨V.non, H', J.os, J.bare, J.base, J.hok, rfl, q⟩
    | brk =>
      obtain ⟨_, _, _, q⟩ := hs
      exact q.elim
    | cont =>
      obtain ⟨_, _, _, q⟩ := hs
      exact q.elim

/-- the function called x keeps sp, at level n at most; dv: the defaults' values behind what is given -/
def FnAt (G : Gm) (n : Nat) (x : Str) (sp : Sp) (dv : List V) : Prop := ∃ k f fd ps ds, k ≤ n ∧ FnG G k f fd ps sp ∧ G.mg x = some (.ref f) ∧ PySem.W.keepIn G.K (.ref f) = true ∧ Binds G.K fd ps ds ∧ Vals dv ds
def FnAtK (G : Gm) (n : Nat) (x : Str) (sp : Sp) (ks : List Str) (g : List V → List V → List V) : Prop := ∃ k f fd ps g0, k ≤ n ∧ FnG G k f fd ps sp ∧ G.mg x = some (.ref f) ∧ PySem.W.keepIn G.K (.ref f) = true ∧ KBinds G.K fd ps ks g0 g
theorem FnAt.mono {G : Gm} {m n : Nat} {x : Str} {sp : Sp} {dv : List V} (h : FnAt G m x sp dv) (hm : m ≤ n) : FnAt G n x sp dv := by
  obtain ⟨k, f, fd, ps, ds, h1, h2⟩ := h
  exact ⟨k, f, fd, ps, ds, Nat.le_trans h1 hm, h2⟩

/-- the context of a tree -/
structure RX (G : Gm) (c : CC) (n : Nat) (X : Cx) (W : WX) : Prop where
  g : G = gm X
  N : X.N = c.N
  sc : X.env.scope = c.sc
  nd : c.N.Nodup
  calm : X.calm = true
  room : Room n X.A
  gd : X.A.guards = some []
  tk : Takes X W
  po : PassesOwn (model X.prog X.w) X.A X.env X.xe
  fn : c.cl = true → ∀ x, X.fn x = true
theorem takesNo {X : Cx} : Takes X NoW := fun _ _ h => by
  obtain ⟨_, _, _, _, _, _, _, _, _, _, _, _, _, _, _, _, z⟩ := h
  exact z.elim
theorem RX.blk {G : Gm} {c : CC} {n : Nat} {X : Cx} {W : WX} (h : RX G c n X W) (scope : Scope) (s : Shared) (H : Hp) (C : Addr) (cl : List (Str × Addr)) (fp : List Addr) : RX G (c.blk scope) n (X.blk s H scope (compEnvC scope cl C X.env) fp) NoW where
  g := h.g
  N := h.N
  sc := by
    show relS scope X.env.scope = relS scope c.sc
    rw [h.sc]
  nd := h.nd
  calm := h.calm
  room := h.room
  gd := h.gd
  tk := takesNo
  po := PassesOwn.never
  fn := fun z => nomatch z

/-! ### small facts of the text -/
theorem star_cons {e : Expr} {es : List Expr} {env : Env} (h : notStar e = true) : starEach (e :: es) env = (false, eval e env) :: starEach es env := by
  cases e <;> first | rfl | (exact absurd h Bool.false_ne_true)
theorem star_one {e : Expr} {env : Env} (h : notStar e = true) : starEach [e] env = [(false, eval e env)] := star_cons h
theorem not_and {a b : Bool} (h : (a && b) = true) : a = true ∧ b = true := by simpa using h
theorem okNm_1 {x : Str} (h : okNm x = true) : (x == ("__debug__" : Str)) = false := by
  unfold okNm at h
  simp only [Bool.and_eq_true, Bool.not_eq_true'] at h
  exact h.1
theorem okNm_2 {x : Str} (h : okNm x = true) : (x == ("__classdict__" : Str)) = false := by
  unfold okNm at h
  simp only [Bool.and_eq_true, Bool.not_eq_true'] at h
  exact h.2
theorem visB_ok {sc : Scope} {x : Str} (h : visB sc x = true) : Vis sc x := by
  unfold visB at h
  split at h
  · exact .inl (by assumption)
  · exact .inr (.inl (by assumption))
  · exact .inr (.inr (by assumption))
  · cases h
theorem isGl_ok {c : CC} {f : Expr} {x : Str} (h : isGl c f x = true) : ∃ p, f = .Name x p ∧ c.sc.names.lookup x = some .globalImplicit ∧ okNm x = true := by
  unfold isGl at h
  split at h
  · rename_i y p
    simp only [Bool.and_eq_true, decide_eq_true_eq] at h
    obtain ⟨⟨rfl, h2⟩, h3⟩ := h
    exact ⟨p, rfl, of_decide_eq_true h2, h3⟩
  · cases h
theorem RX.gl {G : Gm} {c : CC} {n : Nat} {X : Cx} {W : WX} (h : RX G c n X W) {x : Str} (hx : c.sc.names.lookup x = some .globalImplicit) : Gl X x := by
  show X.env.scope.names.lookup x = _
  rw [h.sc]
  exact hx
theorem plain_base {e : Expr} {f : Str} {env : Env} (h : plainE e = true) : attributeBase e f env (eval e env) = eval e env := by
  unfold plainE at h
  split at h <;> first
    | rfl
    | (rename_i x p as ks pos
       have hx : (x != ("super" : Str)) = true := by simpa [bne] using h
       unfold attributeBase
       split
       · rename_i y q r e
         injection e with e1 e2 e3 e4
         injection e1 with e1 _
         subst e1
         simp [hx]
       · rfl)
    | cases h
theorem plain_fold {e : Expr} {env : Env} (h : plainE e = true) : ∀ x, foldedSetIterable e env x = pure x := fun x => by
  unfold plainE at h
  split at h <;> first | rfl | cases h
theorem ix_plain {e : Expr} (h : ixE e = true) : ∀ o i, subscripted e false o i = operate [o, i] (getItem o i) := fun o i => by
  cases e <;> first | rfl | (exact absurd h Bool.false_ne_true)
theorem tru_plain {e : Expr} {env : Env} (h : truE e = true) : ∀ whole, isTrue e env whole = (do let v ← whole; standAt e.pos; holding [v] (truthy v)) := fun whole => by
  unfold truE at h
  split at h <;> first | rfl | cases h
end Kn

/-! KnF: a tree that is checked against an expression reads it. -/
namespace Kn
open PySem PySem.Spec PyProof.Rows L2

mutual
def GdE (G : Gm) (n : Nat) : E → Prop
  | .var _ => True
  | .glb x v => ∃ u, G.mg x = some u ∧ RelV v u
  | .bty b => btyB b = true ∧ G.mg (bfName b) = none
  | .cst _ => True
  | .bin _ a b => GdE G n a ∧ GdE G n b
  | .neg a => GdE G n a
  | .cmp _ a b => GdE G n a ∧ GdE G n b
  | .cm2 _ _ a b d => GdE G n a ∧ GdE G n b ∧ GdE G n d
  | .and a b => GdE G n a ∧ GdE G n b
  | .or a b => GdE G n a ∧ GdE G n b
  | .not a => GdE G n a
  | .ite t a b => GdT G n t ∧ GdE G n a ∧ GdE G n b
  | .lst es => GdEs G n es
  | .tup es => GdEs G n es
  | .sub a i => GdE G n a ∧ GdE G n i
  | .slc a lo hi => GdE G n a ∧ GdEs G n lo ∧ GdEs G n hi
  | .call x sp dv es => FnAt G n x sp dv ∧ GdEs G n es
  | .calk x sp g es ks kes => FnAtK G n x sp ks g ∧ GdEs G n es ∧ GdEs G n kes
  | .bif b es => G.mg (bfName b) = none ∧ GdEs G n es
  | .bm _ o es => GdE G n o ∧ GdEs G n es
  | .lc elt tg src cond _ => GdE G n elt ∧ GdTg G n tg ∧ GdSrc G n src ∧ GdTs G n cond
def GdEs (G : Gm) (n : Nat) : Es → Prop
  | .nil => True
  | .cons e es => GdE G n e ∧ GdEs G n es
def GdT (G : Gm) (n : Nat) : T → Prop
  | .val e => GdE G n e
  | .cmp _ a b => GdE G n a ∧ GdE G n b
  | .cm2 _ _ a b d => GdE G n a ∧ GdE G n b ∧ GdE G n d
  | .and a b => GdT G n a ∧ GdT G n b
  | .or a b => GdT G n a ∧ GdT G n b
  | .not a => GdT G n a
def GdTs (G : Gm) (n : Nat) : Ts → Prop
  | .nil => True
  | .one t => GdT G n t
def GdTg (G : Gm) (n : Nat) : Tg → Prop
  | .nm _ => True
  | .tp ts => GdTgs G n ts
  | .ix o i => GdE G n o ∧ GdE G n i
def GdTgs (G : Gm) (n : Nat) : Tgs → Prop
  | .nil => True
  | .cons t ts => GdTg G n t ∧ GdTgs G n ts
def GdSrc (G : Gm) (n : Nat) : Src → Prop
  | .plain e => GdE G n e
  | .rng1 a => G.mg "range" = none ∧ GdE G n a
  | .rng2 a b => G.mg "range" = none ∧ GdE G n a ∧ GdE G n b
end


section
variable {X : Cx}
/-- a test of and, or: the PT is a PW -/
theorem pw_of {op : BoolOp} {vs : List Expr} {pos : Pos} {t : TT} (h : PT X (.BoolOp op vs pos) t) : PW X (.BoolOp op vs pos) t := ⟨fun whole pins s σ H Q I hw => h.run pins s σ H Q I hw⟩
theorem pa_star {pos : Pos} {es : List Expr} {env : Env} (h : ∀ e ∈ es, notStar e = true) : (backTo pos (starEach es env)).any (·.1) = false := by
  induction es with
  | nil => rfl
  | cons e es ih =>
    rw [star_cons (h e (List.mem_cons_self ..))]
    show (false || (backTo pos (starEach es env)).any (·.1)) = false
    rw [ih fun z hz => h z (List.mem_cons_of_mem _ hz)]
    rfl
theorem chkEs_star {c : CC} : ∀ {es : Es} {xs : List Expr}, chkEs c es xs = true → ∀ x ∈ xs, notStar x = true
  | .nil, xs, h, x, hx => by
    unfold chkEs at h
    cases xs with
    | nil => cases hx
    | cons => cases h
  | .cons e es, xs, h, x, hx => by
    unfold chkEs at h
    cases xs with
    | nil => cases hx
    | cons y r =>
      simp only [Bool.and_eq_true] at h
      rcases List.mem_cons.mp hx with rfl | hx
      · exact h.1.1
      · exact chkEs_star h.2 x hx

/-- f(..) of a def of the text -/
theorem pe_callG {W : WX} {n : Nat} {x : Str} {sp : Sp} {dv : List V} {t : TA} {e : Expr} {es : List Expr} {p pos : Pos} (F : FnAt (gm X) n x sp dv) (hr : Room n X.A) (hgd : X.A.guards = some []) (tk : Takes X W) (hg : Gl X x) (ha : PA X (e :: es) t) (hst : ∀ z ∈ e :: es, notStar z = true) (hdb : (x == ("__debug__" : Str)) = false) :
    PE X (.Call (.Name x p) (e :: es) [] pos) (fun σ H Q => t σ H fun vs H1 => sp (vs ++ dv) H1 Q (fun cls d H' => W cls d σ H')) := by
  obtain ⟨k, f, fd, ps, ds, hk, F1, hm, kp, hb, hd⟩ := F
  refine ⟨fun pins s σ H Q I h => ?_⟩
  refine wpAny_Call_Name_kw (ld_glob I hg hm ?_ hdb)
  have go := ha.run pos pins s σ H _ I h
  refine PySem.W.callWith_K (h₀ := X.base) I.ok.mod.kin kp (thn go fun us s1 ⟨vs, H1, I1, r, q⟩ => ⟨I1.kIn, ?_⟩) (star_cons (hst e (List.mem_cons_self ..))) (pa_star fun z hz => hst z (List.mem_cons_of_mem _ hz))
  have r2 : Vals (vs ++ dv) (us ++ ds) := r.append hd
  exact run_G F1 (hr.mono hk) hgd tk I1 (hb s1 us I1.kIn (by rw [← r2.length]; exact F1.len _ _ _ _ q)) r2 q
theorem pe_callG0 {W : WX} {n : Nat} {x : Str} {sp : Sp} {dv : List V} {p pos : Pos} (F : FnAt (gm X) n x sp dv) (hr : Room n X.A) (hgd : X.A.guards = some []) (tk : Takes X W) (hg : Gl X x) (hdb : (x == ("__debug__" : Str)) = false) :
    PE X (.Call (.Name x p) [] [] pos) (fun σ H Q => tNil σ H fun vs H1 => sp (vs ++ dv) H1 Q (fun cls d H' => W cls d σ H')) := by
  obtain ⟨k, f, fd, ps, ds, hk, F1, hm, kp, hb, hd⟩ := F
  refine ⟨fun pins s σ H Q I h => ?_⟩
  refine wpAny_Call_Name_kw (ld_glob I hg hm ?_ hdb)
  have h' : sp dv H Q (fun cls d H' => W cls d σ H') := h
  exact PySem.W.callWith_K0 I.kIn kp (run_G (us0 := []) (us := ds) F1 (hr.mono hk) hgd tk I (hb s [] I.kIn (by rw [List.nil_append, ← hd.length]; exact F1.len _ _ _ _ h')) hd h')
theorem kw_some {ks : List Str} {kws : List Keyword} {pos : Pos} {env : Env} (h : mkKw ks kws = true) : (backToKw pos (keywordEach kws env)).all (·.1.isSome) = true ∧ (backToKw pos (keywordEach kws env)).filterMap (·.1) = ks ∧ (backToKw pos (keywordEach kws env)).any (·.1.isNone) = false := by
  induction ks generalizing kws with
  | nil =>
    cases kws with
    | nil => exact ⟨rfl, rfl, rfl⟩
    | cons => simp [mkKw] at h
  | cons k ks ih =>
    cases kws with
    | nil => simp [mkKw] at h
    | cons w kws =>
      obtain ⟨ar, v, p⟩ := w
      cases ar with
      | none => simp [mkKw] at h
      | some y =>
        simp only [mkKw, Bool.and_eq_true, decide_eq_true_eq] at h
        obtain ⟨rfl, h⟩ := h
        obtain ⟨a, b, c⟩ := ih h
        refine ⟨?_, ?_, ?_⟩
        · show (true && (backToKw pos (keywordEach kws env)).all (·.1.isSome)) = true
          rw [a]; rfl
        · show y :: (backToKw pos (keywordEach kws env)).filterMap (·.1) = y :: ks
          rw [b]
        · show (false || (backToKw pos (keywordEach kws env)).any (·.1.isNone)) = false
          rw [c]; rfl
/-- f(.., k = v, ..) -/
theorem pe_callKG {W : WX} {n : Nat} {x : Str} {sp : Sp} {g : List V → List V → List V} {ks : List Str} {t tk' : TA} {e : Expr} {es : List Expr} {kws : List Keyword} {p pos : Pos} (F : FnAtK (gm X) n x sp ks g) (hr : Room n X.A) (hgd : X.A.guards = some []) (tk : Takes X W) (hg : Gl X x)
    (ha : PA X (e :: es) t) (hkw : PK X kws tk') (hk : mkKw ks kws = true) (hst : ∀ z ∈ e :: es, notStar z = true) (hdb : (x == ("__debug__" : Str)) = false) :
    PE X (.Call (.Name x p) (e :: es) kws pos) (fun σ H Q => t σ H fun vs H1 => tk' σ H1 fun zs H2 => sp (g vs zs) H2 Q (fun cls d H' => W cls d σ H')) := by
  obtain ⟨k, f, fd, ps, g0, hkn, F1, hm, kp, hb⟩ := F
  refine ⟨fun pins s σ H Q I h => ?_⟩
  refine wpAny_Call_Name_kw (ld_glob I hg hm ?_ hdb)
  obtain ⟨a1, a2, a3⟩ := kw_some (pos := pos) (env := X.env) hk
  refine PySem.W.callWith_KW (h₀ := X.base) I.ok.mod.kin kp a1 (thn (ha.run pos pins s σ H _ I h) fun us s1 ⟨vs, H1, I1, r, q⟩ => ?_) (by rw [pa_star hst, a3]; rfl) (star_cons (hst e (List.mem_cons_self ..)))
  refine thn (hkw.run pos pins s1 σ H1 _ I1 q) fun ws s2 ⟨zs, H2, I2, rz, q2⟩ => ⟨I2.kIn, ?_⟩
  rw [a2]
  have r2 := hb.rel r rz
  exact run_G F1 (hr.mono hkn) hgd tk I2 (hb.to s2 us ws I2.kIn (by rw [← r2.length]; exact F1.len _ _ _ _ q2)) r2 q2
theorem pe_callKG0 {W : WX} {n : Nat} {x : Str} {sp : Sp} {g : List V → List V → List V} {ks : List Str} {tk' : TA} {kws : List Keyword} {p pos : Pos} (F : FnAtK (gm X) n x sp ks g) (hr : Room n X.A) (hgd : X.A.guards = some []) (tk : Takes X W) (hg : Gl X x)
    (hkw : PK X kws tk') (hk : mkKw ks kws = true) (hdb : (x == ("__debug__" : Str)) = false) :
    PE X (.Call (.Name x p) [] kws pos) (fun σ H Q => tNil σ H fun vs H1 => tk' σ H1 fun zs H2 => sp (g vs zs) H2 Q (fun cls d H' => W cls d σ H')) := by
  obtain ⟨k, f, fd, ps, g0, hkn, F1, hm, kp, hb⟩ := F
  refine ⟨fun pins s σ H Q I h => ?_⟩
  refine wpAny_Call_Name_kw (ld_glob I hg hm ?_ hdb)
  obtain ⟨a1, a2, a3⟩ := kw_some (pos := pos) (env := X.env) hk
  have h' : tk' σ H fun zs H2 => sp (g [] zs) H2 Q (fun cls d H' => W cls d σ H') := h
  refine PySem.W.callWith_KW0 (h₀ := X.base) I.ok.mod.kin kp a1 (thn (hkw.run pos pins s σ H _ I h') fun ws s2 ⟨zs, H2, I2, rz, q2⟩ => ⟨I2.kIn, ?_⟩) (by rw [a3]; rfl)
  rw [a2]
  have r2 := hb.rel .nil rz
  exact run_G F1 (hr.mono hkn) hgd tk I2 (hb.to s2 [] ws I2.kIn (by rw [← r2.length]; exact F1.len _ _ _ _ q2)) r2 q2
end
end Kn

/-! KnG: the soundness of the expression trees. -/
namespace Kn
open PySem PySem.Spec PyProof.Rows L2

section
variable {X : Cx} {n : Nat}
theorem star_all {pos : Pos} {es : List Expr} {env : Env} (h : ∀ e ∈ es, notStar e = true) : (backTo pos (starEach es env)).all (fun x => !x.1) = true := by
  induction es with
  | nil => rfl
  | cons e es ih =>
    rw [star_cons (h e (List.mem_cons_self ..))]
    show (true && (backTo pos (starEach es env)).all (fun x => !x.1)) = true
    rw [ih fun z hz => h z (List.mem_cons_of_mem _ hz)]
    rfl
theorem pe_bifG (b : Bf) (hr : Room n X.A) (hgd : X.A.guards = some []) (hc : X.calm = true) {e : Expr} {es : List Expr} {t : TA} {p pos : Pos} (hg : Gl X (bfName b)) (hm : X.mg (bfName b) = none) (ha : PA X (e :: es) t) (hst : ∀ z ∈ e :: es, notStar z = true) :
    PE X (.Call (.Name (bfName b) p) (e :: es) [] pos) (tCB (rBf (gm X) b) t) := by
  have h1 : starEach (e :: es) X.env = (false, eval e X.env) :: starEach es X.env := star_cons (hst e (List.mem_cons_self ..))
  have h2 : (backTo pos (starEach es X.env)).any (·.1) = false := pa_star fun z hz => hst z (List.mem_cons_of_mem _ hz)
  cases b with
  | len => exact pe_callB call_lenG hg hm (by decide +kernel) ha (by decide +kernel) (by decide +kernel) h1 h2
  | max => exact pe_callB (call_maxG hc) hg hm (by decide +kernel) ha (by decide +kernel) (by decide +kernel) h1 h2
  | min => exact pe_callB (call_minG hc) hg hm (by decide +kernel) ha (by decide +kernel) (by decide +kernel) h1 h2
  | abs => exact pe_callB call_abs hg hm (by decide +kernel) ha (by decide +kernel) (by decide +kernel) h1 h2
  | sum => exact pe_callB (cr_sum hc) hg hm (by decide +kernel) ha (by decide +kernel) (by decide +kernel) h1 h2
  | repr => exact pe_callB (call_reprG hr hgd) hg hm (by decide +kernel) ha (by decide +kernel) (by decide +kernel) h1 h2
  | sorted => exact pe_callB (CallR.or cr_sorted cr_sortedS) hg hm (by decide +kernel) ha (by decide +kernel) (by decide +kernel) h1 h2
  | isinstance => exact pe_callB call_isiG hg hm (by decide +kernel) ha (by decide +kernel) (by decide +kernel) h1 h2
  | int => exact pe_callTy call_intG hg hm (by decide +kernel) ha (by decide +kernel) (by decide +kernel) h1 h2
  | str => exact pe_callTy call_strG hg hm (by decide +kernel) ha (by decide +kernel) (by decide +kernel) h1 h2
  | list => exact pe_callTy call_list_of hg hm (by decide +kernel) ha (by decide +kernel) (by decide +kernel) h1 h2
  | tuple => exact pe_callTy call_tuple_of hg hm (by decide +kernel) ha (by decide +kernel) (by decide +kernel) h1 h2
  | dict => exact pe_callTy (call_dictP hc) hg hm (by decide +kernel) ha (by decide +kernel) (by decide +kernel) h1 h2
  | bool => exact pe_callTy (T := "bool") (r := fun _ _ _ => False) (fun pins s σ H xs us Q I r h => h.elim) hg hm (by decide +kernel) ha (by decide +kernel) (by decide +kernel) h1 h2
theorem pe_btyG (b : Bf) {p : Pos} (hb : btyB b = true) (hg : Gl X (bfName b)) (hm : X.mg (bfName b) = none) : PE X (.Name (bfName b) p) (tC (btyV b)) := by
  cases b <;> first
    | exact pe_bltn hg hm (by decide +kernel) rfl (by decide +kernel) (by decide +kernel)
    | (exact absurd hb Bool.false_ne_true)
theorem mt_no {id : String} : MtR X id (fun x vs H Q => ∃ (l : Addr) (xs : List V) (i : Int) (y : V), x = .ref l ∧ vs = [.int i, y] ∧ False) := fun pins s σ H x vs v us Q I rx rv h => by
  obtain ⟨_, _, _, _, _, _, z⟩ := h
  exact z.elim
theorem pe_bmG (m : Bm) {o e : Expr} {es : List Expr} {to : TE} {t : TA} {apos pos : Pos} (ho : PE X o to) (ha : PA X (e :: es) t) (hst : ∀ z ∈ e :: es, notStar z = true) (hl : (apos.endLine == pos.line) = true) (hb : plainE o = true) (hn : (e :: es).length < 25) :
    PE X (.Call (.Attribute o (bmName m) apos) (e :: es) [] pos) (tBM X.K (bmTy m) (rBm (gm X) m) to t) := by
  have h1 : starEach (e :: es) X.env = (false, eval e X.env) :: starEach es X.env := star_cons (hst e (List.mem_cons_self ..))
  have h2 : (backTo pos (starEach es X.env)).any (·.1) = false := pa_star fun z hz => hst z (List.mem_cons_of_mem _ hz)
  have h3 : ((backTo pos (starEach (e :: es) X.env)).all (fun x => !x.1) && (backToKw pos (keywordEach [] X.env)).all (fun x => x.1.isSome) && decide ((e :: es).length + ([] : List Keyword).length + (if ([] : List Keyword).isEmpty then 0 else 1) < 30)) = true := by
    rw [star_all hst]
    have : (e :: es).length + ([] : List Keyword).length + (if ([] : List Keyword).isEmpty then 0 else 1) < 30 := by
      show (e :: es).length + 0 + 0 < 30
      omega
    rw [decide_eq_true this]
    rfl
  cases m with
  | append => exact pe_bm PySem.F.plainAttrs_list PySem.F.slot_list_append PySem.F.type_list_append mt_append ho ha (plain_base hb) h3 hl h1 h2
  | extend => exact pe_bm PySem.F.plainAttrs_list PySem.F.slot_list_extend PySem.F.type_list_extend mt_extend ho ha (plain_base hb) h3 hl h1 h2
  | pop => exact pe_bm PySem.F.plainAttrs_list PySem.F.slot_list_pop PySem.F.type_list_pop mt_pop ho ha (plain_base hb) h3 hl h1 h2
  | popAt => exact pe_bm PySem.F.plainAttrs_list PySem.F.slot_list_pop PySem.F.type_list_pop mt_popAt ho ha (plain_base hb) h3 hl h1 h2
  | index => exact pe_bm PySem.F.plainAttrs_list PySem.F.slot_list_index PySem.F.type_list_index mt_index ho ha (plain_base hb) h3 hl h1 h2
  | clear => exact pe_bm PySem.F.plainAttrs_list PySem.F.slot_list_clear PySem.F.type_list_clear mt_clear ho ha (plain_base hb) h3 hl h1 h2
  | insert => exact pe_bm PySem.F.plainAttrs_list PySem.F.slot_list_insert PySem.F.type_list_insert mt_no ho ha (plain_base hb) h3 hl h1 h2
theorem pe_bm0G (m : Bm) {o : Expr} {to : TE} {apos pos : Pos} (ho : PE X o to) (hl : (apos.endLine == pos.line) = true) (hb : plainE o = true) :
    PE X (.Call (.Attribute o (bmName m) apos) [] [] pos) (tBM0 X.K (bmTy m) (rBm (gm X) m) to) := by
  cases m with
  | append => exact pe_bm0 PySem.F.plainAttrs_list PySem.F.slot_list_append PySem.F.type_list_append mt_append ho (plain_base hb) hl
  | extend => exact pe_bm0 PySem.F.plainAttrs_list PySem.F.slot_list_extend PySem.F.type_list_extend mt_extend ho (plain_base hb) hl
  | pop => exact pe_bm0 PySem.F.plainAttrs_list PySem.F.slot_list_pop PySem.F.type_list_pop mt_pop ho (plain_base hb) hl
  | popAt => exact pe_bm0 PySem.F.plainAttrs_list PySem.F.slot_list_pop PySem.F.type_list_pop mt_popAt ho (plain_base hb) hl
  | index => exact pe_bm0 PySem.F.plainAttrs_list PySem.F.slot_list_index PySem.F.type_list_index mt_index ho (plain_base hb) hl
  | clear => exact pe_bm0 PySem.F.plainAttrs_list PySem.F.slot_list_clear PySem.F.type_list_clear mt_clear ho (plain_base hb) hl
  | insert => exact pe_bm0 PySem.F.plainAttrs_list PySem.F.slot_list_insert PySem.F.type_list_insert mt_no ho (plain_base hb) hl
end
section
variable {G : Gm} {c : CC} {n : Nat} {X : Cx} {W : WX}
theorem RX.loc (R : RX G c n X W) {x : Str} (h : stB c x = true) : Loc X.env.scope x ∧ (X.fn x = true ∨ X.env.scope.names.lookup x = some .local) := by
  rw [R.sc]
  unfold stB at h
  split at h
  · rename_i e
    exact ⟨.inl e, .inr e⟩
  · rename_i e
    exact ⟨.inr e, .inl (R.fn h x)⟩
  · cases h
theorem const_ok {v : V} {k : Const} {i : Nat} {pos : Pos} (h : cstB v k = true) : PE X (.Constant k i pos) (tC v) := by
  unfold cstB at h
  split at h
  · have e := of_decide_eq_true h
    subst e
    exact pe_int
  · have e := of_decide_eq_true h
    subst e
    exact pe_bl
  · exact pe_non
  · have e := of_decide_eq_true h
    subst e
    exact pe_str
  · cases h
theorem nd_own {N : List Str} (is : List Nat) : (ownOf N is).map (·.2) = is := by
  unfold ownOf
  rw [List.map_map]
  show is.map id = is
  simp
end
mutual
theorem sndE {G : Gm} : ∀ (e : E) {c : CC} {n : Nat} {X : Cx} {W : WX} {x : Expr}, RX G c n X W → GdE G n e → chkE c e x = true → PE X x (rdE G e W)
  | .var i, c, n, X, W, x, R, hd, h => by
    unfold chkE at h
    split at h
    · simp only [Bool.and_eq_true, decide_eq_true_eq] at h
      obtain ⟨⟨h1, h2⟩, h3⟩ := h
      exact pe_var (by rw [R.N]; exact h1) (by rw [R.sc]; exact visB_ok h2) (okNm_1 h3) (okNm_2 h3)
    · cases h
  | .glb y v, c, n, X, W, x, R, hd, h => by
    obtain rfl := R.g
    unfold chkE at h
    obtain ⟨p, rfl, h2, h3⟩ := isGl_ok h
    unfold GdE at hd
    obtain ⟨u, hm, r⟩ := hd
    exact pe_glob (R.gl h2) hm r (okNm_1 h3)
  | .bty b, c, n, X, W, x, R, hd, h => by
    obtain rfl := R.g
    unfold chkE at h
    obtain ⟨p, rfl, h2, h3⟩ := isGl_ok h
    unfold GdE at hd
    exact pe_btyG b hd.1 (R.gl h2) hd.2
  | .cst v, c, n, X, W, x, R, hd, h => by
    unfold chkE at h
    split at h
    · exact const_ok h
    · cases h
  | .bin op a b, c, n, X, W, x, R, hd, h => by
    obtain rfl := R.g
    unfold chkE at h
    unfold GdE at hd
    split at h
    · simp only [Bool.and_eq_true, decide_eq_true_eq] at h
      obtain ⟨⟨rfl, h2⟩, h3⟩ := h
      exact pe_op (op_binG op) (sndE a R hd.1 h2) (sndE b R hd.2 h3)
    · cases h
  | .neg a, c, n, X, W, x, R, hd, h => by
    unfold chkE at h
    unfold GdE at hd
    split at h
    · exact pe_un un_negG (sndE a R hd h)
    · cases h
  | .cmp op a b, c, n, X, W, x, R, hd, h => by
    obtain rfl := R.g
    unfold chkE at h
    unfold GdE at hd
    split at h
    · simp only [Bool.and_eq_true, decide_eq_true_eq, Bool.not_eq_true'] at h
      obtain ⟨⟨⟨rfl, h2⟩, h3⟩, h4⟩ := h
      exact pe_cmpR (op_cmpG R.room op) (sndE a R hd.1 h2) (sndE b R hd.2 h3) h4
    · cases h
  | .cm2 o1 o2 a b d, c, n, X, W, x, R, hd, h => by
    obtain rfl := R.g
    unfold chkE at h
    unfold GdE at hd
    split at h
    · simp only [Bool.and_eq_true, decide_eq_true_eq, Bool.not_eq_true'] at h
      obtain ⟨⟨⟨⟨⟨rfl, rfl⟩, h2⟩, h3⟩, h4⟩, h5⟩ := h
      exact pe_chain (op_cmpG R.room o1) (op_cmpG R.room o2) (sndE a R hd.1 h2) (sndE b R hd.2.1 h3) (sndE d R hd.2.2 h4) h5
    · cases h
  | .and a b, c, n, X, W, x, R, hd, h => by
    unfold chkE at h
    unfold GdE at hd
    split at h
    · simp only [Bool.and_eq_true] at h
      exact pe_and (sndE a R hd.1 h.1) (pe_one (sndE b R hd.2 h.2))
    · simp only [Bool.and_eq_true] at h
      exact pe_and (sndE a R hd.1 h.1) (sndE b R hd.2 h.2)
    · cases h
  | .or a b, c, n, X, W, x, R, hd, h => by
    unfold chkE at h
    unfold GdE at hd
    split at h
    · simp only [Bool.and_eq_true] at h
      exact pe_or (sndE a R hd.1 h.1) (pe_one (sndE b R hd.2 h.2))
    · simp only [Bool.and_eq_true] at h
      exact pe_or (sndE a R hd.1 h.1) (sndE b R hd.2 h.2)
    · cases h
  | .not a, c, n, X, W, x, R, hd, h => by
    unfold chkE at h
    unfold GdE at hd
    split at h
    · exact pe_not (sndE a R hd h)
    · cases h
  | .ite t a b, c, n, X, W, x, R, hd, h => by
    unfold chkE at h
    unfold GdE at hd
    split at h
    · simp only [Bool.and_eq_true] at h
      exact pe_ifExp (sndT t R hd.1 h.1.1) (sndE a R hd.2.1 h.1.2) (sndE b R hd.2.2 h.2)
    · cases h
  | .lst es, c, n, X, W, x, R, hd, h => by
    unfold chkE at h
    unfold GdE at hd
    split at h
    · exact pe_lst (sndEs es R hd h)
    · cases h
  | .tup es, c, n, X, W, x, R, hd, h => by
    unfold chkE at h
    unfold GdE at hd
    split at h
    · exact pe_tup (sndEs es R hd h)
    · cases h
  | .sub a i, c, n, X, W, x, R, hd, h => by
    obtain rfl := R.g
    unfold chkE at h
    unfold GdE at hd
    split at h
    · simp only [Bool.and_eq_true] at h
      have pa := sndE a R hd.1 h.1.1
      have pi := sndE i R hd.2 h.1.2
      exact pe_ix (ix_G R.room) pa pi (ix_plain h.2)
    · cases h
  | .slc a lo hi, c, n, X, W, x, R, hd, h => by
    obtain rfl := R.g
    unfold chkE at h
    unfold GdE at hd
    split at h
    · simp only [Bool.and_eq_true] at h
      exact pe_slice sl_G (sndE a R hd.1 h.1.1) (sndO lo R hd.2.1 h.1.2) (sndO hi R hd.2.2 h.2)
    · cases h
  | .call y sp dv es, c, n, X, W, x, R, hd, h => by
    obtain rfl := R.g
    unfold chkE at h
    unfold GdE at hd
    split at h
    · rename_i f xs pos
      simp only [Bool.and_eq_true] at h
      obtain ⟨p, rfl, h2, h3⟩ := isGl_ok h.1
      have pa := sndEs es R hd.2 h.2
      have hs := chkEs_star h.2
      cases es with
      | nil =>
        unfold chkEs at h
        cases xs with
        | nil => exact pe_callG0 hd.1 R.room R.gd R.tk (R.gl h2) (okNm_1 h3)
        | cons => exact absurd h.2 Bool.false_ne_true
      | cons e es =>
        unfold chkEs at h
        cases xs with
        | nil => exact absurd h.2 Bool.false_ne_true
        | cons z zs => exact pe_callG hd.1 R.room R.gd R.tk (R.gl h2) pa hs (okNm_1 h3)
    · cases h
  | .calk y sp g es ks kes, c, n, X, W, x, R, hd, h => by
    obtain rfl := R.g
    unfold chkE at h
    unfold GdE at hd
    split at h
    · rename_i f xs kws pos
      simp only [Bool.and_eq_true] at h
      obtain ⟨⟨⟨⟨h1, h2⟩, h3⟩, h4⟩, h5⟩ := h
      obtain ⟨p, rfl, g2, g3⟩ := isGl_ok h1
      have pa := sndEs es R hd.2.1 h2
      have hs := chkEs_star h2
      have pk := sndKs kes R hd.2.2 h5
      cases es with
      | nil =>
        unfold chkEs at h2
        cases xs with
        | nil => exact pe_callKG0 hd.1 R.room R.gd R.tk (R.gl g2) pk h3 (okNm_1 g3)
        | cons => exact absurd h2 Bool.false_ne_true
      | cons e es =>
        unfold chkEs at h2
        cases xs with
        | nil => exact absurd h2 Bool.false_ne_true
        | cons z zs => exact pe_callKG hd.1 R.room R.gd R.tk (R.gl g2) pa pk h3 hs (okNm_1 g3)
    · cases h
  | .bif b es, c, n, X, W, x, R, hd, h => by
    obtain rfl := R.g
    unfold chkE at h
    unfold GdE at hd
    split at h
    · rename_i f xs pos
      simp only [Bool.and_eq_true, Bool.not_eq_true'] at h
      obtain ⟨⟨h1, h2⟩, h3⟩ := h
      obtain ⟨p, rfl, g2, g3⟩ := isGl_ok h1
      have pa := sndEs es R hd.2 h2
      have hs := chkEs_star h2
      cases xs with
      | nil => exact absurd h3 (by simp)
      | cons z zs => exact pe_bifG b R.room R.gd R.calm (R.gl g2) hd.1 pa hs
    · cases h
  | .bm m o es, c, n, X, W, x, R, hd, h => by
    obtain rfl := R.g
    unfold chkE at h
    unfold GdE at hd
    split at h
    · rename_i y nm ap xs pos
      simp only [Bool.and_eq_true, decide_eq_true_eq] at h
      obtain ⟨⟨⟨⟨⟨rfl, h2⟩, h3⟩, h4⟩, h5⟩, h6⟩ := h
      have po := sndE o R hd.1 h2
      have pa := sndEs es R hd.2 h3
      have hs := chkEs_star h3
      have hl : (ap.endLine == pos.line) = true := by simpa using h4
      cases es with
      | nil =>
        unfold chkEs at h3
        cases xs with
        | nil => exact pe_bm0G m po hl h5
        | cons => exact absurd h3 Bool.false_ne_true
      | cons e es =>
        unfold chkEs at h3
        cases xs with
        | nil => exact absurd h3 Bool.false_ne_true
        | cons z zs => exact pe_bmG m po pa hs hl h5 h6
    · cases h
  | .lc elt tg src cond own, c, n, X, W, x, R, hd, h => by
    obtain rfl := R.g
    unfold chkE at h
    unfold GdE at hd
    split at h
    · rename_i y t i fs a scope pos
      simp only [Bool.and_eq_true, decide_eq_true_eq] at h
      obtain ⟨⟨⟨⟨⟨rfl, h1⟩, h2⟩, h3⟩, h4⟩, h5⟩ := h
      have pi := sndSrc (tg := t) src R hd.2.2.1 h1
      have bk : BlkOk X.N X.env.scope scope (ownOf c.N own) := by
        rw [R.N, R.sc]
        exact blkOk_by h5
      have key := pe_lc (pos := pos) R.calm (by rw [R.N]; exact R.nd) pi.1 bk (fun s H C cl fp => sndTg tg (R.blk scope s H C cl fp) hd.2.1 h2) (fun s H C cl fp => sndTs cond (R.blk scope s H C cl fp) hd.2.2.2 h3) (fun s H C cl fp => sndE elt (R.blk scope s H C cl fp) hd.1 h4) pi.2
      rw [nd_own] at key
      exact key
    · cases h
theorem sndEs {G : Gm} : ∀ (es : Es) {c : CC} {n : Nat} {X : Cx} {W : WX} {xs : List Expr}, RX G c n X W → GdEs G n es → chkEs c es xs = true → PA X xs (rdEs G es W)
  | .nil, c, n, X, W, xs, R, hd, h => by
    unfold chkEs at h
    cases xs with
    | nil => exact pa_nil
    | cons => exact absurd h Bool.false_ne_true
  | .cons e es, c, n, X, W, xs, R, hd, h => by
    unfold chkEs at h
    unfold GdEs at hd
    cases xs with
    | nil => exact absurd h Bool.false_ne_true
    | cons z zs =>
      simp only [Bool.and_eq_true] at h
      exact pa_cons (sndE e R hd.1 h.1.2) (sndEs es R hd.2 h.2) (star_cons h.1.1)
theorem sndKs {G : Gm} : ∀ (es : Es) {c : CC} {n : Nat} {X : Cx} {W : WX} {kws : List Keyword}, RX G c n X W → GdEs G n es → chkEs c es (kws.map (·.value)) = true → PK X kws (rdEs G es W)
  | .nil, c, n, X, W, kws, R, hd, h => by
    unfold chkEs at h
    cases kws with
    | nil => exact pk_nil
    | cons => exact absurd h Bool.false_ne_true
  | .cons e es, c, n, X, W, kws, R, hd, h => by
    unfold chkEs at h
    unfold GdEs at hd
    cases kws with
    | nil => exact absurd h Bool.false_ne_true
    | cons z zs =>
      obtain ⟨ar, v, p⟩ := z
      have h' : (notStar v && chkE c e v && chkEs c es (zs.map (·.value))) = true := h
      simp only [Bool.and_eq_true] at h'
      exact pk_cons (sndE e R hd.1 h'.1.2) (sndKs es R hd.2 h'.2)
theorem sndO {G : Gm} : ∀ (es : Es) {c : CC} {n : Nat} {X : Cx} {W : WX} {x : Option Expr}, RX G c n X W → GdEs G n es → chkO c es x = true → PO X x (rdO G es W)
  | .nil, c, n, X, W, x, R, hd, h => by
    unfold chkO at h
    cases x with
    | none => exact po_none
    | some => exact absurd h Bool.false_ne_true
  | .cons e es, c, n, X, W, x, R, hd, h => by
    unfold chkO at h
    unfold GdEs at hd
    cases x with
    | none => exact absurd h Bool.false_ne_true
    | some y => exact po_some (sndE e R hd.1 h)
theorem sndT {G : Gm} : ∀ (t : T) {c : CC} {n : Nat} {X : Cx} {W : WX} {x : Expr}, RX G c n X W → GdT G n t → chkT c t x = true → PT X x (rdT G t W)
  | .val e, c, n, X, W, x, R, hd, h => by
    obtain rfl := R.g
    unfold chkT at h
    unfold GdT at hd
    simp only [Bool.and_eq_true] at h
    exact pt_truth (sndE e R hd h.2) (tru_plain h.1)
  | .cmp op a b, c, n, X, W, x, R, hd, h => by
    obtain rfl := R.g
    unfold chkT at h
    unfold GdT at hd
    split at h
    · simp only [Bool.and_eq_true, decide_eq_true_eq, Bool.not_eq_true'] at h
      obtain ⟨⟨⟨rfl, h2⟩, h3⟩, h4⟩ := h
      exact pt_cmpR (op_cmpG R.room op) (sndE a R hd.1 h2) (sndE b R hd.2 h3) h4
    · cases h
  | .cm2 o1 o2 a b d, c, n, X, W, x, R, hd, h => by
    obtain rfl := R.g
    unfold chkT at h
    unfold GdT at hd
    split at h
    · simp only [Bool.and_eq_true, decide_eq_true_eq, Bool.not_eq_true'] at h
      obtain ⟨⟨⟨⟨⟨rfl, rfl⟩, h2⟩, h3⟩, h4⟩, h5⟩ := h
      exact pt_chain (op_cmpG R.room o1) (op_cmpG R.room o2) (sndE a R hd.1 h2) (sndE b R hd.2.1 h3) (sndE d R hd.2.2 h4) h5
    · cases h
  | .and a b, c, n, X, W, x, R, hd, h => by
    unfold chkT at h
    unfold GdT at hd
    split at h
    · simp only [Bool.and_eq_true] at h
      exact (pw_and (sndT a R hd.1 h.1) (pw_and1 (sndT b R hd.2 h.2))).pt
    · simp only [Bool.and_eq_true] at h
      exact (pw_and (sndT a R hd.1 h.1) (pw_of (sndT b R hd.2 h.2))).pt
    · cases h
  | .or a b, c, n, X, W, x, R, hd, h => by
    unfold chkT at h
    unfold GdT at hd
    split at h
    · simp only [Bool.and_eq_true] at h
      exact (pw_or (sndT a R hd.1 h.1) (pw_or1 (sndT b R hd.2 h.2))).pt
    · simp only [Bool.and_eq_true] at h
      exact (pw_or (sndT a R hd.1 h.1) (pw_of (sndT b R hd.2 h.2))).pt
    · cases h
  | .not a, c, n, X, W, x, R, hd, h => by
    unfold chkT at h
    unfold GdT at hd
    split at h
    · exact pt_not (sndT a R hd h)
    · cases h
theorem sndTs {G : Gm} : ∀ (t : Ts) {c : CC} {n : Nat} {X : Cx} {W : WX} {xs : List Expr}, RX G c n X W → GdTs G n t → chkTs c t xs = true → PTs X xs (rdTs G t W)
  | .nil, c, n, X, W, xs, R, hd, h => by
    unfold chkTs at h
    cases xs with
    | nil => exact pts_nil
    | cons => exact absurd h Bool.false_ne_true
  | .one t, c, n, X, W, xs, R, hd, h => by
    unfold chkTs at h
    unfold GdTs at hd
    split at h
    · exact pts_one (sndT t R hd h)
    · cases h
theorem sndTg {G : Gm} : ∀ (t : Tg) {c : CC} {n : Nat} {X : Cx} {W : WX} {x : Expr}, RX G c n X W → GdTg G n t → chkTg c t x = true → PG X x (rdTg G t W)
  | .nm i, c, n, X, W, x, R, hd, h => by
    unfold chkTg at h
    split at h
    · simp only [Bool.and_eq_true, decide_eq_true_eq] at h
      obtain ⟨l1, l2⟩ := R.loc h.2
      exact pg_name (by rw [R.N]; exact R.nd) (by rw [R.N]; exact h.1) l1 l2
    · cases h
  | .tp ts, c, n, X, W, x, R, hd, h => by
    obtain rfl := R.g
    unfold chkTg at h
    unfold GdTg at hd
    split at h
    · obtain ⟨a1, a2, a3⟩ := sndTgs ts R hd h
      exact pg_tup R.calm a1 a2 a3
    · cases h
  | .ix o i, c, n, X, W, x, R, hd, h => by
    unfold chkTg at h
    unfold GdTg at hd
    split at h
    · simp only [Bool.and_eq_true] at h
      refine pg_sub (sndE o R hd.1 h.1.1) (sndE i R hd.2 h.1.2) set_list fun v => ?_
      have hi := h.2
      rename_i a b p
      cases b <;> first | rfl | (exact absurd hi Bool.false_ne_true)
    · cases h
theorem sndTgs {G : Gm} : ∀ (ts : Tgs) {c : CC} {n : Nat} {X : Cx} {W : WX} {xs : List Expr}, RX G c n X W → GdTgs G n ts → chkTgs c ts xs = true →
    PGs X xs (rdTgs G ts W) ∧ (assignEach xs X.env).length = ts.len ∧ (assignEach xs X.env).findIdx? (·.1) = none
  | .nil, c, n, X, W, xs, R, hd, h => by
    unfold chkTgs at h
    cases xs with
    | nil => exact ⟨pgs_nil, rfl, rfl⟩
    | cons => exact absurd h Bool.false_ne_true
  | .cons t ts, c, n, X, W, xs, R, hd, h => by
    unfold chkTgs at h
    unfold GdTgs at hd
    cases xs with
    | nil => exact absurd h Bool.false_ne_true
    | cons z zs =>
      simp only [Bool.and_eq_true] at h
      obtain ⟨a1, a2, a3⟩ := sndTgs ts R hd.2 h.2
      have e : assignEach (z :: zs) X.env = (false, assign z X.env) :: assignEach zs X.env := by
        have hz := h.1.1
        cases z <;> first | rfl | (exact absurd hz Bool.false_ne_true)
      refine ⟨pgs_cons (sndTg t R hd.1 h.1.2) a1 (by rw [e]; rfl), ?_, ?_⟩
      · rw [e, List.length_cons, a2]
        rfl
      · rw [e, List.findIdx?_cons]
        simp [a3]
theorem sndSrc {G : Gm} : ∀ (t : Src) {c : CC} {n : Nat} {X : Cx} {W : WX} {tg x : Expr}, RX G c n X W → GdSrc G n t → chkSrc c t x = true → PI X tg x (rdSrc G t W) ∧ ∀ v, foldedSetIterable x X.env v = pure v
  | .plain e, c, n, X, W, tg, x, R, hd, h => by
    obtain rfl := R.g
    unfold chkSrc at h
    unfold GdSrc at hd
    simp only [Bool.and_eq_true] at h
    have pe := sndE e R hd h.2
    exact ⟨pi_seq pe, plain_fold h.1⟩
  | .rng1 a, c, n, X, W, tg, x, R, hd, h => by
    obtain rfl := R.g
    unfold chkSrc at h
    unfold GdSrc at hd
    split at h
    · simp only [Bool.and_eq_true] at h
      obtain ⟨p, rfl, g2, g3⟩ := isGl_ok h.1.1
      exact ⟨pi_range1 (R.gl g2) hd.1 (pa_cons (sndE a R hd.2 h.2) pa_nil (star_cons h.1.2)) (star_cons h.1.2), fun v => rfl⟩
    · cases h
  | .rng2 a b, c, n, X, W, tg, x, R, hd, h => by
    obtain rfl := R.g
    unfold chkSrc at h
    unfold GdSrc at hd
    split at h
    · simp only [Bool.and_eq_true] at h
      obtain ⟨⟨⟨⟨h1, h2⟩, h3⟩, h4⟩, h5⟩ := h
      obtain ⟨p, rfl, g2, g3⟩ := isGl_ok h1
      exact ⟨pi_range2 (R.gl g2) hd.1 (pa_cons (sndE a R hd.2.1 h4) (pa_cons (sndE b R hd.2.2 h5) pa_nil (star_cons h3)) (star_cons h2)) (by rw [star_cons h2, star_one h3]) (star_one h3), fun v => rfl⟩
    · cases h
end
end Kn

/-! KnX: own errors: made, raised, caught by several clauses with names. -/
namespace Kn
open PySem PySem.Spec PyProof.Rows L2

/-- a call of a method in its plain form -/
theorem meth_form {o : Expr} {m : Str} {ap pos : Pos} {args : List Expr} {kws : List Keyword} {env : Env} (hb : plainE o = true) (hst : ∀ z ∈ args, notStar z = true) (hk : (backToKw pos (keywordEach kws env)).all (·.1.isSome) = true) (hn : args.length + kws.length < 28) (hl : (ap.endLine == pos.line) = true) :
    eval (.Call (.Attribute o m ap) args kws pos) env = (do
      let ov ← eval o env
      standAt ap.atName
      let (f, first) ← holding [ov] (getMethod ov m (do return (← importBound o env).getD true))
      callWith pos f first (backTo pos (starEach args env)) (backToKw pos (keywordEach kws env))) := by
  have few : methodCallForm (args.length + kws.length) (backTo pos (starEach args env)) (backToKw pos (keywordEach kws env)) = true := by
    unfold methodCallForm
    rw [star_all hst, hk]
    have : args.length + kws.length + (if (backToKw pos (keywordEach kws env)).isEmpty then 0 else 1) < 30 := by
      split <;> omega
    rw [decide_eq_true this]
    rfl
  show (do
    let ov ← attributeBase o m env (eval o env)
    standAt ap.atName
    methodCall o m ap pos env ov (args.length + kws.length) (backTo pos (starEach args env)) (backToKw pos (keywordEach kws env))) = _
  rw [plain_base hb]
  unfold methodCall calleeOf methodCallPos
  rw [few, hl]
  rfl
/-- the base of the own errors, by its name -/
structure KeC (K : PySem.W.Frag) (mg : Str → Option Value) (x : Str) (C : Addr) : Prop where
  at_ : mg x = some (.ref C)
  sp : PySem.W.specialIn K (.ref C) "__getattribute__" = some (some (.builtin "type.__getattribute__"))
  ty : PySem.W.typeIn K (.ref C) = some (.type "type")
  rd : PySem.W.readsIn K C (.type "type") = true
  fi : PySem.W.findCls K (.ref C) (.type "type") "__init__" = some (.val (.builtin "ValueError.__init__"))
section
variable {X : Cx} {C : Addr} {x : Str} {p1 p2 pos : Pos}
/-- Base.__init__(self, ..), Base an own class -/
theorem pe_keinit {e : Expr} {es : List Expr} {ta : TA} (T : KeC X.K X.mg x C) (hg : Gl X x) (ha : PA X (e :: es) ta) (hst : ∀ z ∈ e :: es, notStar z = true) (hn : (e :: es).length < 20) (hl : (p2.endLine == pos.line) = true) (hdb : (x == ("__debug__" : Str)) = false) :
    PE X (.Call (.Attribute (.Name x p1) "__init__" p2) (e :: es) [] pos) (tVeI X.K ta) := by
  refine ⟨fun pins s σ H Q I h => ?_⟩
  refine PySem.W.methodCall_KW (ld_glob I hg T.at_ ?_ hdb) (meth_form (by rfl) hst (by rfl) (Nat.lt_trans hn (by decide)) hl)
  obtain ⟨m, fr⟩ := I.fr
  refine PySem.W.method_of_cls fr I.ok.mod.kin T.sp (PySem.W.cls_val fr I.ok.mod.kin T.ty T.rd T.fi (by decide +kernel) ?_)
  show wpAny _ _ (callWith pos (Value.builtin "ValueError.__init__") [] (backTo pos (starEach (e :: es) X.env)) []) _ _ _
  refine PyProof.Rows.callWith_method1 (thn (ha.run pos pins _ σ H _ (I.tok _) h) fun us s1 hh => ?_) (star_cons (hst e (List.mem_cons_self ..))) (pa_star fun z hz => hst z (List.mem_cons_of_mem _ hz))
  obtain ⟨vs, H1, I1, r1, a, C1, ws, ev, hl, T1, ea, q⟩ := hh
  subst ev
  cases r1 with
  | cons ra rw' =>
    obtain rfl := ra
    refine oinit_ok T1 I1 ea ?_ fun s' J => ⟨.non, H1, J, rfl, q⟩
    rw [← Paired.length rw', sizeLine_eq]
    omega
end

/-! ### __init__ of an error with one field -/
def spIni1 (C : Addr) (f : Str) : Sp := fun vs H Q _ => ∃ (a : Addr) (y : V), vs = [.ref a, y] ∧ H a = some (exo a C none) ∧ ∀ dx, H dx = none → dx ≠ a → Q .non (upd (upd H dx (exd dx [(f, y)])) a (exo a C (some dx)))
/-- the text of such an __init__ -/
def chkIni1 (b f v : Str) : List Stmt → Bool
  | [.Expr (.Call (.Attribute (.Name k _) i p) [.Name s1 _, .Constant (.str _) _ _] [] q) _, .Assign [.Attribute (.Name s2 _) g _] (.Name w _) _] =>
    (p.endLine == q.line) && decide (k = b) && decide (i = "__init__") && decide (s1 = "self") && decide (s2 = "self") && decide (g = f) && decide (w = v)
  | _ => false
/-- what the module says of an error class with one field f, its name x, its parameter v -/
structure Er1 (G : Gm) (x f : Str) (C : Addr) : Prop where
  at_ : G.mg x = some (.ref C)
  oex : OexC G.K C
  noF : PySem.W.findIn G.K (.ref C) f = some none
  xf : XfC G.K C
  te : PySem.W.exmOne G.K (.ref C) (.ref C) = some true
  ini : ∃ fI fd v, PySem.W.findIn G.K (.ref C) "__init__" = some (some (.ref fI)) ∧ PySem.W.typeIn G.K (.ref fI) = some (.type "function") ∧ FnOk G.P G.w G.K G.mg G.base (L2.CX G.P G.w) 1 fI fd ["self", v] (spIni1 C f) ∧ Binds G.K fd ["self", v] []
theorem ini1_ok {G : Gm} {b x f v : Str} {CB C fI : Addr} {fd : FuncData} {params : Arguments} {body : List Stmt} {scope : Scope} {qual nm : Str} (T : KeC G.K G.mg b CB) (F : FunD G.K nm qual params body scope [] [] fI fd) (S : FnScope ["self", v] ["self", v] scope)
    (O : OexC G.K C) (noF : PySem.W.findIn G.K (.ref C) f = some none) (hc : chkIni1 b f v body = true) (hgl : scope.names.lookup b = some .globalImplicit) (l1 : scope.names.lookup ("self" : Str) = some NameKind.local) (l2 : scope.names.lookup v = some NameKind.local)
    (d1 : (b == ("__debug__" : Str)) = false) (d2 : okNm v = true) :
    FnOk G.P G.w G.K G.mg G.base (L2.CX G.P G.w) 1 fI fd ["self", v] (spIni1 C f) := by
  refine F.ok S (fun vs H Q E h => ?_) (fun cdv A outer s H vs Q E hr h => ?_)
  · obtain ⟨a, y, rfl, _⟩ := h
    rfl
  · obtain ⟨a, y, rfl, ha, k⟩ := h
    unfold chkIni1 at hc
    split at hc
    · rename_i k0 p1 i0 p2 s1 p3 m0 j0 p4 p5 p6 s2 p7 g0 p8 w0 p9 p10
      simp only [Bool.and_eq_true, decide_eq_true_eq] at hc
      obtain ⟨⟨⟨⟨⟨⟨hl, rfl⟩, rfl⟩, rfl⟩, rfl⟩, rfl⟩, rfl⟩ := hc
      have n0 : (["self", w0] : List Str)[0]? = some ("self" : Str) := rfl
      have n1 : (["self", w0] : List Str)[1]? = some w0 := rfl
      have sdb : (("self" : Str) == ("__debug__" : Str)) = false := by decide +kernel
      have scd : (("self" : Str) == ("__classdict__" : Str)) = false := by decide +kernel
      have e1 := pe_keinit (X := cxOf (L2.CX G.P G.w) G.P G.w G.K G.mg G.base ["self", w0] qual scope fI cdv A outer s H E) (p1 := p1) (p2 := p2) (pos := p5) T hgl (pa_cons (pe_var (i := 0) (pos := p3) n0 (.inl l1) sdb scd) (pa_cons (pe_str (x := m0) (j := j0) (pos := p4)) pa_nil)) (by intro z hz; simp only [List.mem_cons, List.not_mem_nil, or_false] at hz; rcases hz with rfl | rfl <;> rfl) (Nat.le_of_ble_eq_true rfl) hl d1
      have e2 := ps_ost (X := cxOf (L2.CX G.P G.w) G.P G.w G.K G.mg G.base ["self", w0] qual scope fI cdv A outer s H E) (f := g0) (p' := p8) (pos := p10) (pe_var (i := 0) (pos := p7) n0 (.inl l1) sdb scd) (pe_var (i := 1) (pos := p9) n1 (.inl l2) (okNm_1 d2) (okNm_2 d2))
      refine ⟨_, pss_cons (ps_expr e1) (pss_one e2), ?_⟩
      refine ⟨_, rfl, a, C, [.str m0], rfl, Nat.le_of_ble_eq_true rfl, O, ha, ?_⟩
      exact ⟨_, rfl, _, rfl, a, C, rfl, O, noF, .inl ⟨ha, fun dx n ne => k dx n ne⟩⟩
    · cases hc

/-- one argument, whatever is known of it -/
theorem pa_closed {X : Cx} {e : Expr} {te : TE} (he : PE X e te) (hst : notStar e = true) : PA X [e] (fun σ H Q => ∃ R : VK, te σ H R ∧ ∀ y H1, R y H1 → Q [y] H1) := by
  refine ⟨fun pos pins s σ H Q I h => ?_⟩
  obtain ⟨R, h1, h2⟩ := h
  refine thn ((pa_cons he pa_nil (star_cons hst)).run pos pins s σ H (fun vs H1 => match vs with | [y] => R y H1 | _ => False) I h1) fun us s1 hh => ?_
  obtain ⟨vs, H1, I1, r, q⟩ := hh
  split at q
  · exact ⟨_, H1, I1, r, h2 _ _ q⟩
  · exact q.elim
theorem upd_del {H : Hp} {a d : Addr} {o1 o2 o3 o4 : HO} (ha : H a = none) (hne : d ≠ a) : upd (del (upd (upd (upd H a o1) d o2) a o3) a) d o4 = upd H d o4 := by
  funext b
  by_cases hd : b = d
  · subst hd
    rw [upd_same, upd_same]
  · rw [upd_ne hd, upd_ne hd]
    by_cases hb : b = a
    · subst hb
      rw [del_same, ha]
    · rw [del_ne hb, upd_ne hb, upd_ne hd, upd_ne hb]
/-- X(e) is made, X an error with one field -/
theorem pmk_er1 {X : Cx} {n : Nat} {x f : Str} {C : Addr} {e : Expr} {te : TE} {p pos : Pos} (T : Er1 (gm X) x f C) (hr : Room (n + 2) X.A) (hg : Gl X x) (he : PE X e te) (hst : notStar e = true) (hdb : (x == ("__debug__" : Str)) = false) :
    PMk X (.Call (.Name x p) [e] [] pos) (fun σ H Q => te σ H fun y H1 => ∀ d, H1 d = none → Q (.ref C) (some d) (upd H1 d (.xd [(f, y)]))) := by
  obtain ⟨fI, fd, v, i1, i2, i3, i4⟩ := T.ini
  have key := pmk_oex (p := p) (pos := pos) (X := X) (k := 1) T.oex i1 i2 i3 (hr.mono (by omega)) i4 .nil passL hg T.at_ (pa_closed he hst) hdb (star_cons hst) rfl
  intro pins s σ H Q I h
  refine key pins s σ H Q I ⟨_, h, fun y H1 q => ⟨Nat.le_of_ble_eq_true rfl, fun a ha => ⟨a, y, rfl, upd_same, fun dx hdx hne => ?_⟩⟩⟩
  rw [upd_ne hne] at hdx
  refine ⟨rfl, dx, [(f, y)], upd_same, by rw [upd_ne hne, upd_same], hdx, ?_⟩
  rw [upd_del ha hne]
  exact q dx hdx
end Kn

/-! KnY: try with several clauses, named or not. -/
namespace Kn
open PySem PySem.Spec PyProof.Rows L2

/-- a clause: its class, its name's slot, its suite's reading -/
abbrev Cl := Value × Option Nat × (Addr → Value → Option Addr → TS)
/-- behind a suite whose clause has a name the name is gone -/
def Ends.gone (D : Ends) (i : Nat) : Ends := { nx := fun σ H => D.nx (σ.set i none) H, rt := D.rt, bk := fun σ H => D.bk (σ.set i none) H, ct := fun σ H => D.ct (σ.set i none) H }
def wHs (K : PySem.W.Frag) (Wout : WX) (D : Ends) : List Cl → WX
  | [] => Wout
  | (c, none, ts) :: r => fun cls d σ H => ∃ b, PySem.W.exmOne K cls c = some b ∧ (b = true → ∀ a, H a = none → ts a cls d D σ H) ∧ (b = false → wHs K Wout D r cls d σ H)
  | (c, some i, ts) :: r => fun cls d σ H => ∃ b, PySem.W.exmOne K cls c = some b ∧ (b = true → ∀ a, H a = none → ts a cls d (Ends.gone D i) (σ.set i (some (.ref a))) H) ∧ (b = false → wHs K Wout D r cls d σ H)
abbrev SuiteOk (X : Cx) (sts : List Stmt) (ts : Addr → Value → Option Addr → TS) : Prop := ∀ (a : Addr) (oe : Obj) (cls : Value) (d : Option Addr) (pn : List (Addr × Obj)), Zc cls d oe → (∃ vs, oe.data = .fields vs) → PSs (X.suite a ((a, oe) :: pn)) sts (ts a cls d)
inductive HdA (X : Cx) : List ExceptHandler → List Cl → Prop
  | nil : HdA X [] []
  | bare {x : Str} {c : Value} {ts : Addr → Value → Option Addr → TS} {b : Stmt} {su : List Stmt} {np p : Pos} {hds : List ExceptHandler} {l : List Cl} (hc : Names X x c) (hsu : SuiteOk X (b :: su) ts) (r : HdA X hds l) :
      HdA X (.ExceptHandler (some (.Name x np)) none (b :: su) p :: hds) ((c, none, ts) :: l)
  | named {x m : Str} {i : Nat} {c : Value} {ts : Addr → Value → Option Addr → TS} {b : Stmt} {su : List Stmt} {np p : Pos} {hds : List ExceptHandler} {l : List Cl} (hc : Names X x c) (hi : X.N[i]? = some m) (hl : X.env.kindOf m = some .local) (hsu : SuiteOk X (b :: su) ts) (r : HdA X hds l) :
      HdA X (.ExceptHandler (some (.Name x np)) (some m) (b :: su) p :: hds) ((c, some i, ts) :: l)
section
variable {X : Cx} {body : List Stmt} {h0 : ExceptHandler} {hds : List ExceptHandler} {l : List Cl} {pos : Pos} {tb : WX → TS} {Wout : WX}
theorem ps_tryA (hs : X.stack = X.env :: X.outer) (hf : X.env.frame = some X.env.locals) (hN : X.N.Nodup) (tk : Takes X Wout)
    (hb : ∀ (W : WX) (pn : List (Addr × Obj)) (xe : Value → Shared → Prop), Takes (X.tr pn xe) W → PassesOwn (model X.prog X.w) X.A X.env xe → PSs (X.tr pn xe) body (tb W)) (hh : HdA X (h0 :: hds) l) :
    PS X (.Try body (h0 :: hds) [] [] pos) (fun D σ H => tb (wHs X.K Wout D l) D σ H) := by
  constructor
  intro pins s σ H D I h
  have good := I.ok
  have fr : X.A.frames = some (X.env :: X.outer) := by rw [good.frames, hs]
  have bodyRun := hb (wHs X.K Wout D l) (X.pn ++ pins) (fun e s1 => wpAny (model X.prog X.w) X.A (noteFrame e X.env) (fun _ s2 => wpAny (model X.prog X.w) X.A (setFlight e none) (fun _ s3 =>
    wpAny (model X.prog X.w) X.A (handleBy e X.env (h0 :: hds)) (SP X pins D) X.xe s3) X.xe s2) X.xe s1)
  refine wpAny_Try_except (wpAny_mono ((bodyRun (fun u s' air => ?_) PassesOwn.looking).run [] s σ H D (I.toTry _) h) (fun f s1 out => ?_) fun e s1 z => z)
  · -- an error has left the body
    obtain ⟨a, B, sI, pins', τ, G, cls, d, rfl, J', ground, upTo, sky, fresh, osEq, bareG, wish⟩ := air
    have J := J'.ofTry good
    rw [hs] at sky
    show wpAny (model X.prog X.w) X.A (noteFrame (.ref a) X.env) _ _ _
    refine Sky.land Zc.steady fr hf sky fun hA fly upA => ?_
    have JA : L2.Inv X pins τ G { s' with heap := hA } := J.landed ground fly.1 (upTo.trans upA) osEq bareG
    obtain ⟨oeA, vsA, atA, zcA, datA⟩ := fly.there
    have apart : a ∉ frs (X.env :: X.outer) := fun hm => by
      obtain ⟨_, ob, atB, noF⟩ := fly.2.2.1.mem hm
      rw [atA] at atB
      cases atB
      exact noF _ datA
    have aL : a ≠ X.env.locals := fun z => apart (List.mem_filterMap.mpr ⟨X.env, List.mem_cons_self, by rw [hf, z]⟩)
    have aF : a ∉ X.fs := fun hm => by
      obtain ⟨e1, m1, q1⟩ := List.mem_filterMap.mp hm
      exact apart (List.mem_filterMap.mpr ⟨e1, List.mem_cons_of_mem _ m1, q1⟩)
    have SA := JA.suite atA datA fresh aL aF
    -- one clause after the other
    have clauses : ∀ {hs' : List ExceptHandler} {l' : List Cl}, HdA X hs' l' → wHs X.K Wout D l' cls d τ G → wpAny (model X.prog X.w) X.A (handleBy (.ref a) X.env hs') (SP X pins D) X.xe { s' with heap := hA } := by
      have tested : ∀ {x : Str} {c : Value} {np : Pos} {b : Bool} {Q : Bool → Shared → Prop} {E : Value → Shared → Prop}, Names X x c → PySem.W.exmOne X.K cls c = some b → Q b { s' with heap := hA } →
          wpAny (model X.prog X.w) (X.A.mark (some (.ref a))) (eval (.Name x np) X.env) (fun v s2 => wpAny (model X.prog X.w) (X.A.mark (some (.ref a))) (excMatches (.ref a) v) Q E s2) E { s' with heap := hA } := by
        intro x c np b Q E hc hb1 q
        have tyA : PySem.W.Looks (model X.prog X.w) hA (typeOf (.ref a)) cls := fun A Q E s k z => wpAny_typeOf_ref (k _ _ atA) (by rw [zcA.1]; exact z)
        have ex := PySem.W.exm_one (M := model X.prog X.w) (JA.kIn) tyA hb1
        obtain ⟨hg, hdbg, hm | ⟨hm, hv, hnn⟩⟩ := hc
        · exact ld_glob (X := X.suite a ((a, oeA) :: (X.pn ++ pins))) SA hg hm (ex.here q) hdbg
        · exact ld_blt (X := X.suite a ((a, oeA) :: (X.pn ++ pins))) SA hg hm hv (ex.here q) hnn hdbg
      intro hs' l' hk
      induction hk with
      | nil =>
        intro wish
        refine wpAny_handleBy_nil ?_
        obtain ⟨k1, k2, k3, oe, vs, Tb, oT, ts', he, hz, hd, h1, hr⟩ := id fly
        unfold PySem.passOn
        refine wpAny_bind (wpAny_field he hd h1 ?_)
        rw [if_neg (show ¬ ((Value.ref Tb == Value.none) = true) from by simp)]
        have rest : wpAny (model X.prog X.w) X.A (setFlight (.ref a) X.env.frame) (fun _ s4 => wpAny (model X.prog X.w) X.A (throw (.ref a) : Sem Flow) (SP X pins D) X.xe s4) X.xe { s' with heap := hA } := by
          rw [hf]
          exact HandSPX.setFlight_upZ fly fun h4 held up4 => wpAny_throw (tk _ _ ⟨a, B, sI, pins, τ, G, cls, d, rfl, J, ground, (upTo.trans upA).trans up4, .inr (.inr (by rw [hs]; exact held)), fresh, osEq, bareG, wish⟩)
        first
          | exact wpAny_bind (wpAny_pure (wpAny_bind rest))
          | exact wpAny_bind rest
      | @bare x c ts b su np p hds2 l2 hc hsu r ih =>
        intro wish
        obtain ⟨k, hb1, yes, no⟩ := wish
        refine wpAny_handleBy_cons (codeAny_handlers_test (tested hc hb1 ?_)) (by intro q; cases q)
        cases k with
        | false =>
          show wpAny _ X.A (handleBy (.ref a) X.env hds2) _ _ _
          exact ih (no rfl)
        | true =>
          refine codeAny_handlers_suite (HandSPX.lands_againZ fly fun hB flyB upB => ?_)
          obtain ⟨oeB, vsB, atB, zcB, datB⟩ := flyB.there
          have JB : L2.Inv X pins τ G { s' with heap := hB } := J.landed ground flyB.1 ((upTo.trans upA).trans upB) osEq bareG
          have SB := JB.suite atB datB fresh aL aF
          refine wpAny_mono ((hsu a oeB cls d (X.pn ++ pins) zcB ⟨_, datB⟩).run [] _ _ G _ SB (yes rfl a fresh)) (fun f s6 out => ?_) fun _ _ z => z.elim
          match f, out with
          | .next, ⟨τ6, G6, S6, q6⟩ => exact ⟨τ6, G6, S6.unsuite good, q6⟩
          | .brk, ⟨τ6, G6, S6, q6⟩ => exact ⟨τ6, G6, S6.unsuite good, q6⟩
          | .cont, ⟨τ6, G6, S6, q6⟩ => exact ⟨τ6, G6, S6.unsuite good, q6⟩
          | .ret u, ⟨v6, τ6, G6, S6, r6, q6⟩ => exact ⟨v6, τ6, G6, S6.unsuite good, r6, q6⟩
      | @named x m i c ts b su np p hds2 l2 hc hi hl hsu r ih =>
        intro wish
        obtain ⟨k, hb1, yes, no⟩ := wish
        refine wpAny_handleBy_cons (codeAny_handlers_test (tested hc hb1 ?_)) (by intro q; cases q)
        cases k with
        | false =>
          show wpAny _ X.A (handleBy (.ref a) X.env hds2) _ _ _
          exact ih (no rfl)
        | true =>
          refine codeAny_handlers_suite_as (HandSPX.lands_againZ fly fun hB flyB upB => ?_)
          obtain ⟨oeB, vsB, atB, zcB, datB⟩ := flyB.there
          have JB : L2.Inv X pins τ G { s' with heap := hB } := J.landed ground flyB.1 ((upTo.trans upA).trans upB) osEq bareG
          have SB := JB.suite atB datB fresh aL aF
          refine store_ok (X := X.suite a ((a, oeB) :: (X.pn ++ pins))) (v := .ref a) SB hN hi (.inl hl) rfl (fun s5 S5 => ?_) (.inr hl)
          refine wpAny_mono ((hsu a oeB cls d (X.pn ++ pins) zcB ⟨_, datB⟩).run [] s5 _ G _ S5 (yes rfl a fresh)) (fun f s6 out => ?_) fun _ _ z => z.elim
          have gone : ∀ {τ6 : L2.St} {G6 : Hp} {Q : Shared → Prop}, L2.Inv (X.suite a ((a, oeB) :: (X.pn ++ pins))) [] τ6 G6 s6 → (∀ s7, L2.Inv X pins (τ6.set i none) G6 s7 → Q s7) →
              wpAny (model X.prog X.w) X.A (do bindName X.env m .none; unbindBehindTheSuite X.env m p) (fun _ s7 => Q s7) X.xe s6 := fun S6 q => gone_ok (S6.unsuite good) hN hi hl q
          match f, out with
          | .next, ⟨τ6, G6, S6, q6⟩ => exact gone S6 fun s7 J7 => ⟨_, _, J7, q6⟩
          | .brk, ⟨τ6, G6, S6, q6⟩ => exact gone S6 fun s7 J7 => ⟨_, _, J7, q6⟩
          | .cont, ⟨τ6, G6, S6, q6⟩ => exact gone S6 fun s7 J7 => ⟨_, _, J7, q6⟩
          | .ret u, ⟨v6, τ6, G6, S6, r6, q6⟩ => exact gone S6 fun s7 J7 => ⟨_, _, _, J7, r6, q6⟩
    exact clauses hh wish
  · match f, out with
    | .next, ⟨τ6, G6, S6, q6⟩ => exact wpAny_execs_nil ⟨τ6, G6, S6.ofTry good, q6⟩
    | .brk, ⟨τ6, G6, S6, q6⟩ => exact ⟨τ6, G6, S6.ofTry good, q6⟩
    | .cont, ⟨τ6, G6, S6, q6⟩ => exact ⟨τ6, G6, S6.ofTry good, q6⟩
    | .ret u, ⟨v6, τ6, G6, S6, r6, q6⟩ => exact ⟨v6, τ6, G6, S6.ofTry good, r6, q6⟩
end
end Kn

/-! KnS: trees of statements, their check, readings, soundness. -/
namespace Kn
open PySem PySem.Spec PyProof.Rows L2

/-- an item in an except suite: a constant, or a field of the error in slot j -/
inductive SE where
  | cst (v : V)
  | xf (j : Nat) (f : Str)
/-- an except suite -/
inductive Su where
  | lst (i : Nat) (es : List SE)
  | ret (v : V)
mutual
inductive S where
  | asg (t : Tg) (e : E)
  | par2 (i j : Nat) (a b : E)
  | aug (i : Nat) (op : Operator) (e : E)
  | ret (e : E)
  | retN
  | exp (e : E)
  | iff (c : T) (a b : Ss)
  | for_ (t : Tg) (s : Src) (b : Ss)
  | whl (c : T) (b : Ss)
  | pass
  | brk
  | cnt
  | rs1 (x f : Str) (e : E)
  | try_ (b : Ss) (hs : Hs)
inductive Ss where
  | nil
  | cons (s : S) (r : Ss)
inductive Hs where
  | nil
  | cons (x : Str) (nm : Option Nat) (su : Su) (r : Hs)
end

/-! ### the check -/
def notComp : Expr → Bool
  | .ListComp _ _ _ _ => false
  | .SetComp _ _ _ _ => false
  | .DictComp _ _ _ _ _ => false
  | _ => true
def isTupE : Expr → Bool
  | .Tuple _ _ _ => true
  | .List _ _ => true
  | _ => false
def clearTg : Expr → Bool
  | .Name _ _ => true
  | .Tuple _ _ _ => true
  | .Subscript _ _ _ => true
  | _ => false
def asgB (c : CC) (t e : Expr) : Bool := match e with
  | .ListComp _ _ scope p => (match t with
    | .Name y q => (decide (c.sc.kind = .function) && decide (c.sc.names.lookup y = some .local) && (q.line == p.line) && !(scope.names.any fun z => z.1 == y && (z.2 == .local || z.2 == .cell))) || decide (c.sc.names.lookup y = some .cell)
    | _ => false)
  | .SetComp _ _ _ _ => false
  | .DictComp _ _ _ _ _ => false
  | e => clearTg t && !(isTupE t && isTupE e)
def chkSE (c : CC) : SE → Expr → Bool
  | .cst v, e => (match e with | .Constant k _ _ => cstB v k | _ => false)
  | .xf j f, e => (match e with | .Attribute (.Name x _) g _ => decide (c.N[j]? = some x) && visB c.sc x && okNm x && decide (g = f) | _ => false)
def chkSEs (c : CC) : List SE → List Expr → Bool
  | [], xs => xs.isEmpty
  | s :: ss, xs => (match xs with | x :: r => notStar x && chkSE c s x && chkSEs c ss r | [] => false)
def chkSu (c : CC) : Su → List Stmt → Bool
  | .lst i es, b => (match b with | [.Assign [.Name y _] (.List xs _) _] => decide (c.N[i]? = some y) && stB c y && chkSEs c es xs | _ => false)
  | .ret v, b => (match b with | [.Return (some (.Constant k _ _)) _] => cstB v k | _ => false)
def parB (c : CC) (i j : Nat) (x y : Str) (px py : Pos) (a b : Expr) : Bool :=
  decide (c.sc.kind = .function) && decide (i ≠ j) && decide (c.N[i]? = some x) && decide (c.N[j]? = some y) && decide (c.sc.names.lookup x = some .local) && decide (c.sc.names.lookup y = some .local) && (px.line == py.line) && notStar a && notStar b && !([a, b].all (foldedForSure 8)) && !([a, b].all (constantsAlone 8)) && !(x == y)
mutual
def chkS (c : CC) : S → Stmt → Bool
  | .asg t e, s => (match s with | .Assign [y] x _ => asgB c y x && chkTg c t y && chkE c e x | _ => false)
  | .par2 i j a b, s => (match s with
    | .Assign [.Tuple [.Name x px, .Name y py] _ _] (.Tuple [u, v] _ _) _ => parB c i j x y px py u v && chkE c a u && chkE c b v
    | _ => false)
  | .aug i op e, s => (match s with | .AugAssign (.Name y _) o x _ => decide (c.N[i]? = some y) && stB c y && decide (o = op) && chkE c e x && (decide (op = .Add) || decide (op = .Sub)) | _ => false)
  | .ret e, s => (match s with | .Return (some x) _ => chkE c e x | _ => false)
  | .retN, s => (match s with | .Return none _ => true | _ => false)
  | .exp e, s => (match s with | .Expr x _ => notComp x && chkE c e x | _ => false)
  | .iff t a b, s => (match s with | .If x u v _ => chkT c t x && chkSs c a u && chkSs c b v | _ => false)
  | .for_ t r b, s => (match s with | .For x i u [] _ => chkTg c t x && chkSrc c r i && chkSs c b u | _ => false)
  | .whl t b, s => (match s with | .While x u [] _ => chkT c t x && chkSs c b u | _ => false)
  | .pass, s => (match s with | .Pass _ => true | _ => false)
  | .brk, s => (match s with | .Break _ => true | _ => false)
  | .cnt, s => (match s with | .Continue _ => true | _ => false)
  | .rs1 x _ e, s => (match s with | .Raise (some (.Call f [y] [] _)) none _ => isGl c f x && notStar y && chkE c e y | _ => false)
  | .try_ b hs, s => (match s with | .Try u (h :: r) [] [] _ => chkSs c b u && chkHs c hs (h :: r) | _ => false)
def chkSs (c : CC) : Ss → List Stmt → Bool
  | .nil, b => b.isEmpty
  | .cons s r, b => (match b with | x :: y => chkS c s x && chkSs c r y | [] => false)
def chkHs (c : CC) : Hs → List ExceptHandler → Bool
  | .nil, l => l.isEmpty
  | .cons x nm su r, l => (match l with
    | .ExceptHandler (some (.Name y _)) m (b :: bs) _ :: l' => decide (y = x) && glB c.sc x && okNm x && chkSu c su (b :: bs) && chkHs c r l' &&
        (match nm, m with
          | none, none => true
          | some i, some n => decide (c.N[i]? = some n) && decide (c.sc.names.lookup n = some .local)
          | _, _ => false)
    | _ => false)
end

/-! ### the readings -/
def rdSE (a : Addr) (cls : Value) (d : Option Addr) (C : Addr) : SE → TE
  | .cst v => tC v
  | .xf j f => tXf a cls d C f (tVar j)
def rdSEs (a : Addr) (cls : Value) (d : Option Addr) (C : Addr) : List SE → TA
  | [] => tNil
  | s :: r => tCons (rdSE a cls d C s) (rdSEs a cls d C r)
def rdSu (a : Addr) (cls : Value) (d : Option Addr) (C : Addr) : Su → TS
  | .lst i es => tAsg (tLst (rdSEs a cls d C es)) (gName i)
  | .ret v => tRet (tC v)
def clV (G : Gm) (x : Str) : Value := (G.mg x).getD .none
def clA (G : Gm) (x : Str) : Addr := match G.mg x with
  | some (.ref C) => C
  | _ => 0
def clsOf (G : Gm) : Hs → List Cl
  | .nil => []
  | .cons x nm su r => (clV G x, nm, fun a cls d => rdSu a cls d (clA G x) su) :: clsOf G r
def ipG : Operator → TIp
  | .Add => ipI fun i j => i + j
  | .Sub => ipI fun i j => i - j
  | _ => fun _ _ _ _ => False
mutual
def rdS (G : Gm) : S → WX → TS
  | .asg t e, W => tAsg (rdE G e W) (rdTg G t W)
  | .par2 i j a b, W => tPar i j (tCons (rdE G a W) (tCons (rdE G b W) tNil))
  | .aug i op e, W => tAug i (rdE G e W) (ipG op)
  | .ret e, W => tRet (rdE G e W)
  | .retN, _ => tRetN
  | .exp e, W => tDrop (rdE G e W)
  | .iff c a b, W => tIfS (rdT G c W) (rdSs G a W) (rdSs G b W)
  | .for_ t s b, W => tFor (rdSrc G s W) (rdTg G t W) (rdSs G b W)
  | .whl c b, W => tWhile (rdT G c W) (rdSs G b W)
  | .pass, _ => tNext
  | .brk, _ => tBreak
  | .cnt, _ => tCont
  | .rs1 x f e, W => fun _ σ H => rdE G e W σ H fun y H1 => ∀ d, H1 d = none → W (clV G x) (some d) σ (upd H1 d (.xd [(f, y)]))
  | .try_ b hs, W => fun D σ H => rdSs G b (wHs G.K W D (clsOf G hs)) D σ H
def rdSs (G : Gm) : Ss → WX → TS
  | .nil, _ => tNext
  | .cons s r, W => tSeq (rdS G s W) (rdSs G r W)
end

/-! ### what must stand -/
def GdSE (G : Gm) (C : Addr) : SE → Prop
  | .cst _ => True
  | .xf _ f => PySem.W.findIn G.K (.ref C) f = some none ∧ XfC G.K C
def GdSu (G : Gm) (C : Addr) : Su → Prop
  | .lst _ es => ∀ e ∈ es, GdSE G C e
  | .ret _ => True
mutual
def GdS (G : Gm) (n : Nat) : S → Prop
  | .asg t e => GdTg G n t ∧ GdE G n e
  | .par2 _ _ a b => GdE G n a ∧ GdE G n b
  | .aug _ _ e => GdE G n e
  | .ret e => GdE G n e
  | .retN => True
  | .exp e => GdE G n e
  | .iff c a b => GdT G n c ∧ GdSs G n a ∧ GdSs G n b
  | .for_ t s b => GdTg G n t ∧ GdSrc G n s ∧ GdSs G n b
  | .whl c b => GdT G n c ∧ GdSs G n b
  | .pass => True
  | .brk => True
  | .cnt => True
  | .rs1 x f e => (∃ C, Er1 G x f C ∧ 2 ≤ n) ∧ GdE G n e
  | .try_ b hs => GdSs G n b ∧ GdHs G hs
def GdSs (G : Gm) (n : Nat) : Ss → Prop
  | .nil => True
  | .cons s r => GdS G n s ∧ GdSs G n r
def GdHs (G : Gm) : Hs → Prop
  | .nil => True
  | .cons x _ su r => (∃ C, G.mg x = some (.ref C) ∧ GdSu G C su) ∧ GdHs G r
end

/-! ### soundness -/
structure RS (G : Gm) (c : CC) (n : Nat) (X : Cx) (W : WX) : Prop extends RX G c n X W where
  stk : X.stack = X.env :: X.outer
  frm : X.env.frame = some X.env.locals
section
variable {G : Gm} {c : CC} {n : Nat} {X : Cx} {W : WX}
theorem RS.tr (R : RS G c n X W) {W' : WX} {pn : List (Addr × Obj)} {xe : Value → Shared → Prop} (tk : Takes (X.tr pn xe) W') (po : PassesOwn (model X.prog X.w) X.A X.env xe) : RS G c n (X.tr pn xe) W' where
  g := R.g
  N := R.N
  sc := R.sc
  nd := R.nd
  calm := R.calm
  room := R.room
  gd := R.gd
  tk := tk
  po := po
  fn := R.fn
  stk := R.stk
  frm := R.frm
theorem asg_no {t e : Expr} {l : Nat} {env : Env} (h1 : notComp e = true) : swapsWithSole [t] e l env = pure false := by
  cases e <;> first | rfl | (exact absurd h1 Bool.false_ne_true)
theorem exp_no {e : Expr} {l : Nat} {env : Env} (h1 : notComp e = true) : swapsWith e none l env = pure false := by
  cases e <;> first | rfl | (exact absurd h1 Bool.false_ne_true)
theorem sto_no {t e : Expr} {env : Env} (h : (isTupE t && isTupE e) = false) : swappedStores [t] e env = pure none := by
  unfold swappedStores
  cases t <;> first | rfl | (cases e <;> first | rfl | (exact absurd h (by simp [isTupE])))
theorem each_one {t : Expr} {env : Env} (h : clearTg t = true) : (assignEach [t] env).map (·.2) = [assign t env] := by
  cases t <;> first | rfl | (exact absurd h Bool.false_ne_true)
theorem sto_no2 {t e : Expr} {env : Env} (h : isTupE e = false) : swappedStores [t] e env = pure none := sto_no (by rw [h, Bool.and_false])
theorem par_ok {x y : Str} {px py pt pt2 : Pos} {k k2 : Nat} {a b : Expr} {env : Env} (hk : env.blockKind = .function) (hx : env.kindOf x = some .local) (hy : env.kindOf y = some .local) (hl : (px.line == py.line) = true) (ha : notStar a = true) (hb : notStar b = true)
    (h1 : [a, b].all (foldedForSure 8) = false) (h2 : [a, b].all (constantsAlone 8) = false) (hne : (x == y) = false) : swappedStores [.Tuple [.Name x px, .Name y py] k pt] (.Tuple [a, b] k2 pt2) env = pure (some [x, y]) := by
  have hl' : (py.line == px.line) = true := by
    have e : px.line = py.line := by simpa using hl
    simp [e]
  have hs : ([a, b].any fun | .Starred .. => true | _ => false) = false := by
    cases a <;> first | (exact absurd ha Bool.false_ne_true) | (cases b <;> first | rfl | (exact absurd hb Bool.false_ne_true))
  have hne' : (y == x) = false := by
    have e : x ≠ y := by simpa using hne
    simpa using fun z => e z.symm
  unfold swappedStores
  simp only [hk, hs, h1, h2, hx, hy, hl', List.length, List.filterMap, List.head?, Option.map, Option.getD, Expr.pos, List.eraseDups, List.eraseDupsBy, List.eraseDupsBy.loop, List.elem, List.any]
  simp [List.eraseDupsBy.loop, hne']
  intro h
  exfalso
  rcases h with h | h
  · cases a <;> first | (exact absurd ha Bool.false_ne_true) | (exact absurd h Bool.false_ne_true)
  · cases b <;> first | (exact absurd hb Bool.false_ne_true) | (exact absurd h Bool.false_ne_true)
theorem sw_cell {elt : Expr} {gs : List Comprehension} {scope : Scope} {pos py : Pos} {y : Str} {l : Nat} {env : Env} (hy : env.kindOf y = some .cell) : swapsWith (.ListComp elt gs scope pos) (some (.Name y py)) l env = pure false := by
  have no : (NameKind.cell == NameKind.local) = false := by decide
  unfold swapsWith
  simp [hy, no]
theorem se_ok {a : Addr} {oe : Obj} {cls : Value} {d : Option Addr} {pn : List (Addr × Obj)} {C : Addr} (R : RX G c n X W) (hz : Zc cls d oe) (hf : ∃ vs, oe.data = .fields vs) : ∀ (s : SE) {x : Expr}, GdSE G C s → chkSE c s x = true → PE (X.suite a ((a, oe) :: pn)) x (rdSE a cls d C s)
  | .cst v, x, hd, h => by
    simp only [chkSE] at h
    split at h
    · exact const_ok h
    · cases h
  | .xf j f, x, hd, h => by
    obtain rfl := R.g
    simp only [chkSE] at h
    split at h
    · simp only [Bool.and_eq_true, decide_eq_true_eq] at h
      obtain ⟨⟨⟨h1, h2⟩, h3⟩, rfl⟩ := h
      refine pe_xf hd.2 hd.1 hz hf (pe_var (X := X.suite a ((a, oe) :: pn)) (i := j) (by show X.N[j]? = _; rw [R.N]; exact h1) (by show Vis X.env.scope _; rw [R.sc]; exact visB_ok h2) (okNm_1 h3) (okNm_2 h3)) rfl
    · cases h
theorem ses_ok {a : Addr} {oe : Obj} {cls : Value} {d : Option Addr} {pn : List (Addr × Obj)} {C : Addr} (R : RX G c n X W) (hz : Zc cls d oe) (hf : ∃ vs, oe.data = .fields vs) : ∀ (ss : List SE) {xs : List Expr}, (∀ e ∈ ss, GdSE G C e) → chkSEs c ss xs = true → PA (X.suite a ((a, oe) :: pn)) xs (rdSEs a cls d C ss)
  | [], xs, hd, h => by
    unfold chkSEs at h
    cases xs with
    | nil => exact pa_nil
    | cons => exact absurd h Bool.false_ne_true
  | s :: ss, xs, hd, h => by
    unfold chkSEs at h
    cases xs with
    | nil => exact absurd h Bool.false_ne_true
    | cons z zs =>
      simp only [Bool.and_eq_true] at h
      exact pa_cons (se_ok R hz hf s (hd s (List.mem_cons_self ..)) h.1.2) (ses_ok R hz hf ss (fun e he => hd e (List.mem_cons_of_mem _ he)) h.2) (star_cons h.1.1)
theorem su_ok (R : RX G c n X W) {C : Addr} : ∀ (su : Su) {b : List Stmt}, GdSu G C su → chkSu c su b = true → SuiteOk X b (fun a cls d => rdSu a cls d C su)
  | .lst i es, b, hd, h => by
    simp only [chkSu] at h
    split at h
    · simp only [Bool.and_eq_true, decide_eq_true_eq] at h
      obtain ⟨⟨h1, h2⟩, h3⟩ := h
      intro a oe cls d pn hz hf
      obtain ⟨l1, l2⟩ := R.loc h2
      exact pss_one (ps_asg (X := X.suite a ((a, oe) :: pn)) (pe_lst (ses_ok R hz hf es hd h3)) (pg_name (X := X.suite a ((a, oe) :: pn)) (by show X.N.Nodup; rw [R.N]; exact R.nd) (by show X.N[i]? = _; rw [R.N]; exact h1) l1 l2) rfl rfl rfl)
    · cases h
  | .ret v, b, hd, h => by
    simp only [chkSu] at h
    split at h
    · intro a oe cls d pn hz hf
      exact pss_one (ps_ret (const_ok h))
    · cases h
theorem lc_only {e : E} {x : Expr} {gs : List Comprehension} {sc : Scope} {p : Pos} (h : chkE c e (.ListComp x gs sc p) = true) : ∃ e1 e2 e3 e4 e5, e = .lc e1 e2 e3 e4 e5 := by
  cases e with
  | lc e1 e2 e3 e4 e5 => exact ⟨e1, e2, e3, e4, e5, rfl⟩
  | glb y v => unfold chkE at h; obtain ⟨_, q, _⟩ := isGl_ok h; cases q
  | bty y => unfold chkE at h; obtain ⟨_, q, _⟩ := isGl_ok h; cases q
  | _ => unfold chkE at h; exact absurd h Bool.false_ne_true
theorem set_lc {elt : E} {tg t : Tg} {src : Src} {cond : Ts} {own : List Nat} {y : Expr} {gs : List Comprehension} {scope : Scope} {p pos : Pos} {m : Str} {q : Pos} (R : RX G c n X W) (hd : GdE G n (.lc elt tg src cond own)) (h : chkE c (.lc elt tg src cond own) (.ListComp y gs scope p) = true)
    (ht : GdTg G n t) (hc : chkTg c t (.Name m q) = true) (k0 : c.sc.kind = .function) (k1 : c.sc.names.lookup m = some .local) (k2 : (q.line == p.line) = true) (k3 : (scope.names.any fun z => z.1 == m && (z.2 == .local || z.2 == .cell)) = false) :
    PS X (.Assign [.Name m q] (.ListComp y gs scope p) pos) (tAsg (rdE G (.lc elt tg src cond own) W) (rdTg G t W)) := by
  obtain rfl := R.g
  cases t with
  | nm i =>
    unfold chkTg at hc
    simp only [Bool.and_eq_true, decide_eq_true_eq] at hc
    unfold chkE at h
    unfold GdE at hd
    split at h
    · rename_i heq
      injection heq with f1 f2 f3 f4
      subst f1 f2 f3 f4
      simp only [Bool.and_eq_true, decide_eq_true_eq] at h
      obtain ⟨⟨⟨⟨⟨rfl, h1⟩, h2⟩, h3⟩, h4⟩, h5⟩ := h
      rename_i t1 i1 fs
      have pi := sndSrc (tg := t1) src R hd.2.2.1 h1
      have bk : BlkOk X.N X.env.scope scope (ownOf c.N own) := by
        rw [R.N, R.sc]
        exact blkOk_by h5
      have kl : X.env.scope.names.lookup m = some .local := by rw [R.sc]; exact k1
      have key := ps_setLc (i := i) (py := q) (spos := pos) (pos := p) R.calm (by rw [R.N]; exact R.nd) (by rw [R.N]; exact hc.1) kl (sw_true (by rw [R.sc]; exact k0) kl k2 k3) pi.1 bk (fun s H C cl fp => sndTg tg (R.blk scope s H C cl fp) hd.2.1 h2) (fun s H C cl fp => sndTs cond (R.blk scope s H C cl fp) hd.2.2.2 h3) (fun s H C cl fp => sndE elt (R.blk scope s H C cl fp) hd.1 h4) pi.2
      rw [nd_own] at key
      exact key
    · cases h
  | tp ts => unfold chkTg at hc; exact absurd hc Bool.false_ne_true
  | ix a b => unfold chkTg at hc; exact absurd hc Bool.false_ne_true
theorem ip_G (op : Operator) : PIp X op (ipG op) := by
  cases op <;> first | exact ip_add | exact ip_sub | (intro pins s σ H x y v u Q I r1 r2 h; exact h.elim)
end
mutual
theorem sndS {G : Gm} : ∀ (s : S) {c : CC} {n : Nat} {X : Cx} {W : WX} {x : Stmt}, RS G c n X W → GdS G n s → chkS c s x = true → PS X x (rdS G s W)
  | .asg t e, c, n, X, W, x, R, hd, h => by
    unfold chkS at h
    unfold GdS at hd
    split at h
    · rename_i y v pos
      simp only [Bool.and_eq_true] at h
      obtain ⟨⟨h1, h2⟩, h3⟩ := h
      have pe := sndE e R.toRX hd.2 h3
      have pg := sndTg t R.toRX hd.1 h2
      unfold asgB at h1
      split at h1
      · split at h1
        · rename_i elt gs scope p m q
          simp only [Bool.or_eq_true, Bool.and_eq_true, decide_eq_true_eq, Bool.not_eq_true'] at h1
          rcases h1 with ⟨⟨⟨k0, k1⟩, k2⟩, k3⟩ | k1
          · obtain ⟨e1, e2, e3, e4, e5, rfl⟩ := lc_only h3
            exact set_lc R.toRX hd.2 h3 hd.1 h2 k0 k1 k2 k3
          · exact ps_asg pe pg (by exact sw_cell (l := pos.line) (by show X.env.scope.names.lookup _ = _; rw [R.sc]; exact k1)) (sto_no2 rfl) rfl
        · cases h1
      · cases h1
      · cases h1
      · rename_i w1 w2 w3
        simp only [Bool.and_eq_true, Bool.not_eq_true'] at h1
        have nc : notComp v = true := by
          unfold notComp
          split
          · exact absurd rfl (w1 _ _ _ _)
          · exact absurd rfl (w2 _ _ _ _)
          · exact absurd rfl (w3 _ _ _ _ _)
          · rfl
        exact ps_asg pe pg (asg_no nc) (sto_no h1.2) (each_one h1.1)
    · cases h
  | .par2 i j a b, c, n, X, W, x, R, hd, h => by
    unfold chkS at h
    unfold GdS at hd
    split at h
    · simp only [Bool.and_eq_true] at h
      obtain ⟨⟨h1, h2⟩, h3⟩ := h
      unfold parB at h1
      simp only [Bool.and_eq_true, decide_eq_true_eq, Bool.not_eq_true'] at h1
      obtain ⟨⟨⟨⟨⟨⟨⟨⟨⟨⟨⟨k0, k1⟩, k2⟩, k3⟩, k4⟩, k5⟩, k6⟩, k7⟩, k8⟩, k9⟩, k10⟩, k11⟩ := h1
      have pa := sndE a R.toRX hd.1 h2
      have pb := sndE b R.toRX hd.2 h3
      rw [← R.sc] at k0 k4 k5
      rw [← R.N] at k2 k3
      exact ps_par R.calm (by rw [R.N]; exact R.nd) k2 k3 k1 k4 k5 (pa_cons pa (pa_cons pb pa_nil (star_cons k8)) (star_cons k7)) (par_ok (by unfold Env.blockKind; rw [k0]; rfl) k4 k5 k6 k7 k8 k9 k10 k11) rfl
    · cases h
  | .aug i op e, c, n, X, W, x, R, hd, h => by
    unfold chkS at h
    unfold GdS at hd
    split at h
    · simp only [Bool.and_eq_true, decide_eq_true_eq] at h
      obtain ⟨⟨⟨⟨h1, h2⟩, rfl⟩, h4⟩, h5⟩ := h
      obtain ⟨l1, l2⟩ := R.toRX.loc h2
      exact ps_aug (by rw [R.N]; exact R.nd) (by rw [R.N]; exact h1) l1 (sndE e R.toRX hd h4) (ip_G _) l2
    · cases h
  | .ret e, c, n, X, W, x, R, hd, h => by
    unfold chkS at h
    unfold GdS at hd
    split at h
    · exact ps_ret (sndE e R.toRX hd h)
    · cases h
  | .retN, c, n, X, W, x, R, hd, h => by
    unfold chkS at h
    split at h
    · exact ps_retN
    · cases h
  | .exp e, c, n, X, W, x, R, hd, h => by
    unfold chkS at h
    unfold GdS at hd
    split at h
    · simp only [Bool.and_eq_true] at h
      exact ps_expr (sndE e R.toRX hd h.2) (exp_no h.1)
    · cases h
  | .iff t a b, c, n, X, W, x, R, hd, h => by
    unfold chkS at h
    unfold GdS at hd
    split at h
    · simp only [Bool.and_eq_true] at h
      exact ps_if (sndT t R.toRX hd.1 h.1.1) (sndSs a R hd.2.1 h.1.2) (sndSs b R hd.2.2 h.2)
    · cases h
  | .for_ t r b, c, n, X, W, x, R, hd, h => by
    unfold chkS at h
    unfold GdS at hd
    split at h
    · simp only [Bool.and_eq_true] at h
      obtain ⟨pi, hf⟩ := sndSrc r R.toRX hd.2.1 h.1.2
      exact ps_for R.po R.calm pi (sndTg t R.toRX hd.1 h.1.1) (sndSs b R hd.2.2 h.2) hf
    · cases h
  | .whl t b, c, n, X, W, x, R, hd, h => by
    unfold chkS at h
    unfold GdS at hd
    split at h
    · simp only [Bool.and_eq_true] at h
      exact ps_while R.po (sndT t R.toRX hd.1 h.1) (sndSs b R hd.2 h.2)
    · cases h
  | .pass, c, n, X, W, x, R, hd, h => by
    unfold chkS at h
    split at h
    · exact ps_pass
    · cases h
  | .brk, c, n, X, W, x, R, hd, h => by
    unfold chkS at h
    split at h
    · exact ps_break
    · cases h
  | .cnt, c, n, X, W, x, R, hd, h => by
    unfold chkS at h
    split at h
    · exact ps_continue
    · cases h
  | .rs1 y f e, c, n, X, W, x, R, hd, h => by
    obtain rfl := R.g
    unfold chkS at h
    unfold GdS at hd
    split at h
    · simp only [Bool.and_eq_true] at h
      obtain ⟨⟨h1, h2⟩, h3⟩ := h
      obtain ⟨p, rfl, g2, g3⟩ := isGl_ok h1
      obtain ⟨⟨C, T, hn⟩, he⟩ := hd
      have e1 : clV (gm X) y = .ref C := by
        unfold clV
        rw [T.at_]
        rfl
      have key := fun (p2 pos : Pos) => ps_raise (pos := pos) R.calm R.tk (pmk_er1 (p := p) (pos := p2) (n := n - 2) T (R.room.mono (by omega)) (R.toRX.gl g2) (sndE e R.toRX he h3) h2 (okNm_1 g3))
      refine ⟨fun pins s σ H D I hw => (key _ _).run pins s σ H D I ?_⟩
      have hw' : rdE (gm X) e W σ H fun y1 H1 => ∀ d, H1 d = none → W (clV (gm X) y) (some d) σ (upd H1 d (.xd [(f, y1)])) := hw
      rw [e1] at hw'
      exact hw'
    · cases h
  | .try_ b hs, c, n, X, W, x, R, hd, h => by
    obtain rfl := R.g
    unfold chkS at h
    unfold GdS at hd
    split at h
    · simp only [Bool.and_eq_true] at h
      exact ps_tryA R.stk R.frm (by rw [R.N]; exact R.nd) R.tk (fun W' pn xe tk po => sndSs b (R.tr tk po) hd.1 h.1) (sndHs hs R hd.2 h.2)
    · cases h
theorem sndSs {G : Gm} : ∀ (s : Ss) {c : CC} {n : Nat} {X : Cx} {W : WX} {b : List Stmt}, RS G c n X W → GdSs G n s → chkSs c s b = true → PSs X b (rdSs G s W)
  | .nil, c, n, X, W, b, R, hd, h => by
    unfold chkSs at h
    cases b with
    | nil => exact pss_nil
    | cons => exact absurd h Bool.false_ne_true
  | .cons s r, c, n, X, W, b, R, hd, h => by
    unfold chkSs at h
    unfold GdSs at hd
    cases b with
    | nil => exact absurd h Bool.false_ne_true
    | cons z zs =>
      simp only [Bool.and_eq_true] at h
      exact pss_cons (sndS s R hd.1 h.1) (sndSs r R hd.2 h.2)
theorem sndHs {G : Gm} : ∀ (s : Hs) {c : CC} {n : Nat} {X : Cx} {W : WX} {l : List ExceptHandler}, RS G c n X W → GdHs G s → chkHs c s l = true → HdA X l (clsOf G s)
  | .nil, c, n, X, W, l, R, hd, h => by
    unfold chkHs at h
    cases l with
    | nil => exact .nil
    | cons => exact absurd h Bool.false_ne_true
  | .cons y nm su r, c, n, X, W, l, R, hd, h => by
    obtain rfl := R.g
    unfold chkHs at h
    unfold GdHs at hd
    split at h
    · rename_i z p m b bs q l'
      simp only [Bool.and_eq_true, decide_eq_true_eq] at h
      obtain ⟨⟨⟨⟨⟨rfl, h2⟩, h3⟩, h4⟩, h5⟩, h6⟩ := h
      obtain ⟨⟨C, hm, hs⟩, hr⟩ := hd
      have e1 : clV (gm X) z = .ref C := by
        unfold clV
        rw [hm]
        rfl
      have e2 : clA (gm X) z = C := by
        unfold clA
        rw [hm]
      have nms : Names X z (clV (gm X) z) := ⟨R.toRX.gl (of_decide_eq_true h2), okNm_1 h3, .inl (by rw [e1]; exact hm)⟩
      have suit := su_ok R.toRX su hs h4
      rw [← e2] at suit
      have rest := sndHs r R hr h5
      cases nm with
      | none =>
        cases m with
        | none => exact .bare nms suit rest
        | some => exact absurd h6 Bool.false_ne_true
      | some i =>
        cases m with
        | none => exact absurd h6 Bool.false_ne_true
        | some k =>
          simp only [Bool.and_eq_true, decide_eq_true_eq] at h6
          exact .named nms (by rw [R.N]; exact h6.1) (by show X.env.scope.names.lookup k = _; rw [R.sc]; exact h6.2) suit rest
    · cases h
end
end Kn

/-! KnT: a def by its tree; heaps that grow. -/
namespace Kn
open PySem PySem.Spec PyProof.Rows L2

/-- a def of the text keeps its promise, by its tree -/
theorem fnT {G : Gm} {k : Nat} {f : Addr} {st : Stmt} {x qual : Str} {fd : FuncData} {N ps : List Str} {sp : Sp} (F : Fun G.K x qual st f fd) (S : FnScope N ps (defScope st)) (b : Ss) (hc : chkSs ⟨N, defScope st, true⟩ b (defBody st) = true) (hg : GdSs G k b)
    (len : ∀ vs H Q E, sp vs H Q E → vs.length = ps.length) (hq : ∀ vs H Q E, sp vs H Q E → rdSs G b (fun cls d _ H => E cls d H) { nx := fun _ H' => Q .non H', rt := Q } (L2.start N vs) H) : FnG G (k + 1) f fd ps sp := by
  obtain ⟨oc, od, kV, doc, pm, an, cdv, ct, osl, rfl, lk, hcd⟩ := F.ex
  refine fnG_of lk hcd S len fun A outer s H vs Q E hr hgd hsp => ⟨_, ?_, hq vs H Q E hsp⟩
  refine sndSs b (c := ⟨N, defScope st, true⟩) ?_ hg hc
  exact { g := rfl, N := rfl, sc := rfl, nd := S.nd, calm := rfl, room := hr, gd := hgd, tk := takes_of rfl rfl rfl rfl, po := passes_of rfl, fn := fun _ _ => rfl, stk := rfl, frm := rfl }

/-! ### heaps -/
/-- all that stands in H stands in H', but what M names (tables of code objects may grow) -/
structure Xt (M : Addr → Prop) (H H' : Hp) : Prop where
  ob : ∀ a o, ¬ M a → H a = some o → (∀ ps, o ≠ .tbl ps) → H' a = some o
  dm : ∀ a, H' a = none → H a = none
abbrev Ext : Hp → Hp → Prop := Xt fun _ => False
abbrev ExtB (b : Addr) : Hp → Hp → Prop := Xt fun a => a = b
theorem Xt.refl {M : Addr → Prop} {H : Hp} : Xt M H H := ⟨fun _ _ _ h _ => h, fun _ h => h⟩
theorem Xt.trans {M : Addr → Prop} {H H1 H2 : Hp} (a : Xt M H H1) (b : Xt M H1 H2) : Xt M H H2 := ⟨fun c o m h t => b.ob c o m (a.ob c o m h t) t, fun c h => a.dm c (b.dm c h)⟩
theorem Xt.wide {M M' : Addr → Prop} {H H' : Hp} (a : Xt M H H') (h : ∀ c, M c → M' c) : Xt M' H H' := ⟨fun c o m hc t => a.ob c o (fun z => m (h c z)) hc t, a.dm⟩
theorem Xt.any {M : Addr → Prop} {H H' : Hp} (a : Ext H H') : Xt M H H' := a.wide fun _ z => z.elim
theorem upd_dm {H : Hp} {p : Addr} {o : HO} {a : Addr} (h : upd H p o a = none) : H a = none := by
  by_cases e : a = p
  · rw [e, upd_same] at h
    cases h
  · rw [upd_ne e] at h
    exact h
theorem Ext.new {H : Hp} {p : Addr} {o : HO} (h : H p = none) : Ext H (upd H p o) := ⟨fun a u _ e _ => by rw [upd_ne (ne_of_none e h)]; exact e, fun _ => upd_dm⟩
theorem Xt.put {M : Addr → Prop} {H : Hp} {p : Addr} {o : HO} (h : M p) : Xt M H (upd H p o) := ⟨fun a u m e _ => by rw [upd_ne (fun z => m (by rw [z]; exact h))]; exact e, fun _ => upd_dm⟩
/-- what is changed was not there -/
theorem Xt.new2 {M : Addr → Prop} {H H1 H2 : Hp} (e : Xt M H H1) {p : Addr} (e2 : ExtB p H1 H2) (hp : H p = none) : Xt M H H2 := ⟨fun c o m hc t => e2.ob c o (fun z => by rw [z, hp] at hc; cases hc) (e.ob c o m hc t) t, fun c h => e.dm c (e2.dm c h)⟩
theorem Xt.ne {M : Addr → Prop} {H H' : Hp} (e : Xt M H H') {p a : Addr} {o : HO} (hp : H' p = none) (ha : H a = some o) : a ≠ p := fun z => by rw [z, e.dm p hp] at ha; cases ha
theorem ne_new {H : Hp} {p a : Addr} {o : HO} (hp : H p = none) (ha : H a = some o) : a ≠ p := fun z => by rw [z, hp] at ha; cases ha
section
variable {M : Addr → Prop} {H H' : Hp} {a : Addr}
theorem Xt.lst (e : Xt M H H') (m : ¬ M a) {xs : List V} (h : H a = some (.lst xs)) : H' a = some (.lst xs) := e.ob a _ m h (fun _ z => by cases z)
theorem Xt.tup (e : Xt M H H') (m : ¬ M a) {xs : List V} (h : H a = some (.tup xs)) : H' a = some (.tup xs) := e.ob a _ m h (fun _ z => by cases z)
theorem Xt.dK (e : Xt M H H') (m : ¬ M a) {xs : List (Key × V)} (h : H a = some (.dK xs)) : H' a = some (.dK xs) := e.ob a _ m h (fun _ z => by cases z)
theorem Xt.xd (e : Xt M H H') (m : ¬ M a) {xs : List (Str × V)} (h : H a = some (.xd xs)) : H' a = some (.xd xs) := e.ob a _ m h (fun _ z => by cases z)
end
theorem Xt.sql {K : PySem.W.Frag} {M : Addr → Prop} {H H' : Hp} {a : Addr} {xs : List V} (e : Xt M H H') (m : ¬ M a) (h : SqL K H a xs) : SqL K H' a xs := by
  rcases h with (h | ⟨o, h⟩) | h
  · exact .inl (.inl (e.lst m h))
  · exact .inl (.inr ⟨o, e.ob a _ m h (fun _ z => by cases z)⟩)
  · exact .inr h
theorem Xt.sqt {K : PySem.W.Frag} {M : Addr → Prop} {H H' : Hp} {a : Addr} {xs : List V} (e : Xt M H H') (m : ¬ M a) (h : SqT K H a xs) : SqT K H' a xs := by
  rcases h with (h | ⟨o, h⟩) | h
  · exact .inl (.inl (e.tup m h))
  · exact .inl (.inr ⟨o, e.ob a _ m h (fun _ z => by cases z)⟩)
  · exact .inr h
/-- what is made anew, told by what is known of it -/
theorem al {H : Hp} {o : HO} {R : Addr → Hp → Prop} (h : ∀ p H', H p = none → Ext H H' → H' p = some o → R p H') : ∀ p, H p = none → R p (upd H p o) := fun p hp => h p _ hp (Ext.new hp) upd_same
/-- what is changed, told likewise -/
theorem ch {H : Hp} {b : Addr} {o : HO} {R : Hp → Prop} (h : ∀ H', ExtB b H H' → H' b = some o → R H') : R (upd H b o) := h _ (Xt.put rfl) upd_same

/-! ### statement by statement -/
theorem ss_cons {G : Gm} {s : S} {r : Ss} {W : WX} {D : Ends} {σ : L2.St} {H : Hp} (h : rdS G s W { D with nx := fun σ H => rdSs G r W D σ H } σ H) : rdSs G (.cons s r) W D σ H := h
theorem ss_nil {G : Gm} {W : WX} {D : Ends} {σ : L2.St} {H : Hp} : rdSs G .nil W D σ H = D.nx σ H := rfl

/-! ### items -/
theorem ixT {G : Gm} {p : Addr} {xs : List V} {i : Int} {v : V} {H : Hp} {Q : VK} (h : SqT G.K H p xs) (ha : atI xs i = some v) (q : Q v H) : rIxG G (.ref p) (.int i) H Q := .inl (.inr (.inl ⟨p, xs, i, v, rfl, rfl, h, ha, q⟩))
theorem ixL {G : Gm} {p : Addr} {xs : List V} {i : Int} {v : V} {H : Hp} {Q : VK} (h : SqL G.K H p xs) (ha : atI xs i = some v) (q : Q v H) : rIxG G (.ref p) (.int i) H Q := .inl (.inl ⟨p, xs, i, v, rfl, rfl, h, ha, q⟩)
theorem ixS {G : Gm} {z : Str} {i : Int} {c : Nat} {H : Hp} {Q : VK} (hz : z.length ≤ sizeLine) (ha : atI z.cps.toList i = some c) (q : Q (.str ⟨#[c]⟩) H) : rIxG G (.str z) (.int i) H Q := .inl (.inr (.inr ⟨z, i, c, rfl, rfl, hz, ha, q⟩))

/-! ### errors -/
/-- an error of the class called x, its field f is v -/
def Rz (G : Gm) (x f : Str) (v : V) (H : Hp) (E : XK) : Prop := ∀ d H', H d = none → Ext H H' → H' d = some (.xd [(f, v)]) → E (clV G x) (some d) H'
end Kn

/-! KnU: loops and comprehensions, by what stands at each turn. -/
namespace Kn
open PySem PySem.Spec PyProof.Rows L2

/-- made anew, and then -/
def New (H : Hp) (o : HO) (R : Addr → Hp → Prop) : Prop := ∀ p, H p = none → R p (upd H p o)
theorem New.i {H : Hp} {o : HO} {R : Addr → Hp → Prop} (h : ∀ p H', H p = none → Ext H H' → H' p = some o → R p H') : New H o R := al h
def nLst (t : TA) : TE := fun σ H Q => t σ H fun xs H1 => xs.length ≤ sizeLine ∧ New H1 (.lst xs) fun p H2 => Q (.ref p) H2
def nTup (t : TA) : TE := fun σ H Q => t σ H fun xs H1 => xs.length ≤ sizeLine ∧ New H1 (.tup xs) fun p H2 => Q (.ref p) H2
theorem len_small {n : Nat} (h : n ≤ 1000) : n ≤ sizeLine := Nat.le_trans h (by decide +kernel)
section
variable {G : Gm} {W : WX}
theorem s_asg {t : Tg} {e : E} : rdS G (.asg t e) W = tAsg (rdE G e W) (rdTg G t W) := rfl
theorem par2e {a b : V} {P : V → V → Prop} : (∃ v w, [a, b] = [v, w] ∧ P v w) = P a b := propext ⟨fun ⟨_, _, e, h⟩ => by cases e; exact h, fun h => ⟨a, b, rfl, h⟩⟩
theorem s_par2 {i j : Nat} {a b : E} : rdS G (.par2 i j a b) W = fun D σ H => rdE G a W σ H fun v H1 => rdE G b W σ H1 fun w H2 => D.nx ((σ.set i (some v)).set j (some w)) H2 := by
  funext D σ H
  show (rdE G a W σ H fun v H1 => rdE G b W σ H1 fun w H2 => ∃ v' w', [v, w] = [v', w'] ∧ D.nx ((σ.set i (some v')).set j (some w')) H2) = _
  simp only [par2e]
theorem s_aug {i : Nat} {op : Operator} {e : E} : rdS G (.aug i op e) W = tAug i (rdE G e W) (ipG op) := rfl
theorem s_ret {e : E} : rdS G (.ret e) W = tRet (rdE G e W) := rfl
theorem s_retN : rdS G .retN W = tRetN := rfl
theorem s_exp {e : E} : rdS G (.exp e) W = tDrop (rdE G e W) := rfl
theorem s_iff {c : T} {a b : Ss} : rdS G (.iff c a b) W = tIfS (rdT G c W) (rdSs G a W) (rdSs G b W) := rfl
theorem s_pass : rdS G .pass W = tNext := rfl
theorem s_brk : rdS G .brk W = tBreak := rfl
theorem s_cnt : rdS G .cnt W = tCont := rfl
theorem s_rs1 {x f : Str} {e : E} : rdS G (.rs1 x f e) W = fun _ σ H => rdE G e W σ H fun y H1 => ∀ d, H1 d = none → W (clV G x) (some d) σ (upd H1 d (.xd [(f, y)])) := rfl
theorem e_var {i : Nat} : rdE G (.var i) W = tVar i := rfl
theorem e_glb {x : Str} {v : V} : rdE G (.glb x v) W = tC v := rfl
theorem e_bty {b : Bf} : rdE G (.bty b) W = tC (btyV b) := rfl
theorem e_cst {v : V} : rdE G (.cst v) W = tC v := rfl
theorem e_bin {op : Operator} {a b : E} : rdE G (.bin op a b) W = tOp (rBin G op) (rdE G a W) (rdE G b W) := rfl
theorem e_neg {a : E} : rdE G (.neg a) W = tUn rNegG (rdE G a W) := rfl
theorem e_cmp {op : CmpOp} {a b : E} : rdE G (.cmp op a b) W = tOp (rCmp G op) (rdE G a W) (rdE G b W) := rfl
theorem e_cm2 {o1 o2 : CmpOp} {a b d : E} : rdE G (.cm2 o1 o2 a b d) W = tChain (rCmp G o1) (rCmp G o2) (rdE G a W) (rdE G b W) (rdE G d W) := rfl
theorem e_and {a b : E} : rdE G (.and a b) W = tAndV (rdE G a W) (rdE G b W) := rfl
theorem e_or {a b : E} : rdE G (.or a b) W = tOrV (rdE G a W) (rdE G b W) := rfl
theorem e_not {a : E} : rdE G (.not a) W = tNotV (rdE G a W) := rfl
theorem e_ite {t : T} {a b : E} : rdE G (.ite t a b) W = tIf (rdT G t W) (rdE G a W) (rdE G b W) := rfl
theorem e_lst {es : Es} : rdE G (.lst es) W = nLst (rdEs G es W) := rfl
theorem e_tup {es : Es} : rdE G (.tup es) W = nTup (rdEs G es W) := rfl
theorem e_sub {a i : E} : rdE G (.sub a i) W = tOp (rIxG G) (rdE G a W) (rdE G i W) := rfl
theorem e_slc {a : E} {lo hi : Es} : rdE G (.slc a lo hi) W = tSl (rSlG G) (rdE G a W) (rdO G lo W) (rdO G hi W) := rfl
theorem e_call {x : Str} {sp : Sp} {dv : List V} {es : Es} : rdE G (.call x sp dv es) W = fun σ H Q => rdEs G es W σ H fun vs H1 => sp (vs ++ dv) H1 Q (fun cls d H' => W cls d σ H') := rfl
theorem e_calk {x : Str} {sp : Sp} {g : List V → List V → List V} {es kes : Es} {ks : List Str} : rdE G (.calk x sp g es ks kes) W = fun σ H Q => rdEs G es W σ H fun vs H1 => rdEs G kes W σ H1 fun zs H2 => sp (g vs zs) H2 Q (fun cls d H' => W cls d σ H') := rfl
theorem e_bif {b : Bf} {es : Es} : rdE G (.bif b es) W = tCB (rBf G b) (rdEs G es W) := rfl
theorem e_bm0 {m : Bm} {o : E} : rdE G (.bm m o .nil) W = tBM0 G.K (bmTy m) (rBm G m) (rdE G o W) := rfl
theorem e_bm {m : Bm} {o e : E} {es : Es} : rdE G (.bm m o (.cons e es)) W = tBM G.K (bmTy m) (rBm G m) (rdE G o W) (tCons (rdE G e W) (rdEs G es W)) := rfl
end

/-! ### for loops -/
def ForJ (G : Gm) (t : Tg) (b : Ss) (W : WX) (D : Ends) (J : It) (σ : L2.St) (H1 : Hp) : Prop := ∃ N : Nat → Nat → L2.St → Hp → Prop, (∃ m, N 0 m σ H1) ∧ ∀ i m σ H, N i m σ H →
  (J.stop i H ∧ D.nx σ H) ∨ (J.go i H ∧ ∃ M : L2.St → Hp → Prop, (∀ σ' H', M σ' H' → ∃ m', m' < m ∧ N (i + 1) m' σ' H') ∧ ∀ x H', J.yld i H x H' → rdTg G t W x σ H' fun σ2 H2 => rdSs G b W { D with nx := M, ct := M, bk := D.nx } σ2 H2)
section
variable {G : Gm} {W : WX} {t : Tg} {b : Ss} {D : Ends} {σ : L2.St} {H : Hp}
theorem s_for1 {a : E} : rdS G (.for_ t (.rng1 a) b) W = fun D σ H => (tCons (rdE G a W) tNil) σ H fun vs H1 => ∃ j : Int, vs = [.int j] ∧ -(2 ^ 62) ≤ j ∧ j < 2 ^ 62 ∧ ForJ G t b W D (Itr 0 j.toNat) σ H1 := rfl
theorem s_for2 {a a2 : E} : rdS G (.for_ t (.rng2 a a2) b) W = fun D σ H => (tCons (rdE G a W) (tCons (rdE G a2 W) tNil)) σ H fun vs H1 => ∃ i j : Int, vs = [.int i, .int j] ∧ (-(2 ^ 62) ≤ i ∧ i < 2 ^ 62 ∧ -(2 ^ 62) ≤ j ∧ j < 2 ^ 62) ∧ ForJ G t b W D (Itr i (j - i).toNat) σ H1 := rfl
theorem s_forp {e : E} : rdS G (.for_ t (.plain e) b) W = fun D σ H => rdE G e W σ H fun x H1 => ∃ a, x = .ref a ∧ (((∃ xs, SqL G.K H1 a xs) ∧ ForJ G t b W D (Itl G.K a) σ H1) ∨ ((∃ xs, SqT G.K H1 a xs) ∧ ForJ G t b W D (Itt G.K a) σ H1)) := rfl
theorem fjR {lo : Int} {n : Nat} (Pv : Nat → L2.St → Hp → Prop) (h0 : Pv 0 σ H) (hs : ∀ i σ H, i < n → Pv i σ H → rdTg G t W (.int (lo + i)) σ H fun σ2 H2 => rdSs G b W { D with nx := Pv (i + 1), ct := Pv (i + 1), bk := D.nx } σ2 H2) (hd : ∀ σ H, Pv n σ H → D.nx σ H) : ForJ G t b W D (Itr lo n) σ H := for_range Pv h0 hs hd
theorem fjL {a : Addr} {xs : List V} (Pv : Nat → L2.St → Hp → Prop) (hx : SqL G.K H a xs) (h0 : Pv 0 σ H) (hl : ∀ i σ H, i ≤ xs.length → Pv i σ H → SqL G.K H a xs)
    (hs : ∀ i x σ H, xs[i]? = some x → Pv i σ H → rdTg G t W x σ H fun σ2 H2 => rdSs G b W { D with nx := Pv (i + 1), ct := Pv (i + 1), bk := D.nx } σ2 H2) (hd : ∀ σ H, Pv xs.length σ H → D.nx σ H) :
    (((∃ xs, SqL G.K H a xs) ∧ ForJ G t b W D (Itl G.K a) σ H) ∨ ((∃ xs, SqT G.K H a xs) ∧ ForJ G t b W D (Itt G.K a) σ H)) := .inl ⟨⟨xs, hx⟩, for_list Pv h0 hl hs hd⟩
theorem fjT {a : Addr} {xs : List V} (Pv : Nat → L2.St → Hp → Prop) (hx : SqT G.K H a xs) (h0 : Pv 0 σ H) (hl : ∀ i σ H, i ≤ xs.length → Pv i σ H → SqT G.K H a xs)
    (hs : ∀ i x σ H, xs[i]? = some x → Pv i σ H → rdTg G t W x σ H fun σ2 H2 => rdSs G b W { D with nx := Pv (i + 1), ct := Pv (i + 1), bk := D.nx } σ2 H2) (hd : ∀ σ H, Pv xs.length σ H → D.nx σ H) :
    (((∃ xs, SqL G.K H a xs) ∧ ForJ G t b W D (Itl G.K a) σ H) ∨ ((∃ xs, SqT G.K H a xs) ∧ ForJ G t b W D (Itt G.K a) σ H)) := .inr ⟨⟨xs, hx⟩, for_tup Pv h0 hl hs hd⟩
end

/-! ### while -/
def WhJ (G : Gm) (c : T) (b : Ss) (W : WX) (D : Ends) (σ : L2.St) (H : Hp) : Prop := tWhile (rdT G c W) (rdSs G b W) D σ H
theorem s_whl {G : Gm} {W : WX} {c : T} {b : Ss} : rdS G (.whl c b) W = fun D σ H => WhJ G c b W D σ H := rfl
def WhB (G : Gm) (b : Ss) (W : WX) (D : Ends) (Nx : L2.St → Hp → Prop) (σ : L2.St) (H : Hp) : Prop := ∃ N : L2.St → Hp → Prop, (∀ σ' H', N σ' H' → Nx σ' H') ∧ rdSs G b W { D with nx := N, ct := N, bk := D.nx } σ H
theorem whJ {G : Gm} {W : WX} {c : T} {b : Ss} {D : Ends} {σ : L2.St} {H : Hp} (Pv : Nat → L2.St → Hp → Prop) (m0 : Nat) (h0 : Pv m0 σ H)
    (hs : ∀ m σ H, Pv m σ H → rdT G c W σ H fun k H1 => if k = true then WhB G b W D (fun σ' H' => ∃ m', m' < m ∧ Pv m' σ' H') σ H1 else D.nx σ H1) : WhJ G c b W D σ H := ⟨Pv, ⟨m0, h0⟩, hs⟩
theorem whB {G : Gm} {W : WX} {b : Ss} {D : Ends} {Nx : L2.St → Hp → Prop} {σ : L2.St} {H : Hp} (h : rdSs G b W { D with nx := Nx, ct := Nx, bk := D.nx } σ H) : WhB G b W D Nx σ H := ⟨Nx, fun _ _ z => z, h⟩

/-! ### try -/
def TryJ (G : Gm) (b : Ss) (hs : Hs) (W : WX) (D : Ends) (σ : L2.St) (H : Hp) : Prop := rdSs G b (wHs G.K W D (clsOf G hs)) D σ H
theorem s_try {G : Gm} {W : WX} {b : Ss} {hs : Hs} : rdS G (.try_ b hs) W = fun D σ H => TryJ G b hs W D σ H := rfl

theorem su_lst {a : Addr} {cls : Value} {d : Option Addr} {C : Addr} {i : Nat} {es : List SE} : rdSu a cls d C (.lst i es) = tAsg (nLst (rdSEs a cls d C es)) (gName i) := rfl
theorem su_ret {a : Addr} {cls : Value} {d : Option Addr} {C : Addr} {v : V} : rdSu a cls d C (.ret v) = tRet (tC v) := rfl
/-- the first clause takes it -/
theorem try_hit {G : Gm} {W : WX} {D : Ends} {x : Str} {i : Nat} {su : Su} {r : Hs} {cls : Value} {d : Option Addr} {σ : L2.St} {H : Hp} (h : PySem.W.exmOne G.K cls (clV G x) = some true) (q : ∀ a, H a = none → rdSu a cls d (clA G x) su (Ends.gone D i) (σ.set i (some (.ref a))) H) :
    wHs G.K W D (clsOf G (.cons x (some i) su r)) cls d σ H := ⟨true, h, fun _ => q, fun z => by cases z⟩
theorem try_hit0 {G : Gm} {W : WX} {D : Ends} {x : Str} {su : Su} {r : Hs} {cls : Value} {d : Option Addr} {σ : L2.St} {H : Hp} (h : PySem.W.exmOne G.K cls (clV G x) = some true) (q : ∀ a, H a = none → rdSu a cls d (clA G x) su D σ H) :
    wHs G.K W D (clsOf G (.cons x none su r)) cls d σ H := ⟨true, h, fun _ => q, fun z => by cases z⟩
theorem try_miss {G : Gm} {W : WX} {D : Ends} {x : Str} {i : Nat} {su : Su} {r : Hs} {cls : Value} {d : Option Addr} {σ : L2.St} {H : Hp} (h : PySem.W.exmOne G.K cls (clV G x) = some false) (q : wHs G.K W D (clsOf G r) cls d σ H) :
    wHs G.K W D (clsOf G (.cons x (some i) su r)) cls d σ H := ⟨false, h, fun z => (by cases z), fun _ => q⟩
theorem try_miss0 {G : Gm} {W : WX} {D : Ends} {x : Str} {su : Su} {r : Hs} {cls : Value} {d : Option Addr} {σ : L2.St} {H : Hp} (h : PySem.W.exmOne G.K cls (clV G x) = some false) (q : wHs G.K W D (clsOf G r) cls d σ H) :
    wHs G.K W D (clsOf G (.cons x none su r)) cls d σ H := ⟨false, h, fun z => (by cases z), fun _ => q⟩

/-! ### list comprehensions -/
def LcJ (G : Gm) (elt : E) (tg : Tg) (cond : Ts) (vs : List Nat) (W : WX) (Q : VK) (J : It) (σ : L2.St) (H1 : Hp) : Prop := ∀ D, H1 D = none → ∃ N : Nat → Nat → Hp → Prop, (∃ m, N 0 m (upd H1 D (.lst []))) ∧ ∀ i m H, N i m H →
  (J.stop i H ∧ Q (.ref D) H) ∨ (J.go i H ∧ ∃ Nx : Hp → Prop, (∀ H', Nx H' → ∃ m', m' < m ∧ N (i + 1) m' H') ∧ ∀ x H', J.yld i H x H' → rdTg G tg NoW x (wipe σ vs) H' fun σ2 H2 => wipe σ2 vs = wipe σ vs ∧ rdTs G cond NoW σ2 H2 fun b H3 =>
    if b = true then rdE G elt NoW σ2 H3 fun y H4 => ∃ acc, H4 D = some (.lst acc) ∧ acc.length < sizeLine ∧ Nx (upd H4 D (.lst (acc ++ [y]))) else Nx H3)
section
variable {G : Gm} {W : WX} {elt : E} {t : Tg} {cond : Ts} {vs : List Nat} {σ : L2.St} {H : Hp} {Q : VK}
theorem e_lc1 {a : E} : rdE G (.lc elt t (.rng1 a) cond vs) W = fun σ H Q => (tCons (rdE G a W) tNil) σ H fun us H1 => ∃ j : Int, us = [.int j] ∧ -(2 ^ 62) ≤ j ∧ j < 2 ^ 62 ∧ LcJ G elt t cond vs W Q (Itr 0 j.toNat) σ H1 := rfl
theorem e_lc2 {a a2 : E} : rdE G (.lc elt t (.rng2 a a2) cond vs) W = fun σ H Q => (tCons (rdE G a W) (tCons (rdE G a2 W) tNil)) σ H fun us H1 => ∃ i j : Int, us = [.int i, .int j] ∧ (-(2 ^ 62) ≤ i ∧ i < 2 ^ 62 ∧ -(2 ^ 62) ≤ j ∧ j < 2 ^ 62) ∧ LcJ G elt t cond vs W Q (Itr i (j - i).toNat) σ H1 := rfl
theorem e_lcp {e : E} : rdE G (.lc elt t (.plain e) cond vs) W = fun σ H Q => rdE G e W σ H fun x H1 => ∃ a, x = .ref a ∧ (((∃ xs, SqL G.K H1 a xs) ∧ LcJ G elt t cond vs W Q (Itl G.K a) σ H1) ∨ ((∃ xs, SqT G.K H1 a xs) ∧ LcJ G elt t cond vs W Q (Itt G.K a) σ H1)) := rfl
/-- the list so far gets y -/
def LcP (D : Addr) (P : List V → Hp → Prop) (y : V) (H4 : Hp) : Prop := ∃ acc', H4 D = some (.lst acc') ∧ acc'.length < sizeLine ∧ ∃ acc2, upd H4 D (.lst (acc' ++ [y])) D = some (.lst acc2) ∧ P acc2 (upd H4 D (.lst (acc' ++ [y])))
/-- it stays -/
def LcN (D : Addr) (P : List V → Hp → Prop) (H4 : Hp) : Prop := ∃ acc2, H4 D = some (.lst acc2) ∧ P acc2 H4
/-- what a turn of a comprehension owes -/
abbrev LcS (G : Gm) (elt : E) (t : Tg) (cond : Ts) (vs : List Nat) (σ : L2.St) (D : Addr) (acc : List V) (x : V) (H : Hp) (P : List V → Hp → Prop) : Prop :=
  rdTg G t NoW x (wipe σ vs) H fun σ2 H2 => wipe σ2 vs = wipe σ vs ∧ rdTs G cond NoW σ2 H2 fun b H3 =>
    if b = true then rdE G elt NoW σ2 H3 fun y H4 => LcP D P y H4 else LcN D P H3
theorem lcR {lo : Int} {n : Nat} (P : Nat → List V → Hp → Prop) (h0 : ∀ D H2, H D = none → Ext H H2 → P 0 [] H2)
    (hs : ∀ D i acc H2, H D = none → i < n → H2 D = some (.lst acc) → P i acc H2 → LcS G elt t cond vs σ D acc (.int (lo + i)) H2 (P (i + 1))) (hd : ∀ D acc H2, H D = none → H2 D = some (.lst acc) → P n acc H2 → Q (.ref D) H2) : LcJ G elt t cond vs W Q (Itr lo n) σ H := fun D hD =>
  lc_range (fun i H2 => ∃ acc, H2 D = some (.lst acc) ∧ P i acc H2) ⟨[], upd_same, h0 D _ hD (Ext.new hD)⟩ (fun i H2 hi ⟨acc, e, p⟩ => hs D i acc H2 hD hi e p) (fun H2 ⟨acc, e, p⟩ => hd D acc H2 hD e p)
theorem lcL {a : Addr} {xs : List V} (hx : SqL G.K H a xs) (P : Nat → List V → Hp → Prop) (h0 : ∀ D H2, H D = none → Ext H H2 → P 0 [] H2) (hl : ∀ i acc H2, P i acc H2 → SqL G.K H2 a xs)
    (hs : ∀ D i x acc H2, H D = none → xs[i]? = some x → H2 D = some (.lst acc) → P i acc H2 → LcS G elt t cond vs σ D acc x H2 (P (i + 1))) (hd : ∀ D acc H2, H D = none → H2 D = some (.lst acc) → P xs.length acc H2 → Q (.ref D) H2) :
    (((∃ xs, SqL G.K H a xs) ∧ LcJ G elt t cond vs W Q (Itl G.K a) σ H) ∨ ((∃ xs, SqT G.K H a xs) ∧ LcJ G elt t cond vs W Q (Itt G.K a) σ H)) := .inl ⟨⟨xs, hx⟩, fun D hD =>
  lc_list (fun i H2 => ∃ acc, H2 D = some (.lst acc) ∧ P i acc H2) ⟨[], upd_same, h0 D _ hD (Ext.new hD)⟩ (fun i H2 _ ⟨acc, _, p⟩ => hl i acc H2 p) (fun i x H2 hi ⟨acc, e, p⟩ => hs D i x acc H2 hD hi e p) (fun H2 ⟨acc, e, p⟩ => hd D acc H2 hD e p)⟩
theorem lcT {a : Addr} {xs : List V} (hx : SqT G.K H a xs) (P : Nat → List V → Hp → Prop) (h0 : ∀ D H2, H D = none → Ext H H2 → P 0 [] H2) (hl : ∀ i acc H2, P i acc H2 → SqT G.K H2 a xs)
    (hs : ∀ D i x acc H2, H D = none → xs[i]? = some x → H2 D = some (.lst acc) → P i acc H2 → LcS G elt t cond vs σ D acc x H2 (P (i + 1))) (hd : ∀ D acc H2, H D = none → H2 D = some (.lst acc) → P xs.length acc H2 → Q (.ref D) H2) :
    (((∃ xs, SqL G.K H a xs) ∧ LcJ G elt t cond vs W Q (Itl G.K a) σ H) ∨ ((∃ xs, SqT G.K H a xs) ∧ LcJ G elt t cond vs W Q (Itt G.K a) σ H)) := .inr ⟨⟨xs, hx⟩, fun D hD =>
  lc_tup (fun i H2 => ∃ acc, H2 D = some (.lst acc) ∧ P i acc H2) ⟨[], upd_same, h0 D _ hD (Ext.new hD)⟩ (fun i H2 _ ⟨acc, _, p⟩ => hl i acc H2 p) (fun i x H2 hi ⟨acc, e, p⟩ => hs D i x acc H2 hD hi e p) (fun H2 ⟨acc, e, p⟩ => hd D acc H2 hD e p)⟩
/-- a comprehension whose items are told by a function, with no new objects -/
theorem put_lst {D : Addr} {H4 : Hp} {acc : List V} {y : V} {P : List V → Hp → Prop} (e : H4 D = some (.lst acc)) (hl : acc.length < sizeLine) (h : ∀ H5, ExtB D H4 H5 → P (acc ++ [y]) H5) :
    LcP D P y H4 := ⟨acc, e, hl, _, upd_same, h _ (Xt.put rfl)⟩
end

theorem stay_lst {D : Addr} {H4 : Hp} {acc : List V} {P : List V → Hp → Prop} (e : H4 D = some (.lst acc)) (h : P acc H4) : LcN D P H4 := ⟨acc, e, h⟩
theorem gc1 {t : TG} {u : TGs} {v : V} {r : List V} {σ : L2.St} {H : Hp} {Q : L2.St → Hp → Prop} : gCons t u (v :: r) σ H Q = t v σ H fun σ' H' => u r σ' H' Q :=
  propext ⟨fun ⟨a, b, e, h⟩ => by cases e; exact h, fun h => ⟨v, r, rfl, h⟩⟩
theorem gn0 {σ : L2.St} {H : Hp} {Q : L2.St → Hp → Prop} : gNil [] σ H Q = Q σ H := propext ⟨fun h => h.2, fun h => ⟨rfl, h⟩⟩
theorem t_nm {G : Gm} {W : WX} {i : Nat} : rdTg G (.nm i) W = gName i := rfl
theorem t_ix {G : Gm} {W : WX} {o i : E} : rdTg G (.ix o i) W = gSub (rdE G o W) (rdE G i W) gIxG := rfl
theorem t_tp {G : Gm} {W : WX} {ts : Tgs} {q : Addr} {σ : L2.St} {H : Hp} {Q : L2.St → Hp → Prop} : rdTg G (.tp ts) W (.ref q) σ H Q = ∃ xs, SqT G.K H q xs ∧ xs.length = Tgs.len ts ∧ rdTgs G ts W xs σ H Q :=
  propext ⟨fun ⟨_, xs, e, h⟩ => by cases e; exact ⟨xs, h⟩, fun ⟨xs, h⟩ => ⟨q, xs, rfl, h⟩⟩
/-! ### parts -/
theorem slL {G : Gm} {p : Addr} {xs : List V} {lo hi : Option Int} {H : Hp} {Q : VK} (h : SqL G.K H p xs) (q : ∀ l H', H l = none → Ext H H' → H' l = some (.lst (cutV xs lo hi)) → Q (.ref l) H') : rSlG G (.ref p) lo hi H Q := ⟨p, xs, rfl, h, al q⟩
theorem catL {p q : Addr} {xs ys : List V} {H : Hp} {Q : VK} (hx : H p = some (.lst xs)) (hy : H q = some (.lst ys)) (hl : xs.length + ys.length ≤ sizeLine) (h : ∀ l H', H l = none → Ext H H' → H' l = some (.lst (xs ++ ys)) → Q (.ref l) H') : rCat (.ref p) (.ref q) H Q := ⟨p, q, xs, ys, rfl, rfl, hx, hy, hl, al h⟩
theorem flat_one {y : V} : ∀ n : Nat, (List.replicate n [y]).flatten = List.replicate n y
  | 0 => rfl
  | n + 1 => by rw [List.replicate_succ, List.flatten_cons, flat_one n]; rfl
theorem repL {p : Addr} {y : V} {k : Int} {H : Hp} {Q : VK} (hx : H p = some (.lst [y])) (h1 : -(2 ^ 63) ≤ k) (h2 : k.toNat ≤ sizeLine) (h : ∀ l H', H l = none → Ext H H' → H' l = some (.lst (List.replicate k.toNat y)) → Q (.ref l) H') : rRep (.ref p) (.int k) H Q := by
  have hs : sizeLine < 2 ^ 63 := by decide +kernel
  refine ⟨p, k, [y], rfl, rfl, hx, h1, by omega, by rw [List.length_singleton]; omega, al ?_⟩
  rw [flat_one]
  exact h
theorem extL {p q : Addr} {xs ys : List V} {H : Hp} {Q : VK} (hx : H p = some (.lst xs)) (hy : H q = some (.lst ys)) (hl : xs.length + ys.length ≤ sizeLine) (h : ∀ H', ExtB p H H' → H' p = some (.lst (xs ++ ys)) → Q .non H') : rExtend (.ref p) [.ref q] H Q := ⟨p, q, xs, ys, rfl, rfl, hx, hy, hl, ch h⟩
theorem appL {p : Addr} {xs : List V} {y : V} {H : Hp} {Q : VK} (hx : H p = some (.lst xs)) (hl : xs.length < sizeLine) (h : ∀ H', ExtB p H H' → H' p = some (.lst (xs ++ [y])) → Q .non H') : rAppend (.ref p) [y] H Q := ⟨p, xs, y, rfl, rfl, hx, hl, ch h⟩
theorem setL {p : Addr} {xs : List V} {k : Int} {j : Nat} {v : V} {H : Hp} {Q : Hp → Prop} (hx : H p = some (.lst xs)) (hj : ixN xs.length k = some j) (h : ∀ H', ExtB p H H' → H' p = some (.lst (xs.set j v)) → Q H') : rSetL (.ref p) (.int k) v H Q := ⟨p, xs, k, j, rfl, rfl, hx, hj, ch h⟩
theorem itL {G : Gm} {p : Addr} {xs : List V} {i : Int} {v : V} {H : Hp} {Q : VK} (h : H p = some (.lst xs)) (ha : atI xs i = some v) (q : Q v H) : rIxG G (.ref p) (.int i) H Q := ixL (.inl (.inl h)) ha q
theorem itT {G : Gm} {p : Addr} {xs : List V} {i : Int} {v : V} {H : Hp} {Q : VK} (h : H p = some (.tup xs)) (ha : atI xs i = some v) (q : Q v H) : rIxG G (.ref p) (.int i) H Q := ixT (.inl (.inl h)) ha q
theorem atI_nat {α : Type} {xs : List α} {i : Int} {v : α} (h0 : 0 ≤ i) (h : xs[i.toNat]? = some v) : atI xs i = some v := by
  have hl := (List.getElem?_eq_some_iff.mp h).1
  unfold atI ixN
  rw [if_pos h0, if_pos (by omega)]
  exact h
theorem tyL {K : PySem.W.Frag} {p : Addr} {xs : List V} {H : Hp} (h : H p = some (.lst xs)) : tyV K "list" (.ref p) H := .inl ⟨rfl, xs, .inl (.inl h)⟩
end Kn

/-! KnV: data that may be shown and compared. -/
namespace Kn
open PySem PySem.Spec PyProof.Rows L2

structure Fd (k n : Nat) (d : PyData) : Prop where
  sh : d.showable = true
  hd : d.hasDict = false
  cl : d.canLay0 = true
  dp : d.depth ≤ k
  lv : d.leavesShort 30 = true
  bk : d.bulk ≤ n
structure FdAll (k n : Nat) (ds : List PyData) : Prop where
  sh : PyData.showableAll ds = true
  hd : PyData.hasDictAll ds = false
  cl : PyData.canLayAll0 ds = true
  dp : PyData.depthAll ds ≤ k
  lv : PyData.leavesShortAll 30 ds = true
  bk : PyData.bulkAll ds ≤ n
theorem Fd.int {i : Int} (h : i.natAbs < 10 ^ 18) : Fd 0 0 (.int i) where
  sh := by
    simp only [PyData.showable, decide_eq_true_eq]
    by_cases h0 : i.natAbs = 0
    · rw [h0]; decide
    · exact (Nat.log2_lt h0).mpr (Nat.lt_of_lt_of_le h (by decide +kernel))
  hd := by simp only [PyData.hasDict]
  cl := by simp only [PyData.canLay0]
  dp := by simp only [PyData.depth]; exact Nat.le.refl
  lv := by
    simp only [PyData.leavesShort, PyData.shown, decide_eq_true_eq]
    have e := int_text_length_le10 (k := 18) (by decide) h
    refine decide_eq_true ?_
    show (Str.ofString (toString i)).length ≤ 30
    rw [PySem.ofString_length]
    omega
  bk := by simp only [PyData.bulk]; exact Nat.le.refl
theorem Fd.str {z : Str} {m : Nat} (h : PyData.strOk z = true) (hm : z.cps.size ≤ m) : Fd 0 m (.str z) where
  sh := by simp only [PyData.showable]
  hd := by simp only [PyData.hasDict]
  cl := by simp only [PyData.canLay0]; exact h
  dp := by simp only [PyData.depth]; exact Nat.le.refl
  lv := by
    simp only [PyData.leavesShort, List.all_eq_true, decide_eq_true_eq]
    intro c hc
    unfold PyData.strOk at h
    have := Array.all_eq_true_iff_forall_mem.mp h c (Array.mem_toList_iff.mp hc)
    simp only [decide_eq_true_eq] at this
    omega
  bk := by simp only [PyData.bulk]; exact hm
theorem Fd.bl {b : Bool} : Fd 0 0 (.bool b) := ⟨by simp only [PyData.showable], by simp only [PyData.hasDict], by simp only [PyData.canLay0], by simp only [PyData.depth]; exact Nat.le.refl, by simp only [PyData.leavesShort], by simp only [PyData.bulk]; exact Nat.le.refl⟩
theorem Fd.non : Fd 0 0 .none := ⟨by simp only [PyData.showable], by simp only [PyData.hasDict], by simp only [PyData.canLay0], by simp only [PyData.depth]; exact Nat.le.refl, by simp only [PyData.leavesShort], by simp only [PyData.bulk]; exact Nat.le.refl⟩
theorem Fd.mono {k n k' n' : Nat} {d : PyData} (h : Fd k n d) (hk : k ≤ k') (hn : n ≤ n') : Fd k' n' d := ⟨h.sh, h.hd, h.cl, Nat.le_trans h.dp hk, h.lv, Nat.le_trans h.bk hn⟩
theorem FdAll.mono {k n k' n' : Nat} {d : List PyData} (h : FdAll k n d) (hk : k ≤ k') (hn : n ≤ n') : FdAll k' n' d := ⟨h.sh, h.hd, h.cl, Nat.le_trans h.dp hk, h.lv, Nat.le_trans h.bk hn⟩
theorem FdAll.nil {k : Nat} : FdAll k 0 [] := ⟨by simp only [PyData.showableAll], by simp only [PyData.hasDictAll], by simp only [PyData.canLayAll0], by simp only [PyData.depthAll]; exact Nat.zero_le _, by simp only [PyData.leavesShortAll], by simp only [PyData.bulkAll]; exact Nat.le.refl⟩
theorem FdAll.cons {k n m : Nat} {d : PyData} {ds : List PyData} (h : Fd k n d) (t : FdAll k m ds) : FdAll k (n + 1 + m) (d :: ds) where
  sh := by simp only [PyData.showableAll, h.sh, t.sh, Bool.and_self]
  hd := by simp only [PyData.hasDictAll, h.hd, t.hd, Bool.or_self]
  cl := by simp only [PyData.canLayAll0, h.cl, t.cl, Bool.and_self]
  dp := by simp only [PyData.depthAll]; exact Nat.max_le.mpr ⟨h.dp, t.dp⟩
  lv := by simp only [PyData.leavesShortAll, h.lv, t.lv, Bool.and_self]
  bk := by simp only [PyData.bulkAll]; have := h.bk; have := t.bk; omega
theorem FdAll.all {k n : Nat} : ∀ {ds : List PyData}, (∀ d ∈ ds, Fd k n d) → FdAll k ((n + 1) * ds.length) ds
  | [], _ => FdAll.nil
  | d :: r, h => by
    have := FdAll.cons (h d List.mem_cons_self) (FdAll.all (ds := r) fun x hx => h x (List.mem_cons_of_mem _ hx))
    rw [List.length_cons, Nat.mul_add, Nat.mul_one, Nat.add_comm]
    exact this
theorem Fd.list {k n : Nat} {ds : List PyData} (h : FdAll k n ds) : Fd (k + 1) n (.list ds) := ⟨by simp only [PyData.showable, h.sh], by simp only [PyData.hasDict, h.hd], by simp only [PyData.canLay0, h.cl], by simp only [PyData.depth]; exact Nat.succ_le_succ h.dp, by simp only [PyData.leavesShort, h.lv], by simp only [PyData.bulk]; exact h.bk⟩
theorem Fd.tuple {k n : Nat} {ds : List PyData} (h : FdAll k n ds) : Fd (k + 1) n (.tuple ds) := ⟨by simp only [PyData.showable, h.sh], by simp only [PyData.hasDict, h.hd], by simp only [PyData.canLay0, h.cl], by simp only [PyData.depth]; exact Nat.succ_le_succ h.dp, by simp only [PyData.leavesShort, h.lv], by simp only [PyData.bulk]; exact h.bk⟩
theorem Fd.shaped {k n : Nat} {d : PyData} (h : Fd k n d) (hk : k ≤ 60) : SeqAt.shaped d = true := by
  unfold SeqAt.shaped
  have := h.dp
  rw [h.cl, Bool.true_and, decide_eq_true_eq]
  omega
theorem Fd.short {k n : Nat} {d : PyData} (h : Fd k n d) (hn : n ≤ 500000) : d.shown.length ≤ sizeLine := by
  have h1 := PyData.shown_le_bulk 30 (by decide) d h.lv
  have h2 := h.bk
  have h3 : (30 + 2) * d.bulk ≤ 32 * 500000 := Nat.mul_le_mul (by decide) (by omega)
  have h4 : sizeLine = 16777216 := by decide +kernel
  omega
theorem reprV {G : Gm} {x : V} {d : PyData} {k n : Nat} {H : Hp} {Q : VK} (hd : Dp G.K H x d) (f : Fd k n d) (hk : k ≤ 60) (hn : n ≤ 500000) (q : Q (.str d.shown) H) : rReprG G [x] H Q := ⟨d, hd, f.sh, f.hd, Nat.le_trans f.dp hk, f.short hn, q⟩
theorem eqDat {G : Gm} {x y : V} {d e : PyData} {k n k' n' : Nat} {H : Hp} {Q : VK} (hd : Dp G.K H x d) (he : Dp G.K H y e) (f : Fd k n d) (g : Fd k' n' e) (hk : k ≤ 60) (hk' : k' ≤ 60) (q : Q (.bl (PyData.eqv d e)) H) : rEqG G x y H Q := .inr ⟨d, e, hd, he, f.shaped hk, g.shaped hk', q⟩
theorem neDat {G : Gm} {x y : V} {d e : PyData} {k n k' n' : Nat} {H : Hp} {Q : VK} (hd : Dp G.K H x d) (he : Dp G.K H y e) (f : Fd k n d) (g : Fd k' n' e) (hk : k ≤ 60) (hk' : k' ≤ 60) (q : Q (.bl (!PyData.eqv d e)) H) : rNeG G x y H Q := .inr ⟨d, e, hd, he, f.shaped hk, g.shaped hk', q⟩
theorem eqS {G : Gm} {x y : V} {H : Hp} {Q : VK} (h : scal x y = true) (q : Q (.bl (decide (x = y))) H) : rEqG G x y H Q := .inl ⟨h, q⟩
theorem neS {G : Gm} {x y : V} {H : Hp} {Q : VK} (h : scal x y = true) (q : Q (.bl (!decide (x = y))) H) : rNeG G x y H Q := .inl ⟨h, q⟩
/-! ### dicts made of pairs -/
theorem val_merge : ∀ (kvs acc : List (Key × V)) (k : Key), (kvs.map (·.1)).Nodup → valV (mergeK acc kvs) k = (valV kvs k).or (valV acc k)
  | [], acc, k, _ => by rfl
  | (k0, v0) :: r, acc, k, hn => by
    rw [List.map_cons, List.nodup_cons] at hn
    show valV (mergeK (putK acc k0 v0) r) k = _
    rw [val_merge r _ k hn.2, valV_put]
    by_cases e : k0 = k
    · subst e
      rw [valV_pos rfl, if_pos rfl]
      have : valV r k0 = none := by
        cases q : valV r k0 with
        | none => rfl
        | some v => exact absurd (valV_in q) hn.1
      rw [this]
      rfl
    · rw [valV_neg e, if_neg (fun z => e z.symm)]
theorem dictL {G : Gm} {a : Addr} {qs : List Addr} {kvs : List (Key × V)} {H : Hp} {Q : VK} (g : H a = some (.lst (qs.map V.ref))) (hp : Paired (fun q kv => H q = some (.tup [kV kv.1, kv.2])) qs kvs) (h : ∀ p H', H p = none → Ext H H' → H' p = some (.dK (mergeK [] kvs)) → Q (.ref p) H') : rDictG G [.ref a] H Q := by
  refine ⟨a, qs, kvs, rfl, .inl (.inl g), ?_, al h⟩
  clear g h
  induction hp with
  | nil => exact .nil
  | cons r _ ih => exact .cons (.inl (.inl r)) ih
theorem itD {G : Gm} {p : Addr} {kvs : List (Key × V)} {z : Str} {v : V} {H : Hp} {Q : VK} (g : H p = some (.dK kvs)) (e : valV kvs (.inr z) = some v) (q : Q v H) : rIxG G (.ref p) (.str z) H Q := .inr (.inr ⟨p, v, rfl, e ▸ DGet.k (k := .inr z) g, q⟩)
/-- a plain value as data -/
def dV : V → PyData
  | .bl b => .bool b
  | .int i => .int i
  | .str z => .str z
  | _ => .none
def plnV : V → Bool
  | .bl _ => true
  | .int _ => true
  | .str _ => true
  | .non => true
  | _ => false
theorem dp_flat {K : PySem.W.Frag} {H : Hp} {v : V} (h : plnV v = true) : Dp K H v (dV v) := by
  cases v with
  | bl b => exact .bl b
  | int i => exact .int i
  | str z => exact .str z
  | non => exact .non
  | _ => cases h
theorem dpAll_flat {K : PySem.W.Frag} {H : Hp} : ∀ {xs : List V}, (∀ v ∈ xs, plnV v = true) → DpAll K H xs (xs.map dV)
  | [], _ => .nil
  | v :: r, h => .cons (dp_flat (h v List.mem_cons_self)) (dpAll_flat fun x hx => h x (List.mem_cons_of_mem _ hx))
theorem dp_lst {K : PySem.W.Frag} {H : Hp} {a : Addr} {xs : List V} (g : H a = some (.lst xs)) (h : ∀ v ∈ xs, plnV v = true) : Dp K H (.ref a) (.list (xs.map dV)) := .lst (.inl (.inl g)) (dpAll_flat h)
end Kn

/-! KnZ: the ends: facts of the module, the law's call. -/
namespace Kn
open PySem PySem.Spec PyProof.Rows L2

/-- the law's call: nothing is tracked but the script -/
theorem call_top {P : Program} {w : World} {K : PySem.W.Frag} {mg mb : Str → Option Value} {k : Nat} {fa a : Addr} {fd : FuncData} {x : Str} {sp : Gm → Sp} {s1 : Shared} {vs : List Value} {ns : List Int}
    (KX : K.In s1.heap) (hns : s1.heap.Ns mainGlobals mg) (hb : s1.heap.Ns builtinsNs mb) (hbb : ∀ x : Str, x ≠ "__name__" → mb x = bootBuiltins x) (hlim : s1.heap.NoLimit) (hg : s1.gens = #[])
    (ha : s1.heap.get? a = some { cls := .type "list", data := .seq vs.toArray }) (hi : IntsAre vs ns) (hl : ns.length ≤ sizeLine) (hr : Room k callerA)
    (F : ∀ base : Heap, K.In base → base.Ns mainGlobals mg → FnG ⟨P, w, K, mg, base⟩ k fa fd [x] (sp ⟨P, w, K, mg, base⟩)) (hbind : ∀ (s : Shared) (u : Value), BindsTo s fd ⟨[u], []⟩ [(x, u)])
    (hsp : ∀ (base : Heap) (H : Hp), SqL K H a (ns.map V.int) → sp ⟨P, w, K, mg, base⟩ [.ref a] H (fun v _ => v = .bl true) fun _ _ _ => False) :
    codeAny (model P w) callerA (.call (.ref fa) ⟨[.ref a], []⟩) (fun r s' => r = .ok (.ret (.bool true)) ∧ OldK s1.heap s'.heap ∧ s'.os = s1.os ∧ AllBare s'.gens) s1 := by
  have rv := vals_ints hi
  -- the heap H tracks the script or nothing
  have main : ∀ H : Hp, Only H → SqL K H a (ns.map V.int) → HOk P w H s1.heap → (∀ b, H b ≠ none → b = a) → (H a ≠ none → K.lookup a = none) →
      codeAny (model P w) callerA (.call (.ref fa) ⟨[.ref a], []⟩) (fun r s' => r = .ok (.ret (.bool true)) ∧ OldK s1.heap s'.heap ∧ s'.os = s1.os ∧ AllBare s'.gens) s1 := by
    intro H only script okH onlyA notK
    have free : ∀ b, b ≠ a → H b = none := fun b hne => Classical.byContradiction fun z => hne (onlyA b z)
    have hid : ∀ {b : Addr} {o : Obj}, s1.heap.get? b = some o → H b = none → (hidT s1.heap H).get? b = some o := fun e n => hidT_get e n
    have dicts : ∀ {b : Addr} {o : Obj} {es : Array DictEntry} {ep : Nat}, s1.heap.get? b = some o → o.data = .dict es ep → H b = none := fun {b o es ep} e d => free b fun z => by
      rw [z, ha] at e
      cases e
      have d' : Data.seq vs.toArray _ = Data.dict es ep := d
      cases d'
    have spaces : ∀ {b : Addr} {m : Str → Option Value}, s1.heap.Ns b m → (hidT s1.heap H).Ns b m := by
      rintro b m ⟨o, es, ep, e, d, r⟩
      exact ⟨o, es, ep, hid e (dicts e d), d, r⟩
    have known : K.In (hidT s1.heap H) := by
      intro b o e
      refine hid (KX b o e) (Classical.byContradiction fun z => ?_)
      have hba := onlyA b z
      rw [hba] at e z
      rw [notK z] at e
      cases e
    have world : Mod K mg (hidT s1.heap H) := ⟨known, spaces hns, ⟨mb, spaces hb, hbb⟩, let ⟨mc, h1, h2⟩ := hlim; ⟨mc, spaces h1, h2⟩⟩
    have start0 : Env0 P w K mg (hidT s1.heap H) callerA [] s1 H := ⟨rfl, world, fun b o e => of_hidT e, Nat.le_of_eq (hidT_size _ _), trivial, fun b hb => absurd (show b ∈ ([] : List Addr) from hb) (by simp), okH, .of_eq hg⟩
    refine codeAny_mono ((F _ known (spaces hns)).run callerA [] s1 H ⟨[.ref a], []⟩ [.ref a] [.ref a] _ _ hr rfl start0 (hbind s1 (.ref a)) (.cons rfl .nil) (hsp _ H script)) fun r s' got => ?_
    match r, got with
    | .error e, got =>
      obtain ⟨_, _, _, _, _, _, _, _, _, _, _, z⟩ := got
      exact z.2.elim
    | .ok .next, got => exact False.elim got
    | .ok .brk, got => exact False.elim got
    | .ok .cont, got => exact False.elim got
    | .ok (.ret u), got =>
      obtain ⟨v, H', os, bare, un, ok', r', q⟩ := got
      have q' : v = .bl true := q
      subst q'
      obtain rfl : u = Value.bool true := r'
      refine ⟨rfl, OldK.of_keep fun b o e => ?_, os, bare⟩
      cases hq : H b with
      | none => exact un.keep b o e hq (by intro z; exact absurd (show b ∈ ([] : List Addr) from z) (by simp)) (by simp)
      | some t =>
        rcases only b with z | ⟨ob, xs, z⟩
        · rw [hq] at z
          cases z
        · obtain ⟨e1, _⟩ := okH b _ z
          obtain ⟨e2, _⟩ := ok' b _ (un.frzs b ob _ z)
          rw [e] at e1
          cases e1
          exact e2
  cases hk : K.lookup a with
  | some o =>
    have e := KX a o hk
    rw [ha] at e
    cases e
    refine main (fun _ => none) (fun _ => .inl rfl) (.inr ⟨_, vs.toArray, _, hk, rfl, rfl, rfl, by rw [List.size_toArray, hi.length]; exact hl, by simpa using rv⟩) (fun b u z => (nomatch (show (none : Option HO) = some u from z))) (fun b z => absurd rfl z) fun z => absurd rfl z
  | none =>
    obtain ⟨Hf, hf⟩ : ∃ Hf : Hp, Hf = fun b => if b = a then some (HO.frz { cls := .type "list", data := .seq vs.toArray } (.lst (ns.map V.int))) else none := ⟨_, rfl⟩
    have at_ : ∀ b, b = a → Hf b = some (.frz { cls := .type "list", data := .seq vs.toArray } (.lst (ns.map V.int))) := fun b e => by rw [hf]; exact if_pos e
    have off : ∀ b, b ≠ a → Hf b = none := fun b e => by rw [hf]; exact if_neg e
    refine main Hf (fun b => ?_) (.inl (.inr ⟨_, at_ a rfl⟩)) (fun b u z => ?_) (fun b z => ?_) fun _ => hk
    · by_cases h : b = a
      · exact .inr ⟨_, _, at_ b h⟩
      · exact .inl (off b h)
    · by_cases h : b = a
      · have z' := (at_ b h).symm.trans z
        cases z'
        subst h
        exact ⟨ha, by rw [List.length_map]; exact hl, vs, _, rv, ha⟩
      · have z' := (off b h).symm.trans z
        cases z'
    · exact Classical.byContradiction fun h => z (off b h)

/-- THE END: the law's promise -/
theorem walkG {l : PySem.W.OpenLaw} {n k : Nat} {q : Program} {loose : List Str} {XP : (Str → Option Value) → Heap → Prop} {YP : World → Heap → Prop} {d : DefRec} {x : Str}
    (hn : l.most = some n) (hn2 : n ≤ sizeLine) (hdf : d.params.defaults = []) (hr : Room k callerA)
    (F : ∀ (w : World) (mg : Str → Option Value) (fa : Addr) (h : Heap), YP w h → h.Ns mainGlobals mg → mg d.name = some (.ref fa) →
      ∃ (K : PySem.W.Frag) (fd : FuncData) (sp : Gm → Sp), K.In h ∧ (∀ (s : Shared) (u : Value), BindsTo s fd ⟨[u], []⟩ [(x, u)]) ∧
        (∀ (base : Heap) (H : Hp) (a : Addr) (ns : List Int), ns.length ≤ n → SqL K H a (ns.map V.int) → sp ⟨l.prog, w, K, mg, base⟩ [.ref a] H (fun v _ => v = .bl true) fun _ _ _ => False) ∧
        ∀ base : Heap, K.In base → base.Ns mainGlobals mg → FnG ⟨l.prog, w, K, mg, base⟩ k fa fd [x] (sp ⟨l.prog, w, K, mg, base⟩)) :
    PySem.W.WalkO q loose XP YP l.row.toRowW d [] (fun f vs => PySem.call f vs) := by
  refine Att.attach_call hn hdf fun w s0 s1 mg mb fa o pm cd doc a vs ns G Y ho hd hcd hmg hobj hints hlen hg => ?_
  obtain ⟨K, fd, sp, KX, hb, hsp, hF⟩ := F w mg fa _ Y G.T.g hmg
  exact call_top KX G.T.g G.T.b G.T.builtins G.T.nolimit hg hobj hints (Nat.le_trans hlen hn2) hr hF hb fun base H hS => hsp base H a ns hlen hS

/-- a def of the module keeps its promise, by its tree -/
abbrev Asks' (G : Gm) (b : Ss) (N : List Str) (sp : Sp) : Prop := ∀ vs H Q E, sp vs H Q E → rdSs G b (fun cls d _ H => E cls d H) { nx := fun _ H' => Q .non H', rt := Q } (L2.start N vs) H
theorem fnD {G : Gm} {k : Nat} {f : Addr} {x qual : Str} {params : Arguments} {body : List Stmt} {scope : Scope} {dvs : List V} {kws : List (Str × V)} {fd : FuncData} {N ps : List Str} {sp : Sp} (F : FunD G.K x qual params body scope dvs kws f fd) (S : FnScope N ps scope) (b : Ss)
    (hc : chkSs ⟨N, scope, true⟩ b body = true) (hg : GdSs G k b) (len : ∀ vs H Q E, sp vs H Q E → vs.length = ps.length) (hq : Asks' G b N sp) : FnG G (k + 1) f fd ps sp := by
  obtain ⟨oc, od, dV, kV, doc, pm, an, cdv, ct, osl, rfl, lk, hcd, _, _⟩ := F.ex
  refine fnG_of lk hcd S len fun A outer s H vs Q E hr hgd hsp => ⟨_, ?_, hq vs H Q E hsp⟩
  refine sndSs b (c := ⟨N, scope, true⟩) ?_ hg hc
  exact { g := rfl, N := rfl, sc := rfl, nd := S.nd, calm := rfl, room := hr, gd := hgd, tk := takes_of rfl rfl rfl rfl, po := passes_of rfl, fn := fun _ _ => rfl, stk := rfl, frm := rfl }
end Kn

/-! KnW: facts of the module, told by one look. -/
namespace Kn
open PySem PySem.Spec PyProof.Rows L2 He

/-! ### where the text stands -/
def topS (P : Program) (i : Nat) : Stmt := P.main.body.getD i (.Pass ⟨0, 0, 0, 0⟩)
def metS (P : Program) (i j : Nat) : Stmt := match topS P i with
  | .ClassDef _ _ _ b _ _ _ _ _ _ _ => b.getD j (.Pass ⟨0, 0, 0, 0⟩)
  | _ => .Pass ⟨0, 0, 0, 0⟩
def dD (P : Program) (x : Str) (i : Nat) : DefD := ⟨(x, none), x, x, defArgs (topS P i), defBody (topS P i), defScope (topS P i), [], []⟩
def dI (P : Program) (C m q : Str) (i j : Nat) : DefD := ⟨(C, some m), m, q, defArgs (metS P i j), defBody (metS P i j), defScope (metS P i j), [], []⟩
theorem fun_uniq {K : PySem.W.Frag} {x qual x' qual' : Str} {params params' : Arguments} {body body' : List Stmt} {scope scope' : Scope} {dvs dvs' : List V} {kws kws' : List (Str × V)} {f : Addr} {fd fd' : FuncData} (F : FunD K x qual params body scope dvs kws f fd) (F' : FunD K x' qual' params' body' scope' dvs' kws' f fd') : fd = fd' := by
  obtain ⟨_, _, _, _, _, _, _, _, _, _, _, l, _⟩ := F.ex
  obtain ⟨_, _, _, _, _, _, _, _, _, _, _, l', _⟩ := F'.ex
  rw [l] at l'
  injection l' with e
  injection e with _ _ e2
  injection e2

/-! ### errors -/
def keB (K : PySem.W.Frag) (x : Str) : Bool := decide (PySem.W.specialIn K (.ref (ga K x)) "__getattribute__" = some (some (.builtin "type.__getattribute__"))) && (decide (PySem.W.typeIn K (.ref (ga K x)) = some (.type "type")) && (PySem.W.readsIn K (ga K x) (.type "type") &&
  (match PySem.W.findCls K (.ref (ga K x)) (.type "type") "__init__" with
    | some (.val (.builtin n)) => decide (n = "ValueError.__init__")
    | _ => false)))
theorem keB_ok {K : PySem.W.Frag} {mg : Str → Option Value} {x : Str} (g : mg x = some (.ref (ga K x))) (h : keB K x = true) : KeC K mg x (ga K x) := by
  obtain ⟨h1, h⟩ := ba h
  obtain ⟨h2, h⟩ := ba h
  obtain ⟨h3, h4⟩ := ba h
  refine ⟨g, of_decide_eq_true h1, of_decide_eq_true h2, h3, ?_⟩
  split at h4
  · rename_i n e
    rw [e, show n = "ValueError.__init__" from of_decide_eq_true h4]
  · cases h4
def oexB (K : PySem.W.Frag) (C : Addr) : Bool := (match K.lookup C with
  | some ⟨.type t, _, .cls cd, sl⟩ => (match cd.mro, sl.toList with
    | .ref C' :: bm, [_, _, _, _, some (.builtin n), _] => decide (t = "type") && (decide (C' = C) && (decide (n = "ValueError.__new__") && (!cd.hasDel && (cd.hasDict && PySem.HandSPX.refsVE bm))))
    | _, _ => false)
  | _ => false) && (decide (PySem.W.findIn K (.ref C) "__setattr__" = some (some (.builtin "object.__setattr__"))) && (decide (PySem.W.subIn K (.ref C) (.type "BaseException") = some true) && (decide (PySem.W.typeIn K (.ref C) = some (.type "type")) && PySem.W.keepIn K (.ref C))))
theorem oexB_ok {K : PySem.W.Frag} {C : Addr} (h : oexB K C = true) : OexC K C := by
  obtain ⟨h1, h⟩ := ba h
  obtain ⟨h2, h⟩ := ba h
  obtain ⟨h3, h⟩ := ba h
  obtain ⟨h4, h5⟩ := ba h
  refine ⟨?_, of_decide_eq_true h2, of_decide_eq_true h3, of_decide_eq_true h4, h5⟩
  split at h1
  · rename_i t dd cd sl lk
    split at h1
    · rename_i C' bm k0 k1 k2 k3 n k5 hm hs
      obtain ⟨e1, h1⟩ := ba h1
      obtain ⟨e2, h1⟩ := ba h1
      obtain ⟨e3, h1⟩ := ba h1
      obtain ⟨e4, h1⟩ := ba h1
      obtain ⟨e5, e6⟩ := ba h1
      have e1 := of_decide_eq_true e1
      have e2 := of_decide_eq_true e2
      have e3 := of_decide_eq_true e3
      obtain ⟨nm, bs, mro, ns, qn, hd, sn, sub, ab, col, del⟩ := cd
      have e4' : del = false := by
        cases del with
        | false => rfl
        | true => cases e4
      have e5' : hd = true := e5
      have hm' : mro = .ref C' :: bm := hm
      have hsl : sl = #[k0, k1, k2, k3, some (.builtin n), k5] := by
        obtain ⟨l⟩ := sl
        have hs' : l = _ := hs
        rw [hs']
      subst e1 e2 e3 e4' e5' hm' hsl
      exact ⟨nm, qn, ns, bs, bm, sn, sub, ab, col, dd, k0, k1, k2, k3, k5, lk, e6⟩
    · cases h1
  · cases h1
/-- an error class x with one field f -/
def er1B (K : PySem.W.Frag) (x f : Str) : Bool := oexB K (ga K x) && (decide (PySem.W.findIn K (.ref (ga K x)) f = some none) && (xfB K (ga K x) && (decide (PySem.W.exmOne K (.ref (ga K x)) (.ref (ga K x)) = some true) &&
  (decide (PySem.W.findIn K (.ref (ga K x)) "__init__" = some (some (.ref (ma K (ga K x) "__init__")))) && decide (PySem.W.typeIn K (.ref (ma K (ga K x) "__init__")) = some (.type "function"))))))
theorem er1_of {G : Gm} {b x f v nm qual : Str} {CB : Addr} {fd : FuncData} {params : Arguments} {body : List Stmt} {scope : Scope} (T : KeC G.K G.mg b CB) (g : G.mg x = some (.ref (ga G.K x))) (h : er1B G.K x f = true) (F : FunD G.K nm qual params body scope [] [] (fAd G.K (x, some "__init__")) fd)
    (S : FnScope ["self", v] ["self", v] scope) (hc : chkIni1 b f v body = true) (hgl : scope.names.lookup b = some .globalImplicit) (l1 : scope.names.lookup ("self" : Str) = some NameKind.local) (l2 : scope.names.lookup v = some NameKind.local) (d1 : (b == ("__debug__" : Str)) = false) (d2 : okNm v = true)
    (hb : ∀ (kV doc pm : Value) (an : Option Addr) (cdv ct : Value) (us : List Value), us.length = (["self", v] : List Str).length → bindArgs (PySem.W.fnOf nm qual params body scope .none kV doc pm an cdv ct) ⟨us, []⟩ = pure ((["self", v] : List Str).zip us)) : Er1 G x f (ga G.K x) := by
  obtain ⟨h1, h⟩ := ba h
  obtain ⟨h2, h⟩ := ba h
  obtain ⟨h3, h⟩ := ba h
  obtain ⟨h4, h⟩ := ba h
  obtain ⟨h5, h6⟩ := ba h
  have O := oexB_ok h1
  refine ⟨g, O, of_decide_eq_true h2, xfB_ok h3, of_decide_eq_true h4, ma G.K (ga G.K x) "__init__", fd, v, of_decide_eq_true h5, of_decide_eq_true h6, ini1_ok (x := x) T F S O (of_decide_eq_true h2) hc hgl l1 l2 d1 d2, F.bindsN hb⟩

/-! ### a dict of the module -/
theorem ns_off {K : PySem.W.Frag} {P : Params} {a : Addr} {ks : List Str} {z : Str} (h : dicW K a = some (keysIn P ks)) (hz : z ∉ ks) : PySem.W.nsIn K a z = some none := by
  unfold dicW at h
  split at h
  · rename_i c es n sl lk
    split at h
    · have h' := Option.some.inj h
      have each : ∀ e ∈ es.toList, e.key.isStr z = false ∧ e.refKey = false := by
        intro e he
        have hm : keyOf e ∈ keysIn P ks := by rw [← h']; exact List.mem_map_of_mem he
        obtain ⟨k, hk, e2⟩ := List.mem_map.mp hm
        unfold keyOf at e2
        split at e2
        · rename_i x t q
          have e3 : k = x := (Prod.mk.inj (Option.some.inj e2)).1
          subst e3
          refine ⟨?_, by unfold DictEntry.refKey; rw [q]⟩
          rw [q]
          exact beq_false_of_ne fun w => hz (w ▸ hk)
        · cases e2
      unfold PySem.W.nsIn
      rw [lk]
      have f1 : es.toList.find? (·.key.isStr z) = none := List.find?_eq_none.mpr fun e he => by rw [(each e he).1]; exact Bool.false_ne_true
      have f2 : es.toList.any (·.refKey) = false := by
        rw [List.any_eq_false]
        intro e he
        rw [(each e he).2]
        exact Bool.false_ne_true
      simp only [f1, f2]
      rfl
    · cases h
  · cases h
/-- the value of a text is a tuple of these -/
def tupAtB (K : PySem.W.Frag) (d : Addr) (z : Str) (vs : List V) : Bool := match PySem.W.nsIn K d z with
  | some (some (.ref u)) => (match K.lookup u with
    | some ⟨.type c, _, .seq its _, _⟩ => decide (c = "tuple") && (decide (its.size ≤ sizeLine) && relAll vs its.toList)
    | _ => false)
  | _ => false
theorem tupAtB_ok {K : PySem.W.Frag} {d : Addr} {z : Str} {vs : List V} (h : tupAtB K d z vs = true) : ∃ u, PySem.W.nsIn K d z = some (some (.ref u)) ∧ ∀ H : Hp, SqT K H u vs := by
  unfold tupAtB at h
  split at h
  · rename_i u e
    split at h
    · rename_i c od its n sl lk
      obtain ⟨h1, h⟩ := ba h
      obtain ⟨h2, h3⟩ := ba h
      exact ⟨u, e, fun H => .inr ⟨_, its, n, lk, congrArg Value.type (of_decide_eq_true h1), rfl, of_decide_eq_true h2, relAll_ok h3⟩⟩
    · cases h
  · cases h
theorem SaysT.dic {fa : List Fa} {fn : List DefD} {ts : List Tab} {w : World} {K : PySem.W.Frag} (c : SaysT fa fn ts w K) (i : Nat) {t : Tab} (h : ts[i]? = some t) : dicW K (t.1 K) = some (keysIn w.params t.2) := by
  have e : ts.map (fun t => dicW K (t.1 K)) = ts.map fun t => some (keysIn w.params t.2) := congrArg (fun z : AlT => z.2) c
  have e2 : (ts.map fun t => dicW K (t.1 K))[i]? = (ts.map fun t => some (keysIn w.params t.2))[i]? := by rw [e]
  rw [List.getElem?_map, List.getElem?_map, h] at e2
  exact Option.some.inj e2
/-- a def that may be called -/
theorem at_of {G : Gm} {k : Nat} {x qual : Str} {params : Arguments} {body : List Stmt} {scope : Scope} {kws : List (Str × V)} {fd : FuncData} {ps : List Str} {sp : Sp} (F : FunD G.K x qual params body scope [] kws (fAd G.K (x, none)) fd) (g : G.mg x = some (.ref (ga G.K x))) (A : FnG G k (fAd G.K (x, none)) fd ps sp)
    (hb : ∀ (kV doc pm : Value) (an : Option Addr) (cdv ct : Value) (us : List Value), us.length = ps.length → bindArgs (PySem.W.fnOf x qual params body scope .none kV doc pm an cdv ct) ⟨us, []⟩ = pure (ps.zip us)) : FnAt G k x sp [] := ⟨k, _, fd, ps, [], Nat.le.refl, A, g, F.kp, F.bindsN hb, .nil⟩
/-- .. with keywords -/
theorem kb_of {K : PySem.W.Frag} {x qual : Str} {params : Arguments} {body : List Stmt} {scope : Scope} {kws : List (Str × V)} {f : Addr} {fd : FuncData} {ps ks : List Str} {g : List Value → List Value → List Value} {gV : List V → List V → List V} (F : FunD K x qual params body scope [] kws f fd)
    (h : ∀ (kV doc pm : Value) (an : Option Addr) (cdv ct : Value) (us ws : List Value), (g us ws).length = ps.length → bindArgs (PySem.W.fnOf x qual params body scope .none kV doc pm an cdv ct) ⟨us, ks.zip ws⟩ = pure (ps.zip (g us ws)))
    (rel : ∀ {vs : List V} {us : List Value} {zs : List V} {ws : List Value}, Vals vs us → Vals zs ws → Vals (gV vs zs) (g us ws)) : KBinds K fd ps ks g gV := by
  obtain ⟨oc, od, dV, kV, doc, pm, an, cdv, ct, osl, rfl, lk, hcd, hD, hK⟩ := F.ex
  rcases hD with ⟨_, rfl⟩ | ⟨e, _⟩
  · exact ⟨fun s us ws _ hl => .of_eq (h kV doc pm an cdv ct us ws hl), rel⟩
  · exact absurd rfl e
end Kn

/-! D1: stitches. -/
namespace Kn
open PySem PySem.Spec PyProof.Rows L2
local macro_rules | `(tactic| walk_at "rd") => `(tactic| simp only [ss_nil, s_asg, s_par2, s_aug, s_ret, s_retN, s_exp, s_iff, s_pass, s_brk, s_cnt, s_rs1, s_for1, s_for2, s_forp, s_whl, s_try, e_var, e_glb, e_bty, e_cst, e_bin, e_neg, e_cmp, e_cm2, e_and, e_or, e_not, e_ite, e_lst, e_tup, e_sub, e_slc, e_bif, e_bm0, e_bm, e_call, e_calk, e_lc1, e_lc2, e_lcp, tBreak, tCont, su_lst, su_ret, rdSEs, rdSE, tXf, wipe, tYes, LcS, Ends.gone, rdEs, rdT, rdTs, rdTgs, rdO, tSeq, tRet, tRetN, tDrop, tNext, tIfS, tAndV, tOrV, tNotV, tAnd, tOr, tNot, tTest, tOp, tUn, tCB, tCons, tNil, tVar, tC, nTup, nLst, tChain, tAsg, tPar, tAug, tBM, tBM0, tSl, tPart, tNoPart, tIf, gName, gSub, gIxG, gc1, gn0, t_nm, t_ix, t_tp, rBin, rCmp, rBf, rBm, rIsiG, rIntB, rAddG, rSubG, rMulG, rDivG, rModG, rPowG, rNegG, rLenG, rMaxG, rMinG, rIntG, rStrG, rIsG, rIsNotG, tTruG, TruV, btyV, btyB, bmTy, L2.start, List.getElem?_cons_zero, List.getElem?_cons_succ, Option.some.injEq, exists_eq_left', exists_eq_left, V.bl.injEq, V.int.injEq, V.str.injEq, V.ref.injEq, true_and, and_true, List.set_cons_zero, List.set_cons_succ, List.map_cons, List.map_nil, List.length_cons, List.length_nil, List.replicate_succ, List.replicate_zero, List.cons_append, List.nil_append, List.append_nil, Nat.sub_self, Nat.zero_add, Nat.add_sub_cancel, ite_true, ite_false, if_true, if_false, reduceIte, Bool.not_true, Bool.not_false, Bool.false_eq_true, reduceCtorEq, false_and, and_false, Nat.reduceAdd, Nat.reduceSub, tabIsi, okTy, tyS, decide_true, decide_false, Bool.or_true, Bool.true_or, Bool.false_or, Bool.or_false, Bool.and_true, Bool.true_and, Bool.and_false, Bool.false_and, String.reduceEq, exists_const, exists_false, Int.zero_add, List.cons.injEq, Int.reduceAdd, Int.reduceMul, Int.reduceNeg, Int.reduceSub, Int.reducePow, Int.reduceToNat])
local macro_rules | `(tactic| walk_at "gd") => `(tactic| simp only [GdSs, GdS, GdE, GdEs, GdT, GdTs, GdTg, GdTgs, GdSrc, GdHs, GdSu, GdSE, and_true, true_and, btyB, bfName])
local macro_rules | `(tactic| walk_at "st") => `(tactic| repeat (first | refine ss_cons ?_ | walk_at "rd"))

/-- the question of a body -/
abbrev Asks (G : Gm) (b : Ss) (N : List Str) (sp : Sp) : Prop := ∀ vs H Q E, sp vs H Q E → rdSs G b (fun cls d _ H => E cls d H) { nx := fun _ H' => Q .non H', rt := Q } (L2.start N vs) H
/-- a value whose kind is known -/
def Known (H : Hp) (v : V) : Prop := match v with
  | .ref a => ∃ m, kindAt H a m
  | .non => True
  | .bl _ => True
  | .int _ => True
  | .str _ => True
  | _ => False
theorem kind_not {H : Hp} {a : Addr} {m : String} (h : kindAt H a m) : m ≠ "int" ∧ m ≠ "bool" ∧ m ≠ "str" := by
  unfold kindAt at h
  split at h
  · subst h; decide
  · subst h; decide
  · subst h; decide
  · exact h.elim
def wholeV (v : V) (lo hi : Int) : Bool := match v with
  | .int i => decide (lo ≤ i) && decide (i ≤ hi)
  | _ => false
def sp_is_whole (G : Gm) : Sp := fun vs H Q _ => match vs with
  | [v, .int lo, .int hi] => Known H v ∧ Q (.bl (wholeV v lo hi)) H
  | _ => False
def n_is_whole : List Str := ["value", "low", "high"]
def b_is_whole (G : Gm) : Ss := (.cons (.ret (.and (.bif .isinstance (.cons (.var 0) (.cons (.bty .int) .nil))) (.and (.not (.bif .isinstance (.cons (.var 0) (.cons (.bty .bool) .nil)))) (.cm2 .LtE .LtE (.var 1) (.var 0) (.var 2))))) .nil)
theorem q_is_whole (G : Gm) : Asks G (b_is_whole G) n_is_whole (sp_is_whole G) := by
  intro vs H Q E h
  unfold sp_is_whole at h
  split at h
  · rename_i v lo hi
    obtain ⟨hk, h⟩ := h
    unfold b_is_whole n_is_whole
    cases v with
    | int i =>
      walk_at "st"
      simp only [wholeV] at h
      by_cases c : lo ≤ i
      · simpa [c] using h
      · simpa [c] using h
    | ref a =>
      walk_at "st"
      obtain ⟨m, hm⟩ := hk
      obtain ⟨h1, h2, h3⟩ := kind_not hm
      refine ⟨m, hm, ?_⟩
      simpa [h1, h2] using (show Q (V.bl false) H from h)
    | bl b =>
      walk_at "st"
      exact h
    | non =>
      walk_at "st"
      exact h
    | str z =>
      walk_at "st"
      exact h
    | _ => exact hk.elim
  · exact h.elim
def countV (v : V) : Bool := wholeV v 0 600
def sp_is_count (G : Gm) : Sp := fun vs H Q _ => match vs with
  | [v] => Known H v ∧ Q (.bl (countV v)) H
  | _ => False
def n_is_count : List Str := ["value"]
def b_is_count (G : Gm) : Ss := (.cons (.ret (.call "is_whole" (sp_is_whole G) [] (.cons (.var 0) (.cons (.cst (.int 0)) (.cons (.glb "MOST_COUNT" (.int 600)) .nil))))) .nil)
theorem q_is_count (G : Gm) : Asks G (b_is_count G) n_is_count (sp_is_count G) := by
  intro vs H Q E h
  unfold sp_is_count at h
  split at h
  · unfold b_is_count n_is_count
    walk_at "st"
    exact h
  · exact h.elim

/-! ### the table of stitches -/
def stTab : List (Str × Int × Int × Str) := [("k", 1, 1, "p"), ("p", 1, 1, "k"), ("sl", 1, 1, "sl"), ("yo", 0, 1, "yo"), ("m1", 0, 1, "m1p"), ("m1p", 0, 1, "m1"), ("kfb", 1, 2, "pfb"), ("pfb", 1, 2, "kfb"), ("k2tog", 2, 1, "p2tog"), ("p2tog", 2, 1, "k2tog"), ("ssk", 2, 1, "ssp"), ("ssp", 2, 1, "ssk"), ("cdd", 3, 1, "cddp"), ("cddp", 3, 1, "cdd"), ("bo", 1, 0, "bo")]
def stT (z : Str) : Option (Int × Int × Str) := stTab.lookup z
theorem stT_in {z : Str} {t : Int × Int × Str} (h : stT z = some t) : (z, t) ∈ stTab := PySem.mem_of_lookup h
theorem stT_tk {z : Str} {a b : Int} {o : Str} (h : stT z = some (a, b, o)) : 0 ≤ a ∧ a ≤ 3 ∧ 0 ≤ b ∧ b ≤ 2 := by
  have all : stTab.all (fun e => decide (0 ≤ e.2.1 ∧ e.2.1 ≤ 3 ∧ 0 ≤ e.2.2.1 ∧ e.2.2.1 ≤ 2)) = true := by decide +kernel
  exact of_decide_eq_true (List.all_eq_true.mp all _ (stT_in h))
structure StK (G : Gm) : Prop where
  at_ : ∃ d, G.mg "STITCHES" = some (.ref d) ∧ (∃ es n, KDict G.K G.w d es n) ∧ ∀ z, (stT z = none → PySem.W.nsIn G.K d z = some none) ∧ (∀ a b o, stT z = some (a, b, o) → ∃ u, PySem.W.nsIn G.K d z = some (some (.ref u)) ∧ ∀ H, SqT G.K H u [.int a, .int b, .str o])
theorem clA_of {G : Gm} {x : Str} {d : Addr} (h : G.mg x = some (.ref d)) : clA G x = d := by
  unfold clA
  rw [h]
theorem clV_of {G : Gm} {x : Str} {d : Addr} (h : G.mg x = some (.ref d)) : clV G x = .ref d := by
  unfold clV
  rw [h]
  rfl
theorem in_st {G : Gm} (S : StK G) {z : Str} {H : Hp} {Q : VK} (h : Q (.bl (stT z).isSome) H) : rInG G (.str z) (.ref (clA G "STITCHES")) H Q := by
  obtain ⟨d, hm, ⟨es, n, hd⟩, ht⟩ := S.at_
  rw [clA_of hm]
  obtain ⟨h1, h2⟩ := ht z
  cases e : stT z with
  | none =>
    rw [e] at h
    exact .inl ⟨z, d, none, es, n, rfl, rfl, hd, h1 e, h⟩
  | some t =>
    rw [e] at h
    obtain ⟨a, b, o⟩ := t
    obtain ⟨u, hu, _⟩ := h2 a b o e
    exact .inl ⟨z, d, some (.ref u), es, n, rfl, rfl, hd, hu, h⟩
theorem ix_st {G : Gm} (S : StK G) {z : Str} {a b : Int} {o : Str} (e : stT z = some (a, b, o)) {H : Hp} {Q : VK} (h : ∀ u, (∀ H, SqT G.K H u [.int a, .int b, .str o]) → Q (.ref u) H) : rIxG G (.ref (clA G "STITCHES")) (.str z) H Q := by
  obtain ⟨d, hm, ⟨es, n, hd⟩, ht⟩ := S.at_
  rw [clA_of hm]
  obtain ⟨u, hu, hs⟩ := (ht z).2 a b o e
  exact .inr (.inl ⟨d, z, .ref u, rfl, rfl, ⟨es, n, .ref u, hd.at_, hd.lit, hu, rfl⟩, h u hs⟩)
def isSt (v : V) : Bool := match v with
  | .str z => (stT z).isSome
  | _ => false
def sp_is_stitch (G : Gm) : Sp := fun vs H Q _ => match vs with
  | [v] => Known H v ∧ Q (.bl (isSt v)) H
  | _ => False
def n_is_stitch : List Str := ["value"]
def b_is_stitch (G : Gm) : Ss := (.cons (.ret (.and (.bif .isinstance (.cons (.var 0) (.cons (.bty .str) .nil))) (.cmp .In (.var 0) (.glb "STITCHES" (.ref (clA G "STITCHES")))))) .nil)
theorem q_is_stitch (G : Gm) (S : StK G) : Asks G (b_is_stitch G) n_is_stitch (sp_is_stitch G) := by
  intro vs H Q E h
  unfold sp_is_stitch at h
  split at h
  · rename_i v
    obtain ⟨hk, h⟩ := h
    unfold b_is_stitch n_is_stitch
    cases v with
    | str z =>
      walk_at "st"
      exact in_st S h
    | ref a =>
      walk_at "st"
      obtain ⟨m, hm⟩ := hk
      obtain ⟨h1, h2, h3⟩ := kind_not hm
      refine ⟨m, hm, ?_⟩
      simpa [h1, h2, h3] using (show Q (V.bl false) H from h)
    | int i =>
      walk_at "st"
      exact h
    | bl b =>
      walk_at "st"
      exact h
    | non =>
      walk_at "st"
      exact h
    | _ => exact hk.elim
  · exact h.elim
theorem rz_of {G : Gm} {x f : Str} {v : V} {H : Hp} {E : XK} (h : Rz G x f v H E) : ∀ d, H d = none → E (clV G x) (some d) (upd H d (.xd [(f, v)])) := fun d hd => h d _ hd (Ext.new hd) upd_same
def sp_need_stitch (G : Gm) : Sp := fun vs H Q E => match vs with
  | [v] => Known H v ∧ (isSt v = true → Q .non H) ∧ (isSt v = false → Rz G "NoStitch" "value" v H E)
  | _ => False
def n_need_stitch : List Str := ["value"]
def b_need_stitch (G : Gm) : Ss := (.cons (.iff (.not (.val (.call "is_stitch" (sp_is_stitch G) [] (.cons (.var 0) .nil)))) (.cons (.rs1 "NoStitch" "value" (.var 0)) .nil) .nil) .nil)
theorem q_need_stitch (G : Gm) : Asks G (b_need_stitch G) n_need_stitch (sp_need_stitch G) := by
  intro vs H Q E h
  unfold sp_need_stitch at h
  split at h
  · rename_i v
    obtain ⟨hk, h1, h2⟩ := h
    unfold b_need_stitch n_need_stitch
    walk_at "st"
    refine ⟨hk, ?_⟩
    walk_at "st"
    cases c : isSt v with
    | true =>
      walk_at "st"
      exact h1 c
    | false =>
      walk_at "st"
      exact rz_of (h2 c)
  · exact h.elim
def stV (v : V) : Option (Int × Int × Str) := match v with
  | .str z => stT z
  | _ => none
def sp_takes (G : Gm) : Sp := fun vs H Q E => match vs with
  | [v] => Known H v ∧ (∀ a b o, stV v = some (a, b, o) → Q (.int a) H) ∧ (stV v = none → Rz G "NoStitch" "value" v H E)
  | _ => False
def n_takes : List Str := ["stitch"]
def b_takes (G : Gm) : Ss := (.cons (.exp (.call "need_stitch" (sp_need_stitch G) [] (.cons (.var 0) .nil))) (.cons (.ret (.sub (.sub (.glb "STITCHES" (.ref (clA G "STITCHES"))) (.var 0)) (.cst (.int 0)))) .nil))
theorem stV_is {v : V} : isSt v = (stV v).isSome := by cases v <;> rfl
theorem q_takes (G : Gm) (S : StK G) : Asks G (b_takes G) n_takes (sp_takes G) := by
  intro vs H Q E h
  unfold sp_takes at h
  split at h
  · rename_i v
    obtain ⟨hk, h1, h2⟩ := h
    unfold b_takes n_takes
    walk_at "st"
    refine ⟨hk, fun c => ?_, fun c => ?_⟩
    · walk_at "st"
      rw [stV_is] at c
      cases e : stV v with
      | none => rw [e] at c; cases c
      | some t =>
        obtain ⟨a, b, o⟩ := t
        cases v with
        | str z =>
          refine ix_st S e fun u hu => ?_
          exact ixT (hu H) rfl (h1 a b o e)
        | _ => cases e
    · rw [stV_is] at c
      refine h2 ?_
      cases e : stV v with
      | none => rfl
      | some t => rw [e] at c; cases c
  · exact h.elim
end Kn

/-! D2: spread. -/
namespace Kn
open PySem PySem.Spec PyProof.Rows L2
local macro_rules | `(tactic| walk_at "rd") => `(tactic| simp only [ss_nil, s_asg, s_par2, s_aug, s_ret, s_retN, s_exp, s_iff, s_pass, s_brk, s_cnt, s_rs1, s_for1, s_for2, s_forp, s_whl, s_try, e_var, e_glb, e_bty, e_cst, e_bin, e_neg, e_cmp, e_cm2, e_and, e_or, e_not, e_ite, e_lst, e_tup, e_sub, e_slc, e_bif, e_bm0, e_bm, e_call, e_calk, e_lc1, e_lc2, e_lcp, tBreak, tCont, su_lst, su_ret, rdSEs, rdSE, tXf, wipe, tYes, LcS, Ends.gone, rdEs, rdT, rdTs, rdTgs, rdO, tSeq, tRet, tRetN, tDrop, tNext, tIfS, tAndV, tOrV, tNotV, tAnd, tOr, tNot, tTest, tOp, tUn, tCB, tCons, tNil, tVar, tC, nTup, nLst, tChain, tAsg, tPar, tAug, tBM, tBM0, tSl, tPart, tNoPart, tIf, gName, gSub, gIxG, gc1, gn0, t_nm, t_ix, t_tp, rBin, rCmp, rBf, rBm, rIsiG, rIntB, rAddG, rSubG, rMulG, rDivG, rModG, rPowG, rNegG, rLenG, rMaxG, rMinG, rIntG, rStrG, rIsG, rIsNotG, tTruG, TruV, btyV, btyB, bmTy, L2.start, List.getElem?_cons_zero, List.getElem?_cons_succ, Option.some.injEq, exists_eq_left', exists_eq_left, V.bl.injEq, V.int.injEq, V.str.injEq, V.ref.injEq, true_and, and_true, List.set_cons_zero, List.set_cons_succ, List.map_cons, List.map_nil, List.length_cons, List.length_nil, List.replicate_succ, List.replicate_zero, List.cons_append, List.nil_append, List.append_nil, Nat.sub_self, Nat.zero_add, Nat.add_sub_cancel, ite_true, ite_false, if_true, if_false, reduceIte, Bool.not_true, Bool.not_false, Bool.false_eq_true, reduceCtorEq, false_and, and_false, Nat.reduceAdd, Nat.reduceSub, tabIsi, okTy, tyS, decide_true, decide_false, Bool.or_true, Bool.true_or, Bool.false_or, Bool.or_false, Bool.and_true, Bool.true_and, Bool.and_false, Bool.false_and, String.reduceEq, exists_const, exists_false, Int.zero_add, List.cons.injEq, Int.reduceAdd, Int.reduceMul, Int.reduceNeg, Int.reduceSub, Int.reducePow, Int.reduceToNat])
local macro_rules | `(tactic| walk_at "gd") => `(tactic| simp only [GdSs, GdS, GdE, GdEs, GdT, GdTs, GdTg, GdTgs, GdSrc, GdHs, GdSu, GdSE, and_true, true_and, btyB, bfName])
local macro_rules | `(tactic| walk_at "st") => `(tactic| repeat (first | refine ss_cons ?_ | walk_at "rd"))

def gapI (n t i : Int) : Int := n * (i + 1) / (t + 1) - n * i / (t + 1)
def spStep (n t : Int) (s : V) (i : Nat) : List V := List.replicate (gapI n t i).toNat (V.str "k") ++ (if (i : Int) < t then [s] else [])
def spL (n t : Int) (s : V) : Nat → List V
  | 0 => []
  | m + 1 => spL n t s m ++ spStep n t s m
theorem gap_nn {n t i : Int} (hn : 0 ≤ n) (ht : 0 ≤ t) : 0 ≤ gapI n t i := by
  unfold gapI
  have h : n * i / (t + 1) ≤ n * (i + 1) / (t + 1) := Int.ediv_le_ediv (by omega) (by rw [Int.mul_add]; omega)
  omega
theorem spL_len {n t : Int} {s : V} (hn : 0 ≤ n) (ht : 0 ≤ t) : ∀ m : Nat, ((spL n t s m).length : Int) ≤ n * m / (t + 1) + m
  | 0 => by simp [spL]
  | m + 1 => by
    have ih := spL_len (s := s) hn ht m
    have g := gap_nn (i := (m : Int)) hn ht
    have e : gapI n t m = n * ((m : Int) + 1) / (t + 1) - n * m / (t + 1) := rfl
    have h2 : (((if (m : Int) < t then [s] else []) : List V).length : Int) ≤ 1 := by
      split <;> simp
    have h3 : ((gapI n t m).toNat : Int) = gapI n t m := Int.toNat_of_nonneg g
    have hc : (((m + 1 : Nat) : Int)) = (m : Int) + 1 := by omega
    rw [hc]
    show ((spL n t s m ++ spStep n t s m).length : Int) ≤ _
    rw [List.length_append]
    unfold spStep
    rw [List.length_append, List.length_replicate]
    omega
theorem mul_div_le {n t m : Int} (hn : 0 ≤ n) (ht : 0 ≤ t) (hm : m ≤ t + 1) : n * m / (t + 1) ≤ n := by
  have h : n * m / (t + 1) ≤ n * (t + 1) / (t + 1) := Int.ediv_le_ediv (by omega) (Int.mul_le_mul_of_nonneg_left hm hn)
  rw [Int.mul_ediv_cancel _ (by omega)] at h
  exact h
def sp_spread (G : Gm) : Sp := fun vs H Q E => match vs with
  | [c, t, s] => Known H c ∧ Known H t ∧ Known H s ∧ (countV c = false → Rz G "NoCount" "value" c H E) ∧ (countV c = true → wholeV t 0 300 = false → Rz G "NoTimes" "value" t H E) ∧ (countV c = true → wholeV t 0 300 = true → stV s = none → Rz G "NoStitch" "value" s H E) ∧
    (∀ cn tn tk mk o, c = .int cn → t = .int tn → stV s = some (tk, mk, o) → (0 ≤ cn ∧ cn ≤ 600) → (0 ≤ tn ∧ tn ≤ 300) → (cn - tn * tk < 0 → Rz G "NoSpread" "lacking" (.int (0 - (cn - tn * tk))) H E) ∧
      (¬ cn - tn * tk < 0 → ∀ p H', H p = none → Ext H H' → H' p = some (.lst (spL (cn - tn * tk) tn s (tn + 1).toNat)) → Q (.ref p) H'))
  | _ => False
theorem wholeV_int {v : V} {lo hi : Int} (h : wholeV v lo hi = true) : ∃ i, v = .int i ∧ lo ≤ i ∧ i ≤ hi := by
  cases v with
  | int i =>
    simp only [wholeV, Bool.and_eq_true, decide_eq_true_eq] at h
    exact ⟨i, rfl, h⟩
  | _ => cases h
def n_spread : List Str := ["count", "times", "stitch", "plain", "found", "at", "gap"]
def b_spread (G : Gm) : Ss := (.cons (.iff (.not (.val (.call "is_count" (sp_is_count G) [] (.cons (.var 0) .nil)))) (.cons (.rs1 "NoCount" "value" (.var 0)) .nil) .nil) (.cons (.iff (.not (.val (.call "is_whole" (sp_is_whole G) [] (.cons (.var 1) (.cons (.cst (.int 0)) (.cons (.cst (.int 300)) .nil)))))) (.cons (.rs1 "NoTimes" "value" (.var 1)) .nil) .nil) (.cons (.exp (.call "need_stitch" (sp_need_stitch G) [] (.cons (.var 2) .nil))) (.cons (.asg (.nm 3) (.bin .Sub (.var 0) (.bin .Mult (.var 1) (.call "takes" (sp_takes G) [] (.cons (.var 2) .nil))))) (.cons (.iff (.cmp .Lt (.var 3) (.cst (.int 0))) (.cons (.rs1 "NoSpread" "lacking" (.bin .Sub (.cst (.int 0)) (.var 3))) .nil) .nil) (.cons (.asg (.nm 4) (.lst .nil)) (.cons (.for_ (.nm 5) (.rng1 (.bin .Add (.var 1) (.cst (.int 1)))) (.cons (.asg (.nm 6) (.bin .Sub (.bin .FloorDiv (.bin .Mult (.var 3) (.bin .Add (.var 5) (.cst (.int 1)))) (.bin .Add (.var 1) (.cst (.int 1)))) (.bin .FloorDiv (.bin .Mult (.var 3) (.var 5)) (.bin .Add (.var 1) (.cst (.int 1)))))) (.cons (.exp (.bm .extend (.var 4) (.cons (.bin .Mult (.lst (.cons (.cst (.str "k")) .nil)) (.var 6)) .nil))) (.cons (.iff (.cmp .Lt (.var 5) (.var 1)) (.cons (.exp (.bm .append (.var 4) (.cons (.var 2) .nil))) .nil) .nil) .nil)))) (.cons (.ret (.var 4)) .nil))))))))
theorem q_spread (G : Gm) : Asks G (b_spread G) n_spread (sp_spread G) := by
  intro vs H Q E h
  unfold sp_spread at h
  split at h
  · rename_i c t s
    obtain ⟨kc, kt, ks, h1, h2, h3, h4⟩ := h
    unfold b_spread n_spread
    walk_at "st"
    refine ⟨kc, ?_⟩
    cases hc : countV c with
    | false =>
      walk_at "st"
      exact rz_of (h1 hc)
    | true =>
      walk_at "st"
      refine ⟨kt, ?_⟩
      cases ht : wholeV t 0 300 with
      | false =>
        walk_at "st"
        exact rz_of (h2 hc ht)
      | true =>
        walk_at "st"
        refine ⟨ks, fun hs => ?_, fun hs => h3 hc ht (by rw [stV_is] at hs; cases e : stV s with | none => rfl | some _ => rw [e] at hs; cases hs)⟩
        obtain ⟨cn, rfl, c1, c2⟩ := wholeV_int hc
        obtain ⟨tn, rfl, t1, t2⟩ := wholeV_int ht
        walk_at "st"
        refine ⟨ks, fun a b o e => ?_, fun e => by rw [stV_is, e] at hs; cases hs⟩
        obtain ⟨k1, k2⟩ := h4 cn tn a b o rfl rfl e ⟨c1, c2⟩ ⟨t1, t2⟩
        obtain ⟨a1, a2, _, _⟩ : 0 ≤ a ∧ a ≤ 3 ∧ 0 ≤ b ∧ b ≤ 2 := by
          cases s with
          | str z => exact stT_tk e
          | _ => cases e
        walk_at "st"
        refine ⟨.inr ⟨by omega, by omega⟩, ?_⟩
        have hta : 0 ≤ tn * a := Int.mul_nonneg t1 a1
        have hn600 : cn - tn * a ≤ 600 := by omega
        generalize cn - tn * a = n at k1 k2 hn600 ⊢
        walk_at "st"
        by_cases hneg : n < 0
        · simp only [hneg, decide_true, if_true]
          walk_at "st"
          exact rz_of (k1 hneg)
        · simp only [hneg, decide_false, if_false, Bool.false_eq_true]
          have hn : 0 ≤ n := by omega
          walk_at "st"
          refine ⟨Nat.zero_le _, New.i fun l H1 hl e1 g1 => ?_⟩
          walk_at "st"
          refine ⟨by omega, by omega, fjR (fun i τ H2 => ∃ x y, τ = [some (.int cn), some (.int tn), some s, some (.int n), some (.ref l), x, y] ∧ Ext H H2 ∧ H2 l = some (.lst (spL n tn s i))) ⟨none, none, rfl, e1, g1⟩ ?_ ?_⟩
          · rintro i τ H2 hi ⟨x, y, rfl, e2, g2⟩
            have hi' : (i : Int) ≤ tn := by omega
            have hlen := spL_len (s := s) hn t1 i
            have hle := mul_div_le (m := (i : Int)) hn t1 (by omega)
            have hg := gap_nn (i := (i : Int)) hn t1
            have hgle : gapI n tn i ≤ n := by
              unfold gapI
              have h9 := mul_div_le (m := (i : Int) + 1) hn t1 (by omega)
              have h8 : 0 ≤ n * (i : Int) / (tn + 1) := Int.ediv_nonneg (Int.mul_nonneg hn (by omega)) (by omega)
              omega
            walk_at "st"
            refine ⟨.inl ⟨by omega, by omega⟩, ⟨by omega, by omega⟩, .inl ⟨by omega, by omega⟩, ⟨by omega, by omega⟩, ?_⟩
            walk_at "st"
            refine ⟨tyL g2, by decide, New.i fun p H3 hp e3 g3 => ?_⟩
            have hz : (spL n tn s i).length + (gapI n tn i).toNat + 1 ≤ sizeLine := by
              have : sizeLine > 10000 := by decide +kernel
              omega
            refine repL g3 (by show -(2 ^ 63) ≤ gapI n tn i; omega) (by show (gapI n tn i).toNat ≤ sizeLine; omega) fun q H4 hq e4 g4 => ?_
            refine extL (e4.lst id (e3.lst id g2)) g4 (by rw [List.length_replicate]; show (spL n tn s i).length + (gapI n tn i).toNat ≤ sizeLine; omega) fun H5 e5 g5 => ?_
            walk_at "st"
            have e05 : Ext H H5 := ((e2.trans e3).trans e4).new2 e5 hl
            by_cases hit : (i : Int) < tn
            · simp only [hit, decide_true, if_true]
              walk_at "st"
              refine ⟨tyL g5, appL g5 (by rw [List.length_append, List.length_replicate]; show (spL n tn s i).length + (gapI n tn i).toNat < sizeLine; omega) fun H6 e6 g6 => ?_⟩
              walk_at "st"
              refine ⟨_, _, ⟨rfl, rfl⟩, e05.new2 e6 hl, ?_⟩
              rw [g6]
              show some (HO.lst _) = some (HO.lst (spL n tn s i ++ spStep n tn s i))
              unfold spStep
              rw [if_pos hit, List.append_assoc]
              rfl
            · simp only [hit, decide_false, if_false, Bool.false_eq_true]
              walk_at "st"
              refine ⟨_, _, ⟨rfl, rfl⟩, e05, ?_⟩
              rw [g5]
              show some (HO.lst _) = some (HO.lst (spL n tn s i ++ spStep n tn s i))
              unfold spStep
              rw [if_neg hit, List.append_nil]
              rfl
          · rintro τ H2 ⟨x, y, rfl, e2, g2⟩
            walk_at "st"
            exact k2 hneg l H2 hl e2 g2
  · exact h.elim
end Kn

/-! D3: the law's numbers. -/
namespace Kn
open PySem PySem.Spec PyProof.Rows L2
local macro_rules | `(tactic| walk_at "rd") => `(tactic| simp only [ss_nil, s_asg, s_par2, s_aug, s_ret, s_retN, s_exp, s_iff, s_pass, s_brk, s_cnt, s_rs1, s_for1, s_for2, s_forp, s_whl, s_try, e_var, e_glb, e_bty, e_cst, e_bin, e_neg, e_cmp, e_cm2, e_and, e_or, e_not, e_ite, e_lst, e_tup, e_sub, e_slc, e_bif, e_bm0, e_bm, e_call, e_calk, e_lc1, e_lc2, e_lcp, tBreak, tCont, su_lst, su_ret, rdSEs, rdSE, tXf, wipe, tYes, LcS, Ends.gone, rdEs, rdT, rdTs, rdTgs, rdO, tSeq, tRet, tRetN, tDrop, tNext, tIfS, tAndV, tOrV, tNotV, tAnd, tOr, tNot, tTest, tOp, tUn, tCB, tCons, tNil, tVar, tC, nTup, nLst, tChain, tAsg, tPar, tAug, tBM, tBM0, tSl, tPart, tNoPart, tIf, gName, gSub, gIxG, gc1, gn0, t_nm, t_ix, t_tp, rBin, rCmp, rBf, rBm, rIsiG, rIntB, rAddG, rSubG, rMulG, rDivG, rModG, rPowG, rNegG, rLenG, rMaxG, rMinG, rIntG, rStrG, rIsG, rIsNotG, tTruG, TruV, btyV, btyB, bmTy, L2.start, List.getElem?_cons_zero, List.getElem?_cons_succ, Option.some.injEq, exists_eq_left', exists_eq_left, V.bl.injEq, V.int.injEq, V.str.injEq, V.ref.injEq, true_and, and_true, List.set_cons_zero, List.set_cons_succ, List.map_cons, List.map_nil, List.length_cons, List.length_nil, List.replicate_succ, List.replicate_zero, List.cons_append, List.nil_append, List.append_nil, Nat.sub_self, Nat.zero_add, Nat.add_sub_cancel, ite_true, ite_false, if_true, if_false, reduceIte, Bool.not_true, Bool.not_false, Bool.false_eq_true, reduceCtorEq, false_and, and_false, Nat.reduceAdd, Nat.reduceSub, tabIsi, okTy, tyS, decide_true, decide_false, Bool.or_true, Bool.true_or, Bool.false_or, Bool.or_false, Bool.and_true, Bool.true_and, Bool.and_false, Bool.false_and, String.reduceEq, exists_const, exists_false, Int.zero_add, List.cons.injEq, Int.reduceAdd, Int.reduceMul, Int.reduceNeg, Int.reduceSub, Int.reducePow, Int.reduceToNat])
local macro_rules | `(tactic| walk_at "gd") => `(tactic| simp only [GdSs, GdS, GdE, GdEs, GdT, GdTs, GdTg, GdTgs, GdSrc, GdHs, GdSu, GdSE, and_true, true_and, btyB, bfName])
local macro_rules | `(tactic| walk_at "st") => `(tactic| repeat (first | refine ss_cons ?_ | walk_at "rd"))

def cellOf (ns : List Int) (k : Int) (c : Int) : Prop := (0 ≤ k ∧ ∃ x, ns[k.toNat]? = some x ∧ c = x) ∨ ns.length ≤ k
def sp__law_cell (G : Gm) : Sp := fun vs H Q _ => match vs with
  | [.ref p, .int k] => 0 ≤ k ∧ k < 1000 ∧ ∃ ns : List Int, ns.length ≤ 1000 ∧ SqL G.K H p (ns.map V.int) ∧ ∀ c, Q (.int c) H
  | _ => False
def n__law_cell : List Str := ["script", "k"]
def b__law_cell (G : Gm) : Ss := (.cons (.iff (.cmp .Lt (.var 1) (.bif .len (.cons (.var 0) .nil))) (.cons (.ret (.sub (.var 0) (.var 1))) .nil) .nil) (.cons (.ret (.bin .Add (.bin .Mult (.cst (.int 104729)) (.var 1)) (.cst (.int 51)))) .nil))
theorem q_cell (G : Gm) : Asks G (b__law_cell G) n__law_cell (sp__law_cell G) := by
  intro vs H Q E h
  unfold sp__law_cell at h
  split at h
  · rename_i p k
    obtain ⟨k0, k1, ns, hn, hs, q⟩ := h
    unfold b__law_cell n__law_cell
    walk_at "st"
    refine .inl ⟨ns.map V.int, hs, ?_⟩
    by_cases c : k < ((ns.map V.int).length : Int)
    · simp only [c, decide_true, if_true]
      walk_at "st"
      have c' : k.toNat < ns.length := by rw [List.length_map] at c; omega
      refine ixL (v := .int ns[k.toNat]) hs (atI_nat k0 ?_) (q _)
      rw [List.getElem?_map, List.getElem?_eq_getElem c']
      rfl
    · simp only [c, decide_false, if_false, Bool.false_eq_true]
      walk_at "st"
      exact ⟨.inl ⟨by omega, by omega⟩, q _⟩
  · exact h.elim
/-- a box of numbers -/
def Bx (H : Hp) (p : Addr) (t : Int) : Prop := ∃ a b c : Int, H p = some (.lst [.int a, .int b, .int c, .int t]) ∧ 0 ≤ a ∧ 0 ≤ b ∧ b < 2147483648 ∧ 0 ≤ c ∧ c < 2147483648 ∧ 0 ≤ t
theorem Bx.ext {M : Addr → Prop} {H H' : Hp} {p : Addr} {t : Int} (e : Xt M H H') (m : ¬ M p) (h : Bx H p t) : Bx H' p t := by
  obtain ⟨a, b, c, g, r⟩ := h
  exact ⟨a, b, c, e.lst m g, r⟩
def sp__law_box (G : Gm) : Sp := fun vs H Q _ => match vs with
  | [.int _] => ∀ p H', H p = none → Ext H H' → Bx H' p 0 → Q (.ref p) H'
  | _ => False
def n__law_box : List Str := ["cell"]
def b__law_box (G : Gm) : Ss := (.cons (.ret (.lst (.cons (.bif .max (.cons (.cst (.int 0)) (.cons (.bin .Sub (.var 0) (.bin .Pow (.cst (.int 10)) (.cst (.int 18)))) .nil))) (.cons (.bin .Mod (.var 0) (.cst (.int 2147483629))) (.cons (.bin .Mod (.var 0) (.cst (.int 2147483587))) (.cons (.cst (.int 0)) .nil)))))) .nil)
theorem q_box (G : Gm) : Asks G (b__law_box G) n__law_box (sp__law_box G) := by
  intro vs H Q E h
  unfold sp__law_box at h
  split at h
  · rename_i c
    unfold b__law_box n__law_box
    walk_at "st"
    refine ⟨⟨by omega, by omega, by decide⟩, by omega, by omega, by decide, New.i fun p H' hp e g => ?_⟩
    refine h p H' hp e ⟨_, _, _, g, ?_, ?_, ?_, ?_, ?_, ?_⟩
    · split <;> omega
    · omega
    · omega
    · omega
    · omega
    · omega
  · exact h.elim
def sp__law_take (G : Gm) : Sp := fun vs H Q _ => match vs with
  | [.ref p, .int m] => 0 < m ∧ m < 2 ^ 62 ∧ ∃ t, Bx H p t ∧ t < 1000000 ∧ ∀ d t' H', 0 ≤ d → d < m → t' ≤ t + 1 → Bx H' p t' → ExtB p H H' → Q (.int d) H'
  | _ => False
def n__law_take : List Str := ["box", "many", "digit", "turn", "one"]
def b__law_take (G : Gm) : Ss := (.cons (.iff (.cmp .Gt (.sub (.var 0) (.cst (.int 0))) (.cst (.int 0))) (.cons (.asg (.nm 2) (.bin .Mod (.sub (.var 0) (.cst (.int 0))) (.var 1))) (.cons (.asg (.ix (.var 0) (.cst (.int 0))) (.bin .FloorDiv (.sub (.var 0) (.cst (.int 0))) (.var 1))) (.cons (.ret (.var 2)) .nil))) .nil) (.cons (.asg (.ix (.var 0) (.cst (.int 3))) (.bin .Add (.sub (.var 0) (.cst (.int 3))) (.cst (.int 1)))) (.cons (.asg (.nm 3) (.sub (.var 0) (.cst (.int 3)))) (.cons (.asg (.nm 4) (.bin .Mod (.bin .Pow (.bin .Add (.bin .Add (.bin .Mult (.sub (.var 0) (.cst (.int 1))) (.bin .Add (.bin .Mult (.cst (.int 2)) (.var 3)) (.cst (.int 3)))) (.bin .Mult (.bin .Mult (.cst (.int 5981)) (.var 3)) (.var 3))) (.cst (.int 51))) (.cst (.int 5))) (.cst (.int 2147483647)))) (.cons (.ret (.bin .Mod (.bin .FloorDiv (.bin .Mod (.bin .Pow (.bin .Add (.bin .Add (.var 4) (.bin .Mult (.sub (.var 0) (.cst (.int 2))) (.var 3))) (.cst (.int 73))) (.cst (.int 3))) (.cst (.int 2147483579))) (.cst (.int 16))) (.var 1))) .nil)))))
theorem q_take (G : Gm) : Asks G (b__law_take G) n__law_take (sp__law_take G) := by
  intro vs H Q E h
  unfold sp__law_take at h
  split at h
  · rename_i p m
    obtain ⟨m0, m1, t, ⟨a, b, c, g, a0, b0, b1, c0, c1, t0⟩, t1, q⟩ := h
    unfold b__law_take n__law_take
    walk_at "st"
    refine itL g rfl ?_
    walk_at "st"
    by_cases ha : 0 < a
    · simp only [ha, decide_true, if_true]
      walk_at "st"
      refine itL g rfl ?_
      walk_at "st"
      refine ⟨m0, ?_⟩
      walk_at "st"
      refine itL g rfl ?_
      walk_at "st"
      refine ⟨⟨m0, by omega⟩, setL g rfl fun H1 e1 g1 => ?_⟩
      walk_at "st"
      refine q _ t H1 (Int.emod_nonneg _ (by omega)) (Int.emod_lt_of_pos _ m0) (by omega) ⟨a / m, b, c, g1, Int.ediv_nonneg a0 (by omega), b0, b1, c0, c1, t0⟩ e1
    · simp only [ha, decide_false, if_false, Bool.false_eq_true]
      walk_at "st"
      refine itL g rfl ?_
      walk_at "st"
      refine setL g rfl fun H1 e1 g1 => ?_
      walk_at "st"
      refine itL g1 rfl ?_
      walk_at "st"
      refine itL g1 rfl ?_
      walk_at "st"
      have s0 : 0 ≤ t + 1 := by omega
      have p1 : 0 ≤ b * (2 * (t + 1) + 3) := Int.mul_nonneg b0 (by omega)
      have p2 : b * (2 * (t + 1) + 3) ≤ 2147483648 * 2000005 := Int.mul_le_mul (by omega) (by omega) (by omega) (by omega)
      have p3 : 0 ≤ 5981 * (t + 1) * (t + 1) := Int.mul_nonneg (by omega) s0
      have p4 : 5981 * (t + 1) * (t + 1) ≤ 5981 * 1000000 * 1000000 := Int.mul_le_mul (by omega) (by omega) s0 (by omega)
      refine ⟨.inl ⟨by omega, by omega⟩, .inl ⟨by omega, by omega⟩, .inl ⟨by omega, by omega⟩, .inl ⟨by omega, by omega⟩, ⟨by omega, by omega, by omega⟩, by omega, ?_⟩
      walk_at "st"
      refine itL g1 rfl ?_
      walk_at "st"
      generalize hX : (b * (2 * (t + 1) + 3) + 5981 * (t + 1) * (t + 1) + 51) ^ 5 % 2147483647 = X
      have x0 : 0 ≤ X := by rw [← hX]; exact Int.emod_nonneg _ (by omega)
      have x1 : X < 2147483647 := by rw [← hX]; exact Int.emod_lt_of_pos _ (by omega)
      have p5 : 0 ≤ c * (t + 1) := Int.mul_nonneg c0 s0
      have p6 : c * (t + 1) ≤ 2147483648 * 1000000 := Int.mul_le_mul (by omega) (by omega) s0 (by omega)
      refine ⟨.inl ⟨by omega, by omega⟩, ⟨by omega, by omega, by omega⟩, by omega, ⟨by omega, by omega⟩, m0, ?_⟩
      exact q _ (t + 1) H1 (Int.emod_nonneg _ (by omega)) (Int.emod_lt_of_pos _ m0) (by omega) ⟨a, b, c, g1, a0, b0, b1, c0, c1, s0⟩ e1
  · exact h.elim

/-! ### the law's table -/
def rowV (e : Str × Int × Int × Str) : List V := [.str e.1, .int e.2.1, .int e.2.2.1, .str e.2.2.2]
/-- a list of tuples -/
def Tbl (H : Hp) (p : Addr) (es : List (Str × Int × Int × Str)) : Prop := ∃ ps : List Addr, H p = some (.lst (ps.map V.ref)) ∧ Paired (fun (q : Addr) (e : Str × Int × Int × Str) => H q = some (.tup (rowV e))) ps es
theorem pd_imp {α β : Type} {R S : α → β → Prop} {xs : List α} {ys : List β} (h : Paired R xs ys) (hi : ∀ a b, R a b → S a b) : Paired S xs ys := by
  induction h with
  | nil => exact .nil
  | cons h _ ih => exact .cons (hi _ _ h) ih
theorem Tbl.ext {M : Addr → Prop} {H H' : Hp} {p : Addr} {es : List (Str × Int × Int × Str)} (e : Xt M H H') (m : ∀ a, M a → H a = none) (h : Tbl H p es) : Tbl H' p es := by
  obtain ⟨ps, g, hp⟩ := h
  have nm : ∀ {a o}, H a = some o → ¬ M a := fun {a o} g z => by rw [m a z] at g; cases g
  exact ⟨ps, e.lst (nm g) g, pd_imp hp fun q e' gq => e.tup (nm gq) gq⟩
def sp__law_table (G : Gm) : Sp := fun vs H Q _ => match vs with
  | [] => ∀ p H', H p = none → Ext H H' → Tbl H' p stTab → Q (.ref p) H'
  | _ => False
def n__law_table : List Str := ["rows"]
def b__law_table (G : Gm) : Ss := (.cons (.asg (.nm 0) (.lst (.cons (.tup (.cons (.cst (.str "k")) (.cons (.cst (.int 1)) (.cons (.cst (.int 1)) (.cons (.cst (.str "p")) .nil))))) (.cons (.tup (.cons (.cst (.str "p")) (.cons (.cst (.int 1)) (.cons (.cst (.int 1)) (.cons (.cst (.str "k")) .nil))))) (.cons (.tup (.cons (.cst (.str "sl")) (.cons (.cst (.int 1)) (.cons (.cst (.int 1)) (.cons (.cst (.str "sl")) .nil))))) (.cons (.tup (.cons (.cst (.str "yo")) (.cons (.cst (.int 0)) (.cons (.cst (.int 1)) (.cons (.cst (.str "yo")) .nil))))) (.cons (.tup (.cons (.cst (.str "m1")) (.cons (.cst (.int 0)) (.cons (.cst (.int 1)) (.cons (.cst (.str "m1p")) .nil))))) (.cons (.tup (.cons (.cst (.str "m1p")) (.cons (.cst (.int 0)) (.cons (.cst (.int 1)) (.cons (.cst (.str "m1")) .nil))))) .nil)))))))) (.cons (.asg (.nm 0) (.bin .Add (.var 0) (.lst (.cons (.tup (.cons (.cst (.str "kfb")) (.cons (.cst (.int 1)) (.cons (.cst (.int 2)) (.cons (.cst (.str "pfb")) .nil))))) (.cons (.tup (.cons (.cst (.str "pfb")) (.cons (.cst (.int 1)) (.cons (.cst (.int 2)) (.cons (.cst (.str "kfb")) .nil))))) (.cons (.tup (.cons (.cst (.str "k2tog")) (.cons (.cst (.int 2)) (.cons (.cst (.int 1)) (.cons (.cst (.str "p2tog")) .nil))))) (.cons (.tup (.cons (.cst (.str "p2tog")) (.cons (.cst (.int 2)) (.cons (.cst (.int 1)) (.cons (.cst (.str "k2tog")) .nil))))) .nil))))))) (.cons (.asg (.nm 0) (.bin .Add (.var 0) (.lst (.cons (.tup (.cons (.cst (.str "ssk")) (.cons (.cst (.int 2)) (.cons (.cst (.int 1)) (.cons (.cst (.str "ssp")) .nil))))) (.cons (.tup (.cons (.cst (.str "ssp")) (.cons (.cst (.int 2)) (.cons (.cst (.int 1)) (.cons (.cst (.str "ssk")) .nil))))) (.cons (.tup (.cons (.cst (.str "cdd")) (.cons (.cst (.int 3)) (.cons (.cst (.int 1)) (.cons (.cst (.str "cddp")) .nil))))) (.cons (.tup (.cons (.cst (.str "cddp")) (.cons (.cst (.int 3)) (.cons (.cst (.int 1)) (.cons (.cst (.str "cdd")) .nil))))) (.cons (.tup (.cons (.cst (.str "bo")) (.cons (.cst (.int 1)) (.cons (.cst (.int 0)) (.cons (.cst (.str "bo")) .nil))))) .nil)))))))) (.cons (.ret (.var 0)) .nil))))
theorem q_table (G : Gm) : Asks G (b__law_table G) n__law_table (sp__law_table G) := by
  intro vs H Q E h
  unfold sp__law_table at h
  split at h
  · unfold b__law_table n__law_table
    walk_at "st"
    refine ⟨len_small (by decide), New.i fun p1 H1 h1 e1 g1 => ⟨len_small (by decide), New.i fun p2 H2 h2 e2 g2 => ⟨len_small (by decide), New.i fun p3 H3 h3 e3 g3 => ⟨len_small (by decide), New.i fun p4 H4 h4 e4 g4 => ⟨len_small (by decide), New.i fun p5 H5 h5 e5 g5 => ⟨len_small (by decide), New.i fun p6 H6 h6 e6 g6 => ⟨len_small (by decide), New.i fun p7 H7 h7 e7 g7 => ?_⟩⟩⟩⟩⟩⟩⟩
    walk_at "st"
    refine ⟨len_small (by decide), New.i fun p8 H8 h8 e8 g8 => ⟨len_small (by decide), New.i fun p9 H9 h9 e9 g9 => ⟨len_small (by decide), New.i fun p10 H10 h10 e10 g10 => ⟨len_small (by decide), New.i fun p11 H11 h11 e11 g11 => ⟨len_small (by decide), New.i fun p12 H12 h12 e12 g12 => ?_⟩⟩⟩⟩⟩
    refine catL (e12.lst id (e11.lst id (e10.lst id (e9.lst id (e8.lst id g7))))) g12 (len_small (Nat.le_of_ble_eq_true rfl)) fun p13 H13 h13 e13 g13 => ?_
    walk_at "st"
    refine ⟨len_small (by decide), New.i fun p14 H14 h14 e14 g14 => ⟨len_small (by decide), New.i fun p15 H15 h15 e15 g15 => ⟨len_small (by decide), New.i fun p16 H16 h16 e16 g16 => ⟨len_small (by decide), New.i fun p17 H17 h17 e17 g17 => ⟨len_small (by decide), New.i fun p18 H18 h18 e18 g18 => ⟨len_small (by decide), New.i fun p19 H19 h19 e19 g19 => ?_⟩⟩⟩⟩⟩⟩
    refine catL (e19.lst id (e18.lst id (e17.lst id (e16.lst id (e15.lst id (e14.lst id g13)))))) g19 (len_small (Nat.le_of_ble_eq_true rfl)) fun p20 H20 h20 e20 g20 => ?_
    walk_at "st"
    have E19 := e20
    have E18 := e19.trans E19
    have E17 := e18.trans E18
    have E16 := e17.trans E17
    have E15 := e16.trans E16
    have E14 := e15.trans E15
    have E13 := e14.trans E14
    have E12 := e13.trans E13
    have E11 := e12.trans E12
    have E10 := e11.trans E11
    have E9 := e10.trans E10
    have E8 := e9.trans E9
    have E7 := e8.trans E8
    have E6 := e7.trans E7
    have E5 := e6.trans E6
    have E4 := e5.trans E5
    have E3 := e4.trans E4
    have E2 := e3.trans E3
    have E1 := e2.trans E2
    have E0 := e1.trans E1
    have hp20 : H p20 = none := e1.dm _ (e2.dm _ (e3.dm _ (e4.dm _ (e5.dm _ (e6.dm _ (e7.dm _ (e8.dm _ (e9.dm _ (e10.dm _ (e11.dm _ (e12.dm _ (e13.dm _ (e14.dm _ (e15.dm _ (e16.dm _ (e17.dm _ (e18.dm _ (e19.dm _ (h20)))))))))))))))))))
    refine h p20 H20 hp20 E0 ⟨[p1, p2, p3, p4, p5, p6, p8, p9, p10, p11, p14, p15, p16, p17, p18], g20, .cons (E1.tup id g1) (.cons (E2.tup id g2) (.cons (E3.tup id g3) (.cons (E4.tup id g4) (.cons (E5.tup id g5) (.cons (E6.tup id g6) (.cons (E8.tup id g8) (.cons (E9.tup id g9) (.cons (E10.tup id g10) (.cons (E11.tup id g11) (.cons (E14.tup id g14) (.cons (E15.tup id g15) (.cons (E16.tup id g16) (.cons (E17.tup id g17) (.cons (E18.tup id g18) (.nil)))))))))))))))⟩
  · exact h.elim
end Kn

/-! D4: the law's lists. -/
namespace Kn
open PySem PySem.Spec PyProof.Rows L2
local macro_rules | `(tactic| walk_at "rd") => `(tactic| simp only [ss_nil, s_asg, s_par2, s_aug, s_ret, s_retN, s_exp, s_iff, s_pass, s_brk, s_cnt, s_rs1, s_for1, s_for2, s_forp, s_whl, s_try, e_var, e_glb, e_bty, e_cst, e_bin, e_neg, e_cmp, e_cm2, e_and, e_or, e_not, e_ite, e_lst, e_tup, e_sub, e_slc, e_bif, e_bm0, e_bm, e_call, e_calk, e_lc1, e_lc2, e_lcp, tBreak, tCont, su_lst, su_ret, rdSEs, rdSE, tXf, wipe, tYes, LcS, Ends.gone, rdEs, rdT, rdTs, rdTgs, rdO, tSeq, tRet, tRetN, tDrop, tNext, tIfS, tAndV, tOrV, tNotV, tAnd, tOr, tNot, tTest, tOp, tUn, tCB, tCons, tNil, tVar, tC, nTup, nLst, tChain, tAsg, tPar, tAug, tBM, tBM0, tSl, tPart, tNoPart, tIf, gName, gSub, gIxG, gc1, gn0, t_nm, t_ix, t_tp, rBin, rCmp, rBf, rBm, rIsiG, rIntB, rAddG, rSubG, rMulG, rDivG, rModG, rPowG, rNegG, rLenG, rMaxG, rMinG, rIntG, rStrG, rIsG, rIsNotG, tTruG, TruV, btyV, btyB, bmTy, L2.start, List.getElem?_cons_zero, List.getElem?_cons_succ, Option.some.injEq, exists_eq_left', exists_eq_left, V.bl.injEq, V.int.injEq, V.str.injEq, V.ref.injEq, true_and, and_true, List.set_cons_zero, List.set_cons_succ, List.map_cons, List.map_nil, List.length_cons, List.length_nil, List.replicate_succ, List.replicate_zero, List.cons_append, List.nil_append, List.append_nil, Nat.sub_self, Nat.zero_add, Nat.add_sub_cancel, ite_true, ite_false, if_true, if_false, reduceIte, Bool.not_true, Bool.not_false, Bool.false_eq_true, reduceCtorEq, false_and, and_false, Nat.reduceAdd, Nat.reduceSub, tabIsi, okTy, tyS, decide_true, decide_false, Bool.or_true, Bool.true_or, Bool.false_or, Bool.or_false, Bool.and_true, Bool.true_and, Bool.and_false, Bool.false_and, String.reduceEq, exists_const, exists_false, Int.zero_add, List.cons.injEq, Int.reduceAdd, Int.reduceMul, Int.reduceNeg, Int.reduceSub, Int.reducePow, Int.reduceToNat])
local macro_rules | `(tactic| walk_at "gd") => `(tactic| simp only [GdSs, GdS, GdE, GdEs, GdT, GdTs, GdTg, GdTgs, GdSrc, GdHs, GdSu, GdSE, and_true, true_and, btyB, bfName])
local macro_rules | `(tactic| walk_at "st") => `(tactic| repeat (first | refine ss_cons ?_ | walk_at "rd"))

theorem pd_get {α β : Type} {R : α → β → Prop} {xs : List α} {ys : List β} (h : Paired R xs ys) : ∀ {i : Nat} {x : α}, xs[i]? = some x → ∃ y, ys[i]? = some y ∧ R x y := by
  induction h with
  | nil => intro i x e; cases e
  | cons r _ ih =>
    intro i x e
    cases i with
    | zero =>
      rw [List.getElem?_cons_zero] at e ⊢
      cases e
      exact ⟨_, rfl, r⟩
    | succ j =>
      rw [List.getElem?_cons_succ] at e ⊢
      exact ih e
theorem pd_len {α β : Type} {R : α → β → Prop} {xs : List α} {ys : List β} (h : Paired R xs ys) : xs.length = ys.length := by
  induction h with
  | nil => rfl
  | cons _ _ ih => rw [List.length_cons, List.length_cons, ih]
/-- the item at i of a list of tuples -/
theorem Tbl.at {H : Hp} {p : Addr} {es : List (Str × Int × Int × Str)} (h : Tbl H p es) : ∃ ps : List Addr, H p = some (.lst (ps.map V.ref)) ∧ ps.length = es.length ∧ ∀ (i : Nat) (x : V), (ps.map V.ref)[i]? = some x → ∃ q e, x = .ref q ∧ es[i]? = some e ∧ H q = some (.tup (rowV e)) := by
  obtain ⟨ps, g, hp⟩ := h
  refine ⟨ps, g, pd_len hp, fun i x e => ?_⟩
  rw [List.getElem?_map] at e
  obtain ⟨q, e1, e2⟩ := Option.map_eq_some_iff.mp e
  subst e2
  obtain ⟨y, h1, h2⟩ := pd_get hp e1
  exact ⟨q, y, rfl, h1, h2⟩
theorem take_snoc {α : Type} {xs : List α} {i : Nat} {x : α} (h : xs[i]? = some x) : xs.take (i + 1) = xs.take i ++ [x] := by
  rw [List.take_add_one, h]
  rfl
def nmsV : List V := stTab.map fun e => V.str e.1
def sp__law_names (G : Gm) : Sp := fun vs H Q _ => match vs with
  | [] => ∀ p H', H p = none → Ext H H' → H' p = some (.lst nmsV) → Q (.ref p) H'
  | _ => False
def n__law_names : List Str := ["row"]
def b__law_names (G : Gm) : Ss := (.cons (.ret (.lc (.sub (.var 0) (.cst (.int 0))) (.nm 0) (.plain (.call "_law_table" (sp__law_table G) [] .nil)) .nil [0])) .nil)
theorem q_names (G : Gm) : Asks G (b__law_names G) n__law_names (sp__law_names G) := by
  intro vs H Q E h
  unfold sp__law_names at h
  split at h
  · unfold b__law_names n__law_names
    walk_at "st"
    refine fun tp H1 htp e1 ht => ?_
    walk_at "st"
    obtain ⟨ps, g, hl, hat⟩ := ht.at
    refine lcL (.inl (.inl g)) (fun i acc H2 => Ext H1 H2 ∧ acc = nmsV.take i) (fun D H2 _ e => ⟨e, rfl⟩) (fun i acc H2 p => .inl (.inl (p.1.lst id g))) ?_ ?_
    · rintro D i x acc H2 hD hx hacc ⟨e2, rfl⟩
      obtain ⟨q, e, rfl, he, hq⟩ := hat i x hx
      walk_at "st"
      refine itT (e2.tup id hq) (v := .str e.1) rfl ?_
      refine (put_lst hacc ?_ fun H5 e5 => ⟨e2.new2 e5 hD, ?_⟩)
      · rw [List.length_take]
        have : nmsV.length ≤ 15 := by decide
        exact Nat.lt_of_le_of_lt (Nat.le_trans (Nat.min_le_right _ _) this) (by decide +kernel)
      · refine (take_snoc ?_).symm
        unfold nmsV
        rw [List.getElem?_map, he]
        rfl
    · rintro D acc H2 hD hacc ⟨e2, rfl⟩
      refine h D H2 (e1.dm _ hD) (e1.trans e2) ?_
      rw [hacc, List.take_of_length_le]
      rw [List.length_map, hl]
      exact Nat.le.refl
  · exact h.elim

/-! ### sums -/
def tkS (z : Str) : Int := match stT z with
  | some t => t.1
  | none => 0
def mkS (z : Str) : Int := match stT z with
  | some t => t.2.1
  | none => 0
def kvE : Addr → (Str × Int × Int × Str) → Key × V := fun p e => (.inr e.1, .ref p)
theorem pd_zip {H : Hp} {ps : List Addr} {es : List (Str × Int × Int × Str)} (h : Paired (fun (q : Addr) (e : Str × Int × Int × Str) => H q = some (.tup (rowV e))) ps es) {z : Str} {t : Int × Int × Str} (e : es.lookup z = some t) :
    ∃ q, valV (List.zipWith kvE ps es) (.inr z) = some (.ref q) ∧ H q = some (.tup (rowV (z, t))) := by
  induction h with
  | nil => cases e
  | @cons q e0 ps es r _ ih =>
    obtain ⟨z0, t0⟩ := e0
    rw [List.lookup_cons] at e
    rw [List.zipWith_cons_cons]
    by_cases c : z = z0
    · subst c
      rw [beq_self_eq_true] at e
      cases e
      exact ⟨q, valV_pos rfl, r⟩
    · rw [beq_false_of_ne c] at e
      obtain ⟨q', h1, h2⟩ := ih e
      exact ⟨q', by rw [valV_neg]; exact h1; exact fun w => c (by cases w; rfl), h2⟩
theorem keys_zip : ∀ {ps : List Addr} {es : List (Str × Int × Int × Str)}, ps.length = es.length → (List.zipWith kvE ps es).map (·.1) = es.map fun e => Sum.inr e.1
  | [], [], _ => rfl
  | p :: ps, e :: es, h => by
    rw [List.zipWith_cons_cons, List.map_cons, List.map_cons, keys_zip (Nat.succ.inj h)]
    rfl
theorem keys_nd : (stTab.map fun e => (Sum.inr e.1 : Key)).Nodup := by decide +kernel
def sp__law_sums (G : Gm) : Sp := fun vs H Q _ => match vs with
  | [.ref p] => ∃ ss : List Str, ss.length ≤ 5000 ∧ SqL G.K H p (ss.map V.str) ∧ (∀ z ∈ ss, (stT z).isSome = true) ∧ ∀ q H', H q = none → Ext H H' → H' q = some (.lst [.int (ss.map tkS).sum, .int (ss.map mkS).sum]) → Q (.ref q) H'
  | _ => False
def n__law_sums : List Str := ["stitches", "rows", "row", "stitch"]
def b__law_sums (G : Gm) : Ss := (.cons (.asg (.nm 1) (.bif .dict (.cons (.lc (.tup (.cons (.sub (.var 2) (.cst (.int 0))) (.cons (.var 2) .nil))) (.nm 2) (.plain (.call "_law_table" (sp__law_table G) [] .nil)) .nil [2]) .nil))) (.cons (.ret (.lst (.cons (.bif .sum (.cons (.lc (.sub (.sub (.var 1) (.var 3)) (.cst (.int 1))) (.nm 3) (.plain (.var 0)) .nil [3]) .nil)) (.cons (.bif .sum (.cons (.lc (.sub (.sub (.var 1) (.var 3)) (.cst (.int 2))) (.nm 3) (.plain (.var 0)) .nil [3]) .nil)) .nil)))) .nil))
theorem q_sums (G : Gm) : Asks G (b__law_sums G) n__law_sums (sp__law_sums G) := by
  intro vs H Q E h
  unfold sp__law_sums at h
  split at h
  · rename_i p
    obtain ⟨ss, hss, hs, hz, h⟩ := h
    unfold b__law_sums n__law_sums
    walk_at "st"
    refine fun tp H1 htp e1 ht => ?_
    walk_at "st"
    obtain ⟨ps, g, hp⟩ := ht
    have hl := pd_len hp
    refine lcL (.inl (.inl g)) (fun i acc H2 => Ext H1 H2 ∧ ∃ qs : List Addr, acc = qs.map V.ref ∧ Paired (fun (q : Addr) (kv : Key × V) => H2 q = some (.tup [kV kv.1, kv.2])) qs ((List.zipWith kvE ps stTab).take i)) (fun D H2 _ e => ⟨e, [], rfl, .nil⟩) (fun i acc H2 p => .inl (.inl (p.1.lst id g))) ?_ ?_
    · rintro D i x acc H2 hD hx hacc ⟨e2, qs, rfl, hqs⟩
      rw [List.getElem?_map] at hx
      obtain ⟨q0, hx0, rfl⟩ := Option.map_eq_some_iff.mp hx
      obtain ⟨e, he, hq⟩ := pd_get hp hx0
      walk_at "st"
      refine itT (e2.tup id hq) (v := .str e.1) rfl ?_
      walk_at "st"
      refine ⟨len_small (by decide), New.i fun t H3 ht3 e3 g3 => put_lst (e3.lst id hacc) ?_ fun H5 e5 => ⟨(e2.trans e3).new2 e5 hD, qs ++ [t], by rw [List.map_append]; rfl, ?_⟩⟩
      · rw [List.length_map, pd_len hqs, List.length_take, List.length_zipWith]
        have : stTab.length = 15 := by decide
        exact Nat.lt_of_le_of_lt (show min i (min ps.length stTab.length) ≤ 15 by omega) (by decide +kernel)
      · have hkv : (List.zipWith kvE ps stTab)[i]? = some (kvE q0 e) := by rw [List.getElem?_zipWith, hx0, he]
        rw [take_snoc hkv]
        have nd : ∀ {a : Addr} {o : HO} , H3 a = some o → (∀ l, o ≠ .lst l) → (∀ ps, o ≠ .tbl ps) → H5 a = some o := fun {a o} ga ho hto => e5.ob a o (fun z => by rw [z, e3.lst id hacc] at ga; cases ga; exact ho _ rfl) ga hto
        refine Paired.snoc (pd_imp hqs fun a b hab => nd (e3.tup id hab) (fun _ z => by cases z) (fun _ z => by cases z)) ?_
        exact nd g3 (fun _ z => by cases z) (fun _ z => by cases z)
    · rintro D acc H2 hD hacc ⟨e2, qs, rfl, hqs⟩
      rw [List.length_map, List.take_of_length_le (by rw [List.length_zipWith]; omega)] at hqs
      walk_at "st"
      refine dictL hacc hqs fun d H3 hd e3 g3 => ?_
      have look : ∀ z ∈ ss, ∃ q t, stT z = some t ∧ valV (mergeK [] (List.zipWith kvE ps stTab)) (.inr z) = some (.ref q) ∧ H3 q = some (.tup (rowV (z, t))) := by
        intro z hzz
        obtain ⟨t, ht⟩ := Option.isSome_iff_exists.mp (hz z hzz)
        obtain ⟨q, h1, h2⟩ := pd_zip hp ht
        refine ⟨q, t, ht, ?_, e3.tup id (e2.tup id h2)⟩
        rw [val_merge _ _ _ (by rw [keys_zip hl]; exact keys_nd), h1]
        rfl
      walk_at "st"
      have e03 : Ext H H3 := (e1.trans e2).trans e3
      refine lcL (e03.sql id hs) (fun i acc H4 => Ext H3 H4 ∧ acc = (ss.map fun z => V.int (tkS z)).take i) (fun D H2 _ e => ⟨e, rfl⟩) (fun i acc H2 p => (e03.trans p.1).sql id hs) ?_ ?_
      · rintro D i x acc H4 hD hx hacc ⟨e4, rfl⟩
        rw [List.getElem?_map] at hx
        obtain ⟨z, hx0, rfl⟩ := Option.map_eq_some_iff.mp hx
        obtain ⟨q, t, hst, hv, hq⟩ := look z (List.mem_of_getElem? hx0)
        walk_at "st"
        refine itD (e4.dK id g3) hv (itT (e4.tup id hq) (v := .int (tkS z)) (by unfold tkS; rw [hst]; rfl) (put_lst hacc ?_ fun H5 e5 => ⟨e4.new2 e5 hD, ?_⟩))
        · rw [List.length_take, List.length_map]
          exact Nat.lt_of_le_of_lt (show min i ss.length ≤ 5000 by omega) (by decide +kernel)
        · exact (take_snoc (by rw [List.getElem?_map, hx0]; rfl)).symm
      · rintro D acc H4 hD hacc ⟨e4, rfl⟩
        rw [List.length_map, List.take_of_length_le (by rw [List.length_map]; omega)] at hacc
        walk_at "st"
        refine ⟨D, ss.map tkS, rfl, .inl (.inl (by rw [hacc, List.map_map]; rfl)), ?_⟩
        walk_at "st"
        refine lcL ((e03.trans e4).sql id hs) (fun i acc H5 => Ext H4 H5 ∧ acc = (ss.map fun z => V.int (mkS z)).take i) (fun D H2 _ e => ⟨e, rfl⟩) (fun i acc H2 p => ((e03.trans e4).trans p.1).sql id hs) ?_ ?_
        · rintro D i x acc H5 hD hx hacc ⟨e5, rfl⟩
          rw [List.getElem?_map] at hx
          obtain ⟨z, hx0, rfl⟩ := Option.map_eq_some_iff.mp hx
          obtain ⟨q, t, hst, hv, hq⟩ := look z (List.mem_of_getElem? hx0)
          walk_at "st"
          refine itD (e5.dK id (e4.dK id g3)) hv (itT (e5.tup id (e4.tup id hq)) (v := .int (mkS z)) (by unfold mkS; rw [hst]; rfl) (put_lst hacc ?_ fun H6 e6 => ⟨e5.new2 e6 hD, ?_⟩))
          · rw [List.length_take, List.length_map]
            exact Nat.lt_of_le_of_lt (show min i ss.length ≤ 5000 by omega) (by decide +kernel)
          · exact (take_snoc (by rw [List.getElem?_map, hx0]; rfl)).symm
        · rintro D2 acc H5 hD2 hacc2 ⟨e5, rfl⟩
          rw [List.length_map, List.take_of_length_le (by rw [List.length_map]; omega)] at hacc2
          walk_at "st"
          refine ⟨D2, ss.map mkS, rfl, .inl (.inl (by rw [hacc2, List.map_map]; rfl)), ?_⟩
          walk_at "st"
          refine ⟨len_small (by decide), New.i fun q H6 hq6 e6 g6 => ?_⟩
          exact h q H6 (e03.dm _ (e4.dm _ (e5.dm _ hq6))) (((e03.trans e4).trans e5).trans e6) g6
  · exact h.elim
end Kn

/-! D5: what is due, what is asked, the gaps. -/
namespace Kn
open PySem PySem.Spec PyProof.Rows L2
local macro_rules | `(tactic| walk_at "rd") => `(tactic| simp only [ss_nil, s_asg, s_par2, s_aug, s_ret, s_retN, s_exp, s_iff, s_pass, s_brk, s_cnt, s_rs1, s_for1, s_for2, s_forp, s_whl, s_try, e_var, e_glb, e_bty, e_cst, e_bin, e_neg, e_cmp, e_cm2, e_and, e_or, e_not, e_ite, e_lst, e_tup, e_sub, e_slc, e_bif, e_bm0, e_bm, e_call, e_calk, e_lc1, e_lc2, e_lcp, tBreak, tCont, su_lst, su_ret, rdSEs, rdSE, tXf, wipe, tYes, LcS, Ends.gone, rdEs, rdT, rdTs, rdTgs, rdO, tSeq, tRet, tRetN, tDrop, tNext, tIfS, tAndV, tOrV, tNotV, tAnd, tOr, tNot, tTest, tOp, tUn, tCB, tCons, tNil, tVar, tC, nTup, nLst, tChain, tAsg, tPar, tAug, tBM, tBM0, tSl, tPart, tNoPart, tIf, gName, gSub, gIxG, gc1, gn0, t_nm, t_ix, t_tp, rBin, rCmp, rBf, rBm, rIsiG, rIntB, rAddG, rSubG, rMulG, rDivG, rModG, rPowG, rNegG, rLenG, rMaxG, rMinG, rIntG, rStrG, rIsG, rIsNotG, tTruG, TruV, btyV, btyB, bmTy, L2.start, List.getElem?_cons_zero, List.getElem?_cons_succ, Option.some.injEq, exists_eq_left', exists_eq_left, V.bl.injEq, V.int.injEq, V.str.injEq, V.ref.injEq, true_and, and_true, List.set_cons_zero, List.set_cons_succ, List.map_cons, List.map_nil, List.length_cons, List.length_nil, List.replicate_succ, List.replicate_zero, List.cons_append, List.nil_append, List.append_nil, Nat.sub_self, Nat.zero_add, Nat.add_sub_cancel, ite_true, ite_false, if_true, if_false, reduceIte, Bool.not_true, Bool.not_false, Bool.false_eq_true, reduceCtorEq, false_and, and_false, Nat.reduceAdd, Nat.reduceSub, tabIsi, okTy, tyS, decide_true, decide_false, Bool.or_true, Bool.true_or, Bool.false_or, Bool.or_false, Bool.and_true, Bool.true_and, Bool.and_false, Bool.false_and, String.reduceEq, exists_const, exists_false, Int.zero_add, List.cons.injEq, Int.reduceAdd, Int.reduceMul, Int.reduceNeg, Int.reduceSub, Int.reducePow, Int.reduceToNat])
local macro_rules | `(tactic| walk_at "gd") => `(tactic| simp only [GdSs, GdS, GdE, GdEs, GdT, GdTs, GdTg, GdTgs, GdSrc, GdHs, GdSu, GdSE, and_true, true_and, btyB, bfName])
local macro_rules | `(tactic| walk_at "st") => `(tactic| repeat (first | refine ss_cons ?_ | walk_at "rd"))

/-- what is told of a spread -/
def Told (H H' : Hp) (q : Addr) (n t : Int) (z : Str) : Prop := (n < 0 → H' q = some (.lst [.str "lacks", .int (0 - n)])) ∧ (¬ n < 0 → ∃ r, H r = none ∧ r ≠ q ∧ H' q = some (.lst [.str "told", .ref r]) ∧ H' r = some (.lst (spL n t (.str z) (t + 1).toNat)))
def sp__law_due (G : Gm) : Sp := fun vs H Q _ => match vs with
  | [.int c, .int t, .str z] => ∃ a b o, stT z = some (a, b, o) ∧ 0 ≤ c ∧ c ≤ 600 ∧ 0 ≤ t ∧ t ≤ 300 ∧ ∀ q H', H q = none → Ext H H' → Told H H' q (c - t * a) t z → Q (.ref q) H'
  | _ => False
def n__law_due : List Str := ["count", "times", "stitch", "names", "plain", "found", "ahead", "at", "until"]
def b__law_due (G : Gm) : Ss := (.cons (.asg (.nm 3) (.call "_law_names" (sp__law_names G) [] .nil)) (.cons (.asg (.nm 4) (.bin .Sub (.var 0) (.bin .Mult (.var 1) (.sub (.sub (.call "_law_table" (sp__law_table G) [] .nil) (.bm .index (.var 3) (.cons (.var 2) .nil))) (.cst (.int 1)))))) (.cons (.iff (.cmp .Lt (.var 4) (.cst (.int 0))) (.cons (.ret (.lst (.cons (.cst (.str "lacks")) (.cons (.bin .Sub (.cst (.int 0)) (.var 4)) .nil)))) .nil) .nil) (.cons (.par2 5 6 (.lst .nil) (.cst (.int 0))) (.cons (.for_ (.nm 7) (.rng1 (.bin .Add (.var 1) (.cst (.int 1)))) (.cons (.asg (.nm 8) (.bin .FloorDiv (.bin .Mult (.var 4) (.bin .Add (.var 7) (.cst (.int 1)))) (.bin .Add (.var 1) (.cst (.int 1))))) (.cons (.asg (.nm 5) (.bin .Add (.bin .Add (.var 5) (.bin .Mult (.lst (.cons (.cst (.str "k")) .nil)) (.bin .Sub (.var 8) (.var 6)))) (.bin .Mult (.lst (.cons (.var 2) .nil)) (.bif .int (.cons (.cmp .Lt (.var 7) (.var 1)) .nil))))) (.cons (.asg (.nm 6) (.var 8)) .nil)))) (.cons (.ret (.lst (.cons (.cst (.str "told")) (.cons (.var 5) .nil)))) .nil))))))
theorem nms_flat : nmsV.all L2.flatV = true := by decide +kernel
theorem idx_in {z : Str} {t : Int × Int × Str} : ∀ {es : List (Str × Int × Int × Str)}, es.lookup z = some t → ∃ j : Nat, es[j]? = some (z, t) ∧ (es.map fun e => V.str e.1)[j]? = some (.str z) ∧ ∀ (m : Nat) (z' : V), m < j → (es.map fun e => V.str e.1)[m]? = some z' → L2.eqV z' (.str z) = false
  | (z0, t0) :: r, h => by
    rw [List.lookup_cons] at h
    by_cases c : z = z0
    · subst c
      rw [beq_self_eq_true] at h
      cases h
      exact ⟨0, rfl, rfl, fun m _ hm => absurd hm (Nat.not_lt_zero m)⟩
    · rw [beq_false_of_ne c] at h
      obtain ⟨j, h1, h2, h3⟩ := idx_in h
      refine ⟨j + 1, by rw [List.getElem?_cons_succ]; exact h1, by rw [List.map_cons, List.getElem?_cons_succ]; exact h2, fun m z' hm e => ?_⟩
      cases m with
      | zero =>
        rw [List.map_cons, List.getElem?_cons_zero] at e
        cases e
        exact beq_false_of_ne fun w => c w.symm
      | succ m =>
        rw [List.map_cons, List.getElem?_cons_succ] at e
        exact h3 m z' (Nat.lt_of_succ_lt_succ hm) e
theorem idx_of {z : Str} {t : Int × Int × Str} (h : stT z = some t) : ∃ j : Nat, stTab[j]? = some (z, t) ∧ nmsV[j]? = some (.str z) ∧ ∀ (m : Nat) (z' : V), m < j → nmsV[m]? = some z' → L2.eqV z' (.str z) = false := idx_in h
theorem q_due (G : Gm) : Asks G (b__law_due G) n__law_due (sp__law_due G) := by
  intro vs H Q E h
  unfold sp__law_due at h
  split at h
  · rename_i cn tn z
    obtain ⟨a, b, o, hst, c1, c2, t1, t2, h⟩ := h
    obtain ⟨a1, a2, _, _⟩ := stT_tk hst
    unfold b__law_due n__law_due
    walk_at "st"
    refine fun np H1 hnp e1 gn => ?_
    walk_at "st"
    refine fun tp H2 htp e2 ht => ?_
    walk_at "st"
    obtain ⟨j, hj1, hj2, hj3⟩ := idx_of hst
    obtain ⟨ps, gl, hl, hat⟩ := ht.at
    refine ⟨.inl ⟨rfl, _, .inl (.inl (e2.lst id gn))⟩, np, nmsV, .str z, j, .str z, rfl, rfl, .inl (.inl (e2.lst id gn)), rfl, nms_flat, hj2, by simp [L2.eqV], hj3, ?_⟩
    obtain ⟨q0, hq0⟩ : ∃ x, (ps.map V.ref)[j]? = some x := by
      have : j < stTab.length := (List.getElem?_eq_some_iff.mp hj1).1
      exact ⟨_, List.getElem?_eq_getElem (by rw [List.length_map]; omega)⟩
    obtain ⟨q, e, rfl, he, hq⟩ := hat j _ hq0
    rw [hj1] at he
    cases he
    refine itL gl (atI_nat (by omega) hq0) ?_
    walk_at "st"
    refine itT hq (v := .int a) rfl ?_
    walk_at "st"
    refine ⟨.inr ⟨by omega, by omega⟩, ?_⟩
    have hta : 0 ≤ tn * a := Int.mul_nonneg t1 a1
    have hn600 : cn - tn * a ≤ 600 := by omega
    generalize cn - tn * a = n at h hn600 ⊢
    walk_at "st"
    have e02 : Ext H H2 := e1.trans e2
    by_cases hneg : n < 0
    · simp only [hneg, decide_true, if_true]
      walk_at "st"
      refine ⟨len_small (by decide), New.i fun p H3 hp e3 g3 => h p H3 (e02.dm _ hp) (e02.trans e3) ⟨fun _ => g3, fun x => absurd hneg x⟩⟩
    · simp only [hneg, decide_false, if_false, Bool.false_eq_true]
      have hn : 0 ≤ n := by omega
      walk_at "st"
      refine ⟨len_small (by decide), New.i fun l H3 hl3 e3 g3 => ?_⟩
      walk_at "st"
      refine ⟨by omega, by omega, fjR (fun i τ H4 => ∃ x y r, τ = [some (.int cn), some (.int tn), some (.str z), some (.ref np), some (.int n), some (.ref r), some (.int (n * i / (tn + 1))), x, y] ∧ Ext H2 H4 ∧ H2 r = none ∧ H4 r = some (.lst (spL n tn (.str z) i))) ⟨none, none, l, by simp, e3, hl3, g3⟩ ?_ ?_⟩
      · rintro i τ H4 hi ⟨x, y, r, rfl, e4, hr, g4⟩
        have hi' : (i : Int) ≤ tn := by omega
        have hlen := spL_len (s := .str z) hn t1 i
        have hle := mul_div_le (m := (i : Int)) hn t1 (by omega)
        have hg := gap_nn (i := (i : Int)) hn t1
        have hgle : gapI n tn i ≤ n := by
          unfold gapI
          have h9 := mul_div_le (m := (i : Int) + 1) hn t1 (by omega)
          have h8 : 0 ≤ n * (i : Int) / (tn + 1) := Int.ediv_nonneg (Int.mul_nonneg hn (by omega)) (by omega)
          omega
        walk_at "st"
        refine ⟨.inl ⟨by omega, by omega⟩, ⟨by omega, by omega⟩, ?_⟩
        walk_at "st"
        refine ⟨len_small (by decide), New.i fun p5 H5 hp5 e5 g5 => ?_⟩
        have hz : (spL n tn (.str z) i).length + (gapI n tn i).toNat + 1 ≤ sizeLine := by
          have : sizeLine > 10000 := by decide +kernel
          omega
        refine repL g5 (by show -(2 ^ 63) ≤ gapI n tn i; omega) (by show (gapI n tn i).toNat ≤ sizeLine; omega) fun p6 H6 hp6 e6 g6 => ?_
        refine catL (e6.lst id (e5.lst id g4)) g6 (by rw [List.length_replicate]; show (spL n tn (.str z) i).length + (gapI n tn i).toNat ≤ sizeLine; omega) fun p7 H7 hp7 e7 g7 => ?_
        refine ⟨len_small (by decide), New.i fun p8 H8 hp8 e8 g8 => ?_⟩
        walk_at "st"
        refine repL g8 (by split <;> decide) (by split <;> decide +kernel) fun p9 H9 hp9 e9 g9 => ?_
        refine catL (e9.lst id (e8.lst id g7)) g9 ?_ fun p10 H10 hp10 e10 g10 => ?_
        · rw [List.length_append, List.length_replicate, List.length_replicate]
          show (spL n tn (.str z) i).length + (gapI n tn i).toNat + _ ≤ sizeLine
          split <;> (have := hz; simp only [Int.reduceToNat]; omega)
        walk_at "st"
        have e29 : Ext H2 H9 := ((((e4.trans e5).trans e6).trans e7).trans e8).trans e9
        refine ⟨_, _, p10, ⟨rfl, rfl, rfl, rfl⟩, e29.trans e10, e29.dm _ hp10, ?_⟩
        rw [g10]
        show some (HO.lst _) = some (HO.lst (spL n tn (.str z) i ++ spStep n tn (.str z) i))
        unfold spStep
        rw [List.append_assoc]
        congr 4
        by_cases hit : (i : Int) < tn
        · simp [hit]
        · simp [hit]
      · rintro τ H4 ⟨x, y, r, rfl, e4, hr, g4⟩
        walk_at "st"
        refine ⟨len_small (by decide), New.i fun p H5 hp e5 g5 => h p H5 (e02.dm _ (e4.dm _ hp)) ((e02.trans e4).trans e5) ⟨fun x => absurd x hneg, fun _ => ⟨r, e02.dm _ hr, fun w => ?_, g5, e5.lst id g4⟩⟩⟩
        rw [w, hp] at g4
        cases g4
  · exact h.elim

/-! ### what is asked -/
structure SpK (G : Gm) (C : Addr) : Prop where
  mg : G.mg "NoSpread" = some (.ref C)
  ex : PySem.W.exmOne G.K (.ref C) (.ref C) = some true
def sp__law_asked (G : Gm) : Sp := fun vs H Q _ => match vs with
  | [.int c, .int t, .str z] => ∃ a b o, stT z = some (a, b, o) ∧ 0 ≤ c ∧ c ≤ 600 ∧ 0 ≤ t ∧ t ≤ 300 ∧ ∀ q H', H q = none → Ext H H' → Told H H' q (c - t * a) t z → Q (.ref q) H'
  | _ => False
def n__law_asked : List Str := ["count", "times", "stitch", "found", "e"]
def b__law_asked (G : Gm) : Ss := (.cons (.asg (.nm 3) (.lst (.cons (.cst (.str "other")) .nil))) (.cons (.try_ (.cons (.asg (.nm 3) (.lst (.cons (.cst (.str "told")) (.cons (.call "spread" (sp_spread G) [] (.cons (.var 0) (.cons (.var 1) (.cons (.var 2) .nil)))) .nil)))) .nil) (.cons "NoSpread" (some 4) (.lst 3 [.cst (.str "lacks"), .xf 4 "lacking"]) (.cons "KnitError" none (.lst 3 [.cst (.str "other")]) .nil))) (.cons (.ret (.var 3)) .nil)))
theorem q_asked (G : Gm) {C : Addr} (S : SpK G C) : Asks G (b__law_asked G) n__law_asked (sp__law_asked G) := by
  intro vs H Q E h
  unfold sp__law_asked at h
  split at h
  · rename_i cn tn z
    obtain ⟨a, b, o, hst, c1, c2, t1, t2, h⟩ := h
    unfold b__law_asked n__law_asked
    walk_at "st"
    refine ⟨len_small (by decide), New.i fun p H1 hp e1 g1 => ?_⟩
    walk_at "st"
    have hc : countV (.int cn) = true := by simp [countV, wholeV, c1, c2]
    have ht : wholeV (.int tn) 0 300 = true := by simp [wholeV, t1, t2]
    refine ⟨trivial, trivial, trivial, fun x => (by rw [hc] at x; cases x), fun _ x => (by rw [ht] at x; cases x), fun _ _ x => (by rw [show stV (.str z) = stT z from rfl, hst] at x; cases x), ?_⟩
    rintro cn' tn' tk mk o' ⟨⟩ ⟨⟩ hst' _ _
    obtain ⟨rfl, rfl, rfl⟩ : a = tk ∧ b = mk ∧ o = o' := by
      have := hst.symm.trans hst'
      cases this
      exact ⟨rfl, rfl, rfl⟩
    refine ⟨fun hneg => ?_, fun hneg r H2 hr e2 g2 => ?_⟩
    · rintro d H2 hd e2 g2
      refine try_hit (by rw [clV_of S.mg]; exact S.ex) fun x hx => ?_
      walk_at "st"
      rw [clV_of S.mg, clA_of S.mg]
      refine ⟨rfl, d, _, .int (0 - (cn - tn * a)), rfl, g2, rfl, len_small (by decide), New.i fun q H3 hq e3 g3 => ?_⟩
      walk_at "st"
      exact h q H3 (e1.dm _ (e2.dm _ hq)) ((e1.trans e2).trans e3) ⟨fun _ => g3, fun x => absurd hneg x⟩
    · walk_at "st"
      refine ⟨len_small (by decide), New.i fun q H3 hq e3 g3 => ?_⟩
      walk_at "st"
      refine h q H3 (e1.dm _ (e2.dm _ hq)) ((e1.trans e2).trans e3) ⟨fun x => absurd x hneg, fun _ => ⟨r, e1.dm _ hr, fun w => ?_, g3, e3.lst id g2⟩⟩
      rw [w, hq] at g2
      cases g2
  · exact h.elim

/-! ### the gaps -/
def gStep (z : Str) (acc : List Int × Int) (x : Str) : List Int × Int := if x = z then (acc.1 ++ [acc.2], 0) else (acc.1, acc.2 + 1)
def gaps (z : Str) (xs : List Str) : List Int := let r := xs.foldl (gStep z) ([], 0); r.1 ++ [r.2]
def sp__law_gaps (G : Gm) : Sp := fun vs H Q _ => match vs with
  | [.ref p, .str z] => ∃ xs : List Str, xs.length ≤ 5000 ∧ SqL G.K H p (xs.map V.str) ∧ ∀ q H', H q = none → Ext H H' → H' q = some (.lst ((gaps z xs).map V.int)) → Q (.ref q) H'
  | _ => False
def n__law_gaps : List Str := ["row", "stitch", "found", "one"]
def b__law_gaps (G : Gm) : Ss := (.cons (.asg (.nm 2) (.lst (.cons (.cst (.int 0)) .nil))) (.cons (.for_ (.nm 3) (.plain (.var 0)) (.cons (.iff (.cmp .Eq (.var 3) (.var 1)) (.cons (.exp (.bm .append (.var 2) (.cons (.cst (.int 0)) .nil))) .nil) (.cons (.asg (.ix (.var 2) (.neg (.cst (.int 1)))) (.bin .Add (.sub (.var 2) (.neg (.cst (.int 1)))) (.cst (.int 1)))) .nil)) .nil)) (.cons (.ret (.var 2)) .nil)))
theorem gaps_len (z : Str) : ∀ (xs : List Str) (acc : List Int × Int), (xs.foldl (gStep z) acc).1.length ≤ acc.1.length + xs.length
  | [], acc => by simp
  | x :: r, acc => by
    rw [List.foldl_cons, List.length_cons]
    refine Nat.le_trans (gaps_len z r _) ?_
    unfold gStep
    split
    · simp only [List.length_append, List.length_singleton]; omega
    · show acc.1.length + _ ≤ _
      omega
theorem take_fold {α β : Type} (f : β → α → β) (b : β) {xs : List α} {i : Nat} {x : α} (h : xs[i]? = some x) : (xs.take (i + 1)).foldl f b = f ((xs.take i).foldl f b) x := by
  rw [take_snoc h, List.foldl_append]
  rfl
theorem at_last {α : Type} {xs : List α} {y : α} : atI (xs ++ [y]) (-1) = some y := by
  unfold atI ixN
  rw [if_neg (by decide), if_pos (by rw [List.length_append, List.length_singleton]; omega)]
  show (xs ++ [y])[_]? = some y
  rw [show ((-1 : Int) + ((xs ++ [y]).length : Nat)).toNat = xs.length by rw [List.length_append, List.length_singleton]; omega]
  simp
theorem ix_last {α : Type} {xs : List α} {y : α} : ixN (xs ++ [y]).length (-1) = some xs.length := by
  unfold ixN
  rw [if_neg (by decide), if_pos (by rw [List.length_append, List.length_singleton]; omega)]
  rw [show ((-1 : Int) + ((xs ++ [y]).length : Nat)).toNat = xs.length by rw [List.length_append, List.length_singleton]; omega]
theorem set_last {α : Type} {xs : List α} {y w : α} : (xs ++ [y]).set xs.length w = xs ++ [w] := by
  induction xs with
  | nil => rfl
  | cons a r ih => rw [List.cons_append, List.length_cons, List.set_cons_succ, ih]; rfl
theorem q_gaps (G : Gm) : Asks G (b__law_gaps G) n__law_gaps (sp__law_gaps G) := by
  intro vs H Q E h
  unfold sp__law_gaps at h
  split at h
  · rename_i p z
    obtain ⟨xs, hn, hs, h⟩ := h
    unfold b__law_gaps n__law_gaps
    walk_at "st"
    refine ⟨len_small (by decide), New.i fun l H1 hl e1 g1 => ?_⟩
    walk_at "st"
    refine fjL (fun i τ H2 => ∃ x, τ = [some (.ref p), some (.str z), some (.ref l), x] ∧ Ext H H2 ∧ H2 l = some (.lst ((((xs.take i).foldl (gStep z) ([], 0)).1 ++ [((xs.take i).foldl (gStep z) ([], 0)).2]).map V.int))) (e1.sql id hs) ⟨none, rfl, e1, g1⟩ (fun i σ H2 hi ⟨x, _, e2, _⟩ => e2.sql id hs) ?_ ?_
    · rintro i x τ H2 hx ⟨y, rfl, e2, g2⟩
      rw [List.getElem?_map] at hx
      obtain ⟨w, hx0, rfl⟩ := Option.map_eq_some_iff.mp hx
      rw [take_fold _ _ hx0]
      have hlen := gaps_len z (xs.take i) ([], 0)
      rw [List.length_take] at hlen
      have hb : ((List.take i xs).foldl (gStep z) ([], 0)).1.length + 1 < sizeLine := Nat.lt_of_le_of_lt (show _ ≤ 5001 by simp only [List.length_nil] at hlen; omega) (by decide +kernel)
      generalize (List.take i xs).foldl (gStep z) ([], 0) = acc at g2 hb ⊢
      walk_at "st"
      refine eqS rfl ?_
      by_cases c : w = z
      · have c' : (V.str w = V.str z) := by rw [c]
        simp only [c', decide_true, if_true]
        walk_at "st"
        refine ⟨tyL g2, appL g2 (by simpa using hb) fun H3 e3 g3 => ?_⟩
        walk_at "st"
        trace_state
        refine ⟨e2.new2 e3 hl, ?_⟩
        rw [g3]
        unfold gStep
        rw [if_pos c]
        simp
      · have c' : ¬ (V.str w = V.str z) := fun k => c (by cases k; rfl)
        simp only [c', decide_false, if_false, Bool.false_eq_true]
        walk_at "st"
        rw [List.map_append, List.map_singleton] at g2
        refine itL g2 at_last ?_
        walk_at "st"
        refine setL g2 ix_last fun H3 e3 g3 => ?_
        walk_at "st"
        refine ⟨e2.new2 e3 hl, ?_⟩
        rw [g3, set_last]
        unfold gStep
        rw [if_neg c]
        simp
    · rintro τ H2 ⟨x, rfl, e2, g2⟩
      walk_at "st"
      rw [List.length_map, List.take_length] at g2
      exact h l H2 hl e2 g2
  · exact h.elim
end Kn

/-! D6: the plain law of spread. -/
namespace Kn
open PySem PySem.Spec PyProof.Rows L2
def kS : Str := "k"
def spS (n t : Int) (z : Str) : Nat → List Str
  | 0 => []
  | m + 1 => spS n t z m ++ (List.replicate (gapI n t m).toNat kS ++ if (m : Int) < t then [z] else [])
theorem spS_eq (n t : Int) (z : Str) : ∀ m : Nat, spL n t (.str z) m = (spS n t z m).map V.str
  | 0 => rfl
  | m + 1 => by
    show spL n t (.str z) m ++ spStep n t (.str z) m = _
    rw [spS_eq n t z m]
    show _ = (spS n t z m ++ _).map V.str
    rw [List.map_append, List.map_append, List.map_replicate]
    unfold spStep
    split <;> rfl
theorem spS_len {n t : Int} {z : Str} (hn : 0 ≤ n) (hn2 : n ≤ 600) (ht : 0 ≤ t) (ht2 : t ≤ 300) : (spS n t z (t + 1).toNat).length ≤ 1000 := by
  have h := spL_len (s := .str z) hn ht (t + 1).toNat
  rw [spS_eq, List.length_map] at h
  have h2 := mul_div_le (m := ((t + 1).toNat : Int)) hn ht (by omega)
  omega
theorem spS_in {n t : Int} {z : Str} : ∀ (m : Nat) (x : Str), x ∈ spS n t z m → x = kS ∨ x = z
  | 0, x, h => by cases h
  | m + 1, x, h => by
    rcases List.mem_append.mp h with h | h
    · exact spS_in m x h
    · rcases List.mem_append.mp h with h | h
      · exact .inl (List.eq_of_mem_replicate h)
      · split at h
        · exact .inr (List.mem_singleton.mp h)
        · cases h
theorem tk_k : tkS kS = 1 := by decide +kernel
theorem st_k : (stT kS).isSome = true := by decide +kernel
theorem sum_rep (k : Nat) : (List.replicate k (1 : Int)).sum = k := by
  induction k with
  | zero => rfl
  | succ k ih => rw [List.replicate_succ, List.sum_cons, ih]; omega
theorem sum_app : ∀ (xs ys : List Int), (xs ++ ys).sum = xs.sum + ys.sum
  | [], ys => by simp
  | x :: r, ys => by rw [List.cons_append, List.sum_cons, List.sum_cons, sum_app r ys]; omega
theorem gap_toNat {n t : Int} (hn : 0 ≤ n) (ht : 0 ≤ t) (m : Nat) : ((gapI n t m).toNat : Int) = n * ((m : Int) + 1) / (t + 1) - n * m / (t + 1) := by
  rw [Int.toNat_of_nonneg (gap_nn hn ht)]
  rfl
theorem tk_sum {n t : Int} {z : Str} (hn : 0 ≤ n) (ht : 0 ≤ t) : ∀ m : Nat, (m : Int) ≤ t + 1 → ((spS n t z m).map tkS).sum = n * m / (t + 1) + (if (m : Int) ≤ t then (m : Int) else t) * tkS z
  | 0, _ => by
    rw [if_pos (by simpa using ht)]
    simp [spS]
  | m + 1, hm => by
    have ih := tk_sum (z := z) hn ht m (by omega)
    have hc : ((m + 1 : Nat) : Int) = (m : Int) + 1 := by omega
    show ((spS n t z m ++ _).map tkS).sum = _
    rw [List.map_append, List.map_append, List.map_replicate, tk_k, sum_app, sum_app, sum_rep, ih, gap_toNat hn ht, hc, if_pos (by omega)]
    by_cases c : (m : Int) < t
    · rw [if_pos c, if_pos (by omega), Int.add_mul]
      simp
      omega
    · rw [if_neg c, if_neg (by omega)]
      have : (m : Int) = t := by omega
      rw [this]
      simp
      omega
theorem tk_all {n t : Int} {z : Str} (hn : 0 ≤ n) (ht : 0 ≤ t) : ((spS n t z (t + 1).toNat).map tkS).sum = n + t * tkS z := by
  rw [tk_sum hn ht _ (by omega), if_neg (by omega)]
  have : (((t + 1).toNat : Nat) : Int) = t + 1 := by omega
  rw [this, Int.mul_ediv_cancel _ (by omega)]
theorem fold_k {z : Str} (h : kS ≠ z) : ∀ (k : Nat) (acc : List Int × Int), (List.replicate k kS).foldl (gStep z) acc = (acc.1, acc.2 + k)
  | 0, acc => by simp
  | k + 1, acc => by
    rw [List.replicate_succ, List.foldl_cons, fold_k h k]
    unfold gStep
    rw [if_neg h]
    simp only
    congr 1
    omega
theorem gp_fold {n t : Int} {z : Str} (h : kS ≠ z) : ∀ m : Nat, (m : Int) ≤ t → (spS n t z m).foldl (gStep z) ([], 0) = ((List.range m).map fun i : Nat => (((gapI n t i).toNat : Nat) : Int), 0)
  | 0, _ => rfl
  | m + 1, hm => by
    have ih := gp_fold h m (n := n) (t := t) (by omega)
    show (spS n t z m ++ _).foldl (gStep z) ([], 0) = _
    rw [List.foldl_append, ih, List.foldl_append, fold_k h, if_pos (by omega), List.range_succ, List.map_append]
    simp only [List.foldl_cons, List.foldl_nil]
    unfold gStep
    rw [if_pos rfl]
    simp
theorem gaps_sp {n t : Int} {z : Str} (h : kS ≠ z) (ht : 0 ≤ t) : gaps z (spS n t z (t + 1).toNat) = (List.range (t + 1).toNat).map fun i : Nat => (((gapI n t i).toNat : Nat) : Int) := by
  have e : (t + 1).toNat = t.toNat + 1 := by omega
  rw [e]
  unfold gaps
  show (let r := (spS n t z t.toNat ++ _).foldl (gStep z) ([], 0); r.1 ++ [r.2]) = _
  rw [List.foldl_append, gp_fold h t.toNat (by omega), List.foldl_append, fold_k h, if_neg (by omega), List.range_succ, List.map_append]
  simp
theorem gap_near {n t i : Int} (hn : 0 ≤ n) (ht : 0 ≤ t) : n / (t + 1) ≤ gapI n t i ∧ gapI n t i ≤ n / (t + 1) + 1 := by
  unfold gapI
  rw [Int.mul_add, Int.mul_one]
  have hd : 0 < t + 1 := by omega
  generalize n * i = x
  generalize t + 1 = d at hd ⊢
  have e1 := Int.mul_ediv_add_emod n d
  have e2 := Int.mul_ediv_add_emod x d
  have r1 := Int.emod_nonneg n (Int.ne_of_gt hd)
  have r2 := Int.emod_nonneg x (Int.ne_of_gt hd)
  have s1 := Int.emod_lt_of_pos n hd
  have s2 := Int.emod_lt_of_pos x hd
  generalize n / d = q at e1 ⊢
  generalize x / d = y at e2 ⊢
  have a1 : (y + q) ≤ (x + n) / d := (Int.le_ediv_iff_mul_le hd).mpr (by rw [Int.add_mul, Int.mul_comm y d, Int.mul_comm q d]; omega)
  have a2 : (x + n) / d < y + q + 2 := (Int.ediv_lt_iff_lt_mul hd).mpr (by rw [Int.add_mul, Int.add_mul, Int.mul_comm y d, Int.mul_comm q d]; omega)
  omega
theorem gaps_near {n t : Int} {z : Str} (h : kS ≠ z) (hn : 0 ≤ n) (ht : 0 ≤ t) : ∀ x ∈ gaps z (spS n t z (t + 1).toNat), ∀ y ∈ gaps z (spS n t z (t + 1).toNat), x - y ≤ 1 := by
  rw [gaps_sp h ht]
  intro x hx y hy
  obtain ⟨i, _, rfl⟩ := List.mem_map.mp hx
  obtain ⟨j, _, rfl⟩ := List.mem_map.mp hy
  have g1 := gap_near (i := (i : Int)) hn ht
  have g2 := gap_near (i := (j : Int)) hn ht
  have g3 := gap_nn (i := (i : Int)) hn ht
  have g4 := gap_nn (i := (j : Int)) hn ht
  omega
theorem gaps_pos {z : Str} {xs : List Str} : 0 < (gaps z xs).length := by
  unfold gaps
  simp
/-- the words of the table -/
theorem st_ok {z : Str} (h : (stT z).isSome = true) : PyData.strOk z = true ∧ z.cps.size ≤ 5 := by
  obtain ⟨t, ht⟩ := Option.isSome_iff_exists.mp h
  have all : stTab.all (fun e => PyData.strOk e.1 && decide (e.1.cps.size ≤ 5)) = true := by decide +kernel
  have := List.all_eq_true.mp all _ (stT_in ht)
  simpa [Bool.and_eq_true, decide_eq_true_eq] using this
/-- a row as data -/
theorem row_fd {xs : List Str} (h : ∀ x ∈ xs, (stT x).isSome = true) (hl : xs.length ≤ 1000) : Fd 1 6000 (.list ((xs.map V.str).map dV)) := by
  refine (Fd.list (FdAll.all (k := 0) (n := 5) ?_)).mono Nat.le.refl ?_
  · intro d hd
    rw [List.map_map] at hd
    obtain ⟨x, hx, rfl⟩ := List.mem_map.mp hd
    have := st_ok (h x hx)
    exact Fd.str this.1 this.2
  · rw [List.length_map, List.length_map]
    omega
theorem row_plain {xs : List Str} : ∀ v ∈ xs.map V.str, plnV v = true := by
  intro v hv
  obtain ⟨x, _, rfl⟩ := List.mem_map.mp hv
  rfl
end Kn

/-! D7: the law's turn. -/
namespace Kn
open PySem PySem.Spec PyProof.Rows L2
local macro_rules | `(tactic| walk_at "rd") => `(tactic| simp only [ss_nil, s_asg, s_par2, s_aug, s_ret, s_retN, s_exp, s_iff, s_pass, s_brk, s_cnt, s_rs1, s_for1, s_for2, s_forp, s_whl, s_try, e_var, e_glb, e_bty, e_cst, e_bin, e_neg, e_cmp, e_cm2, e_and, e_or, e_not, e_ite, e_lst, e_tup, e_sub, e_slc, e_bif, e_bm0, e_bm, e_call, e_calk, e_lc1, e_lc2, e_lcp, tBreak, tCont, su_lst, su_ret, rdSEs, rdSE, tXf, wipe, tYes, LcS, Ends.gone, rdEs, rdT, rdTs, rdTgs, rdO, tSeq, tRet, tRetN, tDrop, tNext, tIfS, tAndV, tOrV, tNotV, tAnd, tOr, tNot, tTest, tOp, tUn, tCB, tCons, tNil, tVar, tC, nTup, nLst, tChain, tAsg, tPar, tAug, tBM, tBM0, tSl, tPart, tNoPart, tIf, gName, gSub, gIxG, gc1, gn0, t_nm, t_ix, t_tp, rBin, rCmp, rBf, rBm, rIsiG, rIntB, rAddG, rSubG, rMulG, rDivG, rModG, rPowG, rNegG, rLenG, rMaxG, rMinG, rIntG, rStrG, rIsG, rIsNotG, tTruG, TruV, btyV, btyB, bmTy, L2.start, List.getElem?_cons_zero, List.getElem?_cons_succ, Option.some.injEq, exists_eq_left', exists_eq_left, V.bl.injEq, V.int.injEq, V.str.injEq, V.ref.injEq, true_and, and_true, List.set_cons_zero, List.set_cons_succ, List.map_cons, List.map_nil, List.length_cons, List.length_nil, List.replicate_succ, List.replicate_zero, List.cons_append, List.nil_append, List.append_nil, Nat.sub_self, Nat.zero_add, Nat.add_sub_cancel, ite_true, ite_false, if_true, if_false, reduceIte, Bool.not_true, Bool.not_false, Bool.false_eq_true, reduceCtorEq, false_and, and_false, Nat.reduceAdd, Nat.reduceSub, tabIsi, okTy, tyS, decide_true, decide_false, Bool.or_true, Bool.true_or, Bool.false_or, Bool.or_false, Bool.and_true, Bool.true_and, Bool.and_false, Bool.false_and, String.reduceEq, exists_const, exists_false, Int.zero_add, List.cons.injEq, Int.reduceAdd, Int.reduceMul, Int.reduceNeg, Int.reduceSub, Int.reducePow, Int.reduceToNat])
local macro_rules | `(tactic| walk_at "gd") => `(tactic| simp only [GdSs, GdS, GdE, GdEs, GdT, GdTs, GdTg, GdTgs, GdSrc, GdHs, GdSu, GdSE, and_true, true_and, btyB, bfName])
local macro_rules | `(tactic| walk_at "st") => `(tactic| repeat (first | refine ss_cons ?_ | walk_at "rd"))

def kg_spread_stitch_times_count_0 (vs zs : List V) : List V := match vs, zs with
  | [], [s, t, c] => [c, t, s]
  | _, _ => []
theorem kg_at {s t c : V} : kg_spread_stitch_times_count_0 [] [s, t, c] = [c, t, s] := rfl
def wpS (n t : Int) (z : Str) : List V := (spS n t z (t + 1).toNat).map V.str
def tl_law (G : Gm) : Ss := (.cons (.iff (.or (.cmp .Gt (.bin .Sub (.bif .max (.cons (.var 12) .nil)) (.bif .min (.cons (.var 12) .nil))) (.cst (.int 1))) (.cmp .NotEq (.bif .sum (.cons (.slc (.call "_law_sums" (sp__law_sums G) [] (.cons (.sub (.var 11) (.cst (.int 1))) .nil)) .nil (.cons (.cst (.int 1)) .nil)) .nil)) (.var 8))) (.cons (.ret (.cst (.bl false))) .nil) .nil) (.cons (.exp (.bm .append (.sub (.var 11) (.cst (.int 1))) (.cons (.cst (.str "more")) .nil))) (.cons (.iff (.cmp .NotEq (.bif .repr (.cons (.calk "spread" (sp_spread G) kg_spread_stitch_times_count_0 .nil ["stitch", "times", "count"] (.cons (.var 4) (.cons (.var 9) (.cons (.var 8) .nil)))) .nil)) (.bif .repr (.cons (.sub (.var 10) (.cst (.int 1))) .nil))) (.cons (.ret (.cst (.bl false))) .nil) .nil) .nil)))
structure TF (H : Hp) (dq fq dr fr : Addr) (L : List V) : Prop where
  hdq : H dq = some (.lst [.str "told", .ref dr])
  hdr : H dr = some (.lst L)
  hfq : H fq = some (.lst [.str "told", .ref fr])
  hfr : H fr = some (.lst L)
  ne : dr ≠ fr
  ne2 : dq ≠ fr
theorem TF.ext {H H' : Hp} {dq fq dr fr : Addr} {L : List V} (h : TF H dq fq dr fr L) (e : Ext H H') : TF H' dq fq dr fr L := ⟨e.lst id h.hdq, e.lst id h.hdr, e.lst id h.hfq, e.lst id h.hfr, h.ne, h.ne2⟩
theorem q_tail (G : Gm) {W : WX} {D : Ends} {σ : L2.St} {H : Hp} {x0 x1 x2 x3 x5 x6 x7 : Option V} {cn tn a b : Int} {o z : Str} {dq fq dr fr gp : Addr} {ns : List Int} (hst : stT z = some (a, b, o)) (c1 : 0 ≤ cn) (c2 : cn ≤ 600) (t1 : 0 ≤ tn) (t2 : tn ≤ 300) (hneg : ¬ cn - tn * a < 0)
    (hσ : σ = [x0, x1, x2, x3, some (.str z), x5, x6, x7, some (.int cn), some (.int tn), some (.ref dq), some (.ref fq), some (.ref gp)]) (T : TF H dq fq dr fr (wpS (cn - tn * a) tn z)) (hg : H gp = some (.lst (ns.map V.int))) (hp : 0 < ns.length) (hn : ∀ x ∈ ns, ∀ y ∈ ns, x - y ≤ 1)
    (hD : ∀ H' H'', Ext H H' → ExtB fr H' H'' → ∀ H3, Ext H'' H3 → D.nx σ H3) : rdSs G (tl_law G) W D σ H := by
  subst hσ
  obtain ⟨a1, a2, _, _⟩ := stT_tk hst
  have hta : 0 ≤ tn * a := Int.mul_nonneg t1 a1
  have hn0 : 0 ≤ cn - tn * a := by omega
  have hn6 : cn - tn * a ≤ 600 := by omega
  have hin : ∀ x ∈ spS (cn - tn * a) tn z (tn + 1).toNat, (stT x).isSome = true := by
    intro x hx
    rcases spS_in _ _ hx with rfl | rfl
    · exact st_k
    · rw [hst]; rfl
  have hlen := spS_len (z := z) hn0 hn6 t1 t2
  have htk : tkS z = a := by unfold tkS; rw [hst]
  have hsum := tk_all (z := z) hn0 t1
  rw [htk] at hsum
  unfold tl_law
  walk_at "st"
  refine ⟨gp, ns, rfl, .inl (.inl hg), hp, fun m hm hm2 => ?_⟩
  walk_at "st"
  refine ⟨gp, ns, rfl, .inl (.inl hg), hp, fun k hk hk2 => ?_⟩
  walk_at "st"
  have hmk : ¬ (1 : Int) < m - k := by have := hn m hm k hk; omega
  simp only [hmk, decide_false, Bool.false_eq_true, if_false]
  walk_at "st"
  refine itL T.hfq (v := .ref fr) rfl ?_
  walk_at "st"
  refine ⟨spS (cn - tn * a) tn z (tn + 1).toNat, by omega, .inl (.inl T.hfr), hin, fun q H1 hq e1 g1 => ?_⟩
  walk_at "st"
  refine slL (.inl (.inl g1)) fun l H2 hl e2 g2 => ?_
  walk_at "st"
  refine ⟨l, [((spS (cn - tn * a) tn z (tn + 1).toNat).map tkS).sum], rfl, .inl (.inl g2), ?_⟩
  walk_at "st"
  refine neS rfl ?_
  have hs : (V.int ([((spS (cn - tn * a) tn z (tn + 1).toNat).map tkS).sum].sum)) = V.int cn := by
    rw [hsum]
    simp
  rw [hs]
  simp only [decide_true, Bool.not_true, Bool.false_eq_true, if_false]
  walk_at "st"
  have T2 := T.ext (e1.trans e2)
  refine itL T2.hfq (v := .ref fr) rfl ?_
  walk_at "st"
  refine ⟨tyL T2.hfr, appL T2.hfr ?_ fun H3 e3 g3 => ?_⟩
  · unfold wpS
    rw [List.length_map]
    exact Nat.lt_of_le_of_lt hlen (by decide +kernel)
  walk_at "st"
  rw [kg_at]
  have hc : countV (.int cn) = true := by simp [countV, wholeV, c1, c2]
  have ht : wholeV (.int tn) 0 300 = true := by simp [wholeV, t1, t2]
  refine ⟨trivial, trivial, trivial, fun x => (by rw [hc] at x; cases x), fun _ x => (by rw [ht] at x; cases x), fun _ _ x => (by rw [show stV (.str z) = stT z from rfl, hst] at x; cases x), ?_⟩
  rintro cn' tn' tk mk o' ⟨⟩ ⟨⟩ hst' _ _
  obtain ⟨rfl, rfl, rfl⟩ : a = tk ∧ b = mk ∧ o = o' := by
    have := hst.symm.trans hst'
    cases this
    exact ⟨rfl, rfl, rfl⟩
  refine ⟨fun h => absurd h hneg, fun _ r H4 hr e4 g4 => ?_⟩
  have gd : H4 dr = some (.lst ((spS (cn - tn * a) tn z (tn + 1).toNat).map V.str)) := e4.lst id (e3.lst T.ne T2.hdr)
  rw [spS_eq] at g4
  walk_at "st"
  refine reprV (dp_lst g4 row_plain) (row_fd hin hlen) (by decide) (by decide) ?_
  refine itL (e4.lst id (e3.lst T.ne2 T2.hdq)) (v := .ref dr) rfl ?_
  walk_at "st"
  refine reprV (dp_lst gd row_plain) (row_fd hin hlen) (by decide) (by decide) ?_
  walk_at "st"
  refine neS rfl ?_
  walk_at "st"
  exact hD H2 H3 (e1.trans e2) e3 H4 e4

/-! ### the turn -/
def tDat (n t : Int) (z : Str) : PyData := if n < 0 then .list [.str "lacks", .int (0 - n)] else .list [.str "told", .list ((wpS n t z).map dV)]
theorem told_dp {K : PySem.W.Frag} {H H' : Hp} {q : Addr} {n t : Int} {z : Str} (h : Told H H' q n t z) : Dp K H' (.ref q) (tDat n t z) := by
  unfold tDat
  by_cases c : n < 0
  · rw [if_pos c]
    exact .lst (.inl (.inl (h.1 c))) (.cons (.str _) (.cons (.int _) .nil))
  · rw [if_neg c]
    obtain ⟨r, _, _, g1, g2⟩ := h.2 c
    rw [spS_eq] at g2
    exact .lst (.inl (.inl g1)) (.cons (.str _) (.cons (dp_lst g2 row_plain) .nil))
theorem told_fd {n t : Int} {z : Str} (hz : (stT z).isSome = true) (n1 : n ≤ 600) (n2 : -100000 ≤ n) (t1 : 0 ≤ t) (t2 : t ≤ 300) : Fd 2 7000 (tDat n t z) := by
  unfold tDat
  by_cases c : n < 0
  · rw [if_pos c]
    exact (Fd.list (FdAll.cons (Fd.str (m := 5) (by decide +kernel) (by decide +kernel)) (FdAll.cons (Fd.int (by omega)) FdAll.nil))).mono (by decide) (by decide)
  · rw [if_neg c]
    have hin : ∀ x ∈ spS n t z (t + 1).toNat, (stT x).isSome = true := by
      intro x hx
      rcases spS_in _ _ hx with rfl | rfl
      · exact st_k
      · exact hz
    exact (Fd.list (FdAll.cons ((Fd.str (m := 4) (by decide +kernel) (by decide +kernel)).mono (by decide) Nat.le.refl) (FdAll.cons (row_fd hin (spS_len (by omega) n1 t1 t2)) FdAll.nil))).mono (by decide) (by decide)
theorem Told.ext {H H1 H2 : Hp} {q : Addr} {n t : Int} {z : Str} (h : Told H H1 q n t z) (e : Ext H1 H2) : Told H H2 q n t z := by
  refine ⟨fun c => e.lst id (h.1 c), fun c => ?_⟩
  obtain ⟨r, a, b, g1, g2⟩ := h.2 c
  exact ⟨r, a, b, e.lst id g1, e.lst id g2⟩
theorem st_of {z : Str} {t : Int × Int × Str} (h : (z, t) ∈ stTab) : stT z = some t := by
  have all : stTab.all (fun e => decide (stT e.1 = some e.2)) = true := by decide +kernel
  exact of_decide_eq_true (List.all_eq_true.mp all _ h)
def turn_law (G : Gm) : Ss := (.cons (.asg (.tp (.cons (.nm 4) (.cons (.nm 5) (.cons (.nm 6) (.cons (.nm 7) .nil))))) (.sub (.call "_law_table" (sp__law_table G) [] .nil) (.call "_law_take" (sp__law_take G) [] (.cons (.var 2) (.cons (.cst (.int 15)) .nil))))) (.cons (.asg (.nm 8) (.sub (.lst (.cons (.cst (.int 0)) (.cons (.cst (.int 600)) (.cons (.call "_law_take" (sp__law_take G) [] (.cons (.var 2) (.cons (.cst (.int 601)) .nil))) (.cons (.call "_law_take" (sp__law_take G) [] (.cons (.var 2) (.cons (.cst (.int 30)) .nil))) .nil))))) (.call "_law_take" (sp__law_take G) [] (.cons (.var 2) (.cons (.cst (.int 4)) .nil))))) (.cons (.asg (.nm 9) (.sub (.lst (.cons (.bin .FloorDiv (.var 8) (.bif .max (.cons (.cst (.int 1)) (.cons (.var 5) .nil)))) (.cons (.bin .Add (.bin .FloorDiv (.var 8) (.bif .max (.cons (.cst (.int 1)) (.cons (.var 5) .nil)))) (.cst (.int 1))) (.cons (.cst (.int 0)) (.cons (.call "_law_take" (sp__law_take G) [] (.cons (.var 2) (.cons (.cst (.int 301)) .nil))) (.cons (.call "_law_take" (sp__law_take G) [] (.cons (.var 2) (.cons (.cst (.int 7)) .nil))) .nil)))))) (.call "_law_take" (sp__law_take G) [] (.cons (.var 2) (.cons (.cst (.int 5)) .nil))))) (.cons (.asg (.nm 9) (.bif .min (.cons (.cst (.int 300)) (.cons (.var 9) .nil)))) (.cons (.asg (.nm 10) (.call "_law_due" (sp__law_due G) [] (.cons (.var 8) (.cons (.var 9) (.cons (.var 4) .nil))))) (.cons (.asg (.nm 11) (.call "_law_asked" (sp__law_asked G) [] (.cons (.var 8) (.cons (.var 9) (.cons (.var 4) .nil))))) (.cons (.iff (.or (.cmp .NotEq (.var 11) (.var 10)) (.cmp .NotEq (.bif .repr (.cons (.var 11) .nil)) (.bif .repr (.cons (.var 10) .nil)))) (.cons (.ret (.cst (.bl false))) .nil) .nil) (.cons (.iff (.cmp .Eq (.sub (.var 10) (.cst (.int 0))) (.cst (.str "told"))) (.cons (.asg (.nm 12) (.ite (.cmp .NotEq (.var 4) (.cst (.str "k"))) (.call "_law_gaps" (sp__law_gaps G) [] (.cons (.sub (.var 11) (.cst (.int 1))) (.cons (.var 4) .nil))) (.lst (.cons (.cst (.int 0)) .nil)))) (.cons (.iff (.or (.cmp .Gt (.bin .Sub (.bif .max (.cons (.var 12) .nil)) (.bif .min (.cons (.var 12) .nil))) (.cst (.int 1))) (.cmp .NotEq (.bif .sum (.cons (.slc (.call "_law_sums" (sp__law_sums G) [] (.cons (.sub (.var 11) (.cst (.int 1))) .nil)) .nil (.cons (.cst (.int 1)) .nil)) .nil)) (.var 8))) (.cons (.ret (.cst (.bl false))) .nil) .nil) (.cons (.exp (.bm .append (.sub (.var 11) (.cst (.int 1))) (.cons (.cst (.str "more")) .nil))) (.cons (.iff (.cmp .NotEq (.bif .repr (.cons (.calk "spread" (sp_spread G) kg_spread_stitch_times_count_0 .nil ["stitch", "times", "count"] (.cons (.var 4) (.cons (.var 9) (.cons (.var 8) .nil)))) .nil)) (.bif .repr (.cons (.sub (.var 10) (.cst (.int 1))) .nil))) (.cons (.ret (.cst (.bl false))) .nil) .nil) .nil)))) .nil) .nil))))))))
theorem q_turn (G : Gm) {W : WX} {D : Ends} {σ : L2.St} {H : Hp} {x0 x1 x3 x4 x5 x6 x7 x8 x9 x10 x11 x12 : Option V} {bx : Addr} {t : Int}
    (hσ : σ = [x0, x1, some (.ref bx), x3, x4, x5, x6, x7, x8, x9, x10, x11, x12]) (hB : Bx H bx t) (ht : t < 900000)
    (hD : ∀ H' t' y4 y5 y6 y7 y8 y9 y10 y11 y12, ExtB bx H H' → Bx H' bx t' → t' ≤ t + 8 → D.nx [x0, x1, some (.ref bx), x3, y4, y5, y6, y7, y8, y9, y10, y11, y12] H') : rdSs G (turn_law G) W D σ H := by
  subst hσ
  have hbx : ∃ xs, H bx = some (.lst xs) := by obtain ⟨a, b, c, g, _⟩ := hB; exact ⟨_, g⟩
  obtain ⟨bxs, hbx⟩ := hbx
  unfold turn_law
  walk_at "st"
  refine fun tp H1 htp e1 hT => ?_
  walk_at "st"
  refine ⟨by decide, by decide, t, hB.ext e1 id, by omega, fun d t2 H2 d0 d15 ht2 hB2 e2 => ?_⟩
  walk_at "st"
  obtain ⟨ps, gl, hl, hat⟩ := hT.at
  have hl15 : ps.length = 15 := hl
  obtain ⟨v0, hv0⟩ : ∃ x, (ps.map V.ref)[d.toNat]? = some x := ⟨_, List.getElem?_eq_getElem (by rw [List.length_map]; omega)⟩
  obtain ⟨q, ⟨z, a, b, o⟩, rfl, he, hq⟩ := hat _ _ hv0
  have hst : stT z = some (a, b, o) := st_of (List.mem_of_getElem? he)
  have ntp : tp ≠ bx := fun w => by rw [w, hbx] at htp; cases htp
  have nq : q ≠ bx := fun w => by rw [w, e1.lst id hbx] at hq; cases hq
  refine itL (e2.lst ntp gl) (atI_nat d0 hv0) ?_
  walk_at "st"
  refine ⟨rowV (z, a, b, o), .inl (.inl (e2.tup nq hq)), rfl, ?_⟩
  unfold rowV
  walk_at "st"
  have X2 : ExtB bx H H2 := e1.any.trans e2
  refine ⟨by decide, by decide, t2, hB2, by omega, fun d1 t3 H3 d10 d11 ht3 hB3 e3 => ?_⟩
  walk_at "st"
  refine ⟨by decide, by decide, t3, hB3, by omega, fun d2 t4 H4 d20 d21 ht4 hB4 e4 => ?_⟩
  walk_at "st"
  have X4 := (X2.trans e3).trans e4
  refine ⟨len_small (by decide), New.i fun l5 H5 hl5 e5 g5 => ?_⟩
  walk_at "st"
  refine ⟨by decide, by decide, t4, hB4.ext e5 id, by omega, fun d3 t6 H6 d30 d31 ht6 hB6 e6 => ?_⟩
  walk_at "st"
  have n5 : l5 ≠ bx := fun w => by rw [w] at hl5; have := X4.dm _ hl5; rw [hbx] at this; cases this
  obtain ⟨cn, hcn, c1, c2⟩ : ∃ c, atI [V.int 0, V.int 600, V.int d1, V.int d2] d3 = some (.int c) ∧ 0 ≤ c ∧ c ≤ 600 := by
    rcases (by omega : d3 = 0 ∨ d3 = 1 ∨ d3 = 2 ∨ d3 = 3) with rfl | rfl | rfl | rfl
    · exact ⟨_, rfl, by omega, by omega⟩
    · exact ⟨_, rfl, by omega, by omega⟩
    · exact ⟨_, rfl, by omega, by omega⟩
    · exact ⟨_, rfl, by omega, by omega⟩
  refine itL (e6.lst n5 g5) hcn ?_
  walk_at "st"
  obtain ⟨a1, a2, _, _⟩ := stT_tk hst
  have hmx : 1 ≤ (if a > 1 then a else 1) ∧ (if a > 1 then a else 1) ≤ 3 := by split <;> omega
  generalize (if a > 1 then a else 1) = mx at hmx ⊢
  refine ⟨⟨by omega, by omega⟩, ⟨by omega, by omega⟩, by decide, by decide, t6, hB6, by omega, fun d7 t7 H7 d70 d71 ht7 hB7 e7 => ?_⟩
  walk_at "st"
  refine ⟨by decide, by decide, t7, hB7, by omega, fun d8 t8 H8 d80 d81 ht8 hB8 e8 => ?_⟩
  walk_at "st"
  have X8 := (((X4.trans e5.any).trans e6).trans e7).trans e8
  refine ⟨len_small (by decide), New.i fun l9 H9 hl9 e9 g9 => ?_⟩
  walk_at "st"
  refine ⟨by decide, by decide, t8, hB8.ext e9 id, by omega, fun d10 t10 H10 d100 d101 ht10 hB10 e10 => ?_⟩
  walk_at "st"
  have n9 : l9 ≠ bx := fun w => by rw [w] at hl9; have := X8.dm _ hl9; rw [hbx] at this; cases this
  have q0 : 0 ≤ cn / mx := Int.ediv_nonneg c1 (by omega)
  obtain ⟨tn0, htn0, t01⟩ : ∃ c, atI [V.int (cn / mx), V.int (cn / mx + 1), V.int 0, V.int d7, V.int d8] d10 = some (.int c) ∧ 0 ≤ c := by
    rcases (by omega : d10 = 0 ∨ d10 = 1 ∨ d10 = 2 ∨ d10 = 3 ∨ d10 = 4) with rfl | rfl | rfl | rfl | rfl
    · exact ⟨_, rfl, by omega⟩
    · exact ⟨_, rfl, by omega⟩
    · exact ⟨_, rfl, by omega⟩
    · exact ⟨_, rfl, by omega⟩
    · exact ⟨_, rfl, by omega⟩
  refine itL (e10.lst n9 g9) htn0 ?_
  walk_at "st"
  have htn : 0 ≤ (if tn0 < 300 then tn0 else 300) ∧ (if tn0 < 300 then tn0 else 300) ≤ 300 := by split <;> omega
  generalize (if tn0 < 300 then tn0 else 300) = tn at htn ⊢
  obtain ⟨t1, t2⟩ := htn
  have X10 := (X8.trans e9.any).trans e10
  refine ⟨a, b, o, hst, c1, c2, t1, t2, fun dq H11 hdq e11 hTd => ?_⟩
  walk_at "st"
  refine ⟨a, b, o, hst, c1, c2, t1, t2, fun fq H12 hfq e12 hTf => ?_⟩
  walk_at "st"
  have hta : 0 ≤ tn * a := Int.mul_nonneg t1 a1
  have hta2 : tn * a ≤ 300 * 3 := Int.mul_le_mul t2 a2 a1 (by decide)
  have hzs : (stT z).isSome = true := by rw [hst]; rfl
  have fd := told_fd hzs (show cn - tn * a ≤ 600 by omega) (by omega) t1 t2
  refine neDat (told_dp hTf) (told_dp (hTd.ext e12)) fd fd (by decide) (by decide) ?_
  simp only [SeqAt.eqv_refl _ fd.cl]
  walk_at "st"
  refine reprV (told_dp hTf) fd (by decide) (by decide) ?_
  walk_at "st"
  refine reprV (told_dp (hTd.ext e12)) fd (by decide) (by decide) ?_
  walk_at "st"
  refine neS rfl ?_
  walk_at "st"
  have X12 : ExtB bx H H12 := (X10.trans e11.any).trans e12.any
  have hB12 : Bx H12 bx t10 := (hB10.ext e11 id).ext e12 id
  by_cases hneg : cn - tn * a < 0
  · refine itL (e12.lst id (hTd.1 hneg)) (v := .str "lacks") rfl ?_
    walk_at "st"
    refine eqS rfl ?_
    walk_at "st"
    rw [if_neg (by decide +kernel)]
    exact hD _ _ _ _ _ _ _ _ _ _ _ X12 hB12 (by omega)
  · obtain ⟨dr, hdr, hdr2, gdq, gdr⟩ := hTd.2 hneg
    obtain ⟨fr, hfr, hfr2, gfq, gfr⟩ := hTf.2 hneg
    refine itL (e12.lst id gdq) (v := .str "told") rfl ?_
    walk_at "st"
    refine eqS rfl ?_
    walk_at "st"
    have T : TF H12 dq fq dr fr (wpS (cn - tn * a) tn z) := by
      rw [spS_eq] at gdr gfr
      exact ⟨e12.lst id gdq, e12.lst id gdr, gfq, gfr, fun w => (by rw [w, hfr] at gdr; cases gdr), fun w => (by rw [w, hfr] at gdq; cases gdq)⟩
    have fin : ∀ H' H'', Ext H12 H' → ExtB fr H' H'' → ∀ H3, Ext H'' H3 → ExtB bx H H3 ∧ Bx H3 bx t10 := by
      intro H' H'' i1 i2 H3 i3
      have nfr : bx ≠ fr := fun w => by
        have := (X10.trans e11.any).dm _ hfr
        rw [← w, hbx] at this
        cases this
      exact ⟨((X12.trans i1.any).new2 i2 ((X10.trans e11.any).dm _ hfr)).trans i3.any, ((hB12.ext i1 id).ext i2 nfr).ext i3 id⟩
    refine neS rfl ?_
    by_cases hk : kS = z
    · have hk' : (decide (V.str z = V.str "k")) = true := decide_eq_true (by rw [← hk]; rfl)
      simp only [hk', Bool.not_true, Bool.false_eq_true, if_false]
      walk_at "st"
      refine ⟨len_small (by decide), New.i fun gp H13 hgp e13 g13 => ?_⟩
      refine q_tail G (ns := [0]) hst c1 c2 t1 t2 hneg rfl (T.ext e13) g13 (by decide) (by simp) fun H' H'' i1 i2 H3 i3 => ?_
      obtain ⟨j1, j2⟩ := fin H' H'' (e13.trans i1) i2 H3 i3
      exact hD _ _ _ _ _ _ _ _ _ _ _ j1 j2 (by omega)
    · have hk' : ¬ V.str z = V.str "k" := fun w => hk (by cases w; rfl)
      simp only [hk', decide_false, Bool.not_false, if_true]
      walk_at "st"
      refine itL T.hfq (v := .ref fr) rfl ?_
      walk_at "st"
      have hl1 := spS_len (z := z) (show 0 ≤ cn - tn * a by omega) (by omega) t1 t2
      refine ⟨spS (cn - tn * a) tn z (tn + 1).toNat, by omega, .inl (.inl T.hfr), fun gp H13 hgp e13 g13 => ?_⟩
      refine q_tail G hst c1 c2 t1 t2 hneg rfl (T.ext e13) g13 gaps_pos (gaps_near hk (by omega) t1) fun H' H'' i1 i2 H3 i3 => ?_
      obtain ⟨j1, j2⟩ := fin H' H'' (e13.trans i1) i2 H3 i3
      exact hD _ _ _ _ _ _ _ _ _ _ _ j1 j2 (by omega)
def sp_law (G : Gm) : Sp := fun vs H Q _ => match vs with
  | [.ref p] => ∃ ns : List Int, ns.length ≤ 1000 ∧ SqL G.K H p (ns.map V.int) ∧ ∀ H', Q (.bl true) H'
  | _ => False
def n_law : List Str := ["script", "k", "box", "turn", "name", "taken", "made", "side", "count", "times", "due", "found", "gaps"]
def b_law (G : Gm) : Ss := (.cons (.for_ (.nm 1) (.rng1 (.bif .max (.cons (.cst (.int 2)) (.cons (.bif .min (.cons (.cst (.int 8)) (.cons (.bif .len (.cons (.var 0) .nil)) .nil))) .nil)))) (.cons (.asg (.nm 2) (.call "_law_box" (sp__law_box G) [] (.cons (.call "_law_cell" (sp__law_cell G) [] (.cons (.var 0) (.cons (.var 1) .nil))) .nil))) (.cons (.for_ (.nm 3) (.rng1 (.cst (.int 4))) (.cons (.asg (.tp (.cons (.nm 4) (.cons (.nm 5) (.cons (.nm 6) (.cons (.nm 7) .nil))))) (.sub (.call "_law_table" (sp__law_table G) [] .nil) (.call "_law_take" (sp__law_take G) [] (.cons (.var 2) (.cons (.cst (.int 15)) .nil))))) (.cons (.asg (.nm 8) (.sub (.lst (.cons (.cst (.int 0)) (.cons (.cst (.int 600)) (.cons (.call "_law_take" (sp__law_take G) [] (.cons (.var 2) (.cons (.cst (.int 601)) .nil))) (.cons (.call "_law_take" (sp__law_take G) [] (.cons (.var 2) (.cons (.cst (.int 30)) .nil))) .nil))))) (.call "_law_take" (sp__law_take G) [] (.cons (.var 2) (.cons (.cst (.int 4)) .nil))))) (.cons (.asg (.nm 9) (.sub (.lst (.cons (.bin .FloorDiv (.var 8) (.bif .max (.cons (.cst (.int 1)) (.cons (.var 5) .nil)))) (.cons (.bin .Add (.bin .FloorDiv (.var 8) (.bif .max (.cons (.cst (.int 1)) (.cons (.var 5) .nil)))) (.cst (.int 1))) (.cons (.cst (.int 0)) (.cons (.call "_law_take" (sp__law_take G) [] (.cons (.var 2) (.cons (.cst (.int 301)) .nil))) (.cons (.call "_law_take" (sp__law_take G) [] (.cons (.var 2) (.cons (.cst (.int 7)) .nil))) .nil)))))) (.call "_law_take" (sp__law_take G) [] (.cons (.var 2) (.cons (.cst (.int 5)) .nil))))) (.cons (.asg (.nm 9) (.bif .min (.cons (.cst (.int 300)) (.cons (.var 9) .nil)))) (.cons (.asg (.nm 10) (.call "_law_due" (sp__law_due G) [] (.cons (.var 8) (.cons (.var 9) (.cons (.var 4) .nil))))) (.cons (.asg (.nm 11) (.call "_law_asked" (sp__law_asked G) [] (.cons (.var 8) (.cons (.var 9) (.cons (.var 4) .nil))))) (.cons (.iff (.or (.cmp .NotEq (.var 11) (.var 10)) (.cmp .NotEq (.bif .repr (.cons (.var 11) .nil)) (.bif .repr (.cons (.var 10) .nil)))) (.cons (.ret (.cst (.bl false))) .nil) .nil) (.cons (.iff (.cmp .Eq (.sub (.var 10) (.cst (.int 0))) (.cst (.str "told"))) (.cons (.asg (.nm 12) (.ite (.cmp .NotEq (.var 4) (.cst (.str "k"))) (.call "_law_gaps" (sp__law_gaps G) [] (.cons (.sub (.var 11) (.cst (.int 1))) (.cons (.var 4) .nil))) (.lst (.cons (.cst (.int 0)) .nil)))) (.cons (.iff (.or (.cmp .Gt (.bin .Sub (.bif .max (.cons (.var 12) .nil)) (.bif .min (.cons (.var 12) .nil))) (.cst (.int 1))) (.cmp .NotEq (.bif .sum (.cons (.slc (.call "_law_sums" (sp__law_sums G) [] (.cons (.sub (.var 11) (.cst (.int 1))) .nil)) .nil (.cons (.cst (.int 1)) .nil)) .nil)) (.var 8))) (.cons (.ret (.cst (.bl false))) .nil) .nil) (.cons (.exp (.bm .append (.sub (.var 11) (.cst (.int 1))) (.cons (.cst (.str "more")) .nil))) (.cons (.iff (.cmp .NotEq (.bif .repr (.cons (.calk "spread" (sp_spread G) kg_spread_stitch_times_count_0 .nil ["stitch", "times", "count"] (.cons (.var 4) (.cons (.var 9) (.cons (.var 8) .nil)))) .nil)) (.bif .repr (.cons (.sub (.var 10) (.cst (.int 1))) .nil))) (.cons (.ret (.cst (.bl false))) .nil) .nil) .nil)))) .nil) .nil))))))))) .nil))) (.cons (.ret (.cst (.bl true))) .nil))
theorem q_law (G : Gm) : Asks G (b_law G) n_law (sp_law G) := by
  intro vs H Q E h
  unfold sp_law at h
  split at h
  · rename_i p
    obtain ⟨ns, hns, hs, h⟩ := h
    unfold b_law n_law
    walk_at "st"
    refine .inl ⟨ns.map V.int, hs, ?_⟩
    walk_at "st"
    refine ⟨by split <;> split <;> omega, by split <;> split <;> omega, fjR (fun i τ H2 => ∃ x1 x2 x3 x4 x5 x6 x7 x8 x9 x10 x11 x12, τ = [some (.ref p), x1, x2, x3, x4, x5, x6, x7, x8, x9, x10, x11, x12] ∧ Ext H H2) ⟨none, none, none, none, none, none, none, none, none, none, none, none, rfl, Xt.refl⟩ ?_ ?_⟩
    · rintro k τ H2 hk ⟨x1, x2, x3, x4, x5, x6, x7, x8, x9, x10, x11, x12, rfl, e2⟩
      have hk8 : k < 8 := by revert hk; split <;> split <;> omega
      walk_at "st"
      refine ⟨by omega, by omega, ns, hns, e2.sql id hs, fun c => ?_⟩
      walk_at "st"
      refine fun bx H3 hbx e3 hB => ?_
      walk_at "st"
      refine ⟨by decide, by decide, fjR (fun i τ H4 => ∃ x3 x4 x5 x6 x7 x8 x9 x10 x11 x12 t, τ = [some (.ref p), some (.int k), some (.ref bx), x3, x4, x5, x6, x7, x8, x9, x10, x11, x12] ∧ Ext H H4 ∧ Bx H4 bx t ∧ t ≤ 8 * i) ⟨x3, x4, x5, x6, x7, x8, x9, x10, x11, x12, 0, rfl, e2.trans e3, hB, by omega⟩ ?_ ?_⟩
      · rintro i τ H4 hi ⟨x3, x4, x5, x6, x7, x8, x9, x10, x11, x12, t, rfl, e4, hB4, ht⟩
        have hi4 : i < 4 := hi
        rw [show ((0 : Int) + (i : Int)) = (i : Int) by omega]
        refine q_turn G rfl hB4 (by omega) fun H5 t' y4 y5 y6 y7 y8 y9 y10 y11 y12 e5 hB5 ht' => ⟨_, _, _, _, _, _, _, _, _, _, t', rfl, ?_, hB5, by omega⟩
        exact ⟨fun q o m hq ht => e5.ob q o (fun w => by rw [w, e2.dm _ hbx] at hq; cases hq) (e4.ob q o m hq ht) ht, fun q hq => e4.dm q (e5.dm q hq)⟩
      · rintro τ H4 ⟨x3, x4, x5, x6, x7, x8, x9, x10, x11, x12, t, rfl, e4, hB4, ht⟩
        walk_at "st"
        exact ⟨_, _, _, _, _, _, _, _, _, _, _, _, ⟨rfl, rfl, rfl, rfl, rfl, rfl, rfl, rfl, rfl, rfl, rfl, rfl⟩, e4⟩
    · rintro τ H2 ⟨x1, x2, x3, x4, x5, x6, x7, x8, x9, x10, x11, x12, rfl, e2⟩
      walk_at "st"
      exact h H2
  · exact h.elim
end Kn

namespace Kn
open PySem PySem.Spec PyProof.Rows L2
local macro_rules | `(tactic| walk_at "rd") => `(tactic| simp only [ss_nil, s_asg, s_par2, s_aug, s_ret, s_retN, s_exp, s_iff, s_pass, s_brk, s_cnt, s_rs1, s_for1, s_for2, s_forp, s_whl, s_try, e_var, e_glb, e_bty, e_cst, e_bin, e_neg, e_cmp, e_cm2, e_and, e_or, e_not, e_ite, e_lst, e_tup, e_sub, e_slc, e_bif, e_bm0, e_bm, e_call, e_calk, e_lc1, e_lc2, e_lcp, tBreak, tCont, su_lst, su_ret, rdSEs, rdSE, tXf, wipe, tYes, LcS, Ends.gone, rdEs, rdT, rdTs, rdTgs, rdO, tSeq, tRet, tRetN, tDrop, tNext, tIfS, tAndV, tOrV, tNotV, tAnd, tOr, tNot, tTest, tOp, tUn, tCB, tCons, tNil, tVar, tC, nTup, nLst, tChain, tAsg, tPar, tAug, tBM, tBM0, tSl, tPart, tNoPart, tIf, gName, gSub, gIxG, gc1, gn0, t_nm, t_ix, t_tp, rBin, rCmp, rBf, rBm, rIsiG, rIntB, rAddG, rSubG, rMulG, rDivG, rModG, rPowG, rNegG, rLenG, rMaxG, rMinG, rIntG, rStrG, rIsG, rIsNotG, tTruG, TruV, btyV, btyB, bmTy, L2.start, List.getElem?_cons_zero, List.getElem?_cons_succ, Option.some.injEq, exists_eq_left', exists_eq_left, V.bl.injEq, V.int.injEq, V.str.injEq, V.ref.injEq, true_and, and_true, List.set_cons_zero, List.set_cons_succ, List.map_cons, List.map_nil, List.length_cons, List.length_nil, List.replicate_succ, List.replicate_zero, List.cons_append, List.nil_append, List.append_nil, Nat.sub_self, Nat.zero_add, Nat.add_sub_cancel, ite_true, ite_false, if_true, if_false, reduceIte, Bool.not_true, Bool.not_false, Bool.false_eq_true, reduceCtorEq, false_and, and_false, Nat.reduceAdd, Nat.reduceSub, tabIsi, okTy, tyS, decide_true, decide_false, Bool.or_true, Bool.true_or, Bool.false_or, Bool.or_false, Bool.and_true, Bool.true_and, Bool.and_false, Bool.false_and, String.reduceEq, exists_const, exists_false, Int.zero_add, List.cons.injEq, Int.reduceAdd, Int.reduceMul, Int.reduceNeg, Int.reduceSub, Int.reducePow, Int.reduceToNat])
local macro_rules | `(tactic| walk_at "gd") => `(tactic| simp only [GdSs, GdS, GdE, GdEs, GdT, GdTs, GdTg, GdTgs, GdSrc, GdHs, GdSu, GdSE, and_true, true_and, btyB, bfName])
local macro_rules | `(tactic| walk_at "st") => `(tactic| repeat (first | refine ss_cons ?_ | walk_at "rd"))

theorem not_in_tab {z : Str} : ∀ {es : List (Str × Int × Int × Str)}, es.lookup z = none → z ∉ es.map (·.1)
  | [], _, h => by cases h
  | (k, t) :: r, h, hm => by
    rw [List.lookup_cons] at h
    by_cases c : z = k
    · subst c
      rw [beq_self_eq_true] at h
      cases h
    · rw [beq_false_of_ne c] at h
      rw [List.map_cons, List.mem_cons] at hm
      rcases hm with e | hm
      · exact c e
      · exact not_in_tab h hm
theorem stk_of {G : Gm} (g : G.mg "STITCHES" = some (.ref (He.ga G.K "STITCHES"))) (hd : He.dicW G.K (He.ga G.K "STITCHES") = some (He.keysIn G.w.params (stTab.map (·.1)))) (hx : (stTab.all fun e => tupAtB G.K (He.ga G.K "STITCHES") e.1 [.int e.2.1, .int e.2.2.1, .str e.2.2.2]) = true) : StK G :=
  ⟨_, g, He.dicW_ok hd, fun z => ⟨fun h => ns_off hd (not_in_tab h), fun a b o h => tupAtB_ok (List.all_eq_true.mp hx _ (stT_in h))⟩⟩
def kv_spread (us ws : List Value) : List Value := match us, ws with
  | [], [s, t, c] => [c, t, s]
  | _, _ => []
theorem kv_rel {vs : List V} {us : List Value} {zs : List V} {ws : List Value} (a : Vals vs us) (b : Vals zs ws) : Vals (kg_spread_stitch_times_count_0 vs zs) (kv_spread us ws) := by
  cases a with
  | nil =>
    cases b with
    | nil => exact .nil
    | cons r1 b =>
      cases b with
      | nil => exact .nil
      | cons r2 b =>
        cases b with
        | nil => exact .nil
        | cons r3 b =>
          cases b with
          | nil => exact .cons r3 (.cons r2 (.cons r1 .nil))
          | cons _ _ => exact .nil
  | cons _ _ => cases b <;> exact .nil
abbrev Pw : Program := PySem.Challenge.pw_knitrows_k51_changes_spread
def dsAll : List He.DefD := [dD Pw "is_whole" 9, dD Pw "is_count" 10, dD Pw "is_stitch" 11, dD Pw "need_stitch" 12, dD Pw "takes" 13, dD Pw "spread" 15, dD Pw "_law_cell" 17, dD Pw "_law_box" 18, dD Pw "_law_take" 19, dD Pw "_law_table" 20, dD Pw "_law_names" 21, dD Pw "_law_sums" 22, dD Pw "_law_due" 23, dD Pw "_law_asked" 24, dD Pw "_law_gaps" 25, dD Pw "law" 26, dI Pw "NoStitch" "__init__" "NoStitch.__init__" 2 0, dI Pw "NoCount" "__init__" "NoCount.__init__" 3 0, dI Pw "NoTimes" "__init__" "NoTimes.__init__" 4 0, dI Pw "NoSpread" "__init__" "NoSpread.__init__" 5 0]
def faAll : List He.Fa := [.glo "is_whole", .glo "is_count", .glo "is_stitch", .glo "need_stitch", .glo "takes", .glo "spread", .glo "_law_cell", .glo "_law_box", .glo "_law_take", .glo "_law_table", .glo "_law_names", .glo "_law_sums", .glo "_law_due", .glo "_law_asked", .glo "_law_gaps", .glo "law", .glo "NoStitch", .glo "NoCount", .glo "NoTimes", .glo "NoSpread", .glo "STITCHES", .glo "KnitError", .free "len", .free "max", .free "min", .free "abs", .free "sum", .free "repr", .free "sorted", .free "isinstance", .free "int", .free "str", .free "list", .free "tuple", .free "dict", .free "bool", .free "range", .int "MOST_COUNT" 600]
def tsAll : List He.Tab := [(fun K => He.ga K "STITCHES", ["k", "p", "sl", "yo", "m1", "m1p", "kfb", "pfb", "k2tog", "p2tog", "ssk", "ssp", "cdd", "cddp", "bo"])]
def exAll (K : PySem.W.Frag) : Bool := ((keB K "KnitError") && ((er1B K "NoStitch" "value") && ((er1B K "NoCount" "value") && ((er1B K "NoTimes" "value") && ((er1B K "NoSpread" "lacking") && ((stTab.all fun e => tupAtB K (He.ga K "STITCHES") e.1 [.int e.2.1, .int e.2.2.1, .str e.2.2.2]) && true))))))
theorem sc_is_whole : FnScope n_is_whole ["value", "low", "high"] (defScope (topS Pw 9)) := ⟨by kernel_rfl, by kernel_rfl, by kernel_rfl, by decide +kernel, rfl, by decide +kernel, by decide +kernel⟩
theorem ck_is_whole (G : Gm) : chkSs ⟨n_is_whole, defScope (topS Pw 9), true⟩ (b_is_whole G) (defBody (topS Pw 9)) = true := by kernel_rfl
theorem sc_is_count : FnScope n_is_count ["value"] (defScope (topS Pw 10)) := ⟨by kernel_rfl, by kernel_rfl, by kernel_rfl, by decide +kernel, rfl, by decide +kernel, by decide +kernel⟩
theorem ck_is_count (G : Gm) : chkSs ⟨n_is_count, defScope (topS Pw 10), true⟩ (b_is_count G) (defBody (topS Pw 10)) = true := by kernel_rfl
theorem sc_is_stitch : FnScope n_is_stitch ["value"] (defScope (topS Pw 11)) := ⟨by kernel_rfl, by kernel_rfl, by kernel_rfl, by decide +kernel, rfl, by decide +kernel, by decide +kernel⟩
theorem ck_is_stitch (G : Gm) : chkSs ⟨n_is_stitch, defScope (topS Pw 11), true⟩ (b_is_stitch G) (defBody (topS Pw 11)) = true := by kernel_rfl
theorem sc_need_stitch : FnScope n_need_stitch ["value"] (defScope (topS Pw 12)) := ⟨by kernel_rfl, by kernel_rfl, by kernel_rfl, by decide +kernel, rfl, by decide +kernel, by decide +kernel⟩
theorem ck_need_stitch (G : Gm) : chkSs ⟨n_need_stitch, defScope (topS Pw 12), true⟩ (b_need_stitch G) (defBody (topS Pw 12)) = true := by kernel_rfl
theorem sc_takes : FnScope n_takes ["stitch"] (defScope (topS Pw 13)) := ⟨by kernel_rfl, by kernel_rfl, by kernel_rfl, by decide +kernel, rfl, by decide +kernel, by decide +kernel⟩
theorem ck_takes (G : Gm) : chkSs ⟨n_takes, defScope (topS Pw 13), true⟩ (b_takes G) (defBody (topS Pw 13)) = true := by kernel_rfl
theorem sc_spread : FnScope n_spread ["count", "times", "stitch"] (defScope (topS Pw 15)) := ⟨by kernel_rfl, by kernel_rfl, by kernel_rfl, by decide +kernel, rfl, by decide +kernel, by decide +kernel⟩
theorem ck_spread (G : Gm) : chkSs ⟨n_spread, defScope (topS Pw 15), true⟩ (b_spread G) (defBody (topS Pw 15)) = true := by kernel_rfl
theorem sc__law_cell : FnScope n__law_cell ["script", "k"] (defScope (topS Pw 17)) := ⟨by kernel_rfl, by kernel_rfl, by kernel_rfl, by decide +kernel, rfl, by decide +kernel, by decide +kernel⟩
theorem ck__law_cell (G : Gm) : chkSs ⟨n__law_cell, defScope (topS Pw 17), true⟩ (b__law_cell G) (defBody (topS Pw 17)) = true := by kernel_rfl
theorem sc__law_box : FnScope n__law_box ["cell"] (defScope (topS Pw 18)) := ⟨by kernel_rfl, by kernel_rfl, by kernel_rfl, by decide +kernel, rfl, by decide +kernel, by decide +kernel⟩
theorem ck__law_box (G : Gm) : chkSs ⟨n__law_box, defScope (topS Pw 18), true⟩ (b__law_box G) (defBody (topS Pw 18)) = true := by kernel_rfl
theorem sc__law_take : FnScope n__law_take ["box", "many"] (defScope (topS Pw 19)) := ⟨by kernel_rfl, by kernel_rfl, by kernel_rfl, by decide +kernel, rfl, by decide +kernel, by decide +kernel⟩
theorem ck__law_take (G : Gm) : chkSs ⟨n__law_take, defScope (topS Pw 19), true⟩ (b__law_take G) (defBody (topS Pw 19)) = true := by kernel_rfl
theorem sc__law_table : FnScope n__law_table [] (defScope (topS Pw 20)) := ⟨by kernel_rfl, by kernel_rfl, by kernel_rfl, by decide +kernel, rfl, by decide +kernel, by decide +kernel⟩
theorem ck__law_table (G : Gm) : chkSs ⟨n__law_table, defScope (topS Pw 20), true⟩ (b__law_table G) (defBody (topS Pw 20)) = true := by kernel_rfl
theorem sc__law_names : FnScope n__law_names [] (defScope (topS Pw 21)) := ⟨by kernel_rfl, by kernel_rfl, by kernel_rfl, by decide +kernel, rfl, by decide +kernel, by decide +kernel⟩
theorem ck__law_names (G : Gm) : chkSs ⟨n__law_names, defScope (topS Pw 21), true⟩ (b__law_names G) (defBody (topS Pw 21)) = true := by kernel_rfl
theorem sc__law_sums : FnScope n__law_sums ["stitches"] (defScope (topS Pw 22)) := ⟨by kernel_rfl, by kernel_rfl, by kernel_rfl, by decide +kernel, rfl, by decide +kernel, by decide +kernel⟩
theorem ck__law_sums (G : Gm) : chkSs ⟨n__law_sums, defScope (topS Pw 22), true⟩ (b__law_sums G) (defBody (topS Pw 22)) = true := by kernel_rfl
theorem sc__law_due : FnScope n__law_due ["count", "times", "stitch"] (defScope (topS Pw 23)) := ⟨by kernel_rfl, by kernel_rfl, by kernel_rfl, by decide +kernel, rfl, by decide +kernel, by decide +kernel⟩
theorem ck__law_due (G : Gm) : chkSs ⟨n__law_due, defScope (topS Pw 23), true⟩ (b__law_due G) (defBody (topS Pw 23)) = true := by kernel_rfl
theorem sc__law_asked : FnScope n__law_asked ["count", "times", "stitch"] (defScope (topS Pw 24)) := ⟨by kernel_rfl, by kernel_rfl, by kernel_rfl, by decide +kernel, rfl, by decide +kernel, by decide +kernel⟩
theorem ck__law_asked (G : Gm) : chkSs ⟨n__law_asked, defScope (topS Pw 24), true⟩ (b__law_asked G) (defBody (topS Pw 24)) = true := by kernel_rfl
theorem sc__law_gaps : FnScope n__law_gaps ["row", "stitch"] (defScope (topS Pw 25)) := ⟨by kernel_rfl, by kernel_rfl, by kernel_rfl, by decide +kernel, rfl, by decide +kernel, by decide +kernel⟩
theorem ck__law_gaps (G : Gm) : chkSs ⟨n__law_gaps, defScope (topS Pw 25), true⟩ (b__law_gaps G) (defBody (topS Pw 25)) = true := by kernel_rfl
theorem sc_law : FnScope n_law ["script"] (defScope (topS Pw 26)) := ⟨by kernel_rfl, by kernel_rfl, by kernel_rfl, by decide +kernel, rfl, by decide +kernel, by decide +kernel⟩
theorem ck_law (G : Gm) : chkSs ⟨n_law, defScope (topS Pw 26), true⟩ (b_law G) (defBody (topS Pw 26)) = true := by kernel_rfl
theorem ln_is_whole (G : Gm) : ∀ vs H Q E, sp_is_whole G vs H Q E → vs.length = 3 := by
  intro vs H Q E h
  unfold sp_is_whole at h
  split at h
  · rfl
  · exact h.elim
theorem ln_is_count (G : Gm) : ∀ vs H Q E, sp_is_count G vs H Q E → vs.length = 1 := by
  intro vs H Q E h
  unfold sp_is_count at h
  split at h
  · rfl
  · exact h.elim
theorem ln_is_stitch (G : Gm) : ∀ vs H Q E, sp_is_stitch G vs H Q E → vs.length = 1 := by
  intro vs H Q E h
  unfold sp_is_stitch at h
  split at h
  · rfl
  · exact h.elim
theorem ln_need_stitch (G : Gm) : ∀ vs H Q E, sp_need_stitch G vs H Q E → vs.length = 1 := by
  intro vs H Q E h
  unfold sp_need_stitch at h
  split at h
  · rfl
  · exact h.elim
theorem ln_takes (G : Gm) : ∀ vs H Q E, sp_takes G vs H Q E → vs.length = 1 := by
  intro vs H Q E h
  unfold sp_takes at h
  split at h
  · rfl
  · exact h.elim
theorem ln_spread (G : Gm) : ∀ vs H Q E, sp_spread G vs H Q E → vs.length = 3 := by
  intro vs H Q E h
  unfold sp_spread at h
  split at h
  · rfl
  · exact h.elim
theorem ln__law_cell (G : Gm) : ∀ vs H Q E, sp__law_cell G vs H Q E → vs.length = 2 := by
  intro vs H Q E h
  unfold sp__law_cell at h
  split at h
  · rfl
  · exact h.elim
theorem ln__law_box (G : Gm) : ∀ vs H Q E, sp__law_box G vs H Q E → vs.length = 1 := by
  intro vs H Q E h
  unfold sp__law_box at h
  split at h
  · rfl
  · exact h.elim
theorem ln__law_take (G : Gm) : ∀ vs H Q E, sp__law_take G vs H Q E → vs.length = 2 := by
  intro vs H Q E h
  unfold sp__law_take at h
  split at h
  · rfl
  · exact h.elim
theorem ln__law_table (G : Gm) : ∀ vs H Q E, sp__law_table G vs H Q E → vs.length = 0 := by
  intro vs H Q E h
  unfold sp__law_table at h
  split at h
  · rfl
  · exact h.elim
theorem ln__law_names (G : Gm) : ∀ vs H Q E, sp__law_names G vs H Q E → vs.length = 0 := by
  intro vs H Q E h
  unfold sp__law_names at h
  split at h
  · rfl
  · exact h.elim
theorem ln__law_sums (G : Gm) : ∀ vs H Q E, sp__law_sums G vs H Q E → vs.length = 1 := by
  intro vs H Q E h
  unfold sp__law_sums at h
  split at h
  · rfl
  · exact h.elim
theorem ln__law_due (G : Gm) : ∀ vs H Q E, sp__law_due G vs H Q E → vs.length = 3 := by
  intro vs H Q E h
  unfold sp__law_due at h
  split at h
  · rfl
  · exact h.elim
theorem ln__law_asked (G : Gm) : ∀ vs H Q E, sp__law_asked G vs H Q E → vs.length = 3 := by
  intro vs H Q E h
  unfold sp__law_asked at h
  split at h
  · rfl
  · exact h.elim
theorem ln__law_gaps (G : Gm) : ∀ vs H Q E, sp__law_gaps G vs H Q E → vs.length = 2 := by
  intro vs H Q E h
  unfold sp__law_gaps at h
  split at h
  · rfl
  · exact h.elim
theorem ln_law (G : Gm) : ∀ vs H Q E, sp_law G vs H Q E → vs.length = 1 := by
  intro vs H Q E h
  unfold sp_law at h
  split at h
  · rfl
  · exact h.elim
theorem factsAll {G : Gm} {h h0 : Heap} (X : G.K.In h) (N : h.Ns mainGlobals G.mg) (c : He.SaysX faAll dsAll tsAll [] exAll G.w h0 G.K) :
    ∃ fd, FunD G.K "law" "law" (defArgs (topS Pw 26)) (defBody (topS Pw 26)) (defScope (topS Pw 26)) [] [] (He.ga G.K "law") fd ∧ (∀ (s : Shared) (v : Value), BindsTo s fd ⟨[v], []⟩ [("script", v)]) ∧ G.mg "law" = some (.ref (He.ga G.K "law")) ∧ FnG G 8 (He.ga G.K "law") fd ["script"] (sp_law G) := by
  have g_is_whole : G.mg "is_whole" = some (.ref (He.ga G.K "is_whole")) := He.glo_ok X N (c.t.d.fact 0 (f := .glo "is_whole") rfl)
  have g_is_count : G.mg "is_count" = some (.ref (He.ga G.K "is_count")) := He.glo_ok X N (c.t.d.fact 1 (f := .glo "is_count") rfl)
  have g_is_stitch : G.mg "is_stitch" = some (.ref (He.ga G.K "is_stitch")) := He.glo_ok X N (c.t.d.fact 2 (f := .glo "is_stitch") rfl)
  have g_need_stitch : G.mg "need_stitch" = some (.ref (He.ga G.K "need_stitch")) := He.glo_ok X N (c.t.d.fact 3 (f := .glo "need_stitch") rfl)
  have g_takes : G.mg "takes" = some (.ref (He.ga G.K "takes")) := He.glo_ok X N (c.t.d.fact 4 (f := .glo "takes") rfl)
  have g_spread : G.mg "spread" = some (.ref (He.ga G.K "spread")) := He.glo_ok X N (c.t.d.fact 5 (f := .glo "spread") rfl)
  have g__law_cell : G.mg "_law_cell" = some (.ref (He.ga G.K "_law_cell")) := He.glo_ok X N (c.t.d.fact 6 (f := .glo "_law_cell") rfl)
  have g__law_box : G.mg "_law_box" = some (.ref (He.ga G.K "_law_box")) := He.glo_ok X N (c.t.d.fact 7 (f := .glo "_law_box") rfl)
  have g__law_take : G.mg "_law_take" = some (.ref (He.ga G.K "_law_take")) := He.glo_ok X N (c.t.d.fact 8 (f := .glo "_law_take") rfl)
  have g__law_table : G.mg "_law_table" = some (.ref (He.ga G.K "_law_table")) := He.glo_ok X N (c.t.d.fact 9 (f := .glo "_law_table") rfl)
  have g__law_names : G.mg "_law_names" = some (.ref (He.ga G.K "_law_names")) := He.glo_ok X N (c.t.d.fact 10 (f := .glo "_law_names") rfl)
  have g__law_sums : G.mg "_law_sums" = some (.ref (He.ga G.K "_law_sums")) := He.glo_ok X N (c.t.d.fact 11 (f := .glo "_law_sums") rfl)
  have g__law_due : G.mg "_law_due" = some (.ref (He.ga G.K "_law_due")) := He.glo_ok X N (c.t.d.fact 12 (f := .glo "_law_due") rfl)
  have g__law_asked : G.mg "_law_asked" = some (.ref (He.ga G.K "_law_asked")) := He.glo_ok X N (c.t.d.fact 13 (f := .glo "_law_asked") rfl)
  have g__law_gaps : G.mg "_law_gaps" = some (.ref (He.ga G.K "_law_gaps")) := He.glo_ok X N (c.t.d.fact 14 (f := .glo "_law_gaps") rfl)
  have g_law : G.mg "law" = some (.ref (He.ga G.K "law")) := He.glo_ok X N (c.t.d.fact 15 (f := .glo "law") rfl)
  have g_NoStitch : G.mg "NoStitch" = some (.ref (He.ga G.K "NoStitch")) := He.glo_ok X N (c.t.d.fact 16 (f := .glo "NoStitch") rfl)
  have g_NoCount : G.mg "NoCount" = some (.ref (He.ga G.K "NoCount")) := He.glo_ok X N (c.t.d.fact 17 (f := .glo "NoCount") rfl)
  have g_NoTimes : G.mg "NoTimes" = some (.ref (He.ga G.K "NoTimes")) := He.glo_ok X N (c.t.d.fact 18 (f := .glo "NoTimes") rfl)
  have g_NoSpread : G.mg "NoSpread" = some (.ref (He.ga G.K "NoSpread")) := He.glo_ok X N (c.t.d.fact 19 (f := .glo "NoSpread") rfl)
  have g_STITCHES : G.mg "STITCHES" = some (.ref (He.ga G.K "STITCHES")) := He.glo_ok X N (c.t.d.fact 20 (f := .glo "STITCHES") rfl)
  have g_KnitError : G.mg "KnitError" = some (.ref (He.ga G.K "KnitError")) := He.glo_ok X N (c.t.d.fact 21 (f := .glo "KnitError") rfl)
  have m_len : G.mg "len" = none := He.free_ok X N (c.t.d.fact 22 (f := .free "len") rfl)
  have m_max : G.mg "max" = none := He.free_ok X N (c.t.d.fact 23 (f := .free "max") rfl)
  have m_min : G.mg "min" = none := He.free_ok X N (c.t.d.fact 24 (f := .free "min") rfl)
  have m_abs : G.mg "abs" = none := He.free_ok X N (c.t.d.fact 25 (f := .free "abs") rfl)
  have m_sum : G.mg "sum" = none := He.free_ok X N (c.t.d.fact 26 (f := .free "sum") rfl)
  have m_repr : G.mg "repr" = none := He.free_ok X N (c.t.d.fact 27 (f := .free "repr") rfl)
  have m_sorted : G.mg "sorted" = none := He.free_ok X N (c.t.d.fact 28 (f := .free "sorted") rfl)
  have m_isinstance : G.mg "isinstance" = none := He.free_ok X N (c.t.d.fact 29 (f := .free "isinstance") rfl)
  have m_int : G.mg "int" = none := He.free_ok X N (c.t.d.fact 30 (f := .free "int") rfl)
  have m_str : G.mg "str" = none := He.free_ok X N (c.t.d.fact 31 (f := .free "str") rfl)
  have m_list : G.mg "list" = none := He.free_ok X N (c.t.d.fact 32 (f := .free "list") rfl)
  have m_tuple : G.mg "tuple" = none := He.free_ok X N (c.t.d.fact 33 (f := .free "tuple") rfl)
  have m_dict : G.mg "dict" = none := He.free_ok X N (c.t.d.fact 34 (f := .free "dict") rfl)
  have m_bool : G.mg "bool" = none := He.free_ok X N (c.t.d.fact 35 (f := .free "bool") rfl)
  have m_range : G.mg "range" = none := He.free_ok X N (c.t.d.fact 36 (f := .free "range") rfl)
  have v_MOST_COUNT : ∃ u, G.mg "MOST_COUNT" = some u ∧ RelV (.int 600) u := by
    obtain ⟨t, e⟩ := He.int_ok X N (c.t.d.fact 37 (f := .int "MOST_COUNT" 600) rfl)
    exact ⟨_, e, t, rfl⟩
  have ex := c.more
  unfold exAll at ex
  simp only [Bool.and_eq_true] at ex
  obtain ⟨x0, x1, x2, x3, x4, x5, _⟩ := ex
  have ke := keB_ok g_KnitError x0
  obtain ⟨fi_NoStitch, FI_NoStitch⟩ := c.t.d.def_ 16 (d := dI Pw "NoStitch" "__init__" "NoStitch.__init__" 2 0) rfl
  have er_NoStitch : Er1 G "NoStitch" "value" (He.ga G.K "NoStitch") := er1_of (v := "value") ke g_NoStitch x1 FI_NoStitch ⟨by kernel_rfl, by kernel_rfl, by kernel_rfl, by decide +kernel, rfl, by decide +kernel, by decide +kernel⟩ (by kernel_rfl) (by kernel_rfl) (by kernel_rfl) (by kernel_rfl) (by decide +kernel) (by decide +kernel) (fun _ _ _ _ _ _ us hl => match us, hl with | [_, _], _ => rfl)
  obtain ⟨fi_NoCount, FI_NoCount⟩ := c.t.d.def_ 17 (d := dI Pw "NoCount" "__init__" "NoCount.__init__" 3 0) rfl
  have er_NoCount : Er1 G "NoCount" "value" (He.ga G.K "NoCount") := er1_of (v := "value") ke g_NoCount x2 FI_NoCount ⟨by kernel_rfl, by kernel_rfl, by kernel_rfl, by decide +kernel, rfl, by decide +kernel, by decide +kernel⟩ (by kernel_rfl) (by kernel_rfl) (by kernel_rfl) (by kernel_rfl) (by decide +kernel) (by decide +kernel) (fun _ _ _ _ _ _ us hl => match us, hl with | [_, _], _ => rfl)
  obtain ⟨fi_NoTimes, FI_NoTimes⟩ := c.t.d.def_ 18 (d := dI Pw "NoTimes" "__init__" "NoTimes.__init__" 4 0) rfl
  have er_NoTimes : Er1 G "NoTimes" "value" (He.ga G.K "NoTimes") := er1_of (v := "value") ke g_NoTimes x3 FI_NoTimes ⟨by kernel_rfl, by kernel_rfl, by kernel_rfl, by decide +kernel, rfl, by decide +kernel, by decide +kernel⟩ (by kernel_rfl) (by kernel_rfl) (by kernel_rfl) (by kernel_rfl) (by decide +kernel) (by decide +kernel) (fun _ _ _ _ _ _ us hl => match us, hl with | [_, _], _ => rfl)
  obtain ⟨fi_NoSpread, FI_NoSpread⟩ := c.t.d.def_ 19 (d := dI Pw "NoSpread" "__init__" "NoSpread.__init__" 5 0) rfl
  have er_NoSpread : Er1 G "NoSpread" "lacking" (He.ga G.K "NoSpread") := er1_of (v := "lacking") ke g_NoSpread x4 FI_NoSpread ⟨by kernel_rfl, by kernel_rfl, by kernel_rfl, by decide +kernel, rfl, by decide +kernel, by decide +kernel⟩ (by kernel_rfl) (by kernel_rfl) (by kernel_rfl) (by kernel_rfl) (by decide +kernel) (by decide +kernel) (fun _ _ _ _ _ _ us hl => match us, hl with | [_, _], _ => rfl)
  have nf_NoStitch := er_NoStitch.noF
  have xf_NoStitch := er_NoStitch.xf
  have nf_NoCount := er_NoCount.noF
  have xf_NoCount := er_NoCount.xf
  have nf_NoTimes := er_NoTimes.noF
  have xf_NoTimes := er_NoTimes.xf
  have nf_NoSpread := er_NoSpread.noF
  have xf_NoSpread := er_NoSpread.xf
  have sk : StK G := stk_of g_STITCHES (SaysT.dic c.t 0 rfl) x5
  have v_STITCHES : ∃ u, G.mg "STITCHES" = some u ∧ RelV (.ref (clA G "STITCHES")) u := ⟨_, g_STITCHES, by rw [clA_of g_STITCHES]; rfl⟩
  have spk : SpK G (He.ga G.K "NoSpread") := ⟨g_NoSpread, er_NoSpread.te⟩
  obtain ⟨fd_is_whole, F_is_whole⟩ := c.t.d.def_ 0 (d := dD Pw "is_whole" 9) rfl
  have o_is_whole : FnG G 1 (He.fAd G.K ("is_whole", none)) fd_is_whole ["value", "low", "high"] (sp_is_whole G) := by
    refine fnD F_is_whole sc_is_whole (b_is_whole G) (ck_is_whole G) ?_ (ln_is_whole G) (q_is_whole G)
    unfold b_is_whole
    walk_at "gd"
    all_goals ((repeat' apply And.intro) <;> first | assumption | exact FnAt.mono (by assumption) (by decide) | exact ⟨_, by assumption, by decide⟩ | exact ⟨_, by assumption, fun e he => by (rcases List.mem_singleton.mp he with rfl; trivial)⟩ | exact ⟨_, by assumption, fun e he => (List.mem_cons.mp he).elim (fun q => by (subst q; trivial)) (fun q => by (cases List.mem_singleton.mp q; exact ⟨by assumption, by assumption⟩))⟩)
  have a_is_whole : FnAt G 1 "is_whole" (sp_is_whole G) [] := at_of F_is_whole g_is_whole o_is_whole fun _ _ _ _ _ _ us hl => match us, hl with | [_, _, _], _ => rfl
  obtain ⟨fd_is_count, F_is_count⟩ := c.t.d.def_ 1 (d := dD Pw "is_count" 10) rfl
  have o_is_count : FnG G 2 (He.fAd G.K ("is_count", none)) fd_is_count ["value"] (sp_is_count G) := by
    refine fnD F_is_count sc_is_count (b_is_count G) (ck_is_count G) ?_ (ln_is_count G) (q_is_count G)
    unfold b_is_count
    walk_at "gd"
    all_goals ((repeat' apply And.intro) <;> first | assumption | exact FnAt.mono (by assumption) (by decide) | exact ⟨_, by assumption, by decide⟩ | exact ⟨_, by assumption, fun e he => by (rcases List.mem_singleton.mp he with rfl; trivial)⟩ | exact ⟨_, by assumption, fun e he => (List.mem_cons.mp he).elim (fun q => by (subst q; trivial)) (fun q => by (cases List.mem_singleton.mp q; exact ⟨by assumption, by assumption⟩))⟩)
  have a_is_count : FnAt G 2 "is_count" (sp_is_count G) [] := at_of F_is_count g_is_count o_is_count fun _ _ _ _ _ _ us hl => match us, hl with | [_], _ => rfl
  obtain ⟨fd_is_stitch, F_is_stitch⟩ := c.t.d.def_ 2 (d := dD Pw "is_stitch" 11) rfl
  have o_is_stitch : FnG G 1 (He.fAd G.K ("is_stitch", none)) fd_is_stitch ["value"] (sp_is_stitch G) := by
    refine fnD F_is_stitch sc_is_stitch (b_is_stitch G) (ck_is_stitch G) ?_ (ln_is_stitch G) (q_is_stitch G sk)
    unfold b_is_stitch
    walk_at "gd"
    all_goals ((repeat' apply And.intro) <;> first | assumption | exact FnAt.mono (by assumption) (by decide) | exact ⟨_, by assumption, by decide⟩ | exact ⟨_, by assumption, fun e he => by (rcases List.mem_singleton.mp he with rfl; trivial)⟩ | exact ⟨_, by assumption, fun e he => (List.mem_cons.mp he).elim (fun q => by (subst q; trivial)) (fun q => by (cases List.mem_singleton.mp q; exact ⟨by assumption, by assumption⟩))⟩)
  have a_is_stitch : FnAt G 1 "is_stitch" (sp_is_stitch G) [] := at_of F_is_stitch g_is_stitch o_is_stitch fun _ _ _ _ _ _ us hl => match us, hl with | [_], _ => rfl
  obtain ⟨fd_need_stitch, F_need_stitch⟩ := c.t.d.def_ 3 (d := dD Pw "need_stitch" 12) rfl
  have o_need_stitch : FnG G 4 (He.fAd G.K ("need_stitch", none)) fd_need_stitch ["value"] (sp_need_stitch G) := by
    refine fnD F_need_stitch sc_need_stitch (b_need_stitch G) (ck_need_stitch G) ?_ (ln_need_stitch G) (q_need_stitch G)
    unfold b_need_stitch
    walk_at "gd"
    all_goals ((repeat' apply And.intro) <;> first | assumption | exact FnAt.mono (by assumption) (by decide) | exact ⟨_, by assumption, by decide⟩ | exact ⟨_, by assumption, fun e he => by (rcases List.mem_singleton.mp he with rfl; trivial)⟩ | exact ⟨_, by assumption, fun e he => (List.mem_cons.mp he).elim (fun q => by (subst q; trivial)) (fun q => by (cases List.mem_singleton.mp q; exact ⟨by assumption, by assumption⟩))⟩)
  have a_need_stitch : FnAt G 4 "need_stitch" (sp_need_stitch G) [] := at_of F_need_stitch g_need_stitch o_need_stitch fun _ _ _ _ _ _ us hl => match us, hl with | [_], _ => rfl
  obtain ⟨fd_takes, F_takes⟩ := c.t.d.def_ 4 (d := dD Pw "takes" 13) rfl
  have o_takes : FnG G 5 (He.fAd G.K ("takes", none)) fd_takes ["stitch"] (sp_takes G) := by
    refine fnD F_takes sc_takes (b_takes G) (ck_takes G) ?_ (ln_takes G) (q_takes G sk)
    unfold b_takes
    walk_at "gd"
    all_goals ((repeat' apply And.intro) <;> first | assumption | exact FnAt.mono (by assumption) (by decide) | exact ⟨_, by assumption, by decide⟩ | exact ⟨_, by assumption, fun e he => by (rcases List.mem_singleton.mp he with rfl; trivial)⟩ | exact ⟨_, by assumption, fun e he => (List.mem_cons.mp he).elim (fun q => by (subst q; trivial)) (fun q => by (cases List.mem_singleton.mp q; exact ⟨by assumption, by assumption⟩))⟩)
  have a_takes : FnAt G 5 "takes" (sp_takes G) [] := at_of F_takes g_takes o_takes fun _ _ _ _ _ _ us hl => match us, hl with | [_], _ => rfl
  obtain ⟨fd_spread, F_spread⟩ := c.t.d.def_ 5 (d := dD Pw "spread" 15) rfl
  have o_spread : FnG G 6 (He.fAd G.K ("spread", none)) fd_spread ["count", "times", "stitch"] (sp_spread G) := by
    refine fnD F_spread sc_spread (b_spread G) (ck_spread G) ?_ (ln_spread G) (q_spread G)
    unfold b_spread
    walk_at "gd"
    all_goals ((repeat' apply And.intro) <;> first | assumption | exact FnAt.mono (by assumption) (by decide) | exact ⟨_, by assumption, by decide⟩ | exact ⟨_, by assumption, fun e he => by (rcases List.mem_singleton.mp he with rfl; trivial)⟩ | exact ⟨_, by assumption, fun e he => (List.mem_cons.mp he).elim (fun q => by (subst q; trivial)) (fun q => by (cases List.mem_singleton.mp q; exact ⟨by assumption, by assumption⟩))⟩)
  have a_spread : FnAt G 6 "spread" (sp_spread G) [] := at_of F_spread g_spread o_spread fun _ _ _ _ _ _ us hl => match us, hl with | [_, _, _], _ => rfl
  have k_spread : FnAtK G 7 "spread" (sp_spread G) ["stitch", "times", "count"] kg_spread_stitch_times_count_0 := ⟨6, _, fd_spread, ["count", "times", "stitch"], kv_spread, by decide, o_spread, g_spread, F_spread.kp, kb_of F_spread (fun _ _ _ _ _ _ us ws hl => match us, ws, hl with | [], [_, _, _], _ => rfl) kv_rel⟩
  obtain ⟨fd__law_cell, F__law_cell⟩ := c.t.d.def_ 6 (d := dD Pw "_law_cell" 17) rfl
  have o__law_cell : FnG G 1 (He.fAd G.K ("_law_cell", none)) fd__law_cell ["script", "k"] (sp__law_cell G) := by
    refine fnD F__law_cell sc__law_cell (b__law_cell G) (ck__law_cell G) ?_ (ln__law_cell G) (q_cell G)
    unfold b__law_cell
    walk_at "gd"
    all_goals ((repeat' apply And.intro) <;> first | assumption | exact FnAt.mono (by assumption) (by decide) | exact ⟨_, by assumption, by decide⟩ | exact ⟨_, by assumption, fun e he => by (rcases List.mem_singleton.mp he with rfl; trivial)⟩ | exact ⟨_, by assumption, fun e he => (List.mem_cons.mp he).elim (fun q => by (subst q; trivial)) (fun q => by (cases List.mem_singleton.mp q; exact ⟨by assumption, by assumption⟩))⟩)
  have a__law_cell : FnAt G 1 "_law_cell" (sp__law_cell G) [] := at_of F__law_cell g__law_cell o__law_cell fun _ _ _ _ _ _ us hl => match us, hl with | [_, _], _ => rfl
  obtain ⟨fd__law_box, F__law_box⟩ := c.t.d.def_ 7 (d := dD Pw "_law_box" 18) rfl
  have o__law_box : FnG G 1 (He.fAd G.K ("_law_box", none)) fd__law_box ["cell"] (sp__law_box G) := by
    refine fnD F__law_box sc__law_box (b__law_box G) (ck__law_box G) ?_ (ln__law_box G) (q_box G)
    unfold b__law_box
    walk_at "gd"
    all_goals ((repeat' apply And.intro) <;> first | assumption | exact FnAt.mono (by assumption) (by decide) | exact ⟨_, by assumption, by decide⟩ | exact ⟨_, by assumption, fun e he => by (rcases List.mem_singleton.mp he with rfl; trivial)⟩ | exact ⟨_, by assumption, fun e he => (List.mem_cons.mp he).elim (fun q => by (subst q; trivial)) (fun q => by (cases List.mem_singleton.mp q; exact ⟨by assumption, by assumption⟩))⟩)
  have a__law_box : FnAt G 1 "_law_box" (sp__law_box G) [] := at_of F__law_box g__law_box o__law_box fun _ _ _ _ _ _ us hl => match us, hl with | [_], _ => rfl
  obtain ⟨fd__law_take, F__law_take⟩ := c.t.d.def_ 8 (d := dD Pw "_law_take" 19) rfl
  have o__law_take : FnG G 1 (He.fAd G.K ("_law_take", none)) fd__law_take ["box", "many"] (sp__law_take G) := by
    refine fnD F__law_take sc__law_take (b__law_take G) (ck__law_take G) ?_ (ln__law_take G) (q_take G)
    unfold b__law_take
    walk_at "gd"
    all_goals ((repeat' apply And.intro) <;> first | assumption | exact FnAt.mono (by assumption) (by decide) | exact ⟨_, by assumption, by decide⟩ | exact ⟨_, by assumption, fun e he => by (rcases List.mem_singleton.mp he with rfl; trivial)⟩ | exact ⟨_, by assumption, fun e he => (List.mem_cons.mp he).elim (fun q => by (subst q; trivial)) (fun q => by (cases List.mem_singleton.mp q; exact ⟨by assumption, by assumption⟩))⟩)
  have a__law_take : FnAt G 1 "_law_take" (sp__law_take G) [] := at_of F__law_take g__law_take o__law_take fun _ _ _ _ _ _ us hl => match us, hl with | [_, _], _ => rfl
  obtain ⟨fd__law_table, F__law_table⟩ := c.t.d.def_ 9 (d := dD Pw "_law_table" 20) rfl
  have o__law_table : FnG G 1 (He.fAd G.K ("_law_table", none)) fd__law_table [] (sp__law_table G) := by
    refine fnD F__law_table sc__law_table (b__law_table G) (ck__law_table G) ?_ (ln__law_table G) (q_table G)
    unfold b__law_table
    walk_at "gd"
    all_goals ((repeat' apply And.intro) <;> first | assumption | exact FnAt.mono (by assumption) (by decide) | exact ⟨_, by assumption, by decide⟩ | exact ⟨_, by assumption, fun e he => by (rcases List.mem_singleton.mp he with rfl; trivial)⟩ | exact ⟨_, by assumption, fun e he => (List.mem_cons.mp he).elim (fun q => by (subst q; trivial)) (fun q => by (cases List.mem_singleton.mp q; exact ⟨by assumption, by assumption⟩))⟩)
  have a__law_table : FnAt G 1 "_law_table" (sp__law_table G) [] := at_of F__law_table g__law_table o__law_table fun _ _ _ _ _ _ us hl => match us, hl with | [], _ => rfl
  obtain ⟨fd__law_names, F__law_names⟩ := c.t.d.def_ 10 (d := dD Pw "_law_names" 21) rfl
  have o__law_names : FnG G 2 (He.fAd G.K ("_law_names", none)) fd__law_names [] (sp__law_names G) := by
    refine fnD F__law_names sc__law_names (b__law_names G) (ck__law_names G) ?_ (ln__law_names G) (q_names G)
    unfold b__law_names
    walk_at "gd"
    all_goals ((repeat' apply And.intro) <;> first | assumption | exact FnAt.mono (by assumption) (by decide) | exact ⟨_, by assumption, by decide⟩ | exact ⟨_, by assumption, fun e he => by (rcases List.mem_singleton.mp he with rfl; trivial)⟩ | exact ⟨_, by assumption, fun e he => (List.mem_cons.mp he).elim (fun q => by (subst q; trivial)) (fun q => by (cases List.mem_singleton.mp q; exact ⟨by assumption, by assumption⟩))⟩)
  have a__law_names : FnAt G 2 "_law_names" (sp__law_names G) [] := at_of F__law_names g__law_names o__law_names fun _ _ _ _ _ _ us hl => match us, hl with | [], _ => rfl
  obtain ⟨fd__law_sums, F__law_sums⟩ := c.t.d.def_ 11 (d := dD Pw "_law_sums" 22) rfl
  have o__law_sums : FnG G 2 (He.fAd G.K ("_law_sums", none)) fd__law_sums ["stitches"] (sp__law_sums G) := by
    refine fnD F__law_sums sc__law_sums (b__law_sums G) (ck__law_sums G) ?_ (ln__law_sums G) (q_sums G)
    unfold b__law_sums
    walk_at "gd"
    all_goals ((repeat' apply And.intro) <;> first | assumption | exact FnAt.mono (by assumption) (by decide) | exact ⟨_, by assumption, by decide⟩ | exact ⟨_, by assumption, fun e he => by (rcases List.mem_singleton.mp he with rfl; trivial)⟩ | exact ⟨_, by assumption, fun e he => (List.mem_cons.mp he).elim (fun q => by (subst q; trivial)) (fun q => by (cases List.mem_singleton.mp q; exact ⟨by assumption, by assumption⟩))⟩)
  have a__law_sums : FnAt G 2 "_law_sums" (sp__law_sums G) [] := at_of F__law_sums g__law_sums o__law_sums fun _ _ _ _ _ _ us hl => match us, hl with | [_], _ => rfl
  obtain ⟨fd__law_due, F__law_due⟩ := c.t.d.def_ 12 (d := dD Pw "_law_due" 23) rfl
  have o__law_due : FnG G 3 (He.fAd G.K ("_law_due", none)) fd__law_due ["count", "times", "stitch"] (sp__law_due G) := by
    refine fnD F__law_due sc__law_due (b__law_due G) (ck__law_due G) ?_ (ln__law_due G) (q_due G)
    unfold b__law_due
    walk_at "gd"
    all_goals ((repeat' apply And.intro) <;> first | assumption | exact FnAt.mono (by assumption) (by decide) | exact ⟨_, by assumption, by decide⟩ | exact ⟨_, by assumption, fun e he => by (rcases List.mem_singleton.mp he with rfl; trivial)⟩ | exact ⟨_, by assumption, fun e he => (List.mem_cons.mp he).elim (fun q => by (subst q; trivial)) (fun q => by (cases List.mem_singleton.mp q; exact ⟨by assumption, by assumption⟩))⟩)
  have a__law_due : FnAt G 3 "_law_due" (sp__law_due G) [] := at_of F__law_due g__law_due o__law_due fun _ _ _ _ _ _ us hl => match us, hl with | [_, _, _], _ => rfl
  obtain ⟨fd__law_asked, F__law_asked⟩ := c.t.d.def_ 13 (d := dD Pw "_law_asked" 24) rfl
  have o__law_asked : FnG G 7 (He.fAd G.K ("_law_asked", none)) fd__law_asked ["count", "times", "stitch"] (sp__law_asked G) := by
    refine fnD F__law_asked sc__law_asked (b__law_asked G) (ck__law_asked G) ?_ (ln__law_asked G) (q_asked G spk)
    unfold b__law_asked
    walk_at "gd"
    all_goals ((repeat' apply And.intro) <;> first | assumption | exact FnAt.mono (by assumption) (by decide) | exact ⟨_, by assumption, by decide⟩ | exact ⟨_, by assumption, fun e he => by (rcases List.mem_singleton.mp he with rfl; trivial)⟩ | exact ⟨_, by assumption, fun e he => (List.mem_cons.mp he).elim (fun q => by (subst q; trivial)) (fun q => by (cases List.mem_singleton.mp q; exact ⟨by assumption, by assumption⟩))⟩)
  have a__law_asked : FnAt G 7 "_law_asked" (sp__law_asked G) [] := at_of F__law_asked g__law_asked o__law_asked fun _ _ _ _ _ _ us hl => match us, hl with | [_, _, _], _ => rfl
  obtain ⟨fd__law_gaps, F__law_gaps⟩ := c.t.d.def_ 14 (d := dD Pw "_law_gaps" 25) rfl
  have o__law_gaps : FnG G 1 (He.fAd G.K ("_law_gaps", none)) fd__law_gaps ["row", "stitch"] (sp__law_gaps G) := by
    refine fnD F__law_gaps sc__law_gaps (b__law_gaps G) (ck__law_gaps G) ?_ (ln__law_gaps G) (q_gaps G)
    unfold b__law_gaps
    walk_at "gd"
    all_goals ((repeat' apply And.intro) <;> first | assumption | exact FnAt.mono (by assumption) (by decide) | exact ⟨_, by assumption, by decide⟩ | exact ⟨_, by assumption, fun e he => by (rcases List.mem_singleton.mp he with rfl; trivial)⟩ | exact ⟨_, by assumption, fun e he => (List.mem_cons.mp he).elim (fun q => by (subst q; trivial)) (fun q => by (cases List.mem_singleton.mp q; exact ⟨by assumption, by assumption⟩))⟩)
  have a__law_gaps : FnAt G 1 "_law_gaps" (sp__law_gaps G) [] := at_of F__law_gaps g__law_gaps o__law_gaps fun _ _ _ _ _ _ us hl => match us, hl with | [_, _], _ => rfl
  obtain ⟨fd_law, F_law⟩ := c.t.d.def_ 15 (d := dD Pw "law" 26) rfl
  have o_law : FnG G 8 (He.fAd G.K ("law", none)) fd_law ["script"] (sp_law G) := by
    refine fnD F_law sc_law (b_law G) (ck_law G) ?_ (ln_law G) (q_law G)
    unfold b_law
    walk_at "gd"
    all_goals ((repeat' apply And.intro) <;> first | assumption | exact FnAt.mono (by assumption) (by decide) | exact ⟨_, by assumption, by decide⟩ | exact ⟨_, by assumption, fun e he => by (rcases List.mem_singleton.mp he with rfl; trivial)⟩ | exact ⟨_, by assumption, fun e he => (List.mem_cons.mp he).elim (fun q => by (subst q; trivial)) (fun q => by (cases List.mem_singleton.mp q; exact ⟨by assumption, by assumption⟩))⟩)
  exact ⟨fd_law, F_law, fun s v => FunD.bindsA (ps := ["script"]) F_law (fun _ _ _ _ _ _ us hl => match us, hl with | [_], _ => rfl) s [v] rfl, g_law, o_law⟩
end Kn
open PySem PySem.W PySem.Calls PyProof.Rows
set_option maxRecDepth 100000 in
set_option maxHeartbeats 0 in
theorem PySem.Challenge.cw_knitrows_k51_changes_spread_holds : PySem.Challenge.rw_knitrows_k51_changes_spread.Holds := by
  w_on; o_law; k_head; (case hw => w_witness2)
  k_fill
  refine Kn.walkG (l := PySem.Challenge.rw_knitrows_k51_changes_spread) (n := 63) (k := 8) (x := "script") rfl (by decide) (by kernel_rfl) ⟨rfl, by decide, by decide⟩ ?F
  intro w mg fa h Y G hmg0
  have KX := PySem.W.kIn_of Y
  have hmg : mg ("law" : PySem.Str) = some (.ref fa) := hmg0
  have c : He.SaysX Kn.faAll Kn.dsAll Kn.tsAll [] Kn.exAll w h (L2.KOf KX) := ⟨by (unfold He.SaysT; kernel_rfl), by kernel_rfl, fun _ q => (nomatch q), fun _ q => (nomatch q), fun _ q => (nomatch q)⟩
  obtain ⟨fd, F, hb, hgl, _⟩ := Kn.factsAll (G := ⟨(PySem.Challenge.rw_knitrows_k51_changes_spread).prog, w, L2.KOf KX, mg, h⟩) KX G c
  have e := hmg.symm.trans hgl
  cases e
  refine ⟨L2.KOf KX, fd, Kn.sp_law, KX, hb, fun base H a ns hl hS => ⟨ns, Nat.le_trans hl (by decide), hS, fun _ => rfl⟩, fun base hK hN => ?_⟩
  obtain ⟨fd2, F2, _, _, o⟩ := Kn.factsAll (G := ⟨(PySem.Challenge.rw_knitrows_k51_changes_spread).prog, w, L2.KOf KX, mg, base⟩) hK hN c
  have e2 : fd2 = fd := Kn.fun_uniq F2 F
  rw [← e2]
  exact o
