import PyProof.Rows.All
import Wide.All
import OpenK.AllK
import Wide.FinOn
import HandS.ForMost
import HandS.Exc
import HandS.ExcOwn
import HandS.ExcInit
import HandS.ExcField
import HandS.TryMany
import HandS.IsInst
import HandS.Wide
import HandS.More
import HandS.Conv
import HandS.RevRange
import PyProof.ReprRoads
import HandS.DeepEq
import HandS.Text
import HandS.Iter
import HandS.Deep
import HandS.HeadHook4
import HandS.WordsExc
import HandS.Defaults
import HandS.AnyAll
import HandS.Lambda
import HandS.HeadHook1
import HandS.HeadHook2
import HandS.HeadHook3
import HandS.Head0
import HandS.Head1
import HandS.Head2
import HandS.EndTab
import HandS.EndBits
import PyProof.GenCompD
import HandS.Set
import HandS.SetFor
import PyProof.Rows.ChunkLeaf
import HandS.HeadEnd
import HandS.Nested
import HandS.FStr
import HandS.Dict
import HandS.Sort
import PyProof.WalksMore
import PyProof.DictStraight
import PySem.Challenge.RW_knitrows_k42_writing_refused
set_option Elab.async false
set_option linter.all false
set_option maxRecDepth 100000
set_option maxHeartbeats 8000000
/-! KnLaw: the lines of the law's lambdas, with their names. -/
namespace Kn
def lamRows : List (Nat × PySem.Str) := [(111, "law.<locals>.<lambda>"), (114, "law.<locals>.<lambda>")]
end Kn

/-! KnA: trees without places, their check against the text, their readings. -/
namespace Kn
open PySem PySem.Spec PyProof.Rows L2

/-! ### what a tree is checked in; operators of one's own -/
structure CC where
  N : List Str
  sc : Scope
  cl : Bool
  q : Option (Str × Option Str)
/-- an operator over the values of parts: what parts an expression of this form has, what it reads as -/
structure XOp where
  ck : CC → Expr → Option (List Expr)
  rd : List TE → WX → TE
/-- an expression with a text of its own (a lambda) -/
structure LOp where
  ck : CC → Expr → Option (CC × Expr)
  rd : (WX → TE) → WX → TE
/-- what is walked -/
structure XSrc where
  ck : CC → Expr → Expr → Option (List Expr)
  rd : List TE → WX → TI
/-- a target -/
structure XTg where
  ck : CC → Expr → Option (List Expr)
  rd : List TE → WX → TG
/-- a statement -/
structure XSt where
  ck : CC → Stmt → Option (List Expr)
  rd : List TE → WX → TS
/-- an except suite -/
structure XSu where
  ck : CC → List Stmt → Bool
  rd : WX → Addr → Value → Option Addr → Addr → TS

/-! ### the trees -/
/-- built-in functions and types that are called -/
inductive Bf where
  | len | max | min | abs | sum | repr | sorted | isinstance | int | str | list | tuple | dict | bool
  deriving DecidableEq
/-- methods of built-in types -/
inductive Bm where
  | append | extend | pop | popAt | index | clear | insert
  deriving DecidableEq
mutual
inductive E where
  | var (i : Nat)
  | glb (x : Str) (v : V)
  | bty (b : Bf)
  | cst (v : V)
  | bin (op : Operator) (a b : E)
  | neg (a : E)
  | cmp (op : CmpOp) (a b : E)
  | cm2 (o1 o2 : CmpOp) (a b c : E)
  | and (a b : E)
  | or (a b : E)
  | not (a : E)
  | ite (c : T) (a b : E)
  | lst (es : Es)
  | tup (es : Es)
  | sub (a i : E)
  | slc (a : E) (lo hi : Es)
  | call (x : Str) (sp : Sp) (dv : List V) (es : Es)
  | calk (x : Str) (sp : Sp) (g : List V → List V → List V) (es : Es) (ks : List Str) (kes : Es)
  | bif (b : Bf) (es : Es)
  | bm (m : Bm) (o : E) (es : Es)
  | lc (elt : E) (tg : Tg) (src : Src) (cond : Ts) (own : List Nat)
  | xop (o : XOp) (es : Es)
  | lam (o : LOp) (e : E)
inductive Es where
  | nil
  | cons (e : E) (es : Es)
inductive T where
  | val (e : E)
  | cmp (op : CmpOp) (a b : E)
  | cm2 (o1 o2 : CmpOp) (a b c : E)
  | and (a b : T)
  | or (a b : T)
  | not (a : T)
inductive Ts where
  | nil
  | one (t : T)
inductive Tg where
  | nm (i : Nat)
  | tp (is : Tgs)
  | ix (o i : E)
  | xtg (o : XTg) (es : Es)
inductive Tgs where
  | nil
  | cons (t : Tg) (ts : Tgs)
inductive Src where
  | plain (e : E)
  | rng1 (a : E)
  | rng2 (a b : E)
  | zip (a b : E)
  | xsrc (o : XSrc) (es : Es)
end

def Tgs.len : Tgs → Nat
  | .nil => 0
  | .cons _ ts => ts.len + 1

/-! ### the check -/
def visB (sc : Scope) (x : Str) : Bool := match sc.names.lookup x with
  | some .local => true
  | some .cell => true
  | some .free => true
  | _ => false
def glB (sc : Scope) (x : Str) : Bool := decide (sc.names.lookup x = some .globalImplicit)
def okNm (x : Str) : Bool := !(x == ("__debug__" : Str)) && !(x == ("__classdict__" : Str))
def stB (c : CC) (x : Str) : Bool := match c.sc.names.lookup x with
  | some .local => true
  | some .cell => c.cl
  | _ => false
def notStar : Expr → Bool
  | .Starred _ _ => false
  | _ => true
/-- not a comprehension, a slice, a starred thing or a call without arguments of a bare name -/
def plainE : Expr → Bool
  | .Name _ _ => true
  | .Constant _ _ _ => true
  | .Subscript _ _ _ => true
  | .Attribute _ _ _ => true
  | .Call (.Name x _) _ _ _ => !(x == ("super" : Str))
  | .Call (.Attribute _ _ _) _ _ _ => true
  | .BinOp _ _ _ _ => true
  | .List _ _ => true
  | .Tuple _ _ _ => true
  | .JoinedStr _ _ => true
  | .ListComp _ _ _ _ => true
  | _ => false
/-- an expression whose truth is asked of its value -/
def truE : Expr → Bool
  | .Name _ _ => true
  | .Constant _ _ _ => true
  | .Subscript _ _ _ => true
  | .Attribute _ _ _ => true
  | .Call _ _ _ _ => true
  | .BinOp _ _ _ _ => true
  | _ => false
def ixE : Expr → Bool
  | .Slice _ _ _ _ => false
  | _ => true
def cstB : V → Const → Bool
  | .int i, .int j => decide (i = j)
  | .bl a, .bool b => decide (a = b)
  | .non, .none => true
  | .str x, .str y => decide (x = y)
  | _, _ => false
def bfName : Bf → Str
  | .len => "len" | .max => "max" | .min => "min" | .abs => "abs" | .sum => "sum" | .repr => "repr" | .sorted => "sorted" | .isinstance => "isinstance"
  | .int => "int" | .str => "str" | .list => "list" | .tuple => "tuple" | .dict => "dict" | .bool => "bool"
def bmName : Bm → Str
  | .append => "append" | .extend => "extend" | .pop => "pop" | .popAt => "pop" | .index => "index" | .clear => "clear" | .insert => "insert"
def nmOf (N : List Str) (i : Nat) : Str := (N[i]?).getD Str.empty
def ownOf (N : List Str) (is : List Nat) : List (Str × Nat) := is.map fun i => (nmOf N i, i)
def CC.blk (c : CC) (scope : Scope) : CC := ⟨c.N, relS scope c.sc, false, none⟩
def isGl (c : CC) (f : Expr) (x : Str) : Bool := match f with
  | .Name y _ => decide (y = x) && glB c.sc x && okNm x
  | _ => false
def isStr0 : Expr → Bool
  | .Starred _ _ => false
  | _ => true
def mkKw (ks : List Str) (kws : List Keyword) : Bool := match ks, kws with
  | [], [] => true
  | k :: ks, ⟨some y, _, _⟩ :: kws => decide (y = k) && mkKw ks kws
  | _, _ => false

/-- a tuple of targets -/
def isTupT : Expr → Bool
  | .Tuple _ _ _ => true
  | _ => false
mutual
def chkE (c : CC) : E → Expr → Bool
  | .var i, e => (match e with | .Name x _ => decide (c.N[i]? = some x) && visB c.sc x && okNm x | _ => false)
  | .glb y _, e => isGl c e y
  | .bty b, e => isGl c e (bfName b)
  | .cst v, e => (match e with | .Constant k _ _ => cstB v k | _ => false)
  | .bin op a b, e => (match e with | .BinOp x o y _ => decide (op = o) && chkE c a x && chkE c b y | _ => false)
  | .neg a, e => (match e with | .UnaryOp .USub x _ => chkE c a x | _ => false)
  | .cmp op a b, e => (match e with | .Compare x [o] [y] _ => decide (op = o) && chkE c a x && chkE c b y && !(behindInMarks op y) | _ => false)
  | .cm2 o1 o2 a b d, e => (match e with | .Compare x [p1, p2] [y, z] _ => decide (o1 = p1) && decide (o2 = p2) && chkE c a x && chkE c b y && chkE c d z && !(lastMarks [o1, o2] [y, z]) | _ => false)
  | .and a b, e => (match e with
    | .BoolOp .And [x, y] _ => chkE c a x && chkE c b y
    | .BoolOp .And (x :: y :: z :: r) p => chkE c a x && chkE c b (.BoolOp .And (y :: z :: r) p)
    | _ => false)
  | .or a b, e => (match e with
    | .BoolOp .Or [x, y] _ => chkE c a x && chkE c b y
    | .BoolOp .Or (x :: y :: z :: r) p => chkE c a x && chkE c b (.BoolOp .Or (y :: z :: r) p)
    | _ => false)
  | .not a, e => (match e with | .UnaryOp .Not x _ => chkE c a x | _ => false)
  | .ite t a b, e => (match e with | .IfExp x y z _ => chkT c t x && chkE c a y && chkE c b z | _ => false)
  | .lst es, e => (match e with | .List xs _ => chkEs c es xs | _ => false)
  | .tup es, e => (match e with | .Tuple xs _ _ => chkEs c es xs | _ => false)
  | .sub a i, e => (match e with | .Subscript x y _ => chkE c a x && chkE c i y && ixE y | _ => false)
  | .slc a lo hi, e => (match e with | .Subscript x (.Slice l h none _) _ => chkE c a x && chkO c lo l && chkO c hi h | _ => false)
  | .call x _ _ es, e => (match e with | .Call f xs [] _ => isGl c f x && chkEs c es xs | _ => false)
  | .calk x _ _ es ks kes, e => (match e with | .Call f xs kws _ => isGl c f x && chkEs c es xs && mkKw ks kws && !kws.isEmpty && chkEs c kes (kws.map (·.value)) | _ => false)
  | .bif b es, e => (match e with | .Call f xs [] _ => isGl c f (bfName b) && chkEs c es xs && !xs.isEmpty | _ => false)
  | .bm m o es, e => (match e with | .Call (.Attribute x y ap) xs [] p => decide (y = bmName m) && chkE c o x && chkEs c es xs && decide (ap.endLine = p.line) && plainE x && decide (xs.length < 25) | _ => false)
  | .lc elt tg src cond own, e => (match e with
    | .ListComp x [⟨t, i, fs, a⟩] scope _ => decide (a = 0) && chkSrc c src t i && chkTg (c.blk scope) tg t && chkTs (c.blk scope) cond fs && chkE (c.blk scope) elt x && blkC c.N c.sc scope (ownOf c.N own)
    | _ => false)
  | .xop o es, e => (match o.ck c e with | some xs => chkEs c es xs | none => false)
  | .lam o e', e => (match o.ck c e with | some (c', y) => chkE c' e' y | none => false)
def chkEs (c : CC) : Es → List Expr → Bool
  | .nil, xs => xs.isEmpty
  | .cons e es, xs => (match xs with | x :: r => notStar x && chkE c e x && chkEs c es r | [] => false)
def chkO (c : CC) : Es → Option Expr → Bool
  | .nil, x => x.isNone
  | .cons e _, x => (match x with | some y => chkE c e y | none => false)
def chkT (c : CC) : T → Expr → Bool
  | .val e, x => truE x && chkE c e x
  | .cmp op a b, e => (match e with | .Compare x [o] [y] _ => decide (op = o) && chkE c a x && chkE c b y && !(behindInMarks op y) | _ => false)
  | .cm2 o1 o2 a b d, e => (match e with | .Compare x [p1, p2] [y, z] _ => decide (o1 = p1) && decide (o2 = p2) && chkE c a x && chkE c b y && chkE c d z && !(lastMarks [o1, o2] [y, z]) | _ => false)
  | .and a b, e => (match e with
    | .BoolOp .And [x, y] _ => chkT c a x && chkT c b y
    | .BoolOp .And (x :: y :: z :: r) p => chkT c a x && chkT c b (.BoolOp .And (y :: z :: r) p)
    | _ => false)
  | .or a b, e => (match e with
    | .BoolOp .Or [x, y] _ => chkT c a x && chkT c b y
    | .BoolOp .Or (x :: y :: z :: r) p => chkT c a x && chkT c b (.BoolOp .Or (y :: z :: r) p)
    | _ => false)
  | .not a, e => (match e with | .UnaryOp .Not x _ => chkT c a x | _ => false)
def chkTs (c : CC) : Ts → List Expr → Bool
  | .nil, xs => xs.isEmpty
  | .one t, xs => (match xs with | [x] => chkT c t x | _ => false)
def chkTg (c : CC) : Tg → Expr → Bool
  | .nm i, e => (match e with | .Name x _ => decide (c.N[i]? = some x) && stB c x | _ => false)
  | .tp ts, e => (match e with | .Tuple xs _ _ => chkTgs c ts xs | _ => false)
  | .ix o i, e => (match e with | .Subscript x y _ => chkE c o x && chkE c i y && ixE y | _ => false)
  | .xtg o es, e => (match o.ck c e with | some xs => chkEs c es xs | none => false)
def chkTgs (c : CC) : Tgs → List Expr → Bool
  | .nil, xs => xs.isEmpty
  | .cons t ts, xs => (match xs with | x :: r => notStar x && chkTg c t x && chkTgs c ts r | [] => false)
def chkSrc (c : CC) : Src → Expr → Expr → Bool
  | .plain e, _, x => plainE x && chkE c e x
  | .rng1 a, _, e => (match e with | .Call f [x] [] _ => isGl c f "range" && notStar x && chkE c a x | _ => false)
  | .rng2 a b, _, e => (match e with | .Call f [x, y] [] _ => isGl c f "range" && notStar x && notStar y && chkE c a x && chkE c b y | _ => false)
  | .zip a b, t, e => (match e with | .Call f [x, y] [] _ => isTupT t && isGl c f "zip" && notStar x && notStar y && chkE c a x && chkE c b y | _ => false)
  | .xsrc o es, t, e => (match o.ck c t e with | some xs => chkEs c es xs | none => false)
end
end Kn

/-! KnR: dicts of plain values: shown, compared. -/
namespace Kn
open PySem PySem.Spec PyProof.Rows L2

/-- a plain value as data -/
def dV : V → PyData
  | .bl b => .bool b
  | .int i => .int i
  | .str z => .str z
  | _ => .none
def plnV : V → Bool
  | .bl _ => true
  | .int _ => true
  | .str _ => true
  | .non => true
  | _ => false
def dKv (kvs : List (Key × V)) : PyData := .dict (kvs.map fun p => (dV (kV p.1), dV p.2))
theorem reads_pln {h : Heap} {v : V} {u : Value} (hp : plnV v = true) (r : RelV v u) : Reads h u (dV v) [] := by
  cases v with
  | bl b => cases r; exact .bool b
  | int i => obtain ⟨t, rfl⟩ := r; exact .int i t
  | str z => obtain ⟨t, rfl⟩ := r; exact .str z t
  | non => cases r; exact .none
  | _ => cases hp
theorem reads_plns {h : Heap} : ∀ {vs : List V} {us : List Value}, (∀ v ∈ vs, plnV v = true) → Vals vs us → ReadsAll h us (vs.map dV) []
  | _, _, _, .nil => .nil
  | v :: vs, u :: us, hp, .cons r t => by
    have := ReadsAll.cons (reads_pln (h := h) (hp v List.mem_cons_self) r) (reads_plns (fun x hx => hp x (List.mem_cons_of_mem _ hx)) t)
    exact this
theorem key_rel {k : Key} {u : Value} (h : keyIs k u = true) : RelV (kV k) u := by
  rcases keyIs_shape h with ⟨i, t, rfl, rfl⟩ | ⟨x, t, rfl, rfl⟩
  · exact ⟨t, rfl⟩
  · exact ⟨t, rfl⟩
theorem key_pln (k : Key) : plnV (kV k) = true := by cases k <;> rfl
section
variable {X : Cx} {n : Nat}
theorem reads_dK {pins : List (Addr × Obj)} {σ : L2.St} {H : Hp} {s : Shared} {a : Addr} {kvs : List (Key × V)} (I : Inv X pins σ H s) (e : H a = some (.dK kvs)) (hp : ∀ p ∈ kvs, plnV p.2 = true) : ∃ as, Reads s.heap (.ref a) (dKv kvs) as ∧ as = [a] ∧ (a == sysModules) = false := by
  obtain ⟨hz0, ya, vs, rv, o, es, ep, ho, hx, hd, hk, hpr, hn⟩ := dk_of I.hok e
  clear hz0
  have keys : Vals (kvs.map fun p => kV p.1) (es.toList.map (·.key)) := by
    clear hn hd hk ho hx ya e I hp
    generalize es.toList = l at hpr
    unfold KV at rv
    induction rv generalizing l with
    | nil => cases hpr; exact .nil
    | cons r _ ih =>
      cases hpr with
      | cons hq hv ht => exact .cons (by show RelV (kV _) _; rw [r.1]; exact key_rel hq) (ih _ ht)
  have vals : Vals (kvs.map fun p => p.2) (es.toList.map (·.val)) := by
    clear hn hd hk ho hx ya e I hp keys
    generalize es.toList = l at hpr
    unfold KV at rv
    induction rv generalizing l with
    | nil => cases hpr; exact .nil
    | cons r _ ih =>
      cases hpr with
      | cons hq hv ht => exact .cons (by show RelV _ (DictEntry.val _); rw [hv]; exact r.2) (ih _ ht)
  have r1 := reads_plns (h := s.heap) (vs := kvs.map fun p => kV p.1) (fun v hv => by obtain ⟨p, _, rfl⟩ := List.mem_map.mp hv; exact key_pln _) keys
  have r2 := reads_plns (h := s.heap) (vs := kvs.map fun p => p.2) (fun v hv => by obtain ⟨p, hq, rfl⟩ := List.mem_map.mp hv; exact hp p hq) vals
  have key := Reads.dict (kvs := kvs.map fun p => ((dV (kV p.1), dV p.2) : PyData × PyData)) (as := []) (bs := []) ho hx.1 hd ?_ ?_
  · exact ⟨_, key, rfl, ya⟩
  · rw [List.map_map] at r1 ⊢; exact r1
  · rw [List.map_map] at r2 ⊢; exact r2
/-- repr(a dict of plain values) -/
def rReprK : List V → Hp → VK → Prop := fun xs H Q => ∃ a kvs, xs = [.ref a] ∧ H a = some (.dK kvs) ∧ (∀ p ∈ kvs, plnV p.2 = true) ∧ (dKv kvs).showable = true ∧ (dKv kvs).depth ≤ 60 ∧ (dKv kvs).shown.length ≤ sizeLine ∧ Q (.str (dKv kvs).shown) H
theorem call_reprK (hr : Room n X.A) (hg : X.A.guards = some []) : CallR X (.builtin "repr") rReprK := by
  intro pins s σ H xs us Q I rx h
  obtain ⟨a, kvs, rfl, e, hp, hs, h60, hz, q⟩ := h
  obtain ⟨u, rfl, ru⟩ := vals1 rx
  cases ru
  obtain ⟨as, R, ea, ya⟩ := reads_dK I e hp
  have units := hr.units
  refine repr_of_reads' R hs (fun _ hm => ?_) hg (by omega) (fun _ _ e => e) (fun h' v tk hk => ⟨.str (dKv kvs).shown, H, I.kept (t' := tk) hk, ⟨_, rfl⟩, q⟩) hz
  rw [ea] at hm
  have := List.mem_singleton.mp hm
  rw [← this] at ya
  simp at ya
end

/-! ### != of equal dicts -/
theorem rcP_dictsNe {prog : Program} {w : World} {K : Type} [DecidableEq K] {knd : KeyKind prog w K} {A : Around} {s : Shared} {a b : Addr} {ka kb : List (K × Value)} {r : Bool} (ha : (a == sysModules) = false) (hb : (b == sysModules) = false)
    (da : s.heap.DictOf knd a ka) (db : s.heap.DictOf knd b kb) (hu : A.units < cLine) (hits : ka.length = kb.length → PySem.W.KeqHitsP prog w A.in1 s kb ka r) (E Q : Value → Shared → Prop) (h : Q (.bool (!(ka.length == kb.length && r))) s) : wpAny (model prog w) A (richCompare .NotEq (.ref a) (.ref b)) Q E s := by
  refine wpAny_richCompare_same_room (op := .NotEq) da.typeIs db.typeIs PySem.F.slot_dict_ne (wpAny_call_entry PySem.F.slot_dict_ne da.typeIs PySem.F.entry_dict_ne ?_ (PySem.F.args_dict_ne_2 _ _)) hu
  show wpAny _ _ (Builtin.Dict.dictSlotArgs "__ne__" ⟨[.ref a, .ref b], []⟩ >>= _) _ _ s
  refine wpAny_bind ?_
  unfold Builtin.Dict.dictSlotArgs
  refine wpAny_bind (wpAny_notOrdered_dict da.typeIs ?_)
  show wpAny _ _ (pure (Value.ref a, Value.ref b)) _ _ s
  refine wpAny_pure ?_
  refine wpAny_bind (wpAny_isInstance (T := "dict") db.typeIs PySem.F.sub_dict_dict ?_)
  simp only [Bool.not_true, Bool.false_eq_true, if_false]
  refine wpAny_bind (wpAny_pure (wpAny_bind (wpAny_pure ?_)))
  refine wpAny_bind (PySem.W.samePairsP ha hb da db hits ?_)
  refine wpAny_pure ⟨_, rfl, ?_, ?_⟩
  · exact fun x => nomatch x
  · have e : ∀ k : Bool, (k == false) = !k := by decide
    simpa [e] using h
/-- two dicts of plain values that are equal -/
def SameK (H : Hp) (x y : V) : Prop := ∃ a b ks ls, x = .ref a ∧ y = .ref b ∧ H a = some (.dK ks) ∧ H b = some (.dK ls) ∧ ks.length = ls.length ∧ ∀ p ∈ ks, plnV p.2 = true ∧ valV ls p.1 = some p.2
def rNeK : R2 := fun x y H Q => SameK H x y ∧ Q (.bl false) H
def rEqK : R2 := fun x y H Q => SameK H x y ∧ Q (.bl true) H
section
variable {X : Cx} {n : Nat}
theorem sameK_hits {pins : List (Addr × Obj)} {σ : L2.St} {H : Hp} {s : Shared} (I : Inv X pins σ H s) {A : Around} {ls : List (Key × V)} {vb : List (Key × Value)} (rb : KV ls vb) {ks : List (Key × V)} {va : List (Key × Value)} (ra : KV ks va)
    (h : ∀ p ∈ ks, plnV p.2 = true ∧ valV ls p.1 = some p.2) : PySem.W.KeqHitsP X.prog X.w A s vb va true := by
  refine hits_run (F := fun x y => x = y ∧ plnV x = true) (fun x y v u hxy rx ry => ?_) rb ra (fun p hp => ⟨p.2, (h p hp).2, rfl, (h p hp).1⟩)
  obtain ⟨rfl, f⟩ := hxy
  exact (eqAt_same rx ry (by cases x <;> first | rfl | cases f)).eqP
theorem op_neK (hu : X.A.units + 64 < cLine) : OpR X (compareOp .NotEq) rNeK := by
  intro pins s σ H x y v u Q I rx ry h
  obtain ⟨⟨a, b, ks, ls, rfl, rfl, ha, hb, hl, hp⟩, q⟩ := h
  cases (show v = Value.ref a from rx)
  cases (show u = Value.ref b from ry)
  obtain ⟨_, ya, va, ra, da⟩ := dk_of I.hok ha
  obtain ⟨_, yb, vb, rb, db⟩ := dk_of I.hok hb
  refine rcP_dictsNe (knd := mixKind X.prog X.w) (r := true) ya yb da db (by omega) (fun _ => sameK_hits I rb ra hp) _ _ ?_
  have e : va.length = vb.length := by rw [← ra.length, ← rb.length]; exact hl
  rw [show (!(va.length == vb.length && true)) = false from by rw [e]; simp]
  exact ⟨.bl false, H, I, rfl, q⟩
theorem op_eqK (hu : X.A.units + 64 < cLine) : OpR X (compareOp .Eq) rEqK := by
  intro pins s σ H x y v u Q I rx ry h
  obtain ⟨⟨a, b, ks, ls, rfl, rfl, ha, hb, hl, hp⟩, q⟩ := h
  cases (show v = Value.ref a from rx)
  cases (show u = Value.ref b from ry)
  obtain ⟨_, ya, va, ra, da⟩ := dk_of I.hok ha
  obtain ⟨_, yb, vb, rb, db⟩ := dk_of I.hok hb
  refine PySem.W.rcP_dicts (knd := mixKind X.prog X.w) (r := true) ya yb da db (by omega) (fun _ => sameK_hits I rb ra hp) _ _ ?_
  have e : va.length = vb.length := by rw [← ra.length, ← rb.length]; exact hl
  rw [show ((va.length == vb.length && true)) = true from by rw [e]; simp]
  exact ⟨.bl true, H, I, rfl, q⟩
end
end Kn

/-! KnB: what the trees read as. -/
namespace Kn
open PySem PySem.Spec PyProof.Rows L2

/-- the module as the readings know it -/
structure Gm where
  P : Program
  w : World
  K : PySem.W.Frag
  mg : Str → Option Value
  base : Heap
abbrev NoW : WX := fun _ _ _ _ => False

/-! ### operators, by values -/
def rAddG (K : PySem.W.Frag) : R2 := fun x y H Q => match x, y with
  | .int i, .int j => Q (.int (i + j)) H
  | .str a, .str b => a.length + b.length ≤ sizeLine ∧ Q (.str (a ++ b)) H
  | .ref p, .ref q => rCat (.ref p) (.ref q) H Q
  | _, _ => False
def rSubG : R2 := fun x y H Q => match x, y with
  | .int i, .int j => Q (.int (i - j)) H
  | _, _ => False
/-- a text k times -/
def repS (z : Str) (k : Int) : Str := ⟨(List.replicate k.toNat z.cps.toList).flatten.toArray⟩
def rMulG : R2 := fun x y H Q => match x, y with
  | .int i, .int j => CMul i j ∧ Q (.int (i * j)) H
  | .str z, .int k => (-(2 ^ 62) ≤ k ∧ k < 2 ^ 62 ∧ z.length * k.toNat ≤ sizeLine) ∧ Q (.str (repS z k)) H
  | .ref p, .int k => rRep (.ref p) (.int k) H Q
  | _, _ => False
def rDivG : R2 := fun x y H Q => match x, y with
  | .int i, .int j => (0 < j ∧ j < 2 ^ 62) ∧ Q (.int (i / j)) H
  | _, _ => False
def rModG : R2 := fun x y H Q => match x, y with
  | .int i, .int j => 0 < j ∧ Q (.int (i % j)) H
  | _, _ => False
def rPowG : R2 := fun x y H Q => match x, y with
  | .int i, .int j => CPow i j ∧ Q (.int (i ^ j.toNat)) H
  | _, _ => False
def rShlG : R2 := fun x y H Q => match x, y with
  | .int i, .int j => CPow i j ∧ Q (.int (i * 2 ^ j.toNat)) H
  | _, _ => False
def rShrG : R2 := fun x y H Q => match x, y with
  | .int i, .int j => 0 ≤ j ∧ Q (.int (i / 2 ^ j.toNat)) H
  | _, _ => False
def rAndG : R2 := fun x y H Q => match x, y with
  | .int i, .int j => Q (.int (Builtin.bitAnd i j)) H
  | _, _ => False
def rBin (G : Gm) : Operator → R2
  | .Add => rAddG G.K
  | .Sub => rSubG
  | .Mult => rMulG
  | .FloorDiv => rDivG
  | .Mod => rModG
  | .Pow => rPowG
  | .LShift => rShlG
  | .RShift => rShrG
  | .BitAnd => rAndG
  | _ => fun _ _ _ _ => False
def rNegG : V → Hp → VK → Prop := fun x H Q => match x with
  | .int i => Q (.int (-i)) H
  | _ => False
def rEqG (G : Gm) : R2 := fun x y H Q => rEq x y H Q ∨ rEqD G.K x y H Q ∨ rEqK x y H Q
def rNeG (G : Gm) : R2 := fun x y H Q => rNe x y H Q ∨ rNeD G.K x y H Q ∨ rNeK x y H Q
def rIntB (p : Int → Int → Bool) : R2 := fun x y H Q => match x, y with
  | .int i, .int j => Q (.bl (p i j)) H
  | _, _ => False
def rIsG : R2 := fun x y H Q => match y with
  | .non => Q (.bl (decide (x = .non))) H
  | _ => False
def rIsNotG : R2 := fun x y H Q => match y with
  | .non => Q (.bl (!decide (x = .non))) H
  | _ => False
/-- a text in a dict of the module -/
def rInKd (G : Gm) : R2 := fun x y H Q => ∃ (z : Str) (d : Addr) (r : Option Value) (es : Array DictEntry) (n : Nat), x = .str z ∧ y = .ref d ∧ KDict G.K G.w d es n ∧ PySem.W.nsIn G.K d z = some r ∧ Q (.bl r.isSome) H
def rInDk (k : Bool) : R2 := fun x y H Q => ∃ a o, y = .ref a ∧ DGet H a x o ∧ Q (.bl (o.isSome ^^ k)) H
/-- one sign in a text -/
def rInSg (k : Bool) : R2 := fun x y H Q => ∃ (c : Nat) (z : Str), x = .str ⟨#[c]⟩ ∧ y = .str z ∧ Q (.bl (decide (c ∈ z.cps.toList) ^^ k)) H
def rInG (G : Gm) : R2 := fun x y H Q => rInKd G x y H Q ∨ rIn G.K false x y H Q ∨ rInDk false x y H Q ∨ rInSg false x y H Q ∨ rInD G.K x y H Q
/-- not a text in a dict of the module -/
def rNotInKd (G : Gm) : R2 := fun x y H Q => ∃ (z : Str) (d : Addr) (r : Option Value) (es : Array DictEntry) (n : Nat), x = .str z ∧ y = .ref d ∧ KDict G.K G.w d es n ∧ PySem.W.nsIn G.K d z = some r ∧ Q (.bl !r.isSome) H
def rNotInG (G : Gm) : R2 := fun x y H Q => rIn G.K true x y H Q ∨ rInDk true x y H Q ∨ rInSg true x y H Q ∨ rNotInD G.K x y H Q ∨ rNotInKd G x y H Q
def rCmp (G : Gm) : CmpOp → R2
  | .Eq => rEqG G
  | .NotEq => rNeG G
  | .Lt => rIntB fun i j => decide (i < j)
  | .LtE => rIntB fun i j => decide (i ≤ j)
  | .Gt => rIntB fun i j => decide (j < i)
  | .GtE => rIntB fun i j => decide (j ≤ i)
  | .Is => rIsG
  | .IsNot => rIsNotG
  | .In => rInG G
  | .NotIn => rNotInG G
/-- a[i] -/
def rIxDk : R2 := fun x y H Q => ∃ a v, x = .ref a ∧ DGet H a y (some v) ∧ Q v H
def rIxG (G : Gm) : R2 := fun x y H Q => rIx G.K x y H Q ∨ rIxD G.K G.w x y H Q ∨ rIxDk x y H Q
def rSlG (G : Gm) : V → Option Int → Option Int → Hp → VK → Prop := fun x lo hi H Q => rSlL G.K x lo hi H Q ∨ rSlS x lo hi H Q ∨ rSlT G.K x lo hi H Q

/-! ### built-in calls, by values -/
def tabIsi (a b : String) : Bool := decide (a = b) || (decide (a = "bool") && decide (b = "int"))
def tyS : V → Option String
  | .non => some "NoneType"
  | .bl _ => some "bool"
  | .int _ => some "int"
  | .str _ => some "str"
  | _ => none
def okTy (n : String) : Bool := decide (n = "int") || decide (n = "str") || decide (n = "bool") || decide (n = "list") || decide (n = "tuple") || decide (n = "dict")
/-- the kind of what stands at an address -/
def kindAt (H : Hp) (a : Addr) (n : String) : Prop := match H a with
  | some (.lst _) => n = "list"
  | some (.tup _) => n = "tuple"
  | some (.dK _) => n = "dict"
  | _ => False
def rIsiG (G : Gm) : List V → Hp → VK → Prop := fun xs H Q => match xs with
  | [x, .ty n] => okTy n = true ∧ (match x with
    | .ref a => ∃ m, kindAt H a m ∧ Q (.bl (tabIsi m n)) H
    | x => ∃ m, tyS x = some m ∧ Q (.bl (tabIsi m n)) H)
  | [x, .ref tp] => ∃ a b, (okTy a = true ∧ okTy b = true) ∧ H tp = some (.tup [.ty a, .ty b]) ∧ (match x with
    | .ref p => ∃ m, kindAt H p m ∧ Q (.bl (tabIsi m a || tabIsi m b)) H
    | x => ∃ m, tyS x = some m ∧ Q (.bl (tabIsi m a || tabIsi m b)) H)
  | _ => False
def rLenG (G : Gm) : List V → Hp → VK → Prop := fun xs H Q => match xs with
  | [.str z] => z.length ≤ sizeLine ∧ Q (.int z.length) H
  | [.ref p] => (∃ ys, SqL G.K H p ys ∧ Q (.int ys.length) H) ∨ (∃ ys, SqT G.K H p ys ∧ Q (.int ys.length) H) ∨ ∃ kvs, H p = some (.dK kvs) ∧ Q (.int kvs.length) H
  | _ => False
def rMaxG (G : Gm) : List V → Hp → VK → Prop := fun xs H Q => match xs with
  | [.int i, .int j] => Q (.int (if j > i then j else i)) H
  | [.ref a] => rMax G.K [.ref a] H Q
  | _ => False
def rMinG (G : Gm) : List V → Hp → VK → Prop := fun xs H Q => match xs with
  | [.int i, .int j] => Q (.int (if j < i then j else i)) H
  | [.ref a] => rMin G.K [.ref a] H Q
  | _ => False
def rIntG : List V → Hp → VK → Prop := fun xs H Q => match xs with
  | [.int i] => Q (.int i) H
  | [.bl k] => Q (.int (if k then 1 else 0)) H
  | _ => False
def rStrG : List V → Hp → VK → Prop := fun xs H Q => match xs with
  | [.str a] => Q (.str a) H
  | [.int i] => i.natAbs.log2 < 1920 ∧ Q (.str (toString i)) H
  | _ => False
def rReprG (G : Gm) : List V → Hp → VK → Prop := fun xs H Q => match xs with
  | [x] => (∃ d, Dp G.K H x d ∧ d.showable = true ∧ d.hasDict = false ∧ d.depth ≤ 60 ∧ d.shown.length ≤ sizeLine ∧ Q (.str d.shown) H) ∨ rReprK [x] H Q
  | _ => False
def rAbsG : List V → Hp → VK → Prop := fun xs H Q => ∃ i, xs = [.int i] ∧ Q (.int (if i < 0 then -i else i)) H
def rSortG (G : Gm) : List V → Hp → VK → Prop := fun xs H Q => rSorted G.K xs H Q ∨ rSortedS G.K xs H Q
def rListG (G : Gm) : List V → Hp → VK → Prop := fun xs H Q => ∃ p ys, xs = [.ref p] ∧ (SqL G.K H p ys ∨ SqT G.K H p ys) ∧ ∀ l, H l = none → Q (.ref l) (upd H l (.lst ys))
def rTupG (G : Gm) : List V → Hp → VK → Prop := fun xs H Q => ∃ p ys, xs = [.ref p] ∧ ((SqL G.K H p ys ∧ ∀ l, H l = none → Q (.ref l) (upd H l (.tup ys))) ∨ (SqT G.K H p ys ∧ Q (.ref p) H))
def rDictG (G : Gm) : List V → Hp → VK → Prop := fun xs H Q => ∃ (a : Addr) (ps : List Addr) (kvs : List (Key × V)), xs = [.ref a] ∧ SqL G.K H a (ps.map V.ref) ∧ Paired (fun p kv => SqT G.K H p [kV kv.1, kv.2]) ps kvs ∧
      ∀ p, H p = none → Q (.ref p) (upd H p (.dK (mergeK [] kvs)))
def rBf (G : Gm) : Bf → List V → Hp → VK → Prop
  | .len => rLenG G
  | .max => rMaxG G
  | .min => rMinG G
  | .abs => rAbsG
  | .sum => rSum G.K
  | .repr => rReprG G
  | .sorted => rSortG G
  | .isinstance => rIsiG G
  | .int => rIntG
  | .str => rStrG
  | .list => rListG G
  | .tuple => rTupG G
  | .dict => rDictG G
  | .bool => fun _ _ _ => False
/-- methods of lists -/
def rBm (G : Gm) : Bm → V → List V → Hp → VK → Prop
  | .append => rAppend
  | .extend => rExtend
  | .pop => rPop
  | .popAt => rPopAt
  | .index => rIndex G.K
  | .clear => rClear
  | .insert => fun x vs H Q => ∃ (l : Addr) (xs : List V) (i : Int) (y : V), x = .ref l ∧ vs = [.int i, y] ∧ False
def bmTy : Bm → String := fun _ => "list"

def btyV (b : Bf) : V := match b with
  | .int => .ty "int" | .str => .ty "str" | .list => .ty "list" | .tuple => .ty "tuple" | .dict => .ty "dict" | .bool => .ty "bool"
  | _ => .non
def btyB (b : Bf) : Bool := match b with
  | .int => true | .str => true | .list => true | .tuple => true | .dict => true | .bool => true
  | _ => false

/-! ### the readings -/
/-- the truth of a value, as a test -/
def tTruG (K : PySem.W.Frag) (te : TE) : TT := fun σ H Q => te σ H fun x H' => ∃ k, TruV K x H' k ∧ Q k H'
def gIxG : TSet := fun o i v H Q => rSetL o i v H Q ∨ ∃ a H', o = .ref a ∧ DPut H a i v H' ∧ Q H'

/-- a list, a tuple or a text, walked -/
def iSeq (K : PySem.W.Frag) (te : TE) : TI := fun σ H R => te σ H fun x H1 => (∃ a, x = .ref a ∧ (((∃ xs, SqL K H1 a xs) ∧ R (Itl K a) H1) ∨ ((∃ xs, SqT K H1 a xs) ∧ R (Itt K a) H1))) ∨ ∃ z, x = .str z ∧ R (Its z) H1
mutual
def rdE (G : Gm) : E → WX → TE
  | .var i, _ => tVar i
  | .glb _ v, _ => tC v
  | .bty b, _ => tC (btyV b)
  | .cst v, _ => tC v
  | .bin op a b, W => tOp (rBin G op) (rdE G a W) (rdE G b W)
  | .neg a, W => tUn rNegG (rdE G a W)
  | .cmp op a b, W => tOp (rCmp G op) (rdE G a W) (rdE G b W)
  | .cm2 o1 o2 a b d, W => tChain (rCmp G o1) (rCmp G o2) (rdE G a W) (rdE G b W) (rdE G d W)
  | .and a b, W => tAndV (rdE G a W) (rdE G b W)
  | .or a b, W => tOrV (rdE G a W) (rdE G b W)
  | .not a, W => tNotV (rdE G a W)
  | .ite t a b, W => tIf (rdT G t W) (rdE G a W) (rdE G b W)
  | .lst es, W => tLst (rdEs G es W)
  | .tup es, W => tTup (rdEs G es W)
  | .sub a i, W => tOp (rIxG G) (rdE G a W) (rdE G i W)
  | .slc a lo hi, W => tSl (rSlG G) (rdE G a W) (rdO G lo W) (rdO G hi W)
  | .call _ sp dv es, W => fun σ H Q => rdEs G es W σ H fun vs H1 => sp (vs ++ dv) H1 Q (fun cls d H' => W cls d σ H')
  | .calk _ sp g es _ kes, W => fun σ H Q => rdEs G es W σ H fun vs H1 => rdEs G kes W σ H1 fun zs H2 => sp (g vs zs) H2 Q (fun cls d H' => W cls d σ H')
  | .bif b es, W => tCB (rBf G b) (rdEs G es W)
  | .bm m o es, W => (match es with
    | .nil => tBM0 G.K (bmTy m) (rBm G m) (rdE G o W)
    | .cons e es => tBM G.K (bmTy m) (rBm G m) (rdE G o W) (tCons (rdE G e W) (rdEs G es W)))
  | .lc elt tg src cond own, W => tLc (rdSrc G src W) (rdTg G tg NoW) (rdTs G cond NoW) (rdE G elt NoW) own
  | .xop o es, W => o.rd (rdL G es W) W
  | .lam o e, W => o.rd (fun W' => rdE G e W') W
def rdL (G : Gm) : Es → WX → List TE
  | .nil, _ => []
  | .cons e es, W => rdE G e W :: rdL G es W
def rdEs (G : Gm) : Es → WX → TA
  | .nil, _ => tNil
  | .cons e es, W => tCons (rdE G e W) (rdEs G es W)
def rdO (G : Gm) : Es → WX → TO
  | .nil, _ => tNoPart
  | .cons e _, W => tPart (rdE G e W)
def rdT (G : Gm) : T → WX → TT
  | .val e, W => tTruG G.K (rdE G e W)
  | .cmp op a b, W => tTest (tOp (rCmp G op) (rdE G a W) (rdE G b W))
  | .cm2 o1 o2 a b d, W => tTest (tChain (rCmp G o1) (rCmp G o2) (rdE G a W) (rdE G b W) (rdE G d W))
  | .and a b, W => tAnd (rdT G a W) (rdT G b W)
  | .or a b, W => tOr (rdT G a W) (rdT G b W)
  | .not a, W => tNot (rdT G a W)
def rdTs (G : Gm) : Ts → WX → TT
  | .nil, _ => tYes
  | .one t, W => rdT G t W
def rdTg (G : Gm) : Tg → WX → TG
  | .nm i, _ => gName i
  | .tp ts, W => fun v σ H Q => ∃ a xs, v = .ref a ∧ SqT G.K H a xs ∧ xs.length = Tgs.len ts ∧ rdTgs G ts W xs σ H Q
  | .ix o i, W => gSub (rdE G o W) (rdE G i W) gIxG
  | .xtg o es, W => o.rd (rdL G es W) W
def rdTgs (G : Gm) : Tgs → WX → TGs
  | .nil, _ => gNil
  | .cons t ts, W => gCons (rdTg G t W) (rdTgs G ts W)
def rdSrc (G : Gm) : Src → WX → TI
  | .plain e, W => iSeq G.K (rdE G e W)
  | .rng1 a, W => iRng1 (tCons (rdE G a W) tNil)
  | .rng2 a b, W => iRng2 (tCons (rdE G a W) (tCons (rdE G b W) tNil))
  | .zip a b, W => iZip G.K (tCons (rdE G a W) (tCons (rdE G b W) tNil))
  | .xsrc o es, W => o.rd (rdL G es W) W
end
end Kn

/-! KnC: the readings hold (operators, calls, contexts). -/
namespace Kn
open PySem PySem.Spec PyProof.Rows L2

theorem PE.imp {X : Cx} {e : Expr} {t t' : TE} (h : PE X e t) (hi : ∀ σ H Q, t' σ H Q → t σ H Q) : PE X e t' := ⟨fun pins s σ H Q I hw => h.run pins s σ H Q I (hi σ H Q hw)⟩
theorem PT.imp {X : Cx} {e : Expr} {t t' : TT} (h : PT X e t) (hi : ∀ σ H Q, t' σ H Q → t σ H Q) : PT X e t' := ⟨fun pins s σ H Q I hw => h.run pins s σ H Q I (hi σ H Q hw)⟩
theorem PE.orr {X : Cx} {e : Expr} {t t' : TE} (h : PE X e t) (h' : PE X e t') : PE X e (fun σ H Q => t σ H Q ∨ t' σ H Q) := ⟨fun pins s σ H Q I hw => hw.elim (h.run pins s σ H Q I) (h'.run pins s σ H Q I)⟩
theorem PI.orr {X : Cx} {tg e : Expr} {t t' : TI} (h : PI X tg e t) (h' : PI X tg e t') : PI X tg e (fun σ H R => t σ H R ∨ t' σ H R) := ⟨fun pins s σ H R I hw => hw.elim (h.run pins s σ H R I) (h'.run pins s σ H R I)⟩
theorem PE.given {X : Cx} {e : Expr} {t : TE} {p : Prop} (h : p → PE X e t) : PE X e (fun σ H Q => p ∧ t σ H Q) := ⟨fun pins s σ H Q I hw => (h hw.1).run pins s σ H Q I hw.2⟩
theorem PI.given {X : Cx} {tg e : Expr} {t : TI} {p : Prop} (h : p → PI X tg e t) : PI X tg e (fun σ H R => p ∧ t σ H R) := ⟨fun pins s σ H R I hw => (h hw.1).run pins s σ H R I hw.2⟩

/-- the module of a context -/
abbrev gm (X : Cx) : Gm := ⟨X.prog, X.w, X.K, X.mg, X.base⟩

section
variable {X : Cx} {n : Nat}
theorem OpR.imp {f : Value → Value → Sem Value} {r r' : R2} (h : OpR X f r) (hi : ∀ x y H Q, r' x y H Q → r x y H Q) : OpR X f r' := fun pins s σ H x y v u Q I rx ry hw => h pins s σ H x y v u Q I rx ry (hi _ _ _ _ hw)
theorem CallR.imp {f : Value} {r r' : List V → Hp → VK → Prop} (h : CallR X f r) (hi : ∀ xs H Q, r' xs H Q → r xs H Q) : CallR X f r' := fun pins s σ H xs us Q I rx hw => h pins s σ H xs us Q I rx (hi _ _ _ hw)
theorem OpR.no {f : Value → Value → Sem Value} : OpR X f (fun _ _ _ _ => False) := fun pins s σ H x y v u Q I rx ry hw => hw.elim

theorem op_addG : OpR X (binaryOp .Add) (rAddG X.K) := OpR.imp (op_add.or (op_add_str.or op_cat)) fun x y H Q h => by
  unfold rAddG at h
  split at h
  · exact .inl ⟨_, _, rfl, rfl, h⟩
  · exact .inr (.inl ⟨_, _, rfl, rfl, h.1, h.2⟩)
  · exact .inr (.inr h)
  · exact h.elim
theorem op_subG : OpR X (binaryOp .Sub) rSubG := OpR.imp op_sub fun x y H Q h => by
  unfold rSubG at h
  split at h
  · exact ⟨_, _, rfl, rfl, h⟩
  · exact h.elim
theorem fold_app : ∀ (n : Nat) (a acc : Array Nat), (List.replicate n a).foldl (· ++ ·) acc = ⟨acc.toList ++ (List.replicate n a.toList).flatten⟩
  | 0, a, acc => by simp
  | n + 1, a, acc => by
    rw [List.replicate_succ, List.foldl_cons, fold_app n, List.replicate_succ, List.flatten_cons]
    simp
theorem op_mul_strG : OpR X (binaryOp .Mult) (fun x y H Q => ∃ z k, x = .str z ∧ y = .int k ∧ (-(2 ^ 62) ≤ k ∧ k < 2 ^ 62 ∧ z.length * k.toNat ≤ sizeLine) ∧ Q (.str (repS z k)) H) := by
  intro pins s σ H x y v u Q I rx ry h
  obtain ⟨z, k, rfl, rfl, ⟨h1, h2, h3⟩, q⟩ := h
  obtain ⟨t, rfl⟩ := rx
  obtain ⟨t', rfl⟩ := ry
  have q' : Q (.str ⟨(List.replicate k.toNat z.cps).foldl (· ++ ·) #[]⟩) H := by
    have e : (⟨(List.replicate k.toNat z.cps).foldl (· ++ ·) #[]⟩ : Str) = repS z k := by
      unfold repS
      rw [fold_app]
      simp
    rw [e]
    exact q
  have hcap : ∀ m : Nat, m ≤ sizeLine → Builtin.Str.tooLong m = false := fun m hm => by
    unfold Builtin.Str.tooLong
    exact decide_eq_false (by omega)
  have hz : sizeLine = 16777216 := by decide +kernel
  refine PySem.P.mul_str (by rw [decide_eq_false (by omega), decide_eq_false (by omega)]; rfl) (fun c1 c2 c3 => ?_) (fun c1 _ => hcap _ h3) ?_
  · have k1 : 0 < k := by omega
    have e1 := (Int.le_ediv_iff_mul_le k1 (a := (z.length : Int) ) (b := 2 ^ 63 - 1)).mpr (by
      have : (z.length : Int) * k = ((z.length * k.toNat : Nat) : Int) := by rw [Int.natCast_mul, Int.toNat_of_nonneg (by omega)]
      rw [this]
      omega)
    omega
  · by_cases c1 : k < 1
    · rw [if_pos c1]
      have e : (⟨(List.replicate k.toNat z.cps).foldl (· ++ ·) #[]⟩ : Str) = Str.empty := by
        rw [show k.toNat = 0 by omega]
        rfl
      rw [e] at q'
      exact ⟨by decide, ⟨.str Str.empty, H, I.tok _, ⟨_, rfl⟩, q'⟩⟩
    · rw [if_neg c1]
      by_cases c2 : (k == 1 || z.length == 0) = true
      · rw [if_pos c2]
        have e : (⟨(List.replicate k.toNat z.cps).foldl (· ++ ·) #[]⟩ : Str) = z := by
          obtain ⟨a⟩ := z
          rcases Bool.or_eq_true_iff.mp c2 with c3 | c3
          · have c4 : k = 1 := by simpa using c3
            rw [c4]
            show (⟨(List.replicate 1 a).foldl (· ++ ·) #[]⟩ : Str) = ⟨a⟩
            simp
          · have c4 : a = #[] := by
              have : (⟨a⟩ : Str).length = 0 := by simpa using c3
              exact Array.eq_empty_of_size_eq_zero this
            rw [c4, fold_app]
            simp
        rw [e] at q'
        exact ⟨.str z, H, I, ⟨_, rfl⟩, q'⟩
      · rw [if_neg c2]
        refine ⟨?_, ⟨.str _, H, I.tok _, ⟨_, rfl⟩, q'⟩⟩
        have el : (⟨(List.replicate k.toNat z.cps).foldl (· ++ ·) #[]⟩ : Str).length = z.length * k.toNat := by
          rw [fold_app]
          show (⟨_⟩ : Array Nat).size = _
          simp [Str.length, Nat.mul_comm]
        rw [el]
        exact h3
theorem op_mulG : OpR X (binaryOp .Mult) rMulG := OpR.imp ((op_mul.or op_rep).or op_mul_strG) fun x y H Q h => by
  unfold rMulG at h
  split at h
  · exact .inl (.inl ⟨_, _, rfl, rfl, h.1, h.2⟩)
  · exact .inr ⟨_, _, rfl, rfl, h.1, h.2⟩
  · exact .inl (.inr h)
  · exact h.elim
theorem divW_of {i j : Int} (h : 0 < j ∧ j < 2 ^ 62) : CDivW i j := by
  refine wide_div (b := 62) h.1 ?_ (by decide) (by decide)
  have h1 := h.1
  have h2 := h.2
  have e : ((2 : Int) ^ 62) = 4611686018427387904 := by decide
  have e2 : ((2 : Nat) ^ 62) = 4611686018427387904 := by decide
  rw [e] at h2
  rw [e2]
  omega
theorem op_divG : OpR X (binaryOp .FloorDiv) rDivG := OpR.imp op_fdivW fun x y H Q h => by
  unfold rDivG at h
  split at h
  · exact ⟨_, _, rfl, rfl, divW_of h.1, h.2⟩
  · exact h.elim
theorem op_modG : OpR X (binaryOp .Mod) rModG := OpR.imp op_mod fun x y H Q h => by
  unfold rModG at h
  split at h
  · exact ⟨_, _, rfl, rfl, h.1, h.2⟩
  · exact h.elim
theorem op_powG : OpR X (binaryOp .Pow) rPowG := OpR.imp op_pow fun x y H Q h => by
  unfold rPowG at h
  split at h
  · exact ⟨_, _, rfl, rfl, h.1, h.2⟩
  · exact h.elim
theorem op_shlG : OpR X (binaryOp .LShift) rShlG := OpR.imp op_shl fun x y H Q h => by
  unfold rShlG at h
  split at h
  · exact ⟨_, _, rfl, rfl, h.1, h.2⟩
  · exact h.elim
theorem op_shrG : OpR X (binaryOp .RShift) rShrG := OpR.imp op_shr fun x y H Q h => by
  unfold rShrG at h
  split at h
  · exact ⟨_, _, rfl, rfl, h.1, h.2⟩
  · exact h.elim
theorem op_andG : OpR X (binaryOp .BitAnd) rAndG := OpR.imp op_and fun x y H Q h => by
  unfold rAndG at h
  split at h
  · exact ⟨_, _, rfl, rfl, h⟩
  · exact h.elim
theorem op_binG (op : Operator) : OpR X (binaryOp op) (rBin (gm X) op) := by
  cases op <;> first | exact op_addG | exact op_subG | exact op_mulG | exact op_divG | exact op_modG | exact op_powG | exact op_shlG | exact op_shrG | exact op_andG | exact OpR.no
theorem un_negG : UnR X (unaryOp .USub) rNegG := fun pins s σ H x v Q I rx h => by
  refine un_neg pins s σ H x v Q I rx ?_
  unfold rNegG at h
  split at h
  · exact ⟨_, rfl, h⟩
  · exact h.elim

theorem op_intB {op : CmpOp} {p : Int → Int → Bool} (h : OpR X (compareOp op) (rI0 fun i j => .bl (p i j))) : OpR X (compareOp op) (rIntB p) := OpR.imp h fun x y H Q h => by
  unfold rIntB at h
  split at h
  · exact ⟨_, _, rfl, rfl, h⟩
  · exact h.elim
theorem op_isG : OpR X (compareOp .Is) rIsG := OpR.imp op_isN fun x y H Q h => by
  unfold rIsG at h
  split at h
  · exact ⟨rfl, h⟩
  · exact h.elim
theorem op_isNotG : OpR X (compareOp .IsNot) rIsNotG := OpR.imp op_notN fun x y H Q h => by
  unfold rIsNotG at h
  split at h
  · exact ⟨rfl, h⟩
  · exact h.elim
theorem op_inKd : OpR X (compareOp .In) (rInKd (gm X)) := fun pins s σ H x y v u Q I rx ry h => by
  obtain ⟨z, d, r, es, m, e1, e2, D, e3, q⟩ := h
  exact op_in_kd D pins s σ H x y v u Q I rx ry ⟨z, r, e1, e2, e3, q⟩
theorem op_notInKd : OpR X (compareOp .NotIn) (rNotInKd (gm X)) := fun pins s σ H x y v u Q I rx ry h => by
  obtain ⟨z, d, r, es, m, e1, e2, D, e3, q⟩ := h
  exact op_notIn_kd D pins s σ H x y v u Q I rx ry ⟨z, r, e1, e2, e3, q⟩
theorem op_inDk (hu : X.A.units + 1 < cLine) : OpR X (compareOp .In) (rInDk false) := fun pins s σ H x y v u Q I rx ry h => by
  obtain ⟨a, o, rfl, g, q⟩ := h
  obtain rfl : u = Value.ref a := ry
  exact d_in hu I g rx fun s3 I3 => ⟨.bl o.isSome, H, I3, rfl, by simpa using q⟩
theorem op_notInDk (hu : X.A.units + 1 < cLine) : OpR X (compareOp .NotIn) (rInDk true) := fun pins s σ H x y v u Q I rx ry h => by
  obtain ⟨a, o, rfl, g, q⟩ := h
  obtain rfl : u = Value.ref a := ry
  exact d_notIn hu I g rx fun s3 I3 => ⟨.bl (!o.isSome), H, I3, rfl, by simpa using q⟩
theorem op_inSg : OpR X (compareOp .In) (rInSg false) := OpR.imp op_in_sign fun x y H Q h => by
  obtain ⟨c, z, e1, e2, q⟩ := h
  exact ⟨c, z, e1, e2, by simpa using q⟩
theorem op_notInSg : OpR X (compareOp .NotIn) (rInSg true) := OpR.imp op_notIn_sign fun x y H Q h => by
  obtain ⟨c, z, e1, e2, q⟩ := h
  exact ⟨c, z, e1, e2, by simpa using q⟩
theorem op_cmpG (hr : Room n X.A) (op : CmpOp) : OpR X (compareOp op) (rCmp (gm X) op) := by
  cases op with
  | Eq => exact op_eq.or ((op_eqD hr.units).or (op_eqK hr.units))
  | NotEq => exact op_ne.or ((op_neD hr.units).or (op_neK hr.units))
  | Lt => exact op_intB op_lt
  | LtE => exact op_intB op_le
  | Gt => exact op_intB op_gt
  | GtE => exact op_intB op_ge
  | Is => exact op_isG
  | IsNot => exact op_isNotG
  | In => exact op_inKd.or (op_in_seq.or ((op_inDk (Nat.lt_of_le_of_lt (by omega) hr.units)).or (op_inSg.or (op_inD (Nat.lt_of_le_of_lt (by omega) hr.un)))))
  | NotIn => exact op_notIn_seq.or ((op_notInDk (Nat.lt_of_le_of_lt (by omega) hr.units)).or (op_notInSg.or ((op_notInD (Nat.lt_of_le_of_lt (by omega) hr.un)).or op_notInKd)))
theorem ix_dk (hu : X.A.units + 1 < cLine) : IxR X rIxDk := by
  intro value slice pins s σ H x y v u Q I rx ry h hs
  obtain ⟨a, r, rfl, g, q⟩ := h
  obtain rfl : v = Value.ref a := rx
  exact tail_any (dict_typeIs I g) PySem.F.slot_dict_getitem.lookup (d_getItem hu I g ry fun w' s' I' rw' => ⟨r, H, I', rw', q⟩) hs
theorem ix_G (hr : Room n X.A) : IxR X (rIxG (gm X)) := IxR.or ix_seq (IxR.or ix_kdict (ix_dk (Nat.lt_of_le_of_lt (by omega) hr.units)))
theorem sl_G : SlR X (rSlG (gm X)) := SlR.or sl_list (SlR.or sl_str sl_tup)
theorem set_G (hu : X.A.units + 1 < cLine) : PSet X gIxG := by
  intro pins s σ H o i v ov iv u Q I ro ri rv h
  rcases h with h | ⟨a, H', rfl, g, q⟩
  · exact set_list pins s σ H o i v ov iv u Q I ro ri rv h
  · obtain rfl : ov = Value.ref a := ro
    exact d_setItem hu I g ri rv fun s' I' => ⟨H', I', q⟩

theorem pi_seq {tg l : Expr} {te : TE} (hl : PE X l te) : PI X tg l (iSeq X.K te) := by
  refine ⟨fun pins s σ H R I h => thn (hl.run pins s σ H _ I h) fun v s1 ⟨x, H1, I1, r1, qq⟩ => ?_⟩
  rcases qq with ⟨a, e, q1⟩ | ⟨z, e, q⟩
  case inr =>
    subst e
    obtain ⟨t, rfl⟩ := r1
    cases ha : z.cps.all (· < 128) with
    | false => exact wpAny_pyIter_wide ha (pi_one (tk := s1.toks) I1 _ (turn_str _ z t "str_iterator" (.inr rfl)) ⟨_, Heap.get?_push_size _ rfl, rfl, rfl⟩ q)
    | true => exact wpAny_pyIter_ascii ha (pi_one (tk := s1.toks) I1 _ (turn_str _ z t "str_ascii_iterator" (.inl rfl)) ⟨_, Heap.get?_push_size _ rfl, rfl, rfl⟩ q)
  subst e
  cases r1
  rcases q1 with ⟨⟨xs, hq⟩, q⟩ | ⟨⟨xs, hq⟩, q⟩
  · obtain ⟨us, rv, p, hz⟩ := I1.list hq
    refine wpAny_pyIter_list p.isList ⟨s1.heap.objs.size, [s1.heap.objs.size], _, _, H1, rfl, I1.kept (t' := s1.toks) fun b o eo => Heap.get?_push_of_some _ eo, turn_list a _, ⟨_, Heap.get?_push_size _ rfl, rfl, rfl⟩, fun b hb => ?_, q⟩
    obtain rfl : b = s1.heap.objs.size := by simpa using hb
    exact I1.fpOk Nat.le.refl (I1.hok.fresh Nat.le.refl)
  · obtain ⟨us, rv, p, hz⟩ := I1.tuple hq
    refine wpAny_pyIter_tuple (show s1.heap.IsTuple a us.toArray from p) ⟨s1.heap.objs.size, [s1.heap.objs.size], _, _, H1, rfl, I1.kept (t' := s1.toks) fun b o eo => Heap.get?_push_of_some _ eo, turn_tuple a _, ⟨_, Heap.get?_push_size _ rfl, rfl, rfl⟩, fun b hb => ?_, q⟩
    obtain rfl : b = s1.heap.objs.size := by simpa using hb
    exact I1.fpOk Nat.le.refl (I1.hok.fresh Nat.le.refl)
/-! ### built-in calls -/
theorem kit_tab : ∀ a b : String, (a = "NoneType" ∨ a = "bool" ∨ a = "int" ∨ a = "str" ∨ a = "list" ∨ a = "tuple" ∨ a = "dict") → okTy b = true → kitB a b = some (tabIsi a b) := by
  intro a b ha hb
  unfold okTy at hb
  simp only [Bool.or_eq_true, decide_eq_true_eq] at hb
  rcases ha with rfl | rfl | rfl | rfl | rfl | rfl | rfl <;> rcases hb with ((((rfl | rfl) | rfl) | rfl) | rfl) | rfl <;> decide +kernel
theorem call_isiG : CallR X (.builtin "isinstance") (rIsiG (gm X)) := CallR.imp (call_isi.or call_isiT) fun xs H Q h => by
  unfold rIsiG at h
  split at h
  · rename_i x b
    obtain ⟨hb, h⟩ := h
    split at h
    · rename_i a
      obtain ⟨m, hk, q⟩ := h
      unfold kindAt at hk
      split at hk
      · rename_i ys e
        subst hk
        exact .inl ⟨_, _, _, _, _, rfl, .ty b, .base (.lst e), kit_ty (kit_tab _ _ (by simp) hb), q⟩
      · rename_i ys e
        subst hk
        exact .inl ⟨_, _, _, _, _, rfl, .ty b, .base (.tup e), kit_ty (kit_tab _ _ (by simp) hb), q⟩
      · rename_i ys e
        subst hk
        exact .inl ⟨_, _, _, _, _, rfl, .ty b, .base (.dK e), kit_ty (kit_tab _ _ (by simp) hb), q⟩
      · exact hk.elim
    · obtain ⟨m, hm, q⟩ := h
      unfold tyS at hm
      split at hm
      · cases hm; exact .inl ⟨_, _, _, _, _, rfl, .ty b, .base .non, kit_ty (kit_tab _ _ (by simp) hb), q⟩
      · cases hm; exact .inl ⟨_, _, _, _, _, rfl, .ty b, .base (.bl _), kit_ty (kit_tab _ _ (by simp) hb), q⟩
      · cases hm; exact .inl ⟨_, _, _, _, _, rfl, .ty b, .base (.int _), kit_ty (kit_tab _ _ (by simp) hb), q⟩
      · cases hm; exact .inl ⟨_, _, _, _, _, rfl, .ty b, .base (.str _), kit_ty (kit_tab _ _ (by simp) hb), q⟩
      · cases hm
  · rename_i x tp
    obtain ⟨c1, c2, ⟨o1, o2⟩, hT, h⟩ := h
    have pr : Paired ClsV [.ty c1, .ty c2] [.type c1, .type c2] := .cons (.ty c1) (.cons (.ty c2) .nil)
    have two : ∀ m : String, (m = "NoneType" ∨ m = "bool" ∨ m = "int" ∨ m = "str" ∨ m = "list" ∨ m = "tuple" ∨ m = "dict") → PySem.W.kitAny X.K (.type m) [.type c1, .type c2] = some (tabIsi m c1 || tabIsi m c2) := fun m hm => by
      have k1 := kit_ty (K := X.K) (kit_tab m c1 hm o1)
      have k2 := kit_ty (K := X.K) (kit_tab m c2 hm o2)
      unfold PySem.W.kitAny
      rw [k1]
      cases tabIsi m c1 with
      | true => rfl
      | false =>
        unfold PySem.W.kitAny
        rw [k2]
        cases tabIsi m c2 <;> rfl
    split at h
    · rename_i a
      obtain ⟨m, hk, q⟩ := h
      unfold kindAt at hk
      split at hk
      · rename_i ys e
        subst hk
        exact .inr ⟨_, _, _, _, _, _, rfl, hT, pr, .base (.lst e), two _ (by simp), q⟩
      · rename_i ys e
        subst hk
        exact .inr ⟨_, _, _, _, _, _, rfl, hT, pr, .base (.tup e), two _ (by simp), q⟩
      · rename_i ys e
        subst hk
        exact .inr ⟨_, _, _, _, _, _, rfl, hT, pr, .base (.dK e), two _ (by simp), q⟩
      · exact hk.elim
    · obtain ⟨m, hm, q⟩ := h
      unfold tyS at hm
      split at hm
      · cases hm; exact .inr ⟨_, _, _, _, _, _, rfl, hT, pr, .base .non, two _ (by simp), q⟩
      · cases hm; exact .inr ⟨_, _, _, _, _, _, rfl, hT, pr, .base (.bl _), two _ (by simp), q⟩
      · cases hm; exact .inr ⟨_, _, _, _, _, _, rfl, hT, pr, .base (.int _), two _ (by simp), q⟩
      · cases hm; exact .inr ⟨_, _, _, _, _, _, rfl, hT, pr, .base (.str _), two _ (by simp), q⟩
      · cases hm
  · exact h.elim
theorem call_lenG : CallR X (.builtin "len") (rLenG (gm X)) := CallR.imp (call_len.or call_lenD) fun xs H Q h => by
  unfold rLenG at h
  split at h
  · exact .inl ⟨_, _, rfl, ⟨h.1, rfl⟩, h.2⟩
  · rcases h with ⟨ys, hs, q⟩ | ⟨ys, hs, q⟩ | ⟨kvs, hs, q⟩
    · exact .inl ⟨_, _, rfl, .inl ⟨ys, hs, rfl⟩, q⟩
    · exact .inl ⟨_, _, rfl, .inr ⟨ys, hs, rfl⟩, q⟩
    · exact .inr ⟨_, kvs, rfl, hs, q⟩
  · exact h.elim
theorem call_maxG (hc : X.calm = true) : CallR X (.builtin "max") (rMaxG (gm X)) := CallR.imp (CallR.or (call_max2 hc) (cr_max hc)) fun xs H Q h => by
  unfold rMaxG at h
  split at h
  · exact .inl ⟨_, _, rfl, h⟩
  · exact .inr h
  · exact h.elim
theorem call_minG (hc : X.calm = true) : CallR X (.builtin "min") (rMinG (gm X)) := CallR.imp (CallR.or (call_min2 hc) (cr_min hc)) fun xs H Q h => by
  unfold rMinG at h
  split at h
  · exact .inl ⟨_, _, rfl, h⟩
  · exact .inr h
  · exact h.elim
theorem call_intG : CallR X (.type "int") rIntG := CallR.imp call_int1 fun xs H Q h => by
  unfold rIntG at h
  split at h
  · exact .inl ⟨_, rfl, h⟩
  · exact .inr ⟨_, rfl, h⟩
  · exact h.elim
theorem call_strS : CallR X (.type "str") (fun xs H Q => ∃ a, xs = [.str a] ∧ Q (.str a) H) := by
  intro pins s σ H xs us Q I r h
  obtain ⟨a, rfl, q⟩ := h
  obtain ⟨u, rfl, t, rfl⟩ := vals1 r
  exact PySem.P.str_of_str ⟨.str a, H, I, ⟨t, rfl⟩, q⟩
theorem call_strG : CallR X (.type "str") rStrG := CallR.imp (CallR.or call_strS call_str_int) fun xs H Q h => by
  unfold rStrG at h
  split at h
  · exact .inl ⟨_, rfl, h⟩
  · exact .inr ⟨_, rfl, h.1, h.2⟩
  · exact h.elim
end
end Kn

/-! KnD: repr, calls of defs whose room tells the guards, the context of a tree. -/
namespace Kn
open PySem PySem.Spec PyProof.Rows L2

section
variable {X : Cx} {n : Nat}
theorem shown_leaf_none : (PyData.none).shown = ("None" : Str) := by simp [PyData.shown]
theorem call_reprG (hr : Room n X.A) (hg : X.A.guards = some []) : CallR X (.builtin "repr") (rReprG (gm X)) := by
  intro pins s σ H xs us Q I rx h
  unfold rReprG at h
  split at h
  · rename_i x
    rcases h with ⟨d, hd, hs, hn, h60, hz, q⟩ | h
    case inr => exact call_reprK hr hg pins s σ H _ us Q I rx h
    obtain ⟨u, rfl, ru⟩ := vals1 rx
    have units := hr.units
    obtain ⟨as, R⟩ := Dp.reads I d x u hd ru
    have ref : ∀ (a : Addr), u = .ref a → wpAny (model X.prog X.w) X.A (call (.builtin "repr") [u]) (EP X pins σ Q) X.xe s := by
      intro a e
      subst e
      exact repr_of_reads' R hs (fun e => by rw [hn] at e; cases e) hg (by omega) (fun _ _ e => e) (fun h' v tk hk => ⟨.str d.shown, H, I.kept (t' := tk) hk, ⟨_, rfl⟩, q⟩) hz
    cases hd with
    | non =>
      cases ru
      exact PySem.P.repr_of_none ⟨.str _, H, I.tok _, ⟨_, rfl⟩, by simpa [PyData.shown] using q⟩
    | bl b =>
      cases ru
      exact PySem.P.repr_of_bool ⟨.str _, H, I.tok _, ⟨_, rfl⟩, by simpa [PyData.shown] using q⟩
    | int i =>
      obtain ⟨t, rfl⟩ := ru
      exact PySem.P.repr_of_int (by simpa [PyData.showable] using hs) ⟨.str _, H, I.tok _, ⟨_, rfl⟩, by simpa [PyData.shown] using q⟩
    | str z =>
      obtain ⟨t, rfl⟩ := ru
      exact PySem.P.repr_of_str ⟨.str _, H, I.tok _, ⟨_, rfl⟩, by simpa [PyData.shown] using q⟩ (by simpa [PyData.shown] using hz)
    | lst hs' ha =>
      cases ru
      exact ref _ rfl
    | tup hs' ha =>
      cases ru
      exact ref _ rfl
  · exact h.elim
end
end Kn

/-! KnE: defs and their promises (the room tells that no repr is under way), contexts of trees. -/
namespace Kn
open PySem PySem.Spec PyProof.Rows L2

/-- the def at f keeps the promise sp -/
structure FnG (G : Gm) (k : Nat) (f : Addr) (fd : FuncData) (ps : List Str) (sp : Sp) : Prop where
  len : ∀ vs H Q E, sp vs H Q E → vs.length = ps.length
  run : ∀ (A : Around) (outer : List Env) (s : Shared) (H : Hp) (args : Args) (us : List Value) (vs : List V) (Q : VK) (E : XK), Room k A → A.guards = some [] →
    Env0 G.P G.w G.K G.mg G.base A outer s H → BindsTo s fd args (ps.zip us) → Vals vs us → sp vs H Q E →
    codeAny (model G.P G.w) A (.call (.ref f) args) (CR (L2.CX G.P G.w) outer G.P G.w H s Q E) s
theorem FnG.lift {G : Gm} {j k : Nat} {f : Addr} {fd : FuncData} {ps : List Str} {sp : Sp} (F : FnG G j f fd ps sp) (h : j ≤ k) : FnG G k f fd ps sp :=
  ⟨F.len, fun A o s H ar us vs Q E hr hg => F.run A o s H ar us vs Q E (hr.mono h) hg⟩
theorem FnG.weaker {G : Gm} {k : Nat} {f : Addr} {fd : FuncData} {ps : List Str} {sp sp' : Sp} (F : FnG G k f fd ps sp) (h : ∀ vs H Q E, sp' vs H Q E → sp vs H Q E) : FnG G k f fd ps sp' :=
  ⟨fun vs H Q E q => F.len vs H Q E (h _ _ _ _ q), fun A o s H ar us vs Q E hr hg e0 hb r q => F.run A o s H ar us vs Q E hr hg e0 hb r (h _ _ _ _ q)⟩

section
variable {X : Cx} {W : WX} {k : Nat} {f : Addr} {fd : FuncData} {ps : List Str} {sp : Sp}
/-- a def is run from a body -/
theorem run_G {pins : List (Addr × Obj)} {σ : L2.St} {H : Hp} {s : Shared} {Q : VK} {us0 us : List Value} {kw : List (Str × Value)} {vs : List V} (F : FnG (gm X) k f fd ps sp) (hr : Room k X.A) (hg : X.A.guards = some []) (tk : Takes X W)
    (I : Inv X pins σ H s) (hb : BindsTo s fd ⟨us0, kw⟩ (ps.zip us)) (r : Vals vs us) (h : sp vs H Q (fun cls d H' => W cls d σ H')) : wpAny (model X.prog X.w) X.A (call (.ref f) us0 kw) (EP X pins σ Q) X.xe s := by
  have go := F.run X.A X.stack s H ⟨us0, kw⟩ us vs Q (fun cls d H' => W cls d σ H') hr hg I.env0 hb r h
  refine wpAny_call (codeAny_mono go fun res s' hres => ?_)
  match res, hres with
  | .error e, hres => exact tk e s' (XE.of_call I (fun _ _ _ z => z) hres)
  | .ok (.ret u), hres => exact I.after hres
  | .ok .next, hres => exact False.elim hres
  | .ok .brk, hres => exact False.elim hres
  | .ok .cont, hres => exact False.elim hres
end

/-- THE RULE for a def of the text -/
theorem fnG_of {G : Gm} {k : Nat} {f : Addr} {name qual : Str} {params : Arguments} {body : List Stmt} {scope : Scope} {dV kV doc pm cdv ct oc : Value} {an od : Option Addr} {osl : Array (Option Value)} {N ps : List Str} {sp : Sp}
    (lk : G.K.lookup f = some ⟨oc, od, .func (PySem.W.fnOf name qual params body scope dV kV doc pm an cdv ct), osl⟩) (hcd : PySem.W.codeIn G.K cdv qual = true) (S : FnScope N ps scope) (len : ∀ vs H Q E, sp vs H Q E → vs.length = ps.length)
    (hbody : ∀ (A : Around) (outer : List Env) (s : Shared) (H : Hp) (vs : List V) (Q : VK) (E : XK), Room k (A.deeper (envOfC qual scope s.heap.objs.size f cdv)) → A.guards = some [] → sp vs H Q E →
      ∃ t, PSs (cxOf (L2.CX G.P G.w) G.P G.w G.K G.mg G.base N qual scope f cdv A outer s H E) body t ∧ t { nx := fun _ H' => Q .non H', rt := Q } (start N vs) H) :
    FnG G (k + 1) f (PySem.W.fnOf name qual params body scope dV kV doc pm an cdv ct) ps sp where
  len := len
  run := by
    intro A outer s H args us vs Q E hr hg e0 hb rel hsp
    have inK : G.K.In s.heap := e0.mod.kin.keeps fun b o z => (e0.bs b o z).1
    have noLim : s.heap.NoLimit := e0.mod.nolimit.keeps fun b o z => (e0.bs b o z).1
    have kinds : ∀ y ∈ ps.zip us, scope.names.lookup y.1 = some .local ∨ (scope.names.lookup y.1 = some .cell ∧ ((cellsFrom (s.heap.objs.size + 1) scope.names []).lookup y.1).isSome = true) := by
      rintro ⟨m, z⟩ hy
      rcases S.par m (List.of_mem_zip hy).1 with q | q
      · exact Or.inl q
      · exact Or.inr ⟨q, PySem.W.cellsFrom_some _ _ _ (Or.inl q)⟩
    refine codeAny_call_function hr.depth (inK _ _ lk) rfl S.co S.gen rfl (PySem.W.codeRec_of inK hcd) (hb _ _ _ _ ?_)
    refine wpAny_newFunctionEnv_cells S.kind kinds fun env he s1 inCall => ?_
    subst he
    refine ⟨noLim.keeps inCall.toInCall.keep, codeAny_func ?_⟩
    obtain ⟨t, ht, hq⟩ := hbody A outer s H vs Q E (hr.deeper _) hg hsp
    have I := inv_start (CX := L2.CX G.P G.w) (E := E) S hr.hd e0 (len _ _ _ _ hsp) rel inCall
    refine wpAny_mono (ht.run [] s1 (start N vs) H _ I hq) ?_ fun e s' z => z
    intro fl s' hs
    cases fl with
    | ret u =>
      obtain ⟨v, σ', H', J, rv, q⟩ := hs
      exact ⟨v, H', J.os, J.bare, J.base, J.hok, rv, q⟩
    | next =>
      obtain ⟨σ', H', J, q⟩ := hs
      exact ⟨V.non, H', J.os, J.bare, J.base, J.hok, rfl, q⟩
    | brk =>
      obtain ⟨_, _, _, q⟩ := hs
      exact q.elim
    | cont =>
      obtain ⟨_, _, _, q⟩ := hs
      exact q.elim

/-- the function called x keeps sp, at level n at most; dv: the defaults' values behind what is given -/
def FnAt (G : Gm) (n : Nat) (x : Str) (sp : Sp) (dv : List V) : Prop := ∃ k f fd ps ds, k ≤ n ∧ FnG G k f fd ps sp ∧ G.mg x = some (.ref f) ∧ PySem.W.keepIn G.K (.ref f) = true ∧ Binds G.K fd ps ds ∧ Vals dv ds
def FnAtK (G : Gm) (n : Nat) (x : Str) (sp : Sp) (ks : List Str) (g : List V → List V → List V) : Prop := ∃ k f fd ps g0, k ≤ n ∧ FnG G k f fd ps sp ∧ G.mg x = some (.ref f) ∧ PySem.W.keepIn G.K (.ref f) = true ∧ KBinds G.K fd ps ks g0 g
theorem FnAt.mono {G : Gm} {m n : Nat} {x : Str} {sp : Sp} {dv : List V} (h : FnAt G m x sp dv) (hm : m ≤ n) : FnAt G n x sp dv := by
  obtain ⟨k, f, fd, ps, ds, h1, h2⟩ := h
  exact ⟨k, f, fd, ps, ds, Nat.le_trans h1 hm, h2⟩

/-- how the names of what a def makes begin -/
def quOf : Str × Option Str → Str
  | (x, none) => x ++ ".<locals>."
  | (x, some m) => x ++ "." ++ m ++ ".<locals>."
/-- the context of a tree -/
structure RX (G : Gm) (c : CC) (n : Nat) (X : Cx) (W : WX) : Prop where
  g : G = gm X
  N : X.N = c.N
  sc : X.env.scope = c.sc
  nd : c.N.Nodup
  calm : X.calm = true
  room : Room n X.A
  gd : X.A.guards = some []
  tk : Takes X W
  po : PassesOwn (model X.prog X.w) X.A X.env X.xe
  fn : c.cl = true → ∀ x, X.fn x = true
  cd : ∀ p, c.q = some p → X.env.code = .ref (He.codeOf G.K p)
  ql : ∀ p, c.q = some p → X.env.qual = quOf p
theorem takesNo {X : Cx} : Takes X NoW := fun _ _ h => by
  obtain ⟨_, _, _, _, _, _, _, _, _, _, _, _, _, _, _, _, z⟩ := h
  exact z.elim
theorem RX.blk {G : Gm} {c : CC} {n : Nat} {X : Cx} {W : WX} (h : RX G c n X W) (scope : Scope) (s : Shared) (H : Hp) (C : Addr) (cl : List (Str × Addr)) (fp : List Addr) : RX G (c.blk scope) n (X.blk s H scope (compEnvC scope cl C X.env) fp) NoW where
  g := h.g
  N := h.N
  sc := by
    show relS scope X.env.scope = relS scope c.sc
    rw [h.sc]
  nd := h.nd
  calm := h.calm
  room := h.room
  gd := h.gd
  tk := takesNo
  po := PassesOwn.never
  fn := fun z => nomatch z
  cd := fun _ z => nomatch z
  ql := fun _ z => nomatch z

/-! ### small facts of the text -/
theorem star_cons {e : Expr} {es : List Expr} {env : Env} (h : notStar e = true) : starEach (e :: es) env = (false, eval e env) :: starEach es env := by
  cases e <;> first | rfl | (exact absurd h Bool.false_ne_true)
theorem star_one {e : Expr} {env : Env} (h : notStar e = true) : starEach [e] env = [(false, eval e env)] := star_cons h
theorem not_and {a b : Bool} (h : (a && b) = true) : a = true ∧ b = true := by simpa using h
theorem okNm_1 {x : Str} (h : okNm x = true) : (x == ("__debug__" : Str)) = false := by
  unfold okNm at h
  simp only [Bool.and_eq_true, Bool.not_eq_true'] at h
  exact h.1
theorem okNm_2 {x : Str} (h : okNm x = true) : (x == ("__classdict__" : Str)) = false := by
  unfold okNm at h
  simp only [Bool.and_eq_true, Bool.not_eq_true'] at h
  exact h.2
theorem visB_ok {sc : Scope} {x : Str} (h : visB sc x = true) : Vis sc x := by
  unfold visB at h
  split at h
  · exact .inl (by assumption)
  · exact .inr (.inl (by assumption))
  · exact .inr (.inr (by assumption))
  · cases h
theorem isGl_ok {c : CC} {f : Expr} {x : Str} (h : isGl c f x = true) : ∃ p, f = .Name x p ∧ c.sc.names.lookup x = some .globalImplicit ∧ okNm x = true := by
  unfold isGl at h
  split at h
  · rename_i y p
    simp only [Bool.and_eq_true, decide_eq_true_eq] at h
    obtain ⟨⟨rfl, h2⟩, h3⟩ := h
    exact ⟨p, rfl, of_decide_eq_true h2, h3⟩
  · cases h
theorem RX.gl {G : Gm} {c : CC} {n : Nat} {X : Cx} {W : WX} (h : RX G c n X W) {x : Str} (hx : c.sc.names.lookup x = some .globalImplicit) : Gl X x := by
  show X.env.scope.names.lookup x = _
  rw [h.sc]
  exact hx
theorem plain_base {e : Expr} {f : Str} {env : Env} (h : plainE e = true) : attributeBase e f env (eval e env) = eval e env := by
  unfold plainE at h
  split at h <;> first
    | rfl
    | (rename_i x p as ks pos
       have hx : (x != ("super" : Str)) = true := by simpa [bne] using h
       unfold attributeBase
       split
       · rename_i y q r e
         injection e with e1 e2 e3 e4
         injection e1 with e1 _
         subst e1
         simp [hx]
       · rfl)
    | cases h
theorem plain_fold {e : Expr} {env : Env} (h : plainE e = true) : ∀ x, foldedSetIterable e env x = pure x := fun x => by
  unfold plainE at h
  split at h <;> first | rfl | cases h
theorem ix_plain {e : Expr} (h : ixE e = true) : ∀ o i, subscripted e false o i = operate [o, i] (getItem o i) := fun o i => by
  cases e <;> first | rfl | (exact absurd h Bool.false_ne_true)
theorem tru_plain {e : Expr} {env : Env} (h : truE e = true) : ∀ whole, isTrue e env whole = (do let v ← whole; standAt e.pos; holding [v] (truthy v)) := fun whole => by
  unfold truE at h
  split at h <;> first | rfl | cases h
end Kn

/-! KnF: a tree that is checked against an expression reads it. -/
namespace Kn
open PySem PySem.Spec PyProof.Rows L2

/-- each part by its reading -/
inductive PEs (X : Cx) : List Expr → List TE → Prop
  | nil : PEs X [] []
  | cons {e : Expr} {t : TE} {es : List Expr} {ts : List TE} (he : PE X e t) (hs : notStar e = true) (r : PEs X es ts) : PEs X (e :: es) (t :: ts)
def XOk (G : Gm) (n : Nat) (o : XOp) : Prop := ∀ (c : CC) (X : Cx) (W : WX) (x : Expr) (xs : List Expr) (ts : List TE), RX G c n X W → o.ck c x = some xs → PEs X xs ts → PE X x (o.rd ts W)
def LOk (G : Gm) (n k : Nat) (o : LOp) : Prop := ∀ (c : CC) (X : Cx) (W : WX) (x : Expr) (c' : CC) (y : Expr) (t : WX → TE), RX G c n X W → o.ck c x = some (c', y) → (∀ (X' : Cx) (W' : WX), RX G c' k X' W' → PE X' y (t W')) → PE X x (o.rd t W)
def XSrcOk (G : Gm) (n : Nat) (o : XSrc) : Prop := ∀ (c : CC) (X : Cx) (W : WX) (tg x : Expr) (xs : List Expr) (ts : List TE), RX G c n X W → o.ck c tg x = some xs → PEs X xs ts → PI X tg x (o.rd ts W) ∧ ∀ v, foldedSetIterable x X.env v = pure v
def XTgOk (G : Gm) (n : Nat) (o : XTg) : Prop := ∀ (c : CC) (X : Cx) (W : WX) (x : Expr) (xs : List Expr) (ts : List TE), RX G c n X W → o.ck c x = some xs → PEs X xs ts → PG X x (o.rd ts W)
mutual
def GdE (G : Gm) (n : Nat) : E → Prop
  | .var _ => True
  | .glb x v => ∃ u, G.mg x = some u ∧ RelV v u
  | .bty b => btyB b = true ∧ G.mg (bfName b) = none
  | .cst _ => True
  | .bin _ a b => GdE G n a ∧ GdE G n b
  | .neg a => GdE G n a
  | .cmp _ a b => GdE G n a ∧ GdE G n b
  | .cm2 _ _ a b d => GdE G n a ∧ GdE G n b ∧ GdE G n d
  | .and a b => GdE G n a ∧ GdE G n b
  | .or a b => GdE G n a ∧ GdE G n b
  | .not a => GdE G n a
  | .ite t a b => GdT G n t ∧ GdE G n a ∧ GdE G n b
  | .lst es => GdEs G n es
  | .tup es => GdEs G n es
  | .sub a i => GdE G n a ∧ GdE G n i
  | .slc a lo hi => GdE G n a ∧ GdEs G n lo ∧ GdEs G n hi
  | .call x sp dv es => FnAt G n x sp dv ∧ GdEs G n es
  | .calk x sp g es ks kes => FnAtK G n x sp ks g ∧ GdEs G n es ∧ GdEs G n kes
  | .bif b es => G.mg (bfName b) = none ∧ GdEs G n es
  | .bm _ o es => GdE G n o ∧ GdEs G n es
  | .lc elt tg src cond _ => GdE G n elt ∧ GdTg G n tg ∧ GdSrc G n src ∧ GdTs G n cond
  | .xop o es => XOk G n o ∧ GdEs G n es
  | .lam o e => ∃ k, LOk G n k o ∧ GdE G k e
def GdEs (G : Gm) (n : Nat) : Es → Prop
  | .nil => True
  | .cons e es => GdE G n e ∧ GdEs G n es
def GdT (G : Gm) (n : Nat) : T → Prop
  | .val e => GdE G n e
  | .cmp _ a b => GdE G n a ∧ GdE G n b
  | .cm2 _ _ a b d => GdE G n a ∧ GdE G n b ∧ GdE G n d
  | .and a b => GdT G n a ∧ GdT G n b
  | .or a b => GdT G n a ∧ GdT G n b
  | .not a => GdT G n a
def GdTs (G : Gm) (n : Nat) : Ts → Prop
  | .nil => True
  | .one t => GdT G n t
def GdTg (G : Gm) (n : Nat) : Tg → Prop
  | .nm _ => True
  | .tp ts => GdTgs G n ts
  | .ix o i => GdE G n o ∧ GdE G n i
  | .xtg o es => XTgOk G n o ∧ GdEs G n es
def GdTgs (G : Gm) (n : Nat) : Tgs → Prop
  | .nil => True
  | .cons t ts => GdTg G n t ∧ GdTgs G n ts
def GdSrc (G : Gm) (n : Nat) : Src → Prop
  | .plain e => GdE G n e
  | .rng1 a => G.mg "range" = none ∧ GdE G n a
  | .rng2 a b => G.mg "range" = none ∧ GdE G n a ∧ GdE G n b
  | .zip a b => G.mg "zip" = none ∧ GdE G n a ∧ GdE G n b
  | .xsrc o es => XSrcOk G n o ∧ GdEs G n es
end


section
variable {X : Cx}
/-- a test of and, or: the PT is a PW -/
theorem pw_of {op : BoolOp} {vs : List Expr} {pos : Pos} {t : TT} (h : PT X (.BoolOp op vs pos) t) : PW X (.BoolOp op vs pos) t := ⟨fun whole pins s σ H Q I hw => h.run pins s σ H Q I hw⟩
theorem pa_star {pos : Pos} {es : List Expr} {env : Env} (h : ∀ e ∈ es, notStar e = true) : (backTo pos (starEach es env)).any (·.1) = false := by
  induction es with
  | nil => rfl
  | cons e es ih =>
    rw [star_cons (h e (List.mem_cons_self ..))]
    show (false || (backTo pos (starEach es env)).any (·.1)) = false
    rw [ih fun z hz => h z (List.mem_cons_of_mem _ hz)]
    rfl
theorem chkEs_star {c : CC} : ∀ {es : Es} {xs : List Expr}, chkEs c es xs = true → ∀ x ∈ xs, notStar x = true
  | .nil, xs, h, x, hx => by
    unfold chkEs at h
    cases xs with
    | nil => cases hx
    | cons => cases h
  | .cons e es, xs, h, x, hx => by
    unfold chkEs at h
    cases xs with
    | nil => cases hx
    | cons y r =>
      simp only [Bool.and_eq_true] at h
      rcases List.mem_cons.mp hx with rfl | hx
      · exact h.1.1
      · exact chkEs_star h.2 x hx

/-- f(..) of a def of the text -/
theorem pe_callG {W : WX} {n : Nat} {x : Str} {sp : Sp} {dv : List V} {t : TA} {e : Expr} {es : List Expr} {p pos : Pos} (F : FnAt (gm X) n x sp dv) (hr : Room n X.A) (hgd : X.A.guards = some []) (tk : Takes X W) (hg : Gl X x) (ha : PA X (e :: es) t) (hst : ∀ z ∈ e :: es, notStar z = true) (hdb : (x == ("__debug__" : Str)) = false) :
    PE X (.Call (.Name x p) (e :: es) [] pos) (fun σ H Q => t σ H fun vs H1 => sp (vs ++ dv) H1 Q (fun cls d H' => W cls d σ H')) := by
  obtain ⟨k, f, fd, ps, ds, hk, F1, hm, kp, hb, hd⟩ := F
  refine ⟨fun pins s σ H Q I h => ?_⟩
  refine wpAny_Call_Name_kw (ld_glob I hg hm ?_ hdb)
  have go := ha.run pos pins s σ H _ I h
  refine PySem.W.callWith_K (h₀ := X.base) I.ok.mod.kin kp (thn go fun us s1 ⟨vs, H1, I1, r, q⟩ => ⟨I1.kIn, ?_⟩) (star_cons (hst e (List.mem_cons_self ..))) (pa_star fun z hz => hst z (List.mem_cons_of_mem _ hz))
  have r2 : Vals (vs ++ dv) (us ++ ds) := r.append hd
  exact run_G F1 (hr.mono hk) hgd tk I1 (hb s1 us I1.kIn (by rw [← r2.length]; exact F1.len _ _ _ _ q)) r2 q
theorem pe_callG0 {W : WX} {n : Nat} {x : Str} {sp : Sp} {dv : List V} {p pos : Pos} (F : FnAt (gm X) n x sp dv) (hr : Room n X.A) (hgd : X.A.guards = some []) (tk : Takes X W) (hg : Gl X x) (hdb : (x == ("__debug__" : Str)) = false) :
    PE X (.Call (.Name x p) [] [] pos) (fun σ H Q => tNil σ H fun vs H1 => sp (vs ++ dv) H1 Q (fun cls d H' => W cls d σ H')) := by
  obtain ⟨k, f, fd, ps, ds, hk, F1, hm, kp, hb, hd⟩ := F
  refine ⟨fun pins s σ H Q I h => ?_⟩
  refine wpAny_Call_Name_kw (ld_glob I hg hm ?_ hdb)
  have h' : sp dv H Q (fun cls d H' => W cls d σ H') := h
  exact PySem.W.callWith_K0 I.kIn kp (run_G (us0 := []) (us := ds) F1 (hr.mono hk) hgd tk I (hb s [] I.kIn (by rw [List.nil_append, ← hd.length]; exact F1.len _ _ _ _ h')) hd h')
theorem kw_some {ks : List Str} {kws : List Keyword} {pos : Pos} {env : Env} (h : mkKw ks kws = true) : (backToKw pos (keywordEach kws env)).all (·.1.isSome) = true ∧ (backToKw pos (keywordEach kws env)).filterMap (·.1) = ks ∧ (backToKw pos (keywordEach kws env)).any (·.1.isNone) = false := by
  induction ks generalizing kws with
  | nil =>
    cases kws with
    | nil => exact ⟨rfl, rfl, rfl⟩
    | cons => simp [mkKw] at h
  | cons k ks ih =>
    cases kws with
    | nil => simp [mkKw] at h
    | cons w kws =>
      obtain ⟨ar, v, p⟩ := w
      cases ar with
      | none => simp [mkKw] at h
      | some y =>
        simp only [mkKw, Bool.and_eq_true, decide_eq_true_eq] at h
        obtain ⟨rfl, h⟩ := h
        obtain ⟨a, b, c⟩ := ih h
        refine ⟨?_, ?_, ?_⟩
        · show (true && (backToKw pos (keywordEach kws env)).all (·.1.isSome)) = true
          rw [a]; rfl
        · show y :: (backToKw pos (keywordEach kws env)).filterMap (·.1) = y :: ks
          rw [b]
        · show (false || (backToKw pos (keywordEach kws env)).any (·.1.isNone)) = false
          rw [c]; rfl
/-- f(.., k = v, ..) -/
theorem pe_callKG {W : WX} {n : Nat} {x : Str} {sp : Sp} {g : List V → List V → List V} {ks : List Str} {t tk' : TA} {e : Expr} {es : List Expr} {kws : List Keyword} {p pos : Pos} (F : FnAtK (gm X) n x sp ks g) (hr : Room n X.A) (hgd : X.A.guards = some []) (tk : Takes X W) (hg : Gl X x)
    (ha : PA X (e :: es) t) (hkw : PK X kws tk') (hk : mkKw ks kws = true) (hst : ∀ z ∈ e :: es, notStar z = true) (hdb : (x == ("__debug__" : Str)) = false) :
    PE X (.Call (.Name x p) (e :: es) kws pos) (fun σ H Q => t σ H fun vs H1 => tk' σ H1 fun zs H2 => sp (g vs zs) H2 Q (fun cls d H' => W cls d σ H')) := by
  obtain ⟨k, f, fd, ps, g0, hkn, F1, hm, kp, hb⟩ := F
  refine ⟨fun pins s σ H Q I h => ?_⟩
  refine wpAny_Call_Name_kw (ld_glob I hg hm ?_ hdb)
  obtain ⟨a1, a2, a3⟩ := kw_some (pos := pos) (env := X.env) hk
  refine PySem.W.callWith_KW (h₀ := X.base) I.ok.mod.kin kp a1 (thn (ha.run pos pins s σ H _ I h) fun us s1 ⟨vs, H1, I1, r, q⟩ => ?_) (by rw [pa_star hst, a3]; rfl) (star_cons (hst e (List.mem_cons_self ..)))
  refine thn (hkw.run pos pins s1 σ H1 _ I1 q) fun ws s2 ⟨zs, H2, I2, rz, q2⟩ => ⟨I2.kIn, ?_⟩
  rw [a2]
  have r2 := hb.rel r rz
  exact run_G F1 (hr.mono hkn) hgd tk I2 (hb.to s2 us ws I2.kIn (by rw [← r2.length]; exact F1.len _ _ _ _ q2)) r2 q2
theorem pe_callKG0 {W : WX} {n : Nat} {x : Str} {sp : Sp} {g : List V → List V → List V} {ks : List Str} {tk' : TA} {kws : List Keyword} {p pos : Pos} (F : FnAtK (gm X) n x sp ks g) (hr : Room n X.A) (hgd : X.A.guards = some []) (tk : Takes X W) (hg : Gl X x)
    (hkw : PK X kws tk') (hk : mkKw ks kws = true) (hdb : (x == ("__debug__" : Str)) = false) :
    PE X (.Call (.Name x p) [] kws pos) (fun σ H Q => tNil σ H fun vs H1 => tk' σ H1 fun zs H2 => sp (g vs zs) H2 Q (fun cls d H' => W cls d σ H')) := by
  obtain ⟨k, f, fd, ps, g0, hkn, F1, hm, kp, hb⟩ := F
  refine ⟨fun pins s σ H Q I h => ?_⟩
  refine wpAny_Call_Name_kw (ld_glob I hg hm ?_ hdb)
  obtain ⟨a1, a2, a3⟩ := kw_some (pos := pos) (env := X.env) hk
  have h' : tk' σ H fun zs H2 => sp (g [] zs) H2 Q (fun cls d H' => W cls d σ H') := h
  refine PySem.W.callWith_KW0 (h₀ := X.base) I.ok.mod.kin kp a1 (thn (hkw.run pos pins s σ H _ I h') fun ws s2 ⟨zs, H2, I2, rz, q2⟩ => ⟨I2.kIn, ?_⟩) (by rw [a3]; rfl)
  rw [a2]
  have r2 := hb.rel .nil rz
  exact run_G F1 (hr.mono hkn) hgd tk I2 (hb.to s2 [] ws I2.kIn (by rw [← r2.length]; exact F1.len _ _ _ _ q2)) r2 q2
end
end Kn

/-! KnG: the soundness of the expression trees. -/
namespace Kn
open PySem PySem.Spec PyProof.Rows L2

section
variable {X : Cx} {n : Nat}
theorem star_all {pos : Pos} {es : List Expr} {env : Env} (h : ∀ e ∈ es, notStar e = true) : (backTo pos (starEach es env)).all (fun x => !x.1) = true := by
  induction es with
  | nil => rfl
  | cons e es ih =>
    rw [star_cons (h e (List.mem_cons_self ..))]
    show (true && (backTo pos (starEach es env)).all (fun x => !x.1)) = true
    rw [ih fun z hz => h z (List.mem_cons_of_mem _ hz)]
    rfl
theorem pe_bifG (b : Bf) (hr : Room n X.A) (hgd : X.A.guards = some []) (hc : X.calm = true) {e : Expr} {es : List Expr} {t : TA} {p pos : Pos} (hg : Gl X (bfName b)) (hm : X.mg (bfName b) = none) (ha : PA X (e :: es) t) (hst : ∀ z ∈ e :: es, notStar z = true) :
    PE X (.Call (.Name (bfName b) p) (e :: es) [] pos) (tCB (rBf (gm X) b) t) := by
  have h1 : starEach (e :: es) X.env = (false, eval e X.env) :: starEach es X.env := star_cons (hst e (List.mem_cons_self ..))
  have h2 : (backTo pos (starEach es X.env)).any (·.1) = false := pa_star fun z hz => hst z (List.mem_cons_of_mem _ hz)
  cases b with
  | len => exact pe_callB call_lenG hg hm (by decide +kernel) ha (by decide +kernel) (by decide +kernel) h1 h2
  | max => exact pe_callB (call_maxG hc) hg hm (by decide +kernel) ha (by decide +kernel) (by decide +kernel) h1 h2
  | min => exact pe_callB (call_minG hc) hg hm (by decide +kernel) ha (by decide +kernel) (by decide +kernel) h1 h2
  | abs => exact pe_callB call_abs hg hm (by decide +kernel) ha (by decide +kernel) (by decide +kernel) h1 h2
  | sum => exact pe_callB (cr_sum hc) hg hm (by decide +kernel) ha (by decide +kernel) (by decide +kernel) h1 h2
  | repr => exact pe_callB (call_reprG hr hgd) hg hm (by decide +kernel) ha (by decide +kernel) (by decide +kernel) h1 h2
  | sorted => exact pe_callB (CallR.or cr_sorted cr_sortedS) hg hm (by decide +kernel) ha (by decide +kernel) (by decide +kernel) h1 h2
  | isinstance => exact pe_callB call_isiG hg hm (by decide +kernel) ha (by decide +kernel) (by decide +kernel) h1 h2
  | int => exact pe_callTy call_intG hg hm (by decide +kernel) ha (by decide +kernel) (by decide +kernel) h1 h2
  | str => exact pe_callTy call_strG hg hm (by decide +kernel) ha (by decide +kernel) (by decide +kernel) h1 h2
  | list => exact pe_callTy call_list_of hg hm (by decide +kernel) ha (by decide +kernel) (by decide +kernel) h1 h2
  | tuple => exact pe_callTy call_tuple_of hg hm (by decide +kernel) ha (by decide +kernel) (by decide +kernel) h1 h2
  | dict => exact pe_callTy (call_dictP hc) hg hm (by decide +kernel) ha (by decide +kernel) (by decide +kernel) h1 h2
  | bool => exact pe_callTy (T := "bool") (r := fun _ _ _ => False) (fun pins s σ H xs us Q I r h => h.elim) hg hm (by decide +kernel) ha (by decide +kernel) (by decide +kernel) h1 h2
theorem pe_btyG (b : Bf) {p : Pos} (hb : btyB b = true) (hg : Gl X (bfName b)) (hm : X.mg (bfName b) = none) : PE X (.Name (bfName b) p) (tC (btyV b)) := by
  cases b <;> first
    | exact pe_bltn hg hm (by decide +kernel) rfl (by decide +kernel) (by decide +kernel)
    | (exact absurd hb Bool.false_ne_true)
theorem mt_no {id : String} : MtR X id (fun x vs H Q => ∃ (l : Addr) (xs : List V) (i : Int) (y : V), x = .ref l ∧ vs = [.int i, y] ∧ False) := fun pins s σ H x vs v us Q I rx rv h => by
  obtain ⟨_, _, _, _, _, _, z⟩ := h
  exact z.elim
theorem pe_bmG (m : Bm) {o e : Expr} {es : List Expr} {to : TE} {t : TA} {apos pos : Pos} (ho : PE X o to) (ha : PA X (e :: es) t) (hst : ∀ z ∈ e :: es, notStar z = true) (hl : (apos.endLine == pos.line) = true) (hb : plainE o = true) (hn : (e :: es).length < 25) :
    PE X (.Call (.Attribute o (bmName m) apos) (e :: es) [] pos) (tBM X.K (bmTy m) (rBm (gm X) m) to t) := by
  have h1 : starEach (e :: es) X.env = (false, eval e X.env) :: starEach es X.env := star_cons (hst e (List.mem_cons_self ..))
  have h2 : (backTo pos (starEach es X.env)).any (·.1) = false := pa_star fun z hz => hst z (List.mem_cons_of_mem _ hz)
  have h3 : ((backTo pos (starEach (e :: es) X.env)).all (fun x => !x.1) && (backToKw pos (keywordEach [] X.env)).all (fun x => x.1.isSome) && decide ((e :: es).length + ([] : List Keyword).length + (if ([] : List Keyword).isEmpty then 0 else 1) < 30)) = true := by
    rw [star_all hst]
    have : (e :: es).length + ([] : List Keyword).length + (if ([] : List Keyword).isEmpty then 0 else 1) < 30 := by
      show (e :: es).length + 0 + 0 < 30
      omega
    rw [decide_eq_true this]
    rfl
  cases m with
  | append => exact pe_bm PySem.F.plainAttrs_list PySem.F.slot_list_append PySem.F.type_list_append mt_append ho ha (plain_base hb) h3 hl h1 h2
  | extend => exact pe_bm PySem.F.plainAttrs_list PySem.F.slot_list_extend PySem.F.type_list_extend mt_extend ho ha (plain_base hb) h3 hl h1 h2
  | pop => exact pe_bm PySem.F.plainAttrs_list PySem.F.slot_list_pop PySem.F.type_list_pop mt_pop ho ha (plain_base hb) h3 hl h1 h2
  | popAt => exact pe_bm PySem.F.plainAttrs_list PySem.F.slot_list_pop PySem.F.type_list_pop mt_popAt ho ha (plain_base hb) h3 hl h1 h2
  | index => exact pe_bm PySem.F.plainAttrs_list PySem.F.slot_list_index PySem.F.type_list_index mt_index ho ha (plain_base hb) h3 hl h1 h2
  | clear => exact pe_bm PySem.F.plainAttrs_list PySem.F.slot_list_clear PySem.F.type_list_clear mt_clear ho ha (plain_base hb) h3 hl h1 h2
  | insert => exact pe_bm PySem.F.plainAttrs_list PySem.F.slot_list_insert PySem.F.type_list_insert mt_no ho ha (plain_base hb) h3 hl h1 h2
theorem pe_bm0G (m : Bm) {o : Expr} {to : TE} {apos pos : Pos} (ho : PE X o to) (hl : (apos.endLine == pos.line) = true) (hb : plainE o = true) :
    PE X (.Call (.Attribute o (bmName m) apos) [] [] pos) (tBM0 X.K (bmTy m) (rBm (gm X) m) to) := by
  cases m with
  | append => exact pe_bm0 PySem.F.plainAttrs_list PySem.F.slot_list_append PySem.F.type_list_append mt_append ho (plain_base hb) hl
  | extend => exact pe_bm0 PySem.F.plainAttrs_list PySem.F.slot_list_extend PySem.F.type_list_extend mt_extend ho (plain_base hb) hl
  | pop => exact pe_bm0 PySem.F.plainAttrs_list PySem.F.slot_list_pop PySem.F.type_list_pop mt_pop ho (plain_base hb) hl
  | popAt => exact pe_bm0 PySem.F.plainAttrs_list PySem.F.slot_list_pop PySem.F.type_list_pop mt_popAt ho (plain_base hb) hl
  | index => exact pe_bm0 PySem.F.plainAttrs_list PySem.F.slot_list_index PySem.F.type_list_index mt_index ho (plain_base hb) hl
  | clear => exact pe_bm0 PySem.F.plainAttrs_list PySem.F.slot_list_clear PySem.F.type_list_clear mt_clear ho (plain_base hb) hl
  | insert => exact pe_bm0 PySem.F.plainAttrs_list PySem.F.slot_list_insert PySem.F.type_list_insert mt_no ho (plain_base hb) hl
end
section
variable {G : Gm} {c : CC} {n : Nat} {X : Cx} {W : WX}
theorem RX.loc (R : RX G c n X W) {x : Str} (h : stB c x = true) : Loc X.env.scope x ∧ (X.fn x = true ∨ X.env.scope.names.lookup x = some .local) := by
  rw [R.sc]
  unfold stB at h
  split at h
  · rename_i e
    exact ⟨.inl e, .inr e⟩
  · rename_i e
    exact ⟨.inr e, .inl (R.fn h x)⟩
  · cases h
theorem const_ok {v : V} {k : Const} {i : Nat} {pos : Pos} (h : cstB v k = true) : PE X (.Constant k i pos) (tC v) := by
  unfold cstB at h
  split at h
  · have e := of_decide_eq_true h
    subst e
    exact pe_int
  · have e := of_decide_eq_true h
    subst e
    exact pe_bl
  · exact pe_non
  · have e := of_decide_eq_true h
    subst e
    exact pe_str
  · cases h
theorem nd_own {N : List Str} (is : List Nat) : (ownOf N is).map (·.2) = is := by
  unfold ownOf
  rw [List.map_map]
  show is.map id = is
  simp
end
mutual
theorem sndE {G : Gm} : ∀ (e : E) {c : CC} {n : Nat} {X : Cx} {W : WX} {x : Expr}, RX G c n X W → GdE G n e → chkE c e x = true → PE X x (rdE G e W)
  | .var i, c, n, X, W, x, R, hd, h => by
    unfold chkE at h
    split at h
    · simp only [Bool.and_eq_true, decide_eq_true_eq] at h
      obtain ⟨⟨h1, h2⟩, h3⟩ := h
      exact pe_var (by rw [R.N]; exact h1) (by rw [R.sc]; exact visB_ok h2) (okNm_1 h3) (okNm_2 h3)
    · cases h
  | .glb y v, c, n, X, W, x, R, hd, h => by
    obtain rfl := R.g
    unfold chkE at h
    obtain ⟨p, rfl, h2, h3⟩ := isGl_ok h
    unfold GdE at hd
    obtain ⟨u, hm, r⟩ := hd
    exact pe_glob (R.gl h2) hm r (okNm_1 h3)
  | .bty b, c, n, X, W, x, R, hd, h => by
    obtain rfl := R.g
    unfold chkE at h
    obtain ⟨p, rfl, h2, h3⟩ := isGl_ok h
    unfold GdE at hd
    exact pe_btyG b hd.1 (R.gl h2) hd.2
  | .cst v, c, n, X, W, x, R, hd, h => by
    unfold chkE at h
    split at h
    · exact const_ok h
    · cases h
  | .bin op a b, c, n, X, W, x, R, hd, h => by
    obtain rfl := R.g
    unfold chkE at h
    unfold GdE at hd
    split at h
    · simp only [Bool.and_eq_true, decide_eq_true_eq] at h
      obtain ⟨⟨rfl, h2⟩, h3⟩ := h
      exact pe_op (op_binG op) (sndE a R hd.1 h2) (sndE b R hd.2 h3)
    · cases h
  | .neg a, c, n, X, W, x, R, hd, h => by
    unfold chkE at h
    unfold GdE at hd
    split at h
    · exact pe_un un_negG (sndE a R hd h)
    · cases h
  | .cmp op a b, c, n, X, W, x, R, hd, h => by
    obtain rfl := R.g
    unfold chkE at h
    unfold GdE at hd
    split at h
    · simp only [Bool.and_eq_true, decide_eq_true_eq, Bool.not_eq_true'] at h
      obtain ⟨⟨⟨rfl, h2⟩, h3⟩, h4⟩ := h
      exact pe_cmpR (op_cmpG R.room op) (sndE a R hd.1 h2) (sndE b R hd.2 h3) h4
    · cases h
  | .cm2 o1 o2 a b d, c, n, X, W, x, R, hd, h => by
    obtain rfl := R.g
    unfold chkE at h
    unfold GdE at hd
    split at h
    · simp only [Bool.and_eq_true, decide_eq_true_eq, Bool.not_eq_true'] at h
      obtain ⟨⟨⟨⟨⟨rfl, rfl⟩, h2⟩, h3⟩, h4⟩, h5⟩ := h
      exact pe_chain (op_cmpG R.room o1) (op_cmpG R.room o2) (sndE a R hd.1 h2) (sndE b R hd.2.1 h3) (sndE d R hd.2.2 h4) h5
    · cases h
  | .and a b, c, n, X, W, x, R, hd, h => by
    unfold chkE at h
    unfold GdE at hd
    split at h
    · simp only [Bool.and_eq_true] at h
      exact pe_and (sndE a R hd.1 h.1) (pe_one (sndE b R hd.2 h.2))
    · simp only [Bool.and_eq_true] at h
      exact pe_and (sndE a R hd.1 h.1) (sndE b R hd.2 h.2)
    · cases h
  | .or a b, c, n, X, W, x, R, hd, h => by
    unfold chkE at h
    unfold GdE at hd
    split at h
    · simp only [Bool.and_eq_true] at h
      exact pe_or (sndE a R hd.1 h.1) (pe_one (sndE b R hd.2 h.2))
    · simp only [Bool.and_eq_true] at h
      exact pe_or (sndE a R hd.1 h.1) (sndE b R hd.2 h.2)
    · cases h
  | .not a, c, n, X, W, x, R, hd, h => by
    unfold chkE at h
    unfold GdE at hd
    split at h
    · exact pe_not (sndE a R hd h)
    · cases h
  | .ite t a b, c, n, X, W, x, R, hd, h => by
    unfold chkE at h
    unfold GdE at hd
    split at h
    · simp only [Bool.and_eq_true] at h
      exact pe_ifExp (sndT t R hd.1 h.1.1) (sndE a R hd.2.1 h.1.2) (sndE b R hd.2.2 h.2)
    · cases h
  | .lst es, c, n, X, W, x, R, hd, h => by
    unfold chkE at h
    unfold GdE at hd
    split at h
    · exact pe_lst (sndEs es R hd h)
    · cases h
  | .tup es, c, n, X, W, x, R, hd, h => by
    unfold chkE at h
    unfold GdE at hd
    split at h
    · exact pe_tup (sndEs es R hd h)
    · cases h
  | .sub a i, c, n, X, W, x, R, hd, h => by
    obtain rfl := R.g
    unfold chkE at h
    unfold GdE at hd
    split at h
    · simp only [Bool.and_eq_true] at h
      have pa := sndE a R hd.1 h.1.1
      have pi := sndE i R hd.2 h.1.2
      exact pe_ix (ix_G R.room) pa pi (ix_plain h.2)
    · cases h
  | .slc a lo hi, c, n, X, W, x, R, hd, h => by
    obtain rfl := R.g
    unfold chkE at h
    unfold GdE at hd
    split at h
    · simp only [Bool.and_eq_true] at h
      exact pe_slice sl_G (sndE a R hd.1 h.1.1) (sndO lo R hd.2.1 h.1.2) (sndO hi R hd.2.2 h.2)
    · cases h
  | .call y sp dv es, c, n, X, W, x, R, hd, h => by
    obtain rfl := R.g
    unfold chkE at h
    unfold GdE at hd
    split at h
    · rename_i f xs pos
      simp only [Bool.and_eq_true] at h
      obtain ⟨p, rfl, h2, h3⟩ := isGl_ok h.1
      have pa := sndEs es R hd.2 h.2
      have hs := chkEs_star h.2
      cases es with
      | nil =>
        unfold chkEs at h
        cases xs with
        | nil => exact pe_callG0 hd.1 R.room R.gd R.tk (R.gl h2) (okNm_1 h3)
        | cons => exact absurd h.2 Bool.false_ne_true
      | cons e es =>
        unfold chkEs at h
        cases xs with
        | nil => exact absurd h.2 Bool.false_ne_true
        | cons z zs => exact pe_callG hd.1 R.room R.gd R.tk (R.gl h2) pa hs (okNm_1 h3)
    · cases h
  | .calk y sp g es ks kes, c, n, X, W, x, R, hd, h => by
    obtain rfl := R.g
    unfold chkE at h
    unfold GdE at hd
    split at h
    · rename_i f xs kws pos
      simp only [Bool.and_eq_true] at h
      obtain ⟨⟨⟨⟨h1, h2⟩, h3⟩, h4⟩, h5⟩ := h
      obtain ⟨p, rfl, g2, g3⟩ := isGl_ok h1
      have pa := sndEs es R hd.2.1 h2
      have hs := chkEs_star h2
      have pk := sndKs kes R hd.2.2 h5
      cases es with
      | nil =>
        unfold chkEs at h2
        cases xs with
        | nil => exact pe_callKG0 hd.1 R.room R.gd R.tk (R.gl g2) pk h3 (okNm_1 g3)
        | cons => exact absurd h2 Bool.false_ne_true
      | cons e es =>
        unfold chkEs at h2
        cases xs with
        | nil => exact absurd h2 Bool.false_ne_true
        | cons z zs => exact pe_callKG hd.1 R.room R.gd R.tk (R.gl g2) pa pk h3 hs (okNm_1 g3)
    · cases h
  | .bif b es, c, n, X, W, x, R, hd, h => by
    obtain rfl := R.g
    unfold chkE at h
    unfold GdE at hd
    split at h
    · rename_i f xs pos
      simp only [Bool.and_eq_true, Bool.not_eq_true'] at h
      obtain ⟨⟨h1, h2⟩, h3⟩ := h
      obtain ⟨p, rfl, g2, g3⟩ := isGl_ok h1
      have pa := sndEs es R hd.2 h2
      have hs := chkEs_star h2
      cases xs with
      | nil => exact absurd h3 (by simp)
      | cons z zs => exact pe_bifG b R.room R.gd R.calm (R.gl g2) hd.1 pa hs
    · cases h
  | .bm m o es, c, n, X, W, x, R, hd, h => by
    obtain rfl := R.g
    unfold chkE at h
    unfold GdE at hd
    split at h
    · rename_i y nm ap xs pos
      simp only [Bool.and_eq_true, decide_eq_true_eq] at h
      obtain ⟨⟨⟨⟨⟨rfl, h2⟩, h3⟩, h4⟩, h5⟩, h6⟩ := h
      have po := sndE o R hd.1 h2
      have pa := sndEs es R hd.2 h3
      have hs := chkEs_star h3
      have hl : (ap.endLine == pos.line) = true := by simpa using h4
      cases es with
      | nil =>
        unfold chkEs at h3
        cases xs with
        | nil => exact pe_bm0G m po hl h5
        | cons => exact absurd h3 Bool.false_ne_true
      | cons e es =>
        unfold chkEs at h3
        cases xs with
        | nil => exact absurd h3 Bool.false_ne_true
        | cons z zs => exact pe_bmG m po pa hs hl h5 h6
    · cases h
  | .lc elt tg src cond own, c, n, X, W, x, R, hd, h => by
    obtain rfl := R.g
    unfold chkE at h
    unfold GdE at hd
    split at h
    · rename_i y t i fs a scope pos
      simp only [Bool.and_eq_true, decide_eq_true_eq] at h
      obtain ⟨⟨⟨⟨⟨rfl, h1⟩, h2⟩, h3⟩, h4⟩, h5⟩ := h
      have pi := sndSrc (tg := t) src R hd.2.2.1 h1
      have bk : BlkOk X.N X.env.scope scope (ownOf c.N own) := by
        rw [R.N, R.sc]
        exact blkOk_by h5
      have key := pe_lc (pos := pos) R.calm (by rw [R.N]; exact R.nd) pi.1 bk (fun s H C cl fp => sndTg tg (R.blk scope s H C cl fp) hd.2.1 h2) (fun s H C cl fp => sndTs cond (R.blk scope s H C cl fp) hd.2.2.2 h3) (fun s H C cl fp => sndE elt (R.blk scope s H C cl fp) hd.1 h4) pi.2
      rw [nd_own] at key
      exact key
    · cases h
  | .xop o es, c, n, X, W, x, R, hd, h => by
    unfold chkE at h
    unfold GdE at hd
    split at h
    · rename_i xs e
      exact hd.1 c X W x xs _ R e (sndL es R hd.2 h)
    · cases h
  | .lam o e', c, n, X, W, x, R, hd, h => by
    unfold chkE at h
    unfold GdE at hd
    obtain ⟨k, h1, h2⟩ := hd
    split at h
    · rename_i c' y e
      exact h1 c X W x c' y _ R e fun X' W' R' => sndE e' R' h2 h
    · cases h
theorem sndL {G : Gm} : ∀ (es : Es) {c : CC} {n : Nat} {X : Cx} {W : WX} {xs : List Expr}, RX G c n X W → GdEs G n es → chkEs c es xs = true → PEs X xs (rdL G es W)
  | .nil, c, n, X, W, xs, R, hd, h => by
    unfold chkEs at h
    cases xs with
    | nil => exact .nil
    | cons => exact absurd h Bool.false_ne_true
  | .cons e es, c, n, X, W, xs, R, hd, h => by
    unfold chkEs at h
    unfold GdEs at hd
    cases xs with
    | nil => exact absurd h Bool.false_ne_true
    | cons z zs =>
      simp only [Bool.and_eq_true] at h
      exact .cons (sndE e R hd.1 h.1.2) h.1.1 (sndL es R hd.2 h.2)
theorem sndEs {G : Gm} : ∀ (es : Es) {c : CC} {n : Nat} {X : Cx} {W : WX} {xs : List Expr}, RX G c n X W → GdEs G n es → chkEs c es xs = true → PA X xs (rdEs G es W)
  | .nil, c, n, X, W, xs, R, hd, h => by
    unfold chkEs at h
    cases xs with
    | nil => exact pa_nil
    | cons => exact absurd h Bool.false_ne_true
  | .cons e es, c, n, X, W, xs, R, hd, h => by
    unfold chkEs at h
    unfold GdEs at hd
    cases xs with
    | nil => exact absurd h Bool.false_ne_true
    | cons z zs =>
      simp only [Bool.and_eq_true] at h
      exact pa_cons (sndE e R hd.1 h.1.2) (sndEs es R hd.2 h.2) (star_cons h.1.1)
theorem sndKs {G : Gm} : ∀ (es : Es) {c : CC} {n : Nat} {X : Cx} {W : WX} {kws : List Keyword}, RX G c n X W → GdEs G n es → chkEs c es (kws.map (·.value)) = true → PK X kws (rdEs G es W)
  | .nil, c, n, X, W, kws, R, hd, h => by
    unfold chkEs at h
    cases kws with
    | nil => exact pk_nil
    | cons => exact absurd h Bool.false_ne_true
  | .cons e es, c, n, X, W, kws, R, hd, h => by
    unfold chkEs at h
    unfold GdEs at hd
    cases kws with
    | nil => exact absurd h Bool.false_ne_true
    | cons z zs =>
      obtain ⟨ar, v, p⟩ := z
      have h' : (notStar v && chkE c e v && chkEs c es (zs.map (·.value))) = true := h
      simp only [Bool.and_eq_true] at h'
      exact pk_cons (sndE e R hd.1 h'.1.2) (sndKs es R hd.2 h'.2)
theorem sndO {G : Gm} : ∀ (es : Es) {c : CC} {n : Nat} {X : Cx} {W : WX} {x : Option Expr}, RX G c n X W → GdEs G n es → chkO c es x = true → PO X x (rdO G es W)
  | .nil, c, n, X, W, x, R, hd, h => by
    unfold chkO at h
    cases x with
    | none => exact po_none
    | some => exact absurd h Bool.false_ne_true
  | .cons e es, c, n, X, W, x, R, hd, h => by
    unfold chkO at h
    unfold GdEs at hd
    cases x with
    | none => exact absurd h Bool.false_ne_true
    | some y => exact po_some (sndE e R hd.1 h)
theorem sndT {G : Gm} : ∀ (t : T) {c : CC} {n : Nat} {X : Cx} {W : WX} {x : Expr}, RX G c n X W → GdT G n t → chkT c t x = true → PT X x (rdT G t W)
  | .val e, c, n, X, W, x, R, hd, h => by
    obtain rfl := R.g
    unfold chkT at h
    unfold GdT at hd
    simp only [Bool.and_eq_true] at h
    exact pt_truth (sndE e R hd h.2) (tru_plain h.1)
  | .cmp op a b, c, n, X, W, x, R, hd, h => by
    obtain rfl := R.g
    unfold chkT at h
    unfold GdT at hd
    split at h
    · simp only [Bool.and_eq_true, decide_eq_true_eq, Bool.not_eq_true'] at h
      obtain ⟨⟨⟨rfl, h2⟩, h3⟩, h4⟩ := h
      exact pt_cmpR (op_cmpG R.room op) (sndE a R hd.1 h2) (sndE b R hd.2 h3) h4
    · cases h
  | .cm2 o1 o2 a b d, c, n, X, W, x, R, hd, h => by
    obtain rfl := R.g
    unfold chkT at h
    unfold GdT at hd
    split at h
    · simp only [Bool.and_eq_true, decide_eq_true_eq, Bool.not_eq_true'] at h
      obtain ⟨⟨⟨⟨⟨rfl, rfl⟩, h2⟩, h3⟩, h4⟩, h5⟩ := h
      exact pt_chain (op_cmpG R.room o1) (op_cmpG R.room o2) (sndE a R hd.1 h2) (sndE b R hd.2.1 h3) (sndE d R hd.2.2 h4) h5
    · cases h
  | .and a b, c, n, X, W, x, R, hd, h => by
    unfold chkT at h
    unfold GdT at hd
    split at h
    · simp only [Bool.and_eq_true] at h
      exact (pw_and (sndT a R hd.1 h.1) (pw_and1 (sndT b R hd.2 h.2))).pt
    · simp only [Bool.and_eq_true] at h
      exact (pw_and (sndT a R hd.1 h.1) (pw_of (sndT b R hd.2 h.2))).pt
    · cases h
  | .or a b, c, n, X, W, x, R, hd, h => by
    unfold chkT at h
    unfold GdT at hd
    split at h
    · simp only [Bool.and_eq_true] at h
      exact (pw_or (sndT a R hd.1 h.1) (pw_or1 (sndT b R hd.2 h.2))).pt
    · simp only [Bool.and_eq_true] at h
      exact (pw_or (sndT a R hd.1 h.1) (pw_of (sndT b R hd.2 h.2))).pt
    · cases h
  | .not a, c, n, X, W, x, R, hd, h => by
    unfold chkT at h
    unfold GdT at hd
    split at h
    · exact pt_not (sndT a R hd h)
    · cases h
theorem sndTs {G : Gm} : ∀ (t : Ts) {c : CC} {n : Nat} {X : Cx} {W : WX} {xs : List Expr}, RX G c n X W → GdTs G n t → chkTs c t xs = true → PTs X xs (rdTs G t W)
  | .nil, c, n, X, W, xs, R, hd, h => by
    unfold chkTs at h
    cases xs with
    | nil => exact pts_nil
    | cons => exact absurd h Bool.false_ne_true
  | .one t, c, n, X, W, xs, R, hd, h => by
    unfold chkTs at h
    unfold GdTs at hd
    split at h
    · exact pts_one (sndT t R hd h)
    · cases h
theorem sndTg {G : Gm} : ∀ (t : Tg) {c : CC} {n : Nat} {X : Cx} {W : WX} {x : Expr}, RX G c n X W → GdTg G n t → chkTg c t x = true → PG X x (rdTg G t W)
  | .nm i, c, n, X, W, x, R, hd, h => by
    unfold chkTg at h
    split at h
    · simp only [Bool.and_eq_true, decide_eq_true_eq] at h
      obtain ⟨l1, l2⟩ := R.loc h.2
      exact pg_name (by rw [R.N]; exact R.nd) (by rw [R.N]; exact h.1) l1 l2
    · cases h
  | .tp ts, c, n, X, W, x, R, hd, h => by
    obtain rfl := R.g
    unfold chkTg at h
    unfold GdTg at hd
    split at h
    · obtain ⟨a1, a2, a3⟩ := sndTgs ts R hd h
      exact pg_tup R.calm a1 a2 a3
    · cases h
  | .ix o i, c, n, X, W, x, R, hd, h => by
    unfold chkTg at h
    unfold GdTg at hd
    split at h
    · simp only [Bool.and_eq_true] at h
      refine pg_sub (sndE o R hd.1 h.1.1) (sndE i R hd.2 h.1.2) (set_G (hu_of R.room)) fun v => ?_
      have hi := h.2
      rename_i a b p
      cases b <;> first | rfl | (exact absurd hi Bool.false_ne_true)
    · cases h
  | .xtg o es, c, n, X, W, x, R, hd, h => by
    unfold chkTg at h
    unfold GdTg at hd
    split at h
    · rename_i xs e
      exact hd.1 c X W x xs _ R e (sndL es R hd.2 h)
    · cases h
theorem sndTgs {G : Gm} : ∀ (ts : Tgs) {c : CC} {n : Nat} {X : Cx} {W : WX} {xs : List Expr}, RX G c n X W → GdTgs G n ts → chkTgs c ts xs = true →
    PGs X xs (rdTgs G ts W) ∧ (assignEach xs X.env).length = ts.len ∧ (assignEach xs X.env).findIdx? (·.1) = none
  | .nil, c, n, X, W, xs, R, hd, h => by
    unfold chkTgs at h
    cases xs with
    | nil => exact ⟨pgs_nil, rfl, rfl⟩
    | cons => exact absurd h Bool.false_ne_true
  | .cons t ts, c, n, X, W, xs, R, hd, h => by
    unfold chkTgs at h
    unfold GdTgs at hd
    cases xs with
    | nil => exact absurd h Bool.false_ne_true
    | cons z zs =>
      simp only [Bool.and_eq_true] at h
      obtain ⟨a1, a2, a3⟩ := sndTgs ts R hd.2 h.2
      have e : assignEach (z :: zs) X.env = (false, assign z X.env) :: assignEach zs X.env := by
        have hz := h.1.1
        cases z <;> first | rfl | (exact absurd hz Bool.false_ne_true)
      refine ⟨pgs_cons (sndTg t R hd.1 h.1.2) a1 (by rw [e]; rfl), ?_, ?_⟩
      · rw [e, List.length_cons, a2]
        rfl
      · rw [e, List.findIdx?_cons]
        simp [a3]
theorem sndSrc {G : Gm} : ∀ (t : Src) {c : CC} {n : Nat} {X : Cx} {W : WX} {tg x : Expr}, RX G c n X W → GdSrc G n t → chkSrc c t tg x = true → PI X tg x (rdSrc G t W) ∧ ∀ v, foldedSetIterable x X.env v = pure v
  | .plain e, c, n, X, W, tg, x, R, hd, h => by
    obtain rfl := R.g
    unfold chkSrc at h
    unfold GdSrc at hd
    simp only [Bool.and_eq_true] at h
    have pe := sndE e R hd h.2
    exact ⟨pi_seq pe, plain_fold h.1⟩
  | .rng1 a, c, n, X, W, tg, x, R, hd, h => by
    obtain rfl := R.g
    unfold chkSrc at h
    unfold GdSrc at hd
    split at h
    · simp only [Bool.and_eq_true] at h
      obtain ⟨p, rfl, g2, g3⟩ := isGl_ok h.1.1
      exact ⟨pi_range1 (R.gl g2) hd.1 (pa_cons (sndE a R hd.2 h.2) pa_nil (star_cons h.1.2)) (star_cons h.1.2), fun v => rfl⟩
    · cases h
  | .rng2 a b, c, n, X, W, tg, x, R, hd, h => by
    obtain rfl := R.g
    unfold chkSrc at h
    unfold GdSrc at hd
    split at h
    · simp only [Bool.and_eq_true] at h
      obtain ⟨⟨⟨⟨h1, h2⟩, h3⟩, h4⟩, h5⟩ := h
      obtain ⟨p, rfl, g2, g3⟩ := isGl_ok h1
      exact ⟨pi_range2 (R.gl g2) hd.1 (pa_cons (sndE a R hd.2.1 h4) (pa_cons (sndE b R hd.2.2 h5) pa_nil (star_cons h3)) (star_cons h2)) (by rw [star_cons h2, star_one h3]) (star_one h3), fun v => rfl⟩
    · cases h
  | .zip a b, c, n, X, W, tg, x, R, hd, h => by
    obtain rfl := R.g
    unfold chkSrc at h
    unfold GdSrc at hd
    split at h
    · simp only [Bool.and_eq_true] at h
      obtain ⟨⟨⟨⟨⟨h0, h1⟩, h2⟩, h3⟩, h4⟩, h5⟩ := h
      obtain ⟨p, rfl, g2, g3⟩ := isGl_ok h1
      cases tg with
      | Tuple ts k tp => exact ⟨pi_zip (R.gl g2) hd.1 (pa_cons (sndE a R hd.2.1 h4) (pa_cons (sndE b R hd.2.2 h5) pa_nil (star_cons h3)) (star_cons h2)) (by rw [star_cons h2]) (pa_star fun z hz => by rw [List.mem_singleton.mp hz]; exact h3), fun v => rfl⟩
      | _ => cases h0
    · cases h
  | .xsrc o es, c, n, X, W, tg, x, R, hd, h => by
    unfold chkSrc at h
    unfold GdSrc at hd
    split at h
    · rename_i xs e
      exact hd.1 c X W tg x xs _ R e (sndL es R hd.2 h)
    · cases h
end
end Kn

/-! KnX: own errors: made, raised, caught by several clauses with names. -/
namespace Kn
open PySem PySem.Spec PyProof.Rows L2

/-- a call of a method in its plain form -/
theorem meth_form {o : Expr} {m : Str} {ap pos : Pos} {args : List Expr} {kws : List Keyword} {env : Env} (hb : plainE o = true) (hst : ∀ z ∈ args, notStar z = true) (hk : (backToKw pos (keywordEach kws env)).all (·.1.isSome) = true) (hn : args.length + kws.length < 28) (hl : (ap.endLine == pos.line) = true) :
    eval (.Call (.Attribute o m ap) args kws pos) env = (do
      let ov ← eval o env
      standAt ap.atName
      let (f, first) ← holding [ov] (getMethod ov m (do return (← importBound o env).getD true))
      callWith pos f first (backTo pos (starEach args env)) (backToKw pos (keywordEach kws env))) := by
  have few : methodCallForm (args.length + kws.length) (backTo pos (starEach args env)) (backToKw pos (keywordEach kws env)) = true := by
    unfold methodCallForm
    rw [star_all hst, hk]
    have : args.length + kws.length + (if (backToKw pos (keywordEach kws env)).isEmpty then 0 else 1) < 30 := by
      split <;> omega
    rw [decide_eq_true this]
    rfl
  show (do
    let ov ← attributeBase o m env (eval o env)
    standAt ap.atName
    methodCall o m ap pos env ov (args.length + kws.length) (backTo pos (starEach args env)) (backToKw pos (keywordEach kws env))) = _
  rw [plain_base hb]
  unfold methodCall calleeOf methodCallPos
  rw [few, hl]
  rfl
/-- the base of the own errors, by its name -/
structure KeC (K : PySem.W.Frag) (mg : Str → Option Value) (x : Str) (C : Addr) : Prop where
  at_ : mg x = some (.ref C)
  sp : PySem.W.specialIn K (.ref C) "__getattribute__" = some (some (.builtin "type.__getattribute__"))
  ty : PySem.W.typeIn K (.ref C) = some (.type "type")
  rd : PySem.W.readsIn K C (.type "type") = true
  fi : PySem.W.findCls K (.ref C) (.type "type") "__init__" = some (.val (.builtin "ValueError.__init__"))
section
variable {X : Cx} {C : Addr} {x : Str} {p1 p2 pos : Pos}
/-- Base.__init__(self, ..), Base an own class -/
theorem pe_keinit {e : Expr} {es : List Expr} {ta : TA} (T : KeC X.K X.mg x C) (hg : Gl X x) (ha : PA X (e :: es) ta) (hst : ∀ z ∈ e :: es, notStar z = true) (hn : (e :: es).length < 20) (hl : (p2.endLine == pos.line) = true) (hdb : (x == ("__debug__" : Str)) = false) :
    PE X (.Call (.Attribute (.Name x p1) "__init__" p2) (e :: es) [] pos) (tVeI X.K ta) := by
  refine ⟨fun pins s σ H Q I h => ?_⟩
  refine PySem.W.methodCall_KW (ld_glob I hg T.at_ ?_ hdb) (meth_form (by rfl) hst (by rfl) (Nat.lt_trans hn (by decide)) hl)
  obtain ⟨m, fr⟩ := I.fr
  refine PySem.W.method_of_cls fr I.ok.mod.kin T.sp (PySem.W.cls_val fr I.ok.mod.kin T.ty T.rd T.fi (by decide +kernel) ?_)
  show wpAny _ _ (callWith pos (Value.builtin "ValueError.__init__") [] (backTo pos (starEach (e :: es) X.env)) []) _ _ _
  refine PyProof.Rows.callWith_method1 (thn (ha.run pos pins _ σ H _ (I.tok _) h) fun us s1 hh => ?_) (star_cons (hst e (List.mem_cons_self ..))) (pa_star fun z hz => hst z (List.mem_cons_of_mem _ hz))
  obtain ⟨vs, H1, I1, r1, a, C1, ws, ev, hl, T1, ea, q⟩ := hh
  subst ev
  cases r1 with
  | cons ra rw' =>
    obtain rfl := ra
    refine oinit_ok T1 I1 ea ?_ fun s' J => ⟨.non, H1, J, rfl, q⟩
    rw [← Paired.length rw', sizeLine_eq]
    omega
end

/-! ### __init__ of an error with one field -/
def spIni1 (C : Addr) (f : Str) : Sp := fun vs H Q _ => ∃ (a : Addr) (y : V), vs = [.ref a, y] ∧ H a = some (exo a C none) ∧ ∀ dx, H dx = none → dx ≠ a → Q .non (upd (upd H dx (exd dx [(f, y)])) a (exo a C (some dx)))
/-- the text of such an __init__ -/
def chkIni1 (b f v : Str) : List Stmt → Bool
  | [.Expr (.Call (.Attribute (.Name k _) i p) [.Name s1 _, .Constant (.str _) _ _] [] q) _, .Assign [.Attribute (.Name s2 _) g _] (.Name w _) _] =>
    (p.endLine == q.line) && decide (k = b) && decide (i = "__init__") && decide (s1 = "self") && decide (s2 = "self") && decide (g = f) && decide (w = v)
  | _ => false
/-- what the module says of an error class with one field f, its name x, its parameter v -/
structure Er1 (G : Gm) (x f : Str) (C : Addr) : Prop where
  at_ : G.mg x = some (.ref C)
  oex : OexC G.K C
  noF : PySem.W.findIn G.K (.ref C) f = some none
  xf : XfC G.K C
  te : PySem.W.exmOne G.K (.ref C) (.ref C) = some true
  ini : ∃ fI fd v, PySem.W.findIn G.K (.ref C) "__init__" = some (some (.ref fI)) ∧ PySem.W.typeIn G.K (.ref fI) = some (.type "function") ∧ FnOk G.P G.w G.K G.mg G.base (L2.CX G.P G.w) 1 fI fd ["self", v] (spIni1 C f) ∧ Binds G.K fd ["self", v] []
theorem ini1_ok {G : Gm} {b x f v : Str} {CB C fI : Addr} {fd : FuncData} {params : Arguments} {body : List Stmt} {scope : Scope} {qual nm : Str} (T : KeC G.K G.mg b CB) (F : FunD G.K nm qual params body scope [] [] fI fd) (S : FnScope ["self", v] ["self", v] scope)
    (O : OexC G.K C) (noF : PySem.W.findIn G.K (.ref C) f = some none) (hc : chkIni1 b f v body = true) (hgl : scope.names.lookup b = some .globalImplicit) (l1 : scope.names.lookup ("self" : Str) = some NameKind.local) (l2 : scope.names.lookup v = some NameKind.local)
    (d1 : (b == ("__debug__" : Str)) = false) (d2 : okNm v = true) :
    FnOk G.P G.w G.K G.mg G.base (L2.CX G.P G.w) 1 fI fd ["self", v] (spIni1 C f) := by
  refine F.ok S (fun vs H Q E h => ?_) (fun cdv A outer s H vs Q E hr h => ?_)
  · obtain ⟨a, y, rfl, _⟩ := h
    rfl
  · obtain ⟨a, y, rfl, ha, k⟩ := h
    unfold chkIni1 at hc
    split at hc
    · rename_i k0 p1 i0 p2 s1 p3 m0 j0 p4 p5 p6 s2 p7 g0 p8 w0 p9 p10
      simp only [Bool.and_eq_true, decide_eq_true_eq] at hc
      obtain ⟨⟨⟨⟨⟨⟨hl, rfl⟩, rfl⟩, rfl⟩, rfl⟩, rfl⟩, rfl⟩ := hc
      have n0 : (["self", w0] : List Str)[0]? = some ("self" : Str) := rfl
      have n1 : (["self", w0] : List Str)[1]? = some w0 := rfl
      have sdb : (("self" : Str) == ("__debug__" : Str)) = false := by decide +kernel
      have scd : (("self" : Str) == ("__classdict__" : Str)) = false := by decide +kernel
      have e1 := pe_keinit (X := cxOf (L2.CX G.P G.w) G.P G.w G.K G.mg G.base ["self", w0] qual scope fI cdv A outer s H E) (p1 := p1) (p2 := p2) (pos := p5) T hgl (pa_cons (pe_var (i := 0) (pos := p3) n0 (.inl l1) sdb scd) (pa_cons (pe_str (x := m0) (j := j0) (pos := p4)) pa_nil)) (by intro z hz; simp only [List.mem_cons, List.not_mem_nil, or_false] at hz; rcases hz with rfl | rfl <;> rfl) (Nat.le_of_ble_eq_true rfl) hl d1
      have e2 := ps_ost (X := cxOf (L2.CX G.P G.w) G.P G.w G.K G.mg G.base ["self", w0] qual scope fI cdv A outer s H E) (f := g0) (p' := p8) (pos := p10) (pe_var (i := 0) (pos := p7) n0 (.inl l1) sdb scd) (pe_var (i := 1) (pos := p9) n1 (.inl l2) (okNm_1 d2) (okNm_2 d2))
      refine ⟨_, pss_cons (ps_expr e1) (pss_one e2), ?_⟩
      refine ⟨_, rfl, a, C, [.str m0], rfl, Nat.le_of_ble_eq_true rfl, O, ha, ?_⟩
      exact ⟨_, rfl, _, rfl, a, C, rfl, O, noF, .inl ⟨ha, fun dx n ne => k dx n ne⟩⟩
    · cases hc

/-- one argument, whatever is known of it -/
theorem pa_closed {X : Cx} {e : Expr} {te : TE} (he : PE X e te) (hst : notStar e = true) : PA X [e] (fun σ H Q => ∃ R : VK, te σ H R ∧ ∀ y H1, R y H1 → Q [y] H1) := by
  refine ⟨fun pos pins s σ H Q I h => ?_⟩
  obtain ⟨R, h1, h2⟩ := h
  refine thn ((pa_cons he pa_nil (star_cons hst)).run pos pins s σ H (fun vs H1 => match vs with | [y] => R y H1 | _ => False) I h1) fun us s1 hh => ?_
  obtain ⟨vs, H1, I1, r, q⟩ := hh
  split at q
  · exact ⟨_, H1, I1, r, h2 _ _ q⟩
  · exact q.elim
theorem upd_del {H : Hp} {a d : Addr} {o1 o2 o3 o4 : HO} (ha : H a = none) (hne : d ≠ a) : upd (del (upd (upd (upd H a o1) d o2) a o3) a) d o4 = upd H d o4 := by
  funext b
  by_cases hd : b = d
  · subst hd
    rw [upd_same, upd_same]
  · rw [upd_ne hd, upd_ne hd]
    by_cases hb : b = a
    · subst hb
      rw [del_same, ha]
    · rw [del_ne hb, upd_ne hb, upd_ne hd, upd_ne hb]
/-- X(e) is made, X an error with one field -/
theorem pmk_er1 {X : Cx} {n : Nat} {x f : Str} {C : Addr} {e : Expr} {te : TE} {p pos : Pos} (T : Er1 (gm X) x f C) (hr : Room (n + 2) X.A) (hg : Gl X x) (he : PE X e te) (hst : notStar e = true) (hdb : (x == ("__debug__" : Str)) = false) :
    PMk X (.Call (.Name x p) [e] [] pos) (fun σ H Q => te σ H fun y H1 => ∀ d, H1 d = none → Q (.ref C) (some d) (upd H1 d (.xd [(f, y)]))) := by
  obtain ⟨fI, fd, v, i1, i2, i3, i4⟩ := T.ini
  have key := pmk_oex (p := p) (pos := pos) (X := X) (k := 1) T.oex i1 i2 i3 (hr.mono (by omega)) i4 .nil passL hg T.at_ (pa_closed he hst) hdb (star_cons hst) rfl
  intro pins s σ H Q I h
  refine key pins s σ H Q I ⟨_, h, fun y H1 q => ⟨Nat.le_of_ble_eq_true rfl, fun a ha => ⟨a, y, rfl, upd_same, fun dx hdx hne => ?_⟩⟩⟩
  rw [upd_ne hne] at hdx
  refine ⟨rfl, dx, [(f, y)], upd_same, by rw [upd_ne hne, upd_same], hdx, ?_⟩
  rw [upd_del ha hne]
  exact q dx hdx
end Kn

/-! KnY: try with several clauses, named or not. -/
namespace Kn
open PySem PySem.Spec PyProof.Rows L2

/-- a clause: its class, its name's slot, its suite's reading -/
abbrev Cl := Value × Option Nat × (Addr → Value → Option Addr → TS)
/-- behind a suite whose clause has a name the name is gone -/
def Ends.gone (D : Ends) (i : Nat) : Ends := { nx := fun σ H => D.nx (σ.set i none) H, rt := D.rt, bk := fun σ H => D.bk (σ.set i none) H, ct := fun σ H => D.ct (σ.set i none) H }
def wHs (K : PySem.W.Frag) (Wout : WX) (D : Ends) : List Cl → WX
  | [] => Wout
  | (c, none, ts) :: r => fun cls d σ H => ∃ b, PySem.W.exmOne K cls c = some b ∧ (b = true → ∀ a, H a = none → ts a cls d D σ H) ∧ (b = false → wHs K Wout D r cls d σ H)
  | (c, some i, ts) :: r => fun cls d σ H => ∃ b, PySem.W.exmOne K cls c = some b ∧ (b = true → ∀ a, H a = none → ts a cls d (Ends.gone D i) (σ.set i (some (.ref a))) H) ∧ (b = false → wHs K Wout D r cls d σ H)
abbrev SuiteOk (X : Cx) (sts : List Stmt) (ts : Addr → Value → Option Addr → TS) : Prop := ∀ (a : Addr) (oe : Obj) (cls : Value) (d : Option Addr) (pn : List (Addr × Obj)), Zc cls d oe → (∃ vs, oe.data = .fields vs) → PSs (X.suite a ((a, oe) :: pn)) sts (ts a cls d)
inductive HdA (X : Cx) : List ExceptHandler → List Cl → Prop
  | nil : HdA X [] []
  | bare {x : Str} {c : Value} {ts : Addr → Value → Option Addr → TS} {b : Stmt} {su : List Stmt} {np p : Pos} {hds : List ExceptHandler} {l : List Cl} (hc : Names X x c) (hsu : SuiteOk X (b :: su) ts) (r : HdA X hds l) :
      HdA X (.ExceptHandler (some (.Name x np)) none (b :: su) p :: hds) ((c, none, ts) :: l)
  | named {x m : Str} {i : Nat} {c : Value} {ts : Addr → Value → Option Addr → TS} {b : Stmt} {su : List Stmt} {np p : Pos} {hds : List ExceptHandler} {l : List Cl} (hc : Names X x c) (hi : X.N[i]? = some m) (hl : X.env.kindOf m = some .local) (hsu : SuiteOk X (b :: su) ts) (r : HdA X hds l) :
      HdA X (.ExceptHandler (some (.Name x np)) (some m) (b :: su) p :: hds) ((c, some i, ts) :: l)
section
variable {X : Cx} {body : List Stmt} {h0 : ExceptHandler} {hds : List ExceptHandler} {l : List Cl} {pos : Pos} {tb : WX → TS} {Wout : WX}
theorem ps_tryA (hs : X.stack = X.env :: X.outer) (hf : X.env.frame = some X.env.locals) (hN : X.N.Nodup) (tk : Takes X Wout)
    (hb : ∀ (W : WX) (pn : List (Addr × Obj)) (xe : Value → Shared → Prop), Takes (X.tr pn xe) W → PassesOwn (model X.prog X.w) X.A X.env xe → PSs (X.tr pn xe) body (tb W)) (hh : HdA X (h0 :: hds) l) :
    PS X (.Try body (h0 :: hds) [] [] pos) (fun D σ H => tb (wHs X.K Wout D l) D σ H) := by
  constructor
  intro pins s σ H D I h
  have good := I.ok
  have fr : X.A.frames = some (X.env :: X.outer) := by rw [good.frames, hs]
  have bodyRun := hb (wHs X.K Wout D l) (X.pn ++ pins) (fun e s1 => wpAny (model X.prog X.w) X.A (noteFrame e X.env) (fun _ s2 => wpAny (model X.prog X.w) X.A (setFlight e none) (fun _ s3 =>
    wpAny (model X.prog X.w) X.A (handleBy e X.env (h0 :: hds)) (SP X pins D) X.xe s3) X.xe s2) X.xe s1)
  refine wpAny_Try_except (wpAny_mono ((bodyRun (fun u s' air => ?_) PassesOwn.looking).run [] s σ H D (I.toTry _) h) (fun f s1 out => ?_) fun e s1 z => z)
  · -- an error has left the body
    obtain ⟨a, B, sI, pins', τ, G, cls, d, rfl, J', ground, upTo, sky, fresh, osEq, bareG, wish⟩ := air
    have J := J'.ofTry good
    rw [hs] at sky
    show wpAny (model X.prog X.w) X.A (noteFrame (.ref a) X.env) _ _ _
    refine Sky.land Zc.steady fr hf sky fun hA fly upA => ?_
    have JA : L2.Inv X pins τ G { s' with heap := hA } := J.landed ground fly.1 (upTo.trans upA) osEq bareG
    obtain ⟨oeA, vsA, atA, zcA, datA⟩ := fly.there
    have apart : a ∉ frs (X.env :: X.outer) := fun hm => by
      obtain ⟨_, ob, atB, noF⟩ := fly.2.2.1.mem hm
      rw [atA] at atB
      cases atB
      exact noF _ datA
    have aL : a ≠ X.env.locals := fun z => apart (List.mem_filterMap.mpr ⟨X.env, List.mem_cons_self, by rw [hf, z]⟩)
    have aF : a ∉ X.fs := fun hm => by
      obtain ⟨e1, m1, q1⟩ := List.mem_filterMap.mp hm
      exact apart (List.mem_filterMap.mpr ⟨e1, List.mem_cons_of_mem _ m1, q1⟩)
    have SA := JA.suite atA datA fresh aL aF
    -- one clause after the other
    have clauses : ∀ {hs' : List ExceptHandler} {l' : List Cl}, HdA X hs' l' → wHs X.K Wout D l' cls d τ G → wpAny (model X.prog X.w) X.A (handleBy (.ref a) X.env hs') (SP X pins D) X.xe { s' with heap := hA } := by
      have tested : ∀ {x : Str} {c : Value} {np : Pos} {b : Bool} {Q : Bool → Shared → Prop} {E : Value → Shared → Prop}, Names X x c → PySem.W.exmOne X.K cls c = some b → Q b { s' with heap := hA } →
          wpAny (model X.prog X.w) (X.A.mark (some (.ref a))) (eval (.Name x np) X.env) (fun v s2 => wpAny (model X.prog X.w) (X.A.mark (some (.ref a))) (excMatches (.ref a) v) Q E s2) E { s' with heap := hA } := by
        intro x c np b Q E hc hb1 q
        have tyA : PySem.W.Looks (model X.prog X.w) hA (typeOf (.ref a)) cls := fun A Q E s k z => wpAny_typeOf_ref (k _ _ atA) (by rw [zcA.1]; exact z)
        have ex := PySem.W.exm_one (M := model X.prog X.w) (JA.kIn) tyA hb1
        obtain ⟨hg, hdbg, hm | ⟨hm, hv, hnn⟩⟩ := hc
        · exact ld_glob (X := X.suite a ((a, oeA) :: (X.pn ++ pins))) SA hg hm (ex.here q) hdbg
        · exact ld_blt (X := X.suite a ((a, oeA) :: (X.pn ++ pins))) SA hg hm hv (ex.here q) hnn hdbg
      intro hs' l' hk
      induction hk with
      | nil =>
        intro wish
        refine wpAny_handleBy_nil ?_
        obtain ⟨k1, k2, k3, oe, vs, Tb, oT, ts', he, hz, hd, h1, hr⟩ := id fly
        unfold PySem.passOn
        refine wpAny_bind (wpAny_field he hd h1 ?_)
        rw [if_neg (show ¬ ((Value.ref Tb == Value.none) = true) from by simp)]
        have rest : wpAny (model X.prog X.w) X.A (setFlight (.ref a) X.env.frame) (fun _ s4 => wpAny (model X.prog X.w) X.A (throw (.ref a) : Sem Flow) (SP X pins D) X.xe s4) X.xe { s' with heap := hA } := by
          rw [hf]
          exact HandSPX.setFlight_upZ fly fun h4 held up4 => wpAny_throw (tk _ _ ⟨a, B, sI, pins, τ, G, cls, d, rfl, J, ground, (upTo.trans upA).trans up4, .inr (.inr (by rw [hs]; exact held)), fresh, osEq, bareG, wish⟩)
        first
          | exact wpAny_bind (wpAny_pure (wpAny_bind rest))
          | exact wpAny_bind rest
      | @bare x c ts b su np p hds2 l2 hc hsu r ih =>
        intro wish
        obtain ⟨k, hb1, yes, no⟩ := wish
        refine wpAny_handleBy_cons (codeAny_handlers_test (tested hc hb1 ?_)) (by intro q; cases q)
        cases k with
        | false =>
          show wpAny _ X.A (handleBy (.ref a) X.env hds2) _ _ _
          exact ih (no rfl)
        | true =>
          refine codeAny_handlers_suite (HandSPX.lands_againZ fly fun hB flyB upB => ?_)
          obtain ⟨oeB, vsB, atB, zcB, datB⟩ := flyB.there
          have JB : L2.Inv X pins τ G { s' with heap := hB } := J.landed ground flyB.1 ((upTo.trans upA).trans upB) osEq bareG
          have SB := JB.suite atB datB fresh aL aF
          refine wpAny_mono ((hsu a oeB cls d (X.pn ++ pins) zcB ⟨_, datB⟩).run [] _ _ G _ SB (yes rfl a fresh)) (fun f s6 out => ?_) fun _ _ z => z.elim
          match f, out with
          | .next, ⟨τ6, G6, S6, q6⟩ => exact ⟨τ6, G6, S6.unsuite good, q6⟩
          | .brk, ⟨τ6, G6, S6, q6⟩ => exact ⟨τ6, G6, S6.unsuite good, q6⟩
          | .cont, ⟨τ6, G6, S6, q6⟩ => exact ⟨τ6, G6, S6.unsuite good, q6⟩
          | .ret u, ⟨v6, τ6, G6, S6, r6, q6⟩ => exact ⟨v6, τ6, G6, S6.unsuite good, r6, q6⟩
      | @named x m i c ts b su np p hds2 l2 hc hi hl hsu r ih =>
        intro wish
        obtain ⟨k, hb1, yes, no⟩ := wish
        refine wpAny_handleBy_cons (codeAny_handlers_test (tested hc hb1 ?_)) (by intro q; cases q)
        cases k with
        | false =>
          show wpAny _ X.A (handleBy (.ref a) X.env hds2) _ _ _
          exact ih (no rfl)
        | true =>
          refine codeAny_handlers_suite_as (HandSPX.lands_againZ fly fun hB flyB upB => ?_)
          obtain ⟨oeB, vsB, atB, zcB, datB⟩ := flyB.there
          have JB : L2.Inv X pins τ G { s' with heap := hB } := J.landed ground flyB.1 ((upTo.trans upA).trans upB) osEq bareG
          have SB := JB.suite atB datB fresh aL aF
          refine store_ok (X := X.suite a ((a, oeB) :: (X.pn ++ pins))) (v := .ref a) SB hN hi (.inl hl) rfl (fun s5 S5 => ?_) (.inr hl)
          refine wpAny_mono ((hsu a oeB cls d (X.pn ++ pins) zcB ⟨_, datB⟩).run [] s5 _ G _ S5 (yes rfl a fresh)) (fun f s6 out => ?_) fun _ _ z => z.elim
          have gone : ∀ {τ6 : L2.St} {G6 : Hp} {Q : Shared → Prop}, L2.Inv (X.suite a ((a, oeB) :: (X.pn ++ pins))) [] τ6 G6 s6 → (∀ s7, L2.Inv X pins (τ6.set i none) G6 s7 → Q s7) →
              wpAny (model X.prog X.w) X.A (do bindName X.env m .none; unbindBehindTheSuite X.env m p) (fun _ s7 => Q s7) X.xe s6 := fun S6 q => gone_ok (S6.unsuite good) hN hi hl q
          match f, out with
          | .next, ⟨τ6, G6, S6, q6⟩ => exact gone S6 fun s7 J7 => ⟨_, _, J7, q6⟩
          | .brk, ⟨τ6, G6, S6, q6⟩ => exact gone S6 fun s7 J7 => ⟨_, _, J7, q6⟩
          | .cont, ⟨τ6, G6, S6, q6⟩ => exact gone S6 fun s7 J7 => ⟨_, _, J7, q6⟩
          | .ret u, ⟨v6, τ6, G6, S6, r6, q6⟩ => exact gone S6 fun s7 J7 => ⟨_, _, _, J7, r6, q6⟩
    exact clauses hh wish
  · match f, out with
    | .next, ⟨τ6, G6, S6, q6⟩ => exact wpAny_execs_nil ⟨τ6, G6, S6.ofTry good, q6⟩
    | .brk, ⟨τ6, G6, S6, q6⟩ => exact ⟨τ6, G6, S6.ofTry good, q6⟩
    | .cont, ⟨τ6, G6, S6, q6⟩ => exact ⟨τ6, G6, S6.ofTry good, q6⟩
    | .ret u, ⟨v6, τ6, G6, S6, r6, q6⟩ => exact ⟨v6, τ6, G6, S6.ofTry good, r6, q6⟩
end
end Kn

/-! KnS: trees of statements, their check, readings, soundness. -/
namespace Kn
open PySem PySem.Spec PyProof.Rows L2

/-- an item in an except suite: a constant, or a field of the error in slot j -/
inductive SE where
  | cst (v : V)
  | xf (j : Nat) (f : Str)
/-- an except suite -/
inductive Su where
  | lst (i : Nat) (es : List SE)
  | ret (v : V)
  | xsu (o : XSu)
/-- a wrapper of a statement -/
structure WSt where
  rd : (WX → TS) → WX → TS
mutual
inductive S where
  | asg (t : Tg) (e : E)
  | par2 (i j : Nat) (a b : E)
  | aug (i : Nat) (op : Operator) (e : E)
  | ret (e : E)
  | retN
  | exp (e : E)
  | iff (c : T) (a b : Ss)
  | for_ (t : Tg) (s : Src) (b : Ss)
  | whl (c : T) (b : Ss)
  | pass
  | brk
  | cnt
  | rs1 (x f : Str) (e : E)
  | try_ (b : Ss) (hs : Hs)
  | xst (o : XSt) (es : Es)
  | wr (o : WSt) (s : S)
inductive Ss where
  | nil
  | cons (s : S) (r : Ss)
inductive Hs where
  | nil
  | cons (x : Str) (nm : Option Nat) (su : Su) (r : Hs)
end

/-! ### the check -/
def lcE : E → Bool
  | .lc _ _ _ _ _ => true
  | _ => false
def nmTg : Tg → Bool
  | .nm _ => true
  | _ => false
def notComp : Expr → Bool
  | .ListComp _ _ _ _ => false
  | .SetComp _ _ _ _ => false
  | .DictComp _ _ _ _ _ => false
  | _ => true
def isTupE : Expr → Bool
  | .Tuple _ _ _ => true
  | .List _ _ => true
  | _ => false
def clearTg : Expr → Bool
  | .Name _ _ => true
  | .Tuple _ _ _ => true
  | .Subscript _ _ _ => true
  | _ => false
def foldTup : Expr → Bool
  | .Tuple vs _ _ => vs.all (foldedForSure 8)
  | _ => false
/-- one of the two names is seen from within: the plain way of storing -/
def cellTup (c : CC) : Expr → Expr → Bool
  | .Tuple [.Name x _, .Name y _] _ _, .Tuple [_, _] _ _ => decide (c.sc.names.lookup x ≠ some .local) || decide (c.sc.names.lookup y ≠ some .local)
  | _, _ => false
def asgB (c : CC) (t e : Expr) : Bool := match e with
  | .ListComp _ _ scope p => (match t with
    | .Name y q => (decide (c.sc.kind = .function) && decide (c.sc.names.lookup y = some .local) && (q.line == p.line) && !(scope.names.any fun z => z.1 == y && (z.2 == .local || z.2 == .cell))) || decide (c.sc.names.lookup y = some .cell)
    | _ => false)
  | .SetComp _ _ _ _ => false
  | .DictComp _ _ _ _ _ => false
  | e => clearTg t && (!(isTupE t && isTupE e) || foldTup e || cellTup c t e)
def chkSE (c : CC) : SE → Expr → Bool
  | .cst v, e => (match e with | .Constant k _ _ => cstB v k | _ => false)
  | .xf j f, e => (match e with | .Attribute (.Name x _) g _ => decide (c.N[j]? = some x) && visB c.sc x && okNm x && decide (g = f) | _ => false)
def chkSEs (c : CC) : List SE → List Expr → Bool
  | [], xs => xs.isEmpty
  | s :: ss, xs => (match xs with | x :: r => notStar x && chkSE c s x && chkSEs c ss r | [] => false)
def chkSu (c : CC) : Su → List Stmt → Bool
  | .lst i es, b => (match b with | [.Assign [.Name y _] (.List xs _) _] => decide (c.N[i]? = some y) && stB c y && chkSEs c es xs | _ => false)
  | .ret v, b => (match b with | [.Return (some (.Constant k _ _)) _] => cstB v k | _ => false)
  | .xsu o, b => o.ck c b
def parB (c : CC) (i j : Nat) (x y : Str) (px py : Pos) (a b : Expr) : Bool :=
  decide (c.sc.kind = .function) && decide (i ≠ j) && decide (c.N[i]? = some x) && decide (c.N[j]? = some y) && decide (c.sc.names.lookup x = some .local) && decide (c.sc.names.lookup y = some .local) && (px.line == py.line) && notStar a && notStar b && !([a, b].all (foldedForSure 8)) && !([a, b].all (constantsAlone 8)) && !(x == y)
mutual
def chkS (c : CC) : S → Stmt → Bool
  | .asg t e, s => (match s with | .Assign [y] x _ => asgB c y x && chkTg c t y && chkE c e x && (notComp x || (lcE e && nmTg t)) | _ => false)
  | .par2 i j a b, s => (match s with
    | .Assign [.Tuple [.Name x px, .Name y py] _ _] (.Tuple [u, v] _ _) _ => parB c i j x y px py u v && chkE c a u && chkE c b v
    | _ => false)
  | .aug i op e, s => (match s with | .AugAssign (.Name y _) o x _ => decide (c.N[i]? = some y) && stB c y && decide (o = op) && chkE c e x && (decide (op = .Add) || decide (op = .Sub)) | _ => false)
  | .ret e, s => (match s with | .Return (some x) _ => chkE c e x | _ => false)
  | .retN, s => (match s with | .Return none _ => true | _ => false)
  | .exp e, s => (match s with | .Expr x _ => notComp x && chkE c e x | _ => false)
  | .iff t a b, s => (match s with | .If x u v _ => chkT c t x && chkSs c a u && chkSs c b v | _ => false)
  | .for_ t r b, s => (match s with | .For x i u [] _ => chkTg c t x && chkSrc c r x i && chkSs c b u | _ => false)
  | .whl t b, s => (match s with | .While x u [] _ => chkT c t x && chkSs c b u | _ => false)
  | .pass, s => (match s with | .Pass _ => true | _ => false)
  | .brk, s => (match s with | .Break _ => true | _ => false)
  | .cnt, s => (match s with | .Continue _ => true | _ => false)
  | .rs1 x _ e, s => (match s with | .Raise (some (.Call f [y] [] _)) none _ => isGl c f x && notStar y && chkE c e y | _ => false)
  | .try_ b hs, s => (match s with | .Try u (h :: r) [] [] _ => chkSs c b u && chkHs c hs (h :: r) | _ => false)
  | .xst o es, s => (match o.ck c s with | some xs => chkEs c es xs | none => false)
  | .wr _ b, s => chkS c b s
def chkSs (c : CC) : Ss → List Stmt → Bool
  | .nil, b => b.isEmpty
  | .cons s r, b => (match b with | x :: y => chkS c s x && chkSs c r y | [] => false)
def chkHs (c : CC) : Hs → List ExceptHandler → Bool
  | .nil, l => l.isEmpty
  | .cons x nm su r, l => (match l with
    | .ExceptHandler (some (.Name y _)) m (b :: bs) _ :: l' => decide (y = x) && glB c.sc x && okNm x && chkSu c su (b :: bs) && chkHs c r l' &&
        (match nm, m with
          | none, none => true
          | some i, some n => decide (c.N[i]? = some n) && decide (c.sc.names.lookup n = some .local)
          | _, _ => false)
    | _ => false)
end

/-! ### the readings -/
def rdSE (a : Addr) (cls : Value) (d : Option Addr) (C : Addr) : SE → TE
  | .cst v => tC v
  | .xf j f => tXf a cls d C f (tVar j)
def rdSEs (a : Addr) (cls : Value) (d : Option Addr) (C : Addr) : List SE → TA
  | [] => tNil
  | s :: r => tCons (rdSE a cls d C s) (rdSEs a cls d C r)
def rdSu (W : WX) (a : Addr) (cls : Value) (d : Option Addr) (C : Addr) : Su → TS
  | .lst i es => tAsg (tLst (rdSEs a cls d C es)) (gName i)
  | .ret v => tRet (tC v)
  | .xsu o => o.rd W a cls d C
def clV (G : Gm) (x : Str) : Value := (G.mg x).getD .none
def clA (G : Gm) (x : Str) : Addr := match G.mg x with
  | some (.ref C) => C
  | _ => 0
def clsOf (G : Gm) (W : WX) : Hs → List Cl
  | .nil => []
  | .cons x nm su r => (clV G x, nm, fun a cls d => rdSu W a cls d (clA G x) su) :: clsOf G W r
def ipG : Operator → TIp
  | .Add => ipI fun i j => i + j
  | .Sub => ipI fun i j => i - j
  | _ => fun _ _ _ _ => False
mutual
def rdS (G : Gm) : S → WX → TS
  | .asg t e, W => tAsg (rdE G e W) (rdTg G t W)
  | .par2 i j a b, W => tPar i j (tCons (rdE G a W) (tCons (rdE G b W) tNil))
  | .aug i op e, W => tAug i (rdE G e W) (ipG op)
  | .ret e, W => tRet (rdE G e W)
  | .retN, _ => tRetN
  | .exp e, W => tDrop (rdE G e W)
  | .iff c a b, W => tIfS (rdT G c W) (rdSs G a W) (rdSs G b W)
  | .for_ t s b, W => tFor (rdSrc G s W) (rdTg G t W) (rdSs G b W)
  | .whl c b, W => tWhile (rdT G c W) (rdSs G b W)
  | .pass, _ => tNext
  | .brk, _ => tBreak
  | .cnt, _ => tCont
  | .rs1 x f e, W => fun _ σ H => rdE G e W σ H fun y H1 => ∀ d, H1 d = none → W (clV G x) (some d) σ (upd H1 d (.xd [(f, y)]))
  | .try_ b hs, W => fun D σ H => rdSs G b (wHs G.K W D (clsOf G W hs)) D σ H
  | .xst o es, W => o.rd (rdL G es W) W
  | .wr o b, W => o.rd (fun W' => rdS G b W') W
def rdSs (G : Gm) : Ss → WX → TS
  | .nil, _ => tNext
  | .cons s r, W => tSeq (rdS G s W) (rdSs G r W)
end

/-! ### what must stand -/
structure RS (G : Gm) (c : CC) (n : Nat) (X : Cx) (W : WX) : Prop extends RX G c n X W where
  stk : X.stack = X.env :: X.outer
  frm : X.env.frame = some X.env.locals
def XStOk (G : Gm) (n : Nat) (o : XSt) : Prop := ∀ (c : CC) (X : Cx) (W : WX) (x : Stmt) (xs : List Expr) (ts : List TE), RS G c n X W → o.ck c x = some xs → PEs X xs ts → PS X x (o.rd ts W)
def WOk (G : Gm) (n : Nat) (o : WSt) : Prop := ∀ (c : CC) (X : Cx) (W : WX) (x : Stmt) (t : WX → TS), RS G c n X W → (∀ W', Takes X W' → PS X x (t W')) → PS X x (o.rd t W)
def GdSE (G : Gm) (C : Addr) : SE → Prop
  | .cst _ => True
  | .xf _ f => PySem.W.findIn G.K (.ref C) f = some none ∧ XfC G.K C
def XSuOk (G : Gm) (n : Nat) (C : Addr) (o : XSu) : Prop := ∀ (c : CC) (X : Cx) (W : WX) (b : List Stmt), RX G c n X W → o.ck c b = true → SuiteOk X b (fun a cls d => o.rd W a cls d C)
def GdSu (G : Gm) (n : Nat) (C : Addr) : Su → Prop
  | .lst _ es => ∀ e ∈ es, GdSE G C e
  | .ret _ => True
  | .xsu o => XSuOk G n C o
mutual
def GdS (G : Gm) (n : Nat) : S → Prop
  | .asg t e => GdTg G n t ∧ GdE G n e
  | .par2 _ _ a b => GdE G n a ∧ GdE G n b
  | .aug _ _ e => GdE G n e
  | .ret e => GdE G n e
  | .retN => True
  | .exp e => GdE G n e
  | .iff c a b => GdT G n c ∧ GdSs G n a ∧ GdSs G n b
  | .for_ t s b => GdTg G n t ∧ GdSrc G n s ∧ GdSs G n b
  | .whl c b => GdT G n c ∧ GdSs G n b
  | .pass => True
  | .brk => True
  | .cnt => True
  | .rs1 x f e => (∃ C, Er1 G x f C ∧ 2 ≤ n) ∧ GdE G n e
  | .try_ b hs => GdSs G n b ∧ GdHs G n hs
  | .xst o es => XStOk G n o ∧ GdEs G n es
  | .wr o b => WOk G n o ∧ GdS G n b
def GdSs (G : Gm) (n : Nat) : Ss → Prop
  | .nil => True
  | .cons s r => GdS G n s ∧ GdSs G n r
def GdHs (G : Gm) (n : Nat) : Hs → Prop
  | .nil => True
  | .cons x _ su r => (∃ C, G.mg x = some (.ref C) ∧ GdSu G n C su) ∧ GdHs G n r
end

/-! ### soundness -/
section
variable {G : Gm} {c : CC} {n : Nat} {X : Cx} {W : WX}
theorem RS.tr (R : RS G c n X W) {W' : WX} {pn : List (Addr × Obj)} {xe : Value → Shared → Prop} (tk : Takes (X.tr pn xe) W') (po : PassesOwn (model X.prog X.w) X.A X.env xe) : RS G c n (X.tr pn xe) W' where
  g := R.g
  N := R.N
  sc := R.sc
  nd := R.nd
  calm := R.calm
  room := R.room
  gd := R.gd
  tk := tk
  po := po
  fn := R.fn
  cd := R.cd
  ql := R.ql
  stk := R.stk
  frm := R.frm
theorem RS.tr0 (R : RS G c n X W) {W' : WX} (tk : Takes X W') : RS G c n X W' where
  g := R.g
  N := R.N
  sc := R.sc
  nd := R.nd
  calm := R.calm
  room := R.room
  gd := R.gd
  tk := tk
  po := R.po
  fn := R.fn
  cd := R.cd
  ql := R.ql
  stk := R.stk
  frm := R.frm
theorem asg_no {t e : Expr} {l : Nat} {env : Env} (h1 : notComp e = true) : swapsWithSole [t] e l env = pure false := by
  cases e <;> first | rfl | (exact absurd h1 Bool.false_ne_true)
theorem exp_no {e : Expr} {l : Nat} {env : Env} (h1 : notComp e = true) : swapsWith e none l env = pure false := by
  cases e <;> first | rfl | (exact absurd h1 Bool.false_ne_true)
theorem sto_fold {t : Expr} {vs : List Expr} {k : Nat} {p : Pos} {env : Env} (h : vs.all (foldedForSure 8) = true) : swappedStores [t] (.Tuple vs k p) env = pure none := by
  unfold swappedStores
  cases t <;> first | rfl | (simp only [h, if_true]; (repeat' split) <;> rfl)
theorem sto_no {t e : Expr} {env : Env} (h : (!(isTupE t && isTupE e) || foldTup e) = true) : swappedStores [t] e env = pure none := by
  rcases Bool.or_eq_true_iff.mp h with h | h
  · unfold swappedStores
    cases t <;> first | rfl | (cases e <;> first | rfl | (exact absurd h (by simp [isTupE])))
  · unfold foldTup at h
    split at h
    · exact sto_fold h
    · cases h
theorem sto_cell {c : CC} {t e : Expr} {env : Env} (hs : env.scope = c.sc) (h : cellTup c t e = true) : swappedStores [t] e env = pure none := by
  unfold cellTup at h
  split at h
  · rename_i x p y q k r a b k2 r2
    have hx : env.kindOf x = c.sc.names.lookup x := by show env.scope.names.lookup x = _; rw [hs]
    have hy : env.kindOf y = c.sc.names.lookup y := by show env.scope.names.lookup y = _; rw [hs]
    rw [Bool.or_eq_true, decide_eq_true_eq, decide_eq_true_eq, ← hx, ← hy] at h
    have hb : (env.kindOf x == some NameKind.local) = false ∨ (env.kindOf y == some NameKind.local) = false := by
      rcases h with h | h
      · exact .inl (beq_eq_false_iff_ne.mpr h)
      · exact .inr (beq_eq_false_iff_ne.mpr h)
    unfold swappedStores
    simp only [List.filterMap_cons, List.filterMap_nil, List.length_cons, List.length_nil]
    rcases hb with hb | hb
    · simp only [hb, Bool.false_and, Bool.false_eq_true, if_false]
      generalize (env.kindOf y == some NameKind.local && q.line == (Option.map (fun x : Expr => x.pos.line) [Expr.Name x p, Expr.Name y q].head?).getD 0) = bb
      by_cases k1 : (!(0 + 1 + 1 == 2 || 0 + 1 + 1 == 3) || 0 + 1 + 1 != 0 + 1 + 1 || env.blockKind != ScopeKind.function) = true
      · rw [if_pos k1]
      · rw [if_neg k1]
        split
        · rfl
        · cases bb <;> rfl
    · simp only [hb, Bool.false_and, Bool.false_eq_true, if_false]
      generalize (env.kindOf x == some NameKind.local && p.line == (Option.map (fun x : Expr => x.pos.line) [Expr.Name x p, Expr.Name y q].head?).getD 0) = bb
      by_cases k1 : (!(0 + 1 + 1 == 2 || 0 + 1 + 1 == 3) || 0 + 1 + 1 != 0 + 1 + 1 || env.blockKind != ScopeKind.function) = true
      · rw [if_pos k1]
      · rw [if_neg k1]
        split
        · rfl
        · cases bb <;> rfl
  · cases h
theorem sto_any {c : CC} {t e : Expr} {env : Env} (hs : env.scope = c.sc) (h : (!(isTupE t && isTupE e) || foldTup e || cellTup c t e) = true) : swappedStores [t] e env = pure none := by
  rcases Bool.or_eq_true_iff.mp h with h | h
  · exact sto_no h
  · exact sto_cell hs h
theorem each_one {t : Expr} {env : Env} (h : clearTg t = true) : (assignEach [t] env).map (·.2) = [assign t env] := by
  cases t <;> first | rfl | (exact absurd h Bool.false_ne_true)
theorem sto_no2 {t e : Expr} {env : Env} (h : isTupE e = false) : swappedStores [t] e env = pure none := sto_no (by rw [h, Bool.and_false]; rfl)
theorem par_ok {x y : Str} {px py pt pt2 : Pos} {k k2 : Nat} {a b : Expr} {env : Env} (hk : env.blockKind = .function) (hx : env.kindOf x = some .local) (hy : env.kindOf y = some .local) (hl : (px.line == py.line) = true) (ha : notStar a = true) (hb : notStar b = true)
    (h1 : [a, b].all (foldedForSure 8) = false) (h2 : [a, b].all (constantsAlone 8) = false) (hne : (x == y) = false) : swappedStores [.Tuple [.Name x px, .Name y py] k pt] (.Tuple [a, b] k2 pt2) env = pure (some [x, y]) := by
  have hl' : (py.line == px.line) = true := by
    have e : px.line = py.line := by simpa using hl
    simp [e]
  have hs : ([a, b].any fun | .Starred .. => true | _ => false) = false := by
    cases a <;> first | (exact absurd ha Bool.false_ne_true) | (cases b <;> first | rfl | (exact absurd hb Bool.false_ne_true))
  have hne' : (y == x) = false := by
    have e : x ≠ y := by simpa using hne
    simpa using fun z => e z.symm
  unfold swappedStores
  simp only [hk, hs, h1, h2, hx, hy, hl', List.length, List.filterMap, List.head?, Option.map, Option.getD, Expr.pos, List.eraseDups, List.eraseDupsBy, List.eraseDupsBy.loop, List.elem, List.any]
  simp [List.eraseDupsBy.loop, hne']
  intro h
  exfalso
  rcases h with h | h
  · cases a <;> first | (exact absurd ha Bool.false_ne_true) | (exact absurd h Bool.false_ne_true)
  · cases b <;> first | (exact absurd hb Bool.false_ne_true) | (exact absurd h Bool.false_ne_true)
theorem sw_cell {elt : Expr} {gs : List Comprehension} {scope : Scope} {pos py : Pos} {y : Str} {l : Nat} {env : Env} (hy : env.kindOf y = some .cell) : swapsWith (.ListComp elt gs scope pos) (some (.Name y py)) l env = pure false := by
  have no : (NameKind.cell == NameKind.local) = false := by decide
  unfold swapsWith
  simp [hy, no]
theorem se_ok {a : Addr} {oe : Obj} {cls : Value} {d : Option Addr} {pn : List (Addr × Obj)} {C : Addr} (R : RX G c n X W) (hz : Zc cls d oe) (hf : ∃ vs, oe.data = .fields vs) : ∀ (s : SE) {x : Expr}, GdSE G C s → chkSE c s x = true → PE (X.suite a ((a, oe) :: pn)) x (rdSE a cls d C s)
  | .cst v, x, hd, h => by
    simp only [chkSE] at h
    split at h
    · exact const_ok h
    · cases h
  | .xf j f, x, hd, h => by
    obtain rfl := R.g
    simp only [chkSE] at h
    split at h
    · simp only [Bool.and_eq_true, decide_eq_true_eq] at h
      obtain ⟨⟨⟨h1, h2⟩, h3⟩, rfl⟩ := h
      refine pe_xf hd.2 hd.1 hz hf (pe_var (X := X.suite a ((a, oe) :: pn)) (i := j) (by show X.N[j]? = _; rw [R.N]; exact h1) (by show Vis X.env.scope _; rw [R.sc]; exact visB_ok h2) (okNm_1 h3) (okNm_2 h3)) rfl
    · cases h
theorem ses_ok {a : Addr} {oe : Obj} {cls : Value} {d : Option Addr} {pn : List (Addr × Obj)} {C : Addr} (R : RX G c n X W) (hz : Zc cls d oe) (hf : ∃ vs, oe.data = .fields vs) : ∀ (ss : List SE) {xs : List Expr}, (∀ e ∈ ss, GdSE G C e) → chkSEs c ss xs = true → PA (X.suite a ((a, oe) :: pn)) xs (rdSEs a cls d C ss)
  | [], xs, hd, h => by
    unfold chkSEs at h
    cases xs with
    | nil => exact pa_nil
    | cons => exact absurd h Bool.false_ne_true
  | s :: ss, xs, hd, h => by
    unfold chkSEs at h
    cases xs with
    | nil => exact absurd h Bool.false_ne_true
    | cons z zs =>
      simp only [Bool.and_eq_true] at h
      exact pa_cons (se_ok R hz hf s (hd s (List.mem_cons_self ..)) h.1.2) (ses_ok R hz hf ss (fun e he => hd e (List.mem_cons_of_mem _ he)) h.2) (star_cons h.1.1)
theorem su_ok (R : RX G c n X W) {C : Addr} : ∀ (su : Su) {b : List Stmt}, GdSu G n C su → chkSu c su b = true → SuiteOk X b (fun a cls d => rdSu W a cls d C su)
  | .lst i es, b, hd, h => by
    simp only [chkSu] at h
    split at h
    · simp only [Bool.and_eq_true, decide_eq_true_eq] at h
      obtain ⟨⟨h1, h2⟩, h3⟩ := h
      intro a oe cls d pn hz hf
      obtain ⟨l1, l2⟩ := R.loc h2
      exact pss_one (ps_asg (X := X.suite a ((a, oe) :: pn)) (pe_lst (ses_ok R hz hf es hd h3)) (pg_name (X := X.suite a ((a, oe) :: pn)) (by show X.N.Nodup; rw [R.N]; exact R.nd) (by show X.N[i]? = _; rw [R.N]; exact h1) l1 l2) rfl rfl rfl)
    · cases h
  | .ret v, b, hd, h => by
    simp only [chkSu] at h
    split at h
    · intro a oe cls d pn hz hf
      exact pss_one (ps_ret (const_ok h))
    · cases h
  | .xsu o, b, hd, h => hd c X W b R h
theorem lc_only {e : E} (h : lcE e = true) : ∃ e1 e2 e3 e4 e5, e = .lc e1 e2 e3 e4 e5 := by
  cases e with
  | lc e1 e2 e3 e4 e5 => exact ⟨e1, e2, e3, e4, e5, rfl⟩
  | _ => exact absurd h Bool.false_ne_true
theorem set_lc {elt : E} {tg t : Tg} {src : Src} {cond : Ts} {own : List Nat} {y : Expr} {gs : List Comprehension} {scope : Scope} {p pos : Pos} {m : Str} {q : Pos} (R : RX G c n X W) (hd : GdE G n (.lc elt tg src cond own)) (h : chkE c (.lc elt tg src cond own) (.ListComp y gs scope p) = true)
    (ht : GdTg G n t) (hnm : nmTg t = true) (hc : chkTg c t (.Name m q) = true) (k0 : c.sc.kind = .function) (k1 : c.sc.names.lookup m = some .local) (k2 : (q.line == p.line) = true) (k3 : (scope.names.any fun z => z.1 == m && (z.2 == .local || z.2 == .cell)) = false) :
    PS X (.Assign [.Name m q] (.ListComp y gs scope p) pos) (tAsg (rdE G (.lc elt tg src cond own) W) (rdTg G t W)) := by
  obtain rfl := R.g
  cases t with
  | nm i =>
    unfold chkTg at hc
    simp only [Bool.and_eq_true, decide_eq_true_eq] at hc
    unfold chkE at h
    unfold GdE at hd
    split at h
    · rename_i heq
      injection heq with f1 f2 f3 f4
      subst f1 f2 f3 f4
      simp only [Bool.and_eq_true, decide_eq_true_eq] at h
      obtain ⟨⟨⟨⟨⟨rfl, h1⟩, h2⟩, h3⟩, h4⟩, h5⟩ := h
      rename_i t1 i1 fs
      have pi := sndSrc (tg := t1) src R hd.2.2.1 h1
      have bk : BlkOk X.N X.env.scope scope (ownOf c.N own) := by
        rw [R.N, R.sc]
        exact blkOk_by h5
      have kl : X.env.scope.names.lookup m = some .local := by rw [R.sc]; exact k1
      have key := ps_setLc (i := i) (py := q) (spos := pos) (pos := p) R.calm (by rw [R.N]; exact R.nd) (by rw [R.N]; exact hc.1) kl (sw_true (by rw [R.sc]; exact k0) kl k2 k3) pi.1 bk (fun s H C cl fp => sndTg tg (R.blk scope s H C cl fp) hd.2.1 h2) (fun s H C cl fp => sndTs cond (R.blk scope s H C cl fp) hd.2.2.2 h3) (fun s H C cl fp => sndE elt (R.blk scope s H C cl fp) hd.1 h4) pi.2
      rw [nd_own] at key
      exact key
    · cases h
  | _ => exact absurd hnm Bool.false_ne_true
theorem ip_G (op : Operator) : PIp X op (ipG op) := by
  cases op <;> first | exact ip_add | exact ip_sub | (intro pins s σ H x y v u Q I r1 r2 h; exact h.elim)
end
mutual
theorem sndS {G : Gm} : ∀ (s : S) {c : CC} {n : Nat} {X : Cx} {W : WX} {x : Stmt}, RS G c n X W → GdS G n s → chkS c s x = true → PS X x (rdS G s W)
  | .asg t e, c, n, X, W, x, R, hd, h => by
    unfold chkS at h
    unfold GdS at hd
    split at h
    · rename_i y v pos
      simp only [Bool.and_eq_true] at h
      obtain ⟨⟨⟨h1, h2⟩, h3⟩, h4⟩ := h
      have pe := sndE e R.toRX hd.2 h3
      have pg := sndTg t R.toRX hd.1 h2
      unfold asgB at h1
      split at h1
      · split at h1
        · rename_i elt gs scope p m q
          simp only [Bool.or_eq_true, Bool.and_eq_true, decide_eq_true_eq, Bool.not_eq_true'] at h1
          rcases h1 with ⟨⟨⟨k0, k1⟩, k2⟩, k3⟩ | k1
          · have h5 : (lcE e && nmTg t) = true := by simpa [notComp] using h4
            simp only [Bool.and_eq_true] at h5
            obtain ⟨e1, e2, e3, e4, e5, rfl⟩ := lc_only h5.1
            exact set_lc R.toRX hd.2 h3 hd.1 h5.2 h2 k0 k1 k2 k3
          · exact ps_asg pe pg (by exact sw_cell (l := pos.line) (by show X.env.scope.names.lookup _ = _; rw [R.sc]; exact k1)) (sto_no2 rfl) rfl
        · cases h1
      · cases h1
      · cases h1
      · rename_i w1 w2 w3
        have h1 := Bool.and_eq_true_iff.mp h1
        have nc : notComp v = true := by
          unfold notComp
          split
          · exact absurd rfl (w1 _ _ _ _)
          · exact absurd rfl (w2 _ _ _ _)
          · exact absurd rfl (w3 _ _ _ _ _)
          · rfl
        exact ps_asg pe pg (asg_no nc) (sto_any R.sc h1.2) (each_one h1.1)
    · cases h
  | .par2 i j a b, c, n, X, W, x, R, hd, h => by
    unfold chkS at h
    unfold GdS at hd
    split at h
    · simp only [Bool.and_eq_true] at h
      obtain ⟨⟨h1, h2⟩, h3⟩ := h
      unfold parB at h1
      simp only [Bool.and_eq_true, decide_eq_true_eq, Bool.not_eq_true'] at h1
      obtain ⟨⟨⟨⟨⟨⟨⟨⟨⟨⟨⟨k0, k1⟩, k2⟩, k3⟩, k4⟩, k5⟩, k6⟩, k7⟩, k8⟩, k9⟩, k10⟩, k11⟩ := h1
      have pa := sndE a R.toRX hd.1 h2
      have pb := sndE b R.toRX hd.2 h3
      rw [← R.sc] at k0 k4 k5
      rw [← R.N] at k2 k3
      exact ps_par R.calm (by rw [R.N]; exact R.nd) k2 k3 k1 k4 k5 (pa_cons pa (pa_cons pb pa_nil (star_cons k8)) (star_cons k7)) (par_ok (by unfold Env.blockKind; rw [k0]; rfl) k4 k5 k6 k7 k8 k9 k10 k11) rfl
    · cases h
  | .aug i op e, c, n, X, W, x, R, hd, h => by
    unfold chkS at h
    unfold GdS at hd
    split at h
    · simp only [Bool.and_eq_true, decide_eq_true_eq] at h
      obtain ⟨⟨⟨⟨h1, h2⟩, rfl⟩, h4⟩, h5⟩ := h
      obtain ⟨l1, l2⟩ := R.toRX.loc h2
      exact ps_aug (by rw [R.N]; exact R.nd) (by rw [R.N]; exact h1) l1 (sndE e R.toRX hd h4) (ip_G _) l2
    · cases h
  | .ret e, c, n, X, W, x, R, hd, h => by
    unfold chkS at h
    unfold GdS at hd
    split at h
    · exact ps_ret (sndE e R.toRX hd h)
    · cases h
  | .retN, c, n, X, W, x, R, hd, h => by
    unfold chkS at h
    split at h
    · exact ps_retN
    · cases h
  | .exp e, c, n, X, W, x, R, hd, h => by
    unfold chkS at h
    unfold GdS at hd
    split at h
    · simp only [Bool.and_eq_true] at h
      exact ps_expr (sndE e R.toRX hd h.2) (exp_no h.1)
    · cases h
  | .iff t a b, c, n, X, W, x, R, hd, h => by
    unfold chkS at h
    unfold GdS at hd
    split at h
    · simp only [Bool.and_eq_true] at h
      exact ps_if (sndT t R.toRX hd.1 h.1.1) (sndSs a R hd.2.1 h.1.2) (sndSs b R hd.2.2 h.2)
    · cases h
  | .for_ t r b, c, n, X, W, x, R, hd, h => by
    unfold chkS at h
    unfold GdS at hd
    split at h
    · simp only [Bool.and_eq_true] at h
      obtain ⟨pi, hf⟩ := sndSrc r R.toRX hd.2.1 h.1.2
      exact ps_for R.po R.calm pi (sndTg t R.toRX hd.1 h.1.1) (sndSs b R hd.2.2 h.2) hf
    · cases h
  | .whl t b, c, n, X, W, x, R, hd, h => by
    unfold chkS at h
    unfold GdS at hd
    split at h
    · simp only [Bool.and_eq_true] at h
      exact ps_while R.po (sndT t R.toRX hd.1 h.1) (sndSs b R hd.2 h.2)
    · cases h
  | .pass, c, n, X, W, x, R, hd, h => by
    unfold chkS at h
    split at h
    · exact ps_pass
    · cases h
  | .brk, c, n, X, W, x, R, hd, h => by
    unfold chkS at h
    split at h
    · exact ps_break
    · cases h
  | .cnt, c, n, X, W, x, R, hd, h => by
    unfold chkS at h
    split at h
    · exact ps_continue
    · cases h
  | .rs1 y f e, c, n, X, W, x, R, hd, h => by
    obtain rfl := R.g
    unfold chkS at h
    unfold GdS at hd
    split at h
    · simp only [Bool.and_eq_true] at h
      obtain ⟨⟨h1, h2⟩, h3⟩ := h
      obtain ⟨p, rfl, g2, g3⟩ := isGl_ok h1
      obtain ⟨⟨C, T, hn⟩, he⟩ := hd
      have e1 : clV (gm X) y = .ref C := by
        unfold clV
        rw [T.at_]
        rfl
      have key := fun (p2 pos : Pos) => ps_raise (pos := pos) R.calm R.tk (pmk_er1 (p := p) (pos := p2) (n := n - 2) T (R.room.mono (by omega)) (R.toRX.gl g2) (sndE e R.toRX he h3) h2 (okNm_1 g3))
      refine ⟨fun pins s σ H D I hw => (key _ _).run pins s σ H D I ?_⟩
      have hw' : rdE (gm X) e W σ H fun y1 H1 => ∀ d, H1 d = none → W (clV (gm X) y) (some d) σ (upd H1 d (.xd [(f, y1)])) := hw
      rw [e1] at hw'
      exact hw'
    · cases h
  | .try_ b hs, c, n, X, W, x, R, hd, h => by
    obtain rfl := R.g
    unfold chkS at h
    unfold GdS at hd
    split at h
    · simp only [Bool.and_eq_true] at h
      exact ps_tryA R.stk R.frm (by rw [R.N]; exact R.nd) R.tk (fun W' pn xe tk po => sndSs b (R.tr tk po) hd.1 h.1) (sndHs hs R hd.2 h.2)
    · cases h
  | .xst o es, c, n, X, W, x, R, hd, h => by
    unfold chkS at h
    unfold GdS at hd
    split at h
    · rename_i xs e
      exact hd.1 c X W x xs _ R e (sndL es R.toRX hd.2 h)
    · cases h
  | .wr o b, c, n, X, W, x, R, hd, h => by
    unfold chkS at h
    unfold GdS at hd
    exact hd.1 c X W x _ R fun W' tk => sndS b (R.tr0 tk) hd.2 h
theorem sndSs {G : Gm} : ∀ (s : Ss) {c : CC} {n : Nat} {X : Cx} {W : WX} {b : List Stmt}, RS G c n X W → GdSs G n s → chkSs c s b = true → PSs X b (rdSs G s W)
  | .nil, c, n, X, W, b, R, hd, h => by
    unfold chkSs at h
    cases b with
    | nil => exact pss_nil
    | cons => exact absurd h Bool.false_ne_true
  | .cons s r, c, n, X, W, b, R, hd, h => by
    unfold chkSs at h
    unfold GdSs at hd
    cases b with
    | nil => exact absurd h Bool.false_ne_true
    | cons z zs =>
      simp only [Bool.and_eq_true] at h
      exact pss_cons (sndS s R hd.1 h.1) (sndSs r R hd.2 h.2)
theorem sndHs {G : Gm} : ∀ (s : Hs) {c : CC} {n : Nat} {X : Cx} {W : WX} {l : List ExceptHandler}, RS G c n X W → GdHs G n s → chkHs c s l = true → HdA X l (clsOf G W s)
  | .nil, c, n, X, W, l, R, hd, h => by
    unfold chkHs at h
    cases l with
    | nil => exact .nil
    | cons => exact absurd h Bool.false_ne_true
  | .cons y nm su r, c, n, X, W, l, R, hd, h => by
    obtain rfl := R.g
    unfold chkHs at h
    unfold GdHs at hd
    split at h
    · rename_i z p m b bs q l'
      simp only [Bool.and_eq_true, decide_eq_true_eq] at h
      obtain ⟨⟨⟨⟨⟨rfl, h2⟩, h3⟩, h4⟩, h5⟩, h6⟩ := h
      obtain ⟨⟨C, hm, hs⟩, hr⟩ := hd
      have e1 : clV (gm X) z = .ref C := by
        unfold clV
        rw [hm]
        rfl
      have e2 : clA (gm X) z = C := by
        unfold clA
        rw [hm]
      have nms : Names X z (clV (gm X) z) := ⟨R.toRX.gl (of_decide_eq_true h2), okNm_1 h3, .inl (by rw [e1]; exact hm)⟩
      have suit := su_ok R.toRX su hs h4
      rw [← e2] at suit
      have rest := sndHs r R hr h5
      cases nm with
      | none =>
        cases m with
        | none => exact .bare nms suit rest
        | some => exact absurd h6 Bool.false_ne_true
      | some i =>
        cases m with
        | none => exact absurd h6 Bool.false_ne_true
        | some k =>
          simp only [Bool.and_eq_true, decide_eq_true_eq] at h6
          exact .named nms (by rw [R.N]; exact h6.1) (by show X.env.scope.names.lookup k = _; rw [R.sc]; exact h6.2) suit rest
    · cases h
end
end Kn

/-! KnT: a def by its tree; heaps that grow. -/
namespace Kn
open PySem PySem.Spec PyProof.Rows L2

/-- a def of the text keeps its promise, by its tree -/
theorem fnT {G : Gm} {k : Nat} {f : Addr} {st : Stmt} {x qual : Str} {fd : FuncData} {N ps : List Str} {sp : Sp} (F : Fun G.K x qual st f fd) (S : FnScope N ps (defScope st)) (b : Ss) (hc : chkSs ⟨N, defScope st, true, none⟩ b (defBody st) = true) (hg : GdSs G k b)
    (len : ∀ vs H Q E, sp vs H Q E → vs.length = ps.length) (hq : ∀ vs H Q E, sp vs H Q E → rdSs G b (fun cls d _ H => E cls d H) { nx := fun _ H' => Q .non H', rt := Q } (L2.start N vs) H) : FnG G (k + 1) f fd ps sp := by
  obtain ⟨oc, od, kV, doc, pm, an, cdv, ct, osl, rfl, lk, hcd⟩ := F.ex
  refine fnG_of lk hcd S len fun A outer s H vs Q E hr hgd hsp => ⟨_, ?_, hq vs H Q E hsp⟩
  refine sndSs b (c := ⟨N, defScope st, true, none⟩) ?_ hg hc
  exact { g := rfl, N := rfl, sc := rfl, nd := S.nd, calm := rfl, room := hr, gd := hgd, tk := takes_of rfl rfl rfl rfl, po := passes_of rfl, fn := fun _ _ => rfl, cd := (fun _ z => nomatch z), ql := (fun _ z => nomatch z), stk := rfl, frm := rfl }

/-! ### heaps -/
/-- the name of the law's lambdas, the places where they stand -/
def lamQ (l : Nat) : Str := (lamRows.lookup l).getD Str.empty
def lamPos (l : Nat) : Bool := (lamRows.lookup l).isSome
/-- the table at P: what it tells of such a place bears that name -/
def TabL (H : Hp) (P : Addr) : Prop := ∃ ps : Array Value, H P = some (.tbl ps) ∧ TriplesOk ps.toList ∧ ∀ (pos : Pos) (cv : Value), lamPos pos.line = true → codeAmong pos ps.toList = some cv → ∃ c, cv = .ref c ∧ H c = some (LamX.CodeO c (lamQ pos.line))
theorem among_app2 {pos p' : Pos} {c cv : Value} (l : List Value) (h : TriplesOk l) (hc : codeAmong p' (l ++ [rawInt pos.line, rawInt pos.col, c]) = some cv) : codeAmong p' l = some cv ∨ (cv = c ∧ p'.line = pos.line) := by
  fun_induction TriplesOk l with
  | case1 =>
    simp only [List.nil_append, rawInt, codeAmong] at hc
    split at hc
    · rename_i q
      simp only [Bool.and_eq_true, beq_iff_eq] at q
      exact .inr ⟨(Option.some.inj hc).symm, by omega⟩
    · cases hc
  | case2 a t b u x rest ih =>
    simp only [List.cons_append, codeAmong] at hc ⊢
    split at hc
    · rename_i q
      rw [if_pos q]
      exact .inl hc
    · rename_i q
      rw [if_neg q]
      exact ih h hc
  | case3 l h1 h2 => exact h.elim
/-- all that stands in H stands in H', but what M names (tables of code objects may grow) -/
structure Xt (M : Addr → Prop) (H H' : Hp) : Prop where
  ob : ∀ a o, ¬ M a → H a = some o → (∀ ps, o ≠ .tbl ps) → H' a = some o
  dm : ∀ a, H' a = none → H a = none
  tg : ∀ P, GxR.TabG H P → GxR.TabG H' P
  ts : ∀ P, TabL H P → TabL H' P
abbrev Ext : Hp → Hp → Prop := Xt fun _ => False
abbrev ExtB (b : Addr) : Hp → Hp → Prop := Xt fun a => a = b
/-- no table, no code object -/
def plO : HO → Bool
  | .lst _ => true
  | .tup _ => true
  | .dK _ => true
  | .xd _ => true
  | _ => false
theorem plO_tbl {o : HO} (h : plO o = true) (ps : Array Value) : o ≠ .tbl ps := fun z => by rw [z] at h; cases h
theorem plO_code {o : HO} (h : plO o = true) (c : Addr) (q : Str) : o ≠ LamX.CodeO c q := fun z => by rw [z] at h; cases h
theorem Xt.refl {M : Addr → Prop} {H : Hp} : Xt M H H := ⟨fun _ _ _ h _ => h, fun _ h => h, fun _ h => h, fun _ h => h⟩
theorem Xt.trans {M : Addr → Prop} {H H1 H2 : Hp} (a : Xt M H H1) (b : Xt M H1 H2) : Xt M H H2 := ⟨fun c o m h t => b.ob c o m (a.ob c o m h t) t, fun c h => a.dm c (b.dm c h), fun P h => b.tg P (a.tg P h), fun P h => b.ts P (a.ts P h)⟩
theorem Xt.wide {M M' : Addr → Prop} {H H' : Hp} (a : Xt M H H') (h : ∀ c, M c → M' c) : Xt M' H H' := ⟨fun c o m hc t => a.ob c o (fun z => m (h c z)) hc t, a.dm, a.tg, a.ts⟩
theorem Xt.any {M : Addr → Prop} {H H' : Hp} (a : Ext H H') : Xt M H H' := a.wide fun _ z => z.elim
theorem upd_dm {H : Hp} {p : Addr} {o : HO} {a : Addr} (h : upd H p o a = none) : H a = none := by
  by_cases e : a = p
  · rw [e, upd_same] at h
    cases h
  · rw [upd_ne e] at h
    exact h
theorem tg_upd {H : Hp} {p : Addr} {o : HO} (hn : ∀ ps, H p ≠ some (.tbl ps)) {P : Addr} (h : GxR.TabG H P) : GxR.TabG (upd H p o) P := by
  obtain ⟨ps, e, t⟩ := h
  exact ⟨ps, by rw [upd_ne (fun z => hn ps (by rw [← z]; exact e))]; exact e, t⟩
theorem ts_upd {H : Hp} {p : Addr} {o : HO} (hn : ∀ ps, H p ≠ some (.tbl ps)) (hc : ∀ q, H p ≠ some (LamX.CodeO p q)) {P : Addr} (h : TabL H P) : TabL (upd H p o) P := by
  obtain ⟨ps, e, t, c⟩ := h
  refine ⟨ps, by rw [upd_ne (fun z => hn ps (by rw [← z]; exact e))]; exact e, t, fun pos cv hl hcv => ?_⟩
  obtain ⟨c', e1, e2⟩ := c pos cv hl hcv
  refine ⟨c', e1, ?_⟩
  rw [upd_ne (fun z => hc (lamQ pos.line) (by rw [← z]; exact e2))]
  exact e2
theorem Ext.new {H : Hp} {p : Addr} {o : HO} (h : H p = none) : Ext H (upd H p o) := ⟨fun a u _ e _ => by rw [upd_ne (ne_of_none e h)]; exact e, fun _ => upd_dm, fun _ => tg_upd (fun _ z => by rw [h] at z; cases z), fun _ => ts_upd (fun _ z => by rw [h] at z; cases z) (fun _ z => by rw [h] at z; cases z)⟩
theorem Xt.put {M : Addr → Prop} {H : Hp} {p : Addr} {o o1 : HO} (h : M p) (h1 : H p = some o1) (hp : plO o1 = true) : Xt M H (upd H p o) :=
  ⟨fun a u m e _ => by rw [upd_ne (fun z => m (by rw [z]; exact h))]; exact e, fun _ => upd_dm, fun _ => tg_upd (fun ps z => plO_tbl hp ps (Option.some.inj (h1.symm.trans z))), fun _ => ts_upd (fun ps z => plO_tbl hp ps (Option.some.inj (h1.symm.trans z))) (fun q z => plO_code hp p q (Option.some.inj (h1.symm.trans z)))⟩
/-- what is changed was not there -/
theorem Xt.new2 {M : Addr → Prop} {H H1 H2 : Hp} (e : Xt M H H1) {p : Addr} (e2 : ExtB p H1 H2) (hp : H p = none) : Xt M H H2 := ⟨fun c o m hc t => e2.ob c o (fun z => by rw [z, hp] at hc; cases hc) (e.ob c o m hc t) t, fun c h => e.dm c (e2.dm c h), fun P h => e2.tg P (e.tg P h), fun P h => e2.ts P (e.ts P h)⟩
theorem Xt.ne {M : Addr → Prop} {H H' : Hp} (e : Xt M H H') {p a : Addr} {o : HO} (hp : H' p = none) (ha : H a = some o) : a ≠ p := fun z => by rw [z, e.dm p hp] at ha; cases ha
theorem ne_new {H : Hp} {p a : Addr} {o : HO} (hp : H p = none) (ha : H a = some o) : a ≠ p := fun z => by rw [z, hp] at ha; cases ha
section
variable {M : Addr → Prop} {H H' : Hp} {a : Addr}
theorem Xt.lst (e : Xt M H H') (m : ¬ M a) {xs : List V} (h : H a = some (.lst xs)) : H' a = some (.lst xs) := e.ob a _ m h (fun _ z => by cases z)
theorem Xt.tup (e : Xt M H H') (m : ¬ M a) {xs : List V} (h : H a = some (.tup xs)) : H' a = some (.tup xs) := e.ob a _ m h (fun _ z => by cases z)
theorem Xt.dK (e : Xt M H H') (m : ¬ M a) {xs : List (Key × V)} (h : H a = some (.dK xs)) : H' a = some (.dK xs) := e.ob a _ m h (fun _ z => by cases z)
theorem Xt.xd (e : Xt M H H') (m : ¬ M a) {xs : List (Str × V)} (h : H a = some (.xd xs)) : H' a = some (.xd xs) := e.ob a _ m h (fun _ z => by cases z)
end
theorem Xt.sql {K : PySem.W.Frag} {M : Addr → Prop} {H H' : Hp} {a : Addr} {xs : List V} (e : Xt M H H') (m : ¬ M a) (h : SqL K H a xs) : SqL K H' a xs := by
  rcases h with (h | ⟨o, h⟩) | h
  · exact .inl (.inl (e.lst m h))
  · exact .inl (.inr ⟨o, e.ob a _ m h (fun _ z => by cases z)⟩)
  · exact .inr h
theorem Xt.sqt {K : PySem.W.Frag} {M : Addr → Prop} {H H' : Hp} {a : Addr} {xs : List V} (e : Xt M H H') (m : ¬ M a) (h : SqT K H a xs) : SqT K H' a xs := by
  rcases h with (h | ⟨o, h⟩) | h
  · exact .inl (.inl (e.tup m h))
  · exact .inl (.inr ⟨o, e.ob a _ m h (fun _ z => by cases z)⟩)
  · exact .inr h
/-- what is made anew, told by what is known of it -/
theorem al {H : Hp} {o : HO} {R : Addr → Hp → Prop} (h : ∀ p H', H p = none → Ext H H' → H' p = some o → R p H') : ∀ p, H p = none → R p (upd H p o) := fun p hp => h p _ hp (Ext.new hp) upd_same
/-- what is changed, told likewise -/
theorem ch {H : Hp} {b : Addr} {o o1 : HO} {R : Hp → Prop} (h1 : H b = some o1) (hp : plO o1 = true) (h : ∀ H', ExtB b H H' → H' b = some o → R H') : R (upd H b o) := h _ (Xt.put rfl h1 hp) upd_same

/-- the table at P gets an entry that is no lambda's -/
theorem ext_gen {H : Hp} {P : Addr} {ps : Array Value} {pp : Pos} {cv : Value} (hP : H P = some (.tbl ps)) (ht : TriplesOk ps.toList) (hl : lamPos pp.line = false) : Ext H (upd H P (.tbl (ps ++ #[rawInt pp.line, rawInt pp.col, cv]))) := by
  have eL : (ps ++ #[rawInt pp.line, rawInt pp.col, cv]).toList = ps.toList ++ [rawInt pp.line, rawInt pp.col, cv] := by simp
  have ok2 : TriplesOk (ps ++ #[rawInt pp.line, rawInt pp.col, cv]).toList := by rw [eL]; exact PySem.TriplesOk_snoc _ _ _ _ ht
  have stay : ∀ b o, H b = some o → (∀ q, o ≠ .tbl q) → upd H P (.tbl (ps ++ #[rawInt pp.line, rawInt pp.col, cv])) b = some o := by
    intro b o e n
    rw [upd_ne (fun z => n ps (Option.some.inj (e.symm.trans (by rw [z]; exact hP))))]
    exact e
  refine ⟨fun b o _ e n => stay b o e n, fun b => fun e => upd_dm e, fun Q hQ => ?_, fun Q hQ => ?_⟩
  · by_cases e : Q = P
    · rw [e]
      exact ⟨_, upd_same, ok2⟩
    · obtain ⟨qs, e1, e2⟩ := hQ
      exact ⟨qs, by rw [upd_ne e]; exact e1, e2⟩
  · obtain ⟨qs, e1, e2, e3⟩ := hQ
    by_cases e : Q = P
    · subst e
      rw [hP] at e1
      cases e1
      refine ⟨_, upd_same, ok2, fun pos cv' hl' hcv => ?_⟩
      rw [eL] at hcv
      rcases among_app2 _ ht hcv with z | ⟨_, z⟩
      · obtain ⟨c0, z1, z2⟩ := e3 pos cv' hl' z
        exact ⟨c0, z1, stay _ _ z2 LamX.codeO_ne⟩
      · rw [z, hl] at hl'
        cases hl'
    · refine ⟨qs, by rw [upd_ne e]; exact e1, e2, fun pos cv' hl' hcv => ?_⟩
      obtain ⟨c0, z1, z2⟩ := e3 pos cv' hl' hcv
      exact ⟨c0, z1, stay _ _ z2 LamX.codeO_ne⟩

/-! ### statement by statement -/
theorem ss_cons {G : Gm} {s : S} {r : Ss} {W : WX} {D : Ends} {σ : L2.St} {H : Hp} (h : rdS G s W { D with nx := fun σ H => rdSs G r W D σ H } σ H) : rdSs G (.cons s r) W D σ H := h
theorem ss_nil {G : Gm} {W : WX} {D : Ends} {σ : L2.St} {H : Hp} : rdSs G .nil W D σ H = D.nx σ H := rfl

/-! ### items -/
theorem ixT {G : Gm} {p : Addr} {xs : List V} {i : Int} {v : V} {H : Hp} {Q : VK} (h : SqT G.K H p xs) (ha : atI xs i = some v) (q : Q v H) : rIxG G (.ref p) (.int i) H Q := .inl (.inr (.inl ⟨p, xs, i, v, rfl, rfl, h, ha, q⟩))
theorem ixL {G : Gm} {p : Addr} {xs : List V} {i : Int} {v : V} {H : Hp} {Q : VK} (h : SqL G.K H p xs) (ha : atI xs i = some v) (q : Q v H) : rIxG G (.ref p) (.int i) H Q := .inl (.inl ⟨p, xs, i, v, rfl, rfl, h, ha, q⟩)
theorem ixS {G : Gm} {z : Str} {i : Int} {c : Nat} {H : Hp} {Q : VK} (hz : z.length ≤ sizeLine) (ha : atI z.cps.toList i = some c) (q : Q (.str ⟨#[c]⟩) H) : rIxG G (.str z) (.int i) H Q := .inl (.inr (.inr ⟨z, i, c, rfl, rfl, hz, ha, q⟩))

/-! ### errors -/
/-- an error of the class called x, its field f is v -/
def Rz (G : Gm) (x f : Str) (v : V) (H : Hp) (E : XK) : Prop := ∀ d H', H d = none → Ext H H' → H' d = some (.xd [(f, v)]) → E (clV G x) (some d) H'
end Kn

/-! KnU: loops and comprehensions, by what stands at each turn. -/
namespace Kn
open PySem PySem.Spec PyProof.Rows L2

/-- made anew, and then -/
def New (H : Hp) (o : HO) (R : Addr → Hp → Prop) : Prop := ∀ p, H p = none → R p (upd H p o)
theorem New.i {H : Hp} {o : HO} {R : Addr → Hp → Prop} (h : ∀ p H', H p = none → Ext H H' → H' p = some o → R p H') : New H o R := al h
def nLst (t : TA) : TE := fun σ H Q => t σ H fun xs H1 => xs.length ≤ sizeLine ∧ New H1 (.lst xs) fun p H2 => Q (.ref p) H2
def nTup (t : TA) : TE := fun σ H Q => t σ H fun xs H1 => xs.length ≤ sizeLine ∧ New H1 (.tup xs) fun p H2 => Q (.ref p) H2
theorem len_small {n : Nat} (h : n ≤ 1000) : n ≤ sizeLine := Nat.le_trans h (by decide +kernel)
section
variable {G : Gm} {W : WX}
theorem s_asg {t : Tg} {e : E} : rdS G (.asg t e) W = tAsg (rdE G e W) (rdTg G t W) := rfl
theorem par2e {a b : V} {P : V → V → Prop} : (∃ v w, [a, b] = [v, w] ∧ P v w) = P a b := propext ⟨fun ⟨_, _, e, h⟩ => by cases e; exact h, fun h => ⟨a, b, rfl, h⟩⟩
theorem s_par2 {i j : Nat} {a b : E} : rdS G (.par2 i j a b) W = fun D σ H => rdE G a W σ H fun v H1 => rdE G b W σ H1 fun w H2 => D.nx ((σ.set i (some v)).set j (some w)) H2 := by
  funext D σ H
  show (rdE G a W σ H fun v H1 => rdE G b W σ H1 fun w H2 => ∃ v' w', [v, w] = [v', w'] ∧ D.nx ((σ.set i (some v')).set j (some w')) H2) = _
  simp only [par2e]
theorem s_aug {i : Nat} {op : Operator} {e : E} : rdS G (.aug i op e) W = tAug i (rdE G e W) (ipG op) := rfl
theorem s_ret {e : E} : rdS G (.ret e) W = tRet (rdE G e W) := rfl
theorem s_retN : rdS G .retN W = tRetN := rfl
theorem s_exp {e : E} : rdS G (.exp e) W = tDrop (rdE G e W) := rfl
theorem s_iff {c : T} {a b : Ss} : rdS G (.iff c a b) W = tIfS (rdT G c W) (rdSs G a W) (rdSs G b W) := rfl
theorem s_pass : rdS G .pass W = tNext := rfl
theorem s_brk : rdS G .brk W = tBreak := rfl
theorem s_cnt : rdS G .cnt W = tCont := rfl
theorem s_rs1 {x f : Str} {e : E} : rdS G (.rs1 x f e) W = fun _ σ H => rdE G e W σ H fun y H1 => ∀ d, H1 d = none → W (clV G x) (some d) σ (upd H1 d (.xd [(f, y)])) := rfl
theorem e_var {i : Nat} : rdE G (.var i) W = tVar i := rfl
theorem e_glb {x : Str} {v : V} : rdE G (.glb x v) W = tC v := rfl
theorem e_bty {b : Bf} : rdE G (.bty b) W = tC (btyV b) := rfl
theorem e_cst {v : V} : rdE G (.cst v) W = tC v := rfl
theorem e_bin {op : Operator} {a b : E} : rdE G (.bin op a b) W = tOp (rBin G op) (rdE G a W) (rdE G b W) := rfl
theorem e_neg {a : E} : rdE G (.neg a) W = tUn rNegG (rdE G a W) := rfl
theorem e_cmp {op : CmpOp} {a b : E} : rdE G (.cmp op a b) W = tOp (rCmp G op) (rdE G a W) (rdE G b W) := rfl
theorem e_cm2 {o1 o2 : CmpOp} {a b d : E} : rdE G (.cm2 o1 o2 a b d) W = tChain (rCmp G o1) (rCmp G o2) (rdE G a W) (rdE G b W) (rdE G d W) := rfl
theorem e_and {a b : E} : rdE G (.and a b) W = tAndV (rdE G a W) (rdE G b W) := rfl
theorem e_or {a b : E} : rdE G (.or a b) W = tOrV (rdE G a W) (rdE G b W) := rfl
theorem e_not {a : E} : rdE G (.not a) W = tNotV (rdE G a W) := rfl
theorem e_ite {t : T} {a b : E} : rdE G (.ite t a b) W = tIf (rdT G t W) (rdE G a W) (rdE G b W) := rfl
theorem e_lst {es : Es} : rdE G (.lst es) W = nLst (rdEs G es W) := rfl
theorem e_tup {es : Es} : rdE G (.tup es) W = nTup (rdEs G es W) := rfl
theorem e_sub {a i : E} : rdE G (.sub a i) W = tOp (rIxG G) (rdE G a W) (rdE G i W) := rfl
theorem e_slc {a : E} {lo hi : Es} : rdE G (.slc a lo hi) W = tSl (rSlG G) (rdE G a W) (rdO G lo W) (rdO G hi W) := rfl
theorem e_call {x : Str} {sp : Sp} {dv : List V} {es : Es} : rdE G (.call x sp dv es) W = fun σ H Q => rdEs G es W σ H fun vs H1 => sp (vs ++ dv) H1 Q (fun cls d H' => W cls d σ H') := rfl
theorem e_calk {x : Str} {sp : Sp} {g : List V → List V → List V} {es kes : Es} {ks : List Str} : rdE G (.calk x sp g es ks kes) W = fun σ H Q => rdEs G es W σ H fun vs H1 => rdEs G kes W σ H1 fun zs H2 => sp (g vs zs) H2 Q (fun cls d H' => W cls d σ H') := rfl
theorem e_bif {b : Bf} {es : Es} : rdE G (.bif b es) W = tCB (rBf G b) (rdEs G es W) := rfl
theorem e_xop {o : XOp} {es : Es} : rdE G (.xop o es) W = o.rd (rdL G es W) W := rfl
theorem e_lam {o : LOp} {e : E} : rdE G (.lam o e) W = o.rd (fun W' => rdE G e W') W := rfl
theorem s_xst {o : XSt} {es : Es} : rdS G (.xst o es) W = o.rd (rdL G es W) W := rfl
theorem s_wr {o : WSt} {b : S} : rdS G (.wr o b) W = o.rd (fun W' => rdS G b W') W := rfl
theorem t_xtg {o : XTg} {es : Es} : rdTg G (.xtg o es) W = o.rd (rdL G es W) W := rfl
theorem e_bm0 {m : Bm} {o : E} : rdE G (.bm m o .nil) W = tBM0 G.K (bmTy m) (rBm G m) (rdE G o W) := rfl
theorem e_bm {m : Bm} {o e : E} {es : Es} : rdE G (.bm m o (.cons e es)) W = tBM G.K (bmTy m) (rBm G m) (rdE G o W) (tCons (rdE G e W) (rdEs G es W)) := rfl
end

/-! ### for loops -/
def ForJ (G : Gm) (t : Tg) (b : Ss) (W : WX) (D : Ends) (J : It) (σ : L2.St) (H1 : Hp) : Prop := ∃ N : Nat → Nat → L2.St → Hp → Prop, (∃ m, N 0 m σ H1) ∧ ∀ i m σ H, N i m σ H →
  (J.stop i H ∧ D.nx σ H) ∨ (J.go i H ∧ ∃ M : L2.St → Hp → Prop, (∀ σ' H', M σ' H' → ∃ m', m' < m ∧ N (i + 1) m' σ' H') ∧ ∀ x H', J.yld i H x H' → rdTg G t W x σ H' fun σ2 H2 => rdSs G b W { D with nx := M, ct := M, bk := D.nx } σ2 H2)
section
variable {G : Gm} {W : WX} {t : Tg} {b : Ss} {D : Ends} {σ : L2.St} {H : Hp}
theorem s_for1 {a : E} : rdS G (.for_ t (.rng1 a) b) W = fun D σ H => (tCons (rdE G a W) tNil) σ H fun vs H1 => ∃ j : Int, vs = [.int j] ∧ -(2 ^ 62) ≤ j ∧ j < 2 ^ 62 ∧ ForJ G t b W D (Itr 0 j.toNat) σ H1 := rfl
theorem s_for2 {a a2 : E} : rdS G (.for_ t (.rng2 a a2) b) W = fun D σ H => (tCons (rdE G a W) (tCons (rdE G a2 W) tNil)) σ H fun vs H1 => ∃ i j : Int, vs = [.int i, .int j] ∧ (-(2 ^ 62) ≤ i ∧ i < 2 ^ 62 ∧ -(2 ^ 62) ≤ j ∧ j < 2 ^ 62) ∧ ForJ G t b W D (Itr i (j - i).toNat) σ H1 := rfl
theorem s_forp {e : E} : rdS G (.for_ t (.plain e) b) W = fun D σ H => rdE G e W σ H fun x H1 => (∃ a, x = .ref a ∧ (((∃ xs, SqL G.K H1 a xs) ∧ ForJ G t b W D (Itl G.K a) σ H1) ∨ ((∃ xs, SqT G.K H1 a xs) ∧ ForJ G t b W D (Itt G.K a) σ H1))) ∨ ∃ z, x = .str z ∧ ForJ G t b W D (Its z) σ H1 := rfl
theorem s_forz {a a2 : E} : rdS G (.for_ t (.zip a a2) b) W = fun D σ H => (tCons (rdE G a W) (tCons (rdE G a2 W) tNil)) σ H fun vs H1 => ∃ p q xs ys, vs = [.ref p, .ref q] ∧ SqL G.K H1 p xs ∧ SqL G.K H1 q ys ∧ ForJ G t b W D (Itz G.K p q) σ H1 := rfl
theorem s_forx {o : XSrc} {es : Es} : rdS G (.for_ t (.xsrc o es) b) W = fun D σ H => o.rd (rdL G es W) W σ H fun J H1 => ForJ G t b W D J σ H1 := rfl
theorem fjR {lo : Int} {n : Nat} (Pv : Nat → L2.St → Hp → Prop) (h0 : Pv 0 σ H) (hs : ∀ i σ H, i < n → Pv i σ H → rdTg G t W (.int (lo + i)) σ H fun σ2 H2 => rdSs G b W { D with nx := Pv (i + 1), ct := Pv (i + 1), bk := D.nx } σ2 H2) (hd : ∀ σ H, Pv n σ H → D.nx σ H) : ForJ G t b W D (Itr lo n) σ H := for_range Pv h0 hs hd
theorem fjL {a : Addr} {xs : List V} (Pv : Nat → L2.St → Hp → Prop) (hx : SqL G.K H a xs) (h0 : Pv 0 σ H) (hl : ∀ i σ H, i ≤ xs.length → Pv i σ H → SqL G.K H a xs)
    (hs : ∀ i x σ H, xs[i]? = some x → Pv i σ H → rdTg G t W x σ H fun σ2 H2 => rdSs G b W { D with nx := Pv (i + 1), ct := Pv (i + 1), bk := D.nx } σ2 H2) (hd : ∀ σ H, Pv xs.length σ H → D.nx σ H) :
    (((∃ xs, SqL G.K H a xs) ∧ ForJ G t b W D (Itl G.K a) σ H) ∨ ((∃ xs, SqT G.K H a xs) ∧ ForJ G t b W D (Itt G.K a) σ H)) := .inl ⟨⟨xs, hx⟩, for_list Pv h0 hl hs hd⟩
theorem fjT {a : Addr} {xs : List V} (Pv : Nat → L2.St → Hp → Prop) (hx : SqT G.K H a xs) (h0 : Pv 0 σ H) (hl : ∀ i σ H, i ≤ xs.length → Pv i σ H → SqT G.K H a xs)
    (hs : ∀ i x σ H, xs[i]? = some x → Pv i σ H → rdTg G t W x σ H fun σ2 H2 => rdSs G b W { D with nx := Pv (i + 1), ct := Pv (i + 1), bk := D.nx } σ2 H2) (hd : ∀ σ H, Pv xs.length σ H → D.nx σ H) :
    (((∃ xs, SqL G.K H a xs) ∧ ForJ G t b W D (Itl G.K a) σ H) ∨ ((∃ xs, SqT G.K H a xs) ∧ ForJ G t b W D (Itt G.K a) σ H)) := .inr ⟨⟨xs, hx⟩, for_tup Pv h0 hl hs hd⟩
end

/-! ### while -/
def WhJ (G : Gm) (c : T) (b : Ss) (W : WX) (D : Ends) (σ : L2.St) (H : Hp) : Prop := tWhile (rdT G c W) (rdSs G b W) D σ H
theorem s_whl {G : Gm} {W : WX} {c : T} {b : Ss} : rdS G (.whl c b) W = fun D σ H => WhJ G c b W D σ H := rfl
def WhB (G : Gm) (b : Ss) (W : WX) (D : Ends) (Nx : L2.St → Hp → Prop) (σ : L2.St) (H : Hp) : Prop := ∃ N : L2.St → Hp → Prop, (∀ σ' H', N σ' H' → Nx σ' H') ∧ rdSs G b W { D with nx := N, ct := N, bk := D.nx } σ H
theorem whJ {G : Gm} {W : WX} {c : T} {b : Ss} {D : Ends} {σ : L2.St} {H : Hp} (Pv : Nat → L2.St → Hp → Prop) (m0 : Nat) (h0 : Pv m0 σ H)
    (hs : ∀ m σ H, Pv m σ H → rdT G c W σ H fun k H1 => if k = true then WhB G b W D (fun σ' H' => ∃ m', m' < m ∧ Pv m' σ' H') σ H1 else D.nx σ H1) : WhJ G c b W D σ H := ⟨Pv, ⟨m0, h0⟩, hs⟩
theorem whB {G : Gm} {W : WX} {b : Ss} {D : Ends} {Nx : L2.St → Hp → Prop} {σ : L2.St} {H : Hp} (h : rdSs G b W { D with nx := Nx, ct := Nx, bk := D.nx } σ H) : WhB G b W D Nx σ H := ⟨Nx, fun _ _ z => z, h⟩

/-! ### try -/
def TryJ (G : Gm) (b : Ss) (hs : Hs) (W : WX) (D : Ends) (σ : L2.St) (H : Hp) : Prop := rdSs G b (wHs G.K W D (clsOf G W hs)) D σ H
theorem s_try {G : Gm} {W : WX} {b : Ss} {hs : Hs} : rdS G (.try_ b hs) W = fun D σ H => TryJ G b hs W D σ H := rfl

theorem su_lst {W : WX} {a : Addr} {cls : Value} {d : Option Addr} {C : Addr} {i : Nat} {es : List SE} : rdSu W a cls d C (.lst i es) = tAsg (nLst (rdSEs a cls d C es)) (gName i) := rfl
theorem su_xsu {W : WX} {a : Addr} {cls : Value} {d : Option Addr} {C : Addr} {o : XSu} : rdSu W a cls d C (.xsu o) = o.rd W a cls d C := rfl
theorem su_ret {W : WX} {a : Addr} {cls : Value} {d : Option Addr} {C : Addr} {v : V} : rdSu W a cls d C (.ret v) = tRet (tC v) := rfl
/-- the first clause takes it -/
theorem try_hit {G : Gm} {W : WX} {D : Ends} {x : Str} {i : Nat} {su : Su} {r : Hs} {cls : Value} {d : Option Addr} {σ : L2.St} {H : Hp} (h : PySem.W.exmOne G.K cls (clV G x) = some true) (q : ∀ a, H a = none → rdSu W a cls d (clA G x) su (Ends.gone D i) (σ.set i (some (.ref a))) H) :
    wHs G.K W D (clsOf G W (.cons x (some i) su r)) cls d σ H := ⟨true, h, fun _ => q, fun z => by cases z⟩
theorem try_hit0 {G : Gm} {W : WX} {D : Ends} {x : Str} {su : Su} {r : Hs} {cls : Value} {d : Option Addr} {σ : L2.St} {H : Hp} (h : PySem.W.exmOne G.K cls (clV G x) = some true) (q : ∀ a, H a = none → rdSu W a cls d (clA G x) su D σ H) :
    wHs G.K W D (clsOf G W (.cons x none su r)) cls d σ H := ⟨true, h, fun _ => q, fun z => by cases z⟩
theorem try_miss {G : Gm} {W : WX} {D : Ends} {x : Str} {i : Nat} {su : Su} {r : Hs} {cls : Value} {d : Option Addr} {σ : L2.St} {H : Hp} (h : PySem.W.exmOne G.K cls (clV G x) = some false) (q : wHs G.K W D (clsOf G W r) cls d σ H) :
    wHs G.K W D (clsOf G W (.cons x (some i) su r)) cls d σ H := ⟨false, h, fun z => (by cases z), fun _ => q⟩
theorem try_miss0 {G : Gm} {W : WX} {D : Ends} {x : Str} {su : Su} {r : Hs} {cls : Value} {d : Option Addr} {σ : L2.St} {H : Hp} (h : PySem.W.exmOne G.K cls (clV G x) = some false) (q : wHs G.K W D (clsOf G W r) cls d σ H) :
    wHs G.K W D (clsOf G W (.cons x none su r)) cls d σ H := ⟨false, h, fun z => (by cases z), fun _ => q⟩

/-! ### list comprehensions -/
def LcJ (G : Gm) (elt : E) (tg : Tg) (cond : Ts) (vs : List Nat) (W : WX) (Q : VK) (J : It) (σ : L2.St) (H1 : Hp) : Prop := ∀ D, H1 D = none → ∃ N : Nat → Nat → Hp → Prop, (∃ m, N 0 m (upd H1 D (.lst []))) ∧ ∀ i m H, N i m H →
  (J.stop i H ∧ Q (.ref D) H) ∨ (J.go i H ∧ ∃ Nx : Hp → Prop, (∀ H', Nx H' → ∃ m', m' < m ∧ N (i + 1) m' H') ∧ ∀ x H', J.yld i H x H' → rdTg G tg NoW x (wipe σ vs) H' fun σ2 H2 => wipe σ2 vs = wipe σ vs ∧ rdTs G cond NoW σ2 H2 fun b H3 =>
    if b = true then rdE G elt NoW σ2 H3 fun y H4 => ∃ acc, H4 D = some (.lst acc) ∧ acc.length < sizeLine ∧ Nx (upd H4 D (.lst (acc ++ [y]))) else Nx H3)
section
variable {G : Gm} {W : WX} {elt : E} {t : Tg} {cond : Ts} {vs : List Nat} {σ : L2.St} {H : Hp} {Q : VK}
theorem e_lc1 {a : E} : rdE G (.lc elt t (.rng1 a) cond vs) W = fun σ H Q => (tCons (rdE G a W) tNil) σ H fun us H1 => ∃ j : Int, us = [.int j] ∧ -(2 ^ 62) ≤ j ∧ j < 2 ^ 62 ∧ LcJ G elt t cond vs W Q (Itr 0 j.toNat) σ H1 := rfl
theorem e_lc2 {a a2 : E} : rdE G (.lc elt t (.rng2 a a2) cond vs) W = fun σ H Q => (tCons (rdE G a W) (tCons (rdE G a2 W) tNil)) σ H fun us H1 => ∃ i j : Int, us = [.int i, .int j] ∧ (-(2 ^ 62) ≤ i ∧ i < 2 ^ 62 ∧ -(2 ^ 62) ≤ j ∧ j < 2 ^ 62) ∧ LcJ G elt t cond vs W Q (Itr i (j - i).toNat) σ H1 := rfl
theorem e_lcp {e : E} : rdE G (.lc elt t (.plain e) cond vs) W = fun σ H Q => rdE G e W σ H fun x H1 => (∃ a, x = .ref a ∧ (((∃ xs, SqL G.K H1 a xs) ∧ LcJ G elt t cond vs W Q (Itl G.K a) σ H1) ∨ ((∃ xs, SqT G.K H1 a xs) ∧ LcJ G elt t cond vs W Q (Itt G.K a) σ H1))) ∨ ∃ z, x = .str z ∧ LcJ G elt t cond vs W Q (Its z) σ H1 := rfl
theorem e_lcx {o : XSrc} {es : Es} : rdE G (.lc elt t (.xsrc o es) cond vs) W = fun σ H Q => o.rd (rdL G es W) W σ H fun J H1 => LcJ G elt t cond vs W Q J σ H1 := rfl
/-- the list so far gets y -/
def LcP (D : Addr) (P : List V → Hp → Prop) (y : V) (H4 : Hp) : Prop := ∃ acc', H4 D = some (.lst acc') ∧ acc'.length < sizeLine ∧ ∃ acc2, upd H4 D (.lst (acc' ++ [y])) D = some (.lst acc2) ∧ P acc2 (upd H4 D (.lst (acc' ++ [y])))
/-- it stays -/
def LcN (D : Addr) (P : List V → Hp → Prop) (H4 : Hp) : Prop := ∃ acc2, H4 D = some (.lst acc2) ∧ P acc2 H4
/-- what a turn of a comprehension owes -/
abbrev LcS (G : Gm) (elt : E) (t : Tg) (cond : Ts) (vs : List Nat) (σ : L2.St) (D : Addr) (acc : List V) (x : V) (H : Hp) (P : List V → Hp → Prop) : Prop :=
  rdTg G t NoW x (wipe σ vs) H fun σ2 H2 => wipe σ2 vs = wipe σ vs ∧ rdTs G cond NoW σ2 H2 fun b H3 =>
    if b = true then rdE G elt NoW σ2 H3 fun y H4 => LcP D P y H4 else LcN D P H3
theorem lcR {lo : Int} {n : Nat} (P : Nat → List V → Hp → Prop) (h0 : ∀ D H2, H D = none → Ext H H2 → P 0 [] H2)
    (hs : ∀ D i acc H2, H D = none → i < n → H2 D = some (.lst acc) → P i acc H2 → LcS G elt t cond vs σ D acc (.int (lo + i)) H2 (P (i + 1))) (hd : ∀ D acc H2, H D = none → H2 D = some (.lst acc) → P n acc H2 → Q (.ref D) H2) : LcJ G elt t cond vs W Q (Itr lo n) σ H := fun D hD =>
  lc_range (fun i H2 => ∃ acc, H2 D = some (.lst acc) ∧ P i acc H2) ⟨[], upd_same, h0 D _ hD (Ext.new hD)⟩ (fun i H2 hi ⟨acc, e, p⟩ => hs D i acc H2 hD hi e p) (fun H2 ⟨acc, e, p⟩ => hd D acc H2 hD e p)
theorem lcL {a : Addr} {xs : List V} (hx : SqL G.K H a xs) (P : Nat → List V → Hp → Prop) (h0 : ∀ D H2, H D = none → Ext H H2 → P 0 [] H2) (hl : ∀ i acc H2, P i acc H2 → SqL G.K H2 a xs)
    (hs : ∀ D i x acc H2, H D = none → xs[i]? = some x → H2 D = some (.lst acc) → P i acc H2 → LcS G elt t cond vs σ D acc x H2 (P (i + 1))) (hd : ∀ D acc H2, H D = none → H2 D = some (.lst acc) → P xs.length acc H2 → Q (.ref D) H2) :
    (((∃ xs, SqL G.K H a xs) ∧ LcJ G elt t cond vs W Q (Itl G.K a) σ H) ∨ ((∃ xs, SqT G.K H a xs) ∧ LcJ G elt t cond vs W Q (Itt G.K a) σ H)) := .inl ⟨⟨xs, hx⟩, fun D hD =>
  lc_list (fun i H2 => ∃ acc, H2 D = some (.lst acc) ∧ P i acc H2) ⟨[], upd_same, h0 D _ hD (Ext.new hD)⟩ (fun i H2 _ ⟨acc, _, p⟩ => hl i acc H2 p) (fun i x H2 hi ⟨acc, e, p⟩ => hs D i x acc H2 hD hi e p) (fun H2 ⟨acc, e, p⟩ => hd D acc H2 hD e p)⟩
theorem lcT {a : Addr} {xs : List V} (hx : SqT G.K H a xs) (P : Nat → List V → Hp → Prop) (h0 : ∀ D H2, H D = none → Ext H H2 → P 0 [] H2) (hl : ∀ i acc H2, P i acc H2 → SqT G.K H2 a xs)
    (hs : ∀ D i x acc H2, H D = none → xs[i]? = some x → H2 D = some (.lst acc) → P i acc H2 → LcS G elt t cond vs σ D acc x H2 (P (i + 1))) (hd : ∀ D acc H2, H D = none → H2 D = some (.lst acc) → P xs.length acc H2 → Q (.ref D) H2) :
    (((∃ xs, SqL G.K H a xs) ∧ LcJ G elt t cond vs W Q (Itl G.K a) σ H) ∨ ((∃ xs, SqT G.K H a xs) ∧ LcJ G elt t cond vs W Q (Itt G.K a) σ H)) := .inr ⟨⟨xs, hx⟩, fun D hD =>
  lc_tup (fun i H2 => ∃ acc, H2 D = some (.lst acc) ∧ P i acc H2) ⟨[], upd_same, h0 D _ hD (Ext.new hD)⟩ (fun i H2 _ ⟨acc, _, p⟩ => hl i acc H2 p) (fun i x H2 hi ⟨acc, e, p⟩ => hs D i x acc H2 hD hi e p) (fun H2 ⟨acc, e, p⟩ => hd D acc H2 hD e p)⟩
/-- a comprehension whose items are told by a function, with no new objects -/
theorem put_lst {D : Addr} {H4 : Hp} {acc : List V} {y : V} {P : List V → Hp → Prop} (e : H4 D = some (.lst acc)) (hl : acc.length < sizeLine) (h : ∀ H5, ExtB D H4 H5 → P (acc ++ [y]) H5) :
    LcP D P y H4 := ⟨acc, e, hl, _, upd_same, h _ (Xt.put rfl e rfl)⟩
end

theorem stay_lst {D : Addr} {H4 : Hp} {acc : List V} {P : List V → Hp → Prop} (e : H4 D = some (.lst acc)) (h : P acc H4) : LcN D P H4 := ⟨acc, e, h⟩
theorem gc1 {t : TG} {u : TGs} {v : V} {r : List V} {σ : L2.St} {H : Hp} {Q : L2.St → Hp → Prop} : gCons t u (v :: r) σ H Q = t v σ H fun σ' H' => u r σ' H' Q :=
  propext ⟨fun ⟨a, b, e, h⟩ => by cases e; exact h, fun h => ⟨v, r, rfl, h⟩⟩
theorem gn0 {σ : L2.St} {H : Hp} {Q : L2.St → Hp → Prop} : gNil [] σ H Q = Q σ H := propext ⟨fun h => h.2, fun h => ⟨rfl, h⟩⟩
theorem t_nm {G : Gm} {W : WX} {i : Nat} : rdTg G (.nm i) W = gName i := rfl
theorem t_ix {G : Gm} {W : WX} {o i : E} : rdTg G (.ix o i) W = gSub (rdE G o W) (rdE G i W) gIxG := rfl
theorem t_tp {G : Gm} {W : WX} {ts : Tgs} {q : Addr} {σ : L2.St} {H : Hp} {Q : L2.St → Hp → Prop} : rdTg G (.tp ts) W (.ref q) σ H Q = ∃ xs, SqT G.K H q xs ∧ xs.length = Tgs.len ts ∧ rdTgs G ts W xs σ H Q :=
  propext ⟨fun ⟨_, xs, e, h⟩ => by cases e; exact ⟨xs, h⟩, fun ⟨xs, h⟩ => ⟨q, xs, rfl, h⟩⟩
/-! ### parts -/
theorem slL {G : Gm} {p : Addr} {xs : List V} {lo hi : Option Int} {H : Hp} {Q : VK} (h : SqL G.K H p xs) (q : ∀ l H', H l = none → Ext H H' → H' l = some (.lst (cutV xs lo hi)) → Q (.ref l) H') : rSlG G (.ref p) lo hi H Q := .inl ⟨p, xs, rfl, h, al q⟩
theorem slS {G : Gm} {z : Str} {lo hi : Option Int} {H : Hp} {Q : VK} (h : z.length ≤ sizeLine) (q : Q (.str (cutS z lo hi)) H) : rSlG G (.str z) lo hi H Q := .inr (.inl ⟨z, rfl, h, q⟩)
theorem catL {p q : Addr} {xs ys : List V} {H : Hp} {Q : VK} (hx : H p = some (.lst xs)) (hy : H q = some (.lst ys)) (hl : xs.length + ys.length ≤ sizeLine) (h : ∀ l H', H l = none → Ext H H' → H' l = some (.lst (xs ++ ys)) → Q (.ref l) H') : rCat (.ref p) (.ref q) H Q := ⟨p, q, xs, ys, rfl, rfl, hx, hy, hl, al h⟩
theorem flat_one {y : V} : ∀ n : Nat, (List.replicate n [y]).flatten = List.replicate n y
  | 0 => rfl
  | n + 1 => by rw [List.replicate_succ, List.flatten_cons, flat_one n]; rfl
theorem repL {p : Addr} {y : V} {k : Int} {H : Hp} {Q : VK} (hx : H p = some (.lst [y])) (h1 : -(2 ^ 63) ≤ k) (h2 : k.toNat ≤ sizeLine) (h : ∀ l H', H l = none → Ext H H' → H' l = some (.lst (List.replicate k.toNat y)) → Q (.ref l) H') : rRep (.ref p) (.int k) H Q := by
  have hs : sizeLine < 2 ^ 63 := by decide +kernel
  refine ⟨p, k, [y], rfl, rfl, hx, h1, by omega, by rw [List.length_singleton]; omega, al ?_⟩
  rw [flat_one]
  exact h
theorem extL {p q : Addr} {xs ys : List V} {H : Hp} {Q : VK} (hx : H p = some (.lst xs)) (hy : H q = some (.lst ys)) (hl : xs.length + ys.length ≤ sizeLine) (h : ∀ H', ExtB p H H' → H' p = some (.lst (xs ++ ys)) → Q .non H') : rExtend (.ref p) [.ref q] H Q := ⟨p, q, xs, ys, rfl, rfl, hx, hy, hl, ch hx rfl h⟩
theorem appL {p : Addr} {xs : List V} {y : V} {H : Hp} {Q : VK} (hx : H p = some (.lst xs)) (hl : xs.length < sizeLine) (h : ∀ H', ExtB p H H' → H' p = some (.lst (xs ++ [y])) → Q .non H') : rAppend (.ref p) [y] H Q := ⟨p, xs, y, rfl, rfl, hx, hl, ch hx rfl h⟩
theorem setL {p : Addr} {xs : List V} {k : Int} {j : Nat} {v : V} {H : Hp} {Q : Hp → Prop} (hx : H p = some (.lst xs)) (hj : ixN xs.length k = some j) (h : ∀ H', ExtB p H H' → H' p = some (.lst (xs.set j v)) → Q H') : gIxG (.ref p) (.int k) v H Q := .inl ⟨p, xs, k, j, rfl, rfl, hx, hj, ch hx rfl h⟩
theorem setD {p : Addr} {kvs : List (Key × V)} {k : Key} {v : V} {H : Hp} {Q : Hp → Prop} (hx : H p = some (.dK kvs)) (hl : kvs.length < sizeLine) (h : ∀ H', ExtB p H H' → H' p = some (.dK (putK kvs k v)) → Q H') : gIxG (.ref p) (kV k) v H Q := .inr ⟨p, _, rfl, DPut.k hx hl, ch (R := Q) hx rfl h⟩
theorem itL {G : Gm} {p : Addr} {xs : List V} {i : Int} {v : V} {H : Hp} {Q : VK} (h : H p = some (.lst xs)) (ha : atI xs i = some v) (q : Q v H) : rIxG G (.ref p) (.int i) H Q := ixL (.inl (.inl h)) ha q
theorem itT {G : Gm} {p : Addr} {xs : List V} {i : Int} {v : V} {H : Hp} {Q : VK} (h : H p = some (.tup xs)) (ha : atI xs i = some v) (q : Q v H) : rIxG G (.ref p) (.int i) H Q := ixT (.inl (.inl h)) ha q
theorem atI_nat {α : Type} {xs : List α} {i : Int} {v : α} (h0 : 0 ≤ i) (h : xs[i.toNat]? = some v) : atI xs i = some v := by
  have hl := (List.getElem?_eq_some_iff.mp h).1
  unfold atI ixN
  rw [if_pos h0, if_pos (by omega)]
  exact h
theorem tyL {K : PySem.W.Frag} {p : Addr} {xs : List V} {H : Hp} (h : H p = some (.lst xs)) : tyV K "list" (.ref p) H := .inl ⟨rfl, xs, .inl (.inl h)⟩
end Kn

/-! KnL: lambdas with one parameter that their text does not use. -/
namespace Kn
open PySem PySem.Spec PyProof.Rows L2

/-- the names of a lambda's text: its parameter a (no name of the maker's), captured ones, globals -/
structure LamP (N : List Str) (a : Str) (sc scope : Scope) : Prop where
  kind : scope.kind = .function
  co : scope.isCoroutine = false
  gen : scope.isGenerator = false
  par : scope.names.lookup a = some .local
  own : ∀ y ∈ scope.names, y.2 ≠ .cell ∧ (y.2 = .local → y.1 = a)
  off : a ∉ N
  free : ∀ y ∈ scope.names, y.2 = .free → sc.names.lookup y.1 = some .cell ∨ sc.names.lookup y.1 = some .free
def lamPB (N : List Str) (a : Str) (sc scope : Scope) : Bool :=
  decide (scope.kind = .function) && (!scope.isCoroutine && (!scope.isGenerator && (decide (scope.names.lookup a = some .local) && (scope.names.all (fun y => !decide (y.2 = .cell) && (!decide (y.2 = .local) || decide (y.1 = a)) && (!decide (y.2 = .free) || decide (sc.names.lookup y.1 = some .cell) || decide (sc.names.lookup y.1 = some .free))) && !N.contains a))))
theorem lamP_by {N : List Str} {a : Str} {sc scope : Scope} (h : lamPB N a sc scope = true) : LamP N a sc scope := by
  unfold lamPB at h
  simp only [Bool.and_eq_true, Bool.or_eq_true, Bool.not_eq_true', decide_eq_true_eq, decide_eq_false_iff_not, List.all_eq_true] at h
  obtain ⟨h1, h2, h3, h4, h5, h6⟩ := h
  refine ⟨h1, h2, h3, h4, fun y hy => ⟨(h5 y hy).1.1, fun e => ?_⟩, fun z => ?_, fun y hy e => ?_⟩
  · exact (h5 y hy).1.2.elim (fun z => absurd e z) id
  · rw [List.contains_iff_mem.mpr z] at h6
    cases h6
  · rcases (h5 y hy).2 with (z | z) | z
    · exact absurd e z
    · exact Or.inl z
    · exact Or.inr z
section
variable {X : Cx} {pins : List (Addr × Obj)} {σ : L2.St} {H HZ : Hp} {s s1 : Shared} {scope : Scope} {f c' : Addr} {a : Str}
theorem LamP.caps (L : LamP X.N a X.env.scope scope) (ok : X.Ok) : ∀ y ∈ scope.names, y.2 = .free → ∃ c, X.env.cells.lookup y.1 = some c := by
  intro y hy e
  rcases L.free y hy e with k | k
  · exact ok.has _ (Or.inl k)
  · exact ok.has _ (Or.inr k)
/-- the text of the lambda, entered -/
theorem lam_st1 {A : Around} {outer : List Env} {E : XK} {h1 : Heap} {tk : Nat} {v : Value} (I : Inv X pins σ H s) (L : LamP X.N a X.env.scope scope) (e0 : Env0 X.prog X.w X.K X.mg X.base A outer s1 HZ) (hd : A.handled = none)
    (un : Un (frs X.stack) [] H HZ s.heap s1.heap) (hns : h1.Ns s1.heap.objs.size fun y => ([(a, v)] : List (Str × Value)).reverse.lookup y) (kp : ∀ b o, s1.heap.get? b = some o → h1.get? b = some o) :
    Inv (LamX.lamCx X A outer s1 HZ E scope f c') [] σ HZ { s1 with heap := h1, toks := tk } := by
  have caps := L.caps I.ok
  have toX : ∀ {y c}, (cloFrom X.env.cells scope.names []).lookup y = some c → X.env.cells.lookup y = some c := by
    intro y c e
    rcases cloFrom_mem (PySem.mem_of_lookup e) with hm | ⟨g1, g2⟩
    · cases hm
    · obtain ⟨c1, hc⟩ := caps _ g1 rfl
      have hc' : X.env.cells.lookup y = some c1 := hc
      have e2 : c = c1 := by rw [g2, hc] <;> rfl
      exact e2 ▸ hc'
  have there : ∀ {y}, scope.names.lookup y = some .free → ∃ c, (cloFrom X.env.cells scope.names []).lookup y = some c := by
    intro y hl
    have hy : (y, NameKind.free) ∈ scope.names := PySem.mem_of_lookup hl
    exact mem_lookup (cloFrom_has (cells := X.env.cells) (acc := []) hy)
  have cells : ∀ {c : Addr} {u : Option Value}, H c = none → s.heap.IsCell c u → h1.IsCell c u := by
    rintro c u n ⟨o, ho, hdd⟩
    obtain ⟨sl, q⟩ := un.any ho n (by simp)
    exact ⟨_, kp _ _ q, hdd⟩
  have none_ : ∀ b : Addr, b ∉ (LamX.lamCx X A outer s1 HZ E scope f c').ex := fun b z => absurd (show b ∈ ([] : List Addr) from z) (by simp)
  refine ⟨⟨e0.mod, L.kind, rfl, rfl, Nat.le_refl _, fun y z c e1 e2 => I.ok.inj y z c (toX e1) (toX e2), fun y hy => ?_, fun y c z _ => ?_, fun _ => hd, Around.frames_deeper e0.frames, Or.inr ⟨rfl, rfl⟩, fun b z => absurd z (none_ b), e0.bs, e0.bsz, fun b _ _ => none_ b,
      fun b z => absurd z (none_ b), e0.funs, e0.frf⟩,
    rfl, e0.bare, Un.kept kp, ⟨_, hns, fun i y w e1 e2 e3 => ?_⟩, fun y c e => ?_, e0.hok.fresh (Nat.le_refl _), fun y c e => ?_, fun q hq => absurd (show q ∈ ([] : List (Addr × Obj)) ++ [] from hq) (by simp), e0.hok.kept kp, I.len⟩
  · have hy' : scope.names.lookup y = some .cell ∨ scope.names.lookup y = some .free := hy
    rcases hy' with hy' | hy'
    · exact absurd rfl (L.own _ (PySem.mem_of_lookup hy')).1
    · exact there hy'
  · exact absurd (show false = true from z) Bool.false_ne_true
  · have e3' : Vis scope y := e3
    rcases e3' with k | k | k
    · have ey : y = a := (L.own _ (PySem.mem_of_lookup k)).2 rfl
      have e1' : X.N[i]? = some y := e1
      rw [ey] at e1'
      exact absurd (List.mem_of_getElem? e1') L.off
    · exact absurd rfl (L.own _ (PySem.mem_of_lookup k)).1
    · obtain ⟨m, hn, hl⟩ := I.loc
      have seen : Vis X.env.scope y := (L.free _ (PySem.mem_of_lookup k) rfl).elim (fun k => Or.inr (Or.inl k)) (fun k => Or.inr (Or.inr k))
      obtain ⟨w', r, q⟩ := hl i y w e1 e2 seen
      obtain ⟨c2, h2⟩ := there k
      have c1 := toX h2
      refine ⟨w', r, Or.inr ⟨Or.inr k, c2, h2, ?_⟩⟩
      rcases q with ⟨k', _⟩ | ⟨_, c3, e', z⟩
      · have k'' : X.env.scope.names.lookup y = some .local := k'
        rcases L.free _ (PySem.mem_of_lookup k) rfl with k2 | k2
        · rw [show X.env.scope.names.lookup y = _ from k2] at k''
          cases k''
        · rw [show X.env.scope.names.lookup y = _ from k2] at k''
          cases k''
      · rw [c1] at e'
        cases e'
        exact cells (I.freeC y _ c1) z
  · obtain ⟨w', z⟩ := I.cell y c (toX e)
    exact ⟨w', cells (I.freeC y c (toX e)) z⟩
  · obtain ⟨w, o, ho, hdd⟩ := I.cell y c (toX e)
    exact un.free c o ho (I.freeC y c (toX e)) (by simp)
/-- x(e), x the slot that holds the lambda, in the def Z that got it -/
theorem pe_act1 {CXg : CXT} {Eg : XK} {Ng : List Str} {qg : Str} {sg : Scope} {g : Addr} {cdg pm ctv : Value} {params : Arguments} {body : Expr} {k i : Nat} {m : Str} {pn : List (Addr × Obj)} {xe : Value → Shared → Prop} {W : WX} {tb : XK → TE} {p1 p2 : Pos} {e1 : Expr} {te : TE}
    (I : Inv X pins σ H s) (L : LamP X.N a X.env.scope scope) (hf : s.heap.get? f = some (PySem.W.kla_obj "<lambda>" (X.env.qual ++ "<lambda>") params body scope (cloFrom X.env.cells scope.names []) pm c' ctv)) (hfn : H f = none) (hfr : f ∉ frs X.stack)
    (hbind : ∀ u : Value, bindArgs (PySem.W.kla_fn "<lambda>" (X.env.qual ++ "<lambda>") params body scope (cloFrom X.env.cells scope.names []) pm (.ref c') ctv) ⟨[u], []⟩ = pure [(a, u)])
    (tk : Takes ((cxOf CXg X.prog X.w X.K X.mg X.base Ng qg sg g cdg X.A X.stack s H Eg).tr pn xe) W) (hr : Room (k + 1) (X.A.deeper (envOfC qg sg s.heap.objs.size g cdg)))
    (hbody : ∀ (A : Around) (outer : List Env) (s : Shared) (H : Hp) (E : XK), Room k (A.deeper (LamX.lamEnv X scope s.heap.objs.size f c')) → A.guards = X.A.guards → PE (LamX.lamCx X A outer s H E scope f c') body (tb E))
    (hgd : (X.A.deeper (envOfC qg sg s.heap.objs.size g cdg)).guards = X.A.guards)
    (ha : PE ((cxOf CXg X.prog X.w X.K X.mg X.base Ng qg sg g cdg X.A X.stack s H Eg).tr pn xe) e1 te) (hst : notStar e1 = true) (hN : Ng[i]? = some m) (hv : Vis sg m) (hd : (m == ("__debug__" : Str)) = false) (hcd : (m == ("__classdict__" : Str)) = false) :
    PE ((cxOf CXg X.prog X.w X.K X.mg X.base Ng qg sg g cdg X.A X.stack s H Eg).tr pn xe) (.Call (.Name m p1) [e1] [] p2)
      (fun σZ HZ Q => σZ[i]? = some (some (.ref f)) ∧ te σZ HZ fun _ H1 => H1 c' = some (LamX.CodeO c' (X.env.qual ++ "<lambda>")) ∧ tb (fun cls d H' => W cls d σZ H') σ H1 Q) := by
  refine ⟨fun pinsZ sZ σZ HZ Q IZ h => ?_⟩
  obtain ⟨hs, h⟩ := h
  refine wpAny_Call_Name_kw (thn ((pe_var (pos := p1) (i := i) hN hv hd hcd).run pinsZ sZ σZ HZ (fun v H1 => v = .ref f ∧ H1 = HZ) IZ ⟨.ref f, hs, rfl, rfl⟩) fun u s1 hh => ?_)
  obtain ⟨v, H1, I1, r1, ev, eH⟩ := hh
  subst ev eH
  obtain rfl : u = Value.ref f := r1
  have lives : ∀ {s2 : Shared} {H2 : Hp}, Inv ((cxOf CXg X.prog X.w X.K X.mg X.base Ng qg sg g cdg X.A X.stack s H Eg).tr pn xe) pinsZ σZ H2 s2 → s2.heap.get? f = some (PySem.W.kla_obj "<lambda>" (X.env.qual ++ "<lambda>") params body scope (cloFrom X.env.cells scope.names []) pm c' ctv) :=
    fun J => J.base.keep f _ hf hfn hfr (fun z => nomatch (show f ∈ ([] : List Addr) from z))
  have runs := (pa_cons ha pa_nil (star_cons hst)).run p2 pinsZ s1 σZ H1 (fun vs H2 => ∃ x, vs = [x] ∧ H2 c' = some (LamX.CodeO c' (X.env.qual ++ "<lambda>")) ∧ tb (fun cls d H' => W cls d σZ H') σ H2 Q) I1 (by
    show te σZ H1 fun x H2 => ∃ x', [x] = [x'] ∧ H2 c' = some (LamX.CodeO c' (X.env.qual ++ "<lambda>")) ∧ tb (fun cls d H' => W cls d σZ H') σ H2 Q
    have same : (fun (x : V) (H2 : Hp) => H2 c' = some (LamX.CodeO c' (X.env.qual ++ "<lambda>")) ∧ tb (fun cls d H' => W cls d σZ H') σ H2 Q) = fun (x : V) (H2 : Hp) => ∃ x', [x] = [x'] ∧ H2 c' = some (LamX.CodeO c' (X.env.qual ++ "<lambda>")) ∧ tb (fun cls d H' => W cls d σZ H') σ H2 Q :=
      funext fun x => funext fun H2 => propext ⟨fun z => ⟨x, rfl, z⟩, fun ⟨_, _, z⟩ => z⟩
    rw [← same]
    exact h)
  refine PySem.W.callWith_F ⟨_, _, _, _, lives I1⟩ (thn runs fun us s2 hh => ?_) (he := star_cons hst)
  obtain ⟨vs, H2, I2, rv, x, ex, hc, ht⟩ := hh
  subst ex
  refine ⟨⟨_, _, _, _, lives I2⟩, ?_⟩
  cases rv with
  | cons rx rn =>
    cases rn
    rename_i u0
    have un : Un (frs X.stack) [] H H2 s.heap s2.heap := I2.base
    obtain ⟨⟨oc, cvs, t, hoc, hdc, hvc⟩, _, _⟩ := I2.hok c' _ hc
    have called : codeAny (model X.prog X.w) (X.A.deeper (envOfC qg sg s.heap.objs.size g cdg)) (.call (.ref f) ⟨[u0], []⟩) (CR (L2.CX X.prog X.w) (envOfC qg sg s.heap.objs.size g cdg :: X.stack) X.prog X.w H2 s2 Q (fun cls d H' => W cls d σZ H')) s2 := by
      refine PySem.W.kla_callFunE hr.depth (lives I2) rfl L.co L.gen rfl ⟨c', oc, cvs, t, rfl, hoc, hdc, hvc⟩ ?_
      rw [hbind]
      refine wpAny_pure (wpAny_newFunctionEnv (fun y hy => (L.own y hy).1) (fun y hy => by rw [List.mem_singleton.mp hy]; exact L.par) (fun h1 hns hsb => ⟨I2.nolimit.fresh _ hsb, ?_⟩) L.kind)
      show codeAny _ _ (.expr body (LamX.lamEnv X scope s2.heap.objs.size f c')) _ _
      have kp : ∀ b o, s2.heap.get? b = some o → h1.get? b = some o := fun b o e => hsb.extBut b o (Nat.ne_of_lt (Heap.lt_size e)) (Heap.get?_push_of_some _ e)
      have J := lam_st1 (E := fun cls d H' => W cls d σZ H') (f := f) (c' := c') (tk := s2.toks + ([(a, u0)] : List (Str × Value)).length) I L I2.env0 hr.hd un hns kp
      refine PySem.W.kla_codeExpr (wpAny_mono ((hbody _ _ s2 H2 _ (hr.deeper _) hgd).run [] _ _ H2 Q J ht) (fun v s' hq => ?_) fun e s' hq => hq)
      obtain ⟨w', H', J', rv', q⟩ := hq
      exact ⟨w', H', J'.os, J'.bare, J'.base, J'.hok, rv', q⟩
    refine wpAny_call (codeAny_mono called fun r s' got => ?_)
    match r, got with
    | .error e, got => exact tk e s' (XE.of_call I2 (fun _ _ _ z => z) got)
    | .ok (.ret u), got => exact I2.after got
    | .ok .next, got => exact False.elim got
    | .ok .brk, got => exact False.elim got
    | .ok .cont, got => exact False.elim got
/-- a code object is made and told by the table at P -/
theorem ext_tab {H : Hp} {P c : Addr} {ps : Array Value} {pp : Pos} (hP : H P = some (.tbl ps)) (ht : TriplesOk ps.toList) (hc : H c = none) : Ext H (upd (upd H P (.tbl (ps ++ #[rawInt pp.line, rawInt pp.col, .ref c]))) c (LamX.CodeO c (lamQ pp.line))) := by
  have eL : (ps ++ #[rawInt pp.line, rawInt pp.col, .ref c]).toList = ps.toList ++ [rawInt pp.line, rawInt pp.col, .ref c] := by simp
  have ok2 : TriplesOk (ps ++ #[rawInt pp.line, rawInt pp.col, .ref c]).toList := by rw [eL]; exact PySem.TriplesOk_snoc _ _ _ _ ht
  have nPc : P ≠ c := fun z => by rw [z, hc] at hP; cases hP
  have atP : upd (upd H P (.tbl (ps ++ #[rawInt pp.line, rawInt pp.col, .ref c]))) c (LamX.CodeO c (lamQ pp.line)) P = some (.tbl (ps ++ #[rawInt pp.line, rawInt pp.col, .ref c])) := by rw [upd_ne nPc, upd_same]
  have stay : ∀ b o, H b = some o → (∀ q, o ≠ .tbl q) → upd (upd H P (.tbl (ps ++ #[rawInt pp.line, rawInt pp.col, .ref c]))) c (LamX.CodeO c (lamQ pp.line)) b = some o := by
    intro b o e n
    rw [upd_ne (ne_of_none e hc), upd_ne (fun z => n ps (Option.some.inj (e.symm.trans (by rw [z]; exact hP))))]
    exact e
  have other : ∀ b, b ≠ P → b ≠ c → upd (upd H P (.tbl (ps ++ #[rawInt pp.line, rawInt pp.col, .ref c]))) c (LamX.CodeO c (lamQ pp.line)) b = H b := by
    intro b h1 h2
    rw [upd_ne h2, upd_ne h1]
  refine ⟨fun b o _ e n => stay b o e n, fun b => fun e => upd_dm (upd_dm e), fun Q hQ => ?_, fun Q hQ => ?_⟩
  · by_cases e : Q = P
    · rw [e]
      exact ⟨_, atP, ok2⟩
    · obtain ⟨qs, e1, e2⟩ := hQ
      exact ⟨qs, by rw [other Q e (fun z => by rw [z, hc] at e1; cases e1)]; exact e1, e2⟩
  · obtain ⟨qs, e1, e2, e3⟩ := hQ
    by_cases e : Q = P
    · subst e
      rw [hP] at e1
      cases e1
      refine ⟨_, atP, ok2, fun pos cv hl hcv => ?_⟩
      rw [eL] at hcv
      rcases among_app2 _ ht hcv with z | ⟨z, zl⟩
      · obtain ⟨c0, z1, z2⟩ := e3 pos cv hl z
        exact ⟨c0, z1, stay _ _ z2 LamX.codeO_ne⟩
      · exact ⟨c, z, by rw [zl]; exact upd_same⟩
    · refine ⟨qs, by rw [other Q e (fun z => by rw [z, hc] at e1; cases e1)]; exact e1, e2, fun pos cv hl hcv => ?_⟩
      obtain ⟨c0, z1, z2⟩ := e3 pos cv hl hcv
      exact ⟨c0, z1, stay _ _ z2 LamX.codeO_ne⟩
/-- the lambda is made: its code object is new, or the table tells it -/
theorem lam_mk {c P : Addr} {params : Arguments} {body : Expr} {pos : Pos} {E : Value → Shared → Prop} {Q : Value → Shared → Prop} (I : Inv X pins σ H s) (TB : LamX.TabB X.base X.mg c P) (hcode : X.env.code = .ref c) (hq : X.env.qual ++ "<lambda>" = lamQ pos.line) (hlp : lamPos pos.line = true)
    (hT : TabL H P) (hdef : defaultsOf params X.env = ([], [])) (hfree : ∀ y ∈ scope.names, y.2 = .free → ∃ c, X.env.cells.lookup y.1 = some c)
    (h : ∀ (f c' : Addr) (pm ctv : Value) (H1 : Hp) (s' : Shared), Inv X pins σ H1 s' → Ext H H1 → s'.heap.get? f = some (PySem.W.kla_obj "<lambda>" (X.env.qual ++ "<lambda>") params body scope (cloFrom X.env.cells scope.names []) pm c' ctv) → H1 f = none → f ∉ frs X.stack →
      H1 c' = some (LamX.CodeO c' (X.env.qual ++ "<lambda>")) → Q (.ref f) s') : wpAny (model X.prog X.w) X.A (eval (.Lambda params body scope pos) X.env) Q E s := by
  obtain ⟨ps, hP, ht, told⟩ := hT
  refine PySem.W.kla_eval hdef ?_
  have bP : s.heap.BuiltinsAt X.mg P := TB.bm.keeps I.bk
  have obP : s.heap.get? P = some { cls := .none, data := .fields ps } := I.hok P _ hP
  have away : ∀ f, s.heap.objs.size ≤ f → f ∉ frs X.stack := by
    intro f hf z
    rcases List.mem_cons.mp (I.stkSub _ z) with e | e
    · have lt := I.lt
      rw [← e] at lt
      exact absurd (Nat.lt_of_lt_of_le lt hf) (Nat.lt_irrefl _)
    · exact I.nofs hf e
  cases hc : codeAmong pos ps.toList with
  | some cv =>
    obtain ⟨c', e, known⟩ := told pos cv hlp hc
    subst e
    refine PySem.W.kla_makeFunctionHit (mg := X.mg) (c := c) (P := P) (ps := ps) (closure_ok hfree) I.ok.glob (I.mod.glob.keeps I.bk) hcode (TB.code.keeps I.bk) obP ht hc bP fun ctv h' tk hx hsz => ?_
    have I1 : Inv X pins σ H { s with heap := h'.push (PySem.W.kla_obj "<lambda>" (X.env.qual ++ "<lambda>") params body scope (cloFrom X.env.cells scope.names []) ((X.mg "__name__").getD .none) c' ctv), toks := tk } := I.kept fun b o e => Heap.get?_push_of_some _ (hx b o e)
    exact h h'.objs.size c' _ ctv H _ I1 Xt.refl (Heap.get?_push_size _ rfl) (I.hok.fresh hsz) (away _ hsz) (by rw [hq]; exact known)
  | none =>
    refine PySem.W.kla_makeFunction (mg := X.mg) (c := c) (P := P) (ps := ps) (closure_ok hfree) I.ok.glob (I.mod.glob.keeps I.bk) hcode (TB.code.keeps I.bk) obP ht hc TB.gP bP fun c' ctv h' tk hx hge hlt hrec htb => ?_
    obtain ⟨c2, oc, vs, t, e2, hoc, hd, hv⟩ := hrec
    cases e2
    have hsz := Nat.le_trans hge (Nat.le_of_lt hlt)
    have fresh : H c' = none := I.hok.fresh hge
    have I1 := LamX.inv_table (t' := tk) (more := #[rawInt pos.line, rawInt pos.col, .ref c']) (h' := h'.push (PySem.W.kla_obj "<lambda>" (X.env.qual ++ "<lambda>") params body scope (cloFrom X.env.cells scope.names []) ((X.mg "__name__").getD .none) c' ctv)) I hP
      (fun b o hb e => Heap.get?_push_of_some _ (hx b o hb e)) (Heap.get?_push_of_some _ htb) hge ⟨oc, vs, t, Heap.get?_push_of_some _ hoc, hd, hv⟩
    have grow := ext_tab (pp := pos) hP ht fresh
    rw [hq] at I1
    refine h h'.objs.size c' _ ctv _ _ (by rw [hq]; exact I1) grow (Heap.get?_push_size _ rfl) ?_ (away _ hsz) (by rw [hq]; exact upd_same)
    rw [upd_ne (Nat.ne_of_gt hlt), upd_ne (Nat.ne_of_gt (Nat.lt_of_lt_of_le (Heap.lt_size obP) hsz))]
    exact I.hok.fresh hsz
end
/-- the def (its text bg, its parameter m) that is given a lambda: TT is what it makes of the lambda's reading -/
def GivesL (X : Cx) (Ng : List Str) (qg m : Str) (sg : Scope) (g : Addr) (cdg : Value) (bg : List Stmt) (TT : (XK → Hp → VK → Prop) → Hp → VK → XK → Prop) : Prop :=
  ∀ (f c' : Addr) (s : Shared) (H : Hp) (Q : VK) (Eo : XK) (tl : XK → Hp → VK → Prop),
    (∀ (W : WX) (pn : List (Addr × Obj)) (xe : Value → Shared → Prop) (p1 p2 : Pos) (e1 : Expr) (te : TE), Takes ((cxOf (L2.CX X.prog X.w) X.prog X.w X.K X.mg X.base Ng qg sg g cdg X.A X.stack s H Eo).tr pn xe) W →
      PE ((cxOf (L2.CX X.prog X.w) X.prog X.w X.K X.mg X.base Ng qg sg g cdg X.A X.stack s H Eo).tr pn xe) e1 te → notStar e1 = true →
      PE ((cxOf (L2.CX X.prog X.w) X.prog X.w X.K X.mg X.base Ng qg sg g cdg X.A X.stack s H Eo).tr pn xe) (.Call (.Name m p1) [e1] [] p2)
        (fun σZ HZ Q => σZ[0]? = some (some (.ref f)) ∧ te σZ HZ fun _ H1 => H1 c' = some (LamX.CodeO c' (X.env.qual ++ "<lambda>")) ∧ tl (fun cls d H' => W cls d σZ H') H1 Q)) →
    H c' = some (LamX.CodeO c' (X.env.qual ++ "<lambda>")) → Room 1 (X.A.deeper (envOfC qg sg s.heap.objs.size g cdg)) → TT tl H Q Eo →
    ∃ t, PSs (cxOf (L2.CX X.prog X.w) X.prog X.w X.K X.mg X.base Ng qg sg g cdg X.A X.stack s H Eo) bg t ∧ t { nx := fun _ H' => Q .non H', rt := Q } (L2.start Ng [.ref f]) H
section
variable {X : Cx} {scope : Scope} {a : Str}
/-- x(lambda a: body) -/
theorem pe_lamc {TT : (XK → Hp → VK → Prop) → Hp → VK → XK → Prop} {x m qg : Str} {g c P : Addr} {k : Nat} {pg : Arguments} {bg : List Stmt} {sg : Scope} {kws : List (Str × V)} {fdg : FuncData} {Ng : List Str} {W : WX}
    {params : Arguments} {body : Expr} {t : XK → TE} {p lpos pos : Pos} (hg : Gl X x) (hm : X.mg x = some (.ref g)) (Fg : FunD X.K x qg pg bg sg [] kws g fdg) (hb : L2.Binds X.K fdg [m] []) (Sg : FnScope Ng [m] sg) (hNg : Ng[0]? = some m) (hvm : Vis sg m)
    (hG : ∀ cdg, GivesL X Ng qg m sg g cdg bg TT) (TB : LamX.TabB X.base X.mg c P) (hcode : X.env.code = .ref c) (hq : X.env.qual ++ "<lambda>" = lamQ lpos.line) (hlp : lamPos lpos.line = true) (hr : Room (k + 3) X.A) (tk : Takes X W) (L : LamP X.N a X.env.scope scope) (hdef : defaultsOf params X.env = ([], []))
    (hbind : ∀ (q : Str) (cl : List (Str × Addr)) (pm cv ctv u : Value), bindArgs (PySem.W.kla_fn "<lambda>" q params body scope cl pm cv ctv) ⟨[u], []⟩ = pure [(a, u)])
    (hbody : ∀ (A : Around) (outer : List Env) (s : Shared) (H : Hp) (E : XK) (f c' : Addr), Room k (A.deeper (LamX.lamEnv X scope s.heap.objs.size f c')) → A.guards = X.A.guards → PE (LamX.lamCx X A outer s H E scope f c') body (t E))
    (hdb : (x == ("__debug__" : Str)) = false) (hd : (m == ("__debug__" : Str)) = false) (hcd : (m == ("__classdict__" : Str)) = false) :
    PE X (.Call (.Name x p) [.Lambda params body scope lpos] [] pos) (fun σ H Q => TabL H P ∧ ∀ H1, Ext H H1 → TT (fun E H' Q' => t E σ H' Q') H1 Q (fun cls d H' => W cls d σ H')) := by
  obtain ⟨oc, od, dV, kV, doc, pm, an, cdv, ct, osl, rfl, lk, hcg, _, _⟩ := Fg.ex
  refine ⟨fun pins s σ H Q I h => ?_⟩
  obtain ⟨hT, h⟩ := h
  refine wpAny_Call_Name_kw (ld_glob I hg hm ?_ hdb)
  refine PySem.W.callWith_K (h₀ := X.base) I.ok.mod.kin Fg.kp ?_ (by rfl) (by rfl)
  show wpAny _ _ (spliced ((false, eval (.Lambda params body scope lpos) X.env) :: backTo pos (starEach [] X.env))) _ _ s
  refine Calls.spliced_cons (lam_mk I TB hcode hq hlp hT hdef (L.caps I.ok) fun f c' pm' ctv H1 s' I1 e1 hf hfn hfr hco => ?_)
  refine Calls.spliced_nil ⟨I1.kIn, ?_⟩
  have go : codeAny (model X.prog X.w) X.A (.call (.ref g) ⟨[.ref f], []⟩) (CR (L2.CX X.prog X.w) X.stack X.prog X.w H1 s' Q (fun cls d H' => W cls d σ H')) s' := by
    refine LamX.run_ofS (N := Ng) (ps := [m]) (us := [.ref f]) (vs := [.ref f]) (k := k + 2) lk hcg Sg (hr.mono (by omega)) I1.env0 (hb s' [.ref f] I1.kIn rfl) (.cons rfl .nil) rfl fun hr' => ?_
    exact hG cdv f c' s' H1 Q _ (fun E H' Q' => t E σ H' Q') (fun W' pn xe p1 p2 e1 te tk' he hst => pe_act1 (i := 0) (tb := t) I1 L hf hfn hfr (hbind _ _ _ _ _) tk' (hr'.mono (by omega)) (fun A outer s H E hr2 hgd => hbody A outer s H E f c' hr2 hgd) rfl he hst hNg hvm hd hcd) hco (hr'.mono (by omega)) (h H1 e1)
  refine wpAny_call (codeAny_mono go fun res s2 got => ?_)
  match res, got with
  | .error e, got => exact tk e s2 (XE.of_call I1 (fun _ _ _ z => z) got)
  | .ok (.ret u), got => exact I1.after got
  | .ok .next, got => exact False.elim got
  | .ok .brk, got => exact False.elim got
  | .ok .cont, got => exact False.elim got
end
end Kn

/-! KnM: the law's def that catches what a lambda raises. -/
namespace Kn
open PySem PySem.Spec PyProof.Rows L2

/-- found = [k1]; try: found = [k2, m(k)][:1]; except ..; return found -/
def catchText (m y k1 k2 : Str) (k : Int) (hds : List ExceptHandler) (j : Nat → Nat) (p : Nat → Pos) : List Stmt :=
  [.Assign [.Name y (p 0)] (.List [.Constant (.str k1) (j 0) (p 1)] (p 2)) (p 3),
   .Try [.Assign [.Name y (p 4)] (.Subscript (.List [.Constant (.str k2) (j 1) (p 5), .Call (.Name m (p 6)) [.Constant (.int k) (j 2) (p 7)] [] (p 8)] (p 9)) (.Slice none (some (.Constant (.int 1) (j 3) (p 10))) none (p 11)) (p 12)) (p 13)] hds [] [] (p 14),
   .Return (some (.Name y (p 15))) (p 16)]
/-- what is read of it -/
def TTc (G : Gm) (k1 k2 : Str) (n0 : Nat) (hs : Hs) : (XK → Hp → VK → Prop) → Hp → VK → XK → Prop := fun tl H Q Eo => ∀ f : Addr,
  New H (.lst [.str k1]) fun p0 H0 => tl (fun cls d H' => wHs G.K (fun cls d _ H' => Eo cls d H') { nx := fun σ H => tRet (tVar 1) { nx := fun _ H' => Q .non H', rt := Q } σ H, rt := Q } (clsOf G (fun cls d _ H' => Eo cls d H') hs) cls d ((some (V.ref f) :: some (V.ref p0) :: List.replicate n0 none)) H') H0
    fun v H1 => New H1 (.lst [.str k2, v]) fun l H2 => rSlG G (.ref l) none (some 1) H2 fun w H3 => Q w H3
theorem caught_gives {X : Cx} {m y qg k1 k2 : Str} {ys : List Str} {k : Int} {sg : Scope} {g : Addr} {cdg : Value} {h0 : ExceptHandler} {hds : List ExceptHandler} {hs : Hs} {j : Nat → Nat} {p : Nat → Pos} (S : FnScope (m :: y :: ys) [m] sg) (hcalm : X.calm = true) (hgd : X.A.guards = some [])
    (hh : chkHs ⟨m :: y :: ys, sg, true, none⟩ hs (h0 :: hds) = true) (hG : GdHs (gm X) 1 hs) (hy : sg.names.lookup y = some .local) (hd : (y == ("__debug__" : Str)) = false) (hcd : (y == ("__classdict__" : Str)) = false) :
    GivesL X (m :: y :: ys) qg m sg g cdg (catchText m y k1 k2 k (h0 :: hds) j p) (TTc (gm X) k1 k2 ys.length hs) := by
  intro f c' s H Q Eo tl act hc hr ht
  have R : RS (gm X) ⟨m :: y :: ys, sg, true, none⟩ 1 (cxOf (L2.CX X.prog X.w) X.prog X.w X.K X.mg X.base (m :: y :: ys) qg sg g cdg X.A X.stack s H Eo) (fun cls d _ H' => Eo cls d H') :=
    { g := rfl, N := rfl, sc := rfl, nd := S.nd, calm := rfl, room := hr, gd := hgd, tk := takes_of rfl rfl rfl rfl, po := passes_of rfl, fn := fun _ _ => rfl, cd := (fun _ z => nomatch z), ql := (fun _ z => nomatch z), stk := rfl, frm := rfl }
  have nd := S.nd
  have n1 : (m :: y :: ys)[1]? = some y := rfl
  refine ⟨_, pss_cons (ps_asg (pe_lst (pa_cons pe_str pa_nil)) (pg_name (i := 1) nd n1 (.inl hy))) (pss_cons (ps_tryA (tb := fun W => tAsg (tSl (rSlG (gm X)) (tLst (tCons (tC (.str k2)) (tCons (fun σZ HZ Q => σZ[0]? = some (some (.ref f)) ∧ (tC (.int k)) σZ HZ fun _ H1 => H1 c' = some (LamX.CodeO c' (X.env.qual ++ "<lambda>")) ∧ tl (fun cls d H' => W cls d σZ H') H1 Q) tNil))) tNoPart (tPart (tC (.int 1)))) (gName 1))
    (Wout := fun cls d _ H' => Eo cls d H') rfl rfl nd R.tk (fun W pn xe tk po => ?_) (sndHs hs R hG hh)) (pss_one (ps_ret (pe_var (i := 1) n1 (.inl hy) hd hcd)))), ?_⟩
  · refine pss_one (ps_asg (pe_slice sl_G (pe_lst (pa_cons pe_str (pa_cons (act W pn xe _ _ _ _ tk pe_int rfl) pa_nil))) po_none (po_some pe_int)) (pg_name (i := 1) nd n1 (.inl hy)))
  · refine ⟨len_small (by simp), fun p0 hp0 => ?_⟩
    have h1 := ht f p0 hp0
    have hc0 : upd H p0 (.lst [.str k1]) c' = some (LamX.CodeO c' (X.env.qual ++ "<lambda>")) := by rw [upd_ne (ne_of_none hc hp0)]; exact hc
    have est : (L2.start (m :: y :: ys) [V.ref f]).set 1 (some (V.ref p0)) = some (V.ref f) :: some (V.ref p0) :: List.replicate ys.length none := by
      unfold L2.start
      simp [List.replicate_succ]
    simp only [gName, tSeq, est]
    refine ⟨rfl, hc0, ?_⟩
    have same : (fun (v : V) (H1 : Hp) => New H1 (.lst [.str k2, v]) fun l H2 => rSlG (gm X) (.ref l) none (some 1) H2 fun w H3 => Q w H3) =
        (fun (v : V) (H1 : Hp) => [V.str k2, v].length ≤ sizeLine ∧ ∀ l, H1 l = none → ∃ i : Int, V.int 1 = .int i ∧ rSlG (gm X) (.ref l) none (some i) (upd H1 l (.lst [.str k2, v])) fun w H3 => ∃ x, ((some (V.ref f) :: some (V.ref p0) :: List.replicate ys.length none : L2.St).set 1 (some w))[1]? = some (some x) ∧ Q x H3) := by
      funext v H1
      refine propext ⟨fun z => ⟨len_small (by simp), fun l hl => ⟨1, rfl, ?_⟩⟩, fun z l hl => ?_⟩
      · have z' := z l hl
        simpa using z'
      · obtain ⟨i, e, z'⟩ := z.2 l hl
        cases e
        simpa using z'
    rw [same] at h1
    exact h1
/-- the text of a lambda, its trees -/
theorem RX.lam {G : Gm} {c : CC} {n k : Nat} {X : Cx} {W : WX} (R : RX G c n X W) {A : Around} {outer : List Env} {s : Shared} {H : Hp} {E : XK} {scope : Scope} {f c' : Addr} (hr : Room k (A.deeper (LamX.lamEnv X scope s.heap.objs.size f c'))) (hg : A.guards = X.A.guards) :
    RX G ⟨c.N, scope, false, none⟩ k (LamX.lamCx X A outer s H E scope f c') (fun cls d _ H' => E cls d H') where
  g := R.g
  N := R.N
  sc := rfl
  nd := R.nd
  calm := rfl
  room := hr
  gd := by
    show A.guards = some []
    rw [hg]
    exact R.gd
  tk := takes_of rfl rfl rfl rfl
  po := passes_of rfl
  fn := fun z => nomatch z
  cd := fun _ z => nomatch z
  ql := fun _ z => nomatch z
/-- x(lambda a: body), the body by its tree -/
theorem lam_snd {G : Gm} {c : CC} {n k : Nat} {X : Cx} {W : WX} (R : RX G c n X W) (hn : k + 3 ≤ n) {TT : (XK → Hp → VK → Prop) → Hp → VK → XK → Prop} {x m qg a : Str} {g cd P : Addr} {pg : Arguments} {bg : List Stmt} {sg : Scope} {kws : List (Str × V)} {fdg : FuncData} {Ng : List Str}
    {params : Arguments} {body : Expr} {scope : Scope} {p lpos pos : Pos} (e : E) (hd : GdE G k e) (hc : chkE ⟨c.N, scope, false, none⟩ e body = true) (hL : lamPB c.N a c.sc scope = true)
    (hg : c.sc.names.lookup x = some .globalImplicit) (hm : G.mg x = some (.ref g)) (Fg : FunD G.K x qg pg bg sg [] kws g fdg) (hb : L2.Binds G.K fdg [m] []) (Sg : FnScope Ng [m] sg) (hNg : Ng[0]? = some m) (hvm : Vis sg m)
    (hG : ∀ cdg, GivesL X Ng qg m sg g cdg bg TT) (TB : LamX.TabB G.base G.mg cd P) (hcode : X.env.code = .ref cd) (hq : X.env.qual ++ "<lambda>" = lamQ lpos.line) (hlp : lamPos lpos.line = true) (hdef : defaultsOf params X.env = ([], []))
    (hbind : ∀ (q : Str) (cl : List (Str × Addr)) (pm cv ctv u : Value), bindArgs (PySem.W.kla_fn "<lambda>" q params body scope cl pm cv ctv) ⟨[u], []⟩ = pure [(a, u)])
    (hdb : (x == ("__debug__" : Str)) = false) (hd2 : (m == ("__debug__" : Str)) = false) (hcd : (m == ("__classdict__" : Str)) = false) :
    PE X (.Call (.Name x p) [.Lambda params body scope lpos] [] pos) (fun σ H Q => TabL H P ∧ ∀ H1, Ext H H1 → TT (fun E H' Q' => rdE G e (fun cls d _ H'' => E cls d H'') σ H' Q') H1 Q (fun cls d H' => W cls d σ H')) := by
  have L : LamP X.N a X.env.scope scope := by
    rw [R.N, R.sc]
    exact lamP_by hL
  have key := fun (A : Around) (outer : List Env) (s : Shared) (H : Hp) (E : XK) (f c' : Addr) (hr : Room k (A.deeper (LamX.lamEnv X scope s.heap.objs.size f c'))) (hga : A.guards = X.A.guards) => sndE e (R.lam (outer := outer) (s := s) (H := H) (E := E) (f := f) (c' := c') hr hga) hd hc
  have gl := R.gl hg
  have rm := R.room
  have tk := R.tk
  obtain rfl := R.g
  exact pe_lamc (t := fun E => rdE (gm X) e (fun cls d _ H'' => E cls d H'')) gl hm Fg hb Sg hNg hvm hG TB hcode hq hlp (rm.mono hn) tk L hdef hbind key hdb hd2 hcd
end Kn

/-! KnV: data that may be shown and compared. -/
namespace Kn
open PySem PySem.Spec PyProof.Rows L2

structure Fd (k n : Nat) (d : PyData) : Prop where
  sh : d.showable = true
  hd : d.hasDict = false
  cl : d.canLay0 = true
  dp : d.depth ≤ k
  lv : d.leavesShort 30 = true
  bk : d.bulk ≤ n
structure FdAll (k n : Nat) (ds : List PyData) : Prop where
  sh : PyData.showableAll ds = true
  hd : PyData.hasDictAll ds = false
  cl : PyData.canLayAll0 ds = true
  dp : PyData.depthAll ds ≤ k
  lv : PyData.leavesShortAll 30 ds = true
  bk : PyData.bulkAll ds ≤ n
theorem Fd.int {i : Int} (h : i.natAbs < 10 ^ 18) : Fd 0 0 (.int i) where
  sh := by
    simp only [PyData.showable, decide_eq_true_eq]
    by_cases h0 : i.natAbs = 0
    · rw [h0]; decide
    · exact (Nat.log2_lt h0).mpr (Nat.lt_of_lt_of_le h (by decide +kernel))
  hd := by simp only [PyData.hasDict]
  cl := by simp only [PyData.canLay0]
  dp := by simp only [PyData.depth]; exact Nat.le.refl
  lv := by
    simp only [PyData.leavesShort, PyData.shown, decide_eq_true_eq]
    have e := int_text_length_le10 (k := 18) (by decide) h
    refine decide_eq_true ?_
    show (Str.ofString (toString i)).length ≤ 30
    rw [PySem.ofString_length]
    omega
  bk := by simp only [PyData.bulk]; exact Nat.le.refl
theorem Fd.str {z : Str} {m : Nat} (h : PyData.strOk z = true) (hm : z.cps.size ≤ m) : Fd 0 m (.str z) where
  sh := by simp only [PyData.showable]
  hd := by simp only [PyData.hasDict]
  cl := by simp only [PyData.canLay0]; exact h
  dp := by simp only [PyData.depth]; exact Nat.le.refl
  lv := by
    simp only [PyData.leavesShort, List.all_eq_true, decide_eq_true_eq]
    intro c hc
    unfold PyData.strOk at h
    have := Array.all_eq_true_iff_forall_mem.mp h c (Array.mem_toList_iff.mp hc)
    simp only [decide_eq_true_eq] at this
    omega
  bk := by simp only [PyData.bulk]; exact hm
theorem Fd.bl {b : Bool} : Fd 0 0 (.bool b) := ⟨by simp only [PyData.showable], by simp only [PyData.hasDict], by simp only [PyData.canLay0], by simp only [PyData.depth]; exact Nat.le.refl, by simp only [PyData.leavesShort], by simp only [PyData.bulk]; exact Nat.le.refl⟩
theorem Fd.non : Fd 0 0 .none := ⟨by simp only [PyData.showable], by simp only [PyData.hasDict], by simp only [PyData.canLay0], by simp only [PyData.depth]; exact Nat.le.refl, by simp only [PyData.leavesShort], by simp only [PyData.bulk]; exact Nat.le.refl⟩
theorem Fd.mono {k n k' n' : Nat} {d : PyData} (h : Fd k n d) (hk : k ≤ k') (hn : n ≤ n') : Fd k' n' d := ⟨h.sh, h.hd, h.cl, Nat.le_trans h.dp hk, h.lv, Nat.le_trans h.bk hn⟩
theorem FdAll.mono {k n k' n' : Nat} {d : List PyData} (h : FdAll k n d) (hk : k ≤ k') (hn : n ≤ n') : FdAll k' n' d := ⟨h.sh, h.hd, h.cl, Nat.le_trans h.dp hk, h.lv, Nat.le_trans h.bk hn⟩
theorem FdAll.nil {k : Nat} : FdAll k 0 [] := ⟨by simp only [PyData.showableAll], by simp only [PyData.hasDictAll], by simp only [PyData.canLayAll0], by simp only [PyData.depthAll]; exact Nat.zero_le _, by simp only [PyData.leavesShortAll], by simp only [PyData.bulkAll]; exact Nat.le.refl⟩
theorem FdAll.cons {k n m : Nat} {d : PyData} {ds : List PyData} (h : Fd k n d) (t : FdAll k m ds) : FdAll k (n + 1 + m) (d :: ds) where
  sh := by simp only [PyData.showableAll, h.sh, t.sh, Bool.and_self]
  hd := by simp only [PyData.hasDictAll, h.hd, t.hd, Bool.or_self]
  cl := by simp only [PyData.canLayAll0, h.cl, t.cl, Bool.and_self]
  dp := by simp only [PyData.depthAll]; exact Nat.max_le.mpr ⟨h.dp, t.dp⟩
  lv := by simp only [PyData.leavesShortAll, h.lv, t.lv, Bool.and_self]
  bk := by simp only [PyData.bulkAll]; have := h.bk; have := t.bk; omega
theorem FdAll.all {k n : Nat} : ∀ {ds : List PyData}, (∀ d ∈ ds, Fd k n d) → FdAll k ((n + 1) * ds.length) ds
  | [], _ => FdAll.nil
  | d :: r, h => by
    have := FdAll.cons (h d List.mem_cons_self) (FdAll.all (ds := r) fun x hx => h x (List.mem_cons_of_mem _ hx))
    rw [List.length_cons, Nat.mul_add, Nat.mul_one, Nat.add_comm]
    exact this
theorem Fd.list {k n : Nat} {ds : List PyData} (h : FdAll k n ds) : Fd (k + 1) n (.list ds) := ⟨by simp only [PyData.showable, h.sh], by simp only [PyData.hasDict, h.hd], by simp only [PyData.canLay0, h.cl], by simp only [PyData.depth]; exact Nat.succ_le_succ h.dp, by simp only [PyData.leavesShort, h.lv], by simp only [PyData.bulk]; exact h.bk⟩
theorem Fd.tuple {k n : Nat} {ds : List PyData} (h : FdAll k n ds) : Fd (k + 1) n (.tuple ds) := ⟨by simp only [PyData.showable, h.sh], by simp only [PyData.hasDict, h.hd], by simp only [PyData.canLay0, h.cl], by simp only [PyData.depth]; exact Nat.succ_le_succ h.dp, by simp only [PyData.leavesShort, h.lv], by simp only [PyData.bulk]; exact h.bk⟩
theorem Fd.shaped {k n : Nat} {d : PyData} (h : Fd k n d) (hk : k ≤ 60) : SeqAt.shaped d = true := by
  unfold SeqAt.shaped
  have := h.dp
  rw [h.cl, Bool.true_and, decide_eq_true_eq]
  omega
theorem Fd.short {k n : Nat} {d : PyData} (h : Fd k n d) (hn : n ≤ 500000) : d.shown.length ≤ sizeLine := by
  have h1 := PyData.shown_le_bulk 30 (by decide) d h.lv
  have h2 := h.bk
  have h3 : (30 + 2) * d.bulk ≤ 32 * 500000 := Nat.mul_le_mul (by decide) (by omega)
  have h4 : sizeLine = 16777216 := by decide +kernel
  omega
theorem reprV {G : Gm} {x : V} {d : PyData} {k n : Nat} {H : Hp} {Q : VK} (hd : Dp G.K H x d) (f : Fd k n d) (hk : k ≤ 60) (hn : n ≤ 500000) (q : Q (.str d.shown) H) : rReprG G [x] H Q := .inl ⟨d, hd, f.sh, f.hd, Nat.le_trans f.dp hk, f.short hn, q⟩
theorem eqDat {G : Gm} {x y : V} {d e : PyData} {k n k' n' : Nat} {H : Hp} {Q : VK} (hd : Dp G.K H x d) (he : Dp G.K H y e) (f : Fd k n d) (g : Fd k' n' e) (hk : k ≤ 60) (hk' : k' ≤ 60) (q : Q (.bl (PyData.eqv d e)) H) : rEqG G x y H Q := .inr (.inl ⟨d, e, hd, he, f.shaped hk, g.shaped hk', q⟩)
theorem neDat {G : Gm} {x y : V} {d e : PyData} {k n k' n' : Nat} {H : Hp} {Q : VK} (hd : Dp G.K H x d) (he : Dp G.K H y e) (f : Fd k n d) (g : Fd k' n' e) (hk : k ≤ 60) (hk' : k' ≤ 60) (q : Q (.bl (!PyData.eqv d e)) H) : rNeG G x y H Q := .inr (.inl ⟨d, e, hd, he, f.shaped hk, g.shaped hk', q⟩)
theorem eqS {G : Gm} {x y : V} {H : Hp} {Q : VK} (h : scal x y = true) (q : Q (.bl (decide (x = y))) H) : rEqG G x y H Q := .inl ⟨h, q⟩
theorem neS {G : Gm} {x y : V} {H : Hp} {Q : VK} (h : scal x y = true) (q : Q (.bl (!decide (x = y))) H) : rNeG G x y H Q := .inl ⟨h, q⟩
theorem neK {G : Gm} {x y : V} {H : Hp} {Q : VK} (h : SameK H x y) (q : Q (.bl false) H) : rNeG G x y H Q := .inr (.inr ⟨h, q⟩)
theorem eqK {G : Gm} {x y : V} {H : Hp} {Q : VK} (h : SameK H x y) (q : Q (.bl true) H) : rEqG G x y H Q := .inr (.inr ⟨h, q⟩)
/-- a dict of plain values, shown -/
structure FdKv (n : Nat) (l : List (PyData × PyData)) : Prop where
  sh : PyData.showableKv l = true
  dp : PyData.depthKv l ≤ 0
  lv : PyData.leavesShortKv 30 l = true
  bk : PyData.bulkKv l ≤ n
theorem FdKv.nil : FdKv 0 [] := ⟨by simp only [PyData.showableKv], by simp only [PyData.depthKv]; exact Nat.le.refl, by simp only [PyData.leavesShortKv], by simp only [PyData.bulkKv]; exact Nat.le.refl⟩
theorem FdKv.cons {m1 m2 m : Nat} {a b : PyData} {l : List (PyData × PyData)} (h1 : Fd 0 m1 a) (h2 : Fd 0 m2 b) (t : FdKv m l) : FdKv (m1 + m2 + 2 + m) ((a, b) :: l) where
  sh := by simp only [PyData.showableKv, h1.sh, h2.sh, t.sh, Bool.and_self]
  dp := by
    have := h1.dp
    have := h2.dp
    have := t.dp
    simp only [PyData.depthKv]
    omega
  lv := by simp only [PyData.leavesShortKv, h1.lv, h2.lv, t.lv, Bool.and_self]
  bk := by
    have := h1.bk
    have := h2.bk
    have := t.bk
    simp only [PyData.bulkKv]
    omega
theorem FdKv.all {n : Nat} : ∀ {kvs : List (Key × V)}, (∀ p ∈ kvs, Fd 0 n (dV (kV p.1)) ∧ Fd 0 n (dV p.2)) → FdKv ((n + n + 2) * kvs.length) (kvs.map fun p => (dV (kV p.1), dV p.2))
  | [], _ => FdKv.nil
  | p :: r, h => by
    have := FdKv.cons (h p List.mem_cons_self).1 (h p List.mem_cons_self).2 (FdKv.all (kvs := r) fun x hx => h x (List.mem_cons_of_mem _ hx))
    rw [List.length_cons, Nat.mul_add, Nat.mul_one, Nat.add_comm]
    exact this
theorem reprK {G : Gm} {a : Addr} {kvs : List (Key × V)} {n : Nat} {H : Hp} {Q : VK} (g : H a = some (.dK kvs)) (hp : ∀ p ∈ kvs, plnV p.2 = true) (f : ∀ p ∈ kvs, Fd 0 n (dV (kV p.1)) ∧ Fd 0 n (dV p.2)) (hn : (n + n + 2) * kvs.length ≤ 500000) (q : Q (.str (dKv kvs).shown) H) : rReprG G [.ref a] H Q := by
  have F := FdKv.all f
  refine .inr ⟨a, kvs, rfl, g, hp, by unfold dKv; simp only [PyData.showable, F.sh], ?_, ?_, q⟩
  · have := F.dp
    unfold dKv
    simp only [PyData.depth]
    omega
  · have h1 := PyData.shown_le_bulk 30 (by decide) (dKv kvs) (by unfold dKv; simp only [PyData.leavesShort, F.lv])
    have h2 : (dKv kvs).bulk ≤ 500000 := by
      have := F.bk
      unfold dKv
      simp only [PyData.bulk]
      omega
    have h3 : (30 + 2) * (dKv kvs).bulk ≤ 32 * 500000 := Nat.mul_le_mul (by decide) h2
    have h4 : sizeLine = 16777216 := by decide +kernel
    omega
/-! ### dicts made of pairs -/
theorem val_merge : ∀ (kvs acc : List (Key × V)) (k : Key), (kvs.map (·.1)).Nodup → valV (mergeK acc kvs) k = (valV kvs k).or (valV acc k)
  | [], acc, k, _ => by rfl
  | (k0, v0) :: r, acc, k, hn => by
    rw [List.map_cons, List.nodup_cons] at hn
    show valV (mergeK (putK acc k0 v0) r) k = _
    rw [val_merge r _ k hn.2, valV_put]
    by_cases e : k0 = k
    · subst e
      rw [valV_pos rfl, if_pos rfl]
      have : valV r k0 = none := by
        cases q : valV r k0 with
        | none => rfl
        | some v => exact absurd (valV_in q) hn.1
      rw [this]
      rfl
    · rw [valV_neg e, if_neg (fun z => e z.symm)]
theorem dictL {G : Gm} {a : Addr} {qs : List Addr} {kvs : List (Key × V)} {H : Hp} {Q : VK} (g : H a = some (.lst (qs.map V.ref))) (hp : Paired (fun q kv => H q = some (.tup [kV kv.1, kv.2])) qs kvs) (h : ∀ p H', H p = none → Ext H H' → H' p = some (.dK (mergeK [] kvs)) → Q (.ref p) H') : rDictG G [.ref a] H Q := by
  refine ⟨a, qs, kvs, rfl, .inl (.inl g), ?_, al h⟩
  clear g h
  induction hp with
  | nil => exact .nil
  | cons r _ ih => exact .cons (.inl (.inl r)) ih
theorem itD {G : Gm} {p : Addr} {kvs : List (Key × V)} {z : Str} {v : V} {H : Hp} {Q : VK} (g : H p = some (.dK kvs)) (e : valV kvs (.inr z) = some v) (q : Q v H) : rIxG G (.ref p) (.str z) H Q := .inr (.inr ⟨p, v, rfl, e ▸ DGet.k (k := .inr z) g, q⟩)
theorem dp_flat {K : PySem.W.Frag} {H : Hp} {v : V} (h : plnV v = true) : Dp K H v (dV v) := by
  cases v with
  | bl b => exact .bl b
  | int i => exact .int i
  | str z => exact .str z
  | non => exact .non
  | _ => cases h
theorem dpAll_flat {K : PySem.W.Frag} {H : Hp} : ∀ {xs : List V}, (∀ v ∈ xs, plnV v = true) → DpAll K H xs (xs.map dV)
  | [], _ => .nil
  | v :: r, h => .cons (dp_flat (h v List.mem_cons_self)) (dpAll_flat fun x hx => h x (List.mem_cons_of_mem _ hx))
theorem dp_lst {K : PySem.W.Frag} {H : Hp} {a : Addr} {xs : List V} (g : H a = some (.lst xs)) (h : ∀ v ∈ xs, plnV v = true) : Dp K H (.ref a) (.list (xs.map dV)) := .lst (.inl (.inl g)) (dpAll_flat h)
/-! ### lists of tuples, of lists -/
theorem pd_imp {α β : Type} {R S : α → β → Prop} {xs : List α} {ys : List β} (h : Paired R xs ys) (hi : ∀ a b, R a b → S a b) : Paired S xs ys := by
  induction h with
  | nil => exact .nil
  | cons h _ ih => exact .cons (hi _ _ h) ih
theorem pd_get {α β : Type} {R : α → β → Prop} {xs : List α} {ys : List β} (h : Paired R xs ys) : ∀ {i : Nat} {x : α}, xs[i]? = some x → ∃ y, ys[i]? = some y ∧ R x y := by
  induction h with
  | nil => intro i x e; cases e
  | cons r _ ih =>
    intro i x e
    cases i with
    | zero =>
      rw [List.getElem?_cons_zero] at e ⊢
      cases e
      exact ⟨_, rfl, r⟩
    | succ j =>
      rw [List.getElem?_cons_succ] at e ⊢
      exact ih e
theorem pd_len {α β : Type} {R : α → β → Prop} {xs : List α} {ys : List β} (h : Paired R xs ys) : xs.length = ys.length := by
  induction h with
  | nil => rfl
  | cons _ _ ih => rw [List.length_cons, List.length_cons, ih]
theorem pd_snoc {α β : Type} {R : α → β → Prop} {xs : List α} {ys : List β} {x : α} {y : β} (h : Paired R xs ys) (r : R x y) : Paired R (xs ++ [x]) (ys ++ [y]) := by
  induction h with
  | nil => exact .cons r .nil
  | cons h _ ih => exact .cons h ih
theorem take_snoc {α : Type} {xs : List α} {i : Nat} {x : α} (h : xs[i]? = some x) : xs.take (i + 1) = xs.take i ++ [x] := by
  rw [List.take_add_one, h]
  rfl
theorem ref_at {ps : List Addr} {i : Nat} {x : V} (h : (ps.map V.ref)[i]? = some x) : ∃ q, ps[i]? = some q ∧ x = .ref q := by
  rw [List.getElem?_map] at h
  obtain ⟨q, e1, e2⟩ := Option.map_eq_some_iff.mp h
  exact ⟨q, e1, e2.symm⟩
/-- at ps stand the tuples rows -/
abbrev LT (H : Hp) (ps : List Addr) (rows : List (List V)) : Prop := Paired (fun q r => H q = some (.tup r)) ps rows
/-- at ps stand the lists rows -/
abbrev LL (H : Hp) (ps : List Addr) (rows : List (List V)) : Prop := Paired (fun q r => H q = some (.lst r)) ps rows
theorem LT.ext {M : Addr → Prop} {H H' : Hp} {ps : List Addr} {rows : List (List V)} (e : Xt M H H') (m : ∀ a r, M a → H a ≠ some (.tup r)) (h : LT H ps rows) : LT H' ps rows := pd_imp h fun a r g => e.tup (fun z => m a r z g) g
theorem LL.ext {M : Addr → Prop} {H H' : Hp} {ps : List Addr} {rows : List (List V)} (e : Xt M H H') (m : ∀ a, a ∈ ps → ¬ M a) (h : LL H ps rows) : LL H' ps rows := by
  induction h with
  | nil => exact .nil
  | cons g _ ih => exact .cons (e.lst (m _ List.mem_cons_self) g) (ih fun a ha => m a (List.mem_cons_of_mem _ ha))
theorem noM {H : Hp} : ∀ (a : Addr) (r : List V), False → H a ≠ some (.tup r) := fun _ _ z => z.elim
theorem lstM {H : Hp} {b : Addr} {xs : List V} (g : H b = some (.lst xs)) : ∀ (a : Addr) (r : List V), a = b → H a ≠ some (.tup r) := fun a r e z => by rw [e, g] at z; cases z
theorem LT.at {H : Hp} {ps : List Addr} {rows : List (List V)} (h : LT H ps rows) {i : Nat} {x : V} (hx : (ps.map V.ref)[i]? = some x) : ∃ q r, x = .ref q ∧ ps[i]? = some q ∧ rows[i]? = some r ∧ H q = some (.tup r) := by
  obtain ⟨q, e1, rfl⟩ := ref_at hx
  obtain ⟨r, h1, h2⟩ := pd_get h e1
  exact ⟨q, r, rfl, e1, h1, h2⟩
theorem LL.at {H : Hp} {ps : List Addr} {rows : List (List V)} (h : LL H ps rows) {i : Nat} {x : V} (hx : (ps.map V.ref)[i]? = some x) : ∃ q r, x = .ref q ∧ ps[i]? = some q ∧ rows[i]? = some r ∧ H q = some (.lst r) := by
  obtain ⟨q, e1, rfl⟩ := ref_at hx
  obtain ⟨r, h1, h2⟩ := pd_get h e1
  exact ⟨q, r, rfl, e1, h1, h2⟩
theorem lt_size {n : Nat} (h : n < 1000000) : n < sizeLine := Nat.lt_of_lt_of_le h (by decide +kernel)
theorem le_size {n : Nat} (h : n ≤ 1000000) : n ≤ sizeLine := Nat.le_trans h (by decide +kernel)
end Kn

/-! KnZ: the ends: facts of the module, the law's call. -/
namespace Kn
open PySem PySem.Spec PyProof.Rows L2

/-- the law's call: nothing is tracked but the script -/
theorem call_top {P : Program} {w : World} {K : PySem.W.Frag} {mg mb : Str → Option Value} {k : Nat} {fa a : Addr} {fd : FuncData} {x : Str} {sp : Gm → Sp} {s1 : Shared} {vs : List Value} {ns : List Int}
    (KX : K.In s1.heap) (hns : s1.heap.Ns mainGlobals mg) (hb : s1.heap.Ns builtinsNs mb) (hbb : ∀ x : Str, x ≠ "__name__" → mb x = bootBuiltins x) (hlim : s1.heap.NoLimit) (hg : s1.gens = #[])
    (ha : s1.heap.get? a = some { cls := .type "list", data := .seq vs.toArray }) (hi : IntsAre vs ns) (hl : ns.length ≤ sizeLine) (hr : Room k callerA)
    (F : ∀ base : Heap, K.In base → base.Ns mainGlobals mg → FnG ⟨P, w, K, mg, base⟩ k fa fd [x] (sp ⟨P, w, K, mg, base⟩)) (hbind : ∀ (s : Shared) (u : Value), BindsTo s fd ⟨[u], []⟩ [(x, u)])
    (hsp : ∀ (base : Heap) (H : Hp), SqL K H a (ns.map V.int) → sp ⟨P, w, K, mg, base⟩ [.ref a] H (fun v _ => v = .bl true) fun _ _ _ => False) :
    codeAny (model P w) callerA (.call (.ref fa) ⟨[.ref a], []⟩) (fun r s' => r = .ok (.ret (.bool true)) ∧ OldK s1.heap s'.heap ∧ s'.os = s1.os ∧ AllBare s'.gens) s1 := by
  have rv := vals_ints hi
  -- the heap H tracks the script or nothing
  have main : ∀ H : Hp, Only H → SqL K H a (ns.map V.int) → HOk P w H s1.heap → (∀ b, H b ≠ none → b = a) → (H a ≠ none → K.lookup a = none) →
      codeAny (model P w) callerA (.call (.ref fa) ⟨[.ref a], []⟩) (fun r s' => r = .ok (.ret (.bool true)) ∧ OldK s1.heap s'.heap ∧ s'.os = s1.os ∧ AllBare s'.gens) s1 := by
    intro H only script okH onlyA notK
    have free : ∀ b, b ≠ a → H b = none := fun b hne => Classical.byContradiction fun z => hne (onlyA b z)
    have hid : ∀ {b : Addr} {o : Obj}, s1.heap.get? b = some o → H b = none → (hidT s1.heap H).get? b = some o := fun e n => hidT_get e n
    have dicts : ∀ {b : Addr} {o : Obj} {es : Array DictEntry} {ep : Nat}, s1.heap.get? b = some o → o.data = .dict es ep → H b = none := fun {b o es ep} e d => free b fun z => by
      rw [z, ha] at e
      cases e
      have d' : Data.seq vs.toArray _ = Data.dict es ep := d
      cases d'
    have spaces : ∀ {b : Addr} {m : Str → Option Value}, s1.heap.Ns b m → (hidT s1.heap H).Ns b m := by
      rintro b m ⟨o, es, ep, e, d, r⟩
      exact ⟨o, es, ep, hid e (dicts e d), d, r⟩
    have known : K.In (hidT s1.heap H) := by
      intro b o e
      refine hid (KX b o e) (Classical.byContradiction fun z => ?_)
      have hba := onlyA b z
      rw [hba] at e z
      rw [notK z] at e
      cases e
    have world : Mod K mg (hidT s1.heap H) := ⟨known, spaces hns, ⟨mb, spaces hb, hbb⟩, let ⟨mc, h1, h2⟩ := hlim; ⟨mc, spaces h1, h2⟩⟩
    have start0 : Env0 P w K mg (hidT s1.heap H) callerA [] s1 H := ⟨rfl, world, fun b o e => of_hidT e, Nat.le_of_eq (hidT_size _ _), trivial, fun b hb => absurd (show b ∈ ([] : List Addr) from hb) (by simp), okH, .of_eq hg⟩
    refine codeAny_mono ((F _ known (spaces hns)).run callerA [] s1 H ⟨[.ref a], []⟩ [.ref a] [.ref a] _ _ hr rfl start0 (hbind s1 (.ref a)) (.cons rfl .nil) (hsp _ H script)) fun r s' got => ?_
    match r, got with
    | .error e, got =>
      obtain ⟨_, _, _, _, _, _, _, _, _, _, _, z⟩ := got
      exact z.2.elim
    | .ok .next, got => exact False.elim got
    | .ok .brk, got => exact False.elim got
    | .ok .cont, got => exact False.elim got
    | .ok (.ret u), got =>
      obtain ⟨v, H', os, bare, un, ok', r', q⟩ := got
      have q' : v = .bl true := q
      subst q'
      obtain rfl : u = Value.bool true := r'
      refine ⟨rfl, OldK.of_keep fun b o e => ?_, os, bare⟩
      cases hq : H b with
      | none => exact un.keep b o e hq (by intro z; exact absurd (show b ∈ ([] : List Addr) from z) (by simp)) (by simp)
      | some t =>
        rcases only b with z | ⟨ob, xs, z⟩
        · rw [hq] at z
          cases z
        · obtain ⟨e1, _⟩ := okH b _ z
          obtain ⟨e2, _⟩ := ok' b _ (un.frzs b ob _ z)
          rw [e] at e1
          cases e1
          exact e2
  cases hk : K.lookup a with
  | some o =>
    have e := KX a o hk
    rw [ha] at e
    cases e
    refine main (fun _ => none) (fun _ => .inl rfl) (.inr ⟨_, vs.toArray, _, hk, rfl, rfl, rfl, by rw [List.size_toArray, hi.length]; exact hl, by simpa using rv⟩) (fun b u z => (nomatch (show (none : Option HO) = some u from z))) (fun b z => absurd rfl z) fun z => absurd rfl z
  | none =>
    obtain ⟨Hf, hf⟩ : ∃ Hf : Hp, Hf = fun b => if b = a then some (HO.frz { cls := .type "list", data := .seq vs.toArray } (.lst (ns.map V.int))) else none := ⟨_, rfl⟩
    have at_ : ∀ b, b = a → Hf b = some (.frz { cls := .type "list", data := .seq vs.toArray } (.lst (ns.map V.int))) := fun b e => by rw [hf]; exact if_pos e
    have off : ∀ b, b ≠ a → Hf b = none := fun b e => by rw [hf]; exact if_neg e
    refine main Hf (fun b => ?_) (.inl (.inr ⟨_, at_ a rfl⟩)) (fun b u z => ?_) (fun b z => ?_) fun _ => hk
    · by_cases h : b = a
      · exact .inr ⟨_, _, at_ b h⟩
      · exact .inl (off b h)
    · by_cases h : b = a
      · have z' := (at_ b h).symm.trans z
        cases z'
        subst h
        exact ⟨ha, by rw [List.length_map]; exact hl, vs, _, rv, ha⟩
      · have z' := (off b h).symm.trans z
        cases z'
    · exact Classical.byContradiction fun h => z (off b h)

/-- THE END: the law's promise -/
theorem walkG {l : PySem.W.OpenLaw} {n k : Nat} {q : Program} {loose : List Str} {XP : (Str → Option Value) → Heap → Prop} {YP : World → Heap → Prop} {d : DefRec} {x : Str}
    (hn : l.most = some n) (hn2 : n ≤ sizeLine) (hdf : d.params.defaults = []) (hr : Room k callerA)
    (F : ∀ (w : World) (mg : Str → Option Value) (fa : Addr) (h : Heap), YP w h → h.Ns mainGlobals mg → mg d.name = some (.ref fa) →
      ∃ (K : PySem.W.Frag) (fd : FuncData) (sp : Gm → Sp), K.In h ∧ (∀ (s : Shared) (u : Value), BindsTo s fd ⟨[u], []⟩ [(x, u)]) ∧
        (∀ (base : Heap) (H : Hp) (a : Addr) (ns : List Int), ns.length ≤ n → SqL K H a (ns.map V.int) → sp ⟨l.prog, w, K, mg, base⟩ [.ref a] H (fun v _ => v = .bl true) fun _ _ _ => False) ∧
        ∀ base : Heap, K.In base → base.Ns mainGlobals mg → FnG ⟨l.prog, w, K, mg, base⟩ k fa fd [x] (sp ⟨l.prog, w, K, mg, base⟩)) :
    PySem.W.WalkO q loose XP YP l.row.toRowW d [] (fun f vs => PySem.call f vs) := by
  refine Att.attach_call hn hdf fun w s0 s1 mg mb fa o pm cd doc a vs ns G Y ho hd hcd hmg hobj hints hlen hg => ?_
  obtain ⟨K, fd, sp, KX, hb, hsp, hF⟩ := F w mg fa _ Y G.T.g hmg
  exact call_top KX G.T.g G.T.b G.T.builtins G.T.nolimit hg hobj hints (Nat.le_trans hlen hn2) hr hF hb fun base H hS => hsp base H a ns hlen hS

/-- a def of the module keeps its promise, by its tree -/
abbrev Asks' (G : Gm) (b : Ss) (N : List Str) (sp : Sp) : Prop := ∀ vs H Q E, sp vs H Q E → rdSs G b (fun cls d _ H => E cls d H) { nx := fun _ H' => Q .non H', rt := Q } (L2.start N vs) H
theorem fnD {G : Gm} {k : Nat} {f : Addr} {x qual : Str} {params : Arguments} {body : List Stmt} {scope : Scope} {dvs : List V} {kws : List (Str × V)} {fd : FuncData} {N ps : List Str} {sp : Sp} (F : FunD G.K x qual params body scope dvs kws f fd) (S : FnScope N ps scope) (b : Ss)
    (q : Option (Str × Option Str)) (hcq : ∀ p, q = some p → f = He.fAd G.K p) (hql : ∀ p, q = some p → qual ++ ".<locals>." = quOf p) (hc : chkSs ⟨N, scope, true, q⟩ b body = true) (hg : GdSs G k b) (len : ∀ vs H Q E, sp vs H Q E → vs.length = ps.length) (hq : Asks' G b N sp) : FnG G (k + 1) f fd ps sp := by
  obtain ⟨oc, od, dV, kV, doc, pm, an, cdv, ct, osl, rfl, lk, hcd, _, _⟩ := F.ex
  refine fnG_of lk hcd S len fun A outer s H vs Q E hr hgd hsp => ⟨_, ?_, hq vs H Q E hsp⟩
  refine sndSs b (c := ⟨N, scope, true, q⟩) ?_ hg hc
  refine { g := rfl, N := rfl, sc := rfl, nd := S.nd, calm := rfl, room := hr, gd := hgd, tk := takes_of rfl rfl rfl rfl, po := passes_of rfl, fn := fun _ _ => rfl, cd := (fun p z => ?_), ql := hql, stk := rfl, frm := rfl }
  obtain ⟨c, rfl⟩ := He.codeIn_ref hcd
  have e := hcq p z
  subst e
  exact congrArg Value.ref (He.codeOf_eq lk rfl).symm
end Kn

/-! KnZT: the law's call where defs write tables of code objects. -/
namespace Kn
open PySem PySem.Spec PyProof.Rows L2

/-- the code object c and its table P are the module's -/
abbrev TB (base : Heap) (mg : Str → Option Value) (c P : Addr) : Prop := LamX.TabB base mg c P ∧ GxR.TabB base mg c P
/-- the law's call: tracked are the script and the tables of the code objects cs (empty yet) -/
theorem call_topT {cs : List (Addr × Addr)} {P : Program} {w : World} {K : PySem.W.Frag} {mg mb : Str → Option Value} {k : Nat} {fa a : Addr} {fd : FuncData} {x : Str} {sp : Gm → Sp} {s1 : Shared} {vs : List Value} {ns : List Int}
    (KX : K.In s1.heap) (hns : s1.heap.Ns mainGlobals mg) (hb : s1.heap.Ns builtinsNs mb) (hbb : ∀ x : Str, x ≠ "__name__" → mb x = bootBuiltins x) (hlim : s1.heap.NoLimit) (hg : s1.gens = #[])
    (hT : ∀ p ∈ cs, s1.heap.get? p.2 = some { cls := .none, data := .fields #[] }) (nT : ∀ p ∈ cs, K.lookup p.2 = none) (hC : ∀ p ∈ cs, PySem.W.codeHdIn K p.1 p.2 = true)
    (hbm : ∃ (bm : Addr) (ob : Obj), mg "__builtins__" = some (.ref bm) ∧ bm ≠ builtinsNs ∧ s1.heap.get? bm = some ob ∧ ob.cls = .type "module" ∧ ob.dict = some builtinsNs ∧ ob.data = .plain)
    (ha : s1.heap.get? a = some { cls := .type "list", data := .seq vs.toArray }) (hi : IntsAre vs ns) (hl : ns.length ≤ sizeLine) (hr : Room k callerA)
    (F : ∀ base : Heap, K.In base → base.Ns mainGlobals mg → (∀ p ∈ cs, TB base mg p.1 p.2) → FnG ⟨P, w, K, mg, base⟩ k fa fd [x] (sp ⟨P, w, K, mg, base⟩)) (hbind : ∀ (s : Shared) (u : Value), BindsTo s fd ⟨[u], []⟩ [(x, u)])
    (hsp : ∀ (base : Heap) (H : Hp), (∀ p ∈ cs, H p.2 = some (.tbl #[])) → SqL K H a (ns.map V.int) → sp ⟨P, w, K, mg, base⟩ [.ref a] H (fun v _ => v = .bl true) fun _ _ _ => False) :
    codeAny (model P w) callerA (.call (.ref fa) ⟨[.ref a], []⟩) (fun r s' => r = .ok (.ret (.bool true)) ∧ OldK s1.heap s'.heap ∧ s'.os = s1.os ∧ AllBare s'.gens) s1 := by
  have rv := vals_ints hi
  have isT : ∀ b : Addr, b ∈ cs.map (·.2) → s1.heap.get? b = some { cls := .none, data := .fields #[] } := fun b hb => by
    obtain ⟨p, hp, e⟩ := List.mem_map.mp hb
    rw [← e]
    exact hT p hp
  have memT : ∀ p ∈ cs, p.2 ∈ cs.map (·.2) := fun p hp => List.mem_map.mpr ⟨p, hp, rfl⟩
  have aT : a ∉ cs.map (·.2) := fun z => by
    have q := isT a z
    rw [ha] at q
    have z' : Data.seq vs.toArray _ = Data.fields #[] := congrArg Obj.data (Option.some.inj q)
    cases z'
  have main : ∀ H : Hp, (∀ p ∈ cs, H p.2 = some (.tbl #[])) → (∀ b, H b = none ∨ b ∈ cs.map (·.2) ∨ ∃ o xs, H b = some (.frz o (.lst xs))) → SqL K H a (ns.map V.int) → HOk P w H s1.heap → (∀ b, H b ≠ none → b = a ∨ b ∈ cs.map (·.2)) → (H a ≠ none → K.lookup a = none) →
      codeAny (model P w) callerA (.call (.ref fa) ⟨[.ref a], []⟩) (fun r s' => r = .ok (.ret (.bool true)) ∧ OldK s1.heap s'.heap ∧ s'.os = s1.os ∧ AllBare s'.gens) s1 := by
    intro H tabs only script okH onlyA notK
    have free : ∀ {b : Addr} {o : Obj}, s1.heap.get? b = some o → (∀ vs n, o.data ≠ .seq vs n) → o.data ≠ .fields #[] → H b = none := fun {b o} e h1 h2 => Classical.byContradiction fun z => by
      rcases onlyA b z with q | q
      · rw [q, ha] at e
        cases e
        exact h1 _ _ rfl
      · rw [isT b q] at e
        cases e
        exact h2 rfl
    have hid : ∀ {b : Addr} {o : Obj}, s1.heap.get? b = some o → H b = none → (hidT s1.heap H).get? b = some o := fun e n => hidT_get e n
    have dicts : ∀ {b : Addr} {o : Obj} {es : Array DictEntry} {ep : Nat}, s1.heap.get? b = some o → o.data = .dict es ep → H b = none := fun {b o es ep} e d => free e (fun vs n z => by rw [d] at z; cases z) (fun z => by rw [d] at z; cases z)
    have spaces : ∀ {b : Addr} {m : Str → Option Value}, s1.heap.Ns b m → (hidT s1.heap H).Ns b m := by
      rintro b m ⟨o, es, ep, e, d, r⟩
      exact ⟨o, es, ep, hid e (dicts e d), d, r⟩
    have known : K.In (hidT s1.heap H) := by
      intro b o e
      refine hid (KX b o e) (Classical.byContradiction fun z => ?_)
      rcases onlyA b z with q | q
      · rw [q] at e z
        rw [notK z] at e
        cases e
      · obtain ⟨p, hp, ep⟩ := List.mem_map.mp q
        rw [← ep, nT p hp] at e
        cases e
    have world : Mod K mg (hidT s1.heap H) := ⟨known, spaces hns, ⟨mb, spaces hb, hbb⟩, let ⟨mc, h1, h2⟩ := hlim; ⟨mc, spaces h1, h2⟩⟩
    have tb : ∀ p ∈ cs, TB (hidT s1.heap H) mg p.1 p.2 := by
      intro p hp
      have hTp := hT p hp
      have c1 := PySem.W.codeHd_of_K known (hC p hp)
      have c2 : (hidT s1.heap H).BuiltinsAt mg p.2 := by
        obtain ⟨bm, ob, b1, b2, b3, b4, b5, b6⟩ := hbm
        refine ⟨bm, ob, b1, b2, fun q => ?_, fun q => ?_, hid b3 (free b3 (fun vs n z => by rw [b6] at z; cases z) (fun z => by rw [b6] at z; cases z)), b4, b5, b6⟩
        · obtain ⟨o, es, ep, e, hd, _⟩ := hns
          rw [q, e] at b3
          cases b3
          rw [hd] at b6
          cases b6
        · rw [q, hTp] at b3
          cases b3
          cases b6
      have c3 : mainGlobals ≠ p.2 := fun z => by
        obtain ⟨o, es, ep, e, hd, _⟩ := hns
        rw [z, hTp] at e
        cases e
        cases hd
      exact ⟨⟨c1, c2, c3⟩, ⟨c1, c2, c3⟩⟩
    have start0 : Env0 P w K mg (hidT s1.heap H) callerA [] s1 H := ⟨rfl, world, fun b o e => of_hidT e, Nat.le_of_eq (hidT_size _ _), trivial, fun b hb => absurd (show b ∈ ([] : List Addr) from hb) (by simp), okH, .of_eq hg⟩
    refine codeAny_mono ((F _ known (spaces hns) tb).run callerA [] s1 H ⟨[.ref a], []⟩ [.ref a] [.ref a] _ _ hr rfl start0 (hbind s1 (.ref a)) (.cons rfl .nil) (hsp _ H tabs script)) fun r s' got => ?_
    match r, got with
    | .error e, got =>
      obtain ⟨_, _, _, _, _, _, _, _, _, _, _, z⟩ := got
      exact z.2.elim
    | .ok .next, got => exact False.elim got
    | .ok .brk, got => exact False.elim got
    | .ok .cont, got => exact False.elim got
    | .ok (.ret u), got =>
      obtain ⟨v, H', os, bare, un, ok', r', q⟩ := got
      have q' : v = .bl true := q
      subst q'
      obtain rfl : u = Value.bool true := r'
      have kept : ∀ b o, b ∉ cs.map (·.2) → s1.heap.get? b = some o → s'.heap.get? b = some o := by
        intro b o nb e
        cases hq : H b with
        | none => exact un.keep b o e hq (by intro z; exact absurd (show b ∈ ([] : List Addr) from z) (by simp)) (by simp)
        | some t =>
          rcases only b with z | z | ⟨ob, xs, z⟩
          · rw [hq] at z
            cases z
          · exact absurd z nb
          · obtain ⟨e1, _⟩ := okH b _ z
            obtain ⟨e2, _⟩ := ok' b _ (un.frzs b ob _ z)
            rw [e] at e1
            cases e1
            exact e2
      have grown : ∀ b, b ∈ cs.map (·.2) → ∃ more : Array Value, s'.heap.get? b = some { cls := .none, data := .fields more } := by
        intro b hb
        obtain ⟨p, hp, ep⟩ := List.mem_map.mp hb
        rw [← ep]
        obtain ⟨more, z⟩ := un.tbls p.2 #[] (tabs p hp)
        exact ⟨_, ok' p.2 _ z⟩
      refine ⟨rfl, ⟨fun b o e => ?_, fun b o e => ?_⟩, os, bare⟩
      · by_cases hb : b ∈ cs.map (·.2)
        · obtain ⟨p, hp, ep⟩ := List.mem_map.mp hb
          obtain ⟨more, hm⟩ := grown b hb
          have e' := isT b hb
          rw [e] at e'
          cases e'
          rw [← ep] at hm ⊢
          exact .inr (.inl ⟨((PySem.W.codeHd_of_K KX (hC p hp)).tab (hT p hp)).isCodeTable, rfl, #[], more, rfl, by rw [Array.empty_append]; exact hm⟩)
        · exact .inl (kept b o hb e)
      · by_cases hb : b ∈ cs.map (·.2)
        · obtain ⟨more, hm⟩ := grown b hb
          exact ⟨_, hm⟩
        · exact ⟨o, kept b o hb e⟩
  -- the two heaps to begin with
  have both : ∀ Hf : Hp, (∀ b, b ∈ cs.map (·.2) → Hf b = some (.tbl #[])) → (∀ b, b ∉ cs.map (·.2) → b ≠ a → Hf b = none) → ((Hf a = none ∧ SqL K Hf a (ns.map V.int)) ∨ (Hf a = some (.frz { cls := .type "list", data := .seq vs.toArray } (.lst (ns.map V.int))) ∧ K.lookup a = none)) →
      codeAny (model P w) callerA (.call (.ref fa) ⟨[.ref a], []⟩) (fun r s' => r = .ok (.ret (.bool true)) ∧ OldK s1.heap s'.heap ∧ s'.os = s1.os ∧ AllBare s'.gens) s1 := by
    intro Hf t1 t2 t3
    refine main Hf (fun p hp => t1 _ (memT p hp)) (fun b => ?_) ?_ (fun b u z => ?_) (fun b z => ?_) (fun z => ?_)
    · by_cases hb : b ∈ cs.map (·.2)
      · exact .inr (.inl hb)
      · by_cases h : b = a
        · subst h
          rcases t3 with ⟨q, _⟩ | ⟨q, _⟩
          · exact .inl q
          · exact .inr (.inr ⟨_, _, q⟩)
        · exact .inl (t2 b hb h)
    · rcases t3 with ⟨_, q⟩ | ⟨q, _⟩
      · exact q
      · exact .inl (.inr ⟨_, q⟩)
    · by_cases hb : b ∈ cs.map (·.2)
      · rw [t1 b hb] at z
        cases z
        exact isT b hb
      · by_cases h : b = a
        · subst h
          rcases t3 with ⟨q, _⟩ | ⟨q, _⟩
          · rw [q] at z
            cases z
          · rw [q] at z
            cases z
            exact ⟨ha, by rw [List.length_map]; exact hl, vs, _, rv, ha⟩
        · rw [t2 b hb h] at z
          cases z
    · by_cases hb : b ∈ cs.map (·.2)
      · exact .inr hb
      · exact .inl (Classical.byContradiction fun h => z (t2 b hb h))
    · rcases t3 with ⟨q, _⟩ | ⟨_, q⟩
      · exact absurd q z
      · exact q
  cases hk : K.lookup a with
  | some o =>
    have e := KX a o hk
    rw [ha] at e
    cases e
    refine both (fun b => if b ∈ cs.map (·.2) then some (.tbl #[]) else none) (fun b hb => if_pos hb) (fun b hb _ => if_neg hb) (.inl ⟨if_neg aT, .inr ⟨_, vs.toArray, _, hk, rfl, rfl, rfl, by rw [List.size_toArray, hi.length]; exact hl, by simpa using rv⟩⟩)
  | none =>
    refine both (fun b => if b = a then some (.frz { cls := .type "list", data := .seq vs.toArray } (.lst (ns.map V.int))) else if b ∈ cs.map (·.2) then some (.tbl #[]) else none) (fun b hb => (if_neg (fun z => aT (by rw [← z]; exact hb))).trans (if_pos hb)) (fun b hb h => (if_neg h).trans (if_neg hb)) (.inr ⟨if_pos rfl, hk⟩)

/-- THE END, with tables -/
theorem walkGT {l : PySem.W.OpenLaw} {n k : Nat} {q : Program} {loose : List Str} {XP : (Str → Option Value) → Heap → Prop} {YP : World → Heap → Prop} {d : DefRec} {x : Str}
    (hn : l.most = some n) (hn2 : n ≤ sizeLine) (hdf : d.params.defaults = []) (hr : Room k callerA)
    (F : ∀ (w : World) (mg : Str → Option Value) (fa : Addr) (h : Heap), YP w h → h.Ns mainGlobals mg → mg d.name = some (.ref fa) →
      ∃ (K : PySem.W.Frag) (fd : FuncData) (sp : Gm → Sp) (cs : List (Addr × Addr)), K.In h ∧ (∀ p ∈ cs, h.get? p.2 = some { cls := .none, data := .fields #[] }) ∧ (∀ p ∈ cs, K.lookup p.2 = none) ∧ (∀ p ∈ cs, PySem.W.codeHdIn K p.1 p.2 = true) ∧
        (∀ (s : Shared) (u : Value), BindsTo s fd ⟨[u], []⟩ [(x, u)]) ∧
        (∀ (base : Heap) (H : Hp) (a : Addr) (ns : List Int), ns.length ≤ n → (∀ p ∈ cs, H p.2 = some (.tbl #[])) → SqL K H a (ns.map V.int) → sp ⟨l.prog, w, K, mg, base⟩ [.ref a] H (fun v _ => v = .bl true) fun _ _ _ => False) ∧
        ∀ base : Heap, K.In base → base.Ns mainGlobals mg → (∀ p ∈ cs, TB base mg p.1 p.2) → FnG ⟨l.prog, w, K, mg, base⟩ k fa fd [x] (sp ⟨l.prog, w, K, mg, base⟩)) :
    PySem.W.WalkO q loose XP YP l.row.toRowW d [] (fun f vs => PySem.call f vs) := by
  refine Att.attach_call hn hdf fun w s0 s1 mg mb fa o pm cd doc a vs ns G Y ho hd hcd hmg hobj hints hlen hg => ?_
  obtain ⟨K, fd, sp, cs, KX, h1, h2, h3, hb, hsp, hF⟩ := F w mg fa _ Y G.T.g hmg
  exact call_topT KX G.T.g G.T.b G.T.builtins G.T.nolimit hg h1 h2 h3 G.T.bmain hobj hints (Nat.le_trans hlen hn2) hr hF hb fun base H hH hS => hsp base H a ns hlen hH hS
/-- a fragment without the tables of the code objects of these defs -/
def noTab (cts : List He.Defn) (K : PySem.W.Frag) : PySem.W.Frag := K.filter fun q => !(cts.any fun p => (He.cT K p).2 == q.1)
theorem lookup_key {β : Type} (p : Addr → Bool) : ∀ {K : List (Addr × β)} {a : Addr} {o : β}, (K.filter fun q => p q.1).lookup a = some o → K.lookup a = some o
  | [], a, o, h => by cases h
  | (b, u) :: r, a, o, h => by
    rw [List.lookup_cons]
    by_cases hp : p b = true
    · rw [List.filter_cons_of_pos (p := fun q : Addr × β => p q.1) hp, List.lookup_cons] at h
      cases e : (a == b) with
      | true => rw [e] at h; exact h
      | false => rw [e] at h; exact lookup_key p (K := r) h
    · rw [List.filter_cons_of_neg (p := fun q : Addr × β => p q.1) hp] at h
      have ih := lookup_key p (K := r) h
      cases e : (a == b) with
      | true =>
        exfalso
        have e' : a = b := beq_iff_eq.mp e
        subst e'
        clear ih e
        induction r with
        | nil => cases h
        | cons q r ih =>
          obtain ⟨c, v⟩ := q
          by_cases hc : p c = true
          · rw [List.filter_cons_of_pos (p := fun q : Addr × β => p q.1) hc, List.lookup_cons] at h
            cases e2 : (a == c) with
            | true =>
              have := beq_iff_eq.mp e2
              rw [this] at hp
              exact hp hc
            | false => rw [e2] at h; exact ih h
          · rw [List.filter_cons_of_neg (p := fun q : Addr × β => p q.1) hc] at h
            exact ih h
      | false => exact ih
theorem noTab_in {cts : List He.Defn} {K : PySem.W.Frag} {h : Heap} (X : K.In h) : (noTab cts K).In h := fun a o e => X a o (lookup_key (fun b => !(cts.any fun p => (He.cT K p).2 == b)) e)
theorem tabL0 {G : Gm} {H : Hp} {cts : List He.Defn} {p : He.Defn} (hp : p ∈ cts) (h : ∀ q ∈ cts.map (He.cT G.K), H q.2 = some (.tbl #[])) : TabL H (He.tabOf G.K (He.codeOf G.K p)) := ⟨#[], h _ (List.mem_map_of_mem hp), trivial, fun pos cv _ hc => by
  have z : codeAmong pos [] = some cv := hc
  simp [codeAmong] at z⟩
theorem tab0 {G : Gm} {H : Hp} {cts : List He.Defn} {p : He.Defn} (hp : p ∈ cts) (h : ∀ q ∈ cts.map (He.cT G.K), H q.2 = some (.tbl #[])) : GxR.TabG H (He.tabOf G.K (He.codeOf G.K p)) := ⟨#[], h _ (List.mem_map_of_mem hp), trivial⟩
end Kn

/-! KnW: facts of the module, told by one look. -/
namespace Kn
open PySem PySem.Spec PyProof.Rows L2 He

/-! ### where the text stands -/
def topS (P : Program) (i : Nat) : Stmt := P.main.body.getD i (.Pass ⟨0, 0, 0, 0⟩)
def metS (P : Program) (i j : Nat) : Stmt := match topS P i with
  | .ClassDef _ _ _ b _ _ _ _ _ _ _ => b.getD j (.Pass ⟨0, 0, 0, 0⟩)
  | _ => .Pass ⟨0, 0, 0, 0⟩
def dD (P : Program) (x : Str) (i : Nat) : DefD := ⟨(x, none), x, x, defArgs (topS P i), defBody (topS P i), defScope (topS P i), [], []⟩
def dI (P : Program) (C m q : Str) (i j : Nat) : DefD := ⟨(C, some m), m, q, defArgs (metS P i j), defBody (metS P i j), defScope (metS P i j), [], []⟩
theorem fun_uniq {K : PySem.W.Frag} {x qual x' qual' : Str} {params params' : Arguments} {body body' : List Stmt} {scope scope' : Scope} {dvs dvs' : List V} {kws kws' : List (Str × V)} {f : Addr} {fd fd' : FuncData} (F : FunD K x qual params body scope dvs kws f fd) (F' : FunD K x' qual' params' body' scope' dvs' kws' f fd') : fd = fd' := by
  obtain ⟨_, _, _, _, _, _, _, _, _, _, _, l, _⟩ := F.ex
  obtain ⟨_, _, _, _, _, _, _, _, _, _, _, l', _⟩ := F'.ex
  rw [l] at l'
  injection l' with e
  injection e with _ _ e2
  injection e2

/-! ### errors -/
def keB (K : PySem.W.Frag) (x : Str) : Bool := decide (PySem.W.specialIn K (.ref (ga K x)) "__getattribute__" = some (some (.builtin "type.__getattribute__"))) && (decide (PySem.W.typeIn K (.ref (ga K x)) = some (.type "type")) && (PySem.W.readsIn K (ga K x) (.type "type") &&
  (match PySem.W.findCls K (.ref (ga K x)) (.type "type") "__init__" with
    | some (.val (.builtin n)) => decide (n = "ValueError.__init__")
    | _ => false)))
theorem keB_ok {K : PySem.W.Frag} {mg : Str → Option Value} {x : Str} (g : mg x = some (.ref (ga K x))) (h : keB K x = true) : KeC K mg x (ga K x) := by
  obtain ⟨h1, h⟩ := ba h
  obtain ⟨h2, h⟩ := ba h
  obtain ⟨h3, h4⟩ := ba h
  refine ⟨g, of_decide_eq_true h1, of_decide_eq_true h2, h3, ?_⟩
  split at h4
  · rename_i n e
    rw [e, show n = "ValueError.__init__" from of_decide_eq_true h4]
  · cases h4
def oexB (K : PySem.W.Frag) (C : Addr) : Bool := (match K.lookup C with
  | some ⟨.type t, _, .cls cd, sl⟩ => (match cd.mro, sl.toList with
    | .ref C' :: bm, [_, _, _, _, some (.builtin n), _] => decide (t = "type") && (decide (C' = C) && (decide (n = "ValueError.__new__") && (!cd.hasDel && (cd.hasDict && PySem.HandSPX.refsVE bm))))
    | _, _ => false)
  | _ => false) && (decide (PySem.W.findIn K (.ref C) "__setattr__" = some (some (.builtin "object.__setattr__"))) && (decide (PySem.W.subIn K (.ref C) (.type "BaseException") = some true) && (decide (PySem.W.typeIn K (.ref C) = some (.type "type")) && PySem.W.keepIn K (.ref C))))
theorem oexB_ok {K : PySem.W.Frag} {C : Addr} (h : oexB K C = true) : OexC K C := by
  obtain ⟨h1, h⟩ := ba h
  obtain ⟨h2, h⟩ := ba h
  obtain ⟨h3, h⟩ := ba h
  obtain ⟨h4, h5⟩ := ba h
  refine ⟨?_, of_decide_eq_true h2, of_decide_eq_true h3, of_decide_eq_true h4, h5⟩
  split at h1
  · rename_i t dd cd sl lk
    split at h1
    · rename_i C' bm k0 k1 k2 k3 n k5 hm hs
      obtain ⟨e1, h1⟩ := ba h1
      obtain ⟨e2, h1⟩ := ba h1
      obtain ⟨e3, h1⟩ := ba h1
      obtain ⟨e4, h1⟩ := ba h1
      obtain ⟨e5, e6⟩ := ba h1
      have e1 := of_decide_eq_true e1
      have e2 := of_decide_eq_true e2
      have e3 := of_decide_eq_true e3
      obtain ⟨nm, bs, mro, ns, qn, hd, sn, sub, ab, col, del⟩ := cd
      have e4' : del = false := by
        cases del with
        | false => rfl
        | true => cases e4
      have e5' : hd = true := e5
      have hm' : mro = .ref C' :: bm := hm
      have hsl : sl = #[k0, k1, k2, k3, some (.builtin n), k5] := by
        obtain ⟨l⟩ := sl
        have hs' : l = _ := hs
        rw [hs']
      subst e1 e2 e3 e4' e5' hm' hsl
      exact ⟨nm, qn, ns, bs, bm, sn, sub, ab, col, dd, k0, k1, k2, k3, k5, lk, e6⟩
    · cases h1
  · cases h1
/-- an error class x with one field f -/
def er1B (K : PySem.W.Frag) (x f : Str) : Bool := oexB K (ga K x) && (decide (PySem.W.findIn K (.ref (ga K x)) f = some none) && (xfB K (ga K x) && (decide (PySem.W.exmOne K (.ref (ga K x)) (.ref (ga K x)) = some true) &&
  (decide (PySem.W.findIn K (.ref (ga K x)) "__init__" = some (some (.ref (ma K (ga K x) "__init__")))) && decide (PySem.W.typeIn K (.ref (ma K (ga K x) "__init__")) = some (.type "function"))))))
theorem er1_of {G : Gm} {b x f v nm qual : Str} {CB : Addr} {fd : FuncData} {params : Arguments} {body : List Stmt} {scope : Scope} (T : KeC G.K G.mg b CB) (g : G.mg x = some (.ref (ga G.K x))) (h : er1B G.K x f = true) (F : FunD G.K nm qual params body scope [] [] (fAd G.K (x, some "__init__")) fd)
    (S : FnScope ["self", v] ["self", v] scope) (hc : chkIni1 b f v body = true) (hgl : scope.names.lookup b = some .globalImplicit) (l1 : scope.names.lookup ("self" : Str) = some NameKind.local) (l2 : scope.names.lookup v = some NameKind.local) (d1 : (b == ("__debug__" : Str)) = false) (d2 : okNm v = true)
    (hb : ∀ (kV doc pm : Value) (an : Option Addr) (cdv ct : Value) (us : List Value), us.length = (["self", v] : List Str).length → bindArgs (PySem.W.fnOf nm qual params body scope .none kV doc pm an cdv ct) ⟨us, []⟩ = pure ((["self", v] : List Str).zip us)) : Er1 G x f (ga G.K x) := by
  obtain ⟨h1, h⟩ := ba h
  obtain ⟨h2, h⟩ := ba h
  obtain ⟨h3, h⟩ := ba h
  obtain ⟨h4, h⟩ := ba h
  obtain ⟨h5, h6⟩ := ba h
  have O := oexB_ok h1
  refine ⟨g, O, of_decide_eq_true h2, xfB_ok h3, of_decide_eq_true h4, ma G.K (ga G.K x) "__init__", fd, v, of_decide_eq_true h5, of_decide_eq_true h6, ini1_ok (x := x) T F S O (of_decide_eq_true h2) hc hgl l1 l2 d1 d2, F.bindsN hb⟩

/-! ### a dict of the module -/
theorem ns_off {K : PySem.W.Frag} {P : Params} {a : Addr} {ks : List Str} {z : Str} (h : dicW K a = some (keysIn P ks)) (hz : z ∉ ks) : PySem.W.nsIn K a z = some none := by
  unfold dicW at h
  split at h
  · rename_i c es n sl lk
    split at h
    · have h' := Option.some.inj h
      have each : ∀ e ∈ es.toList, e.key.isStr z = false ∧ e.refKey = false := by
        intro e he
        have hm : He.keyOf e ∈ keysIn P ks := by rw [← h']; exact List.mem_map_of_mem he
        obtain ⟨k, hk, e2⟩ := List.mem_map.mp hm
        unfold He.keyOf at e2
        split at e2
        · rename_i x t q
          have e3 : k = x := (Prod.mk.inj (Option.some.inj e2)).1
          subst e3
          refine ⟨?_, by unfold DictEntry.refKey; rw [q]⟩
          rw [q]
          exact beq_false_of_ne fun w => hz (w ▸ hk)
        · cases e2
      unfold PySem.W.nsIn
      rw [lk]
      have f1 : es.toList.find? (·.key.isStr z) = none := List.find?_eq_none.mpr fun e he => by rw [(each e he).1]; exact Bool.false_ne_true
      have f2 : es.toList.any (·.refKey) = false := by
        rw [List.any_eq_false]
        intro e he
        rw [(each e he).2]
        exact Bool.false_ne_true
      simp only [f1, f2]
      rfl
    · cases h
  · cases h
/-- the value of a text is a tuple of these -/
def tupAtB (K : PySem.W.Frag) (d : Addr) (z : Str) (vs : List V) : Bool := match PySem.W.nsIn K d z with
  | some (some (.ref u)) => (match K.lookup u with
    | some ⟨.type c, _, .seq its _, _⟩ => decide (c = "tuple") && (decide (its.size ≤ sizeLine) && relAll vs its.toList)
    | _ => false)
  | _ => false
theorem tupAtB_ok {K : PySem.W.Frag} {d : Addr} {z : Str} {vs : List V} (h : tupAtB K d z vs = true) : ∃ u, PySem.W.nsIn K d z = some (some (.ref u)) ∧ ∀ H : Hp, SqT K H u vs := by
  unfold tupAtB at h
  split at h
  · rename_i u e
    split at h
    · rename_i c od its n sl lk
      obtain ⟨h1, h⟩ := ba h
      obtain ⟨h2, h3⟩ := ba h
      exact ⟨u, e, fun H => .inr ⟨_, its, n, lk, congrArg Value.type (of_decide_eq_true h1), rfl, of_decide_eq_true h2, relAll_ok h3⟩⟩
    · cases h
  · cases h
theorem SaysT.dic {fa : List Fa} {fn : List DefD} {ts : List Tab} {w : World} {K : PySem.W.Frag} (c : SaysT fa fn ts w K) (i : Nat) {t : Tab} (h : ts[i]? = some t) : dicW K (t.1 K) = some (keysIn w.params t.2) := by
  have e : ts.map (fun t => dicW K (t.1 K)) = ts.map fun t => some (keysIn w.params t.2) := congrArg (fun z : AlT => z.2) c
  have e2 : (ts.map fun t => dicW K (t.1 K))[i]? = (ts.map fun t => some (keysIn w.params t.2))[i]? := by rw [e]
  rw [List.getElem?_map, List.getElem?_map, h] at e2
  exact Option.some.inj e2
/-- a def that may be called -/
theorem at_of {G : Gm} {k : Nat} {x qual : Str} {params : Arguments} {body : List Stmt} {scope : Scope} {kws : List (Str × V)} {fd : FuncData} {ps : List Str} {sp : Sp} (F : FunD G.K x qual params body scope [] kws (fAd G.K (x, none)) fd) (g : G.mg x = some (.ref (ga G.K x))) (A : FnG G k (fAd G.K (x, none)) fd ps sp)
    (hb : ∀ (kV doc pm : Value) (an : Option Addr) (cdv ct : Value) (us : List Value), us.length = ps.length → bindArgs (PySem.W.fnOf x qual params body scope .none kV doc pm an cdv ct) ⟨us, []⟩ = pure (ps.zip us)) : FnAt G k x sp [] := ⟨k, _, fd, ps, [], Nat.le.refl, A, g, F.kp, F.bindsN hb, .nil⟩
/-- .. with keywords -/
theorem kb_of {K : PySem.W.Frag} {x qual : Str} {params : Arguments} {body : List Stmt} {scope : Scope} {kws : List (Str × V)} {f : Addr} {fd : FuncData} {ps ks : List Str} {g : List Value → List Value → List Value} {gV : List V → List V → List V} (F : FunD K x qual params body scope [] kws f fd)
    (h : ∀ (kV doc pm : Value) (an : Option Addr) (cdv ct : Value) (us ws : List Value), (g us ws).length = ps.length → bindArgs (PySem.W.fnOf x qual params body scope .none kV doc pm an cdv ct) ⟨us, ks.zip ws⟩ = pure (ps.zip (g us ws)))
    (rel : ∀ {vs : List V} {us : List Value} {zs : List V} {ws : List Value}, Vals vs us → Vals zs ws → Vals (gV vs zs) (g us ws)) : KBinds K fd ps ks g gV := by
  obtain ⟨oc, od, dV, kV, doc, pm, an, cdv, ct, osl, rfl, lk, hcd, hD, hK⟩ := F.ex
  rcases hD with ⟨_, rfl⟩ | ⟨e, _⟩
  · exact ⟨fun s us ws _ hl => .of_eq (h kV doc pm an cdv ct us ws hl), rel⟩
  · exact absurd rfl e
end Kn

/-! KnH: all(test for x in e), the test and the walked thing of any kind. -/
namespace Kn
open PySem PySem.Spec PyProof.Rows L2

abbrev gEnv (X : Cx) (scope : Scope) (lc : Addr) (code : Value) (bi : Addr) : Env := genEnv scope (cloFrom X.env.cells scope.names []) lc code bi X.env
/-- the test at the i-th item -/
def GElt (X : Cx) (P : Addr) (s1 : Shared) (scope : Scope) (x : Str) (elt : Expr) (Pv : Nat → Value → Prop) (pb : Nat → Bool) : Prop :=
  ∀ (A' : Around) (E' : Value → Shared → Prop) (i : Nat) (v : Value) (s₂ : Shared) (m₂ : Str → Option Value) (lc : Addr) (code : Value) (bi : Addr), A'.handled = none → A'.depth ≤ X.A.depth + 1 → A'.units ≤ X.A.units + 8 → Pv i v →
    s₂.heap.Ns lc m₂ → m₂ x = some v → (∀ b u, b ≠ P → s1.heap.get? b = some u → s₂.heap.get? b = some u) →
    wpAny (model X.prog X.w) A' (eval elt (gEnv X scope lc code bi)) (fun y s₃ => y = .bool (pb i) ∧ Keeps s₂ s₃) E' s₂
/-- what is walked, asked for its iterator -/
def GIter (X : Cx) (P : Addr) (s1 : Shared) (u : Value) (n : Nat) (Pv : Nat → Value → Prop) : Prop :=
  ∀ (Q : Value → Shared → Prop) (E : Value → Shared → Prop), (∀ (o : Obj) (ex : List Addr) (St : Nat → Heap → Prop), (∀ A' : Around, A'.handled = none → Walks X.prog X.w A' s1.heap.objs.size (s1.heap.objs.size :: ex) [s1.heap.objs.size] n Pv St) → St 0 (s1.heap.push o) → (∀ b ∈ ex, b < s1.heap.objs.size ∧ b ≠ P) →
    Q (.ref s1.heap.objs.size) { s1 with heap := s1.heap.push o }) → wpAny (model X.prog X.w) X.A (pyIter u) Q E s1
/-- the generator g, ready to be walked, in the state s5; H1: what was held before -/
def GReady (X : Cx) (pins : List (Addr × Obj)) (σ : L2.St) (H1 : Hp) (n : Nat) (pb : Nat → Bool) (g : Addr) (s5 : Shared) : Prop :=
  ∃ (fp wr : List Addr) (G : Array GenState → Array GenState → Prop) (F : Nat → Value → Prop) (St : Nat → Shared → Prop),
    WalksS X.prog X.w X.A.in1 g fp wr G n F St ∧ St 0 s5 ∧ TruthOf X.prog X.w X.A.in1 F pb ∧
    ∀ s', Moved wr G s5 s' → ∃ H2, Ext H1 H2 ∧ Inv X pins σ H2 s'
section
variable {X : Cx} {pins : List (Addr × Obj)} {σ : L2.St} {H : Hp} {s : Shared}
theorem gen_any {c P : Addr} {elt iter : Expr} {x : Str} {px gpos : Pos} {scope : Scope} {te : TE} {k : Nat} {Q' : Value → Shared → Prop} {Pre : V → Hp → Prop}
    (hr : Room k X.A) (TB : GxR.TabB X.base X.mg c P) (hcode : X.env.code = .ref c) (S : GxR.GenS X.env scope x) (hi : PE X iter te) (hlp : lamPos gpos.line = false)
    (hs : ∀ v, genFold iter X.env v = pure v) (I : Inv X pins σ H s) (h : te σ H Pre) (hT : ∀ v H1, Pre v H1 → GxR.TabG H1 P)
    (key : ∀ v H1 u s1, Inv X pins σ H1 s1 → RelV v u → Pre v H1 → ∃ n Pv pb, GIter X P s1 u n Pv ∧ GElt X P s1 scope x elt Pv pb ∧ ∀ g s5, GReady X pins σ H1 n pb g s5 → Q' (.ref g) s5) :
    wpAny (model X.prog X.w) X.A (eval (.GeneratorExp elt [⟨.Name x px, iter, [], 0⟩] scope gpos) X.env) Q' X.xe s := by
  refine wpAny_GeneratorExp_walksQD hr.hd S.co (closure_ok S.free) S.cell S.dot S.loc S.kind (by have := hr.dp; omega) ?_ hs
  refine thn (hi.run pins s σ H _ I h) fun xv s1 ⟨v, H1, I1, r1, q1⟩ => ?_
  obtain ⟨ps, hP, ht⟩ := hT v H1 q1
  obtain ⟨n, Pv, pb, git, gel, hQ⟩ := key v H1 xv s1 I1 r1 q1
  refine git _ _ fun o ex St W hst hex => ?_
  have hPs : s1.heap.get? P = some { cls := .none, data := .fields ps } := I1.hok P _ hP
  have hPlt : P < s1.heap.objs.size := Heap.lt_size hPs
  have hP2 : (s1.heap.push o).get? P = some { cls := .none, data := .fields ps } := Heap.get?_push_of_some _ hPs
  have cd : PySem.W.CodeHd (s1.heap.push o) c P := TB.code.keeps fun b u e => Heap.get?_push_of_some _ (I1.bk b u e)
  have lim2 : (s1.heap.push o).NoLimit := I1.nolimit.push o
  have cont : ∀ (code : Value) (h3 : Heap) (tk : Nat) (ps' : Array Value), Heap.ExtBut P (s1.heap.push o) h3 → (s1.heap.push o).objs.size ≤ h3.objs.size → h3.get? P = some { cls := .none, data := .fields ps' } → (∃ more, ps' = ps ++ more ∧ Ext H1 (upd H1 P (.tbl (ps ++ more)))) →
      wpAny (model X.prog X.w) X.A (builtinsFor X.env.globals X.env.builtins) (fun bi s₄ =>
        ∃ Ia fp wr n₀ Pf St₀ pz F, Value.ref s1.heap.objs.size = .ref Ia ∧ (∀ A' : Around, A'.handled = none → Walks X.prog X.w A' Ia fp wr n₀ Pf St₀) ∧ St₀ 0 s₄.heap ∧ (∀ b ∈ fp, b < s₄.heap.objs.size) ∧ s₄.heap.NoLimit ∧ cStatics ∉ wr ∧
          (∀ href : Heap, (∀ b o, s₄.heap.get? b = some o → href.get? b = some o) →
            QuietGenD X.prog X.w (genEnv scope (cloFrom X.env.cells scope.names []) s₄.heap.objs.size code bi X.env) x [] elt (List.range s₄.heap.objs.size) wr Pf pz F href (X.A.depth + 1) (X.A.units + 8)) ∧
          (∀ a h₅ tk gs, gs.bare = true → s₄.heap.objs.size < a → h₅.objs.size = a + 1 → (∀ b o, s₄.heap.get? b = some o → h₅.get? b = some o) →
            WalksS X.prog X.w X.A.in4 a (a :: s₄.heap.objs.size :: List.range s₄.heap.objs.size) (s₄.heap.objs.size :: wr) (GenOnlyQ s₄.gens.size) (passing pz n₀ 0).length
              (fun j y => ∃ i, (passing pz n₀ 0)[j]? = some i ∧ F i y) (GenAt X.prog X.w X.A.in4 a s₄.gens.size s₄.heap.objs.size (List.range s₄.heap.objs.size) wr pz n₀ F) →
            GenAt X.prog X.w X.A.in4 a s₄.gens.size s₄.heap.objs.size (List.range s₄.heap.objs.size) wr pz n₀ F 0 { s₄ with gens := s₄.gens.push gs, toks := tk, heap := h₅ } →
            Q' (.ref a) { s₄ with gens := s₄.gens.push gs, toks := tk, heap := h₅ })) X.xe { s1 with heap := h3, toks := tk } := by
    intro code h3 tk ps' hx hsz hP3 hmore
    obtain ⟨bm, ob, e1, e2, e3, e4, e5, e6, e7, e8⟩ := TB.bm
    have hcP : cStatics ≠ P := fun e => by
      obtain ⟨_, hns, _⟩ := I1.nolimit
      obtain ⟨o', es, ep, ho, hd, _⟩ := hns
      rw [e, hPs] at ho
      cases ho
      cases hd
    have hcl : cStatics < s1.heap.objs.size := let ⟨_, hns, _⟩ := I1.nolimit; hns.lt
    have sz2 : (s1.heap.push o).objs.size = s1.heap.objs.size + 1 := Heap.size_push ..
    have keep3 : ∀ b u, b ≠ P → s1.heap.get? b = some u → h3.get? b = some u := fun b u hb e => hx b u hb (Heap.get?_push_of_some _ e)
    refine wpAny_builtinsFor (m := X.mg) (by rw [I1.ok.glob]; exact ((I1.mod.glob.keeps I1.bk).push o).extBut hx TB.gP) e1 e2 (keep3 _ _ e4 (I1.bk _ _ e5)) e6 e7 e8 ?_
    refine ⟨s1.heap.objs.size, s1.heap.objs.size :: ex, [s1.heap.objs.size], n, Pv, St, (fun _ => true), (fun i y => y = .bool (pb i)), rfl, W, ?_, ?_, lim2.extBut hx hcP, ?_, ?_, ?_⟩
    · refine (W X.A hr.hd).frame _ _ _ hst fun b hb u e => hx b u (fun z => ?_) e
      rcases List.mem_cons.mp hb with z2 | z2
      · exact Nat.ne_of_lt hPlt (z.symm.trans z2)
      · exact (hex b z2).2 z
    · intro b hb
      rcases List.mem_cons.mp hb with z | z
      · rw [z]
        show s1.heap.objs.size < h3.objs.size
        rw [sz2] at hsz
        exact hsz
      · have h8 := (hex b z).1
        show b < h3.objs.size
        rw [sz2] at hsz
        exact Nat.lt_of_lt_of_le h8 (Nat.le_of_lt hsz)
    · intro z
      rcases List.mem_cons.mp z with z | z
      · exact Nat.ne_of_lt hcl z
      · cases z
    · intro href hhref
      have old : ∀ {s₂ : Shared}, (∀ b ∈ List.range h3.objs.size, b ∉ [s1.heap.objs.size] → ∀ o, href.get? b = some o → s₂.heap.get? b = some o) → ∀ b u, b ≠ P → s1.heap.get? b = some u → s₂.heap.get? b = some u := fun {s₂} hk b u hb e => by
        have hl := Heap.lt_size e
        refine hk b (List.mem_range.mpr ?_) (fun z => ?_) u (hhref b u (keep3 b u hb e))
        · rw [sz2] at hsz
          exact Nat.lt_of_lt_of_le hl (Nat.le_of_lt hsz)
        · rw [List.mem_singleton.mp z] at hl
          exact Nat.lt_irrefl _ hl
      refine ⟨fun A' E' i v s₂ m₂ hA hD hU hPv hn hm hk => ?_, fun A' E' i v s₂ m₂ hA hD hU hPv hp hn hm hk => ?_⟩
      · simp only [List.forIn_nil]
        exact wpAny_pure ⟨rfl, GxR.keeps_refl _⟩
      · exact gel A' E' i v s₂ m₂ _ _ _ hA hD hU hPv hn hm (old hk)
    · intro g h5 tk5 gs hgb hag hsz5 hk5 W5 hat
      simp only [GxR.passing_true, List.length_range] at W5
      refine hQ g _ ⟨_, _, _, _, _, W5.in4_1, hat, ?_, fun s' hm => ?_⟩
      · intro j y sj Qj Ej hy hQj
        obtain ⟨i, hij, rfl⟩ := hy
        obtain ⟨hj, ej⟩ := List.getElem?_eq_some_iff.mp hij
        rw [List.getElem_range] at ej
        subst ej
        exact wpAny_truthy_bool hQj
      · obtain ⟨more, em, hext⟩ := hmore
        have nwr : ∀ b u, s1.heap.get? b = some u → b ∉ h3.objs.size :: [s1.heap.objs.size] := fun b u e hb => by
          have hl := Heap.lt_size e
          rcases List.mem_cons.mp hb with z | z
          · rw [z] at hl
            have h9 : (h3.objs.size : Nat) < s1.heap.objs.size := hl
            omega
          · rcases List.mem_cons.mp z with z | z
            · rw [z] at hl
              exact Nat.lt_irrefl _ hl
            · cases z
        have J := GxR.inv_tab (more := more) (h' := s'.heap) (g' := s'.gens) (d' := s'.drawn) (t' := s'.toks) I1 hP (fun b u hb e => hm.heap b u (nwr b u e) (hk5 b u (keep3 b u hb e)))
          (by rw [← em]; exact hm.heap P _ (nwr P _ hPs) (hk5 P _ hP3)) (AllBare.movedS (I1.bare.push hgb) hm)
        rw [GxR.sh_eta s1 s' hm.os] at J
        exact ⟨_, hext, J⟩
  refine ⟨lim2, ?_⟩
  cases hf : codeAmong gpos ps.toList with
  | none =>
    refine wpAny_genexprCodeX hcode (cd.code hP2 ht) (cd.tab hP2) hf fun c' h' tk hx hge hlt hco' _ htab' _ => ?_
    exact cont _ h' tk _ hx (Nat.le_trans hge (Nat.le_of_lt hlt)) htab'.2 ⟨_, rfl, ext_gen hP ht hlp⟩
  | some cv =>
    refine wpAny_genexprCode_hit hcode (cd.code hP2 ht) hf ?_
    have e0 : upd H1 P (.tbl (ps ++ #[])) = H1 := by
      rw [Array.append_empty]
      funext b
      by_cases hb : b = P
      · rw [hb, upd_same, hP]
      · rw [upd_ne hb]
    exact cont cv (s1.heap.push o) s1.toks ps (Heap.ExtBut.refl _ _) (Nat.le_refl _) hP2 ⟨#[], by simp, by rw [e0]; exact Xt.refl⟩

/-- all(test for x in e): Ans tells the answer of what e gives -/
def tAllG (P : Addr) (Ans : L2.St → V → Hp → Bool → Prop) (te : TE) : TE := fun σ H Q => te σ H fun v H1 => ∃ b, Ans σ v H1 b ∧ GxR.TabG H1 P ∧ ∀ H2, Ext H1 H2 → Q (.bl b) H2
theorem pe_allG {c P : Addr} {elt iter : Expr} {x : Str} {px p pos gpos : Pos} {scope : Scope} {Ans : L2.St → V → Hp → Bool → Prop} {te : TE} {k : Nat}
    (hr : Room k X.A) (hg : Gl X "all") (hm : X.mg "all" = none) (TB : GxR.TabB X.base X.mg c P) (hcode : X.env.code = .ref c) (S : GxR.GenS X.env scope x) (hi : PE X iter te) (hlp : lamPos gpos.line = false)
    (hs : ∀ v, genFold iter X.env v = pure v)
    (key : ∀ pins σ s1 v u H1 b, Inv X pins σ H1 s1 → RelV v u → GxR.TabG H1 P → Ans σ v H1 b → ∃ n Pv pb, GIter X P s1 u n Pv ∧ GElt X P s1 scope x elt Pv pb ∧ (List.range n).all pb = b) :
    PE X (.Call (.Name "all" p) [.GeneratorExp elt [⟨.Name x px, iter, [], 0⟩] scope gpos] [] pos) (tAllG P Ans te) := by
  have he : starEach [.GeneratorExp elt [⟨.Name x px, iter, [], 0⟩] scope gpos] X.env = (false, eval (.GeneratorExp elt [⟨.Name x px, iter, [], 0⟩] scope gpos) X.env) :: starEach [] X.env := by rfl
  refine ⟨fun pins s σ H Q I h => ?_⟩
  refine wpAny_Call_Name_kw (ld_blt I hg hm (u := .builtin "all") (by decide +kernel) ?_)
  refine PyProof.Rows.callWith_builtin1 ?_ he (by rfl)
  rw [he]
  show wpAny _ _ (spliced ((false, eval (.GeneratorExp elt [⟨.Name x px, iter, [], 0⟩] scope gpos) X.env) :: backTo pos (starEach [] X.env))) _ _ s
  refine Calls.spliced_cons (gen_any hr TB hcode S hi hlp hs I h (fun v H1 hh => hh.elim fun _ z => z.2.1) fun v H1 u s1 I1 r1 hh => ?_)
  obtain ⟨b, ans, hT, hQ⟩ := hh
  obtain ⟨n, Pv, pb, g1, g2, g3⟩ := key pins σ s1 v u H1 b I1 r1 hT ans
  refine ⟨n, Pv, pb, g1, g2, fun g s5 hG => ?_⟩
  obtain ⟨fp, wr, G, F, St, W, hst, htr, hI⟩ := hG
  refine Calls.spliced_nil ?_
  refine call_all_walkS (W.self 0 _ _ _ hst ⟨g, fp, wr, G, _, F, St, _, rfl, W, hst, htr, fun s' hmv => ?_⟩)
  obtain ⟨H2, hE, J⟩ := hI s' hmv
  exact ⟨.bl _, H2, J, rfl, by rw [g3]; exact hQ H2 hE⟩
/-- a text -/
theorem git_str {P : Addr} {z : Str} {u : Value} {s1 : Shared} (r : RelV (.str z) u) : GIter X P s1 u z.cps.size (SignAt z) := by
  intro Q E hQ
  obtain ⟨t, rfl⟩ := r
  exact wpAny_pyIter_str fun o St W hst => hQ o [] St W hst fun b hb => nomatch hb
/-- what is said of the names of a genexpr, by one look -/
def genSB (sc scope : Scope) (x : Str) : Bool := decide (scope.kind = .function) && !scope.isCoroutine && scope.names.all (fun y => !decide (y.2 = .cell) && (!decide (y.2 = .free) || decide (sc.names.lookup y.1 = some .cell) || decide (sc.names.lookup y.1 = some .free))) && decide (scope.names.lookup (".0" : Str) = some NameKind.local) && decide (scope.names.lookup x = some .local)
theorem genS_by {scope : Scope} {x : Str} (ok : X.Ok) (h : genSB X.env.scope scope x = true) : GxR.GenS X.env scope x := by
  unfold genSB at h
  simp only [Bool.and_eq_true, Bool.or_eq_true, Bool.not_eq_true', decide_eq_true_eq, decide_eq_false_iff_not, List.all_eq_true] at h
  obtain ⟨⟨⟨⟨h1, h2⟩, h3⟩, h4⟩, h5⟩ := h
  refine ⟨h1, h2, fun y hy => (h3 y hy).1, h4, h5, fun y hy e => ?_⟩
  rcases (h3 y hy).2 with (z | z) | z
  · exact absurd e z
  · exact ok.has _ (Or.inl z)
  · exact ok.has _ (Or.inr z)
end
end Kn

/-! KnQ: sets of texts: set(text), sorted(set(text)). -/
namespace Kn
open PySem PySem.Spec PyProof.Rows L2

def keyX (e : Int × Value) : Str := match e.2 with | .str k _ => k | _ => Str.empty
def GoodX (w : World) (e : Int × Value) : Prop := ∃ k tk, e.2 = Value.str k tk ∧ e.1 = hashStr w k
/-- the set of texts at a: S its members, n their number -/
def SetX (w : World) (h : Heap) (a : Addr) (S : Str → Bool) (n : Nat) : Prop :=
  ∃ o es ep t, h.get? a = some o ∧ o.ExactSet ∧ o.data = .set es ep t ∧ (∀ e ∈ es.toList, GoodX w e) ∧ (es.toList.map keyX).Nodup ∧ (∀ k, S k = true ↔ k ∈ es.toList.map keyX) ∧
    es.size < scanBound ∧ t.fits es.size = true ∧ es.size = n ∧ Ris t.place.toList ∧ (w.params.followText "set-order" = true ∨ t.led = true)
section
variable {P : Program} {w : World} {h h' : Heap} {a : Addr} {S : Str → Bool} {n : Nat}
theorem SetX.at (R : SetX w h a S n) (k : ∀ o, h.get? a = some o → h'.get? a = some o) : SetX w h' a S n := by
  obtain ⟨o, es, ep, t, ho, r⟩ := R
  exact ⟨o, es, ep, t, k o ho, r⟩
theorem SetX.congr {S' : Str → Bool} (R : SetX w h a S n) (e : ∀ k, S' k = S k) : SetX w h a S' n := by
  have q : S' = S := funext e
  rw [q]; exact R
theorem goodX_elems {l : List (Int × Value)} (g : ∀ e ∈ l, GoodX w e) : ElemsOf (strKind P w) l := fun e he => by
  obtain ⟨k, tk, h1, h2⟩ := g e he
  exact ⟨⟨k, by rw [h1]; exact strKind_is P w k tk, h2⟩, by rw [h1] <;> rfl⟩
theorem goodX_is {e : Int × Value} (g : GoodX w e) (k : Str) : (strKind P w).is k e.2 = true ↔ keyX e = k := by
  obtain ⟨k0, tk, h1, _⟩ := g
  unfold keyX
  rw [h1]
  show (Value.isStrOf k (.str k0 tk) = true) ↔ k0 = k
  simp [Value.isStrOf]
theorem goodX_mem {l : List (Int × Value)} (g : ∀ e ∈ l, GoodX w e) (k : Str) : k ∈ l.map keyX ↔ ∃ e ∈ l, (strKind P w).is k e.2 = true := by
  rw [List.mem_map]
  constructor
  · rintro ⟨e, he, q⟩
    exact ⟨e, he, (goodX_is (g e he) k).2 q⟩
  · rintro ⟨e, he, q⟩
    exact ⟨e, he, (goodX_is (g e he) k).1 q⟩
theorem setX_new {ns : List Str} (ho : h.get? a = some { cls := .type "set", dict := none, data := .set #[] 0 (.fresh 0 0 (!w.params.followText "set-order")) }) : SetX w h a (fun j => decide (j ∈ ns.take 0)) 0 :=
  ⟨_, #[], 0, _, ho, ⟨rfl, rfl, rfl⟩, rfl, (fun e he => by simp at he), (by simp), (fun k => by simp), (by decide), (by rfl), rfl, List.Pairwise.nil, by
    show _ ∨ (!w.params.followText "set-order") = true
    cases w.params.followText "set-order"
    · exact .inr rfl
    · exact .inl rfl⟩
end
section
variable {P : Program} {w : World} {A : Around} {E : Value → Shared → Prop} {s : Shared} {a : Addr} {S : Str → Bool} {n : Nat}
theorem setX_tail {g : Bool → Sem Unit} (hg : ∀ (b : Bool) (s₁ : Shared) (Q' : Unit → Shared → Prop), Q' () s₁ → wpAny (model P w) A (g b) Q' E s₁)
    {o : Obj} {es : Array (Int × Value)} {ep : Nat} {t : SetTable} (ho : s.heap.get? a = some o) (hex : o.ExactSet) (hd : o.data = .set es ep t)
    {es1 : Array (Int × Value)} {t2 : SetTable} {S' : Str → Bool} (g1 : ∀ e ∈ es1.toList, GoodX w e) (nd1 : (es1.toList.map keyX).Nodup) (m1 : ∀ k, S' k = true ↔ k ∈ es1.toList.map keyX)
    (hb1 : es1.size < scanBound) (hf2 : t2.fits es1.size = true) (hr : Ris t2.place.toList) (hl : w.params.followText "set-order" = true ∨ t2.led = true) {wasDummy : Bool} {R : Option Bool → Shared → Prop}
    (hR : ∀ h', Heap.SameBut a s.heap h' → SetX w h' a S' es1.size → R (some true) { s with heap := h' }) :
    wpAny (model P w) A (do
        storeSet a es1 t2
        if (!wasDummy && t2.tooFull) = true then do
            g (relayAll t2 es1 (SetTable.grown es1.size)).2.2
            storeSet a (relayAll t2 es1 (SetTable.grown es1.size)).1 (relayAll t2 es1 (SetTable.grown es1.size)).2.1
            pure (some true)
          else pure (some true)) R E s := by
  refine wpAny_bind (wpAny_storeSet_of ho hd ?_ (fits_of_scanBound hb1))
  have ho1 := L2.store_at (es' := es1) (t' := t2) ho hd
  have sb1 := Heap.SameBut.update s.heap a (Obj.putSet es1 t2)
  split
  · have pm := relayAll_perm t2 es1 (SetTable.grown es1.size)
    have hf3 := relayAll_fits t2 es1 (SetTable.grown es1.size)
    have hr3 := relayAll_ris t2 es1 (SetTable.grown es1.size)
    have hl3 := relayAll_led t2 es1 (SetTable.grown es1.size)
    generalize relayAll t2 es1 (SetTable.grown es1.size) = Z at pm hf3 hr3 hl3 ⊢
    obtain ⟨es2, t3, gave⟩ := Z
    dsimp only at pm hf3 hr3 hl3 ⊢
    have hsz : es2.size = es1.size := by rw [← Array.length_toList, pm.length_eq, Array.length_toList]
    have hb2 : es2.size < scanBound := by rw [hsz]; exact hb1
    refine wpAny_bind (hg _ _ _ ?_)
    refine wpAny_bind (wpAny_storeSet_of ho1 rfl ?_ (fits_of_scanBound hb2))
    have ho2 := L2.store_at (es' := es2) (t' := t3) ho1 rfl
    refine wpAny_pure (hR _ (sb1.trans (Heap.SameBut.update _ a _)) ?_)
    exact ⟨_, es2, _, t3, ho2, hex, rfl, fun e he => g1 e (pm.mem_iff.mp he), (pm.map keyX).nodup_iff.mpr nd1, fun k => (m1 k).trans (pm.map keyX).mem_iff.symm, hb2, hf3, hsz, hr3,
      hl.imp id fun z => by rw [hl3]; exact z⟩
  · exact wpAny_pure (hR _ sb1 ⟨_, es1, _, t2, ho1, hex, rfl, g1, nd1, m1, hb1, hf2, rfl, hr, hl⟩)

theorem setX_add {k : Str} {tk : Tok} {Q : Bool → Shared → Prop} (R : SetX w s.heap a S n) (room : n + 1 < scanBound)
    (hQ : ∀ h', Heap.SameBut a s.heap h' → SetX w h' a (fun j => S j || decide (j = k)) (if S k = true then n else n + 1) → Q (!S k) { s with heap := h' }) :
    wpAny (model P w) A (setAddHashed a (.str k tk) ((strKind P w).hash k)) Q E s := by
  obtain ⟨o, es, ep, t, ho, hex, hd, g, nd, hm, hb, hf, hn, hr, hl⟩ := R
  have hkey : (strKind P w).is k (.str k tk) = true := strKind_is P w k tk
  have hsc : (Value.str k tk).scannable = true := rfl
  have hel : ElemsOf (strKind P w) es.toList := goodX_elems g
  unfold setAddHashed setAddHashedIn
  refine wpAny_holding (wpAny_bind (wpAny_setState_of ho hd hf ?_))
  dsimp only
  rw [byScan_of hsc hb hel]
  simp only [↓reduceIte]
  unfold setAddByScan
  refine wpAny_bind ?_
  refine wpAny_bind (wpAny_rule ?_)
  refine wpAny_bind (wpAny_setScan_of hkey ho hd hf hel ?_)
  cases hfi : List.findIdx? (fun e => (strKind P w).is k e.2) es.toList with
  | some j =>
    dsimp only
    obtain ⟨hj, pj, _⟩ := List.findIdx?_eq_some_iff_getElem.mp hfi
    have hSk : S k = true := (hm k).2 ((goodX_mem (P := P) (w := w) g k).2 ⟨es.toList[j], List.getElem_mem hj, pj⟩)
    refine wpAny_pure (wpAny_pure ?_)
    have q := hQ s.heap (Heap.SameBut.refl a s.heap) ⟨o, es, ep, t, ho, hex, hd, g, nd, fun i => by
      rw [Bool.or_eq_true, decide_eq_true_eq, ← hm i]
      exact ⟨fun z => z.elim id (fun e => e ▸ hSk), .inl⟩, hb, hf, by rw [if_pos hSk]; exact hn, hr, hl⟩
    rw [hSk] at q
    exact q
  | none =>
    dsimp only
    have hnk : k ∉ es.toList.map keyX := fun z => by
      obtain ⟨e, he, q⟩ := (goodX_mem (P := P) (w := w) g k).1 z
      have c := List.findIdx?_eq_none_iff.mp hfi e he
      rw [q] at c
      cases c
    have hSk : S k = false := by
      cases q : S k with
      | false => rfl
      | true => exact absurd ((hm k).1 q) hnk
    have hgw : ∀ (b : Bool) {s₁ : Shared} {Q' : Unit → Shared → Prop}, Q' () s₁ → wpAny (model P w) A (match b with | true => rule "set.scan.the-table-gave-way" | false => pure ()) Q' E s₁ :=
      fun b s₁ Q' q => by cases b <;> first | exact wpAny_pure q | exact wpAny_rule q
    have pm := layNew_perm t es ((strKind P w).hash k) (.str k tk)
    have hf1 := layNew_fits t es ((strKind P w).hash k) (.str k tk)
    have hr1 := layNew_ris t es ((strKind P w).hash k) (.str k tk) hr
    have hl1 := layNew_led t es ((strKind P w).hash k) (.str k tk)
    generalize layNew t es ((strKind P w).hash k) (.str k tk) = Z at pm hf1 hr1 hl1 ⊢
    obtain ⟨es1, t1, wasDummy, gave⟩ := Z
    dsimp only at pm hf1 hr1 hl1 ⊢
    rw [Array.toList_push] at pm
    have pc : es1.toList.Perm (((strKind P w).hash k, Value.str k tk) :: es.toList) := pm.trans (List.perm_append_singleton _ _)
    have pk : (es1.toList.map keyX).Perm (k :: es.toList.map keyX) := pc.map keyX
    have g1 : ∀ e ∈ es1.toList, GoodX w e := fun e he => by
      rcases List.mem_cons.mp (pc.mem_iff.mp he) with z | z
      · rw [z]; exact ⟨k, tk, rfl, rfl⟩
      · exact g e z
    have nd1 : (es1.toList.map keyX).Nodup := pk.nodup_iff.mpr (List.nodup_cons.mpr ⟨hnk, nd⟩)
    have m1 : ∀ i, (S i || decide (i = k)) = true ↔ i ∈ es1.toList.map keyX := fun i => by
      rw [Bool.or_eq_true, decide_eq_true_eq, hm i, pk.mem_iff, List.mem_cons]
      exact Or.comm
    have hsz : es1.size = n + 1 := by rw [← Array.length_toList, pc.length_eq, List.length_cons, Array.length_toList, hn]
    have hb1 : es1.size < scanBound := by rw [hsz]; exact room
    have hled : w.params.followText "set-order" = true ∨ t1.led = true := hl.imp id fun z => by rw [hl1]; exact z
    have fin : ∀ h', Heap.SameBut a s.heap h' → SetX w h' a (fun j => S j || decide (j = k)) es1.size → Q true { s with heap := h' } := fun h' sb r => by
      have q := hQ h' sb
      rw [hSk] at q
      rw [hsz] at r
      exact q r
    refine wpAny_bind (hgw _ ?_)
    split
    · refine wpAny_bind ?_
      rw [hashByValue_scannable 8 hsc]
      refine wpAny_pure ?_
      refine setX_tail ?_ ho hex hd g1 nd1 m1 hb1 ?_ ?_ ?_ ?_
      · intro b s₁ Q' q; cases b <;> first | exact wpAny_pure q | exact wpAny_rule q
      · first | (split <;> first | exact hf1 | exact SetTable.fits_plain_off hf1) | exact hf1
      · first | (split <;> exact hr1) | exact hr1
      · first | (split <;> exact hled) | exact hled
      · intro h' sb r; dsimp only; exact wpAny_pure (fin h' sb r)
    · refine wpAny_bind (wpAny_pure ?_)
      simp only [↓reduceIte]
      refine setX_tail ?_ ho hex hd g1 nd1 m1 hb1 hf1 hr1 hled ?_
      · intro b s₁ Q' q; cases b <;> first | exact wpAny_pure q | exact wpAny_rule q
      · intro h' sb r; dsimp only; exact wpAny_pure (fin h' sb r)


theorem setX_upd {I : Addr} {fp wr : List Addr} {G : Array GenState → Array GenState → Prop} {n : Nat} {Pv : Nat → Value → Prop} {St : Nat → Shared → Prop} {R : Result → Shared → Prop}
    (W : WalksS P w A.in1 I fp wr G n Pv St) (S : Addr) (hSf : S ∉ fp) (ns : List Str) (hn : n = ns.length) (hb : ns.length + 1 < scanBound) (hval : ∀ i v, Pv i v → ∃ k t, ns[i]? = some k ∧ v = .str k t) :
    ∀ (k i : Nat) (s : Shared), n - i = k → i ≤ n → St i s → (∃ c, c ≤ i ∧ SetX w s.heap S (fun j => decide (j ∈ ns.take i)) c) →
      (∀ s' c, Moved (S :: wr) G s s' → c ≤ n → SetX w s'.heap S (fun j => decide (j ∈ ns)) c → R (.ok (.ret .none)) s') →
      codeAny (model P w) A (.builtin "set.update.loop" ⟨[.ref S, .ref I], []⟩) R s := by
  have hSw : S ∉ wr := fun h => hSf (W.sub _ h)
  have hsub : ∀ b ∈ wr, b ∈ S :: wr := fun b hb => List.mem_cons_of_mem _ hb
  intro k
  induction k with
  | zero =>
    intro i s hk' hi hst ⟨c, hc, hS⟩ hR
    have hin : i = n := by omega
    subst hin
    refine codeAny_builtin F.entry_set_update_loop ?_
    rw [Around.under_plainId F.plain_set_update_loop _]
    show wpAny _ A.in1 (pyNext (.ref I) >>= _) _ _ s
    refine wpAny_bind (W.done s _ _ hst fun s' hm => ?_)
    show wpAny _ A.in1 (ret Value.none) _ _ s'
    have e : ns.take i = ns := List.take_of_length_le (by omega)
    rw [e] at hS
    exact wpAny_pure (hR s' c (hm.mono hsub) hc (hS.at fun o e => hm.heap S o hSw e))
  | succ k ih =>
    intro i s hk' hi hst ⟨c, hc, hS⟩ hR
    have hlt : i < n := by omega
    refine codeAny_builtin F.entry_set_update_loop ?_
    rw [Around.under_plainId F.plain_set_update_loop _]
    show wpAny _ A.in1 (pyNext (.ref I) >>= _) _ _ s
    refine wpAny_bind (W.item i s _ _ hlt hst fun v s' hP hst' hm => ?_)
    obtain ⟨z, t, hz, rfl⟩ := hval i v hP
    have hS' : SetX w s'.heap S (fun j => decide (j ∈ ns.take i)) c := hS.at fun o e => hm.heap S o hSw e
    show wpAny _ A.in1 (holding [Value.str z t] (setAdd S (.str z t)) >>= _) _ _ s'
    refine wpAny_bind (wpAny_holding ?_)
    unfold setAdd
    refine wpAny_holding ?_
    refine wpAny_bind ((strKind P w).pyHash (k := z) (strKind_is _ _ _ _) ?_)
    refine setX_add (s := { s' with toks := s'.toks + 1 }) hS' (by omega) fun h' hsb hS2 => ?_
    have hS3 : SetX w h' S (fun j => decide (j ∈ ns.take (i + 1))) (if decide (z ∈ ns.take i) = true then c else c + 1) := hS2.congr fun j => by
      rw [List.take_add_one, hz]
      simp [List.mem_append]
    have hc3 : (if decide (z ∈ ns.take i) = true then c else c + 1) ≤ i + 1 := by
      split <;> omega
    refine wpAny_pure ⟨plainId_quiet F.plain_set_update_loop _, ih (i + 1) _ (by omega) hlt (W.frame _ s' _ _ hst' (Nat.le_succ _) fun b hb o e => ?_) ⟨_, hc3, hS3⟩ fun s'' c2 hm'' hc'' hS'' => ?_⟩
    · rw [hsb.2 b (fun h : b = S => hSf (by rw [← h]; exact hb))]; exact e
    · refine hR s'' c2 (Moved.trans W.gtrans ((hm.mono hsub).then_heap (Nat.le_succ _) fun b o hb e => ?_) hm'') hc'' hS''
      rw [hsb.2 b (fun h : b = S => hb (by rw [h]; exact List.mem_cons_self))]; exact e


/-- the signs of a text, each as a text -/
def signsOf (x : Str) : List Str := x.cps.toList.map fun c => ⟨#[c]⟩
set_option maxRecDepth 100000 in
theorem call_set_str {x : Str} {t0 : Tok} {Q : Value → Shared → Prop} (hh : A.handled = none) (hb : x.cps.size + 1 < scanBound)
    (h : ∀ (h' : Heap) (tk c : Nat), SetX w h' s.heap.objs.size (fun j => decide (j ∈ signsOf x)) c → c ≤ x.cps.size → (∀ b o, s.heap.get? b = some o → h'.get? b = some o) → Q (.ref s.heap.objs.size) { s with heap := h', toks := tk }) :
    wpAny (model P w) A (call (.type "set") [.str x t0]) Q E s := by
  have hns : (signsOf x).length = x.cps.size := by unfold signsOf; rw [List.length_map, Array.length_toList]
  obtain ⟨c, tl, hmro⟩ := F.called_set.mro
  have hmade := F.called_set.made
  have hsub := F.called_set.sub
  refine wpAny_call (codeAny_of_tree ?_)
  show wpAny _ _ (callAny (.type "set") _) _ _ _
  refine wpAny_pure ⟨Code.quiet_builtin _ (by decide +kernel), codeAny_builtin F.entry_type_call ?_⟩
  rw [Around.under_plain (weight_type_call_type "set" [.str x t0] []) rfl]
  have h1 := F.called_set.notType
  have h2 := F.called_set.canCreate
  have hct := F.typeCall_set_1 (.str x t0)
  repeat (any_goals (first | assumption | wp_step))

  refine codeAny_mono (code_set_led1 (.str x t0) (E := E) (Q₁ := fun obj s₁ => obj = .ref s.heap.objs.size ∧ s₁ = { s with heap := s.heap.push { cls := .type "set", dict := none, data := .set #[] 0 (.fresh 0 0 (!w.params.followText "set-order")) } }) ⟨rfl, rfl⟩) fun r s₁ hr => ?_
  cases r with
  | error e => exact hr
  | ok fl =>
    cases fl with
    | ret obj =>
      obtain ⟨rfl, rfl⟩ := hr
      have hS : (s.heap.push { cls := .type "set", dict := none, data := .set #[] 0 (.fresh 0 0 (!w.params.followText "set-order")) }).get? s.heap.objs.size = some { cls := .type "set", dict := none, data := .set #[] 0 (.fresh 0 0 (!w.params.followText "set-order")) } := Heap.get?_push_size _ rfl
      have hT : Shared.TypeIs { s with heap := s.heap.push { cls := .type "set", dict := none, data := .set #[] 0 (.fresh 0 0 (!w.params.followText "set-order")) } } (.ref s.heap.objs.size) "set" := ⟨_, hS, rfl⟩
      have hli := F.called_set.init.lookup
      have hbi := F.called_set.init.bind (.ref s.heap.objs.size)
      repeat (any_goals (first | assumption | wp_step))

      refine codeAny_mono (codeAny_call_builtin (R := wants (fun r s₂ => r = .none ∧ ∃ h' tk c, s₂ = { s with heap := h', toks := tk } ∧ SetX w h' s.heap.objs.size (fun j => decide (j ∈ signsOf x)) c ∧ c ≤ x.cps.size ∧
          (∀ b o, s.heap.get? b = some o → h'.get? b = some o)) E) F.called_set.init.plain F.entry_set_init (check_set_init_1 hT ?_)) fun r₂ s₂ hr₂ => ?_
      · have hsls := F.sub_str_set
        have hslf := F.sub_str_frozenset
        have hne : (Value.type "str" == Value.type "dict") = false := by decide
        unfold Builtin.«set.__init__» noKeywords Builtin.Frozenset.updateFrom
        generalize hPI : pyIter = PI
        wp_walk
        subst hPI

        refine wpAny_pyIter_str fun o St W hst => ?_
        refine wpAny_bind (wpAny_runValue ?_)
        have hh3 : A.in1.in1.in1.handled = none := by simp [hh]
        have hSf : s.heap.objs.size ∉ [(s.heap.push { cls := .type "set", dict := none, data := .set #[] 0 (.fresh 0 0 (!w.params.followText "set-order")) }).objs.size] := by
          rw [Heap.size_push]; simp only [List.mem_singleton]
          exact Nat.ne_of_lt (Nat.lt_succ_self _)
        have hval : ∀ (i : Nat) (v : Value), SignAt x i v → ∃ k t, (signsOf x)[i]? = some k ∧ v = .str k t := fun i v hv => by
          obtain ⟨cc, u, hc, rfl⟩ := hv
          refine ⟨_, u, ?_, rfl⟩
          unfold signsOf
          rw [List.getElem?_map, Array.getElem?_toList, hc] <;> rfl
        refine setX_upd ((W _ hh3).toS) s.heap.objs.size
          hSf (signsOf x) hns.symm (by rw [hns]; exact hb) hval (x.cps.size - 0) 0 _ (by omega) (Nat.zero_le _)
          hst ?hS0 ?hR
        case hS0 =>
          have hget : ((s.heap.push { cls := .type "set", dict := none, data := .set #[] 0 (.fresh 0 0 (!w.params.followText "set-order")) }).push o).get? s.heap.objs.size
              = some { cls := .type "set", dict := none, data := .set #[] 0 (.fresh 0 0 (!w.params.followText "set-order")) } := Heap.get?_push_of_some _ hS
          exact ⟨0, Nat.le_refl 0, setX_new hget⟩
        case hR =>
          intro s' c' hm hc' hS'
          obtain ⟨h', g2, d', tk', os'⟩ := s'
          have eg : g2 = s.gens := hm.gens
          have ed : d' = s.drawn := hm.drawn
          have eo : os' = s.os := hm.os
          subst eg; subst ed; subst eo
          show wpAny _ _ _ _ _ _
          refine wpAny_pure ?_
          show wpAny _ _ (ret Value.none) _ _ _
          refine wpAny_pure ⟨rfl, h', tk', c', rfl, hS', hc', fun b o e => ?_⟩
          have hb0 : b < s.heap.objs.size := Heap.lt_size e
          have hb1 : b ≠ s.heap.objs.size := Nat.ne_of_lt hb0
          have hb2 : b ≠ (s.heap.push { cls := .type "set", dict := none, data := .set #[] 0 (.fresh 0 0 (!w.params.followText "set-order")) }).objs.size := by
            rw [Heap.size_push]; exact Nat.ne_of_lt (Nat.lt_succ_of_lt hb0)
          exact hm.heap b o (by simp only [List.mem_cons, List.mem_singleton, List.not_mem_nil, or_false, not_or]; exact ⟨hb1, hb2⟩) (Heap.get?_push_of_some _ (Heap.get?_push_of_some _ e))

      · cases r₂ with
        | error e => exact hr₂
        | ok fl₂ =>
          cases fl₂ with
          | ret r =>
            obtain ⟨rfl, h', tk, c', rfl, hS', hc', hk'⟩ := hr₂
            repeat (any_goals (first | assumption | wp_step))
            exact h _ _ _ hS' hc' hk'
          | _ => exact hr₂.elim
    | _ => exact hr.elim


theorem strsX_of : ∀ (l : List Value), (∀ v ∈ l, ∃ k tk, v = Value.str k tk) → StrsAre l (l.map strOf)
  | [], _ => .nil
  | v :: l, h => by
    obtain ⟨k, tk, rfl⟩ := h v List.mem_cons_self
    exact .cons k tk (strsX_of l fun u hu => h u (List.mem_cons_of_mem _ hu))
theorem sorted_setX {S : Str → Bool} {n : Nat} {Q : Value → Shared → Prop} (R : SetX w s.heap a S n) (hh : A.handled = none) (h64 : n < 64)
    (hQ : ∀ s' p (out : Array Value) (c : Nat) (ns : List Str), (∀ b o, s.heap.get? b = some o → s'.heap.get? b = some o) → s'.gens = s.gens → s'.os = s.os → s.heap.objs.size ≤ p →
      s'.heap.get? p = some (seqObj "list" out c) → StrsAre out.toList ns → (sortedS ns = true ∧ ns.Nodup) → (∀ k, k ∈ ns ↔ S k = true) → ns.length = n → Q (.ref p) s') :
    wpAny (model P w) A (call (.builtin "sorted") [.ref a]) Q E s := by
  obtain ⟨o, es, ep, t, ho, hex, hd, g, nd, hm, hb, hf, hn, hr, hl⟩ := R
  refine Calls.call_function_entry kind_sorted plain_sorted entry_sorted (args_sorted1 _) ?_
  unfold Builtin.«sorted»
  refine wpAny_bind (m := checkCount "sorted" 1 1 _) (wpAny_pure ?_)
  refine wpAny_bind (collect_set (A := A.in1) hh ⟨o, ho, hex.1, hd⟩ hf hb hr hl fun s1 vs k1 hz g1 o1 pm => ?_)
  have hvl : vs.length = n := by rw [pm.length_eq, List.length_map, Array.length_toList]; exact hn
  have hI : StrsAre vs (vs.map strOf) := strsX_of vs fun v hv => by
    obtain ⟨e, he, q⟩ := List.mem_map.mp (pm.mem_iff.mp hv)
    obtain ⟨k, tk, h1, _⟩ := g e he
    exact ⟨k, tk, by rw [← q]; exact h1⟩
  have pk : (vs.map strOf).Perm (es.toList.map keyX) := by
    have q := pm.map strOf
    rw [List.map_map] at q
    exact q
  refine wpAny_bind (wpAny_newList ?_ (by rw [hvl, sizeLine_eq]; omega))
  have hoL : (s1.heap.push (seqObj "list" vs.toArray 0)).get? s1.heap.objs.size = some (seqObj "list" vs.toArray 0) := Heap.get?_push_size _ rfl
  refine wpAny_bind (wpAny_holding (wpAny_call_entry slot_list_sort ⟨_, hoL, rfl⟩ entry_list_sort (list_sort_treeK strKind_oneLt hoL hI.keysOf (fun v₁ v₂ rest e => keyKind_strs (by rw [← e]; exact hI)) (by rw [hvl]; exact h64) fun st' hp hs => ⟨_, rfl, ?_⟩) (args_list_sort _)))
  obtain ⟨ns', a1, a2, a3⟩ := sorted_out_str hI hp hs
  generalize (arrOf st').map (·.2) = out at a1 ⊢
  obtain ⟨c, hc⟩ := sortedHeap_at (vs := vs) (out := out) hoL
  have pn : ns'.Perm (es.toList.map keyX) := a2.trans pk
  refine wpAny_pure ⟨_, rfl, hQ _ s1.heap.objs.size out c ns' (fun b u e => ?_) g1 o1 hz hc a1 ⟨a3, pn.nodup_iff.mpr nd⟩ (fun k => by rw [pn.mem_iff, ← hm k]) ?_⟩
  · have q := k1 b u e
    have hlt := Heap.lt_size q
    show (sortedHeap (s1.heap.push (seqObj "list" vs.toArray 0)) s1.heap.objs.size vs out).get? b = some u
    rw [sortedHeap_old (Nat.ne_of_lt hlt) (by rw [size_push']; exact Nat.lt_succ_of_lt hlt)]
    exact Heap.get?_push_of_some _ q
  · rw [pn.length_eq, List.length_map, Array.length_toList]; exact hn

end
section
variable {X : Cx}
/-- sorted(set(e)), e a text of fewer than 64 different signs -/
def rSetSorted : V → Hp → VK → Prop := fun x H Q => ∃ z : Str, x = .str z ∧ z.cps.size + 1 < scanBound ∧ (∀ ns : List Str, ns.Nodup → (∀ k ∈ ns, k ∈ signsOf z) → ns.length < 64) ∧
  ∀ (ns : List Str) (p : Addr) (H' : Hp), sortedS ns = true → ns.Nodup → (∀ k, k ∈ ns ↔ k ∈ signsOf z) → H p = none → Ext H H' → H' p = some (.lst (ns.map V.str)) → Q (.ref p) H'
theorem pe_setSorted {e : Expr} {te : TE} {p1 p2 pos1 pos2 : Pos} (hc : X.calm = true) (hg1 : Gl X "sorted") (hm1 : X.mg "sorted" = none) (hg2 : Gl X "set") (hm2 : X.mg "set" = none) (he : PE X e te) (hst : notStar e = true) :
    PE X (.Call (.Name "sorted" p1) [.Call (.Name "set" p2) [e] [] pos1] [] pos2) (fun σ H Q => te σ H fun x H1 => rSetSorted x H1 Q) := by
  refine ⟨fun pins s σ H Q I h => ?_⟩
  have e1 : starEach [.Call (.Name "set" p2) [e] [] pos1] X.env = (false, eval (.Call (.Name "set" p2) [e] [] pos1) X.env) :: starEach [] X.env := by rfl
  refine wpAny_Call_Name_kw (ld_blt I hg1 hm1 (u := .builtin "sorted") (by decide +kernel) ?_)
  refine PyProof.Rows.callWith_builtin1 ?_ e1 (by rfl)
  rw [e1]
  show wpAny _ _ (spliced ((false, eval (.Call (.Name "set" p2) [e] [] pos1) X.env) :: backTo pos2 (starEach [] X.env))) _ _ s
  refine Calls.spliced_cons ?_
  refine wpAny_Call_Name_kw (ld_blt I hg2 hm2 (u := .type "set") (by decide +kernel) ?_)
  refine PyProof.Rows.callWith_type1 ?_ (star_cons hst) (by rfl)
  rw [star_one hst]
  show wpAny _ _ (spliced ((false, eval e X.env) :: backTo pos1 [])) _ _ s
  refine Calls.spliced_cons (thn (he.run pins s σ H _ I h) fun u s1 ⟨x, H1, I1, r1, q⟩ => ?_)
  refine Calls.spliced_nil ?_
  obtain ⟨z, rfl, hz, hfew, q⟩ := q
  obtain ⟨t0, rfl⟩ := r1
  refine call_set_str (I1.ok.hd hc) hz fun h' tk c R hcz kp => ?_
  refine Calls.spliced_nil ?_
  have I2 : Inv X pins σ H1 { s1 with heap := h', toks := tk } := I1.kept kp
  have hn64 : c < 64 := by
    obtain ⟨o, es, ep, t, ho, hx, hd, g, nd, hm, hb, hf, hn, hr, hl⟩ := id R
    have := hfew (es.toList.map keyX) nd fun k hk => by simpa using (hm k).mpr hk
    rw [List.length_map, Array.length_toList] at this
    omega
  refine sorted_setX (s := { s1 with heap := h', toks := tk }) R (I2.ok.hd hc) hn64 fun s' p out c2 ns k g o hp hg hi hs hm hl => ?_
  have hlen : (ns.map V.str).length ≤ sizeLine := by rw [List.length_map, hl, sizeLine_eq]; omega
  have hn : H1 p = none := I2.hok.fresh hp
  have J : Inv X pins σ (upd H1 p (.lst (ns.map V.str))) { ({ s1 with heap := h', toks := tk } : Shared) with heap := s'.heap, gens := s'.gens, drawn := s'.drawn, toks := s'.toks } :=
    I2.call (ch := []) (Un.laid k hp hn) (I2.hok.laid k hp ⟨hlen, out.toList, c2, vals_of_strs hi, hg⟩) (by rw [g]; exact I2.bare) (fun _ z => nomatch z)
  have es' : s' = { s1 with heap := s'.heap, gens := s'.gens, drawn := s'.drawn, toks := s'.toks } := by
    cases s'
    cases s1
    cases o
    rfl
  rw [es']
  exact ⟨.ref p, _, J, rfl, q ns p _ hs.1 hs.2 (fun j => (hm j).trans (by simp)) hn (Ext.new hn) upd_same⟩
end
end Kn

/-! KnO: operators of one's own: enumerate, reversed, all(..), sorted(set(..)). -/
namespace Kn
open PySem PySem.Spec PyProof.Rows L2

/-! ### enumerate -/
/-- the signs of a text, each in a new pair with its place -/
def Ites (z : Str) : It :=
  ⟨fun i _ => i < z.cps.size, fun i H v H' => ∃ T c, v = .ref T ∧ H T = none ∧ H' = upd H T (.tup [.int (i : Nat), .str ⟨#[c]⟩]) ∧ z.cps[i]? = some c, fun i _ => i = z.cps.size⟩
theorem Draws.str {P : Program} {w : World} {A : Around} (hh : A.handled = none) (it : Addr) (x : Str) (t : Tok) : ∃ fp, it ∈ fp ∧ (∀ b ∈ fp, b = it) ∧ Draws P w A it fp x.cps.size (SignAt x) (fun i h => h.IsStrIter it (strIterType x) x t i) := by
  unfold strIterType
  cases ha : x.cps.all (· < 128) with
  | true => exact ⟨_, List.mem_singleton.mpr rfl, fun b hb => List.mem_singleton.mp hb, by first | (simp only [ha, if_true]; exact Draws.strAscii hh it x t) | exact Draws.strAscii hh it x t⟩
  | false => exact ⟨_, List.mem_singleton.mpr rfl, fun b hb => List.mem_singleton.mp hb, by first | (simp only [ha, if_false, Bool.false_eq_true]; exact Draws.strWide hh it x t) | exact Draws.strWide hh it x t⟩
theorem turn_enumS {P : Program} {w : World} {K : PySem.W.Frag} {elts : List Expr} {kk : Nat} {tpos : Pos} (z : Str) (t : Tok) (e it : Addr) :
    Turn P w K (.Tuple elts kk tpos) (Ites z) [e, it] e (fun i h => (∃ old, IsEnum h e it ((i : Nat) : Int) old) ∧ h.IsStrIter it (strIterType z) z t i ∧ e ≠ it) where
  mem := by simp
  obj := fun i h st b hb => by
    obtain ⟨⟨old, he⟩, ⟨o, ho, hc, hd⟩, _⟩ := st
    have e' : b = e ∨ b = it := by simpa using hb
    rcases e' with q | q
    · rw [q]; exact ⟨_, he, fun v q => nomatch q⟩
    · rw [q]; exact ⟨o, ho, fun v q => by rw [hd] at q; cases q⟩
  keep := fun i h h' st k => let ⟨⟨old, he⟩, hi, hne⟩ := st; ⟨⟨old, k e (by simp) _ he⟩, (let ⟨o, ho, r⟩ := hi; ⟨o, k it (by simp) o ho, r⟩), hne⟩
  item := by
    intro X hP hw hK hc i pins s σ H E I hf st hg
    subst hP hw hK
    obtain ⟨⟨old, he⟩, hit, hne⟩ := st
    have hg' : i < z.cps.size := hg
    have hel : e < s.heap.objs.size := Heap.lt_size he
    have hil : it < s.heap.objs.size := by obtain ⟨_, q, _⟩ := hit; exact Heap.lt_size q
    obtain ⟨fp, f1, f2, D⟩ := Draws.str (P := X.prog) (w := X.w) (A := X.A.in1) (I.ok.hd hc) it z t
    refine wpAny_pyNext_enum_itemD D he hit hg' hne (fun q => hne (f2 e q)) fun x h' tk hPx ho hit' hT hsz hk => ?_
    obtain ⟨c, u, hc', rfl⟩ := hPx
    refine ⟨_, rfl, wpAny_letOwnedTupleGo_enum (s := { s with heap := h', toks := tk + 1 }) ho fun h'' he' sb => ?_⟩
    have hT2 : h''.get? s.heap.objs.size = some { cls := .type "tuple", data := .seq #[.int i tk, .str ⟨#[c]⟩ u] } := (sb.2 _ (Nat.ne_of_gt hel)).trans hT
    have new : ObjOk X.prog X.w (upd H s.heap.objs.size (.tup [.int (i : Nat), .str ⟨#[c]⟩])) h'' s.heap.objs.size (.tup [.int (i : Nat), .str ⟨#[c]⟩]) :=
      ⟨by show 2 ≤ sizeLine; decide, [.int i tk, .str ⟨#[c]⟩ u], .cons ⟨_, rfl⟩ (.cons ⟨_, rfl⟩ .nil), ⟨_, hT2, rfl, _, rfl⟩⟩
    have I1 : Inv X pins σ (upd H s.heap.objs.size (.tup [.int (i : Nat), .str ⟨#[c]⟩])) { s with heap := h'', toks := tk + 1 } :=
      I.turnedNew (ch := [e, it]) (fun b ob hb q => (sb.2 b (fun q => hb (by simp [q]))).trans (hk b ob (fun q => hb (by simp [q])) (fun q => hb (by simp [q])) q)) hf (Nat.le_refl _) new
    refine ⟨.ref s.heap.objs.size, _, I1, rfl, ⟨_, c, rfl, I.hok.fresh (Nat.le_refl _), rfl, hc'⟩, ⟨⟨.str ⟨#[c]⟩ u, ?_⟩, (let ⟨o, q, r⟩ := hit'; ⟨o, (sb.2 it (Ne.symm hne)).trans q, r⟩), hne⟩, fun b hb => ?_⟩
    · have e1 : ((i + 1 : Nat) : Int) = (i : Int) + 1 := by omega
      rw [e1]; exact he'
    · have hb' : b < s.heap.objs.size := by
        have e' : b = e ∨ b = it := by simpa using hb
        rcases e' with q | q
        · rw [q]; exact hel
        · rw [q]; exact hil
      rw [upd_ne (Nat.ne_of_lt hb')]
      exact (hf b hb).1
  done := by
    intro X hP hw hK hc i pins s σ H E I hf st hg
    subst hP hw hK
    obtain ⟨⟨old, he⟩, hit, hne⟩ := st
    have hg' : i = z.cps.size := hg
    subst hg'
    obtain ⟨f0, f1, f2, f3, f4, f5⟩ := hf it (by simp)
    obtain ⟨fp, k1, k2, D⟩ := Draws.str (P := X.prog) (w := X.w) (A := X.A.in1) (I.ok.hd hc) it z t
    exact wpAny_pyNext_enum_endD D he hit fun h' eb => ⟨rfl, I.turned (t' := s.toks) (fun b o hb q => eb b o hb q) f0 f1 f3 f4 f5⟩
  self := fun A i s Q E st h => let ⟨⟨_, he⟩, _⟩ := st; wpAny_pyIter_enum he h
/-- enumerate(a list), enumerate(a text) -/
def iEnumX (K : PySem.W.Frag) (te : TE) : TI := fun σ H R => te σ H fun x H1 => (∃ a xs, x = .ref a ∧ SqL K H1 a xs ∧ R (Ite K a) H1) ∨ ∃ z, x = .str z ∧ R (Ites z) H1
theorem pi_enumX {X : Cx} {e : Expr} {te : TE} {p pos tpos : Pos} {elts : List Expr} {kk : Nat} (hg : Gl X "enumerate") (hm : X.mg "enumerate" = none) (he : PE X e te) (hst : notStar e = true) :
    PI X (.Tuple elts kk tpos) (.Call (.Name "enumerate" p) [e] [] pos) (iEnumX X.K te) := by
  refine ⟨fun pins s σ H R I h => ?_⟩
  have hs : starEach [e] X.env = [(false, eval e X.env)] := star_one hst
  refine Call_ (ld_blt I hg hm boot_enumerate (PyProof.Rows.callWith_type1 (thn ((pa_cons he pa_nil (star_cons hst)).run pos pins s σ H (fun vs H1 => ∃ x, vs = [x] ∧ ((∃ a xs, x = .ref a ∧ SqL X.K H1 a xs ∧ R (Ite X.K a) H1) ∨ ∃ z, x = .str z ∧ R (Ites z) H1)) I ?_) fun us s1 ⟨vs, H1, I1, r1, x, ex, q1⟩ => ?_) hs rfl))
  · have same : (fun (x : V) (H1 : Hp) => (∃ a xs, x = .ref a ∧ SqL X.K H1 a xs ∧ R (Ite X.K a) H1) ∨ ∃ z, x = .str z ∧ R (Ites z) H1) = fun (x : V) (H1 : Hp) => ∃ x', [x] = [x'] ∧ ((∃ a xs, x' = .ref a ∧ SqL X.K H1 a xs ∧ R (Ite X.K a) H1) ∨ ∃ z, x' = .str z ∧ R (Ites z) H1) :=
      funext fun x => funext fun H2 => propext ⟨fun z => ⟨x, rfl, z⟩, fun ⟨_, e, z⟩ => by cases e; exact z⟩
    show te σ H _
    unfold iEnumX at h
    rw [same] at h
    exact h
  subst ex
  obtain ⟨u, rfl, r⟩ := vals1 r1
  have fp_ : ∀ {h' : Heap} {I2 : Inv X pins σ H1 { s1 with heap := h' }}, ∀ b ∈ [s1.heap.objs.size + 1, s1.heap.objs.size], FpOk X pins H1 b := fun {h'} {I2} b hb => by
    have e' : b = s1.heap.objs.size + 1 ∨ b = s1.heap.objs.size := by simpa using hb
    have hle : s1.heap.objs.size ≤ b := by
      rcases e' with z | z
      · rw [z]; exact Nat.le_add_right _ _
      · rw [z]; exact Nat.le_refl _
    exact I1.fpOk hle (I1.hok.fresh hle)
  rcases q1 with ⟨a, xs, rfl, hq, q⟩ | ⟨z, rfl, q⟩
  · cases r
    obtain ⟨its, rv, p', hz⟩ := I1.list hq
    refine call_enumerate_list p'.isList fun h' he hit hsz hk => wpAny_pyIter_enum he ?_
    have I2 : Inv X pins σ H1 { s1 with heap := h' } := I1.kept (t' := s1.toks) hk
    exact ⟨s1.heap.objs.size + 1, [s1.heap.objs.size + 1, s1.heap.objs.size], _, _, H1, rfl, I2, turn_enum a (s1.heap.objs.size + 1) s1.heap.objs.size, ⟨⟨.none, he⟩, hit, Nat.succ_ne_self _⟩, fp_ (I2 := I2), q⟩
  · obtain ⟨t, rfl⟩ := r
    refine call_enumerate_str fun h' he hit hsz hk => wpAny_pyIter_enum he ?_
    have I2 : Inv X pins σ H1 { s1 with heap := h' } := I1.kept (t' := s1.toks) hk
    exact ⟨s1.heap.objs.size + 1, [s1.heap.objs.size + 1, s1.heap.objs.size], _, _, H1, rfl, I2, turn_enumS z t (s1.heap.objs.size + 1) s1.heap.objs.size, ⟨⟨.none, he⟩, hit, Nat.succ_ne_self _⟩, fp_ (I2 := I2), q⟩
def xEnum (G : Gm) : XSrc where
  ck := fun c t e => match e with
    | .Call f [x] [] _ => if (isTupT t && isGl c f "enumerate" && notStar x) = true then some [x] else none
    | _ => none
  rd := fun ts _ σ H R => match ts with
    | [te] => iEnumX G.K te σ H R
    | _ => False
theorem xEnum_ok {G : Gm} {n : Nat} (hm : G.mg "enumerate" = none) : XSrcOk G n (xEnum G) := by
  intro c X W tg x xs ts R hc hp
  obtain rfl := R.g
  unfold xEnum at hc ⊢
  simp only at hc ⊢
  split at hc
  · rename_i f y pos
    split at hc
    · rename_i hh
      cases hc
      simp only [Bool.and_eq_true] at hh
      obtain ⟨⟨h0, h1⟩, h2⟩ := hh
      obtain ⟨p, rfl, g2, g3⟩ := isGl_ok h1
      cases hp with
      | cons he hs hr =>
        cases hr
        cases tg with
        | Tuple es k tp => exact ⟨pi_enumX (R.gl g2) hm he h2, fun v => rfl⟩
        | _ => cases h0
    · cases hc
  · cases hc
theorem r_xEnum {G : Gm} {te : TE} {W : WX} : (xEnum G).rd [te] W = fun σ H R => te σ H fun x H1 => (∃ a xs, x = .ref a ∧ SqL G.K H1 a xs ∧ R (Ite G.K a) H1) ∨ ∃ z, x = .str z ∧ R (Ites z) H1 := rfl

/-! ### sorted(set(text)) -/
def xSetSorted : XOp where
  ck := fun c e => match e with
    | .Call f [.Call g [x] [] _] [] _ => if (isGl c f "sorted" && isGl c g "set" && notStar x) = true then some [x] else none
    | _ => none
  rd := fun ts _ σ H Q => match ts with
    | [te] => te σ H fun x H1 => rSetSorted x H1 Q
    | _ => False
theorem xSetSorted_ok {G : Gm} {n : Nat} (hm1 : G.mg "sorted" = none) (hm2 : G.mg "set" = none) : XOk G n xSetSorted := by
  intro c X W x xs ts R hc hp
  obtain rfl := R.g
  unfold xSetSorted at hc ⊢
  simp only at hc ⊢
  split at hc
  · rename_i f g y pos1 pos2
    split at hc
    · rename_i hh
      cases hc
      simp only [Bool.and_eq_true] at hh
      obtain ⟨⟨h0, h1⟩, h2⟩ := hh
      obtain ⟨p, rfl, g2, g3⟩ := isGl_ok h0
      obtain ⟨p', rfl, g2', g3'⟩ := isGl_ok h1
      cases hp with
      | cons he hs hr =>
        cases hr
        exact pe_setSorted R.calm (R.gl g2) hm1 (R.gl g2') hm2 he h2
    · cases hc
  · cases hc
theorem r_xSetSorted {te : TE} {W : WX} : xSetSorted.rd [te] W = fun σ H Q => te σ H fun x H1 => rSetSorted x H1 Q := rfl

/-! ### all(sign in D for sign in text), D a text of the module -/
def genE : Expr → Bool
  | .List _ _ => false
  | .ListComp _ _ _ _ => false
  | e => plainE e
theorem genE_plain {e : Expr} (h : genE e = true) : plainE e = true := by
  cases e <;> first | exact h | (exact absurd h Bool.false_ne_true)
theorem gen_plain {e : Expr} {env : Env} (h : genE e = true) : ∀ v, genFold e env v = pure v := fun v => by
  have h1 := plain_fold (env := env) (genE_plain h) v
  unfold genFold
  cases e <;> first | exact h1 | (exact absurd h Bool.false_ne_true)
/-- the code object's table -/
def tabA (G : Gm) (p : Str × Option Str) : Addr := He.tabOf G.K (He.codeOf G.K p)
def xAllIn (G : Gm) (p : Str × Option Str) (D z : Str) : XOp where
  ck := fun c e => match e with
    | .Call f [.GeneratorExp (.Compare (.Name x _) [.In] [.Name d _] _) [⟨.Name y _, it, [], 0⟩] scope gpos] [] _ =>
      if (isGl c f "all" && decide (c.q = some p) && decide (y = x) && decide (d = D) && genSB c.sc scope x && decide (scope.names.lookup D = some .globalImplicit) && okNm x && okNm D && !lamPos gpos.line && genE it) = true then some [it] else none
    | _ => none
  rd := fun ts _ => match ts with
    | [te] => tAllG (tabA G p) (fun _ v _ b => ∃ a : Str, v = .str a ∧ b = a.cps.toList.all fun c => decide (c ∈ z.cps.toList)) te
    | _ => fun _ _ _ => False
theorem all_at (l : List Nat) (f : Nat → Bool) : ((List.range l.length).all fun i => (l[i]?.map f).getD true) = l.all f := by
  rw [Bool.eq_iff_iff, List.all_eq_true, List.all_eq_true]
  constructor
  · intro h b hb
    obtain ⟨j, hj, e⟩ := List.getElem_of_mem hb
    have q := h j (List.mem_range.mpr hj)
    rw [List.getElem?_eq_getElem hj, e] at q
    exact q
  · intro h j hj
    have hj' := List.mem_range.mp hj
    rw [List.getElem?_eq_getElem hj']
    exact h _ (List.getElem_mem hj')
theorem xAllIn_ok {G : Gm} {n : Nat} {p : Str × Option Str} {D z : Str} (hm : G.mg "all" = none) (hD : ∃ t, G.mg D = some (.str z t)) (TB : GxR.TabB G.base G.mg (He.codeOf G.K p) (tabA G p)) : XOk G n (xAllIn G p D z) := by
  intro c X W e xs ts R hc hp
  obtain rfl := R.g
  unfold xAllIn at hc ⊢
  simp only at hc ⊢
  split at hc
  · rename_i f x px d pd pc y py it scope gpos pos
    split at hc
    · rename_i hh
      cases hc
      simp only [Bool.and_eq_true, Bool.not_eq_true', decide_eq_true_eq] at hh
      obtain ⟨⟨⟨⟨⟨⟨⟨⟨⟨h0, h1⟩, h2⟩, h3⟩, h4⟩, h5⟩, h6⟩, h7⟩, h8⟩, h9⟩ := hh
      subst h2 h3
      obtain ⟨q, rfl, g2, g3⟩ := isGl_ok h0
      cases hp with
      | cons he hs hr =>
        cases hr
        have hcode := R.cd p h1
        rw [← R.sc] at h4
        refine ⟨fun pins s σ H Q I hw => ?_⟩
        have S := genS_by I.ok h4
        refine (pe_allG R.room (R.gl g2) hm TB hcode S he h8 (gen_plain h9) (fun pins σ s1 v u H1 b I1 rv hT ans => ?_)).run pins s σ H Q I hw
        obtain ⟨a, rfl, rfl⟩ := ans
        refine ⟨a.cps.size, SignAt a, fun i => (a.cps.toList[i]?.map fun c => decide (c ∈ z.cps.toList)).getD true, git_str rv, ?_, ?_⟩
        · intro A' E' i v s₂ m₂ lc code bi hA hD2 hU hPv hn hm2 hk
          obtain ⟨cc, t, hcc, rfl⟩ := hPv
          obtain ⟨tz, hz⟩ := hD
          refine wpAny_Compare1 ?_
          refine wpAny_Name (wpAny_loadName_local (env := gEnv X scope lc code bi) S.kind S.loc hn hm2 ?_) (okNm_1 h6)
          have hglob : s₂.heap.Ns (gEnv X scope lc code bi).globals X.mg := by
            have e1 : (gEnv X scope lc code bi).globals = mainGlobals := I1.ok.glob
            rw [e1]
            obtain ⟨o, es, ep, ho, hd, r⟩ := I1.mod.glob.keeps I1.bk
            exact ⟨o, es, ep, hk _ _ TB.gP ho, hd, r⟩
          refine Calls.Name_function_global (env := gEnv X scope lc code bi) S.kind h5 (Calls.loadGlobal_global hglob hz ?_) (okNm_1 h7)
          refine PyProof.Rows.in_str ⟨?_, GxR.keeps_tok _ _⟩
          have e2 : a.cps.toList[i]? = some cc := by rw [Array.getElem?_toList]; exact hcc
          rw [PySem.StrLaws.found_one z cc]
          simp only [e2, Option.map_some, Option.getD_some]
        · have e3 : a.cps.size = a.cps.toList.length := by simp
          rw [e3]
          exact all_at _ _
    · cases hc
  · cases hc
theorem r_xAllIn {G : Gm} {p : Str × Option Str} {D z : Str} {te : TE} {W : WX} : (xAllIn G p D z).rd [te] W = fun σ H Q => te σ H fun v H1 => ∃ b, (∃ a : Str, v = .str a ∧ b = a.cps.toList.all fun c => decide (c ∈ z.cps.toList)) ∧ GxR.TabG H1 (tabA G p) ∧ ∀ H2, Ext H1 H2 → Q (.bl b) H2 := rfl

/-! ### {} and {k: v} -/
def xDict0 : XOp where
  ck := fun _ e => match e with
    | .Dict [] [] _ => some []
    | _ => none
  rd := fun _ _ _ H Q => New H (.dK []) fun p H1 => Q (.ref p) H1
theorem xDict0_ok {G : Gm} {n : Nat} : XOk G n xDict0 := by
  intro c X W x xs ts R hc hp
  unfold xDict0 at hc ⊢
  simp only at hc ⊢
  split at hc
  · exact pe_dnewK
  · cases hc
theorem r_xDict0 {ts : List TE} {W : WX} : xDict0.rd ts W = fun _ H Q => New H (.dK []) fun p H1 => Q (.ref p) H1 := rfl
def xDict1 : XOp where
  ck := fun _ e => match e with
    | .Dict [some k] [v] _ => if (notStar k && notStar v) = true then some [k, v] else none
    | _ => none
  rd := fun ts _ => match ts with
    | [tk, tv] => tDisp [(tk, tv)]
    | _ => fun _ _ _ => False
theorem xDict1_ok {G : Gm} {n : Nat} : XOk G n xDict1 := by
  intro c X W x xs ts R hc hp
  unfold xDict1 at hc ⊢
  simp only at hc ⊢
  split at hc
  · split at hc
    · cases hc
      cases hp with
      | cons hk _ hr =>
        cases hr with
        | cons hv _ hr =>
          cases hr
          exact pe_disp (pps_cons hk hv pps_nil) (by rfl) (by rfl) (fun z => by cases z) (by show 1 ≤ 15; decide)
    · cases hc
  · cases hc
theorem r_xDict1 {tk tv : TE} {W : WX} : xDict1.rd [tk, tv] W = fun σ H Q => New H (.dK []) fun p H0 => tk σ H0 fun x H1 => tv σ H1 fun y H2 => H2 p = some (.dK []) ∧ ∃ kvs : List (Key × V), [(x, y)] = kvs.map (fun kv => (kV kv.1, kv.2)) ∧ kvs.length ≤ 15 ∧ Q (.ref p) (upd H2 p (.dK (mergeK [] kvs))) := rfl
theorem disp1 {H2 : Hp} {p : Addr} {k : Key} {y : V} {Q : VK} (h : H2 p = some (.dK [])) (q : ∀ H3, ExtB p H2 H3 → H3 p = some (.dK [(k, y)]) → Q (.ref p) H3) : H2 p = some (.dK []) ∧ ∃ kvs : List (Key × V), [(kV k, y)] = kvs.map (fun kv => (kV kv.1, kv.2)) ∧ kvs.length ≤ 15 ∧ Q (.ref p) (upd H2 p (.dK (mergeK [] kvs))) :=
  ⟨h, [(k, y)], rfl, Nat.le_of_ble_eq_true rfl, ch (R := fun H3 => Q (.ref p) H3) h rfl q⟩

/-! ### list(range(..)) -/
def xListRng : XOp where
  ck := fun c e => match e with
    | .Call f [.Call g [x] [] _] [] _ => if (isGl c f "list" && isGl c g "range" && notStar x) = true then some [x] else none
    | .Call f [.Call g [x, y] [] _] [] _ => if (isGl c f "list" && isGl c g "range" && notStar x && notStar y) = true then some [x, y] else none
    | _ => none
  rd := fun ts _ => match ts with
    | [ta] => tLstRg (tRg1 ta)
    | [ta, tb] => tLstRg (tRg2 ta tb)
    | _ => fun _ _ _ => False
theorem xListRng_ok {G : Gm} {n : Nat} (hm1 : G.mg "list" = none) (hm2 : G.mg "range" = none) : XOk G n xListRng := by
  intro c X W x xs ts R hc hp
  obtain rfl := R.g
  unfold xListRng at hc ⊢
  simp only at hc ⊢
  split at hc
  · rename_i f g y pos1 pos2
    split at hc
    · rename_i hh
      cases hc
      simp only [Bool.and_eq_true] at hh
      obtain ⟨⟨h0, h1⟩, h2⟩ := hh
      obtain ⟨p, rfl, g2, g3⟩ := isGl_ok h0
      obtain ⟨p', rfl, g2', g3'⟩ := isGl_ok h1
      cases hp with
      | cons he hs hr =>
        cases hr
        exact pe_listRg R.calm (R.gl g2) hm1 (prg_1 (R.gl g2') hm2 he (star_cons h2))
    · cases hc
  · rename_i f g y z pos1 pos2
    split at hc
    · rename_i hh
      cases hc
      simp only [Bool.and_eq_true] at hh
      obtain ⟨⟨⟨h0, h1⟩, h2⟩, h3⟩ := hh
      obtain ⟨p, rfl, g2, g3⟩ := isGl_ok h0
      obtain ⟨p', rfl, g2', g3'⟩ := isGl_ok h1
      cases hp with
      | cons he hs hr =>
        cases hr with
        | cons he2 hs2 hr =>
          cases hr
          exact pe_listRg R.calm (R.gl g2) hm1 (prg_2 (R.gl g2') hm2 he he2 (na := star_cons h2) (nb := star_cons h3) (hp := pa_star fun z hz => by rw [List.mem_singleton.mp hz]; exact h3))
    · cases hc
  · cases hc
theorem r_xListRng1 {ta : TE} {W : WX} : xListRng.rd [ta] W = fun σ H Q => ta σ H fun x H1 => ∃ n, x = .int n ∧ RgOk 0 n ∧ New H1 (.lst (rgV 0 n)) fun q H2 => Q (.ref q) H2 := rfl
theorem r_xListRng2 {ta tb : TE} {W : WX} : xListRng.rd [ta, tb] W = fun σ H Q => ta σ H fun x H1 => tb σ H1 fun y H2 => ∃ i j, x = .int i ∧ y = .int j ∧ RgOk i j ∧ New H2 (.lst (rgV i j)) fun q H3 => Q (.ref q) H3 := rfl

/-! ### loops over zip and enumerate -/
section
variable {G : Gm} {W : WX} {t : Tg} {b : Ss} {D : Ends} {σ : L2.St} {H : Hp}
/-- for .. in zip(a, b) -/
theorem fjZ {p q : Addr} {xs ys : List V} (Pv : Nat → L2.St → Hp → Prop) (h0 : Pv 0 σ H) (hl : ∀ i σ H, Pv i σ H → SqL G.K H p xs ∧ SqL G.K H q ys)
    (hs : ∀ i x y T σ H H1, xs[i]? = some x → ys[i]? = some y → Pv i σ H → H T = none → Ext H H1 → H1 T = some (.tup [x, y]) → rdTg G t W (.ref T) σ H1 fun σ2 H2 => rdSs G b W { D with nx := Pv (i + 1), ct := Pv (i + 1), bk := D.nx } σ2 H2)
    (hd : ∀ σ H, Pv (min xs.length ys.length) σ H → D.nx σ H) : ForJ G t b W D (Itz G.K p q) σ H := by
  refine ⟨fun i m σ H => i ≤ min xs.length ys.length ∧ m = min xs.length ys.length - i ∧ Pv i σ H, ⟨_, Nat.zero_le _, rfl, h0⟩, fun i m σ H ⟨hi, hm, hp⟩ => ?_⟩
  obtain ⟨hx, hy⟩ := hl i σ H hp
  by_cases hlt : i < min xs.length ys.length
  · have h1 : i < xs.length := by omega
    have h2 : i < ys.length := by omega
    refine .inr ⟨⟨xs, ys, xs[i], ys[i], hx, hy, List.getElem?_eq_getElem h1, List.getElem?_eq_getElem h2⟩, Pv (i + 1), fun σ' H' hp' => ⟨min xs.length ys.length - (i + 1), by omega, hlt, rfl, hp'⟩, fun x H' hyl => ?_⟩
    obtain ⟨T, x0, y0, rfl, hT, rfl, ex, ey⟩ := hyl
    exact hs i x0 y0 T σ H _ (ex _ hx) (ey _ hy) hp hT (Ext.new hT) upd_same
  · have e : i = min xs.length ys.length := by omega
    subst e
    exact .inl ⟨⟨xs, ys, hx, hy, by omega⟩, hd _ _ hp⟩
/-- for .. in enumerate(a) -/
theorem fjE {p : Addr} {xs : List V} (Pv : Nat → L2.St → Hp → Prop) (h0 : Pv 0 σ H) (hl : ∀ i σ H, Pv i σ H → SqL G.K H p xs)
    (hs : ∀ i x T σ H H1, xs[i]? = some x → Pv i σ H → H T = none → Ext H H1 → H1 T = some (.tup [.int (i : Nat), x]) → rdTg G t W (.ref T) σ H1 fun σ2 H2 => rdSs G b W { D with nx := Pv (i + 1), ct := Pv (i + 1), bk := D.nx } σ2 H2)
    (hd : ∀ σ H, Pv xs.length σ H → D.nx σ H) : ForJ G t b W D (Ite G.K p) σ H := by
  refine ⟨fun i m σ H => i ≤ xs.length ∧ m = xs.length - i ∧ Pv i σ H, ⟨_, Nat.zero_le _, rfl, h0⟩, fun i m σ H ⟨hi, hm, hp⟩ => ?_⟩
  have hx := hl i σ H hp
  by_cases hlt : i < xs.length
  · refine .inr ⟨⟨xs, xs[i], hx, List.getElem?_eq_getElem hlt⟩, Pv (i + 1), fun σ' H' hp' => ⟨xs.length - (i + 1), by omega, hlt, rfl, hp'⟩, fun x H' hyl => ?_⟩
    obtain ⟨T, x0, rfl, hT, rfl, ex⟩ := hyl
    exact hs i x0 T σ H _ (ex _ hx) hp hT (Ext.new hT) upd_same
  · have e : i = xs.length := by omega
    subst e
    exact .inl ⟨⟨xs, hx, Nat.le_refl _⟩, hd _ _ hp⟩
/-- for .. in a text -/
theorem fjS {z : Str} (Pv : Nat → L2.St → Hp → Prop) (h0 : Pv 0 σ H)
    (hs : ∀ i c σ H, z.cps.toList[i]? = some c → Pv i σ H → rdTg G t W (.str ⟨#[c]⟩) σ H fun σ2 H2 => rdSs G b W { D with nx := Pv (i + 1), ct := Pv (i + 1), bk := D.nx } σ2 H2)
    (hd : ∀ σ H, Pv z.cps.size σ H → D.nx σ H) : ForJ G t b W D (Its z) σ H := by
  refine ⟨fun i m σ H => i ≤ z.cps.size ∧ m = z.cps.size - i ∧ Pv i σ H, ⟨_, Nat.zero_le _, rfl, h0⟩, fun i m σ H ⟨hi, hm, hp⟩ => ?_⟩
  by_cases hlt : i < z.cps.size
  · refine .inr ⟨hlt, Pv (i + 1), fun σ' H' hp' => ⟨z.cps.size - (i + 1), by omega, hlt, rfl, hp'⟩, fun x H' hyl => ?_⟩
    obtain ⟨rfl, c, hc, rfl⟩ := hyl
    exact hs i c σ _ (by rw [Array.getElem?_toList]; exact hc) hp
  · have e : i = z.cps.size := by omega
    subst e
    exact .inl ⟨by first | exact Nat.le_refl _ | rfl, hd _ _ hp⟩
end
section
variable {G : Gm} {W : WX} {elt : E} {t : Tg} {cond : Ts} {vs : List Nat} {σ : L2.St} {H : Hp} {Q : VK}
/-- [.. for i, c in enumerate(text)] -/
theorem lcEs {z : Str} (P : Nat → List V → Hp → Prop) (h0 : ∀ D H2, H D = none → Ext H H2 → P 0 [] H2)
    (hs : ∀ D i c acc T H2 H3, H D = none → z.cps.toList[i]? = some c → H3 D = some (.lst acc) → P i acc H2 → Ext H2 H3 → H3 T = some (.tup [.int (i : Nat), .str ⟨#[c]⟩]) → LcS G elt t cond vs σ D acc (.ref T) H3 (P (i + 1)))
    (hd : ∀ D acc H2, H D = none → H2 D = some (.lst acc) → P z.cps.size acc H2 → Q (.ref D) H2) : LcJ G elt t cond vs W Q (Ites z) σ H := by
  intro D hD
  refine ⟨fun i m H2 => i ≤ z.cps.size ∧ m = z.cps.size - i ∧ ∃ acc, H2 D = some (.lst acc) ∧ P i acc H2, ⟨_, Nat.zero_le _, rfl, [], upd_same, h0 D _ hD (Ext.new hD)⟩, fun i m H2 ⟨hi, hm, acc, hacc, hp⟩ => ?_⟩
  by_cases hlt : i < z.cps.size
  · refine .inr ⟨hlt, fun H' => ∃ acc, H' D = some (.lst acc) ∧ P (i + 1) acc H', fun H' hp' => ⟨z.cps.size - (i + 1), by omega, hlt, rfl, hp'⟩, fun x H' hyl => ?_⟩
    obtain ⟨T, c, rfl, hT, rfl, hc⟩ := hyl
    have e := Ext.new (o := .tup [.int (i : Nat), .str ⟨#[c]⟩]) hT
    exact hs D i c acc T H2 _ hD (by rw [Array.getElem?_toList]; exact hc) (e.lst id hacc) hp e upd_same
  · have e : i = z.cps.size := by omega
    subst e
    exact .inl ⟨rfl, hd D acc H2 hD hacc hp⟩
/-- [.. for i, x in enumerate(list)] -/
theorem lcEl {p : Addr} {xs : List V} (P : Nat → List V → Hp → Prop) (h0 : ∀ D H2, H D = none → Ext H H2 → P 0 [] H2) (hl : ∀ i acc H2, P i acc H2 → SqL G.K H2 p xs)
    (hs : ∀ D i x acc T H2 H3, H D = none → xs[i]? = some x → H3 D = some (.lst acc) → P i acc H2 → Ext H2 H3 → H3 T = some (.tup [.int (i : Nat), x]) → LcS G elt t cond vs σ D acc (.ref T) H3 (P (i + 1)))
    (hd : ∀ D acc H2, H D = none → H2 D = some (.lst acc) → P xs.length acc H2 → Q (.ref D) H2) : LcJ G elt t cond vs W Q (Ite G.K p) σ H := by
  intro D hD
  refine ⟨fun i m H2 => i ≤ xs.length ∧ m = xs.length - i ∧ ∃ acc, H2 D = some (.lst acc) ∧ P i acc H2, ⟨_, Nat.zero_le _, rfl, [], upd_same, h0 D _ hD (Ext.new hD)⟩, fun i m H2 ⟨hi, hm, acc, hacc, hp⟩ => ?_⟩
  have hx := hl i acc H2 hp
  by_cases hlt : i < xs.length
  · refine .inr ⟨⟨xs, xs[i], hx, List.getElem?_eq_getElem hlt⟩, fun H' => ∃ acc, H' D = some (.lst acc) ∧ P (i + 1) acc H', fun H' hp' => ⟨xs.length - (i + 1), by omega, hlt, rfl, hp'⟩, fun x H' hyl => ?_⟩
    obtain ⟨T, x0, rfl, hT, rfl, ex⟩ := hyl
    have e := Ext.new (o := .tup [.int (i : Nat), x0]) hT
    exact hs D i x0 acc T H2 _ hD (ex _ hx) (e.lst id hacc) hp e upd_same
  · have e : i = xs.length := by omega
    subst e
    exact .inl ⟨⟨xs, hx, Nat.le_refl _⟩, hd D acc H2 hD hacc hp⟩
/-- [.. for c in text] -/
theorem lcS {z : Str} (P : Nat → List V → Hp → Prop) (h0 : ∀ D H2, H D = none → Ext H H2 → P 0 [] H2)
    (hs : ∀ D i c acc H2, H D = none → z.cps.toList[i]? = some c → H2 D = some (.lst acc) → P i acc H2 → LcS G elt t cond vs σ D acc (.str ⟨#[c]⟩) H2 (P (i + 1)))
    (hd : ∀ D acc H2, H D = none → H2 D = some (.lst acc) → P z.cps.size acc H2 → Q (.ref D) H2) : LcJ G elt t cond vs W Q (Its z) σ H := by
  intro D hD
  refine ⟨fun i m H2 => i ≤ z.cps.size ∧ m = z.cps.size - i ∧ ∃ acc, H2 D = some (.lst acc) ∧ P i acc H2, ⟨_, Nat.zero_le _, rfl, [], upd_same, h0 D _ hD (Ext.new hD)⟩, fun i m H2 ⟨hi, hm, acc, hacc, hp⟩ => ?_⟩
  by_cases hlt : i < z.cps.size
  · refine .inr ⟨hlt, fun H' => ∃ acc, H' D = some (.lst acc) ∧ P (i + 1) acc H', fun H' hp' => ⟨z.cps.size - (i + 1), by omega, hlt, rfl, hp'⟩, fun x H' hyl => ?_⟩
    obtain ⟨rfl, c, hc, rfl⟩ := hyl
    exact hs D i c acc _ hD (by rw [Array.getElem?_toList]; exact hc) hacc hp
  · have e : i = z.cps.size := by omega
    subst e
    exact .inl ⟨by first | exact Nat.le_refl _ | rfl, hd D acc H2 hD hacc hp⟩
end
end Kn

/-! KnP: sep.join(e); the values of a dict, walked by its keys. -/
namespace Kn
open PySem PySem.Spec PyProof.Rows L2
def rJoin (K : PySem.W.Frag) : V → List V → Hp → VK → Prop := fun x xs H Q => ∃ a p, ∃ ys : List Str, x = .str a ∧ xs = [.ref p] ∧ (SqL K H p (ys.map V.str) ∨ SqT K H p (ys.map V.str)) ∧
    (ys.map (·.length)).sum + ys.length * a.length ≤ 16777216 ∧ Q (.str (Txt.join a ys)) H
def xJoin (G : Gm) : XOp where
  ck := fun c e => match e with
    | .Call (.Attribute o y ap) [x] [] p => if (decide (y = "join") && plainE o && notStar x && decide (ap.endLine = p.line)) = true then some [o, x] else none
    | _ => none
  rd := fun ts _ => match ts with
    | [to, te] => tM1 (rJoin G.K) to te
    | _ => fun _ _ _ => False
theorem xJoin_ok {G : Gm} {n : Nat} : XOk G n (xJoin G) := by
  intro c X W x xs ts R hc hp
  obtain rfl := R.g
  unfold xJoin at hc ⊢
  simp only at hc ⊢
  split at hc
  · rename_i o y ap z p
    split at hc
    · rename_i hh
      cases hc
      simp only [Bool.and_eq_true, decide_eq_true_eq] at hh
      obtain ⟨⟨⟨rfl, h1⟩, h2⟩, h3⟩ := hh
      cases hp with
      | cons he hs hr =>
        cases hr with
        | cons he2 hs2 hr =>
          cases hr
          exact pe_join he he2 (star_cons h2) (plain_base h1) (by rw [h3]; exact beq_self_eq_true _)
    · cases hc
  · cases hc
theorem r_xJoin {G : Gm} {to te : TE} {W : WX} : (xJoin G).rd [to, te] W = tM1 (rJoin G.K) to te := rfl

/-! ### d.pop(k) -/
def xDPop : XOp where
  ck := fun c e => match e with
    | .Call (.Attribute o y ap) [x] [] p => if (decide (y = "pop") && plainE o && notStar x && decide (ap.endLine = p.line)) = true then some [o, x] else none
    | _ => none
  rd := fun ts _ => match ts with
    | [to, te] => tDPop1 to te
    | _ => fun _ _ _ => False
theorem xDPop_ok {G : Gm} {n : Nat} : XOk G n xDPop := by
  intro c X W x xs ts R hc hp
  obtain rfl := R.g
  unfold xDPop at hc ⊢
  simp only at hc ⊢
  split at hc
  · rename_i o y ap z p
    split at hc
    · rename_i hh
      cases hc
      simp only [Bool.and_eq_true, decide_eq_true_eq] at hh
      obtain ⟨⟨⟨rfl, h1⟩, h2⟩, h3⟩ := hh
      cases hp with
      | cons he hs hr =>
        cases hr with
        | cons he2 hs2 hr =>
          cases hr
          exact pe_dpop1 he he2 ⟨plain_base h1, by rw [star_cons h2]; rfl, by rw [h3]; exact beq_self_eq_true _, by rw [star_cons h2]; rfl⟩
    · cases hc
  · cases hc
theorem r_xDPop {to te : TE} {W : WX} : xDPop.rd [to, te] W = tDPop1 to te := rfl
/-! ### the keys of a dict, while it is locked -/
def lkOp : LOp where
  ck := fun c e => some (c, e)
  rd := fun t W => tLockE (t W)
theorem lkOp_ok {G : Gm} {n : Nat} : LOk G n n lkOp := by
  intro c X W x c' y t R hc h
  have e : (c, x) = (c', y) := Option.some.inj hc
  injection e with e1 e2
  subst e1 e2
  exact pe_lock (h X W R)
theorem r_lkOp {t : WX → TE} {W : WX} : lkOp.rd t W = tLockE (t W) := rfl
def xKeys : XSrc where
  ck := fun _ _ e => if plainE e = true then some [e] else none
  rd := fun ts _ => match ts with
    | [te] => iKeysM te
    | _ => fun _ _ _ => False
theorem xKeys_ok {G : Gm} {n : Nat} : XSrcOk G n xKeys := by
  intro c X W tg x xs ts R hc hp
  unfold xKeys at hc ⊢
  simp only at hc ⊢
  split at hc
  · rename_i hh
    cases hc
    cases hp with
    | cons he hs hr =>
      cases hr
      refine ⟨⟨fun pins s σ H R I h => ?_⟩, plain_fold hh⟩
      refine thn (he.run pins s σ H _ I h) fun u s1 ⟨x, H1, I1, rx, d, o, kvs, ex, hd, q⟩ => ?_
      subst ex
      obtain rfl : u = Value.ref d := rx
      obtain ⟨hs, hgd, hx, es, ep, vs, hdt, hsz, kv, hm⟩ := I1.frzK hd
      refine iter_keys hs hgd hx hdt (pi_one (tk := s1.toks) I1 _ (turn_keys _ hdt) ⟨_, Heap.get?_push_size _ rfl, rfl, ?_⟩ q)
      rw [hsz] <;> rfl
  · cases hc
theorem r_xKeys {te : TE} {W : WX} : xKeys.rd [te] W = fun σ H R => te σ H fun x H1 => ∃ d o kvs, x = .ref d ∧ H1 d = some (.frz o (.dK kvs)) ∧ R (Itk d o kvs) H1 := rfl
/-- what was changed while d was locked -/
theorem Xt.unlock {H H' : Hp} {d : Addr} {o : Obj} {kvs : List (Key × V)} (h : H d = some (.dK kvs)) (e : Ext (upd H d (.frz o (.dK kvs))) H') : Ext H (upd H' d (.dK kvs)) := by
  have hd' : H' d = some (.frz o (.dK kvs)) := e.ob d _ id upd_same fun _ z => nomatch z
  refine ⟨fun a u _ g t => ?_, fun a g => ?_, fun P g => ?_, fun P g => ?_⟩
  · by_cases k : a = d
    · rw [k, upd_same]
      rw [k, h] at g
      exact g
    · rw [upd_ne k]
      exact e.ob a u id (by rw [upd_ne k]; exact g) t
  · by_cases k : a = d
    · rw [k, upd_same] at g; cases g
    · rw [upd_ne k] at g
      have g2 := e.dm a g
      rw [upd_ne k] at g2
      exact g2
  · exact tg_upd (fun ps z => by rw [hd'] at z; cases z) (e.tg P (tg_upd (fun ps z => by rw [h] at z; cases z) g))
  · exact ts_upd (fun ps z => by rw [hd'] at z; cases z) (fun q z => by rw [hd'] at z; cases z) (e.ts P (ts_upd (fun ps z => by rw [h] at z; cases z) (fun q z => by rw [h] at z; cases z) g))
section
variable {G : Gm} {elt : E} {t : Tg} {cond : Ts} {vs : List Nat} {σ : L2.St} {H : Hp} {W : WX} {Q : VK}
theorem lcK {d : Addr} {o : Obj} {kvs : List (Key × V)} (P : Nat → List V → Hp → Prop) (h0 : ∀ D H2, H D = none → Ext H H2 → P 0 [] H2)
    (hl : ∀ i acc H2, P i acc H2 → H2 d = some (.frz o (.dK kvs)))
    (hs : ∀ D i k v acc H2, H D = none → kvs[i]? = some (k, v) → H2 D = some (.lst acc) → P i acc H2 → LcS G elt t cond vs σ D acc (kV k) H2 (P (i + 1)))
    (hd : ∀ D acc H2, H D = none → H2 D = some (.lst acc) → P kvs.length acc H2 → Q (.ref D) H2) : LcJ G elt t cond vs W Q (Itk d o kvs) σ H := by
  intro D hD
  refine ⟨fun i m H2 => i ≤ kvs.length ∧ m = kvs.length - i ∧ ∃ acc, H2 D = some (.lst acc) ∧ P i acc H2, ⟨_, Nat.zero_le _, rfl, [], upd_same, h0 D _ hD (Ext.new hD)⟩, fun i m H2 ⟨hi, hm, acc, hacc, hp⟩ => ?_⟩
  have hx := hl i acc H2 hp
  by_cases hlt : i < kvs.length
  · refine .inr ⟨⟨hx, hlt⟩, fun H' => ∃ acc, H' D = some (.lst acc) ∧ P (i + 1) acc H', fun H' hp' => ⟨kvs.length - (i + 1), by omega, hlt, rfl, hp'⟩, fun x H' hyl => ?_⟩
    obtain ⟨rfl, k, v, hk, rfl⟩ := hyl
    exact hs D i k v acc _ hD hk hacc hp
  · have e : i = kvs.length := by omega
    subst e
    exact .inl ⟨⟨hx, Nat.le_refl _⟩, hd D acc H2 hD hacc hp⟩
end
end Kn

/-! KnCa: the law's def that catches, given lambdas. -/
namespace Kn
open PySem PySem.Spec PyProof.Rows L2

/-- the one name of a lambda's text -/
def lamNames : List Str := ["a", "b", "c", "d", "e", "f", "g", "h"]
def lamArg : Arguments → Option Str
  | ⟨[], [⟨a, none, _⟩], none, [], [], none, []⟩ => if a ∈ lamNames then some a else none
  | _ => none
theorem lamArg_ok {ps : Arguments} {a : Str} (h : lamArg ps = some a) : (∀ env, defaultsOf ps env = ([], [])) ∧ ∀ (q : Str) (body : Expr) (scope : Scope) (cl : List (Str × Addr)) (pm cv ctv u : Value), bindArgs (PySem.W.kla_fn "<lambda>" q ps body scope cl pm cv ctv) ⟨[u], []⟩ = pure [(a, u)] := by
  unfold lamArg at h
  split at h
  · rename_i b p
    split at h
    · rename_i hm
      cases h
      refine ⟨fun _ => rfl, fun _ _ _ _ _ _ _ _ => ?_⟩
      simp only [lamNames, List.mem_cons, List.not_mem_nil, or_false] at hm
      rcases hm with rfl | rfl | rfl | rfl | rfl | rfl | rfl | rfl <;> rfl
    · cases h
  · cases h
/-- the text of the def that catches -/
def catchB (c : CC) (m y k1 k2 : Str) (hs : Hs) : List Stmt → Bool
  | [.Assign [.Name y0 _] (.List [.Constant (.str a1) _ _] _) _, .Try [.Assign [.Name y1 _] (.Subscript (.List [.Constant (.str a2) _ _, .Call (.Name m0 _) [.Constant (.int k0) _ _] [] _] _) (.Slice none (some (.Constant (.int o0) _ _)) none _) _) _] (h0 :: hds) [] [] _, .Return (some (.Name y2 _)) _] =>
    decide (y0 = y) && (decide (a1 = k1) && (decide (y1 = y) && (decide (a2 = k2) && (decide (m0 = m) && (decide (k0 = 0) && (decide (o0 = 1) && (decide (y2 = y) && chkHs c hs (h0 :: hds))))))))
  | _ => false
theorem catchB_ok {c : CC} {m y k1 k2 : Str} {hs : Hs} {b : List Stmt} (h : catchB c m y k1 k2 hs b = true) : ∃ h0 hds j p, b = catchText m y k1 k2 0 (h0 :: hds) j p ∧ chkHs c hs (h0 :: hds) = true := by
  unfold catchB at h
  split at h
  · rename_i y0 p0 a1 j0 p1 p2 p3 y1 p4 a2 j1 p5 m0 p6 k0 j2 p7 p8 p9 o0 j3 p10 p11 p12 p13 h0 hds p14 y2 p15 p16
    simp only [Bool.and_eq_true, decide_eq_true_eq] at h
    obtain ⟨rfl, rfl, rfl, rfl, rfl, rfl, rfl, rfl, h⟩ := h
    refine ⟨h0, hds, fun n => match n with | 0 => j0 | 1 => j1 | 2 => j2 | _ => j3, fun n => match n with | 0 => p0 | 1 => p1 | 2 => p2 | 3 => p3 | 4 => p4 | 5 => p5 | 6 => p6 | 7 => p7 | 8 => p8 | 9 => p9 | 10 => p10 | 11 => p11 | 12 => p12 | 13 => p13 | 14 => p14 | 15 => p15 | _ => p16, rfl, h⟩
  · cases h
/-- what is known of the def that catches -/
structure CaughtF (G : Gm) (x m y k1 k2 : Str) (ys : List Str) (hs : Hs) : Prop where
  ex : ∃ (g : Addr) (fd : FuncData) (pg : Arguments) (bg : List Stmt) (sg : Scope), G.mg x = some (.ref g) ∧ FunD G.K x x pg bg sg [] [] g fd ∧ L2.Binds G.K fd [m] [] ∧ FnScope (m :: y :: ys) [m] sg ∧ catchB ⟨m :: y :: ys, sg, true, none⟩ m y k1 k2 hs bg = true ∧ sg.names.lookup y = some .local ∧ sg.names.lookup m = some .local
  gd : GdHs G 1 hs
  om : okNm m = true
  oy : okNm y = true
/-- x(lambda a: body) -/
def xCaught (G : Gm) (p : Str × Option Str) (x k1 k2 : Str) (n0 : Nat) (hs : Hs) : LOp where
  ck := fun c e => match e with
    | .Call f [.Lambda ps body scope lpos] [] _ => match lamArg ps with
      | some a => if (isGl c f x && decide (c.q = some p) && lamPB c.N a c.sc scope && lamPos lpos.line && decide (quOf p ++ "<lambda>" = lamQ lpos.line)) = true then some (⟨c.N, scope, false, none⟩, body) else none
      | none => none
    | _ => none
  rd := fun t W σ H Q => TabL H (tabA G p) ∧ ∀ H1, Ext H H1 → TTc G k1 k2 n0 hs (fun E H' Q' => t (fun cls d _ H'' => E cls d H'') σ H' Q') H1 Q (fun cls d H' => W cls d σ H')
theorem xCaught_ok {G : Gm} {n k : Nat} (hn : k + 3 ≤ n) {p : Str × Option Str} {x m y k1 k2 : Str} {ys : List Str} {hs : Hs} (C : CaughtF G x m y k1 k2 ys hs) (TB : LamX.TabB G.base G.mg (He.codeOf G.K p) (tabA G p)) : LOk G n k (xCaught G p x k1 k2 ys.length hs) := by
  intro c X W e c' b t R hc hb
  unfold xCaught at hc ⊢
  simp only at hc ⊢
  split at hc
  · rename_i f ps body scope lpos pos
    split at hc
    · rename_i a ha
      split at hc
      · rename_i hh
        cases hc
        simp only [Bool.and_eq_true, decide_eq_true_eq] at hh
        obtain ⟨⟨⟨⟨h1, h2⟩, h3⟩, h4⟩, h5⟩ := hh
        obtain ⟨q, rfl, g2, g3⟩ := isGl_ok h1
        obtain ⟨g, fd, pg, bg, sg, hm, Fg, hbd, Sg, hcb, hy, hm2⟩ := C.ex
        obtain ⟨h0, hds, j, pp, rfl, hch⟩ := catchB_ok hcb
        obtain ⟨hdef, hbind⟩ := lamArg_ok ha
        have L : LamP X.N a X.env.scope scope := by
          rw [R.N, R.sc]
          exact lamP_by h3
        have hq : X.env.qual ++ "<lambda>" = lamQ lpos.line := by rw [R.ql p h2]; exact h5
        have hcode := R.cd p h2
        have gl := R.gl g2
        have rm := R.room
        have tk := R.tk
        have cm := R.calm
        have gd := R.gd
        have key := fun (A : Around) (outer : List Env) (s : Shared) (H : Hp) (E : XK) (f c' : Addr) (hr : Room k (A.deeper (LamX.lamEnv X scope s.heap.objs.size f c'))) (hga : A.guards = X.A.guards) => hb _ _ (R.lam (outer := outer) (s := s) (H := H) (E := E) (f := f) (c' := c') hr hga)
        obtain rfl := R.g
        have gH := C.gd
        exact pe_lamc (k := k) (t := fun E => t fun cls d _ H'' => E cls d H'') gl hm Fg hbd Sg rfl (.inl hm2) (fun cdg => caught_gives Sg cm gd hch gH hy (okNm_1 C.oy) (okNm_2 C.oy)) TB hcode hq h4 (rm.mono hn) tk L (hdef _) (fun q cl pm cv ctv u => hbind q _ _ cl pm cv ctv u) key (okNm_1 g3) (okNm_1 C.om) (okNm_2 C.om)
      · cases hc
    · cases hc
  · cases hc
theorem r_xCaught {G : Gm} {p : Str × Option Str} {x k1 k2 : Str} {n0 : Nat} {hs : Hs} {t : WX → TE} {W : WX} : (xCaught G p x k1 k2 n0 hs).rd t W = fun σ H Q => TabL H (tabA G p) ∧ ∀ H1, Ext H H1 → TTc G k1 k2 n0 hs (fun E H' Q' => t (fun cls d _ H'' => E cls d H'') σ H' Q') H1 Q (fun cls d H' => W cls d σ H') := rfl
/-! ### the clauses: [name, field] of each class, "other" of the base -/
def hsL (b : Str) : List (Str × Str) → Hs
  | [] => .cons b none (.lst 1 [.cst (.str "other")]) .nil
  | (x, f) :: r => .cons x (some 2) (.lst 1 [.cst (.str x), .xf 2 f]) (hsL b r)
/-- x is caught by its own clause -/
def exmL (K : PySem.W.Frag) (v : Str → Value) (x f : Str) : List (Str × Str) → Prop
  | [] => False
  | (y, g) :: r => (x = y ∧ f = g ∧ PySem.W.exmOne K (v x) (v y) = some true) ∨ (PySem.W.exmOne K (v x) (v y) = some false ∧ exmL K v x f r)
theorem gives_own {G : Gm} {b x f : Str} {C : Addr} {W : WX} {Q Q2 : VK} {fa p0 d : Addr} {v : V} {H : Hp} (hC : clV G x = .ref C) (hd : H d = some (.xd [(f, v)])) (q : ∀ p H', H p = none → Ext H H' → H' p = some (.lst [.str x, v]) → Q (.ref p) H') :
    ∀ {l : List (Str × Str)}, exmL G.K (clV G) x f l → wHs G.K W { nx := fun σ H => tRet (tVar 1) { nx := fun _ H' => Q2 .non H', rt := Q } σ H, rt := Q } (clsOf G W (hsL b l)) (clV G x) (some d) [some (V.ref fa), some (V.ref p0), none] H
  | [], h => h.elim
  | (y, g) :: r, h => by
    show ∃ k, PySem.W.exmOne G.K (clV G x) (clV G y) = some k ∧ (k = true → _) ∧ (k = false → wHs G.K W { nx := fun σ H => tRet (tVar 1) { nx := fun _ H' => Q2 .non H', rt := Q } σ H, rt := Q } (clsOf G W (hsL b r)) (clV G x) (some d) [some (V.ref fa), some (V.ref p0), none] H)
    rcases h with ⟨rfl, rfl, h⟩ | ⟨h1, h2⟩
    · refine ⟨true, h, fun _ a ha => ?_, fun z => nomatch z⟩
      have hA : clA G x = C := by
        unfold clV at hC
        unfold clA
        cases hg : G.mg x with
        | none => rw [hg] at hC; cases hC
        | some u =>
          rw [hg] at hC
          have hC : u = .ref C := hC
          rw [hC]
      show tAsg (tLst (tCons (tC (.str x)) (tCons (tXf a (clV G x) (some d) (clA G x) f (tVar 2)) tNil))) (gName 1) _ _ H
      rw [hA, hC]
      simp only [tAsg, tLst, tCons, tC, tXf, tVar, tNil, gName, Ends.gone, tRet, List.set_cons_succ, List.set_cons_zero, List.getElem?_cons_succ, List.getElem?_cons_zero]
      refine ⟨.ref a, rfl, rfl, trivial, d, _, v, rfl, hd, by simp, len_small (by simp), fun p hp => ⟨_, rfl, ?_⟩⟩
      exact q p _ hp (Ext.new hp) upd_same
    · exact ⟨false, h1, (fun z => by cases z), fun _ => gives_own hC hd q h2⟩
/-- facts of the clauses -/
theorem gdH {G : Gm} {b : Str} (hb : ∃ C, G.mg b = some (.ref C)) : ∀ {l : List (Str × Str)}, (∀ p ∈ l, ∃ C, G.mg p.1 = some (.ref C) ∧ PySem.W.findIn G.K (.ref C) p.2 = some none ∧ XfC G.K C) → GdHs G 1 (hsL b l)
  | [], _ => ⟨hb.imp fun _ h => ⟨h, fun e he => by rw [List.mem_singleton.mp he]; trivial⟩, trivial⟩
  | (x, f) :: r, h => by
    obtain ⟨C, h1, h2, h3⟩ := h (x, f) List.mem_cons_self
    refine ⟨⟨C, h1, fun e he => ?_⟩, gdH hb fun p hp => h p (List.mem_cons_of_mem _ hp)⟩
    rcases List.mem_cons.mp he with rfl | he
    · trivial
    · rw [List.mem_singleton.mp he]
      exact ⟨h2, h3⟩
def exsB (K : PySem.W.Frag) (l : List (Str × Str)) : Bool := l.all fun p => l.all fun q => decide (PySem.W.exmOne K (.ref (He.ga K p.1)) (.ref (He.ga K q.1)) = some (decide (p.1 = q.1)))
theorem exs_sub {G : Gm} {x f : Str} : ∀ {l : List (Str × Str)}, (∀ q ∈ l, PySem.W.exmOne G.K (clV G x) (clV G q.1) = some (decide (x = q.1))) → (l.map (·.1)).Nodup → (x, f) ∈ l → exmL G.K (clV G) x f l
  | [], _, _, h => by cases h
  | (y, g) :: r, h, hn, hm => by
    have h0 := h (y, g) List.mem_cons_self
    rw [List.map_cons, List.nodup_cons] at hn
    by_cases c : x = y
    · subst c
      rcases List.mem_cons.mp hm with e | e
      · cases e
        exact .inl ⟨rfl, rfl, by simpa using h0⟩
      · exact absurd (List.mem_map_of_mem (f := (·.1)) e) hn.1
    · rcases List.mem_cons.mp hm with e | e
      · cases e
        exact absurd rfl c
      · exact .inr ⟨by simpa [c] using h0, exs_sub (fun q hq => h q (List.mem_cons_of_mem _ hq)) hn.2 e⟩
/-- each of the classes is caught by its own clause -/
def Exs (G : Gm) (l : List (Str × Str)) : Prop := ∀ p ∈ l, (∃ C, clV G p.1 = .ref C) ∧ exmL G.K (clV G) p.1 p.2 l
theorem exs_ok {G : Gm} {l : List (Str × Str)} (h : exsB G.K l = true) (hg : ∀ p ∈ l, G.mg p.1 = some (.ref (He.ga G.K p.1))) (hn : (l.map (·.1)).Nodup) : Exs G l := by
  have hv : ∀ p ∈ l, clV G p.1 = .ref (He.ga G.K p.1) := fun p hp => by
    unfold clV
    rw [hg p hp]
    rfl
  rintro ⟨x, f⟩ hp
  refine ⟨⟨_, hv _ hp⟩, exs_sub (fun q hq => ?_) hn hp⟩
  have h1 := List.all_eq_true.mp (List.all_eq_true.mp h _ hp) _ hq
  have h2 := of_decide_eq_true h1
  rw [hv _ hp, hv _ hq]
  exact h2
/-- what the lambda's text gives, caught -/
theorem caught {G : Gm} {b x k1 k2 : Str} {l : List (Str × Str)} {p : Str × Option Str} {t : WX → TE} {W : WX} {σ : L2.St} {H : Hp} {Q : VK} (X : Exs G l) (hT : TabL H (tabA G p)) (h : ∀ (H1 : Hp) (E : XK) (K : VK), Ext H H1 →
      (∀ y f d v H2, (y, f) ∈ l → Ext H H2 → H2 d = some (.xd [(f, v)]) → (∀ q H', H q = none → Ext H H' → H' q = some (.lst [.str y, v]) → Q (.ref q) H') → E (clV G y) (some d) H2) →
      (∀ v H2, Ext H H2 → (∀ q H', H q = none → Ext H H' → H' q = some (.lst [.str k2]) → Q (.ref q) H') → K v H2) → t (fun cls d _ H'' => E cls d H'') σ H1 K) : (xCaught G p x k1 k2 1 (hsL b l)).rd t W σ H Q := by
  rw [r_xCaught]
  refine ⟨hT, fun H1 e1 fa p0 hp0 => ?_⟩
  have e0 : Ext H1 (upd H1 p0 (.lst [.str k1])) := Ext.new hp0
  refine h _ _ _ (e1.trans e0) (fun y f d v H2 hm e2 hd q => ?_) fun v H2 e2 q l2 hl2 => ?_
  · obtain ⟨⟨C, hC⟩, hx⟩ := X _ hm
    exact gives_own (W := fun cls d _ H' => W cls d σ H') (Q2 := Q) hC hd (fun q' H' h1 h2 h3 => q q' H' (e2.dm _ h1) (e2.trans h2) h3) hx
  · have e3 : Ext H2 (upd H2 l2 (.lst [.str k2, v])) := Ext.new hl2
    refine slL (.inl (.inl upd_same)) fun l3 H3 hl3 e4 g3 => ?_
    exact q l3 H3 (e2.dm _ (e3.dm _ hl3)) (e2.trans (e3.trans e4)) g3
/-- if not _law_same(_law_caught(lambda: b), due): return False -/
def askS (G : Gm) (sp : Sp) (p : Str × Option Str) (l : List (Str × Str)) (b de : Kn.E) : S := .iff (.not (.val (.call "_law_same" sp [] (.cons (.lam (xCaught G p "_law_caught" "other" "told" 1 (hsL "KnitError" l)) b) (.cons de .nil))))) (.cons (.ret (.cst (.bl false))) .nil) .nil
/-- found = _law_caught(lambda: b) -/
def cauS (G : Gm) (p : Str × Option Str) (l : List (Str × Str)) (b : Kn.E) (i : Nat) : S := .asg (.nm i) (.lam (xCaught G p "_law_caught" "other" "told" 1 (hsL "KnitError" l)) b)
end Kn

/-! KnI: more that is walked: range with a step. -/
namespace Kn
open PySem PySem.Spec PyProof.Rows L2

def xRng3 : XSrc where
  ck := fun c _ e => match e with
    | .Call f [x, y, z] [] _ => if (isGl c f "range" && notStar x && notStar y && notStar z) = true then some [x, y, z] else none
    | _ => none
  rd := fun ts _ => match ts with
    | [ta, tb, tc] => iRng3 (tCons ta (tCons tb (tCons tc tNil)))
    | _ => fun _ _ _ => False
theorem xRng3_ok {G : Gm} {n : Nat} (hm : G.mg "range" = none) : XSrcOk G n xRng3 := by
  intro c X W tg x xs ts R hc hp
  obtain rfl := R.g
  unfold xRng3 at hc ⊢
  simp only at hc ⊢
  split at hc
  · rename_i f x y z pos
    split at hc
    · rename_i hh
      cases hc
      simp only [Bool.and_eq_true] at hh
      obtain ⟨⟨⟨h0, h1⟩, h2⟩, h3⟩ := hh
      obtain ⟨p, rfl, g2, g3⟩ := isGl_ok h0
      cases hp with
      | cons hx _ hr =>
        cases hr with
        | cons hy _ hr =>
          cases hr with
          | cons hz _ hr =>
            cases hr
            refine ⟨pi_range3 (R.gl g2) hm (pa_cons hx (pa_cons hy (pa_cons hz pa_nil (star_cons h3)) (star_cons h2)) (star_cons h1)) (star_cons h1) (pa_star fun w hw => ?_), fun v => rfl⟩
            rcases List.mem_cons.mp hw with rfl | hw
            · exact h2
            · rw [List.mem_singleton.mp hw]; exact h3
    · cases hc
  · cases hc
theorem r_xRng3 {ta tb tc : TE} {W : WX} : xRng3.rd [ta, tb, tc] W = fun σ H R => ta σ H fun x H1 => tb σ H1 fun y H2 => tc σ H2 fun z H3 => ∃ (i j c : Int) (n : Nat), [x, y, z] = [.int i, .int j, .int c] ∧ RgC i j c n ∧ R (Itc i c n) H3 := rfl
section
variable {G : Gm} {W : WX} {t : Tg} {b : Ss} {D : Ends} {σ : L2.St} {H : Hp}
theorem fjC {lo c : Int} {n : Nat} (Pv : Nat → L2.St → Hp → Prop) (h0 : Pv 0 σ H) (hs : ∀ i σ H, i < n → Pv i σ H → rdTg G t W (.int (lo + (i : Nat) * c)) σ H fun σ2 H2 => rdSs G b W { D with nx := Pv (i + 1), ct := Pv (i + 1), bk := D.nx } σ2 H2) (hd : ∀ σ H, Pv n σ H → D.nx σ H) : ForJ G t b W D (Itc lo c n) σ H := for_rangeC Pv h0 hs hd
end
/-- range(i, j, c), c above 0 -/
theorem RgC.up {i j c : Int} (h0 : 0 ≤ i) (h1 : i < 2 ^ 40) (h2 : 0 ≤ j) (h3 : j < 2 ^ 40) (h4 : 0 < c) (h5 : c < 1073741824) : RgC i j c (if i < j then (j - i - 1) / c + 1 else 0).toNat := by
  have e : Builtin.Range.rangeSize i j c = if i < j then (j - i - 1) / c + 1 else 0 := by
    unfold Builtin.Range.rangeSize
    rw [if_pos h4]
  refine ⟨by omega, by omega, ?_, ?_⟩
  · have hd := fun w => Int.ediv_nonneg (a := j - i - 1) (b := c) w (by omega)
    have h8 : i < j → (j - i - 1) / c ≤ j - i - 1 := fun w => Int.ediv_le_self _ (by omega)
    unfold Builtin.Range.small
    rw [e]
    simp only [Builtin.Range.rangeFitsLong, Bool.and_eq_true, Bool.or_eq_true, decide_eq_true_eq, beq_iff_eq]
    rw [if_pos (show c > 0 from h4)]
    simp only [Bool.and_eq_true, decide_eq_true_eq]
    split
    · have := hd (by omega)
      have := h8 (by omega)
      omega
    · omega
  · rw [e]
    split
    · have := Int.ediv_nonneg (a := j - i - 1) (b := c) (by omega) (by omega)
      omega
    · rfl
theorem FnAtK.mono {G : Gm} {m n : Nat} {x : Str} {sp : Sp} {ks : List Str} {g : List V → List V → List V} (h : FnAtK G m x sp ks g) (hm : m ≤ n) : FnAtK G n x sp ks g := by
  obtain ⟨k, f, fd, ps, g0, h1, h2⟩ := h
  exact ⟨k, f, fd, ps, g0, Nat.le_trans h1 hm, h2⟩
/-! ### what stands at d is locked while a statement runs; an error lets it go -/
theorem takes_unlock {X : Cx} {pins : List (Addr × Obj)} {σ : L2.St} {H : Hp} {s : Shared} {d : Addr} {od : Obj} {u : HO} {W : WX} (I : Inv X pins σ H s) (hd : H d = some u) (mu : Mut (some u)) (tk : Takes X W) : Takes X (fun cls dd σ' H' => H' d = some (.frz od u) ∧ W cls dd σ' (upd H' d u)) := by
  rintro e s' ⟨a, B, sI, pins', σ', H', cls, dd, he, I', nb, up, sky, na, os, ag, hf, w⟩
  refine tk e s' ⟨a, B, sI, pins', σ', upd H' d u, cls, dd, he, I'.unlock hf (I.nofrz hd mu), nb, up, sky, ?_, os, ag, w⟩
  rw [upd_ne (fun z => by rw [z, hf] at na; cases na)]
  exact na
def lkS : WSt where
  rd := fun t W D σ H => ∃ d u, H d = some u ∧ Mut (some u) ∧ ∀ od, t (fun cls dd σ' H' => H' d = some (.frz od u) ∧ W cls dd σ' (upd H' d u)) ⟨fun σ' H' => H' d = some (.frz od u) ∧ D.nx σ' (upd H' d u), fun v H' => H' d = some (.frz od u) ∧ D.rt v (upd H' d u), fun σ' H' => H' d = some (.frz od u) ∧ D.bk σ' (upd H' d u), fun σ' H' => H' d = some (.frz od u) ∧ D.ct σ' (upd H' d u)⟩ σ (upd H d (.frz od u))
theorem lkS_ok {G : Gm} {n : Nat} : WOk G n lkS := by
  intro c X W x t R h
  refine ⟨fun pins s σ H D I hw => ?_⟩
  obtain ⟨d, u, hd, mu, hw⟩ := hw
  obtain ⟨od, I1⟩ := I.lock hd mu
  refine thn ((h _ (takes_unlock (od := od) I hd mu R.tk)).run pins s σ _ _ I1 (hw od)) fun f s1 q => ?_
  cases f with
  | next => obtain ⟨σ', H', I2, e, q⟩ := q; exact ⟨σ', _, I2.unlock e (I.nofrz hd mu), q⟩
  | brk => obtain ⟨σ', H', I2, e, q⟩ := q; exact ⟨σ', _, I2.unlock e (I.nofrz hd mu), q⟩
  | cont => obtain ⟨σ', H', I2, e, q⟩ := q; exact ⟨σ', _, I2.unlock e (I.nofrz hd mu), q⟩
  | ret v => obtain ⟨x, σ', H', I2, r, e, q⟩ := q; exact ⟨x, σ', _, I2.unlock e (I.nofrz hd mu), r, q⟩
/-- the dict at d is read by t, locked -/
theorem r_lkS {t : WX → TS} {W : WX} {D : Ends} {σ : L2.St} {H : Hp} {d : Addr} {kvs : List (Key × V)} (hd : H d = some (.dK kvs)) (h : ∀ od H1, H1 d = some (.frz od (.dK kvs)) → (∀ H2, Ext H1 H2 → Ext H (upd H2 d (.dK kvs)) ∧ H2 d = some (.frz od (.dK kvs))) → H1 = upd H d (.frz od (.dK kvs)) →
    t (fun cls dd σ' H' => H' d = some (.frz od (.dK kvs)) ∧ W cls dd σ' (upd H' d (.dK kvs))) ⟨fun σ' H' => H' d = some (.frz od (.dK kvs)) ∧ D.nx σ' (upd H' d (.dK kvs)), fun v H' => H' d = some (.frz od (.dK kvs)) ∧ D.rt v (upd H' d (.dK kvs)), fun σ' H' => H' d = some (.frz od (.dK kvs)) ∧ D.bk σ' (upd H' d (.dK kvs)), fun σ' H' => H' d = some (.frz od (.dK kvs)) ∧ D.ct σ' (upd H' d (.dK kvs))⟩ σ H1) : lkS.rd t W D σ H :=
  ⟨d, _, hd, trivial, fun od => h od _ upd_same (fun H2 e => ⟨Xt.unlock hd e, e.ob d _ id upd_same fun _ z => nomatch z⟩) rfl⟩
/-! ### the pairs of a dict -/
def xItems : XSrc where
  ck := fun _ t e => match e with
    | .Call (.Attribute x y ap) [] [] p => if (decide (y = "items") && isTupT t && plainE x && decide (ap.endLine = p.line)) = true then some [x] else none
    | _ => none
  rd := fun ts _ => match ts with
    | [te] => iItems te
    | _ => fun _ _ _ => False
theorem xItems_ok {G : Gm} {n : Nat} : XSrcOk G n xItems := by
  intro c X W tg x xs ts R hc hp
  unfold xItems at hc ⊢
  simp only at hc ⊢
  split at hc
  · rename_i x y ap p
    split at hc
    · rename_i hh
      cases hc
      simp only [Bool.and_eq_true, decide_eq_true_eq] at hh
      obtain ⟨⟨⟨rfl, h1⟩, h2⟩, h3⟩ := hh
      cases hp with
      | cons he hs hr =>
        cases hr
        cases tg with
        | Tuple es k tp => exact ⟨pi_items he (plain_base h2) (by rw [h3]; exact beq_self_eq_true _), fun v => rfl⟩
        | _ => cases h1
    · cases hc
  · cases hc
theorem r_xItems {te : TE} {W : WX} : xItems.rd [te] W = fun σ H R => te σ H fun x H1 => ∃ d o kvs, x = .ref d ∧ H1 d = some (.frz o (.dK kvs)) ∧ R (Iti d o kvs) H1 := rfl
section
variable {G : Gm} {W : WX} {t : Tg} {b : Ss} {D : Ends} {σ : L2.St} {H : Hp}
theorem fjI {d : Addr} {o : Obj} {kvs : List (Key × V)} (Pv : Nat → L2.St → Hp → Prop) (h0 : Pv 0 σ H) (hl : ∀ i σ H, Pv i σ H → H d = some (.frz o (.dK kvs)))
    (hs : ∀ i T k v σ H H', kvs[i]? = some (k, v) → Pv i σ H → H T = none → Ext H H' → H' T = some (.tup [kV k, v]) → rdTg G t W (.ref T) σ H' fun σ2 H2 => rdSs G b W { D with nx := Pv (i + 1), ct := Pv (i + 1), bk := D.nx } σ2 H2) (hd : ∀ σ H, Pv kvs.length σ H → D.nx σ H) : ForJ G t b W D (Iti d o kvs) σ H := by
  refine ⟨fun i m σ H => m = kvs.length - i ∧ i ≤ kvs.length ∧ Pv i σ H, ⟨_, rfl, Nat.zero_le _, h0⟩, ?_⟩
  rintro i m σ H ⟨rfl, hi, p⟩
  have hx := hl i σ H p
  by_cases hlt : i < kvs.length
  · refine .inr ⟨⟨hx, hlt⟩, Pv (i + 1), fun σ' H' p' => ⟨kvs.length - (i + 1), by omega, rfl, hlt, p'⟩, fun x H' y => ?_⟩
    obtain ⟨T, k, v, hk, rfl, hT, rfl⟩ := y
    exact hs i T k v σ H _ hk p hT (Ext.new hT) upd_same
  · have e : i = kvs.length := by omega
    subst e
    exact .inl ⟨⟨hx, Nat.le_refl _⟩, hd σ H p⟩
end
/-! ### repr of lists that hold dicts of plain values -/
mutual
inductive DpN (H : Hp) : V → PyData → Prop
  | pl {v : V} (h : plnV v = true) : DpN H v (dV v)
  | lst {a : Addr} {xs : List V} {ds : List PyData} (g : H a = some (.lst xs)) (h : DpNs H xs ds) : DpN H (.ref a) (.list ds)
  | dk {a : Addr} {kvs : List (Key × V)} (g : H a = some (.dK kvs)) (h : ∀ p ∈ kvs, plnV p.2 = true) : DpN H (.ref a) (dKv kvs)
inductive DpNs (H : Hp) : List V → List PyData → Prop
  | nil : DpNs H [] []
  | cons {v : V} {vs : List V} {d : PyData} {ds : List PyData} (h : DpN H v d) (t : DpNs H vs ds) : DpNs H (v :: vs) (d :: ds)
end
/-- the place of sys.modules is a dict's -/
def SysM (K : PySem.W.Frag) : Prop := ∃ o, K.lookup sysModules = some o ∧ o.cls = .type "dict"
section
variable {X : Cx} {pins : List (Addr × Obj)} {σ : L2.St} {H : Hp} {s : Shared}
mutual
theorem DpN.reads (I : Inv X pins σ H s) (S : SysM X.K) : ∀ {v : V} {d : PyData} {u : Value}, DpN H v d → RelV v u → ∃ as, Reads s.heap u d as ∧ sysModules ∉ as
  | _, _, _, .pl h, r => ⟨[], reads_pln h r, by simp⟩
  | _, _, _, .dk (a := a) g h, r => by
    cases r
    obtain ⟨as, R, ea, ya⟩ := reads_dK I g h
    refine ⟨as, R, fun m => ?_⟩
    rw [ea] at m
    have := List.mem_singleton.mp m
    rw [← this] at ya
    simp at ya
  | _, _, _, .lst (a := a) g h, r => by
    cases r
    obtain ⟨us, rv, p, hz⟩ := I.list (.inl (.inl g))
    obtain ⟨as, R, n⟩ := DpNs.reads I S h rv
    obtain ⟨o, h1, h2, m0, h3⟩ := p.isList
    refine ⟨a :: as, Reads.list h1 h2 h3 (by simpa using R), fun m => ?_⟩
    rcases List.mem_cons.mp m with e | e
    · obtain ⟨o2, e1, e2⟩ := S
      have := I.kIn _ _ e1
      rw [e, h1] at this
      cases this
      rw [h2] at e2
      injection e2 with e3
      exact absurd e3 (by decide)
    · exact n e
theorem DpNs.reads (I : Inv X pins σ H s) (S : SysM X.K) : ∀ {vs : List V} {ds : List PyData} {us : List Value}, DpNs H vs ds → Vals vs us → ∃ as, ReadsAll s.heap us ds as ∧ sysModules ∉ as
  | _, _, _, .nil, .nil => ⟨[], .nil, by simp⟩
  | _, _, _, .cons h t, .cons r rs => by
    obtain ⟨as, R, n⟩ := DpN.reads I S h r
    obtain ⟨bs, T, m⟩ := DpNs.reads I S t rs
    exact ⟨as ++ bs, .cons R T, fun w => (List.mem_append.mp w).elim n m⟩
end
end
def rReprN : List V → Hp → VK → Prop := fun xs H Q => ∃ a d, xs = [.ref a] ∧ DpN H (.ref a) d ∧ d.showable = true ∧ d.depth ≤ 60 ∧ d.shown.length ≤ sizeLine ∧ Q (.str d.shown) H
theorem call_reprN {X : Cx} {n : Nat} (S : SysM X.K) (hr : Room n X.A) (hg : X.A.guards = some []) : CallR X (.builtin "repr") rReprN := by
  intro pins s σ H xs us Q I rx h
  obtain ⟨a, d, rfl, e, hs, h60, hz, q⟩ := h
  obtain ⟨u, rfl, ru⟩ := vals1 rx
  have ru' : RelV (.ref a) u := ru
  cases ru
  obtain ⟨as, R, n⟩ := DpN.reads I S e ru'
  have units := hr.units
  exact repr_of_reads' R hs (fun _ => n) hg (by omega) (fun _ _ e => e) (fun h' v tk hk => ⟨.str d.shown, H, I.kept (t' := tk) hk, ⟨_, rfl⟩, q⟩) hz
/-- repr(e) -/
def xReprN : XOp where
  ck := fun c e => match e with
    | .Call f [x] [] _ => if (isGl c f "repr" && notStar x) = true then some [x] else none
    | _ => none
  rd := fun ts _ => match ts with
    | [te] => tCB rReprN (tCons te tNil)
    | _ => fun _ _ _ => False
theorem xReprN_ok {G : Gm} {n : Nat} (hm : G.mg "repr" = none) (S : SysM G.K) : XOk G n xReprN := by
  intro c X W x xs ts R hc hp
  obtain rfl := R.g
  unfold xReprN at hc ⊢
  simp only at hc ⊢
  split at hc
  · rename_i f y pos
    split at hc
    · rename_i hh
      cases hc
      simp only [Bool.and_eq_true] at hh
      obtain ⟨h0, h1⟩ := hh
      obtain ⟨p, rfl, g2, g3⟩ := isGl_ok h0
      cases hp with
      | cons he hs hr =>
        cases hr
        exact pe_callB (call_reprN S R.room R.gd) (R.gl g2) hm (by decide +kernel) (pa_cons he pa_nil (star_cons h1)) (by decide +kernel) (by decide +kernel) (star_cons h1) rfl
    · cases hc
  · cases hc
theorem r_xReprN {te : TE} {W : WX} : xReprN.rd [te] W = tCB rReprN (tCons te tNil) := rfl
/-- {k: v}, both known -/
theorem d1c {k : Key} {v : V} {tk tv : TE} {W : WX} {σ : L2.St} {H : Hp} {Q : VK} (hk : ∀ H Q, Q (kV k) H → tk σ H Q) (hv : ∀ H Q, Q v H → tv σ H Q) (h : ∀ p H', H p = none → Ext H H' → H' p = some (.dK [(k, v)]) → Q (.ref p) H') : xDict1.rd [tk, tv] W σ H Q := by
  rw [r_xDict1]
  intro p hp
  refine hk _ _ (hv _ _ ⟨upd_same, [(k, v)], rfl, by simp, ?_⟩)
  have e1 : Ext H (upd H p (.dK [])) := Ext.new hp
  exact h p _ hp (e1.new2 (Xt.put rfl upd_same rfl) hp) upd_same
def sysB (K : PySem.W.Frag) : Bool := match K.lookup sysModules with
  | some o => (match o.cls with | .type n => decide (n = "dict") | _ => false)
  | none => false
theorem sysB_ok {K : PySem.W.Frag} (h : sysB K = true) : SysM K := by
  unfold sysB at h
  split at h
  · rename_i o e
    split at h
    · rename_i n e2
      exact ⟨o, e, by rw [e2, show n = "dict" from of_decide_eq_true h]⟩
    · cases h
  · cases h
end Kn

/-! KnHd: the head's look, from the module and from the places that nothing of the module names. -/
namespace Kn
open PySem PySem.Spec PyProof.Rows L2 He
/-- where it looks -/
def asS (g : Addr → Option Obj) (n : Nat) : List Addr := PySem.cStatics :: PySem.sysModules :: asD g n
def obsY (n : Nat) (fa : List Fa) (fn : List DefD) (ts : List Tab) (tf : List Defn) (ex : PySem.W.Frag → Bool) (g : Addr → Option Obj) : AlX := (obsT fa fn ts (frT g (asS g n)), ex (frT g (asS g n)) && tabsB g tf (frT g (asS g n)))
theorem saysY_of {n : Nat} {fa : List Fa} {fn : List DefD} {ts : List Tab} {tf : List Defn} {ex : PySem.W.Frag → Bool} {w : World} {h : Heap} (e : obsY n fa fn ts tf ex h.get? = valX fn ts w) : SaysX fa fn ts tf ex w h (frT h.get? (asS h.get? n)) := by
  have e1 : obsT fa fn ts (frT h.get? (asS h.get? n)) = valT fn ts w := congrArg (fun z : AlX => z.1) e
  have e2 : (ex (frT h.get? (asS h.get? n)) && tabsB h.get? tf (frT h.get? (asS h.get? n))) = true := congrArg (fun z : AlX => z.2) e
  obtain ⟨h1, h2⟩ := ba e2
  have key : ∀ p ∈ tf, PySem.W.codeHdIn (frT h.get? (asS h.get? n)) (cT (frT h.get? (asS h.get? n)) p).1 (cT (frT h.get? (asS h.get? n)) p).2 = true ∧ ∃ o, h.get? (cT (frT h.get? (asS h.get? n)) p).2 = some o ∧ emptyTab o = true := fun p hp => by
    obtain ⟨h3, h4⟩ := ba (List.all_eq_true.mp h2 p hp)
    refine ⟨h3, ?_⟩
    cases q : h.get? (cT (frT h.get? (asS h.get? n)) p).2 with
    | none =>
      rw [q] at h4
      cases h4
    | some o =>
      rw [q] at h4
      exact ⟨o, rfl, h4⟩
  exact ⟨e1, h1, fun p hp => (key p hp).1, fun p hp => by
    obtain ⟨_, o, q, z⟩ := key p hp
    exact frT_none q z, fun p hp => by
    obtain ⟨_, o, q, z⟩ := key p hp
    rw [q, emptyTab_eq z]⟩
def hookY (n : Nat) (fa : List Fa) (fn : List DefD) (ts : List Tab) (tf : List Defn) (ex : PySem.W.Frag → Bool) : PySem.W.Hook where
  α := AlX
  obs := fun s => obsY n fa fn ts tf ex s.heap.get?
  val := fun w => valX fn ts w
  says := fun w h => ∃ K : PySem.W.Frag, K.In h ∧ SaysX fa fn ts tf ex w h K
  of := fun _ _ e => ⟨_, frT_in, saysY_of e⟩
  keeps := fun _ _ _ ⟨K, hK, c⟩ k => ⟨K, PySem.W.Frag.In.keeps hK k, ⟨c.t, c.more, c.hd, c.out, fun p hp => k _ _ (c.empty p hp)⟩⟩
theorem obsY_eq {n : Nat} {fa : List Fa} {fn : List DefD} {ts : List Tab} {tf : List Defn} {ex : PySem.W.Frag → Bool} {g : Addr → Option Obj} {s : Shared} (h : ∀ a, g a = s.heap.get? a) : obsY n fa fn ts tf ex g = (hookY n fa fn ts tf ex).obs s := by
  have e : g = s.heap.get? := funext h
  rw [e] <;> rfl
end Kn

/-! KnRp: all(xs[at] == xs[at - size] for at in range(size, len(xs))). -/
namespace Kn
open PySem PySem.Spec PyProof.Rows L2
def tRng (ta tb : TE) : TE := tCB (fun vs H Q => ∃ i j : Int, vs = [.int i, .int j] ∧ ∀ p, H p = none → Q (.ref p) (upd H p (.rng i j))) (tCons ta (tCons tb tNil))
theorem git_rng {X : Cx} {P p : Addr} {i j : Int} {s1 : Shared} {t u v : Tok} (hr : IsRange s1.heap p i j 1 t u v) (h0 : 0 ≤ i) (hij : i ≤ j) (hj : j ≤ 1000000) : GIter X P s1 (.ref p) (j - i).toNat (fun k v => ∃ t, k < (j - i).toNat ∧ v = .int (i + (k : Int)) t) := by
  intro Q E hQ
  have hsz : Builtin.Range.rangeSize i j 1 = ((j - i).toNat : Int) := by rw [rangeSize_one]; split <;> omega
  have hsm : Builtin.Range.small i j 1 = true := by
    unfold Builtin.Range.small
    rw [hsz]
    unfold Builtin.Range.rangeFitsLong
    simp only [Bool.and_eq_true, Bool.or_eq_true, decide_eq_true_eq, beq_iff_eq, show (1 : Int) > 0 by decide, if_true]
    have e : (2 : Int) ^ 63 = 9223372036854775808 := by decide
    refine ⟨⟨⟨⟨?_, ?_⟩, ?_⟩, ?_⟩, .inr ?_⟩ <;> omega
  refine wpAny_pyIter_range hr hsm ?_
  have W := fun (A' : Around) (hA : A'.handled = none) => Walks.range (prog := X.prog) (w := X.w) (A := A') hA s1.heap.objs.size i 1 (j - i).toNat
  refine hQ _ [] (fun k h => IsRangeIter h s1.heap.objs.size (i + (k : Nat) * 1) (((j - i).toNat : Int) - (k : Nat)) 1) (fun A' hA => ?_) ?_ (fun b hb => nomatch hb)
  · have w := W A' hA
    refine ⟨w.sub, w.frame, fun k s Q E hk hs hq => w.item k s Q E hk hs fun v h' tk hv => hq v h' tk ?_, w.done, w.self⟩
    obtain ⟨t, rfl⟩ := hv
    exact ⟨t, hk, by rw [Int.mul_one]⟩
  · have e0 : i + ((0 : Nat) : Int) * 1 = i := by simp
    have e1 : ((j - i).toNat : Int) - ((0 : Nat) : Int) = ((j - i).toNat : Int) := by simp
    show IsRangeIter _ _ (i + ((0 : Nat) : Int) * 1) (((j - i).toNat : Int) - ((0 : Nat) : Int)) 1
    rw [e0, e1, hsz]
    exact Heap.get?_push_size _ rfl
theorem lt63 {n : Int} (h : n ≤ 2000000) : n < 2 ^ 63 := by
  have e : (2 : Int) ^ 63 = 9223372036854775808 := by decide
  omega
/-- a name of the genexpr that is a name of the def -/
theorem free_cell {X : Cx} {pins : List (Addr × Obj)} {σ : L2.St} {H : Hp} {s : Shared} {scope : Scope} {x : Str} {j : Nat} {v : V} (I : Inv X pins σ H s) (S : GxR.GenS X.env scope x) {y : Str} (hN : X.N[j]? = some y) (hv : Vis X.env.scope y) (hl : X.env.scope.names.lookup y ≠ some .local) (hσ : σ[j]? = some (some v)) (hf : scope.names.lookup y = some .free) :
    ∃ u c, RelV v u ∧ (cloFrom X.env.cells scope.names []).lookup y = some c ∧ s.heap.IsCell c (some u) ∧ H c = none := by
  obtain ⟨m, hn, hl2⟩ := I.loc
  obtain ⟨u, r, l⟩ := hl2 j y v hN hσ hv
  rcases l with ⟨hk, hm⟩ | ⟨hk, c, hc, hcell⟩
  · exact absurd hk hl
  · exact ⟨u, c, r, NdefX.clo_has S.free (PySem.mem_of_lookup hf) hc, hcell, I.freeC _ _ hc⟩
/-- xs[at] == xs[at - size], where the items are texts -/
theorem gel_rep {X : Cx} {P a ca cz : Addr} {s1 : Shared} {scope : Scope} {x ys yz : Str} {its : Array Value} {zs : List Str} {i j : Int} {tz : Tok} {p1 p2 p3 p4 p5 p6 p7 p8 p9 : Pos}
    (S : GxR.GenS X.env scope x) (l1 : (cloFrom X.env.cells scope.names []).lookup ys = some ca) (l2 : (cloFrom X.env.cells scope.names []).lookup yz = some cz)
    (c1 : s1.heap.IsCell ca (some (.ref a))) (c2 : s1.heap.IsCell cz (some (.int i tz))) (n1 : ca ≠ P) (n2 : cz ≠ P) (n3 : a ≠ P) (hl : s1.heap.IsList a its) (hv : Vals (zs.map V.str) its.toList)
    (h0 : 0 ≤ i) (hj : j = zs.length) (hz : zs.length ≤ 1000000) (f1 : scope.names.lookup ys = some .free) (f2 : scope.names.lookup yz = some .free) (o1 : okNm x = true) (o2 : okNm ys = true) (o3 : okNm yz = true) :
    GElt X P s1 scope x (.Compare (.Subscript (.Name ys p1) (.Name x p2) p3) [.Eq] [.Subscript (.Name ys p4) (.BinOp (.Name x p5) .Sub (.Name yz p6) p7) p8] p9) (fun k v => ∃ t, k < (j - i).toNat ∧ v = .int (i + (k : Int)) t) (fun k => decide (zs[i.toNat + k]? = zs[k]?)) := by
  intro A' E' k v s₂ m₂ lc code bi hA hD hU hPv hn hm hk
  obtain ⟨t, hkk, rfl⟩ := hPv
  have hlen : (i + (k : Int)).toNat < zs.length := by omega
  have get : ∀ q : Nat, q < zs.length → ∃ w t, zs[q]? = some w ∧ its[q]? = some (.str w t) := fun q hq => by
    obtain ⟨w, ew, rw'⟩ := hv.get (show (zs.map V.str)[q]? = some (.str zs[q]) by rw [List.getElem?_map, List.getElem?_eq_getElem hq]; rfl)
    obtain ⟨t, rfl⟩ := rw'
    exact ⟨zs[q], t, List.getElem?_eq_getElem hq, by rw [← Array.getElem?_toList]; exact ew⟩
  have old : ∀ b u, b ≠ P → s1.heap.get? b = some u → s₂.heap.get? b = some u := hk
  have hl2 : s₂.heap.IsList a its := by
    obtain ⟨o, e1, r⟩ := hl
    exact ⟨o, old _ _ n3 e1, r⟩
  have c12 : s₂.heap.IsCell ca (some (.ref a)) := let ⟨o, e, d⟩ := c1; ⟨o, old _ _ n1 e, d⟩
  have c22 : s₂.heap.IsCell cz (some (.int i tz)) := let ⟨o, e, d⟩ := c2; ⟨o, old _ _ n2 e, d⟩
  obtain ⟨w1, t1, z1, g1⟩ := get (i + (k : Int)).toNat hlen
  obtain ⟨w2, t2, z2, g2⟩ := get k (by omega)
  refine wpAny_Compare1 ?_
  refine wpAny_Subscript_Name_late ?_
  refine wpAny_Name (wpAny_loadName_free (env := gEnv X scope lc code bi) S.kind f1 l1 c12 ?_ (okNm_2 o2)) (okNm_1 o2)
  refine wpAny_Name (wpAny_loadName_local (env := gEnv X scope lc code bi) S.kind S.loc hn hm ?_) (okNm_1 o1)
  refine ⟨_, _, slot_list_getitem.lookup, hl2.typeIs, wpAny_getItem_list hl2 (by omega) (lt63 (by omega)) g1 ?_⟩
  refine wpAny_Subscript_BinOp_late ?_
  refine wpAny_Name (wpAny_loadName_free (env := gEnv X scope lc code bi) S.kind f1 l1 c12 ?_ (okNm_2 o2)) (okNm_1 o2)
  refine wpAny_BinOp ?_
  refine wpAny_Name (wpAny_loadName_local (env := gEnv X scope lc code bi) S.kind S.loc hn hm ?_) (okNm_1 o1)
  refine wpAny_Name (wpAny_loadName_free (env := gEnv X scope lc code bi) S.kind f2 l2 c22 ?_ (okNm_2 o3)) (okNm_1 o3)
  refine sub_int ?_
  refine ⟨_, _, slot_list_getitem.lookup, hl2.typeIs, wpAny_getItem_list (x := .str w2 t2) hl2 (by omega) (lt63 (by omega)) (by rw [show (i + (k : Int) - i).toNat = k by omega]; exact g2) ?_⟩
  refine PySem.P.eq_str ⟨?_, GxR.keeps_tok _ _⟩
  have e1 : zs[i.toNat + k]? = some w1 := by rw [← z1]; congr 1; omega
  simp only [e1, z2, Option.some.injEq]
  congr 1
  by_cases e : w1 = w2
  · subst e
    simp
  · rw [decide_eq_false e]
    refine beq_false_of_ne fun h => e ?_
    obtain ⟨c1⟩ := w1
    obtain ⟨c2⟩ := w2
    congr 1
    exact Array.toList_inj.mp h
/-- all(xs[at] == xs[at - size] for at in range(size, len(xs))): xs, size by their slots -/
def xRep (G : Gm) (p : Str × Option Str) (js jz : Nat) : XOp where
  ck := fun c e => match e with
    | .Call f [.GeneratorExp (.Compare (.Subscript (.Name ys _) (.Name x _) _) [.Eq] [.Subscript (.Name ys' _) (.BinOp (.Name x' _) .Sub (.Name yz _) _) _] _) [⟨.Name x'' _, .Call r [.Name yz' q1, b] [] q2, [], 0⟩] scope gpos] [] _ =>
      if (isGl c f "all" && isGl c r "range" && decide (c.q = some p) && decide (ys' = ys) && decide (x' = x) && decide (x'' = x) && decide (yz' = yz) && decide (c.N[js]? = some ys) && decide (c.N[jz]? = some yz) && genSB c.sc scope x && decide (scope.names.lookup ys = some .free) && decide (scope.names.lookup yz = some .free)
        && decide (c.sc.names.lookup ys = some .cell) && decide (c.sc.names.lookup yz = some .cell) && okNm x && okNm ys && okNm yz && !lamPos gpos.line && isStr0 b) = true then some [.Name yz' q1, b] else none
    | _ => none
  rd := fun ts _ => match ts with
    | [ta, tb] => tAllG (tabA G p) (fun σ v H1 b => ∃ (a r : Addr) (zs : List Str) (i : Int), σ[js]? = some (some (.ref a)) ∧ σ[jz]? = some (some (.int i)) ∧ H1 a = some (.lst (zs.map V.str)) ∧ v = .ref r ∧ H1 r = some (.rng i zs.length) ∧ 0 ≤ i ∧ i ≤ zs.length ∧ zs.length ≤ 1000000 ∧ b = (List.range (zs.length - i.toNat)).all fun k => decide (zs[i.toNat + k]? = zs[k]?)) (tRng ta tb)
    | _ => fun _ _ _ => False
theorem xRep_ok {G : Gm} {n : Nat} {p : Str × Option Str} {js jz : Nat} (hm : G.mg "all" = none) (hm2 : G.mg "range" = none) (TB : GxR.TabB G.base G.mg (He.codeOf G.K p) (tabA G p)) : XOk G n (xRep G p js jz) := by
  intro c X W e xs ts R hc hp
  obtain rfl := R.g
  unfold xRep at hc ⊢
  simp only at hc ⊢
  split at hc
  · rename_i f ys q1 x q2 q3 ys' q4 x' q5 yz q6 q7 q8 q9 x'' q10 r yz' q11 b q12 scope gpos pos
    split at hc
    · rename_i hh
      cases hc
      simp only [Bool.and_eq_true, Bool.not_eq_true', decide_eq_true_eq] at hh
      obtain ⟨⟨⟨⟨⟨⟨⟨⟨⟨⟨⟨⟨⟨⟨⟨⟨⟨⟨h0, h1⟩, h2⟩, h3⟩, h4⟩, h5⟩, h6⟩, h7⟩, h8⟩, h9⟩, h10⟩, h11⟩, h12⟩, h13⟩, h14⟩, h15⟩, h16⟩, h17⟩, h18⟩ := hh
      subst h3 h4 h5 h6
      obtain ⟨w1, rfl, g2, g3⟩ := isGl_ok h0
      obtain ⟨w2, rfl, g4, g5⟩ := isGl_ok h1
      cases hp with
      | cons he hs hr =>
        cases hr with
        | cons he2 hs2 hr =>
          cases hr
          have hcode := R.cd p h2
          rw [← R.sc] at h9 h12 h13
          rw [← R.N] at h7 h8
          refine ⟨fun pins s σ H Q I hw => ?_⟩
          have S := genS_by I.ok h9
          refine (pe_allG R.room (R.gl g2) hm TB hcode S (pe_callTy cr_range2 (R.gl g4) hm2 (by decide +kernel) (pa_cons he (pa_cons he2 pa_nil (star_cons hs2)) (star_cons hs)) (by decide +kernel) (by decide +kernel) (star_cons hs) (pa_star fun z hz => by rw [List.mem_singleton.mp hz]; exact hs2)) h17 (fun v => rfl) (fun pins σ s1 v u H1 b I1 rv hT ans => ?_)).run pins s σ H Q I hw
          obtain ⟨a, r, zs, i, e1, e2, e3, rfl, e4, e5, e6, e7, rfl⟩ := ans
          obtain rfl : u = Value.ref r := rv
          obtain ⟨tt, uu, vv, hr⟩ := (show ObjOk _ _ _ _ _ (.rng i zs.length) from I1.hok _ _ e4)
          obtain ⟨ps, hP, _⟩ := hT
          obtain ⟨u1, ca, r1, l1, c1, n1⟩ := free_cell I1 S h7 (.inr (.inl h12)) (by rw [h12]; simp) e1 h10
          obtain ⟨u2, cz, r2, l2, c2, n2⟩ := free_cell I1 S h8 (.inr (.inl h13)) (by rw [h13]; simp) e2 h11
          obtain rfl : u1 = Value.ref a := r1
          obtain ⟨tz, rfl⟩ := r2
          obtain ⟨its, rv2, pl, _⟩ := I1.list (.inl (.inl e3))
          have hN : ((zs.length : Int) - i).toNat = zs.length - i.toNat := by omega
          refine ⟨(zs.length - i).toNat, _, _, git_rng hr e5 e6 (by omega), gel_rep (j := zs.length) S l1 l2 c1 c2 (fun w => by rw [w, hP] at n1; cases n1) (fun w => by rw [w, hP] at n2; cases n2) (fun w => by rw [w, hP] at e3; cases e3) pl.isList rv2 e5 rfl e7 h10 h11 h14 h15 h16, ?_⟩
          rw [hN]
    · cases hc
  · cases hc
theorem r_xRep {G : Gm} {p : Str × Option Str} {js jz : Nat} {ta tb : TE} {W : WX} : (xRep G p js jz).rd [ta, tb] W = tAllG (tabA G p) (fun σ v H1 b => ∃ (a r : Addr) (zs : List Str) (i : Int), σ[js]? = some (some (.ref a)) ∧ σ[jz]? = some (some (.int i)) ∧ H1 a = some (.lst (zs.map V.str)) ∧ v = .ref r ∧ H1 r = some (.rng i zs.length) ∧ 0 ≤ i ∧ i ≤ zs.length ∧ zs.length ≤ 1000000 ∧ b = (List.range (zs.length - i.toNat)).all fun k => decide (zs[i.toNat + k]? = zs[k]?)) (tRng ta tb) := rfl
/-! ### {} to be keyed by tuples -/
def xDictT : XOp where
  ck := fun _ e => match e with
    | .Dict [] [] _ => some []
    | _ => none
  rd := fun _ _ _ H Q => New H (.dT []) fun p H1 => Q (.ref p) H1
theorem xDictT_ok {G : Gm} {n : Nat} : XOk G n xDictT := by
  intro c X W x xs ts R hc hp
  unfold xDictT at hc ⊢
  simp only at hc ⊢
  split at hc
  · exact pe_dnewT
  · cases hc
theorem r_xDictT {ts : List TE} {W : WX} : xDictT.rd ts W = fun _ H Q => New H (.dT []) fun p H1 => Q (.ref p) H1 := rfl
theorem Xt.dT {M : Addr → Prop} {H H' : Hp} {a : Addr} (e : Xt M H H') (m : ¬ M a) {xs : List (List Key × V)} (h : H a = some (.dT xs)) : H' a = some (.dT xs) := e.ob a _ m h (fun _ z => by cases z)
theorem itDT {G : Gm} {p b : Addr} {kvs : List (List Key × V)} {k : List Key} {v : V} {H : Hp} {Q : VK} (g : H p = some (.dT kvs)) (gb : H b = some (.tup (k.map kV))) (e : valV kvs k = some v) (q : Q v H) : rIxG G (.ref p) (.ref b) H Q := .inr (.inr ⟨p, v, rfl, e ▸ DGet.t g gb, q⟩)
theorem chT {H : Hp} {b : Addr} {o : HO} {kvs : List (List Key × V)} {R : Hp → Prop} (h1 : H b = some (.dT kvs)) (h : ∀ H', ExtB b H H' → H' b = some o → R H') : R (upd H b o) :=
  h _ ⟨fun a u m e _ => by rw [upd_ne (fun z => m (by rw [z]))]; exact e, fun _ => upd_dm, fun _ => tg_upd (fun ps z => by rw [h1] at z; cases z), fun _ => ts_upd (fun ps z => by rw [h1] at z; cases z) (fun q z => by rw [h1] at z; cases z)⟩ upd_same
theorem setDT {p b : Addr} {kvs : List (List Key × V)} {k : List Key} {v : V} {H : Hp} {Q : Hp → Prop} (hx : H p = some (.dT kvs)) (gb : H b = some (.tup (k.map kV))) (hl : kvs.length < sizeLine) (h : ∀ H', ExtB p H H' → H' p = some (.dT (putK kvs k v)) → Q H') : gIxG (.ref p) (.ref b) v H Q := .inr ⟨p, _, rfl, DPut.t hx gb hl, chT (R := Q) hx h⟩
/-! ### f-strings of texts and whole numbers -/
def fsGo : List (Option Str) → List Expr → Option (List Expr)
  | [], [] => some []
  | none :: l, .FormattedValue e n none _ :: es => if (decide (n = -1) && notStar e) = true then (fsGo l es).map (e :: ·) else none
  | some z :: l, .Constant (.str z') _ _ :: es => if z' = z then fsGo l es else none
  | _, _ => none
def fsTE : List (Option Str) → List TE → List TE
  | [], _ => []
  | none :: l, t :: ts => tFmt t :: fsTE l ts
  | some z :: l, ts => tC (.str z) :: fsTE l ts
  | none :: l, [] => (fun _ _ _ => False) :: fsTE l []
def xFS (l : List (Option Str)) : XOp where
  ck := fun _ e => match e with
    | .JoinedStr (a :: b :: es) _ => fsGo l (a :: b :: es)
    | _ => none
  rd := fun ts _ => fun σ H Q => tJs (fsTE l ts) Str.empty σ H fun out H1 => Q (.str out) H1
theorem fs_pj {X : Cx} : ∀ (l : List (Option Str)) (es xs : List Expr) (ts : List TE), fsGo l es = some xs → PEs X xs ts → PJ X es (fsTE l ts)
  | [], [], xs, ts, h, hp => .nil
  | none :: l, .FormattedValue e n none pos :: es, xs, ts, h, hp => by
    unfold fsGo at h
    split at h
    · rename_i hh
      simp only [Bool.and_eq_true, decide_eq_true_eq] at hh
      obtain ⟨rfl, hs⟩ := hh
      obtain ⟨ys, hy, rfl⟩ := Option.map_eq_some_iff.mp h
      cases hp with
      | cons he hs hr => exact .cons (pe_fmt he) (fs_pj l es ys _ hy hr)
    · cases h
  | some z :: l, .Constant (.str z') k pos :: es, xs, ts, h, hp => by
    unfold fsGo at h
    split at h
    · rename_i hh
      subst hh
      exact .cons pe_str (fs_pj l es xs _ h hp)
    · cases h
theorem xFS_ok {G : Gm} {n : Nat} {l : List (Option Str)} : XOk G n (xFS l) := by
  intro c X W x xs ts R hc hp
  unfold xFS at hc ⊢
  simp only at hc ⊢
  split at hc
  · exact pe_joined (fs_pj _ _ _ _ hc hp)
  · cases hc
theorem r_xFS {l : List (Option Str)} {ts : List TE} {W : WX} : (xFS l).rd ts W = fun σ H Q => tJs (fsTE l ts) Str.empty σ H fun out H1 => Q (.str out) H1 := rfl
end Kn

/-! P0: what is asked of a def; numbers. -/
namespace Kn
open PySem PySem.Spec PyProof.Rows L2
local macro_rules | `(tactic| walk_at "rd") => `(tactic| simp only [ss_nil, s_asg, s_par2, s_aug, s_ret, s_retN, s_exp, s_iff, s_pass, s_brk, s_cnt, s_rs1, s_for1, s_for2, s_forp, s_forz, s_whl, s_try, e_var, e_glb, e_bty, e_cst, e_bin, e_neg, e_cmp, e_cm2, e_and, e_or, e_not, e_ite, e_lst, e_tup, e_sub, e_slc, e_bif, e_bm0, e_bm, e_call, e_calk, e_lc1, e_lc2, e_lcp, e_lcx, s_forx, r_xEnum, r_xSetSorted, r_xAllIn, r_xDict0, r_xDict1, r_xListRng1, r_xListRng2, r_xKeys, r_xJoin, r_xDPop, r_xRng3, r_xItems, r_xReprN, s_wr, tDPop1, r_lkOp, tLockE, tM1, rJoin, e_xop, e_lam, s_xst, t_xtg, su_xsu, rdL, tBreak, tCont, su_lst, su_ret, rdSEs, rdSE, tXf, wipe, tYes, LcS, Ends.gone, rdEs, rdT, rdTs, rdTgs, rdO, tSeq, tRet, tRetN, tDrop, tNext, tIfS, tAndV, tOrV, tNotV, tAnd, tOr, tNot, tTest, tOp, tUn, tCB, tCons, tNil, tVar, tC, nTup, nLst, tChain, tAsg, tPar, tAug, tBM, tBM0, tSl, tPart, tNoPart, tIf, gName, gSub, gc1, gn0, t_nm, t_ix, t_tp, rBin, rCmp, rBf, rBm, rIsiG, rIntB, rAddG, rSubG, rMulG, rDivG, rModG, rPowG, rShlG, rShrG, rAndG, rNegG, rLenG, rMaxG, rMinG, rIntG, rStrG, rIsG, rIsNotG, tTruG, TruV, btyV, btyB, bmTy, L2.start, List.getElem?_cons_zero, List.getElem?_cons_succ, Option.some.injEq, exists_eq_left', exists_eq_left, V.bl.injEq, V.int.injEq, V.str.injEq, V.ref.injEq, true_and, and_true, or_false, false_or, List.set_cons_zero, List.set_cons_succ, List.map_cons, List.map_nil, List.length_cons, List.length_nil, List.replicate_succ, List.replicate_zero, List.cons_append, List.nil_append, List.append_nil, Nat.sub_self, Nat.zero_add, Nat.add_sub_cancel, ite_true, ite_false, if_true, if_false, reduceIte, Bool.not_true, Bool.not_false, Bool.false_eq_true, reduceCtorEq, false_and, and_false, Nat.reduceAdd, Nat.reduceSub, tabIsi, okTy, tyS, decide_true, decide_false, Bool.or_true, Bool.true_or, Bool.false_or, Bool.or_false, Bool.and_true, Bool.true_and, Bool.and_false, Bool.false_and, String.reduceEq, exists_const, exists_false, Int.zero_add, List.cons.injEq, Int.reduceAdd, Int.reduceMul, Int.reduceNeg, Int.reduceSub, Int.reducePow, Int.reduceToNat])
local macro_rules | `(tactic| walk_at "gd") => `(tactic| simp only [askS, cauS, GdSs, GdS, GdE, GdEs, GdT, GdTs, GdTg, GdTgs, GdSrc, GdHs, GdSu, GdSE, and_true, true_and, btyB, bfName])
local macro_rules | `(tactic| walk_at "st") => `(tactic| repeat (first | refine ss_cons ?_ | walk_at "rd"))

/-- the question of a body -/
abbrev Asks (G : Gm) (b : Ss) (N : List Str) (sp : Sp) : Prop := ∀ vs H Q E, sp vs H Q E → rdSs G b (fun cls d _ H => E cls d H) { nx := fun _ H' => Q .non H', rt := Q } (L2.start N vs) H
theorem str_app (a b : Str) : (a ++ b).cps.toList = a.cps.toList ++ b.cps.toList := by
  show (a.cps ++ b.cps).toList = _
  rw [Array.toList_append]
theorem len_app (a b : Str) : (a ++ b).length = a.length + b.length := by
  show (a.cps ++ b.cps).size = a.cps.size + b.cps.size
  rw [Array.size_append]
theorem len_list (z : Str) : z.length = z.cps.toList.length := by simp [Str.length]
theorem repS_len (z : Str) (k : Int) : (repS z k).length = z.length * k.toNat := by
  rw [len_list, len_list]
  unfold repS
  show (List.flatten (List.replicate k.toNat z.cps.toList)).length = _
  rw [List.length_flatten, List.map_replicate, List.sum_replicate_nat, Nat.mul_comm]
theorem eqv_nil {ds : List PyData} : PyData.eqv (.list ds) (.list []) = ds.isEmpty := by
  cases ds <;> simp [PyData.eqv, PyData.eqvAll]
/-- a value whose kind is known -/
def Known (H : Hp) (v : V) : Prop := match v with
  | .ref a => ∃ m, kindAt H a m
  | .non => True
  | .bl _ => True
  | .int _ => True
  | .str _ => True
  | _ => False
theorem Known.ext {H H' : Hp} {v : V} (e : Ext H H') (h : Known H v) : Known H' v := by
  unfold Known at h ⊢
  split at h
  · rename_i a
    obtain ⟨m, hm⟩ := h
    refine ⟨m, ?_⟩
    unfold kindAt at hm ⊢
    split at hm
    · rename_i xs g; rw [e.lst id g]; exact hm
    · rename_i xs g; rw [e.tup id g]; exact hm
    · rename_i xs g; rw [e.dK id g]; exact hm
    · exact hm.elim
  all_goals first | trivial | exact h
theorem kind_not {H : Hp} {a : Addr} {m : String} (h : kindAt H a m) : m ≠ "int" ∧ m ≠ "bool" ∧ m ≠ "str" := by
  unfold kindAt at h
  split at h
  · subst h; decide
  · subst h; decide
  · subst h; decide
  · exact h.elim
theorem rz_of {G : Gm} {x f : Str} {v : V} {H : Hp} {E : XK} (h : Rz G x f v H E) : ∀ d, H d = none → E (clV G x) (some d) (upd H d (.xd [(f, v)])) := fun d hd => h d _ hd (Ext.new hd) upd_same
theorem clA_of {G : Gm} {x : Str} {d : Addr} (h : G.mg x = some (.ref d)) : clA G x = d := by
  unfold clA
  rw [h]
theorem clV_of {G : Gm} {x : Str} {d : Addr} (h : G.mg x = some (.ref d)) : clV G x = .ref d := by
  unfold clV
  rw [h]
  rfl
def wholeV (v : V) (lo hi : Int) : Bool := match v with
  | .int i => decide (lo ≤ i) && decide (i ≤ hi)
  | _ => false
theorem wholeV_int {v : V} {lo hi : Int} (h : wholeV v lo hi = true) : ∃ i, v = .int i ∧ lo ≤ i ∧ i ≤ hi := by
  cases v with
  | int i =>
    simp only [wholeV, Bool.and_eq_true, decide_eq_true_eq] at h
    exact ⟨i, rfl, h⟩
  | _ => cases h
end Kn

/-! L1: the law's numbers. -/
namespace Kn
open PySem PySem.Spec PyProof.Rows L2
local macro_rules | `(tactic| walk_at "rd") => `(tactic| simp only [ss_nil, s_asg, s_par2, s_aug, s_ret, s_retN, s_exp, s_iff, s_pass, s_brk, s_cnt, s_rs1, s_for1, s_for2, s_forp, s_forz, s_whl, s_try, e_var, e_glb, e_bty, e_cst, e_bin, e_neg, e_cmp, e_cm2, e_and, e_or, e_not, e_ite, e_lst, e_tup, e_sub, e_slc, e_bif, e_bm0, e_bm, e_call, e_calk, e_lc1, e_lc2, e_lcp, e_lcx, s_forx, r_xEnum, r_xSetSorted, r_xAllIn, r_xDict0, r_xDict1, r_xListRng1, r_xListRng2, r_xKeys, r_xJoin, r_xDPop, r_xRng3, r_xItems, r_xReprN, s_wr, tDPop1, r_lkOp, tLockE, tM1, rJoin, e_xop, e_lam, s_xst, t_xtg, su_xsu, rdL, tBreak, tCont, su_lst, su_ret, rdSEs, rdSE, tXf, wipe, tYes, LcS, Ends.gone, rdEs, rdT, rdTs, rdTgs, rdO, tSeq, tRet, tRetN, tDrop, tNext, tIfS, tAndV, tOrV, tNotV, tAnd, tOr, tNot, tTest, tOp, tUn, tCB, tCons, tNil, tVar, tC, nTup, nLst, tChain, tAsg, tPar, tAug, tBM, tBM0, tSl, tPart, tNoPart, tIf, gName, gSub, gc1, gn0, t_nm, t_ix, t_tp, rBin, rCmp, rBf, rBm, rIsiG, rIntB, rAddG, rSubG, rMulG, rDivG, rModG, rPowG, rShlG, rShrG, rAndG, rNegG, rLenG, rMaxG, rMinG, rIntG, rStrG, rIsG, rIsNotG, tTruG, TruV, btyV, btyB, bmTy, L2.start, List.getElem?_cons_zero, List.getElem?_cons_succ, Option.some.injEq, exists_eq_left', exists_eq_left, V.bl.injEq, V.int.injEq, V.str.injEq, V.ref.injEq, true_and, and_true, or_false, false_or, List.set_cons_zero, List.set_cons_succ, List.map_cons, List.map_nil, List.length_cons, List.length_nil, List.replicate_succ, List.replicate_zero, List.cons_append, List.nil_append, List.append_nil, Nat.sub_self, Nat.zero_add, Nat.add_sub_cancel, ite_true, ite_false, if_true, if_false, reduceIte, Bool.not_true, Bool.not_false, Bool.false_eq_true, reduceCtorEq, false_and, and_false, Nat.reduceAdd, Nat.reduceSub, tabIsi, okTy, tyS, decide_true, decide_false, Bool.or_true, Bool.true_or, Bool.false_or, Bool.or_false, Bool.and_true, Bool.true_and, Bool.and_false, Bool.false_and, String.reduceEq, exists_const, exists_false, Int.zero_add, List.cons.injEq, Int.reduceAdd, Int.reduceMul, Int.reduceNeg, Int.reduceSub, Int.reducePow, Int.reduceToNat])
local macro_rules | `(tactic| walk_at "gd") => `(tactic| simp only [askS, cauS, GdSs, GdS, GdE, GdEs, GdT, GdTs, GdTg, GdTgs, GdSrc, GdHs, GdSu, GdSE, and_true, true_and, btyB, bfName])
local macro_rules | `(tactic| walk_at "st") => `(tactic| repeat (first | refine ss_cons ?_ | walk_at "rd"))

def cellOf (ns : List Int) (k : Int) (c : Int) : Prop := (0 ≤ k ∧ ∃ x, ns[k.toNat]? = some x ∧ c = x) ∨ ns.length ≤ k
def sp__law_cell (G : Gm) : Sp := fun vs H Q _ => match vs with
  | [.ref p, .int k] => 0 ≤ k ∧ k < 1000 ∧ ∃ ns : List Int, ns.length ≤ 1000 ∧ SqL G.K H p (ns.map V.int) ∧ ∀ c, Q (.int c) H
  | _ => False
def n__law_cell : List Str := ["script", "k"]
def b__law_cell (G : Gm) : Ss := (.cons (.iff (.cmp .Lt (.var 1) (.bif .len (.cons (.var 0) .nil))) (.cons (.ret (.sub (.var 0) (.var 1))) .nil) .nil) (.cons (.ret (.bin .Add (.bin .Mult (.cst (.int 86028121)) (.var 1)) (.cst (.int 42)))) .nil))
theorem q_cell (G : Gm) : Asks G (b__law_cell G) n__law_cell (sp__law_cell G) := by
  intro vs H Q E h
  unfold sp__law_cell at h
  split at h
  · rename_i p k
    obtain ⟨k0, k1, ns, hn, hs, q⟩ := h
    unfold b__law_cell n__law_cell
    walk_at "st"
    refine .inl ⟨ns.map V.int, hs, ?_⟩
    by_cases c : k < ((ns.map V.int).length : Int)
    · simp only [c, decide_true, if_true]
      walk_at "st"
      have c' : k.toNat < ns.length := by rw [List.length_map] at c; omega
      refine ixL (v := .int ns[k.toNat]) hs (atI_nat k0 ?_) (q _)
      rw [List.getElem?_map, List.getElem?_eq_getElem c']
      rfl
    · simp only [c, decide_false, if_false, Bool.false_eq_true]
      walk_at "st"
      exact ⟨.inl ⟨by omega, by omega⟩, q _⟩
  · exact h.elim
/-- a box of numbers -/
def Bx (H : Hp) (p : Addr) (t : Int) : Prop := ∃ a b c : Int, H p = some (.lst [.int a, .int b, .int c, .int t]) ∧ 0 ≤ a ∧ 0 ≤ b ∧ b < 2147483648 ∧ 0 ≤ c ∧ c < 2147483648 ∧ 0 ≤ t
theorem Bx.ext {M : Addr → Prop} {H H' : Hp} {p : Addr} {t : Int} (e : Xt M H H') (m : ¬ M p) (h : Bx H p t) : Bx H' p t := by
  obtain ⟨a, b, c, g, r⟩ := h
  exact ⟨a, b, c, e.lst m g, r⟩
theorem Bx.extb {H H' : Hp} {p q : Addr} {t : Int} (e : ExtB q H H') (h : Bx H p t) (hq : ∀ xs, H q = some (.lst xs) → q ≠ p) (g : ∃ xs, H q = some (.lst xs)) : Bx H' p t := by
  obtain ⟨xs, g⟩ := g
  exact h.ext e (fun w => hq xs g w.symm)
theorem Bx.lst {H : Hp} {p : Addr} {t : Int} (h : Bx H p t) : ∃ xs, H p = some (.lst xs) := by
  obtain ⟨a, b, c, g, _⟩ := h
  exact ⟨_, g⟩
theorem Bx.ne {H : Hp} {p q : Addr} {t : Int} (h : Bx H p t) (hq : H q = none) : q ≠ p := fun w => by
  obtain ⟨xs, g⟩ := h.lst
  rw [w, g] at hq
  cases hq
def sp__law_box (G : Gm) : Sp := fun vs H Q _ => match vs with
  | [.int _] => ∀ p H', H p = none → Ext H H' → Bx H' p 0 → Q (.ref p) H'
  | _ => False
def n__law_box : List Str := ["cell"]
def b__law_box (G : Gm) : Ss := (.cons (.ret (.lst (.cons (.bif .max (.cons (.cst (.int 0)) (.cons (.bin .Sub (.var 0) (.bin .Pow (.cst (.int 10)) (.cst (.int 18)))) .nil))) (.cons (.bin .Mod (.var 0) (.cst (.int 2147483629))) (.cons (.bin .Mod (.var 0) (.cst (.int 2147483587))) (.cons (.cst (.int 0)) .nil)))))) .nil)
theorem q_box (G : Gm) : Asks G (b__law_box G) n__law_box (sp__law_box G) := by
  intro vs H Q E h
  unfold sp__law_box at h
  split at h
  · rename_i c
    unfold b__law_box n__law_box
    walk_at "st"
    refine ⟨⟨by omega, by omega, by decide⟩, by omega, by omega, by decide, New.i fun p H' hp e g => ?_⟩
    refine h p H' hp e ⟨_, _, _, g, ?_, ?_, ?_, ?_, ?_, ?_⟩
    · split <;> omega
    · omega
    · omega
    · omega
    · omega
    · omega
  · exact h.elim
def sp__law_take (G : Gm) : Sp := fun vs H Q _ => match vs with
  | [.ref p, .int m] => 0 < m ∧ m < 2 ^ 62 ∧ ∃ t, Bx H p t ∧ t < 1000000 ∧ ∀ d t' H', 0 ≤ d → d < m → t' ≤ t + 1 → Bx H' p t' → ExtB p H H' → Q (.int d) H'
  | _ => False
def n__law_take : List Str := ["box", "many", "digit", "turn", "one"]
def b__law_take (G : Gm) : Ss := (.cons (.iff (.cmp .Gt (.sub (.var 0) (.cst (.int 0))) (.cst (.int 0))) (.cons (.asg (.nm 2) (.bin .Mod (.sub (.var 0) (.cst (.int 0))) (.var 1))) (.cons (.asg (.ix (.var 0) (.cst (.int 0))) (.bin .FloorDiv (.sub (.var 0) (.cst (.int 0))) (.var 1))) (.cons (.ret (.var 2)) .nil))) .nil) (.cons (.asg (.ix (.var 0) (.cst (.int 3))) (.bin .Add (.sub (.var 0) (.cst (.int 3))) (.cst (.int 1)))) (.cons (.asg (.nm 3) (.sub (.var 0) (.cst (.int 3)))) (.cons (.asg (.nm 4) (.bin .Mod (.bin .Pow (.bin .Add (.bin .Add (.bin .Mult (.sub (.var 0) (.cst (.int 1))) (.bin .Add (.bin .Mult (.cst (.int 2)) (.var 3)) (.cst (.int 3)))) (.bin .Mult (.bin .Mult (.cst (.int 5387)) (.var 3)) (.var 3))) (.cst (.int 42))) (.cst (.int 5))) (.cst (.int 2147483647)))) (.cons (.ret (.bin .Mod (.bin .FloorDiv (.bin .Mod (.bin .Pow (.bin .Add (.bin .Add (.var 4) (.bin .Mult (.sub (.var 0) (.cst (.int 2))) (.var 3))) (.cst (.int 64))) (.cst (.int 3))) (.cst (.int 2147483579))) (.cst (.int 16))) (.var 1))) .nil)))))
theorem q_take (G : Gm) : Asks G (b__law_take G) n__law_take (sp__law_take G) := by
  intro vs H Q E h
  unfold sp__law_take at h
  split at h
  · rename_i p m
    obtain ⟨m0, m1, t, ⟨a, b, c, g, a0, b0, b1, c0, c1, t0⟩, t1, q⟩ := h
    unfold b__law_take n__law_take
    walk_at "st"
    refine itL g rfl ?_
    walk_at "st"
    by_cases ha : 0 < a
    · simp only [ha, decide_true, if_true]
      walk_at "st"
      refine itL g rfl ?_
      walk_at "st"
      refine ⟨m0, ?_⟩
      walk_at "st"
      refine itL g rfl ?_
      walk_at "st"
      refine ⟨⟨m0, by omega⟩, setL g rfl fun H1 e1 g1 => ?_⟩
      walk_at "st"
      refine q _ t H1 (Int.emod_nonneg _ (by omega)) (Int.emod_lt_of_pos _ m0) (by omega) ⟨a / m, b, c, g1, Int.ediv_nonneg a0 (by omega), b0, b1, c0, c1, t0⟩ e1
    · simp only [ha, decide_false, if_false, Bool.false_eq_true]
      walk_at "st"
      refine itL g rfl ?_
      walk_at "st"
      refine setL g rfl fun H1 e1 g1 => ?_
      walk_at "st"
      refine itL g1 rfl ?_
      walk_at "st"
      refine itL g1 rfl ?_
      walk_at "st"
      have s0 : 0 ≤ t + 1 := by omega
      have p1 : 0 ≤ b * (2 * (t + 1) + 3) := Int.mul_nonneg b0 (by omega)
      have p2 : b * (2 * (t + 1) + 3) ≤ 2147483648 * 2000005 := Int.mul_le_mul (by omega) (by omega) (by omega) (by omega)
      have p3 : 0 ≤ 5387 * (t + 1) * (t + 1) := Int.mul_nonneg (by omega) s0
      have p4 : 5387 * (t + 1) * (t + 1) ≤ 5387 * 1000000 * 1000000 := Int.mul_le_mul (by omega) (by omega) s0 (by omega)
      refine ⟨.inl ⟨by omega, by omega⟩, .inl ⟨by omega, by omega⟩, .inl ⟨by omega, by omega⟩, .inl ⟨by omega, by omega⟩, ⟨by omega, by omega, by omega⟩, by omega, ?_⟩
      walk_at "st"
      refine itL g1 rfl ?_
      walk_at "st"
      generalize hX : (b * (2 * (t + 1) + 3) + 5387 * (t + 1) * (t + 1) + 42) ^ 5 % 2147483647 = X
      have x0 : 0 ≤ X := by rw [← hX]; exact Int.emod_nonneg _ (by omega)
      have x1 : X < 2147483647 := by rw [← hX]; exact Int.emod_lt_of_pos _ (by omega)
      have p5 : 0 ≤ c * (t + 1) := Int.mul_nonneg c0 s0
      have p6 : c * (t + 1) ≤ 2147483648 * 1000000 := Int.mul_le_mul (by omega) (by omega) s0 (by omega)
      refine ⟨.inl ⟨by omega, by omega⟩, ⟨by omega, by omega, by omega⟩, by omega, ⟨by omega, by omega⟩, m0, ?_⟩
      exact q _ (t + 1) H1 (Int.emod_nonneg _ (by omega)) (Int.emod_lt_of_pos _ m0) (by omega) ⟨a, b, c, g1, a0, b0, b1, c0, c1, s0⟩ e1
  · exact h.elim

end Kn

/-! R1: what is refused, told again. -/
namespace Kn
open PySem PySem.Spec PyProof.Rows L2
local macro_rules | `(tactic| walk_at "rd") => `(tactic| simp only [ss_nil, s_asg, s_par2, s_aug, s_ret, s_retN, s_exp, s_iff, s_pass, s_brk, s_cnt, s_rs1, s_for1, s_for2, s_forp, s_forz, s_whl, s_try, e_var, e_glb, e_bty, e_cst, e_bin, e_neg, e_cmp, e_cm2, e_and, e_or, e_not, e_ite, e_lst, e_tup, e_sub, e_slc, e_bif, e_bm0, e_bm, e_call, e_calk, e_lc1, e_lc2, e_lcp, e_lcx, s_forx, r_xEnum, r_xSetSorted, r_xAllIn, r_xDict0, r_xDict1, r_xListRng1, r_xListRng2, r_xKeys, r_xJoin, r_xDPop, r_xRng3, r_xItems, r_xReprN, s_wr, tDPop1, r_lkOp, tLockE, tM1, rJoin, e_xop, e_lam, s_xst, t_xtg, su_xsu, rdL, tBreak, tCont, su_lst, su_ret, rdSEs, rdSE, tXf, wipe, tYes, LcS, Ends.gone, rdEs, rdT, rdTs, rdTgs, rdO, tSeq, tRet, tRetN, tDrop, tNext, tIfS, tAndV, tOrV, tNotV, tAnd, tOr, tNot, tTest, tOp, tUn, tCB, tCons, tNil, tVar, tC, nTup, nLst, tChain, tAsg, tPar, tAug, tBM, tBM0, tSl, tPart, tNoPart, tIf, gName, gSub, gc1, gn0, t_nm, t_ix, t_tp, rBin, rCmp, rBf, rBm, rIsiG, rIntB, rAddG, rSubG, rMulG, rDivG, rModG, rPowG, rShlG, rShrG, rAndG, rNegG, rLenG, rMaxG, rMinG, rIntG, rStrG, rIsG, rIsNotG, tTruG, TruV, btyV, btyB, bmTy, L2.start, List.getElem?_cons_zero, List.getElem?_cons_succ, Option.some.injEq, exists_eq_left', exists_eq_left, V.bl.injEq, V.int.injEq, V.str.injEq, V.ref.injEq, true_and, and_true, or_false, false_or, List.set_cons_zero, List.set_cons_succ, List.map_cons, List.map_nil, List.length_cons, List.length_nil, List.replicate_succ, List.replicate_zero, List.cons_append, List.nil_append, List.append_nil, Nat.sub_self, Nat.zero_add, Nat.add_sub_cancel, ite_true, ite_false, if_true, if_false, reduceIte, Bool.not_true, Bool.not_false, Bool.false_eq_true, reduceCtorEq, false_and, and_false, Nat.reduceAdd, Nat.reduceSub, tabIsi, okTy, tyS, decide_true, decide_false, Bool.or_true, Bool.true_or, Bool.false_or, Bool.or_false, Bool.and_true, Bool.true_and, Bool.and_false, Bool.false_and, String.reduceEq, exists_const, exists_false, Int.zero_add, List.cons.injEq, Int.reduceAdd, Int.reduceMul, Int.reduceNeg, Int.reduceSub, Int.reducePow, Int.reduceToNat])
local macro_rules | `(tactic| walk_at "gd") => `(tactic| simp only [askS, cauS, GdSs, GdS, GdE, GdEs, GdT, GdTs, GdTg, GdTgs, GdSrc, GdHs, GdSu, GdSE, and_true, true_and, btyB, bfName])
local macro_rules | `(tactic| walk_at "st") => `(tactic| repeat (first | refine ss_cons ?_ | walk_at "rd"))

/-- a plain value that may be shown -/
def okI (i : Int) : Bool := decide (i.natAbs < 10 ^ 18) || decide (i = 10 ^ 29)
def okD : V → Bool
  | .non => true
  | .bl _ => true
  | .int i => okI i
  | .str z => PyData.strOk z && decide (z.length ≤ 9000)
  | _ => false
theorem okD_pln {v : V} (h : okD v = true) : plnV v = true := by
  cases v <;> first | rfl | cases h
theorem fd_big : Fd 0 0 (.int (10 ^ 29)) where
  sh := by simp only [PyData.showable]; decide +kernel
  hd := by simp only [PyData.hasDict]
  cl := by simp only [PyData.canLay0]
  dp := by simp only [PyData.depth]; exact Nat.le.refl
  lv := by simp only [PyData.leavesShort]; decide +kernel
  bk := by simp only [PyData.bulk]; exact Nat.le.refl
theorem okD_fd {v : V} (h : okD v = true) : Fd 0 9000 (dV v) := by
  cases v with
  | non => exact Fd.non.mono (by decide) (by decide)
  | bl b => exact Fd.bl.mono (by decide) (by decide)
  | int i =>
    rcases Bool.or_eq_true_iff.mp h with h | h
    · exact (Fd.int (of_decide_eq_true h)).mono (by decide) (by decide)
    · have e : i = 10 ^ 29 := of_decide_eq_true h
      subst e
      exact fd_big.mono (by decide) (by decide)
  | str z =>
    obtain ⟨h1, h2⟩ := Bool.and_eq_true_iff.mp h
    exact Fd.str h1 (of_decide_eq_true h2)
  | _ => cases h
def moreS : Str := "more"
/-- a value that is told of an error: plain, a list, a tuple, a dict of plain values -/
inductive Odd (K : PySem.W.Frag) (H : Hp) : V → Prop
  | pl {v : V} (h : okD v = true) : Odd K H v
  | ls {a : Addr} {xs : List V} {ds : List PyData} {k n : Nat} (g : H a = some (.lst xs)) (hl : xs.length ≤ 5000) (hd : ∀ H', ExtB a H H' → DpAll K H' xs ds) (f : FdAll k n ds) (hk : k ≤ 20) (hn : n ≤ 400000) : Odd K H (.ref a)
  | tp {a : Addr} {xs : List V} {ds : List PyData} {k n : Nat} (g : H a = some (.tup xs)) (hd : ∀ H', Ext H H' → DpAll K H' xs ds) (f : FdAll k n ds) (hk : k ≤ 20) (hn : n ≤ 400000) : Odd K H (.ref a)
  | dk {a : Addr} {kvs : List (Key × V)} (g : H a = some (.dK kvs)) (hl : kvs.length ≤ 20) (hp : ∀ p ∈ kvs, okD (kV p.1) = true ∧ okD p.2 = true) (hm : ∀ p ∈ kvs, p.1 ≠ .inr moreS) : Odd K H (.ref a)
theorem Odd.ext {K : PySem.W.Frag} {H H' : Hp} {v : V} (e : Ext H H') (h : Odd K H v) : Odd K H' v := by
  cases h with
  | pl h => exact .pl h
  | ls g hl hd f hk hn => exact .ls (e.lst id g) hl (fun H2 e2 => hd H2 (e.any.trans e2)) f hk hn
  | tp g hd f hk hn => exact .tp (e.tup id g) (fun H2 e2 => hd H2 (e.trans e2)) f hk hn
  | dk g hl hp hm => exact .dk (e.dK id g) hl hp hm
theorem fdl {xs : List V} (h : ∀ v ∈ xs, okD v = true) : FdAll 0 (9001 * (xs.map dV).length) (xs.map dV) := FdAll.all fun d hd => by
  obtain ⟨v, hv, rfl⟩ := List.mem_map.mp hd
  exact okD_fd (h v hv)
theorem Odd.lst {K : PySem.W.Frag} {H : Hp} {a : Addr} {xs : List V} (g : H a = some (.lst xs)) (h : ∀ v ∈ xs, okD v = true) (hl : xs.length ≤ 40) : Odd K H (.ref a) :=
  .ls g (by omega) (fun _ _ => dpAll_flat fun v hv => okD_pln (h v hv)) (fdl h) (by decide) (by rw [List.length_map]; omega)
theorem Odd.tup {K : PySem.W.Frag} {H : Hp} {a : Addr} {xs : List V} (g : H a = some (.tup xs)) (h : ∀ v ∈ xs, okD v = true) (hl : xs.length ≤ 40) : Odd K H (.ref a) :=
  .tp g (fun _ _ => dpAll_flat fun v hv => okD_pln (h v hv)) (fdl h) (by decide) (by rw [List.length_map]; omega)
/-- changed, and changed back -/
theorem Xt.back {H H' : Hp} {a : Addr} {o : HO} (e : ExtB a H H') (h : H a = some o) (h' : H' a = some o) : Ext H H' := by
  refine ⟨fun b u _ hb t => ?_, e.dm, e.tg, e.ts⟩
  by_cases c : b = a
  · rw [c] at hb ⊢
    rw [h] at hb
    cases hb
    exact h'
  · exact e.ob b u c hb t
theorem more_ok : Fd 0 9000 (dV (.str moreS)) := okD_fd (v := .str moreS) (by decide +kernel)
theorem put_new {kvs : List (Key × V)} {k : Key} {v : V} (h : ∀ p ∈ kvs, p.1 ≠ k) : putK kvs k v = kvs ++ [(k, v)] := by
  unfold putK
  rw [if_neg]
  intro w
  obtain ⟨p, hp, e⟩ := List.any_eq_true.mp w
  exact h p hp (of_decide_eq_true e)
theorem drop_new {kvs : List (Key × V)} {k : Key} {v : V} (h : ∀ p ∈ kvs, p.1 ≠ k) : dropK (kvs ++ [(k, v)]) k = kvs := by
  unfold dropK
  rw [List.filter_append, List.filter_eq_self.mpr fun p hp => decide_eq_true (h p hp)]
  simp
theorem val_new {kvs : List (Key × V)} {k : Key} {v : V} (h : ∀ p ∈ kvs, p.1 ≠ k) : valV (kvs ++ [(k, v)]) k = some v := by
  unfold valV
  rw [List.find?_append, List.find?_eq_none.mpr fun p hp => by simpa using h p hp]
  simp
theorem dp_snoc {K : PySem.W.Frag} {H : Hp} {v : V} {d : PyData} (hv : Dp K H v d) : ∀ {xs : List V} {ds : List PyData}, DpAll K H xs ds → DpAll K H (xs ++ [v]) (ds ++ [d])
  | _, _, .nil => .cons hv .nil
  | _, _, .cons h t => .cons h (dp_snoc hv t)
theorem fd_snoc {k m : Nat} {d : PyData} (hd : Fd k m d) : ∀ {ds : List PyData} {n : Nat}, FdAll k n ds → FdAll k (n + 1 + m) (ds ++ [d])
  | [], n, h => (FdAll.cons hd FdAll.nil).mono Nat.le.refl (by have := h.bk; omega)
  | e :: r, n, h => by
    have h1 : Fd k e.bulk e := by
      have a := h.sh
      have b := h.hd
      have c := h.cl
      have f := h.dp
      have g := h.lv
      simp only [PyData.showableAll, Bool.and_eq_true] at a
      simp only [PyData.hasDictAll, Bool.or_eq_false_iff] at b
      simp only [PyData.canLayAll0, Bool.and_eq_true] at c
      simp only [PyData.depthAll] at f
      simp only [PyData.leavesShortAll, Bool.and_eq_true] at g
      exact ⟨a.1, b.1, c.1, by omega, g.1, Nat.le.refl⟩
    have h2 : FdAll k (PyData.bulkAll r) r := by
      have a := h.sh
      have b := h.hd
      have c := h.cl
      have f := h.dp
      have g := h.lv
      simp only [PyData.showableAll, Bool.and_eq_true] at a
      simp only [PyData.hasDictAll, Bool.or_eq_false_iff] at b
      simp only [PyData.canLayAll0, Bool.and_eq_true] at c
      simp only [PyData.depthAll] at f
      simp only [PyData.leavesShortAll, Bool.and_eq_true] at g
      exact ⟨a.2, b.2, c.2, by omega, g.2, Nat.le.refl⟩
    have h3 := h.bk
    simp only [PyData.bulkAll] at h3
    exact (FdAll.cons h1 (fd_snoc hd h2)).mono Nat.le.refl (by omega)
def sp__law_same (G : Gm) : Sp := fun vs H Q _ => match vs with
  | [.ref f, .ref d] => ∃ nm : Str, (∀ H', Ext H H' → Q (.bl true) H') ∧ ((H f = some (.lst [.str nm]) ∧ H d = some (.lst [.str nm])) ∨ ∃ v, H f = some (.lst [.str nm, v]) ∧ H d = some (.lst [.str nm, v]) ∧ Odd G.K H v ∧ v ≠ .ref f ∧ v ≠ .ref d)
  | _ => False
def n__law_same : List Str := ["found", "due", "alike"]
def b__law_same (G : Gm) : Ss := (.cons (.iff (.or (.cmp .NotEq (.bif .len (.cons (.var 0) .nil)) (.bif .len (.cons (.var 1) .nil))) (.cmp .NotEq (.sub (.var 0) (.cst (.int 0))) (.sub (.var 1) (.cst (.int 0))))) (.cons (.ret (.cst (.bl false))) .nil) .nil) (.cons (.iff (.cmp .Eq (.bif .len (.cons (.var 1) .nil)) (.cst (.int 1))) (.cons (.ret (.cst (.bl true))) .nil) .nil) (.cons (.iff (.val (.bif .isinstance (.cons (.sub (.var 1) (.cst (.int 1))) (.cons (.bty .list) .nil)))) (.cons (.exp (.bm .append (.sub (.var 1) (.cst (.int 1))) (.cons (.cst (.str "more")) .nil))) .nil) .nil) (.cons (.iff (.val (.bif .isinstance (.cons (.sub (.var 1) (.cst (.int 1))) (.cons (.bty .dict) .nil)))) (.cons (.asg (.ix (.sub (.var 1) (.cst (.int 1))) (.cst (.str "more"))) (.cst (.int 7))) .nil) .nil) (.cons (.asg (.nm 2) (.and (.cmp .Eq (.bif .repr (.cons (.sub (.var 0) (.cst (.int 1))) .nil)) (.bif .repr (.cons (.sub (.var 1) (.cst (.int 1))) .nil))) (.cmp .Eq (.bif .isinstance (.cons (.sub (.var 0) (.cst (.int 1))) (.cons (.bty .bool) .nil))) (.bif .isinstance (.cons (.sub (.var 1) (.cst (.int 1))) (.cons (.bty .bool) .nil)))))) (.cons (.iff (.val (.bif .isinstance (.cons (.sub (.var 1) (.cst (.int 1))) (.cons (.bty .list) .nil)))) (.cons (.exp (.bm .pop (.sub (.var 1) (.cst (.int 1))) .nil)) .nil) .nil) (.cons (.iff (.val (.bif .isinstance (.cons (.sub (.var 1) (.cst (.int 1))) (.cons (.bty .dict) .nil)))) (.cons (.exp (.xop xDPop (.cons (.sub (.var 1) (.cst (.int 1))) (.cons (.cst (.str "more")) .nil)))) .nil) .nil) (.cons (.ret (.var 2)) .nil))))))))
theorem popL {p : Addr} {xs : List V} {y : V} {H : Hp} {Q : VK} (hx : H p = some (.lst (xs ++ [y]))) (h : ∀ H', ExtB p H H' → H' p = some (.lst xs) → Q y H') : rPop (.ref p) [] H Q :=
  ⟨p, _, y, rfl, rfl, hx, by simp, by rw [List.dropLast_concat]; exact ch hx rfl h⟩
theorem q_same (G : Gm) : Asks G (b__law_same G) n__law_same (sp__law_same G) := by
  intro vs H Q E h
  unfold sp__law_same at h
  split at h
  · rename_i f d
    obtain ⟨nm, h, ⟨gf, gd⟩ | ⟨v, gf, gd, ho, nf, nd⟩⟩ := h
    · unfold b__law_same n__law_same
      walk_at "st"
      refine .inl ⟨_, .inl (.inl gf), .inl ⟨_, .inl (.inl gd), neS rfl ?_⟩⟩
      walk_at "st"
      refine itL gf rfl (itL gd rfl (neS rfl ?_))
      walk_at "st"
      refine .inl ⟨_, .inl (.inl gd), eqS rfl ?_⟩
      walk_at "st"
      exact h H Xt.refl
    · unfold b__law_same n__law_same
      walk_at "st"
      refine .inl ⟨_, .inl (.inl gf), .inl ⟨_, .inl (.inl gd), neS rfl ?_⟩⟩
      walk_at "st"
      refine itL gf rfl (itL gd rfl (neS rfl ?_))
      walk_at "st"
      refine .inl ⟨_, .inl (.inl gd), eqS rfl ?_⟩
      walk_at "st"
      cases ho with
      | pl hp =>
        have F := okD_fd hp
        have hp' := okD_pln hp
        cases v with
        | non =>
          refine itL gd rfl ?_
          walk_at "st"
          refine itL gd rfl ?_
          walk_at "st"
          refine itL gf rfl ?_
          refine reprV (dp_flat hp') F (by decide) (by decide) ?_
          walk_at "st"
          refine itL gd rfl ?_
          refine reprV (dp_flat hp') F (by decide) (by decide) ?_
          refine eqS rfl ?_
          walk_at "st"
          refine itL gf rfl ?_
          walk_at "st"
          refine itL gd rfl ?_
          walk_at "st"
          refine eqS rfl ?_
          walk_at "st"
          refine itL gd rfl ?_
          walk_at "st"
          refine itL gd rfl ?_
          walk_at "st"
          exact h H Xt.refl
        | bl b =>
          refine itL gd rfl ?_
          walk_at "st"
          refine itL gd rfl ?_
          walk_at "st"
          refine itL gf rfl ?_
          refine reprV (dp_flat hp') F (by decide) (by decide) ?_
          walk_at "st"
          refine itL gd rfl ?_
          refine reprV (dp_flat hp') F (by decide) (by decide) ?_
          refine eqS rfl ?_
          walk_at "st"
          refine itL gf rfl ?_
          walk_at "st"
          refine itL gd rfl ?_
          walk_at "st"
          refine eqS rfl ?_
          walk_at "st"
          refine itL gd rfl ?_
          walk_at "st"
          refine itL gd rfl ?_
          walk_at "st"
          exact h H Xt.refl
        | int i =>
          refine itL gd rfl ?_
          walk_at "st"
          refine itL gd rfl ?_
          walk_at "st"
          refine itL gf rfl ?_
          refine reprV (dp_flat hp') F (by decide) (by decide) ?_
          walk_at "st"
          refine itL gd rfl ?_
          refine reprV (dp_flat hp') F (by decide) (by decide) ?_
          refine eqS rfl ?_
          walk_at "st"
          refine itL gf rfl ?_
          walk_at "st"
          refine itL gd rfl ?_
          walk_at "st"
          refine eqS rfl ?_
          walk_at "st"
          refine itL gd rfl ?_
          walk_at "st"
          refine itL gd rfl ?_
          walk_at "st"
          exact h H Xt.refl
        | str z =>
          refine itL gd rfl ?_
          walk_at "st"
          refine itL gd rfl ?_
          walk_at "st"
          refine itL gf rfl ?_
          refine reprV (dp_flat hp') F (by decide) (by decide) ?_
          walk_at "st"
          refine itL gd rfl ?_
          refine reprV (dp_flat hp') F (by decide) (by decide) ?_
          refine eqS rfl ?_
          walk_at "st"
          refine itL gf rfl ?_
          walk_at "st"
          refine itL gd rfl ?_
          walk_at "st"
          refine eqS rfl ?_
          walk_at "st"
          refine itL gd rfl ?_
          walk_at "st"
          refine itL gd rfl ?_
          walk_at "st"
          exact h H Xt.refl
        | _ => cases hp
      | ls g hl hd fa hk hn =>
        rename_i a xs ds k n
        have na : f ≠ a := fun w => nf (by rw [w])
        have nb : d ≠ a := fun w => nd (by rw [w])
        have kd : ∀ {H' : Hp} {ys : List V}, H' a = some (.lst ys) → kindAt H' a "list" := fun {H' ys} e => by unfold kindAt; rw [e]
        refine itL gd rfl ?_
        walk_at "st"
        refine ⟨"list", kd g, ?_⟩
        walk_at "st"
        refine itL gd rfl ?_
        walk_at "st"
        refine ⟨tyL g, appL g (lt_size (by omega)) fun H1 e1 g1 => ?_⟩
        have gf1 := e1.lst na gf
        have gd1 := e1.lst nb gd
        walk_at "st"
        refine itL gd1 rfl ?_
        walk_at "st"
        refine ⟨"list", kd g1, ?_⟩
        walk_at "st"
        have D1 : Dp G.K H1 (.ref a) (.list (ds ++ [dV (.str moreS)])) := .lst (.inl (.inl g1)) (dp_snoc (dp_flat rfl) (hd H1 e1))
        have F1 := Fd.list (fd_snoc (more_ok.mono (Nat.zero_le k) Nat.le.refl) fa)
        refine itL gf1 rfl ?_
        refine reprV D1 F1 (by omega) (by omega) ?_
        walk_at "st"
        refine itL gd1 rfl ?_
        refine reprV D1 F1 (by omega) (by omega) ?_
        refine eqS rfl ?_
        walk_at "st"
        refine itL gf1 rfl ?_
        walk_at "st"
        refine ⟨"list", kd g1, ?_⟩
        walk_at "st"
        refine itL gd1 rfl ?_
        walk_at "st"
        refine ⟨"list", kd g1, ?_⟩
        walk_at "st"
        refine eqS rfl ?_
        walk_at "st"
        refine itL gd1 rfl ?_
        walk_at "st"
        refine ⟨"list", kd g1, ?_⟩
        walk_at "st"
        refine itL gd1 rfl ?_
        walk_at "st"
        refine ⟨tyL g1, popL g1 fun H2 e2 g2 => ?_⟩
        walk_at "st"
        refine itL (e2.lst nb gd1) rfl ?_
        walk_at "st"
        refine ⟨"list", kd g2, ?_⟩
        walk_at "st"
        exact h H2 (Xt.back (e1.trans e2) g g2)
      | tp g hd fa hk hn =>
        rename_i a xs ds k n
        have kd : kindAt H a "tuple" := by unfold kindAt; rw [g]
        have D1 : Dp G.K H (.ref a) (.tuple ds) := .tup (.inl (.inl g)) (hd H Xt.refl)
        have F1 := Fd.tuple fa
        refine itL gd rfl ?_
        walk_at "st"
        refine ⟨"tuple", kd, ?_⟩
        walk_at "st"
        refine itL gd rfl ?_
        walk_at "st"
        refine ⟨"tuple", kd, ?_⟩
        walk_at "st"
        refine itL gf rfl ?_
        refine reprV D1 F1 (by omega) (by omega) ?_
        walk_at "st"
        refine itL gd rfl ?_
        refine reprV D1 F1 (by omega) (by omega) ?_
        refine eqS rfl ?_
        walk_at "st"
        refine itL gf rfl ?_
        walk_at "st"
        refine ⟨"tuple", kd, ?_⟩
        walk_at "st"
        refine itL gd rfl ?_
        walk_at "st"
        refine ⟨"tuple", kd, ?_⟩
        walk_at "st"
        refine eqS rfl ?_
        walk_at "st"
        refine itL gd rfl ?_
        walk_at "st"
        refine ⟨"tuple", kd, ?_⟩
        walk_at "st"
        refine itL gd rfl ?_
        walk_at "st"
        refine ⟨"tuple", kd, ?_⟩
        walk_at "st"
        exact h H Xt.refl
      | dk g hl hp hm =>
        rename_i a kvs
        have na : f ≠ a := fun w => nf (by rw [w])
        have nb : d ≠ a := fun w => nd (by rw [w])
        have kd : ∀ {H' : Hp} {ys : List (Key × V)}, H' a = some (.dK ys) → kindAt H' a "dict" := fun {H' ys} e => by unfold kindAt; rw [e]
        refine itL gd rfl ?_
        walk_at "st"
        refine ⟨"dict", kd g, ?_⟩
        walk_at "st"
        refine itL gd rfl ?_
        walk_at "st"
        refine ⟨"dict", kd g, ?_⟩
        walk_at "st"
        refine itL gd rfl ?_
        walk_at "st"
        refine setD (k := .inr moreS) g (lt_size (by omega)) fun H1 e1 g1 => ?_
        rw [put_new hm] at g1
        have gf1 := e1.lst na gf
        have gd1 := e1.lst nb gd
        have hp2 : ∀ p ∈ kvs ++ [((.inr moreS : Key), V.int 7)], okD (kV p.1) = true ∧ okD p.2 = true := by
          intro p hq
          rcases List.mem_append.mp hq with w | w
          · exact hp p w
          · rw [List.mem_singleton.mp w]
            exact ⟨by decide +kernel, by decide +kernel⟩
        have h20 : (9000 + 9000 + 2) * (kvs ++ [((.inr moreS : Key), V.int 7)]).length ≤ 500000 := by
          rw [List.length_append, List.length_singleton]
          omega
        have R : ∀ {Q' : VK}, Q' (.str (dKv (kvs ++ [((.inr moreS : Key), V.int 7)])).shown) H1 → rReprG G [.ref a] H1 Q' := fun {Q'} q =>
          reprK g1 (fun p hq => okD_pln (hp2 p hq).2) (fun p hq => ⟨okD_fd (hp2 p hq).1, okD_fd (hp2 p hq).2⟩) h20 q
        walk_at "st"
        refine itL gf1 rfl ?_
        refine R ?_
        walk_at "st"
        refine itL gd1 rfl ?_
        refine R ?_
        refine eqS rfl ?_
        walk_at "st"
        refine itL gf1 rfl ?_
        walk_at "st"
        refine ⟨"dict", kd g1, ?_⟩
        walk_at "st"
        refine itL gd1 rfl ?_
        walk_at "st"
        refine ⟨"dict", kd g1, ?_⟩
        walk_at "st"
        refine eqS rfl ?_
        walk_at "st"
        refine itL gd1 rfl ?_
        walk_at "st"
        refine ⟨"dict", kd g1, ?_⟩
        walk_at "st"
        refine itL gd1 rfl ?_
        walk_at "st"
        refine ⟨"dict", kd g1, ?_⟩
        walk_at "st"
        refine itL gd1 rfl ?_
        refine ⟨a, rfl, .inl ⟨_, .inl g1⟩, ?_⟩
        refine ⟨_, .inr moreS, .int 7, g1, rfl, val_new hm, ?_⟩
        rw [drop_new hm]
        refine ch (R := fun H2 => _) g1 rfl fun H2 e2 g2 => ?_
        walk_at "st"
        exact h H2 (Xt.back (e1.trans e2) g g2)
  · exact h.elim
/-! ### if not _law_same(_law_caught(lambda: b), due): return False -/
section
variable {G : Gm} {p : Str × Option Str} {l : List (Str × Str)} {b : Kn.E} {j : Nat} {W : WX} {D : Ends} {σ : L2.St} {H : Hp} {d : Addr}
theorem askT (X : Exs G l) (hL : TabL H (tabA G p)) (hj : σ[j]? = some (some (.ref d))) (gd : H d = some (.lst [.str "told"]))
    (hb : ∀ (H1 : Hp) (E : XK) (K : VK), Ext H H1 → (∀ v H2, Ext H H2 → K v H2) → rdE G b (fun cls d _ H'' => E cls d H'') σ H1 K) (hD : ∀ H', Ext H H' → D.nx σ H') : rdS G (askS G (sp__law_same G) p l b (.var j)) W D σ H := by
  unfold askS
  walk_at "st"
  refine caught X hL fun H1 E K e1 err tell => hb H1 E K e1 fun v H2 e2 => tell v H2 e2 fun q H3 hq e3 gq => ?_
  refine ⟨.ref d, hj, "told", fun H4 e4 => ?_, .inl ⟨gq, e3.lst id gd⟩⟩
  walk_at "st"
  exact hD H4 (e3.trans e4)
theorem odd_at {K : PySem.W.Frag} {H : Hp} {a : Addr} (h : Odd K H (.ref a)) (n : H a = none) : False := by
  cases h with
  | pl h => cases h
  | ls g => rw [n] at g; cases g
  | tp g => rw [n] at g; cases g
  | dk g => rw [n] at g; cases g
theorem odd_ne {K : PySem.W.Frag} {H : Hp} {v : V} {a : Addr} (h : Odd K H v) (n : H a = none) : v ≠ .ref a := fun w => odd_at (by rw [← w]; exact h) n
theorem askE (X : Exs G l) (hL : TabL H (tabA G p)) {y f : Str} {v : V} (hm : (y, f) ∈ l) (hj : σ[j]? = some (some (.ref d))) (gd : H d = some (.lst [.str y, v])) (ho : Odd G.K H v) (hv : v ≠ .ref d)
    (hb : ∀ (H1 : Hp) (E : XK) (K : VK), Ext H H1 → (∀ d H2, Ext H H2 → H2 d = some (.xd [(f, v)]) → E (clV G y) (some d) H2) → rdE G b (fun cls d _ H'' => E cls d H'') σ H1 K) (hD : ∀ H', Ext H H' → D.nx σ H') : rdS G (askS G (sp__law_same G) p l b (.var j)) W D σ H := by
  unfold askS
  walk_at "st"
  refine caught X hL fun H1 E K e1 err tell => hb H1 E K e1 fun x H2 e2 hx => err y f x v H2 hm e2 hx fun q H3 hq e3 gq => ?_
  refine ⟨.ref d, hj, y, fun H4 e4 => ?_, .inr ⟨v, gq, e3.lst id gd, ho.ext e3, odd_ne ho hq, hv⟩⟩
  walk_at "st"
  exact hD H4 (e3.trans e4)
/-- what is due is written there: [y, v] -/
theorem askD (X : Exs G l) (hL : TabL H (tabA G p)) {y f : Str} {v : V} (hm : (y, f) ∈ l) (hj : σ[j]? = some (some v)) (ho : Odd G.K H v)
    (hb : ∀ (H1 : Hp) (E : XK) (K : VK), Ext H H1 → (∀ d H2, Ext H H2 → H2 d = some (.xd [(f, v)]) → E (clV G y) (some d) H2) → rdE G b (fun cls d _ H'' => E cls d H'') σ H1 K) (hD : ∀ H', Ext H H' → D.nx σ H') : rdS G (askS G (sp__law_same G) p l b (.lst (.cons (.cst (.str y)) (.cons (.var j) .nil)))) W D σ H := by
  unfold askS
  walk_at "st"
  refine caught X hL fun H1 E K e1 err tell => hb H1 E K e1 fun x H2 e2 hx => err y f x v H2 hm e2 hx fun q H3 hq e3 gq => ?_
  refine ⟨v, hj, len_small (by simp), New.i fun d H4 hd e4 gd => ?_⟩
  have ho3 := ho.ext e3
  refine ⟨y, fun H5 e5 => ?_, .inr ⟨v, e4.lst id gq, gd, ho3.ext e4, odd_ne ho hq, odd_ne ho3 hd⟩⟩
  walk_at "st"
  exact hD H5 (e3.trans (e4.trans e5))
theorem cauT (X : Exs G l) (hL : TabL H (tabA G p))
    (hb : ∀ (H1 : Hp) (E : XK) (K : VK), Ext H H1 → (∀ v H2, Ext H H2 → K v H2) → rdE G b (fun cls d _ H'' => E cls d H'') σ H1 K) (hD : ∀ q H', H q = none → Ext H H' → H' q = some (.lst [.str "told"]) → D.nx (σ.set j (some (.ref q))) H') : rdS G (cauS G p l b j) W D σ H := by
  unfold cauS
  walk_at "st"
  exact caught X hL fun H1 E K e1 err tell => hb H1 E K e1 fun v H2 e2 => tell v H2 e2 hD
theorem cauE (X : Exs G l) (hL : TabL H (tabA G p)) {y f : Str} {v : V} (hm : (y, f) ∈ l)
    (hb : ∀ (H1 : Hp) (E : XK) (K : VK), Ext H H1 → (∀ d H2, Ext H H2 → H2 d = some (.xd [(f, v)]) → E (clV G y) (some d) H2) → rdE G b (fun cls d _ H'' => E cls d H'') σ H1 K) (hD : ∀ q H', H q = none → Ext H H' → H' q = some (.lst [.str y, v]) → D.nx (σ.set j (some (.ref q))) H') : rdS G (cauS G p l b j) W D σ H := by
  unfold cauS
  walk_at "st"
  exact caught X hL fun H1 E K e1 err tell => hb H1 E K e1 fun x H2 e2 hx => err y f x v H2 hm e2 hx hD
end
theorem at_P {P : V → Prop} {xs : List V} {d : Int} (h : ∀ x ∈ xs, P x) (d0 : 0 ≤ d) (d1 : d < xs.length) : ∃ v, atI xs d = some v ∧ P v := by
  have hd : d.toNat < xs.length := by omega
  exact ⟨xs[d.toNat], atI_nat d0 (List.getElem?_eq_getElem hd), h _ (List.getElem_mem hd)⟩
/-! ### what a call comes to -/
/-- none: it returns; y, f, v: it raises y with v as f -/
abbrev Res := Option (Str × Str × V)
def dueV : Res → List V
  | none => [.str "told"]
  | some (y, _, v) => [.str y, v]
/-- it returns, or raises as told -/
structure Out (G : Gm) (H : Hp) (E : XK) (K : VK) (r : Res) : Prop where
  t : r = none → ∀ v H2, Ext H H2 → K v H2
  e : ∀ y f v, r = some (y, f, v) → ∀ d H2, Ext H H2 → H2 d = some (.xd [(f, v)]) → E (clV G y) (some d) H2
theorem Out.from {G : Gm} {H H1 : Hp} {E : XK} {K : VK} {r : Res} (e : Ext H H1) (h : Out G H E K r) : Out G H1 E K r := ⟨fun n v H2 e2 => h.t n v H2 (e.trans e2), fun y f v n d H2 e2 g => h.e y f v n d H2 (e.trans e2) g⟩
theorem Out.rz {G : Gm} {H : Hp} {E : XK} {K : VK} {y f : Str} {v : V} {r : Res} (h : Out G H E K r) (hr : r = some (y, f, v)) : Rz G y f v H E := fun d H' _ e g => h.e y f v hr d H' e g
section
variable {G : Gm} {p : Str × Option Str} {l : List (Str × Str)} {b : Kn.E} {j : Nat} {W : WX} {D : Ends} {σ : L2.St} {H : Hp} {d : Addr} {r : Res}
theorem askR (X : Exs G l) (hL : TabL H (tabA G p)) (hj : σ[j]? = some (some (.ref d))) (gd : H d = some (.lst (dueV r))) (hr : ∀ y f v, r = some (y, f, v) → (y, f) ∈ l ∧ Odd G.K H v ∧ v ≠ .ref d)
    (hb : ∀ (H1 : Hp) (E : XK) (K : VK), Ext H H1 → Out G H1 E K r → rdE G b (fun cls d _ H'' => E cls d H'') σ H1 K) (hD : ∀ H', Ext H H' → D.nx σ H') : rdS G (askS G (sp__law_same G) p l b (.var j)) W D σ H := by
  match r, gd, hr, hb with
  | none, gd, hr, hb => exact askT X hL hj gd (fun H1 E K e1 t => hb H1 E K e1 ⟨fun _ v H2 e2 => t v H2 (e1.trans e2), fun _ _ _ z => by cases z⟩) hD
  | some (y, f, v), gd, hr, hb =>
    obtain ⟨h1, h2, h3⟩ := hr y f v rfl
    refine askE X hL h1 hj gd h2 h3 (fun H1 E K e1 t => hb H1 E K e1 ⟨(fun z => by cases z), fun y' f' v' z d H2 e2 g => ?_⟩) hD
    cases z
    exact t d H2 (e1.trans e2) g
theorem askDR (X : Exs G l) (hL : TabL H (tabA G p)) {y f : Str} {v : V} (hm : (y, f) ∈ l) (hj : σ[j]? = some (some v)) (ho : Odd G.K H v)
    (hb : ∀ (H1 : Hp) (E : XK) (K : VK), Ext H H1 → Out G H1 E K (some (y, f, v)) → rdE G b (fun cls d _ H'' => E cls d H'') σ H1 K) (hD : ∀ H', Ext H H' → D.nx σ H') : rdS G (askS G (sp__law_same G) p l b (.lst (.cons (.cst (.str y)) (.cons (.var j) .nil)))) W D σ H := by
  refine askD X hL hm hj ho (fun H1 E K e1 t => hb H1 E K e1 ⟨(fun z => by cases z), fun y' f' v' z d H2 e2 g => ?_⟩) hD
  cases z
  exact t d H2 (e1.trans e2) g
theorem cauR (X : Exs G l) (hL : TabL H (tabA G p)) (hr : ∀ y f v, r = some (y, f, v) → (y, f) ∈ l)
    (hb : ∀ (H1 : Hp) (E : XK) (K : VK), Ext H H1 → Out G H1 E K r → rdE G b (fun cls d _ H'' => E cls d H'') σ H1 K) (hD : ∀ q H', H q = none → Ext H H' → H' q = some (.lst (dueV r)) → D.nx (σ.set j (some (.ref q))) H') : rdS G (cauS G p l b j) W D σ H := by
  match r, hr, hb, hD with
  | none, hr, hb, hD => exact cauT X hL (fun H1 E K e1 t => hb H1 E K e1 ⟨fun _ v H2 e2 => t v H2 (e1.trans e2), fun _ _ _ z => by cases z⟩) hD
  | some (y, f, v), hr, hb, hD =>
    refine cauE X hL (hr y f v rfl) (fun H1 E K e1 t => hb H1 E K e1 ⟨(fun z => by cases z), fun y' f' v' z d H2 e2 g => ?_⟩) hD
    cases z
    exact t d H2 (e1.trans e2) g
end
/-- found and due are told the same -/
theorem same_q {G : Gm} {H : Hp} {f d : Addr} {r : Res} {Q : VK} {E : XK} (gf : H f = some (.lst (dueV r))) (gd : H d = some (.lst (dueV r))) (hr : ∀ y g v, r = some (y, g, v) → Odd G.K H v ∧ v ≠ .ref f ∧ v ≠ .ref d) (q : ∀ H', Ext H H' → Q (.bl true) H') : sp__law_same G [.ref f, .ref d] H Q E := by
  match r, gf, gd, hr with
  | none, gf, gd, hr => exact ⟨"told", q, .inl ⟨gf, gd⟩⟩
  | some (y, g, v), gf, gd, hr => exact ⟨y, q, .inr ⟨v, gf, gd, hr y g v rfl⟩⟩
/-- simple odd values -/
inductive Sodd (H : Hp) : V → Prop
  | pl {v : V} (h : okD v = true) : Sodd H v
  | ls {a : Addr} {xs : List V} (g : H a = some (.lst xs)) (h : ∀ v ∈ xs, okD v = true) (hl : xs.length ≤ 40) : Sodd H (.ref a)
  | tp {a : Addr} {xs : List V} (g : H a = some (.tup xs)) (h : ∀ v ∈ xs, okD v = true) (hl : xs.length ≤ 40) : Sodd H (.ref a)
  | dk {a : Addr} {kvs : List (Key × V)} (g : H a = some (.dK kvs)) (hl : kvs.length ≤ 20) (hp : ∀ p ∈ kvs, okD (kV p.1) = true ∧ okD p.2 = true) (hm : ∀ p ∈ kvs, p.1 ≠ .inr moreS) : Sodd H (.ref a)
theorem Sodd.odd {K : PySem.W.Frag} {H : Hp} {v : V} (h : Sodd H v) : Odd K H v := by
  cases h with
  | pl h => exact .pl h
  | ls g h hl => exact Odd.lst g h hl
  | tp g h hl => exact Odd.tup g h hl
  | dk g hl hp hm => exact .dk g hl hp hm
theorem Sodd.ext {M : Addr → Prop} {H H' : Hp} {v : V} (e : Xt M H H') (m : ∀ a, v = .ref a → ¬ M a) (h : Sodd H v) : Sodd H' v := by
  cases h with
  | pl h => exact .pl h
  | ls g h hl => exact .ls (e.lst (m _ rfl) g) h hl
  | tp g h hl => exact .tp (e.tup (m _ rfl) g) h hl
  | dk g hl hp hm => exact .dk (e.dK (m _ rfl) g) hl hp hm
theorem Sodd.known {H : Hp} {v : V} (h : Sodd H v) : Known H v := by
  cases h with
  | pl h => cases v <;> first | trivial | cases h
  | ls g h hl => exact ⟨"list", by unfold kindAt; rw [g]⟩
  | tp g h hl => exact ⟨"tuple", by unfold kindAt; rw [g]⟩
  | dk g hl hp hm => exact ⟨"dict", by unfold kindAt; rw [g]⟩
theorem Sodd.there {H : Hp} {a : Addr} (h : Sodd H (.ref a)) : H a ≠ none := by
  cases h with
  | pl h => cases h
  | ls g h hl => rw [g]; simp
  | tp g h hl => rw [g]; simp
  | dk g hl hp hm => rw [g]; simp
theorem Sodd.ne {H : Hp} {v : V} {a : Addr} (h : Sodd H v) (n : H a = none) : v ≠ .ref a := fun w => (w ▸ h : Sodd H (.ref a)).there n
end Kn

set_option pp.maxSteps 2000
/-! R2: [..][_law_take(box, n)], item by item. -/
namespace Kn
open PySem PySem.Spec PyProof.Rows L2
local macro_rules | `(tactic| walk_at "rd") => `(tactic| simp only [ss_nil, s_asg, s_par2, s_aug, s_ret, s_retN, s_exp, s_iff, s_pass, s_brk, s_cnt, s_rs1, s_for1, s_for2, s_forp, s_forz, s_whl, s_try, e_var, e_glb, e_bty, e_cst, e_bin, e_neg, e_cmp, e_cm2, e_and, e_or, e_not, e_ite, e_lst, e_tup, e_sub, e_slc, e_bif, e_bm0, e_bm, e_call, e_calk, e_lc1, e_lc2, e_lcp, e_lcx, s_forx, r_xEnum, r_xSetSorted, r_xAllIn, r_xDict0, r_xDict1, r_xListRng1, r_xListRng2, r_xKeys, r_xJoin, r_xDPop, r_xRng3, r_xItems, r_xReprN, s_wr, tDPop1, r_lkOp, tLockE, tM1, rJoin, e_xop, e_lam, s_xst, t_xtg, su_xsu, rdL, tBreak, tCont, su_lst, su_ret, rdSEs, rdSE, tXf, wipe, tYes, LcS, Ends.gone, rdEs, rdT, rdTs, rdTgs, rdO, tSeq, tRet, tRetN, tDrop, tNext, tIfS, tAndV, tOrV, tNotV, tAnd, tOr, tNot, tTest, tOp, tUn, tCB, tCons, tNil, tVar, tC, nTup, nLst, tChain, tAsg, tPar, tAug, tBM, tBM0, tSl, tPart, tNoPart, tIf, gName, gSub, gc1, gn0, t_nm, t_ix, t_tp, rBin, rCmp, rBf, rBm, rIsiG, rIntB, rAddG, rSubG, rMulG, rDivG, rModG, rPowG, rShlG, rShrG, rAndG, rNegG, rLenG, rMaxG, rMinG, rIntG, rStrG, rIsG, rIsNotG, tTruG, TruV, btyV, btyB, bmTy, L2.start, List.getElem?_cons_zero, List.getElem?_cons_succ, Option.some.injEq, exists_eq_left', exists_eq_left, V.bl.injEq, V.int.injEq, V.str.injEq, V.ref.injEq, true_and, and_true, or_false, false_or, List.set_cons_zero, List.set_cons_succ, List.map_cons, List.map_nil, List.length_cons, List.length_nil, List.replicate_succ, List.replicate_zero, List.cons_append, List.nil_append, List.append_nil, Nat.sub_self, Nat.zero_add, Nat.add_sub_cancel, ite_true, ite_false, if_true, if_false, reduceIte, Bool.not_true, Bool.not_false, Bool.false_eq_true, reduceCtorEq, false_and, and_false, Nat.reduceAdd, Nat.reduceSub, tabIsi, okTy, tyS, decide_true, decide_false, Bool.or_true, Bool.true_or, Bool.false_or, Bool.or_false, Bool.and_true, Bool.true_and, Bool.and_false, Bool.false_and, String.reduceEq, exists_const, exists_false, Int.zero_add, List.cons.injEq, Int.reduceAdd, Int.reduceMul, Int.reduceNeg, Int.reduceSub, Int.reducePow, Int.reduceToNat])
local macro_rules | `(tactic| walk_at "gd") => `(tactic| simp only [askS, cauS, GdSs, GdS, GdE, GdEs, GdT, GdTs, GdTg, GdTgs, GdSrc, GdHs, GdSu, GdSE, and_true, true_and, btyB, bfName])
local macro_rules | `(tactic| walk_at "st") => `(tactic| repeat (first | refine ss_cons ?_ | walk_at "rd"))

section
variable {G : Gm} {W : WX} {σ : L2.St} {H : Hp} {es : Es}
/-- the draw -/
abbrev takeE (G : Gm) (b : Nat) (n : Int) : Kn.E := .call "_law_take" (sp__law_take G) [] (.cons (.var b) (.cons (.cst (.int n)) .nil))
def PickK (G : Gm) (W : WX) (σ : L2.St) (b : Nat) (n : Int) (Q : VK) : List V → Hp → Prop := fun xs H1 => xs.length ≤ sizeLine ∧ New H1 (.lst xs) fun p H2 => rdE G (takeE G b n) W σ H2 fun y H3 => rIxG G (.ref p) y H3 Q
theorem pick {b : Nat} {n : Int} {Q : VK} (h : rdEs G es W σ H (PickK G W σ b n Q)) : rdE G (.sub (.lst es) (takeE G b n)) W σ H Q := h
theorem pick_end {b : Nat} {n : Int} {Q : VK} {xs : List V} {bx : Addr} {t : Int} (hb : σ[b]? = some (some (.ref bx))) (hn : (xs.length : Int) = n) (h0 : 0 < xs.length) (h1 : xs.length ≤ 1000) (hB : Bx H bx t) (ht : t < 900000)
    (h : ∀ v H' t', v ∈ xs → ExtB bx H H' → Bx H' bx t' → t' ≤ t + 1 → Q v H') : PickK G W σ b n Q xs H := by
  refine ⟨le_size (by omega), New.i fun p H1 hp e1 g1 => ?_⟩
  walk_at "st"
  refine ⟨_, hb, ?_⟩
  refine ⟨by omega, by omega, t, hB.ext e1 id, by omega, fun d t2 H2 d0 d1 ht2 hB2 e2 => ?_⟩
  obtain ⟨v, hv, hm⟩ := at_P (P := fun v => v ∈ xs) (fun x h => h) d0 (by omega)
  refine itL (e2.lst (hB.ne hp) g1) hv ?_
  exact h v H2 t2 hm (e1.any.trans e2) hB2 ht2
variable {Q : List V → Hp → Prop}
theorem es_nil (h : Q [] H) : rdEs G .nil W σ H Q := h
theorem es_c {v : V} (h : rdEs G es W σ H fun xs H2 => Q (v :: xs) H2) : rdEs G (.cons (.cst v) es) W σ H Q := h
theorem es_var {i : Nat} {v : V} (hi : σ[i]? = some (some v)) (h : rdEs G es W σ H fun xs H2 => Q (v :: xs) H2) : rdEs G (.cons (.var i) es) W σ H Q := ⟨v, hi, h⟩
theorem es_neg {i : Int} (h : rdEs G es W σ H fun xs H2 => Q (.int (-i) :: xs) H2) : rdEs G (.cons (.neg (.cst (.int i))) es) W σ H Q := h
theorem es_pow {i j : Int} (hc : CPow i j) (h : rdEs G es W σ H fun xs H2 => Q (.int (i ^ j.toNat) :: xs) H2) : rdEs G (.cons (.bin .Pow (.cst (.int i)) (.cst (.int j))) es) W σ H Q := ⟨hc, h⟩
theorem es_pow1 {i j k : Int} (hc : CPow i j) (h : rdEs G es W σ H fun xs H2 => Q (.int (i ^ j.toNat + k) :: xs) H2) : rdEs G (.cons (.bin .Add (.bin .Pow (.cst (.int i)) (.cst (.int j))) (.cst (.int k))) es) W σ H Q := ⟨hc, h⟩
theorem es_d0 (h : ∀ p H', H p = none → Ext H H' → H' p = some (.dK []) → rdEs G es W σ H' fun xs H2 => Q (.ref p :: xs) H2) : rdEs G (.cons (.xop xDict0 .nil) es) W σ H Q := by
  show New H (.dK []) _
  exact New.i h
theorem es_l1 {a : V} (h : ∀ p H', H p = none → Ext H H' → H' p = some (.lst [a]) → rdEs G es W σ H' fun xs H2 => Q (.ref p :: xs) H2) : rdEs G (.cons (.lst (.cons (.cst a) .nil)) es) W σ H Q := by
  refine ⟨len_small (by simp), ?_⟩
  exact New.i h
theorem es_t2 {a b : V} (h : ∀ p H', H p = none → Ext H H' → H' p = some (.tup [a, b]) → rdEs G es W σ H' fun xs H2 => Q (.ref p :: xs) H2) : rdEs G (.cons (.tup (.cons (.cst a) (.cons (.cst b) .nil))) es) W σ H Q := by
  refine ⟨len_small (by simp), ?_⟩
  exact New.i h
theorem es_t1 {a : V} (h : ∀ p H', H p = none → Ext H H' → H' p = some (.tup [a]) → rdEs G es W σ H' fun xs H2 => Q (.ref p :: xs) H2) : rdEs G (.cons (.tup (.cons (.cst a) .nil)) es) W σ H Q := by
  refine ⟨len_small (by simp), ?_⟩
  exact New.i h
theorem es_lt {a b : V} (h : ∀ u p H', H u = none → H p = none → Ext H H' → H' u = some (.tup [a, b]) → H' p = some (.lst [.ref u]) → rdEs G es W σ H' fun xs H2 => Q (.ref p :: xs) H2) : rdEs G (.cons (.lst (.cons (.tup (.cons (.cst a) (.cons (.cst b) .nil))) .nil)) es) W σ H Q := by
  refine ⟨len_small (by simp), New.i fun u H1 hu e1 g1 => ⟨len_small (by simp), ?_⟩⟩
  exact New.i (R := fun p H2 => rdEs G es W σ H2 fun xs H2 => Q (.ref p :: xs) H2) fun p H2 hp e2 g2 => h u p H2 hu (e1.dm _ hp) (e1.trans e2) (e2.tup id g1) g2
theorem es_d1 {k : Key} {kv v : V} (hk : kv = kV k) (h : ∀ p H', H p = none → Ext H H' → H' p = some (.dK [(k, v)]) → rdEs G es W σ H' fun xs H2 => Q (.ref p :: xs) H2) : rdEs G (.cons (.xop xDict1 (.cons (.cst kv) (.cons (.cst v) .nil))) es) W σ H Q := by
  subst hk
  exact d1c (tk := tC (kV k)) (tv := tC v) (fun _ _ q => q) (fun _ _ q => q) h
theorem es_d1n {k : Key} {kv : V} {i : Int} (hk : kv = kV k) (h : ∀ p H', H p = none → Ext H H' → H' p = some (.dK [(k, .int (-i))]) → rdEs G es W σ H' fun xs H2 => Q (.ref p :: xs) H2) : rdEs G (.cons (.xop xDict1 (.cons (.cst kv) (.cons (.neg (.cst (.int i))) .nil))) es) W σ H Q := by
  subst hk
  exact d1c (tk := tC (kV k)) (tv := tUn rNegG (tC (.int i))) (fun _ _ q => q) (fun _ _ q => q) h
/-- x = e -/
theorem s_nm {i : Nat} {e : Kn.E} {D : Ends} (h : rdE G e W σ H fun v H' => D.nx (σ.set i (some v)) H') : rdS G (.asg (.nm i) e) W D σ H := h
end
end Kn

set_option pp.maxSteps 2000
/-! S1: stitches. -/
namespace Kn
open PySem PySem.Spec PyProof.Rows L2
local macro_rules | `(tactic| walk_at "rd") => `(tactic| simp only [ss_nil, s_asg, s_par2, s_aug, s_ret, s_retN, s_exp, s_iff, s_pass, s_brk, s_cnt, s_rs1, s_for1, s_for2, s_forp, s_forz, s_whl, s_try, e_var, e_glb, e_bty, e_cst, e_bin, e_neg, e_cmp, e_cm2, e_and, e_or, e_not, e_ite, e_lst, e_tup, e_sub, e_slc, e_bif, e_bm0, e_bm, e_call, e_calk, e_lc1, e_lc2, e_lcp, e_lcx, s_forx, r_xEnum, r_xSetSorted, r_xAllIn, r_xDict0, r_xDict1, r_xListRng1, r_xListRng2, r_xKeys, r_xJoin, r_xDPop, r_xRng3, r_xItems, r_xReprN, s_wr, tDPop1, r_lkOp, tLockE, tM1, rJoin, e_xop, e_lam, s_xst, t_xtg, su_xsu, rdL, tBreak, tCont, su_lst, su_ret, rdSEs, rdSE, tXf, wipe, tYes, LcS, Ends.gone, rdEs, rdT, rdTs, rdTgs, rdO, tSeq, tRet, tRetN, tDrop, tNext, tIfS, tAndV, tOrV, tNotV, tAnd, tOr, tNot, tTest, tOp, tUn, tCB, tCons, tNil, tVar, tC, nTup, nLst, tChain, tAsg, tPar, tAug, tBM, tBM0, tSl, tPart, tNoPart, tIf, gName, gSub, gc1, gn0, t_nm, t_ix, t_tp, rBin, rCmp, rBf, rBm, rIsiG, rIntB, rAddG, rSubG, rMulG, rDivG, rModG, rPowG, rShlG, rShrG, rAndG, rNegG, rLenG, rMaxG, rMinG, rIntG, rStrG, rIsG, rIsNotG, tTruG, TruV, btyV, btyB, bmTy, L2.start, List.getElem?_cons_zero, List.getElem?_cons_succ, Option.some.injEq, exists_eq_left', exists_eq_left, V.bl.injEq, V.int.injEq, V.str.injEq, V.ref.injEq, true_and, and_true, or_false, false_or, List.set_cons_zero, List.set_cons_succ, List.map_cons, List.map_nil, List.length_cons, List.length_nil, List.replicate_succ, List.replicate_zero, List.cons_append, List.nil_append, List.append_nil, Nat.sub_self, Nat.zero_add, Nat.add_sub_cancel, ite_true, ite_false, if_true, if_false, reduceIte, Bool.not_true, Bool.not_false, Bool.false_eq_true, reduceCtorEq, false_and, and_false, Nat.reduceAdd, Nat.reduceSub, tabIsi, okTy, tyS, decide_true, decide_false, Bool.or_true, Bool.true_or, Bool.false_or, Bool.or_false, Bool.and_true, Bool.true_and, Bool.and_false, Bool.false_and, String.reduceEq, exists_const, exists_false, Int.zero_add, List.cons.injEq, Int.reduceAdd, Int.reduceMul, Int.reduceNeg, Int.reduceSub, Int.reducePow, Int.reduceToNat])
local macro_rules | `(tactic| walk_at "gd") => `(tactic| simp only [askS, cauS, GdSs, GdS, GdE, GdEs, GdT, GdTs, GdTg, GdTgs, GdSrc, GdHs, GdSu, GdSE, and_true, true_and, btyB, bfName])
local macro_rules | `(tactic| walk_at "st") => `(tactic| repeat (first | refine ss_cons ?_ | walk_at "rd"))

/-! ### the table of stitches -/
def stTab : List (Str × Int × Int × Str) := [("k", 1, 1, "p"), ("p", 1, 1, "k"), ("sl", 1, 1, "sl"), ("yo", 0, 1, "yo"), ("m1", 0, 1, "m1p"), ("m1p", 0, 1, "m1"), ("kfb", 1, 2, "pfb"), ("pfb", 1, 2, "kfb"), ("k2tog", 2, 1, "p2tog"), ("p2tog", 2, 1, "k2tog"), ("ssk", 2, 1, "ssp"), ("ssp", 2, 1, "ssk"), ("cdd", 3, 1, "cddp"), ("cddp", 3, 1, "cdd"), ("bo", 1, 0, "bo")]
def stT (z : Str) : Option (Int × Int × Str) := stTab.lookup z
theorem stT_in {z : Str} {t : Int × Int × Str} (h : stT z = some t) : (z, t) ∈ stTab := PySem.mem_of_lookup h
theorem stT_tk {z : Str} {a b : Int} {o : Str} (h : stT z = some (a, b, o)) : 0 ≤ a ∧ a ≤ 3 ∧ 0 ≤ b ∧ b ≤ 2 := by
  have all : stTab.all (fun e => decide (0 ≤ e.2.1 ∧ e.2.1 ≤ 3 ∧ 0 ≤ e.2.2.1 ∧ e.2.2.1 ≤ 2)) = true := by decide +kernel
  exact of_decide_eq_true (List.all_eq_true.mp all _ (stT_in h))
structure StK (G : Gm) : Prop where
  at_ : ∃ d, G.mg "STITCHES" = some (.ref d) ∧ (∃ es n, KDict G.K G.w d es n) ∧ ∀ z, (stT z = none → PySem.W.nsIn G.K d z = some none) ∧ (∀ a b o, stT z = some (a, b, o) → ∃ u, PySem.W.nsIn G.K d z = some (some (.ref u)) ∧ ∀ H, SqT G.K H u [.int a, .int b, .str o])
theorem in_st {G : Gm} (S : StK G) {z : Str} {H : Hp} {Q : VK} (h : Q (.bl (stT z).isSome) H) : rInG G (.str z) (.ref (clA G "STITCHES")) H Q := by
  obtain ⟨d, hm, ⟨es, n, hd⟩, ht⟩ := S.at_
  rw [clA_of hm]
  obtain ⟨h1, h2⟩ := ht z
  cases e : stT z with
  | none =>
    rw [e] at h
    exact .inl ⟨z, d, none, es, n, rfl, rfl, hd, h1 e, h⟩
  | some t =>
    rw [e] at h
    obtain ⟨a, b, o⟩ := t
    obtain ⟨u, hu, _⟩ := h2 a b o e
    exact .inl ⟨z, d, some (.ref u), es, n, rfl, rfl, hd, hu, h⟩
theorem ix_st {G : Gm} (S : StK G) {z : Str} {a b : Int} {o : Str} (e : stT z = some (a, b, o)) {H : Hp} {Q : VK} (h : ∀ u, (∀ H, SqT G.K H u [.int a, .int b, .str o]) → Q (.ref u) H) : rIxG G (.ref (clA G "STITCHES")) (.str z) H Q := by
  obtain ⟨d, hm, ⟨es, n, hd⟩, ht⟩ := S.at_
  rw [clA_of hm]
  obtain ⟨u, hu, hs⟩ := (ht z).2 a b o e
  exact .inr (.inl ⟨d, z, .ref u, rfl, rfl, ⟨es, n, .ref u, hd.at_, hd.lit, hu, rfl⟩, h u hs⟩)
theorem not_in_tab {z : Str} : ∀ {es : List (Str × Int × Int × Str)}, es.lookup z = none → z ∉ es.map (·.1)
  | [], _, h => by cases h
  | (k, t) :: r, h, hm => by
    rw [List.lookup_cons] at h
    by_cases c : z = k
    · subst c
      rw [beq_self_eq_true] at h
      cases h
    · rw [beq_false_of_ne c] at h
      rw [List.map_cons, List.mem_cons] at hm
      rcases hm with e | hm
      · exact c e
      · exact not_in_tab h hm
theorem stk_of {G : Gm} (g : G.mg "STITCHES" = some (.ref (He.ga G.K "STITCHES"))) (hd : He.dicW G.K (He.ga G.K "STITCHES") = some (He.keysIn G.w.params (stTab.map (·.1)))) (hx : (stTab.all fun e => tupAtB G.K (He.ga G.K "STITCHES") e.1 [.int e.2.1, .int e.2.2.1, .str e.2.2.2]) = true) : StK G :=
  ⟨_, g, He.dicW_ok hd, fun z => ⟨fun h => ns_off hd (not_in_tab h), fun a b o h => tupAtB_ok (List.all_eq_true.mp hx _ (stT_in h))⟩⟩
def isSt (v : V) : Bool := match v with
  | .str z => (stT z).isSome
  | _ => false
def sp_is_stitch (G : Gm) : Sp := fun vs H Q _ => match vs with
  | [v] => Known H v ∧ Q (.bl (isSt v)) H
  | _ => False
def n_is_stitch : List Str := ["value"]
def b_is_stitch (G : Gm) : Ss := (.cons (.ret (.and (.bif .isinstance (.cons (.var 0) (.cons (.bty .str) .nil))) (.cmp .In (.var 0) (.glb "STITCHES" (.ref (clA G "STITCHES")))))) .nil)
theorem q_is_stitch (G : Gm) (S : StK G) : Asks G (b_is_stitch G) n_is_stitch (sp_is_stitch G) := by
  intro vs H Q E h
  unfold sp_is_stitch at h
  split at h
  · rename_i v
    obtain ⟨hk, h⟩ := h
    unfold b_is_stitch n_is_stitch
    cases v with
    | str z =>
      walk_at "st"
      exact in_st S h
    | ref a =>
      walk_at "st"
      obtain ⟨m, hm⟩ := hk
      obtain ⟨h1, h2, h3⟩ := kind_not hm
      refine ⟨m, hm, ?_⟩
      simpa [h1, h2, h3] using (show Q (V.bl false) H from h)
    | int i =>
      walk_at "st"
      exact h
    | bl b =>
      walk_at "st"
      exact h
    | non =>
      walk_at "st"
      exact h
    | _ => exact hk.elim
  · exact h.elim
def sp_need_stitch (G : Gm) : Sp := fun vs H Q E => match vs with
  | [v] => Known H v ∧ (isSt v = true → Q .non H) ∧ (isSt v = false → Rz G "NoStitch" "value" v H E)
  | _ => False
def n_need_stitch : List Str := ["value"]
def b_need_stitch (G : Gm) : Ss := (.cons (.iff (.not (.val (.call "is_stitch" (sp_is_stitch G) [] (.cons (.var 0) .nil)))) (.cons (.rs1 "NoStitch" "value" (.var 0)) .nil) .nil) .nil)
theorem q_need_stitch (G : Gm) : Asks G (b_need_stitch G) n_need_stitch (sp_need_stitch G) := by
  intro vs H Q E h
  unfold sp_need_stitch at h
  split at h
  · rename_i v
    obtain ⟨hk, h1, h2⟩ := h
    unfold b_need_stitch n_need_stitch
    walk_at "st"
    refine ⟨hk, ?_⟩
    walk_at "st"
    cases c : isSt v with
    | true =>
      walk_at "st"
      exact h1 c
    | false =>
      walk_at "st"
      exact rz_of (h2 c)
  · exact h.elim
def stV (v : V) : Option (Int × Int × Str) := match v with
  | .str z => stT z
  | _ => none
theorem stV_is {v : V} : isSt v = (stV v).isSome := by cases v <;> rfl
end Kn

set_option pp.maxSteps 2000
/-! S5: lists of stitches; yarn. -/
namespace Kn
open PySem PySem.Spec PyProof.Rows L2
local macro_rules | `(tactic| walk_at "rd") => `(tactic| simp only [ss_nil, s_asg, s_par2, s_aug, s_ret, s_retN, s_exp, s_iff, s_pass, s_brk, s_cnt, s_rs1, s_for1, s_for2, s_forp, s_forz, s_whl, s_try, e_var, e_glb, e_bty, e_cst, e_bin, e_neg, e_cmp, e_cm2, e_and, e_or, e_not, e_ite, e_lst, e_tup, e_sub, e_slc, e_bif, e_bm0, e_bm, e_call, e_calk, e_lc1, e_lc2, e_lcp, e_lcx, s_forx, r_xEnum, r_xSetSorted, r_xAllIn, r_xDict0, r_xDict1, r_xListRng1, r_xListRng2, r_xKeys, r_xJoin, r_xDPop, r_xRng3, r_xItems, r_xReprN, s_wr, tDPop1, r_lkOp, tLockE, tM1, rJoin, e_xop, e_lam, s_xst, t_xtg, su_xsu, rdL, tBreak, tCont, su_lst, su_ret, rdSEs, rdSE, tXf, wipe, tYes, LcS, Ends.gone, rdEs, rdT, rdTs, rdTgs, rdO, tSeq, tRet, tRetN, tDrop, tNext, tIfS, tAndV, tOrV, tNotV, tAnd, tOr, tNot, tTest, tOp, tUn, tCB, tCons, tNil, tVar, tC, nTup, nLst, tChain, tAsg, tPar, tAug, tBM, tBM0, tSl, tPart, tNoPart, tIf, gName, gSub, gc1, gn0, t_nm, t_ix, t_tp, rBin, rCmp, rBf, rBm, rIsiG, rIntB, rAddG, rSubG, rMulG, rDivG, rModG, rPowG, rShlG, rShrG, rAndG, rNegG, rLenG, rMaxG, rMinG, rIntG, rStrG, rIsG, rIsNotG, tTruG, TruV, btyV, btyB, bmTy, L2.start, List.getElem?_cons_zero, List.getElem?_cons_succ, Option.some.injEq, exists_eq_left', exists_eq_left, V.bl.injEq, V.int.injEq, V.str.injEq, V.ref.injEq, true_and, and_true, or_false, false_or, List.set_cons_zero, List.set_cons_succ, List.map_cons, List.map_nil, List.length_cons, List.length_nil, List.replicate_succ, List.replicate_zero, List.cons_append, List.nil_append, List.append_nil, Nat.sub_self, Nat.zero_add, Nat.add_sub_cancel, ite_true, ite_false, if_true, if_false, reduceIte, Bool.not_true, Bool.not_false, Bool.false_eq_true, reduceCtorEq, false_and, and_false, Nat.reduceAdd, Nat.reduceSub, tabIsi, okTy, tyS, decide_true, decide_false, Bool.or_true, Bool.true_or, Bool.false_or, Bool.or_false, Bool.and_true, Bool.true_and, Bool.and_false, Bool.false_and, String.reduceEq, exists_const, exists_false, Int.zero_add, List.cons.injEq, Int.reduceAdd, Int.reduceMul, Int.reduceNeg, Int.reduceSub, Int.reducePow, Int.reduceToNat])
local macro_rules | `(tactic| walk_at "gd") => `(tactic| simp only [askS, cauS, GdSs, GdS, GdE, GdEs, GdT, GdTs, GdTg, GdTgs, GdSrc, GdHs, GdSu, GdSE, and_true, true_and, btyB, bfName])
local macro_rules | `(tactic| walk_at "st") => `(tactic| repeat (first | refine ss_cons ?_ | walk_at "rd"))

/-- the items of a list or a tuple -/
def SeqO (H : Hp) (v : V) : Option (List V) → Prop
  | some xs => ∃ a, v = .ref a ∧ (H a = some (.lst xs) ∨ H a = some (.tup xs))
  | none => Known H v ∧ ∀ a, v = .ref a → kindAt H a "dict"
theorem SeqO.ext {H H' : Hp} {v : V} {o : Option (List V)} (e : Ext H H') (h : SeqO H v o) : SeqO H' v o := by
  match o, h with
  | some xs, ⟨a, h1, h2⟩ => exact ⟨a, h1, h2.imp (e.lst id) (e.tup id)⟩
  | none, ⟨h1, h2⟩ =>
    refine ⟨h1.ext e, fun a w => ?_⟩
    have h3 := h2 a w
    unfold kindAt at h3 ⊢
    split at h3
    · rename_i xs g; rw [e.lst id g]; exact h3
    · rename_i xs g; rw [e.tup id g]; exact h3
    · rename_i xs g; rw [e.dK id g]
    · exact h3.elim
def stsR (v : V) : Option (List V) → Res
  | none => some ("NoStitches", "value", v)
  | some xs => if 1200 < xs.length then some ("NoStitches", "value", v) else (xs.find? fun x => !isSt x).map fun x => (("NoStitch" : Str), ("value" : Str), x)
theorem stsR_some {v : V} {xs : List V} : stsR v (some xs) = if 1200 < xs.length then some (("NoStitches" : Str), ("value" : Str), v) else (xs.find? fun x => !isSt x).map fun x => (("NoStitch" : Str), ("value" : Str), x) := rfl
/-- raised as told -/
def RzR (G : Gm) (H : Hp) (E : XK) (r : Res) : Prop := ∀ y f v, r = some (y, f, v) → Rz G y f v H E
theorem RzR.ext {G : Gm} {H H' : Hp} {E : XK} {r : Res} (e : Ext H H') (h : RzR G H E r) : RzR G H' E r := fun y f v q d H2 _ e2 g => by
  by_cases c : H d = none
  · exact h y f v q d H2 c (e.trans e2) g
  · exact h y f v q d H2 (e.dm d (by assumption)) (e.trans e2) g
def sp_need_stitches (G : Gm) : Sp := fun vs H Q E => match vs with
  | [v] => ∃ o, SeqO H v o ∧ (∀ xs, o = some xs → xs.length ≤ 1000000 ∧ ∀ x ∈ xs, Known H x) ∧ (stsR v o = none → ∀ H', Ext H H' → Q .non H') ∧ RzR G H E (stsR v o)
  | _ => False
def n_need_stitches : List Str := ["value", "stitch"]
def b_need_stitches (G : Gm) : Ss := (.cons (.iff (.or (.not (.val (.bif .isinstance (.cons (.var 0) (.cons (.tup (.cons (.bty .list) (.cons (.bty .tuple) .nil))) .nil))))) (.cmp .Gt (.bif .len (.cons (.var 0) .nil)) (.glb "MOST_STITCHES" (.int 1200)))) (.cons (.rs1 "NoStitches" "value" (.var 0)) .nil) .nil) (.cons (.for_ (.nm 1) (.plain (.var 0)) (.cons (.exp (.call "need_stitch" (sp_need_stitch G) [] (.cons (.var 1) .nil))) .nil)) .nil))
theorem find_none_take {xs : List V} {i : Nat} {x : V} (h : (xs.take i).find? (fun x => !isSt x) = none) (hx : xs[i]? = some x) (hs : isSt x = true) : (xs.take (i + 1)).find? (fun x => !isSt x) = none := by
  rw [take_snoc hx, List.find?_append, h]
  simp [hs]
theorem find_some_take {xs : List V} {i : Nat} {x : V} (h : (xs.take i).find? (fun x => !isSt x) = none) (hx : xs[i]? = some x) (hs : isSt x = false) : xs.find? (fun x => !isSt x) = some x := by
  have e : xs = xs.take i ++ x :: xs.drop (i + 1) := by
    have hi := (List.getElem?_eq_some_iff.mp hx)
    obtain ⟨h1, h2⟩ := hi
    rw [← h2, ← List.drop_eq_getElem_cons h1, List.take_append_drop]
  rw [e, List.find?_append, h]
  simp [hs]
theorem q_need_stitches (G : Gm) : Asks G (b_need_stitches G) n_need_stitches (sp_need_stitches G) := by
  intro vs H Q E h
  unfold sp_need_stitches at h
  split at h
  · rename_i v
    obtain ⟨o, hs, hi, h1, h2⟩ := h
    unfold b_need_stitches n_need_stitches
    have bad : stsR v o = some (("NoStitches" : Str), ("value" : Str), v) → ∀ H', Ext H H' → ∀ d, H' d = none → E (clV G "NoStitches") (some d) (upd H' d (.xd [("value", v)])) := fun q H' e d hd => h2 _ _ _ q d _ (e.dm d hd) (e.trans (Ext.new hd)) upd_same
    match o, hs, hi, h1, bad, h2 with
    | none, ⟨kn, kd⟩, hi, h1, bad, h2 =>
      have bad := bad rfl
      walk_at "st"
      refine ⟨len_small (by decide), New.i fun tp H1 htp e1 g1 => ?_⟩
      have kn1 := kn.ext e1
      cases v with
      | ref a =>
        have k0 := kd a rfl
        refine ⟨"list", "tuple", ⟨rfl, rfl⟩, g1, "dict", ?_, ?_⟩
        · unfold kindAt at k0 ⊢
          split at k0
          · rename_i xs g; rw [e1.lst id g]; exact k0
          · rename_i xs g; rw [e1.tup id g]; exact k0
          · rename_i xs g; rw [e1.dK id g]
          · exact k0.elim
        walk_at "st"
        exact bad H1 e1
      | int i =>
        refine ⟨"list", "tuple", ⟨rfl, rfl⟩, g1, "int", rfl, ?_⟩
        walk_at "st"
        exact bad H1 e1
      | str i =>
        refine ⟨"list", "tuple", ⟨rfl, rfl⟩, g1, "str", rfl, ?_⟩
        walk_at "st"
        exact bad H1 e1
      | bl i =>
        refine ⟨"list", "tuple", ⟨rfl, rfl⟩, g1, "bool", rfl, ?_⟩
        walk_at "st"
        exact bad H1 e1
      | non =>
        refine ⟨"list", "tuple", ⟨rfl, rfl⟩, g1, "NoneType", rfl, ?_⟩
        walk_at "st"
        exact bad H1 e1
      | _ => exact kn.elim
    | some xs, ⟨a, e, gx⟩, hi, h1, bad, h2 =>
      subst e
      obtain ⟨hl, hk⟩ := hi xs rfl
      walk_at "st"
      refine ⟨len_small (by decide), New.i fun tp H1 htp e1 g1 => ?_⟩
      rcases gx with gx | gx
      · have k1 : kindAt H1 a "list" := by unfold kindAt; rw [e1.lst id gx]
        refine ⟨"list", "tuple", ⟨rfl, rfl⟩, g1, "list", k1, ?_⟩
        have gx1 := e1.lst id gx
        walk_at "st"
        refine .inl ⟨xs, .inl (.inl gx1), ?_⟩
        by_cases hc : 1200 < xs.length
        · have hc' : (1200 : Int) < (xs.length : Int) := by omega
          simp only [hc', decide_true, if_true]
          walk_at "st"
          exact bad (by rw [stsR_some, if_pos hc]) H1 e1
        · have hc' : ¬ (1200 : Int) < (xs.length : Int) := by omega
          simp only [hc', decide_false, Bool.false_eq_true, if_false]
          walk_at "st"
          refine (fjL (fun i τ H2 => ∃ y, τ = [some (.ref a), y] ∧ Ext H H2 ∧ (xs.take i).find? (fun x => !isSt x) = none) (.inl (.inl gx1)) ⟨none, rfl, e1, by simp⟩ ?_ ?_ ?_)
          · rintro i τ H2 hi ⟨y, rfl, e2, hf⟩
            exact .inl (.inl (e2.lst id gx))
          · rintro i x τ H2 hx ⟨y, rfl, e2, hf⟩
            walk_at "st"
            refine ⟨(hk x (List.mem_of_getElem? hx)).ext e2, fun h3 => ?_, fun h3 => ?_⟩
            · walk_at "st"
              exact ⟨e2, find_none_take hf hx h3⟩
            · have : stsR (.ref a) (some xs) = some (("NoStitch" : Str), ("value" : Str), x) := by
                rw [stsR_some, if_neg hc, find_some_take hf hx h3]
                rfl
              exact (RzR.ext e2 h2) _ _ _ this
          · rintro τ H2 ⟨y, rfl, e2, hf⟩
            walk_at "st"
            rw [List.take_length] at hf
            exact h1 (by rw [stsR_some, if_neg hc, hf]; rfl) H2 e2
      · have k1 : kindAt H1 a "tuple" := by unfold kindAt; rw [e1.tup id gx]
        refine ⟨"list", "tuple", ⟨rfl, rfl⟩, g1, "tuple", k1, ?_⟩
        have gx1 := e1.tup id gx
        walk_at "st"
        refine .inr (.inl ⟨xs, .inl (.inl gx1), ?_⟩)
        by_cases hc : 1200 < xs.length
        · have hc' : (1200 : Int) < (xs.length : Int) := by omega
          simp only [hc', decide_true, if_true]
          walk_at "st"
          exact bad (by rw [stsR_some, if_pos hc]) H1 e1
        · have hc' : ¬ (1200 : Int) < (xs.length : Int) := by omega
          simp only [hc', decide_false, Bool.false_eq_true, if_false]
          walk_at "st"
          refine (fjT (fun i τ H2 => ∃ y, τ = [some (.ref a), y] ∧ Ext H H2 ∧ (xs.take i).find? (fun x => !isSt x) = none) (.inl (.inl gx1)) ⟨none, rfl, e1, by simp⟩ ?_ ?_ ?_)
          · rintro i τ H2 hi ⟨y, rfl, e2, hf⟩
            exact .inl (.inl (e2.tup id gx))
          · rintro i x τ H2 hx ⟨y, rfl, e2, hf⟩
            walk_at "st"
            refine ⟨(hk x (List.mem_of_getElem? hx)).ext e2, fun h3 => ?_, fun h3 => ?_⟩
            · walk_at "st"
              exact ⟨e2, find_none_take hf hx h3⟩
            · have : stsR (.ref a) (some xs) = some (("NoStitch" : Str), ("value" : Str), x) := by
                rw [stsR_some, if_neg hc, find_some_take hf hx h3]
                rfl
              exact (RzR.ext e2 h2) _ _ _ this
          · rintro τ H2 ⟨y, rfl, e2, hf⟩
            walk_at "st"
            rw [List.take_length] at hf
            exact h1 (by rw [stsR_some, if_neg hc, hf]; rfl) H2 e2
  · exact h.elim
end Kn

set_option pp.maxSteps 2000
/-! W1: the fewest words, in plain Lean and in the defs. -/
namespace Kn
open PySem PySem.Spec PyProof.Rows L2
local macro_rules | `(tactic| walk_at "rd") => `(tactic| simp only [ss_nil, s_asg, s_par2, s_aug, s_ret, s_retN, s_exp, s_iff, s_pass, s_brk, s_cnt, s_rs1, s_for1, s_for2, s_forp, s_forz, s_whl, s_try, e_var, e_glb, e_bty, e_cst, e_bin, e_neg, e_cmp, e_cm2, e_and, e_or, e_not, e_ite, e_lst, e_tup, e_sub, e_slc, e_bif, e_bm0, e_bm, e_call, e_calk, e_lc1, e_lc2, e_lcp, e_lcx, s_forx, r_xEnum, r_xSetSorted, r_xAllIn, r_xDict0, r_xDict1, r_xListRng1, r_xListRng2, r_xKeys, r_xJoin, r_xDPop, r_xRng3, r_xItems, r_xReprN, r_xRep, r_xDictT, r_xFS, fsTE, tJs, tFmt, tAllG, tRng, s_wr, tDPop1, r_lkOp, tLockE, tM1, rJoin, e_xop, e_lam, s_xst, t_xtg, su_xsu, rdL, tBreak, tCont, su_lst, su_ret, rdSEs, rdSE, tXf, wipe, tYes, LcS, Ends.gone, rdEs, rdT, rdTs, rdTgs, rdO, tSeq, tRet, tRetN, tDrop, tNext, tIfS, tAndV, tOrV, tNotV, tAnd, tOr, tNot, tTest, tOp, tUn, tCB, tCons, tNil, tVar, tC, nTup, nLst, tChain, tAsg, tPar, tAug, tBM, tBM0, tSl, tPart, tNoPart, tIf, gName, gSub, gc1, gn0, t_nm, t_ix, t_tp, rBin, rCmp, rBf, rBm, rIsiG, rIntB, rAddG, rSubG, rMulG, rDivG, rModG, rPowG, rShlG, rShrG, rAndG, rNegG, rLenG, rMaxG, rMinG, rIntG, rStrG, rIsG, rIsNotG, tTruG, TruV, btyV, btyB, bmTy, L2.start, List.getElem?_cons_zero, List.getElem?_cons_succ, Option.some.injEq, exists_eq_left', exists_eq_left, V.bl.injEq, V.int.injEq, V.str.injEq, V.ref.injEq, true_and, and_true, or_false, false_or, List.set_cons_zero, List.set_cons_succ, List.map_cons, List.map_nil, List.length_cons, List.length_nil, List.replicate_succ, List.replicate_zero, List.cons_append, List.nil_append, List.append_nil, Nat.sub_self, Nat.zero_add, Nat.add_sub_cancel, ite_true, ite_false, if_true, if_false, reduceIte, Bool.not_true, Bool.not_false, Bool.false_eq_true, reduceCtorEq, false_and, and_false, Nat.reduceAdd, Nat.reduceSub, tabIsi, okTy, tyS, decide_true, decide_false, Bool.or_true, Bool.true_or, Bool.false_or, Bool.or_false, Bool.and_true, Bool.true_and, Bool.and_false, Bool.false_and, String.reduceEq, exists_const, exists_false, Int.zero_add, List.cons.injEq, Int.reduceAdd, Int.reduceMul, Int.reduceNeg, Int.reduceSub, Int.reducePow, Int.reduceToNat])
local macro_rules | `(tactic| walk_at "gd") => `(tactic| simp only [askS, cauS, GdSs, GdS, GdE, GdEs, GdT, GdTs, GdTg, GdTgs, GdSrc, GdHs, GdSu, GdSE, and_true, true_and, btyB, bfName])
local macro_rules | `(tactic| walk_at "st") => `(tactic| repeat (first | refine ss_cons ?_ | walk_at "rd"))

/-! ### plain -/
def repB (zs : List Str) (i : Nat) : Bool := (List.range (zs.length - i)).all fun k => decide (zs[i + k]? = zs[k]?)
def shW (o : Option (List Str)) (n : List Str) : List Str := match o with
  | none => n
  | some o => if n.length < o.length then n else o
def fmW (n : Int) (z : Str) : Str := Str.empty ++ (toString n : Str) ++ z
def oneW (zs : List Str) : Str := if zs.length = 1 then zs.headD "" else fmW zs.length (zs.headD "")
def grpW (n : Int) : Str := Str.empty ++ (")" : Str) ++ (toString n : Str)
def cutW (kn : Nat → Nat → List Str) (n : Nat) : Nat → Option (List Str)
  | 0 => none
  | c + 1 => some (shW (cutW kn n c) (kn 0 (c + 1) ++ kn (c + 1) n))
def repW (zs : List Str) (kn : Nat → Nat → List Str) (n : Nat) (f : Option (List Str)) : Nat → Option (List Str)
  | 0 => f
  | k + 1 => if n % (k + 2) = 0 ∧ repB zs (k + 2) = true then some (shW (repW zs kn n f k) (("(" : Str) :: (kn 0 (k + 2) ++ [grpW ((n / (k + 2) : Nat) : Int)]))) else repW zs kn n f k
def wrW (zs : List Str) (kn : Nat → Nat → List Str) : List Str :=
  if repB zs 1 = true then [oneW zs] else (repW zs kn zs.length (cutW kn zs.length (zs.length - 1)) (zs.length / 2 - 1)).getD []
def seg (zs : List Str) (i j : Nat) : List Str := (zs.drop i).take (j - i)
def bestF : Nat → List Str → List Str
  | 0, _ => []
  | n + 1, zs => wrW zs fun i j => bestF n (seg zs i j)
def best (zs : List Str) : List Str := bestF zs.length zs
theorem int_len {i : Int} (h : i.natAbs < 10 ^ 18) : (Str.ofString (toString i)).length ≤ 30 := by
  have e := int_text_length_le10 (k := 18) (by decide) h
  rw [PySem.ofString_length]
  omega
theorem fm_len {n : Int} {z : Str} (h : n.natAbs < 10 ^ 18) : (fmW n z).length ≤ 30 + z.length := by
  unfold fmW
  have e := int_len h
  rw [len_app, len_app]
  have : Str.empty.length = 0 := rfl
  show Str.empty.length + (Str.ofString (toString n)).length + z.length ≤ _
  omega
theorem grp_len {n : Int} (h : n.natAbs < 10 ^ 18) : (grpW n).length ≤ 31 := by
  unfold grpW
  have e := int_len h
  rw [len_app, len_app]
  have : Str.empty.length = 0 := rfl
  have : (Str.ofString ")").length = 1 := rfl
  show Str.empty.length + (Str.ofString ")").length + (Str.ofString (toString n)).length ≤ _
  omega
theorem log_small {i : Int} (h : i.natAbs < 10 ^ 18) : i.natAbs.log2 < 1920 := by
  by_cases h0 : i.natAbs = 0
  · rw [h0]; decide
  · exact (Nat.log2_lt h0).mpr (Nat.lt_of_lt_of_le h (by decide +kernel))
theorem repW_some {zs : List Str} {kn : Nat → Nat → List Str} {n : Nat} {f : List Str} : ∀ k, ∃ g, repW zs kn n (some f) k = some g
  | 0 => ⟨f, rfl⟩
  | k + 1 => by
    unfold repW
    split
    · exact ⟨_, rfl⟩
    · exact repW_some k
theorem rep_one {zs : List Str} (h : zs.length ≤ 1) : repB zs 1 = true := by
  unfold repB
  rw [show zs.length - 1 = 0 by omega]
  rfl
/-! ### the defs -/
def sp_is_repeated (G : Gm) : Sp := fun vs H Q _ => match vs with
  | [.ref a, .int i] => ∃ zs : List Str, H a = some (.lst (zs.map V.str)) ∧ zs.length ≤ 1000000 ∧ 0 ≤ i ∧ i ≤ zs.length ∧ GxR.TabG H (tabA G ("is_repeated", none)) ∧ ∀ H', Ext H H' → Q (.bl (repB zs i.toNat)) H'
  | _ => False
def n_is_repeated : List Str := ["stitches", "size"]
def b_is_repeated (G : Gm) : Ss := (.cons (.ret (.xop (xRep G ("is_repeated", none) 0 1) (.cons (.var 1) (.cons (.bif .len (.cons (.var 0) .nil)) .nil)))) .nil)
theorem q_is_repeated (G : Gm) : Asks G (b_is_repeated G) n_is_repeated (sp_is_repeated G) := by
  intro vs H Q E h
  unfold sp_is_repeated at h
  split at h
  · rename_i a i
    obtain ⟨zs, g, hz, h0, h1, hT, h⟩ := h
    unfold b_is_repeated n_is_repeated
    walk_at "st"
    refine .inl ⟨_, .inl (.inl g), _, _, ⟨rfl, rfl⟩, ?_⟩
    intro r hr
    refine ⟨_, ⟨a, r, zs, i, rfl, rfl, (Ext.new hr).lst id g, rfl, by rw [upd_same, List.length_map], h0, h1, hz, rfl⟩, (Ext.new hr).tg _ hT, fun H2 e2 => h H2 ((Ext.new hr).trans e2)⟩
  · exact h.elim
def sp_shorter (G : Gm) : Sp := fun vs H Q _ => match vs with
  | [v, .ref b] => ∃ ws : List Str, H b = some (.lst (ws.map V.str)) ∧ ((v = .non ∧ Q (.ref b) H) ∨ ∃ (a : Addr) (us : List Str), v = .ref a ∧ H a = some (.lst (us.map V.str)) ∧ (us.length > ws.length → Q (.ref b) H) ∧ (¬ us.length > ws.length → Q (.ref a) H))
  | _ => False
def n_shorter : List Str := ["one", "other"]
def b_shorter (G : Gm) : Ss := (.cons (.ret (.ite (.or (.cmp .Is (.var 0) (.cst .non)) (.cmp .Lt (.bif .len (.cons (.var 1) .nil)) (.bif .len (.cons (.var 0) .nil)))) (.var 1) (.var 0))) .nil)
theorem q_shorter (G : Gm) : Asks G (b_shorter G) n_shorter (sp_shorter G) := by
  intro vs H Q E h
  unfold sp_shorter at h
  split at h
  · rename_i v b
    obtain ⟨ws, g, h⟩ := h
    unfold b_shorter n_shorter
    rcases h with ⟨rfl, h⟩ | ⟨a, us, rfl, ga, h1, h2⟩
    · walk_at "st"
      exact h
    · walk_at "st"
      refine .inl ⟨_, .inl (.inl g), .inl ⟨_, .inl (.inl ga), ?_⟩⟩
      simp only [List.length_map]
      by_cases c : us.length > ws.length
      · rw [decide_eq_true (by omega), if_pos rfl]
        exact h1 c
      · rw [decide_eq_false (by omega), if_neg (by simp)]
        exact h2 c
  · exact h.elim
theorem cut_seg {zs : List Str} {b e : Nat} (h : b ≤ e) (h2 : e ≤ zs.length) : cutV (zs.map V.str) (some (b : Int)) (some (e : Int)) = (seg zs b e).map V.str := by
  unfold cutV seg
  have e1 : HT.sIx (zs.map V.str).length 0 (some (b : Int)) = b := by
    rw [HT.sIx_nat, List.length_map]
    omega
  have e2 : HT.sIx (zs.map V.str).length (zs.map V.str).length (some (e : Int)) = e := by
    rw [HT.sIx_nat, List.length_map]
    omega
  rw [e1, e2, List.map_take, List.map_drop]
theorem seg_len {zs : List Str} {b e : Nat} (h : b ≤ e) (h2 : e ≤ zs.length) : (seg zs b e).length = e - b := by
  unfold seg
  rw [List.length_take, List.length_drop]
  omega
structure KnOk (H : Hp) (kp : Addr) (kvs : List (List Key × V)) (kn : Nat → Nat → List Str) (b e : Nat) : Prop where
  g : H kp = some (.dT kvs)
  at_ : ∀ i j : Nat, b ≤ i → i < j → j ≤ e → j - i < e - b → ∃ q, valV kvs [(.inl (i : Int) : Key), .inl (j : Int)] = some (.ref q) ∧ H q = some (.lst ((kn i j).map V.str)) ∧ (kn i j).length ≤ j - i
theorem KnOk.ext {H H' : Hp} {kp : Addr} {kvs : List (List Key × V)} {kn : Nat → Nat → List Str} {b e : Nat} (x : Ext H H') (h : KnOk H kp kvs kn b e) : KnOk H' kp kvs kn b e :=
  ⟨x.dT id h.g, fun i j h1 h2 h3 h4 => let ⟨q, a, b, c⟩ := h.at_ i j h1 h2 h3 h4; ⟨q, a, x.lst id b, c⟩⟩
/-- what is found so far -/
def FV (H : Hp) (n : Nat) (v : V) : Option (List Str) → Prop
  | none => v = .non
  | some ws => ∃ q, v = .ref q ∧ H q = some (.lst (ws.map V.str)) ∧ ws.length ≤ n
theorem FV.ext {H H' : Hp} {n : Nat} {v : V} {o : Option (List Str)} (e : Ext H H') (h : FV H n v o) : FV H' n v o := by
  cases o with
  | none => exact h
  | some ws => exact let ⟨q, a, b, c⟩ := h; ⟨q, a, e.lst id b, c⟩
/-- shorter, called -/
theorem fv_shorter {G : Gm} {H : Hp} {n : Nat} {v : V} {o : Option (List Str)} {b : Addr} {ws : List Str} {Q : VK} {E : XK} (h : FV H n v o) (g : H b = some (.lst (ws.map V.str))) (hl : ws.length ≤ n) (q : ∀ w, FV H n w (some (shW o ws)) → Q w H) : sp_shorter G [v, .ref b] H Q E := by
  refine ⟨ws, g, ?_⟩
  cases o with
  | none => exact .inl ⟨h, q _ ⟨b, rfl, g, hl⟩⟩
  | some us =>
    obtain ⟨a, rfl, ga, ha⟩ := h
    refine .inr ⟨a, us, rfl, ga, fun c => q _ ?_, fun c => q _ ?_⟩
    · have e : shW (some us) ws = ws := if_pos c
      rw [e]
      exact ⟨b, rfl, g, hl⟩
    · have e : shW (some us) ws = us := if_neg c
      rw [e]
      exact ⟨a, rfl, ga, ha⟩
def sp_written (G : Gm) : Sp := fun vs H Q _ => match vs with
  | [.ref a, .int b, .int e, .ref kp] => ∃ (zs : List Str) (kvs : List (List Key × V)) (kn : Nat → Nat → List Str) (bn en : Nat), b = (bn : Int) ∧ e = (en : Int) ∧ H a = some (.lst (zs.map V.str)) ∧ bn < en ∧ en ≤ zs.length ∧ zs.length ≤ 1000 ∧ (∀ z ∈ zs, z.length ≤ 100) ∧
      KnOk H kp kvs kn bn en ∧ GxR.TabG H (tabA G ("is_repeated", none)) ∧ ∀ q H', Ext H H' → H' q = some (.lst ((wrW (seg zs bn en) fun i j => kn (bn + i) (bn + j)).map V.str)) → Q (.ref q) H'
  | _ => False
def n_written : List Str := ["stitches", "begin", "end", "known", "many", "part", "found", "cut", "size"]
def b_written (G : Gm) : Ss := (.cons (.asg (.nm 4) (.bin .Sub (.var 2) (.var 1))) (.cons (.asg (.nm 5) (.slc (.var 0) (.cons (.var 1) .nil) (.cons (.var 2) .nil))) (.cons (.asg (.nm 6) (.cst .non)) (.cons (.iff (.val (.call "is_repeated" (sp_is_repeated G) [] (.cons (.var 5) (.cons (.cst (.int 1)) .nil)))) (.cons (.ret (.lst (.cons (.ite (.cmp .Eq (.var 4) (.cst (.int 1))) (.sub (.var 5) (.cst (.int 0))) (.xop (xFS [none, none]) (.cons (.var 4) (.cons (.sub (.var 5) (.cst (.int 0))) .nil)))) .nil))) .nil) .nil) (.cons (.for_ (.nm 7) (.rng2 (.bin .Add (.var 1) (.cst (.int 1))) (.var 2)) (.cons (.asg (.nm 6) (.call "shorter" (sp_shorter G) [] (.cons (.var 6) (.cons (.bin .Add (.sub (.var 3) (.tup (.cons (.var 1) (.cons (.var 7) .nil)))) (.sub (.var 3) (.tup (.cons (.var 7) (.cons (.var 2) .nil))))) .nil)))) .nil)) (.cons (.for_ (.nm 8) (.rng2 (.cst (.int 2)) (.bin .Add (.bin .FloorDiv (.var 4) (.cst (.int 2))) (.cst (.int 1)))) (.cons (.iff (.and (.cmp .Eq (.bin .Mod (.var 4) (.var 8)) (.cst (.int 0))) (.val (.call "is_repeated" (sp_is_repeated G) [] (.cons (.var 5) (.cons (.var 8) .nil))))) (.cons (.asg (.nm 6) (.call "shorter" (sp_shorter G) [] (.cons (.var 6) (.cons (.bin .Add (.bin .Add (.lst (.cons (.cst (.str "(")) .nil)) (.sub (.var 3) (.tup (.cons (.var 1) (.cons (.bin .Add (.var 1) (.var 8)) .nil))))) (.lst (.cons (.xop (xFS [some ")", none]) (.cons (.bin .FloorDiv (.var 4) (.var 8)) .nil)) .nil))) .nil)))) .nil) .nil) .nil)) (.cons (.ret (.var 6)) .nil)))))))
theorem q_written (G : Gm) : Asks G (b_written G) n_written (sp_written G) := by
  intro vs H Q E h
  unfold sp_written at h
  split at h
  · rename_i a b e kp
    obtain ⟨zs, kvs, kn, bn, en, rfl, rfl, g, hbe, hez, hz, hz2, hk, hT, h⟩ := h
    unfold b_written n_written
    walk_at "st"
    refine slL (.inl (.inl g)) fun p H1 hp e1 gp => ?_
    rw [cut_seg (Nat.le_of_lt hbe) hez] at gp
    have hsl : (seg zs bn en).length = en - bn := seg_len (Nat.le_of_lt hbe) hez
    generalize hs : seg zs bn en = sg at gp h hsl
    have hsz : ∀ z ∈ sg, z.length ≤ 100 := fun z hz => hz2 z (by rw [← hs] at hz; exact List.drop_subset _ _ (List.take_subset _ _ hz))
    walk_at "st"
    refine ⟨sg, gp, by omega, by decide, by omega, e1.tg _ hT, fun H2 e2 => ?_⟩
    walk_at "st"
    by_cases c1 : repB sg 1 = true
    · rw [if_pos c1]
      have hw : (wrW sg fun i j => kn (bn + i) (bn + j)) = [oneW sg] := if_pos c1
      rw [hw] at h
      obtain ⟨z, r, rfl⟩ : ∃ z r, sg = z :: r := by
        cases sg with
        | nil => simp at hsl; omega
        | cons z r => exact ⟨z, r, rfl⟩
      have g2 := e2.lst id gp
      walk_at "st"
      refine eqS rfl ?_
      refine ⟨_, rfl, ?_⟩
      by_cases c2 : en - bn = 1
      · have e3 : (V.int ((en : Int) - bn) = V.int 1) := by congr 1; omega
        rw [decide_eq_true e3, if_pos rfl]
        refine itL g2 (atI_nat (by decide) rfl) ?_
        refine ⟨len_small (by decide), New.i fun q H3 hq e3 g3 => h q H3 (e1.trans (e2.trans e3)) ?_⟩
        have : oneW (z :: r) = z := if_pos (hsl.trans c2)
        rw [g3, this]
        rfl
      · have e3 : ¬ (V.int ((en : Int) - bn) = V.int 1) := fun w => by injection w with w; omega
        have z16 : sizeLine = 16777216 := by decide +kernel
        have zn : ((en : Int) - bn).natAbs < 10 ^ 18 := by
          have : (10 : Nat) ^ 18 = 1000000000000000000 := by decide
          omega
        have l1 := int_len zn
        have l0 : Str.empty.length = 0 := rfl
        have l2 := fm_len (z := z) zn
        have l3 := hsz z List.mem_cons_self
        rw [decide_eq_false e3, if_neg (by simp)]
        refine ⟨log_small zn, by rw [len_app]; omega, itL g2 (atI_nat (by decide) rfl) (.inl ⟨z, rfl, by omega, ?_, len_small (by decide), New.i fun q H3 hq e3 g3 => h q H3 (e1.trans (e2.trans e3)) ?_⟩)⟩
        · exact Nat.le_trans l2 (by omega)
        · have : oneW (z :: r) = fmW (z :: r).length z := if_neg (by rw [hsl]; exact c2)
          rw [g3, this, hsl]
          have : (((en - bn : Nat) : Int)) = (en : Int) - bn := by omega
          rw [this]
          rfl
    · rw [if_neg c1]
      walk_at "st"
      have lim : (2 : Int) ^ 62 = 4611686018427387904 := by decide
      refine ⟨_, _, ⟨rfl, rfl⟩, ⟨by omega, by omega, by omega, by omega⟩, ?_⟩
      refine fjR (fun i τ H3 => ∃ fv y7, τ = [some (.ref a), some (.int bn), some (.int en), some (.ref kp), some (.int ((en : Int) - bn)), some (.ref p), some fv, y7, none] ∧ Ext H2 H3 ∧ FV H3 (en - bn) fv (cutW (fun i j => kn (bn + i) (bn + j)) (en - bn) i)) ⟨.non, none, rfl, Xt.refl, rfl⟩ ?_ ?_
      · rintro i τ H3 hi ⟨fv, y7, rfl, e3, hf⟩
        walk_at "st"
        have K3 := hk.ext (e1.trans (e2.trans e3))
        refine ⟨len_small (by decide), New.i fun t1 H4 ht1 e4 g4 => ?_⟩
        have K4 := K3.ext e4
        obtain ⟨q1, v1, gq1, lq1⟩ := K4.at_ bn (bn + 1 + i) (by omega) (by omega) (by omega) (by omega)
        have ci : (bn : Int) + 1 + i = ((bn + 1 + i : Nat) : Int) := by omega
        rw [ci] at g4 ⊢
        refine itDT (k := [.inl (bn : Int), .inl ((bn + 1 + i : Nat) : Int)]) K4.g g4 v1 ?_
        refine ⟨len_small (by decide), New.i fun t2 H5 ht2 e5 g5 => ?_⟩
        have K5 := K4.ext e5
        obtain ⟨q2, v2, gq2, lq2⟩ := K5.at_ (bn + 1 + i) en (by omega) (by omega) (by omega) (by omega)
        refine itDT (k := [.inl ((bn + 1 + i : Nat) : Int), .inl (en : Int)]) K5.g g5 v2 ?_
        have gq1 := e5.lst id gq1
        refine catL gq1 gq2 (by rw [List.length_map, List.length_map]; exact len_small (by omega)) fun l H6 hl e6 g6 => ?_
        rw [← List.map_append] at g6
        have F6 := hf.ext (e4.trans (e5.trans e6))
        refine fv_shorter F6 g6 (by rw [List.length_append]; omega) fun w hw => ⟨w, _, ⟨rfl, rfl⟩, e3.trans (e4.trans (e5.trans e6)), ?_⟩
        have : shW (cutW (fun i j => kn (bn + i) (bn + j)) (en - bn) i) (kn bn (bn + 1 + i) ++ kn (bn + 1 + i) en) = shW (cutW (fun i j => kn (bn + i) (bn + j)) (en - bn) i) (kn (bn + 0) (bn + (i + 1)) ++ kn (bn + (i + 1)) (bn + (en - bn))) := by
          rw [show bn + 0 = bn by omega, show bn + (i + 1) = bn + 1 + i by omega, show bn + (en - bn) = en by omega]
        rw [this] at hw
        exact hw
      · rintro τ H3 ⟨fv, y7, rfl, e3, hf⟩
        walk_at "st"
        have hcut : ((en : Int) - ((bn : Int) + 1)).toNat = sg.length - 1 := by omega
        rw [hcut] at hf
        have hh : ((en : Int) - bn) / 2 = ((sg.length / 2 : Nat) : Int) := by omega
        rw [hh]
        refine ⟨⟨by decide, by decide⟩, _, _, ⟨rfl, rfl⟩, ⟨by omega, by omega, by omega, by omega⟩, ?_⟩
        refine fjR (fun i τ H4 => ∃ fv y8, τ = [some (.ref a), some (.int bn), some (.int en), some (.ref kp), some (.int ((en : Int) - bn)), some (.ref p), some fv, y7, y8] ∧ Ext H3 H4 ∧ FV H4 (en - bn) fv (repW sg (fun i j => kn (bn + i) (bn + j)) sg.length (cutW (fun i j => kn (bn + i) (bn + j)) sg.length (sg.length - 1)) i)) ⟨fv, none, rfl, Xt.refl, ?_⟩ ?_ ?_
        · rw [hsl] at hf ⊢
          exact hf
        · rintro i τ H4 hi ⟨fv, y8, rfl, e4, hf⟩
          walk_at "st"
          have hm : ((en : Int) - bn) % (2 + i) = ((sg.length % (i + 2) : Nat) : Int) := by
            rw [show (en : Int) - bn = (sg.length : Int) by omega, show (2 : Int) + i = ((i + 2 : Nat) : Int) by omega, ← Int.natCast_emod]
          rw [hm]
          refine ⟨by omega, eqS rfl ⟨_, rfl, ?_⟩⟩
          have E4 := e2.trans (e3.trans e4)
          have stop : ¬ (sg.length % (i + 2) = 0 ∧ repB sg (i + 2) = true) → repW sg (fun i j => kn (bn + i) (bn + j)) sg.length (cutW (fun i j => kn (bn + i) (bn + j)) sg.length (sg.length - 1)) (i + 1) = repW sg (fun i j => kn (bn + i) (bn + j)) sg.length (cutW (fun i j => kn (bn + i) (bn + j)) sg.length (sg.length - 1)) i := fun c => if_neg c
          have go : sg.length % (i + 2) = 0 ∧ repB sg (i + 2) = true → repW sg (fun i j => kn (bn + i) (bn + j)) sg.length (cutW (fun i j => kn (bn + i) (bn + j)) sg.length (sg.length - 1)) (i + 1) = some (shW (repW sg (fun i j => kn (bn + i) (bn + j)) sg.length (cutW (fun i j => kn (bn + i) (bn + j)) sg.length (sg.length - 1)) i) (("(" : Str) :: (kn bn (bn + (i + 2)) ++ [grpW ((sg.length / (i + 2) : Nat) : Int)]))) := fun c => if_pos c
          generalize repW sg (fun i j => kn (bn + i) (bn + j)) sg.length (cutW (fun i j => kn (bn + i) (bn + j)) sg.length (sg.length - 1)) (i + 1) = R1 at stop go ⊢
          generalize repW sg (fun i j => kn (bn + i) (bn + j)) sg.length (cutW (fun i j => kn (bn + i) (bn + j)) sg.length (sg.length - 1)) i = R0 at stop go hf
          by_cases c3 : sg.length % (i + 2) = 0
          · have c3' : (V.int ((sg.length % (i + 2) : Nat) : Int) = V.int 0) := by rw [c3]; rfl
            rw [decide_eq_true c3', if_pos rfl]
            have hi2 : i + 2 ≤ sg.length / 2 := by omega
            refine ⟨sg, E4.lst id gp, by omega, by omega, by omega, E4.tg _ (e1.tg _ hT), fun H5 e5 => ⟨_, rfl, ?_⟩⟩
            rw [show ((2 : Int) + i).toNat = i + 2 by omega]
            by_cases c4 : repB sg (i + 2) = true
            · rw [if_pos c4]
              rw [go ⟨c3, c4⟩]
              have K5 := hk.ext (e1.trans (E4.trans e5))
              walk_at "st"
              refine ⟨len_small (by decide), New.i fun l0 H6 hl0 e6 g6 => ?_⟩
              refine ⟨len_small (by decide), New.i fun t1 H7 ht1 e7 g7 => ?_⟩
              have K7 := K5.ext (e6.trans e7)
              obtain ⟨q1, v1, gq1, lq1⟩ := K7.at_ bn (bn + (i + 2)) (by omega) (by omega) (by omega) (by omega)
              rw [show (bn : Int) + (2 + i) = ((bn + (i + 2) : Nat) : Int) by omega] at g7
              refine itDT (k := [.inl (bn : Int), .inl ((bn + (i + 2) : Nat) : Int)]) K7.g g7 v1 ?_
              refine catL (e7.lst id g6) gq1 (by rw [List.length_map]; exact len_small (by simp; omega)) fun l1 H8 hl1 e8 g8 => ?_
              walk_at "st"
              have z16 : sizeLine = 16777216 := by decide +kernel
              have hq : ((en : Int) - bn) / (2 + i) = ((sg.length / (i + 2) : Nat) : Int) := by
                rw [show (en : Int) - bn = (sg.length : Int) by omega, show (2 : Int) + i = ((i + 2 : Nat) : Int) by omega, ← Int.natCast_ediv]
              have hle : sg.length / (i + 2) ≤ sg.length := Nat.div_le_self _ _
              have zn : (((sg.length / (i + 2) : Nat) : Int)).natAbs < 10 ^ 18 := by
                have : (10 : Nat) ^ 18 = 1000000000000000000 := by decide
                rw [Int.natAbs_natCast]
                omega
              rw [hq]
              have lg := grp_len zn
              refine ⟨by rw [z16]; decide, ⟨by omega, by omega⟩, log_small zn, Nat.le_trans lg (by omega), len_small (by decide), New.i fun l2 H9 hl2 e9 g9 => ?_⟩
              refine catL (e9.lst id g8) g9 (by simp; exact len_small (by omega)) fun l3 H10 hl3 e10 g10 => ?_
              have EE := ((e5.trans (e6.trans e7)).trans (e8.trans e9)).trans e10
              have F10 := hf.ext EE
              refine fv_shorter (ws := ("(" : Str) :: (kn bn (bn + (i + 2)) ++ [grpW ((sg.length / (i + 2) : Nat) : Int)])) F10 (by rw [g10]; simp [grpW]) (by simp; omega) fun w hw => ⟨w, _, ⟨rfl, rfl⟩, e4.trans EE, hw⟩
            · rw [if_neg c4]
              rw [stop fun c => c4 c.2]
              walk_at "st"
              first | exact ⟨fv, _, rfl, e4.trans e5, hf.ext e5⟩ | exact ⟨fv, _, ⟨rfl, rfl⟩, e4.trans e5, hf.ext e5⟩
          · have c3' : ¬ (V.int ((sg.length % (i + 2) : Nat) : Int) = V.int 0) := fun w => by injection w with w; omega
            rw [decide_eq_false c3', if_neg (by simp)]
            rw [stop fun c => c3 c.1]
            walk_at "st"
            first | exact ⟨fv, _, rfl, e4, hf⟩ | exact ⟨fv, _, ⟨rfl, rfl⟩, e4, hf⟩
        · rintro τ H4 ⟨fv, y8, rfl, e4, hf⟩
          walk_at "st"
          have hn2 : 2 ≤ sg.length := by
            by_cases c : sg.length ≤ 1
            · exact absurd (rep_one c) c1
            · omega
          have hk2 : (((sg.length / 2 : Nat) : Int) + 1 - 2).toNat = sg.length / 2 - 1 := by omega
          rw [hk2] at hf
          have hw : (wrW sg fun i j => kn (bn + i) (bn + j)) = (repW sg (fun i j => kn (bn + i) (bn + j)) sg.length (cutW (fun i j => kn (bn + i) (bn + j)) sg.length (sg.length - 1)) (sg.length / 2 - 1)).getD [] := if_neg c1
          obtain ⟨c, hc⟩ : ∃ c, sg.length - 1 = c + 1 := ⟨sg.length - 2, by omega⟩
          rw [hc] at hf hw
          obtain ⟨g, hg⟩ := repW_some (zs := sg) (kn := fun i j => kn (bn + i) (bn + j)) (n := sg.length) (f := shW (cutW (fun i j => kn (bn + i) (bn + j)) sg.length c) (kn (bn + 0) (bn + (c + 1)) ++ kn (bn + (c + 1)) (bn + sg.length))) (sg.length / 2 - 1)
          have hg2 : repW sg (fun i j => kn (bn + i) (bn + j)) sg.length (cutW (fun i j => kn (bn + i) (bn + j)) sg.length (c + 1)) (sg.length / 2 - 1) = some g := hg
          rw [hg2] at hf hw
          obtain ⟨q, rfl, gq, lq⟩ := hf
          exact h q H4 (e1.trans (e2.trans (e3.trans e4))) (by rw [gq, hw]; rfl)
  · exact h.elim
end Kn

set_option pp.maxSteps 2000
/-! W2: shortest. -/
namespace Kn
open PySem PySem.Spec PyProof.Rows L2
local macro_rules | `(tactic| walk_at "rd") => `(tactic| simp only [ss_nil, s_asg, s_par2, s_aug, s_ret, s_retN, s_exp, s_iff, s_pass, s_brk, s_cnt, s_rs1, s_for1, s_for2, s_forp, s_forz, s_whl, s_try, e_var, e_glb, e_bty, e_cst, e_bin, e_neg, e_cmp, e_cm2, e_and, e_or, e_not, e_ite, e_lst, e_tup, e_sub, e_slc, e_bif, e_bm0, e_bm, e_call, e_calk, e_lc1, e_lc2, e_lcp, e_lcx, s_forx, r_xEnum, r_xSetSorted, r_xAllIn, r_xDict0, r_xDict1, r_xListRng1, r_xListRng2, r_xKeys, r_xJoin, r_xDPop, r_xRng3, r_xItems, r_xReprN, r_xRep, r_xDictT, r_xFS, fsTE, tJs, tFmt, tAllG, tRng, s_wr, tDPop1, r_lkOp, tLockE, tM1, rJoin, e_xop, e_lam, s_xst, t_xtg, su_xsu, rdL, tBreak, tCont, su_lst, su_ret, rdSEs, rdSE, tXf, wipe, tYes, LcS, Ends.gone, rdEs, rdT, rdTs, rdTgs, rdO, tSeq, tRet, tRetN, tDrop, tNext, tIfS, tAndV, tOrV, tNotV, tAnd, tOr, tNot, tTest, tOp, tUn, tCB, tCons, tNil, tVar, tC, nTup, nLst, tChain, tAsg, tPar, tAug, tBM, tBM0, tSl, tPart, tNoPart, tIf, gName, gSub, gc1, gn0, t_nm, t_ix, t_tp, rBin, rCmp, rBf, rBm, rIsiG, rIntB, rAddG, rSubG, rMulG, rDivG, rModG, rPowG, rShlG, rShrG, rAndG, rNegG, rLenG, rMaxG, rMinG, rIntG, rStrG, rIsG, rIsNotG, tTruG, TruV, btyV, btyB, bmTy, L2.start, List.getElem?_cons_zero, List.getElem?_cons_succ, Option.some.injEq, exists_eq_left', exists_eq_left, V.bl.injEq, V.int.injEq, V.str.injEq, V.ref.injEq, true_and, and_true, or_false, false_or, List.set_cons_zero, List.set_cons_succ, List.map_cons, List.map_nil, List.length_cons, List.length_nil, List.replicate_succ, List.replicate_zero, List.cons_append, List.nil_append, List.append_nil, Nat.sub_self, Nat.zero_add, Nat.add_sub_cancel, ite_true, ite_false, if_true, if_false, reduceIte, Bool.not_true, Bool.not_false, Bool.false_eq_true, reduceCtorEq, false_and, and_false, Nat.reduceAdd, Nat.reduceSub, tabIsi, okTy, tyS, decide_true, decide_false, Bool.or_true, Bool.true_or, Bool.false_or, Bool.or_false, Bool.and_true, Bool.true_and, Bool.and_false, Bool.false_and, String.reduceEq, exists_const, exists_false, Int.zero_add, List.cons.injEq, Int.reduceAdd, Int.reduceMul, Int.reduceNeg, Int.reduceSub, Int.reducePow, Int.reduceToNat])
local macro_rules | `(tactic| walk_at "gd") => `(tactic| simp only [askS, cauS, GdSs, GdS, GdE, GdEs, GdT, GdTs, GdTg, GdTgs, GdSrc, GdHs, GdSu, GdSE, and_true, true_and, btyB, bfName])
local macro_rules | `(tactic| walk_at "st") => `(tactic| repeat (first | refine ss_cons ?_ | walk_at "rd"))

/-! ### plain -/
theorem cutW_congr {kn kn' : Nat → Nat → List Str} {n : Nat} (h : ∀ i j, i < j → j ≤ n → j - i < n → kn i j = kn' i j) : ∀ c, c ≤ n - 1 → cutW kn n c = cutW kn' n c
  | 0, _ => rfl
  | c + 1, hc => by
    unfold cutW
    rw [cutW_congr h c (by omega), h 0 (c + 1) (by omega) (by omega) (by omega), h (c + 1) n (by omega) (by omega) (by omega)]
theorem repW_congr {zs : List Str} {kn kn' : Nat → Nat → List Str} {n : Nat} {f : Option (List Str)} (h : ∀ i j, i < j → j ≤ n → j - i < n → kn i j = kn' i j) : ∀ k, k ≤ n / 2 - 1 → repW zs kn n f k = repW zs kn' n f k
  | 0, _ => rfl
  | k + 1, hk => by
    unfold repW
    rw [repW_congr h k (by omega), h 0 (k + 2) (by omega) (by omega) (by omega)]
theorem wrW_congr {zs : List Str} {kn kn' : Nat → Nat → List Str} (h : ∀ i j, i < j → j ≤ zs.length → j - i < zs.length → kn i j = kn' i j) : wrW zs kn = wrW zs kn' := by
  unfold wrW
  rw [cutW_congr h _ Nat.le.refl, repW_congr h _ Nat.le.refl]
theorem bestF_eq : ∀ (m n : Nat) (zs : List Str), 1 ≤ zs.length → zs.length ≤ m → zs.length ≤ n → bestF m zs = bestF n zs
  | 0, _, _, h, h1, _ => by omega
  | m + 1, 0, _, h, _, h2 => by omega
  | m + 1, n + 1, zs, h, h1, h2 => by
    unfold bestF
    refine wrW_congr fun i j hi hj hd => ?_
    have e : (seg zs i j).length = j - i := seg_len (Nat.le_of_lt hi) hj
    exact bestF_eq m n _ (by omega) (by omega) (by omega)
theorem best_eq {zs : List Str} (h : 1 ≤ zs.length) : best zs = wrW zs fun i j => best (seg zs i j) := by
  obtain ⟨n, hn⟩ : ∃ n, zs.length = n + 1 := ⟨zs.length - 1, by omega⟩
  unfold best
  rw [hn]
  show wrW zs _ = _
  refine wrW_congr fun i j hi hj hd => ?_
  have e : (seg zs i j).length = j - i := seg_len (Nat.le_of_lt hi) hj
  exact bestF_eq _ _ _ (by omega) (by omega) (by omega)
theorem seg_seg {zs : List Str} {a b i j : Nat} (h : j ≤ b - a) : seg (seg zs a b) i j = seg zs (a + i) (a + j) := by
  unfold seg
  rw [List.drop_take, List.take_take, List.drop_drop]
  congr 1
  omega
theorem best_seg {zs : List Str} {a b : Nat} (h : a < b) (h2 : b ≤ zs.length) : (wrW (seg zs a b) fun i j => best (seg zs (a + i) (a + j))) = best (seg zs a b) := by
  have e : (seg zs a b).length = b - a := seg_len (Nat.le_of_lt h) h2
  rw [best_eq (zs := seg zs a b) (by omega)]
  exact (wrW_congr fun i j hi hj hd => by rw [seg_seg (by omega)]).symm
theorem seg_all (zs : List Str) : seg zs 0 zs.length = zs := by
  unfold seg
  simp
def okW (n : Nat) (ws : List Str) : Prop := ws.length ≤ n ∧ ∀ w ∈ ws, w.length ≤ 200
theorem okW.app {m n : Nat} {a b : List Str} (h : okW m a) (g : okW n b) : okW (m + n) (a ++ b) := ⟨by rw [List.length_append]; have := h.1; have := g.1; omega, fun w hw => (List.mem_append.mp hw).elim (h.2 w) (g.2 w)⟩
theorem okW.mono {m n : Nat} {a : List Str} (h : okW m a) (g : m ≤ n) : okW n a := ⟨Nat.le_trans h.1 g, h.2⟩
theorem okW.sh {n : Nat} {o : Option (List Str)} {a : List Str} (h : ∀ g, o = some g → okW n g) (g : okW n a) : okW n (shW o a) := by
  cases o with
  | none => exact g
  | some b =>
    show okW n (if a.length < b.length then a else b)
    split
    · exact g
    · exact h b rfl
theorem cutW_ok {kn : Nat → Nat → List Str} {n : Nat} (h : ∀ i j, i < j → j ≤ n → j - i < n → okW (j - i) (kn i j)) : ∀ c, c ≤ n - 1 → ∀ g, cutW kn n c = some g → okW n g
  | 0, _, g, e => by cases e
  | c + 1, hc, g, e => by
    cases e
    exact okW.sh (cutW_ok h c (by omega)) (((h 0 (c + 1) (by omega) (by omega) (by omega)).app (h (c + 1) n (by omega) (by omega) (by omega))).mono (by omega))
theorem repW_ok {zs : List Str} {kn : Nat → Nat → List Str} {n : Nat} {f : Option (List Str)} (hn : n ≤ 1000) (h : ∀ i j, i < j → j ≤ n → j - i < n → okW (j - i) (kn i j)) (hf : ∀ g, f = some g → okW n g) : ∀ k, k ≤ n / 2 - 1 → ∀ g, repW zs kn n f k = some g → okW n g
  | 0, _, g, e => hf g e
  | k + 1, hk, g, e => by
    unfold repW at e
    split at e
    · cases e
      refine okW.sh (repW_ok hn h hf k (by omega)) ?_
      have o := h 0 (k + 2) (by omega) (by omega) (by omega)
      have one : okW 1 [("(" : Str)] := ⟨by simp, fun w hw => by rw [List.mem_singleton.mp hw]; decide⟩
      have z : okW 1 [grpW ((n / (k + 2) : Nat) : Int)] := ⟨by simp, fun w hw => by
        rw [List.mem_singleton.mp hw]
        refine Nat.le_trans (grp_len ?_) (by decide)
        have : (10 : Nat) ^ 18 = 1000000000000000000 := by decide
        have hle : n / (k + 2) ≤ n := Nat.div_le_self _ _
        rw [Int.natAbs_natCast]
        omega⟩
      exact (one.app (o.app z)).mono (by omega)
    · exact repW_ok hn h hf k (by omega) g e
theorem wrW_ok {zs : List Str} {kn : Nat → Nat → List Str} (h1 : 1 ≤ zs.length) (hn : zs.length ≤ 1000) (hz : ∀ z ∈ zs, z.length ≤ 100) (h : ∀ i j, i < j → j ≤ zs.length → j - i < zs.length → okW (j - i) (kn i j)) : okW zs.length (wrW zs kn) := by
  unfold wrW
  split
  · obtain ⟨z, r, rfl⟩ : ∃ z r, zs = z :: r := by
      cases zs with
      | nil => simp at h1
      | cons z r => exact ⟨z, r, rfl⟩
    refine ⟨by simp, fun w hw => ?_⟩
    rw [List.mem_singleton.mp hw]
    have lz := hz z List.mem_cons_self
    unfold oneW
    split
    · exact Nat.le_trans lz (by decide)
    · refine Nat.le_trans (fm_len ?_) (by show 30 + z.length ≤ 200; omega)
      have : (10 : Nat) ^ 18 = 1000000000000000000 := by decide
      rw [Int.natAbs_natCast]
      omega
  · cases e : repW zs kn zs.length (cutW kn zs.length (zs.length - 1)) (zs.length / 2 - 1) with
    | none => exact ⟨by simp, by simp⟩
    | some g => exact repW_ok hn h (cutW_ok h _ Nat.le.refl) _ Nat.le.refl g e
theorem best_ok : ∀ (n : Nat) (zs : List Str), zs.length ≤ n → 1 ≤ zs.length → zs.length ≤ 1000 → (∀ z ∈ zs, z.length ≤ 100) → okW zs.length (best zs)
  | 0, zs, h, h1, _, _ => by omega
  | n + 1, zs, h, h1, h2, hz => by
    rw [best_eq h1]
    refine wrW_ok h1 h2 hz fun i j hi hj hd => ?_
    have e : (seg zs i j).length = j - i := seg_len (Nat.le_of_lt hi) hj
    have := best_ok n (seg zs i j) (by omega) (by omega) (by omega) fun z m => hz z (List.drop_subset _ _ (List.take_subset _ _ m))
    rwa [e] at this
/-! ### the def -/
theorem ab_back {a b i j : Nat} (w : (a : Int) = j ∧ (b : Int) = j + (i + 1)) : a = j ∧ b = j + (i + 1) := by omega
def shR (v : V) : Option (List V) → Res
  | none => some ("NoStitches", "value", v)
  | some xs => match stsR v (some xs) with
    | some r => some r
    | none => if 24 < xs.length then some ("NoStitches", "value", v) else none
theorem shR_some {v : V} {xs : List V} : shR v (some xs) = match stsR v (some xs) with
    | some r => some r
    | none => if 24 < xs.length then some ("NoStitches", "value", v) else none := rfl
def txtW (zs : List Str) : Str := if zs = [] then "" else Txt.join " " (best zs)
def sp_shortest (G : Gm) : Sp := fun vs H Q E => match vs with
  | [v] => ∃ o, SeqO H v o ∧ (∀ xs, o = some xs → xs.length ≤ 1000000 ∧ ∀ x ∈ xs, Known H x) ∧ GxR.TabG H (tabA G ("is_repeated", none)) ∧
      (∀ zs, o = some (zs.map V.str) → shR v o = none → ∀ H', Ext H H' → Q (.str (txtW zs)) H') ∧ RzR G H E (shR v o)
  | _ => False
theorem st_short {z : Str} (h : (stT z).isSome = true) : z.length ≤ 100 := by
  obtain ⟨t, ht⟩ := Option.isSome_iff_exists.mp h
  have all : stTab.all (fun e => decide (e.1.length ≤ 100)) = true := by decide +kernel
  exact of_decide_eq_true (List.all_eq_true.mp all _ (stT_in ht))
theorem all_str : ∀ {xs : List V}, (∀ x ∈ xs, isSt x = true) → ∃ zs : List Str, xs = zs.map V.str ∧ ∀ z ∈ zs, (stT z).isSome = true
  | [], _ => ⟨[], rfl, by simp⟩
  | x :: r, h => by
    obtain ⟨zs, e, hz⟩ := all_str (xs := r) fun y hy => h y (List.mem_cons_of_mem _ hy)
    have hx := h x List.mem_cons_self
    cases x with
    | str z =>
      refine ⟨z :: zs, by rw [e]; rfl, fun y hy => ?_⟩
      rcases List.mem_cons.mp hy with rfl | hy
      · exact hx
      · exact hz y hy
    | _ => cases hx
theorem sts_none {v : V} {xs : List V} (h : stsR v (some xs) = none) : xs.length ≤ 1200 ∧ ∀ x ∈ xs, isSt x = true := by
  rw [stsR_some] at h
  split at h
  · cases h
  · refine ⟨by omega, fun x hx => ?_⟩
    cases e : xs.find? fun x => !isSt x with
    | none => simpa using List.find?_eq_none.mp e x hx
    | some y => rw [e] at h; cases h
def n_shortest : List Str := ["stitches", "row", "known", "many", "begin"]
def b_shortest (G : Gm) : Ss := (.cons (.exp (.call "need_stitches" (sp_need_stitches G) [] (.cons (.var 0) .nil))) (.cons (.iff (.cmp .Gt (.bif .len (.cons (.var 0) .nil)) (.glb "MOST_WRITTEN" (.int 24))) (.cons (.rs1 "NoStitches" "value" (.var 0)) .nil) .nil) (.cons (.iff (.not (.val (.var 0))) (.cons (.ret (.cst (.str ""))) .nil) .nil) (.cons (.asg (.nm 1) (.bif .list (.cons (.var 0) .nil))) (.cons (.asg (.nm 2) (.xop xDictT .nil)) (.cons (.for_ (.nm 3) (.rng2 (.cst (.int 1)) (.bin .Add (.bif .len (.cons (.var 1) .nil)) (.cst (.int 1)))) (.cons (.for_ (.nm 4) (.rng1 (.bin .Add (.bin .Sub (.bif .len (.cons (.var 1) .nil)) (.var 3)) (.cst (.int 1)))) (.cons (.asg (.ix (.var 2) (.tup (.cons (.var 4) (.cons (.bin .Add (.var 4) (.var 3)) .nil)))) (.call "written" (sp_written G) [] (.cons (.var 1) (.cons (.var 4) (.cons (.bin .Add (.var 4) (.var 3)) (.cons (.var 2) .nil)))))) .nil)) .nil)) (.cons (.ret (.xop (xJoin G) (.cons (.cst (.str " ")) (.cons (.sub (.var 2) (.tup (.cons (.cst (.int 0)) (.cons (.bif .len (.cons (.var 1) .nil)) .nil)))) .nil)))) .nil)))))))
def t2_shortest (G : Gm) : Ss := (.cons (.iff (.not (.val (.var 0))) (.cons (.ret (.cst (.str ""))) .nil) .nil) (.cons (.asg (.nm 1) (.bif .list (.cons (.var 0) .nil))) (.cons (.asg (.nm 2) (.xop xDictT .nil)) (.cons (.for_ (.nm 3) (.rng2 (.cst (.int 1)) (.bin .Add (.bif .len (.cons (.var 1) .nil)) (.cst (.int 1)))) (.cons (.for_ (.nm 4) (.rng1 (.bin .Add (.bin .Sub (.bif .len (.cons (.var 1) .nil)) (.var 3)) (.cst (.int 1)))) (.cons (.asg (.ix (.var 2) (.tup (.cons (.var 4) (.cons (.bin .Add (.var 4) (.var 3)) .nil)))) (.call "written" (sp_written G) [] (.cons (.var 1) (.cons (.var 4) (.cons (.bin .Add (.var 4) (.var 3)) (.cons (.var 2) .nil)))))) .nil)) .nil)) (.cons (.ret (.xop (xJoin G) (.cons (.cst (.str " ")) (.cons (.sub (.var 2) (.tup (.cons (.cst (.int 0)) (.cons (.bif .len (.cons (.var 1) .nil)) .nil)))) .nil)))) .nil)))))
def t3_shortest (G : Gm) : Ss := (.cons (.asg (.nm 2) (.xop xDictT .nil)) (.cons (.for_ (.nm 3) (.rng2 (.cst (.int 1)) (.bin .Add (.bif .len (.cons (.var 1) .nil)) (.cst (.int 1)))) (.cons (.for_ (.nm 4) (.rng1 (.bin .Add (.bin .Sub (.bif .len (.cons (.var 1) .nil)) (.var 3)) (.cst (.int 1)))) (.cons (.asg (.ix (.var 2) (.tup (.cons (.var 4) (.cons (.bin .Add (.var 4) (.var 3)) .nil)))) (.call "written" (sp_written G) [] (.cons (.var 1) (.cons (.var 4) (.cons (.bin .Add (.var 4) (.var 3)) (.cons (.var 2) .nil)))))) .nil)) .nil)) (.cons (.ret (.xop (xJoin G) (.cons (.cst (.str " ")) (.cons (.sub (.var 2) (.tup (.cons (.cst (.int 0)) (.cons (.bif .len (.cons (.var 1) .nil)) .nil)))) .nil)))) .nil)))
def t4_shortest (G : Gm) : Ss := (.cons (.ret (.xop (xJoin G) (.cons (.cst (.str " ")) (.cons (.sub (.var 2) (.tup (.cons (.cst (.int 0)) (.cons (.bif .len (.cons (.var 1) .nil)) .nil)))) .nil)))) .nil)
/-- what is known -/
def KnT (H : Hp) (zs : List Str) (kvs : List (List Key × V)) (P : Nat → Nat → Prop) : Prop := ∀ a b : Nat, a < b → b ≤ zs.length → P a b → ∃ q, valV kvs [(.inl (a : Int) : Key), .inl (b : Int)] = some (.ref q) ∧ H q = some (.lst ((best (seg zs a b)).map V.str))
theorem put_len {κ : Type} [DecidableEq κ] {kvs : List (κ × V)} {k : κ} {v : V} : (putK kvs k v).length ≤ kvs.length + 1 := by
  unfold putK
  split
  · rw [List.length_map]; omega
  · rw [List.length_append]; simp
theorem q_t3 (G : Gm) {W : WX} {D : Ends} {H : Hp} {v : V} {rp : Addr} {zs : List Str} (gr : H rp = some (.lst (zs.map V.str))) (h1 : 1 ≤ zs.length) (h2 : zs.length ≤ 24) (hz : ∀ z ∈ zs, z.length ≤ 100) (hT : GxR.TabG H (tabA G ("is_repeated", none)))
    (hD : ∀ H', Ext H H' → D.rt (.str (Txt.join " " (best zs))) H') : rdSs G (t3_shortest G) W D [some v, some (.ref rp), none, none, none] H := by
  unfold t3_shortest
  walk_at "st"
  have lim : (2 : Int) ^ 62 = 4611686018427387904 := by decide
  refine New.i fun kp H1 hkp e1 g1 => ?_
  have nr : rp ≠ kp := fun w => by rw [w, hkp] at gr; cases gr
  walk_at "st"
  refine .inl ⟨_, .inl (.inl (e1.lst id gr)), _, _, ⟨rfl, rfl⟩, ?_⟩
  rw [List.length_map]
  refine ⟨⟨by omega, by omega, by omega, by omega⟩, ?_⟩
  refine fjR (fun i τ H2 => ∃ y3 y4 kvs, τ = [some v, some (.ref rp), some (.ref kp), y3, y4] ∧ ExtB kp H1 H2 ∧ H2 kp = some (.dT kvs) ∧ kvs.length ≤ 100 * i ∧ KnT H2 zs kvs fun a b => b - a ≤ i) ⟨none, none, [], rfl, Xt.refl, g1, by simp, fun a b h1 h2 h3 => by omega⟩ ?_ ?_
  · rintro i τ H2 hi ⟨y3, y4, kvs, rfl, e2, g2, l2, K2⟩
    have hi' : i < zs.length := by omega
    walk_at "st"
    have gr2 := e2.lst nr (e1.lst id gr)
    refine .inl ⟨_, .inl (.inl gr2), ?_⟩
    rw [List.length_map]
    refine ⟨by omega, by omega, ?_⟩
    refine fjR (fun j τ H3 => ∃ y4 kvs, τ = [some v, some (.ref rp), some (.ref kp), some (.int (1 + i)), y4] ∧ ExtB kp H1 H3 ∧ H3 kp = some (.dT kvs) ∧ kvs.length ≤ 100 * i + j ∧ KnT H3 zs kvs fun a b => b - a ≤ i ∨ (b - a = i + 1 ∧ a < j)) ⟨y4, kvs, rfl, e2, g2, by omega, fun a b h1 h2 h3 => K2 a b h1 h2 (by omega)⟩ ?_ ?_
    · rintro j τ H3 hj ⟨y4, kvs, rfl, e3, g3, l3, K3⟩
      have hj' : j + i < zs.length := by omega
      walk_at "st"
      have gr3 := e3.lst nr (e1.lst id gr)
      refine ⟨zs, kvs, fun a b => best (seg zs a b), j, j + (i + 1), by omega, by omega, gr3, by omega, by omega, by omega, hz, ⟨g3, fun a b h1' h2' h3' h4' => ?_⟩, e3.tg _ (e1.tg _ hT), fun q H4 e4 g4 => ?_⟩
      · obtain ⟨q, vq, gq⟩ := K3 a b h2' (by omega) (.inl (by omega))
        have e : (seg zs a b).length = b - a := seg_len (Nat.le_of_lt h2') (by omega)
        have ok := best_ok (b - a) (seg zs a b) (by omega) (by omega) (by omega) fun z m => hz z (List.drop_subset _ _ (List.take_subset _ _ m))
        exact ⟨q, vq, gq, by rw [e] at ok; exact ok.1⟩
      · rw [best_seg (by omega) (by omega)] at g4
        walk_at "st"
        refine ⟨len_small (by decide), New.i fun tp H5 htp e5 g5 => ?_⟩
        rw [show (j : Int) + (1 + i) = ((j + (i + 1) : Nat) : Int) by omega] at g5
        have gk5 := e5.dT id (e4.dT id g3)
        refine setDT (k := [.inl (j : Int), .inl ((j + (i + 1) : Nat) : Int)]) gk5 g5 (lt_size (by omega)) fun H6 e6 g6 => ?_
        refine ⟨_, _, rfl, (e3.trans (e4.any.trans e5.any)).trans e6, g6, Nat.le_trans put_len (by omega), fun a b h1' h2' h3' => ?_⟩
        have nk : ∀ {q : Addr} {xs : List V} {H' : Hp} {kv : List (List Key × V)}, H' kp = some (.dT kv) → H' q = some (.lst xs) → q ≠ kp := fun {q xs H' kv} gk gl w => by rw [w, gk] at gl; cases gl
        rw [valV_put]
        by_cases ce : a = j ∧ b = j + (i + 1)
        · obtain ⟨rfl, rfl⟩ := ce
          rw [if_pos rfl]
          exact ⟨q, rfl, e6.lst (nk (e4.dT id g3) g4) (e5.lst id g4)⟩
        · rw [if_neg (fun w => ce (ab_back (by simpa using w)))]
          obtain ⟨q', vq, gq⟩ := K3 a b h1' h2' (by omega)
          exact ⟨q', vq, e6.lst (nk g3 gq) (e5.lst id (e4.lst id gq))⟩
    · rintro τ H3 ⟨y4, kvs, rfl, e3, g3, l3, K3⟩
      refine ⟨_, _, kvs, rfl, e3, g3, by omega, fun a b h1 h2 h3 => K3 a b h1 h2 ?_⟩
      omega
  · rintro τ H2 ⟨y3, y4, kvs, rfl, e2, g2, l2, K2⟩
    walk_at "st"
    refine ⟨⟨_, rfl⟩, .inl ⟨_, .inl (.inl (e2.lst nr (e1.lst id gr))), len_small (by decide), New.i fun tp H3 htp e3 g3 => ?_⟩⟩
    rw [List.length_map] at g3
    obtain ⟨q, vq, gq⟩ := K2 0 zs.length (by omega) Nat.le.refl (by omega)
    rw [seg_all] at gq
    refine itDT (k := [.inl ((0 : Nat) : Int), .inl (zs.length : Int)]) (e3.dT id g2) g3 vq ?_
    have ok := best_ok zs.length zs Nat.le.refl h1 (by omega) hz
    refine ⟨_, q, best zs, rfl, rfl, .inl (.inl (.inl (e3.lst id gq))), ?_, ?_⟩
    · have s1 : ((best zs).map (·.length)).sum ≤ 200 * (best zs).length := by
        have : ∀ ws : List Str, (∀ w ∈ ws, w.length ≤ 200) → (ws.map (·.length)).sum ≤ 200 * ws.length := by
          intro ws
          induction ws with
          | nil => intro _; simp
          | cons w r ih =>
            intro h
            have := ih fun x hx => h x (List.mem_cons_of_mem _ hx)
            have := h w List.mem_cons_self
            rw [List.map_cons, List.sum_cons, List.length_cons]
            omega
        exact this _ ok.2
      have := ok.1
      have : (" " : Str).length = 1 := rfl
      rw [this]
      omega
    · exact hD H3 ((e1.new2 e2 hkp).trans e3)
theorem q_t2 (G : Gm) {W : WX} {D : Ends} {H : Hp} {a : Addr} {zs : List Str} (gx : H a = some (.lst (zs.map V.str)) ∨ H a = some (.tup (zs.map V.str))) (h2 : zs.length ≤ 24) (hz : ∀ z ∈ zs, z.length ≤ 100) (hT : GxR.TabG H (tabA G ("is_repeated", none)))
    (hD : ∀ H', Ext H H' → D.rt (.str (txtW zs)) H') : rdSs G (t2_shortest G) W D [some (.ref a), none, none, none, none] H := by
  unfold t2_shortest
  walk_at "st"
  refine ⟨_, gx.elim (fun g => .inl ⟨_, .inl (.inl g), rfl⟩) (fun g => .inr (.inl ⟨_, .inl (.inl g), rfl⟩)), ?_⟩
  by_cases c : zs = []
  · subst c
    walk_at "st"
    exact hD H Xt.refl
  · have : (zs.map V.str).isEmpty = false := by
      cases zs with
      | nil => exact absurd rfl c
      | cons z r => rfl
    rw [this]
    walk_at "st"
    refine ⟨_, _, rfl, gx.imp (fun g => .inl (.inl g)) (fun g => .inl (.inl g)), al fun rp H1 hrp e1 g1 => ?_⟩
    have ht : txtW zs = Txt.join " " (best zs) := if_neg c
    refine q_t3 G g1 ?_ h2 hz (e1.tg _ hT) fun H2 e2 => ht ▸ hD H2 (e1.trans e2)
    cases zs with
    | nil => exact absurd rfl c
    | cons z r => simp
theorem q_shortest (G : Gm) : Asks G (b_shortest G) n_shortest (sp_shortest G) := by
  intro vs H Q E h
  unfold sp_shortest at h
  split at h
  · rename_i v
    obtain ⟨o, hs, hk, hT, h, hr⟩ := h
    unfold b_shortest n_shortest
    walk_at "st"
    refine ⟨o, hs, hk, fun hn H1 e1 => ?_, ?_⟩
    · match o, hs, hk, h, hr, hn with
      | none, hs, hk, h, hr, hn => cases hn
      | some xs, ⟨a, e, gx⟩, hk, h, hr, hn =>
        subst e
        obtain ⟨h12, hst⟩ := sts_none hn
        obtain ⟨zs, rfl, hz⟩ := all_str hst
        have gx1 : H1 a = some (.lst (zs.map V.str)) ∨ H1 a = some (.tup (zs.map V.str)) := gx.imp (e1.lst id) (e1.tup id)
        have hsh : shR (.ref a) (some (zs.map V.str)) = if 24 < (zs.map V.str).length then some (("NoStitches" : Str), ("value" : Str), .ref a) else none := by
          rw [shR_some, hn]
        rw [List.length_map] at hsh
        have key : ∀ {W : WX} {D : Ends}, (W = fun cls d x H => E cls d H) → (D.rt = Q) → (if decide ((24 : Int) < ((zs.map V.str).length : Int)) = true then rdSs G (.cons (.rs1 "NoStitches" "value" (.var 0)) .nil) W { D with nx := rdSs G (t2_shortest G) W D } [some (.ref a), none, none, none, none] H1 else rdSs G (t2_shortest G) W D [some (.ref a), none, none, none, none] H1) := by
          rintro W D rfl hD
          rw [List.length_map]
          by_cases c : 24 < zs.length
          · rw [decide_eq_true (by omega), if_pos rfl]
            rw [if_pos c] at hsh
            walk_at "st"
            exact rz_of (RzR.ext e1 hr _ _ _ hsh)
          · rw [decide_eq_false (by omega), if_neg (by simp)]
            rw [if_neg c] at hsh
            exact q_t2 G gx1 (by omega) (fun z m => st_short (hz z m)) (e1.tg _ hT) fun H2 e2 => by rw [hD]; exact h zs rfl hsh H2 (e1.trans e2)
        walk_at "st"
        rcases gx1 with g | g
        · exact .inl ⟨_, .inl (.inl g), key rfl rfl⟩
        · exact .inr (.inl ⟨_, .inl (.inl g), key rfl rfl⟩)
    · intro y f w hw
      refine hr y f w ?_
      match o, hw with
      | none, hw => exact hw
      | some xs, hw =>
        rw [shR_some, hw]
  · exact h.elim
end Kn

set_option pp.maxSteps 1500
/-! R42: the law on writing that is refused. -/
namespace Kn
open PySem PySem.Spec PyProof.Rows L2
local macro_rules | `(tactic| walk_at "rd") => `(tactic| simp only [ss_nil, s_asg, s_par2, s_aug, s_ret, s_retN, s_exp, s_iff, s_pass, s_brk, s_cnt, s_rs1, s_for1, s_for2, s_forp, s_forz, s_whl, s_try, e_var, e_glb, e_bty, e_cst, e_bin, e_neg, e_cmp, e_cm2, e_and, e_or, e_not, e_ite, e_lst, e_tup, e_sub, e_slc, e_bif, e_bm0, e_bm, e_call, e_calk, e_lc1, e_lc2, e_lcp, e_lcx, s_forx, r_xEnum, r_xSetSorted, r_xAllIn, r_xDict0, r_xDict1, r_xListRng1, r_xListRng2, r_xKeys, r_xJoin, r_xDPop, r_xRng3, r_xItems, r_xReprN, r_xRep, r_xDictT, r_xFS, fsTE, tJs, tFmt, tAllG, tRng, s_wr, tDPop1, r_lkOp, tLockE, tM1, rJoin, e_xop, e_lam, s_xst, t_xtg, su_xsu, rdL, tBreak, tCont, su_lst, su_ret, rdSEs, rdSE, tXf, wipe, tYes, LcS, Ends.gone, rdEs, rdT, rdTs, rdTgs, rdO, tSeq, tRet, tRetN, tDrop, tNext, tIfS, tAndV, tOrV, tNotV, tAnd, tOr, tNot, tTest, tOp, tUn, tCB, tCons, tNil, tVar, tC, nTup, nLst, tChain, tAsg, tPar, tAug, tBM, tBM0, tSl, tPart, tNoPart, tIf, gName, gSub, gc1, gn0, t_nm, t_ix, t_tp, rBin, rCmp, rBf, rBm, rIsiG, rIntB, rAddG, rSubG, rMulG, rDivG, rModG, rPowG, rShlG, rShrG, rAndG, rNegG, rLenG, rMaxG, rMinG, rIntG, rStrG, rIsG, rIsNotG, tTruG, TruV, btyV, btyB, bmTy, L2.start, List.getElem?_cons_zero, List.getElem?_cons_succ, Option.some.injEq, exists_eq_left', exists_eq_left, V.bl.injEq, V.int.injEq, V.str.injEq, V.ref.injEq, true_and, and_true, or_false, false_or, List.set_cons_zero, List.set_cons_succ, List.map_cons, List.map_nil, List.length_cons, List.length_nil, List.replicate_succ, List.replicate_zero, List.cons_append, List.nil_append, List.append_nil, Nat.sub_self, Nat.zero_add, Nat.add_sub_cancel, ite_true, ite_false, if_true, if_false, reduceIte, Bool.not_true, Bool.not_false, Bool.false_eq_true, reduceCtorEq, false_and, and_false, Nat.reduceAdd, Nat.reduceSub, tabIsi, okTy, tyS, decide_true, decide_false, Bool.or_true, Bool.true_or, Bool.false_or, Bool.or_false, Bool.and_true, Bool.true_and, Bool.and_false, Bool.false_and, String.reduceEq, exists_const, exists_false, Int.zero_add, List.cons.injEq, Int.reduceAdd, Int.reduceMul, Int.reduceNeg, Int.reduceSub, Int.reducePow, Int.reduceToNat])
local macro_rules | `(tactic| walk_at "gd") => `(tactic| simp only [askS, cauS, GdSs, GdS, GdE, GdEs, GdT, GdTs, GdTg, GdTgs, GdSrc, GdHs, GdSu, GdSE, and_true, true_and, btyB, bfName])
local macro_rules | `(tactic| walk_at "st") => `(tactic| repeat (first | refine ss_cons ?_ | walk_at "rd"))

def caughtL : List (Str × Str) := [("NoStitch", "value"), ("NoStitches", "value")]
def sp_law (G : Gm) : Sp := fun vs H Q _ => match vs with
  | [.ref p] => ∃ ns : List Int, ns.length ≤ 1000 ∧ SqL G.K H p (ns.map V.int) ∧ GxR.TabG H (tabA G ("is_repeated", none)) ∧ TabL H (tabA G ("law", none)) ∧ ∀ H', Q (.bl true) H'
  | _ => False
def n_law : List Str := ["script", "k", "box", "row", "at", "odd", "spoilt", "many", "far", "whole", "cases", "value", "due", "more"]
def b_law (G : Gm) : Ss := (.cons (.for_ (.nm 1) (.rng1 (.bif .max (.cons (.cst (.int 2)) (.cons (.bif .min (.cons (.cst (.int 8)) (.cons (.bif .len (.cons (.var 0) .nil)) .nil))) .nil)))) (.cons (.asg (.nm 2) (.call "_law_box" (sp__law_box G) [] (.cons (.call "_law_cell" (sp__law_cell G) [] (.cons (.var 0) (.cons (.var 1) .nil))) .nil))) (.cons (.par2 3 4 (.bin .Mult (.lst (.cons (.cst (.str "k")) (.cons (.cst (.str "p2tog")) (.cons (.cst (.str "yo")) .nil)))) (.call "_law_take" (sp__law_take G) [] (.cons (.var 2) (.cons (.cst (.int 9)) .nil)))) (.call "_law_take" (sp__law_take G) [] (.cons (.var 2) (.cons (.cst (.int 25)) .nil)))) (.cons (.asg (.nm 5) (.sub (.lst (.cons (.cst .non) (.cons (.cst (.int 7)) (.cons (.cst (.str "K")) (.cons (.cst (.str "2k")) (.cons (.lst (.cons (.cst (.str "k")) .nil)) (.cons (.xop xDict0 .nil) (.cons (.cst (.str "")) (.cons (.cst (.bl true)) (.cons (.cst (.str "(")) .nil)))))))))) (.call "_law_take" (sp__law_take G) [] (.cons (.var 2) (.cons (.cst (.int 9)) .nil))))) (.cons (.asg (.nm 6) (.bin .Add (.bin .Add (.bin .Add (.slc (.var 3) .nil (.cons (.var 4) .nil)) (.lst (.cons (.var 5) .nil))) (.slc (.var 3) (.cons (.var 4) .nil) .nil)) (.lst (.cons (.cst .non) .nil)))) (.cons (.asg (.nm 7) (.bin .Add (.bin .Mult (.lst (.cons (.cst (.str "k")) (.cons (.cst (.str "p")) .nil))) (.cst (.int 12))) (.bin .Mult (.lst (.cons (.cst (.str "k")) .nil)) (.call "_law_take" (sp__law_take G) [] (.cons (.var 2) (.cons (.cst (.int 2)) .nil)))))) (.cons (.asg (.nm 8) (.bin .Mult (.lst (.cons (.cst (.str "k")) .nil)) (.cst (.int 1201)))) (.cons (.asg (.nm 9) (.sub (.lst (.cons (.cst .non) (.cons (.cst (.int 7)) (.cons (.cst (.str "k p")) (.cons (.xop xDict0 .nil) (.cons (.cst (.bl true)) (.cons (.cst (.str "k")) .nil))))))) (.call "_law_take" (sp__law_take G) [] (.cons (.var 2) (.cons (.cst (.int 6)) .nil))))) (.cons (.asg (.nm 10) (.lst (.cons (.tup (.cons (.var 6) (.cons (.lst (.cons (.cst (.str "NoStitch")) (.cons (.var 5) .nil))) .nil))) (.cons (.tup (.cons (.var 7) (.cons (.ite (.cmp .Eq (.bif .len (.cons (.var 7) .nil)) (.cst (.int 24))) (.lst (.cons (.cst (.str "told")) .nil)) (.lst (.cons (.cst (.str "NoStitches")) (.cons (.var 7) .nil)))) .nil))) .nil)))) (.cons (.asg (.nm 10) (.bin .Add (.var 10) (.lst (.cons (.tup (.cons (.var 8) (.cons (.lst (.cons (.cst (.str "NoStitches")) (.cons (.var 8) .nil))) .nil))) (.cons (.tup (.cons (.var 9) (.cons (.lst (.cons (.cst (.str "NoStitches")) (.cons (.var 9) .nil))) .nil))) (.cons (.tup (.cons (.bin .Mult (.lst (.cons (.cst (.str "k")) .nil)) (.cst (.int 24))) (.cons (.lst (.cons (.cst (.str "told")) .nil)) .nil))) .nil)))))) (.cons (.for_ (.tp (.cons (.nm 11) (.cons (.nm 12) .nil))) (.plain (.var 10)) (.cons (askS G (sp__law_same G) ("law", none) caughtL (.call "shortest" (sp_shortest G) [] (.cons (.var 11) .nil)) (.var 12)) .nil)) (.cons (.asg (.nm 13) (.bin .Add (.bin .Mult (.lst (.cons (.cst (.str "yo")) .nil)) (.cst (.int 25))) (.lst (.cons (.var 5) .nil)))) (.cons (askS G (sp__law_same G) ("law", none) caughtL (.call "shortest" (sp_shortest G) [] (.cons (.var 13) .nil)) (.lst (.cons (.cst (.str "NoStitch")) (.cons (.var 5) .nil)))) .nil))))))))))))) (.cons (.ret (.cst (.bl true))) .nil))
def aa_law (G : Gm) : Ss := (.cons (.par2 3 4 (.bin .Mult (.lst (.cons (.cst (.str "k")) (.cons (.cst (.str "p2tog")) (.cons (.cst (.str "yo")) .nil)))) (.call "_law_take" (sp__law_take G) [] (.cons (.var 2) (.cons (.cst (.int 9)) .nil)))) (.call "_law_take" (sp__law_take G) [] (.cons (.var 2) (.cons (.cst (.int 25)) .nil)))) (.cons (.asg (.nm 5) (.sub (.lst (.cons (.cst .non) (.cons (.cst (.int 7)) (.cons (.cst (.str "K")) (.cons (.cst (.str "2k")) (.cons (.lst (.cons (.cst (.str "k")) .nil)) (.cons (.xop xDict0 .nil) (.cons (.cst (.str "")) (.cons (.cst (.bl true)) (.cons (.cst (.str "(")) .nil)))))))))) (.call "_law_take" (sp__law_take G) [] (.cons (.var 2) (.cons (.cst (.int 9)) .nil))))) (.cons (.asg (.nm 6) (.bin .Add (.bin .Add (.bin .Add (.slc (.var 3) .nil (.cons (.var 4) .nil)) (.lst (.cons (.var 5) .nil))) (.slc (.var 3) (.cons (.var 4) .nil) .nil)) (.lst (.cons (.cst .non) .nil)))) (.cons (.asg (.nm 7) (.bin .Add (.bin .Mult (.lst (.cons (.cst (.str "k")) (.cons (.cst (.str "p")) .nil))) (.cst (.int 12))) (.bin .Mult (.lst (.cons (.cst (.str "k")) .nil)) (.call "_law_take" (sp__law_take G) [] (.cons (.var 2) (.cons (.cst (.int 2)) .nil)))))) (.cons (.asg (.nm 8) (.bin .Mult (.lst (.cons (.cst (.str "k")) .nil)) (.cst (.int 1201)))) (.cons (.asg (.nm 9) (.sub (.lst (.cons (.cst .non) (.cons (.cst (.int 7)) (.cons (.cst (.str "k p")) (.cons (.xop xDict0 .nil) (.cons (.cst (.bl true)) (.cons (.cst (.str "k")) .nil))))))) (.call "_law_take" (sp__law_take G) [] (.cons (.var 2) (.cons (.cst (.int 6)) .nil))))) (.cons (.asg (.nm 10) (.lst (.cons (.tup (.cons (.var 6) (.cons (.lst (.cons (.cst (.str "NoStitch")) (.cons (.var 5) .nil))) .nil))) (.cons (.tup (.cons (.var 7) (.cons (.ite (.cmp .Eq (.bif .len (.cons (.var 7) .nil)) (.cst (.int 24))) (.lst (.cons (.cst (.str "told")) .nil)) (.lst (.cons (.cst (.str "NoStitches")) (.cons (.var 7) .nil)))) .nil))) .nil)))) (.cons (.asg (.nm 10) (.bin .Add (.var 10) (.lst (.cons (.tup (.cons (.var 8) (.cons (.lst (.cons (.cst (.str "NoStitches")) (.cons (.var 8) .nil))) .nil))) (.cons (.tup (.cons (.var 9) (.cons (.lst (.cons (.cst (.str "NoStitches")) (.cons (.var 9) .nil))) .nil))) (.cons (.tup (.cons (.bin .Mult (.lst (.cons (.cst (.str "k")) .nil)) (.cst (.int 24))) (.cons (.lst (.cons (.cst (.str "told")) .nil)) .nil))) .nil)))))) (.cons (.for_ (.tp (.cons (.nm 11) (.cons (.nm 12) .nil))) (.plain (.var 10)) (.cons (askS G (sp__law_same G) ("law", none) caughtL (.call "shortest" (sp_shortest G) [] (.cons (.var 11) .nil)) (.var 12)) .nil)) (.cons (.asg (.nm 13) (.bin .Add (.bin .Mult (.lst (.cons (.cst (.str "yo")) .nil)) (.cst (.int 25))) (.lst (.cons (.var 5) .nil)))) (.cons (askS G (sp__law_same G) ("law", none) caughtL (.call "shortest" (sp_shortest G) [] (.cons (.var 13) .nil)) (.lst (.cons (.cst (.str "NoStitch")) (.cons (.var 5) .nil)))) .nil)))))))))))
def a2_law (G : Gm) : Ss := (.cons (.asg (.nm 6) (.bin .Add (.bin .Add (.bin .Add (.slc (.var 3) .nil (.cons (.var 4) .nil)) (.lst (.cons (.var 5) .nil))) (.slc (.var 3) (.cons (.var 4) .nil) .nil)) (.lst (.cons (.cst .non) .nil)))) (.cons (.asg (.nm 7) (.bin .Add (.bin .Mult (.lst (.cons (.cst (.str "k")) (.cons (.cst (.str "p")) .nil))) (.cst (.int 12))) (.bin .Mult (.lst (.cons (.cst (.str "k")) .nil)) (.call "_law_take" (sp__law_take G) [] (.cons (.var 2) (.cons (.cst (.int 2)) .nil)))))) (.cons (.asg (.nm 8) (.bin .Mult (.lst (.cons (.cst (.str "k")) .nil)) (.cst (.int 1201)))) (.cons (.asg (.nm 9) (.sub (.lst (.cons (.cst .non) (.cons (.cst (.int 7)) (.cons (.cst (.str "k p")) (.cons (.xop xDict0 .nil) (.cons (.cst (.bl true)) (.cons (.cst (.str "k")) .nil))))))) (.call "_law_take" (sp__law_take G) [] (.cons (.var 2) (.cons (.cst (.int 6)) .nil))))) (.cons (.asg (.nm 10) (.lst (.cons (.tup (.cons (.var 6) (.cons (.lst (.cons (.cst (.str "NoStitch")) (.cons (.var 5) .nil))) .nil))) (.cons (.tup (.cons (.var 7) (.cons (.ite (.cmp .Eq (.bif .len (.cons (.var 7) .nil)) (.cst (.int 24))) (.lst (.cons (.cst (.str "told")) .nil)) (.lst (.cons (.cst (.str "NoStitches")) (.cons (.var 7) .nil)))) .nil))) .nil)))) (.cons (.asg (.nm 10) (.bin .Add (.var 10) (.lst (.cons (.tup (.cons (.var 8) (.cons (.lst (.cons (.cst (.str "NoStitches")) (.cons (.var 8) .nil))) .nil))) (.cons (.tup (.cons (.var 9) (.cons (.lst (.cons (.cst (.str "NoStitches")) (.cons (.var 9) .nil))) .nil))) (.cons (.tup (.cons (.bin .Mult (.lst (.cons (.cst (.str "k")) .nil)) (.cst (.int 24))) (.cons (.lst (.cons (.cst (.str "told")) .nil)) .nil))) .nil)))))) (.cons (.for_ (.tp (.cons (.nm 11) (.cons (.nm 12) .nil))) (.plain (.var 10)) (.cons (askS G (sp__law_same G) ("law", none) caughtL (.call "shortest" (sp_shortest G) [] (.cons (.var 11) .nil)) (.var 12)) .nil)) (.cons (.asg (.nm 13) (.bin .Add (.bin .Mult (.lst (.cons (.cst (.str "yo")) .nil)) (.cst (.int 25))) (.lst (.cons (.var 5) .nil)))) (.cons (askS G (sp__law_same G) ("law", none) caughtL (.call "shortest" (sp_shortest G) [] (.cons (.var 13) .nil)) (.lst (.cons (.cst (.str "NoStitch")) (.cons (.var 5) .nil)))) .nil)))))))))
def a3_law (G : Gm) : Ss := (.cons (.asg (.nm 7) (.bin .Add (.bin .Mult (.lst (.cons (.cst (.str "k")) (.cons (.cst (.str "p")) .nil))) (.cst (.int 12))) (.bin .Mult (.lst (.cons (.cst (.str "k")) .nil)) (.call "_law_take" (sp__law_take G) [] (.cons (.var 2) (.cons (.cst (.int 2)) .nil)))))) (.cons (.asg (.nm 8) (.bin .Mult (.lst (.cons (.cst (.str "k")) .nil)) (.cst (.int 1201)))) (.cons (.asg (.nm 9) (.sub (.lst (.cons (.cst .non) (.cons (.cst (.int 7)) (.cons (.cst (.str "k p")) (.cons (.xop xDict0 .nil) (.cons (.cst (.bl true)) (.cons (.cst (.str "k")) .nil))))))) (.call "_law_take" (sp__law_take G) [] (.cons (.var 2) (.cons (.cst (.int 6)) .nil))))) (.cons (.asg (.nm 10) (.lst (.cons (.tup (.cons (.var 6) (.cons (.lst (.cons (.cst (.str "NoStitch")) (.cons (.var 5) .nil))) .nil))) (.cons (.tup (.cons (.var 7) (.cons (.ite (.cmp .Eq (.bif .len (.cons (.var 7) .nil)) (.cst (.int 24))) (.lst (.cons (.cst (.str "told")) .nil)) (.lst (.cons (.cst (.str "NoStitches")) (.cons (.var 7) .nil)))) .nil))) .nil)))) (.cons (.asg (.nm 10) (.bin .Add (.var 10) (.lst (.cons (.tup (.cons (.var 8) (.cons (.lst (.cons (.cst (.str "NoStitches")) (.cons (.var 8) .nil))) .nil))) (.cons (.tup (.cons (.var 9) (.cons (.lst (.cons (.cst (.str "NoStitches")) (.cons (.var 9) .nil))) .nil))) (.cons (.tup (.cons (.bin .Mult (.lst (.cons (.cst (.str "k")) .nil)) (.cst (.int 24))) (.cons (.lst (.cons (.cst (.str "told")) .nil)) .nil))) .nil)))))) (.cons (.for_ (.tp (.cons (.nm 11) (.cons (.nm 12) .nil))) (.plain (.var 10)) (.cons (askS G (sp__law_same G) ("law", none) caughtL (.call "shortest" (sp_shortest G) [] (.cons (.var 11) .nil)) (.var 12)) .nil)) (.cons (.asg (.nm 13) (.bin .Add (.bin .Mult (.lst (.cons (.cst (.str "yo")) .nil)) (.cst (.int 25))) (.lst (.cons (.var 5) .nil)))) (.cons (askS G (sp__law_same G) ("law", none) caughtL (.call "shortest" (sp_shortest G) [] (.cons (.var 13) .nil)) (.lst (.cons (.cst (.str "NoStitch")) (.cons (.var 5) .nil)))) .nil))))))))
def bb_law (G : Gm) : Ss := (.cons (.asg (.nm 10) (.lst (.cons (.tup (.cons (.var 6) (.cons (.lst (.cons (.cst (.str "NoStitch")) (.cons (.var 5) .nil))) .nil))) (.cons (.tup (.cons (.var 7) (.cons (.ite (.cmp .Eq (.bif .len (.cons (.var 7) .nil)) (.cst (.int 24))) (.lst (.cons (.cst (.str "told")) .nil)) (.lst (.cons (.cst (.str "NoStitches")) (.cons (.var 7) .nil)))) .nil))) .nil)))) (.cons (.asg (.nm 10) (.bin .Add (.var 10) (.lst (.cons (.tup (.cons (.var 8) (.cons (.lst (.cons (.cst (.str "NoStitches")) (.cons (.var 8) .nil))) .nil))) (.cons (.tup (.cons (.var 9) (.cons (.lst (.cons (.cst (.str "NoStitches")) (.cons (.var 9) .nil))) .nil))) (.cons (.tup (.cons (.bin .Mult (.lst (.cons (.cst (.str "k")) .nil)) (.cst (.int 24))) (.cons (.lst (.cons (.cst (.str "told")) .nil)) .nil))) .nil)))))) (.cons (.for_ (.tp (.cons (.nm 11) (.cons (.nm 12) .nil))) (.plain (.var 10)) (.cons (askS G (sp__law_same G) ("law", none) caughtL (.call "shortest" (sp_shortest G) [] (.cons (.var 11) .nil)) (.var 12)) .nil)) (.cons (.asg (.nm 13) (.bin .Add (.bin .Mult (.lst (.cons (.cst (.str "yo")) .nil)) (.cst (.int 25))) (.lst (.cons (.var 5) .nil)))) (.cons (askS G (sp__law_same G) ("law", none) caughtL (.call "shortest" (sp_shortest G) [] (.cons (.var 13) .nil)) (.lst (.cons (.cst (.str "NoStitch")) (.cons (.var 5) .nil)))) .nil)))))
def b2_law (G : Gm) : Ss := (.cons (.asg (.nm 10) (.bin .Add (.var 10) (.lst (.cons (.tup (.cons (.var 8) (.cons (.lst (.cons (.cst (.str "NoStitches")) (.cons (.var 8) .nil))) .nil))) (.cons (.tup (.cons (.var 9) (.cons (.lst (.cons (.cst (.str "NoStitches")) (.cons (.var 9) .nil))) .nil))) (.cons (.tup (.cons (.bin .Mult (.lst (.cons (.cst (.str "k")) .nil)) (.cst (.int 24))) (.cons (.lst (.cons (.cst (.str "told")) .nil)) .nil))) .nil)))))) (.cons (.for_ (.tp (.cons (.nm 11) (.cons (.nm 12) .nil))) (.plain (.var 10)) (.cons (askS G (sp__law_same G) ("law", none) caughtL (.call "shortest" (sp_shortest G) [] (.cons (.var 11) .nil)) (.var 12)) .nil)) (.cons (.asg (.nm 13) (.bin .Add (.bin .Mult (.lst (.cons (.cst (.str "yo")) .nil)) (.cst (.int 25))) (.lst (.cons (.var 5) .nil)))) (.cons (askS G (sp__law_same G) ("law", none) caughtL (.call "shortest" (sp_shortest G) [] (.cons (.var 13) .nil)) (.lst (.cons (.cst (.str "NoStitch")) (.cons (.var 5) .nil)))) .nil))))
def cc_law (G : Gm) : Ss := (.cons (.for_ (.tp (.cons (.nm 11) (.cons (.nm 12) .nil))) (.plain (.var 10)) (.cons (askS G (sp__law_same G) ("law", none) caughtL (.call "shortest" (sp_shortest G) [] (.cons (.var 11) .nil)) (.var 12)) .nil)) (.cons (.asg (.nm 13) (.bin .Add (.bin .Mult (.lst (.cons (.cst (.str "yo")) .nil)) (.cst (.int 25))) (.lst (.cons (.var 5) .nil)))) (.cons (askS G (sp__law_same G) ("law", none) caughtL (.call "shortest" (sp_shortest G) [] (.cons (.var 13) .nil)) (.lst (.cons (.cst (.str "NoStitch")) (.cons (.var 5) .nil)))) .nil)))
def dd_law (G : Gm) : Ss := (.cons (.asg (.nm 13) (.bin .Add (.bin .Mult (.lst (.cons (.cst (.str "yo")) .nil)) (.cst (.int 25))) (.lst (.cons (.var 5) .nil)))) (.cons (askS G (sp__law_same G) ("law", none) caughtL (.call "shortest" (sp_shortest G) [] (.cons (.var 13) .nil)) (.lst (.cons (.cst (.str "NoStitch")) (.cons (.var 5) .nil)))) .nil))
theorem repLs {p : Addr} {ys : List V} {k : Int} {H : Hp} {Q : VK} (hx : H p = some (.lst ys)) (h1 : -(2 ^ 63) ≤ k) (h2 : k < 2 ^ 63) (h3 : ys.length * k.toNat ≤ sizeLine) (h : ∀ l H', H l = none → Ext H H' → H' l = some (.lst (List.replicate k.toNat ys).flatten) → Q (.ref l) H') : rRep (.ref p) (.int k) H Q := ⟨p, k, ys, rfl, rfl, hx, h1, h2, h3, al h⟩
/-- a case: a value, what is due -/
structure CaseOk (K : PySem.W.Frag) (H : Hp) (v : V) (d : Addr) : Prop where
  ok : ∃ o, SeqO H v o ∧ (∀ xs, o = some xs → xs.length ≤ 1000000 ∧ ∀ x ∈ xs, Known H x) ∧ H d = some (.lst (dueV (shR v o))) ∧ ∀ y f w, shR v o = some (y, f, w) → (y, f) ∈ caughtL ∧ Odd K H w ∧ w ≠ .ref d
theorem CaseOk.ext {K : PySem.W.Frag} {H H' : Hp} {v : V} {d : Addr} (e : Ext H H') (h : CaseOk K H v d) : CaseOk K H' v d := by
  obtain ⟨o, h1, h2, h3, h4⟩ := h.ok
  exact ⟨o, h1.ext e, fun xs q => ⟨(h2 xs q).1, fun x hx => ((h2 xs q).2 x hx).ext e⟩, e.lst id h3, fun y f w q => let ⟨a, b, c⟩ := h4 y f w q; ⟨a, b.ext e, c⟩⟩
section
variable {G : Gm} {W : WX} {D : Ends} {σ : L2.St} {H : Hp} {v : V} {d : Addr}
theorem q_ask (X : Exs G caughtL) (hv : σ[11]? = some (some v)) (hj : σ[12]? = some (some (.ref d))) (h : CaseOk G.K H v d) (hT : GxR.TabG H (tabA G ("is_repeated", none))) (hL : TabL H (tabA G ("law", none))) (hD : ∀ H', Ext H H' → D.nx σ H') :
    rdS G (askS G (sp__law_same G) ("law", none) caughtL (.call "shortest" (sp_shortest G) [] (.cons (.var 11) .nil)) (.var 12)) W D σ H := by
  obtain ⟨o, h1, h2, h3, h4⟩ := h.ok
  refine askR X hL hj h3 h4 (fun H1 E K e1 out => ?_) hD
  walk_at "st"
  refine ⟨v, hv, o, h1.ext e1, fun xs q => ⟨(h2 xs q).1, fun x hx => ((h2 xs q).2 x hx).ext e1⟩, e1.tg _ hT, fun zs e n H2 e2 => out.t n _ H2 e2, fun y f w hw => out.rz hw⟩
end
theorem find_odd {zs ys : List V} {odd : V} (hz : ∀ z ∈ zs, isSt z = true) (ho : isSt odd = false) : (zs ++ (odd :: ys)).find? (fun x => !isSt x) = some odd := by
  rw [List.find?_append, List.find?_eq_none.mpr fun x hx => by simp [hz x hx]]
  simp [ho]
theorem sh_odd {v : V} {zs ys : List V} {odd : V} (hz : ∀ z ∈ zs, isSt z = true) (ho : isSt odd = false) (hl : (zs ++ (odd :: ys)).length ≤ 1200) : shR v (some (zs ++ (odd :: ys))) = some (("NoStitch" : Str), ("value" : Str), odd) := by
  rw [shR_some, stsR_some, if_neg (by omega), find_odd hz ho]
  rfl
theorem sh_all {v : V} {zs : List V} (hz : ∀ z ∈ zs, isSt z = true) (hl : zs.length ≤ 1200) : shR v (some zs) = if 24 < zs.length then some (("NoStitches" : Str), ("value" : Str), v) else none := by
  rw [shR_some, stsR_some, if_neg (by omega), List.find?_eq_none.mpr fun x hx => by simp [hz x hx]]
  rfl
/-- what stands behind the draws -/
structure S42 (K : PySem.W.Frag) (H : Hp) (odd whole : V) (sp mp fp : Addr) : Prop where
  od : Sodd H odd ∧ isSt odd = false
  wh : Sodd H whole ∧ SeqO H whole none
  sp : ∃ zs ys : List V, H sp = some (.lst (zs ++ (odd :: ys))) ∧ (∀ z ∈ zs, isSt z = true) ∧ (zs ++ (odd :: ys)).length ≤ 1200 ∧ ∀ y ∈ ys, Known H y
  mp : ∃ zs : List V, H mp = some (.lst zs) ∧ (∀ z ∈ zs, isSt z = true ∧ okD z = true) ∧ zs.length ≤ 40 ∧ 24 ≤ zs.length
  fp : H fp = some (.lst (List.replicate 1201 (.str "k")))
theorem S42.ext {K : PySem.W.Frag} {H H' : Hp} {odd whole : V} {sp mp fp : Addr} (e : Ext H H') (h : S42 K H odd whole sp mp fp) : S42 K H' odd whole sp mp fp where
  od := ⟨h.od.1.ext e fun _ _ => id, h.od.2⟩
  wh := ⟨h.wh.1.ext e fun _ _ => id, h.wh.2.ext e⟩
  sp := let ⟨zs, ys, a, b, c, d⟩ := h.sp; ⟨zs, ys, e.lst id a, b, c, fun y m => (d y m).ext e⟩
  mp := let ⟨zs, a, b⟩ := h.mp; ⟨zs, e.lst id a, b⟩
  fp := e.lst id h.fp
theorem st_known {H : Hp} {z : V} (h : isSt z = true) : Known H z := by cases z <;> first | trivial | cases h
theorem Sodd.nel {H : Hp} {v : V} {d : Addr} {xs : List V} (h : Sodd H v) (n : H d = none) : v ≠ .ref d := h.ne n
section
variable {K : PySem.W.Frag} {H : Hp} {odd whole : V} {sp mp fp d : Addr}
theorem c_sp (S : S42 K H odd whole sp mp fp) (g : H d = some (.lst [.str "NoStitch", odd])) (n : odd ≠ .ref d) : CaseOk K H (.ref sp) d := by
  obtain ⟨zs, ys, a, b, c, e⟩ := S.sp
  refine ⟨some _, ⟨sp, rfl, .inl a⟩, fun xs q => ?_, ?_, ?_⟩
  · cases q
    refine ⟨Nat.le_trans c (by decide), fun x hx => ?_⟩
    rcases List.mem_append.mp hx with m | m
    · exact st_known (b x m)
    · rcases List.mem_cons.mp m with rfl | m
      · exact S.od.1.known
      · exact e x m
  · rw [sh_odd b S.od.2 c]
    exact g
  · rw [sh_odd b S.od.2 c]
    intro y f w q
    cases q
    exact ⟨by decide +kernel, S.od.1.odd, n⟩
theorem c_mp (S : S42 K H odd whole sp mp fp) (g : ∀ zs, H mp = some (.lst zs) → H d = some (.lst (if 24 < zs.length then [.str "NoStitches", .ref mp] else [.str "told"]))) (n : mp ≠ d) : CaseOk K H (.ref mp) d := by
  obtain ⟨zs, a, b, c, c24⟩ := S.mp
  have e := sh_all (v := .ref mp) (fun z m => (b z m).1) (by omega)
  refine ⟨some _, ⟨mp, rfl, .inl a⟩, fun xs q => ?_, ?_, ?_⟩
  · cases q
    exact ⟨by omega, fun x hx => st_known (b x hx).1⟩
  · rw [e, g zs a]
    split <;> rfl
  · rw [e]
    intro y f w q
    split at q
    · cases q
      exact ⟨by decide +kernel, Odd.lst a (fun z m => (b z m).2) c, fun w => n (by injection w)⟩
    · cases q
theorem c_fp (S : S42 K H odd whole sp mp fp) (g : H d = some (.lst [.str "NoStitches", .ref fp])) (n : fp ≠ d) : CaseOk K H (.ref fp) d := by
  have hl : (List.replicate 1201 (V.str "k")).length = 1201 := List.length_replicate
  have e : shR (.ref fp) (some (List.replicate 1201 (V.str "k"))) = some (("NoStitches" : Str), ("value" : Str), .ref fp) := by
    rw [shR_some, stsR_some, if_pos (by rw [hl]; decide)]
  refine ⟨some _, ⟨fp, rfl, .inl S.fp⟩, fun xs q => ?_, ?_, ?_⟩
  · cases q
    refine ⟨by rw [hl]; decide, fun y hy => ?_⟩
    rw [(List.mem_replicate.mp hy).2]; trivial
  · rw [e]
    exact g
  · rw [e]
    intro y f w q
    cases q
    refine ⟨by decide +kernel, ?_, fun w => n (by injection w)⟩
    refine .ls (ds := (List.replicate 1201 (V.str "k")).map dV) (k := 0) (n := 3000) S.fp (by rw [hl]; decide) (fun H' _ => dpAll_flat fun v hv => by rw [(List.mem_replicate.mp hv).2]; rfl) ?_ (by decide) (by decide)
    refine (FdAll.all (n := 1) fun d hd => ?_).mono Nat.le.refl (by rw [List.length_map, hl]; decide)
    obtain ⟨v, hv, rfl⟩ := List.mem_map.mp hd
    rw [(List.mem_replicate.mp hv).2]
    exact Fd.str (by decide +kernel) (by decide +kernel)
theorem c_wh (S : S42 K H odd whole sp mp fp) (g : H d = some (.lst [.str "NoStitches", whole])) (n : whole ≠ .ref d) : CaseOk K H whole d := by
  refine ⟨none, S.wh.2, (fun xs q => nomatch q), g, ?_⟩
  intro y f w q
  cases q
  exact ⟨by decide +kernel, S.wh.1.odd, n⟩
theorem c_k {q : Addr} (g : H q = some (.lst (List.replicate 24 (.str "k")))) (gd : H d = some (.lst [.str "told"])) : CaseOk K H (.ref q) d := by
  have hk : ∀ z ∈ List.replicate 24 (V.str "k"), isSt z = true := fun z m => by rw [(List.mem_replicate.mp m).2]; decide +kernel
  have e := sh_all (v := .ref q) hk (by simp)
  rw [if_neg (by simp)] at e
  refine ⟨some _, ⟨q, rfl, .inl g⟩, fun xs q => ?_, ?_, ?_⟩
  · cases q
    exact ⟨by simp, fun x hx => st_known (hk x hx)⟩
  · rw [e]
    exact gd
  · rw [e]
    intro y f w q
    cases q
end
theorem q_dd (G : Gm) (X : Exs G caughtL) {W : WX} {D : Ends} {σ : L2.St} {H : Hp} {x0 x1 x2 x3 x4 x6 x7 x8 x9 x10 x11 x12 x13 : Option V} {odd : V}
    (hσ : σ = [x0, x1, x2, x3, x4, some odd, x6, x7, x8, x9, x10, x11, x12, x13]) (ho : Sodd H odd) (hn : isSt odd = false) (hT : GxR.TabG H (tabA G ("is_repeated", none))) (hL : TabL H (tabA G ("law", none)))
    (hD : ∀ H' y13, Ext H H' → D.nx [x0, x1, x2, x3, x4, some odd, x6, x7, x8, x9, x10, x11, x12, y13] H') : rdSs G (dd_law G) W D σ H := by
  subst hσ
  unfold dd_law
  refine ss_cons (s_nm ?_)
  walk_at "rd"
  refine ⟨len_small (by simp), New.i fun p1 H1 hp1 e1 g1 => ?_⟩
  refine repL g1 (by decide) (len_small (by decide)) fun p2 H2 hp2 e2 g2 => ?_
  refine ⟨len_small (by simp), New.i fun p3 H3 hp3 e3 g3 => ?_⟩
  refine catL (e3.lst id g2) g3 (len_small (by simp)) fun mp H4 hmp e4 g4 => ?_
  have E4 : Ext H H4 := (e1.trans e2).trans (e3.trans e4)
  have o4 := ho.ext E4 fun _ _ => id
  refine ss_cons (askDR (f := "value") X (E4.ts _ hL) (by decide +kernel) rfl o4.odd (fun H5 E K e5 o => ?_) fun H5 e5 => ?_)
  · walk_at "st"
    have hz : ∀ z ∈ List.replicate (Int.toNat 25) (V.str "yo"), isSt z = true := fun z m => by rw [(List.mem_replicate.mp m).2]; decide +kernel
    have e := sh_odd (v := .ref mp) (ys := []) hz hn (by simp)
    refine ⟨some _, ⟨mp, rfl, .inl (e5.lst id g4)⟩, fun xs q => ?_, e5.tg _ (E4.tg _ hT), fun zs q n => ?_, fun y f w q => ?_⟩
    · cases q
      refine ⟨by simp, fun x hx => ?_⟩
      rcases List.mem_append.mp hx with m | m
      · exact st_known (hz x m)
      · rw [List.mem_singleton.mp m]
        exact (o4.ext e5 fun _ _ => id).known
    · cases n.symm.trans e
    · cases q.symm.trans e
      exact o.rz rfl
  · walk_at "rd"
    exact hD H5 _ (E4.trans e5)
/-- the cases, one by one -/
theorem q_cc (G : Gm) (X : Exs G caughtL) {W : WX} {D : Ends} {σ : L2.St} {H : Hp} {x0 x1 x2 x3 x4 x6 x7 x8 x9 x11 x12 x13 : Option V} {odd : V} {cp : Addr} {ts : List (V × Addr × Addr)}
    (hσ : σ = [x0, x1, x2, x3, x4, some odd, x6, x7, x8, x9, some (.ref cp), x11, x12, x13]) (hc : H cp = some (.lst (ts.map fun t => V.ref t.2.2))) (ht : ∀ t ∈ ts, H t.2.2 = some (.tup [t.1, .ref t.2.1]) ∧ CaseOk G.K H t.1 t.2.1)
    (ho : Sodd H odd) (hn : isSt odd = false) (hT : GxR.TabG H (tabA G ("is_repeated", none))) (hL : TabL H (tabA G ("law", none)))
    (hD : ∀ H' y11 y12 y13, Ext H H' → D.nx [x0, x1, x2, x3, x4, some odd, x6, x7, x8, x9, some (.ref cp), y11, y12, y13] H') : rdSs G (cc_law G) W D σ H := by
  subst hσ
  unfold cc_law
  refine ss_cons ?_
  walk_at "rd"
  refine (fjL (fun i τ H2 => ∃ y11 y12, τ = [x0, x1, x2, x3, x4, some odd, x6, x7, x8, x9, some (.ref cp), y11, y12, x13] ∧ Ext H H2) (.inl (.inl hc)) ⟨_, _, rfl, Xt.refl⟩ ?_ ?_ ?_)
  · rintro i τ H2 hi ⟨y11, y12, rfl, e2⟩
    exact .inl (.inl (e2.lst id hc))
  · rintro i x τ H2 hx ⟨y11, y12, rfl, e2⟩
    obtain ⟨t, hm, rfl⟩ := List.mem_map.mp (List.mem_of_getElem? hx)
    obtain ⟨h1, h2⟩ := ht t hm
    walk_at "rd"
    refine ⟨_, .inl (.inl (e2.tup id h1)), rfl, ?_⟩
    walk_at "rd"
    refine ss_cons (q_ask X rfl rfl (h2.ext e2) (e2.tg _ hT) (e2.ts _ hL) fun H3 e3 => ?_)
    walk_at "rd"
    exact ⟨_, _, ⟨rfl, rfl⟩, e2.trans e3⟩
  · rintro τ H2 ⟨y11, y12, rfl, e2⟩
    exact q_dd G X rfl (ho.ext e2 fun _ _ => id) hn (e2.tg _ hT) (e2.ts _ hL) fun H3 y13 e3 => hD H3 _ _ _ (e2.trans e3)
theorem q_b2 (G : Gm) (X : Exs G caughtL) {W : WX} {D : Ends} {σ : L2.St} {H : Hp} {x0 x1 x2 x3 x4 x11 x12 x13 : Option V} {odd whole : V} {sp mp fp c1 t1 t2 d1 d2 : Addr}
    (hσ : σ = [x0, x1, x2, x3, x4, some odd, some (.ref sp), some (.ref mp), some (.ref fp), some whole, some (.ref c1), x11, x12, x13]) (S : S42 G.K H odd whole sp mp fp) (hT : GxR.TabG H (tabA G ("is_repeated", none))) (hL : TabL H (tabA G ("law", none)))
    (gc : H c1 = some (.lst [.ref t1, .ref t2])) (g1 : H t1 = some (.tup [.ref sp, .ref d1])) (g2 : H t2 = some (.tup [.ref mp, .ref d2])) (k1 : CaseOk G.K H (.ref sp) d1) (k2 : CaseOk G.K H (.ref mp) d2)
    (hD : ∀ H' y10 y11 y12 y13, Ext H H' → D.nx [x0, x1, x2, x3, x4, some odd, some (.ref sp), some (.ref mp), some (.ref fp), some whole, y10, y11, y12, y13] H') : rdSs G (b2_law G) W D σ H := by
  subst hσ
  unfold b2_law
  refine ss_cons (s_nm ?_)
  walk_at "rd"
  refine ⟨len_small (by simp), New.i fun d3 H3 hd3 e3 q3 => ⟨len_small (by simp), New.i fun t3 H4 ht3 e4 q4 => ?_⟩⟩
  refine ⟨len_small (by simp), New.i fun d4 H5 hd4 e5 q5 => ⟨len_small (by simp), New.i fun t4 H6 ht4 e6 q6 => ?_⟩⟩
  refine ⟨len_small (by simp), New.i fun p7 H7 hp7 e7 q7 => ?_⟩
  refine repL q7 (by decide) (len_small (by decide)) fun kp H8 hkp e8 q8 => ?_
  refine ⟨len_small (by simp), New.i fun d5 H9 hd5 e9 q9 => ⟨len_small (by simp), New.i fun t5 H10 ht5 e10 q10 => ?_⟩⟩
  refine ⟨len_small (by simp), New.i fun l11 H11 hl11 e11 q11 => ?_⟩
  have E78 := e7.trans e8
  have E910 := e9.trans e10
  have E811 : Ext H8 H11 := E910.trans e11
  have E611 : Ext H6 H11 := E78.trans E811
  have E411 : Ext H4 H11 := (e5.trans e6).trans E611
  have E011 : Ext H H11 := (e3.trans e4).trans E411
  refine catL (E011.lst id gc) q11 (len_small (by simp)) fun cp H12 hcp e12 q12 => ?_
  have E : Ext H H12 := E011.trans e12
  have S12 := S.ext E
  have fpe : fp ≠ d3 := fun w => by have := S.fp; rw [w, hd3] at this; cases this
  have whe : whole ≠ .ref d4 := S.wh.1.ne ((e3.trans e4).dm _ hd4)
  refine q_cc G X (ts := [(.ref sp, d1, t1), (.ref mp, d2, t2), (.ref fp, d3, t3), (whole, d4, t4), (.ref kp, d5, t5)]) rfl q12 (fun t hm => ?_) S12.od.1 S12.od.2 (E.tg _ hT) (E.ts _ hL) fun H' y11 y12 y13 e' => hD H' _ _ _ _ (E.trans e')
  simp only [List.mem_cons, List.not_mem_nil, or_false] at hm
  rcases hm with rfl | rfl | rfl | rfl | rfl
  · exact ⟨E.tup id g1, k1.ext E⟩
  · exact ⟨E.tup id g2, k2.ext E⟩
  · exact ⟨(E411.trans e12).tup id q4, c_fp S12 ((E411.trans e12).lst id (e4.lst id q3)) fpe⟩
  · exact ⟨(E611.trans e12).tup id q6, c_wh S12 ((E611.trans e12).lst id (e6.lst id q5)) whe⟩
  · exact ⟨(e11.trans e12).tup id q10, c_k ((E811.trans e12).lst id q8) ((e11.trans e12).lst id (e10.lst id q9))⟩
theorem q_bb (G : Gm) (X : Exs G caughtL) {W : WX} {D : Ends} {σ : L2.St} {H : Hp} {x0 x1 x2 x3 x4 x10 x11 x12 x13 : Option V} {odd whole : V} {sp mp fp : Addr}
    (hσ : σ = [x0, x1, x2, x3, x4, some odd, some (.ref sp), some (.ref mp), some (.ref fp), some whole, x10, x11, x12, x13]) (S : S42 G.K H odd whole sp mp fp) (hT : GxR.TabG H (tabA G ("is_repeated", none))) (hL : TabL H (tabA G ("law", none)))
    (hD : ∀ H' y10 y11 y12 y13, Ext H H' → D.nx [x0, x1, x2, x3, x4, some odd, some (.ref sp), some (.ref mp), some (.ref fp), some whole, y10, y11, y12, y13] H') : rdSs G (bb_law G) W D σ H := by
  subst hσ
  unfold bb_law
  refine ss_cons (s_nm ?_)
  walk_at "rd"
  refine ⟨len_small (by simp), New.i fun d1 H1 hd1 e1 g1 => ⟨len_small (by simp), New.i fun t1 H2 ht1 e2 g2 => ?_⟩⟩
  obtain ⟨zs, gm, hz, lz, l24⟩ := S.mp
  have gm2 := (e1.trans e2).lst id gm
  refine .inl ⟨_, .inl (.inl gm2), ?_⟩
  refine eqS rfl ⟨_, rfl, ?_⟩
  have o1 : odd ≠ .ref d1 := S.od.1.ne hd1
  have S2 := S.ext (e1.trans e2)
  have E02 := e1.trans e2
  have fin : ∀ (d2 : Addr) (H3 : Hp), H2 d2 = none → Ext H2 H3 → H3 d2 = some (.lst (if 24 < zs.length then [.str "NoStitches", .ref mp] else [.str "told"])) →
      New H3 (.tup [V.ref mp, V.ref d2]) fun t2 H4 => 2 ≤ sizeLine ∧ New H4 (.lst [V.ref t1, V.ref t2]) fun c1 H5 => rdSs G (b2_law G) W D [x0, x1, x2, x3, x4, some odd, some (.ref sp), some (.ref mp), some (.ref fp), some whole, some (.ref c1), x11, x12, x13] H5 := by
    intro d2 H3 hd2 e3 g3
    refine New.i fun t2 H4 ht2 e4 g4 => ⟨len_small (by decide), New.i fun c1 H5 hc1 e5 g5 => ?_⟩
    have E35 := e4.trans e5
    have E5 : Ext H H5 := E02.trans (e3.trans E35)
    have S5 := S.ext E5
    have md : mp ≠ d2 := fun w => by rw [w, hd2] at gm2; cases gm2
    refine q_b2 G X rfl S5 (E5.tg _ hT) (E5.ts _ hL) g5 ((e3.trans E35).tup id g2) (e5.tup id g4) (c_sp S5 ((e2.trans (e3.trans E35)).lst id g1) o1) (c_mp S5 (fun ys gy => ?_) md) fun H' y10 y11 y12 y13 e' => hD H' _ _ _ _ (E5.trans e')
    have := E5.lst id gm
    rw [gy] at this
    cases this
    exact E35.lst id g3
  by_cases c : zs.length = 24
  · have c' : (V.int (zs.length : Int) = V.int 24) := by rw [c]; rfl
    rw [decide_eq_true c', if_pos rfl]
    refine ⟨len_small (by decide), New.i fun d2 H3 hd2 e3 g3 => ⟨len_small (by decide), ?_⟩⟩
    exact fin d2 H3 hd2 e3 (by rw [g3, if_neg (by omega)])
  · have c' : ¬ (V.int (zs.length : Int) = V.int 24) := fun w => by injection w with w; omega
    rw [decide_eq_false c', if_neg (by simp)]
    refine ⟨len_small (by decide), New.i fun d2 H3 hd2 e3 g3 => ⟨len_small (by decide), ?_⟩⟩
    exact fin d2 H3 hd2 e3 (by rw [g3, if_pos (by omega)])
/-! ### the draws -/
theorem q_a3 (G : Gm) (X : Exs G caughtL) {W : WX} {D : Ends} {σ : L2.St} {H : Hp} {x0 x1 x3 x4 x7 x8 x9 x10 x11 x12 x13 : Option V} {odd : V} {sp bx : Addr} {t : Int} {zs ys : List V}
    (hσ : σ = [x0, x1, some (.ref bx), x3, x4, some odd, some (.ref sp), x7, x8, x9, x10, x11, x12, x13]) (hB : Bx H bx t) (ht : t < 100) (od : Sodd H odd ∧ isSt odd = false) (nod : odd ≠ .ref bx) (nsp : sp ≠ bx)
    (gs : H sp = some (.lst (zs ++ (odd :: ys)))) (hz : ∀ z ∈ zs, isSt z = true) (hl : (zs ++ (odd :: ys)).length ≤ 1200) (hy : ∀ y ∈ ys, isSt y = true ∨ y = .non) (hT : GxR.TabG H (tabA G ("is_repeated", none))) (hL : TabL H (tabA G ("law", none)))
    (hD : ∀ H' y5 y6 y7 y8 y9 y10 y11 y12 y13, ExtB bx H H' → D.nx [x0, x1, some (.ref bx), x3, x4, y5, y6, y7, y8, y9, y10, y11, y12, y13] H') : rdSs G (a3_law G) W D σ H := by
  subst hσ
  unfold a3_law
  refine ss_cons (s_nm ?_)
  walk_at "rd"
  refine ⟨len_small (by simp), New.i fun p1 H1 hp1 e1 g1 => ?_⟩
  refine repLs g1 (by decide) (by decide) (by decide +kernel) fun p2 H2 hp2 e2 g2 => ?_
  refine ⟨len_small (by simp), New.i fun p3 H3 hp3 e3 g3 => ?_⟩
  have hB3 := ((hB.ext e1 id).ext e2 id).ext e3 id
  refine ⟨by decide, by decide, t, hB3, by omega, fun d t4 H4 d0 d1 ht4 hB4 e4 => ?_⟩
  have n3 : p3 ≠ bx := ((hB.ext e1 id).ext e2 id).ne hp3
  have n2 : p2 ≠ bx := (hB.ext e1 id).ne hp2
  refine repL (e4.lst n3 g3) (by omega) (len_small (by omega)) fun p5 H5 hp5 e5 g5 => ?_
  refine catL (e5.lst id (e4.lst n2 (e3.lst id g2))) g5 (len_small (by rw [List.length_replicate]; simp; omega)) fun mp H6 hmp e6 g6 => ?_
  refine ss_cons (s_nm ?_)
  walk_at "rd"
  refine ⟨len_small (by simp), New.i fun p7 H7 hp7 e7 g7 => ?_⟩
  refine repL g7 (by decide) (le_size (by decide)) fun fp H8 hfp e8 g8 => ?_
  have E48 : Ext H4 H8 := (e5.trans e6).trans (e7.trans e8)
  have hB8 := hB4.ext E48 id
  have D8 : ExtB bx H H8 := ((e1.trans (e2.trans e3)).any.trans e4).trans E48.any
  refine ss_cons (s_nm (pick ?_))
  refine es_c (es_c (es_c (es_d0 fun dp H9 hdp e9 g9 => es_c (es_c (es_nil ?_)))))
  refine pick_end rfl rfl (by simp) (by simp) (hB8.ext e9 id) (by omega) fun whole H10 t10 hm e10 hB10 ht10 => ?_
  have E10 : ExtB bx H H10 := (D8.trans e9.any).trans e10
  have gd := e10.dK (hB8.ne hdp) g9
  have wh : Sodd H10 whole ∧ SeqO H10 whole none := by
    simp only [List.mem_cons, List.not_mem_nil, or_false] at hm
    rcases hm with rfl | rfl | rfl | rfl | rfl | rfl
    · exact ⟨.pl rfl, trivial, fun a w => nomatch w⟩
    · exact ⟨.pl (by decide +kernel), trivial, fun a w => nomatch w⟩
    · exact ⟨.pl (by decide +kernel), trivial, fun a w => nomatch w⟩
    · have kd : kindAt H10 dp "dict" := by unfold kindAt; rw [gd]
      exact ⟨.dk gd (by simp) (by simp) (by simp), ⟨"dict", kd⟩, fun a w => by cases w; exact kd⟩
    · exact ⟨.pl rfl, trivial, fun a w => nomatch w⟩
    · exact ⟨.pl (by decide +kernel), trivial, fun a w => nomatch w⟩
  have nmp : mp ≠ bx := (hB4.ext e5 id).ne hmp
  have nfp : fp ≠ bx := ((hB4.ext (e5.trans e6) id).ext e7 id).ne hfp
  have od10 := od.1.ext E10 fun a w m => nod (by rw [w, m])
  have hk : ∀ z ∈ (List.replicate (Int.toNat 12) [V.str "k", V.str "p"]).flatten ++ List.replicate d.toNat (V.str "k"), isSt z = true ∧ okD z = true := by
    intro z m
    rcases List.mem_append.mp m with m | m
    · obtain ⟨l, hl, m⟩ := List.mem_flatten.mp m
      rw [(List.mem_replicate.mp hl).2] at m
      simp only [List.mem_cons, List.not_mem_nil, or_false] at m
      rcases m with rfl | rfl
      · exact ⟨by decide +kernel, by decide +kernel⟩
      · exact ⟨by decide +kernel, by decide +kernel⟩
    · rw [(List.mem_replicate.mp m).2]
      exact ⟨by decide +kernel, by decide +kernel⟩
  have hlen : ((List.replicate (Int.toNat 12) [V.str "k", V.str "p"]).flatten ++ List.replicate d.toNat (V.str "k")).length = 24 + d.toNat := by
    rw [List.length_append, List.length_replicate]
    rfl
  have S : S42 G.K H10 odd whole sp mp fp := {
    od := ⟨od10, od.2⟩
    wh := wh
    sp := ⟨zs, ys, E10.lst nsp gs, hz, hl, fun y m => (hy y m).elim st_known fun e => by rw [e]; trivial⟩
    mp := ⟨_, e10.lst nmp (e9.lst id ((e7.trans e8).lst id g6)), hk, by rw [hlen]; omega, by rw [hlen]; omega⟩
    fp := e10.lst nfp (e9.lst id g8) }
  exact q_bb G X rfl S (E10.tg _ hT) (E10.ts _ hL) fun H' y10 y11 y12 y13 e' => hD H' _ _ _ _ _ _ _ _ _ (E10.trans e'.any)
theorem q_a2 (G : Gm) (X : Exs G caughtL) {W : WX} {D : Ends} {σ : L2.St} {H : Hp} {x0 x1 x6 x7 x8 x9 x10 x11 x12 x13 : Option V} {odd : V} {rp bx : Addr} {t i : Int} {zs : List V}
    (hσ : σ = [x0, x1, some (.ref bx), some (.ref rp), some (.int i), some odd, x6, x7, x8, x9, x10, x11, x12, x13]) (hB : Bx H bx t) (ht : t < 90) (od : Sodd H odd ∧ isSt odd = false) (nod : odd ≠ .ref bx) (h0 : 0 ≤ i)
    (gs : H rp = some (.lst zs)) (hz : ∀ z ∈ zs, isSt z = true) (hl : zs.length ≤ 100) (hT : GxR.TabG H (tabA G ("is_repeated", none))) (hL : TabL H (tabA G ("law", none)))
    (hD : ∀ H' y5 y6 y7 y8 y9 y10 y11 y12 y13, ExtB bx H H' → D.nx [x0, x1, some (.ref bx), some (.ref rp), some (.int i), y5, y6, y7, y8, y9, y10, y11, y12, y13] H') : rdSs G (a2_law G) W D σ H := by
  subst hσ
  unfold a2_law
  refine ss_cons (s_nm ?_)
  walk_at "rd"
  refine slL (.inl (.inl gs)) fun p1 H1 hp1 e1 g1 => ?_
  refine ⟨len_small (by simp), New.i fun p2 H2 hp2 e2 g2 => ?_⟩
  refine catL (e2.lst id g1) g2 (len_small (by have := cutV_length zs none (some i); simp; omega)) fun p3 H3 hp3 e3 g3 => ?_
  refine slL (.inl (.inl ((e1.trans (e2.trans e3)).lst id gs))) fun p4 H4 hp4 e4 g4 => ?_
  refine catL (e4.lst id g3) g4 (len_small (by have := cutV_length zs none (some i); have := cutV_length zs (some i) none; simp; omega)) fun p5 H5 hp5 e5 g5 => ?_
  refine ⟨len_small (by simp), New.i fun p6 H6 hp6 e6 g6 => ?_⟩
  refine catL (e6.lst id g5) g6 (len_small (by have := cutV_length zs none (some i); have := cutV_length zs (some i) none; simp; omega)) fun sp H7 hsp e7 g7 => ?_
  have E7 : Ext H H7 := (((e1.trans (e2.trans e3)).trans e4).trans (e5.trans e6)).trans e7
  have mem : ∀ {lo hi : Option Int} {z : V}, z ∈ cutV zs lo hi → isSt z = true := fun {lo hi z} m => hz z (List.drop_subset _ _ (List.take_subset _ _ m))
  have e : (cutV zs none (some i) ++ [odd] ++ cutV zs (some i) none ++ [V.non]) = cutV zs none (some i) ++ (odd :: (cutV zs (some i) none ++ [V.non])) := by simp
  rw [e] at g7
  have nsp : sp ≠ bx := (hB.ext ((((e1.trans (e2.trans e3)).trans e4).trans (e5.trans e6))) id).ne hsp
  refine q_a3 G X (zs := cutV zs none (some i)) (ys := cutV zs (some i) none ++ [V.non]) rfl (hB.ext E7 id) (by omega) ⟨od.1.ext E7 fun _ _ => id, od.2⟩ nod nsp g7 (fun z m => mem m) (by have := cutV_length zs none (some i); have := cutV_length zs (some i) none; simp; omega) (fun y m => ?_) (E7.tg _ hT) (E7.ts _ hL) fun H' y5 y6 y7 y8 y9 y10 y11 y12 y13 e' => hD H' _ _ _ _ _ _ _ _ _ (E7.any.trans e')
  rcases List.mem_append.mp m with m | m
  · exact .inl (mem m)
  · exact .inr (List.mem_singleton.mp m)
theorem q_aa (G : Gm) (X : Exs G caughtL) {W : WX} {D : Ends} {σ : L2.St} {H : Hp} {x0 x1 x3 x4 x5 x6 x7 x8 x9 x10 x11 x12 x13 : Option V} {bx : Addr} {t : Int}
    (hσ : σ = [x0, x1, some (.ref bx), x3, x4, x5, x6, x7, x8, x9, x10, x11, x12, x13]) (hB : Bx H bx t) (ht : t < 10) (hT : GxR.TabG H (tabA G ("is_repeated", none))) (hL : TabL H (tabA G ("law", none)))
    (hD : ∀ H' y3 y4 y5 y6 y7 y8 y9 y10 y11 y12 y13, ExtB bx H H' → D.nx [x0, x1, some (.ref bx), y3, y4, y5, y6, y7, y8, y9, y10, y11, y12, y13] H') : rdSs G (aa_law G) W D σ H := by
  subst hσ
  unfold aa_law
  refine ss_cons ?_
  walk_at "rd"
  refine ⟨len_small (by simp), New.i fun p1 H1 hp1 e1 g1 => ?_⟩
  refine ⟨by decide, by decide, t, hB.ext e1 id, by omega, fun d t2 H2 d0 d1 ht2 hB2 e2 => ?_⟩
  have n1 : p1 ≠ bx := hB.ne hp1
  refine repLs (e2.lst n1 g1) (by omega) (by omega) (len_small (by simp; omega)) fun rp H3 hrp e3 g3 => ?_
  refine ⟨by decide, by decide, t2, hB2.ext e3 id, by omega, fun i t4 H4 i0 i1 ht4 hB4 e4 => ?_⟩
  refine ss_cons (s_nm (pick ?_))
  refine es_c (es_c (es_c (es_c (es_l1 fun lp H5 hlp e5 g5 => es_d0 fun dp H6 hdp e6 g6 => es_c (es_c (es_c (es_nil ?_)))))))
  have E46 := e5.trans e6
  refine pick_end rfl rfl (by simp) (by simp) (hB4.ext E46 id) (by omega) fun odd H7 t7 hm e7 hB7 ht7 => ?_
  have nlp : lp ≠ bx := hB4.ne hlp
  have ndp : dp ≠ bx := (hB4.ext e5 id).ne hdp
  have g5 := e7.lst nlp (e6.lst id g5)
  have g6 := e7.dK ndp g6
  have od : (Sodd H7 odd ∧ isSt odd = false) ∧ odd ≠ .ref bx := by
    simp only [List.mem_cons, List.not_mem_nil, or_false] at hm
    rcases hm with rfl | rfl | rfl | rfl | rfl | rfl | rfl | rfl | rfl
    · exact ⟨⟨.pl rfl, rfl⟩, fun w => nomatch w⟩
    · exact ⟨⟨.pl (by decide +kernel), rfl⟩, fun w => nomatch w⟩
    · exact ⟨⟨.pl (by decide +kernel), by decide +kernel⟩, fun w => nomatch w⟩
    · exact ⟨⟨.pl (by decide +kernel), by decide +kernel⟩, fun w => nomatch w⟩
    · exact ⟨⟨.ls g5 (by decide +kernel) (by simp), rfl⟩, fun w => nlp (by injection w)⟩
    · exact ⟨⟨.dk g6 (by simp) (by simp) (by simp), rfl⟩, fun w => ndp (by injection w)⟩
    · exact ⟨⟨.pl (by decide +kernel), by decide +kernel⟩, fun w => nomatch w⟩
    · exact ⟨⟨.pl rfl, rfl⟩, fun w => nomatch w⟩
    · exact ⟨⟨.pl (by decide +kernel), by decide +kernel⟩, fun w => nomatch w⟩
  have nrp : rp ≠ bx := hB2.ne hrp
  have gr : H7 rp = some (.lst (List.replicate d.toNat [V.str "k", V.str "p2tog", V.str "yo"]).flatten) := e7.lst nrp (E46.lst id (e4.lst nrp g3))
  have E7 : ExtB bx H H7 := (((e1.any.trans e2).trans e3.any).trans e4).trans (E46.any.trans e7)
  refine q_a2 G X rfl hB7 (by omega) od.1 od.2 i0 gr (fun z m => ?_) (by simp; omega) (E7.tg _ hT) (E7.ts _ hL) fun H' y5 y6 y7 y8 y9 y10 y11 y12 y13 e' => hD H' _ _ _ _ _ _ _ _ _ _ _ (E7.trans e')
  obtain ⟨l, hl, m⟩ := List.mem_flatten.mp m
  rw [(List.mem_replicate.mp hl).2] at m
  simp only [List.mem_cons, List.not_mem_nil, or_false] at m
  rcases m with rfl | rfl | rfl <;> decide +kernel
theorem q_law (G : Gm) (X : Exs G caughtL) : Asks G (b_law G) n_law (sp_law G) := by
  intro vs H Q E h
  unfold sp_law at h
  split at h
  · rename_i p
    obtain ⟨ns, hns, hs, hT, hL, h⟩ := h
    unfold b_law n_law
    refine ss_cons ?_
    walk_at "rd"
    refine .inl ⟨ns.map V.int, hs, ?_⟩
    refine ⟨by split <;> split <;> omega, by split <;> split <;> omega, fjR (fun i τ H2 => ∃ x1 x2 x3 x4 x5 x6 x7 x8 x9 x10 x11 x12 x13, τ = [some (.ref p), x1, x2, x3, x4, x5, x6, x7, x8, x9, x10, x11, x12, x13] ∧ Ext H H2) ⟨none, none, none, none, none, none, none, none, none, none, none, none, none, rfl, Xt.refl⟩ ?_ ?_⟩
    · rintro k τ H2 hk ⟨x1, x2, x3, x4, x5, x6, x7, x8, x9, x10, x11, x12, x13, rfl, e2⟩
      have hk8 : k < 8 := by revert hk; split <;> split <;> omega
      walk_at "rd"
      refine ss_cons (s_nm ?_)
      walk_at "rd"
      refine ⟨by omega, by omega, ns, hns, e2.sql id hs, fun c => ?_⟩
      walk_at "rd"
      refine fun bx H3 hbx e3 hB => ?_
      have E3 := e2.trans e3
      refine q_aa G X rfl hB (by decide) (E3.tg _ hT) (E3.ts _ hL) fun H4 y3 y4 y5 y6 y7 y8 y9 y10 y11 y12 y13 e4 => ?_
      exact ⟨_, _, _, _, _, _, _, _, _, _, _, _, _, rfl, E3.new2 e4 (e2.dm _ hbx)⟩
    · rintro τ H2 ⟨x1, x2, x3, x4, x5, x6, x7, x8, x9, x10, x11, x12, x13, rfl, e2⟩
      walk_at "st"
      exact h H2
  · exact h.elim
end Kn

namespace Kn
open PySem PySem.Spec PyProof.Rows L2
local macro_rules | `(tactic| walk_at "rd") => `(tactic| simp only [ss_nil, s_asg, s_par2, s_aug, s_ret, s_retN, s_exp, s_iff, s_pass, s_brk, s_cnt, s_rs1, s_for1, s_for2, s_forp, s_forz, s_whl, s_try, e_var, e_glb, e_bty, e_cst, e_bin, e_neg, e_cmp, e_cm2, e_and, e_or, e_not, e_ite, e_lst, e_tup, e_sub, e_slc, e_bif, e_bm0, e_bm, e_call, e_calk, e_lc1, e_lc2, e_lcp, e_lcx, s_forx, r_xEnum, r_xSetSorted, r_xAllIn, r_xDict0, r_xDict1, r_xListRng1, r_xListRng2, r_xKeys, r_xJoin, r_xDPop, r_xRng3, r_xItems, r_xReprN, r_xRep, r_xDictT, r_xFS, fsTE, tJs, tFmt, tAllG, tRng, s_wr, tDPop1, r_lkOp, tLockE, tM1, rJoin, e_xop, e_lam, s_xst, t_xtg, su_xsu, rdL, tBreak, tCont, su_lst, su_ret, rdSEs, rdSE, tXf, wipe, tYes, LcS, Ends.gone, rdEs, rdT, rdTs, rdTgs, rdO, tSeq, tRet, tRetN, tDrop, tNext, tIfS, tAndV, tOrV, tNotV, tAnd, tOr, tNot, tTest, tOp, tUn, tCB, tCons, tNil, tVar, tC, nTup, nLst, tChain, tAsg, tPar, tAug, tBM, tBM0, tSl, tPart, tNoPart, tIf, gName, gSub, gc1, gn0, t_nm, t_ix, t_tp, rBin, rCmp, rBf, rBm, rIsiG, rIntB, rAddG, rSubG, rMulG, rDivG, rModG, rPowG, rShlG, rShrG, rAndG, rNegG, rLenG, rMaxG, rMinG, rIntG, rStrG, rIsG, rIsNotG, tTruG, TruV, btyV, btyB, bmTy, L2.start, List.getElem?_cons_zero, List.getElem?_cons_succ, Option.some.injEq, exists_eq_left', exists_eq_left, V.bl.injEq, V.int.injEq, V.str.injEq, V.ref.injEq, true_and, and_true, or_false, false_or, List.set_cons_zero, List.set_cons_succ, List.map_cons, List.map_nil, List.length_cons, List.length_nil, List.replicate_succ, List.replicate_zero, List.cons_append, List.nil_append, List.append_nil, Nat.sub_self, Nat.zero_add, Nat.add_sub_cancel, ite_true, ite_false, if_true, if_false, reduceIte, Bool.not_true, Bool.not_false, Bool.false_eq_true, reduceCtorEq, false_and, and_false, Nat.reduceAdd, Nat.reduceSub, tabIsi, okTy, tyS, decide_true, decide_false, Bool.or_true, Bool.true_or, Bool.false_or, Bool.or_false, Bool.and_true, Bool.true_and, Bool.and_false, Bool.false_and, String.reduceEq, exists_const, exists_false, Int.zero_add, List.cons.injEq, Int.reduceAdd, Int.reduceMul, Int.reduceNeg, Int.reduceSub, Int.reducePow, Int.reduceToNat])
local macro_rules | `(tactic| walk_at "gd") => `(tactic| simp only [askS, cauS, GdSs, GdS, GdE, GdEs, GdT, GdTs, GdTg, GdTgs, GdSrc, GdHs, GdSu, GdSE, and_true, true_and, btyB, bfName])
local macro_rules | `(tactic| walk_at "st") => `(tactic| repeat (first | refine ss_cons ?_ | walk_at "rd"))

def n__law_caught : List Str := ["ask", "found", "e"]
abbrev Pw : Program := PySem.Challenge.pw_knitrows_k42_writing_refused
def dsAll : List He.DefD := [dD Pw "is_stitch" 7, dD Pw "need_stitch" 8, dD Pw "need_stitches" 9, dD Pw "is_repeated" 12, dD Pw "shorter" 13, dD Pw "written" 14, dD Pw "shortest" 15, dD Pw "_law_cell" 17, dD Pw "_law_box" 18, dD Pw "_law_take" 19, dD Pw "_law_caught" 20, dD Pw "_law_same" 21, dD Pw "law" 22, dI Pw "NoStitch" "__init__" "NoStitch.__init__" 2 0, dI Pw "NoStitches" "__init__" "NoStitches.__init__" 3 0]
def faAll : List He.Fa := [.glo "is_stitch", .glo "need_stitch", .glo "need_stitches", .glo "is_repeated", .glo "shorter", .glo "written", .glo "shortest", .glo "_law_cell", .glo "_law_box", .glo "_law_take", .glo "_law_caught", .glo "_law_same", .glo "law", .glo "NoStitch", .glo "NoStitches", .glo "STITCHES", .glo "KnitError", .free "len", .free "max", .free "min", .free "abs", .free "sum", .free "repr", .free "sorted", .free "isinstance", .free "int", .free "str", .free "list", .free "tuple", .free "dict", .free "bool", .free "range", .free "all", .free "enumerate", .free "set", .free "zip", .int "MOST_STITCHES" 1200, .int "MOST_WRITTEN" 24]
def tsAll : List He.Tab := [(fun K => He.ga K "STITCHES", ["k", "p", "sl", "yo", "m1", "m1p", "kfb", "pfb", "k2tog", "p2tog", "ssk", "ssp", "cdd", "cddp", "bo"])]
def ctAll : List He.Defn := [("is_repeated", none), ("law", none)]
def exAll (K : PySem.W.Frag) : Bool := ((keB K "KnitError") && ((er1B K "NoStitch" "value") && ((er1B K "NoStitches" "value") && ((stTab.all fun e => tupAtB K (He.ga K "STITCHES") e.1 [.int e.2.1, .int e.2.2.1, .str e.2.2.2]) && ((exsB K caughtL) && true)))))
theorem sc_is_stitch : FnScope n_is_stitch ["value"] (defScope (topS Pw 7)) := ⟨by kernel_rfl, by kernel_rfl, by kernel_rfl, by decide +kernel, rfl, by decide +kernel, by decide +kernel⟩
theorem ck_is_stitch (G : Gm) : chkSs ⟨n_is_stitch, defScope (topS Pw 7), true, none⟩ (b_is_stitch G) (defBody (topS Pw 7)) = true := by kernel_rfl
theorem sc_need_stitch : FnScope n_need_stitch ["value"] (defScope (topS Pw 8)) := ⟨by kernel_rfl, by kernel_rfl, by kernel_rfl, by decide +kernel, rfl, by decide +kernel, by decide +kernel⟩
theorem ck_need_stitch (G : Gm) : chkSs ⟨n_need_stitch, defScope (topS Pw 8), true, none⟩ (b_need_stitch G) (defBody (topS Pw 8)) = true := by kernel_rfl
theorem sc_need_stitches : FnScope n_need_stitches ["value"] (defScope (topS Pw 9)) := ⟨by kernel_rfl, by kernel_rfl, by kernel_rfl, by decide +kernel, rfl, by decide +kernel, by decide +kernel⟩
theorem ck_need_stitches (G : Gm) : chkSs ⟨n_need_stitches, defScope (topS Pw 9), true, none⟩ (b_need_stitches G) (defBody (topS Pw 9)) = true := by kernel_rfl
theorem sc_is_repeated : FnScope n_is_repeated ["stitches", "size"] (defScope (topS Pw 12)) := ⟨by kernel_rfl, by kernel_rfl, by kernel_rfl, by decide +kernel, rfl, by decide +kernel, by decide +kernel⟩
theorem ck_is_repeated (G : Gm) : chkSs ⟨n_is_repeated, defScope (topS Pw 12), true, some ("is_repeated", none)⟩ (b_is_repeated G) (defBody (topS Pw 12)) = true := by kernel_rfl
theorem sc_shorter : FnScope n_shorter ["one", "other"] (defScope (topS Pw 13)) := ⟨by kernel_rfl, by kernel_rfl, by kernel_rfl, by decide +kernel, rfl, by decide +kernel, by decide +kernel⟩
theorem ck_shorter (G : Gm) : chkSs ⟨n_shorter, defScope (topS Pw 13), true, none⟩ (b_shorter G) (defBody (topS Pw 13)) = true := by kernel_rfl
theorem sc_written : FnScope n_written ["stitches", "begin", "end", "known"] (defScope (topS Pw 14)) := ⟨by kernel_rfl, by kernel_rfl, by kernel_rfl, by decide +kernel, rfl, by decide +kernel, by decide +kernel⟩
theorem ck_written (G : Gm) : chkSs ⟨n_written, defScope (topS Pw 14), true, none⟩ (b_written G) (defBody (topS Pw 14)) = true := by kernel_rfl
theorem sc_shortest : FnScope n_shortest ["stitches"] (defScope (topS Pw 15)) := ⟨by kernel_rfl, by kernel_rfl, by kernel_rfl, by decide +kernel, rfl, by decide +kernel, by decide +kernel⟩
theorem ck_shortest (G : Gm) : chkSs ⟨n_shortest, defScope (topS Pw 15), true, none⟩ (b_shortest G) (defBody (topS Pw 15)) = true := by kernel_rfl
theorem sc__law_cell : FnScope n__law_cell ["script", "k"] (defScope (topS Pw 17)) := ⟨by kernel_rfl, by kernel_rfl, by kernel_rfl, by decide +kernel, rfl, by decide +kernel, by decide +kernel⟩
theorem ck__law_cell (G : Gm) : chkSs ⟨n__law_cell, defScope (topS Pw 17), true, none⟩ (b__law_cell G) (defBody (topS Pw 17)) = true := by kernel_rfl
theorem sc__law_box : FnScope n__law_box ["cell"] (defScope (topS Pw 18)) := ⟨by kernel_rfl, by kernel_rfl, by kernel_rfl, by decide +kernel, rfl, by decide +kernel, by decide +kernel⟩
theorem ck__law_box (G : Gm) : chkSs ⟨n__law_box, defScope (topS Pw 18), true, none⟩ (b__law_box G) (defBody (topS Pw 18)) = true := by kernel_rfl
theorem sc__law_take : FnScope n__law_take ["box", "many"] (defScope (topS Pw 19)) := ⟨by kernel_rfl, by kernel_rfl, by kernel_rfl, by decide +kernel, rfl, by decide +kernel, by decide +kernel⟩
theorem ck__law_take (G : Gm) : chkSs ⟨n__law_take, defScope (topS Pw 19), true, none⟩ (b__law_take G) (defBody (topS Pw 19)) = true := by kernel_rfl
theorem sc__law_caught : FnScope n__law_caught ["ask"] (defScope (topS Pw 20)) := ⟨by kernel_rfl, by kernel_rfl, by kernel_rfl, by decide +kernel, rfl, by decide +kernel, by decide +kernel⟩
theorem sc__law_same : FnScope n__law_same ["found", "due"] (defScope (topS Pw 21)) := ⟨by kernel_rfl, by kernel_rfl, by kernel_rfl, by decide +kernel, rfl, by decide +kernel, by decide +kernel⟩
theorem ck__law_same (G : Gm) : chkSs ⟨n__law_same, defScope (topS Pw 21), true, none⟩ (b__law_same G) (defBody (topS Pw 21)) = true := by kernel_rfl
theorem sc_law : FnScope n_law ["script"] (defScope (topS Pw 22)) := ⟨by kernel_rfl, by kernel_rfl, by kernel_rfl, by decide +kernel, rfl, by decide +kernel, by decide +kernel⟩
theorem ck_law (G : Gm) : chkSs ⟨n_law, defScope (topS Pw 22), true, some ("law", none)⟩ (b_law G) (defBody (topS Pw 22)) = true := by kernel_rfl
theorem ln_is_stitch (G : Gm) : ∀ vs H Q E, sp_is_stitch G vs H Q E → vs.length = 1 := by
  intro vs H Q E h
  unfold sp_is_stitch at h
  split at h
  · rfl
  · exact h.elim
theorem ln_need_stitch (G : Gm) : ∀ vs H Q E, sp_need_stitch G vs H Q E → vs.length = 1 := by
  intro vs H Q E h
  unfold sp_need_stitch at h
  split at h
  · rfl
  · exact h.elim
theorem ln_need_stitches (G : Gm) : ∀ vs H Q E, sp_need_stitches G vs H Q E → vs.length = 1 := by
  intro vs H Q E h
  unfold sp_need_stitches at h
  split at h
  · rfl
  · exact h.elim
theorem ln_is_repeated (G : Gm) : ∀ vs H Q E, sp_is_repeated G vs H Q E → vs.length = 2 := by
  intro vs H Q E h
  unfold sp_is_repeated at h
  split at h
  · rfl
  · exact h.elim
theorem ln_shorter (G : Gm) : ∀ vs H Q E, sp_shorter G vs H Q E → vs.length = 2 := by
  intro vs H Q E h
  unfold sp_shorter at h
  split at h
  · rfl
  · exact h.elim
theorem ln_written (G : Gm) : ∀ vs H Q E, sp_written G vs H Q E → vs.length = 4 := by
  intro vs H Q E h
  unfold sp_written at h
  split at h
  · rfl
  · exact h.elim
theorem ln_shortest (G : Gm) : ∀ vs H Q E, sp_shortest G vs H Q E → vs.length = 1 := by
  intro vs H Q E h
  unfold sp_shortest at h
  split at h
  · rfl
  · exact h.elim
theorem ln__law_cell (G : Gm) : ∀ vs H Q E, sp__law_cell G vs H Q E → vs.length = 2 := by
  intro vs H Q E h
  unfold sp__law_cell at h
  split at h
  · rfl
  · exact h.elim
theorem ln__law_box (G : Gm) : ∀ vs H Q E, sp__law_box G vs H Q E → vs.length = 1 := by
  intro vs H Q E h
  unfold sp__law_box at h
  split at h
  · rfl
  · exact h.elim
theorem ln__law_take (G : Gm) : ∀ vs H Q E, sp__law_take G vs H Q E → vs.length = 2 := by
  intro vs H Q E h
  unfold sp__law_take at h
  split at h
  · rfl
  · exact h.elim
theorem ln__law_same (G : Gm) : ∀ vs H Q E, sp__law_same G vs H Q E → vs.length = 2 := by
  intro vs H Q E h
  unfold sp__law_same at h
  split at h
  · rfl
  · exact h.elim
theorem ln_law (G : Gm) : ∀ vs H Q E, sp_law G vs H Q E → vs.length = 1 := by
  intro vs H Q E h
  unfold sp_law at h
  split at h
  · rfl
  · exact h.elim
theorem topAll {G : Gm} {h h0 : Heap} (X : G.K.In h) (N : h.Ns mainGlobals G.mg) (c : He.SaysX faAll dsAll tsAll ctAll exAll G.w h0 G.K) :
    ∃ fd, FunD G.K "law" "law" (defArgs (topS Pw 22)) (defBody (topS Pw 22)) (defScope (topS Pw 22)) [] [] (He.ga G.K "law") fd ∧ (∀ (s : Shared) (v : Value), BindsTo s fd ⟨[v], []⟩ [("script", v)]) ∧ G.mg "law" = some (.ref (He.ga G.K "law")) := by
  obtain ⟨fd, F⟩ := c.t.d.def_ 12 (d := dD Pw "law" 22) rfl
  exact ⟨fd, F, fun s v => FunD.bindsA (ps := ["script"]) F (fun _ _ _ _ _ _ us hl => match us, hl with | [_], _ => rfl) s [v] rfl, He.glo_ok X N (c.t.d.fact 12 (f := .glo "law") rfl)⟩
theorem factsAll {G : Gm} {h0 : Heap} (X : G.K.In G.base) (N : G.base.Ns mainGlobals G.mg) (c : He.SaysX faAll dsAll tsAll ctAll exAll G.w h0 G.K) (tb : ∀ p ∈ ctAll.map (He.cT G.K), TB G.base G.mg p.1 p.2) :
    ∃ fd, FunD G.K "law" "law" (defArgs (topS Pw 22)) (defBody (topS Pw 22)) (defScope (topS Pw 22)) [] [] (He.ga G.K "law") fd ∧ FnG G 10 (He.ga G.K "law") fd ["script"] (sp_law G) := by
  have g_is_stitch : G.mg "is_stitch" = some (.ref (He.ga G.K "is_stitch")) := He.glo_ok X N (c.t.d.fact 0 (f := .glo "is_stitch") rfl)
  have g_need_stitch : G.mg "need_stitch" = some (.ref (He.ga G.K "need_stitch")) := He.glo_ok X N (c.t.d.fact 1 (f := .glo "need_stitch") rfl)
  have g_need_stitches : G.mg "need_stitches" = some (.ref (He.ga G.K "need_stitches")) := He.glo_ok X N (c.t.d.fact 2 (f := .glo "need_stitches") rfl)
  have g_is_repeated : G.mg "is_repeated" = some (.ref (He.ga G.K "is_repeated")) := He.glo_ok X N (c.t.d.fact 3 (f := .glo "is_repeated") rfl)
  have g_shorter : G.mg "shorter" = some (.ref (He.ga G.K "shorter")) := He.glo_ok X N (c.t.d.fact 4 (f := .glo "shorter") rfl)
  have g_written : G.mg "written" = some (.ref (He.ga G.K "written")) := He.glo_ok X N (c.t.d.fact 5 (f := .glo "written") rfl)
  have g_shortest : G.mg "shortest" = some (.ref (He.ga G.K "shortest")) := He.glo_ok X N (c.t.d.fact 6 (f := .glo "shortest") rfl)
  have g__law_cell : G.mg "_law_cell" = some (.ref (He.ga G.K "_law_cell")) := He.glo_ok X N (c.t.d.fact 7 (f := .glo "_law_cell") rfl)
  have g__law_box : G.mg "_law_box" = some (.ref (He.ga G.K "_law_box")) := He.glo_ok X N (c.t.d.fact 8 (f := .glo "_law_box") rfl)
  have g__law_take : G.mg "_law_take" = some (.ref (He.ga G.K "_law_take")) := He.glo_ok X N (c.t.d.fact 9 (f := .glo "_law_take") rfl)
  have g__law_caught : G.mg "_law_caught" = some (.ref (He.ga G.K "_law_caught")) := He.glo_ok X N (c.t.d.fact 10 (f := .glo "_law_caught") rfl)
  have g__law_same : G.mg "_law_same" = some (.ref (He.ga G.K "_law_same")) := He.glo_ok X N (c.t.d.fact 11 (f := .glo "_law_same") rfl)
  have g_law : G.mg "law" = some (.ref (He.ga G.K "law")) := He.glo_ok X N (c.t.d.fact 12 (f := .glo "law") rfl)
  have g_NoStitch : G.mg "NoStitch" = some (.ref (He.ga G.K "NoStitch")) := He.glo_ok X N (c.t.d.fact 13 (f := .glo "NoStitch") rfl)
  have g_NoStitches : G.mg "NoStitches" = some (.ref (He.ga G.K "NoStitches")) := He.glo_ok X N (c.t.d.fact 14 (f := .glo "NoStitches") rfl)
  have g_STITCHES : G.mg "STITCHES" = some (.ref (He.ga G.K "STITCHES")) := He.glo_ok X N (c.t.d.fact 15 (f := .glo "STITCHES") rfl)
  have g_KnitError : G.mg "KnitError" = some (.ref (He.ga G.K "KnitError")) := He.glo_ok X N (c.t.d.fact 16 (f := .glo "KnitError") rfl)
  have m_len : G.mg "len" = none := He.free_ok X N (c.t.d.fact 17 (f := .free "len") rfl)
  have m_max : G.mg "max" = none := He.free_ok X N (c.t.d.fact 18 (f := .free "max") rfl)
  have m_min : G.mg "min" = none := He.free_ok X N (c.t.d.fact 19 (f := .free "min") rfl)
  have m_abs : G.mg "abs" = none := He.free_ok X N (c.t.d.fact 20 (f := .free "abs") rfl)
  have m_sum : G.mg "sum" = none := He.free_ok X N (c.t.d.fact 21 (f := .free "sum") rfl)
  have m_repr : G.mg "repr" = none := He.free_ok X N (c.t.d.fact 22 (f := .free "repr") rfl)
  have m_sorted : G.mg "sorted" = none := He.free_ok X N (c.t.d.fact 23 (f := .free "sorted") rfl)
  have m_isinstance : G.mg "isinstance" = none := He.free_ok X N (c.t.d.fact 24 (f := .free "isinstance") rfl)
  have m_int : G.mg "int" = none := He.free_ok X N (c.t.d.fact 25 (f := .free "int") rfl)
  have m_str : G.mg "str" = none := He.free_ok X N (c.t.d.fact 26 (f := .free "str") rfl)
  have m_list : G.mg "list" = none := He.free_ok X N (c.t.d.fact 27 (f := .free "list") rfl)
  have m_tuple : G.mg "tuple" = none := He.free_ok X N (c.t.d.fact 28 (f := .free "tuple") rfl)
  have m_dict : G.mg "dict" = none := He.free_ok X N (c.t.d.fact 29 (f := .free "dict") rfl)
  have m_bool : G.mg "bool" = none := He.free_ok X N (c.t.d.fact 30 (f := .free "bool") rfl)
  have m_range : G.mg "range" = none := He.free_ok X N (c.t.d.fact 31 (f := .free "range") rfl)
  have m_all : G.mg "all" = none := He.free_ok X N (c.t.d.fact 32 (f := .free "all") rfl)
  have m_enumerate : G.mg "enumerate" = none := He.free_ok X N (c.t.d.fact 33 (f := .free "enumerate") rfl)
  have m_set : G.mg "set" = none := He.free_ok X N (c.t.d.fact 34 (f := .free "set") rfl)
  have m_zip : G.mg "zip" = none := He.free_ok X N (c.t.d.fact 35 (f := .free "zip") rfl)
  have v_MOST_STITCHES : ∃ u, G.mg "MOST_STITCHES" = some u ∧ RelV (.int 1200) u := by
    obtain ⟨t, e⟩ := He.int_ok X N (c.t.d.fact 36 (f := .int "MOST_STITCHES" 1200) rfl)
    exact ⟨_, e, t, rfl⟩
  have v_MOST_WRITTEN : ∃ u, G.mg "MOST_WRITTEN" = some u ∧ RelV (.int 24) u := by
    obtain ⟨t, e⟩ := He.int_ok X N (c.t.d.fact 37 (f := .int "MOST_WRITTEN" 24) rfl)
    exact ⟨_, e, t, rfl⟩
  have tb_is_repeated : TB G.base G.mg (He.codeOf G.K ("is_repeated", none)) (tabA G ("is_repeated", none)) := tb (He.cT G.K ("is_repeated", none)) (List.mem_map_of_mem (List.mem_of_getElem? (i := 0) rfl))
  have tb_law : TB G.base G.mg (He.codeOf G.K ("law", none)) (tabA G ("law", none)) := tb (He.cT G.K ("law", none)) (List.mem_map_of_mem (List.mem_of_getElem? (i := 1) rfl))
  have ex := c.more
  unfold exAll at ex
  simp only [Bool.and_eq_true] at ex
  obtain ⟨x0, x1, x2, x3, x4, _⟩ := ex
  have ke := keB_ok g_KnitError x0
  obtain ⟨fi_NoStitch, FI_NoStitch⟩ := c.t.d.def_ 13 (d := dI Pw "NoStitch" "__init__" "NoStitch.__init__" 2 0) rfl
  have er_NoStitch : Er1 G "NoStitch" "value" (He.ga G.K "NoStitch") := er1_of (v := "value") ke g_NoStitch x1 FI_NoStitch ⟨by kernel_rfl, by kernel_rfl, by kernel_rfl, by decide +kernel, rfl, by decide +kernel, by decide +kernel⟩ (by kernel_rfl) (by kernel_rfl) (by kernel_rfl) (by kernel_rfl) (by decide +kernel) (by decide +kernel) (fun _ _ _ _ _ _ us hl => match us, hl with | [_, _], _ => rfl)
  obtain ⟨fi_NoStitches, FI_NoStitches⟩ := c.t.d.def_ 14 (d := dI Pw "NoStitches" "__init__" "NoStitches.__init__" 3 0) rfl
  have er_NoStitches : Er1 G "NoStitches" "value" (He.ga G.K "NoStitches") := er1_of (v := "value") ke g_NoStitches x2 FI_NoStitches ⟨by kernel_rfl, by kernel_rfl, by kernel_rfl, by decide +kernel, rfl, by decide +kernel, by decide +kernel⟩ (by kernel_rfl) (by kernel_rfl) (by kernel_rfl) (by kernel_rfl) (by decide +kernel) (by decide +kernel) (fun _ _ _ _ _ _ us hl => match us, hl with | [_, _], _ => rfl)
  have nf_NoStitch := er_NoStitch.noF
  have xf_NoStitch := er_NoStitch.xf
  have nf_NoStitches := er_NoStitches.noF
  have xf_NoStitches := er_NoStitches.xf
  have sk : StK G := stk_of g_STITCHES (SaysT.dic c.t 0 rfl) x3
  have exs0 : exsB G.K caughtL = true := x4
  have v_STITCHES : ∃ u, G.mg "STITCHES" = some u ∧ RelV (.ref (clA G "STITCHES")) u := ⟨_, g_STITCHES, by rw [clA_of g_STITCHES]; rfl⟩
  have xo_0 : ∀ n, XOk G n xDict0 := fun n => xDict0_ok
  have xo_1 : ∀ n, XOk G n xDPop := fun n => xDPop_ok
  have xo_2 : ∀ n, XOk G n xDictT := fun n => xDictT_ok
  have xo_3 : ∀ n, XOk G n (xRep G ("is_repeated", none) 0 1) := fun n => xRep_ok m_all m_range tb_is_repeated.2
  have xo_4 : ∀ n, XOk G n (xFS [none, none]) := fun n => xFS_ok
  have xo_5 : ∀ n, XOk G n (xFS [some ")", none]) := fun n => xFS_ok
  have xo_6 : ∀ n, XOk G n (xJoin G) := fun n => xJoin_ok
  obtain ⟨fd_is_stitch, F_is_stitch⟩ := c.t.d.def_ 0 (d := dD Pw "is_stitch" 7) rfl
  have o_is_stitch : FnG G 1 (He.fAd G.K ("is_stitch", none)) fd_is_stitch ["value"] (sp_is_stitch G) := by
    refine fnD F_is_stitch sc_is_stitch (b_is_stitch G) (none) (fun _ z => nomatch z) (fun _ z => nomatch z) (ck_is_stitch G) ?_ (ln_is_stitch G) (q_is_stitch G sk)
    unfold b_is_stitch
    walk_at "gd"
    all_goals ((repeat' apply And.intro) <;> first | assumption | exact FnAt.mono (by assumption) (by decide) | exact FnAtK.mono (by assumption) (by decide) | exact xo_0 _ | exact xo_1 _ | exact xo_2 _ | exact xo_3 _ | exact xo_4 _ | exact xo_5 _ | exact xo_6 _ | (refine ⟨6, xCaught_ok (k := 6) (by decide) cf tb_law.1, ?_⟩; (repeat' apply And.intro) <;> first | assumption | exact FnAt.mono (by assumption) (by decide) | exact FnAtK.mono (by assumption) (by decide)) | exact ⟨_, by assumption, by decide⟩ | exact ⟨_, by assumption, fun e he => by (rcases List.mem_singleton.mp he with rfl; trivial)⟩ | exact ⟨_, by assumption, fun e he => (List.mem_cons.mp he).elim (fun q => by (subst q; trivial)) (fun q => by (cases List.mem_singleton.mp q; exact ⟨by assumption, by assumption⟩))⟩)
  have a_is_stitch : FnAt G 1 "is_stitch" (sp_is_stitch G) [] := at_of F_is_stitch g_is_stitch o_is_stitch fun _ _ _ _ _ _ us hl => match us, hl with | [_], _ => rfl
  obtain ⟨fd_need_stitch, F_need_stitch⟩ := c.t.d.def_ 1 (d := dD Pw "need_stitch" 8) rfl
  have o_need_stitch : FnG G 4 (He.fAd G.K ("need_stitch", none)) fd_need_stitch ["value"] (sp_need_stitch G) := by
    refine fnD F_need_stitch sc_need_stitch (b_need_stitch G) (none) (fun _ z => nomatch z) (fun _ z => nomatch z) (ck_need_stitch G) ?_ (ln_need_stitch G) (q_need_stitch G)
    unfold b_need_stitch
    walk_at "gd"
    all_goals ((repeat' apply And.intro) <;> first | assumption | exact FnAt.mono (by assumption) (by decide) | exact FnAtK.mono (by assumption) (by decide) | exact xo_0 _ | exact xo_1 _ | exact xo_2 _ | exact xo_3 _ | exact xo_4 _ | exact xo_5 _ | exact xo_6 _ | (refine ⟨6, xCaught_ok (k := 6) (by decide) cf tb_law.1, ?_⟩; (repeat' apply And.intro) <;> first | assumption | exact FnAt.mono (by assumption) (by decide) | exact FnAtK.mono (by assumption) (by decide)) | exact ⟨_, by assumption, by decide⟩ | exact ⟨_, by assumption, fun e he => by (rcases List.mem_singleton.mp he with rfl; trivial)⟩ | exact ⟨_, by assumption, fun e he => (List.mem_cons.mp he).elim (fun q => by (subst q; trivial)) (fun q => by (cases List.mem_singleton.mp q; exact ⟨by assumption, by assumption⟩))⟩)
  have a_need_stitch : FnAt G 4 "need_stitch" (sp_need_stitch G) [] := at_of F_need_stitch g_need_stitch o_need_stitch fun _ _ _ _ _ _ us hl => match us, hl with | [_], _ => rfl
  obtain ⟨fd_need_stitches, F_need_stitches⟩ := c.t.d.def_ 2 (d := dD Pw "need_stitches" 9) rfl
  have o_need_stitches : FnG G 5 (He.fAd G.K ("need_stitches", none)) fd_need_stitches ["value"] (sp_need_stitches G) := by
    refine fnD F_need_stitches sc_need_stitches (b_need_stitches G) (none) (fun _ z => nomatch z) (fun _ z => nomatch z) (ck_need_stitches G) ?_ (ln_need_stitches G) (q_need_stitches G)
    unfold b_need_stitches
    walk_at "gd"
    all_goals ((repeat' apply And.intro) <;> first | assumption | exact FnAt.mono (by assumption) (by decide) | exact FnAtK.mono (by assumption) (by decide) | exact xo_0 _ | exact xo_1 _ | exact xo_2 _ | exact xo_3 _ | exact xo_4 _ | exact xo_5 _ | exact xo_6 _ | (refine ⟨6, xCaught_ok (k := 6) (by decide) cf tb_law.1, ?_⟩; (repeat' apply And.intro) <;> first | assumption | exact FnAt.mono (by assumption) (by decide) | exact FnAtK.mono (by assumption) (by decide)) | exact ⟨_, by assumption, by decide⟩ | exact ⟨_, by assumption, fun e he => by (rcases List.mem_singleton.mp he with rfl; trivial)⟩ | exact ⟨_, by assumption, fun e he => (List.mem_cons.mp he).elim (fun q => by (subst q; trivial)) (fun q => by (cases List.mem_singleton.mp q; exact ⟨by assumption, by assumption⟩))⟩)
  have a_need_stitches : FnAt G 5 "need_stitches" (sp_need_stitches G) [] := at_of F_need_stitches g_need_stitches o_need_stitches fun _ _ _ _ _ _ us hl => match us, hl with | [_], _ => rfl
  obtain ⟨fd_is_repeated, F_is_repeated⟩ := c.t.d.def_ 3 (d := dD Pw "is_repeated" 12) rfl
  have o_is_repeated : FnG G 1 (He.fAd G.K ("is_repeated", none)) fd_is_repeated ["stitches", "size"] (sp_is_repeated G) := by
    refine fnD F_is_repeated sc_is_repeated (b_is_repeated G) (some ("is_repeated", none)) (fun p z => by cases z; rfl) (fun p z => by cases z; rfl) (ck_is_repeated G) ?_ (ln_is_repeated G) (q_is_repeated G)
    unfold b_is_repeated
    walk_at "gd"
    all_goals ((repeat' apply And.intro) <;> first | assumption | exact FnAt.mono (by assumption) (by decide) | exact FnAtK.mono (by assumption) (by decide) | exact xo_0 _ | exact xo_1 _ | exact xo_2 _ | exact xo_3 _ | exact xo_4 _ | exact xo_5 _ | exact xo_6 _ | (refine ⟨6, xCaught_ok (k := 6) (by decide) cf tb_law.1, ?_⟩; (repeat' apply And.intro) <;> first | assumption | exact FnAt.mono (by assumption) (by decide) | exact FnAtK.mono (by assumption) (by decide)) | exact ⟨_, by assumption, by decide⟩ | exact ⟨_, by assumption, fun e he => by (rcases List.mem_singleton.mp he with rfl; trivial)⟩ | exact ⟨_, by assumption, fun e he => (List.mem_cons.mp he).elim (fun q => by (subst q; trivial)) (fun q => by (cases List.mem_singleton.mp q; exact ⟨by assumption, by assumption⟩))⟩)
  have a_is_repeated : FnAt G 1 "is_repeated" (sp_is_repeated G) [] := at_of F_is_repeated g_is_repeated o_is_repeated fun _ _ _ _ _ _ us hl => match us, hl with | [_, _], _ => rfl
  obtain ⟨fd_shorter, F_shorter⟩ := c.t.d.def_ 4 (d := dD Pw "shorter" 13) rfl
  have o_shorter : FnG G 1 (He.fAd G.K ("shorter", none)) fd_shorter ["one", "other"] (sp_shorter G) := by
    refine fnD F_shorter sc_shorter (b_shorter G) (none) (fun _ z => nomatch z) (fun _ z => nomatch z) (ck_shorter G) ?_ (ln_shorter G) (q_shorter G)
    unfold b_shorter
    walk_at "gd"
    all_goals ((repeat' apply And.intro) <;> first | assumption | exact FnAt.mono (by assumption) (by decide) | exact FnAtK.mono (by assumption) (by decide) | exact xo_0 _ | exact xo_1 _ | exact xo_2 _ | exact xo_3 _ | exact xo_4 _ | exact xo_5 _ | exact xo_6 _ | (refine ⟨6, xCaught_ok (k := 6) (by decide) cf tb_law.1, ?_⟩; (repeat' apply And.intro) <;> first | assumption | exact FnAt.mono (by assumption) (by decide) | exact FnAtK.mono (by assumption) (by decide)) | exact ⟨_, by assumption, by decide⟩ | exact ⟨_, by assumption, fun e he => by (rcases List.mem_singleton.mp he with rfl; trivial)⟩ | exact ⟨_, by assumption, fun e he => (List.mem_cons.mp he).elim (fun q => by (subst q; trivial)) (fun q => by (cases List.mem_singleton.mp q; exact ⟨by assumption, by assumption⟩))⟩)
  have a_shorter : FnAt G 1 "shorter" (sp_shorter G) [] := at_of F_shorter g_shorter o_shorter fun _ _ _ _ _ _ us hl => match us, hl with | [_, _], _ => rfl
  obtain ⟨fd_written, F_written⟩ := c.t.d.def_ 5 (d := dD Pw "written" 14) rfl
  have o_written : FnG G 2 (He.fAd G.K ("written", none)) fd_written ["stitches", "begin", "end", "known"] (sp_written G) := by
    refine fnD F_written sc_written (b_written G) (none) (fun _ z => nomatch z) (fun _ z => nomatch z) (ck_written G) ?_ (ln_written G) (q_written G)
    unfold b_written
    walk_at "gd"
    all_goals ((repeat' apply And.intro) <;> first | assumption | exact FnAt.mono (by assumption) (by decide) | exact FnAtK.mono (by assumption) (by decide) | exact xo_0 _ | exact xo_1 _ | exact xo_2 _ | exact xo_3 _ | exact xo_4 _ | exact xo_5 _ | exact xo_6 _ | (refine ⟨6, xCaught_ok (k := 6) (by decide) cf tb_law.1, ?_⟩; (repeat' apply And.intro) <;> first | assumption | exact FnAt.mono (by assumption) (by decide) | exact FnAtK.mono (by assumption) (by decide)) | exact ⟨_, by assumption, by decide⟩ | exact ⟨_, by assumption, fun e he => by (rcases List.mem_singleton.mp he with rfl; trivial)⟩ | exact ⟨_, by assumption, fun e he => (List.mem_cons.mp he).elim (fun q => by (subst q; trivial)) (fun q => by (cases List.mem_singleton.mp q; exact ⟨by assumption, by assumption⟩))⟩)
  have a_written : FnAt G 2 "written" (sp_written G) [] := at_of F_written g_written o_written fun _ _ _ _ _ _ us hl => match us, hl with | [_, _, _, _], _ => rfl
  obtain ⟨fd_shortest, F_shortest⟩ := c.t.d.def_ 6 (d := dD Pw "shortest" 15) rfl
  have o_shortest : FnG G 6 (He.fAd G.K ("shortest", none)) fd_shortest ["stitches"] (sp_shortest G) := by
    refine fnD F_shortest sc_shortest (b_shortest G) (none) (fun _ z => nomatch z) (fun _ z => nomatch z) (ck_shortest G) ?_ (ln_shortest G) (q_shortest G)
    unfold b_shortest
    walk_at "gd"
    all_goals ((repeat' apply And.intro) <;> first | assumption | exact FnAt.mono (by assumption) (by decide) | exact FnAtK.mono (by assumption) (by decide) | exact xo_0 _ | exact xo_1 _ | exact xo_2 _ | exact xo_3 _ | exact xo_4 _ | exact xo_5 _ | exact xo_6 _ | (refine ⟨6, xCaught_ok (k := 6) (by decide) cf tb_law.1, ?_⟩; (repeat' apply And.intro) <;> first | assumption | exact FnAt.mono (by assumption) (by decide) | exact FnAtK.mono (by assumption) (by decide)) | exact ⟨_, by assumption, by decide⟩ | exact ⟨_, by assumption, fun e he => by (rcases List.mem_singleton.mp he with rfl; trivial)⟩ | exact ⟨_, by assumption, fun e he => (List.mem_cons.mp he).elim (fun q => by (subst q; trivial)) (fun q => by (cases List.mem_singleton.mp q; exact ⟨by assumption, by assumption⟩))⟩)
  have a_shortest : FnAt G 6 "shortest" (sp_shortest G) [] := at_of F_shortest g_shortest o_shortest fun _ _ _ _ _ _ us hl => match us, hl with | [_], _ => rfl
  obtain ⟨fd__law_cell, F__law_cell⟩ := c.t.d.def_ 7 (d := dD Pw "_law_cell" 17) rfl
  have o__law_cell : FnG G 1 (He.fAd G.K ("_law_cell", none)) fd__law_cell ["script", "k"] (sp__law_cell G) := by
    refine fnD F__law_cell sc__law_cell (b__law_cell G) (none) (fun _ z => nomatch z) (fun _ z => nomatch z) (ck__law_cell G) ?_ (ln__law_cell G) (q_cell G)
    unfold b__law_cell
    walk_at "gd"
    all_goals ((repeat' apply And.intro) <;> first | assumption | exact FnAt.mono (by assumption) (by decide) | exact FnAtK.mono (by assumption) (by decide) | exact xo_0 _ | exact xo_1 _ | exact xo_2 _ | exact xo_3 _ | exact xo_4 _ | exact xo_5 _ | exact xo_6 _ | (refine ⟨6, xCaught_ok (k := 6) (by decide) cf tb_law.1, ?_⟩; (repeat' apply And.intro) <;> first | assumption | exact FnAt.mono (by assumption) (by decide) | exact FnAtK.mono (by assumption) (by decide)) | exact ⟨_, by assumption, by decide⟩ | exact ⟨_, by assumption, fun e he => by (rcases List.mem_singleton.mp he with rfl; trivial)⟩ | exact ⟨_, by assumption, fun e he => (List.mem_cons.mp he).elim (fun q => by (subst q; trivial)) (fun q => by (cases List.mem_singleton.mp q; exact ⟨by assumption, by assumption⟩))⟩)
  have a__law_cell : FnAt G 1 "_law_cell" (sp__law_cell G) [] := at_of F__law_cell g__law_cell o__law_cell fun _ _ _ _ _ _ us hl => match us, hl with | [_, _], _ => rfl
  obtain ⟨fd__law_box, F__law_box⟩ := c.t.d.def_ 8 (d := dD Pw "_law_box" 18) rfl
  have o__law_box : FnG G 1 (He.fAd G.K ("_law_box", none)) fd__law_box ["cell"] (sp__law_box G) := by
    refine fnD F__law_box sc__law_box (b__law_box G) (none) (fun _ z => nomatch z) (fun _ z => nomatch z) (ck__law_box G) ?_ (ln__law_box G) (q_box G)
    unfold b__law_box
    walk_at "gd"
    all_goals ((repeat' apply And.intro) <;> first | assumption | exact FnAt.mono (by assumption) (by decide) | exact FnAtK.mono (by assumption) (by decide) | exact xo_0 _ | exact xo_1 _ | exact xo_2 _ | exact xo_3 _ | exact xo_4 _ | exact xo_5 _ | exact xo_6 _ | (refine ⟨6, xCaught_ok (k := 6) (by decide) cf tb_law.1, ?_⟩; (repeat' apply And.intro) <;> first | assumption | exact FnAt.mono (by assumption) (by decide) | exact FnAtK.mono (by assumption) (by decide)) | exact ⟨_, by assumption, by decide⟩ | exact ⟨_, by assumption, fun e he => by (rcases List.mem_singleton.mp he with rfl; trivial)⟩ | exact ⟨_, by assumption, fun e he => (List.mem_cons.mp he).elim (fun q => by (subst q; trivial)) (fun q => by (cases List.mem_singleton.mp q; exact ⟨by assumption, by assumption⟩))⟩)
  have a__law_box : FnAt G 1 "_law_box" (sp__law_box G) [] := at_of F__law_box g__law_box o__law_box fun _ _ _ _ _ _ us hl => match us, hl with | [_], _ => rfl
  obtain ⟨fd__law_take, F__law_take⟩ := c.t.d.def_ 9 (d := dD Pw "_law_take" 19) rfl
  have o__law_take : FnG G 1 (He.fAd G.K ("_law_take", none)) fd__law_take ["box", "many"] (sp__law_take G) := by
    refine fnD F__law_take sc__law_take (b__law_take G) (none) (fun _ z => nomatch z) (fun _ z => nomatch z) (ck__law_take G) ?_ (ln__law_take G) (q_take G)
    unfold b__law_take
    walk_at "gd"
    all_goals ((repeat' apply And.intro) <;> first | assumption | exact FnAt.mono (by assumption) (by decide) | exact FnAtK.mono (by assumption) (by decide) | exact xo_0 _ | exact xo_1 _ | exact xo_2 _ | exact xo_3 _ | exact xo_4 _ | exact xo_5 _ | exact xo_6 _ | (refine ⟨6, xCaught_ok (k := 6) (by decide) cf tb_law.1, ?_⟩; (repeat' apply And.intro) <;> first | assumption | exact FnAt.mono (by assumption) (by decide) | exact FnAtK.mono (by assumption) (by decide)) | exact ⟨_, by assumption, by decide⟩ | exact ⟨_, by assumption, fun e he => by (rcases List.mem_singleton.mp he with rfl; trivial)⟩ | exact ⟨_, by assumption, fun e he => (List.mem_cons.mp he).elim (fun q => by (subst q; trivial)) (fun q => by (cases List.mem_singleton.mp q; exact ⟨by assumption, by assumption⟩))⟩)
  have a__law_take : FnAt G 1 "_law_take" (sp__law_take G) [] := at_of F__law_take g__law_take o__law_take fun _ _ _ _ _ _ us hl => match us, hl with | [_, _], _ => rfl
  obtain ⟨fd__law_caught, F__law_caught⟩ := c.t.d.def_ 10 (d := dD Pw "_law_caught" 20) rfl
  have cf : CaughtF G "_law_caught" "ask" "found" "other" "told" ["e"] (hsL "KnitError" caughtL) := ⟨⟨_, _, _, _, _, g__law_caught, F__law_caught, F__law_caught.bindsN (fun _ _ _ _ _ _ us hl => match us, hl with | [_], _ => rfl), sc__law_caught, by kernel_rfl, by kernel_rfl, by kernel_rfl⟩, gdH ⟨_, g_KnitError⟩ (by
    intro p hp
    simp only [caughtL, List.mem_cons, List.not_mem_nil, or_false] at hp
    rcases hp with rfl | rfl
    · exact ⟨_, g_NoStitch, nf_NoStitch, xf_NoStitch⟩
    · exact ⟨_, g_NoStitches, nf_NoStitches, xf_NoStitches⟩
    ), by decide +kernel, by decide +kernel⟩
  have exs : Exs G caughtL := exs_ok (by assumption) (by
    intro p hp
    simp only [caughtL, List.mem_cons, List.not_mem_nil, or_false] at hp
    rcases hp with rfl | rfl
    · exact g_NoStitch
    · exact g_NoStitches
    ) (by decide +kernel)
  obtain ⟨fd__law_same, F__law_same⟩ := c.t.d.def_ 11 (d := dD Pw "_law_same" 21) rfl
  have o__law_same : FnG G 1 (He.fAd G.K ("_law_same", none)) fd__law_same ["found", "due"] (sp__law_same G) := by
    refine fnD F__law_same sc__law_same (b__law_same G) (none) (fun _ z => nomatch z) (fun _ z => nomatch z) (ck__law_same G) ?_ (ln__law_same G) (q_same G)
    unfold b__law_same
    walk_at "gd"
    all_goals ((repeat' apply And.intro) <;> first | assumption | exact FnAt.mono (by assumption) (by decide) | exact FnAtK.mono (by assumption) (by decide) | exact xo_0 _ | exact xo_1 _ | exact xo_2 _ | exact xo_3 _ | exact xo_4 _ | exact xo_5 _ | exact xo_6 _ | (refine ⟨6, xCaught_ok (k := 6) (by decide) cf tb_law.1, ?_⟩; (repeat' apply And.intro) <;> first | assumption | exact FnAt.mono (by assumption) (by decide) | exact FnAtK.mono (by assumption) (by decide)) | exact ⟨_, by assumption, by decide⟩ | exact ⟨_, by assumption, fun e he => by (rcases List.mem_singleton.mp he with rfl; trivial)⟩ | exact ⟨_, by assumption, fun e he => (List.mem_cons.mp he).elim (fun q => by (subst q; trivial)) (fun q => by (cases List.mem_singleton.mp q; exact ⟨by assumption, by assumption⟩))⟩)
  have a__law_same : FnAt G 1 "_law_same" (sp__law_same G) [] := at_of F__law_same g__law_same o__law_same fun _ _ _ _ _ _ us hl => match us, hl with | [_, _], _ => rfl
  obtain ⟨fd_law, F_law⟩ := c.t.d.def_ 12 (d := dD Pw "law" 22) rfl
  have o_law : FnG G 10 (He.fAd G.K ("law", none)) fd_law ["script"] (sp_law G) := by
    refine fnD F_law sc_law (b_law G) (some ("law", none)) (fun p z => by cases z; rfl) (fun p z => by cases z; rfl) (ck_law G) ?_ (ln_law G) (q_law G exs)
    unfold b_law
    walk_at "gd"
    all_goals ((repeat' apply And.intro) <;> first | assumption | exact FnAt.mono (by assumption) (by decide) | exact FnAtK.mono (by assumption) (by decide) | exact xo_0 _ | exact xo_1 _ | exact xo_2 _ | exact xo_3 _ | exact xo_4 _ | exact xo_5 _ | exact xo_6 _ | (refine ⟨6, xCaught_ok (k := 6) (by decide) cf tb_law.1, ?_⟩; (repeat' apply And.intro) <;> first | assumption | exact FnAt.mono (by assumption) (by decide) | exact FnAtK.mono (by assumption) (by decide)) | exact ⟨_, by assumption, by decide⟩ | exact ⟨_, by assumption, fun e he => by (rcases List.mem_singleton.mp he with rfl; trivial)⟩ | exact ⟨_, by assumption, fun e he => (List.mem_cons.mp he).elim (fun q => by (subst q; trivial)) (fun q => by (cases List.mem_singleton.mp q; exact ⟨by assumption, by assumption⟩))⟩)
  exact ⟨fd_law, F_law, o_law⟩
theorem endAll {w : World} {mg : Str → Option Value} {fa : Addr} {h : Heap} (K : PySem.W.Frag) (KX : K.In h) (c : He.SaysX faAll dsAll tsAll ctAll exAll w h K) (N : h.Ns mainGlobals mg) (hmg : mg ("law" : Str) = some (.ref fa)) :
    ∃ (K : PySem.W.Frag) (fd : FuncData) (sp : Gm → Sp) (cs : List (Addr × Addr)), K.In h ∧ (∀ p ∈ cs, h.get? p.2 = some { cls := .none, data := .fields #[] }) ∧ (∀ p ∈ cs, K.lookup p.2 = none) ∧ (∀ p ∈ cs, PySem.W.codeHdIn K p.1 p.2 = true) ∧
        (∀ (s : Shared) (u : Value), BindsTo s fd ⟨[u], []⟩ [("script", u)]) ∧
        (∀ (base : Heap) (H : Hp) (a : Addr) (ns : List Int), ns.length ≤ 63 → (∀ p ∈ cs, H p.2 = some (.tbl #[])) → SqL K H a (ns.map V.int) → sp ⟨PySem.Challenge.rw_knitrows_k42_writing_refused.prog, w, K, mg, base⟩ [.ref a] H (fun v _ => v = .bl true) fun _ _ _ => False) ∧
        ∀ base : Heap, K.In base → base.Ns mainGlobals mg → (∀ p ∈ cs, TB base mg p.1 p.2) → FnG ⟨PySem.Challenge.rw_knitrows_k42_writing_refused.prog, w, K, mg, base⟩ 10 fa fd ["script"] (sp ⟨PySem.Challenge.rw_knitrows_k42_writing_refused.prog, w, K, mg, base⟩) := by
  obtain ⟨fd, F, hb, hgl⟩ := topAll (G := ⟨PySem.Challenge.rw_knitrows_k42_writing_refused.prog, w, K, mg, h⟩) KX N c
  have e := hmg.symm.trans hgl
  cases e
  refine ⟨K, fd, sp_law, ctAll.map (He.cT K), KX, ?E, ?O, ?D, hb, fun base H a ns hl hH hS => ⟨ns, Nat.le_trans hl (by decide), hS, tab0 (G := ⟨PySem.Challenge.rw_knitrows_k42_writing_refused.prog, w, K, mg, base⟩) (p := ("is_repeated", none)) (List.mem_of_getElem? (i := 0) rfl) hH, tabL0 (G := ⟨PySem.Challenge.rw_knitrows_k42_writing_refused.prog, w, K, mg, base⟩) (p := ("law", none)) (List.mem_of_getElem? (i := 1) rfl) hH, fun _ => rfl⟩, fun base hK hN hT => ?_⟩
  case E => exact fun p q => by obtain ⟨d, hd, rfl⟩ := List.mem_map.mp q; exact c.empty d hd
  case O => exact fun p q => by obtain ⟨d, hd, rfl⟩ := List.mem_map.mp q; exact c.out d hd
  case D => exact fun p q => by obtain ⟨d, hd, rfl⟩ := List.mem_map.mp q; exact c.hd d hd
  obtain ⟨fd2, F2, o⟩ := factsAll (G := ⟨PySem.Challenge.rw_knitrows_k42_writing_refused.prog, w, K, mg, base⟩) hK hN c hT
  have e2 : fd2 = fd := fun_uniq F2 F
  rw [← e2]
  exact o
abbrev Rw : PySem.W.OpenRow := PySem.W.OpenLaw.row PySem.Challenge.rw_knitrows_k42_writing_refused
abbrev hkAll : PySem.W.Hook := hookY 5 faAll dsAll tsAll ctAll exAll
def obAll (s : PySem.W.SharedT) : He.AlX := obsY 5 faAll dsAll tsAll ctAll exAll (HandSHeadRun.getT s)
theorem obAll_eq (s : PySem.W.SharedT) : obAll s = hkAll.obs s.abs := obsY_eq (HandSHeadRun.getT_eq s)
theorem runAll (w : World) : HandSHeadRun.RunEq Rw (PySem.W.view Rw.prog [22]) hkAll obAll 4000 ["__name__", "KnitError", "NoStitch", "NoStitches", "STITCHES", "MOST_STITCHES", "is_stitch", "need_stitch", "need_stitches", "MOST_WRITTEN", "is_repeated", "shorter", "written", "shortest", "_law_cell", "_law_box", "_law_take", "_law_caught", "_law_same"] w := by
  refine PySem.W.byRow2 "special-get-raises" (P := fun w => HandSHeadRun.RunEq Rw (PySem.W.view Rw.prog [22]) hkAll obAll 4000 ["__name__", "KnitError", "NoStitch", "NoStitches", "STITCHES", "MOST_STITCHES", "is_stitch", "need_stitch", "need_stitches", "MOST_WRITTEN", "is_repeated", "shorter", "written", "shortest", "_law_cell", "_law_box", "_law_take", "_law_caught", "_law_same"] w) (fun w => ?_) (fun w => ?_) w
  · intro os
    kernel_rfl
  · intro os
    kernel_rfl
end Kn
open PySem PySem.W PySem.Calls PyProof.Rows
set_option maxRecDepth 100000 in
set_option maxHeartbeats 0 in
theorem PySem.Challenge.cw_knitrows_k42_writing_refused_holds : PySem.Challenge.rw_knitrows_k42_writing_refused.Holds := by
  w_on; o_law
  refine HandSHeadRun.head_any (r := Kn.Rw) (q := view Kn.Rw.prog [22]) (H := Kn.hkAll) (ob := Kn.obAll) (M := 4000) (loose := ["__name__", "KnitError", "NoStitch", "NoStitches", "STITCHES", "MOST_STITCHES", "is_stitch", "need_stitch", "need_stitches", "MOST_WRITTEN", "is_repeated", "shorter", "written", "shortest", "_law_cell", "_law_box", "_law_take", "_law_caught", "_law_same"]) (d := HandSHeadRun.topDef Kn.Rw.prog 22) (kwd := []) Kn.obAll_eq
    (by kernel_rfl) (fun s => by kernel_rfl) Kn.runAll (by kernel_rfl) (by kernel_rfl) (by kernel_rfl) (by rfl) (by first | assumption | decide +kernel) (by decide +kernel) ⟨rfl, rfl, rfl, rfl, rfl, by decide +kernel⟩ ?hw ?hc
  case hw => w_witness2
  case hc =>
    refine Kn.walkGT (l := PySem.Challenge.rw_knitrows_k42_writing_refused) (n := 63) (k := 10) (x := "script") rfl (by decide) (by kernel_rfl) ⟨rfl, by decide, by decide⟩ ?F
    intro w mg fa h Y G hmg0
    obtain ⟨K, KX, c⟩ := Y
    have hmg : mg ("law" : PySem.Str) = some (.ref fa) := by
      have e : (HandSHeadRun.topDef Kn.Rw.prog 22).name = ("law" : PySem.Str) := by kernel_rfl
      rw [← e]
      exact hmg0
    exact Kn.endAll K KX c G hmg
