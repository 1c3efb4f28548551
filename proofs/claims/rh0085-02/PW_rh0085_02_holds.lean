import PyProof.Rows.All
import Wide.All
import OpenK.AllK
import Wide.FinOn
import KE.KDictSum
import KE.KIntText
import KE.KRevIter
import PySem.Challenge.RW_rh0085_02
set_option Elab.async false
set_option compiler.extract_closed false
set_option tactic.hygienic false
namespace Mine
end Mine
section P_A1
open PySem PySem.Calls PyProof.Rows PySem.W
set_option Elab.async false
set_option genSizeOf false
namespace Mine

/-! ## values and objects of the abstract machine -/
inductive V where
  | none | bool (b : Bool) | int (i : Int) | str (s : Str) | tup (xs : List V) | flist (xs : List V) | rng (a b : Int)
  | ref (i : Nat) | fn (a : Addr) | bi (id : String) | ty (n : String)
inductive O where
  | list (xs : List V) | dnew | dint (es : List (Int × V)) | dstr (es : List (Str × V)) | dpair (es : List (List Int × V))
  | inst (C : Addr) (fs : List (Str × V))
abbrev Hp := List O
abbrev Loc := List (Str × V)
noncomputable def Mo (α : Type) := Hp → Option (α × Hp)
noncomputable def ret {α : Type} (a : α) : Mo α := fun σ => some (a, σ)
noncomputable def bnd {α β : Type} (x : Mo α) (f : α → Mo β) : Mo β := fun σ => match x σ with
  | none => none
  | some p => f p.1 p.2
noncomputable def stuck {α : Type} : Mo α := fun zz => none
noncomputable def gt (i : Nat) : Mo O := fun σ => match σ[i]? with
  | some o => some (o, σ)
  | none => none
noncomputable def st (i : Nat) (o : O) : Mo Unit := fun σ => some ((), σ.set i o)
noncomputable def nw (o : O) : Mo V := fun σ => some (.ref σ.length, σ ++ [o])
noncomputable def grd (c : Bool) {α : Type} (x : Mo α) : Mo α := match c with | true => x | false => stuck
noncomputable def ofO {α : Type} (x : Option α) : Mo α := match x with | some a => ret a | none => stuck

noncomputable def mvs (l : List (Mo V)) : Mo (List V) := match l with
  | [] => ret []
  | x :: r => bnd x fun v => bnd (mvs r) fun vs => ret (v :: vs)

noncomputable def put (m : Loc) (x : Str) (v : V) : Loc := match m with
  | [] => [(x, v)]
  | p :: r => match p.1 == x with
    | true => (x, v) :: r
    | false => p :: put r x v
noncomputable def lk (m : Loc) (x : Str) : Option V := match m with
  | [] => none
  | p :: r => match p.1 == x with
    | true => some p.2
    | false => lk r x

/-! ## the static part -/
noncomputable def ofStatic : Value → Option V
  | .none => some .none
  | .bool b => some (.bool b)
  | .int i _ => some (.int i)
  | .str s _ => some (.str s)
  | .type n => some (.ty n)
  | .builtin i => some (.bi i)
  | .ref a => some (.fn a)
  | _ => none
noncomputable def globV (K : Frag) (x : Str) : Option V := match nsIn K mainGlobals x with
  | some (some v) => (match v with | .type _ => none | .builtin _ => none | v => ofStatic v)
  | some none => (match x == ("__name__" : Str) with
    | true => none
    | false => (match bootBuiltins x with | some v => (match v with | .type n => some (.ty n) | .builtin i => some (.bi i) | _ => none) | none => none))
  | none => none
noncomputable def nameV (K : Frag) (sc : Scope) (m : Loc) (x : Str) : Mo V := match x == ("__debug__" : Str) with
  | true => stuck
  | false => match sc.names.lookup x with
    | some .local => ofO (lk m x)
    | some .globalImplicit => ofO (globV K x)
    | _ => stuck

/-! ## operations -/
noncomputable def constV : PySem.Const → Mo V
  | .none => ret .none
  | .bool b => ret (.bool b)
  | .int i => ret (.int i)
  | .str s => ret (.str s)
  | _ => stuck
noncomputable def LIM : Nat := 1048576
noncomputable def okLen (n : Nat) : Bool := Nat.ble n LIM

noncomputable def newL (xs : List V) : Mo V := grd (okLen xs.length) (nw (.list xs))
noncomputable def newT (xs : List V) : Mo V := grd (okLen xs.length) (ret (.tup xs))
noncomputable def gtL (i : Nat) : Mo (List V) := bnd (gt i) fun o => match o with | .list xs => ret xs | _ => stuck

noncomputable def asI {α : Type} (v : V) (f : Int → Mo α) : Mo α := match v with
  | .int k => f k
  | _ => stuck
noncomputable def asS {α : Type} (v : V) (f : Str → Mo α) : Mo α := match v with
  | .str k => f k
  | _ => stuck
noncomputable def asR {α : Type} (v : V) (f : Nat → Mo α) : Mo α := match v with
  | .ref k => f k
  | _ => stuck
noncomputable def ii {α : Type} (a b : V) (f : Int → Int → Mo α) : Mo α := asI a fun x => asI b fun y => f x y
noncomputable def selV {α : Type} (v : V) (fi : Int → Option α) (fs : Str → Option α) (ft : List V → Option α) : Option α := match v with
  | .int k => fi k
  | .str k => fs k
  | .tup k => ft k
  | _ => none
noncomputable def addV (a b : V) : Mo V := match a with
  | .int x => asI b fun y => ret (.int (x + y))
  | .str x => asS b fun y => grd (okLen (x.length + y.length)) (ret (.str (x ++ y)))
  | .ref i => asR b fun j => bnd (gtL i) fun xs => bnd (gtL j) fun ys => newL (xs ++ ys)
  | _ => stuck
noncomputable def binV (op : Operator) (a b : V) : Mo V := match op with
  | .Add => addV a b
  | .Sub => ii a b fun x y => ret (.int (x - y))
  | .Mult => ii a b fun x y => grd (Nat.ble (Builtin.Int.intBits x + Builtin.Int.intBits y) 134217728) (ret (.int (x * y)))
  | .Mod => ii a b fun x y => grd (decide (0 < y)) (ret (.int (x % y)))
  | .FloorDiv => ii a b fun x y => grd (decide (0 < y) && !(Builtin.divisionGoesByPylong x y)) (ret (.int (x / y)))
  | .Pow => ii a b fun x y => grd (decide (0 ≤ y) && decide ((Builtin.Int.intBits x : Int) * y ≤ 2 ^ 27)) (ret (.int (x ^ y.toNat)))
  | _ => stuck
noncomputable def augV (op : Operator) (a b : V) : Mo V := match op with
  | .Sub => ii a b fun x y => ret (.int (x - y))
  | _ => stuck
noncomputable def unV (op : UnaryOp) (a : V) : Mo V := match op with
  | .Not => (match a with | .bool b => ret (.bool (!b)) | _ => stuck)
  | .USub => asI a fun x => ret (.int (-x))
  | _ => stuck

noncomputable def stK {κ β : Type} [DecidableEq κ] (kvs : List (κ × β)) (k : κ) (v : β) : List (κ × β) :=
  if kvs.any (fun kv => kv.1 = k) then kvs.map (fun kv => if kv.1 = k then (kv.1, v) else kv) else kvs ++ [(k, v)]
noncomputable def woK {κ β : Type} [DecidableEq κ] (kvs : List (κ × β)) (k : κ) : List (κ × β) := kvs.filter fun kv => decide (kv.1 ≠ k)
noncomputable def atK {κ β : Type} [DecidableEq κ] (kvs : List (κ × β)) (k : κ) : Option β := (kvs.find? fun kv => kv.1 = k).map (·.2)
/-- == of scalars -/
noncomputable def eqS (x y : V) : Option Bool := selV x (fun a => selV y (fun b => some (a == b)) (fun zz => some false) (fun zz => some false)) (fun a => selV y (fun zz => some false) (fun b => some (a == b)) (fun zz => some false)) (fun zz => none)
noncomputable def eqSs : List V → List V → Option Bool
  | x :: xs, y :: ys => (match eqS x y, eqSs xs ys with
    | some a, some b => some (a && b)
    | _, _ => none)
  | _, _ => some true
noncomputable def eqV (x y : V) : Option Bool := match x, y with
  | .tup xs, .tup ys => (eqSs xs ys).map fun b => b && Nat.beq xs.length ys.length
  | x, y => eqS x y
noncomputable def scal : V → Bool
  | .int _ => true
  | .str _ => true
  | _ => false
/-- x is one of them -/
noncomputable def anyEq (x : V) : List V → Option Bool
  | [] => some false
  | y :: ys => match scal y, scal x, eqS y x, anyEq x ys with
    | true, true, some a, some b => some (a || b)
    | _, _, _, _ => none
noncomputable def noK (x : V) : Mo Bool := match x with
  | .int _ => ret false
  | .str _ => ret false
  | _ => stuck
noncomputable def inO (x : V) (o : O) : Mo Bool := match o with
  | .list ys => ofO (anyEq x ys)
  | .dnew => noK x
  | .dint es => asI x fun k => ret (atK es k).isSome
  | .dstr es => asS x fun k => ret (atK es k).isSome
  | _ => stuck
noncomputable def inV (x y : V) : Mo Bool := match y with
  | .tup ys => ofO (anyEq x ys)
  | .ref i => bnd (gt i) (inO x)
  | _ => stuck
noncomputable def cmpV (op : CmpOp) (a b : V) : Mo Bool := match op with
  | .Eq => (match a with
    | .ref i => asR b fun j => bnd (gtL i) fun xs => bnd (gtL j) fun ys => (match ys with
      | [] => ret xs.isEmpty
      | _ :: _ => stuck)
    | a => ofO (eqV a b))
  | .NotEq => (match a with
    | .int x => asI b fun y => ret (!(x == y))
    | .str x => asS b fun y => ret (!(x == y))
    | _ => stuck)
  | .Lt => ii a b fun x y => ret (decide (x < y))
  | .Gt => ii a b fun x y => ret (decide (y < x))
  | .GtE => ii a b fun x y => ret (decide (y ≤ x))
  | .In => inV a b
  | .NotIn => bnd (inV a b) fun c => ret (!c)
  | _ => stuck

/-- the place that an index names -/
noncomputable def idx? (k : Int) (n : Nat) : Option Nat := match decide (0 ≤ k) with
  | true => (match decide (k < n) && decide (k ≤ 1048576) with | true => some k.toNat | false => none)
  | false => none
noncomputable def itemO (i : V) (o : O) : Mo V := match o with
  | .list xs => asI i fun k => ofO ((idx? k xs.length).bind fun j => xs[j]?)
  | .dstr es => asS i fun k => ofO (atK es k)
  | _ => stuck
noncomputable def itemV (a i : V) : Mo V := match a with
  | .tup xs => asI i fun k => ofO ((idx? k xs.length).bind fun j => xs[j]?)
  | .str x => asI i fun k => ofO ((idx? k x.length).bind fun j => (x.cps[j]?).map fun c => V.str ⟨#[c]⟩)
  | .ref r => bnd (gt r) (itemO i)
  | _ => stuck
/-- x[lo:hi], both not below nought -/
noncomputable def cutL {α : Type} (xs : List α) (lo hi : Option Int) : List α := (xs.drop (lo.getD 0).toNat).take ((hi.getD xs.length).toNat - (lo.getD 0).toNat)
noncomputable def sliceV (a : V) (lo hi : Option Int) : Mo V := match decide (0 ≤ lo.getD 0 ∧ 0 ≤ hi.getD 0) with
  | false => stuck
  | true => match a with
    | .ref r => bnd (gtL r) fun xs => grd (okLen xs.length) (newL (cutL xs lo hi))
    | .flist xs => grd (okLen xs.length) (newL (cutL xs lo hi))
    | .str x => grd (okLen x.length) (ret (.str (Txt.slice x lo hi)))
    | _ => stuck
noncomputable def optI (x : Mo V) (f : Option Int → Mo V) : Mo V := bnd x fun v => match v with
  | .int i => f (some i)
  | _ => stuck

noncomputable def intsOf : List V → Option (List Int)
  | [] => some []
  | .int i :: r => (intsOf r).map (i :: ·)
  | _ => none
noncomputable def asKey : V → Option (List Int)
  | .tup xs => intsOf xs
  | _ => none
noncomputable def setK (r : Nat) (i v : V) : Mo Unit := match asKey i with
  | some p => st r (.dpair [(p, v)])
  | none => stuck
noncomputable def setN (r : Nat) (i v : V) : Mo Unit := match i with
  | .int k => st r (.dint [(k, v)])
  | .str k => st r (.dstr [(k, v)])
  | .tup xs => setK r (.tup xs) v
  | _ => stuck
noncomputable def setO (r : Nat) (i v : V) (o : O) : Mo Unit := match o with
  | .list xs => asI i fun k => (match idx? k xs.length with | some j => st r (.list (xs.set j v)) | none => stuck)
  | .dnew => setN r i v
  | .dint es => asI i fun k => grd (okLen es.length) (st r (.dint (stK es k v)))
  | .dstr es => asS i fun k => grd (okLen es.length) (st r (.dstr (stK es k v)))
  | .dpair es => (match asKey i with | some p => grd (okLen es.length) (st r (.dpair (stK es p v))) | none => stuck)
  | .inst _ _ => stuck
noncomputable def setItemV (a i v : V) : Mo Unit := asR a fun r => bnd (gt r) (setO r i v)
noncomputable def delO (r : Nat) (k : Int) (o : O) : Mo Unit := match o with
  | .dint es => grd ((atK es k).isSome && okLen es.length) (st r (.dint (woK es k)))
  | _ => stuck
noncomputable def delItemV (a i : V) : Mo Unit := asR a fun r => asI i fun k => bnd (gt r) (delO r k)

/-! ### instances -/
noncomputable def okGet (K : Frag) (C : Addr) (x : Str) : Bool := plainGet K C x && hasDictIn K C && (match findIn K (.ref C) x with | some a => noGet K a | none => false)
noncomputable def okSet (K : Frag) (C : Addr) (x : Str) : Bool := (findIn K (.ref C) "__setattr__" == some (some (.builtin "object.__setattr__"))) && plainOver K C && (takerIn K C x == some none) && hasDictIn K C
noncomputable def attrV (K : Frag) (a : V) (x : Str) : Mo V := match a with
  | .ref r => bnd (gt r) fun o => match o with
    | .inst C fs => (match okGet K C x with | true => grd (match lk fs x with | some (.bi _) => false | _ => true) (ofO (lk fs x)) | false => stuck)
    | _ => stuck
  | _ => stuck
noncomputable def setAttrV (K : Frag) (a : V) (x : Str) (v : V) : Mo Unit := match a with
  | .ref r => bnd (gt r) fun o => match o with
    | .inst C fs => (match okSet K C x with | true => grd (Nat.ble fs.length 100) (st r (.inst C (put fs x v))) | false => stuck)
    | _ => stuck
  | _ => stuck

/-- what a call calls -/
inductive Fn where
  | own (a : Addr) | blt (id : String)
noncomputable def methIn (K : Frag) (C : Addr) (x : Str) : Option Addr := match plainGet K C x with
  | false => none
  | true => match findIn K (.ref C) x with
    | some (some (.ref f)) => (match isFn K (.ref f) with | true => some f | false => none)
    | _ => none
noncomputable def listMeth : List (Str × String) := [("append", "list.append"), ("pop", "list.pop"), ("insert", "list.insert"), ("reverse", "list.reverse")]
noncomputable def strMeth : List (Str × String) := [("startswith", "str.startswith"), ("split", "str.split"), ("join", "str.join")]
noncomputable def methOf (K : Frag) (a : V) (x : Str) : Mo Fn := match a with
  | .ref r => bnd (gt r) fun o => match o with
    | .inst C fs => (match lk fs x with
      | some _ => stuck
      | none => (match methIn K C x with | some f => ret (.own f) | none => stuck))
    | .list _ => ofO ((listMeth.lookup x).map Fn.blt)
    | .dnew => (match x == ("get" : Str) with | true => ret (.blt "dict.get") | false => stuck)
    | .dint _ => (match x == ("get" : Str) with | true => ret (.blt "dict.get") | false => stuck)
    | .dstr _ => (match x == ("get" : Str) with | true => ret (.blt "dict.get") | false => stuck)
    | .dpair _ => (match x == ("get" : Str) with | true => ret (.blt "dict.get") | false => stuck)
  | .str _ => ofO ((strMeth.lookup x).map Fn.blt)
  | _ => stuck

/-! ### built-in functions -/
noncomputable def txtI (i : Int) : Str := Str.ofString (toString i)
noncomputable def smallI (i : Int) : Bool := decide (-(10 ^ 20) < i) && decide (i < 10 ^ 20)
noncomputable def strsOf : List V → Option (List Str)
  | [] => some []
  | .str s :: r => (strsOf r).map (s :: ·)
  | _ => none
noncomputable def sumLen : List Str → Nat
  | [] => 0
  | s :: r => s.length + sumLen r
noncomputable def numOf (s : Str) : Option Int := (List.range 1000).findSome? fun (n : Nat) => match s == txtI (n : Int) with | true => some (n : Int) | false => none
noncomputable def isKind (v : V) (n : String) : Option Bool := match v with
  | .int _ => if n = "int" then some true else if n = "bool" then some false else none
  | .str _ => if n = "str" then some true else none
  | .tup _ => if n = "tuple" then some true else none
  | _ => none
noncomputable def bAbs : List V → Mo V
  | [x] => asI x fun x => ret (.int (if x < 0 then -x else x))
  | _ => stuck
noncomputable def bLen : List V → Mo V
  | [.str x] => grd (okLen x.length) (ret (.int x.length))
  | [.tup xs] => grd (okLen xs.length) (ret (.int xs.length))
  | [.ref r] => bnd (gtL r) fun xs => grd (okLen xs.length) (ret (.int xs.length))
  | _ => stuck
noncomputable def bIsi : List V → Mo V
  | [v, .ty n] => bnd (ofO (isKind v n)) fun b => ret (.bool b)
  | _ => stuck
noncomputable def bSorted : List V → Mo V
  | [r] => asR r fun r => bnd (gt r) fun o => (match o with
    | .dint es => grd (Nat.blt es.length 64) (nw (.list ((PySem.W.sortI (es.map (·.1))).map V.int)))
    | .dnew => nw (.list [])
    | _ => stuck)
  | _ => stuck
noncomputable def bAppend : List V → Mo V
  | [r, v] => asR r fun r => bnd (gtL r) fun xs => grd (okLen xs.length) (bnd (st r (.list (xs ++ [v]))) fun zz => ret .none)
  | _ => stuck
noncomputable def bPop : List V → Mo V
  | [r] => asR r fun r => bnd (gtL r) fun xs => (match xs.getLast? with
    | some v => grd (okLen xs.length) (bnd (st r (.list xs.dropLast)) fun zz => ret v)
    | none => stuck)
  | _ => stuck
noncomputable def bInsert : List V → Mo V
  | [r, k, v] => asR r fun r => asI k fun k => bnd (gtL r) fun xs => (match idx? k (xs.length + 1) with
    | some j => grd (okLen xs.length) (bnd (st r (.list (xs.take j ++ v :: xs.drop j))) fun zz => ret .none)
    | none => stuck)
  | _ => stuck
noncomputable def bReverse : List V → Mo V
  | [r] => asR r fun r => bnd (gtL r) fun xs => grd (okLen xs.length) (bnd (st r (.list xs.reverse)) fun zz => ret .none)
  | _ => stuck
noncomputable def getK (k d : V) : Mo V := match asKey k with
  | some _ => ret d
  | none => stuck
noncomputable def getN (k d : V) : Mo V := match k with
  | .str _ => ret d
  | .tup xs => getK (.tup xs) d
  | _ => stuck
noncomputable def getO (k d : V) (o : O) : Mo V := match o with
  | .dnew => getN k d
  | .dstr es => asS k fun k => ret ((atK es k).getD d)
  | .dpair es => (match asKey k with
    | some p => ret ((atK es p).getD d)
    | none => stuck)
  | _ => stuck
noncomputable def bGet : List V → Mo V
  | [a, k, d] => asR a fun r => bnd (gt r) (getO k d)
  | _ => stuck
noncomputable def bStarts : List V → Mo V
  | [x, y] => asS x fun x => asS y fun y => ret (.bool (Txt.startswith x y))
  | _ => stuck
noncomputable def bSplit : List V → Mo V
  | [x, y] => asS x fun x => asS y fun y => grd (!(y.length == 0) && okLen x.length) (nw (.list ((Txt.split x y).map V.str)))
  | _ => stuck
noncomputable def bJoin : List V → Mo V
  | [x, r] => asS x fun x => asR r fun r => bnd (gtL r) fun xs => bnd (ofO (strsOf xs)) fun l =>
      grd (okLen (sumLen l + x.length * l.length) && okLen l.length) (ret (.str (Txt.join x l)))
  | _ => stuck
noncomputable def bltL : List (String × (List V → Mo V)) := [("abs", bAbs), ("len", bLen), ("isinstance", bIsi), ("sorted", bSorted), ("list.append", bAppend), ("list.pop", bPop),
  ("list.insert", bInsert), ("list.reverse", bReverse), ("dict.get", bGet), ("str.startswith", bStarts), ("str.split", bSplit), ("str.join", bJoin)]
noncomputable def bltV (id : String) (as : List V) : Mo V := match bltL.lookup id with
  | some f => f as
  | none => stuck
noncomputable def tRange : List V → Mo V
  | [b] => asI b fun b => ret (.rng 0 b)
  | [a, b] => ii a b fun a b => ret (.rng a b)
  | _ => stuck
noncomputable def tStr : List V → Mo V
  | [i] => asI i fun i => grd (smallI i) (ret (.str (txtI i)))
  | _ => stuck
noncomputable def tInt : List V → Mo V
  | [s] => asS s fun s => bnd (ofO (numOf s)) fun i => ret (.int i)
  | _ => stuck
noncomputable def tTuple : List V → Mo V
  | [r] => asR r fun r => bnd (gtL r) fun xs => newT xs
  | _ => stuck
noncomputable def typL : List (String × (List V → Mo V)) := [("range", tRange), ("str", tStr), ("int", tInt), ("tuple", tTuple)]
noncomputable def typV (n : String) (as : List V) : Mo V := match typL.lookup n with
  | some f => f as
  | none => stuck
/-- x.join(reversed(xs)) -/
noncomputable def joinRev (x : V) (r : V) : Mo V := match x, r with
  | .str x, .ref r => bnd (gtL r) fun xs => bnd (ofO (strsOf xs.reverse)) fun l =>
      grd (okLen (sumLen l + x.length * l.length) && okLen l.length) (ret (.str (Txt.join x l)))
  | _, _ => stuck
noncomputable def fmtV (v : V) : Mo V := match v with
  | .str s => grd (okLen s.length) (ret (.str s))
  | .int i => grd (decide (0 ≤ i) && decide (i < 10 ^ 9)) (ret (.str (txtI i)))
  | _ => stuck
noncomputable def joinV (out : Str) : List (Mo V) → Mo V
  | [] => grd (okLen out.length) (ret (.str out))
  | x :: r => bnd x fun v => match v with
    | .str s => grd (okLen (out.length + s.length)) (joinV (out ++ s) r)
    | _ => stuck

/-! ## expressions -/
abbrev Or := Addr → List V → Mo V
noncomputable def callF (K : Frag) (C : Or) (f : V) (as : List V) : Mo V := match f with
  | .fn a => grd (keepIn K (.ref a)) (C a as)
  | .bi id => bltV id as
  | .ty n => typV n as
  | _ => stuck
noncomputable def callM (K : Frag) (C : Or) (f : Fn) (self : V) (as : List V) : Mo V := match f with
  | .own a => grd (keepIn K (.ref a)) (C a (self :: as))
  | .blt id => bltV id (self :: as)
noncomputable def boolV (op : PySem.BoolOp) : List (Mo V) → Mo V
  | [] => stuck
  | [x] => x
  | x :: r => bnd x fun v => match op, v with
    | .And, .bool false => ret (.bool false)
    | .And, .bool true => boolV op r
    | .Or, .bool true => ret (.bool true)
    | .Or, .bool false => boolV op r
    | _, _ => stuck
noncomputable def allV (op : PySem.BoolOp) : List (Mo Bool) → Mo Bool
  | [] => ret (match op with | .And => true | .Or => false)
  | x :: r => bnd x fun c => match op, c with
    | .And, false => ret false
    | .Or, true => ret true
    | _, _ => allV op r
noncomputable def asB (v : V) : Mo Bool := match v with | .bool b => ret b | _ => stuck
abbrev EvT := Expr → Loc → Mo V
abbrev TsT := Expr → Loc → Mo Bool
noncomputable def strC : Expr → Option Str
  | .Constant (.str s) _ _ => some s
  | _ => none
/-- a display of texts -/
noncomputable def dispP : List (Option Expr) → List Expr → Option (List (Str × Str))
  | [], [] => some []
  | some k :: ks, v :: vs => (match strC k, strC v, dispP ks vs with
    | some a, some b, some r => some ((a, b) :: r)
    | _, _, _ => none)
  | _, _ => none
noncomputable def dispO (l : List (Str × Str)) : List (Str × V) := l.map fun p => (p.1, V.str p.2)
noncomputable def nodupS : List (Str × Str) → Bool
  | [] => true
  | p :: r => !(r.any fun q => p.1 == q.1) && nodupS r
noncomputable def isSlice : Expr → Bool
  | .Slice .. => true
  | _ => false
noncomputable def okArg : Expr → Bool
  | .Starred .. => false
  | _ => true
/-- not the bare call of a name -/
noncomputable def notSup : Expr → Bool
  | .Call _ [] [] _ => false
  | _ => true
noncomputable def markFree (op : CmpOp) (r : Expr) : Bool := !(behindInMarks op r)
/-! the shapes of trees -/
noncomputable def attrOf : Expr → Option (Expr × Str × Pos)
  | .Attribute o n p => some (o, n, p)
  | _ => none
noncomputable def nameOf : Expr → Option Str
  | .Name x _ => some x
  | _ => none
noncomputable def callOf : Expr → Option (Expr × Expr)
  | .Call f [r] [] _ => some (f, r)
  | _ => none
noncomputable def joinArg (args : List Expr) : Option (Str × Expr) := match args with
  | [] => none
  | [a] => (match callOf a with
    | none => none
    | some q => (match nameOf q.1 with | none => none | some x => some (x, q.2)))
  | _ :: _ :: _ => none
noncomputable def slOf : Expr → Option (Option Expr × Option Expr)
  | .Slice lo hi none _ => some (lo, hi)
  | _ => none
noncomputable def evSl (E : EvT) (o : Expr) (lo hi : Option Expr) (m : Loc) : Mo V := match lo, hi with
  | none, some h => bnd (E o m) fun a => optI (E h m) fun h => sliceV a none h
  | some l, none => bnd (E o m) fun a => optI (E l m) fun l => sliceV a l none
  | _, _ => stuck
noncomputable def evMeth (K : Frag) (C : Or) (E : EvT) (o : Expr) (name : Str) (apos : Pos) (args : List Expr) (pos : Pos) (m : Loc) : Mo V :=
  grd ((apos.endLine == pos.line) && notSup o && args.all okArg && Nat.blt args.length 30) (bnd (E o m) fun a => bnd (methOf K a name) fun f => bnd (mvs (args.map fun e => E e m)) fun as => callM K C f a as)
noncomputable def evCall (K : Frag) (C : Or) (sc : Scope) (E : EvT) (f : Expr) (args : List Expr) (pos : Pos) (m : Loc) : Mo V := match attrOf f with
  | none => grd (args.all okArg && Nat.blt args.length 30) (bnd (E f m) fun a => bnd (mvs (args.map fun e => E e m)) fun as => callF K C a as)
  | some q => (match strC q.1 with
    | none => evMeth K C E q.1 q.2.1 q.2.2 args pos m
    | some x => (match joinArg args with
      | none => evMeth K C E q.1 q.2.1 q.2.2 args pos m
      | some u => grd ((q.2.2.endLine == pos.line) && okArg u.2 && (q.2.1 == ("join" : Str)) && (u.1 == ("reversed" : Str)) && (match globV K u.1 with | some (.ty n) => n == "reversed" | _ => false) && (sc.names.lookup u.1 == some NameKind.globalImplicit)) (bnd (E u.2 m) fun l => joinRev (.str x) l)))
noncomputable def evStep (K : Frag) (C : Or) (sc : Scope) (E : EvT) (T : TsT) (e : Expr) (m : Loc) : Mo V := match e with
  | .Constant c _ _ => constV c
  | .Name x _ => nameV K sc m x
  | .BoolOp op vs _ => boolV op (vs.map fun e => E e m)
  | .BinOp l op r _ => bnd (E l m) fun a => bnd (E r m) fun b => binV op a b
  | .UnaryOp op x _ => bnd (E x m) fun a => unV op a
  | .IfExp t a b _ => bnd (T t m) fun c => match c with
    | true => E a m
    | false => E b m
  | .Dict ks vs _ => (match ks with
    | [] => (match vs with | [] => nw .dnew | _ :: _ => stuck)
    | k :: ks => bnd (ofO (dispP (k :: ks) vs)) fun l => grd (nodupS l && Nat.ble l.length 1000) (nw (.dstr (dispO l))))
  | .Compare l ops rs _ => (match ops, rs with
    | [op], [r] => grd (markFree op r) (bnd (E l m) fun a => bnd (E r m) fun b => bnd (cmpV op a b) fun c => ret (.bool c))
    | _, _ => stuck)
  | .Call f args kws pos => (match kws with
    | [] => evCall K C sc E f args pos m
    | _ :: _ => stuck)
  | .Attribute o name _ => grd (notSup o) (bnd (E o m) fun a => attrV K a name)
  | .Subscript o i _ => (match slOf i with
    | some q => evSl E o q.1 q.2 m
    | none => grd (!(isSlice i)) (bnd (E o m) fun a => bnd (E i m) fun k => itemV a k))
  | .List es _ => grd (es.all okArg) (bnd (mvs (es.map fun e => E e m)) fun vs => newL vs)
  | .Tuple es _ _ => grd (es.all okArg) (bnd (mvs (es.map fun e => E e m)) fun vs => newT vs)
  | .JoinedStr vs _ => (match vs with
    | a :: b :: r => joinV Str.empty ((a :: b :: r).map fun e => E e m)
    | _ => stuck)
  | .FormattedValue v k f _ => (match f with
    | none => grd (decide (k = -1)) (bnd (E v m) fmtV)
    | some _ => stuck)
  | _ => stuck
noncomputable def tsStep (E : EvT) (T : TsT) (e : Expr) (m : Loc) : Mo Bool := match e with
  | .UnaryOp .Not x _ => bnd (T x m) fun c => ret (!c)
  | .BoolOp op vs _ => allV op (vs.map fun e => T e m)
  | .IfExp _ _ _ _ => stuck
  | .Compare l [op] [r] _ => grd (markFree op r) (bnd (E l m) fun a => bnd (E r m) fun b => cmpV op a b)
  | .Compare _ _ _ _ => stuck
  | e => bnd (E e m) asB
noncomputable def evP (K : Frag) (C : Or) (sc : Scope) : Nat → EvT × TsT
  | 0 => (fun zz zz => stuck, fun zz zz => stuck)
  | k + 1 => (evStep K C sc (evP K C sc k).1 (evP K C sc k).2, tsStep (evP K C sc k).1 (evP K C sc k).2)

/-! ## statements -/
inductive Fl where
  | next | brk | cont | ret (v : V)
abbrev XsT := Loc → Mo (Fl × Loc)
inductive It where
  | rng (a b : Int) | items (xs : List V) | list (r k : Nat)
noncomputable def iterV (v : V) : Mo It := match v with
  | .rng a b => grd (decide (-(2 ^ 62) ≤ a) && decide (a < 2 ^ 62) && decide (-(2 ^ 62) ≤ b) && decide (b < 2 ^ 62)) (ret (.rng a b))
  | .tup xs => ret (.items xs)
  | .ref r => bnd (gtL r) fun zz => ret (.list r 0)
  | _ => stuck
noncomputable def nextI (it : It) : Mo (Option (V × It)) := match it with
  | .rng a b => (match decide (a < b) with | true => ret (some (.int a, .rng (a + 1) b)) | false => ret none)
  | .items [] => ret none
  | .items (x :: xs) => ret (some (x, .items xs))
  | .list r k => bnd (gtL r) fun xs => match xs[k]? with
    | some v => ret (some (v, .list r (k + 1)))
    | none => ret none
/-- a loop whose test fails at once -/
noncomputable def while0 (T : Loc → Mo Bool) : XsT := fun m => bnd (T m) fun c => match c with
  | false => ret (.next, m)
  | true => stuck
noncomputable def forV (x : Str) (B : XsT) : Nat → It → XsT
  | 0, _, _ => stuck
  | n + 1, it, m => bnd (nextI it) fun r => match r with
    | none => ret (.next, m)
    | some q => bnd (B (put m x q.1)) fun p => match p.1 with
      | .next => forV x B n q.2 p.2
      | .cont => forV x B n q.2 p.2
      | .brk => ret (.next, p.2)
      | .ret v => ret (.ret v, p.2)
noncomputable def LOOP : Nat := 4096
noncomputable def isLoc (sc : Scope) (x : Str) : Bool := sc.names.lookup x == some .local
noncomputable def plainE : Expr → Bool
  | .ListComp .. => false | .SetComp .. => false | .DictComp .. => false | _ => true
noncomputable def notSet : Expr → Bool
  | .Set .. => false
  | _ => true
noncomputable def exsW (X : Stmt → XsT) : List Stmt → XsT
  | [], m => ret (.next, m)
  | s :: r, m => bnd (X s m) fun p => match p.1 with
    | .next => exsW X r p.2
    | f => ret (f, p.2)
noncomputable def noRef (v : V) : Bool := match v with
  | .none => true | .bool _ => true | .int _ => true | .str _ => true | _ => false
noncomputable def exAsg (K : Frag) (sc : Scope) (E : EvT) (t e : Expr) (m : Loc) : Mo (Fl × Loc) := match t with
  | .Name x _ => grd (plainE e && isLoc sc x) (bnd (E e m) fun v => ret (.next, put m x v))
  | .Attribute o a _ => grd (plainE e) (bnd (E e m) fun v => bnd (E o m) fun ov => bnd (setAttrV K ov a v) fun zz => ret (.next, m))
  | .Subscript o i _ => grd (plainE e && !(isSlice i)) (bnd (E e m) fun v => bnd (E o m) fun ov => bnd (E i m) fun iv => bnd (setItemV ov iv v) fun zz => ret (.next, m))
  | _ => stuck
noncomputable def exAug (K : Frag) (sc : Scope) (E : EvT) (t : Expr) (op : Operator) (e : Expr) (m : Loc) : Mo (Fl × Loc) := match t with
  | .Attribute o a _ => bnd (E o m) fun ov => bnd (attrV K ov a) fun x => bnd (E e m) fun b => bnd (augV op x b) fun v => bnd (setAttrV K ov a v) fun zz => ret (.next, m)
  | _ => stuck
noncomputable def exDel (E : EvT) (t : Expr) (m : Loc) : Mo (Fl × Loc) := match t with
  | .Subscript o i _ => grd (!(isSlice i)) (bnd (E o m) fun ov => bnd (E i m) fun iv => bnd (delItemV ov iv) fun zz => ret (.next, m))
  | _ => stuck
noncomputable def exStep (K : Frag) (sc : Scope) (E : EvT) (T : TsT) (X : List Stmt → XsT) (s : Stmt) (m : Loc) : Mo (Fl × Loc) := match s with
  | .Expr e _ => grd (plainE e) (bnd (E e m) fun v => grd (noRef v) (ret (.next, m)))
  | .Pass _ => ret (.next, m)
  | .Break _ => ret (.brk, m)
  | .Continue _ => ret (.cont, m)
  | .Return v _ => (match v with
    | some e => bnd (E e m) fun v => ret (.ret v, m)
    | none => ret (.ret .none, m))
  | .If t a b _ => bnd (T t m) fun c => match c with
    | true => X a m
    | false => X b m
  | .Assign ts e _ => (match ts with
    | [t] => exAsg K sc E t e m
    | _ => stuck)
  | .AugAssign t op e _ => exAug K sc E t op e m
  | .While t b o _ => (match o with
    | [] => while0 (T t) m
    | _ :: _ => stuck)
  | .For t it b o _ => (match o with
    | [] => (match nameOf t with
      | some x => grd (isLoc sc x && notSet it) (bnd (E it m) fun v => bnd (iterV v) fun i => forV x (X b) LOOP i m)
      | none => stuck)
    | _ :: _ => stuck)
  | .Delete ts _ => (match ts with
    | [t] => exDel E t m
    | _ => stuck)
  | _ => stuck
noncomputable def exN (K : Frag) (sc : Scope) (E : EvT) (T : TsT) : Nat → Stmt → XsT
  | 0, _, _ => stuck
  | k + 1, s, m => exStep K sc E T (exsW (exN K sc E T k)) s m
noncomputable def DEP : Nat := 30
noncomputable def runB (K : Frag) (C : Or) (sc : Scope) (b : List Stmt) : XsT := exsW (exN K sc (evP K C sc DEP).1 (evP K C sc DEP).2 DEP) b

/-! ## calls -/
noncomputable def okFd (K : Frag) (fd : FuncData) (n : Nat) : Bool :=
  !fd.scope.isCoroutine && !fd.scope.isGenerator && (fd.scope.kind == .function) && fd.scope.names.all (fun p => !(p.2 == .cell) && !(p.2 == .free)) &&
  fd.params.posonlyargs.isEmpty && fd.params.vararg.isNone && fd.params.kwonlyargs.isEmpty && fd.params.kwarg.isNone && Nat.beq fd.params.args.length n &&
  (fd.globals == mainGlobals) && (fd.builtins == builtinsNs) && fd.closure.isEmpty && (fd.defaults == .none) && (fd.kwdefaults == .none) &&
  decide ((fd.params.args.map (·.arg)).Nodup) && fd.params.args.all (fun p => isLoc fd.scope p.arg) && codeIn K fd.code fd.qualname
noncomputable def outF (p : Fl × Loc) : Mo V := match p.1 with
  | .ret v => ret v
  | .next => ret .none
  | _ => stuck
noncomputable def callB (K : Frag) (C : Or) (a : Addr) (as : List V) : Mo V := match K.lookup a with
    | some ⟨_, _, .func fd, _⟩ => grd (okFd K fd as.length) (match fd.body with
      | .stmts b => bnd (runB K C fd.scope b ((fd.params.args.map (·.arg)).zip as)) outF
      | .expr _ => stuck)
    | some ⟨_, _, .cls _, _⟩ => (match makesIn K a, findIn K (.ref a) "__init__" with
      | true, some (some (.ref f)) => grd (isFn K (.ref f)) (bnd (nw (.inst a [])) fun self => bnd (C f (self :: as)) fun r => match r with
        | .none => ret self
        | _ => stuck)
      | _, _ => stuck)
    | _ => stuck
noncomputable def callN (K : Frag) : Nat → Or
  | 0, _, _ => stuck
  | d + 1, a, as => callB K (callN K d) a as

end Mine
end P_A1
section P_A2
open PySem PySem.Calls PyProof.Rows PySem.W
set_option Elab.async false
namespace Mine

abbrev Rho := List (Addr × Option Addr)
noncomputable def flat (ρ : Rho) : List Addr := ρ.flatMap fun p => p.1 :: p.2.toList

noncomputable abbrev tupObj (vs : Array Value) (n : Nat) : Obj := ⟨.type "tuple", none, .seq vs n, #[]⟩
noncomputable abbrev lstObj (vs : Array Value) (n : Nat) : Obj := ⟨.type "list", none, .seq vs n, #[]⟩
noncomputable abbrev rngObj (a b : Int) (t u z : Tok) : Obj := ⟨.type "range", none, .fields #[.int a t, .int b u, .int 1 z], #[]⟩
noncomputable def Frz (o : Obj) : Prop := (∃ vs n, o = tupObj vs n) ∨ (∃ a b t u z, o = rngObj a b t u z)

mutual
noncomputable def VR (ρ : Rho) (n₀ : Nat) (h : Heap) : V → Value → Prop
  | .none, v => v = .none
  | .bool b, v => v = .bool b
  | .int i, v => ∃ t, v = .int i t
  | .str s, v => ∃ t, v = .str s t
  | .tup xs, v => ∃ a vs n, v = .ref a ∧ h.get? a = some (tupObj vs n) ∧ VRs ρ n₀ h xs vs.toList
  | .flist xs, v => ∃ a vs, v = .ref a ∧ a < n₀ ∧ h.IsList a vs ∧ VRs ρ n₀ h xs vs.toList
  | .rng x y, v => ∃ a t u z, v = .ref a ∧ h.get? a = some (rngObj x y t u z)
  | .ref i, v => ∃ p, ρ[i]? = some p ∧ v = .ref p.1
  | .fn a, v => v = .ref a
  | .bi id, v => v = .builtin id
  | .ty n, v => v = .type n
noncomputable def VRs (ρ : Rho) (n₀ : Nat) (h : Heap) : List V → List Value → Prop
  | [], vs => vs = []
  | x :: xs, vs => match vs with
    | [] => False
    | v :: vs => VR ρ n₀ h x v ∧ VRs ρ n₀ h xs vs
end

/-- values at keys -/
noncomputable def PR {κ : Type} (R : V → Value → Prop) : List (κ × V) → List (κ × Value) → Prop
  | [], l => l = []
  | e :: es, l => match l with
    | [] => False
    | f :: fs => e.1 = f.1 ∧ R e.2 f.2 ∧ PR R es fs
noncomputable def PRH {κ : Type} (R : V → Value → Prop) : List (κ × V) → List (κ × Addr × Value) → Prop
  | [], l => l = []
  | e :: es, l => match l with
    | [] => False
    | f :: fs => e.1 = f.1 ∧ R e.2 f.2.2 ∧ PRH R es fs
noncomputable def FR (R : V → Value → Prop) : List (Str × V) → List DictEntry → Prop
  | [], l => l = []
  | e :: es, l => match l with
    | [] => False
    | f :: fs => (∃ t, f.key = .str e.1 t) ∧ R e.2 f.val ∧ FR R es fs

noncomputable def OR (prog : Program) (w : World) (ρ : Rho) (n₀ : Nat) (h : Heap) (p : Addr × Option Addr) : O → Prop
  | .list xs => p.2 = none ∧ ∃ vs n, h.get? p.1 = some (lstObj vs n) ∧ VRs ρ n₀ h xs vs.toList
  | .dnew => p.2 = none ∧ ∃ n, h.get? p.1 = some ⟨.type "dict", none, .dict #[] n, #[]⟩
  | .dint es => p.2 = none ∧ ∃ kvs, h.DictOf (intKind prog w) p.1 kvs ∧ PR (VR ρ n₀ h) es kvs
  | .dstr es => p.2 = none ∧ ∃ kvs, h.DictOf (PySem.strKind prog w) p.1 kvs ∧ PR (VR ρ n₀ h) es kvs
  | .dpair es => p.2 = none ∧ ∃ xs, h.DictOfH (tupleKind (intKind prog w)) p.1 xs ∧ PRH (VR ρ n₀ h) es xs ∧ ∀ x ∈ xs, ∃ vs n, h.get? x.2.1 = some (tupObj vs n)
  | .inst C fs => ∃ dx es n, p.2 = some dx ∧ h.get? p.1 = some ⟨.ref C, some dx, .plain, #[]⟩ ∧ h.get? dx = some (dictOf es n) ∧ FR (VR ρ n₀ h) fs es

/-- what lets a fact of values stand -/
structure Tr (n₀ : Nat) (ρ : Rho) (h : Heap) (ρ' : Rho) (h' : Heap) : Prop where
  pre : ρ <+: ρ'
  frz : ∀ a o, h.get? a = some o → (Frz o ∨ a < n₀) → h'.get? a = some o

theorem get_pre {α : Type} {l l' : List α} (h : l <+: l') {i : Nat} {x : α} (e : l[i]? = some x) : l'[i]? = some x := by
  obtain ⟨t, rfl⟩ := h
  rw [List.getElem?_append_left (List.getElem?_eq_some_iff.mp e).1]; exact e

mutual
theorem VR.tr {n₀ : Nat} {ρ ρ' : Rho} {h h' : Heap} (T : Tr n₀ ρ h ρ' h') : ∀ (x : V) (v : Value), VR ρ n₀ h x v → VR ρ' n₀ h' x v
  | .none, v, q => q
  | .bool b, v, q => q
  | .int i, v, q => q
  | .str s, v, q => q
  | .tup xs, v, q => q.elim fun a q => q.elim fun vs q => q.elim fun n q => ⟨a, vs, n, q.1, T.frz _ _ q.2.1 (.inl (.inl ⟨_, _, rfl⟩)), VRs.tr T xs _ q.2.2⟩
  | .flist xs, v, q => q.elim fun a q => q.elim fun vs q => ⟨a, vs, q.1, q.2.1, q.2.2.1.elim fun o y => ⟨o, T.frz _ _ y.1 (.inr q.2.1), y.2⟩, VRs.tr T xs _ q.2.2.2⟩
  | .rng x y, v, q => q.elim fun a q => q.elim fun t q => q.elim fun u q => q.elim fun z q => ⟨a, t, u, z, q.1, T.frz _ _ q.2 (.inl (.inr ⟨_, _, _, _, _, rfl⟩))⟩
  | .ref i, v, q => q.elim fun p q => ⟨p, get_pre T.pre q.1, q.2⟩
  | .fn a, v, q => q
  | .bi id, v, q => q
  | .ty n, v, q => q
theorem VRs.tr {n₀ : Nat} {ρ ρ' : Rho} {h h' : Heap} (T : Tr n₀ ρ h ρ' h') : ∀ (xs : List V) (vs : List Value), VRs ρ n₀ h xs vs → VRs ρ' n₀ h' xs vs
  | [], vs, q => q
  | x :: xs, [], q => q
  | x :: xs, v :: vs, q => ⟨VR.tr T x v q.1, VRs.tr T xs vs q.2⟩
end
theorem PR.mono {κ : Type} {R R' : V → Value → Prop} (h : ∀ x v, R x v → R' x v) : ∀ {es : List (κ × V)} {l : List (κ × Value)}, PR R es l → PR R' es l
  | [], _, q => q
  | _ :: _, [], q => q
  | _ :: _, _ :: _, q => ⟨q.1, h _ _ q.2.1, PR.mono h q.2.2⟩
theorem PRH.mono {κ : Type} {R R' : V → Value → Prop} (h : ∀ x v, R x v → R' x v) : ∀ {es : List (κ × V)} {l : List (κ × Addr × Value)}, PRH R es l → PRH R' es l
  | [], _, q => q
  | _ :: _, [], q => q
  | _ :: _, _ :: _, q => ⟨q.1, h _ _ q.2.1, PRH.mono h q.2.2⟩
theorem FR.mono {R R' : V → Value → Prop} (h : ∀ x v, R x v → R' x v) : ∀ {es : List (Str × V)} {l : List DictEntry}, FR R es l → FR R' es l
  | [], _, q => q
  | _ :: _, [], q => q
  | _ :: _, _ :: _, q => ⟨q.1, h _ _ q.2.1, FR.mono h q.2.2⟩

/-- an object stands on where its own places stand -/
theorem OR.tr {prog : Program} {w : World} {n₀ : Nat} {ρ ρ' : Rho} {h h' : Heap} (T : Tr n₀ ρ h ρ' h') {p : Addr × Option Addr} (k : ∀ a ∈ p.1 :: p.2.toList, ∀ o, h.get? a = some o → h'.get? a = some o) :
    ∀ {o : O}, OR prog w ρ n₀ h p o → OR prog w ρ' n₀ h' p o
  | .list xs, q => by
    obtain ⟨e0, vs, n, e1, e2⟩ := q
    exact ⟨e0, vs, n, k _ (.head _) _ e1, VRs.tr T _ _ e2⟩
  | .dnew, q => by
    obtain ⟨e0, n, e1⟩ := q
    exact ⟨e0, n, k _ (.head _) _ e1⟩
  | .dint es, q => by
    obtain ⟨e0, kvs, ⟨o, es', ep, e1, r⟩, e2⟩ := q
    exact ⟨e0, kvs, ⟨o, es', ep, k _ (.head _) _ e1, r⟩, e2.mono (VR.tr T)⟩
  | .dstr es, q => by
    obtain ⟨e0, kvs, ⟨o, es', ep, e1, r⟩, e2⟩ := q
    exact ⟨e0, kvs, ⟨o, es', ep, k _ (.head _) _ e1, r⟩, e2.mono (VR.tr T)⟩
  | .dpair es, q => by
    obtain ⟨e0, xs, ⟨o, es', ep, e1, r1, r2, r3, r4, r5⟩, e2, e3⟩ := q
    have fz : ∀ x ∈ xs, ∃ vs n, h'.get? x.2.1 = some (tupObj vs n) := fun x hx => by
      obtain ⟨vs, n, e⟩ := e3 x hx
      exact ⟨vs, n, T.frz _ _ e (.inl (.inl ⟨_, _, rfl⟩))⟩
    refine ⟨e0, xs, ⟨o, es', ep, k _ (.head _) _ e1, r1, r2, r3, fun x hx => ?_, r5⟩, e2.mono (VR.tr T), fz⟩
    obtain ⟨o₁, it, n, g1, g2, g3, g4⟩ := r4 x hx
    obtain ⟨vs, n', e⟩ := e3 x hx
    rw [e] at g1
    cases g1
    exact ⟨_, it, n, T.frz _ _ e (.inl (.inl ⟨_, _, rfl⟩)), g2, g3, g4⟩
  | .inst C fs, q => by
    obtain ⟨dx, es, n, e0, e1, e2, e3⟩ := q
    exact ⟨dx, es, n, e0, k _ (.head _) _ e1, k _ (by rw [e0]; exact .tail _ (.head _)) _ e2, e3.mono (VR.tr T)⟩

structure St (prog : Program) (w : World) (K : Frag) (n₀ : Nat) (s : Shared) (ρ : Rho) (σ : Hp) : Prop where
  kin : K.In s.heap
  nol : s.heap.NoLimit
  low : ∃ b o, b + 1 = n₀ ∧ s.heap.get? b = some o
  len : ρ.length = σ.length
  nd : (flat ρ).Nodup
  own : ∀ a ∈ flat ρ, n₀ ≤ a ∧ ∃ o, s.heap.get? a = some o ∧ ¬ Frz o
  objs : ∀ (i : Nat) (p : Addr × Option Addr) (o : O), ρ[i]? = some p → σ[i]? = some o → OR prog w ρ n₀ s.heap p o

structure Ev (P : List Addr) (s : Shared) (ρ : Rho) (s' : Shared) (ρ' : Rho) : Prop where
  pre : ρ <+: ρ'
  new : ∀ a ∈ flat ρ', a ∈ flat ρ ∨ s.heap.get? a = none
  live : ∀ a o, s.heap.get? a = some o → ∃ o', s'.heap.get? a = some o'
  keep : ∀ a o, a ∉ flat ρ → a ∉ P → s.heap.get? a = some o → s'.heap.get? a = some o
  rest : s'.gens = s.gens ∧ s'.drawn = s.drawn ∧ s'.os = s.os

theorem Ev.refl (P : List Addr) (s : Shared) (ρ : Rho) : Ev P s ρ s ρ := ⟨List.prefix_refl _, fun zz h => .inl h, fun zz o e => ⟨o, e⟩, fun zz zz zz zz e => e, rfl, rfl, rfl⟩
theorem Ev.trans {P : List Addr} {s s₁ s₂ : Shared} {ρ ρ₁ ρ₂ : Rho} (x : Ev P s ρ s₁ ρ₁) (y : Ev P s₁ ρ₁ s₂ ρ₂) : Ev P s ρ s₂ ρ₂ := by
  refine ⟨x.pre.trans y.pre, fun a h => ?_, fun a o e => let ⟨o', e'⟩ := x.live a o e; y.live a o' e', fun a o h1 h2 e => ?_, y.rest.1.trans x.rest.1, y.rest.2.1.trans x.rest.2.1, y.rest.2.2.trans x.rest.2.2⟩
  · rcases y.new a h with h | h
    · exact x.new a h
    · refine .inr ?_
      cases e : s.heap.get? a with
      | none => rfl
      | some o =>
        obtain ⟨o', e'⟩ := x.live a o e
        rw [e'] at h; cases h
  · refine y.keep a o (fun hm => ?_) h2 (x.keep a o h1 h2 e)
    rcases x.new a hm with h | h
    · exact h1 h
    · rw [h] at e; cases e
theorem Ev.weak {P P' : List Addr} {s s' : Shared} {ρ ρ' : Rho} (x : Ev P s ρ s' ρ') (h : ∀ a ∈ P, a ∈ P') : Ev P' s ρ s' ρ' :=
  ⟨x.pre, x.new, x.live, fun a o h1 h2 e => x.keep a o h1 (fun q => h2 (h a q)) e, x.rest⟩

/-- a place that may be written: it is no frozen thing and lies above -/
noncomputable def Wr (n₀ : Nat) (s : Shared) (P : List Addr) : Prop := ∀ a ∈ P, n₀ ≤ a ∧ ∀ o, s.heap.get? a = some o → ¬ Frz o
theorem Wr.nil {n₀ : Nat} {s : Shared} : Wr n₀ s [] := fun zz h => nomatch h

section
variable {prog : Program} {w : World} {K : Frag} {n₀ : Nat} {s s' : Shared} {ρ ρ' : Rho} {σ σ' : Hp} {P : List Addr}
theorem Ev.tr (x : Ev P s ρ s' ρ') (S : St prog w K n₀ s ρ σ) (W : Wr n₀ s P) : Tr n₀ ρ s.heap ρ' s'.heap := by
  refine ⟨x.pre, fun a o e h => x.keep a o (fun hm => ?_) (fun hm => ?_) e⟩
  · obtain ⟨h1, o', e', h2⟩ := S.own a hm
    rcases h with h | h
    · rw [e] at e'; cases e'; exact h2 h
    · exact absurd h (Nat.not_lt.mpr h1)
  · obtain ⟨h1, h2⟩ := W a hm
    rcases h with h | h
    · exact h2 o e h
    · exact absurd h (Nat.not_lt.mpr h1)
end

theorem not_frz_dict {cls : Value} {d : Option Addr} {es : Array DictEntry} {n : Nat} {sl : Array (Option Value)} : ¬ Frz ⟨cls, d, .dict es n, sl⟩ := by
  rintro (⟨_, _, h⟩ | ⟨_, _, _, _, _, h⟩) <;> cases h
theorem not_frz_list {vs : Array Value} {n : Nat} : ¬ Frz (lstObj vs n) := by
  rintro (⟨_, _, h⟩ | ⟨_, _, _, _, _, h⟩)
  · have := congrArg Obj.cls h
    simp at this
  · have := congrArg Obj.cls h
    simp at this
theorem not_frz_inst {C : Addr} {dx : Addr} : ¬ Frz ⟨.ref C, some dx, .plain, #[]⟩ := by
  rintro (⟨_, _, h⟩ | ⟨_, _, _, _, _, h⟩) <;> cases h

/-- the frame at hand: its names -/
structure Fm (prog : Program) (w : World) (n₀ : Nat) (L : Addr) (m : Loc) (s : Shared) (ρ : Rho) : Prop where
  ns : ∃ mm, s.heap.Ns L mm ∧ ∀ x v, lk m x = some v → ∃ v', mm x = some v' ∧ VR ρ n₀ s.heap v v'
  off : L ∉ flat ρ
  low : n₀ ≤ L
theorem Fm.wr {prog : Program} {w : World} {n₀ : Nat} {L : Addr} {m : Loc} {s : Shared} {ρ : Rho} (F : Fm prog w n₀ L m s ρ) : Wr n₀ s [L] := by
  intro a ha
  rw [List.mem_singleton] at ha
  subst ha
  refine ⟨F.low, fun o e => ?_⟩
  obtain ⟨mm, ⟨o', es, ep, e', hd, _⟩, _⟩ := F.ns
  rw [e] at e'
  cases e'
  obtain ⟨c, d, dt, sl⟩ := o
  cases hd
  exact not_frz_dict

section
variable {prog : Program} {w : World} {K : Frag} {n₀ : Nat} {s s' : Shared} {ρ ρ' : Rho} {σ σ' : Hp} {P : List Addr} {L : Addr} {m : Loc}
theorem St.lowle (S : St prog w K n₀ s ρ σ) : n₀ ≤ s.heap.objs.size := let ⟨_, _, h, e⟩ := S.low; h ▸ Heap.lt_size e
theorem Fm.ev (F : Fm prog w n₀ L m s ρ) (S : St prog w K n₀ s ρ σ) (x : Ev [] s ρ s' ρ') : Fm prog w n₀ L m s' ρ' := by
  have T := x.tr S Wr.nil
  obtain ⟨mm, hn, hv⟩ := F.ns
  obtain ⟨o, es, ep, e, r⟩ := hn
  refine ⟨⟨mm, ⟨o, es, ep, x.keep L o F.off (fun h => nomatch h) e, r⟩, fun y v hy => ?_⟩, fun hm => ?_, F.low⟩
  · obtain ⟨v', h1, h2⟩ := hv y v hy
    exact ⟨v', h1, VR.tr T _ _ h2⟩
  · rcases x.new L hm with h | h
    · exact F.off h
    · rw [h] at e; cases e

/-- the base stands -/
theorem Ev.base (x : Ev P s ρ s' ρ') (S : St prog w K n₀ s ρ σ) (W : Wr n₀ s P) {a : Addr} {o : Obj} (h : a < n₀) (e : s.heap.get? a = some o) : s'.heap.get? a = some o := (x.tr S W).frz a o e (.inr h)

theorem NoLimit.base {h h' : Heap} (x : h.NoLimit) (hc : cStatics < n₀) (k : ∀ a o, a < n₀ → h.get? a = some o → h'.get? a = some o) : h'.NoLimit :=
  let ⟨mc, ⟨o, es, ep, ho, r⟩, q⟩ := x; ⟨mc, ⟨o, es, ep, k _ _ hc ho, r⟩, q⟩

/-- the base of all: the written part lies below, and so do the places that the machine itself asks -/
structure Bs (K : Frag) (n₀ : Nat) : Prop where
  k : ∀ a o, K.lookup a = some o → a < n₀
  stat : cStatics < n₀
  sys : sysModules < n₀
  glob : mainGlobals < n₀
  blt : builtinsNs < n₀

theorem St.mv (B : Bs K n₀) (S : St prog w K n₀ s ρ σ) (x : Ev P s ρ s' ρ) (W : Wr n₀ s P) (hp : ∀ a ∈ flat ρ, ∀ o, s.heap.get? a = some o → s'.heap.get? a = some o) : St prog w K n₀ s' ρ σ := by
  have T := x.tr S W
  refine ⟨fun a o e => T.frz a o (S.kin a o e) (.inr (B.k a o e)), NoLimit.base S.nol B.stat fun a o h e => T.frz a o e (.inr h), (let ⟨b, o, h, e⟩ := S.low; ⟨b, o, h, T.frz b o e (.inr (h ▸ Nat.lt_succ_self b))⟩), S.len, S.nd, fun a ha => ?_, fun i p o h1 h2 => ?_⟩
  · obtain ⟨h1, o, h2, h3⟩ := S.own a ha
    exact ⟨h1, o, hp a ha o h2, h3⟩
  · refine OR.tr T (fun a ha o' e => hp a ?_ o' e) (S.objs i p o h1 h2)
    exact List.mem_flatMap.mpr ⟨p, List.mem_of_getElem? h1, ha⟩

theorem flat_append (ρ ρ' : Rho) : flat (ρ ++ ρ') = flat ρ ++ flat ρ' := List.flatMap_append ..

/-- a new object -/
theorem St.new (B : Bs K n₀) (S : St prog w K n₀ s ρ σ) (x : Ev P s ρ s' ρ) (W : Wr n₀ s P) (hp : ∀ a ∈ flat ρ, ∀ o, s.heap.get? a = some o → s'.heap.get? a = some o)
    {p : Addr × Option Addr} {o : O} (hf : ∀ a ∈ p.1 :: p.2.toList, (n₀ ≤ a ∧ s.heap.get? a = none) ∧ ∃ o, s'.heap.get? a = some o ∧ ¬ Frz o) (hn : (p.1 :: p.2.toList).Nodup)
    (ho : OR prog w (ρ ++ [p]) n₀ s'.heap p o) : St prog w K n₀ s' (ρ ++ [p]) (σ ++ [o]) ∧ Ev P s ρ s' (ρ ++ [p]) := by
  have S' := S.mv B x W hp
  have hlt : ∀ a ∈ flat ρ, s.heap.get? a ≠ none := fun a ha => let ⟨_, _, e, _⟩ := S.own a ha; by rw [e]; exact fun h => nomatch h
  have T : Tr n₀ ρ s'.heap (ρ ++ [p]) s'.heap := ⟨List.prefix_append .., fun zz zz e zz => e⟩
  have hfl : flat (ρ ++ [p]) = flat ρ ++ (p.1 :: p.2.toList) := by rw [flat_append]; simp [flat]
  refine ⟨⟨S'.kin, S'.nol, S'.low, by simp [S.len], ?_, ?_, fun i q o' h1 h2 => ?_⟩, List.prefix_append .., fun a ha => ?_, x.live, x.keep, x.rest⟩
  · rw [hfl]
    refine List.nodup_append.mpr ⟨S.nd, hn, fun a ha b hb e => ?_⟩
    subst e
    exact hlt a ha (hf a hb).1.2
  · intro a ha
    rw [hfl] at ha
    rcases List.mem_append.mp ha with ha | ha
    · exact S'.own a ha
    · exact ⟨(hf a ha).1.1, (hf a ha).2⟩
  · by_cases hi : i < ρ.length
    · rw [List.getElem?_append_left hi] at h1
      rw [List.getElem?_append_left (S.len ▸ hi)] at h2
      exact OR.tr T (fun zz zz zz e => e) (S'.objs i q o' h1 h2)
    · rw [List.getElem?_append_right (Nat.not_lt.mp hi)] at h1
      rw [List.getElem?_append_right (S.len ▸ Nat.not_lt.mp hi), ← S.len] at h2
      have : i - ρ.length = 0 := by
        have := (List.getElem?_eq_some_iff.mp h1).1
        simp at this; lia
      rw [this] at h1 h2
      simp at h1 h2
      subst h1 h2
      exact ho
  · rw [hfl] at ha
    rcases List.mem_append.mp ha with ha | ha
    · exact .inl ha
    · exact .inr (hf a ha).1.2

theorem flat_apart : ∀ {ρ : Rho}, (flat ρ).Nodup → ∀ {i j : Nat} {p q : Addr × Option Addr} {a : Addr}, ρ[i]? = some p → ρ[j]? = some q → a ∈ p.1 :: p.2.toList → a ∈ q.1 :: q.2.toList → i = j
  | [], _, i, _, _, _, _, h, _, _, _ => by simp at h
  | r :: ρ, hn, i, j, p, q, a, h1, h2, h3, h4 => by
    have hn' : ((r.1 :: r.2.toList) ++ flat ρ).Nodup := hn
    obtain ⟨n1, n2, n3⟩ := List.nodup_append.mp hn'
    cases i with
    | zero =>
      cases j with
      | zero => rfl
      | succ j =>
        simp at h1 h2
        subst h1
        exact absurd rfl (n3 a h3 a (List.mem_flatMap.mpr ⟨q, List.mem_of_getElem? h2, h4⟩))
    | succ i =>
      cases j with
      | zero =>
        simp at h1 h2
        subst h2
        exact absurd rfl (n3 a h4 a (List.mem_flatMap.mpr ⟨p, List.mem_of_getElem? h1, h3⟩))
      | succ j =>
        simp at h1 h2
        rw [flat_apart n2 h1 h2 h3 h4]

/-- one of the tracked objects is written -/
theorem St.wr (B : Bs K n₀) (S : St prog w K n₀ s ρ σ) {i : Nat} {p : Addr × Option Addr} {o : O} {a : Addr} (hi : ρ[i]? = some p) (ha : a ∈ p.1 :: p.2.toList)
    (hs : Heap.SameBut a s.heap s'.heap) (hr : s'.gens = s.gens ∧ s'.drawn = s.drawn ∧ s'.os = s.os) (hno : ∃ o, s'.heap.get? a = some o ∧ ¬ Frz o) (ho : OR prog w ρ n₀ s'.heap p o) :
    St prog w K n₀ s' ρ (σ.set i o) ∧ Ev [] s ρ s' ρ := by
  have hm : a ∈ flat ρ := List.mem_flatMap.mpr ⟨p, List.mem_of_getElem? hi, ha⟩
  have x : Ev [] s ρ s' ρ := ⟨List.prefix_refl _, fun zz h => .inl h, (fun b o e => by
    by_cases hb : b = a
    · subst hb; exact let ⟨o, e, _⟩ := hno; ⟨o, e⟩
    · exact ⟨o, (hs.2 b hb).trans e⟩), fun b o hb zz e => (hs.2 b (fun e => hb (e ▸ hm))).trans e, hr⟩
  have T := x.tr S Wr.nil
  refine ⟨⟨fun a o e => T.frz a o (S.kin a o e) (.inr (B.k a o e)), NoLimit.base S.nol B.stat fun a o h e => T.frz a o e (.inr h), (let ⟨b, o, h, e⟩ := S.low; ⟨b, o, h, T.frz b o e (.inr (h ▸ Nat.lt_succ_self b))⟩), by simp [S.len], S.nd, fun b hb => ?_, fun j q o' h1 h2 => ?_⟩, x⟩
  · obtain ⟨h1, o', h2, h3⟩ := S.own b hb
    refine ⟨h1, ?_⟩
    by_cases e : b = a
    · subst e; exact hno
    · exact ⟨o', (hs.2 b e).trans h2, h3⟩
  · by_cases e : i = j
    · subst e
      rw [hi] at h1
      cases h1
      have hl : i < σ.length := by rw [← S.len]; exact (List.getElem?_eq_some_iff.mp hi).1
      rw [List.getElem?_set_self hl] at h2
      cases h2
      exact ho
    · rw [List.getElem?_set_ne e] at h2
      refine OR.tr T (fun b hb o'' e' => ?_) (S.objs j q o' h1 h2)
      refine (hs.2 b (fun eb => ?_)).trans e'
      subst eb
      exact e (flat_apart S.nd hi h1 ha hb)
end
end Mine
end P_A2
section P_A3
open PySem PySem.Calls PySem.SeqAt PyProof.Rows PySem.W
set_option autoImplicit false
set_option Elab.async false
namespace Mine

section
variable {prog : Program} {w : World} {K : Frag} {n₀ : Nat} {s s' : Shared} {ρ ρ' : Rho} {σ σ' : Hp} {P : List Addr} {L : Addr} {m : Loc} {A : Around} {E : Value → Shared → Prop}

theorem St.toks (S : St prog w K n₀ s ρ σ) (k : Nat) : St prog w K n₀ { s with toks := k } ρ σ := ⟨S.kin, S.nol, S.low, S.len, S.nd, S.own, S.objs⟩
theorem Ev.toks (P : List Addr) (s : Shared) (ρ : Rho) (k : Nat) : Ev P s ρ { s with toks := k } ρ := ⟨List.prefix_refl _, fun zz h => .inl h, fun zz o e => ⟨o, e⟩, fun zz zz zz zz e => e, rfl, rfl, rfl⟩

/-- what a step hands on -/
abbrev Back {β : Type} (prog : Program) (w : World) (K : Frag) (n₀ : Nat) (s : Shared) (ρ : Rho) (σ' : Hp) (R : Rho → Heap → β → Prop) (Q : β → Shared → Prop) : Prop :=
  ∀ s' ρ' b, Ev [] s ρ s' ρ' → St prog w K n₀ s' ρ' σ' → R ρ' s'.heap b → Q b s'
abbrev BackV (prog : Program) (w : World) (K : Frag) (n₀ : Nat) (s : Shared) (ρ : Rho) (σ' : Hp) (x : V) (Q : Value → Shared → Prop) : Prop :=
  Back prog w K n₀ s ρ σ' (fun ρ h v => VR ρ n₀ h x v) Q

theorem back_toks {β : Type} {R : Rho → Heap → β → Prop} {Q : β → Shared → Prop} (S : St prog w K n₀ s ρ σ) (hQ : Back prog w K n₀ s ρ σ R Q) {b : β} (k : Nat) (h : R ρ s.heap b) : Q b { s with toks := k } :=
  hQ _ ρ b (Ev.toks [] s ρ k) (S.toks k) h
theorem back_now {β : Type} {R : Rho → Heap → β → Prop} {Q : β → Shared → Prop} (S : St prog w K n₀ s ρ σ) (hQ : Back prog w K n₀ s ρ σ R Q) {b : β} (h : R ρ s.heap b) : Q b s :=
  hQ _ ρ b (Ev.refl [] s ρ) S h
/-- the heap has only grown -/
theorem back_keep {β : Type} {R : Rho → Heap → β → Prop} {Q : β → Shared → Prop} (B : Bs K n₀) (S : St prog w K n₀ s ρ σ) (hQ : Back prog w K n₀ s ρ σ R Q) {b : β} {h' : Heap} (k : Nat) (_hs : s.heap.objs.size ≤ h'.objs.size)
    (hk : ∀ a o, s.heap.get? a = some o → h'.get? a = some o) (h : R ρ h' b) : Q b { s with heap := h', toks := k } := by
  have x : Ev [] s ρ { s with heap := h', toks := k } ρ := ⟨List.prefix_refl _, fun zz h => .inl h, fun a o e => ⟨o, hk a o e⟩, fun a o zz zz e => hk a o e, rfl, rfl, rfl⟩
  exact hQ _ ρ b x (S.mv B x Wr.nil fun a zz o e => hk a o e) h

theorem lk_hit {k : Str} {v : V} {r : Loc} : lk ((k, v) :: r) k = some v := by
  show (match k == k with | true => some v | false => lk r k) = _
  rw [beq_self_eq_true]
theorem lk_miss {k x : Str} {v : V} {r : Loc} {o : Option V} (hn : (k == x) = false) (h : lk r x = o) : lk ((k, v) :: r) x = o := by
  show (match k == x with | true => some v | false => lk r x) = _
  rw [hn]; exact h
theorem put_nil {k : Str} {v : V} : put [] k v = [(k, v)] := rfl
theorem put_hit {k : Str} {v w : V} {r : Loc} : put ((k, v) :: r) k w = (k, w) :: r := by
  show (match k == k with | true => (k, w) :: r | false => _) = _
  rw [beq_self_eq_true]
theorem put_miss {k x : Str} {v w : V} {r r' : Loc} (hn : (k == x) = false) (h : put r x w = r') : put ((k, v) :: r) x w = (k, v) :: r' := by
  show (match k == x with | true => (x, w) :: r | false => (k, v) :: put r x w) = _
  rw [hn, ← h]
theorem VR.int {i : Int} {v : Value} {h : Heap} (q : VR ρ n₀ h (.int i) v) : ∃ t, v = .int i t := q
theorem VR.str {i : Str} {v : Value} {h : Heap} (q : VR ρ n₀ h (.str i) v) : ∃ t, v = .str i t := q
theorem VR.bool {i : Bool} {v : Value} {h : Heap} (q : VR ρ n₀ h (.bool i) v) : v = .bool i := q
theorem VR.ref {i : Nat} {v : Value} {h : Heap} (q : VR ρ n₀ h (.ref i) v) : ∃ p, ρ[i]? = some p ∧ v = .ref p.1 := q
theorem VR.ofInt {i : Int} {t : Tok} {h : Heap} : VR ρ n₀ h (.int i) (.int i t) := ⟨t, rfl⟩
theorem VR.ofStr {i : Str} {t : Tok} {h : Heap} : VR ρ n₀ h (.str i) (.str i t) := ⟨t, rfl⟩
theorem VR.ofBool {i : Bool} {h : Heap} : VR ρ n₀ h (.bool i) (.bool i) := rfl
theorem VR.ofNone {h : Heap} : VR ρ n₀ h .none .none := rfl

/-- how the machine's words open -/
theorem ret_some {α : Type} {a b : α} (e : ret a σ = some (b, σ')) : b = a ∧ σ' = σ := by cases e; exact ⟨rfl, rfl⟩
set_option tactic.hygienic true in
theorem bnd_some {α β : Type} {x : Mo α} {f : α → Mo β} {r : β} (e : bnd x f σ = some (r, σ')) : ∃ a σ₁, x σ = some (a, σ₁) ∧ f a σ₁ = some (r, σ') := by
  unfold bnd at e
  split at e
  · cases e
  · rename_i p hp; exact ⟨p.1, p.2, hp, e⟩
theorem grd_some {α : Type} {c : Bool} {x : Mo α} {r : α} (e : grd c x σ = some (r, σ')) : c = true ∧ x σ = some (r, σ') := by
  cases c with
  | true => exact ⟨rfl, e⟩
  | false => cases e
theorem bnd_el {α β : Type} {x : Mo α} {f : α → Mo β} {r : β} {G : Prop} (e : bnd x f σ = some (r, σ')) (h : ∀ a σ₁, x σ = some (a, σ₁) → f a σ₁ = some (r, σ') → G) : G :=
  let ⟨a, σ₁, g, e1⟩ := bnd_some e; h a σ₁ g e1
theorem grd_el {α : Type} {c : Bool} {x : Mo α} {r : α} {G : Prop} (e : grd c x σ = some (r, σ')) (h : c = true → x σ = some (r, σ') → G) : G := h (grd_some e).1 (grd_some e).2
theorem and_el {a b : Bool} {G : Prop} (e : (a && b) = true) (h : a = true → b = true → G) : G := h (Bool.and_eq_true_iff.mp e).1 (Bool.and_eq_true_iff.mp e).2
theorem ofO_some {α : Type} {x : Option α} {r : α} (e : ofO x σ = some (r, σ')) : x = some r ∧ σ' = σ := by
  cases x with
  | none => cases e
  | some a => cases e; exact ⟨rfl, rfl⟩
theorem stuck_some {α : Type} {r : α} (e : (stuck : Mo α) σ = some (r, σ')) : False := by cases e
theorem no_some {α : Type} {p : α} (e : none = some p) : False := by cases e
set_option tactic.hygienic true in
theorem gt_some {i : Nat} {o : O} (e : gt i σ = some (o, σ')) : σ[i]? = some o ∧ σ' = σ := by
  unfold gt at e
  split at e
  · rename_i o' h; cases e; exact ⟨h, rfl⟩
  · cases e
section
variable {α : Type} {v : V} {q : α × Hp}
theorem asI_some {f : Int → Mo α} (e : asI v f σ = some q) : ∃ k, v = .int k ∧ f k σ = some q := by cases v <;> first | exact ⟨_, rfl, e⟩ | exact (no_some e).elim
theorem asS_some {f : Str → Mo α} (e : asS v f σ = some q) : ∃ k, v = .str k ∧ f k σ = some q := by cases v <;> first | exact ⟨_, rfl, e⟩ | exact (no_some e).elim
theorem asR_some {f : Nat → Mo α} (e : asR v f σ = some q) : ∃ k, v = .ref k ∧ f k σ = some q := by cases v <;> first | exact ⟨_, rfl, e⟩ | exact (no_some e).elim
theorem bgt_some {i : Nat} {f : O → Mo α} (e : bnd (gt i) f σ = some q) : ∃ o, σ[i]? = some o ∧ f o σ = some q := by
  obtain ⟨r, τ⟩ := q
  refine bnd_el e fun o σ₁ g e1 => ?_
  obtain ⟨g, rfl⟩ := gt_some g
  exact ⟨o, g, e1⟩
end
theorem gtL_some {i : Nat} {xs : List V} (e : gtL i σ = some (xs, σ')) : σ[i]? = some (.list xs) ∧ σ' = σ := by
  refine bnd_el e fun o σ₁ h1 h2 => ?_
  obtain ⟨h1, rfl⟩ := gt_some h1
  cases o <;> first | exact (no_some h2).elim | (cases h2; exact ⟨h1, rfl⟩)
/-! ## which values an operation takes -/
section
variable {p : V × Hp} {x y z : V}
theorem ii_some {α : Type} {q : α × Hp} {f : Int → Int → Mo α} (e : ii x y f σ = some q) : ∃ i j, x = .int i ∧ y = .int j ∧ f i j σ = some q := let ⟨i, h, e⟩ := asI_some e; let ⟨j, h', e⟩ := asI_some e; ⟨i, j, h, h', e⟩
theorem selV_some {α : Type} {fi : Int → Option α} {fs : Str → Option α} {ft : List V → Option α} {r : α} (e : selV x fi fs ft = some r) : (∃ k, x = .int k ∧ fi k = some r) ∨ (∃ k, x = .str k ∧ fs k = some r) ∨ ∃ k, x = .tup k ∧ ft k = some r := by
  cases x <;> first | exact .inl ⟨_, rfl, e⟩ | exact .inr (.inl ⟨_, rfl, e⟩) | exact .inr (.inr ⟨_, rfl, e⟩) | exact (no_some e).elim
theorem inv_abs (e : bAbs [x] σ = some p) : ∃ i, x = .int i := let ⟨k, h, _⟩ := asI_some e; ⟨k, h⟩
theorem inv_starts (e : bStarts [x, y] σ = some p) : (∃ i, x = .str i) ∧ ∃ i, y = .str i := let ⟨k, h, e⟩ := asS_some e; let ⟨k', h', _⟩ := asS_some e; ⟨⟨k, h⟩, k', h'⟩
theorem inv_join (e : bJoin [x, y] σ = some p) : (∃ i, x = .str i) ∧ ∃ i, y = .ref i := let ⟨k, h, e⟩ := asS_some e; let ⟨k', h', _⟩ := asR_some e; ⟨⟨k, h⟩, k', h'⟩
theorem inv_split (e : bSplit [x, y] σ = some p) : (∃ i, x = .str i) ∧ ∃ i, y = .str i := let ⟨k, h, e⟩ := asS_some e; let ⟨k', h', _⟩ := asS_some e; ⟨⟨k, h⟩, k', h'⟩
theorem inv_insert (e : bInsert [x, y, z] σ = some p) : (∃ i, x = .ref i) ∧ ∃ i, y = .int i := let ⟨k, h, e⟩ := asR_some e; let ⟨k', h', _⟩ := asI_some e; ⟨⟨k, h⟩, k', h'⟩
theorem inv_append (e : bAppend [x, y] σ = some p) : ∃ i, x = .ref i := let ⟨k, h, _⟩ := asR_some e; ⟨k, h⟩
theorem inv_pop (e : bPop [x] σ = some p) : ∃ i, x = .ref i := let ⟨k, h, _⟩ := asR_some e; ⟨k, h⟩
theorem inv_reverse (e : bReverse [x] σ = some p) : ∃ i, x = .ref i := let ⟨k, h, _⟩ := asR_some e; ⟨k, h⟩
theorem inv_sorted (e : bSorted [x] σ = some p) : ∃ i, x = .ref i := let ⟨k, h, _⟩ := asR_some e; ⟨k, h⟩
theorem inv_isi (e : bIsi [x, y] σ = some p) : ∃ i, y = .ty i := by cases y <;> first | exact ⟨_, rfl⟩ | exact (no_some e).elim
theorem inv_len (e : bLen [x] σ = some p) : (∃ i, x = .str i) ∨ (∃ i, x = .tup i) ∨ ∃ i, x = .ref i := by cases x <;> first | exact .inl ⟨_, rfl⟩ | exact .inr (.inl ⟨_, rfl⟩) | exact .inr (.inr ⟨_, rfl⟩) | exact (no_some e).elim
theorem inv_range1 (e : tRange [x] σ = some p) : ∃ i, x = .int i := let ⟨k, h, _⟩ := asI_some e; ⟨k, h⟩
theorem inv_range2 (e : tRange [x, y] σ = some p) : (∃ i, x = .int i) ∧ ∃ i, y = .int i := let ⟨i, j, h, h', _⟩ := ii_some e; ⟨⟨i, h⟩, j, h'⟩
theorem inv_str (e : tStr [x] σ = some p) : ∃ i, x = .int i := let ⟨k, h, _⟩ := asI_some e; ⟨k, h⟩
theorem inv_int (e : tInt [x] σ = some p) : ∃ i, x = .str i := let ⟨k, h, _⟩ := asS_some e; ⟨k, h⟩
theorem inv_tuple (e : tTuple [x] σ = some p) : ∃ i, x = .ref i := let ⟨k, h, _⟩ := asR_some e; ⟨k, h⟩
theorem inv_eqS {b : Bool} (e : eqS x y = some b) : (∃ i j, x = .int i ∧ y = .int j) ∨ (∃ i s, x = .int i ∧ y = .str s) ∨ (∃ i s, x = .int i ∧ y = .tup s) ∨ (∃ i j, x = .str i ∧ y = .int j) ∨ (∃ i j, x = .str i ∧ y = .str j) ∨ ∃ i j, x = .str i ∧ y = .tup j := by
  rcases selV_some e with ⟨k, h, e⟩ | ⟨k, h, e⟩ | ⟨_, _, e⟩
  · exact (selV_some e).elim (fun ⟨j, h', _⟩ => .inl ⟨k, j, h, h'⟩) fun q => q.elim (fun ⟨j, h', _⟩ => .inr (.inl ⟨k, j, h, h'⟩)) fun ⟨j, h', _⟩ => .inr (.inr (.inl ⟨k, j, h, h'⟩))
  · exact (selV_some e).elim (fun ⟨j, h', _⟩ => .inr (.inr (.inr (.inl ⟨k, j, h, h'⟩)))) fun q => q.elim (fun ⟨j, h', _⟩ => .inr (.inr (.inr (.inr (.inl ⟨k, j, h, h'⟩))))) fun ⟨j, h', _⟩ => .inr (.inr (.inr (.inr (.inr ⟨k, j, h, h'⟩))))
  · cases e
theorem inv_eqV : (∃ xs ys, x = .tup xs ∧ y = .tup ys) ∨ eqV x y = eqS x y := by
  cases x <;> first | exact .inr rfl | (cases y <;> first | exact .inl ⟨_, _, rfl, rfl⟩ | exact .inr rfl)
theorem inv_add (e : binV .Add x y σ = some p) : (∃ i j, x = .int i ∧ y = .int j) ∨ (∃ i j, x = .str i ∧ y = .str j ∧ grd (okLen (i.length + j.length)) (ret (.str (i ++ j))) σ = some p) ∨ ∃ i j, x = .ref i ∧ y = .ref j ∧ bnd (gtL i) (fun xs => bnd (gtL j) fun ys => newL (xs ++ ys)) σ = some p := by
  cases x <;> first | exact (no_some e).elim | exact let ⟨j, h, _⟩ := asI_some e; .inl ⟨_, j, rfl, h⟩ | exact let ⟨j, h, e⟩ := asS_some e; .inr (.inl ⟨_, j, rfl, h, e⟩) | exact let ⟨j, h, e⟩ := asR_some e; .inr (.inr ⟨_, j, rfl, h, e⟩)
theorem inv_bin {op : Operator} (h : op ≠ .Add) (e : binV op x y σ = some p) : ∃ i j, x = .int i ∧ y = .int j := by
  cases op <;> first | exact absurd rfl h | exact (no_some e).elim | exact let ⟨i, j, h, h', _⟩ := ii_some e; ⟨i, j, h, h'⟩
theorem inv_un {op : UnaryOp} (e : unV op x σ = some p) : (∃ b, op = .Not ∧ x = .bool b ∧ p = (.bool (!b), σ)) ∨ ∃ i, op = .USub ∧ x = .int i ∧ p = (.int (-i), σ) := by
  cases op <;> first | exact (no_some e).elim | exact let ⟨i, h, e⟩ := asI_some e; .inr ⟨i, rfl, h, (Option.some.inj e).symm⟩ | (cases x <;> first | exact .inl ⟨_, rfl, rfl, (Option.some.inj e).symm⟩ | exact (no_some e).elim)
theorem inv_aug {op : Operator} (e : augV op x y σ = some p) : ∃ i j, x = .int i ∧ y = .int j ∧ (op = .Sub ∧ p = (.int (i - j), σ)) := by
  cases op <;> first | exact (no_some e).elim | exact let ⟨i, j, h, h', e⟩ := ii_some e; ⟨i, j, h, h', rfl, (Option.some.inj e).symm⟩
section
variable {q : Bool × Hp}
theorem inv_lt (e : cmpV .Lt x y σ = some q) : ∃ i j, x = .int i ∧ y = .int j ∧ q = (decide (i < j), σ) := let ⟨i, j, h, h', e⟩ := ii_some e; ⟨i, j, h, h', (Option.some.inj e).symm⟩
theorem inv_gt (e : cmpV .Gt x y σ = some q) : ∃ i j, x = .int i ∧ y = .int j ∧ q = (decide (j < i), σ) := let ⟨i, j, h, h', e⟩ := ii_some e; ⟨i, j, h, h', (Option.some.inj e).symm⟩
theorem inv_ge (e : cmpV .GtE x y σ = some q) : ∃ i j, x = .int i ∧ y = .int j ∧ q = (decide (j ≤ i), σ) := let ⟨i, j, h, h', e⟩ := ii_some e; ⟨i, j, h, h', (Option.some.inj e).symm⟩
set_option tactic.hygienic true in
theorem inv_eq (e : cmpV .Eq x y σ = some q) : (∃ i j xs, x = .ref i ∧ y = .ref j ∧ σ[i]? = some (.list xs) ∧ σ[j]? = some (.list []) ∧ q = (xs.isEmpty, σ)) ∨ ofO (eqV x y) σ = some q := by
  obtain ⟨q1, q2⟩ := q
  cases x <;> first | exact .inr e | skip
  rename_i i
  obtain ⟨j, h, e⟩ := asR_some e
  refine bnd_el e fun xs σ₁ g1 e1 => ?_
  refine bnd_el e1 fun ys σ₂ g2 e2 => ?_
  obtain ⟨g1, rfl⟩ := gtL_some g1
  obtain ⟨g2, rfl⟩ := gtL_some g2
  cases ys with
  | nil => exact .inl ⟨i, j, xs, rfl, h, g1, g2, (Option.some.inj e2).symm⟩
  | cons => exact (no_some e2).elim
theorem inv_ne (e : cmpV .NotEq x y σ = some q) : (∃ i j, x = .int i ∧ y = .int j ∧ q = (!(i == j), σ)) ∨ ∃ i j, x = .str i ∧ y = .str j ∧ q = (!(i == j), σ) := by
  cases x <;> first | exact (no_some e).elim | exact let ⟨j, h, e⟩ := asI_some e; .inl ⟨_, j, rfl, h, (Option.some.inj e).symm⟩ | exact let ⟨j, h, e⟩ := asS_some e; .inr ⟨_, j, rfl, h, (Option.some.inj e).symm⟩
theorem inv_noK (e : noK x σ = some q) : ((∃ k, x = .int k) ∨ ∃ k, x = .str k) ∧ q = (false, σ) := by
  cases x <;> first | exact ⟨.inl ⟨_, rfl⟩, (Option.some.inj e).symm⟩ | exact ⟨.inr ⟨_, rfl⟩, (Option.some.inj e).symm⟩ | exact (no_some e).elim
set_option tactic.hygienic true in
theorem inv_inO {o : O} (e : inO x o σ = some q) : (∃ ys, o = .list ys ∧ ofO (anyEq x ys) σ = some q) ∨ (o = .dnew ∧ (∃ k, x = .int k) ∧ q = (false, σ)) ∨ (o = .dnew ∧ (∃ k, x = .str k) ∧ q = (false, σ)) ∨ (∃ es k, o = .dint es ∧ x = .int k ∧ q = ((atK es k).isSome, σ)) ∨ ∃ es k, o = .dstr es ∧ x = .str k ∧ q = ((atK es k).isSome, σ) := by
  cases o
  case list ys => exact .inl ⟨ys, rfl, e⟩
  case dnew =>
    obtain ⟨h | h, e⟩ := inv_noK e
    · exact .inr (.inl ⟨rfl, h, e⟩)
    · exact .inr (.inr (.inl ⟨rfl, h, e⟩))
  case dint es => obtain ⟨k, h, e⟩ := asI_some e; exact .inr (.inr (.inr (.inl ⟨es, k, rfl, h, (Option.some.inj e).symm⟩)))
  case dstr es => obtain ⟨k, h, e⟩ := asS_some e; exact .inr (.inr (.inr (.inr ⟨es, k, rfl, h, (Option.some.inj e).symm⟩)))
  all_goals exact (no_some e).elim
theorem inv_in (e : inV x y σ = some q) : (∃ ys, y = .tup ys ∧ ofO (anyEq x ys) σ = some q) ∨ ∃ i o, y = .ref i ∧ σ[i]? = some o ∧ ((∃ ys, o = .list ys ∧ ofO (anyEq x ys) σ = some q) ∨ (o = .dnew ∧ (∃ k, x = .int k) ∧ q = (false, σ)) ∨ (o = .dnew ∧ (∃ k, x = .str k) ∧ q = (false, σ)) ∨ (∃ es k, o = .dint es ∧ x = .int k ∧ q = ((atK es k).isSome, σ)) ∨ ∃ es k, o = .dstr es ∧ x = .str k ∧ q = ((atK es k).isSome, σ)) := by
  cases y <;> first | exact (no_some e).elim | exact .inl ⟨_, rfl, e⟩ | (obtain ⟨o, h, e⟩ := bgt_some e; exact .inr ⟨_, o, rfl, h, inv_inO e⟩)
end
end
theorem St.at (S : St prog w K n₀ s ρ σ) {i : Nat} {p : Addr × Option Addr} {o : O} (h1 : ρ[i]? = some p) (h2 : σ[i]? = some o) : OR prog w ρ n₀ s.heap p o := S.objs i p o h1 h2
theorem St.lst (S : St prog w K n₀ s ρ σ) {i : Nat} {v : Value} {xs : List V} (h : VR ρ n₀ s.heap (.ref i) v) (h2 : σ[i]? = some (.list xs)) :
    ∃ a vs n, ρ[i]? = some (a, none) ∧ v = .ref a ∧ s.heap.get? a = some (lstObj vs n) ∧ VRs ρ n₀ s.heap xs vs.toList := by
  obtain ⟨p, h1, rfl⟩ := h.ref
  obtain ⟨e0, vs, n, e1, e2⟩ := S.at h1 h2
  obtain ⟨a, b⟩ := p
  dsimp only at e0 e1
  subst e0
  exact ⟨a, vs, n, h1, rfl, e1, e2⟩

theorem okLen_le {n : Nat} (h : okLen n = true) : n ≤ 1048576 := Nat.le_of_ble_eq_true h
theorem okLen_line {n : Nat} (h : okLen n = true) : n ≤ sizeLine := by
  have := okLen_le h
  rw [sizeLine_eq]; lia

theorem fdiv_pos {a b : Int} (h : 0 < b) : a.fdiv b = a / b := Int.fdiv_eq_ediv_of_nonneg _ (by lia)
theorem fmod_pos {a b : Int} (h : 0 < b) : a.fmod b = a % b := Int.fmod_eq_emod_of_nonneg _ (by lia)

set_option tactic.hygienic true in
theorem snd_bin_int {op : Operator} {x y : Int} {t u : Tok} {r : V} {Q : Value → Shared → Prop} (S : St prog w K n₀ s ρ σ) (e : binV op (.int x) (.int y) σ = some (r, σ')) (hQ : BackV prog w K n₀ s ρ σ' r Q) :
    wpAny (model prog w) A (binaryOp op (.int x t) (.int y u)) Q E s := by
  cases op <;> first | (exact (no_some e).elim) | skip
  case Add => obtain ⟨rfl, rfl⟩ := ret_some e; exact PyProof.Rows.add_int (back_toks S hQ _ VR.ofInt)
  case Sub => obtain ⟨rfl, rfl⟩ := ret_some e; exact PyProof.Rows.sub_int (back_toks S hQ _ VR.ofInt)
  case Mult =>
    refine grd_el e fun h e => ?_
    obtain ⟨rfl, rfl⟩ := ret_some e
    exact PyProof.Rows.mul_int (back_toks S hQ _ VR.ofInt) (PyProof.Rows.mulOk_of_bits (Nat.le_refl _) (Nat.le_refl _) (Nat.le_of_ble_eq_true h))
  case Mod =>
    refine grd_el e fun h e => ?_
    have h := of_decide_eq_true h
    obtain ⟨rfl, rfl⟩ := ret_some e
    exact PyProof.Rows.mod_int' (by lia) (by rw [fmod_pos h]; exact back_toks S hQ _ VR.ofInt)
  case FloorDiv =>
    refine grd_el e fun h e => ?_
    refine and_el h fun h h' => ?_
    have h := of_decide_eq_true h
    obtain ⟨rfl, rfl⟩ := ret_some e
    exact PyProof.Rows.floordiv_int (by lia) (by rw [fdiv_pos h]; exact back_toks S hQ _ VR.ofInt) (.inl (by simpa using h'))
  case Pow =>
    refine grd_el e fun h e => ?_
    refine and_el h fun h h' => ?_
    obtain ⟨rfl, rfl⟩ := ret_some e
    exact PyProof.Rows.pow_int (of_decide_eq_true h) (of_decide_eq_true h') (back_toks S hQ _ VR.ofInt)

theorem VR.tup {xs : List V} {v : Value} {h : Heap} (q : VR ρ n₀ h (.tup xs) v) : ∃ a vs n, v = .ref a ∧ h.get? a = some (tupObj vs n) ∧ VRs ρ n₀ h xs vs.toList := q
theorem VRs.length {h : Heap} : ∀ {xs : List V} {vs : List Value}, VRs ρ n₀ h xs vs → xs.length = vs.length
  | [], [], q => rfl
  | [], _ :: _, q => nomatch (show _ = [] from q)
  | _ :: _, [], q => False.elim q
  | _ :: xs, _ :: vs, q => congrArg (· + 1) (VRs.length q.2)
theorem VRs.get {h : Heap} : ∀ {xs : List V} {vs : List Value}, VRs ρ n₀ h xs vs → ∀ {i : Nat} {x : V}, xs[i]? = some x → ∃ v, vs[i]? = some v ∧ VR ρ n₀ h x v
  | [], vs, q, i, x, e => nomatch e
  | _ :: _, [], q, _, _, _ => False.elim q
  | y :: xs, v :: vs, q, 0, x, e => ⟨v, rfl, Option.some.inj e ▸ q.1⟩
  | y :: xs, v :: vs, q, i + 1, x, e => VRs.get (xs := xs) q.2 (i := i) e
theorem VRs.append {h : Heap} : ∀ {xs ys : List V} {vs us : List Value}, VRs ρ n₀ h xs vs → VRs ρ n₀ h ys us → VRs ρ n₀ h (xs ++ ys) (vs ++ us)
  | [], ys, [], us, q, r => r
  | [], _, _ :: _, _, q, _ => nomatch (show _ = [] from q)
  | _ :: _, _, [], _, q, _ => False.elim q
  | x :: xs, ys, v :: vs, us, q, r => ⟨q.1, VRs.append q.2 r⟩
theorem VRs.nil {h : Heap} : VRs ρ n₀ h [] [] := rfl
theorem VRs.cons {h : Heap} {x : V} {v : Value} {xs : List V} {vs : List Value} (q : VR ρ n₀ h x v) (r : VRs ρ n₀ h xs vs) : VRs ρ n₀ h (x :: xs) (v :: vs) := ⟨q, r⟩
theorem VRs.drop {h : Heap} : ∀ {xs : List V} {vs : List Value}, VRs ρ n₀ h xs vs → ∀ n, VRs ρ n₀ h (xs.drop n) (vs.drop n)
  | xs, vs, q, 0 => q
  | [], [], q, n + 1 => q
  | [], _ :: _, q, _ + 1 => nomatch (show _ = [] from q)
  | _ :: _, [], q, _ + 1 => False.elim q
  | x :: xs, v :: vs, q, n + 1 => VRs.drop (xs := xs) q.2 n
theorem VRs.take {h : Heap} : ∀ {xs : List V} {vs : List Value}, VRs ρ n₀ h xs vs → ∀ n, VRs ρ n₀ h (xs.take n) (vs.take n)
  | xs, vs, q, 0 => rfl
  | [], [], q, n + 1 => q
  | [], _ :: _, q, _ + 1 => nomatch (show _ = [] from q)
  | _ :: _, [], q, _ + 1 => False.elim q
  | x :: xs, v :: vs, q, n + 1 => ⟨q.1, VRs.take (xs := xs) q.2 n⟩
theorem VRs.reverse {h : Heap} : ∀ {xs : List V} {vs : List Value}, VRs ρ n₀ h xs vs → VRs ρ n₀ h xs.reverse vs.reverse
  | [], [], q => q
  | [], _ :: _, q => nomatch (show _ = [] from q)
  | _ :: _, [], q => False.elim q
  | x :: xs, v :: vs, q => by
    rw [List.reverse_cons, List.reverse_cons]
    exact (VRs.reverse q.2).append (VRs.cons q.1 VRs.nil)
theorem VRs.set {h : Heap} : ∀ {xs : List V} {vs : List Value}, VRs ρ n₀ h xs vs → ∀ {i : Nat} {x : V} {v : Value}, VR ρ n₀ h x v → VRs ρ n₀ h (xs.set i x) (vs.set i v)
  | [], [], q, i, x, v, _ => q
  | [], _ :: _, q, _, _, _, _ => nomatch (show _ = [] from q)
  | _ :: _, [], q, _, _, _, _ => False.elim q
  | y :: xs, u :: vs, q, 0, x, v, r => ⟨r, q.2⟩
  | y :: xs, u :: vs, q, i + 1, x, v, r => ⟨q.1, VRs.set (xs := xs) q.2 r⟩

theorem isTuple_of {h : Heap} {a : Addr} {vs : Array Value} {n : Nat} (e : h.get? a = some (tupObj vs n)) : h.IsTuple a vs := ⟨_, e, rfl, n, rfl⟩
theorem isTup_of {h : Heap} {a : Addr} {vs : Array Value} {n : Nat} (e : h.get? a = some (tupObj vs n)) : IsTup h a vs := ⟨_, e, rfl, n, rfl⟩
theorem isList_of {h : Heap} {a : Addr} {vs : Array Value} {n : Nat} (e : h.get? a = some (lstObj vs n)) : h.IsList a vs := ⟨_, e, rfl, n, rfl⟩

/-! ### == -/
theorem rc_S (hu : A.units < cLine) {x y : V} {b : Bool} {v u : Value} (e : eqS x y = some b) (h1 : VR ρ n₀ s.heap x v) (h2 : VR ρ n₀ s.heap y u) : RcAt A s v u b := by
  rcases inv_eqS e with ⟨_, _, rfl, rfl⟩ | ⟨_, _, rfl, rfl⟩ | ⟨_, _, rfl, rfl⟩ | ⟨_, _, rfl, rfl⟩ | ⟨_, _, rfl, rfl⟩ | ⟨_, _, rfl, rfl⟩
  · obtain ⟨t, rfl⟩ := h1.int; obtain ⟨t', rfl⟩ := h2.int; cases e; exact RcAt.int_int _ _ _ _
  · obtain ⟨t, rfl⟩ := h1.int; obtain ⟨t', rfl⟩ := h2.str; cases e; exact RcAt.int_str _ _ _ _
  · obtain ⟨t, rfl⟩ := h1.int; obtain ⟨a, vs, n, rfl, h3, _⟩ := h2.tup; cases e; exact RcAt.int_tuple _ _ (isTuple_of h3) hu
  · obtain ⟨t, rfl⟩ := h1.str; obtain ⟨t', rfl⟩ := h2.int; cases e; exact RcAt.str_int _ _ _ _
  · obtain ⟨t, rfl⟩ := h1.str; obtain ⟨t', rfl⟩ := h2.str; cases e; exact RcAt.str_str _ _ _ _
  · obtain ⟨t, rfl⟩ := h1.str; obtain ⟨a, vs, n, rfl, h3, _⟩ := h2.tup; cases e; exact RcAt.str_tuple _ _ (isTuple_of h3) hu
theorem eq_S (hu : A.units < cLine) {x y : V} {b : Bool} {v u : Value} (e : eqS x y = some b) (h1 : VR ρ n₀ s.heap x v) (h2 : VR ρ n₀ s.heap y u) : EqAt A s v u b := by
  rcases inv_eqS e with ⟨_, _, rfl, rfl⟩ | ⟨_, _, rfl, rfl⟩ | ⟨_, _, rfl, rfl⟩ | ⟨_, _, rfl, rfl⟩ | ⟨_, _, rfl, rfl⟩ | ⟨_, _, rfl, rfl⟩
  · obtain ⟨t, rfl⟩ := h1.int; obtain ⟨t', rfl⟩ := h2.int; cases e; exact EqAt.int_int _ _ _ _
  · obtain ⟨t, rfl⟩ := h1.int; obtain ⟨t', rfl⟩ := h2.str; cases e; exact EqAt.int_str _ _ _ _
  · obtain ⟨t, rfl⟩ := h1.int; obtain ⟨a, vs, n, rfl, h3, _⟩ := h2.tup; cases e; exact EqAt.int_tuple _ _ (isTuple_of h3) hu
  · obtain ⟨t, rfl⟩ := h1.str; obtain ⟨t', rfl⟩ := h2.int; cases e; exact EqAt.str_int _ _ _ _
  · obtain ⟨t, rfl⟩ := h1.str; obtain ⟨t', rfl⟩ := h2.str; cases e; exact EqAt.str_str _ _ _ _
  · obtain ⟨t, rfl⟩ := h1.str; obtain ⟨a, vs, n, rfl, h3, _⟩ := h2.tup; cases e; exact EqAt.str_tuple _ _ (isTuple_of h3) hu
theorem opt2 {c d : Option Bool} {r : Bool} (e : (match c, d with | some a, some b => some (a && b) | _, _ => none) = some r) : ∃ p q, c = some p ∧ d = some q ∧ (p && q) = r := by
  cases c <;> cases d <;> first | (cases e; done) | exact ⟨_, _, rfl, rfl, Option.some.inj e⟩
theorem opt4 {a b : Bool} {c d : Option Bool} {r : Bool} (e : (match a, b, c, d with | true, true, some a, some b => some (a || b) | _, _, _, _ => none) = some r) : a = true ∧ b = true ∧ ∃ p q, c = some p ∧ d = some q ∧ (p || q) = r := by
  cases a <;> first | (cases e; done) | skip
  cases b <;> first | (cases e; done) | skip
  cases c <;> cases d <;> first | (cases e; done) | exact ⟨rfl, rfl, _, _, rfl, rfl, Option.some.inj e⟩
theorem eqSs_all : ∀ {xs ys : List V} {b : Bool}, eqSs xs ys = some b → b = (List.range (min xs.length ys.length)).all (fun j => match xs[j]?, ys[j]? with | some x, some y => (eqS x y).getD false | _, _ => false)
  | [], ys, b, e => by
    have : eqSs [] ys = some true := by cases ys <;> rfl
    rw [this] at e; cases e; simp
  | x :: xs, [], b, e => by cases e; simp
  | x :: xs, y :: ys, b, e => by
    obtain ⟨p, q, hx, hr, rfl⟩ := opt2 (c := eqS x y) (d := eqSs xs ys) e
    have ih := eqSs_all hr
    have hm : min (x :: xs).length (y :: ys).length = min xs.length ys.length + 1 := by simp only [List.length_cons]; lia
    rw [hm, List.range_succ_eq_map, List.all_cons, ih]
    simp [hx, List.all_map, Function.comp_def]
theorem eqSs_each : ∀ {xs ys : List V} {b : Bool}, eqSs xs ys = some b → ∀ (j : Nat) x y, xs[j]? = some x → ys[j]? = some y → ∃ c, eqS x y = some c
  | [], ys, b, e, j, x, y, h, _ => by simp at h
  | x :: xs, [], b, e, j, _, y, _, h => by simp at h
  | x :: xs, y :: ys, b, e, j, x', y', h1, h2 => by
    obtain ⟨p, q, hx, hr, _⟩ := opt2 (c := eqS x y) (d := eqSs xs ys) e
    cases j with
    | zero => exact ⟨p, Option.some.inj h1 ▸ Option.some.inj h2 ▸ hx⟩
    | succ j => exact eqSs_each hr j x' y' h1 h2
theorem rc_V (hu : A.units + 1 < cLine) {x y : V} {b : Bool} {v u : Value} (e : eqV x y = some b) (h1 : VR ρ n₀ s.heap x v) (h2 : VR ρ n₀ s.heap y u) : RcAt A s v u b := by
  by_cases hc : ∃ xs ys, x = .tup xs ∧ y = .tup ys
  · obtain ⟨xs, ys, rfl, rfl⟩ := hc
    obtain ⟨c, hc, rfl⟩ := Option.map_eq_some_iff.mp (show (eqSs xs ys).map (fun b => b && Nat.beq xs.length ys.length) = some b from e)
    obtain ⟨a, vs, n, rfl, e1, e2⟩ := h1.tup
    obtain ⟨a', us, n', rfl, e1', e2'⟩ := h2.tup
    have l1 : vs.size = xs.length := by rw [e2.length, Array.length_toList]
    have l2 : us.size = ys.length := by rw [e2'.length, Array.length_toList]
    have z := RcAt.tuples (A := A) (s := s) (e := fun j => match xs[j]?, ys[j]? with | some x, some y => (eqS x y).getD false | _, _ => false) (isTuple_of e1) (isTuple_of e1') (by lia) (fun j j1 j2 => by
      have hx : xs[j]? = some xs[j] := List.getElem?_eq_getElem (l1 ▸ j1)
      have hy : ys[j]? = some ys[j] := List.getElem?_eq_getElem (l2 ▸ j2)
      obtain ⟨v, g1, g2⟩ := e2.get hx
      obtain ⟨u, g3, g4⟩ := e2'.get hy
      obtain ⟨c, hc'⟩ := eqSs_each hc j _ _ hx hy
      simp only [hx, hy, hc', Option.getD_some]
      have hv : vs[j] = v := by
        have := Array.getElem?_eq_getElem j1
        rw [← Array.getElem?_toList, g1] at this
        exact (Option.some.inj this).symm
      have hu' : us[j] = u := by
        have := Array.getElem?_eq_getElem j2
        rw [← Array.getElem?_toList, g3] at this
        exact (Option.some.inj this).symm
      rw [hv, hu']
      exact eq_S (A := A.in1) (by show A.units + 1 < cLine; exact hu) hc' g2 g4)
    rw [l1, l2] at z
    rw [eqSs_all hc]
    have hb : (xs.length == ys.length) = Nat.beq xs.length ys.length := by rw [Bool.eq_iff_iff]; simp
    rw [← hb]
    exact z
  · have e' : eqS x y = some b := by
      rcases inv_eqV (x := x) (y := y) with h | h
      · exact absurd h hc
      · rw [← h]; exact e
    exact rc_S (by lia) e' h1 h2

noncomputable def valEq (x : V) (y : Value) : Bool := match x, y with
  | .int k, .int i _ => i == k
  | .str k, .str i _ => i == k
  | _, _ => false
theorem scal_el {x : V} (h : scal x = true) : (∃ k, x = .int k) ∨ ∃ k, x = .str k := by cases x <;> first | exact .inl ⟨_, rfl⟩ | exact .inr ⟨_, rfl⟩ | cases h
theorem valEq_at (hu : A.units < cLine) {x y : V} {b : Bool} {v u : Value} (hx : scal x = true) (hy : scal y = true) (e : eqS y x = some b) (h1 : VR ρ n₀ s.heap x v) (h2 : VR ρ n₀ s.heap y u) : EqAt A s u v b ∧ valEq x u = b := by
  refine ⟨eq_S hu e h2 h1, ?_⟩
  rcases scal_el hx with ⟨k, rfl⟩ | ⟨k, rfl⟩ <;> rcases scal_el hy with ⟨j, rfl⟩ | ⟨j, rfl⟩
  · obtain ⟨t, rfl⟩ := h2.int; exact Option.some.inj e
  · obtain ⟨t, rfl⟩ := h2.str; exact Option.some.inj e
  · obtain ⟨t, rfl⟩ := h2.int; exact Option.some.inj e
  · obtain ⟨t, rfl⟩ := h2.str; exact Option.some.inj e
theorem anyEq_at (hu : A.units < cLine) {x : V} {v : Value} (h1 : VR ρ n₀ s.heap x v) : ∀ {ys : List V} {us : List Value} {b : Bool}, anyEq x ys = some b → VRs ρ n₀ s.heap ys us → (∀ u ∈ us, EqAt A s u v (valEq x u)) ∧ us.any (valEq x) = b
  | [], [], b, e, q => ⟨(fun zz h => nomatch h), Option.some.inj e⟩
  | [], _ :: _, _, _, q => nomatch (show _ = [] from q)
  | _ :: _, [], _, _, q => False.elim q
  | y :: ys, u :: us, b, e, q => by
    obtain ⟨hy, hx, a, b', he, hr, rfl⟩ := opt4 (a := scal y) (b := scal x) (c := eqS y x) (d := anyEq x ys) e
    obtain ⟨i1, i2⟩ := anyEq_at hu h1 hr q.2
    obtain ⟨j1, j2⟩ := valEq_at hu hx hy he h1 q.1
    refine ⟨fun w hw => ?_, by rw [List.any_cons, j2, i2]⟩
    rcases List.mem_cons.mp hw with rfl | hw
    · rw [j2]; exact j1
    · exact i1 w hw
end
end Mine
end P_A3
section P_A4
open PySem PySem.Calls PySem.SeqAt PyProof.Rows PySem.W
set_option autoImplicit false
set_option Elab.async false
namespace Mine
section
variable {prog : Program} {w : World} {K : Frag} {n₀ : Nat} {s s' : Shared} {ρ ρ' : Rho} {σ σ' : Hp} {P : List Addr} {L : Addr} {m : Loc} {A : Around} {E : Value → Shared → Prop}

theorem PR.atK {κ : Type} [DecidableEq κ] {R : V → Value → Prop} : ∀ {es : List (κ × V)} {kvs : List (κ × Value)}, PR R es kvs → ∀ k, (atK es k).isSome = (valueAt kvs k).isSome ∧ ∀ x, atK es k = some x → ∃ v, valueAt kvs k = some v ∧ R x v
  | [], kvs, q, k => by
    have : kvs = [] := q
    subst this
    exact ⟨rfl, fun zz h => by cases h⟩
  | _ :: _, [], q, _ => q.elim
  | e :: es, f :: kvs, q, k => by
    obtain ⟨q1, q2, q3⟩ := q
    by_cases h : e.1 = k
    · have h' : f.1 = k := q1 ▸ h
      refine ⟨by simp [Mine.atK, valueAt, h, h'], fun x hx => ?_⟩
      simp [Mine.atK, h] at hx
      subst hx
      exact ⟨f.2, by simp [valueAt, h'], q2⟩
    · have h' : ¬ f.1 = k := q1 ▸ h
      have ih := PR.atK q3 k
      have e1 : Mine.atK (e :: es) k = Mine.atK es k := by simp [Mine.atK, h]
      have e2 : valueAt (f :: kvs) k = valueAt kvs k := by simp [valueAt, h']
      rw [e1, e2]; exact ih
theorem PR.length {κ : Type} {R : V → Value → Prop} : ∀ {es : List (κ × V)} {kvs : List (κ × Value)}, PR R es kvs → es.length = kvs.length
  | [], kvs, q => by have : kvs = [] := q; subst this; rfl
  | _ :: _, [], q => q.elim
  | _ :: _, _ :: _, q => by simp [PR.length q.2.2]
theorem PR.keys {κ : Type} {R : V → Value → Prop} : ∀ {es : List (κ × V)} {kvs : List (κ × Value)}, PR R es kvs → es.map (·.1) = kvs.map (·.1)
  | [], kvs, q => by have : kvs = [] := q; subst this; rfl
  | _ :: _, [], q => q.elim
  | _ :: _, _ :: _, q => by simp [PR.keys q.2.2, q.1]
theorem PR.stK {κ : Type} [DecidableEq κ] {R : V → Value → Prop} {es : List (κ × V)} {kvs : List (κ × Value)} (q : PR R es kvs) (k : κ) {x : V} {v : Value} (hx : R x v) : PR R (stK es k x) (stored kvs k v) := by
  have ha : ∀ {es : List (κ × V)} {kvs : List (κ × Value)}, PR R es kvs → es.any (fun kv => kv.1 = k) = kvs.any (fun kv => kv.1 = k) := by
    intro es
    induction es with
    | nil => intro kvs q; have : kvs = [] := q; subst this; rfl
    | cons e es ih => intro kvs q; cases kvs with
      | nil => exact q.elim
      | cons f kvs => rw [List.any_cons, List.any_cons, ih q.2.2, q.1]
  have hm : ∀ {es : List (κ × V)} {kvs : List (κ × Value)}, PR R es kvs → PR R (es.map fun kv => if kv.1 = k then (kv.1, x) else kv) (kvs.map fun kv => if kv.1 = k then (kv.1, v) else kv) := by
    intro es
    induction es with
    | nil => intro kvs q; have : kvs = [] := q; subst this; rfl
    | cons e es ih => intro kvs q; cases kvs with
      | nil => exact q.elim
      | cons f kvs =>
        obtain ⟨q1, q2, q3⟩ := q
        refine ⟨?_, ?_, ih q3⟩
        · by_cases h : e.1 = k
          · have h' : f.1 = k := q1 ▸ h
            simp [h, h']
          · have h' : ¬ f.1 = k := q1 ▸ h
            simp [h, h', q1]
        · by_cases h : e.1 = k
          · have h' : f.1 = k := q1 ▸ h
            simp [h, h', hx]
          · have h' : ¬ f.1 = k := q1 ▸ h
            simp [h, h', q2]
  have hp : ∀ {es : List (κ × V)} {kvs : List (κ × Value)}, PR R es kvs → PR R (es ++ [(k, x)]) (kvs ++ [(k, v)]) := by
    intro es
    induction es with
    | nil => intro kvs q; have : kvs = [] := q; subst this; exact ⟨rfl, hx, rfl⟩
    | cons e es ih => intro kvs q; cases kvs with
      | nil => exact q.elim
      | cons f kvs => exact ⟨q.1, q.2.1, ih q.2.2⟩
  unfold Mine.stK stored
  rw [ha q]
  split
  · exact hm q
  · exact hp q
theorem PR.woK {κ : Type} [DecidableEq κ] {R : V → Value → Prop} (k : κ) : ∀ {es : List (κ × V)} {kvs : List (κ × Value)}, PR R es kvs → PR R (woK es k) (without kvs k)
  | [], kvs, q => by have : kvs = [] := q; subst this; exact rfl
  | _ :: _, [], q => q.elim
  | e :: es, f :: kvs, q => by
    obtain ⟨q1, q2, q3⟩ := q
    have ih := PR.woK k q3
    unfold Mine.woK without at ih ⊢
    by_cases h : e.1 = k
    · have h' : f.1 = k := q1 ▸ h
      simp only [List.filter_cons, h, h', ne_eq, not_true_eq_false, decide_false, Bool.false_eq_true, if_false]
      exact ih
    · have h' : ¬ f.1 = k := q1 ▸ h
      simp only [List.filter_cons, h, h', ne_eq, not_false_eq_true, decide_true, if_true]
      exact ⟨q1, q2, ih⟩

theorem St.flat_at (S : St prog w K n₀ s ρ σ) {i : Nat} {p : Addr × Option Addr} (h : ρ[i]? = some p) : n₀ ≤ p.1 := (S.own p.1 (List.mem_flatMap.mpr ⟨p, List.mem_of_getElem? h, .head _⟩)).1
theorem St.nsys (B : Bs K n₀) (S : St prog w K n₀ s ρ σ) {i : Nat} {p : Addr × Option Addr} (h : ρ[i]? = some p) : (p.1 == sysModules) = false := by
  exact beq_eq_false_iff_ne.mpr (Nat.ne_of_gt (Nat.lt_of_lt_of_le B.sys (S.flat_at h)))

theorem dictOf_empty {κ : Type} [DecidableEq κ] {knd : KeyKind prog w κ} {h : Heap} {a : Addr} {n : Nat} (e : h.get? a = some ⟨.type "dict", none, .dict #[] n, #[]⟩) : h.DictOf knd a [] :=
  ⟨_, #[], n, e, ⟨rfl, rfl, rfl⟩, rfl, fun zz h => by simp at h, .nil, .nil⟩
theorem dictOf_mapOf {κ : Type} [DecidableEq κ] {knd : KeyKind prog w κ} {h : Heap} {a : Addr} {kvs : List (κ × Value)} (e : h.DictOf knd a kvs) : h.MapOf knd a (valueAt kvs) :=
  let ⟨o, es, ep, e1, e2, e3, e4, e5, e6⟩ := e
  ⟨o, es, ep, e1, e2, e3, e4, fun k => by
    obtain ⟨l⟩ := es
    unfold findBy
    rw [List.find?_toArray]
    exact e5.find k⟩

theorem notin_of {κ : Type} [DecidableEq κ] {knd : KeyKind prog w κ} {d : Addr} {k : κ} {key : Value} {f : κ → Option Value} {Q : Value → Shared → Prop} (hkey : knd.is k key = true) (hd : (d == sysModules) = false) (hm : s.heap.MapOf knd d f)
    (h : Q (.bool !(f k).isSome) { s with toks := s.toks + 1 }) : wpAny (model prog w) A (compareOp .NotIn key (.ref d)) Q E s := by
  have z := wpAny_in_of (A := A) (E := E) (Q := fun v s' => ∃ b, v = .bool b ∧ Q (.bool !b) s') hkey hd hm ⟨_, rfl, h⟩
  have z' : wpAny (model prog w) A (do return .bool (← contains (.ref d) key)) (fun v s' => ∃ b, v = Value.bool b ∧ Q (.bool !b) s') E s := z
  show wpAny (model prog w) A (do return .bool (!(← contains (.ref d) key))) Q E s
  intro Γ p hΓ
  have y := z' Γ p hΓ
  rw [Sem.wp_bind'] at y ⊢
  refine Sem.wp_mono _ Γ _ (fun b p' s' q => ?_) (fun zz zz zz q => q) p s y
  obtain ⟨b', e1, e2⟩ := q
  cases e1
  exact e2

theorem in_kind (B : Bs K n₀) (S : St prog w K n₀ s ρ σ) {κ : Type} [DecidableEq κ] {knd : KeyKind prog w κ} {neg : Bool} {i : Nat} {p : Addr × Option Addr} {k : κ} {key : Value} {b : Bool} {kvs : List (κ × Value)} {Q : Value → Shared → Prop}
    (hp : ρ[i]? = some p) (hm : s.heap.DictOf knd p.1 kvs) (hkey : knd.is k key = true) (hb : (valueAt kvs k).isSome = b) (hQ : Back prog w K n₀ s ρ σ (fun _ _ (v : Value) => v = .bool (neg ^^ b)) Q) :
    wpAny (model prog w) A (compareOp (if neg then .NotIn else .In) key (.ref p.1)) Q E s := by
  cases neg with
  | false => exact wpAny_in_of hkey (S.nsys B hp) (dictOf_mapOf hm) (by rw [hb]; exact back_toks S hQ _ (by simp))
  | true => exact notin_of hkey (S.nsys B hp) (dictOf_mapOf hm) (by rw [hb]; exact back_toks S hQ _ (by simp))
theorem in_any (hu : A.units + 1 < cLine) (S : St prog w K n₀ s ρ σ) {neg : Bool} {x : V} {ys : List V} {b : Bool} {v : Value} {a : Addr} {us : Array Value} {Q : Value → Shared → Prop}
    (hl : s.heap.IsTuple a us ∨ s.heap.IsList a us) (e : anyEq x ys = some b) (h1 : VR ρ n₀ s.heap x v) (h2 : VRs ρ n₀ s.heap ys us.toList) (hQ : Back prog w K n₀ s ρ σ (fun _ _ (v : Value) => v = .bool (neg ^^ b)) Q) :
    wpAny (model prog w) A (compareOp (if neg then .NotIn else .In) v (.ref a)) Q E s := by
  obtain ⟨i1, i2⟩ := anyEq_at (A := A.in1) (by show A.units + 1 < cLine; exact hu) h1 e h2
  have i1' : ∀ y, y ∈ us → EqAt A.in1 s y v (valEq x y) := fun y hy => i1 y (Array.mem_toList_iff.mpr hy)
  have i2' : us.any (valEq x) = b := by rw [← i2, Array.any_toList]
  cases neg with
  | false => rcases hl with hl | hl
             · exact in_tupleAt _ hl i1' (by rw [i2']; exact back_now S hQ (by simp))
             · exact in_listAt _ hl i1' (by rw [i2']; exact back_now S hQ (by simp))
  | true => rcases hl with hl | hl
            · exact notIn_tupleAt _ hl i1' (by rw [i2']; exact back_now S hQ (by simp))
            · exact notIn_listAt _ hl i1' (by rw [i2']; exact back_now S hQ (by simp))

theorem snd_in (B : Bs K n₀) (hu : A.units + 1 < cLine) (S : St prog w K n₀ s ρ σ) {neg : Bool} {x y : V} {b : Bool} {v u : Value} {Q : Value → Shared → Prop} (e : inV x y σ = some (b, σ')) (h1 : VR ρ n₀ s.heap x v) (h2 : VR ρ n₀ s.heap y u)
    (hQ : Back prog w K n₀ s ρ σ' (fun _ _ (v : Value) => v = .bool (neg ^^ b)) Q) : wpAny (model prog w) A (compareOp (if neg then .NotIn else .In) v u) Q E s := by
  rcases inv_in e with ⟨ys, rfl, e'⟩ | ⟨i, o, rfl, g, e'⟩
  · obtain ⟨e1, rfl⟩ := ofO_some e'
    obtain ⟨a, us, n, rfl, g1, g2⟩ := h2.tup
    exact in_any hu S (.inl (isTuple_of g1)) e1 h1 g2 hQ
  · obtain ⟨p, hp, rfl⟩ := h2.ref
    have ob := S.at hp g
    clear e
    rcases e' with ⟨ys, rfl, e⟩ | ⟨rfl, ⟨k, rfl⟩, e⟩ | ⟨rfl, ⟨k, rfl⟩, e⟩ | ⟨es, k, rfl, rfl, e⟩ | ⟨es, k, rfl, rfl, e⟩
    · obtain ⟨e1, rfl⟩ := ofO_some e
      obtain ⟨_, us, n, g1, g2⟩ := ob
      exact in_any hu S (.inr (isList_of g1)) e1 h1 g2 hQ
    · cases e
      obtain ⟨_, n, g1⟩ := ob
      obtain ⟨t, rfl⟩ := h1.int
      exact in_kind B S (knd := intKind prog w) hp (dictOf_empty g1) (PySem.intKind_is _ _ _ _) rfl hQ
    · cases e
      obtain ⟨_, n, g1⟩ := ob
      obtain ⟨t, rfl⟩ := h1.str
      exact in_kind B S (knd := PySem.strKind prog w) hp (dictOf_empty g1) (PySem.strKind_is _ _ _ _) rfl hQ
    · cases e
      obtain ⟨_, kvs, g1, g2⟩ := ob
      obtain ⟨t, rfl⟩ := h1.int
      exact in_kind B S (knd := intKind prog w) hp g1 (PySem.intKind_is _ _ _ _) (g2.atK k).1.symm hQ
    · cases e
      obtain ⟨_, kvs, g1, g2⟩ := ob
      obtain ⟨t, rfl⟩ := h1.str
      exact in_kind B S (knd := PySem.strKind prog w) hp g1 (PySem.strKind_is _ _ _ _) (g2.atK k).1.symm hQ

set_option tactic.hygienic true in
theorem snd_cmp (B : Bs K n₀) (hu : A.units + 1 < cLine) (S : St prog w K n₀ s ρ σ) {op : CmpOp} {x y : V} {c : Bool} {v u : Value} {Q : Value → Shared → Prop} (e : cmpV op x y σ = some (c, σ')) (h1 : VR ρ n₀ s.heap x v) (h2 : VR ρ n₀ s.heap y u)
    (hQ : Back prog w K n₀ s ρ σ' (fun _ _ (v : Value) => v = .bool c) Q) : wpAny (model prog w) A (compareOp op v u) Q E s := by
  cases op
  case Eq =>
    rcases inv_eq e with ⟨i, j, xs, rfl, rfl, g1, g2, e'⟩ | e'
    · cases e'
      obtain ⟨a, vs, n, _, rfl, k1, k2⟩ := S.lst h1 g1
      obtain ⟨b, us, n', _, rfl, k3, k4⟩ := S.lst h2 g2
      have z2 : us.size = 0 := by have := k4.length; simpa using this.symm
      cases xs with
      | nil =>
        have z1 : vs.size = 0 := by have := k2.length; simpa using this.symm
        refine eq_listAt (e := fun _ => true) (isList_of k1) (isList_of k3) (z1.trans z2.symm) (by lia) (fun j h _ => by lia) ?_
        rw [z1]
        exact back_now S hQ rfl
      | cons x xs =>
        have z1 : 0 < vs.size := by have := k2.length; simp at this; lia
        exact eq_list_lengthsAt (isList_of k1) (isList_of k3) (by rw [z2]; simp; intro hh; rw [hh] at z1; simp at z1) (by lia) (back_now S hQ rfl)
    · obtain ⟨e1, rfl⟩ := ofO_some e'
      exact rc_V (A := A) hu e1 h1 h2 prog w E Q (back_now S hQ rfl)
  case NotEq =>
    rcases inv_ne e with ⟨i, j, rfl, rfl, e'⟩ | ⟨i, j, rfl, rfl, e'⟩ <;> cases e'
    · obtain ⟨t, rfl⟩ := h1.int
      obtain ⟨t', rfl⟩ := h2.int
      exact PyProof.Rows.ne_int (back_now S hQ rfl)
    · obtain ⟨t, rfl⟩ := h1.str
      obtain ⟨t', rfl⟩ := h2.str
      exact PyProof.Rows.ne_str (back_now S hQ rfl)
  case In => exact snd_in B hu S (neg := false) e h1 h2 (fun s' ρ' b e1 s1 r => hQ s' ρ' b e1 s1 (by simpa using r))
  case NotIn =>
    have e : bnd (inV x y) (fun c => ret (!c)) σ = some (c, σ') := e
    refine bnd_el e fun c' σ₁ g1 e2 => ?_
    obtain ⟨rfl, rfl⟩ := ret_some e2
    exact snd_in B hu S (neg := true) g1 h1 h2 (fun s' ρ' b e1 s1 r => hQ s' ρ' b e1 s1 (by simpa using r))
  case Is => exact (no_some e).elim
  case IsNot => exact (no_some e).elim
  case Lt =>
    obtain ⟨i, j, rfl, rfl, e'⟩ := inv_lt e
    cases e'
    obtain ⟨t, rfl⟩ := h1.int
    obtain ⟨t', rfl⟩ := h2.int
    exact PyProof.Rows.lt_int (back_now S hQ rfl)
  case LtE => exact (no_some e).elim
  case Gt =>
    obtain ⟨i, j, rfl, rfl, e'⟩ := inv_gt e
    cases e'
    obtain ⟨t, rfl⟩ := h1.int
    obtain ⟨t', rfl⟩ := h2.int
    exact PyProof.Rows.gt_int (back_now S hQ rfl)
  case GtE =>
    obtain ⟨i, j, rfl, rfl, e'⟩ := inv_ge e
    cases e'
    obtain ⟨t, rfl⟩ := h1.int
    obtain ⟨t', rfl⟩ := h2.int
    exact PyProof.Rows.ge_int (back_now S hQ rfl)

/-! ### items -/
theorem subscripted_plain {e : Expr} (h : isSlice e = false) (o i : Value) : subscripted e false o i = operate [o, i] (getItem o i) := by
  cases e <;> first | rfl | cases h
set_option tactic.hygienic true in
theorem idx_some {k : Int} {n j : Nat} (e : idx? k n = some j) : 0 ≤ k ∧ k < n ∧ k < 2 ^ 63 ∧ j = k.toNat := by
  unfold idx? at e
  split at e
  · rename_i h1
    split at e
    · rename_i h2
      cases e
      refine and_el h2 fun h2 h3 => ?_
      have := of_decide_eq_true h3
      exact ⟨of_decide_eq_true h1, of_decide_eq_true h2, by lia, rfl⟩
    · cases e
  · cases e
theorem seqIndex_of {k : Int} {n : Nat} (h0 : 0 ≤ k) (h1 : k < n) : seqIndex? k n = some k.toNat := by
  unfold seqIndex?
  simp only [show ¬ k < 0 by lia, if_false]
  simp [h0, h1]
end
end Mine
end P_A4
section P_A5
open PySem PySem.Calls PySem.SeqAt PyProof.Rows PySem.W
set_option autoImplicit false
set_option Elab.async false
namespace Mine
section
variable {prog : Program} {w : World} {K : Frag} {n₀ : Nat} {s s' : Shared} {ρ ρ' : Rho} {σ σ' : Hp} {P : List Addr} {L : Addr} {m : Loc} {A : Around} {E : Value → Shared → Prop}

set_option tactic.hygienic true in
theorem inv_itemO {i : V} {o : O} {p : V × Hp} (e : itemO i o σ = some p) : (∃ xs k, o = .list xs ∧ i = .int k ∧ ofO ((idx? k xs.length).bind fun j => xs[j]?) σ = some p) ∨ ∃ es k, o = .dstr es ∧ i = .str k ∧ ofO (atK es k) σ = some p := by
  cases o
  case list xs => obtain ⟨k, h, e⟩ := asI_some e; exact .inl ⟨xs, k, rfl, h, e⟩
  case dstr es => obtain ⟨k, h, e⟩ := asS_some e; exact .inr ⟨es, k, rfl, h, e⟩
  all_goals exact (no_some e).elim
set_option tactic.hygienic true in
theorem inv_item {x i : V} {p : V × Hp} (e : itemV x i σ = some p) : (∃ y k, x = .str y ∧ i = .int k ∧ ofO ((idx? k y.length).bind fun j => (y.cps[j]?).map fun c => V.str ⟨#[c]⟩) σ = some p) ∨ (∃ xs k, x = .tup xs ∧ i = .int k ∧ ofO ((idx? k xs.length).bind fun j => xs[j]?) σ = some p) ∨ ∃ r o, x = .ref r ∧ σ[r]? = some o ∧ itemO i o σ = some p := by
  cases x
  case str y => obtain ⟨k, h, e⟩ := asI_some e; exact .inl ⟨y, k, rfl, h, e⟩
  case tup xs => obtain ⟨k, h, e⟩ := asI_some e; exact .inr (.inl ⟨xs, k, rfl, h, e⟩)
  case ref r => obtain ⟨o, h, e⟩ := bgt_some e; exact .inr (.inr ⟨r, o, rfl, h, e⟩)
  all_goals exact (no_some e).elim

theorem snd_item (S : St prog w K n₀ s ρ σ) {x i r : V} {v u : Value} {Q : Value → Shared → Prop} (e : itemV x i σ = some (r, σ')) (h1 : VR ρ n₀ s.heap x v) (h2 : VR ρ n₀ s.heap i u)
    (hQ : BackV prog w K n₀ s ρ σ' r Q) : ∃ T id, s.TypeIs v T ∧ typeLookup (.type T) "__getitem__" = pure (some (.builtin id)) ∧ wpAny (model prog w) A (getItem v u) Q E s := by
  rcases inv_item e with ⟨y, k, rfl, rfl, e⟩ | ⟨xs, k, rfl, rfl, e⟩ | ⟨r', o, rfl, g, e⟩
  · obtain ⟨e1, rfl⟩ := ofO_some e
    obtain ⟨j, e2, e3⟩ := Option.bind_eq_some_iff.mp e1
    obtain ⟨c, e4, rfl⟩ := Option.map_eq_some_iff.mp e3
    obtain ⟨q1, q2, q3, rfl⟩ := idx_some e2
    obtain ⟨t, rfl⟩ := h1.str
    obtain ⟨t', rfl⟩ := h2.int
    refine ⟨"str", _, typeIs_str _ _ _, PySem.F.slot_str_getitem.lookup, PyProof.Rows.getItem_str ?_ ?_ (back_toks S hQ _ VR.ofStr)⟩
    · simp only [Bool.or_eq_false_iff, decide_eq_false_iff_not]; lia
    · rw [seqIndex_of q1 q2]; exact e4
  · obtain ⟨e1, rfl⟩ := ofO_some e
    obtain ⟨j, e2, e3⟩ := Option.bind_eq_some_iff.mp e1
    obtain ⟨q1, q2, q3, rfl⟩ := idx_some e2
    obtain ⟨a, vs, n, rfl, g1, g2⟩ := h1.tup
    obtain ⟨t', rfl⟩ := h2.int
    obtain ⟨v, g3, g4⟩ := g2.get e3
    have l1 : vs.size = xs.length := by rw [g2.length, Array.length_toList]
    refine ⟨"tuple", _, (isTuple_of g1).typeIs, PySem.F.slot_tuple_getitem.lookup, getItem_tuple (isTup_of g1) (by lia) q3 (seqIndex_of q1 (by rw [l1]; exact q2)) ?_ (back_now S hQ g4)⟩
    rw [← Array.getElem?_toList]; exact g3
  · obtain ⟨p, hp, rfl⟩ := h1.ref
    have ob := S.at hp g
    rcases inv_itemO e with ⟨xs, k, rfl, rfl, e1⟩ | ⟨es, k, rfl, rfl, e1⟩
    · obtain ⟨e2, rfl⟩ := ofO_some e1
      obtain ⟨j, e3, e4⟩ := Option.bind_eq_some_iff.mp e2
      obtain ⟨q1, q2, q3, rfl⟩ := idx_some e3
      obtain ⟨_, vs, n, g1, g2⟩ := ob
      obtain ⟨t', rfl⟩ := h2.int
      obtain ⟨v, g3, g4⟩ := g2.get e4
      refine ⟨"list", _, (isList_of g1).typeIs, PySem.F.slot_list_getitem.lookup, wpAny_getItem_list (isList_of g1) q1 q3 ?_ (back_now S hQ g4)⟩
      rw [← Array.getElem?_toList]; exact g3
    · obtain ⟨e2, rfl⟩ := ofO_some e1
      obtain ⟨_, kvs, g1, g2⟩ := ob
      obtain ⟨t', rfl⟩ := h2.str
      obtain ⟨v, g3, g4⟩ := (g2.atK _).2 _ e2
      exact ⟨"dict", _, (dictOf_mapOf g1).typeIs, PySem.F.slot_dict_getitem.lookup, wpAny_getItem_of (PySem.strKind_is prog w _ _) (dictOf_mapOf g1) g3 (back_toks S hQ _ g4)⟩

theorem VRs.cut {h : Heap} {xs : List V} {vs : Array Value} (q : VRs ρ n₀ h xs vs.toList) {lo hi : Option Int} (hlo : 0 ≤ lo.getD 0) (hhi : 0 ≤ hi.getD 0) : VRs ρ n₀ h (cutL xs lo hi) (slicePick vs lo hi none).toList := by
  have l1 : vs.size = xs.length := by rw [q.length, Array.length_toList]
  rw [slicePick_plain]
  unfold cutL
  have e1 : lo.elim 0 (clipAt vs.size) = min (lo.getD 0).toNat vs.size := by
    cases lo with
    | none => simp
    | some i =>
      simp only [Option.getD_some] at hlo
      obtain ⟨a, rfl⟩ := Int.eq_ofNat_of_zero_le hlo
      simp [clipAt_nat]
  have e2 : hi.elim vs.size (clipAt vs.size) = min (hi.getD vs.size).toNat vs.size := by
    cases hi with
    | none => simp
    | some i =>
      simp only [Option.getD_some] at hhi
      obtain ⟨a, rfl⟩ := Int.eq_ofNat_of_zero_le hhi
      simp [clipAt_nat]
  rw [e1, e2, ← l1]
  have z := (q.drop (lo.getD 0).toNat).take ((hi.getD vs.size).toNat - (lo.getD 0).toNat)
  have : ((vs.toList.drop (min (lo.getD 0).toNat vs.size)).take (min (hi.getD vs.size).toNat vs.size - min (lo.getD 0).toNat vs.size)) = (vs.toList.drop (lo.getD 0).toNat).take ((hi.getD vs.size).toNat - (lo.getD 0).toNat) := by
    generalize (lo.getD 0).toNat = a
    generalize (hi.getD vs.size).toNat = b
    by_cases h : a ≤ vs.size
    · rw [Nat.min_eq_left h]
      by_cases h2 : b ≤ vs.size
      · rw [Nat.min_eq_left h2]
      · have h3 : vs.size ≤ b := by lia
        rw [Nat.min_eq_right h3, List.take_of_length_le (by simp), List.take_of_length_le (by simp; lia)]
    · have h3 : vs.size ≤ a := by lia
      rw [Nat.min_eq_right h3, List.drop_of_length_le (by simp), List.drop_of_length_le (by simp; lia)]
      simp
  simpa [this] using z

/-- a new list -/
theorem back_list (B : Bs K n₀) (S : St prog w K n₀ s ρ σ) {Q : Value → Shared → Prop} {xs : List V} {vs : Array Value} {h' : Heap} (k n : Nat)
    (hk : ∀ a o, s.heap.get? a = some o → h'.get? a = some o) (_hs : s.heap.objs.size ≤ h'.objs.size) {a : Addr} (ha : s.heap.objs.size ≤ a) (hg : h'.get? a = some (lstObj vs n)) (hv : VRs ρ n₀ s.heap xs vs.toList)
    (hQ : BackV prog w K n₀ s ρ (σ ++ [.list xs]) (.ref σ.length) Q) : Q (.ref a) { s with heap := h', toks := k } := by
  have x : Ev [] s ρ { s with heap := h', toks := k } ρ := ⟨List.prefix_refl _, fun zz h => .inl h, fun a o e => ⟨o, hk a o e⟩, fun a o zz zz e => hk a o e, rfl, rfl, rfl⟩
  have T : Tr n₀ ρ s.heap (ρ ++ [(a, none)]) h' := ⟨List.prefix_append .., fun a o e zz => hk a o e⟩
  obtain ⟨S', x'⟩ := S.new B (p := (a, none)) (o := .list xs) x Wr.nil (fun a zz o e => hk a o e) (fun b hb => by
    simp at hb; subst hb; exact ⟨⟨Nat.le_trans S.lowle ha, Heap.get?_none_of_le ha⟩, _, hg, not_frz_list⟩) (by simp) ⟨rfl, vs, n, hg, VRs.tr T _ _ hv⟩
  refine hQ _ _ _ x' S' ?_
  exact ⟨(a, none), by rw [← S.len]; simp, rfl⟩

noncomputable abbrev slcObj (l u : Value) : Obj := { cls := .type "slice", data := .fields #[l, u, .none] }
set_option tactic.hygienic true in
theorem snd_slice (B : Bs K n₀) (S : St prog w K n₀ s ρ σ) {x r : V} {lo hi : Option Int} {v vl vu : Value} {Q : Value → Shared → Prop} (pl : IsPart vl lo) (pu : IsPart vu hi) (e : sliceV x lo hi σ = some (r, σ')) (h1 : VR ρ n₀ s.heap x v)
    (hQ : BackV prog w K n₀ s ρ σ' r Q) : ∃ T id, ({ s with heap := s.heap.push (slcObj vl vu) } : Shared).TypeIs v T ∧ typeLookup (.type T) "__getitem__" = pure (some (.builtin id)) ∧
      wpAny (model prog w) A (getItem v (.ref s.heap.objs.size)) Q E { s with heap := s.heap.push (slcObj vl vu) } := by
  have k1 : ∀ a o, s.heap.get? a = some o → (s.heap.push (slcObj vl vu)).get? a = some o := fun a o e => Heap.get?_push_of_some _ e
  have lst : ∀ {a : Addr} {vs : Array Value} {xs : List V}, s.heap.IsList a vs → VRs ρ n₀ s.heap xs vs.toList → 0 ≤ lo.getD 0 → 0 ≤ hi.getD 0 → newL (cutL xs lo hi) σ = some (r, σ') →
      vs.size ≤ sizeLine → ∃ T id, ({ s with heap := s.heap.push (slcObj vl vu) } : Shared).TypeIs (.ref a) T ∧ typeLookup (.type T) "__getitem__" = pure (some (.builtin id)) ∧
      wpAny (model prog w) A (getItem (.ref a) (.ref s.heap.objs.size)) Q E { s with heap := s.heap.push (slcObj vl vu) } := by
    intro a vs xs g1 g2 h0 h0' e1 hsz
    refine grd_el e1 fun _ e2 => ?_
    cases e2
    have hl : (s.heap.push (slcObj vl vu)).IsList a vs := let ⟨o, e, r⟩ := g1; ⟨o, k1 _ _ e, r⟩
    refine ⟨"list", _, hl.typeIs, PySem.F.slot_list_getitem.lookup, wpAny_getItem_list_slice hl (Heap.IsSliceOf.new ..) pl pu .none (by simp) ?_ hsz⟩
    refine back_list B S (n := 0) _ (fun a o e => Heap.get?_push_of_some _ (k1 a o e)) (by simp only [Heap.size_push]; lia) (by simp only [Heap.size_push]; lia) (Heap.get?_push_size _ rfl) (g2.cut h0 h0') hQ
  unfold sliceV at e
  by_cases hc : 0 ≤ lo.getD 0 ∧ 0 ≤ hi.getD 0
  rotate_left
  · rw [decide_eq_false hc] at e
    exact (stuck_some e).elim
  · rw [decide_eq_true hc] at e
    cases x <;> first | (exact (stuck_some e).elim) | skip
    case str y =>
      refine grd_el e fun g e1 => ?_
      obtain ⟨rfl, rfl⟩ := ret_some e1
      obtain ⟨t, rfl⟩ := h1.str
      have fin : ∀ t' k, Q (.str (Txt.slice y lo hi) t') { s with heap := s.heap.push (slcObj vl vu), toks := k } := fun t' k =>
        back_keep B S hQ k (by simp only [Heap.size_push]; lia) k1 VR.ofStr
      have hsz : ∀ l u, (Txt.slice y l u).length ≤ sizeLine := fun l u => Nat.le_trans (Txt.slice_le y l u) (okLen_line g)
      refine ⟨"str", _, typeIs_str _ _ _, PySem.F.slot_str_getitem.lookup, ?_⟩
      cases pl with
      | none => cases pu with
        | none => exact wpAny_getItem_str_slice (l := none) (u := none) (st := none) ⟨_, Heap.get?_push_size _ rfl, rfl, rfl⟩ rfl (post_val_or_str ⟨hsz _ _, fin⟩)
        | int j u => exact wpAny_getItem_str_slice (l := none) (u := some (j, u)) (st := none) ⟨_, Heap.get?_push_size _ rfl, rfl, rfl⟩ rfl (post_val_or_str ⟨hsz _ _, fin⟩)
      | int i t' => cases pu with
        | none => exact wpAny_getItem_str_slice (l := some (i, t')) (u := none) (st := none) ⟨_, Heap.get?_push_size _ rfl, rfl, rfl⟩ rfl (post_val_or_str ⟨hsz _ _, fin⟩)
        | int j u => exact wpAny_getItem_str_slice (l := some (i, t')) (u := some (j, u)) (st := none) ⟨_, Heap.get?_push_size _ rfl, rfl, rfl⟩ rfl (post_val_or_str ⟨hsz _ _, fin⟩)
    case flist xs =>
      obtain ⟨a, vs, rfl, _, g1, g2⟩ := h1
      refine grd_el e fun g0 e1 => ?_
      exact lst g1 g2 hc.1 hc.2 e1 (by rw [← Array.length_toList, ← g2.length]; exact okLen_line g0)
    case ref i =>
      refine bnd_el e fun xs σ₁ g e1 => ?_
      obtain ⟨g, rfl⟩ := gtL_some g
      obtain ⟨a, vs, n, _, rfl, g1, g2⟩ := S.lst h1 g
      refine grd_el e1 fun g0 e1 => ?_
      exact lst (isList_of g1) g2 hc.1 hc.2 e1 (by rw [← Array.length_toList, ← g2.length]; exact okLen_line g0)
end
end Mine
end P_A5
section P_A6
open PySem PySem.Calls PySem.SeqAt PyProof.Rows PySem.W
set_option autoImplicit false
set_option Elab.async false
namespace Mine
section
variable {prog : Program} {w : World} {K : Frag} {n₀ : Nat} {s s' : Shared} {ρ ρ' : Rho} {σ σ' : Hp} {P : List Addr} {L : Addr} {m : Loc} {A : Around} {E : Value → Shared → Prop}

theorem mapSeq_lst (f : Array Value → Array Value) (vs : Array Value) (n : Nat) : ∃ n', Obj.mapSeq f (lstObj vs n) = lstObj (f vs) n' := ⟨_, rfl⟩

/-- a tracked list is written -/
theorem back_lst (B : Bs K n₀) (S : St prog w K n₀ s ρ σ) {β : Type} {R : Rho → Heap → β → Prop} {Q : β → Shared → Prop} {i : Nat} {a : Addr} {vs : Array Value} {n : Nat} {xs : List V} {f : Array Value → Array Value} {b : β} (k : Nat)
    (hi : ρ[i]? = some (a, none)) (hg : s.heap.get? a = some (lstObj vs n)) (hv : VRs ρ n₀ s.heap xs (f vs).toList) (hQ : Back prog w K n₀ s ρ (σ.set i (.list xs)) R Q)
    (hr : ∀ h', Tr n₀ ρ s.heap ρ h' → R ρ h' b) : Q b { s with heap := s.heap.update a (Obj.mapSeq f), toks := k } := by
  obtain ⟨n', e⟩ := mapSeq_lst f vs n
  have hs : Heap.SameBut a s.heap (s.heap.update a (Obj.mapSeq f)) := .update ..
  have g : (s.heap.update a (Obj.mapSeq f)).get? a = some (lstObj (f vs) n') := by rw [← e]; exact Heap.get?_update_self _ hg rfl
  have T : Tr n₀ ρ s.heap ρ (s.heap.update a (Obj.mapSeq f)) := by
    refine ⟨List.prefix_refl _, fun b o e' h => ?_⟩
    by_cases hb : b = a
    · subst hb
      rw [hg] at e'
      cases e'
      rcases h with h | h
      · exact absurd h not_frz_list
      · exact absurd h (Nat.not_lt.mpr (S.flat_at hi))
    · exact (hs.2 b hb).trans e'
  obtain ⟨S', x⟩ := St.wr (s' := { s with heap := s.heap.update a (Obj.mapSeq f), toks := k }) B S hi (.head _) hs ⟨rfl, rfl, rfl⟩ ⟨_, g, not_frz_list⟩ (o := .list xs) ⟨rfl, _, _, g, VRs.tr T _ _ hv⟩
  exact hQ _ _ _ x S' (hr _ T)

theorem wpAny_setAt {l : Addr} {items : Array Value} {n : Nat} {k : Int} {t : Tok} {v : Value} {Q : Unit → Shared → Prop} (ho : s.heap.get? l = some (lstObj items n)) (h0 : 0 ≤ k) (hfit : k < 2 ^ 63) (hn : k < items.size)
    (hQ : Q () { s with heap := s.heap.update l (Obj.mapSeq (·.setIfInBounds k.toNat v)) }) : wpAny (model prog w) A (setItem (.ref l) (.int k t) v) Q E s := by
  have hl := isList_of ho
  unfold setItem
  try with_reducible refine wpAny_holding ?_
  first | refine wpAny_bind (wpAny_pure ?_) | skip
  refine wpAny_bind (wpAny_sequenceKey hl.typeIs (by decide) ?_)
  refine wpAny_bind (wpAny_callSpecial?_slot (name := Str.ofString "__setitem__") hl.typeIs PySem.F.slot_list_setitem
    (wpAny_call_entry PySem.F.slot_list_setitem hl.typeIs PySem.F.entry_list_setitem ?_ (PySem.F.args_list_setitem_3 _ _ _)))
  show wpAny _ _ (Builtin.List.listSubscript? (.int k t) >>= _) _ _ s
  refine wpAny_bind (wpAny_listSubscript_int (fitsIndex_of h0 hfit) ?_)
  clear hfit
  obtain ⟨j, rfl⟩ := Int.eq_ofNat_of_zero_le h0
  have hj : j < items.size := by lia
  have hx' : items[j]? = some items[j] := Array.getElem?_eq_getElem hj
  show wpAny _ _ ((seqItemAt l j >>= fun r => pure (r.map (j, ·))) >>= _) _ _ s
  refine wpAny_bind (wpAny_bind (wpAny_seqItemAt ho rfl (wpAny_pure ?_)))
  rw [hx']
  show wpAny _ _ (setSeqItemAt l j v >>= _) _ _ s
  refine wpAny_bind (wpAny_setSeqItemAt ho rfl ?_)
  exact wpAny_pure ⟨_, rfl, wpAny_pure hQ⟩

/-- a tracked dict is written -/
theorem back_dic (B : Bs K n₀) (S : St prog w K n₀ s ρ σ) {β : Type} {R : Rho → Heap → β → Prop} {Q : β → Shared → Prop} {i : Nat} {p : Addr × Option Addr} {o : O} {h' : Heap} {b : β} (k : Nat) (hd : ∃ es n, s.heap.get? p.1 = some ⟨.type "dict", none, .dict es n, #[]⟩)
    (hi : ρ[i]? = some p) (hs : Heap.SameBut p.1 s.heap h') (hn : ∃ o, h'.get? p.1 = some o ∧ ¬ Frz o) (ho : Tr n₀ ρ s.heap ρ h' → OR prog w ρ n₀ h' p o) (hQ : Back prog w K n₀ s ρ (σ.set i o) R Q)
    (hr : ∀ h', Tr n₀ ρ s.heap ρ h' → R ρ h' b) : Q b { s with heap := h', toks := k } := by
  have T : Tr n₀ ρ s.heap ρ h' := by
    refine ⟨List.prefix_refl _, fun b o e' h => ?_⟩
    by_cases hb : b = p.1
    · subst hb
      obtain ⟨es, n, hd⟩ := hd
      rw [hd] at e'
      cases e'
      rcases h with h | h
      · exact absurd h not_frz_dict
      · exact absurd h (Nat.not_lt.mpr (S.flat_at hi))
    · exact (hs.2 b hb).trans e'
  obtain ⟨S', x⟩ := St.wr (s' := { s with heap := h', toks := k }) B S hi (.head _) hs ⟨rfl, rfl, rfl⟩ hn (ho T)
  exact hQ _ _ _ x S' (hr _ T)
theorem dictOf_obj {κ : Type} [DecidableEq κ] {knd : KeyKind prog w κ} {h : Heap} {a : Addr} {kvs : List (κ × Value)} (e : h.DictOf knd a kvs) : ∃ es n, h.get? a = some ⟨.type "dict", none, .dict es n, #[]⟩ := by
  obtain ⟨⟨c, d, dt, sl⟩, es, ep, e1, ⟨e2, e3, e4⟩, e5, _⟩ := e
  dsimp only at e2 e3 e4 e5
  subst e2 e3 e4 e5
  exact ⟨es, ep, e1⟩
theorem dictOfH_obj {κ : Type} [DecidableEq κ] {knd : HeapKind prog w κ} {h : Heap} {a : Addr} {kvs : List (κ × Addr × Value)} (e : h.DictOfH knd a kvs) : ∃ es n, h.get? a = some ⟨.type "dict", none, .dict es n, #[]⟩ := by
  obtain ⟨⟨c, d, dt, sl⟩, es, ep, e1, ⟨e2, e3, e4⟩, e5, _⟩ := e
  dsimp only at e2 e3 e4 e5
  subst e2 e3 e4 e5
  exact ⟨es, ep, e1⟩
theorem nfr_dict {h : Heap} {a : Addr} (e : ∃ es n, h.get? a = some ⟨.type "dict", none, .dict es n, #[]⟩) : ∃ o, h.get? a = some o ∧ ¬ Frz o := let ⟨_, _, e⟩ := e; ⟨_, e, not_frz_dict⟩
theorem intsOf_some : ∀ {xs : List V} {ks : List Int}, intsOf xs = some ks → xs = ks.map V.int
  | [], ks, e => by cases e; rfl
  | x :: xs, ks, e => by
    cases x <;> first | (exact (no_some e).elim) | skip
    obtain ⟨l, h1, rfl⟩ := Option.map_eq_some_iff.mp e
    rw [intsOf_some h1]; rfl
theorem itemsAre_of {h : Heap} : ∀ {ks : List Int} {vs : List Value}, VRs ρ n₀ h (ks.map V.int) vs → ItemsAre (intKind prog w) ks vs
  | [], [], q => .nil
  | [], _ :: _, q => nomatch (show _ = [] from q)
  | k :: ks, [], q => False.elim q
  | k :: ks, v :: vs, q => by
    obtain ⟨t, rfl⟩ := VR.int q.1
    exact .cons (PySem.intKind_is prog w k t) (itemsAre_of q.2)
theorem asKey_of {x : V} {ks : List Int} {v : Value} {h : Heap} (e : asKey x = some ks) (q : VR ρ n₀ h x v) : ∃ a vs n, v = .ref a ∧ h.get? a = some (tupObj vs n) ∧ (tupleKind (intKind prog w)).is h ks a := by
  cases x <;> first | (exact (no_some e).elim) | skip
  obtain ⟨a, vs, n, rfl, g1, g2⟩ := q.tup
  rw [intsOf_some e] at g2
  exact ⟨a, vs, n, rfl, g1, _, vs, n, g1, rfl, rfl, itemsAre_of g2⟩
theorem PRH.stK {κ : Type} [DecidableEq κ] {R : V → Value → Prop} {es : List (κ × V)} {kvs : List (κ × Addr × Value)} (q : PRH R es kvs) (k : κ) (a : Addr) {x : V} {v : Value} (hx : R x v) : PRH R (stK es k x) (storedH kvs k a v) := by
  have ha : ∀ {es : List (κ × V)} {kvs : List (κ × Addr × Value)}, PRH R es kvs → es.any (fun kv => kv.1 = k) = (atKey kvs k).isSome := by
    intro es
    induction es with
    | nil => intro kvs q; have : kvs = [] := q; subst this; rfl
    | cons e es ih => intro kvs q; cases kvs with
      | nil => exact q.elim
      | cons f kvs =>
        rw [List.any_cons, ih q.2.2]
        by_cases h : e.1 = k
        · have h' : f.1 = k := q.1 ▸ h
          simp [atKey, h, h']
        · have h' : ¬ f.1 = k := q.1 ▸ h
          simp [atKey, h, h']
  have hm : ∀ {es : List (κ × V)} {kvs : List (κ × Addr × Value)}, PRH R es kvs → PRH R (es.map fun kv => if kv.1 = k then (kv.1, x) else kv) (kvs.map (putAt k v)) := by
    intro es
    induction es with
    | nil => intro kvs q; have : kvs = [] := q; subst this; rfl
    | cons e es ih => intro kvs q; cases kvs with
      | nil => exact q.elim
      | cons f kvs =>
        obtain ⟨q1, q2, q3⟩ := q
        refine ⟨?_, ?_, ih q3⟩
        · by_cases h : e.1 = k
          · have h' : f.1 = k := q1 ▸ h
            simp [putAt, h, h']
          · have h' : ¬ f.1 = k := q1 ▸ h
            simp [putAt, h', q1]
        · by_cases h : e.1 = k
          · have h' : f.1 = k := q1 ▸ h
            simp [putAt, h, h', hx]
          · have h' : ¬ f.1 = k := q1 ▸ h
            simp [putAt, h, h', q2]
  have hp : ∀ {es : List (κ × V)} {kvs : List (κ × Addr × Value)}, PRH R es kvs → PRH R (es ++ [(k, x)]) (kvs ++ [(k, a, v)]) := by
    intro es
    induction es with
    | nil => intro kvs q; have : kvs = [] := q; subst this; exact ⟨rfl, hx, rfl⟩
    | cons e es ih => intro kvs q; cases kvs with
      | nil => exact q.elim
      | cons f kvs => exact ⟨q.1, q.2.1, ih q.2.2⟩
  unfold Mine.stK storedH
  rw [ha q]
  split
  · exact hm q
  · exact hp q
theorem PRH.length {κ : Type} {R : V → Value → Prop} : ∀ {es : List (κ × V)} {kvs : List (κ × Addr × Value)}, PRH R es kvs → es.length = kvs.length
  | [], kvs, q => by have : kvs = [] := q; subst this; rfl
  | _ :: _, [], q => q.elim
  | _ :: _, _ :: _, q => by simp [PRH.length q.2.2]
theorem storedH_mem {κ : Type} [DecidableEq κ] {kvs : List (κ × Addr × Value)} {k : κ} {a : Addr} {v : Value} {x : κ × Addr × Value} (h : x ∈ storedH kvs k a v) : x.2.1 = a ∨ ∃ y ∈ kvs, y.2.1 = x.2.1 := by
  unfold storedH at h
  split at h
  · obtain ⟨y, hy, rfl⟩ := List.mem_map.mp h
    refine .inr ⟨y, hy, ?_⟩
    unfold putAt
    split <;> rfl
  · rcases List.mem_append.mp h with h | h
    · exact .inr ⟨x, h, rfl⟩
    · simp at h; subst h; exact .inl rfl

theorem set_pair (B : Bs K n₀) (hu : A.units + 2 < cLine) (S : St prog w K n₀ s ρ σ) {i : Nat} {p : Addr × Option Addr} {es : List (List Int × V)} {xs : List (List Int × Addr × Value)} {ks : List Int} {z : V} {k : V} {u v : Value} {Q : Unit → Shared → Prop}
    (hp : ρ[i]? = some p) (h0 : p.2 = none) (g1 : s.heap.DictOfH (tupleKind (intKind prog w)) p.1 xs) (g2 : PRH (VR ρ n₀ s.heap) es xs) (g3 : ∀ x ∈ xs, ∃ vs n, s.heap.get? x.2.1 = some (tupObj vs n)) (hk : asKey k = some ks) (h2 : VR ρ n₀ s.heap k u) (h3 : VR ρ n₀ s.heap z v)
    (hsz : xs.length ≤ sizeLine) (hQ : Back prog w K n₀ s ρ (σ.set i (.dpair (stK es ks z))) (fun _ _ (_ : Unit) => True) Q) : wpAny (model prog w) A (setItem (.ref p.1) u v) Q E s := by
  obtain ⟨a, vs, n, rfl, k1, k2⟩ := asKey_of (prog := prog) (w := w) hk h2
  refine wpAny_setItem_heap (tupleKind_room_in1 (by lia)) k2 g1 (fun h' d1 d2 => ?_) hsz
  refine back_dic B S (o := .dpair (stK es ks z)) (R := fun _ _ (_ : Unit) => True) _ (dictOfH_obj g1) hp d2 (nfr_dict (dictOfH_obj d1)) (fun T => ⟨h0, _, d1, (g2.mono (VR.tr T)).stK ks a (VR.tr T _ _ h3), fun x hx => ?_⟩) hQ fun zz zz => trivial
  rcases storedH_mem hx with e | ⟨y, hy, e⟩
  · rw [e]; exact ⟨vs, n, T.frz _ _ k1 (.inl (.inl ⟨_, _, rfl⟩))⟩
  · obtain ⟨vs', n', e'⟩ := g3 y hy
    rw [← e]; exact ⟨vs', n', T.frz _ _ e' (.inl (.inl ⟨_, _, rfl⟩))⟩

theorem set_int (B : Bs K n₀) (S : St prog w K n₀ s ρ σ) {i : Nat} {p : Addr × Option Addr} {es : List (Int × V)} {kvs : List (Int × Value)} {k : Int} {t : Tok} {z : V} {v : Value} {Q : Unit → Shared → Prop} (hp : ρ[i]? = some p) (h0 : p.2 = none)
    (g1 : s.heap.DictOf (intKind prog w) p.1 kvs) (g2 : PR (VR ρ n₀ s.heap) es kvs) (h3 : VR ρ n₀ s.heap z v) (hsz : kvs.length ≤ sizeLine) (hQ : Back prog w K n₀ s ρ (σ.set i (.dint (stK es k z))) (fun _ _ (_ : Unit) => True) Q) :
    wpAny (model prog w) A (setItem (.ref p.1) (.int k t) v) Q E s :=
  wpAny_setItem_pairs (PySem.intKind_is prog w k t) g1 (fun h' d1 d2 => back_dic B S (o := .dint (stK es k z)) (R := fun _ _ (_ : Unit) => True) _ (dictOf_obj g1) hp d2 (nfr_dict (dictOf_obj d1))
    (fun T => ⟨h0, _, d1, (g2.mono (VR.tr T)).stK k (VR.tr T _ _ h3)⟩) hQ fun zz zz => trivial) hsz
theorem set_str (B : Bs K n₀) (S : St prog w K n₀ s ρ σ) {i : Nat} {p : Addr × Option Addr} {es : List (Str × V)} {kvs : List (Str × Value)} {k : Str} {t : Tok} {z : V} {v : Value} {Q : Unit → Shared → Prop} (hp : ρ[i]? = some p) (h0 : p.2 = none)
    (g1 : s.heap.DictOf (PySem.strKind prog w) p.1 kvs) (g2 : PR (VR ρ n₀ s.heap) es kvs) (h3 : VR ρ n₀ s.heap z v) (hsz : kvs.length ≤ sizeLine) (hQ : Back prog w K n₀ s ρ (σ.set i (.dstr (stK es k z))) (fun _ _ (_ : Unit) => True) Q) :
    wpAny (model prog w) A (setItem (.ref p.1) (.str k t) v) Q E s :=
  wpAny_setItem_pairs (PySem.strKind_is prog w k t) g1 (fun h' d1 d2 => back_dic B S (o := .dstr (stK es k z)) (R := fun _ _ (_ : Unit) => True) _ (dictOf_obj g1) hp d2 (nfr_dict (dictOf_obj d1))
    (fun T => ⟨h0, _, d1, (g2.mono (VR.tr T)).stK k (VR.tr T _ _ h3)⟩) hQ fun zz zz => trivial) hsz

theorem inv_setK {r : Nat} {i v : V} {p : Unit × Hp} (e : setK r i v σ = some p) : ∃ ks, asKey i = some ks ∧ p = ((), σ.set r (.dpair [(ks, v)])) := by
  unfold setK at e
  generalize hz : asKey i = zz at e
  cases zz with
  | none => exact (no_some e).elim
  | some ks => exact ⟨ks, rfl, (Option.some.inj e).symm⟩
theorem inv_setN {r : Nat} {i v : V} {p : Unit × Hp} (e : setN r i v σ = some p) : (∃ k, i = .int k ∧ p = ((), σ.set r (.dint [(k, v)]))) ∨ (∃ k, i = .str k ∧ p = ((), σ.set r (.dstr [(k, v)]))) ∨ ∃ ks, asKey i = some ks ∧ p = ((), σ.set r (.dpair [(ks, v)])) := by
  cases i <;> first | exact .inl ⟨_, rfl, (Option.some.inj e).symm⟩ | exact .inr (.inl ⟨_, rfl, (Option.some.inj e).symm⟩) | exact .inr (.inr (inv_setK e)) | exact (no_some e).elim
set_option tactic.hygienic true in
theorem inv_setO {r : Nat} {i v : V} {o : O} {p : Unit × Hp} (e : setO r i v o σ = some p) : (∃ xs k j, o = .list xs ∧ i = .int k ∧ idx? k xs.length = some j ∧ p = ((), σ.set r (.list (xs.set j v)))) ∨ (o = .dnew ∧ setN r i v σ = some p) ∨
    (∃ es k, o = .dint es ∧ i = .int k ∧ okLen es.length = true ∧ p = ((), σ.set r (.dint (stK es k v)))) ∨ (∃ es k, o = .dstr es ∧ i = .str k ∧ okLen es.length = true ∧ p = ((), σ.set r (.dstr (stK es k v)))) ∨
    ∃ es ks, o = .dpair es ∧ asKey i = some ks ∧ okLen es.length = true ∧ p = ((), σ.set r (.dpair (stK es ks v))) := by
  obtain ⟨p1, p2⟩ := p
  cases o
  case list xs =>
    obtain ⟨k, h, e⟩ := asI_some e
    generalize hj : idx? k xs.length = zz at e
    cases zz with
    | none => exact (no_some e).elim
    | some j => exact .inl ⟨xs, k, j, rfl, h, hj, (Option.some.inj e).symm⟩
  case dnew => exact .inr (.inl ⟨rfl, e⟩)
  case dint es => obtain ⟨k, h, e⟩ := asI_some e; obtain ⟨c, e⟩ := grd_some e; exact .inr (.inr (.inl ⟨es, k, rfl, h, c, (Option.some.inj e).symm⟩))
  case dstr es => obtain ⟨k, h, e⟩ := asS_some e; obtain ⟨c, e⟩ := grd_some e; exact .inr (.inr (.inr (.inl ⟨es, k, rfl, h, c, (Option.some.inj e).symm⟩)))
  case dpair es =>
    dsimp only [setO] at e
    generalize hz : asKey i = zz at e
    cases zz with
    | none => exact (no_some e).elim
    | some ks => obtain ⟨c, e⟩ := grd_some e; exact .inr (.inr (.inr (.inr ⟨es, ks, rfl, rfl, c, (Option.some.inj e).symm⟩)))
  case inst => exact (no_some e).elim

theorem snd_setItem (B : Bs K n₀) (hu : A.units + 2 < cLine) (S : St prog w K n₀ s ρ σ) {x k z : V} {a u v : Value} {r : Unit} {Q : Unit → Shared → Prop} (e : setItemV x k z σ = some (r, σ')) (h1 : VR ρ n₀ s.heap x a) (h2 : VR ρ n₀ s.heap k u) (h3 : VR ρ n₀ s.heap z v)
    (hQ : Back prog w K n₀ s ρ σ' (fun _ _ (_ : Unit) => True) Q) : wpAny (model prog w) A (setItem a u v) Q E s := by
  obtain ⟨i, rfl, e⟩ := asR_some e
  obtain ⟨o, g, e⟩ := bgt_some e
  obtain ⟨p, hp, rfl⟩ := h1.ref
  have ob := S.at hp g
  rcases inv_setO e with ⟨xs, k, j, rfl, rfl, hj, e1⟩ | ⟨rfl, e1⟩ | ⟨es, k, rfl, rfl, c, e1⟩ | ⟨es, k, rfl, rfl, c, e1⟩ | ⟨es, ks, rfl, hk, c, e1⟩
  · obtain ⟨t', rfl⟩ := h2.int
    obtain ⟨p0, vs, n, g1, g2⟩ := ob
    obtain ⟨a, b⟩ := p
    dsimp only at p0 g1
    subst p0
    obtain ⟨q1, q2, q3, rfl⟩ := idx_some hj
    cases e1
    rw [g2.length, Array.length_toList] at q2
    refine wpAny_setAt g1 q1 q3 q2 (back_lst B S (R := fun _ _ (_ : Unit) => True) _ hp g1 ?_ hQ fun zz zz => trivial)
    rw [Array.toList_setIfInBounds]
    exact g2.set h3
  · obtain ⟨p0, n, g1⟩ := ob
    rcases inv_setN e1 with ⟨k, rfl, e1⟩ | ⟨k, rfl, e1⟩ | ⟨ks, hk, e1⟩ <;> cases e1
    · obtain ⟨t', rfl⟩ := h2.int
      exact set_int B S (es := []) hp p0 (dictOf_empty g1) rfl h3 (Nat.zero_le _) hQ
    · obtain ⟨t', rfl⟩ := h2.str
      exact set_str B S (es := []) hp p0 (dictOf_empty g1) rfl h3 (Nat.zero_le _) hQ
    · exact set_pair B hu S (es := []) (xs := []) hp p0 ⟨_, #[], n, g1, ⟨rfl, rfl, rfl⟩, rfl, rfl, (fun zz h => nomatch h), .nil⟩ rfl (fun zz h => nomatch h) hk h2 h3 (Nat.zero_le _) hQ
  · obtain ⟨t', rfl⟩ := h2.int
    cases e1
    obtain ⟨p0, kvs, g1, g2⟩ := ob
    exact set_int B S hp p0 g1 g2 h3 (by rw [← g2.length]; exact okLen_line c) hQ
  · obtain ⟨t', rfl⟩ := h2.str
    cases e1
    obtain ⟨p0, kvs, g1, g2⟩ := ob
    exact set_str B S hp p0 g1 g2 h3 (by rw [← g2.length]; exact okLen_line c) hQ
  · obtain ⟨p0, xs, g1, g2, g3⟩ := ob
    cases e1
    exact set_pair B hu S hp p0 g1 g2 g3 hk h2 h3 (by rw [← g2.length]; exact okLen_line c) hQ
end
end Mine
end P_A6
section P_A7
open PySem PySem.Calls PySem.SeqAt PyProof.Rows PySem.W
set_option autoImplicit false
set_option maxRecDepth 100000
set_option Elab.async false
namespace Mine
section
variable {prog : Program} {w : World} {K : Frag} {n₀ : Nat} {s s' : Shared} {ρ ρ' : Rho} {σ σ' : Hp} {P : List Addr} {L : Addr} {m : Loc} {A : Around} {E : Value → Shared → Prop}

theorem delItem_meetsIn {T id : String} {B : Builtin} {o i : Value} {S : PySem.Spec} {Q : Unit → Shared → Prop} (hT : s.TypeIs o T) (hn : seqItemTypes.contains T = false) (slot : Slot T "__delitem__" id) (entry : entryFor table id = some B) (args : argsOk id ⟨[o, i], []⟩)
    (g : MeetsIn prog w (B ⟨[o, i], []⟩) S) (h : S A (wants (fun zz s' => Q () s') E) s) : wpAny (model prog w) A (delItem o i) Q E s :=
  wpAny_delItem_slot hT hn slot (call_meetsIn slot hT entry args g h)

set_option tactic.hygienic true in
theorem inv_delO {r : Nat} {k : Int} {o : O} {p : Unit × Hp} (e : delO r k o σ = some p) : ∃ es, o = .dint es ∧ ((atK es k).isSome && okLen es.length) = true ∧ p = ((), σ.set r (.dint (woK es k))) := by
  obtain ⟨p1, p2⟩ := p
  cases o
  case dint es => obtain ⟨c, e⟩ := grd_some e; exact ⟨es, rfl, c, (Option.some.inj e).symm⟩
  all_goals exact (no_some e).elim
theorem snd_delItem (B : Bs K n₀) (S : St prog w K n₀ s ρ σ) {x k : V} {a u : Value} {r : Unit} {Q : Unit → Shared → Prop} (e : delItemV x k σ = some (r, σ')) (h1 : VR ρ n₀ s.heap x a) (h2 : VR ρ n₀ s.heap k u)
    (hQ : Back prog w K n₀ s ρ σ' (fun _ _ (_ : Unit) => True) Q) : wpAny (model prog w) A (delItem a u) Q E s := by
  obtain ⟨i, rfl, e⟩ := asR_some e
  obtain ⟨k, rfl, e⟩ := asI_some e
  obtain ⟨o, g, e⟩ := bgt_some e
  obtain ⟨es, rfl, c, e2⟩ := inv_delO e
  obtain ⟨p, hp, rfl⟩ := h1.ref
  obtain ⟨t, rfl⟩ := h2.int
  have ob := S.at hp g
  refine and_el c fun c1 c2 => ?_
  cases e2
  obtain ⟨p0, kvs, g1, g2⟩ := ob
  refine delItem_meetsIn (dictOf_mapOf g1).typeIs (by decide) PySem.F.slot_dict_delitem PySem.F.entry_dict_delitem (PySem.F.args_dict_delitem_2 _ _) (meets_dict_delitem_pairs (intKind prog w) _ (PySem.intKind_is prog w k t)) ⟨kvs, g1, by rw [← g2.length]; exact okLen_line c2, by rw [← (g2.atK k).1]; exact c1, fun h' d1 d2 => ?_⟩
  exact back_dic B S (o := .dint (woK _ k)) (R := fun _ _ (_ : Unit) => True) _ (dictOf_obj g1) hp d2 (nfr_dict (dictOf_obj d1)) (fun T => ⟨p0, _, d1, (g2.mono (VR.tr T)).woK k⟩) hQ fun zz zz => trivial

/-! ### attributes -/
theorem FR.find {R : V → Value → Prop} (x : Str) : ∀ {fs : List (Str × V)} {es : List DictEntry}, FR R fs es →
    (match lk fs x with | some y => ∃ v, getL x es = some (some v) ∧ R y v | none => getL x es = some none)
  | [], es, q => by have : es = [] := q; subst this; rfl
  | _ :: _, [], q => q.elim
  | f :: fs, e :: es, q => by
    obtain ⟨⟨t, q1⟩, q2, q3⟩ := q
    have ih := FR.find x q3
    have hk : e.key.isStr x = (f.1 == x) := by rw [q1]; rfl
    have hr : e.refKey = false := by simp [DictEntry.refKey, q1]
    have hl : lk (f :: fs) x = (match f.1 == x with | true => some f.2 | false => lk fs x) := rfl
    rw [hl]
    cases hc : f.1 == x with
    | true =>
      rw [hc] at hk
      exact ⟨e.val, by unfold getL; rw [List.find?_cons, hk], q2⟩
    | false =>
      rw [hc] at hk
      have e1 : getL x (e :: es) = getL x es := by
        unfold getL
        rw [List.find?_cons, hk, List.any_cons, hr, Bool.false_or]
      dsimp only
      rw [e1]
      exact ih
theorem FR.put {R : V → Value → Prop} {x : Str} {hsh : Int} {t : Tok} {y : V} {v : Value} (hy : R y v) : ∀ {fs : List (Str × V)} {es : List DictEntry}, FR R fs es → FR R (put fs x y) (putL x hsh (.str x t) v es)
  | [], es, q => by have : es = [] := q; subst this; exact ⟨⟨t, rfl⟩, hy, rfl⟩
  | _ :: _, [], q => q.elim
  | f :: fs, e :: es, q => by
    obtain ⟨⟨t', q1⟩, q2, q3⟩ := q
    have ih := FR.put (x := x) (t := t) (hsh := hsh) hy q3
    have hk : e.key.isStr x = (f.1 == x) := by rw [q1]; rfl
    have hl : Mine.put (f :: fs) x y = (match f.1 == x with | true => (x, y) :: fs | false => f :: Mine.put fs x y) := rfl
    rw [hl]
    unfold putL
    rw [hk]
    cases hc : f.1 == x with
    | true =>
      have : f.1 = x := eq_of_beq hc
      exact ⟨⟨t', by rw [← this]; exact q1⟩, hy, q3⟩
    | false => exact ⟨⟨t', q1⟩, q2, ih⟩
theorem FR.length {R : V → Value → Prop} : ∀ {fs : List (Str × V)} {es : List DictEntry}, FR R fs es → fs.length = es.length
  | [], es, q => by have : es = [] := q; subst this; rfl
  | _ :: _, [], q => q.elim
  | _ :: _, _ :: _, q => by simp [FR.length q.2.2]

theorem inst_at {p : Addr × Option Addr} {C : Addr} {fs : List (Str × V)} (h : OR prog w ρ n₀ s.heap p (.inst C fs)) : ∃ dx es n, p.2 = some dx ∧ s.heap.get? dx = some (dictOf es n) ∧ FR (VR ρ n₀ s.heap) fs es ∧
    InstAt s.heap p.1 ⟨.ref C, some dx, .plain, #[]⟩ C (some (dictOf es n)) :=
  let ⟨dx, es, n, e0, e1, e2, e3⟩ := h
  ⟨dx, es, n, e0, e2, e3, e1, rfl, rfl, e2⟩

theorem VR.handed {h : Heap} {x : V} {v : Value} (q : VR ρ n₀ h x v) (hb : ∀ id, x = .bi id → (withoutEnding? id "#data").isNone = true) : handedIn v = true := by
  cases x with
  | none | bool | fn | ty => change _ = _ at q; subst q; rfl
  | bi id => change _ = _ at q; subst q; exact hb id rfl
  | int | str => exact q.elim fun zz q => q ▸ rfl
  | tup | flist => exact q.elim fun zz q => q.elim fun zz q => (by first | exact q.1 ▸ rfl | exact q.elim fun zz q => q.1 ▸ rfl)
  | rng => exact q.elim fun zz q => q.elim fun zz q => q.elim fun zz q => q.elim fun zz q => q.1 ▸ rfl
  | ref => exact q.elim fun zz q => q.2 ▸ rfl

set_option tactic.hygienic true in
theorem snd_attr (S : St prog w K n₀ s ρ σ) {x r : V} {v : Value} {name : Str} {expr : Bool} {Q : Value → Shared → Prop} (e : attrV K x name σ = some (r, σ')) (h1 : VR ρ n₀ s.heap x v)
    (hQ : BackV prog w K n₀ s ρ σ' r Q) : wpAny (model prog w) A (getAttr v name expr) Q E s := by
  cases x <;> first | (exact (no_some e).elim) | skip
  delta attrV at e; dsimp only at e
  rename_i i
  refine bnd_el e fun o σ₁ g e1 => ?_
  obtain ⟨g, rfl⟩ := gt_some g
  obtain ⟨p, hp, rfl⟩ := h1.ref
  have ob := S.at hp g
  cases o <;> first | (exact (stuck_some e1).elim) | skip
  rename_i C fs _
  obtain ⟨dx, es, n, q0, q1, q2, I⟩ := inst_at ob
  dsimp only at e1
  generalize hc : okGet K C name = c at e1
  cases c with
  | false => exact (stuck_some e1).elim
  | true =>
    refine grd_el e1 fun e2 e3' => ?_
    obtain ⟨e3, rfl⟩ := ofO_some e3'
    unfold okGet at hc
    refine and_el hc fun c1 c2 => ?_
    refine and_el c1 fun c0 c1' => ?_
    have fd := q2.find name
    rw [e3] at fd
    obtain ⟨v', f1, f2⟩ := fd
    have hb : ∀ id, r = .bi id → (withoutEnding? id "#data").isNone = true := fun id h => by subst h; rw [e3] at e2; cases e2
    generalize hf : findIn K (.ref C) name = z at c2
    cases z with
    | none => cases c2
    | some at' => exact get_value S.kin I (plainGet_of c0).1 (findObj_own c1' hf c2 f1) (f2.handed hb) (back_toks S hQ _ f2)

set_option tactic.hygienic true in
theorem nsSet_dict {M : Model} {a : Addr} {es : List DictEntry} {n : Nat} {name : Str} {v : Value} {Q : Unit → Shared → Prop} (hg : s.heap.get? a = some (dictOf es n)) (hr : getL name es ≠ none) 
    (h : ∀ hsh, Q () { s with heap := s.heap.update a (Obj.putName name hsh (.str name s.toks) v), toks := s.toks + 1 }) : wpAny M A (nsSet a name v) Q E s := by
  unfold nsSet
  refine wpAny_bind (wpAny_bind (wpAny_askSetting (wpAny_pure (wpAny_bind (wpAny_mkText (wpAny_bind (wpAny_loadPart hg ?_)))))))
  dsimp only
  have c : (!es.toArray.any (·.key.isStr name) && es.toArray.any (·.refKey)) = false := by
    rw [← Array.any_toList, ← Array.any_toList]
    unfold getL at hr
    split at hr
    · rename_i en he
      rw [List.any_eq_true.mpr ⟨en, List.mem_of_find?_eq_some he, List.find?_some he⟩]; rfl
    · split at hr
      · exact absurd rfl hr
      · rename_i z; rw [Bool.not_eq_true] at z; rw [z, Bool.and_false]
  rw [aRefKeyMayBeTheName_at, c]
  refine wpAny_updatePart hg ?_
  exact h _

theorem putL_le (name : Str) (hsh : Int) (k v : Value) : ∀ l : List DictEntry, (putL name hsh k v l).length ≤ l.length + 1
  | [] => by simp [putL]
  | e :: l => by
    have := putL_le name hsh k v l
    unfold putL
    split <;> simp <;> lia

/-- an instance's dict is written -/
theorem back_inst (B : Bs K n₀) (S : St prog w K n₀ s ρ σ) {i : Nat} {p : Addr × Option Addr} {C dx : Addr} {fs' : List (Str × V)} {es es' : List DictEntry} {n n' : Nat} {f : Obj → Obj} {Q : Unit → Shared → Prop} (k : Nat)
    (hi : ρ[i]? = some p) (h0 : p.2 = some dx) (hx : s.heap.get? p.1 = some ⟨.ref C, some dx, .plain, #[]⟩) (hg : s.heap.get? dx = some (dictOf es n)) (hf : f (dictOf es n) = dictOf es' n') (hr : FR (VR ρ n₀ s.heap) fs' es')
    (hQ : Back prog w K n₀ s ρ (σ.set i (.inst C fs')) (fun _ _ (_ : Unit) => True) Q) : Q () { s with heap := s.heap.update dx f, toks := k } := by
  have hm : dx ∈ p.1 :: p.2.toList := by rw [h0]; exact .tail _ (.head _)
  have hfl : dx ∈ flat ρ := List.mem_flatMap.mpr ⟨p, List.mem_of_getElem? hi, hm⟩
  have hs : Heap.SameBut dx s.heap (s.heap.update dx f) := .update ..
  have g : (s.heap.update dx f).get? dx = some (dictOf es' n') := by rw [← hf]; exact Heap.get?_update_self _ hg (by rw [hf]; rfl)
  have hne : p.1 ≠ dx := fun e => by rw [e] at hx; rw [hg] at hx; cases hx
  have T : Tr n₀ ρ s.heap ρ (s.heap.update dx f) := by
    refine ⟨List.prefix_refl _, fun b o e' h => ?_⟩
    by_cases hb : b = dx
    · subst hb
      rw [hg] at e'
      cases e'
      rcases h with h | h
      · exact absurd h not_frz_dict
      · exact absurd h (Nat.not_lt.mpr (S.own _ hfl).1)
    · exact (hs.2 b hb).trans e'
  obtain ⟨S', x⟩ := St.wr (s' := { s with heap := s.heap.update dx f, toks := k }) B S hi hm hs ⟨rfl, rfl, rfl⟩ ⟨_, g, not_frz_dict⟩ (o := .inst C fs') ⟨dx, es', n', h0, (hs.2 _ hne).trans hx, g, hr.mono (VR.tr T)⟩
  exact hQ _ _ _ x S' trivial

theorem osa_upd {ox : Obj} {x C dx : Addr} {es : List DictEntry} {n : Nat} {name : Str} {tk : Tok} {v : Value} {R : Result → Shared → Prop} (X : K.In s.heap) (I : InstAt s.heap x ox C (some (dictOf es n))) (hd : ox.dict = some dx) (hp : plainOver K C = true)
    (ht : takerIn K C name = some none) (hh : (clsIn K C).any (·.hasDict) = true) (hgl : getL name es ≠ none) (hz : es.length ≤ 200)
    (h : ∀ hsh, R (.ok (.ret .none)) { s with heap := s.heap.update dx (Obj.putName name hsh (.str name s.toks) v), toks := s.toks + 1 }) :
    codeAny (model prog w) A (.call (.builtin "object.__setattr__") ⟨[.ref x, .str name tk, v], []⟩) R s := by
  refine osa_open X I hp ht fun b => ?_
  obtain ⟨cd, hcd, hd'⟩ := any_some hh
  have hg := I.dict
  rw [hd] at hg
  obtain ⟨hx, hcl, hn, -⟩ := I
  obtain ⟨oc, odi, oda, osl⟩ := ox
  dsimp only at hcl hd hg
  subst hcl hd
  refine wpAny_bind (wpAny_pure (wpAny_bind (wpAny_bind (wpAny_loadPart hx (wpAny_bind ((looks_clsIn X hcd).here ?_))))))
  rw [hd']
  refine wpAny_pure (a := some dx) (wpAny_bind (wpAny_pure (wpAny_bind ?_)))
  refine nsSet_dict (n := n) hg hgl fun hsh => ?_
  have hput := putName_dict name hsh (.str name s.toks) v es n
  have D' := Heap.get?_update_self (Obj.putName name hsh (.str name s.toks) v) hg (by rw [hput]; rfl)
  refine wpAny_bind (wpAny_lookBehind (o := Obj.putName name hsh (.str name s.toks) v (dictOf es n)) D' ?_ ?_)
  · rw [hput]
    have := putL_le name hsh (.str name s.toks) v es
    exact pastItsLine_dict (by rw [List.size_toArray, sizeLine_eq]; lia)
  · exact wpAny_pure (h _)

set_option tactic.hygienic true in
theorem snd_setAttr (B : Bs K n₀) (S : St prog w K n₀ s ρ σ) {x z : V} {a v : Value} {name : Str} {r : Unit} {Q : Unit → Shared → Prop} (e : setAttrV K x name z σ = some (r, σ')) (h1 : VR ρ n₀ s.heap x a) (h3 : VR ρ n₀ s.heap z v)
    (hQ : Back prog w K n₀ s ρ σ' (fun _ _ (_ : Unit) => True) Q) : wpAny (model prog w) A (setAttr a name v) Q E s := by
  cases x <;> first | (exact (no_some e).elim) | skip
  delta setAttrV at e; dsimp only at e
  rename_i i
  refine bnd_el e fun o σ₁ g e1 => ?_
  obtain ⟨g, rfl⟩ := gt_some g
  obtain ⟨p, hp, rfl⟩ := h1.ref
  have ob := S.at hp g
  cases o <;> first | (exact (stuck_some e1).elim) | skip
  rename_i C fs _
  obtain ⟨dx, es, n, q0, q1, q2, I⟩ := inst_at ob
  have X := S.kin
  dsimp only at e1
  generalize hc : okSet K C name = c at e1
  cases c with
  | false => exact (stuck_some e1).elim
  | true =>
    refine grd_el e1 fun e2 e3 => ?_
    cases e3
    have e2 := Nat.le_of_ble_eq_true e2
    rw [q2.length] at e2
    unfold okSet at hc
    refine and_el hc fun c1 c4 => ?_
    refine and_el c1 fun c1 c3 => ?_
    refine and_el c1 fun c1 c2 => ?_
    have hgl : getL name es ≠ none := by
      have fd := q2.find name
      cases hk : lk fs name with
      | none => rw [hk] at fd; dsimp only at fd; rw [fd]; simp
      | some y => rw [hk] at fd; obtain ⟨v', f1, _⟩ := fd; rw [f1]; simp
    refine set_plain X I (beq_iff_eq.mp c1) (osa_upd (s := { s with toks := s.toks + 1 }) (n := n) X I rfl c2 (beq_iff_eq.mp c3) c4 hgl (by lia) fun hsh => ?_)
    exact back_inst B S _ hp q0 I.at_ q1 (putName_dict name hsh (.str name (s.toks + 1)) v es n) (FR.put h3 q2) hQ

/-- the call's form of a method -/
noncomputable def FnR (f : Fn) (v : Value) : Prop := match f with
  | .own a => v = .ref a
  | .blt id => v = .builtin id
set_option tactic.hygienic true in
theorem listMeth_some {x : Str} {id : String} (e : listMeth.lookup x = some id) : (x = "append" ∧ id = "list.append") ∨ (x = "pop" ∧ id = "list.pop") ∨ (x = "insert" ∧ id = "list.insert") ∨ (x = "reverse" ∧ id = "list.reverse") := by
  unfold listMeth at e
  simp only [List.lookup_cons, List.lookup_nil] at e
  split at e
  · rename_i h; cases e; exact .inl ⟨eq_of_beq h, rfl⟩
  split at e
  · rename_i h; cases e; exact .inr (.inl ⟨eq_of_beq h, rfl⟩)
  split at e
  · rename_i h; cases e; exact .inr (.inr (.inl ⟨eq_of_beq h, rfl⟩))
  split at e
  · rename_i h; cases e; exact .inr (.inr (.inr ⟨eq_of_beq h, rfl⟩))
  cases e
set_option tactic.hygienic true in
theorem strMeth_some {x : Str} {id : String} (e : strMeth.lookup x = some id) : (x = "startswith" ∧ id = "str.startswith") ∨ (x = "split" ∧ id = "str.split") ∨ (x = "join" ∧ id = "str.join") := by
  unfold strMeth at e
  simp only [List.lookup_cons, List.lookup_nil] at e
  split at e
  · rename_i h; cases e; exact .inl ⟨eq_of_beq h, rfl⟩
  split at e
  · rename_i h; cases e; exact .inr (.inl ⟨eq_of_beq h, rfl⟩)
  split at e
  · rename_i h; cases e; exact .inr (.inr ⟨eq_of_beq h, rfl⟩)
  · cases e
theorem dictGet_meth {a : Addr} {es : Array DictEntry} {n : Nat} {pl : Sem Bool} {Q : Value × List Value → Shared → Prop} (hg : s.heap.get? a = some ⟨.type "dict", none, .dict es n, #[]⟩) (h : Q (.builtin "dict.get", [.ref a]) s) :
    wpAny (model prog w) A (getMethod (.ref a) "get" pl) Q E s :=
  have hT : s.TypeIs (.ref a) "dict" := ⟨_, hg, rfl⟩
  have hd : ∀ b, Value.ref a = .ref b → ∃ o, s.heap.get? b = some o ∧ o.dict = none := fun b e => by cases e; exact ⟨_, hg, rfl⟩
  by with_reducible exact getMethod_builtin hT PySem.F.plainAttrs_dict PySem.F.slot_dict_get PySem.F.type_dict_get hd h

set_option tactic.hygienic true in
theorem snd_meth (S : St prog w K n₀ s ρ σ) {x : V} {f : Fn} {v : Value} {name : Str} {pl : Sem Bool} {Q : Value × List Value → Shared → Prop} (e : methOf K x name σ = some (f, σ')) (h1 : VR ρ n₀ s.heap x v)
    (hQ : ∀ u, FnR f u → σ' = σ → Q (u, [v]) s) : wpAny (model prog w) A (getMethod v name pl) Q E s := by
  cases x <;> first | (exact (no_some e).elim) | skip
  all_goals (delta methOf at e; dsimp only at e)
  case str y =>
    obtain ⟨e1, rfl⟩ := ofO_some e
    obtain ⟨id, e2, rfl⟩ := Option.map_eq_some_iff.mp e1
    obtain ⟨t, rfl⟩ := h1.str
    have hQ := hQ (.builtin id) rfl rfl
    rcases strMeth_some e2 with ⟨rfl, rfl⟩ | ⟨rfl, rfl⟩ | ⟨rfl, rfl⟩
    · exact PySem.GM.startswith hQ
    · exact PySem.GM.split hQ
    · exact PySem.GM.join hQ
  case ref i =>
    refine bnd_el e fun o σ₁ g e1 => ?_
    obtain ⟨g, rfl⟩ := gt_some g
    obtain ⟨p, hp, rfl⟩ := h1.ref
    have ob := S.at hp g
    cases o <;> dsimp only at e1
    case list xs =>
      obtain ⟨e2, rfl⟩ := ofO_some e1
      obtain ⟨id, e3, rfl⟩ := Option.map_eq_some_iff.mp e2
      obtain ⟨_, vs, n, g1, g2⟩ := ob
      have hQ := hQ (.builtin id) rfl rfl
      have hT := (isList_of g1).typeIs (s := s)
      have hd : ∀ b, Value.ref p.1 = .ref b → ∃ o, s.heap.get? b = some o ∧ o.dict = none := fun b e => by cases e; exact ⟨_, g1, rfl⟩
      rcases listMeth_some e3 with ⟨rfl, rfl⟩ | ⟨rfl, rfl⟩ | ⟨rfl, rfl⟩ | ⟨rfl, rfl⟩
      · with_reducible exact getMethod_builtin hT PySem.F.plainAttrs_list PySem.F.slot_list_append PySem.F.type_list_append hd hQ
      · with_reducible exact getMethod_builtin hT PySem.F.plainAttrs_list PySem.F.slot_list_pop PySem.F.type_list_pop hd hQ
      · with_reducible exact getMethod_builtin hT PySem.F.plainAttrs_list PySem.F.slot_list_insert PySem.F.type_list_insert hd hQ
      · with_reducible exact getMethod_builtin hT PySem.F.plainAttrs_list PySem.F.slot_list_reverse PySem.F.type_list_reverse hd hQ
    case inst C fs _ =>
      obtain ⟨dx, es, n, q0, q1, q2, I⟩ := inst_at ob
      generalize hk : lk fs name = z at e1
      cases z with
      | some _ => exact (stuck_some e1).elim
      | none =>
        dsimp only at e1
        generalize hm : methIn K C name = z at e1
        cases z with
        | none => exact (stuck_some e1).elim
        | some fa =>
          cases e1
          have fd := q2.find name
          rw [hk] at fd
          unfold methIn at hm
          generalize hc : plainGet K C name = c at hm
          cases c with
          | false => cases hm
          | true =>
            dsimp only at hm
            split at hm
            · rename_i f' hf
              generalize hi : isFn K (.ref f') = c at hm
              cases c with
              | false => cases hm
              | true =>
                cases hm
                exact method_fn S.kin I (plainGet_of hc).1 (plainGet_of hc).2 hf (beq_iff_eq.mp hi) (by show (lookIn name (dictOf es n)).map _ = _; rw [lookIn_dict, fd]; rfl) (hQ (.ref fa) rfl rfl)
            · cases hm
    case dnew =>
      generalize hc : (name == ("get" : Str)) = c at e1
      cases c with
      | false => exact (stuck_some e1).elim
      | true =>
        cases e1
        have hn : name = "get" := eq_of_beq hc
        subst hn
        obtain ⟨_, n, g1⟩ := ob; exact dictGet_meth g1 (hQ (.builtin "dict.get") rfl rfl)
    case dint =>
      generalize hc : (name == ("get" : Str)) = c at e1
      cases c with
      | false => exact (stuck_some e1).elim
      | true =>
        cases e1
        have hn : name = "get" := eq_of_beq hc
        subst hn
        obtain ⟨_, kvs, g1, g2⟩ := ob; obtain ⟨es, n, g1⟩ := dictOf_obj g1; exact dictGet_meth g1 (hQ (.builtin "dict.get") rfl rfl)
    case dstr =>
      generalize hc : (name == ("get" : Str)) = c at e1
      cases c with
      | false => exact (stuck_some e1).elim
      | true =>
        cases e1
        have hn : name = "get" := eq_of_beq hc
        subst hn
        obtain ⟨_, kvs, g1, g2⟩ := ob; obtain ⟨es, n, g1⟩ := dictOf_obj g1; exact dictGet_meth g1 (hQ (.builtin "dict.get") rfl rfl)
    case dpair =>
      generalize hc : (name == ("get" : Str)) = c at e1
      cases c with
      | false => exact (stuck_some e1).elim
      | true =>
        cases e1
        have hn : name = "get" := eq_of_beq hc
        subst hn
        obtain ⟨_, kvs, g1, g2⟩ := ob; obtain ⟨es, n, g1⟩ := dictOfH_obj g1; exact dictGet_meth g1 (hQ (.builtin "dict.get") rfl rfl)
end
end Mine
end P_A7
section P_A8
open PySem PySem.Calls PySem.SeqAt PyProof.Rows PySem.W
set_option autoImplicit false
set_option Elab.async false
set_option maxRecDepth 100000
namespace Mine
section
variable {prog : Program} {w : World} {K : Frag} {n₀ : Nat} {s s' : Shared} {ρ ρ' : Rho} {σ σ' : Hp} {P : List Addr} {L : Addr} {m : Loc} {A : Around} {E : Value → Shared → Prop}

set_option tactic.hygienic true in
theorem snd_bin (B : Bs K n₀) (S : St prog w K n₀ s ρ σ) {op : Operator} {x y r : V} {v u : Value} {Q : Value → Shared → Prop} (e : binV op x y σ = some (r, σ')) (h1 : VR ρ n₀ s.heap x v) (h2 : VR ρ n₀ s.heap y u)
    (hQ : BackV prog w K n₀ s ρ σ' r Q) : wpAny (model prog w) A (binaryOp op v u) Q E s := by
  by_cases hi : ∃ a b, x = .int a ∧ y = .int b
  · obtain ⟨a, b, rfl, rfl⟩ := hi
    obtain ⟨t, rfl⟩ := h1.int
    obtain ⟨t', rfl⟩ := h2.int
    exact snd_bin_int S e hQ
  · by_cases hop : op = .Add
    case neg => exact absurd (inv_bin hop e) hi
    subst hop
    rcases inv_add e with h | ⟨x, y, rfl, rfl, e'⟩ | ⟨i, j, rfl, rfl, e'⟩
    · exact absurd h hi
    · obtain ⟨t, rfl⟩ := h1.str
      obtain ⟨t', rfl⟩ := h2.str
      refine grd_el e' fun g e1 => ?_
      obtain ⟨rfl, rfl⟩ := ret_some e1
      exact PyProof.Rows.add_str (fun t' k => back_toks S hQ _ VR.ofStr) (okLen_line g)
    · refine bnd_el e' fun xs σ₁ g e1 => ?_
      obtain ⟨g, rfl⟩ := gtL_some g
      refine bnd_el e1 fun ys σ₂ g' e2 => ?_
      obtain ⟨g', rfl⟩ := gtL_some g'
      refine grd_el e2 fun c e3 => ?_
      obtain ⟨a, vs, n, p1, rfl, g1, g2⟩ := S.lst h1 g
      obtain ⟨b, us, n', p2, rfl, g3, g4⟩ := S.lst h2 g'
      cases e3
      have hsz : vs.size + us.size ≤ sizeLine := by
        rw [← Array.length_toList, ← Array.length_toList, ← g2.length, ← g4.length]
        rw [List.length_append] at c
        exact okLen_line c
      refine concat_meets ⟨_, g1, rfl⟩ ⟨_, g3, rfl⟩ noFill_list_add seq_list_add PySem.F.slot_list_add PySem.F.entry_list_add (PySem.F.args_list_add_2 _ _) (AutoSeq1.list___add___list_list_0 a vs n b us n' hsz) ⟨g1, g3, ?_⟩
      refine back_list B S (vs := vs ++ us) (n := 0) _ (fun a o e => Heap.get?_push_of_some _ e) (by simp only [Heap.size_push]; lia) (Nat.le_refl _) (Heap.get?_push_size _ rfl) ?_ hQ
      rw [Array.toList_append]
      exact g2.append g4

theorem snd_un (S : St prog w K n₀ s ρ σ) {op : UnaryOp} {x r : V} {v : Value} {Q : Value → Shared → Prop} (e : unV op x σ = some (r, σ')) (h1 : VR ρ n₀ s.heap x v)
    (hQ : BackV prog w K n₀ s ρ σ' r Q) : wpAny (model prog w) A (unaryOp op v) Q E s := by
  rcases inv_un e with ⟨b, rfl, rfl, e'⟩ | ⟨i, rfl, rfl, e'⟩ <;> cases e'
  · have := h1.bool
    subst this
    exact not_of (wpAny_pure (back_now S hQ VR.ofBool))
  · obtain ⟨t, rfl⟩ := h1.int
    exact PyProof.Rows.neg_int (back_toks S hQ _ VR.ofInt)
end
end Mine
end P_A8
section P_A9
open PySem PySem.Calls PySem.SeqAt PyProof.Rows PySem.W
set_option autoImplicit false
set_option Elab.async false
set_option maxRecDepth 100000
namespace Mine
section
variable {prog : Program} {w : World} {K : Frag} {n₀ : Nat} {s s' : Shared} {ρ ρ' : Rho} {σ σ' : Hp} {P : List Addr} {L : Addr} {m : Loc} {A : Around} {E : Value → Shared → Prop}

theorem VRs.one {h : Heap} {x : V} {vs : List Value} (q : VRs ρ n₀ h [x] vs) : ∃ v, vs = [v] ∧ VR ρ n₀ h x v := by
  cases vs with
  | nil => exact False.elim q
  | cons v r => exact ⟨v, congrArg (v :: ·) q.2, q.1⟩
theorem VRs.two {h : Heap} {x y : V} {vs : List Value} (q : VRs ρ n₀ h [x, y] vs) : ∃ v u, vs = [v, u] ∧ VR ρ n₀ h x v ∧ VR ρ n₀ h y u := by
  cases vs with
  | nil => exact False.elim q
  | cons v r =>
    obtain ⟨q1, q2⟩ : VR ρ n₀ h x v ∧ VRs ρ n₀ h [y] r := q
    obtain ⟨u, rfl, q3⟩ := q2.one
    exact ⟨v, u, rfl, q1, q3⟩
theorem VRs.three {h : Heap} {x y z : V} {vs : List Value} (q : VRs ρ n₀ h [x, y, z] vs) : ∃ v u o, vs = [v, u, o] ∧ VR ρ n₀ h x v ∧ VR ρ n₀ h y u ∧ VR ρ n₀ h z o := by
  cases vs with
  | nil => exact False.elim q
  | cons v r =>
    obtain ⟨q1, q2⟩ : VR ρ n₀ h x v ∧ VRs ρ n₀ h [y, z] r := q
    obtain ⟨u, o, rfl, q3⟩ := q2.two
    exact ⟨v, u, o, rfl, q1, q3⟩

/-- a new tuple -/
theorem back_tup (B : Bs K n₀) (S : St prog w K n₀ s ρ σ) {Q : Value → Shared → Prop} {xs : List V} {vs : Array Value} {h' : Heap} (k n : Nat)
    (hk : ∀ a o, s.heap.get? a = some o → h'.get? a = some o) (hs : s.heap.objs.size ≤ h'.objs.size) {a : Addr} (hg : h'.get? a = some (tupObj vs n)) (hv : VRs ρ n₀ s.heap xs vs.toList)
    (hQ : BackV prog w K n₀ s ρ σ (.tup xs) Q) : Q (.ref a) { s with heap := h', toks := k } := by
  have T : Tr n₀ ρ s.heap ρ h' := ⟨List.prefix_refl _, fun a o e zz => hk a o e⟩
  refine back_keep B S hQ k hs hk ?_
  exact ⟨a, vs, n, rfl, hg, VRs.tr T _ _ hv⟩

theorem sumLen_eq : ∀ l : List Str, sumLen l = (l.map (·.length)).sum
  | [] => rfl
  | _ :: r => congrArg (_ + ·) (sumLen_eq r)
theorem strsOf_are {h : Heap} : ∀ {xs : List V} {l : List Str} {vs : List Value}, strsOf xs = some l → VRs ρ n₀ h xs vs → StrsAre vs l
  | [], l, [], e, q => by cases e; exact .nil
  | [], _, _ :: _, _, q => nomatch (show _ = [] from q)
  | x :: xs, l, [], e, q => False.elim q
  | x :: xs, l, v :: vs, e, q => by
    cases x <;> first | (exact (no_some e).elim) | skip
    obtain ⟨l', h1, rfl⟩ := Option.map_eq_some_iff.mp e
    obtain ⟨t, rfl⟩ := q.1.str
    exact .cons _ _ (strsOf_are h1 q.2)

set_option tactic.hygienic true in
theorem snd_isi (S : St prog w K n₀ s ρ σ) {x : V} {v : Value} {n : String} {b : Bool} {Q : Value → Shared → Prop} (e : isKind x n = some b) (h1 : VR ρ n₀ s.heap x v) (hQ : BackV prog w K n₀ s ρ σ (.bool b) Q) :
    wpAny (model prog w) A (call (.builtin "isinstance") [v, .type n]) Q E s := by
  have q0 : Q (.bool b) s := back_now S hQ VR.ofBool
  have q1 : Q (.bool b) { s with toks := s.toks + 1 } := back_toks S hQ _ VR.ofBool
  cases x <;> first | (exact nomatch (show (none : Option Bool) = some b from e)) | skip
  case int i =>
    obtain ⟨t, rfl⟩ := h1.int
    by_cases hn : n = "int"
    · subst hn; cases e; exact IsiPair.int_int q0
    · have e : (if n = "bool" then some false else none) = some b := (if_neg hn).symm.trans e
      by_cases hm : n = "bool"
      · subst hm; cases e; exact IsiPair.int_bool q1
      · exact nomatch (if_neg hm).symm.trans e
  case str i =>
    obtain ⟨t, rfl⟩ := h1.str
    by_cases hn : n = "str"
    · subst hn; cases e; exact IsiPair.str_str q0
    · exact nomatch (if_neg hn).symm.trans e
  case tup xs =>
    obtain ⟨a, vs, n', rfl, g1, _⟩ := h1.tup
    by_cases hn : n = "tuple"
    · subst hn; cases e; exact IsiPair.tuple_tuple g1 rfl q0
    · exact nomatch (if_neg hn).symm.trans e
end
end Mine
end P_A9
section P_A10
open PySem PySem.Calls PySem.SeqAt PyProof.Rows PySem.W
set_option autoImplicit false
set_option Elab.async false
set_option maxRecDepth 100000
namespace Mine
section
variable {prog : Program} {w : World} {K : Frag} {n₀ : Nat} {s s' : Shared} {ρ ρ' : Rho} {σ σ' : Hp} {P : List Addr} {L : Addr} {m : Loc} {A : Around} {E : Value → Shared → Prop}

theorem okLen_63 {n : Nat} (h : okLen n = true) : (n : Int) < 2 ^ 63 := by have := okLen_le h; lia
theorem VRs.size {h : Heap} {xs : List V} {vs : Array Value} (q : VRs ρ n₀ h xs vs.toList) : vs.size = xs.length := by rw [q.length, Array.length_toList]

theorem snd_len (S : St prog w K n₀ s ρ σ) {x r : V} {v : Value} {Q : Value → Shared → Prop} (e : bLen [x] σ = some (r, σ')) (h1 : VR ρ n₀ s.heap x v) (hQ : BackV prog w K n₀ s ρ σ' r Q) :
    wpAny (model prog w) A (call (.builtin "len") [v]) Q E s := by
  rcases inv_len e with ⟨y, rfl⟩ | ⟨xs, rfl⟩ | ⟨i, rfl⟩ <;> (delta bLen at e; dsimp only at e)
  · refine grd_el e fun g e1 => ?_
    obtain ⟨rfl, rfl⟩ := ret_some e1
    obtain ⟨t, rfl⟩ := h1.str
    have := okLen_63 g
    exact PyProof.Rows.len_str (by lia) (back_toks S hQ _ VR.ofInt)
  · refine grd_el e fun g e1 => ?_
    obtain ⟨rfl, rfl⟩ := ret_some e1
    obtain ⟨a, vs, n, rfl, g1, g2⟩ := h1.tup
    have hz := g2.size
    refine PyProof.Rows.len_tuple (isTup_of g1) (by rw [hz]; exact okLen_63 g) ?_
    rw [hz]
    exact back_toks S hQ _ VR.ofInt
  · refine bnd_el e fun xs σ₁ g e1 => ?_
    obtain ⟨g, rfl⟩ := gtL_some g
    refine grd_el e1 fun c e2 => ?_
    obtain ⟨rfl, rfl⟩ := ret_some e2
    obtain ⟨a, vs, n, p1, rfl, g1, g2⟩ := S.lst h1 g
    have hz := g2.size
    refine call_len_list (isList_of g1) (by rw [hz]; exact okLen_63 c) ?_
    rw [hz]
    exact back_toks S hQ _ VR.ofInt

theorem snd_append (B : Bs K n₀) (S : St prog w K n₀ s ρ σ) {x y r : V} {v u : Value} {Q : Value → Shared → Prop} (e : bAppend [x, y] σ = some (r, σ')) (h1 : VR ρ n₀ s.heap x v) (h2 : VR ρ n₀ s.heap y u) (hQ : BackV prog w K n₀ s ρ σ' r Q) :
    wpAny (model prog w) A (call (.builtin "list.append") [v, u]) Q E s := by
  obtain ⟨i, rfl⟩ := inv_append e
  delta bAppend ii asI asS asR at e; dsimp only at e
  refine bnd_el e fun xs σ₁ g e1 => ?_
  obtain ⟨g, rfl⟩ := gtL_some g
  refine grd_el e1 fun c e2 => ?_
  cases e2
  obtain ⟨a, vs, n, p1, rfl, g1, g2⟩ := S.lst h1 g
  have hz := g2.size
  refine call_meets PySem.F.slot_list_append (isList_of g1).typeIs PySem.F.entry_list_append (PySem.F.args_list_append_2 _ _) (AutoListH.list_append_list_val_0 a vs n u (by rw [hz]; exact okLen_line c)) ⟨g1, ?_⟩
  refine back_lst B S (f := fun z => z.push u) (R := fun ρ h v => VR ρ n₀ h .none v) _ p1 g1 ?_ hQ fun zz zz => VR.ofNone
  rw [Array.toList_push]
  exact g2.append (VRs.cons h2 VRs.nil)

theorem snd_pop (B : Bs K n₀) (S : St prog w K n₀ s ρ σ) {x r : V} {v : Value} {Q : Value → Shared → Prop} (e : bPop [x] σ = some (r, σ')) (h1 : VR ρ n₀ s.heap x v) (hQ : BackV prog w K n₀ s ρ σ' r Q) :
    wpAny (model prog w) A (call (.builtin "list.pop") [v]) Q E s := by
  obtain ⟨i, rfl⟩ := inv_pop e
  delta bPop ii asI asS asR at e; dsimp only at e
  refine bnd_el e fun xs σ₁ g e1 => ?_
  obtain ⟨g, rfl⟩ := gtL_some g
  obtain ⟨a, vs, n, p1, rfl, g1, g2⟩ := S.lst h1 g
  have hz := g2.size
  generalize hl : xs.getLast? = z at e1
  cases z with
  | none => exact (stuck_some e1).elim
  | some y =>
    refine grd_el e1 fun c e2 => ?_
    cases e2
    rw [List.getLast?_eq_getElem?] at hl
    obtain ⟨u, q1, q2⟩ := g2.get hl
    rw [Array.getElem?_toList, ← hz] at q1
    refine call_meets PySem.F.slot_list_pop (isList_of g1).typeIs PySem.F.entry_list_pop (PySem.F.args_list_pop_1 _) (MeetsSeq.list_pop_last a vs n u q1 (by rw [hz]; exact okLen_line c)) ⟨g1, ?_⟩
    refine back_lst B S (f := fun z => z.eraseIdxIfInBounds (vs.size - 1)) (R := fun ρ h v => VR ρ n₀ h r v) _ p1 g1 ?_ hQ fun zz T => VR.tr T _ _ q2
    have : (vs.eraseIdxIfInBounds (vs.size - 1)).toList = vs.toList.take (xs.length - 1) := by
      rw [Array.toList_eraseIdxIfInBounds, hz]
      rw [List.eraseIdx_eq_take_drop_succ, List.drop_of_length_le (by rw [Array.length_toList, hz]; lia), List.append_nil]
    rw [this, List.dropLast_eq_take]
    exact g2.take _

theorem snd_reverse (B : Bs K n₀) (S : St prog w K n₀ s ρ σ) {x r : V} {v : Value} {Q : Value → Shared → Prop} (e : bReverse [x] σ = some (r, σ')) (h1 : VR ρ n₀ s.heap x v) (hQ : BackV prog w K n₀ s ρ σ' r Q) :
    wpAny (model prog w) A (call (.builtin "list.reverse") [v]) Q E s := by
  obtain ⟨i, rfl⟩ := inv_reverse e
  delta bReverse ii asI asS asR at e; dsimp only at e
  refine bnd_el e fun xs σ₁ g e1 => ?_
  obtain ⟨g, rfl⟩ := gtL_some g
  refine grd_el e1 fun c e2 => ?_
  cases e2
  obtain ⟨a, vs, n, p1, rfl, g1, g2⟩ := S.lst h1 g
  have hz := g2.size
  refine call_meets PySem.F.slot_list_reverse (isList_of g1).typeIs PySem.F.entry_list_reverse (PySem.F.args_list_reverse_1 _) (AutoListH.list_reverse_list_0 a vs n (by rw [hz]; exact okLen_line c)) ⟨g1, ?_⟩
  refine back_lst B S (f := fun z => z.reverse) (R := fun ρ h v => VR ρ n₀ h .none v) _ p1 g1 ?_ hQ fun zz zz => VR.ofNone
  rw [Array.toList_reverse]
  exact g2.reverse

theorem snd_insert (B : Bs K n₀) (S : St prog w K n₀ s ρ σ) {x y z r : V} {v u o : Value} {Q : Value → Shared → Prop} (e : bInsert [x, y, z] σ = some (r, σ')) (h1 : VR ρ n₀ s.heap x v) (h2 : VR ρ n₀ s.heap y u) (h3 : VR ρ n₀ s.heap z o)
    (hQ : BackV prog w K n₀ s ρ σ' r Q) : wpAny (model prog w) A (call (.builtin "list.insert") [v, u, o]) Q E s := by
  obtain ⟨⟨i, rfl⟩, k, rfl⟩ := inv_insert e
  delta bInsert ii asI asS asR at e; dsimp only at e
  obtain ⟨t, rfl⟩ := h2.int
  refine bnd_el e fun xs σ₁ g e1 => ?_
  obtain ⟨g, rfl⟩ := gtL_some g
  obtain ⟨a, vs, n, p1, rfl, g1, g2⟩ := S.lst h1 g
  have hz := g2.size
  generalize hj : idx? k (xs.length + 1) = zz at e1
  cases zz with
  | none => exact (stuck_some e1).elim
  | some j =>
    obtain ⟨q1, q2, q3, rfl⟩ := idx_some hj
    refine grd_el e1 fun c e2 => ?_
    cases e2
    refine call_meets PySem.F.slot_list_insert (isList_of g1).typeIs PySem.F.entry_list_insert (PySem.F.args_list_insert_3 _ _ _) (AutoListH.list_insert_list_int_val_1 a vs n k t o (by rw [fitsIndex_of q1 q3]; decide) (by rw [hz]; exact okLen_line c)) ⟨g1, ?_⟩
    refine back_lst B S (f := fun xs => have k' := if k < 0 then (k + ((xs.size : Nat) : Int)).toNat else min k.toNat xs.size; (xs.extract 0 k').push o ++ xs.extract k') (R := fun ρ h v => VR ρ n₀ h .none v) _ p1 g1 ?_ hQ fun zz zz => VR.ofNone
    have hk : ¬ k < 0 := by lia
    have hm : min k.toNat vs.size = k.toNat := by lia
    simp only [hk, if_false, hm]
    have : ((vs.extract 0 k.toNat).push o ++ vs.extract k.toNat).toList = vs.toList.take k.toNat ++ o :: vs.toList.drop k.toNat := by
      simp
      rw [List.take_of_length_le (by simp)]
    rw [this]
    exact (g2.take _).append (VRs.cons h3 (g2.drop _))
end
end Mine
end P_A10
section P_A11
open PySem PySem.Calls PySem.SeqAt PyProof.Rows PySem.W PySem.Builtin PySem.Builtin.Str
set_option autoImplicit false
set_option Elab.async false
set_option maxRecDepth 100000
namespace Mine
section
variable {prog : Program} {w : World} {K : Frag} {n₀ : Nat} {s s' : Shared} {ρ ρ' : Rho} {σ σ' : Hp} {P : List Addr} {L : Addr} {m : Loc} {A : Around} {E : Value → Shared → Prop}

theorem snd_abs (S : St prog w K n₀ s ρ σ) {x r : V} {v : Value} {Q : Value → Shared → Prop} (e : bAbs [x] σ = some (r, σ')) (h1 : VR ρ n₀ s.heap x v) (hQ : BackV prog w K n₀ s ρ σ' r Q) :
    wpAny (model prog w) A (call (.builtin "abs") [v]) Q E s := by
  obtain ⟨_, rfl⟩ := inv_abs e
  delta bAbs ii asI asS asR at e; dsimp only at e
  obtain ⟨rfl, rfl⟩ := ret_some e
  obtain ⟨t, rfl⟩ := h1.int
  exact call_abs_int fun u tk => back_toks S hQ _ VR.ofInt

theorem snd_starts (S : St prog w K n₀ s ρ σ) {x y r : V} {v u : Value} {Q : Value → Shared → Prop} (e : bStarts [x, y] σ = some (r, σ')) (h1 : VR ρ n₀ s.heap x v) (h2 : VR ρ n₀ s.heap y u) (hQ : BackV prog w K n₀ s ρ σ' r Q) :
    wpAny (model prog w) A (call (.builtin "str.startswith") [v, u]) Q E s := by
  obtain ⟨⟨_, rfl⟩, _, rfl⟩ := inv_starts e
  delta bStarts ii asI asS asR at e; dsimp only at e
  obtain ⟨t, rfl⟩ := h1.str
  obtain ⟨t', rfl⟩ := h2.str
  obtain ⟨rfl, rfl⟩ := ret_some e
  exact SC.startswith (back_now S hQ VR.ofBool)

theorem snd_join (S : St prog w K n₀ s ρ σ) {x y r : V} {v u : Value} {Q : Value → Shared → Prop} (e : bJoin [x, y] σ = some (r, σ')) (h1 : VR ρ n₀ s.heap x v) (h2 : VR ρ n₀ s.heap y u) (hQ : BackV prog w K n₀ s ρ σ' r Q) :
    wpAny (model prog w) A (call (.builtin "str.join") [v, u]) Q E s := by
  obtain ⟨⟨_, rfl⟩, _, rfl⟩ := inv_join e
  delta bJoin ii asI asS asR at e; dsimp only at e
  obtain ⟨t, rfl⟩ := h1.str
  refine bnd_el e fun xs σ₁ g e1 => ?_
  obtain ⟨g, rfl⟩ := gtL_some g
  obtain ⟨a, vs, n, p1, rfl, g1, g2⟩ := S.lst h2 g
  refine bnd_el e1 fun l σ₂ g3' e2 => ?_
  obtain ⟨g3, rfl⟩ := ofO_some g3'
  refine grd_el e2 fun h e3 => ?_
  refine and_el h fun h h' => ?_
  obtain ⟨rfl, rfl⟩ := ret_some e3
  refine join_list (isList_of g1) (strsOf_are g3 g2) ?_ fun t' k => back_toks S hQ _ VR.ofStr
  rw [← sumLen_eq, Nat.mul_comm]
  have := okLen_le h
  lia

theorem vrs_values {h : Heap} : ∀ (l : List (Str × Tok)), VRs ρ n₀ h ((l.map (·.1)).map V.str) (strValues l)
  | [] => VRs.nil
  | p :: r => VRs.cons VR.ofStr (vrs_values r)

theorem snd_split (B : Bs K n₀) (S : St prog w K n₀ s ρ σ) {x y r : V} {v u : Value} {Q : Value → Shared → Prop} (e : bSplit [x, y] σ = some (r, σ')) (h1 : VR ρ n₀ s.heap x v) (h2 : VR ρ n₀ s.heap y u) (hQ : BackV prog w K n₀ s ρ σ' r Q) :
    wpAny (model prog w) A (call (.builtin "str.split") [v, u]) Q E s := by
  obtain ⟨⟨x, rfl⟩, y, rfl⟩ := inv_split e
  delta bSplit ii asI asS asR at e; dsimp only at e
  obtain ⟨t, rfl⟩ := h1.str
  obtain ⟨t', rfl⟩ := h2.str
  refine grd_el e fun h e1 => ?_
  refine and_el h fun h h' => ?_
  have hy : (y.length == 0) = false := by simpa using h
  have fin : ∀ (l : List (Str × Tok)) (k : Nat), l.map (·.1) = Txt.split x y → Q (.ref s.heap.objs.size) { s with heap := s.heap.push { cls := .type "list", data := .seq (strValues l).toArray }, toks := k } := by
    intro l k hl
    cases e1
    refine back_list B S (vs := (strValues l).toArray) (n := 0) k (fun a o e => Heap.get?_push_of_some _ e) (by simp only [Heap.size_push]; lia) (Nat.le_refl _) (Heap.get?_push_size _ rfl) ?_ hQ
    rw [← hl]
    exact vrs_values l
  have hx := okLen_le h'
  have hn : (partsBetween x (occurrences x y 0 x.length (x.length + 1)) y.length).length ≤ sizeLine := by
    have e1 := StrLaws.occ_length_le x y 0 x.length (x.length + 1)
    rw [length_partsBetween, sizeLine_eq]; lia
  cases hk : (decide (x.length < y.length) || decide (strKind x < strKind y))
  · cases hf : (occurrences x y 0 x.length (x.length + 1)).isEmpty
    · refine call_meets PySem.F.slot_str_split (typeIs_str _ _ _) PySem.F.entry_str_split (PySem.F.args_str_split_2 _ _) (meets_str_split_sep x y t t' hk hy hf (okLen_line h') hn) ?_
      show wants Q E _ { s with toks := _, heap := s.heap.push { cls := .type "list", data := .seq (strsFrom s.toks (partsBetween x (occurrences x y 0 x.length (x.length + 1)) y.length)).toArray } }
      rw [strsFrom_eq]
      exact fin (numbered s.toks _) _ ((numbered_texts _ _).trans ((if_neg (ne_true_of_eq_false hk)).trans (if_neg (ne_true_of_eq_false hf))).symm)
    · exact call_meets PySem.F.slot_str_split (typeIs_str _ _ _) PySem.F.entry_str_split (PySem.F.args_str_split_2 _ _) (meets_str_split_not_found x y t t' hk hy hf) (fin [(x, t)] s.toks ((if_neg (ne_true_of_eq_false hk)).trans (if_pos hf)).symm)
  · exact call_meets PySem.F.slot_str_split (typeIs_str _ _ _) PySem.F.entry_str_split (PySem.F.args_str_split_2 _ _) (meets_str_split_cannot_occur x y t t' hk) (fin [(x, t)] s.toks (if_pos hk).symm)

theorem PRH.getD {κ : Type} [DecidableEq κ] {R : V → Value → Prop} (ks : κ) {z : V} {o : Value} (h3 : R z o) : ∀ {es : List (κ × V)} {xs : List (κ × Addr × Value)}, PRH R es xs → R ((atK es ks).getD z) (((atKey xs ks).map (·.2)).getD o)
  | [], xs, d2 => by have : xs = [] := d2; subst this; exact h3
  | _ :: _, [], d2 => d2.elim
  | f :: es, g :: xs, d2 => by
    obtain ⟨q1, q2, q3⟩ := d2
    by_cases h : f.1 = ks
    · have h' : g.1 = ks := q1 ▸ h
      simpa [atK, atKey, h, h'] using q2
    · have h' : ¬ g.1 = ks := q1 ▸ h
      have ih := PRH.getD ks h3 q3
      simpa [atK, atKey, h, h'] using ih

theorem inv_getK {k d : V} {p : V × Hp} (e : getK k d σ = some p) : (∃ ks, asKey k = some ks) ∧ p = (d, σ) := by
  unfold getK at e
  generalize hz : asKey k = zz at e
  cases zz with
  | none => exact (no_some e).elim
  | some ks => exact ⟨⟨ks, rfl⟩, (Option.some.inj e).symm⟩
theorem inv_getN {k d : V} {p : V × Hp} (e : getN k d σ = some p) : ((∃ j, k = .str j) ∨ ∃ ks, asKey k = some ks) ∧ p = (d, σ) := by
  cases k <;> first | exact ⟨.inl ⟨_, rfl⟩, (Option.some.inj e).symm⟩ | exact ⟨.inr (inv_getK e).1, (inv_getK e).2⟩ | exact (no_some e).elim
set_option tactic.hygienic true in
theorem inv_getO {k d : V} {o : O} {p : V × Hp} (e : getO k d o σ = some p) : (o = .dnew ∧ ((∃ j, k = .str j) ∨ ∃ ks, asKey k = some ks) ∧ p = (d, σ)) ∨ (∃ es j, o = .dstr es ∧ k = .str j ∧ p = ((atK es j).getD d, σ)) ∨ ∃ es ks, o = .dpair es ∧ asKey k = some ks ∧ p = ((atK es ks).getD d, σ) := by
  cases o
  case dnew => exact .inl ⟨rfl, inv_getN e⟩
  case dstr es => obtain ⟨j, h, e⟩ := asS_some e; exact .inr (.inl ⟨es, j, rfl, h, (Option.some.inj e).symm⟩)
  case dpair es =>
    dsimp only [getO] at e
    generalize hz : asKey k = zz at e
    cases zz with
    | none => exact (no_some e).elim
    | some ks => exact .inr (.inr ⟨es, ks, rfl, rfl, (Option.some.inj e).symm⟩)
  all_goals exact (no_some e).elim
theorem snd_get (B : Bs K n₀) (hu : A.units + 2 < cLine) (S : St prog w K n₀ s ρ σ) {x y z r : V} {v u o : Value} {Q : Value → Shared → Prop} (e : bGet [x, y, z] σ = some (r, σ')) (h1 : VR ρ n₀ s.heap x v) (h2 : VR ρ n₀ s.heap y u) (h3 : VR ρ n₀ s.heap z o)
    (hQ : BackV prog w K n₀ s ρ σ' r Q) : wpAny (model prog w) A (call (.builtin "dict.get") [v, u, o]) Q E s := by
  obtain ⟨i, rfl, e⟩ := asR_some e
  obtain ⟨ob, g, e⟩ := bgt_some e
  obtain ⟨p, hp, rfl⟩ := h1.ref
  have od := S.at hp g
  have hsys := S.nsys B hp
  have tstr : ∀ {es : List (Str × V)} {kvs : List (Str × Value)} {k : Str} {t : Tok}, s.heap.DictOf (PySem.strKind prog w) p.1 kvs → PR (VR ρ n₀ s.heap) es kvs → r = (atK es k).getD z → σ' = σ →
      wpAny (model prog w) A (call (.builtin "dict.get") [.ref p.1, .str k t, o]) Q E s := by
    intro es kvs k t d1 d2 hr hs
    subst hr hs
    refine call_meetsIn PySem.F.slot_dict_get d1.typeIs PySem.F.entry_dict_get (PySem.F.args_dict_get_3 _ _ _) (meets_dict_get_default (PySem.strKind prog w) p.1 (PySem.strKind_is prog w k t) hsys o) ⟨_, dictOf_mapOf d1, ?_⟩
    have q := d2.atK k
    cases hk : atK es k with
    | none =>
      rw [hk] at q
      have : valueAt kvs k = none := by cases hv : valueAt kvs k with | none => rfl | some _ => rw [hv] at q; cases q.1
      rw [this]
      exact back_toks (Q := Q) S hQ _ (by rw [hk]; exact h3)
    | some y =>
      obtain ⟨v', q1, q2⟩ := q.2 y hk
      rw [q1]
      exact back_toks (Q := Q) S hQ _ (by rw [hk]; exact q2)
  have tpair : ∀ {es : List (List Int × V)} {xs : List (List Int × Addr × Value)} {ks : List Int}, s.heap.DictOfH (tupleKind (intKind prog w)) p.1 xs → PRH (VR ρ n₀ s.heap) es xs → asKey y = some ks → r = (atK es ks).getD z → σ' = σ →
      wpAny (model prog w) A (call (.builtin "dict.get") [.ref p.1, u, o]) Q E s := by
    intro es xs ks d1 d2 hk hr hs
    subst hr hs
    obtain ⟨a, vs, n, rfl, k1, k2⟩ := asKey_of (prog := prog) (w := w) hk h2
    refine call_meetsIn PySem.F.slot_dict_get d1.typeIs PySem.F.entry_dict_get (PySem.F.args_dict_get_3 _ _ _) (meetsH_dict_get_default (tupleKind (intKind prog w)) p.1 a hsys o) ⟨tupleKind_room_in1 (by lia), ks, xs, k2, d1, ?_⟩
    have key := d2.getD ks h3
    exact back_toks (Q := Q) S hQ _ key
  rcases inv_getO e with ⟨rfl, ⟨k, rfl⟩ | ⟨ks, hk⟩, e⟩ | ⟨es, k, rfl, rfl, e⟩ | ⟨es, ks, rfl, hk, e⟩ <;> cases e
  · obtain ⟨_, n, g1⟩ := od
    obtain ⟨t, rfl⟩ := h2.str
    exact tstr (es := []) (dictOf_empty g1) rfl rfl rfl
  · obtain ⟨_, n, g1⟩ := od
    exact tpair (es := []) (xs := []) ⟨_, #[], n, g1, ⟨rfl, rfl, rfl⟩, rfl, rfl, (fun zz h => nomatch h), .nil⟩ rfl hk rfl rfl
  · obtain ⟨_, kvs, g1, g2⟩ := od
    obtain ⟨t, rfl⟩ := h2.str
    exact tstr g1 g2 rfl rfl
  · obtain ⟨_, xs, g1, g2, g3⟩ := od
    exact tpair g1 g2 hk rfl rfl
end
end Mine
end P_A11
section P_A12
open PySem PySem.Calls PySem.SeqAt PyProof.Rows PySem.W PySem.Builtin PySem.Builtin.Str
set_option autoImplicit false
set_option Elab.async false
set_option maxRecDepth 100000
namespace Mine
section
variable {prog : Program} {w : World} {K : Frag} {n₀ : Nat} {s s' : Shared} {ρ ρ' : Rho} {σ σ' : Hp} {P : List Addr} {L : Addr} {m : Loc} {A : Around} {E : Value → Shared → Prop}

theorem vrs_ints {h : Heap} : ∀ {ns : List Int} {vs : List Value}, IntsAre vs ns → VRs ρ n₀ h (ns.map V.int) vs
  | [], vs, q => by cases q; exact VRs.nil
  | n :: ns, vs, q => by
    cases q with
    | cons _ t r => exact VRs.cons VR.ofInt (vrs_ints r)

theorem intsBy : ∀ (vs : List Value) (ns : List Int), vs.length = ns.length → (∀ (j : Nat) (v : Value), vs[j]? = some v → ∃ (n : Int) (t : Tok), ns[j]? = some n ∧ v = Value.int n t) → IntsAre vs ns
  | [], [], _, _ => .nil
  | [], _ :: _, h, _ => by simp at h
  | _ :: _, [], h, _ => by simp at h
  | v :: vs, n :: ns, h, q => by
    obtain ⟨n', t, e1, rfl⟩ := q 0 v rfl
    simp at e1
    subst e1
    exact .cons _ _ (intsBy vs ns (by simpa using h) fun j u hu => by simpa using q (j + 1) u (by simpa using hu))

/-- collecting what a source gives; the heap has grown -/
theorem collect_src {T : String} {r d : Addr} {n : Nat} {P : Nat → Value → Prop} {OK : Heap → Prop} {R : List Value → Shared → Prop} (X : KdlSrc prog w T r d n P OK) (hh : A.handled = none) (hok : OK s.heap) (hn : n ≤ sizeLine)
    (h : ∀ (h' : Heap) (tk : Nat) (acc : Array Value), (∀ b o, s.heap.get? b = some o → h'.get? b = some o) → s.heap.objs.size ≤ h'.objs.size → ItemsOf P acc n → R acc.toList { s with heap := h', toks := tk }) :
    wpAny (model prog w) A (collect (.ref r)) R E s := by
  have hlt := X.there _ hok
  have hS₁ : (s.heap.push { cls := .type "list", data := .seq ([] : List Value).toArray }).get? s.heap.objs.size = some { cls := .type "list", data := .seq #[] } := Heap.get?_push_size _ rfl
  let F : Result → Shared → Prop := fun q s' => ∃ (h' : Heap) (tk : Nat) (acc' : Array Value) (c' : Nat), q = .ok (.ret (.ref s.heap.objs.size)) ∧ s' = { s with heap := h', toks := tk } ∧
      (∀ b o, s.heap.get? b = some o → h'.get? b = some o) ∧ h'.get? s.heap.objs.size = some { cls := .type "list", dict := none, data := .seq acc' c', slots := #[] } ∧ ItemsOf P acc' n
  have key := kdl_extend (A := A) (s := { s with heap := s.heap.push { cls := .type "list", data := .seq ([] : List Value).toArray } }) (R := F)
    X hh (X.keep _ _ hok fun b zz o e => Heap.get?_push_of_some _ e) s.heap.objs.size (Nat.ne_of_gt hlt.1) (Nat.ne_of_gt hlt.2) (.ref s.heap.objs.size) 0 hS₁
    (fun h' tk acc' c' hk hS' hacc => ⟨h', tk, acc', c', rfl, rfl, fun b o e => hk b o (Nat.ne_of_lt (Heap.lt_size e)) (Heap.get?_push_of_some _ e), hS', hacc⟩) hn
  unfold collect
  refine wpAny_bind (wpAny_runValue (codeAny_builtin entry_proto_collect' ?_))
  rw [Around.under_plainId PySem.F.plain_proto_collect _]
  show wpAny _ A.in1 (newList [] >>= fun l => again (.builtin "list.__iadd__" ⟨[l, .ref r], []⟩)) _ _ s
  refine wpAny_bind (wpAny_newObj_type ?_)
  refine wpAny_pure ⟨plainId_quiet PySem.F.plain_list_iadd _, codeAny_builtin entry_list_iadd' ?_⟩
  rw [Around.under_plainId PySem.F.plain_list_iadd _]
  show wpAny _ A.in1 (Builtin.List.listExtendWith (.ref s.heap.objs.size) (.ref r) (.ref s.heap.objs.size)) _ _ _
  refine wpAny_mono key (fun fin s' x => ?_) fun e s' x => ?_
  · cases fin with
    | done f =>
      obtain ⟨h', tk, acc', c', e, rfl, hk, hS', hacc⟩ := x
      cases e
      show wpAny _ A (load s.heap.objs.size >>= _) _ _ _
      refine wpAny_bind (wpAny_load hS' ?_)
      exact wpAny_pure (h h' tk acc' hk (Nat.le_of_lt (Heap.lt_size hS')) hacc)
    | again c₁ =>
      refine ⟨x.1, codeAny_mono x.2 fun q s₂ y => ?_⟩
      obtain ⟨h', tk, acc', c', rfl, rfl, hk, hS', hacc⟩ := y
      show wpAny _ A (load s.heap.objs.size >>= _) _ _ _
      refine wpAny_bind (wpAny_load hS' ?_)
      exact wpAny_pure (h h' tk acc' hk (Nat.le_of_lt (Heap.lt_size hS')) hacc)
  · obtain ⟨_, _, _, _, e', _⟩ := x
    cases e'

theorem sorted_dict (hh : A.handled = none) {a : Addr} {kvs : List (Int × Value)} {Q : Value → Shared → Prop} (hd : s.heap.DictOf (intKind prog w) a kvs) (lo : (a == sysModules) = false) (h64 : kvs.length < 64)
    (h : ∀ (h' : Heap) (tk : Nat) (d : Addr) (out : Array Value) (n : Nat), (∀ b o, s.heap.get? b = some o → h'.get? b = some o) → s.heap.objs.size ≤ d → h'.get? d = some (lstObj out n) → IntsAre out.toList (PySem.W.sortI (kvs.map (·.1))) → s.heap.objs.size ≤ h'.objs.size → Q (.ref d) { s with heap := h', toks := tk }) :
    wpAny (model prog w) A (call (.builtin "sorted") [.ref a]) Q E s := by
  obtain ⟨ep, hat⟩ := hd.dictAt
  have h24 : kvs.length ≤ sizeLine := by rw [sizeLine_eq]; lia
  refine call_function_entry kind_sorted plain_sorted entry_sorted (args_sorted1 _) ?_
  unfold Builtin.«sorted»
  refine wpAny_bind (m := checkCount "sorted" 1 1 _) (wpAny_pure ?_)
  refine wpAny_bind (collect_src (A := A.in1) (kdl_dict (knd := intKind prog w) (kvs := kvs) (ep := ep) lo) hh hat h24 fun h' tk acc hk hz hacc => ?_)
  have hl : acc.toList.length = kvs.length := by rw [Array.length_toList]; exact hacc.1
  have hI : IntsAre acc.toList (kvs.map (·.1)) := by
    refine intsBy _ _ (by rw [hl]; simp) fun j v hv => ?_
    obtain ⟨k, x, e1, e2⟩ := hacc.2 j v (by rw [← Array.getElem?_toList]; exact hv)
    rw [List.getElem?_map, e1]
    obtain ⟨t, rfl⟩ := Value.isInt_shape e2
    exact ⟨k, t, rfl, rfl⟩
  refine wpAny_bind (wpAny_newList ?_ (by rw [hl]; exact h24))
  have hoL : (h'.push (seqObj "list" acc.toList.toArray 0)).get? h'.objs.size = some (seqObj "list" acc.toList.toArray 0) := Heap.get?_push_size _ rfl
  refine wpAny_bind (wpAny_holding (wpAny_call_entry slot_list_sort ⟨_, hoL, rfl⟩ entry_list_sort (list_sort_tree hoL hI (by rw [hl]; exact h64) fun out ns' a1 a2 a3 => ⟨_, rfl, ?_⟩) (args_list_sort _)))
  refine wpAny_pure ⟨_, rfl, ?_⟩
  have hns := eq_sortI a2 a3
  subst hns
  have hgg : (h'.push (seqObj "list" acc.toList.toArray 0)).get? h'.objs.size = some (seqObj "list" acc.toList.toArray 0) := hoL
  have g1 := get?_update_seq hgg (fun zz => #[])
  obtain ⟨n1, g1⟩ : ∃ n1, ((h'.push (seqObj "list" acc.toList.toArray 0)).update h'.objs.size (Obj.mapSeq fun zz => #[])).get? h'.objs.size = some (seqObj "list" #[] n1) := ⟨_, g1⟩
  have g2 : ((((h'.push (seqObj "list" acc.toList.toArray 0)).update h'.objs.size (Obj.mapSeq fun zz => #[])).push (seqObj "tuple" acc.toList.toArray 0)).push (seqObj "list" #[] 0)).get? h'.objs.size = some (seqObj "list" #[] n1) :=
    Heap.get?_push_of_some _ (Heap.get?_push_of_some _ g1)
  obtain ⟨n2, g3⟩ : ∃ n2, (sortedHeap (h'.push (seqObj "list" acc.toList.toArray 0)) h'.objs.size acc.toList out).get? h'.objs.size = some (lstObj out n2) := ⟨_, get?_update_seq g2 (fun zz => out)⟩
  refine h _ tk _ out n2 (fun b o e => ?_) hz g3 a1 ?_
  · have e1 := hk b o e
    have hb : h'.objs.size ≠ b := Nat.ne_of_gt (Heap.lt_size e1)
    unfold sortedHeap
    rw [Heap.get?_update_other _ _ hb]
    refine Heap.get?_push_of_some _ (Heap.get?_push_of_some _ ?_)
    rw [Heap.get?_update_other _ _ hb]
    exact Heap.get?_push_of_some _ e1
  · exact Nat.le_trans hz (Nat.le_of_lt (Heap.lt_size g3))

set_option tactic.hygienic true in
theorem snd_sorted (hh : A.handled = none) (B : Bs K n₀) (S : St prog w K n₀ s ρ σ) {x r : V} {v : Value} {Q : Value → Shared → Prop} (e : bSorted [x] σ = some (r, σ')) (h1 : VR ρ n₀ s.heap x v) (hQ : BackV prog w K n₀ s ρ σ' r Q) :
    wpAny (model prog w) A (call (.builtin "sorted") [v]) Q E s := by
  obtain ⟨i, rfl⟩ := inv_sorted e
  delta bSorted ii asI asS asR at e; dsimp only at e
  refine bnd_el e fun o σ₁ g e1 => ?_
  obtain ⟨g, rfl⟩ := gt_some g
  obtain ⟨p, hp, rfl⟩ := h1.ref
  have ob := S.at hp g
  cases o <;> first | (exact (stuck_some e1).elim) | skip
  case dnew =>
    obtain ⟨_, n, g1⟩ := ob
    cases e1
    refine sorted_dict hh (dictOf_empty g1) (S.nsys B hp) (by simp) fun h' tk d out n k1 k2 k3 k4 k5 => ?_
    exact back_list B S (xs := []) tk n k1 k5 k2 k3 (vrs_ints (ns := []) k4) hQ
  case dint es _ =>
    refine grd_el e1 fun c e2 => ?_
    obtain ⟨_, kvs, g1, g2⟩ := ob
    have c : es.length < 64 := Nat.le_of_ble_eq_true c
    cases e2
    refine sorted_dict hh g1 (S.nsys B hp) (by rw [← g2.length]; exact c) fun h' tk d out n k1 k2 k3 k4 k5 => ?_
    rw [← g2.keys] at k4
    exact back_list B S tk n k1 k5 k2 k3 (vrs_ints k4) hQ

theorem snd_isiB (S : St prog w K n₀ s ρ σ) {x y r : V} {v u : Value} {Q : Value → Shared → Prop} (e : bIsi [x, y] σ = some (r, σ')) (h1 : VR ρ n₀ s.heap x v) (h2 : VR ρ n₀ s.heap y u) (hQ : BackV prog w K n₀ s ρ σ' r Q) :
    wpAny (model prog w) A (call (.builtin "isinstance") [v, u]) Q E s := by
  obtain ⟨_, rfl⟩ := inv_isi e
  delta bIsi at e; dsimp only at e
  refine bnd_el e fun b σ₁ g' e1 => ?_
  obtain ⟨g, rfl⟩ := ofO_some g'
  obtain ⟨rfl, rfl⟩ := ret_some e1
  change _ = _ at h2
  subst h2
  exact snd_isi S g h1 hQ

set_option tactic.hygienic true in
theorem lookup_mem {β : Type} : ∀ {l : List (String × β)} {x : String} {b : β}, l.lookup x = some b → (x, b) ∈ l
  | [], _, _, h => by cases h
  | (y, c) :: r, x, b, h => by
    rw [List.lookup_cons] at h
    split at h
    · rename_i hx; cases h; rw [eq_of_beq hx]; exact .head _
    · exact .tail _ (lookup_mem h)

/-- the soundness of one built-in function -/
noncomputable def SndB (prog : Program) (w : World) (K : Frag) (n₀ : Nat) (A : Around) (E : Value → Shared → Prop) (v : Value) (f : List V → Mo V) : Prop := ∀ (s : Shared) (ρ : Rho) (σ σ' : Hp) (as : List V) (r : V) (vs : List Value) (Q : Value → Shared → Prop), f as σ = some (r, σ') → St prog w K n₀ s ρ σ → VRs ρ n₀ s.heap as vs →
  BackV prog w K n₀ s ρ σ' r Q → wpAny (model prog w) A (call v vs) Q E s
theorem SndB.one {b : Value} {f : List V → Mo V} (h0 : f [] = stuck) (h2 : ∀ x y r, f (x :: y :: r) = stuck) (h : ∀ (s : Shared) (ρ : Rho) (σ σ' : Hp) (x r : V) (v : Value) (Q : Value → Shared → Prop), f [x] σ = some (r, σ') → St prog w K n₀ s ρ σ → VR ρ n₀ s.heap x v → BackV prog w K n₀ s ρ σ' r Q → wpAny (model prog w) A (call b [v]) Q E s) : SndB prog w K n₀ A E b f
  | s, ρ, σ, σ', [], r, vs, Q, e, S, q, hQ => by rw [h0] at e; exact (stuck_some e).elim
  | s, ρ, σ, σ', [x], r, vs, Q, e, S, q, hQ => by obtain ⟨v, rfl, q1⟩ := q.one; exact h _ _ _ _ _ _ _ _ e S q1 hQ
  | s, ρ, σ, σ', x :: y :: l, r, vs, Q, e, S, q, hQ => by rw [h2] at e; exact (stuck_some e).elim
theorem SndB.two {b : Value} {f : List V → Mo V} (h0 : f [] = stuck) (h1 : ∀ x, f [x] = stuck) (h3 : ∀ x y z r, f (x :: y :: z :: r) = stuck) (h : ∀ (s : Shared) (ρ : Rho) (σ σ' : Hp) (x y r : V) (v u : Value) (Q : Value → Shared → Prop), f [x, y] σ = some (r, σ') → St prog w K n₀ s ρ σ → VR ρ n₀ s.heap x v → VR ρ n₀ s.heap y u → BackV prog w K n₀ s ρ σ' r Q → wpAny (model prog w) A (call b [v, u]) Q E s) : SndB prog w K n₀ A E b f
  | s, ρ, σ, σ', [], r, vs, Q, e, S, q, hQ => by rw [h0] at e; exact (stuck_some e).elim
  | s, ρ, σ, σ', [x], r, vs, Q, e, S, q, hQ => by rw [h1] at e; exact (stuck_some e).elim
  | s, ρ, σ, σ', [x, y], r, vs, Q, e, S, q, hQ => by obtain ⟨v, u, rfl, q1, q2⟩ := q.two; exact h _ _ _ _ _ _ _ _ _ _ e S q1 q2 hQ
  | s, ρ, σ, σ', x :: y :: z :: l, r, vs, Q, e, S, q, hQ => by rw [h3] at e; exact (stuck_some e).elim
theorem SndB.three {b : Value} {f : List V → Mo V} (h0 : f [] = stuck) (h1 : ∀ x, f [x] = stuck) (h2 : ∀ x y, f [x, y] = stuck) (h4 : ∀ x y z u r, f (x :: y :: z :: u :: r) = stuck) (h : ∀ (s : Shared) (ρ : Rho) (σ σ' : Hp) (x y z r : V) (v u o : Value) (Q : Value → Shared → Prop), f [x, y, z] σ = some (r, σ') → St prog w K n₀ s ρ σ → VR ρ n₀ s.heap x v → VR ρ n₀ s.heap y u → VR ρ n₀ s.heap z o → BackV prog w K n₀ s ρ σ' r Q → wpAny (model prog w) A (call b [v, u, o]) Q E s) : SndB prog w K n₀ A E b f
  | s, ρ, σ, σ', [], r, vs, Q, e, S, q, hQ => by rw [h0] at e; exact (stuck_some e).elim
  | s, ρ, σ, σ', [x], r, vs, Q, e, S, q, hQ => by rw [h1] at e; exact (stuck_some e).elim
  | s, ρ, σ, σ', [x, y], r, vs, Q, e, S, q, hQ => by rw [h2] at e; exact (stuck_some e).elim
  | s, ρ, σ, σ', [x, y, z], r, vs, Q, e, S, q, hQ => by obtain ⟨v, u, o, rfl, q1, q2, q3⟩ := q.three; exact h _ _ _ _ _ _ _ _ _ _ _ _ e S q1 q2 q3 hQ
  | s, ρ, σ, σ', x :: y :: z :: u :: l, r, vs, Q, e, S, q, hQ => by rw [h4] at e; exact (stuck_some e).elim
theorem snd_bltL (hh : A.handled = none) (B : Bs K n₀) (hu : A.units + 2 < cLine) : ∀ p ∈ bltL, SndB prog w K n₀ A E (.builtin p.1) p.2 := by
  unfold bltL
  refine List.forall_mem_cons.mpr ⟨.one rfl (fun x zz zz => by cases x <;> rfl) fun zz zz zz zz zz zz zz zz e S q hQ => snd_abs S e q hQ, ?_⟩
  refine List.forall_mem_cons.mpr ⟨.one rfl (fun x zz zz => by cases x <;> rfl) fun zz zz zz zz zz zz zz zz e S q hQ => snd_len S e q hQ, ?_⟩
  refine List.forall_mem_cons.mpr ⟨.two rfl (fun x => by cases x <;> rfl) (fun x y zz zz => by cases x <;> first | rfl | (cases y <;> rfl)) fun zz zz zz zz zz zz zz zz zz zz e S q q' hQ => snd_isiB S e q q' hQ, ?_⟩
  refine List.forall_mem_cons.mpr ⟨.one rfl (fun x zz zz => by cases x <;> rfl) fun zz zz zz zz zz zz zz zz e S q hQ => snd_sorted hh B S e q hQ, ?_⟩
  refine List.forall_mem_cons.mpr ⟨.two rfl (fun x => by cases x <;> rfl) (fun x y zz zz => by cases x <;> first | rfl | (cases y <;> rfl)) fun zz zz zz zz zz zz zz zz zz zz e S q q' hQ => snd_append B S e q q' hQ, ?_⟩
  refine List.forall_mem_cons.mpr ⟨.one rfl (fun x zz zz => by cases x <;> rfl) fun zz zz zz zz zz zz zz zz e S q hQ => snd_pop B S e q hQ, ?_⟩
  refine List.forall_mem_cons.mpr ⟨.three rfl (fun x => by cases x <;> rfl) (fun x y => by cases x <;> first | rfl | (cases y <;> rfl)) (fun x y zz zz zz => by cases x <;> first | rfl | (cases y <;> rfl)) fun zz zz zz zz zz zz zz zz zz zz zz zz e S q q' q'' hQ => snd_insert B S e q q' q'' hQ, ?_⟩
  refine List.forall_mem_cons.mpr ⟨.one rfl (fun x zz zz => by cases x <;> rfl) fun zz zz zz zz zz zz zz zz e S q hQ => snd_reverse B S e q hQ, ?_⟩
  refine List.forall_mem_cons.mpr ⟨.three rfl (fun x => by cases x <;> rfl) (fun x y => by cases x <;> first | rfl | (cases y <;> rfl)) (fun x y zz zz zz => by cases x <;> first | rfl | (cases y <;> rfl)) fun zz zz zz zz zz zz zz zz zz zz zz zz e S q q' q'' hQ => snd_get B hu S e q q' q'' hQ, ?_⟩
  refine List.forall_mem_cons.mpr ⟨.two rfl (fun x => by cases x <;> rfl) (fun x y zz zz => by cases x <;> first | rfl | (cases y <;> rfl)) fun zz zz zz zz zz zz zz zz zz zz e S q q' hQ => snd_starts S e q q' hQ, ?_⟩
  refine List.forall_mem_cons.mpr ⟨.two rfl (fun x => by cases x <;> rfl) (fun x y zz zz => by cases x <;> first | rfl | (cases y <;> rfl)) fun zz zz zz zz zz zz zz zz zz zz e S q q' hQ => snd_split B S e q q' hQ, ?_⟩
  refine List.forall_mem_cons.mpr ⟨.two rfl (fun x => by cases x <;> rfl) (fun x y zz zz => by cases x <;> first | rfl | (cases y <;> rfl)) fun zz zz zz zz zz zz zz zz zz zz e S q q' hQ => snd_join S e q q' hQ, ?_⟩
  exact fun zz h => nomatch h
theorem snd_blt (hh : A.handled = none) (B : Bs K n₀) (hu : A.units + 2 < cLine) (S : St prog w K n₀ s ρ σ) {id : String} {as : List V} {r : V} {vs : List Value} {Q : Value → Shared → Prop} (e : bltV id as σ = some (r, σ')) (h1 : VRs ρ n₀ s.heap as vs)
    (hQ : BackV prog w K n₀ s ρ σ' r Q) : wpAny (model prog w) A (call (.builtin id) vs) Q E s := by
  unfold bltV at e
  cases hl : bltL.lookup id with
  | none => rw [hl] at e; exact (stuck_some e).elim
  | some f =>
    rw [hl] at e
    exact snd_bltL hh B hu _ (lookup_mem hl) _ _ _ _ _ _ _ _ e S h1 hQ
end
end Mine
end P_A12
section P_A13
open PySem PySem.Calls PySem.SeqAt PyProof.Rows PySem.W PySem.Builtin PySem.Builtin.Str
set_option autoImplicit false
set_option Elab.async false
set_option maxRecDepth 100000
namespace Mine
section
variable {prog : Program} {w : World} {K : Frag} {n₀ : Nat} {s s' : Shared} {ρ ρ' : Rho} {σ σ' : Hp} {P : List Addr} {L : Addr} {m : Loc} {A : Around} {E : Value → Shared → Prop}

theorem back_rng (B : Bs K n₀) (S : St prog w K n₀ s ρ σ) {Q : Value → Shared → Prop} {a b : Int} {h' : Heap} (k : Nat) {t u z : Tok} {d : Addr}
    (hk : ∀ a o, s.heap.get? a = some o → h'.get? a = some o) (hs : s.heap.objs.size ≤ h'.objs.size) (hg : h'.get? d = some (rngObj a b t u z))
    (hQ : BackV prog w K n₀ s ρ σ (.rng a b) Q) : Q (.ref d) { s with heap := h', toks := k } := by
  refine back_keep B S hQ k hs hk ?_
  exact ⟨d, t, u, z, rfl, hg⟩

theorem snd_range1 (B : Bs K n₀) (S : St prog w K n₀ s ρ σ) {x r : V} {v : Value} {Q : Value → Shared → Prop} (e : tRange [x] σ = some (r, σ')) (h1 : VR ρ n₀ s.heap x v) (hQ : BackV prog w K n₀ s ρ σ' r Q) :
    wpAny (model prog w) A (call (.type "range") [v]) Q E s := by
  obtain ⟨_, rfl⟩ := inv_range1 e
  delta tRange ii asI asS asR at e; dsimp only at e
  obtain ⟨rfl, rfl⟩ := ret_some e
  obtain ⟨t, rfl⟩ := h1.int
  exact call_range_1 (back_rng B S _ (fun a o e => Heap.get?_push_of_some _ e) (by simp only [Heap.size_push]; lia) (Heap.get?_push_size _ rfl) hQ)
theorem snd_range2 (B : Bs K n₀) (S : St prog w K n₀ s ρ σ) {x y r : V} {v u : Value} {Q : Value → Shared → Prop} (e : tRange [x, y] σ = some (r, σ')) (h1 : VR ρ n₀ s.heap x v) (h2 : VR ρ n₀ s.heap y u) (hQ : BackV prog w K n₀ s ρ σ' r Q) :
    wpAny (model prog w) A (call (.type "range") [v, u]) Q E s := by
  obtain ⟨⟨_, rfl⟩, _, rfl⟩ := inv_range2 e
  delta tRange ii asI asS asR at e; dsimp only at e
  obtain ⟨rfl, rfl⟩ := ret_some e
  obtain ⟨t, rfl⟩ := h1.int
  obtain ⟨t', rfl⟩ := h2.int
  exact call_range_2 (back_rng B S _ (fun a o e => Heap.get?_push_of_some _ e) (by simp only [Heap.size_push]; lia) (Heap.get?_push_size _ rfl) hQ)

theorem log2_small {i : Int} (h : smallI i = true) : i.natAbs.log2 < 1920 := by
  unfold smallI at h
  refine and_el h fun h1 h2 => ?_
  have h1 := of_decide_eq_true h1
  have h2 := of_decide_eq_true h2
  by_cases h0 : i.natAbs = 0
  · rw [h0]; decide
  · refine (Nat.log2_lt h0).mpr ?_
    have : i.natAbs < 2 ^ 67 := by lia
    exact Nat.lt_of_lt_of_le this (Nat.pow_le_pow_right (by lia) (by lia))

theorem snd_str (S : St prog w K n₀ s ρ σ) {x r : V} {v : Value} {Q : Value → Shared → Prop} (e : tStr [x] σ = some (r, σ')) (h1 : VR ρ n₀ s.heap x v) (hQ : BackV prog w K n₀ s ρ σ' r Q) :
    wpAny (model prog w) A (call (.type "str") [v]) Q E s := by
  obtain ⟨_, rfl⟩ := inv_str e
  delta tStr ii asI asS asR at e; dsimp only at e
  refine grd_el e fun c e1 => ?_
  obtain ⟨rfl, rfl⟩ := ret_some e1
  obtain ⟨t, rfl⟩ := h1.int
  exact PySem.P.str_of_int (log2_small c) (back_toks S hQ _ VR.ofStr)

set_option tactic.hygienic true in
theorem snd_int (S : St prog w K n₀ s ρ σ) {x r : V} {v : Value} {Q : Value → Shared → Prop} (e : tInt [x] σ = some (r, σ')) (h1 : VR ρ n₀ s.heap x v) (hQ : BackV prog w K n₀ s ρ σ' r Q) :
    wpAny (model prog w) A (call (.type "int") [v]) Q E s := by
  obtain ⟨x, rfl⟩ := inv_int e
  delta tInt ii asI asS asR at e; dsimp only at e
  refine bnd_el e fun i σ₁ g' e1 => ?_
  obtain ⟨g, rfl⟩ := ofO_some g'
  obtain ⟨rfl, rfl⟩ := ret_some e1
  obtain ⟨t, rfl⟩ := h1.str
  unfold numOf at g
  obtain ⟨n, hn, hg⟩ := List.exists_of_findSome?_eq_some g
  rw [List.mem_range] at hn
  split at hg
  · rename_i hx
    cases hg
    have hx := eq_of_beq hx
    subst hx
    exact KIN.call_num (by lia) (by lia) (back_toks S hQ _ VR.ofInt)
  · cases hg

theorem snd_tuple (B : Bs K n₀) (S : St prog w K n₀ s ρ σ) {x r : V} {v : Value} {Q : Value → Shared → Prop} (e : tTuple [x] σ = some (r, σ')) (h1 : VR ρ n₀ s.heap x v) (hQ : BackV prog w K n₀ s ρ σ' r Q) :
    wpAny (model prog w) A (call (.type "tuple") [v]) Q E s := by
  obtain ⟨i, rfl⟩ := inv_tuple e
  delta tTuple ii asI asS asR at e; dsimp only at e
  refine bnd_el e fun xs σ₁ g' e1 => ?_
  obtain ⟨g, rfl⟩ := gtL_some g'
  refine grd_el e1 fun c e2 => ?_
  obtain ⟨rfl, rfl⟩ := ret_some e2
  obtain ⟨a, vs, n, p1, rfl, g1, g2⟩ := S.lst h1 g
  have hz := g2.size
  have hsz : vs.size ≤ sizeLine := by rw [hz]; exact okLen_line c
  have mt : Meets (Builtin.«tuple.__new__» ⟨[.type "tuple", .ref a], []⟩)
      (fun zz R s => s.heap.get? a = some (lstObj vs n) ∧ ∀ h' : Heap, (∀ b o', s.heap.get? b = some o' → h'.get? b = some o') → s.heap.objs.size ≤ h'.objs.size → R (.ok (.ret (.ref h'.objs.size))) { s with heap := h'.push { cls := .type "tuple", data := .seq vs } }) :=
    .of_wp fun prog w A R s h => by
      obtain ⟨hp, g, d, tk, os⟩ := s; obtain ⟨ht, h⟩ := h
      have hsub := sub_tuple_self
      have hinit := init_tuple_lookup
      have hmh := madeHere_tuple
      have hT : Shared.TypeIs ⟨hp, g, d, tk, os⟩ (.ref a) "list" := ⟨_, ht, rfl⟩
      have hl : (⟨hp, g, d, tk, os⟩ : Shared).heap.IsList a vs.toList.toArray := by rw [Array.toArray_toList]; exact isList_of ht
      have hsz' : vs.toList.length ≤ sizeLine := by rw [Array.length_toList]; exact hsz
      wp_walk using wpAny_loadPart' ht, wpAny_typeOf hT, collect_list (hsz := hsz') hl
      show wpAny _ _ (newObj (.type "tuple") (.seq vs.toList.toArray)) _ _ _
      refine wpAny_newObj_type ?_ (by show vs.toList.toArray.size ≤ sizeLine; simpa using hsz)
      refine wpAny_pure ⟨_, rfl, ?_⟩
      rw [Array.toArray_toList]
      refine h _ (fun b o e => ?_) ?_
      · rw [Heap.get?_update_other _ _ (Nat.ne_of_gt (Heap.lt_size e))]
        exact Heap.get?_push_of_some _ e
      · simp only [Heap.size_update, Heap.size_push]; lia
  refine callType_new PySem.F.called_tuple (by decide) (PySem.F.typeCall_tuple_1 _) (PySem.F.newCall_tuple_1 _) (fun obj => PySem.F.args_object_init_2 obj _) PySem.F.entry_tuple_new mt ⟨g1, fun h' hk hs => ⟨⟨_, Heap.get?_push_size _ rfl, rfl⟩, ?_⟩⟩
  exact back_tup B S (vs := vs) _ 0 (fun b o e => Heap.get?_push_of_some _ (hk b o e)) (by simp only [Heap.size_push]; lia) (Heap.get?_push_size _ rfl) g2 hQ

end
end Mine
end P_A13
section P_A14
open PySem PySem.Calls PySem.SeqAt PyProof.Rows PySem.W PySem.Builtin PySem.Builtin.Str
set_option autoImplicit false
set_option Elab.async false
set_option maxRecDepth 100000
namespace Mine
theorem nolen_lri : typeLookup (.type "list_reverseiterator") "__len__" = pure none := by rw [typeLookup_type, builtinLookup_eq_fast]; kernel_rfl
theorem hint_lri : typeLookup (.type "list_reverseiterator") "__length_hint__" = pure (some (.builtin "list_reverseiterator.__length_hint__")) := by rw [typeLookup_type, builtinLookup_eq_fast]; kernel_rfl
section
variable {prog : Program} {w : World} {K : Frag} {n₀ : Nat} {s s' : Shared} {ρ ρ' : Rho} {σ σ' : Hp} {P : List Addr} {L : Addr} {m : Loc} {A : Around} {E : Value → Shared → Prop}

theorem collect_rev {R : List Value → Shared → Prop} {I : Addr} {fp wr : List Addr} {G : Array GenState → Array GenState → Prop} {n : Nat} {P : Nat → Value → Prop} {St : Nat → Shared → Prop}
    (W : WalksS prog w A.in1 I fp wr G n P St) (hT : ∀ i s, St i s → s.TypeIs (.ref I) "list_reverseiterator") (hst : St 0 s) (hfp : ∀ b ∈ fp, b < s.heap.objs.size) (hI : I ∈ fp)
    (hQ : ∀ s' acc, Moved wr G s s' → s.heap.objs.size ≤ s'.heap.objs.size → ItemsOf P acc n → R acc.toList s') (hn : n ≤ sizeLine) : wpAny (model prog w) A (collect (.ref I)) R E s := by
  have hSf : s.heap.objs.size ∉ fp := fun hm => Nat.lt_irrefl _ (hfp _ hm)
  have hSI : s.heap.objs.size ≠ I := fun e => hSf (e ▸ hI)
  unfold collect
  refine wpAny_bind (wpAny_runValue (codeAny_builtin PySem.F.entry_proto_collect ?_))
  rw [Around.under_plainId PySem.F.plain_proto_collect _]
  show wpAny _ A.in1 (newList [] >>= fun l => again (.builtin "list.__iadd__" ⟨[l, .ref I], []⟩)) _ _ s
  refine wpAny_bind (wpAny_newObj_type ?_)
  refine wpAny_pure ⟨plainId_quiet PySem.F.plain_list_iadd _, codeAny_builtin PySem.F.entry_list_iadd ?_⟩
  rw [Around.under_plainId PySem.F.plain_list_iadd _]
  have hst₁ := W.frame 0 s (s.heap.push { cls := .type "list", data := .seq ([] : List Value).toArray }) s.toks hst (Nat.le_refl _) fun b zz o e => Heap.get?_push_of_some _ e
  have hS₁ : (s.heap.push { cls := .type "list", data := .seq ([] : List Value).toArray }).get? s.heap.objs.size = some { cls := .type "list", data := .seq ([] : List Value).toArray } := Heap.get?_push_size _ rfl
  have h1 : Builtin.List.listSameRef (.ref s.heap.objs.size) (.ref I) = false := by simp [Builtin.List.listSameRef, hSI]
  show wpAny _ A.in1 (Builtin.List.listExtendWith (.ref s.heap.objs.size) (.ref I) (.ref s.heap.objs.size)) _ _ _
  unfold Builtin.List.listExtendWith
  refine wpAny_bind (wpAny_typeOf (hT 0 _ hst₁) ?_)
  rw [if_neg (by rw [h1]; decide)]
  refine wpAny_bind (W.self 0 _ _ _ hst₁ ?_)
  refine wpAny_bind (wpAny_holding ?_)
  unfold Builtin.List.listLengthHint
  refine wpAny_bind (wpAny_specialOf (hT 0 _ hst₁) nolen_lri ?_)
  show wpAny _ A.in1 (specialOf (Value.ref I) (Str.ofString "__length_hint__") >>= _) _ _ _
  refine wpAny_bind (wpAny_specialOf (hT 0 _ hst₁) hint_lri ?_)
  (generalize hid : ("list_reverseiterator.__length_hint__" : String) = id0; (fail_if_success (clear hid id0)); wp_delta; rw [show splitId id0 = some ("list_reverseiterator", "__length_hint__") from by subst hid; decide +kernel]; subst hid)
  refine wpAny_bind (wpAny_isInstance (b := true) (hT 0 _ hst₁) (by rw [isSubtype_type]; kernel_rfl) ?_)
  refine wpAny_pure ?_
  rw [if_neg (by decide)]
  refine wpAny_pure ⟨plainId_quiet PySem.F.plain_extend_loop _, codeAny_extend_loopS W hn _ hSf _ n 0 _ _ _ rfl (Nat.zero_le _) hst₁ hS₁ (ItemsOf.nil P) fun s' acc' c' hm hS' hacc => ?_⟩
  show wpAny _ A (load s.heap.objs.size >>= _) _ _ s'
  refine wpAny_bind (wpAny_load hS' ?_)
  exact wpAny_pure (hQ s' acc' (Moved.drop_new (o := { cls := .type "list", data := .seq ([] : List Value).toArray }) (tk := s.toks) hm (Nat.le_refl _)) (Nat.le_of_lt (Heap.lt_size hS')) hacc)

set_option tactic.hygienic true in
theorem snd_joinRev (hh : A.handled = none) (B : Bs K n₀) (S : St prog w K n₀ s ρ σ) {x : Str} {t : Tok} {y r : V} {v : Value} {Q : Value → Shared → Prop} (e : joinRev (.str x) y σ = some (r, σ')) (h1 : VR ρ n₀ s.heap y v)
    (hQ : BackV prog w K n₀ s ρ σ' r Q) : wpAny (model prog w) A (call (.type "reversed") [v]) (fun u s' => wpAny (model prog w) A (call (.builtin "str.join") [.str x t, u]) Q E s') E s := by
  cases y <;> first | (exact (no_some e).elim) | skip
  delta joinRev at e; dsimp only at e
  rename_i i
  refine bnd_el e fun xs σ₁ g' e1 => ?_
  obtain ⟨g, rfl⟩ := gtL_some g'
  obtain ⟨a, vs, n, p1, rfl, g1, g2⟩ := S.lst h1 g
  refine bnd_el e1 fun l σ₂ g3' e2 => ?_
  obtain ⟨g3, rfl⟩ := ofO_some g3'
  refine grd_el e2 fun h e3 => ?_
  refine and_el h fun h h' => ?_
  obtain ⟨rfl, rfl⟩ := ret_some e3
  have hL := isList_of g1
  refine call_reversed_list hL ?_
  have hst := strsOf_are g3 g2.reverse
  have hlen : l.length = vs.size := by
    have := hst.length
    simpa using this.symm
  have hsz : vs.size ≤ sizeLine := by rw [← hlen]; exact okLen_line h'
  generalize hI : s.heap.objs.size = I
  have hne : a ≠ I := by rw [← hI]; exact Nat.ne_of_lt (Heap.lt_size g1)
  have hT : ({ s with heap := s.heap.push (revObj a ((vs.size : Int) - 1)) } : Shared).TypeIs (.ref I) "list_reverseiterator" := ⟨revObj a ((vs.size : Int) - 1), by rw [← hI]; exact Heap.get?_push_size _ rfl, rfl⟩
  have W : WalksS prog w A.in1.in1 I [I, a] [I] (fun a b => b = a) vs.size (fun i v => vs[vs.size - 1 - i]? = some v) (fun i s => i ≤ vs.size ∧ s.heap.IsRevIter I a ((vs.size : Int) - 1 - (i : Int)) ∧ s.heap.IsList a vs) := (Walks.listRev (A := A.in1.in1) hh I a hne vs).toS
  have hs0 : (0 : Nat) ≤ vs.size ∧ (s.heap.push (revObj a ((vs.size : Int) - 1))).IsRevIter I a ((vs.size : Int) - 1 - ((0 : Nat) : Int)) ∧ (s.heap.push (revObj a ((vs.size : Int) - 1))).IsList a vs :=
    ⟨Nat.zero_le _, ⟨revObj a ((vs.size : Int) - 1), by rw [← hI]; exact Heap.get?_push_size _ rfl, rfl, by simp [revObj]⟩, isList_of (Heap.get?_push_of_some _ g1)⟩
  refine wpAny_call (codeAny_call_builtin PySem.F.slot_str_join.plain PySem.F.entry_str_join (PySem.F.slot_str_join.check _ _ _ _ _ _ _ _ (typeIs_str _ _ _) (PySem.F.args_str_join_2 _ _) ?_))
  rw [join_tree_other]
  refine wpAny_bind (wpAny_typeOf hT ?_)
  show wpAny _ A.in1 ((pyIter (.ref I)).tryCatch _ >>= fun it => collect it >>= fun items => joinTail x items) _ _ _
  refine wpAny_bind (wpAny_tryCatch (W.of_in1.self 0 _ _ _ hs0 ?_))
  refine wpAny_bind (collect_rev W (fun i s st => st.2.1.typeIs) hs0 (fun b hb => ?_) (.head _) (fun s' acc hm hz hacc => ?_) hsz)
  · simp at hb
    have h3 : a < s.heap.objs.size := Heap.lt_size g1
    have h4 : (s.heap.push (revObj a ((vs.size : Int) - 1))).objs.size = s.heap.objs.size + 1 := Heap.size_push ..
    show b < (s.heap.push (revObj a ((vs.size : Int) - 1))).objs.size
    rw [h4]
    rcases hb with rfl | rfl
    · rw [← hI]; exact Nat.lt_succ_self _
    · exact Nat.lt_succ_of_lt h3
  have hacc' : acc.toList = vs.toList.reverse := by
    refine List.ext_getElem? fun j => ?_
    by_cases hj : j < vs.size
    · have h1 : acc[j]? = some (acc[j]'(by rw [hacc.1]; exact hj)) := Array.getElem?_eq_getElem _
      have h2 := hacc.2 j _ h1
      rw [Array.getElem?_toList, h1, ← h2, List.getElem?_reverse (by rw [Array.length_toList]; exact hj), Array.getElem?_toList, Array.length_toList]
    · rw [List.getElem?_eq_none (by rw [Array.length_toList, hacc.1]; lia), List.getElem?_eq_none (by rw [List.length_reverse, Array.length_toList]; lia)]
  rw [hacc']
  obtain ⟨lt, hv, ht⟩ := strsAre_values hst
  rw [hv]
  have hok : JoinOk x (lt.map (·.1)) = true := joinOk_of (by
    rw [ht, ← sumLen_eq, Nat.mul_comm]
    have := okLen_le h
    lia)
  have hfin : ∀ t' k, Q (.str (Txt.join x (lt.map (·.1))) t') { s' with toks := k } := fun t' k => by
    rw [ht]
    have : ({ s' with toks := k } : Shared) = { s with heap := s'.heap, toks := k } := by
      have e1 := hm.gens
      have e2 := hm.drawn
      have e3 := hm.os
      obtain ⟨_, _, _, _, _⟩ := s'
      dsimp only at e1 e2 e3
      subst e1 e2 e3
      rfl
    rw [this]
    refine back_keep B S hQ k ?_ (fun b o e => hm.heap b o ?_ (Heap.get?_push_of_some _ e)) VR.ofStr
    · have : (s.heap.push (revObj a ((vs.size : Int) - 1))).objs.size ≤ s'.heap.objs.size := hz
      rw [Heap.size_push] at this
      lia
    · rw [List.mem_singleton, ← hI]; exact Nat.ne_of_lt (Heap.lt_size e)
  have hfit := joinOk_length hok
  unfold JoinOk at hok
  rw [Bool.not_eq_true'] at hok
  have g : Gives (joinTail x (strValues lt)) (joinMade x lt) := by
    have g0 := gives_joinTail x lt hok
    cases lt with
    | nil => exact g0
    | cons p r => cases r with
      | nil => exact g0
      | cons q r' => exact g0
  exact g prog w A (wants Q E) s' (post_join lt ⟨hfit, hfin⟩)
end
end Mine
end P_A14
section P_A15
open PySem PySem.Calls PySem.SeqAt PyProof.Rows PySem.W
set_option autoImplicit false
set_option Elab.async false
set_option maxRecDepth 100000
namespace Mine

/-- the names above all -/
noncomputable def Bt (h : Heap) : Prop := ∃ mg mb, h.Ns mainGlobals mg ∧ h.Ns builtinsNs mb ∧ ∀ x : Str, x ≠ "__name__" → mb x = bootBuiltins x
theorem Ns.kept {h h' : Heap} {a : Addr} {m : Str → Option Value} (x : h.Ns a m) (k : ∀ o, h.get? a = some o → h'.get? a = some o) : h'.Ns a m :=
  let ⟨o, es, ep, e, r⟩ := x; ⟨o, es, ep, k o e, r⟩

section
variable {prog : Program} {w : World} {K : Frag} {n₀ : Nat} {s s' : Shared} {ρ ρ' : Rho} {σ σ' : Hp} {P : List Addr} {L : Addr} {m : Loc} {A : Around} {E : Value → Shared → Prop}

theorem Bt.ev (B : Bs K n₀) (S : St prog w K n₀ s ρ σ) (W : Wr n₀ s P) (x : Ev P s ρ s' ρ') (T : Bt s.heap) : Bt s'.heap := by
  obtain ⟨mg, mb, h1, h2, h3⟩ := T
  exact ⟨mg, mb, Ns.kept h1 fun o e => x.base S W B.glob e, Ns.kept h2 fun o e => x.base S W B.blt e, h3⟩

structure Iv (prog : Program) (w : World) (K : Frag) (n₀ : Nat) (L : Addr) (m : Loc) (s : Shared) (ρ : Rho) (σ : Hp) : Prop where
  S : St prog w K n₀ s ρ σ
  F : Fm prog w n₀ L m s ρ
  T : Bt s.heap
theorem Iv.ev (B : Bs K n₀) (I : Iv prog w K n₀ L m s ρ σ) (x : Ev [] s ρ s' ρ') (S' : St prog w K n₀ s' ρ' σ') : Iv prog w K n₀ L m s' ρ' σ' :=
  ⟨S', I.F.ev I.S x, I.T.ev B I.S Wr.nil x⟩
theorem Iv.tr (I : Iv prog w K n₀ L m s ρ σ) (x : Ev [] s ρ s' ρ') : Tr n₀ ρ s.heap ρ' s'.heap := x.tr I.S Wr.nil
theorem Iv.vr (I : Iv prog w K n₀ L m s ρ σ) (x : Ev [] s ρ s' ρ') {y : V} {v : Value} (h : VR ρ n₀ s.heap y v) : VR ρ' n₀ s'.heap y v := VR.tr (I.tr x) _ _ h

/-- the walk's surroundings -/
structure Cx (prog : Program) (w : World) (K : Frag) (n₀ : Nat) (A : Around) (env : Env) (sc : Scope) : Prop where
  B : Bs K n₀
  hh : A.handled = none
  hu : A.units + 8 < cLine
  kind : env.scope.kind = .function
  sc : env.scope = sc
  glob : env.globals = mainGlobals
  blt : env.builtins = builtinsNs

noncomputable def SndC (prog : Program) (w : World) (K : Frag) (n₀ : Nat) (A : Around) (E : Value → Shared → Prop) (C : Or) : Prop :=
  ∀ (a : Addr) (as : List V) (σ : Hp) (r : V) (σ' : Hp) (s : Shared) (ρ : Rho) (vs : List Value) (Q : Value → Shared → Prop), C a as σ = some (r, σ') → St prog w K n₀ s ρ σ → Bt s.heap → VRs ρ n₀ s.heap as vs →
    BackV prog w K n₀ s ρ σ' r Q → wpAny (model prog w) A (call (.ref a) vs) Q E s
noncomputable def SndE (prog : Program) (w : World) (K : Frag) (n₀ : Nat) (A : Around) (E : Value → Shared → Prop) (env : Env) (ev : EvT) : Prop :=
  ∀ (e : Expr) (m : Loc) (σ : Hp) (r : V) (σ' : Hp) (s : Shared) (ρ : Rho) (Q : Value → Shared → Prop), ev e m σ = some (r, σ') → Iv prog w K n₀ env.locals m s ρ σ → BackV prog w K n₀ s ρ σ' r Q → wpAny (model prog w) A (eval e env) Q E s
noncomputable def SndT (prog : Program) (w : World) (K : Frag) (n₀ : Nat) (A : Around) (E : Value → Shared → Prop) (env : Env) (ts : TsT) : Prop :=
  ∀ (e : Expr) (m : Loc) (σ : Hp) (r : Bool) (σ' : Hp) (s : Shared) (ρ : Rho) (Q : Bool → Shared → Prop), ts e m σ = some (r, σ') → Iv prog w K n₀ env.locals m s ρ σ → Back prog w K n₀ s ρ σ' (fun _ _ (b : Bool) => b = r) Q → wpAny (model prog w) A (isTrue e env (eval e env)) Q E s

set_option tactic.hygienic true in
theorem snd_name {env : Env} {sc : Scope} (X : Cx prog w K n₀ A env sc) {x : Str} {pos : Pos} {r : V} {Q : Value → Shared → Prop} (I : Iv prog w K n₀ env.locals m s ρ σ) (e : nameV K sc m x σ = some (r, σ')) (hQ : BackV prog w K n₀ s ρ σ' r Q) :
    wpAny (model prog w) A (eval (.Name x pos) env) Q E s := by
  unfold nameV at e
  generalize hd : (x == ("__debug__" : Str)) = d at e
  cases d with
  | true => exact (stuck_some e).elim
  | false =>
    dsimp only at e
    have hkd : env.kindOf x = sc.names.lookup x := by unfold Env.kindOf; rw [X.sc]
    generalize hl : sc.names.lookup x = z at e
    rcases z with _ | z
    · exact (stuck_some e).elim
    cases z <;> first | (exact (stuck_some e).elim) | skip
    case some.local =>
      obtain ⟨e1, rfl⟩ := ofO_some e
      obtain ⟨mm, hn, hv⟩ := I.F.ns
      obtain ⟨v', h1, h2⟩ := hv x r e1
      exact wpAny_Name (wpAny_loadName_local X.kind (hkd.trans hl) hn h1 (back_now I.S hQ h2)) hd
    case some.globalImplicit =>
      obtain ⟨e1, rfl⟩ := ofO_some e
      obtain ⟨mg, mb, t1, t2, t3⟩ := I.T
      refine Name_function_global X.kind (hkd.trans hl) ?_ hd
      delta globV at e1
      generalize hv : nsIn K mainGlobals x = z at e1
      rcases z with _ | _ | v
      · cases e1
      · generalize hnm : (x == ("__name__" : Str)) = d at e1
        cases d with
        | true => cases e1
        | false =>
          dsimp only at e1
          generalize hb : bootBuiltins x = b at e1
          cases b with
          | none => cases e1
          | some v =>
            have hx : mb x = some v := (t3 x (fun h => by rw [h] at hnm; simp at hnm)).trans hb
            refine loadGlobal_builtin (mg := mg) (mb := mb) (by rw [X.glob]; exact t1) (mg_none_of I.S.kin t1 hv) (by rw [X.blt]; exact t2) hx (back_now I.S hQ ?_)
            cases v <;> first | (exact nomatch (show none = some r from e1)) | (obtain rfl := Option.some.inj e1; exact rfl)
      · refine loadGlobal_global (mg := mg) (by rw [X.glob]; exact t1) (mg_of I.S.kin t1 hv) (back_now I.S hQ ?_)
        cases v <;> first | (exact nomatch (show none = some r from e1)) | (obtain rfl := Option.some.inj e1; first | exact VR.ofNone | exact VR.ofBool | exact VR.ofInt | exact VR.ofStr | exact rfl)
end
end Mine
end P_A15
section P_A16
open PySem PySem.Calls PySem.SeqAt PyProof.Rows PySem.W
set_option autoImplicit false
set_option Elab.async false
set_option maxRecDepth 100000
namespace Mine
section
variable {prog : Program} {w : World} {K : Frag} {n₀ : Nat} {s s' : Shared} {ρ ρ' : Rho} {σ σ' : Hp} {P : List Addr} {L : Addr} {m : Loc} {A : Around} {E : Value → Shared → Prop} {env : Env} {sc : Scope}

theorem trees_plain (env : Env) (pos : Pos) : ∀ args : List Expr, args.all okArg = true → backTo pos (starEach args env) = args.map fun e => (false, eval e env)
  | [], _ => rfl
  | e :: es, h => by
    rw [List.all_cons, Bool.and_eq_true] at h
    have ih := trees_plain env pos es h.2
    have hs : starEach (e :: es) env = (false, eval e env) :: starEach es env := by
      cases e <;> first | rfl | (exact Bool.noConfusion (show false = true from h.1))
    rw [hs]
    show (false, _) :: backTo pos (starEach es env) = _
    rw [ih]; rfl
theorem each_eq (env : Env) : ∀ es : List Expr, evalEach es env = es.map fun e => eval e env
  | [] => rfl
  | _ :: es => by show _ :: evalEach es env = _; rw [each_eq env es]; rfl

theorem snd_mvs (X : Cx prog w K n₀ A env sc) {ev : EvT} (hE : SndE prog w K n₀ A E env ev) : ∀ {es : List Expr} {σ : Hp} {xs : List V} {σ' : Hp} {s : Shared} {ρ : Rho} {Q : List Value → Shared → Prop}, mvs (es.map fun e => ev e m) σ = some (xs, σ') → Iv prog w K n₀ env.locals m s ρ σ →
    Back prog w K n₀ s ρ σ' (fun ρ h vs => VRs ρ n₀ h xs vs) Q → wpAny (model prog w) A (spliced (es.map fun e => (false, eval e env))) Q E s
  | [], σ, xs, σ', s, ρ, Q, e, I, hQ => by
    obtain ⟨rfl, rfl⟩ := ret_some e
    exact spliced_nil (back_now I.S hQ VRs.nil)
  | x :: es, σ, xs, σ', s, ρ, Q, e, I, hQ => by
    refine bnd_el e fun v σ₁ e1 e2 => ?_
    refine bnd_el e2 fun vs σ₂ e3 e4 => ?_
    obtain ⟨rfl, rfl⟩ := ret_some e4
    refine spliced_cons (hE _ _ _ _ _ _ _ _ e1 I fun s₁ ρ₁ u x1 S1 q1 => ?_)
    have I1 := I.ev X.B x1 S1
    exact snd_mvs X hE e3 I1 fun s₂ ρ₂ us x2 S2 q2 => hQ _ _ _ (x1.trans x2) S2 (VRs.cons (I1.vr x2 q1) q2)

set_option tactic.hygienic true in
theorem base_of {o : Expr} (h : notSup o = true) (name : Str) (env : Env) (whole : Sem Value) : attributeBase o name env whole = whole := by
  cases o <;> first | rfl | skip
  case Call f as ks p => cases f <;> first | rfl | (cases as <;> first | rfl | (cases ks <;> first | rfl | cases h))

theorem call_method {o : Expr} {name : Str} {apos pos : Pos} {args : List Expr} {Q : Value → Shared → Prop} (hs : notSup o = true) (hl : (apos.endLine == pos.line) = true) (ha : args.all okArg = true) (hn : args.length < 30)
    (h : wpAny (model prog w) A (eval o env) (fun ov s₁ => ∀ pl, wpAny (model prog w) A (getMethod ov name pl) (fun fx s₂ => wpAny (model prog w) A (callWith pos fx.1 fx.2 (args.map fun e => (false, eval e env)) []) Q E s₂) E s₁) E s) :
    wpAny (model prog w) A (eval (.Call (.Attribute o name apos) args [] pos) env) Q E s := by
  rw [arm_eval_Call, base_of hs]
  refine wpAny_bind (wpAny_mono h (fun ov s₁ h₁ => wpAny_bind (wpAny_standAt ?_)) fun zz zz x => x)
  rw [trees_plain env pos args ha]
  have hf : methodCallForm (args.length + 0) (args.map fun e => (false, eval e env)) [] = true := by
    unfold methodCallForm
    simp
    lia
  unfold methodCall
  show wpAny _ _ (holding [ov] (calleeOf (methodCallForm (args.length + 0) (args.map fun e => (false, eval e env)) []) o env ov name) >>= _) _ _ _
  rw [hf]
  refine wpAny_bind (wpAny_holding (wpAny_mono (h₁ _) (fun fx s₂ h₂ => ?_) fun zz zz x => x))
  show wpAny _ _ (methodCallPos (methodCallForm (args.length + 0) (args.map fun e => (false, eval e env)) []) o env apos pos >>= fun callPos => callWith callPos fx.1 fx.2 (args.map fun e => (false, eval e env)) []) _ _ _
  rw [hf]
  unfold methodCallPos
  rw [hl]
  exact wpAny_bind (wpAny_pure h₂)

theorem eval_args {f : Value} {Q : Args → Shared → Prop} : ∀ {es : List Expr}, wpAny (model prog w) A (spliced (es.map fun e => (false, eval e env))) (fun vs s' => Q ⟨vs, []⟩ s') E s → wpAny (model prog w) A (evalArgs f true (es.map fun e => (false, eval e env)) []) Q E s
  | [], h => by
    unfold evalArgs
    show wpAny (model prog w) A (spliced [] >>= _) Q E s
    refine wpAny_bind (wpAny_mono h (fun vs s' hq => wpAny_bind (wpAny_pure ?_)) fun zz zz x => x)
    refine wpAny_holding ?_
    exact wpAny_bind (wpAny_pure (wpAny_bind (wpAny_pure (wpAny_pure hq))))
  | _ :: _, h => evalArgs_plain h

theorem call_plain (es : List Expr) (env : Env) : ((es.map fun e => (false, eval e env)).any (·.1)) = false := by
  rw [List.any_map]
  simp

theorem snd_typL (hh : A.handled = none) (B : Bs K n₀) : ∀ p ∈ typL, SndB prog w K n₀ A E (.type p.1) p.2 := by
  unfold typL
  refine List.forall_mem_cons.mpr ⟨?_, ?_⟩
  · intro s ρ σ σ' as r vs Q e S q hQ
    rcases as with _ | ⟨x, _ | ⟨y, _ | ⟨_, _⟩⟩⟩
    · exact (no_some e).elim
    · obtain ⟨v, rfl, q1⟩ := q.one; exact snd_range1 B S e q1 hQ
    · obtain ⟨v, u, rfl, q1, q2⟩ := q.two; exact snd_range2 B S e q1 q2 hQ
    · exact (no_some (show (none : Option (V × Hp)) = some (r, σ') from (by rw [← e]; cases x <;> first | rfl | (cases y <;> rfl)))).elim
  refine List.forall_mem_cons.mpr ⟨.one rfl (fun x zz zz => by cases x <;> rfl) fun zz zz zz zz zz zz zz zz e S q hQ => snd_str S e q hQ, ?_⟩
  refine List.forall_mem_cons.mpr ⟨.one rfl (fun x zz zz => by cases x <;> rfl) fun zz zz zz zz zz zz zz zz e S q hQ => snd_int S e q hQ, ?_⟩
  refine List.forall_mem_cons.mpr ⟨.one rfl (fun x zz zz => by cases x <;> rfl) fun zz zz zz zz zz zz zz zz e S q hQ => snd_tuple B S e q hQ, ?_⟩
  exact fun zz h => nomatch h
theorem snd_typ (hh : A.handled = none) (B : Bs K n₀) (S : St prog w K n₀ s ρ σ) {n : String} {as : List V} {r : V} {vs : List Value} {Q : Value → Shared → Prop} (e : typV n as σ = some (r, σ')) (h1 : VRs ρ n₀ s.heap as vs)
    (hQ : BackV prog w K n₀ s ρ σ' r Q) : wpAny (model prog w) A (call (.type n) vs) Q E s := by
  unfold typV at e
  cases hl : typL.lookup n with
  | none => rw [hl] at e; exact (stuck_some e).elim
  | some f =>
    rw [hl] at e
    exact snd_typL hh B _ (lookup_mem hl) _ _ _ _ _ _ _ _ e S h1 hQ

set_option tactic.hygienic true in
/-- a call of a value -/
theorem snd_callF (X : Cx prog w K n₀ A env sc) {C : Or} (hC : SndC prog w K n₀ A E C) {ev : EvT} (hE : SndE prog w K n₀ A E env ev) {f r : V} {v : Value} {es : List Expr} {pos : Pos} {Q : Value → Shared → Prop}
    (e : bnd (mvs (es.map fun e => ev e m)) (fun as => callF K C f as) σ = some (r, σ')) (I : Iv prog w K n₀ env.locals m s ρ σ) (h1 : VR ρ n₀ s.heap f v) (hQ : BackV prog w K n₀ s ρ σ' r Q) :
    wpAny (model prog w) A (callWith pos v [] (es.map fun e => (false, eval e env)) []) Q E s := by
  refine bnd_el e fun xs σ₁ e1 e2 => ?_
  have hp := call_plain es env
  have hp2 : ((es.map fun e => (false, eval e env)).any (·.1) || ([] : List (Option Str × Sem Value)).any (·.1.isNone)) = false := by rw [hp]; rfl
  unfold callF at e2
  cases f <;> first | (exact (stuck_some e2).elim) | skip
  case fn a =>
    change _ = _ at h1
    subst h1
    refine grd_el e2 fun hk e3 => ?_
    refine callWith_of (P := fun h => K.In h) hp2 (keeps_K hk) (eval_args (snd_mvs X hE e1 I fun s₁ ρ₁ us x1 S1 q1 => ⟨S1.kin, ?_⟩))
    have I1 := I.ev X.B x1 S1
    exact hC _ _ _ _ _ _ _ _ _ e3 S1 I1.T q1 fun s₂ ρ₂ u x2 S2 q2 => hQ _ _ _ (x1.trans x2) S2 q2
  case bi id =>
    change _ = _ at h1
    subst h1
    refine callWith_builtin hp (eval_args (snd_mvs X hE e1 I fun s₁ ρ₁ us x1 S1 q1 => ?_))
    exact snd_blt X.hh X.B (by have := X.hu; lia) S1 e2 q1 fun s₂ ρ₂ u x2 S2 q2 => hQ _ _ _ (x1.trans x2) S2 q2
  case ty n =>
    change _ = _ at h1
    subst h1
    refine PyProof.Rows.callWith_type hp (eval_args (snd_mvs X hE e1 I fun s₁ ρ₁ us x1 S1 q1 => ?_))
    exact snd_typ X.hh X.B S1 e2 q1 fun s₂ ρ₂ u x2 S2 q2 => hQ _ _ _ (x1.trans x2) S2 q2

set_option tactic.hygienic true in
/-- a call of a method -/
theorem snd_callM (X : Cx prog w K n₀ A env sc) {C : Or} (hC : SndC prog w K n₀ A E C) {ev : EvT} (hE : SndE prog w K n₀ A E env ev) {f : Fn} {x r : V} {v u : Value} {es : List Expr} {pos : Pos} {Q : Value → Shared → Prop}
    (e : bnd (mvs (es.map fun e => ev e m)) (fun as => callM K C f x as) σ = some (r, σ')) (I : Iv prog w K n₀ env.locals m s ρ σ) (h1 : VR ρ n₀ s.heap x v) (hf : FnR f u) (hQ : BackV prog w K n₀ s ρ σ' r Q) :
    wpAny (model prog w) A (callWith pos u [v] (es.map fun e => (false, eval e env)) []) Q E s := by
  refine bnd_el e fun xs σ₁ e1 e2 => ?_
  have hp := call_plain es env
  have hp2 : ((es.map fun e => (false, eval e env)).any (·.1) || ([] : List (Option Str × Sem Value)).any (·.1.isNone)) = false := by rw [hp]; rfl
  unfold callM at e2
  cases f
  case own a =>
    have hu : u = .ref a := hf
    subst hu
    refine grd_el e2 fun hk e3 => ?_
    refine callWith_of (P := fun h => K.In h) hp2 (keeps_K hk) (eval_args (snd_mvs X hE e1 I fun s₁ ρ₁ us x1 S1 q1 => ⟨S1.kin, ?_⟩))
    have I1 := I.ev X.B x1 S1
    exact hC _ _ _ _ _ _ _ _ _ e3 S1 I1.T (VRs.cons (I.vr x1 h1) q1) fun s₂ ρ₂ u x2 S2 q2 => hQ _ _ _ (x1.trans x2) S2 q2
  case blt id =>
    have hu : u = .builtin id := hf
    subst hu
    refine callWith_builtin hp (eval_args (snd_mvs X hE e1 I fun s₁ ρ₁ us x1 S1 q1 => ?_))
    exact snd_blt X.hh X.B (by have := X.hu; lia) S1 e2 (VRs.cons (I.vr x1 h1) q1) fun s₂ ρ₂ u x2 S2 q2 => hQ _ _ _ (x1.trans x2) S2 q2
end
end Mine
end P_A16
section P_A17
open PySem PySem.Calls PySem.SeqAt PyProof.Rows PySem.W
set_option autoImplicit false
set_option Elab.async false
set_option maxRecDepth 100000
namespace Mine
section
variable {prog : Program} {w : World} {K : Frag} {n₀ : Nat} {s s' : Shared} {ρ ρ' : Rho} {σ σ' : Hp} {P : List Addr} {L : Addr} {m : Loc} {A : Around} {E : Value → Shared → Prop} {env : Env} {sc : Scope}

set_option tactic.hygienic true in
theorem snd_boolV (X : Cx prog w K n₀ A env sc) {ev : EvT} (hE : SndE prog w K n₀ A E env ev) {op : PySem.BoolOp} {pos : Pos} : ∀ {es : List Expr} {σ : Hp} {r : V} {σ' : Hp} {s : Shared} {ρ : Rho} {Q : Value → Shared → Prop}, boolV op (es.map fun e => ev e m) σ = some (r, σ') → Iv prog w K n₀ env.locals m s ρ σ →
    BackV prog w K n₀ s ρ σ' r Q → wpAny (model prog w) A (eval (.BoolOp op es pos) env) Q E s
  | [], σ, r, σ', s, ρ, Q, e, I, hQ => (stuck_some e).elim
  | [x], σ, r, σ', s, ρ, Q, e, I, hQ => BoolOp_one (hE _ _ _ _ _ _ _ _ e I hQ)
  | x :: y :: es, σ, r, σ', s, ρ, Q, e, I, hQ => by
    refine bnd_el e fun v σ₁ e1 e2 => ?_
    cases v <;> first | (cases op <;> exact (stuck_some e2).elim) | skip
    rename_i b
    cases op
    · refine BoolOp_and (hE _ _ _ _ _ _ _ _ e1 I fun s₁ ρ₁ u x1 S1 q1 => ?_)
      have := q1.bool
      subst this
      refine wpAny_truthy_bool ?_
      have I1 := I.ev X.B x1 S1
      cases b
      · obtain ⟨rfl, rfl⟩ := ret_some e2
        exact hQ _ _ _ x1 S1 q1
      · exact snd_boolV X hE e2 I1 fun s₂ ρ₂ us x2 S2 q2 => hQ _ _ _ (x1.trans x2) S2 q2
    · refine BoolOp_or (hE _ _ _ _ _ _ _ _ e1 I fun s₁ ρ₁ u x1 S1 q1 => ?_)
      have := q1.bool
      subst this
      refine wpAny_truthy_bool ?_
      have I1 := I.ev X.B x1 S1
      cases b
      · exact snd_boolV X hE e2 I1 fun s₂ ρ₂ us x2 S2 q2 => hQ _ _ _ (x1.trans x2) S2 q2
      · obtain ⟨rfl, rfl⟩ := ret_some e2
        exact hQ _ _ _ x1 S1 q1

theorem snd_const {c : PySem.Const} {k : Nat} {pos : Pos} {r : V} {Q : Value → Shared → Prop} (S : St prog w K n₀ s ρ σ) (e : constV c σ = some (r, σ')) (hQ : BackV prog w K n₀ s ρ σ' r Q) : wpAny (model prog w) A (eval (.Constant c k pos) env) Q E s := by
  cases c <;> first | (exact (no_some e).elim) | skip
  all_goals obtain ⟨rfl, rfl⟩ := ret_some e
  · exact wpAny_Constant_none (back_now S hQ VR.ofNone)
  · exact wpAny_Constant_bool (back_now S hQ VR.ofBool)
  · exact wpAny_Constant_int (back_toks S hQ _ VR.ofInt)
  · exact wpAny_Constant_str (back_toks S hQ _ VR.ofStr)

set_option tactic.hygienic true in
theorem snd_joinV (X : Cx prog w K n₀ A env sc) {ev : EvT} (hE : SndE prog w K n₀ A E env ev) : ∀ {es : List Expr} {out : Str} {σ : Hp} {r : V} {σ' : Hp} {s : Shared} {ρ : Rho} {Q : Value → Shared → Prop}, joinV out (es.map fun e => ev e m) σ = some (r, σ') → Iv prog w K n₀ env.locals m s ρ σ →
    BackV prog w K n₀ s ρ σ' r Q → Joins (model prog w) A E (es.map fun e => eval e env) out (fun out s₁ => out.length ≤ sizeLine ∧ Q (.str out s₁.toks) { s₁ with toks := s₁.toks + 1 }) s
  | [], out, σ, r, σ', s, ρ, Q, e, I, hQ => by
    refine grd_el e fun c e1 => ?_
    obtain ⟨rfl, rfl⟩ := ret_some e1
    exact ⟨okLen_line c, back_toks I.S hQ _ VR.ofStr⟩
  | x :: es, out, σ, r, σ', s, ρ, Q, e, I, hQ => by
    refine bnd_el e fun v σ₁ e1 e2 => ?_
    cases v <;> first | (exact (stuck_some e2).elim) | skip
    rename_i y
    refine grd_el e2 fun c e3 => ?_
    refine hE _ _ _ _ _ _ _ _ e1 I fun s₁ ρ₁ u x1 S1 q1 => ?_
    obtain ⟨t, rfl⟩ := q1.str
    have hlen : (out ++ y).length = out.length + y.length := PySem.Str.length_append ..
    exact ⟨y, t, rfl, by rw [hlen]; exact okLen_line c, snd_joinV X hE e3 (I.ev X.B x1 S1) fun s₂ ρ₂ us x2 S2 q2 => hQ _ _ _ (x1.trans x2) S2 q2⟩

set_option tactic.hygienic true in
theorem snd_fmt {v : V} {r : V} {u : Value} {Q : Value → Shared → Prop} (S : St prog w K n₀ s ρ σ) (e : fmtV v σ = some (r, σ')) (h1 : VR ρ n₀ s.heap v u) (hQ : BackV prog w K n₀ s ρ σ' r Q) : wpAny (model prog w) A (formatField u Str.empty) Q E s := by
  cases v <;> first | (exact (no_some e).elim) | skip
  all_goals (delta fmtV at e; dsimp only at e)
  case int i =>
    refine grd_el e fun c e1 => ?_
    obtain ⟨rfl, rfl⟩ := ret_some e1
    obtain ⟨t, rfl⟩ := h1.int
    refine and_el c fun c1 c2 => ?_
    have c1 := of_decide_eq_true c1
    have c2 := of_decide_eq_true c2
    refine wpAny_formatField_int (log2_small ?_) (back_toks S hQ _ VR.ofStr)
    unfold smallI
    rw [decide_eq_true (by lia), decide_eq_true (by lia)]; rfl
  case str y =>
    refine grd_el e fun c e1 => ?_
    obtain ⟨rfl, rfl⟩ := ret_some e1
    obtain ⟨t, rfl⟩ := h1.str
    exact wpAny_formatField_str (back_now S hQ h1) (back_toks S hQ _ VR.ofStr) (okLen_line c)
end
end Mine
end P_A17
section P_A18
open PySem PySem.Calls PySem.SeqAt PyProof.Rows PySem.W
set_option autoImplicit false
set_option Elab.async false
set_option maxRecDepth 100000
namespace Mine
section
variable {prog : Program} {w : World} {K : Frag} {n₀ : Nat} {s s' : Shared} {ρ ρ' : Rho} {σ σ' : Hp} {P : List Addr} {L : Addr} {m : Loc} {A : Around} {E : Value → Shared → Prop} {env : Env} {sc : Scope}

theorem snd_newL (B : Bs K n₀) (S : St prog w K n₀ s ρ σ) {xs : List V} {vs : List Value} {r : V} {Q : Value → Shared → Prop} (e : newL xs σ = some (r, σ')) (h1 : VRs ρ n₀ s.heap xs vs) (hQ : BackV prog w K n₀ s ρ σ' r Q) : wpAny (model prog w) A (newList vs) Q E s := by
  refine grd_el e fun c e1 => ?_
  cases e1
  refine wpAny_newList ?_ (by rw [← h1.length]; exact okLen_line c)
  exact back_list B S (vs := vs.toArray) (n := 0) _ (fun a o e => Heap.get?_push_of_some _ e) (by simp only [Heap.size_push]; lia) (Nat.le_refl _) (Heap.get?_push_size _ rfl) h1 hQ
theorem snd_newT (B : Bs K n₀) (S : St prog w K n₀ s ρ σ) {xs : List V} {vs : List Value} {r : V} {Q : Value → Shared → Prop} (e : newT xs σ = some (r, σ')) (h1 : VRs ρ n₀ s.heap xs vs) (hQ : BackV prog w K n₀ s ρ σ' r Q) : wpAny (model prog w) A (newTuple vs) Q E s := by
  refine grd_el e fun c e1 => ?_
  obtain ⟨rfl, rfl⟩ := ret_some e1
  refine wpAny_newTuple ?_ (by rw [← h1.length]; exact okLen_line c)
  exact back_tup B S (vs := vs.toArray) (n := 0) _ (fun a o e => Heap.get?_push_of_some _ e) (by simp only [Heap.size_push]; lia) (Heap.get?_push_size _ rfl) h1 hQ

/-- the display of an empty dict -/
theorem snd_dict0 (B : Bs K n₀) (S : St prog w K n₀ s ρ σ) {pos : Pos} {r : V} {Q : Value → Shared → Prop} (e : nw .dnew σ = some (r, σ')) (hQ : BackV prog w K n₀ s ρ σ' r Q) : wpAny (model prog w) A (eval (.Dict [] [] pos) env) Q E s := by
  cases e
  refine wpAny_Dict_empty ?_
  have x : Ev [] s ρ { s with heap := s.heap.push { cls := .type "dict", data := .dict #[] } } ρ := ⟨List.prefix_refl _, fun zz h => .inl h, fun a o e => ⟨o, Heap.get?_push_of_some _ e⟩, fun a o zz zz e => Heap.get?_push_of_some _ e, rfl, rfl, rfl⟩
  obtain ⟨S', x'⟩ := S.new B (p := (s.heap.objs.size, none)) (o := .dnew) x Wr.nil (fun a zz o e => Heap.get?_push_of_some _ e) (fun b hb => by
    simp at hb; subst hb; exact ⟨⟨S.lowle, Heap.get?_none_of_le (Nat.le_refl _)⟩, _, Heap.get?_push_size _ rfl, not_frz_dict⟩) (by simp) ⟨rfl, 0, Heap.get?_push_size _ rfl⟩
  refine hQ _ _ _ x' S' ?_
  exact ⟨(s.heap.objs.size, none), by rw [← S.len]; simp, rfl⟩

theorem attr_he {value : Expr} (h : notSup value = true) (attr : Str) (pos : Pos) (env : Env) : eval (.Attribute value attr pos) env = (do
      let o ← eval value env
      standAt pos.atName
      let r ← holding [o] (getAttr o attr true)
      letTemporaryGo value o r
      pure r) := by rw [arm_eval_Attribute, base_of h]

noncomputable def SndD (prog : Program) (w : World) (K : Frag) (n₀ : Nat) : Prop := ∀ (A : Around) (E : Value → Shared → Prop) (env : Env) (k : Option Expr) (ks : List (Option Expr)) (vs : List Expr) (pos : Pos) (l : List (Str × Str)) (σ : Hp) (s : Shared) (ρ : Rho) (Q : Value → Shared → Prop),
  Bs K n₀ → dispP (k :: ks) vs = some l → nodupS l = true → l.length ≤ 1000 → St prog w K n₀ s ρ σ → BackV prog w K n₀ s ρ (σ ++ [.dstr (dispO l)]) (.ref σ.length) Q → wpAny (model prog w) A (eval (.Dict (k :: ks) vs pos) env) Q E s

theorem isPart_of {h : Heap} {i : Int} {v : Value} (q : VR ρ n₀ h (.int i) v) : IsPart v (some i) := by obtain ⟨t, rfl⟩ := q.int; exact .int i t

theorem optI_some {x : Mo V} {f : Option Int → Mo V} {r : V} (e : optI x f σ = some (r, σ')) : ∃ i σ₁, x σ = some (.int i, σ₁) ∧ f (some i) σ₁ = some (r, σ') := by
  refine bnd_el e fun v σ₁ e1 e2 => ?_
  cases v <;> first | (exact (stuck_some e2).elim) | skip
  exact ⟨_, _, e1, e2⟩

theorem snd_sub_slice (X : Cx prog w K n₀ A env sc) {o : Expr} {lo hi : Option Expr} {p pos : Pos} {r : V} {Q : Value → Shared → Prop} {ev : EvT} (hE : SndE prog w K n₀ A E env ev)
    (h : evSl ev o lo hi m σ = some (r, σ')) (I : Iv prog w K n₀ env.locals m s ρ σ) (hQ : BackV prog w K n₀ s ρ σ' r Q) : wpAny (model prog w) A (eval (.Subscript o (.Slice lo hi none p) pos) env) Q E s := by
  have fin : ∀ {s₁ : Shared} {ρ₁ : Rho} {σ₁ : Hp} {a : V} {v vl vu : Value} {l u : Option Int}, Ev [] s ρ s₁ ρ₁ → St prog w K n₀ s₁ ρ₁ σ₁ → VR ρ₁ n₀ s₁.heap a v → IsPart vl l → IsPart vu u → sliceV a l u σ₁ = some (r, σ') →
      wpAny (model prog w) A (subscriptTail o (.Slice lo hi none p) v (.ref s₁.heap.objs.size)) Q E { s₁ with heap := s₁.heap.push (slcObj vl vu) } := by
    intro s₁ ρ₁ σ₁ a v vl vu l u x1 S1 q1 pl pu e
    obtain ⟨T, id, hT, hl, hg⟩ := snd_slice (A := A) (E := E) X.B S1 pl pu e q1 fun s₂ ρ₂ u' x2 S2 q2 => hQ _ _ _ (x1.trans x2) S2 q2
    exact tail_any hT hl hg (ops := [.ref s₁.heap.objs.size, v]) rfl
  refine Subscript_ ?_
  cases lo <;> cases hi <;> dsimp only [evSl] at h
  · exact (stuck_some h).elim
  · refine bnd_el h fun a σ₁ e1 e2 => ?_
    obtain ⟨i, σ₂, e3, e4⟩ := optI_some e2
    refine hE _ _ _ _ _ _ _ _ e1 I fun s₁ ρ₁ u x1 S1 q1 => ?_
    have I1 := I.ev X.B x1 S1
    refine wpAny_Slice ?_
    rw [evalPart_none, evalPart_some]
    refine wpAny_pure (hE _ _ _ _ _ _ _ _ e3 I1 fun s₂ ρ₂ u2 x2 S2 q2 => ?_)
    exact wpAny_pure (fin (x1.trans x2) S2 (I1.vr x2 q1) .none (isPart_of q2) e4)
  · refine bnd_el h fun a σ₁ e1 e2 => ?_
    obtain ⟨i, σ₂, e3, e4⟩ := optI_some e2
    refine hE _ _ _ _ _ _ _ _ e1 I fun s₁ ρ₁ u x1 S1 q1 => ?_
    have I1 := I.ev X.B x1 S1
    refine wpAny_Slice ?_
    rw [evalPart_none, evalPart_some]
    refine hE _ _ _ _ _ _ _ _ e3 I1 fun s₂ ρ₂ u2 x2 S2 q2 => ?_
    exact wpAny_pure (wpAny_pure (fin (x1.trans x2) S2 (I1.vr x2 q1) (isPart_of q2) .none e4))
  · exact (stuck_some h).elim
theorem snd_cmp_expr (X : Cx prog w K n₀ A env sc) {l r : Expr} {op : CmpOp} {c : Bool} {ev : EvT} (hE : SndE prog w K n₀ A E env ev) {Q : Value → Shared → Prop}
    (h : bnd (ev l m) (fun a => bnd (ev r m) fun b => cmpV op a b) σ = some (c, σ')) (I : Iv prog w K n₀ env.locals m s ρ σ) (hQ : Back prog w K n₀ s ρ σ' (fun _ _ (v : Value) => v = .bool c) Q) :
    wpAny (model prog w) A (eval l env) (fun a s₁ => wpAny (model prog w) A (eval r env) (fun b s₂ => wpAny (model prog w) A (compareOp op a b) Q E s₂) E s₁) E s := by
  refine bnd_el h fun a σ₁ e1 e2 => ?_
  refine bnd_el e2 fun b σ₂ e3 e4 => ?_
  refine hE _ _ _ _ _ _ _ _ e1 I fun s₁ ρ₁ u x1 S1 q1 => ?_
  have I1 := I.ev X.B x1 S1
  refine hE _ _ _ _ _ _ _ _ e3 I1 fun s₂ ρ₂ u2 x2 S2 q2 => ?_
  exact snd_cmp X.B (by have := X.hu; lia) S2 e4 (I1.vr x2 q1) q2 fun s₃ ρ₃ u3 x3 S3 q3 => hQ _ _ _ (x1.trans (x2.trans x3)) S3 q3

theorem call_plain_eq {f : Expr} {args : List Expr} {pos : Pos} {env : Env} (h : ∀ o n p, f ≠ .Attribute o n p) :
    eval (.Call f args [] pos) env = (do callWith pos (← eval f env) [] (backTo pos (starEach args env)) []) := by
  cases f <;> first | rfl | exact absurd rfl (h _ _ _)

theorem attrOf_some {f o : Expr} {n : Str} {p : Pos} (h : attrOf f = some (o, n, p)) : f = .Attribute o n p := by
  cases f <;> first | exact (no_some h).elim | (cases h; rfl)
theorem attrOf_none {f : Expr} (h : attrOf f = none) : ∀ o n p, f ≠ .Attribute o n p := by
  rintro o n p rfl; cases h
set_option tactic.hygienic true in
theorem strC_const {e : Expr} {x : Str} (h : strC e = some x) : ∃ k p, e = .Constant (.str x) k p := by
  cases e <;> first | exact (no_some h).elim | skip
  rename_i c k p
  cases c <;> first | exact (no_some h).elim | (cases h; exact ⟨_, _, rfl⟩)
theorem nameOf_some {e : Expr} {x : Str} (h : nameOf e = some x) : ∃ p, e = .Name x p := by
  cases e <;> first | exact (no_some h).elim | (cases h; exact ⟨_, rfl⟩)
set_option tactic.hygienic true in
theorem callOf_some {e f r : Expr} (h : callOf e = some (f, r)) : ∃ p, e = .Call f [r] [] p := by
  cases e <;> first | exact (no_some h).elim | skip
  rename_i f' args kws p
  rcases args with _ | ⟨a, _ | ⟨b, c⟩⟩ <;> rcases kws with _ | ⟨d, e⟩ <;> first | exact (no_some h).elim | (cases h; exact ⟨_, rfl⟩)
theorem joinArg_some {args : List Expr} {x : Str} {r : Expr} (h : joinArg args = some (x, r)) : ∃ np cp, args = [.Call (.Name x np) [r] [] cp] := by
  rcases args with _ | ⟨a, _ | ⟨b, c⟩⟩ <;> first | exact (no_some h).elim | skip
  dsimp only [joinArg] at h
  cases h1 : callOf a with
  | none => rw [h1] at h; cases h
  | some q =>
    rw [h1] at h
    dsimp only at h
    cases h2 : nameOf q.1 with
    | none => rw [h2] at h; cases h
    | some y =>
      rw [h2] at h
      cases h
      obtain ⟨cp, rfl⟩ := callOf_some (f := q.1) (r := q.2) h1
      obtain ⟨np, e⟩ := nameOf_some h2
      rw [e]
      exact ⟨_, _, rfl⟩
set_option tactic.hygienic true in
theorem slOf_some {i : Expr} {lo hi : Option Expr} (h : slOf i = some (lo, hi)) : ∃ p, i = .Slice lo hi none p := by
  cases i <;> first | exact (no_some h).elim | skip
  rename_i a b c p
  cases c <;> first | exact (no_some h).elim | (cases h; exact ⟨_, rfl⟩)
theorem snd_evMeth (X : Cx prog w K n₀ A env sc) {C : Or} (hC : SndC prog w K n₀ A E C) {ev : EvT} (hE : SndE prog w K n₀ A E env ev) {o : Expr} {name : Str} {apos pos : Pos} {args : List Expr} {r : V} {Q : Value → Shared → Prop}
    (h : evMeth K C ev o name apos args pos m σ = some (r, σ')) (I : Iv prog w K n₀ env.locals m s ρ σ) (hQ : BackV prog w K n₀ s ρ σ' r Q) : wpAny (model prog w) A (eval (.Call (.Attribute o name apos) args [] pos) env) Q E s := by
  unfold evMeth at h
  refine grd_el h fun g h1 => ?_
  refine and_el g fun g g4 => ?_
  refine and_el g fun g g3 => ?_
  refine and_el g fun g1 g2 => ?_
  refine bnd_el h1 fun a σ₁ e1 e2 => ?_
  refine bnd_el e2 fun f σ₂ e3 e4 => ?_
  refine call_method g2 g1 g3 (Nat.le_of_ble_eq_true g4) (hE _ _ _ _ _ _ _ _ e1 I fun s₁ ρ₁ u x1 S1 q1 pl => ?_)
  refine snd_meth S1 e3 q1 fun u' hf hs => ?_
  subst hs
  exact snd_callM X hC hE e4 (I.ev X.B x1 S1) q1 hf fun s₃ ρ₃ u3 x3 S3 q3 => hQ _ _ _ (x1.trans x3) S3 q3
set_option tactic.hygienic true in
theorem snd_evCall (X : Cx prog w K n₀ A env sc) {C : Or} (hC : SndC prog w K n₀ A E C) {ev : EvT} (hE : SndE prog w K n₀ A E env ev) {f : Expr} {pos : Pos} {args : List Expr} {r : V} {Q : Value → Shared → Prop}
    (h : evCall K C sc ev f args pos m σ = some (r, σ')) (I : Iv prog w K n₀ env.locals m s ρ σ) (hQ : BackV prog w K n₀ s ρ σ' r Q) : wpAny (model prog w) A (eval (.Call f args [] pos) env) Q E s := by
  unfold evCall at h
  cases ha : attrOf f with
  | none =>
    rw [ha] at h
    have hno2 := attrOf_none ha
    dsimp only at h
    refine grd_el h fun g h1 => ?_
    refine and_el g fun g3 g4 => ?_
    refine bnd_el h1 fun a σ₁ e1 e2 => ?_
    rw [call_plain_eq (fun o n p hf => hno2 o n p hf), trees_plain env pos args g3]
    refine wpAny_bind (hE _ _ _ _ _ _ _ _ e1 I fun s₁ ρ₁ u x1 S1 q1 => ?_)
    exact snd_callF X hC hE e2 (I.ev X.B x1 S1) q1 fun s₃ ρ₃ u3 x3 S3 q3 => hQ _ _ _ (x1.trans x3) S3 q3
  | some q =>
    rw [ha] at h
    obtain ⟨o, name, apos⟩ := q
    have := attrOf_some ha
    subst this
    dsimp only at h
    cases hs : strC o with
    | none => rw [hs] at h; exact snd_evMeth X hC hE h I hQ
    | some x =>
      rw [hs] at h
      dsimp only at h
      cases hj : joinArg args with
      | none => rw [hj] at h; exact snd_evMeth X hC hE h I hQ
      | some u =>
        rw [hj] at h
        obtain ⟨rv, r2⟩ := u
        obtain ⟨np, cpos, rfl⟩ := joinArg_some hj
        obtain ⟨kd, cp, rfl⟩ := strC_const hs
        dsimp only at h
        refine grd_el h fun g h1 => ?_
        refine and_el g fun g g6 => ?_
        refine and_el g fun g g5 => ?_
        refine and_el g fun g g4 => ?_
        refine and_el g fun g g3 => ?_
        refine and_el g fun g1 g2 => ?_
        have g3 := eq_of_beq g3
        have g4 := eq_of_beq g4
        have g6 := eq_of_beq g6
        subst g3 g4
        refine bnd_el h1 fun l σ₁ e1 e2 => ?_
        refine call_method rfl g1 rfl (by simp) (wpAny_Constant_str fun pl => PySem.GM.join ?_)
        have S0 := I.S.toks (s.toks + 1)
        have x0 := Ev.toks [] s ρ (s.toks + 1)
        have I0 := I.ev X.B x0 S0
        refine callWith_builtin (call_plain _ _) (eval_args (spliced_cons ?_))
        rw [call_plain_eq (by intro _ _ _ h; cases h), trees_plain env cpos [r2] (by simpa using g2)]
        have hnm : nameV K sc m ("reversed" : Str) σ = some (.ty "reversed", σ) := by
          unfold nameV
          rw [show (("reversed" : Str) == ("__debug__" : Str)) = false from by decide +kernel, g6]
          split at g5
          · rename_i n hg
            rw [hg, eq_of_beq g5]; rfl
          · cases g5
        refine wpAny_bind (snd_name X I0 hnm fun s₁ ρ₁ u x1 S1 q1 => ?_)
        change _ = _ at q1
        subst q1
        have I1 := I0.ev X.B x1 S1
        refine PyProof.Rows.callWith_type (call_plain _ _) (eval_args (es := [r2]) (spliced_cons (hE _ _ _ _ _ _ _ _ e1 I1 fun s₂ ρ₂ v x2 S2 q2 => spliced_nil ?_)))
        refine wpAny_mono (snd_joinRev X.hh X.B S2 e2 q2 fun s₃ ρ₃ u3 x3 S3 q3 => hQ _ _ _ (x0.trans (x1.trans (x2.trans x3))) S3 q3) (fun u s' hu => spliced_nil hu) fun _ _ x => x
set_option tactic.hygienic true in
theorem snd_evStep (X : Cx prog w K n₀ A env sc) (D : SndD prog w K n₀) {C : Or} (hC : SndC prog w K n₀ A E C) {ev : EvT} {ts : TsT} (hE : SndE prog w K n₀ A E env ev) (hT : SndT prog w K n₀ A E env ts) : SndE prog w K n₀ A E env (evStep K C sc ev ts) := by
  intro e m σ r σ' s ρ Q h I hQ
  cases e <;> first | exact (no_some h).elim | (delta evStep at h; dsimp only at h)
  case Constant => exact snd_const I.S h hQ
  case Name => exact snd_name X I h hQ
  case BoolOp => exact snd_boolV X hE h I hQ
  case BinOp l op r2 pos =>
    refine bnd_el h fun a σ₁ e1 e2 => ?_
    refine bnd_el e2 fun b σ₂ e3 e4 => ?_
    refine wpAny_BinOp (hE _ _ _ _ _ _ _ _ e1 I fun s₁ ρ₁ u x1 S1 q1 => ?_)
    have I1 := I.ev X.B x1 S1
    refine hE _ _ _ _ _ _ _ _ e3 I1 fun s₂ ρ₂ u2 x2 S2 q2 => ?_
    exact snd_bin X.B S2 e4 (I1.vr x2 q1) q2 fun s₃ ρ₃ u3 x3 S3 q3 => hQ _ _ _ (x1.trans (x2.trans x3)) S3 q3
  case UnaryOp op x pos =>
    refine bnd_el h fun a σ₁ e1 e2 => ?_
    refine wpAny_UnaryOp (hE _ _ _ _ _ _ _ _ e1 I fun s₁ ρ₁ u x1 S1 q1 => ?_)
    exact snd_un S1 e2 q1 fun s₃ ρ₃ u3 x3 S3 q3 => hQ _ _ _ (x1.trans x3) S3 q3
  case IfExp t a b pos =>
    refine bnd_el h fun c σ₁ e1 e2 => ?_
    refine wpAny_IfExp (hT _ _ _ _ _ _ _ _ e1 I fun s₁ ρ₁ b x1 S1 q1 => ?_)
    subst q1
    have I1 := I.ev X.B x1 S1
    cases b
    · exact hE _ _ _ _ _ _ _ _ e2 I1 fun s₃ ρ₃ u3 x3 S3 q3 => hQ _ _ _ (x1.trans x3) S3 q3
    · exact hE _ _ _ _ _ _ _ _ e2 I1 fun s₃ ρ₃ u3 x3 S3 q3 => hQ _ _ _ (x1.trans x3) S3 q3
  case Dict ks vs pos =>
    cases ks with
    | nil =>
      cases vs with
      | nil => exact snd_dict0 X.B I.S h hQ
      | cons => exact (stuck_some h).elim
    | cons k ks =>
      dsimp only at h
      refine bnd_el h fun l σ₁ e1 e2 => ?_
      obtain ⟨e3, rfl⟩ := ofO_some e1
      refine grd_el e2 fun g e4 => ?_
      refine and_el g fun g1 g2 => ?_
      cases e4
      exact D _ _ _ _ _ _ _ _ _ _ _ _ X.B e3 g1 (Nat.le_of_ble_eq_true g2) I.S hQ
  case Compare l ops rs pos =>
    rcases ops with _ | ⟨op, _ | ⟨a, b⟩⟩ <;> try exact (stuck_some h).elim
    rcases rs with _ | ⟨r2, _ | ⟨a, b⟩⟩ <;> try exact (stuck_some h).elim
    dsimp only at h
    refine grd_el h fun g h1 => ?_
    refine bnd_el h1 fun a σ₁ e1 e2 => ?_
    refine bnd_el e2 fun b σ₂ e3 e4 => ?_
    refine bnd_el e4 fun c σ₃ e5 e6 => ?_
    obtain ⟨rfl, rfl⟩ := ret_some e6
    have hm : bnd (ev l m) (fun a => bnd (ev r2 m) fun b => cmpV op a b) σ = some (c, σ') := by
      unfold bnd
      rw [e1]
      dsimp only
      rw [e3]
      exact e5
    exact wpAny_Compare1 (snd_cmp_expr X hE hm I fun s₁ ρ₁ b x1 S1 q1 => by subst q1; exact hQ _ _ _ x1 S1 VR.ofBool) (by unfold markFree at g; simpa using g)
  case Call f args kws pos =>
    cases kws with
    | nil => exact snd_evCall X hC hE h I hQ
    | cons => exact (stuck_some h).elim
  case Attribute o name pos =>
    refine grd_el h fun g h1 => ?_
    refine bnd_el h1 fun a σ₁ e1 e2 => ?_
    refine Attribute_any_ (hE _ _ _ _ _ _ _ _ e1 I fun s₁ ρ₁ u x1 S1 q1 => ?_) (attr_he g _ _ _)
    exact snd_attr S1 e2 q1 fun s₃ ρ₃ u3 x3 S3 q3 => hQ _ _ _ (x1.trans x3) S3 q3
  case Subscript o i pos =>
    cases hs : slOf i with
    | some q =>
      rw [hs] at h
      obtain ⟨lo, hi⟩ := q
      obtain ⟨p, rfl⟩ := slOf_some hs
      exact snd_sub_slice X hE h I hQ
    | none =>
      rw [hs] at h
      dsimp only at h
      refine grd_el h fun g h1 => ?_
      refine bnd_el h1 fun a σ₁ e1 e2 => ?_
      refine bnd_el e2 fun k σ₂ e3 e4 => ?_
      refine Subscript_ (hE _ _ _ _ _ _ _ _ e1 I fun s₁ ρ₁ u x1 S1 q1 => ?_)
      have I1 := I.ev X.B x1 S1
      refine hE _ _ _ _ _ _ _ _ e3 I1 fun s₂ ρ₂ u2 x2 S2 q2 => ?_
      obtain ⟨T, id, hT, hl, hg⟩ := snd_item (A := A) (E := E) S2 e4 (I1.vr x2 q1) q2 fun s₃ ρ₃ u3 x3 S3 q3 => hQ _ _ _ (x1.trans (x2.trans x3)) S3 q3
      exact tail_any hT hl hg (subscripted_plain (by simpa using g) _ _)
  case List es pos =>
    refine grd_el h fun g h1 => ?_
    refine bnd_el h1 fun vs σ₁ e1 e2 => ?_
    rw [arm_eval_List, trees_plain env _ _ g]
    refine wpAny_bind (wpAny_standAt (wpAny_bind (snd_mvs X hE e1 I fun s₁ ρ₁ us x1 S1 q1 => ?_)))
    exact snd_newL X.B S1 e2 q1 fun s₃ ρ₃ u3 x3 S3 q3 => hQ _ _ _ (x1.trans x3) S3 q3
  case Tuple es p pos =>
    refine grd_el h fun g h1 => ?_
    refine bnd_el h1 fun vs σ₁ e1 e2 => ?_
    rw [arm_eval_Tuple, trees_plain env _ _ g]
    refine wpAny_bind (wpAny_standAt (wpAny_bind (snd_mvs X hE e1 I fun s₁ ρ₁ us x1 S1 q1 => ?_)))
    exact snd_newT X.B S1 e2 q1 fun s₃ ρ₃ u3 x3 S3 q3 => hQ _ _ _ (x1.trans x3) S3 q3
  case JoinedStr vs pos =>
    rcases vs with _ | ⟨a, _ | ⟨b, r⟩⟩ <;> try exact (stuck_some h).elim
    refine wpAny_JoinedStr ?_
    rw [each_eq]
    exact snd_joinV X hE h I hQ
  case FormattedValue v k f pos =>
    cases f with
    | some => exact (stuck_some h).elim
    | none =>
      dsimp only at h
      refine grd_el h fun g h => ?_
      have g := of_decide_eq_true g
      subst g
      refine bnd_el h fun a σ₁ e1 e2 => ?_
      refine wpAny_FormattedValue_plain (hE _ _ _ _ _ _ _ _ e1 I fun s₁ ρ₁ u x1 S1 q1 => ?_)
      exact snd_fmt S1 e2 q1 fun s₃ ρ₃ u3 x3 S3 q3 => hQ _ _ _ (x1.trans x3) S3 q3
end
end Mine
end P_A18
section P_A19
open PySem PySem.Calls PySem.SeqAt PyProof.Rows PySem.W
set_option autoImplicit false
set_option Elab.async false
set_option maxRecDepth 100000
namespace Mine
section
variable {prog : Program} {w : World} {K : Frag} {n₀ : Nat} {s s' : Shared} {ρ ρ' : Rho} {σ σ' : Hp} {P : List Addr} {L : Addr} {m : Loc} {A : Around} {E : Value → Shared → Prop} {env : Env} {sc : Scope}

theorem snd_allV (X : Cx prog w K n₀ A env sc) {ts : TsT} (hT : SndT prog w K n₀ A E env ts) {op : PySem.BoolOp} : ∀ {es : List Expr} {σ : Hp} {r : Bool} {σ' : Hp} {s : Shared} {ρ : Rho} {Q : Bool → Shared → Prop}, allV op (es.map fun e => ts e m) σ = some (r, σ') → Iv prog w K n₀ env.locals m s ρ σ →
    Back prog w K n₀ s ρ σ' (fun _ _ (b : Bool) => b = r) Q → wpAny (model prog w) A (allTrue op es env) Q E s
  | [], σ, r, σ', s, ρ, Q, e, I, hQ => by
    obtain ⟨rfl, rfl⟩ := ret_some e
    rw [arm_allTrue_nil]
    exact wpAny_pure (back_now I.S hQ (by cases op <;> rfl))
  | x :: es, σ, r, σ', s, ρ, Q, e, I, hQ => by
    refine bnd_el e fun c σ₁ e1 e2 => ?_
    rw [arm_allTrue_cons]
    refine wpAny_bind (hT _ _ _ _ _ _ _ _ e1 I fun s₁ ρ₁ b x1 S1 q1 => ?_)
    subst q1
    have I1 := I.ev X.B x1 S1
    cases op <;> cases b
    · obtain ⟨rfl, rfl⟩ := ret_some e2
      exact wpAny_pure (hQ _ _ _ x1 S1 rfl)
    · exact snd_allV X hT e2 I1 fun s₂ ρ₂ us x2 S2 q2 => hQ _ _ _ (x1.trans x2) S2 q2
    · exact snd_allV X hT e2 I1 fun s₂ ρ₂ us x2 S2 q2 => hQ _ _ _ (x1.trans x2) S2 q2
    · obtain ⟨rfl, rfl⟩ := ret_some e2
      exact wpAny_pure (hQ _ _ _ x1 S1 rfl)

set_option tactic.hygienic true in
theorem snd_tsStep (X : Cx prog w K n₀ A env sc) {ev : EvT} {ts : TsT} (hE : SndE prog w K n₀ A E env ev) (hT : SndT prog w K n₀ A E env ts) : SndT prog w K n₀ A E env (tsStep ev ts) := by
  intro e m σ r σ' s ρ Q h I hQ
  have gen : bnd (ev e m) asB σ = some (r, σ') → PySem.isTrue e env (eval e env) = (do let v ← eval e env; standAt e.pos; holding [v] (truthy v)) → wpAny (model prog w) A (PySem.isTrue e env (eval e env)) Q E s := fun h he => by
    refine bnd_el h fun v σ₁ e1 e2 => ?_
    refine wpAny_isTrue_value (hE _ _ _ _ _ _ _ _ e1 I fun s₁ ρ₁ u x1 S1 q1 => ?_) he
    unfold asB at e2
    cases v <;> first | (exact (stuck_some e2).elim) | skip
    obtain ⟨rfl, rfl⟩ := ret_some e2
    have := q1.bool
    subst this
    exact wpAny_truthy_bool (hQ _ _ _ x1 S1 rfl)
  cases e <;> first | exact gen h rfl | exact (stuck_some (show (stuck : Mo Bool) σ = some (r, σ') from h)).elim | skip
  case BoolOp => exact wpAny_isTrue_BoolOp (snd_allV X hT h I hQ)
  case UnaryOp op x pos =>
    cases op <;> first | exact gen h rfl | skip
    refine bnd_el (show bnd (ts x m) (fun c => ret (!c)) σ = some (r, σ') from h) fun c σ₁ e1 e2 => ?_
    obtain ⟨rfl, rfl⟩ := ret_some e2
    exact wpAny_isTrue_Not (hT _ _ _ _ _ _ _ _ e1 I fun s₁ ρ₁ b x1 S1 q1 => by subst q1; exact hQ _ _ _ x1 S1 rfl)
  case Compare l ops rs pos =>
    rcases ops with _ | ⟨op, _ | _⟩ <;> first | exact (stuck_some (show (stuck : Mo Bool) σ = some (r, σ') from h)).elim | skip
    rcases rs with _ | ⟨rr, _ | _⟩ <;> first | exact (stuck_some (show (stuck : Mo Bool) σ = some (r, σ') from h)).elim | skip
    refine grd_el (show grd (markFree op rr) (bnd (ev l m) fun a => bnd (ev rr m) fun b => cmpV op a b) σ = some (r, σ') from h) fun g h1 => ?_
    refine wpAny_isTrue_Compare1 (snd_cmp_expr X hE h1 I (Q := fun c s₃ => wpAny (model prog w) A (truthy c) Q E s₃) fun s₁ ρ₁ b x1 S1 q1 => ?_) (by unfold markFree at g; simpa using g)
    subst q1
    exact wpAny_truthy_bool (hQ _ _ _ x1 S1 rfl)

theorem snd_evP (X : Cx prog w K n₀ A env sc) (D : SndD prog w K n₀) {C : Or} (hC : SndC prog w K n₀ A E C) : ∀ k, SndE prog w K n₀ A E env (evP K C sc k).1 ∧ SndT prog w K n₀ A E env (evP K C sc k).2
  | 0 => ⟨fun zz zz zz zz zz zz zz zz h => (by cases h), fun zz zz zz zz zz zz zz zz h => (by cases h)⟩
  | k + 1 => by
    obtain ⟨h1, h2⟩ := snd_evP X D hC k
    exact ⟨snd_evStep X D hC h1 h2, snd_tsStep X h1 h2⟩
end
end Mine
end P_A19
section P_A20
open PySem PySem.Calls PySem.SeqAt PyProof.Rows PySem.W
set_option autoImplicit false
set_option Elab.async false
set_option maxRecDepth 100000
namespace Mine

theorem lk_put (x y : Str) (v : V) : ∀ m : Loc, lk (put m x v) y = if y = x then some v else lk m y
  | [] => by
    rw [put_nil]
    by_cases h : y = x
    · subst h; rw [lk_hit, if_pos rfl]
    · rw [lk_miss (beq_eq_false_iff_ne.mpr (Ne.symm h)) rfl, if_neg h]
  | (k, u) :: r => by
    by_cases hk : k = x
    · subst hk
      rw [put_hit]
      by_cases h : y = k
      · subst h; rw [lk_hit, if_pos rfl]
      · rw [lk_miss (beq_eq_false_iff_ne.mpr (Ne.symm h)) rfl, if_neg h, lk_miss (beq_eq_false_iff_ne.mpr (Ne.symm h)) rfl]
    · rw [put_miss (beq_eq_false_iff_ne.mpr hk) rfl]
      by_cases h : k = y
      · subst h; rw [lk_hit, if_neg hk, lk_hit]
      · rw [lk_miss (beq_eq_false_iff_ne.mpr h) rfl, lk_put x y v r, lk_miss (beq_eq_false_iff_ne.mpr h) rfl]

section
variable {prog : Program} {w : World} {K : Frag} {n₀ : Nat} {s s' : Shared} {ρ ρ' : Rho} {σ σ' : Hp} {P : List Addr} {L : Addr} {m : Loc} {A : Around} {E : Value → Shared → Prop} {env : Env} {sc : Scope}

noncomputable def FlR (ρ : Rho) (n₀ : Nat) (h : Heap) : Fl → Flow → Prop
  | .next, f => f = .next
  | .brk, f => f = .brk
  | .cont, f => f = .cont
  | .ret v, f => ∃ u, f = .ret u ∧ VR ρ n₀ h v u

/-- what a run of statements hands on -/
abbrev BackF (prog : Program) (w : World) (K : Frag) (n₀ : Nat) (L : Addr) (s : Shared) (ρ : Rho) (fm : Fl × Loc) (σ' : Hp) (Q : Flow → Shared → Prop) : Prop :=
  ∀ s' ρ' fl, Ev [L] s ρ s' ρ' → Iv prog w K n₀ L fm.2 s' ρ' σ' → FlR ρ' n₀ s'.heap fm.1 fl → Q fl s'
noncomputable def SndS (prog : Program) (w : World) (K : Frag) (n₀ : Nat) (A : Around) (L : Addr) (run : Sem Flow) (xs : XsT) : Prop :=
  ∀ (E : Value → Shared → Prop) (m : Loc) (σ : Hp) (fm : Fl × Loc) (σ' : Hp) (s : Shared) (ρ : Rho) (Q : Flow → Shared → Prop), xs m σ = some (fm, σ') → Iv prog w K n₀ L m s ρ σ → BackF prog w K n₀ L s ρ fm σ' Q → wpAny (model prog w) A run Q E s

theorem Ev.one (x : Ev [] s ρ s' ρ') : Ev [L] s ρ s' ρ' := x.weak fun zz h => nomatch h
theorem Iv.after {s₁ : Shared} {ρ₁ : Rho} {fm : Fl × Loc} {Q : Flow → Shared → Prop} (x : Ev [L] s ρ s₁ ρ₁) (hQ : BackF prog w K n₀ L s ρ fm σ' Q) : BackF prog w K n₀ L s₁ ρ₁ fm σ' Q :=
  fun s' ρ' fl x' I' f => hQ s' ρ' fl (x.trans x') I' f
/-- a statement that hands on no value of its own ends -/
theorem back_next {s₁ : Shared} {ρ₁ : Rho} {m' : Loc} {Q : Flow → Shared → Prop} (hQ : BackF prog w K n₀ L s ρ (.next, m') σ' Q) (x : Ev [L] s ρ s₁ ρ₁) (I : Iv prog w K n₀ L m' s₁ ρ₁ σ') : Q .next s₁ := hQ _ _ _ x I rfl

theorem snd_store (X : Cx prog w K n₀ A env sc) (I : Iv prog w K n₀ env.locals m s ρ σ) {x : Str} {r : V} {v : Value} {Q : Unit → Shared → Prop} (hl : isLoc sc x = true) (h : VR ρ n₀ s.heap r v)
    (hQ : ∀ s', Ev [env.locals] s ρ s' ρ → Iv prog w K n₀ env.locals (put m x r) s' ρ σ → Q () s') : wpAny (model prog w) A (storeName env x v) Q E s := by
  obtain ⟨mm, hn, hv⟩ := I.F.ns
  have hkd : env.kindOf x = some .local := by unfold Env.kindOf; rw [X.sc]; exact eq_of_beq hl
  refine wpAny_storeName_local hkd hn (fun h' n' hs => ?_) (by rw [X.kind]; rfl)
  have x1 : Ev [env.locals] s ρ { s with heap := h', toks := s.toks + 1 } ρ := by
    refine ⟨List.prefix_refl _, fun zz h => .inl h, fun a o e => ?_, fun a o zz hp e => (hs.2 a (fun h => hp (h ▸ .head _))).trans e, rfl, rfl, rfl⟩
    by_cases ha : a = env.locals
    · subst ha; obtain ⟨o', _, _, e', _⟩ := n'; exact ⟨o', e'⟩
    · exact ⟨o, (hs.2 a ha).trans e⟩
  have T := x1.tr I.S I.F.wr
  have S' := I.S.mv X.B x1 I.F.wr fun a ha o e => (hs.2 a (fun h => I.F.off (h ▸ ha))).trans e
  refine hQ _ x1 ⟨S', ⟨⟨_, n', fun y z hy => ?_⟩, I.F.off, I.F.low⟩, I.T.ev X.B I.S I.F.wr x1⟩
  rw [lk_put] at hy
  by_cases hyx : y = x
  · rw [if_pos hyx] at hy
    cases hy
    exact ⟨v, if_pos hyx, VR.tr T _ _ h⟩
  · rw [if_neg hyx] at hy
    obtain ⟨v', h1, h2⟩ := hv y z hy
    exact ⟨v', (if_neg hyx).trans h1, VR.tr T _ _ h2⟩

theorem snd_exsW {X : Stmt → XsT} (hX : ∀ st, SndS prog w K n₀ A env.locals (exec st env) (X st)) : ∀ b : List Stmt, SndS prog w K n₀ A env.locals (execs b env) (exsW X b)
  | [] => by
    intro E m σ fm σ' s ρ Q h I hQ
    obtain ⟨rfl, rfl⟩ := ret_some h
    exact wpAny_execs_nil (back_next hQ (Ev.refl _ _ _) I)
  | st :: r => by
    intro E m σ fm σ' s ρ Q h I hQ
    refine bnd_el h fun p σ₁ e1 e2 => ?_
    obtain ⟨f, m₁⟩ := p
    refine wpAny_execs_cons (hX st _ _ _ _ _ _ _ _ e1 I fun s₁ ρ₁ fl x1 I1 f1 => ?_)
    cases f
    · have : fl = .next := f1
      subst this
      exact snd_exsW hX r _ _ _ _ _ _ _ _ e2 I1 (Iv.after x1 hQ)
    · have : fl = .brk := f1
      subst this
      obtain ⟨rfl, rfl⟩ := ret_some e2
      exact hQ _ _ _ x1 I1 rfl
    · have : fl = .cont := f1
      subst this
      obtain ⟨rfl, rfl⟩ := ret_some e2
      exact hQ _ _ _ x1 I1 rfl
    · obtain ⟨u, rfl, q⟩ := f1
      obtain ⟨rfl, rfl⟩ := ret_some e2
      exact hQ _ _ _ x1 I1 ⟨u, rfl, q⟩

theorem swaps_plain {e : Expr} (h : plainE e = true) (t : Option Expr) (l : Nat) (env : Env) : swapsWith e t l env = pure false := by
  cases e <;> first | rfl | cases h
theorem inter_fn (X : Cx prog w K n₀ A env sc) : interactive env = false := by unfold interactive; rw [X.kind]; rfl

theorem snd_aug (S : St prog w K n₀ s ρ σ) {op : Operator} {x y r : V} {v u : Value} {Q : Value → Shared → Prop} (e : augV op x y σ = some (r, σ')) (h1 : VR ρ n₀ s.heap x v) (h2 : VR ρ n₀ s.heap y u)
    (hQ : BackV prog w K n₀ s ρ σ' r Q) : wpAny (model prog w) A (inplaceOp op v u) Q E s := by
  obtain ⟨i, j, rfl, rfl, rfl, e'⟩ := inv_aug e
  cases e'
  obtain ⟨t, rfl⟩ := h1.int
  obtain ⟨t', rfl⟩ := h2.int
  exact PyProof.Rows.isub_int (back_toks S hQ _ VR.ofInt)
end
end Mine
end P_A20
section P_A21
open PySem PySem.Calls PySem.SeqAt PyProof.Rows PySem.W
set_option autoImplicit false
set_option Elab.async false
set_option maxRecDepth 100000
namespace Mine
section
variable {prog : Program} {w : World} {K : Frag} {n₀ : Nat} {s s' : Shared} {ρ ρ' : Rho} {σ σ' : Hp} {P : List Addr} {L : Addr} {m : Loc} {A : Around} {E : Value → Shared → Prop} {env : Env} {sc : Scope}

theorem St.mvT (B : Bs K n₀) (S : St prog w K n₀ s ρ σ) (T : Tr n₀ ρ s.heap ρ s'.heap) (hp : ∀ a ∈ flat ρ, ∀ o, s.heap.get? a = some o → s'.heap.get? a = some o) : St prog w K n₀ s' ρ σ := by
  refine ⟨fun a o e => T.frz a o (S.kin a o e) (.inr (B.k a o e)), NoLimit.base S.nol B.stat fun a o h e => T.frz a o e (.inr h), (let ⟨b, o, h, e⟩ := S.low; ⟨b, o, h, T.frz b o e (.inr (h ▸ Nat.lt_succ_self b))⟩), S.len, S.nd, fun a ha => ?_, fun i p o h1 h2 => ?_⟩
  · obtain ⟨h1, o, h2, h3⟩ := S.own a ha
    exact ⟨h1, o, hp a ha o h2, h3⟩
  · refine OR.tr T (fun a ha o' e => hp a ?_ o' e) (S.objs i p o h1 h2)
    exact List.mem_flatMap.mpr ⟨p, List.mem_of_getElem? h1, ha⟩

/-- a place of the loop's own -/
structure Pl (n₀ : Nat) (L : Addr) (i : Addr) (s : Shared) (ρ : Rho) : Prop where
  low : n₀ ≤ i
  off : i ∉ flat ρ
  ne : i ≠ L
  frz : ∀ o, s.heap.get? i = some o → ¬ Frz o
  ex : ∃ o, s.heap.get? i = some o

theorem Ev.but {s₁ s₂ : Shared} {ρ₁ : Rho} {i : Addr} (x : Ev P s ρ s₁ ρ₁) (hI : s.heap.get? i = none) (k : ∀ b o, b ≠ i → s₁.heap.get? b = some o → s₂.heap.get? b = some o) (hr : s₂.gens = s₁.gens ∧ s₂.drawn = s₁.drawn ∧ s₂.os = s₁.os) : Ev P s ρ s₂ ρ₁ := by
  have ne : ∀ a o, s.heap.get? a = some o → a ≠ i := fun a o e h => by rw [h, hI] at e; cases e
  refine ⟨x.pre, x.new, fun a o e => ?_, fun a o h1 h2 e => k a o (ne a o e) (x.keep a o h1 h2 e), hr.1.trans x.rest.1, hr.2.1.trans x.rest.2.1, hr.2.2.trans x.rest.2.2⟩
  obtain ⟨o', e'⟩ := x.live a o e
  exact ⟨o', k a o' (ne a o e) e'⟩

theorem Iv.but {s₁ : Shared} {i : Addr} (B : Bs K n₀) (I : Iv prog w K n₀ L m s ρ σ) (p : Pl n₀ L i s ρ) (k : ∀ b o, b ≠ i → s.heap.get? b = some o → s₁.heap.get? b = some o) : Iv prog w K n₀ L m s₁ ρ σ ∧ Tr n₀ ρ s.heap ρ s₁.heap := by
  have T : Tr n₀ ρ s.heap ρ s₁.heap := ⟨List.prefix_refl _, fun a o e h => k a o (fun ha => by
    subst ha
    rcases h with h | h
    · exact p.frz o e h
    · exact absurd h (Nat.not_lt.mpr p.low)) e⟩
  have S' := I.S.mvT (s' := s₁) B T fun a ha o e => k a o (fun h => p.off (h ▸ ha)) e
  refine ⟨⟨S', ⟨?_, I.F.off, I.F.low⟩, ?_⟩, T⟩
  · obtain ⟨mm, hn, hv⟩ := I.F.ns
    exact ⟨mm, Ns.kept hn fun o e => k L o (Ne.symm p.ne) e, fun y z hy => let ⟨v', h1, h2⟩ := hv y z hy; ⟨v', h1, VR.tr T _ _ h2⟩⟩
  · obtain ⟨mg, mb, h1, h2, h3⟩ := I.T
    exact ⟨mg, mb, Ns.kept h1 fun o e => T.frz _ _ e (.inr B.glob), Ns.kept h2 fun o e => T.frz _ _ e (.inr B.blt), h3⟩

/-- the place lives on under what runs inside -/
theorem Pl.ev {i : Addr} (p : Pl n₀ L i s ρ) (x : Ev [L] s ρ s' ρ') : Pl n₀ L i s' ρ' ∧ ∀ o, s.heap.get? i = some o → s'.heap.get? i = some o := by
  have k : ∀ o, s.heap.get? i = some o → s'.heap.get? i = some o := fun o e => x.keep i o p.off (fun h => p.ne (List.mem_singleton.mp h)) e
  obtain ⟨o, e⟩ := p.ex
  refine ⟨⟨p.low, fun hm => ?_, p.ne, fun o' e' => ?_, ⟨o, k o e⟩⟩, k⟩
  · rcases x.new i hm with h | h
    · exact p.off h
    · rw [h] at e; cases e
  · rw [k o e] at e'; cases e'; exact p.frz o e

theorem snd_while0 {T : Loc → Mo Bool} {test : Expr} {body : List Stmt} {pos : Pos} (Bb : Bs K n₀)
    (hT : ∀ (E : Value → Shared → Prop) (m : Loc) (σ : Hp) (r : Bool) (σ' : Hp) (s : Shared) (ρ : Rho) (Q : Bool → Shared → Prop), T m σ = some (r, σ') → Iv prog w K n₀ env.locals m s ρ σ → Back prog w K n₀ s ρ σ' (fun _ _ (b : Bool) => b = r) Q → wpAny (model prog w) A (isTrue test env (eval test env)) Q E s) :
    SndS prog w K n₀ A env.locals (exec (.While test body [] pos) env) (while0 T) := by
  intro E m σ fm σ' s ρ Q h I hQ
  refine wpAny_While (codeAny_whileLoop (fun zz s' => s' = s) ?_ 0 rfl)
  rintro k s₁ rfl
  refine bnd_el h fun c σ₂ e1 e2 => ?_
  refine hT _ _ _ _ _ _ _ _ e1 I fun s₂ ρ₂ b x2 S2 q => ?_
  subst q
  cases b
  · obtain ⟨rfl, rfl⟩ := ret_some e2
    exact wpAny_execs_nil (hQ _ _ _ x2.one (I.ev Bb x2 S2) rfl)
  · exact (stuck_some e2).elim

/-- an iterator -/
noncomputable def ItR (ρ : Rho) (n₀ : Nat) (h : Heap) (i : Addr) : It → Prop
  | .rng a b => IsRangeIter h i a (if a < b then b - a else 0) 1
  | .items xs => ∃ t vs n k, h.IsTupleIter i t k ∧ h.get? t = some (tupObj vs n) ∧ VRs ρ n₀ h xs (vs.toList.drop k)
  | .list r k => ∃ p, ρ[r]? = some p ∧ h.IsListIter i p.1 k

theorem ItR.ev {i : Addr} {it : It} (I : Iv prog w K n₀ L m s ρ σ) (p : Pl n₀ L i s ρ) (x : Ev [L] s ρ s' ρ') (h : ItR ρ n₀ s.heap i it) : ItR ρ' n₀ s'.heap i it := by
  have k := (p.ev x).2
  have T := x.tr I.S I.F.wr
  cases it with
  | rng a b => exact k _ h
  | items xs =>
    obtain ⟨t, vs, n, j, h1, h2, h3⟩ := h
    refine ⟨t, vs, n, j, ?_, T.frz _ _ h2 (.inl (.inl ⟨_, _, rfl⟩)), VRs.tr T _ _ h3⟩
    obtain ⟨o, e, r⟩ := h1
    exact ⟨o, k o e, r⟩
  | list r j =>
    obtain ⟨p, h1, o, e, r⟩ := h
    exact ⟨p, get_pre T.pre h1, o, k o e, r⟩

theorem snd_next (B : Bs K n₀) (hh : A.handled = none) {i : Addr} {it : It} {r : Option (V × It)} (I : Iv prog w K n₀ L m s ρ σ) (p : Pl n₀ L i s ρ) (h : ItR ρ n₀ s.heap i it) (e : nextI it σ = some (r, σ')) {Q : Option Value → Shared → Prop}
    (hQ : ∀ s' o, (∀ b o, b ≠ i → s.heap.get? b = some o → s'.heap.get? b = some o) → (s'.gens = s.gens ∧ s'.drawn = s.drawn ∧ s'.os = s.os) → σ' = σ → Iv prog w K n₀ L m s' ρ σ' →
      (match r with | none => o = none | some q => ∃ v, o = some v ∧ VR ρ n₀ s'.heap q.1 v ∧ ItR ρ n₀ s'.heap i q.2 ∧ Pl n₀ L i s' ρ) → Q o s') : wpAny (model prog w) A (pyNext (.ref i)) Q E s := by
  cases it with
  | rng a b =>
    by_cases hab : a < b
    · simp only [nextI, decide_eq_true hab] at e
      obtain ⟨rfl, rfl⟩ := ret_some e
      refine wpAny_pyNext_range_item h (by rw [if_pos hab]; lia) fun h' h1 h2 => ?_
      have kk : ∀ b o, b ≠ i → s.heap.get? b = some o → h'.get? b = some o := fun b o hb e => (h2.2 b hb).trans e
      obtain ⟨I', T⟩ := Iv.but (s₁ := { s with heap := h', toks := s.toks + 1 }) B I p kk
      refine hQ _ _ kk ⟨rfl, rfl, rfl⟩ rfl I' ⟨_, rfl, VR.ofInt, ?_, p.low, p.off, p.ne, fun o ho => ?_, ⟨_, h1⟩⟩
      · rw [if_pos hab] at h1
        have : (if a + 1 < b then b - (a + 1) else 0) = b - a - 1 := by split <;> lia
        show IsRangeIter h' i (a + 1) (if a + 1 < b then b - (a + 1) else 0) 1
        rw [this]
        exact h1
      · have h1' : h'.get? i = some _ := h1
        rw [h1'] at ho; cases ho
        rintro (⟨_, _, h⟩ | ⟨_, _, _, _, _, h⟩) <;> (have := congrArg Obj.cls h; simp at this)
    · simp only [nextI, decide_eq_false hab] at e
      obtain ⟨rfl, rfl⟩ := ret_some e
      refine wpAny_pyNext_range_end hh h (by rw [if_neg hab]; lia) fun h' h1 => ?_
      have kk : ∀ b o, b ≠ i → s.heap.get? b = some o → h'.get? b = some o := fun b o hb e => h1 b o hb e
      obtain ⟨I', T⟩ := Iv.but (s₁ := { s with heap := h' }) B I p kk
      exact hQ _ _ kk ⟨rfl, rfl, rfl⟩ rfl I' rfl
  | items xs =>
    obtain ⟨t, vs, n, j, h1, h2, h3⟩ := h
    have hti : t ≠ i := fun h => by subst h; exact p.frz _ h2 (.inl ⟨_, _, rfl⟩)
    cases xs with
    | nil =>
      simp only [nextI] at e
      obtain ⟨rfl, rfl⟩ := ret_some e
      change _ = _ at h3
      have hx : vs[j]? = none := by
        have := congrArg (fun l => l[0]?) h3
        simpa using this
      refine wpAny_pyNext_tuple_end hh h1 (isTuple_of h2) hx fun h' h4 => ?_
      have kk : ∀ b o, b ≠ i → s.heap.get? b = some o → h'.get? b = some o := fun b o hb e => h4 b o hb e
      obtain ⟨I', T⟩ := Iv.but (s₁ := { s with heap := h' }) B I p kk
      exact hQ _ _ kk ⟨rfl, rfl, rfl⟩ rfl I' rfl
    | cons x xs =>
      simp only [nextI] at e
      obtain ⟨rfl, rfl⟩ := ret_some e
      obtain ⟨v, g1, g2⟩ := h3.get (i := 0) rfl
      have hx : vs[j]? = some v := by simpa using g1
      refine wpAny_pyNext_tuple_item h1 (isTuple_of h2) hx fun h' h4 h5 => ?_
      have kk : ∀ b o, b ≠ i → s.heap.get? b = some o → h'.get? b = some o := fun b o hb e => (h5.2 b hb).trans e
      obtain ⟨I', T⟩ := Iv.but (s₁ := { s with heap := h' }) B I p kk
      have h3' : VRs ρ n₀ s.heap xs (vs.toList.drop (j + 1)) := by
        have := h3.drop 1
        simpa [List.drop_drop, Nat.add_comm] using this
      refine hQ _ _ kk ⟨rfl, rfl, rfl⟩ rfl I' ⟨_, rfl, VR.tr T _ _ g2, ⟨t, vs, n, j + 1, h4, kk t _ hti h2, VRs.tr T _ _ h3'⟩, p.low, p.off, p.ne, fun o ho => ?_, ?_⟩
      · obtain ⟨o', e', hc, _⟩ := h4
        have e'' : h'.get? i = some o' := e'
        rw [e''] at ho; cases ho
        rintro (⟨_, _, h⟩ | ⟨_, _, _, _, _, h⟩)
        · rw [h] at hc; simp at hc
        · rw [h] at hc; simp at hc
      · obtain ⟨o', e', _⟩ := h4
        exact ⟨o', e'⟩
  | list r k =>
    obtain ⟨q, h1, h2⟩ := h
    simp only [nextI] at e
    refine bnd_el e fun xs σ₁ e1 e2 => ?_
    obtain ⟨g, rfl⟩ := gtL_some e1
    obtain ⟨_, vs, n, g1, g2⟩ := I.S.at h1 g
    have hqi : q.1 ≠ i := fun h => p.off (h ▸ List.mem_flatMap.mpr ⟨q, List.mem_of_getElem? h1, .head _⟩)
    generalize hx : xs[k]? = z at e2
    cases z with
    | none =>
      obtain ⟨rfl, rfl⟩ := ret_some e2
      have hx' : vs[k]? = none := by
        rw [List.getElem?_eq_none_iff, g2.length, Array.length_toList] at hx
        exact Array.getElem?_eq_none hx
      refine wpAny_pyNext_list_end hh h2 (isList_of g1) hx' fun h' h4 => ?_
      have kk : ∀ b o, b ≠ i → s.heap.get? b = some o → h'.get? b = some o := fun b o hb e => h4 b o hb e
      obtain ⟨I', T⟩ := Iv.but (s₁ := { s with heap := h' }) B I p kk
      exact hQ _ _ kk ⟨rfl, rfl, rfl⟩ rfl I' rfl
    | some x =>
      obtain ⟨rfl, rfl⟩ := ret_some e2
      obtain ⟨v, g3, g4⟩ := g2.get hx
      have hx' : vs[k]? = some v := by rw [← Array.getElem?_toList]; exact g3
      refine wpAny_pyNext_list_item h2 (isList_of g1) hx' fun h' h4 h5 => ?_
      have kk : ∀ b o, b ≠ i → s.heap.get? b = some o → h'.get? b = some o := fun b o hb e => (h5.2 b hb).trans e
      obtain ⟨I', T⟩ := Iv.but (s₁ := { s with heap := h' }) B I p kk
      refine hQ _ _ kk ⟨rfl, rfl, rfl⟩ rfl I' ⟨_, rfl, VR.tr T _ _ g4, ⟨q, h1, h4⟩, p.low, p.off, p.ne, fun o ho => ?_, ?_⟩
      · obtain ⟨o', e', hc, _⟩ := h4
        have e'' : h'.get? i = some o' := e'
        rw [e''] at ho; cases ho
        rintro (⟨_, _, h⟩ | ⟨_, _, _, _, _, h⟩)
        · rw [h] at hc; simp at hc
        · rw [h] at hc; simp at hc
      · obtain ⟨o', e', _⟩ := h4
        exact ⟨o', e'⟩
end
end Mine
end P_A21
section P_A22
open PySem PySem.Calls PySem.SeqAt PyProof.Rows PySem.W
set_option autoImplicit false
set_option Elab.async false
set_option maxRecDepth 100000
namespace Mine
section
variable {prog : Program} {w : World} {K : Frag} {n₀ : Nat} {s s' : Shared} {ρ ρ' : Rho} {σ σ' : Hp} {P : List Addr} {L : Addr} {m : Loc} {A : Around} {E : Value → Shared → Prop} {env : Env} {sc : Scope}

set_option tactic.hygienic true in
theorem snd_iter (B : Bs K n₀) (I : Iv prog w K n₀ L m s ρ σ) {v : V} {u : Value} {it : It} {Q : Value → Shared → Prop} (e : iterV v σ = some (it, σ')) (h : VR ρ n₀ s.heap v u)
    (hQ : ∀ s' i, s.heap.get? i = none → Ev [] s ρ s' ρ → Iv prog w K n₀ L m s' ρ σ' → Pl n₀ L i s' ρ → ItR ρ n₀ s'.heap i it → Q (.ref i) s') : wpAny (model prog w) A (pyIter u) Q E s := by
  have go : ∀ (o : Obj), ¬ Frz o → o.isFreed = false → (ItR ρ n₀ (s.heap.push o) s.heap.objs.size it) → σ' = σ → Q (.ref s.heap.objs.size) { s with heap := s.heap.push o } := by
    intro o ho hfr hit hs
    subst hs
    have x : Ev [] s ρ { s with heap := s.heap.push o } ρ := ⟨List.prefix_refl _, fun _ h => .inl h, fun a o e => ⟨o, Heap.get?_push_of_some _ e⟩, fun a o _ _ e => Heap.get?_push_of_some _ e, rfl, rfl, rfl⟩
    have hg : (s.heap.push o).get? s.heap.objs.size = some o := Heap.get?_push_size _ hfr
    have hn : s.heap.get? s.heap.objs.size = none := Heap.get?_none_of_le (Nat.le_refl _)
    refine hQ _ _ hn x (I.ev B x (I.S.mv B x Wr.nil fun a _ o e => Heap.get?_push_of_some _ e)) ⟨I.S.lowle, fun hm => ?_, fun h => ?_, fun o' e' => ?_, ⟨o, hg⟩⟩ hit
    · obtain ⟨_, o', e', _⟩ := I.S.own _ hm
      rw [hn] at e'; cases e'
    · obtain ⟨mm, ⟨o', _, _, e', _⟩, _⟩ := I.F.ns
      rw [← h, hn] at e'; cases e'
    · have e'' : (s.heap.push o).get? s.heap.objs.size = some o' := e'
      rw [hg] at e''; cases e''; exact ho
  have nf : ∀ (n : String) (fs : Array Value), n ≠ "tuple" → n ≠ "range" → ¬ Frz ⟨.type n, none, .fields fs, #[]⟩ := by
    rintro n fs h1 h2 (⟨_, _, h⟩ | ⟨_, _, _, _, _, h⟩)
    · have := congrArg Obj.cls h
      simp at this; exact h1 this
    · have := congrArg Obj.cls h
      simp at this; exact h2 this
  cases v <;> first | (exact (no_some e).elim) | skip
  all_goals (delta iterV at e; dsimp only at e)
  case rng a b =>
    refine grd_el e fun c e1 => ?_
    obtain ⟨rfl, rfl⟩ := ret_some e1
    refine and_el c fun c c4 => ?_
    refine and_el c fun c c3 => ?_
    refine and_el c fun c1 c2 => ?_
    have c1 := of_decide_eq_true c1
    have c2 := of_decide_eq_true c2
    have c3 := of_decide_eq_true c3
    have c4 := of_decide_eq_true c4
    obtain ⟨d, t, y, z, rfl, g⟩ := h
    have hrs : Builtin.Range.rangeSize a b 1 < 2 ^ 63 ∧ 0 ≤ Builtin.Range.rangeSize a b 1 := by rw [rangeSize_one]; split <;> lia
    have ft : ∀ i : Int, -2 ^ 63 ≤ i → i < 2 ^ 63 → Builtin.Range.rangeFitsLong i = true := fun i h1 h2 => by
      unfold Builtin.Range.rangeFitsLong
      rw [Bool.and_eq_true, decide_eq_true_eq, decide_eq_true_eq]; lia
    refine wpAny_pyIter_range g ?_ ?_
    · unfold Builtin.Range.small
      rw [ft a (by lia) (by lia), ft b (by lia) (by lia), ft 1 (by lia) (by lia), ft _ (by lia) (by lia), ft (b + (1 - 1)) (by lia) (by lia)]
      simp
    · rw [rangeSize_one]
      exact go _ (nf "range_iterator" _ (by decide) (by decide)) rfl (Heap.get?_push_size _ rfl) rfl
  case tup xs =>
    obtain ⟨rfl, rfl⟩ := ret_some e
    obtain ⟨a, vs, n, rfl, g1, g2⟩ := h.tup
    refine wpAny_pyIter_tuple (isTuple_of g1) (go _ (nf "tuple_iterator" _ (by decide) (by decide)) rfl ?_ rfl)
    exact ⟨a, vs, n, 0, ⟨_, Heap.get?_push_size _ rfl, rfl, rfl⟩, Heap.get?_push_of_some _ g1, VRs.tr ⟨List.prefix_refl _, fun _ _ e _ => Heap.get?_push_of_some _ e⟩ _ _ g2⟩
  case ref r =>
    refine bnd_el e fun xs σ₁ e1 e2 => ?_
    obtain ⟨g, rfl⟩ := gtL_some e1
    obtain ⟨rfl, rfl⟩ := ret_some e2
    obtain ⟨a, vs, n, p1, rfl, g1, g2⟩ := I.S.lst h g
    refine wpAny_pyIter_list (isList_of g1) (go _ (nf "list_iterator" _ (by decide) (by decide)) rfl ?_ rfl)
    exact ⟨(a, none), p1, ⟨_, Heap.get?_push_size _ rfl, rfl, rfl⟩⟩

theorem folded_plain {e : Expr} (h : notSet e = true) (env : Env) (v : Value) : foldedSetIterable e env v = pure v := by
  cases e <;> first | rfl | cases h

theorem snd_forV (X : Cx prog w K n₀ A env sc) {x : Str} {px pos : Pos} {it : Expr} {body : List Stmt} {ev : Loc → Mo V} (hx : isLoc sc x = true) (hs : notSet it = true)
    (hE : ∀ (E : Value → Shared → Prop) (m : Loc) (σ : Hp) (r : V) (σ' : Hp) (s : Shared) (ρ : Rho) (Q : Value → Shared → Prop), ev m σ = some (r, σ') → Iv prog w K n₀ env.locals m s ρ σ → BackV prog w K n₀ s ρ σ' r Q → wpAny (model prog w) A (eval it env) Q E s)
    {B : XsT} (hB : SndS prog w K n₀ A env.locals (execs body env) B) (n : Nat) : SndS prog w K n₀ A env.locals (exec (.For (.Name x px) it body [] pos) env) (fun m => bnd (ev m) fun v => bnd (iterV v) fun i => forV x B n i m) := by
  intro E m σ fm σ' s ρ Q h I hQ
  refine bnd_el h fun v σ₁ e1 e2 => ?_
  refine bnd_el e2 fun it₀ σ₂ e3 e4 => ?_
  refine wpAny_For (hE _ _ _ _ _ _ _ _ e1 I fun s₁ ρ₁ u x1 S1 q1 => ?_) (folded_plain hs env)
  have I1 := I.ev X.B x1 S1
  refine snd_iter X.B I1 e3 q1 fun s₂ i hi x2 I2 p2 r2 => ?_
  have hi0 : s.heap.get? i = none := by
    cases e : s.heap.get? i with
    | none => rfl
    | some o =>
      obtain ⟨o', e'⟩ := x1.live i o e
      rw [hi] at e'; cases e'
  refine codeAny_forLoop_any (fun k s' => ∃ it m₁ σ₁ ρ₁, forV x B k it m₁ σ₁ = some (fm, σ') ∧ Iv prog w K n₀ env.locals m₁ s' ρ₁ σ₁ ∧ Ev [env.locals] s ρ s' ρ₁ ∧ Pl n₀ env.locals i s' ρ₁ ∧ ItR ρ₁ n₀ s'.heap i it) ?_ n
    ⟨it₀, m, σ₂, _, e4, I2, (x1.trans x2).one, p2, r2⟩
  rintro k s₃ ⟨it, m₃, σ₃, ρ₃, e, I3, x3, p3, r3⟩
  cases k with
  | zero => exact (stuck_some e).elim
  | succ k =>
    refine bnd_el e fun r σ₄ e5 e6 => ?_
    refine snd_next X.B X.hh I3 p3 r3 e5 fun s₄ o kk hr hσ I4 hr' => ?_
    have x4 := x3.but hi0 kk hr
    cases r with
    | none =>
      have : o = none := hr'
      subst this
      obtain ⟨rfl, rfl⟩ := ret_some e6
      exact wpAny_execs_nil (hQ _ _ _ x4 I4 rfl)
    | some q =>
      obtain ⟨u, rfl, q1, q2, q3⟩ := hr'
      refine bnd_el e6 fun p σ₅ e7 e8 => ?_
      obtain ⟨f, m₅⟩ := p
      refine wpAny_pure (wpAny_assign_Name (snd_store X I4 hx q1 fun s₅ x5 I5 => ?_))
      have p5 := (q3.ev x5).1
      have r5 := q2.ev I4 q3 x5
      refine hB _ _ _ _ _ _ _ _ e7 I5 fun s₆ ρ₆ fl x6 I6 f6 => ?_
      have xx := x4.trans (x5.trans x6)
      cases f
      · have : fl = .next := f6
        subst this
        exact ⟨k, Nat.lt_succ_self k, _, _, _, _, e8, I6, xx, (p5.ev x6).1, r5.ev I5 p5 x6⟩
      · have : fl = .brk := f6
        subst this
        obtain ⟨rfl, rfl⟩ := ret_some e8
        exact hQ _ _ _ xx I6 rfl
      · have : fl = .cont := f6
        subst this
        exact ⟨k, Nat.lt_succ_self k, _, _, _, _, e8, I6, xx, (p5.ev x6).1, r5.ev I5 p5 x6⟩
      · obtain ⟨u, rfl, q⟩ := f6
        obtain ⟨rfl, rfl⟩ := ret_some e8
        exact hQ _ _ _ xx I6 ⟨u, rfl, q⟩
end
end Mine
end P_A22
section P_A23
open PySem PySem.Calls PySem.SeqAt PyProof.Rows PySem.W
set_option autoImplicit false
set_option Elab.async false
set_option maxRecDepth 100000
namespace Mine
section
variable {prog : Program} {w : World} {K : Frag} {n₀ : Nat} {s s' : Shared} {ρ ρ' : Rho} {σ σ' : Hp} {P : List Addr} {L : Addr} {m : Loc} {A : Around} {E : Value → Shared → Prop} {env : Env} {sc : Scope}

theorem exec_aug_attr {o : Expr} {attr : Str} {tpos : Pos} {op : Operator} {value : Expr} {pos : Pos} {Q : Flow → Shared → Prop}
    (h : wpAny (model prog w) A (eval o env) (fun ov s₁ => wpAny (model prog w) A (getAttr ov attr true) (fun old s₂ => wpAny (model prog w) A (eval value env) (fun v s₃ => wpAny (model prog w) A (inplaceOp op old v) (fun nv s₄ =>
      wpAny (model prog w) A (setAttr ov attr nv) (fun zz => Q .next) E s₄) E s₃) E s₂) E s₁) E s) :
    wpAny (model prog w) A (exec (.AugAssign (.Attribute o attr tpos) op value pos) env) Q E s := by
  rw [arm_exec_AugAssign_2]
  refine wpAny_bind (wpAny_standAt (wpAny_bind (wpAny_mono h (fun ov s₁ h₁ => ?_) fun zz zz x => x)))
  refine wpAny_bind (wpAny_holding ?_)
  refine wpAny_bind (wpAny_standAt (wpAny_bind (wpAny_mono h₁ (fun old s₂ h₂ => ?_) fun zz zz x => x)))
  refine wpAny_bind (wpAny_holding (wpAny_mono h₂ (fun v s₃ h₃ => ?_) fun zz zz x => x))
  refine wpAny_bind (wpAny_standAt (wpAny_operating (wpAny_mono h₃ (fun nv s₄ h₄ => ?_) fun zz zz x => x)))
  refine wpAny_bind (wpAny_standAt (wpAny_bind (wpAny_holding (wpAny_mono h₄ (fun zz s₅ h₅ => ?_) fun zz zz x => x))))
  exact wpAny_bind (wpAny_release' (wpAny_pure h₅))

theorem exec_del_sub {o i : Expr} {p pos : Pos} {Q : Flow → Shared → Prop}
    (h : wpAny (model prog w) A (eval o env) (fun ov s₁ => wpAny (model prog w) A (eval i env) (fun iv s₂ => wpAny (model prog w) A (delItem ov iv) (fun zz => Q .next) E s₂) E s₁) E s) :
    wpAny (model prog w) A (exec (.Delete [.Subscript o i p] pos) env) Q E s := by
  rw [arm_exec_Delete]
  refine wpAny_bind (wpAny_standAt (wpAny_bind ?_))
  rw [arm_deleteEach_cons, arm_delete_Subscript]
  refine wpAny_bind (wpAny_bind (wpAny_mono h (fun ov s₁ h₁ => ?_) fun zz zz x => x))
  refine wpAny_bind (wpAny_holding (wpAny_mono h₁ (fun iv s₂ h₂ => ?_) fun zz zz x => x))
  refine wpAny_bind (wpAny_standAt (wpAny_bind (wpAny_holding (wpAny_mono h₂ (fun zz s₃ h₃ => ?_) fun zz zz x => x))))
  refine wpAny_release' ?_
  rw [arm_deleteEach_nil]
  exact wpAny_pure (wpAny_pure h₃)

set_option tactic.hygienic true in
theorem snd_exAsg (X : Cx prog w K n₀ A env sc) {ev : EvT} (hE : ∀ E, SndE prog w K n₀ A E env ev) (t value : Expr) (pos : Pos) : SndS prog w K n₀ A env.locals (exec (.Assign [t] value pos) env) (exAsg K sc ev t value) := by
  intro E m σ fm σ' s ρ Q h I hQ
  cases t <;> first | exact (no_some h).elim | (delta exAsg at h; dsimp only at h)
  case Name x p =>
    refine grd_el h fun g h1 => ?_
    refine and_el g fun g1 g2 => ?_
    refine bnd_el h1 fun v σ₁ e1 e2 => ?_
    obtain ⟨rfl, rfl⟩ := ret_some e2
    refine wpAny_Assign_Name (hE _ _ _ _ _ _ _ _ _ e1 I fun s₁ ρ₁ u x1 S1 q1 => ?_) (swaps_plain g1 _ _ _)
    exact snd_store X (I.ev X.B x1 S1) g2 q1 fun s₂ x2 I2 => back_next hQ (x1.one.trans x2) I2
  case Attribute o a p =>
    refine grd_el h fun g1 h1 => ?_
    refine bnd_el h1 fun v σ₁ e1 e2 => ?_
    refine bnd_el e2 fun ov σ₂ e3 e4 => ?_
    refine bnd_el e4 fun _ σ₃ e5 e6 => ?_
    obtain ⟨rfl, rfl⟩ := ret_some e6
    refine plainObj_wpAny_Assign_Attribute (hE _ _ _ _ _ _ _ _ _ e1 I fun s₁ ρ₁ u x1 S1 q1 => ?_) (swaps_plain g1 _ _ _)
    have I1 := I.ev X.B x1 S1
    refine hE _ _ _ _ _ _ _ _ _ e3 I1 fun s₂ ρ₂ u2 x2 S2 q2 => ?_
    have I2 := I1.ev X.B x2 S2
    exact snd_setAttr X.B S2 e5 q2 (I1.vr x2 q1) fun s₃ ρ₃ _ x3 S3 _ => back_next hQ (x1.trans (x2.trans x3)).one (I2.ev X.B x3 S3)
  case Subscript o i p =>
    refine grd_el h fun g h1 => ?_
    refine and_el g fun g1 g2 => ?_
    refine bnd_el h1 fun v σ₁ e1 e2 => ?_
    refine bnd_el e2 fun ov σ₂ e3 e4 => ?_
    refine bnd_el e4 fun iv σ₃ e5 e6 => ?_
    refine bnd_el e6 fun _ σ₄ e7 e8 => ?_
    obtain ⟨rfl, rfl⟩ := ret_some e8
    refine wpAny_Assign_Subscript (hE _ _ _ _ _ _ _ _ _ e1 I fun s₁ ρ₁ u x1 S1 q1 => ?_) (swaps_plain g1 _ _ _)
    have I1 := I.ev X.B x1 S1
    refine hE _ _ _ _ _ _ _ _ _ e3 I1 fun s₂ ρ₂ u2 x2 S2 q2 => ?_
    have I2 := I1.ev X.B x2 S2
    refine hE _ _ _ _ _ _ _ _ _ e5 I2 fun s₃ ρ₃ u3 x3 S3 q3 => ?_
    have I3 := I2.ev X.B x3 S3
    exact snd_setItem X.B (by have := X.hu; lia) S3 e7 (I2.vr x3 q2) q3 (I2.vr x3 (I1.vr x2 q1)) fun s₄ ρ₄ _ x4 S4 _ => back_next hQ (x1.trans (x2.trans (x3.trans x4))).one (I3.ev X.B x4 S4)
set_option tactic.hygienic true in
theorem snd_exAug (X : Cx prog w K n₀ A env sc) {ev : EvT} (hE : ∀ E, SndE prog w K n₀ A E env ev) (t : Expr) (op : Operator) (value : Expr) (pos : Pos) : SndS prog w K n₀ A env.locals (exec (.AugAssign t op value pos) env) (exAug K sc ev t op value) := by
  intro E m σ fm σ' s ρ Q h I hQ
  cases t <;> first | exact (no_some h).elim | (delta exAug at h; dsimp only at h)
  case Attribute o a p =>
    refine bnd_el h fun ov σ₁ e1 e2 => ?_
    refine bnd_el e2 fun a σ₂ e3 e4 => ?_
    refine bnd_el e4 fun b σ₃ e5 e6 => ?_
    refine bnd_el e6 fun v σ₄ e7 e8 => ?_
    refine bnd_el e8 fun _ σ₅ e9 e10 => ?_
    obtain ⟨rfl, rfl⟩ := ret_some e10
    refine exec_aug_attr (hE _ _ _ _ _ _ _ _ _ e1 I fun s₁ ρ₁ u x1 S1 q1 => ?_)
    have I1 := I.ev X.B x1 S1
    refine snd_attr S1 e3 q1 fun s₂ ρ₂ u2 x2 S2 q2 => ?_
    have I2 := I1.ev X.B x2 S2
    refine hE _ _ _ _ _ _ _ _ _ e5 I2 fun s₃ ρ₃ u3 x3 S3 q3 => ?_
    have I3 := I2.ev X.B x3 S3
    refine snd_aug S3 e7 (I2.vr x3 q2) q3 fun s₄ ρ₄ u4 x4 S4 q4 => ?_
    have I4 := I3.ev X.B x4 S4
    exact snd_setAttr X.B S4 e9 (I3.vr x4 (I2.vr x3 (I1.vr x2 q1))) q4 fun s₅ ρ₅ _ x5 S5 _ => back_next hQ (x1.trans (x2.trans (x3.trans (x4.trans x5)))).one (I4.ev X.B x5 S5)
set_option tactic.hygienic true in
theorem snd_exDel (X : Cx prog w K n₀ A env sc) {ev : EvT} (hE : ∀ E, SndE prog w K n₀ A E env ev) (t : Expr) (pos : Pos) : SndS prog w K n₀ A env.locals (exec (.Delete [t] pos) env) (exDel ev t) := by
  intro E m σ fm σ' s ρ Q h I hQ
  cases t <;> first | exact (no_some h).elim | (delta exDel at h; dsimp only at h)
  case Subscript o i p =>
    refine grd_el h fun g h1 => ?_
    refine bnd_el h1 fun ov σ₁ e1 e2 => ?_
    refine bnd_el e2 fun iv σ₂ e3 e4 => ?_
    refine bnd_el e4 fun _ σ₃ e5 e6 => ?_
    obtain ⟨rfl, rfl⟩ := ret_some e6
    refine exec_del_sub (hE _ _ _ _ _ _ _ _ _ e1 I fun s₁ ρ₁ u x1 S1 q1 => ?_)
    have I1 := I.ev X.B x1 S1
    refine hE _ _ _ _ _ _ _ _ _ e3 I1 fun s₂ ρ₂ u2 x2 S2 q2 => ?_
    have I2 := I1.ev X.B x2 S2
    exact snd_delItem X.B S2 e5 (I1.vr x2 q1) q2 fun s₃ ρ₃ _ x3 S3 _ => back_next hQ (x1.trans (x2.trans x3)).one (I2.ev X.B x3 S3)
set_option tactic.hygienic true in
theorem snd_exStep (X : Cx prog w K n₀ A env sc) {ev : EvT} {ts : TsT} (hE : ∀ E, SndE prog w K n₀ A E env ev) (hT : ∀ E, SndT prog w K n₀ A E env ts) {R : List Stmt → XsT} (hR : ∀ b, SndS prog w K n₀ A env.locals (execs b env) (R b)) (st : Stmt) :
    SndS prog w K n₀ A env.locals (exec st env) (exStep K sc ev ts R st) := by
  intro E m σ fm σ' s ρ Q h I hQ
  cases st <;> first | exact (no_some h).elim | (delta exStep at h; dsimp only at h)
  case Expr e pos =>
    refine grd_el h fun g h1 => ?_
    refine bnd_el h1 fun v σ₁ e1 e2 => ?_
    refine grd_el e2 fun g2 e3 => ?_
    obtain ⟨rfl, rfl⟩ := ret_some e3
    exact wpAny_Expr_any (hE _ _ _ _ _ _ _ _ _ e1 I fun s₁ ρ₁ u x1 S1 q1 => back_next hQ x1.one (I.ev X.B x1 S1)) (inter_fn X) (swaps_plain g _ _ _)
  case Pass =>
    obtain ⟨rfl, rfl⟩ := ret_some h
    exact wpAny_Pass (back_next hQ (Ev.refl _ _ _) I)
  case Break =>
    obtain ⟨rfl, rfl⟩ := ret_some h
    exact wpAny_Break (hQ _ _ _ (Ev.refl _ _ _) I rfl)
  case Continue =>
    obtain ⟨rfl, rfl⟩ := ret_some h
    exact wpAny_Continue (hQ _ _ _ (Ev.refl _ _ _) I rfl)
  case Return v pos =>
    cases v with
    | some e =>
      dsimp only at h
      refine bnd_el h fun v σ₁ e1 e2 => ?_
      obtain ⟨rfl, rfl⟩ := ret_some e2
      exact wpAny_Return_some (hE _ _ _ _ _ _ _ _ _ e1 I fun s₁ ρ₁ u x1 S1 q1 => hQ _ _ _ x1.one (I.ev X.B x1 S1) ⟨u, rfl, q1⟩)
    | none =>
      dsimp only at h
      obtain ⟨rfl, rfl⟩ := ret_some h
      exact wpAny_Return_none (hQ _ _ _ (Ev.refl _ _ _) I ⟨_, rfl, VR.ofNone⟩)
  case If t a b pos =>
    refine bnd_el h fun c σ₁ e1 e2 => ?_
    refine wpAny_If (hT _ _ _ _ _ _ _ _ _ e1 I fun s₁ ρ₁ b x1 S1 q1 => ?_)
    subst q1
    have I1 := I.ev X.B x1 S1
    cases b
    · exact hR _ _ _ _ _ _ _ _ _ e2 I1 (Iv.after x1.one hQ)
    · exact hR _ _ _ _ _ _ _ _ _ e2 I1 (Iv.after x1.one hQ)
  case Assign ts e pos =>
    rcases ts with _ | ⟨t, _ | ⟨c, d⟩⟩ <;> try exact (stuck_some h).elim
    exact snd_exAsg X hE t e pos _ _ _ _ _ _ _ _ h I hQ
  case AugAssign t op e pos => exact snd_exAug X hE t op e pos _ _ _ _ _ _ _ _ h I hQ
  case While t b o pos =>
    cases o with
    | nil => exact snd_while0 X.B (fun E => hT E _) _ _ _ _ _ _ _ _ h I hQ
    | cons => exact (stuck_some h).elim
  case For t it b o pos =>
    cases o with
    | cons => exact (stuck_some h).elim
    | nil =>
      dsimp only at h
      cases hn : nameOf t with
      | none => rw [hn] at h; exact (stuck_some h).elim
      | some x =>
        rw [hn] at h
        dsimp only at h
        obtain ⟨p, rfl⟩ := nameOf_some hn
        refine grd_el h fun g h1 => ?_
        refine and_el g fun g1 g2 => ?_
        exact snd_forV X g1 g2 (fun E => hE E _) (hR _) _ _ _ _ _ _ _ _ _ h1 I hQ
  case Delete ts pos =>
    rcases ts with _ | ⟨t, _ | ⟨c, d⟩⟩ <;> try exact (stuck_some h).elim
    exact snd_exDel X hE t pos _ _ _ _ _ _ _ _ h I hQ

theorem snd_exN (X : Cx prog w K n₀ A env sc) {ev : EvT} {ts : TsT} (hE : ∀ E, SndE prog w K n₀ A E env ev) (hT : ∀ E, SndT prog w K n₀ A E env ts) : ∀ (k : Nat) (st : Stmt), SndS prog w K n₀ A env.locals (exec st env) (exN K sc ev ts k st)
  | 0, _ => fun zz zz zz zz zz zz zz zz h => (by cases h)
  | k + 1, st => snd_exStep X hE hT (fun b => snd_exsW (snd_exN X hE hT k) b) st

theorem snd_runB (X : Cx prog w K n₀ A env sc) (D : SndD prog w K n₀) {C : Or} (hC : ∀ E, SndC prog w K n₀ A E C) (b : List Stmt) : SndS prog w K n₀ A env.locals (execs b env) (runB K C sc b) :=
  snd_exsW (fun st => snd_exN X (fun E => (snd_evP X D (hC E) DEP).1) (fun E => (snd_evP X D (hC E) DEP).2) DEP st) b
end
end Mine
end P_A23
section P_A24
open PySem PySem.Calls PySem.SeqAt PyProof.Rows PySem.W
set_option autoImplicit false
set_option Elab.async false
set_option maxRecDepth 100000
namespace Mine
section
variable {prog : Program} {w : World} {K : Frag} {n₀ : Nat} {s s' : Shared} {ρ ρ' : Rho} {σ σ' : Hp} {P : List Addr} {L : Addr} {m : Loc} {A : Around} {E : Value → Shared → Prop} {env : Env} {sc : Scope}

theorem lookup_nodup {β : Type} : ∀ {l : List (Str × β)} {x : Str} {v : β}, (l.map (·.1)).Nodup → (x, v) ∈ l → l.lookup x = some v
  | [], _, _, _, h => nomatch h
  | p :: r, x, v, hn, h => by
    rw [List.map_cons, List.nodup_cons] at hn
    rcases List.mem_cons.mp h with rfl | h
    · simp
    · have : (x == p.1) = false := beq_eq_false_iff_ne.mpr fun e => hn.1 (e ▸ List.mem_map.mpr ⟨_, h, rfl⟩)
      rw [List.lookup_cons, this]
      exact lookup_nodup hn.2 h
theorem find_nodup {β : Type} {ns : List Str} {vs : List β} (hn : ns.Nodup) (hl : ns.length = vs.length) : ∀ n ∈ ns, ((ns.zip vs).lookup n).isSome = true := by
  intro n hm
  obtain ⟨i, hi, rfl⟩ := List.mem_iff_getElem.mp hm
  have hv : i < vs.length := hl ▸ hi
  have : (ns[i], vs[i]) ∈ ns.zip vs := List.mem_iff_getElem.mpr ⟨i, (by rw [List.length_zip]; lia), List.getElem_zip⟩
  rw [lookup_nodup (by rw [List.map_fst_zip (by lia)]; exact hn) this]
  rfl
theorem binds_nodup {β : Type} {ns : List Str} {vs : List β} (hn : ns.Nodup) (hl : ns.length = vs.length) : ns.filterMap (fun n => ((ns.zip vs).lookup n).map (n, ·)) = ns.zip vs := by
  have key : ∀ (l : List (Str × β)), (l.map (·.1)).Nodup → ∀ l' : List (Str × β), (∀ p ∈ l', p ∈ l) → (l'.map (·.1)).filterMap (fun n => (l.lookup n).map (n, ·)) = l' := by
    intro l hl l'
    induction l' with
    | nil => intro _; rfl
    | cons p r ih =>
      intro h
      have hp := lookup_nodup hl (h p (.head _))
      rw [List.map_cons, List.filterMap_cons, hp]
      simp only [Option.map_some]
      rw [ih fun q hq => h q (.tail _ hq)]
  have := key (ns.zip vs) (by rw [List.map_fst_zip (by lia)]; exact hn) (ns.zip vs) fun zz h => h
  rwa [List.map_fst_zip (by lia)] at this

theorem bind_plain0 {name qualname : Str} {args : List Arg} {kd : List (Option Expr)} {dfs : List Expr} {body : FuncBody} {scope : Scope} {globals : Addr} {closure : List (Str × Addr)} {kwd doc pm : Value} {an : Option Addr} {cd ct : Value} {bl : Addr} {vs : List Value} {po ko : List Arg} {va kw : Option Arg} {df : Value} (h1 : po = []) (h2 : va = none) (h3 : ko = []) (h4 : kw = none) (h6 : df = .none) (hl : (args.map (·.arg)).length = vs.length)
    (hm : ((args.map (·.arg)).filter fun n => (((args.map (·.arg)).zip vs).lookup n).isNone) = []) (hb : (args.map (·.arg)).filterMap (fun n => (((args.map (·.arg)).zip vs).lookup n).map (n, ·)) = (args.map (·.arg)).zip vs) :
    bindArgs ⟨name, qualname, ⟨po, args, va, ko, kd, kw, dfs⟩, body, scope, globals, closure, df, kwd, doc, pm, an, cd, ct, bl⟩ ⟨vs, []⟩ = pure ((args.map (·.arg)).zip vs) := by
  subst h1 h2 h3 h4 h6
  generalize hN : args.map (·.arg) = ns at hl hm hb
  delta bindArgs
  dsimp only [List.map_nil, List.nil_append, List.append_nil]
  rw [hN]
  refine (if_neg ?_).trans ?_
  · show ¬ (decide (vs.length > ns.length) && true) = true
    rw [decide_eq_false (by rw [hl]; exact Nat.lt_irrefl _)]
    exact Bool.false_ne_true
  refine (if_neg ?_).trans ?_
  · show ¬ (!(List.filter (fun n => (List.lookup n (ns.zip vs)).isNone) (List.take (ns.length - (List.drop (0 - ns.length) ([] : List Value)).length) ns)).isEmpty) = true
    rw [List.drop_nil, List.length_nil, Nat.sub_zero, List.take_length, hm]
    exact Bool.false_ne_true
  have hz : ∀ k j : Nat, (List.drop k ns).zip (List.drop j ([] : List Value)) = [] := fun k j => by rw [List.drop_nil, List.zip_nil_right]
  refine (congrArg (fun l => (forIn l (ns.zip vs) _ >>= _ : Sem (List (Str × Value)))) (hz _ _)).trans ?_
  show (pure (List.filterMap (fun n => Option.map (fun x => (n, x)) (List.lookup n (ns.zip vs))) (ns ++ [])) : Sem (List (Str × Value))) = _
  rw [List.append_nil, hb]
theorem bind_plain {fd : FuncData} {vs : List Value} (h1 : fd.params.posonlyargs = []) (h2 : fd.params.vararg = none) (h3 : fd.params.kwonlyargs = []) (h4 : fd.params.kwarg = none) (h5 : fd.params.args.length = vs.length) (h6 : fd.defaults = .none)
    (hn : (fd.params.args.map (·.arg)).Nodup) : bindArgs fd ⟨vs, []⟩ = pure ((fd.params.args.map (·.arg)).zip vs) := by
  have hl : (fd.params.args.map (·.arg)).length = vs.length := by simpa using h5
  have hm : ((fd.params.args.map (·.arg)).filter fun n => (((fd.params.args.map (·.arg)).zip vs).lookup n).isNone) = [] := by
    rw [List.filter_eq_nil_iff]
    intro n h
    have := find_nodup hn hl n h
    cases hz : ((fd.params.args.map (·.arg)).zip vs).lookup n with
    | none => rw [hz] at this; cases this
    | some _ => simp
  have hb := binds_nodup hn hl
  exact bind_plain0 (name := fd.name) (kd := fd.params.kw_defaults) (dfs := fd.params.defaults) (body := fd.body) (scope := fd.scope) (globals := fd.globals) (closure := fd.closure) (kwd := fd.kwdefaults) (doc := fd.doc) (pm := fd.pyModule) (an := fd.annotations) (cd := fd.code) (ct := fd.closureTuple) (bl := fd.builtins) h1 h2 h3 h4 h6 hl hm hb

/-- calls in the machine's own form -/
noncomputable def SndK (prog : Program) (w : World) (K : Frag) (n₀ : Nat) (A : Around) (C : Or) : Prop :=
  ∀ (a : Addr) (as : List V) (σ : Hp) (r : V) (σ' : Hp) (s : Shared) (ρ : Rho) (vs : List Value) (R : Result → Shared → Prop), C a as σ = some (r, σ') → St prog w K n₀ s ρ σ → Bt s.heap → VRs ρ n₀ s.heap as vs →
    (∀ s' ρ' v, Ev [] s ρ s' ρ' → St prog w K n₀ s' ρ' σ' → VR ρ' n₀ s'.heap r v → R (.ok (.ret v)) s') → codeAny (model prog w) A (.call (.ref a) ⟨vs, []⟩) R s
theorem SndK.c {C : Or} (h : SndK prog w K n₀ A C) (E : Value → Shared → Prop) : SndC prog w K n₀ A E C := by
  intro a as σ r σ' s ρ vs Q e S T q hQ
  exact wpAny_call (h a as σ r σ' s ρ vs _ e S T q fun s' ρ' v x' S' q' => hQ _ _ _ x' S' q')

theorem Ev.trans_new {P' : List Addr} {s₁ s₂ : Shared} {ρ₁ ρ₂ : Rho} (x : Ev P s ρ s₁ ρ₁) (y : Ev P' s₁ ρ₁ s₂ ρ₂) (hP : ∀ a ∈ P', s.heap.get? a = none) : Ev P s ρ s₂ ρ₂ := by
  have n : ∀ a o, s.heap.get? a = some o → a ∉ P' := fun a o e h => by rw [hP a h] at e; cases e
  refine ⟨x.pre.trans y.pre, fun a h => ?_, fun a o e => let ⟨o', e'⟩ := x.live a o e; y.live a o' e', fun a o h1 h2 e => ?_, y.rest.1.trans x.rest.1, y.rest.2.1.trans x.rest.2.1, y.rest.2.2.trans x.rest.2.2⟩
  · rcases y.new a h with h | h
    · exact x.new a h
    · refine .inr ?_
      cases e : s.heap.get? a with
      | none => rfl
      | some o =>
        obtain ⟨o', e'⟩ := x.live a o e
        rw [e'] at h; cases h
  · refine y.keep a o (fun hm => ?_) (n a o e) (x.keep a o h1 h2 e)
    rcases x.new a hm with h | h
    · exact h1 h
    · rw [h] at e; cases e

theorem zip_at {h : Heap} : ∀ {ns : List Str} {as : List V} {vs : List Value} {x : Str} {r : V}, VRs ρ n₀ h as vs → lk (ns.zip as) x = some r → ∃ v, (x, v) ∈ ns.zip vs ∧ VR ρ n₀ h r v
  | [], as, vs, x, r, q, e => by cases e
  | n :: ns, [], vs, x, r, q, e => by cases e
  | n :: ns, a :: as, [], x, r, q, e => False.elim q
  | n :: ns, a :: as, v :: vs, x, r, q, e => by
    rw [List.zip_cons_cons] at e ⊢
    have e : (match n == x with | true => some a | false => lk (ns.zip as) x) = some r := e
    generalize hd : (n == x) = d at e
    cases d with
    | true =>
      have hd := eq_of_beq hd
      cases e
      exact ⟨v, by rw [hd]; exact .head _, q.1⟩
    | false =>
      obtain ⟨v', h1, h2⟩ := zip_at q.2 e
      exact ⟨v', .tail _ h1, h2⟩

structure FdOk (K : Frag) (fd : FuncData) (n : Nat) : Prop where
  co : fd.scope.isCoroutine = false
  gen : fd.scope.isGenerator = false
  kind : fd.scope.kind = .function
  cell : ∀ x ∈ fd.scope.names, x.2 ≠ .cell
  po : fd.params.posonlyargs = []
  va : fd.params.vararg = none
  ko : fd.params.kwonlyargs = []
  kw : fd.params.kwarg = none
  len : fd.params.args.length = n
  glob : fd.globals = mainGlobals
  blt : fd.builtins = builtinsNs
  clo : fd.closure = []
  dfl : fd.defaults = .none
  nd : (fd.params.args.map (·.arg)).Nodup
  loc : ∀ p ∈ fd.params.args, fd.scope.names.lookup p.arg = some .local
  code : codeIn K fd.code fd.qualname = true
theorem okFd_of {fd : FuncData} {n : Nat} (h : okFd K fd n = true) : FdOk K fd n := by
  unfold okFd at h
  simp only [Bool.and_eq_true] at h
  obtain ⟨⟨⟨⟨⟨⟨⟨⟨⟨⟨⟨⟨⟨⟨⟨⟨h1, h2⟩, h3⟩, h4⟩, h5⟩, h6⟩, h7⟩, h8⟩, h9⟩, h10⟩, h11⟩, h12⟩, h13⟩, h14⟩, h15⟩, h16⟩, h17⟩ := h
  refine ⟨by simpa using h1, by simpa using h2, eq_of_beq h3, fun x hx e => ?_, by simpa using h5, by simpa using h6, by simpa using h7, by simpa using h8, Nat.eq_of_beq_eq_true h9, eq_of_beq h10, eq_of_beq h11, by simpa using h12, eq_of_beq h13, of_decide_eq_true h15, fun p hp => ?_, h17⟩
  · have := List.all_eq_true.mp h4 x hx
    rw [e] at this
    simp at this
  · exact eq_of_beq (List.all_eq_true.mp h16 p hp)

theorem snd_func (B : Bs K n₀) (D : SndD prog w K n₀) {C : Or} (hC : ∀ env, SndK prog w K n₀ (A.deeper env) C) (hh : A.handled = none) (hd : A.depth < recursionLimit) (hu : A.units + 11 < cLine) {a : Addr} {oc : Value} {od : Option Addr} {fd : FuncData} {osl : Array (Option Value)}
    (hk : K.lookup a = some ⟨oc, od, .func fd, osl⟩) {as : List V} (ok : FdOk K fd as.length) {b : List Stmt} (hb : fd.body = .stmts b) {r : V} {vs : List Value} {R : Result → Shared → Prop}
    (e : bnd (runB K C fd.scope b ((fd.params.args.map (·.arg)).zip as)) outF σ = some (r, σ')) (S : St prog w K n₀ s ρ σ) (T : Bt s.heap) (q : VRs ρ n₀ s.heap as vs)
    (hR : ∀ s' ρ' v, Ev [] s ρ s' ρ' → St prog w K n₀ s' ρ' σ' → VR ρ' n₀ s'.heap r v → R (.ok (.ret v)) s') : codeAny (model prog w) A (.call (.ref a) ⟨vs, []⟩) R s := by
  refine bnd_el e fun fm σ₁ e1 e2 => ?_
  have X := S.kin
  have hlen : fd.params.args.length = vs.length := by rw [ok.len, q.length]
  refine codeAny_call_function hd (X _ _ hk) rfl ok.co ok.gen hb (codeRec_of X ok.code) ?_
  rw [bind_plain ok.po ok.va ok.ko ok.kw hlen ok.dfl ok.nd]
  refine wpAny_pure (wpAny_newFunctionEnv ok.cell (fun x hx => ?_) (fun h' n' hs => ?_) ok.kind)
  · obtain ⟨hx1, _⟩ := List.of_mem_zip (a := x.1) (b := x.2) hx
    obtain ⟨p, hp, hpe⟩ := List.mem_map.mp hx1
    rw [← hpe]
    exact ok.loc p hp
  · generalize hL : s.heap.objs.size = L at n' hs ⊢
    have hn : s.heap.get? L = none := by rw [← hL]; exact Heap.get?_none_of_le (Nat.le_refl _)
    have kk : ∀ b o, s.heap.get? b = some o → h'.get? b = some o := fun b o e => by
      have hb : b ≠ L := fun h => by rw [h, hn] at e; cases e
      exact (hs.2 b hb).trans (Heap.get?_push_of_some _ e)
    generalize hs1 : ({ s with heap := h', toks := s.toks + ((fd.params.args.map (·.arg)).zip vs).length } : Shared) = s₁
    have hheap : s₁.heap = h' := by rw [← hs1]
    have x1 : Ev [] s ρ s₁ ρ := by
      rw [← hs1]
      exact ⟨List.prefix_refl _, fun zz h => .inl h, fun a o e => ⟨o, kk a o e⟩, fun a o zz zz e => kk a o e, rfl, rfl, rfl⟩
    have S1 : St prog w K n₀ s₁ ρ σ := S.mv B x1 Wr.nil fun a zz o e => by rw [hheap]; exact kk a o e
    have T1 := x1.tr S Wr.nil
    generalize henv : newEnv fd.scope L fd.globals fd.closure (fd.qualname ++ ".<locals>.") (some a) fd.code none fd.builtins = env
    have henvL : env.locals = L := by rw [← henv]; rfl
    have Cx1 : Cx prog w K n₀ (A.deeper env) env fd.scope := ⟨B, hh, (by show A.units + 3 + 8 < cLine; lia), (by rw [← henv]; exact ok.kind), (by rw [← henv]; rfl), (by rw [← henv]; exact ok.glob), (by rw [← henv]; exact ok.blt)⟩
    refine ⟨S1.nol, codeAny_func (snd_runB Cx1 D (fun E => (hC env).c E) b _ _ _ _ _ _ ρ _ e1 ?_ fun s₂ ρ₂ fl x2 I2 f2 => ?_)⟩
    · rw [henvL]
      refine ⟨S1, ⟨⟨_, by rw [hheap]; exact n', fun y z hy => ?_⟩, fun hm => ?_, ?_⟩, T.ev B S Wr.nil x1⟩
      · obtain ⟨v, h1, h2⟩ := zip_at q hy
        refine ⟨v, ?_, VR.tr T1 _ _ h2⟩
        refine lookup_nodup ?_ (List.mem_reverse.mpr h1)
        rw [List.map_reverse]
        refine List.pairwise_reverse.mpr (List.Pairwise.imp (fun h => Ne.symm h) ?_)
        rw [List.map_fst_zip (by rw [List.length_map, hlen]; exact Nat.le_refl _)]
        exact ok.nd
      · obtain ⟨_, o', e', _⟩ := S.own _ hm
        rw [hn] at e'; cases e'
      · rw [← hL]; exact S.lowle
    · rw [henvL] at x2 I2
      have x12 : Ev [] s ρ s₂ ρ₂ := x1.trans_new x2 fun a ha => by rw [List.mem_singleton.mp ha]; exact hn
      obtain ⟨f, m'⟩ := fm
      cases f
      · obtain ⟨rfl, rfl⟩ := ret_some e2
        have : fl = .next := f2
        subst this
        exact hR _ _ _ x12 I2.S VR.ofNone
      · cases e2
      · cases e2
      · obtain ⟨rfl, rfl⟩ := ret_some e2
        obtain ⟨u, rfl, q2⟩ := f2
        exact hR _ _ _ x12 I2.S q2

theorem snd_class (B : Bs K n₀) {C : Or} {a f : Addr} {as : List V} {r : V} {vs : List Value} {R : Result → Shared → Prop} (hC : SndK prog w K n₀ (A.under (.builtin "type.__call__" ⟨.ref a :: vs, []⟩)) C)
    (hm : makesIn K a = true) (hi : findIn K (.ref a) "__init__" = some (some (.ref f))) (hf : isFn K (.ref f) = true)
    (e : bnd (nw (.inst a [])) (fun self => bnd (C f (self :: as)) fun r => match r with | .none => ret self | _ => stuck) σ = some (r, σ')) (S : St prog w K n₀ s ρ σ) (T : Bt s.heap) (q : VRs ρ n₀ s.heap as vs)
    (hR : ∀ s' ρ' v, Ev [] s ρ s' ρ' → St prog w K n₀ s' ρ' σ' → VR ρ' n₀ s'.heap r v → R (.ok (.ret v)) s') : codeAny (model prog w) A (.call (.ref a) ⟨vs, []⟩) R s := by
  refine bnd_el e fun self σ₁ e1 e2 => ?_
  cases e1
  refine bnd_el e2 fun r' σ₂ e3 e4 => ?_
  cases r' <;> first | (exact (stuck_some e4).elim) | skip
  obtain ⟨rfl, rfl⟩ := ret_some e4
  have X := S.kin
  obtain ⟨hh, g, d, t, os⟩ := s
  refine make_core (makes_of X hm) (looks_findIn X hi) (fun self => bind_fn X self (eq_of_beq hf)) (.inl rfl) ?_
  have k : ∀ b o, hh.get? b = some o → ((hh.push emptyDict).push (instObj a hh.objs.size)).get? b = some o := fun b o e => Heap.get?_push_of_some _ (Heap.get?_push_of_some _ e)
  have hsz : (hh.push emptyDict).objs.size = hh.objs.size + 1 := Heap.size_push ..
  have g1 : ((hh.push emptyDict).push (instObj a hh.objs.size)).get? hh.objs.size = some emptyDict := Heap.get?_push_of_some _ (Heap.get?_push_size _ rfl)
  have g2 : ((hh.push emptyDict).push (instObj a hh.objs.size)).get? (hh.objs.size + 1) = some (instObj a hh.objs.size) := by rw [← hsz]; exact Heap.get?_push_size _ rfl
  have x0 : Ev [] (⟨hh, g, d, t, os⟩ : Shared) ρ ⟨(hh.push emptyDict).push (instObj a hh.objs.size), g, d, t, os⟩ ρ := ⟨List.prefix_refl _, fun zz h => .inl h, fun a o e => ⟨o, k a o e⟩, fun a o zz zz e => k a o e, rfl, rfl, rfl⟩
  obtain ⟨S1, x1⟩ := S.new B (p := (hh.objs.size + 1, some hh.objs.size)) (o := .inst a []) x0 Wr.nil (fun b zz o e => k b o e) (fun b hb => by
    have lw : n₀ ≤ hh.objs.size := S.lowle
    simp at hb
    rcases hb with rfl | rfl
    · exact ⟨⟨Nat.le_succ_of_le lw, Heap.get?_none_of_le (Nat.le_succ _)⟩, _, g2, not_frz_inst⟩
    · exact ⟨⟨lw, Heap.get?_none_of_le (Nat.le_refl _)⟩, _, g1, not_frz_dict⟩) (by simp) ⟨hh.objs.size, [], 0, rfl, g2, g1, rfl⟩
  have T1 := T.ev B S Wr.nil x1
  have hself : VR (ρ ++ [(hh.objs.size + 1, some hh.objs.size)]) n₀ ((hh.push emptyDict).push (instObj a hh.objs.size)) (.ref σ.length) (.ref (hh.objs.size + 1)) := by
    exact ⟨(hh.objs.size + 1, some hh.objs.size), by rw [← S.len]; simp, rfl⟩
  refine hC f (.ref σ.length :: as) _ _ _ _ _ _ _ e3 S1 T1 (VRs.cons hself (VRs.tr (x1.tr S Wr.nil) _ _ q)) fun s' ρ' v x2 S2 q2 => ?_
  change _ = _ at q2
  subst q2
  exact ⟨rfl, hR _ _ _ (x1.trans x2) S2 (VR.tr (x2.tr S1 Wr.nil) _ _ hself)⟩

theorem frames_made (a : Addr) (vs : List Value) : (Code.builtin "type.__call__" ⟨.ref a :: vs, []⟩).frames = 0 := by
  kernel_rfl
theorem under_made (A : Around) (a : Addr) (vs : List Value) : (A.under (.builtin "type.__call__" ⟨.ref a :: vs, []⟩)).depth = A.depth + 1 ∧ (A.under (.builtin "type.__call__" ⟨.ref a :: vs, []⟩)).units = A.units + 1 := by
  have h1 : (Code.builtin "type.__call__" ⟨.ref a :: vs, []⟩).isGuard = false := by show guardIds.contains "type.__call__" = false; decide +kernel
  have h2 : (Code.builtin "type.__call__" ⟨.ref a :: vs, []⟩).isCreation = true := by kernel_rfl
  have h3 : (Code.builtin "type.__call__" ⟨.ref a :: vs, []⟩).isCaller = false := by kernel_rfl
  refine ⟨?_, ?_⟩
  · show A.depth + Code.weight _ = _
    unfold Code.weight
    rw [frames_made, h1, h2, h3]; rfl
  · show A.units + Code.cUnits _ = _
    have : Code.cUnits (Code.builtin "type.__call__" ⟨.ref a :: vs, []⟩) = 1 + 3 * (Code.builtin "type.__call__" ⟨.ref a :: vs, []⟩).frames := rfl
    rw [this, frames_made]

set_option tactic.hygienic true in
theorem snd_callN (B : Bs K n₀) (D : SndD prog w K n₀) : ∀ (d : Nat) (A : Around), A.handled = none → A.depth + d < recursionLimit → A.units + 4 * d + 20 < cLine → SndK prog w K n₀ A (callN K d)
  | 0, A, _, _, _ => fun _ _ _ _ _ _ _ _ _ e => (by cases e)
  | d + 1, A, hh, hd, hu => by
    intro a as σ r σ' s ρ vs R e S T q hR
    have e : callB K (callN K d) a as σ = some (r, σ') := e
    delta callB at e
    generalize hk : K.lookup a = z at e
    rcases z with _ | ⟨oc, od, dt, osl⟩
    · exact (stuck_some e).elim
    cases dt <;> first | (exact (stuck_some e).elim) | skip
    case func fd =>
      refine grd_el e fun g e1 => ?_
      generalize hb : fd.body = z at e1
      cases z with
      | expr _ => exact (stuck_some e1).elim
      | stmts b => exact snd_func B D (fun env => snd_callN B D d _ hh (by show A.depth + 1 + d < _; lia) (by show A.units + 3 + 4 * d + 20 < _; lia)) hh (by lia) (by lia) hk (okFd_of g) hb e1 S T q hR
    case cls cd =>
      dsimp only at e
      generalize hm : makesIn K a = mz at e
      generalize hi : findIn K (.ref a) "__init__" = iz at e
      cases mz with
      | false => cases e
      | true =>
        rcases iz with _ | _ | v
        · cases e
        · cases e
        · cases v <;> first | (cases e; done) | skip
          rename_i f
          refine grd_el e fun g e1 => ?_
          refine snd_class B (snd_callN B D d _ ?_ ?_ ?_) hm hi g e1 S T q hR
          · exact hh
          · rw [(under_made A a vs).1]; lia
          · rw [(under_made A a vs).2]; lia
end
end Mine
end P_A24
section P_A25
open PySem PySem.Calls PySem.SeqAt PyProof.Rows PySem.W
set_option autoImplicit false
set_option Elab.async false
set_option maxRecDepth 100000
namespace Mine
section
variable {prog : Program} {w : World} {A : Around} {E : Value → Shared → Prop} {s : Shared} {κ : Type} [DecidableEq κ] {knd : KeyKind prog w κ}

theorem wpAny_put {d : Addr} {kvs : List (κ × Value)} {k : κ} {key v : Value} {Q : Unit → Shared → Prop} (hkey : knd.is k key = true) (hm : s.heap.DictOf knd d kvs)
    (hQ : ∀ h', h'.DictOf knd d (stored kvs k v) → Heap.SameBut d s.heap h' → Q () { s with heap := h' }) (hsz : kvs.length ≤ sizeLine) : wpAny (model prog w) A (dictPut d (knd.hash k) key v) Q E s := by
  obtain ⟨o, es, ep, ho, hc, hd, hk, hp, hn⟩ := hm
  have hes : es.size ≤ sizeLine := by
    have e1 := hp.length
    have e2 : es.toList.length = es.size := by simp
    lia
  unfold dictPut
  refine wpAny_bind (wpAny_dictFind_of hkey ho hd hk ?_)
  have hidx : (es.findIdx? fun e => knd.is k e.key) = kvs.findIdx? fun kv => decide (kv.1 = k) := by
    rw [← hp.findIdx k]; obtain ⟨l⟩ := es; simp
  cases hi : es.findIdx? fun e => knd.is k e.key with
  | some i =>
    refine wpAny_updateDict ho hd (hQ _ ⟨_, _, ep, Heap.get?_update_self _ ho (Obj.isFreed_of_dict (Obj.data_mapDict hd _)), hc.mapDict _, Obj.data_mapDict hd _, hk.modify _ _, ?_, ?_⟩ (Heap.SameBut.update ..))
    · rw [stored, if_pos (any_of_findIdx_some (hidx ▸ hi))]
      have hl : (es.toList.findIdx? fun e => knd.is k e.key) = some i := by rw [← hi]; obtain ⟨l⟩ := es; simp
      have := hp.modify hn hl v
      obtain ⟨l⟩ := es
      simpa using this
    · rw [stored, if_pos (any_of_findIdx_some (hidx ▸ hi)), keys_map_store]; exact hn
  | none =>
    have hnot : k ∉ kvs.map (·.1) := not_mem_of_findIdx_none (hidx ▸ hi)
    have hany : ¬ (kvs.any fun kv => decide (kv.1 = k)) = true := by
      rw [List.any_eq_true]; rintro ⟨kv, hkv, he⟩
      exact hnot (List.mem_map.mpr ⟨kv, hkv, of_decide_eq_true he⟩)
    refine wpAny_updateDictKeys (hz := hes) ho hd (hQ _ ⟨_, _, ep + 1, Heap.get?_update_self _ ho (Obj.isFreed_of_dict (Obj.data_mapDictKeys hd _)), hc.mapDictKeys _, Obj.data_mapDictKeys hd _, hk.push hkey _, ?_, ?_⟩ (Heap.SameBut.update ..))
    · rw [stored, if_neg hany]
      have := hp.append hkey (knd.hash k) v
      obtain ⟨l⟩ := es
      simpa using this
    · rw [stored, if_neg hany, List.map_append, List.nodup_append]
      refine ⟨hn, by simp, ?_⟩
      intro a ha b hb
      simp only [List.map_cons, List.map_nil, List.mem_singleton] at hb
      subst hb
      exact fun e => hnot (e ▸ ha)

theorem dict_self : isSubtype (.type "dict") (.type "dict") = pure true := by rw [isSubtype_type]; kernel_rfl

theorem wpAny_mergeMap {d o : Addr} {kvs more : List (κ × Value)} {Q : Unit → Shared → Prop} (hdo : d ≠ o) (hoS : (o == sysModules) = false) (hne : kvs ≠ [])
    (hd : s.heap.DictOf knd d kvs) (ho : s.heap.DictOf knd o more)
    (hQ : ∀ h', h'.DictOf knd d (merged kvs more) → Heap.SameBut d s.heap h' → Q () { s with heap := h' })
    (hsz : kvs.length + more.length ≤ sizeLine) :
    wpAny (model prog w) A (mergeMapping d (.ref o) false) Q E s := by
  obtain ⟨od, esd, epd, hod, hcd, hdd, hkd, hpd, hnd⟩ := id hd
  obtain ⟨oo, eso, epo, hoo, hco, hdo', hko, hpo, hno⟩ := id ho
  have hT := ho.typeIs (s := s)
  have hlen : more.length = eso.size := by rw [← hpo.length]; simp
  unfold mergeMapping
  refine wpAny_bind (wpAny_isInstance (b := true) hT dict_self ?_)
  dsimp only
  rw [if_pos rfl]
  refine wpAny_bind (wpAny_specialOf hT PySem.F.slot_dict_iter.lookup ?_)
  refine wpAny_bind (wpAny_pure ?_)
  have hb : (some (Value.builtin "dict.__iter__") == some (Value.builtin "dict.__iter__")) = true := by decide
  rw [hb]
  dsimp only
  rw [if_neg (by rw [hoS]; exact Bool.false_ne_true)]
  refine wpAny_bind (wpAny_dictEntries hod hdd ?_)
  have hemp : esd.isEmpty = false := by
    cases h : esd.isEmpty with
    | false => rfl
    | true =>
      have h0 : esd = #[] := Array.isEmpty_iff.mp h
      have := hpd.length
      rw [h0] at this
      exact absurd (List.length_eq_zero_iff.mp (by simpa using this.symm)) hne
  rw [if_neg (by rw [hemp]; exact Bool.false_ne_true)]
  refine wpAny_bind (wpAny_dictEntries hoo hdo' ?_)
  refine wpAny_bind (wpAny_dictEpoch hoo hdo' ?_)
  refine wpAny_bind ?_
  rw [List.range_eq_range']
  refine wpAny_forIn_list _
      (fun rest zz s' => ∃ h' i, s' = { s with heap := h' } ∧ rest = List.range' i (eso.size - i) ∧ i ≤ eso.size ∧ h'.DictOf knd d (merged kvs (more.take i)) ∧ h'.get? o = some oo ∧ Heap.SameBut d s.heap h')
      _ ?_ ?_ _ _ ⟨s.heap, 0, rfl, by simp, Nat.zero_le _, by simpa [merged] using hd, hoo, Heap.SameBut.refl _ _⟩
  · rintro x rest b s' ⟨h', i, rfl, hr, hi, hd', hoo', hs'⟩
    have hlt : i < eso.size := by
      rcases Nat.lt_or_ge i eso.size with h | h
      · exact h
      · rw [Nat.sub_eq_zero_of_le h] at hr; simp at hr
    obtain ⟨rfl, hrest⟩ : x = i ∧ rest = List.range' (i + 1) (eso.size - (i + 1)) := by
      have e : eso.size - i = (eso.size - (i + 1)) + 1 := by lia
      rw [e, List.range'_succ] at hr
      injection hr with h1 h2
      exact ⟨h1, h2⟩
    refine wpAny_bind (wpAny_dictEntries hoo' hdo' ?_)
    rw [Array.getElem?_eq_getElem hlt]
    obtain ⟨kv, hkv⟩ : ∃ kv, more[x]? = some kv := ⟨more[x]'(by rw [hlen]; exact hlt), List.getElem?_eq_getElem _⟩
    obtain ⟨k, v⟩ := kv
    obtain ⟨hkey, hval⟩ := hpo.get? (e := eso[x]) (by simp [hlt]) hkv
    obtain ⟨k', hkey', hhash⟩ := hko eso[x] (Array.getElem_mem hlt)
    obtain rfl : k' = k := knd.inj _ _ _ hkey' hkey
    dsimp only
    rw [if_neg Bool.false_ne_true]
    rw [hhash, hval]
    have hmx : (merged kvs (more.take x)).length ≤ sizeLine := by
      have e1 := merged_length_le kvs (more.take x)
      have e2 : (more.take x).length ≤ more.length := by rw [List.length_take]; lia
      lia
    refine wpAny_bind (wpAny_holding (wpAny_put (hsz := hmx) hkey hd' fun h'' hd'' hs'' => ?_))
    have hoo'' : h''.get? o = some oo := (hs''.2 o (Ne.symm hdo)).trans hoo'
    refine wpAny_bind (wpAny_dictEpoch hoo'' hdo' ?_)
    rw [if_neg (by simp)]
    exact wpAny_pure ⟨h'', x + 1, rfl, hrest, hlt, by rw [merged_take_succ kvs more x (k', v) hkv]; exact hd'', hoo'', hs'.trans hs''⟩
  · rintro b s' ⟨h', i, rfl, hr, hi, hd', hoo', hs'⟩
    have hin : i = eso.size := by
      rcases Nat.lt_or_ge i eso.size with h | h
      · have e : eso.size - i = (eso.size - (i + 1)) + 1 := by lia
        rw [e, List.range'_succ] at hr; exact nomatch hr
      · exact Nat.le_antisymm hi h
    refine wpAny_pure (hQ h' ?_ hs')
    rw [hin, ← hlen, List.take_length] at hd'; exact hd'
end
end Mine
end P_A25
section P_A26
open PySem PySem.Calls PySem.SeqAt PyProof.Rows PySem.W
set_option autoImplicit false
set_option Elab.async false
set_option maxRecDepth 100000
namespace Mine
section
variable {prog : Program} {w : World} {A : Around} {E : Value → Shared → Prop} {s : Shared}

noncomputable def SVs : List (Str × Str) → List (Str × Value) → Prop
  | [], l => l = []
  | p :: r, l => match l with
    | [] => False
    | q :: l => q.1 = p.1 ∧ (∃ t, q.2 = .str p.2 t) ∧ SVs r l
theorem SVs.append : ∀ {a b : List (Str × Str)} {x y : List (Str × Value)}, SVs a x → SVs b y → SVs (a ++ b) (x ++ y)
  | [], b, x, y, h1, h2 => by have : x = [] := h1; subst this; exact h2
  | _ :: _, b, [], y, h1, _ => h1.elim
  | p :: a, b, q :: x, y, h1, h2 => ⟨h1.1, h1.2.1, SVs.append h1.2.2 h2⟩
theorem SVs.keys : ∀ {a : List (Str × Str)} {x : List (Str × Value)}, SVs a x → x.map (·.1) = a.map (·.1)
  | [], x, h => by have : x = [] := h; subst this; rfl
  | _ :: _, [], h => h.elim
  | p :: a, q :: x, h => by rw [List.map_cons, List.map_cons, h.1, SVs.keys h.2.2]
theorem SVs.length {a : List (Str × Str)} {x : List (Str × Value)} (h : SVs a x) : x.length = a.length := by
  have := congrArg List.length h.keys
  simpa using this
theorem SVs.pr {ρ : Rho} {n₀ : Nat} {h : Heap} : ∀ {a : List (Str × Str)} {x : List (Str × Value)}, SVs a x → PR (VR ρ n₀ h) (dispO a) x
  | [], x, q => by have : x = [] := q; subst this; exact rfl
  | _ :: _, [], q => q.elim
  | p :: a, y :: x, q => by
    obtain ⟨q1, ⟨t, q2⟩, q3⟩ := q
    exact ⟨q1.symm, by rw [q2]; exact VR.ofStr, SVs.pr q3⟩

/-- a tree that makes this text -/
noncomputable def TOk (prog : Program) (w : World) (t : Sem Value) (x : Str) : Prop := ∀ (A : Around) (E : Value → Shared → Prop) (s : Shared) (Q : Value → Shared → Prop), (∀ tok k, Q (.str x tok) { s with toks := k }) → wpAny (model prog w) A t Q E s
noncomputable def PTs (prog : Program) (w : World) : List (Sem Value × Sem Value) → List (Str × Str) → Prop
  | [], l => l = []
  | c :: r, l => match l with
    | [] => False
    | p :: l => TOk prog w c.1 p.1 ∧ TOk prog w c.2 p.2 ∧ PTs prog w r l
theorem PTs.append : ∀ {a b : List (Sem Value × Sem Value)} {x y : List (Str × Str)}, PTs prog w a x → PTs prog w b y → PTs prog w (a ++ b) (x ++ y)
  | [], b, x, y, h1, h2 => by have : x = [] := h1; subst this; exact h2
  | _ :: _, b, [], y, h1, _ => h1.elim
  | p :: a, b, q :: x, y, h1, h2 => ⟨h1.1, h1.2.1, PTs.append h1.2.2 h2⟩
theorem PTs.length : ∀ {a : List (Sem Value × Sem Value)} {x : List (Str × Str)}, PTs prog w a x → a.length = x.length
  | [], x, h => by have : x = [] := h; subst this; rfl
  | _ :: _, [], h => h.elim
  | p :: a, q :: x, h => by simp [PTs.length h.2.2]

theorem stored_new {acc : List (Str × Value)} {k : Str} {v : Value} (h : k ∉ acc.map (·.1)) : stored acc k v = acc ++ [(k, v)] := by
  have : ¬ (acc.any fun kv => decide (kv.1 = k)) = true := by
    rw [List.any_eq_true]; rintro ⟨kv, hkv, he⟩
    exact h (List.mem_map.mpr ⟨kv, hkv, of_decide_eq_true he⟩)
  unfold stored
  rw [if_neg this]
theorem merged_new : ∀ {more acc : List (Str × Value)}, ((acc ++ more).map (·.1)).Nodup → merged acc more = acc ++ more
  | [], acc, _ => by simp [merged]
  | kv :: more, acc, h => by
    have h1 : kv.1 ∉ acc.map (·.1) := fun hm => by
      rw [List.map_append, List.nodup_append] at h
      exact h.2.2 kv.1 hm kv.1 (by simp) rfl
    have h2 := merged_new (more := more) (acc := acc ++ [(kv.1, kv.2)]) (by simpa using h)
    show merged (stored acc kv.1 kv.2) more = _
    rw [stored_new h1, h2]
    simp

theorem pairs_eval : ∀ {run : List (Sem Value × Sem Value)} {ps : List (Str × Str)} {s : Shared} {R : List (Value × Value) → Shared → Prop}, PTs prog w run ps →
    (∀ vs kvs k, Carries (PySem.strKind prog w) vs kvs → SVs ps kvs → R vs { s with toks := k }) → wpAny (model prog w) A (evalPairs run) R E s
  | [], ps, s, R, h, hR => by
    have : ps = [] := h
    subst this
    exact evalPairs_nil (hR [] [] s.toks trivial rfl)
  | _ :: _, [], s, R, h, hR => h.elim
  | c :: run, p :: ps, s, R, h, hR => by
    refine evalPairs_cons (h.1 _ _ _ _ fun t1 k1 => h.2.1 _ _ _ _ fun t2 k2 => pairs_eval h.2.2 fun vs kvs k hc hs => ?_)
    exact hR _ ((p.1, .str p.2 t2) :: kvs) k ⟨PySem.strKind_is prog w p.1 t1, rfl, hc⟩ ⟨rfl, ⟨_, rfl⟩, hs⟩

theorem loopS {d : Addr} {Q : PUnit → Shared → Prop} : ∀ {run : List (Sem Value × Sem Value)} {ps done : List (Str × Str)} {acc : List (Str × Value)} {s : Shared}, PTs prog w run ps → ((done ++ ps).map (·.1)).Nodup → (done ++ ps).length ≤ 1000 →
    s.heap.DictOf (PySem.strKind prog w) d acc → SVs done acc →
    (∀ h' k kvs, Heap.SameBut d s.heap h' → h'.DictOf (PySem.strKind prog w) d kvs → SVs (done ++ ps) kvs → Q PUnit.unit { s with heap := h', toks := k }) →
    wpAny (model prog w) A (forIn run PUnit.unit fun (x : Sem Value × Sem Value) (_ : PUnit) => (do
      let kv ← x.1
      let vv ← holding [kv] x.2
      holding [kv, vv] (dictSet d kv vv)
      pure (ForInStep.yield PUnit.unit) : Sem (ForInStep PUnit))) Q E s
  | [], ps, done, acc, s, h, hn, hl, hd, hs, hQ => by
    have : ps = [] := h
    subst this
    rw [List.forIn_nil]
    exact wpAny_pure (hQ _ s.toks acc (Heap.SameBut.refl _ _) hd (by rw [List.append_nil]; exact hs))
  | _ :: _, [], done, acc, s, h, _, _, _, _, _ => h.elim
  | c :: run, p :: ps, done, acc, s, h, hn, hl, hd, hs, hQ => by
    rw [List.forIn_cons]
    have hk : p.1 ∉ acc.map (·.1) := fun hm => by
      rw [hs.keys] at hm
      rw [List.map_append, List.nodup_append] at hn
      exact hn.2.2 p.1 hm p.1 (by simp) rfl
    have hz : acc.length ≤ sizeLine := by
      rw [hs.length, sizeLine_eq]
      simp at hl
      lia
    refine wpAny_bind (wpAny_bind (h.1 _ _ _ _ fun t1 k1 => ?_))
    refine wpAny_bind (wpAny_holding (h.2.1 _ _ _ _ fun t2 k2 => ?_))
    refine wpAny_bind (wpAny_holding (wpAny_dictSet_pairs (hsz := hz) (PySem.strKind_is prog w p.1 t1) hd fun h' hd' hs' => wpAny_pure ?_))
    rw [stored_new hk] at hd'
    have e : done ++ p :: ps = (done ++ [p]) ++ ps := by simp
    rw [e] at hn hl hQ
    exact loopS h.2.2 hn hl hd' (hs.append ⟨rfl, ⟨_, rfl⟩, rfl⟩) fun h'' k kvs a1 a2 a3 => hQ h'' k kvs (hs'.trans a1) a2 a3

theorem nodup_nil (more : List (Str × Value)) (h : (more.map (·.1)).Nodup) : merged [] more = more := by
  rw [merged_new (by simpa using h)]; simp

theorem subS {run : List (Sem Value × Sem Value)} {ps : List (Str × Str)} {Q : Addr → Shared → Prop} (hp : PTs prog w run ps) (hn : (ps.map (·.1)).Nodup) (hl : ps.length ≤ 1000)
    (hQ : ∀ h' k kvs, (∀ b o, s.heap.get? b = some o → h'.get? b = some o) → h'.DictOf (PySem.strKind prog w) s.heap.objs.size kvs → SVs ps kvs → Q s.heap.objs.size { s with heap := h', toks := k }) : wpAny (model prog w) A (subDict run) Q E s := by
  have g0 : (s.heap.push { cls := .type "dict", data := .dict #[] }).get? s.heap.objs.size = some ⟨.type "dict", none, .dict #[] 0, #[]⟩ := Heap.get?_push_size _ rfl
  have kp : ∀ {h' : Heap}, Heap.SameBut s.heap.objs.size (s.heap.push { cls := .type "dict", data := .dict #[] }) h' → ∀ b o, s.heap.get? b = some o → h'.get? b = some o := fun hs b o e =>
    (hs.2 b (Nat.ne_of_lt (Heap.lt_size e))).trans (Heap.get?_push_of_some _ e)
  by_cases h15 : run.length ≤ 15
  · refine wpAny_subDict (knd := PySem.strKind prog w) h15 (pairs_eval hp fun vs kvs k hc hs => ⟨kvs, hc, dictOf_empty g0, fun h' hd hb => ?_⟩)
    rw [nodup_nil kvs (by rw [hs.keys]; exact hn)] at hd
    exact hQ h' _ kvs (kp hb) hd hs
  · unfold subDict
    refine wpAny_bind (wpAny_alloc ?_)
    refine wpAny_bind (wpAny_holding ?_)
    rw [if_neg h15]
    refine wpAny_bind (wpAny_rule ?_)
    refine wpAny_bind ?_
    refine loopS (done := []) (acc := []) hp (by simpa using hn) (by simpa using hl) (dictOf_empty g0) rfl fun h' k kvs a1 a2 a3 => ?_
    exact wpAny_pure (wpAny_pure (hQ h' k kvs (kp a1) a2 a3))
end
end Mine
end P_A26
section P_A27
open PySem PySem.Calls PySem.SeqAt PyProof.Rows PySem.W
set_option autoImplicit false
set_option Elab.async false
set_option maxRecDepth 100000
namespace Mine
section
variable {prog : Program} {w : World} {K : Frag} {n₀ : Nat} {A : Around} {E : Value → Shared → Prop} {s : Shared}

noncomputable def MainOk (prog : Program) (w : World) (s : Shared) (h' : Heap) (done : List (Str × Str)) : Option Addr → Prop
  | none => done = [] ∧ h' = s.heap
  | some d => d = s.heap.objs.size ∧ done ≠ [] ∧ ∃ kvs, h'.DictOf (PySem.strKind prog w) d kvs ∧ SVs done kvs
/-- the state of the display -/
noncomputable def DisI (prog : Program) (w : World) (s : Shared) (l : List (Str × Str)) (more : List (Sem Value × Sem Value)) (b : Option Addr × List (Sem Value × Sem Value)) (s' : Shared) : Prop :=
  ∃ h' k done cur left, s' = { s with heap := h', toks := k } ∧ (∀ a o, s.heap.get? a = some o → h'.get? a = some o) ∧ PTs prog w more left ∧ PTs prog w b.2 cur ∧ done ++ cur ++ left = l ∧ b.2.length < 17 ∧ MainOk prog w s h' done b.1

theorem nodup_sub {a b c : List (Str × Str)} (h : ((a ++ b ++ c).map (·.1)).Nodup) : ((a ++ b).map (·.1)).Nodup ∧ (b.map (·.1)).Nodup := by
  rw [List.map_append, List.map_append, List.nodup_append] at h
  refine ⟨by rw [List.map_append]; exact h.1, ?_⟩
  exact (List.nodup_append.mp h.1).2.1

/-- a second run is merged in -/
theorem mergeS {run : List (Sem Value × Sem Value)} {done cur : List (Str × Str)} {d : Addr} {kvs : List (Str × Value)} {s₁ : Shared} {Q : Option Addr → Shared → Prop} {f : Value → Sem Unit} (hsys : ∀ a, s₁.heap.objs.size = a → (a == sysModules) = false)
    (hp : PTs prog w run cur) (hn : ((done ++ cur).map (·.1)).Nodup) (hl : (done ++ cur).length ≤ 1000) (h0 : done ≠ []) (hd : s₁.heap.DictOf (PySem.strKind prog w) d kvs) (hs : SVs done kvs)
    (hQ : ∀ h' k kvs', (∀ b o, b ≠ d → s₁.heap.get? b = some o → h'.get? b = some o) → h'.DictOf (PySem.strKind prog w) d kvs' → SVs (done ++ cur) kvs' → Q (some d) { s₁ with heap := h', toks := k }) :
    wpAny (model prog w) A (do
      let sub ← holding [.ref d] (subDict run)
      (holding [.ref d, .ref sub] (mergeMapping d (.ref sub) false)).onRaise f
      pure (some d)) Q E s₁ := by
  have hn2 : (cur.map (·.1)).Nodup := by rw [List.map_append] at hn; exact (List.nodup_append.mp hn).2.1
  refine wpAny_bind (wpAny_holding (subS hp hn2 (by simp at hl; lia) fun h' k kvs2 a1 a2 a3 => ?_))
  have hne : d ≠ s₁.heap.objs.size := by
    obtain ⟨o, _, _, e, _⟩ := hd
    exact Nat.ne_of_lt (Heap.lt_size e)
  have hd' : h'.DictOf (PySem.strKind prog w) d kvs := let ⟨o, es, ep, e, r⟩ := hd; ⟨o, es, ep, a1 _ _ e, r⟩
  have h0' : kvs ≠ [] := fun h => h0 (by
    subst h
    have := hs.length
    exact List.length_eq_zero_iff.mp (by simpa using this.symm))
  refine wpAny_bind (wpAny_onRaise (wpAny_holding (wpAny_mergeMap hne (hsys _ rfl) h0' hd' a2 (fun h'' b1 b2 => wpAny_pure ?_) ?_)))
  · rw [merged_new (by rw [List.map_append, hs.keys, a3.keys, ← List.map_append]; exact hn)] at b1
    exact hQ h'' k _ (fun b o hb e => (b2.2 b hb).trans (a1 b o e)) b1 (hs.append a3)
  · rw [hs.length, a3.length, sizeLine_eq]
    simp at hl
    lia

theorem flushS {main : Option Addr} {run : List (Sem Value × Sem Value)} {done cur left l : List (Str × Str)} {h' : Heap} {k : Nat} {R : Option Addr → Shared → Prop} {f : Addr → Value → Sem Unit} (hsys : ∀ a, n₀ ≤ a → (a == sysModules) = false) (hlow : ∀ h'' : Heap, (∀ a o, s.heap.get? a = some o → h''.get? a = some o) → n₀ ≤ h''.objs.size)
    (kp : ∀ a o, s.heap.get? a = some o → h'.get? a = some o) (hc : PTs prog w run cur) (hr : run ≠ []) (e : done ++ cur ++ left = l) (hn : (l.map (·.1)).Nodup) (hl : l.length ≤ 1000)
    (hd : MainOk prog w s h' done main)
    (hR : ∀ h'' k' kvs, (∀ a o, s.heap.get? a = some o → h''.get? a = some o) → h''.DictOf (PySem.strKind prog w) s.heap.objs.size kvs → SVs (done ++ cur) kvs → R (some s.heap.objs.size) { s with heap := h'', toks := k' }) :
    wpAny (model prog w) A (if run.isEmpty = true then pure main else match main with
      | none => (do
        let x ← subDict run
        pure (some x))
      | some d => (do
        let sub ← holding [.ref d] (subDict run)
        (holding [.ref d, .ref sub] (mergeMapping d (.ref sub) false)).onRaise (f d)
        pure (some d))) R E { s with heap := h', toks := k } := by
  have he : run.isEmpty = false := by cases run <;> first | rfl | exact absurd rfl hr
  rw [if_neg (by rw [he]; exact Bool.false_ne_true)]
  rw [← e] at hn hl
  obtain ⟨n1, n2⟩ := nodup_sub hn
  have hl' : (done ++ cur).length ≤ 1000 := by simp at hl ⊢; lia
  cases main with
  | none =>
    obtain ⟨rfl, rfl⟩ := hd
    refine wpAny_bind (subS hc n2 (by simpa using hl') fun h'' k' kvs a1 a2 a3 => ?_)
    exact wpAny_pure (hR h'' k' kvs a1 a2 a3)
  | some d =>
    obtain ⟨rfl, h0, kvs, hk, hs⟩ := hd
    refine mergeS (fun a ha => hsys a ?_) hc n1 hl' h0 hk hs fun h'' k' kvs' b1 b2 b3 => hR h'' k' kvs' (fun b o eb => b1 b o (Nat.ne_of_lt (Heap.lt_size eb)) (kp b o eb)) b2 b3
    rw [← ha]
    exact hlow h' kp

theorem dis_all (hsys : ∀ a, n₀ ≤ a → (a == sysModules) = false) (hlow : ∀ h'' : Heap, (∀ a o, s.heap.get? a = some o → h''.get? a = some o) → n₀ ≤ h''.objs.size) {items : List (Sem Value × Sem Value)} {l : List (Str × Str)} {Q : Value → Shared → Prop} (hp : PTs prog w items l) (hne : l ≠ []) (hn : (l.map (·.1)).Nodup) (hl : l.length ≤ 1000)
    (hQ : ∀ h' k kvs, (∀ b o, s.heap.get? b = some o → h'.get? b = some o) → h'.DictOf (PySem.strKind prog w) s.heap.objs.size kvs → SVs l kvs → Q (.ref s.heap.objs.size) { s with heap := h', toks := k }) :
    wpAny (model prog w) A (dictDisplay (items.map fun p => (some p.1, p.2))) Q E s := by
  unfold dictDisplay
  dsimp only
  refine wpAny_bind (wpAny_forIn_list _ (fun rest b s' => ∃ more, rest = more.map (fun (p : Sem Value × Sem Value) => (some p.1, p.2)) ∧ DisI prog w s l more b s') _ ?_ ?_ _ _ ⟨items, rfl, s.heap, s.toks, [], [], l, rfl, fun zz zz e => e, hp, rfl, rfl, by simp, rfl, rfl⟩)
  · rintro x rest ⟨main, run⟩ s' ⟨more, hr, h', k, done, cur, left, rfl, kp, hm, hc, e, hlt, hd⟩
    cases more with
    | nil => simp at hr
    | cons c more =>
      rw [List.map_cons] at hr
      obtain ⟨rfl, rfl⟩ := List.cons.inj hr
      cases left with
      | nil => exact hm.elim
      | cons p left =>
        have hc' : PTs prog w (run ++ [(c.1, c.2)]) (cur ++ [p]) := PTs.append hc ⟨hm.1, hm.2.1, rfl⟩
        have e' : done ++ (cur ++ [p]) ++ left = l := by rw [← e]; simp
        dsimp only
        by_cases h17 : (run ++ [(c.1, c.2)]).length = 17
        · rw [if_pos (by simpa using h17)]
          refine wpAny_bind (flushS (f := fun d x => do let _ ← holding [.ref d, x] (runValue (.builtin "proto.let_go" {})); pure ()) hsys hlow kp hc' (by simp) e' hn hl hd fun h'' k' kvs a1 a2 a3 => ?_)
          exact wpAny_pure ⟨more, rfl, h'', k', done ++ (cur ++ [p]), [], left, rfl, a1, hm.2.2, rfl, (by rw [List.append_nil]; exact e'), (by simp), rfl, (by simp), kvs, a2, a3⟩
        · rw [if_neg (by simpa using h17)]
          exact wpAny_pure ⟨more, rfl, h', k, done, cur ++ [p], left, rfl, kp, hm.2.2, hc', e', (by simp at h17 hlt ⊢; lia), hd⟩
  · rintro ⟨main, run⟩ s' ⟨more, hr, h', k, done, cur, left, rfl, kp, hm, hc, e, hlt, hd⟩
    have hmn : more = [] := by
      cases more with
      | nil => rfl
      | cons => simp at hr
    subst hmn
    have hlf : left = [] := hm
    subst hlf
    dsimp only
    by_cases hrun : run = []
    · subst hrun
      have hcu : cur = [] := hc
      subst hcu
      cases main with
      | none =>
        obtain ⟨rfl, _⟩ := hd
        exact absurd (by simpa using e.symm) hne
      | some d =>
        obtain ⟨rfl, h0, kvs, hk, hs⟩ := hd
        refine wpAny_bind (wpAny_pure ?_)
        refine wpAny_pure (hQ h' k kvs kp hk ?_)
        have : done = l := by simpa using e
        rw [← this]; exact hs
    · refine wpAny_bind (flushS (f := fun d x => do let _ ← holding [.ref d, x] (runValue (.builtin "proto.let_go" {})); pure ()) hsys hlow kp hc hrun e hn hl hd fun h'' k' kvs a1 a2 a3 => ?_)
      refine wpAny_pure (hQ h'' k' kvs a1 a2 ?_)
      have : done ++ cur = l := by simpa using e
      rw [← this]; exact a3

set_option tactic.hygienic true in
theorem strC_some {e : Expr} {x : Str} (h : strC e = some x) : ∃ k p, e = .Constant (.str x) k p := by
  cases e <;> first | (exact nomatch (show none = some x from h)) | skip
  case Constant c k p => cases c <;> first | (exact nomatch (show none = some x from h)) | (obtain rfl := Option.some.inj h; exact ⟨_, _, rfl⟩)
theorem opt3 {a b : Option Str} {c : Option (List (Str × Str))} {l : List (Str × Str)} (e : (match a, b, c with | some a, some b, some r => some ((a, b) :: r) | _, _, _ => none) = some l) : ∃ x y r, a = some x ∧ b = some y ∧ c = some r ∧ (x, y) :: r = l := by
  cases a <;> first | (cases e; done) | skip
  cases b <;> cases c <;> first | (cases e; done) | exact ⟨_, _, _, rfl, rfl, rfl, Option.some.inj e⟩
theorem tok_const (x : Str) (k : Nat) (p : Pos) (env : Env) : TOk prog w (eval (.Constant (.str x) k p) env) x := fun zz zz s zz h => wpAny_Constant_str (h s.toks _)
theorem dis_items {pos : Pos} {env : Env} : ∀ {ks : List (Option Expr)} {vs : List Expr} {l : List (Str × Str)}, dispP ks vs = some l →
    ∃ items, (evalEachOpt ks env).zip ((evalEach vs env).map fun v => do let x ← v; standAt pos; pure x) = items.map (fun (p : Sem Value × Sem Value) => (some p.1, p.2)) ∧ PTs prog w items l
  | [], [], l, h => by cases h; exact ⟨[], rfl, rfl⟩
  | [], _ :: _, _, h => by cases h
  | none :: _, [], _, h => by cases h
  | some _ :: _, [], _, h => by cases h
  | none :: _, _ :: _, _, h => by cases h
  | some k :: ks, v :: vs, l, h => by
          obtain ⟨a, b, r, h1, h2, h3, rfl⟩ := opt3 (a := strC k) (b := strC v) (c := dispP ks vs) h
          obtain ⟨k1, p1, rfl⟩ := strC_some h1
          obtain ⟨k2, p2, rfl⟩ := strC_some h2
          obtain ⟨items, e1, e2⟩ := dis_items (pos := pos) (env := env) h3
          refine ⟨(eval (.Constant (.str a) k1 p1) env, (do let x ← eval (.Constant (.str b) k2 p2) env; standAt pos; pure x)) :: items, ?_, tok_const a k1 p1 env, ?_, e2⟩
          · rw [List.map_cons, ← e1]; rfl
          · intro A E s Q hq
            exact wpAny_bind (tok_const b k2 p2 env A E s _ fun tok k => wpAny_bind (wpAny_standAt (wpAny_pure (hq tok k))))

theorem nodupS_of : ∀ {l : List (Str × Str)}, nodupS l = true → (l.map (·.1)).Nodup
  | [], _ => .nil
  | p :: r, h => by
    refine and_el (a := !(r.any fun q => p.1 == q.1)) (b := nodupS r) h fun h1 h2 => ?_
    rw [List.map_cons, List.nodup_cons]
    refine ⟨fun hm => ?_, nodupS_of h2⟩
    obtain ⟨q, hq, e⟩ := List.mem_map.mp hm
    rw [Bool.not_eq_true', List.any_eq_false] at h1
    exact h1 q hq (by rw [e]; exact beq_self_eq_true _)

theorem sndD : SndD prog w K n₀ := by
  intro A E env k ks vs pos l σ s ρ Q B h hn hl S hQ
  obtain ⟨items, e1, e2⟩ := dis_items (prog := prog) (w := w) (pos := pos) (env := env) h
  rw [arm_eval_Dict]
  refine wpAny_bind (wpAny_standAt ?_)
  rw [e1]
  have hne : l ≠ [] := fun h0 => by
    subst h0
    cases k with
    | none => cases vs <;> cases h
    | some k => cases vs with
      | nil => cases h
      | cons v vs =>
        obtain ⟨_, _, _, _, _, _, h⟩ := opt3 (a := strC k) (b := strC v) (c := dispP ks vs) h
        exact nomatch h
  have low : ∀ h'' : Heap, (∀ a o, s.heap.get? a = some o → h''.get? a = some o) → n₀ ≤ h''.objs.size := fun h'' kp => let ⟨b, o, e, hb⟩ := S.low; e ▸ Heap.lt_size (kp b o hb)
  refine dis_all (n₀ := n₀) (fun a ha => beq_eq_false_iff_ne.mpr (Nat.ne_of_gt (Nat.lt_of_lt_of_le B.sys ha))) low e2 hne (nodupS_of hn) hl fun h' k' kvs a1 a2 a3 => ?_
  have x : Ev [] s ρ { s with heap := h', toks := k' } ρ := ⟨List.prefix_refl _, fun zz h => .inl h, fun a o e => ⟨o, a1 a o e⟩, fun a o zz zz e => a1 a o e, rfl, rfl, rfl⟩
  obtain ⟨S', x'⟩ := S.new B (p := (s.heap.objs.size, none)) (o := .dstr (dispO l)) x Wr.nil (fun a zz o e => a1 a o e) (fun b hb => by
    simp at hb; subst hb
    exact ⟨⟨S.lowle, Heap.get?_none_of_le (Nat.le_refl _)⟩, nfr_dict (dictOf_obj a2)⟩) (by simp) ⟨rfl, kvs, a2, a3.pr⟩
  refine hQ _ _ _ x' S' ?_
  exact ⟨(s.heap.objs.size, none), by rw [← S.len]; simp, rfl⟩
end
end Mine
end P_A27
section P_A28
open PySem PySem.Calls PySem.SeqAt PyProof.Rows PySem.W
set_option autoImplicit false
set_option Elab.async false
set_option maxRecDepth 100000
namespace Mine
section
variable {prog : Program} {w : World} {K : Frag} {A : Around} {E : Value → Shared → Prop} {s : Shared}

/-- the highest of some live places -/
theorem top_of {h : Heap} : ∀ (l : List Addr), l ≠ [] → (∀ a ∈ l, ∃ o, h.get? a = some o) → ∃ b, b ∈ l ∧ ∀ a ∈ l, a ≤ b
  | [], h, _ => absurd rfl h
  | [a], _, _ => ⟨a, .head _, fun x hx => by rw [List.mem_singleton.mp hx]; exact Nat.le_refl _⟩
  | a :: c :: r, _, h => by
    obtain ⟨b, hb, hm⟩ := top_of (c :: r) (by simp) fun x hx => h x (.tail _ hx)
    rcases Nat.le_total a b with hab | hab
    · exact ⟨b, .tail _ hb, fun x hx => by
        rcases List.mem_cons.mp hx with rfl | hx
        · exact hab
        · exact hm x hx⟩
    · exact ⟨a, .head _, fun x hx => by
        rcases List.mem_cons.mp hx with rfl | hx
        · exact Nat.le_refl _
        · exact Nat.le_trans (hm x hx) hab⟩

set_option tactic.hygienic true in
theorem lookup_key {a : Addr} {o : Obj} : ∀ {K : Frag}, K.lookup a = some o → a ∈ K.map (·.1)
  | [], h => by cases h
  | p :: K, h => by
    rw [List.lookup_cons] at h
    split at h
    · rename_i hx
      rw [eq_of_beq hx]; exact .head _
    · exact .tail _ (lookup_key h)

/-- from the machine's answer to the program's -/
theorem law_runs (X : K.In s.heap) (nl : s.heap.NoLimit) (T : Bt s.heap) (hh : A.handled = none) (d : Nat) (hd : A.depth + d < recursionLimit) (hu : A.units + 4 * d + 20 < cLine) {fa l big : Addr} {o : Obj} (hbig : K.lookup big = some o)
    (b1 : cStatics ≤ big) (b2 : sysModules ≤ big) (b3 : mainGlobals ≤ big) (b4 : builtinsNs ≤ big)
    {vs : List Value} {ns : List Int} (hl : s.heap.IsList l vs.toArray) (hi : IntsAre vs ns) {σ' : Hp} (r : callN K d fa [.flist (ns.map V.int)] [] = some (.bool true, σ')) {Q : Value → Shared → Prop}
    (hQ : ∀ s', (∀ a o, s.heap.get? a = some o → s'.heap.get? a = some o) → s'.gens = s.gens ∧ s'.drawn = s.drawn ∧ s'.os = s.os → Q (.bool true) s') : wpAny (model prog w) A (call (.ref fa) [.ref l]) Q E s := by
  let live := l :: ((K.map (·.1)).filter fun a => (K.lookup a).isSome)
  have hlive : ∀ a ∈ live, ∃ o, s.heap.get? a = some o := by
    intro a ha
    rcases List.mem_cons.mp ha with rfl | ha
    · obtain ⟨o, e, _⟩ := hl; exact ⟨o, e⟩
    · have := (List.mem_filter.mp ha).2
      cases e : K.lookup a with
      | none => rw [e] at this; cases this
      | some o => exact ⟨o, X a o e⟩
  have hin : ∀ a o, K.lookup a = some o → a ∈ live := fun a o e => .tail _ (List.mem_filter.mpr ⟨lookup_key e, by rw [e]; rfl⟩)
  obtain ⟨b, hb, hm⟩ := top_of live (by simp [live]) hlive
  obtain ⟨ob, hob⟩ := hlive b hb
  have hbb := hm big (hin _ _ hbig)
  have B : Bs K (b + 1) := ⟨fun a o e => Nat.lt_succ_of_le (hm a (hin a o e)), Nat.lt_succ_of_le (Nat.le_trans b1 hbb), Nat.lt_succ_of_le (Nat.le_trans b2 hbb), Nat.lt_succ_of_le (Nat.le_trans b3 hbb), Nat.lt_succ_of_le (Nat.le_trans b4 hbb)⟩
  have S : St prog w K (b + 1) s [] [] := ⟨X, nl, ⟨b, ob, rfl, hob⟩, rfl, .nil, (fun zz h => nomatch h), fun i p o h zz => by simp at h⟩
  have q : VRs [] (b + 1) s.heap [.flist (ns.map V.int)] [.ref l] := by
    refine VRs.cons ?_ VRs.nil
    exact ⟨l, vs.toArray, rfl, Nat.lt_succ_of_le (hm l (.head _)), hl, vrs_ints hi⟩
  refine (snd_callN B sndD d A hh hd hu).c E fa _ _ _ _ _ _ _ _ r S T q fun s' ρ' v x S' q' => ?_
  have := q'.bool
  subst this
  exact hQ s' (fun a o e => x.keep a o (fun h => nomatch h) (fun h => nomatch h) e) x.rest
end
end Mine
end P_A28
section P_W0
open PySem PySem.W PyProof.Rows
set_option Elab.async false
set_option maxRecDepth 100000
set_option linter.unusedVariables false
namespace Mine
/-! ## the words in which gen.py prints -/
noncomputable def seqF (x : Mo (Fl × Loc)) (k : Loc → Mo (Fl × Loc)) : Mo (Fl × Loc) := bnd x fun p => match p.1 with
  | .next => k p.2
  | f => ret (f, p.2)
noncomputable def ifF {α : Type} (c : Bool) (a b : Mo α) : Mo α := match c with | true => a | false => b

/-! ## what a run shows -/
noncomputable def W {α : Type} (x : Mo α) (σ : Hp) (Q : α → Hp → Prop) : Prop := ∃ a σ', x σ = some (a, σ') ∧ Q a σ'
section
variable {α β : Type} {σ : Hp}
theorem W_mono {x : Mo α} {Q Q' : α → Hp → Prop} (h : W x σ Q) (hq : ∀ a σ', Q a σ' → Q' a σ') : W x σ Q' := by
  obtain ⟨a, σ', e, q⟩ := h; exact ⟨a, σ', e, hq _ _ q⟩
theorem W_bnd {x : Mo α} {f : α → Mo β} {Q} (h : W x σ fun a σ' => W (f a) σ' Q) : W (bnd x f) σ Q := by
  obtain ⟨a, σ', e, b, σ'', e', q⟩ := h
  exact ⟨b, σ'', by unfold bnd; rw [e]; exact e', q⟩
theorem W_ret {a : α} {Q : α → Hp → Prop} (h : Q a σ) : W (ret a) σ Q := ⟨a, σ, rfl, h⟩
theorem W_ofO {o : Option α} {a : α} {Q : α → Hp → Prop} (e : o = some a) (h : Q a σ) : W (ofO o) σ Q := by rw [e]; exact ⟨a, σ, rfl, h⟩
theorem W_bo {o : Option α} {a : α} {f : α → Mo β} {Q} (e : o = some a) (h : W (f a) σ Q) : W (bnd (ofO o) f) σ Q := W_bnd (W_ofO e h)
theorem W_br {a : α} {f : α → Mo β} {Q} (h : W (f a) σ Q) : W (bnd (ret a) f) σ Q := W_bnd (W_ret h)
theorem W_grd {c : Bool} {x : Mo α} {Q} (e : c = true) (h : W x σ Q) : W (grd c x) σ Q := by rw [e]; exact h
theorem W_ifF {c : Bool} {a b : Mo α} {Q} (h1 : c = true → W a σ Q) (h2 : c = false → W b σ Q) : W (ifF c a b) σ Q := by
  cases c
  · exact h2 rfl
  · exact h1 rfl
theorem W_ifT {c : Bool} {a b : Mo α} {Q} (e : c = true) (h : W a σ Q) : W (ifF c a b) σ Q := by rw [e]; exact h
theorem W_ifN {c : Bool} {a b : Mo α} {Q} (e : c = false) (h : W b σ Q) : W (ifF c a b) σ Q := by rw [e]; exact h
theorem W_ift {a b : Mo α} {Q} (h : W a σ Q) : W (ifF true a b) σ Q := h
theorem W_iff {a b : Mo α} {Q} (h : W b σ Q) : W (ifF false a b) σ Q := h
noncomputable def SQ (k : Loc → Mo (Fl × Loc)) (Q : Fl × Loc → Hp → Prop) (p : Fl × Loc) (σ : Hp) : Prop := match p.1 with
  | .next => W (k p.2) σ Q
  | f => Q (f, p.2) σ
theorem W_seq {x : Mo (Fl × Loc)} {k} {Q} (h : W x σ (SQ k Q)) : W (seqF x k) σ Q := by
  refine W_bnd (W_mono h ?_)
  rintro ⟨f, m⟩ σ' q
  cases f <;> first | exact q | exact W_ret q
theorem SQ_n {k} {Q} {m : Loc} (h : W (k m) σ Q) : SQ k Q (Fl.next, m) σ := h
theorem SQ_r {k} {Q : Fl × Loc → Hp → Prop} {m : Loc} {v : V} (h : Q (Fl.ret v, m) σ) : SQ k Q (Fl.ret v, m) σ := h
theorem SQ_c {k} {Q : Fl × Loc → Hp → Prop} {m : Loc} (h : Q (Fl.cont, m) σ) : SQ k Q (Fl.cont, m) σ := h
theorem SQ_b {k} {Q : Fl × Loc → Hp → Prop} {m : Loc} (h : Q (Fl.brk, m) σ) : SQ k Q (Fl.brk, m) σ := h
theorem W_outr {m : Loc} {v : V} {Q : V → Hp → Prop} (h : Q v σ) : W (outF (Fl.ret v, m)) σ Q := ⟨v, σ, rfl, h⟩
theorem W_outn {m : Loc} {Q : V → Hp → Prop} (h : Q .none σ) : W (outF (Fl.next, m)) σ Q := ⟨.none, σ, rfl, h⟩
theorem W_mnil {Q : List V → Hp → Prop} (h : Q [] σ) : W (mvs []) σ Q := ⟨[], σ, rfl, h⟩
theorem W_mcons {x : Mo V} {r : List (Mo V)} {Q : List V → Hp → Prop} (h : W x σ fun v σ' => W (mvs r) σ' fun vs σ'' => Q (v :: vs) σ'') : W (mvs (x :: r)) σ Q := by
  refine W_bnd (W_mono h fun v σ' h => W_bnd (W_mono h fun vs σ'' q => ⟨_, _, rfl, q⟩))
theorem W_m1 {x : Mo V} {Q : List V → Hp → Prop} (h : W x σ fun v σ' => Q [v] σ') : W (mvs [x]) σ Q := W_mcons (W_mono h fun v σ' q => W_mnil q)

/-! ## locals -/
/-! ## loops -/
noncomputable def FQ (n : Nat) (x : Str) (B : XsT) (it : It) (Q : Fl × Loc → Hp → Prop) (p : Fl × Loc) (σ : Hp) : Prop := match p.1 with
  | .next => W (forV x B n it p.2) σ Q
  | .cont => W (forV x B n it p.2) σ Q
  | .brk => Q (.next, p.2) σ
  | .ret v => Q (.ret v, p.2) σ
theorem W_for {x : Str} {B : XsT} {n : Nat} {it : It} {m : Loc} {v : V} {it' : It} {Q} (hn : nextI it σ = some (some (v, it'), σ)) (h : W (B (put m x v)) σ (FQ n x B it' Q)) : W (forV x B (n + 1) it m) σ Q := by
  refine W_bnd ⟨_, _, hn, W_bnd (W_mono h ?_)⟩
  rintro ⟨f, m'⟩ σ' q
  cases f <;> first | exact q | exact W_ret q
theorem W_forEnd {x : Str} {B : XsT} {n : Nat} {it : It} {m : Loc} {Q : Fl × Loc → Hp → Prop} (hn : nextI it σ = some (none, σ)) (h : Q (.next, m) σ) : W (forV x B (n + 1) it m) σ Q := W_bnd ⟨_, _, hn, ⟨_, _, rfl, h⟩⟩
theorem next_rng {a b : Int} (h : a < b) : nextI (.rng a b) σ = some (some (.int a, .rng (a + 1) b), σ) := by simp [nextI, h, ret]
theorem next_rngE {a b : Int} (h : ¬ a < b) : nextI (.rng a b) σ = some (none, σ) := by simp [nextI, h, ret]
theorem W_while0 {T : Loc → Mo Bool} {m : Loc} {Q : Fl × Loc → Hp → Prop} (h : W (T m) σ fun c σ' => c = false ∧ Q (.next, m) σ') : W (while0 T m) σ Q := W_bnd (W_mono h fun c σ' q => by obtain ⟨rfl, q⟩ := q; exact W_ret q)
/-! ## operations without the heap -/
theorem W_eqStr {a b : Str} {Q : Bool → Hp → Prop} (h : Q (a == b) σ) : W (cmpV .Eq (.str a) (.str b)) σ Q := ⟨_, _, rfl, h⟩
theorem W_eqInt {a b : Int} {Q : Bool → Hp → Prop} (h : Q (a == b) σ) : W (cmpV .Eq (.int a) (.int b)) σ Q := ⟨_, _, rfl, h⟩
theorem W_neStr {a b : Str} {Q : Bool → Hp → Prop} (h : Q (!(a == b)) σ) : W (cmpV .NotEq (.str a) (.str b)) σ Q := ⟨_, _, rfl, h⟩
theorem W_neInt {a b : Int} {Q : Bool → Hp → Prop} (h : Q (!(a == b)) σ) : W (cmpV .NotEq (.int a) (.int b)) σ Q := ⟨_, _, rfl, h⟩
theorem W_lt {a b : Int} {Q : Bool → Hp → Prop} (h : Q (decide (a < b)) σ) : W (cmpV .Lt (.int a) (.int b)) σ Q := ⟨_, _, rfl, h⟩
theorem W_gt {a b : Int} {Q : Bool → Hp → Prop} (h : Q (decide (b < a)) σ) : W (cmpV .Gt (.int a) (.int b)) σ Q := ⟨_, _, rfl, h⟩
theorem W_ge {a b : Int} {Q : Bool → Hp → Prop} (h : Q (decide (b ≤ a)) σ) : W (cmpV .GtE (.int a) (.int b)) σ Q := ⟨_, _, rfl, h⟩
theorem W_add {a b : Int} {Q : V → Hp → Prop} (h : Q (.int (a + b)) σ) : W (binV .Add (.int a) (.int b)) σ Q := ⟨_, _, rfl, h⟩
theorem W_sub {a b : Int} {Q : V → Hp → Prop} (h : Q (.int (a - b)) σ) : W (binV .Sub (.int a) (.int b)) σ Q := ⟨_, _, rfl, h⟩
theorem W_asub {a b : Int} {Q : V → Hp → Prop} (h : Q (.int (a - b)) σ) : W (augV .Sub (.int a) (.int b)) σ Q := ⟨_, _, rfl, h⟩
theorem W_adds {a b : Str} {Q : V → Hp → Prop} (hl : a.length + b.length ≤ LIM) (h : Q (.str (a ++ b)) σ) : W (binV .Add (.str a) (.str b)) σ Q := ⟨_, _, by show grd (Nat.ble _ _) _ σ = _; rw [Nat.ble_eq_true_of_le hl]; rfl, h⟩
theorem W_not {b : Bool} {Q : V → Hp → Prop} (h : Q (.bool (!b)) σ) : W (unV .Not (.bool b)) σ Q := ⟨_, _, rfl, h⟩
theorem W_neg {b : Int} {Q : V → Hp → Prop} (h : Q (.int (-b)) σ) : W (unV .USub (.int b)) σ Q := ⟨_, _, rfl, h⟩
theorem W_asB {b : Bool} {Q : Bool → Hp → Prop} (h : Q b σ) : W (asB (.bool b)) σ Q := ⟨_, _, rfl, h⟩
theorem W_item0 {a : V} {r : List V} {Q : V → Hp → Prop} (h : Q a σ) : W (itemV (.tup (a :: r)) (.int 0)) σ Q := by
  refine W_ofO (a := a) ?_ h
  have : idx? 0 (a :: r).length = some 0 := by
    have h1 : decide ((0 : Int) < ((a :: r).length : Int)) = true := by simp only [List.length_cons, decide_eq_true_eq]; lia
    simp only [idx?, h1]; rfl
  rw [this]; rfl
theorem W_item1 {a b : V} {Q : V → Hp → Prop} (h : Q b σ) : W (itemV (.tup [a, b]) (.int 1)) σ Q := ⟨b, σ, rfl, h⟩
theorem W_item31 {a b c : V} {Q : V → Hp → Prop} (h : Q b σ) : W (itemV (.tup [a, b, c]) (.int 1)) σ Q := ⟨b, σ, rfl, h⟩
theorem W_item32 {a b c : V} {Q : V → Hp → Prop} (h : Q c σ) : W (itemV (.tup [a, b, c]) (.int 2)) σ Q := ⟨c, σ, rfl, h⟩
theorem W_len2 {a b : V} {Q : V → Hp → Prop} (h : Q (.int 2) σ) : W (bLen [.tup [a, b]]) σ Q := ⟨_, σ, rfl, h⟩
theorem W_len3 {a b c : V} {Q : V → Hp → Prop} (h : Q (.int 3) σ) : W (bLen [.tup [a, b, c]]) σ Q := ⟨_, σ, rfl, h⟩
theorem W_lenS {x : Str} {Q : V → Hp → Prop} (hl : x.length ≤ LIM) (h : Q (.int x.length) σ) : W (bLen [.str x]) σ Q := ⟨_, _, by show grd (Nat.ble _ _) _ σ = _; rw [Nat.ble_eq_true_of_le hl]; rfl, h⟩
theorem W_newT1 {a : V} {Q : V → Hp → Prop} (h : Q (.tup [a]) σ) : W (newT [a]) σ Q := ⟨_, σ, rfl, h⟩
theorem W_newT2 {a b : V} {Q : V → Hp → Prop} (h : Q (.tup [a, b]) σ) : W (newT [a, b]) σ Q := ⟨_, σ, rfl, h⟩
theorem W_newT3 {a b c : V} {Q : V → Hp → Prop} (h : Q (.tup [a, b, c]) σ) : W (newT [a, b, c]) σ Q := ⟨_, σ, rfl, h⟩
theorem W_range1 {b : Int} {Q : V → Hp → Prop} (h : Q (.rng 0 b) σ) : W (tRange [.int b]) σ Q := ⟨_, σ, rfl, h⟩
theorem W_range2 {a b : Int} {Q : V → Hp → Prop} (h : Q (.rng a b) σ) : W (tRange [.int a, .int b]) σ Q := ⟨_, σ, rfl, h⟩
theorem W_iterR {a b : Int} {Q : It → Hp → Prop} (h1 : -(2 ^ 62) ≤ a) (h2 : a < 2 ^ 62) (h3 : -(2 ^ 62) ≤ b) (h4 : b < 2 ^ 62) (h : Q (.rng a b) σ) : W (iterV (.rng a b)) σ Q := ⟨_, σ, by delta iterV; dsimp only; simp only [h1, h2, h3, h4, decide_true, Bool.and_self]; rfl, h⟩
noncomputable def AQ (op : PySem.BoolOp) (r : List (Mo Bool)) (Q : Bool → Hp → Prop) (c : Bool) (σ : Hp) : Prop := match op, c with
  | .And, false => Q false σ
  | .Or, true => Q true σ
  | _, _ => W (allV op r) σ Q
theorem W_all {op : PySem.BoolOp} {x : Mo Bool} {r} {Q : Bool → Hp → Prop} (h : W x σ (AQ op r Q)) : W (allV op (x :: r)) σ Q := by
  refine W_bnd (W_mono h ?_)
  intro c σ' q
  cases op <;> cases c <;> first | exact q | exact W_ret q
theorem AQ_o {r} {Q : Bool → Hp → Prop} {c : Bool} (h1 : c = true → Q true σ) (h2 : c = false → W (allV .Or r) σ Q) : AQ .Or r Q c σ := by
  cases c
  · exact h2 rfl
  · exact h1 rfl
theorem AQ_a {r} {Q : Bool → Hp → Prop} {c : Bool} (h1 : c = false → Q false σ) (h2 : c = true → W (allV .And r) σ Q) : AQ .And r Q c σ := by
  cases c
  · exact h1 rfl
  · exact h2 rfl
theorem W_bool1 {op : PySem.BoolOp} {x : Mo V} {Q : V → Hp → Prop} (h : W x σ Q) : W (boolV op [x]) σ Q := h
noncomputable def BQ (op : PySem.BoolOp) (r : List (Mo V)) (Q : V → Hp → Prop) (v : V) (σ : Hp) : Prop := match op, v with
  | .And, .bool false => Q (.bool false) σ
  | .And, .bool true => W (boolV op r) σ Q
  | .Or, .bool true => Q (.bool true) σ
  | .Or, .bool false => W (boolV op r) σ Q
  | _, _ => False
set_option tactic.hygienic true in
theorem W_bool {op : PySem.BoolOp} {x y : Mo V} {r} {Q : V → Hp → Prop} (h : W x σ (BQ op (y :: r) Q)) : W (boolV op (x :: y :: r)) σ Q := by
  refine W_bnd (W_mono h ?_)
  intro v σ' q
  cases op <;> cases v <;> first | exact q.elim | (rename_i b; cases b <;> first | exact q | exact W_ret q)
theorem BQ_at {r} {Q : V → Hp → Prop} {c : Bool} (e : c = true) (h : W (boolV .And r) σ Q) : BQ .And r Q (.bool c) σ := by rw [e]; exact h
theorem BQ_ot {r} {Q : V → Hp → Prop} {c : Bool} (e : c = true) (h : Q (.bool true) σ) : BQ .Or r Q (.bool c) σ := by rw [e]; exact h
theorem W_isi {v : V} {n : String} {b : Bool} {Q : V → Hp → Prop} (e : isKind v n = some b) (h : Q (.bool b) σ) : W (bIsi [v, .ty n]) σ Q := by
  show W (bnd (ofO (isKind v n)) fun b => ret (.bool b)) σ Q
  exact W_bo e (W_ret h)
theorem W_inT {x : V} {ys : List V} {b : Bool} {Q : Bool → Hp → Prop} (e : anyEq x ys = some b) (h : Q b σ) : W (cmpV .In x (.tup ys)) σ Q := by
  show W (ofO (anyEq x ys)) σ Q
  exact W_ofO e h
theorem W_starts {x y : Str} {Q : V → Hp → Prop} (h : Q (.bool (Txt.startswith x y)) σ) : W (bStarts [.str x, .str y]) σ Q := ⟨_, σ, rfl, h⟩
theorem W_methS {K : Frag} {x n : Str} {f : Fn} {Q : Fn → Hp → Prop} (e : (strMeth.lookup n).map Fn.blt = some f) (h : Q f σ) : W (methOf K (.str x) n) σ Q := W_ofO e h
theorem W_blt {K : Frag} {C : Or} {id : String} {f : List V → Mo V} {self : V} {as : List V} {Q : V → Hp → Prop} (e : bltL.lookup id = some f) (h : W (f (self :: as)) σ Q) : W (callM K C (.blt id) self as) σ Q := by
  show W (bltV id (self :: as)) σ Q
  unfold bltV; rw [e]; exact h
theorem W_own {K : Frag} {C : Or} {a : Addr} {self : V} {as : List V} {Q : V → Hp → Prop} (e : keepIn K (.ref a) = true) (h : W (C a (self :: as)) σ Q) : W (callM K C (.own a) self as) σ Q := W_grd e h
theorem W_nr {v : V} {x : Mo α} {Q} (e : noRef v = true) (h : W x σ Q) : W (grd (noRef v) x) σ Q := W_grd e h
end
end Mine
end P_W0
section P_C0
open PySem PySem.W PyProof.Rows
set_option Elab.async false
set_option maxRecDepth 100000
set_option linter.unusedVariables false
namespace Mine
noncomputable abbrev nextF : Loc → Mo (Fl × Loc) := fun m => ret (Fl.next, m)
noncomputable def mkF (self : V) (r : V) : Mo V := match r with | .none => ret self | _ => stuck
noncomputable abbrev B_number_text_3 (K : Frag) (C : Or) (m : Loc) : Mo (Fl × Loc) := seqF (bnd (bnd (ofO (lk m "pieces")) fun a25 => bnd (methOf K a25 "append") fun f26 => bnd (mvs [ret (.str "-")]) fun s27 => callM K C f26 a25 s27) fun v24 => grd (noRef v24) (ret (Fl.next, m))) nextF
noncomputable abbrev B_number_text_4 (K : Frag) (C : Or) (m : Loc) : Mo (Fl × Loc) := seqF (bnd (bnd (ofO (lk m "pieces")) fun a29 => joinRev (.str "") a29) fun v28 => ret (Fl.ret v28, m)) nextF
noncomputable abbrev B_number_text_5 (K : Frag) (C : Or) (m : Loc) : Mo (Fl × Loc) := seqF (bnd (bnd (ofO (lk m "value")) fun a23 => cmpV .Lt a23 (.int 0)) fun c22 => ifF c22 ((B_number_text_3 K C) m) (nextF m)) (B_number_text_4 K C)
noncomputable abbrev B_number_text_6 (K : Frag) (C : Or) (m : Loc) : Mo (Fl × Loc) := seqF (bnd (bnd (ofO (lk m "pieces")) fun a18 => bnd (methOf K a18 "append") fun f19 => bnd (mvs [bnd (mvs [ofO (lk m "rest")]) fun s21 => tStr s21]) fun s20 => callM K C f19 a18 s20) fun v17 => grd (noRef v17) (ret (Fl.next, m))) (B_number_text_5 K C)
noncomputable abbrev B_number_text_7 (K : Frag) (C : Or) (m : Loc) : Mo (Fl × Loc) := seqF (while0 (fun m => bnd (ofO (lk m "rest")) fun a5 => bnd (binV .Pow (.int 10) (.int 18)) fun a6 => cmpV .GtE a5 a6) m) (B_number_text_6 K C)
noncomputable abbrev B_number_text_8 (K : Frag) (C : Or) (m : Loc) : Mo (Fl × Loc) := seqF (bnd (bnd (mvs []) fun s4 => newL s4) fun v3 => ret (Fl.next, put m "pieces" v3)) (B_number_text_7 K C)
noncomputable def B_number_text (K : Frag) (C : Or) (m : Loc) : Mo (Fl × Loc) := seqF (bnd (bnd (mvs [ofO (lk m "value")]) fun s2 => bAbs s2) fun v1 => ret (Fl.next, put m "rest" v1)) (B_number_text_8 K C)


noncomputable def B_fixed_atoms (K : Frag) (C : Or) (m : Loc) : Mo (Fl × Loc) := seqF (bnd (bnd (mvs [ret (.str "[]"), ret (.str "."), ret (.str "{}"), ret (.str "-"), ret (.str "+"), ret (.str "*"), ret (.str "/"), ret (.str ","), ret (.str "|"), ret (.str ";"), ret (.str "->"), ret (.str "\\+"), ret (.str ":-"), ret (.str "?-"), ret (.str "-->"), ret (.str "!"), ret (.str "true"), ret (.str "fail"), ret (.str "false"), ret (.str "call"), ret (.str "="), ret (.str "^"), ret (.str "error"), ret (.str ""), ret (.str "end_of_file"), ret (.str "system"), ret (.str "$VAR"), ret (.str "catch"), ret (.str "throw")]) fun s31 => newT s31) fun v30 => ret (Fl.ret v30, m)) nextF


noncomputable def B_fixed_functors (K : Frag) (C : Or) (m : Loc) : Mo (Fl × Loc) := seqF (bnd (bnd (mvs [bnd (mvs [ret (.str "."), ret (.int 2)]) fun s34 => newT s34, bnd (mvs [ret (.str ","), ret (.int 2)]) fun s35 => newT s35, bnd (mvs [ret (.str ";"), ret (.int 2)]) fun s36 => newT s36, bnd (mvs [ret (.str "->"), ret (.int 2)]) fun s37 => newT s37, bnd (mvs [ret (.str "\\+"), ret (.int 1)]) fun s38 => newT s38, bnd (mvs [ret (.str ":-"), ret (.int 2)]) fun s39 => newT s39, bnd (mvs [ret (.str ":-"), ret (.int 1)]) fun s40 => newT s40, bnd (mvs [ret (.str "?-"), ret (.int 1)]) fun s41 => newT s41, bnd (mvs [ret (.str "-->"), ret (.int 2)]) fun s42 => newT s42, bnd (mvs [ret (.str "{}"), ret (.int 1)]) fun s43 => newT s43, bnd (mvs [ret (.str "="), ret (.int 2)]) fun s44 => newT s44, bnd (mvs [ret (.str "^"), ret (.int 2)]) fun s45 => newT s45, bnd (mvs [ret (.str "-"), ret (.int 1)]) fun s46 => newT s46, bnd (mvs [ret (.str "-"), ret (.int 2)]) fun s47 => newT s47, bnd (mvs [ret (.str "+"), ret (.int 2)]) fun s48 => newT s48, bnd (mvs [ret (.str "/"), ret (.int 2)]) fun s49 => newT s49, bnd (mvs [ret (.str "error"), ret (.int 2)]) fun s50 => newT s50, bnd (mvs [ret (.str "$VAR"), ret (.int 1)]) fun s51 => newT s51, bnd (mvs [ret (.str "catch"), ret (.int 3)]) fun s52 => newT s52, bnd (mvs [ret (.str "throw"), ret (.int 1)]) fun s53 => newT s53, bnd (mvs [ret (.str "!"), ret (.int 0)]) fun s54 => newT s54, bnd (mvs [ret (.str "true"), ret (.int 0)]) fun s55 => newT s55, bnd (mvs [ret (.str "fail"), ret (.int 0)]) fun s56 => newT s56, bnd (mvs [ret (.str "false"), ret (.int 0)]) fun s57 => newT s57, bnd (mvs [ret (.str "call"), ret (.int 1)]) fun s58 => newT s58, bnd (mvs [ret (.str "call"), ret (.int 2)]) fun s59 => newT s59, bnd (mvs [ret (.str "call"), ret (.int 3)]) fun s60 => newT s60, bnd (mvs [ret (.str "call"), ret (.int 4)]) fun s61 => newT s61, bnd (mvs [ret (.str "call"), ret (.int 5)]) fun s62 => newT s62, bnd (mvs [ret (.str "call"), ret (.int 6)]) fun s63 => newT s63, bnd (mvs [ret (.str "call"), ret (.int 7)]) fun s64 => newT s64, bnd (mvs [ret (.str "call"), ret (.int 8)]) fun s65 => newT s65]) fun s33 => newT s33) fun v32 => ret (Fl.ret v32, m)) nextF

noncomputable abbrev B_Symbols_init_1 (K : Frag) (C : Or) (m : Loc) : Mo (Fl × Loc) := seqF (bnd (bnd (ofO (lk m "self")) fun a80 => bnd (methOf K a80 "atom") fun f81 => bnd (mvs [ofO (lk m "text")]) fun s82 => callM K C f81 a80 s82) fun v79 => grd (noRef v79) (ret (Fl.next, m))) nextF
noncomputable abbrev B_Symbols_init_2 (K : Frag) (C : Or) (m : Loc) : Mo (Fl × Loc) := seqF (bnd (bnd (ofO (lk m "self")) fun a87 => bnd (methOf K a87 "func") fun f88 => bnd (mvs [bnd (ofO (lk m "row")) fun a90 => itemV a90 (.int 0), bnd (ofO (lk m "row")) fun a91 => itemV a91 (.int 1)]) fun s89 => callM K C f88 a87 s89) fun v86 => grd (noRef v86) (ret (Fl.next, m))) nextF
noncomputable abbrev B_Symbols_init_3 (K : Frag) (C : Or) (m : Loc) : Mo (Fl × Loc) := seqF (bnd (bnd (mvs []) fun s84 => C 75 s84) fun a83 => bnd (iterV a83) fun i85 => forV "row" (B_Symbols_init_2 K C) 4096 i85 m) nextF
noncomputable abbrev B_Symbols_init_4 (K : Frag) (C : Or) (m : Loc) : Mo (Fl × Loc) := seqF (bnd (bnd (mvs []) fun s77 => C 68 s77) fun a76 => bnd (iterV a76) fun i78 => forV "text" (B_Symbols_init_1 K C) 4096 i78 m) (B_Symbols_init_3 K C)
noncomputable abbrev B_Symbols_init_5 (K : Frag) (C : Or) (m : Loc) : Mo (Fl × Loc) := seqF (bnd (nw .dnew) fun v74 => bnd (ofO (lk m "self")) fun a75 => bnd (setAttrV K a75 "functor_numbers" v74) fun zz => ret (Fl.next, m)) (B_Symbols_init_4 K C)
noncomputable abbrev B_Symbols_init_6 (K : Frag) (C : Or) (m : Loc) : Mo (Fl × Loc) := seqF (bnd (bnd (mvs []) fun s72 => newL s72) fun v71 => bnd (ofO (lk m "self")) fun a73 => bnd (setAttrV K a73 "functors" v71) fun zz => ret (Fl.next, m)) (B_Symbols_init_5 K C)
noncomputable abbrev B_Symbols_init_7 (K : Frag) (C : Or) (m : Loc) : Mo (Fl × Loc) := seqF (bnd (nw .dnew) fun v69 => bnd (ofO (lk m "self")) fun a70 => bnd (setAttrV K a70 "atom_numbers" v69) fun zz => ret (Fl.next, m)) (B_Symbols_init_6 K C)
noncomputable def B_Symbols_init (K : Frag) (C : Or) (m : Loc) : Mo (Fl × Loc) := seqF (bnd (bnd (mvs []) fun s67 => newL s67) fun v66 => bnd (ofO (lk m "self")) fun a68 => bnd (setAttrV K a68 "texts" v66) fun zz => ret (Fl.next, m)) (B_Symbols_init_7 K C)

noncomputable abbrev B_Symbols_atom_1 (K : Frag) (C : Or) (m : Loc) : Mo (Fl × Loc) := seqF (bnd (ofO (lk m "found")) fun v99 => ret (Fl.ret v99, m)) nextF
noncomputable abbrev B_Symbols_atom_2 (K : Frag) (C : Or) (m : Loc) : Mo (Fl × Loc) := seqF (bnd (ofO (lk m "number")) fun v112 => ret (Fl.ret v112, m)) nextF
noncomputable abbrev B_Symbols_atom_3 (K : Frag) (C : Or) (m : Loc) : Mo (Fl × Loc) := seqF (bnd (ofO (lk m "number")) fun v108 => bnd (bnd (ofO (lk m "self")) fun a110 => attrV K a110 "atom_numbers") fun a109 => bnd (ofO (lk m "text")) fun a111 => bnd (setItemV a109 a111 v108) fun zz => ret (Fl.next, m)) (B_Symbols_atom_2 K C)
noncomputable abbrev B_Symbols_atom_4 (K : Frag) (C : Or) (m : Loc) : Mo (Fl × Loc) := seqF (bnd (bnd (bnd (ofO (lk m "self")) fun a105 => attrV K a105 "texts") fun a104 => bnd (methOf K a104 "append") fun f106 => bnd (mvs [ofO (lk m "text")]) fun s107 => callM K C f106 a104 s107) fun v103 => grd (noRef v103) (ret (Fl.next, m))) (B_Symbols_atom_3 K C)
noncomputable abbrev B_Symbols_atom_5 (K : Frag) (C : Or) (m : Loc) : Mo (Fl × Loc) := seqF (bnd (bnd (mvs [bnd (ofO (lk m "self")) fun a102 => attrV K a102 "texts"]) fun s101 => bLen s101) fun v100 => ret (Fl.next, put m "number" v100)) (B_Symbols_atom_4 K C)
noncomputable abbrev B_Symbols_atom_6 (K : Frag) (C : Or) (m : Loc) : Mo (Fl × Loc) := seqF (bnd (bnd (ofO (lk m "found")) fun a98 => cmpV .GtE a98 (.int 0)) fun c97 => ifF c97 ((B_Symbols_atom_1 K C) m) (nextF m)) (B_Symbols_atom_5 K C)
noncomputable def B_Symbols_atom (K : Frag) (C : Or) (m : Loc) : Mo (Fl × Loc) := seqF (bnd (bnd (bnd (ofO (lk m "self")) fun a94 => attrV K a94 "atom_numbers") fun a93 => bnd (methOf K a93 "get") fun f95 => bnd (mvs [ofO (lk m "text"), unV .USub (.int 1)]) fun s96 => callM K C f95 a93 s96) fun v92 => ret (Fl.next, put m "found" v92)) (B_Symbols_atom_6 K C)

noncomputable abbrev B_Symbols_functor_1 (K : Frag) (C : Or) (m : Loc) : Mo (Fl × Loc) := seqF (bnd (ofO (lk m "found")) fun v122 => ret (Fl.ret v122, m)) nextF
noncomputable abbrev B_Symbols_functor_2 (K : Frag) (C : Or) (m : Loc) : Mo (Fl × Loc) := seqF (bnd (ofO (lk m "number")) fun v135 => ret (Fl.ret v135, m)) nextF
noncomputable abbrev B_Symbols_functor_3 (K : Frag) (C : Or) (m : Loc) : Mo (Fl × Loc) := seqF (bnd (ofO (lk m "number")) fun v131 => bnd (bnd (ofO (lk m "self")) fun a133 => attrV K a133 "functor_numbers") fun a132 => bnd (ofO (lk m "key")) fun a134 => bnd (setItemV a132 a134 v131) fun zz => ret (Fl.next, m)) (B_Symbols_functor_2 K C)
noncomputable abbrev B_Symbols_functor_4 (K : Frag) (C : Or) (m : Loc) : Mo (Fl × Loc) := seqF (bnd (bnd (bnd (ofO (lk m "self")) fun a128 => attrV K a128 "functors") fun a127 => bnd (methOf K a127 "append") fun f129 => bnd (mvs [ofO (lk m "key")]) fun s130 => callM K C f129 a127 s130) fun v126 => grd (noRef v126) (ret (Fl.next, m))) (B_Symbols_functor_3 K C)
noncomputable abbrev B_Symbols_functor_5 (K : Frag) (C : Or) (m : Loc) : Mo (Fl × Loc) := seqF (bnd (bnd (mvs [bnd (ofO (lk m "self")) fun a125 => attrV K a125 "functors"]) fun s124 => bLen s124) fun v123 => ret (Fl.next, put m "number" v123)) (B_Symbols_functor_4 K C)
noncomputable abbrev B_Symbols_functor_6 (K : Frag) (C : Or) (m : Loc) : Mo (Fl × Loc) := seqF (bnd (bnd (ofO (lk m "found")) fun a121 => cmpV .GtE a121 (.int 0)) fun c120 => ifF c120 ((B_Symbols_functor_1 K C) m) (nextF m)) (B_Symbols_functor_5 K C)
noncomputable abbrev B_Symbols_functor_7 (K : Frag) (C : Or) (m : Loc) : Mo (Fl × Loc) := seqF (bnd (bnd (bnd (ofO (lk m "self")) fun a117 => attrV K a117 "functor_numbers") fun a116 => bnd (methOf K a116 "get") fun f118 => bnd (mvs [ofO (lk m "key"), unV .USub (.int 1)]) fun s119 => callM K C f118 a116 s119) fun v115 => ret (Fl.next, put m "found" v115)) (B_Symbols_functor_6 K C)
noncomputable def B_Symbols_functor (K : Frag) (C : Or) (m : Loc) : Mo (Fl × Loc) := seqF (bnd (bnd (mvs [ofO (lk m "atom"), ofO (lk m "arity")]) fun s114 => newT s114) fun v113 => ret (Fl.next, put m "key" v113)) (B_Symbols_functor_7 K C)


noncomputable def B_Symbols_func (K : Frag) (C : Or) (m : Loc) : Mo (Fl × Loc) := seqF (bnd (bnd (ofO (lk m "self")) fun a137 => bnd (methOf K a137 "functor") fun f138 => bnd (mvs [bnd (ofO (lk m "self")) fun a140 => bnd (methOf K a140 "atom") fun f141 => bnd (mvs [ofO (lk m "text")]) fun s142 => callM K C f141 a140 s142, ofO (lk m "arity")]) fun s139 => callM K C f138 a137 s139) fun v136 => ret (Fl.ret v136, m)) nextF


noncomputable def B_Symbols_arity (K : Frag) (C : Or) (m : Loc) : Mo (Fl × Loc) := seqF (bnd (bnd (bnd (bnd (ofO (lk m "self")) fun a146 => attrV K a146 "functors") fun a145 => bnd (ofO (lk m "functor")) fun a147 => itemV a145 a147) fun a144 => itemV a144 (.int 1)) fun v143 => ret (Fl.ret v143, m)) nextF


noncomputable def B_Symbols_functor_count (K : Frag) (C : Or) (m : Loc) : Mo (Fl × Loc) := seqF (bnd (bnd (mvs [bnd (ofO (lk m "self")) fun a150 => attrV K a150 "functors"]) fun s149 => bLen s149) fun v148 => ret (Fl.ret v148, m)) nextF


noncomputable def B_shapes (K : Frag) (C : Or) (m : Loc) : Mo (Fl × Loc) := seqF (bnd (nw (.dstr (dispO ([(("get_variable" : Str), ("RX" : Str)), (("get_value" : Str), ("RX" : Str)), (("get_constant" : Str), ("CX" : Str)), (("get_list" : Str), ("X" : Str)), (("get_structure" : Str), ("FX" : Str)), (("unify_variable" : Str), ("R" : Str)), (("unify_value" : Str), ("R" : Str)), (("unify_local_value" : Str), ("R" : Str)), (("unify_constant" : Str), ("C" : Str)), (("unify_void" : Str), ("N" : Str)), (("put_variable" : Str), ("RX" : Str)), (("put_void" : Str), ("X" : Str)), (("put_value" : Str), ("RX" : Str)), (("put_unsafe_value" : Str), ("YX" : Str)), (("put_constant" : Str), ("CX" : Str)), (("put_list" : Str), ("X" : Str)), (("put_structure" : Str), ("FX" : Str)), (("set_variable" : Str), ("R" : Str)), (("set_value" : Str), ("R" : Str)), (("set_local_value" : Str), ("R" : Str)), (("set_constant" : Str), ("C" : Str)), (("set_void" : Str), ("N" : Str)), (("allocate" : Str), ("N" : Str)), (("deallocate" : Str), ("" : Str)), (("call" : Str), ("FN" : Str)), (("execute" : Str), ("F" : Str)), (("proceed" : Str), ("" : Str)), (("builtin" : Str), ("F" : Str)), (("neck_cut" : Str), ("" : Str)), (("get_level" : Str), ("R" : Str)), (("mark" : Str), ("R" : Str)), (("cut_to" : Str), ("R" : Str)), (("fail" : Str), ("" : Str)), (("halt" : Str), ("" : Str)), (("try" : Str), ("LN" : Str)), (("retry" : Str), ("L" : Str)), (("trust" : Str), ("L" : Str)), (("switch_on_term" : Str), ("LLLL" : Str)), (("switch_on_constant" : Str), ("TL" : Str)), (("switch_on_structure" : Str), ("UL" : Str)), (("meta_call" : Str), ("N" : Str)), (("catch_push" : Str), ("" : Str)), (("catch_exit" : Str), ("Y" : Str)), (("catch_fail" : Str), ("" : Str)), (("dyn_retry" : Str), ("" : Str))] : List (Str × Str))))) fun v151 => ret (Fl.ret v151, m)) nextF


noncomputable def B_is_whole (K : Frag) (C : Or) (m : Loc) : Mo (Fl × Loc) := seqF (bnd (boolV .And [bnd (mvs [ofO (lk m "value"), ret (.ty "int")]) fun s153 => bIsi s153, bnd (bnd (mvs [ofO (lk m "value"), ret (.ty "bool")]) fun s155 => bIsi s155) fun a154 => unV .Not a154]) fun v152 => ret (Fl.ret v152, m)) nextF


noncomputable def B_is_pair (K : Frag) (C : Or) (m : Loc) : Mo (Fl × Loc) := seqF (bnd (boolV .And [bnd (mvs [ofO (lk m "value"), ret (.ty "tuple")]) fun s157 => bIsi s157, bnd (bnd (mvs [ofO (lk m "value")]) fun s159 => bLen s159) fun a158 => bnd (cmpV .Eq a158 (.int 2)) fun c160 => ret (.bool c160)]) fun v156 => ret (Fl.ret v156, m)) nextF


noncomputable def B_is_register (K : Frag) (C : Or) (m : Loc) : Mo (Fl × Loc) := seqF (bnd (boolV .And [bnd (mvs [ofO (lk m "value")]) fun s162 => C 187 s162, bnd (bnd (ofO (lk m "value")) fun a164 => itemV a164 (.int 0)) fun a163 => bnd (ofO (lk m "names")) fun a165 => bnd (cmpV .In a163 a165) fun c166 => ret (.bool c166), bnd (mvs [bnd (ofO (lk m "value")) fun a168 => itemV a168 (.int 1)]) fun s167 => C 180 s167, bnd (bnd (ofO (lk m "value")) fun a170 => itemV a170 (.int 1)) fun a169 => bnd (cmpV .GtE a169 (.int 1)) fun c171 => ret (.bool c171)]) fun v161 => ret (Fl.ret v161, m)) nextF


noncomputable def B_is_constant (K : Frag) (C : Or) (m : Loc) : Mo (Fl × Loc) := seqF (bnd (boolV .And [bnd (mvs [ofO (lk m "value")]) fun s173 => C 187 s173, bnd (mvs [bnd (ofO (lk m "value")) fun a175 => itemV a175 (.int 1)]) fun s174 => C 180 s174, boolV .Or [bnd (bnd (ofO (lk m "value")) fun a177 => itemV a177 (.int 0)) fun a176 => bnd (cmpV .Eq a176 (.int 5)) fun c178 => ret (.bool c178), boolV .And [bnd (bnd (ofO (lk m "value")) fun a180 => itemV a180 (.int 0)) fun a179 => bnd (cmpV .Eq a179 (.int 4)) fun c181 => ret (.bool c181), bnd (bnd (ofO (lk m "value")) fun a183 => itemV a183 (.int 1)) fun a182 => bnd (cmpV .GtE a182 (.int 0)) fun c184 => ret (.bool c184)]]]) fun v172 => ret (Fl.ret v172, m)) nextF


noncomputable def B_is_functor (K : Frag) (C : Or) (m : Loc) : Mo (Fl × Loc) := seqF (bnd (boolV .And [bnd (mvs [ofO (lk m "value")]) fun s186 => C 180 s186, bnd (ofO (lk m "value")) fun a187 => bnd (cmpV .GtE a187 (.int 0)) fun c188 => ret (.bool c188)]) fun v185 => ret (Fl.ret v185, m)) nextF




noncomputable abbrev B_is_operand_1 (K : Frag) (C : Or) (m : Loc) : Mo (Fl × Loc) := seqF (bnd (bnd (mvs [ofO (lk m "value"), bnd (mvs [ret (.str "x"), ret (.str "y")]) fun s244 => newT s244]) fun s243 => C 194 s243) fun v242 => ret (Fl.ret v242, m)) nextF
noncomputable abbrev B_is_operand_2 (K : Frag) (C : Or) (m : Loc) : Mo (Fl × Loc) := seqF (bnd (bnd (mvs [ofO (lk m "value"), bnd (mvs [ret (.str "x")]) fun s249 => newT s249]) fun s248 => C 194 s248) fun v247 => ret (Fl.ret v247, m)) nextF
noncomputable abbrev B_is_operand_3 (K : Frag) (C : Or) (m : Loc) : Mo (Fl × Loc) := seqF (bnd (bnd (mvs [ofO (lk m "value"), bnd (mvs [ret (.str "y")]) fun s254 => newT s254]) fun s253 => C 194 s253) fun v252 => ret (Fl.ret v252, m)) nextF
noncomputable abbrev B_is_operand_4 (K : Frag) (C : Or) (m : Loc) : Mo (Fl × Loc) := seqF (bnd (bnd (mvs [ofO (lk m "value")]) fun s258 => C 201 s258) fun v257 => ret (Fl.ret v257, m)) nextF
noncomputable abbrev B_is_operand_5 (K : Frag) (C : Or) (m : Loc) : Mo (Fl × Loc) := seqF (bnd (bnd (mvs [ofO (lk m "value")]) fun s263 => C 208 s263) fun v262 => ret (Fl.ret v262, m)) nextF
noncomputable abbrev B_is_operand_6 (K : Frag) (C : Or) (m : Loc) : Mo (Fl × Loc) := seqF (bnd (bnd (mvs [ofO (lk m "value"), ofO (lk m "linked")]) fun s267 => C 215 s267) fun v266 => ret (Fl.ret v266, m)) nextF
noncomputable abbrev B_is_operand_7 (K : Frag) (C : Or) (m : Loc) : Mo (Fl × Loc) := seqF (bnd (bnd (mvs [ofO (lk m "value"), ofO (lk m "kind"), ofO (lk m "linked")]) fun s269 => C 229 s269) fun v268 => ret (Fl.ret v268, m)) nextF
noncomputable abbrev B_is_operand_8 (K : Frag) (C : Or) (m : Loc) : Mo (Fl × Loc) := seqF (bnd (bnd (ofO (lk m "kind")) fun a265 => cmpV .Eq a265 (.str "L")) fun c264 => ifF c264 ((B_is_operand_6 K C) m) (nextF m)) (B_is_operand_7 K C)
noncomputable abbrev B_is_operand_9 (K : Frag) (C : Or) (m : Loc) : Mo (Fl × Loc) := seqF (bnd (allV .Or [bnd (ofO (lk m "kind")) fun a260 => cmpV .Eq a260 (.str "F"), bnd (ofO (lk m "kind")) fun a261 => cmpV .Eq a261 (.str "N")]) fun c259 => ifF c259 ((B_is_operand_5 K C) m) (nextF m)) (B_is_operand_8 K C)
noncomputable abbrev B_is_operand_10 (K : Frag) (C : Or) (m : Loc) : Mo (Fl × Loc) := seqF (bnd (bnd (ofO (lk m "kind")) fun a256 => cmpV .Eq a256 (.str "C")) fun c255 => ifF c255 ((B_is_operand_4 K C) m) (nextF m)) (B_is_operand_9 K C)
noncomputable abbrev B_is_operand_11 (K : Frag) (C : Or) (m : Loc) : Mo (Fl × Loc) := seqF (bnd (bnd (ofO (lk m "kind")) fun a251 => cmpV .Eq a251 (.str "Y")) fun c250 => ifF c250 ((B_is_operand_3 K C) m) (nextF m)) (B_is_operand_10 K C)
noncomputable abbrev B_is_operand_12 (K : Frag) (C : Or) (m : Loc) : Mo (Fl × Loc) := seqF (bnd (bnd (ofO (lk m "kind")) fun a246 => cmpV .Eq a246 (.str "X")) fun c245 => ifF c245 ((B_is_operand_2 K C) m) (nextF m)) (B_is_operand_11 K C)
noncomputable def B_is_operand (K : Frag) (C : Or) (m : Loc) : Mo (Fl × Loc) := seqF (bnd (bnd (ofO (lk m "kind")) fun a241 => cmpV .Eq a241 (.str "R")) fun c240 => ifF c240 ((B_is_operand_1 K C) m) (nextF m)) (B_is_operand_12 K C)

noncomputable abbrev B_check_row_1 (K : Frag) (C : Or) (m : Loc) : Mo (Fl × Loc) := seqF (stuck) nextF
noncomputable abbrev B_check_row_2 (K : Frag) (C : Or) (m : Loc) : Mo (Fl × Loc) := seqF (stuck) nextF
noncomputable abbrev B_check_row_3 (K : Frag) (C : Or) (m : Loc) : Mo (Fl × Loc) := seqF (stuck) nextF
noncomputable abbrev B_check_row_4 (K : Frag) (C : Or) (m : Loc) : Mo (Fl × Loc) := seqF (stuck) nextF
noncomputable abbrev B_check_row_5 (K : Frag) (C : Or) (m : Loc) : Mo (Fl × Loc) := seqF (bnd (bnd (bnd (bnd (mvs [bnd (ofO (lk m "ins")) fun a299 => bnd (bnd (ofO (lk m "place")) fun a301 => binV .Add a301 (.int 1)) fun a300 => itemV a299 a300, bnd (ofO (lk m "kinds")) fun a302 => bnd (ofO (lk m "place")) fun a303 => itemV a302 a303, ofO (lk m "linked")]) fun s298 => C 236 s298) asB) fun c297 => ret (!c297)) fun c296 => ifF c296 ((B_check_row_4 K C) m) (nextF m)) nextF
noncomputable abbrev B_check_row_6 (K : Frag) (C : Or) (m : Loc) : Mo (Fl × Loc) := seqF (bnd (bnd (mvs [bnd (mvs [ofO (lk m "kinds")]) fun s294 => bLen s294]) fun s293 => tRange s293) fun a292 => bnd (iterV a292) fun i295 => forV "place" (B_check_row_5 K C) 4096 i295 m) nextF
noncomputable abbrev B_check_row_7 (K : Frag) (C : Or) (m : Loc) : Mo (Fl × Loc) := seqF (bnd (bnd (bnd (mvs [ofO (lk m "ins")]) fun s288 => bLen s288) fun a287 => bnd (bnd (bnd (mvs [ofO (lk m "kinds")]) fun s291 => bLen s291) fun a290 => binV .Add a290 (.int 1)) fun a289 => cmpV .NotEq a287 a289) fun c286 => ifF c286 ((B_check_row_3 K C) m) (nextF m)) (B_check_row_6 K C)
noncomputable abbrev B_check_row_8 (K : Frag) (C : Or) (m : Loc) : Mo (Fl × Loc) := seqF (bnd (bnd (ofO (lk m "table")) fun a284 => bnd (ofO (lk m "name")) fun a285 => itemV a284 a285) fun v283 => ret (Fl.next, put m "kinds" v283)) (B_check_row_7 K C)
noncomputable abbrev B_check_row_9 (K : Frag) (C : Or) (m : Loc) : Mo (Fl × Loc) := seqF (bnd (bnd (ofO (lk m "name")) fun a281 => bnd (ofO (lk m "table")) fun a282 => cmpV .NotIn a281 a282) fun c280 => ifF c280 ((B_check_row_2 K C) m) (nextF m)) (B_check_row_8 K C)
noncomputable abbrev B_check_row_10 (K : Frag) (C : Or) (m : Loc) : Mo (Fl × Loc) := seqF (bnd (bnd (ofO (lk m "ins")) fun a279 => itemV a279 (.int 0)) fun v278 => ret (Fl.next, put m "name" v278)) (B_check_row_9 K C)
noncomputable def B_check_row (K : Frag) (C : Or) (m : Loc) : Mo (Fl × Loc) := seqF (bnd (allV .Or [bnd (bnd (bnd (mvs [ofO (lk m "ins"), ret (.ty "tuple")]) fun s272 => bIsi s272) asB) fun c271 => ret (!c271), bnd (bnd (mvs [ofO (lk m "ins")]) fun s274 => bLen s274) fun a273 => cmpV .Eq a273 (.int 0), bnd (bnd (bnd (mvs [bnd (ofO (lk m "ins")) fun a277 => itemV a277 (.int 0), ret (.ty "str")]) fun s276 => bIsi s276) asB) fun c275 => ret (!c275)]) fun c270 => ifF c270 ((B_check_row_1 K C) m) (nextF m)) (B_check_row_10 K C)


noncomputable def B_register_text (K : Frag) (C : Or) (m : Loc) : Mo (Fl × Loc) := seqF (bnd (bnd (bnd (ofO (lk m "register")) fun a306 => itemV a306 (.int 0)) fun a305 => bnd (bnd (mvs [bnd (ofO (lk m "register")) fun a309 => itemV a309 (.int 1)]) fun s308 => C 28 s308) fun a307 => binV .Add a305 a307) fun v304 => ret (Fl.ret v304, m)) nextF

noncomputable abbrev B_ClauseChecker_init_1 (K : Frag) (C : Or) (m : Loc) : Mo (Fl × Loc) := seqF (bnd (ret (.bool true)) fun v318 => bnd (bnd (ofO (lk m "self")) fun a320 => attrV K a320 "xs") fun a319 => bnd (ofO (lk m "place")) fun a321 => bnd (setItemV a319 a321 v318) fun zz => ret (Fl.next, m)) nextF
noncomputable abbrev B_ClauseChecker_init_2 (K : Frag) (C : Or) (m : Loc) : Mo (Fl × Loc) := seqF (bnd (ret (.str "")) fun v334 => bnd (ofO (lk m "self")) fun a335 => bnd (setAttrV K a335 "fault" v334) fun zz => ret (Fl.next, m)) nextF
noncomputable abbrev B_ClauseChecker_init_3 (K : Frag) (C : Or) (m : Loc) : Mo (Fl × Loc) := seqF (bnd (ret (.bool false)) fun v332 => bnd (ofO (lk m "self")) fun a333 => bnd (setAttrV K a333 "ended" v332) fun zz => ret (Fl.next, m)) (B_ClauseChecker_init_2 K C)
noncomputable abbrev B_ClauseChecker_init_4 (K : Frag) (C : Or) (m : Loc) : Mo (Fl × Loc) := seqF (bnd (ret (.int 0)) fun v330 => bnd (ofO (lk m "self")) fun a331 => bnd (setAttrV K a331 "building" v330) fun zz => ret (Fl.next, m)) (B_ClauseChecker_init_3 K C)
noncomputable abbrev B_ClauseChecker_init_5 (K : Frag) (C : Or) (m : Loc) : Mo (Fl × Loc) := seqF (bnd (ret (.str "")) fun v328 => bnd (ofO (lk m "self")) fun a329 => bnd (setAttrV K a329 "family" v328) fun zz => ret (Fl.next, m)) (B_ClauseChecker_init_4 K C)
noncomputable abbrev B_ClauseChecker_init_6 (K : Frag) (C : Or) (m : Loc) : Mo (Fl × Loc) := seqF (bnd (ret (.int 0)) fun v326 => bnd (ofO (lk m "self")) fun a327 => bnd (setAttrV K a327 "due" v326) fun zz => ret (Fl.next, m)) (B_ClauseChecker_init_5 K C)
noncomputable abbrev B_ClauseChecker_init_7 (K : Frag) (C : Or) (m : Loc) : Mo (Fl × Loc) := seqF (bnd (unV .USub (.int 1)) fun v324 => bnd (ofO (lk m "self")) fun a325 => bnd (setAttrV K a325 "size" v324) fun zz => ret (Fl.next, m)) (B_ClauseChecker_init_6 K C)
noncomputable abbrev B_ClauseChecker_init_8 (K : Frag) (C : Or) (m : Loc) : Mo (Fl × Loc) := seqF (bnd (nw .dnew) fun v322 => bnd (ofO (lk m "self")) fun a323 => bnd (setAttrV K a323 "ys" v322) fun zz => ret (Fl.next, m)) (B_ClauseChecker_init_7 K C)
noncomputable abbrev B_ClauseChecker_init_9 (K : Frag) (C : Or) (m : Loc) : Mo (Fl × Loc) := seqF (bnd (bnd (mvs [ret (.int 1), bnd (ofO (lk m "arity")) fun a316 => binV .Add a316 (.int 1)]) fun s315 => tRange s315) fun a314 => bnd (iterV a314) fun i317 => forV "place" (B_ClauseChecker_init_1 K C) 4096 i317 m) (B_ClauseChecker_init_8 K C)
noncomputable abbrev B_ClauseChecker_init_10 (K : Frag) (C : Or) (m : Loc) : Mo (Fl × Loc) := seqF (bnd (nw .dnew) fun v312 => bnd (ofO (lk m "self")) fun a313 => bnd (setAttrV K a313 "xs" v312) fun zz => ret (Fl.next, m)) (B_ClauseChecker_init_9 K C)
noncomputable def B_ClauseChecker_init (K : Frag) (C : Or) (m : Loc) : Mo (Fl × Loc) := seqF (bnd (ofO (lk m "symbols")) fun v310 => bnd (ofO (lk m "self")) fun a311 => bnd (setAttrV K a311 "symbols" v310) fun zz => ret (Fl.next, m)) (B_ClauseChecker_init_10 K C)

noncomputable abbrev B_ClauseChecker_complain_1 (K : Frag) (C : Or) (m : Loc) : Mo (Fl × Loc) := seqF (bnd (ofO (lk m "text")) fun v339 => bnd (ofO (lk m "self")) fun a340 => bnd (setAttrV K a340 "fault" v339) fun zz => ret (Fl.next, m)) nextF
noncomputable def B_ClauseChecker_complain (K : Frag) (C : Or) (m : Loc) : Mo (Fl × Loc) := seqF (bnd (bnd (bnd (ofO (lk m "self")) fun a338 => attrV K a338 "fault") fun a337 => cmpV .Eq a337 (.str "")) fun c336 => ifF c336 ((B_ClauseChecker_complain_1 K C) m) (nextF m)) nextF

noncomputable abbrev B_ClauseChecker_read_1 (K : Frag) (C : Or) (m : Loc) : Mo (Fl × Loc) := seqF (bnd (bnd (ofO (lk m "self")) fun a350 => bnd (methOf K a350 "complain") fun f351 => bnd (mvs [bnd (bnd (mvs [ofO (lk m "register")]) fun s354 => C 250 s354) fun a353 => binV .Add a353 (.str " is read before it is written")]) fun s352 => callM K C f351 a350 s352) fun v349 => grd (noRef v349) (ret (Fl.next, m))) nextF
noncomputable abbrev B_ClauseChecker_read_2 (K : Frag) (C : Or) (m : Loc) : Mo (Fl × Loc) := seqF (bnd (bnd (ofO (lk m "self")) fun a361 => bnd (methOf K a361 "complain") fun f362 => bnd (mvs [bnd (bnd (mvs [ofO (lk m "register")]) fun s365 => C 250 s365) fun a364 => binV .Add a364 (.str " is read while its structure is built")]) fun s363 => callM K C f362 a361 s363) fun v360 => grd (noRef v360) (ret (Fl.next, m))) nextF
noncomputable abbrev B_ClauseChecker_read_3 (K : Frag) (C : Or) (m : Loc) : Mo (Fl × Loc) := seqF (bnd (bnd (bnd (ofO (lk m "register")) fun a357 => itemV a357 (.int 1)) fun a356 => bnd (bnd (ofO (lk m "self")) fun a359 => attrV K a359 "building") fun a358 => cmpV .Eq a356 a358) fun c355 => ifF c355 ((B_ClauseChecker_read_2 K C) m) (nextF m)) nextF
noncomputable abbrev B_ClauseChecker_read_4 (K : Frag) (C : Or) (m : Loc) : Mo (Fl × Loc) := seqF (bnd (bnd (bnd (ofO (lk m "register")) fun a346 => itemV a346 (.int 1)) fun a345 => bnd (bnd (ofO (lk m "self")) fun a348 => attrV K a348 "xs") fun a347 => cmpV .NotIn a345 a347) fun c344 => ifF c344 ((B_ClauseChecker_read_1 K C) m) ((B_ClauseChecker_read_3 K C) m)) nextF
noncomputable abbrev B_ClauseChecker_read_5 (K : Frag) (C : Or) (m : Loc) : Mo (Fl × Loc) := seqF (bnd (bnd (ofO (lk m "self")) fun a372 => bnd (methOf K a372 "complain") fun f373 => bnd (mvs [bnd (bnd (mvs [ofO (lk m "register")]) fun s376 => C 250 s376) fun a375 => binV .Add a375 (.str " is read outside of the environment")]) fun s374 => callM K C f373 a372 s374) fun v371 => grd (noRef v371) (ret (Fl.next, m))) nextF
noncomputable abbrev B_ClauseChecker_read_6 (K : Frag) (C : Or) (m : Loc) : Mo (Fl × Loc) := seqF (bnd (bnd (ofO (lk m "self")) fun a383 => bnd (methOf K a383 "complain") fun f384 => bnd (mvs [bnd (bnd (mvs [ofO (lk m "register")]) fun s387 => C 250 s387) fun a386 => binV .Add a386 (.str " is read before it is written")]) fun s385 => callM K C f384 a383 s385) fun v382 => grd (noRef v382) (ret (Fl.next, m))) nextF
noncomputable abbrev B_ClauseChecker_read_7 (K : Frag) (C : Or) (m : Loc) : Mo (Fl × Loc) := seqF (bnd (bnd (bnd (ofO (lk m "register")) fun a379 => itemV a379 (.int 1)) fun a378 => bnd (bnd (ofO (lk m "self")) fun a381 => attrV K a381 "ys") fun a380 => cmpV .NotIn a378 a380) fun c377 => ifF c377 ((B_ClauseChecker_read_6 K C) m) (nextF m)) nextF
noncomputable abbrev B_ClauseChecker_read_8 (K : Frag) (C : Or) (m : Loc) : Mo (Fl × Loc) := seqF (bnd (bnd (bnd (ofO (lk m "self")) fun a368 => attrV K a368 "size") fun a367 => bnd (bnd (ofO (lk m "register")) fun a370 => itemV a370 (.int 1)) fun a369 => cmpV .Lt a367 a369) fun c366 => ifF c366 ((B_ClauseChecker_read_5 K C) m) ((B_ClauseChecker_read_7 K C) m)) nextF
noncomputable def B_ClauseChecker_read (K : Frag) (C : Or) (m : Loc) : Mo (Fl × Loc) := seqF (bnd (bnd (bnd (ofO (lk m "register")) fun a343 => itemV a343 (.int 0)) fun a342 => cmpV .Eq a342 (.str "x")) fun c341 => ifF c341 ((B_ClauseChecker_read_4 K C) m) ((B_ClauseChecker_read_8 K C) m)) nextF

noncomputable abbrev B_ClauseChecker_write_1 (K : Frag) (C : Or) (m : Loc) : Mo (Fl × Loc) := seqF (bnd (ret (.int 0)) fun v396 => bnd (ofO (lk m "self")) fun a397 => bnd (setAttrV K a397 "building" v396) fun zz => ret (Fl.next, m)) nextF
noncomputable abbrev B_ClauseChecker_write_2 (K : Frag) (C : Or) (m : Loc) : Mo (Fl × Loc) := seqF (bnd (ret (.bool true)) fun v398 => bnd (bnd (ofO (lk m "self")) fun a400 => attrV K a400 "xs") fun a399 => bnd (bnd (ofO (lk m "register")) fun a402 => itemV a402 (.int 1)) fun a401 => bnd (setItemV a399 a401 v398) fun zz => ret (Fl.next, m)) nextF
noncomputable abbrev B_ClauseChecker_write_3 (K : Frag) (C : Or) (m : Loc) : Mo (Fl × Loc) := seqF (bnd (bnd (bnd (ofO (lk m "register")) fun a393 => itemV a393 (.int 1)) fun a392 => bnd (bnd (ofO (lk m "self")) fun a395 => attrV K a395 "building") fun a394 => cmpV .Eq a392 a394) fun c391 => ifF c391 ((B_ClauseChecker_write_1 K C) m) (nextF m)) (B_ClauseChecker_write_2 K C)
noncomputable abbrev B_ClauseChecker_write_4 (K : Frag) (C : Or) (m : Loc) : Mo (Fl × Loc) := seqF (bnd (bnd (ofO (lk m "self")) fun a409 => bnd (methOf K a409 "complain") fun f410 => bnd (mvs [bnd (bnd (mvs [ofO (lk m "register")]) fun s413 => C 250 s413) fun a412 => binV .Add a412 (.str " is written outside of the environment")]) fun s411 => callM K C f410 a409 s411) fun v408 => grd (noRef v408) (ret (Fl.next, m))) nextF
noncomputable abbrev B_ClauseChecker_write_5 (K : Frag) (C : Or) (m : Loc) : Mo (Fl × Loc) := seqF (bnd (ret (.bool true)) fun v414 => bnd (bnd (ofO (lk m "self")) fun a416 => attrV K a416 "ys") fun a415 => bnd (bnd (ofO (lk m "register")) fun a418 => itemV a418 (.int 1)) fun a417 => bnd (setItemV a415 a417 v414) fun zz => ret (Fl.next, m)) nextF
noncomputable abbrev B_ClauseChecker_write_6 (K : Frag) (C : Or) (m : Loc) : Mo (Fl × Loc) := seqF (bnd (bnd (bnd (ofO (lk m "self")) fun a405 => attrV K a405 "size") fun a404 => bnd (bnd (ofO (lk m "register")) fun a407 => itemV a407 (.int 1)) fun a406 => cmpV .Lt a404 a406) fun c403 => ifF c403 ((B_ClauseChecker_write_4 K C) m) ((B_ClauseChecker_write_5 K C) m)) nextF
noncomputable def B_ClauseChecker_write (K : Frag) (C : Or) (m : Loc) : Mo (Fl × Loc) := seqF (bnd (bnd (bnd (ofO (lk m "register")) fun a390 => itemV a390 (.int 0)) fun a389 => cmpV .Eq a389 (.str "x")) fun c388 => ifF c388 ((B_ClauseChecker_write_3 K C) m) ((B_ClauseChecker_write_6 K C) m)) nextF

noncomputable abbrev B_ClauseChecker_arity_of_1 (K : Frag) (C : Or) (m : Loc) : Mo (Fl × Loc) := seqF (bnd (unV .USub (.int 1)) fun v431 => ret (Fl.ret v431, m)) nextF
noncomputable abbrev B_ClauseChecker_arity_of_2 (K : Frag) (C : Or) (m : Loc) : Mo (Fl × Loc) := seqF (bnd (bnd (ofO (lk m "self")) fun a428 => bnd (methOf K a428 "complain") fun f429 => bnd (mvs [ret (.str "unknown functor")]) fun s430 => callM K C f429 a428 s430) fun v427 => grd (noRef v427) (ret (Fl.next, m))) (B_ClauseChecker_arity_of_1 K C)
noncomputable abbrev B_ClauseChecker_arity_of_3 (K : Frag) (C : Or) (m : Loc) : Mo (Fl × Loc) := seqF (bnd (bnd (bnd (ofO (lk m "self")) fun a434 => attrV K a434 "symbols") fun a433 => bnd (methOf K a433 "arity") fun f435 => bnd (mvs [ofO (lk m "functor")]) fun s436 => callM K C f435 a433 s436) fun v432 => ret (Fl.ret v432, m)) nextF
noncomputable def B_ClauseChecker_arity_of (K : Frag) (C : Or) (m : Loc) : Mo (Fl × Loc) := seqF (bnd (allV .Or [bnd (ofO (lk m "functor")) fun a420 => cmpV .Lt a420 (.int 0), bnd (ofO (lk m "functor")) fun a421 => bnd (bnd (bnd (ofO (lk m "self")) fun a424 => attrV K a424 "symbols") fun a423 => bnd (methOf K a423 "functor_count") fun f425 => bnd (mvs []) fun s426 => callM K C f425 a423 s426) fun a422 => cmpV .GtE a421 a422]) fun c419 => ifF c419 ((B_ClauseChecker_arity_of_2 K C) m) (nextF m)) (B_ClauseChecker_arity_of_3 K C)

noncomputable abbrev B_ClauseChecker_arguments_1 (K : Frag) (C : Or) (m : Loc) : Mo (Fl × Loc) := seqF (ret (Fl.ret .none, m)) nextF
noncomputable abbrev B_ClauseChecker_arguments_2 (K : Frag) (C : Or) (m : Loc) : Mo (Fl × Loc) := seqF (bnd (bnd (ofO (lk m "self")) fun a449 => bnd (methOf K a449 "complain") fun f450 => bnd (mvs [bnd (bnd (bnd (mvs [ofO (lk m "place")]) fun s454 => C 28 s454) fun a453 => binV .Add (.str "argument ") a453) fun a452 => binV .Add a452 (.str " is lacking")]) fun s451 => callM K C f450 a449 s451) fun v448 => grd (noRef v448) (ret (Fl.next, m))) (B_ClauseChecker_arguments_1 K C)
noncomputable abbrev B_ClauseChecker_arguments_3 (K : Frag) (C : Or) (m : Loc) : Mo (Fl × Loc) := seqF (bnd (bnd (ofO (lk m "place")) fun a445 => bnd (bnd (ofO (lk m "self")) fun a447 => attrV K a447 "xs") fun a446 => cmpV .NotIn a445 a446) fun c444 => ifF c444 ((B_ClauseChecker_arguments_2 K C) m) (nextF m)) nextF
noncomputable def B_ClauseChecker_arguments (K : Frag) (C : Or) (m : Loc) : Mo (Fl × Loc) := seqF (bnd (bnd (mvs [ret (.int 1), bnd (bnd (ofO (lk m "self")) fun a440 => bnd (methOf K a440 "arity_of") fun f441 => bnd (mvs [ofO (lk m "functor")]) fun s442 => callM K C f441 a440 s442) fun a439 => binV .Add a439 (.int 1)]) fun s438 => tRange s438) fun a437 => bnd (iterV a437) fun i443 => forV "place" (B_ClauseChecker_arguments_3 K C) 4096 i443 m) nextF

noncomputable abbrev B_ClauseChecker_open_structure_1 (K : Frag) (C : Or) (m : Loc) : Mo (Fl × Loc) := seqF (bnd (bnd (ofO (lk m "self")) fun a458 => bnd (methOf K a458 "complain") fun f459 => bnd (mvs [ret (.str "a structure without arguments")]) fun s460 => callM K C f459 a458 s460) fun v457 => grd (noRef v457) (ret (Fl.next, m))) nextF
noncomputable abbrev B_ClauseChecker_open_structure_2 (K : Frag) (C : Or) (m : Loc) : Mo (Fl × Loc) := seqF (bnd (ofO (lk m "family")) fun v463 => bnd (ofO (lk m "self")) fun a464 => bnd (setAttrV K a464 "family" v463) fun zz => ret (Fl.next, m)) nextF
noncomputable abbrev B_ClauseChecker_open_structure_3 (K : Frag) (C : Or) (m : Loc) : Mo (Fl × Loc) := seqF (bnd (ofO (lk m "count")) fun v461 => bnd (ofO (lk m "self")) fun a462 => bnd (setAttrV K a462 "due" v461) fun zz => ret (Fl.next, m)) (B_ClauseChecker_open_structure_2 K C)
noncomputable def B_ClauseChecker_open_structure (K : Frag) (C : Or) (m : Loc) : Mo (Fl × Loc) := seqF (bnd (bnd (ofO (lk m "count")) fun a456 => cmpV .Lt a456 (.int 1)) fun c455 => ifF c455 ((B_ClauseChecker_open_structure_1 K C) m) (nextF m)) (B_ClauseChecker_open_structure_3 K C)

noncomputable abbrev B_ClauseChecker_structure_step_1 (K : Frag) (C : Or) (m : Loc) : Mo (Fl × Loc) := seqF (bnd (bnd (ofO (lk m "ins")) fun a474 => itemV a474 (.int 1)) fun v473 => ret (Fl.next, put m "done" v473)) nextF
noncomputable abbrev B_ClauseChecker_structure_step_2 (K : Frag) (C : Or) (m : Loc) : Mo (Fl × Loc) := seqF (bnd (bnd (ofO (lk m "self")) fun a478 => bnd (methOf K a478 "write") fun f479 => bnd (mvs [bnd (ofO (lk m "ins")) fun a481 => itemV a481 (.int 1)]) fun s480 => callM K C f479 a478 s480) fun v477 => grd (noRef v477) (ret (Fl.next, m))) nextF
noncomputable abbrev B_ClauseChecker_structure_step_3 (K : Frag) (C : Or) (m : Loc) : Mo (Fl × Loc) := seqF (bnd (bnd (ofO (lk m "self")) fun a486 => bnd (methOf K a486 "read") fun f487 => bnd (mvs [bnd (ofO (lk m "ins")) fun a489 => itemV a489 (.int 1)]) fun s488 => callM K C f487 a486 s488) fun v485 => grd (noRef v485) (ret (Fl.next, m))) nextF
noncomputable abbrev B_ClauseChecker_structure_step_4 (K : Frag) (C : Or) (m : Loc) : Mo (Fl × Loc) := seqF (bnd (allV .Or [bnd (ofO (lk m "kind")) fun a483 => cmpV .Eq a483 (.str "value"), bnd (ofO (lk m "kind")) fun a484 => cmpV .Eq a484 (.str "local_value")]) fun c482 => ifF c482 ((B_ClauseChecker_structure_step_3 K C) m) (nextF m)) nextF
noncomputable abbrev B_ClauseChecker_structure_step_5 (K : Frag) (C : Or) (m : Loc) : Mo (Fl × Loc) := seqF (bnd (bnd (ofO (lk m "kind")) fun a476 => cmpV .Eq a476 (.str "variable")) fun c475 => ifF c475 ((B_ClauseChecker_structure_step_2 K C) m) ((B_ClauseChecker_structure_step_4 K C) m)) nextF
noncomputable abbrev B_ClauseChecker_structure_step_6 (K : Frag) (C : Or) (m : Loc) : Mo (Fl × Loc) := seqF (bnd (bnd (ofO (lk m "self")) fun a500 => attrV K a500 "due") fun v499 => ret (Fl.next, put m "done" v499)) nextF
noncomputable abbrev B_ClauseChecker_structure_step_7 (K : Frag) (C : Or) (m : Loc) : Mo (Fl × Loc) := seqF (bnd (bnd (ofO (lk m "self")) fun a496 => bnd (methOf K a496 "complain") fun f497 => bnd (mvs [ret (.str "too many arguments in a structure")]) fun s498 => callM K C f497 a496 s498) fun v495 => grd (noRef v495) (ret (Fl.next, m))) (B_ClauseChecker_structure_step_6 K C)
noncomputable abbrev B_ClauseChecker_structure_step_8 (K : Frag) (C : Or) (m : Loc) : Mo (Fl × Loc) := seqF (bnd (ret (.int 0)) fun v508 => bnd (ofO (lk m "self")) fun a509 => bnd (setAttrV K a509 "building" v508) fun zz => ret (Fl.next, m)) nextF
noncomputable abbrev B_ClauseChecker_structure_step_9 (K : Frag) (C : Or) (m : Loc) : Mo (Fl × Loc) := seqF (bnd (bnd (bnd (ofO (lk m "self")) fun a507 => attrV K a507 "due") fun a506 => cmpV .Eq a506 (.int 0)) fun c505 => ifF c505 ((B_ClauseChecker_structure_step_8 K C) m) (nextF m)) nextF
noncomputable abbrev B_ClauseChecker_structure_step_10 (K : Frag) (C : Or) (m : Loc) : Mo (Fl × Loc) := seqF (bnd (ofO (lk m "self")) fun a502 => bnd (attrV K a502 "due") fun a503 => bnd (ofO (lk m "done")) fun a504 => bnd (augV .Sub a503 a504) fun v501 => bnd (setAttrV K a502 "due" v501) fun zz => ret (Fl.next, m)) (B_ClauseChecker_structure_step_9 K C)
noncomputable abbrev B_ClauseChecker_structure_step_11 (K : Frag) (C : Or) (m : Loc) : Mo (Fl × Loc) := seqF (bnd (allV .Or [bnd (ofO (lk m "done")) fun a491 => cmpV .Lt a491 (.int 1), bnd (ofO (lk m "done")) fun a492 => bnd (bnd (ofO (lk m "self")) fun a494 => attrV K a494 "due") fun a493 => cmpV .Gt a492 a493]) fun c490 => ifF c490 ((B_ClauseChecker_structure_step_7 K C) m) (nextF m)) (B_ClauseChecker_structure_step_10 K C)
noncomputable abbrev B_ClauseChecker_structure_step_12 (K : Frag) (C : Or) (m : Loc) : Mo (Fl × Loc) := seqF (bnd (bnd (ofO (lk m "kind")) fun a472 => cmpV .Eq a472 (.str "void")) fun c471 => ifF c471 ((B_ClauseChecker_structure_step_1 K C) m) ((B_ClauseChecker_structure_step_5 K C) m)) (B_ClauseChecker_structure_step_11 K C)
noncomputable abbrev B_ClauseChecker_structure_step_13 (K : Frag) (C : Or) (m : Loc) : Mo (Fl × Loc) := seqF (bnd (ret (.int 1)) fun v470 => ret (Fl.next, put m "done" v470)) (B_ClauseChecker_structure_step_12 K C)
noncomputable def B_ClauseChecker_structure_step (K : Frag) (C : Or) (m : Loc) : Mo (Fl × Loc) := seqF (bnd (bnd (bnd (ofO (lk m "ins")) fun a469 => itemV a469 (.int 0)) fun a466 => optI (bnd (mvs [bnd (ofO (lk m "self")) fun a468 => attrV K a468 "family"]) fun s467 => bLen s467) fun l => sliceV a466 l none) fun v465 => ret (Fl.next, put m "kind" v465)) (B_ClauseChecker_structure_step_13 K C)

noncomputable abbrev B_ClauseChecker_get_step_1 (K : Frag) (C : Or) (m : Loc) : Mo (Fl × Loc) := seqF (bnd (bnd (ofO (lk m "self")) fun a523 => bnd (methOf K a523 "write") fun f524 => bnd (mvs [bnd (ofO (lk m "ins")) fun a526 => itemV a526 (.int 1)]) fun s525 => callM K C f524 a523 s525) fun v522 => grd (noRef v522) (ret (Fl.next, m))) nextF
noncomputable abbrev B_ClauseChecker_get_step_2 (K : Frag) (C : Or) (m : Loc) : Mo (Fl × Loc) := seqF (bnd (bnd (ofO (lk m "self")) fun a530 => bnd (methOf K a530 "read") fun f531 => bnd (mvs [bnd (ofO (lk m "ins")) fun a533 => itemV a533 (.int 1)]) fun s532 => callM K C f531 a530 s532) fun v529 => grd (noRef v529) (ret (Fl.next, m))) nextF
noncomputable abbrev B_ClauseChecker_get_step_3 (K : Frag) (C : Or) (m : Loc) : Mo (Fl × Loc) := seqF (bnd (bnd (ofO (lk m "self")) fun a537 => bnd (methOf K a537 "open_structure") fun f538 => bnd (mvs [ret (.int 2), ret (.str "unify_")]) fun s539 => callM K C f538 a537 s539) fun v536 => grd (noRef v536) (ret (Fl.next, m))) nextF
noncomputable abbrev B_ClauseChecker_get_step_4 (K : Frag) (C : Or) (m : Loc) : Mo (Fl × Loc) := seqF (bnd (bnd (ofO (lk m "self")) fun a550 => bnd (methOf K a550 "open_structure") fun f551 => bnd (mvs [ofO (lk m "count"), ret (.str "unify_")]) fun s552 => callM K C f551 a550 s552) fun v549 => grd (noRef v549) (ret (Fl.next, m))) nextF
noncomputable abbrev B_ClauseChecker_get_step_5 (K : Frag) (C : Or) (m : Loc) : Mo (Fl × Loc) := seqF (bnd (bnd (ofO (lk m "count")) fun a548 => cmpV .GtE a548 (.int 0)) fun c547 => ifF c547 ((B_ClauseChecker_get_step_4 K C) m) (nextF m)) nextF
noncomputable abbrev B_ClauseChecker_get_step_6 (K : Frag) (C : Or) (m : Loc) : Mo (Fl × Loc) := seqF (bnd (bnd (ofO (lk m "self")) fun a543 => bnd (methOf K a543 "arity_of") fun f544 => bnd (mvs [bnd (ofO (lk m "ins")) fun a546 => itemV a546 (.int 1)]) fun s545 => callM K C f544 a543 s545) fun v542 => ret (Fl.next, put m "count" v542)) (B_ClauseChecker_get_step_5 K C)
noncomputable abbrev B_ClauseChecker_get_step_7 (K : Frag) (C : Or) (m : Loc) : Mo (Fl × Loc) := seqF (bnd (bnd (ofO (lk m "name")) fun a541 => cmpV .Eq a541 (.str "get_structure")) fun c540 => ifF c540 ((B_ClauseChecker_get_step_6 K C) m) (nextF m)) nextF
noncomputable abbrev B_ClauseChecker_get_step_8 (K : Frag) (C : Or) (m : Loc) : Mo (Fl × Loc) := seqF (bnd (bnd (ofO (lk m "name")) fun a535 => cmpV .Eq a535 (.str "get_list")) fun c534 => ifF c534 ((B_ClauseChecker_get_step_3 K C) m) ((B_ClauseChecker_get_step_7 K C) m)) nextF
noncomputable abbrev B_ClauseChecker_get_step_9 (K : Frag) (C : Or) (m : Loc) : Mo (Fl × Loc) := seqF (bnd (bnd (ofO (lk m "name")) fun a528 => cmpV .Eq a528 (.str "get_value")) fun c527 => ifF c527 ((B_ClauseChecker_get_step_2 K C) m) ((B_ClauseChecker_get_step_8 K C) m)) nextF
noncomputable abbrev B_ClauseChecker_get_step_10 (K : Frag) (C : Or) (m : Loc) : Mo (Fl × Loc) := seqF (bnd (bnd (ofO (lk m "name")) fun a521 => cmpV .Eq a521 (.str "get_variable")) fun c520 => ifF c520 ((B_ClauseChecker_get_step_1 K C) m) ((B_ClauseChecker_get_step_9 K C) m)) nextF
noncomputable abbrev B_ClauseChecker_get_step_11 (K : Frag) (C : Or) (m : Loc) : Mo (Fl × Loc) := seqF (bnd (bnd (ofO (lk m "self")) fun a513 => bnd (methOf K a513 "read") fun f514 => bnd (mvs [bnd (ofO (lk m "ins")) fun a516 => bnd (bnd (bnd (mvs [ofO (lk m "ins")]) fun s519 => bLen s519) fun a518 => binV .Sub a518 (.int 1)) fun a517 => itemV a516 a517]) fun s515 => callM K C f514 a513 s515) fun v512 => grd (noRef v512) (ret (Fl.next, m))) (B_ClauseChecker_get_step_10 K C)
noncomputable def B_ClauseChecker_get_step (K : Frag) (C : Or) (m : Loc) : Mo (Fl × Loc) := seqF (bnd (bnd (ofO (lk m "ins")) fun a511 => itemV a511 (.int 0)) fun v510 => ret (Fl.next, put m "name" v510)) (B_ClauseChecker_get_step_11 K C)

noncomputable abbrev B_ClauseChecker_put_step_1 (K : Frag) (C : Or) (m : Loc) : Mo (Fl × Loc) := seqF (bnd (bnd (ofO (lk m "self")) fun a559 => bnd (methOf K a559 "read") fun f560 => bnd (mvs [bnd (ofO (lk m "ins")) fun a562 => itemV a562 (.int 1)]) fun s561 => callM K C f560 a559 s561) fun v558 => grd (noRef v558) (ret (Fl.next, m))) nextF
noncomputable abbrev B_ClauseChecker_put_step_2 (K : Frag) (C : Or) (m : Loc) : Mo (Fl × Loc) := seqF (bnd (bnd (ofO (lk m "self")) fun a566 => bnd (methOf K a566 "write") fun f567 => bnd (mvs [bnd (ofO (lk m "ins")) fun a569 => itemV a569 (.int 1)]) fun s568 => callM K C f567 a566 s568) fun v565 => grd (noRef v565) (ret (Fl.next, m))) nextF
noncomputable abbrev B_ClauseChecker_put_step_3 (K : Frag) (C : Or) (m : Loc) : Mo (Fl × Loc) := seqF (bnd (bnd (ofO (lk m "name")) fun a564 => cmpV .Eq a564 (.str "put_variable")) fun c563 => ifF c563 ((B_ClauseChecker_put_step_2 K C) m) (nextF m)) nextF
noncomputable abbrev B_ClauseChecker_put_step_4 (K : Frag) (C : Or) (m : Loc) : Mo (Fl × Loc) := seqF (bnd (bnd (bnd (ofO (lk m "ins")) fun a586 => itemV a586 (.int 1)) fun a585 => itemV a585 (.int 1)) fun v584 => bnd (ofO (lk m "self")) fun a587 => bnd (setAttrV K a587 "building" v584) fun zz => ret (Fl.next, m)) nextF
noncomputable abbrev B_ClauseChecker_put_step_5 (K : Frag) (C : Or) (m : Loc) : Mo (Fl × Loc) := seqF (bnd (bnd (ofO (lk m "self")) fun a581 => bnd (methOf K a581 "open_structure") fun f582 => bnd (mvs [ret (.int 2), ret (.str "set_")]) fun s583 => callM K C f582 a581 s583) fun v580 => grd (noRef v580) (ret (Fl.next, m))) (B_ClauseChecker_put_step_4 K C)
noncomputable abbrev B_ClauseChecker_put_step_6 (K : Frag) (C : Or) (m : Loc) : Mo (Fl × Loc) := seqF (bnd (bnd (ofO (lk m "self")) fun a598 => bnd (methOf K a598 "open_structure") fun f599 => bnd (mvs [ofO (lk m "count"), ret (.str "set_")]) fun s600 => callM K C f599 a598 s600) fun v597 => grd (noRef v597) (ret (Fl.next, m))) nextF
noncomputable abbrev B_ClauseChecker_put_step_7 (K : Frag) (C : Or) (m : Loc) : Mo (Fl × Loc) := seqF (bnd (bnd (bnd (ofO (lk m "ins")) fun a603 => itemV a603 (.int 2)) fun a602 => itemV a602 (.int 1)) fun v601 => bnd (ofO (lk m "self")) fun a604 => bnd (setAttrV K a604 "building" v601) fun zz => ret (Fl.next, m)) nextF
noncomputable abbrev B_ClauseChecker_put_step_8 (K : Frag) (C : Or) (m : Loc) : Mo (Fl × Loc) := seqF (bnd (bnd (ofO (lk m "count")) fun a596 => cmpV .GtE a596 (.int 0)) fun c595 => ifF c595 ((B_ClauseChecker_put_step_6 K C) m) (nextF m)) (B_ClauseChecker_put_step_7 K C)
noncomputable abbrev B_ClauseChecker_put_step_9 (K : Frag) (C : Or) (m : Loc) : Mo (Fl × Loc) := seqF (bnd (bnd (ofO (lk m "self")) fun a591 => bnd (methOf K a591 "arity_of") fun f592 => bnd (mvs [bnd (ofO (lk m "ins")) fun a594 => itemV a594 (.int 1)]) fun s593 => callM K C f592 a591 s593) fun v590 => ret (Fl.next, put m "count" v590)) (B_ClauseChecker_put_step_8 K C)
noncomputable abbrev B_ClauseChecker_put_step_10 (K : Frag) (C : Or) (m : Loc) : Mo (Fl × Loc) := seqF (bnd (bnd (ofO (lk m "name")) fun a589 => cmpV .Eq a589 (.str "put_structure")) fun c588 => ifF c588 ((B_ClauseChecker_put_step_9 K C) m) (nextF m)) nextF
noncomputable abbrev B_ClauseChecker_put_step_11 (K : Frag) (C : Or) (m : Loc) : Mo (Fl × Loc) := seqF (bnd (bnd (ofO (lk m "name")) fun a579 => cmpV .Eq a579 (.str "put_list")) fun c578 => ifF c578 ((B_ClauseChecker_put_step_5 K C) m) ((B_ClauseChecker_put_step_10 K C) m)) nextF
noncomputable abbrev B_ClauseChecker_put_step_12 (K : Frag) (C : Or) (m : Loc) : Mo (Fl × Loc) := seqF (bnd (bnd (ofO (lk m "self")) fun a571 => bnd (methOf K a571 "write") fun f572 => bnd (mvs [bnd (ofO (lk m "ins")) fun a574 => bnd (bnd (bnd (mvs [ofO (lk m "ins")]) fun s577 => bLen s577) fun a576 => binV .Sub a576 (.int 1)) fun a575 => itemV a574 a575]) fun s573 => callM K C f572 a571 s573) fun v570 => grd (noRef v570) (ret (Fl.next, m))) (B_ClauseChecker_put_step_11 K C)
noncomputable abbrev B_ClauseChecker_put_step_13 (K : Frag) (C : Or) (m : Loc) : Mo (Fl × Loc) := seqF (bnd (allV .Or [bnd (ofO (lk m "name")) fun a556 => cmpV .Eq a556 (.str "put_value"), bnd (ofO (lk m "name")) fun a557 => cmpV .Eq a557 (.str "put_unsafe_value")]) fun c555 => ifF c555 ((B_ClauseChecker_put_step_1 K C) m) ((B_ClauseChecker_put_step_3 K C) m)) (B_ClauseChecker_put_step_12 K C)
noncomputable def B_ClauseChecker_put_step (K : Frag) (C : Or) (m : Loc) : Mo (Fl × Loc) := seqF (bnd (bnd (ofO (lk m "ins")) fun a554 => itemV a554 (.int 0)) fun v553 => ret (Fl.next, put m "name" v553)) (B_ClauseChecker_put_step_13 K C)

noncomputable abbrev B_ClauseChecker_call_step_1 (K : Frag) (C : Or) (m : Loc) : Mo (Fl × Loc) := seqF (bnd (bnd (ofO (lk m "self")) fun a614 => bnd (methOf K a614 "complain") fun f615 => bnd (mvs [ret (.str "a call without an environment")]) fun s616 => callM K C f615 a614 s616) fun v613 => grd (noRef v613) (ret (Fl.next, m))) nextF
noncomputable abbrev B_ClauseChecker_call_step_2 (K : Frag) (C : Or) (m : Loc) : Mo (Fl × Loc) := seqF (bnd (bnd (ofO (lk m "self")) fun a623 => bnd (methOf K a623 "complain") fun f624 => bnd (mvs [ret (.str "more live slots than the environment has")]) fun s625 => callM K C f624 a623 s625) fun v622 => grd (noRef v622) (ret (Fl.next, m))) nextF
noncomputable abbrev B_ClauseChecker_call_step_3 (K : Frag) (C : Or) (m : Loc) : Mo (Fl × Loc) := seqF (bnd (bnd (bnd (ofO (lk m "ins")) fun a619 => itemV a619 (.int 2)) fun a618 => bnd (bnd (ofO (lk m "self")) fun a621 => attrV K a621 "size") fun a620 => cmpV .Gt a618 a620) fun c617 => ifF c617 ((B_ClauseChecker_call_step_2 K C) m) (nextF m)) nextF
noncomputable abbrev B_ClauseChecker_call_step_4 (K : Frag) (C : Or) (m : Loc) : Mo (Fl × Loc) := seqF (bnd (bnd (ofO (lk m "self")) fun a637 => attrV K a637 "ys") fun a636 => bnd (ofO (lk m "slot")) fun a638 => bnd (delItemV a636 a638) fun zz => ret (Fl.next, m)) nextF
noncomputable abbrev B_ClauseChecker_call_step_5 (K : Frag) (C : Or) (m : Loc) : Mo (Fl × Loc) := seqF (bnd (bnd (ofO (lk m "slot")) fun a633 => bnd (bnd (ofO (lk m "ins")) fun a635 => itemV a635 (.int 2)) fun a634 => cmpV .Gt a633 a634) fun c632 => ifF c632 ((B_ClauseChecker_call_step_4 K C) m) (nextF m)) nextF
noncomputable abbrev B_ClauseChecker_call_step_6 (K : Frag) (C : Or) (m : Loc) : Mo (Fl × Loc) := seqF (bnd (bnd (mvs [bnd (ofO (lk m "self")) fun a630 => attrV K a630 "ys"]) fun s629 => bSorted s629) fun a628 => bnd (iterV a628) fun i631 => forV "slot" (B_ClauseChecker_call_step_5 K C) 4096 i631 m) nextF
noncomputable abbrev B_ClauseChecker_call_step_7 (K : Frag) (C : Or) (m : Loc) : Mo (Fl × Loc) := seqF (bnd (nw .dnew) fun v626 => bnd (ofO (lk m "self")) fun a627 => bnd (setAttrV K a627 "xs" v626) fun zz => ret (Fl.next, m)) (B_ClauseChecker_call_step_6 K C)
noncomputable abbrev B_ClauseChecker_call_step_8 (K : Frag) (C : Or) (m : Loc) : Mo (Fl × Loc) := seqF (bnd (bnd (bnd (ofO (lk m "self")) fun a612 => attrV K a612 "size") fun a611 => cmpV .Lt a611 (.int 0)) fun c610 => ifF c610 ((B_ClauseChecker_call_step_1 K C) m) ((B_ClauseChecker_call_step_3 K C) m)) (B_ClauseChecker_call_step_7 K C)
noncomputable def B_ClauseChecker_call_step (K : Frag) (C : Or) (m : Loc) : Mo (Fl × Loc) := seqF (bnd (bnd (ofO (lk m "self")) fun a606 => bnd (methOf K a606 "arguments") fun f607 => bnd (mvs [bnd (ofO (lk m "ins")) fun a609 => itemV a609 (.int 1)]) fun s608 => callM K C f607 a606 s608) fun v605 => grd (noRef v605) (ret (Fl.next, m))) (B_ClauseChecker_call_step_8 K C)

noncomputable abbrev B_ClauseChecker_leave_step_1 (K : Frag) (C : Or) (m : Loc) : Mo (Fl × Loc) := seqF (bnd (bnd (ofO (lk m "self")) fun a643 => bnd (methOf K a643 "complain") fun f644 => bnd (mvs [ret (.str "the clause is left with its environment")]) fun s645 => callM K C f644 a643 s645) fun v642 => grd (noRef v642) (ret (Fl.next, m))) nextF
noncomputable abbrev B_ClauseChecker_leave_step_2 (K : Frag) (C : Or) (m : Loc) : Mo (Fl × Loc) := seqF (bnd (bnd (ofO (lk m "self")) fun a650 => bnd (methOf K a650 "arguments") fun f651 => bnd (mvs [bnd (ofO (lk m "ins")) fun a653 => itemV a653 (.int 1)]) fun s652 => callM K C f651 a650 s652) fun v649 => grd (noRef v649) (ret (Fl.next, m))) nextF
noncomputable abbrev B_ClauseChecker_leave_step_3 (K : Frag) (C : Or) (m : Loc) : Mo (Fl × Loc) := seqF (bnd (ret (.bool true)) fun v654 => bnd (ofO (lk m "self")) fun a655 => bnd (setAttrV K a655 "ended" v654) fun zz => ret (Fl.next, m)) nextF
noncomputable abbrev B_ClauseChecker_leave_step_4 (K : Frag) (C : Or) (m : Loc) : Mo (Fl × Loc) := seqF (bnd (bnd (bnd (ofO (lk m "ins")) fun a648 => itemV a648 (.int 0)) fun a647 => cmpV .Eq a647 (.str "execute")) fun c646 => ifF c646 ((B_ClauseChecker_leave_step_2 K C) m) (nextF m)) (B_ClauseChecker_leave_step_3 K C)
noncomputable def B_ClauseChecker_leave_step (K : Frag) (C : Or) (m : Loc) : Mo (Fl × Loc) := seqF (bnd (bnd (bnd (ofO (lk m "self")) fun a641 => attrV K a641 "size") fun a640 => cmpV .GtE a640 (.int 0)) fun c639 => ifF c639 ((B_ClauseChecker_leave_step_1 K C) m) (nextF m)) (B_ClauseChecker_leave_step_4 K C)

noncomputable abbrev B_ClauseChecker_control_step_1 (K : Frag) (C : Or) (m : Loc) : Mo (Fl × Loc) := seqF (bnd (bnd (ofO (lk m "self")) fun a664 => bnd (methOf K a664 "complain") fun f665 => bnd (mvs [ret (.str "a second environment")]) fun s666 => callM K C f665 a664 s666) fun v663 => grd (noRef v663) (ret (Fl.next, m))) nextF
noncomputable abbrev B_ClauseChecker_control_step_2 (K : Frag) (C : Or) (m : Loc) : Mo (Fl × Loc) := seqF (bnd (bnd (ofO (lk m "ins")) fun a668 => itemV a668 (.int 1)) fun v667 => bnd (ofO (lk m "self")) fun a669 => bnd (setAttrV K a669 "size" v667) fun zz => ret (Fl.next, m)) nextF
noncomputable abbrev B_ClauseChecker_control_step_3 (K : Frag) (C : Or) (m : Loc) : Mo (Fl × Loc) := seqF (bnd (bnd (bnd (ofO (lk m "self")) fun a662 => attrV K a662 "size") fun a661 => cmpV .GtE a661 (.int 0)) fun c660 => ifF c660 ((B_ClauseChecker_control_step_1 K C) m) (nextF m)) (B_ClauseChecker_control_step_2 K C)
noncomputable abbrev B_ClauseChecker_control_step_4 (K : Frag) (C : Or) (m : Loc) : Mo (Fl × Loc) := seqF (bnd (bnd (ofO (lk m "self")) fun a676 => bnd (methOf K a676 "complain") fun f677 => bnd (mvs [ret (.str "no environment to give back")]) fun s678 => callM K C f677 a676 s678) fun v675 => grd (noRef v675) (ret (Fl.next, m))) nextF
noncomputable abbrev B_ClauseChecker_control_step_5 (K : Frag) (C : Or) (m : Loc) : Mo (Fl × Loc) := seqF (bnd (nw .dnew) fun v681 => bnd (ofO (lk m "self")) fun a682 => bnd (setAttrV K a682 "ys" v681) fun zz => ret (Fl.next, m)) nextF
noncomputable abbrev B_ClauseChecker_control_step_6 (K : Frag) (C : Or) (m : Loc) : Mo (Fl × Loc) := seqF (bnd (unV .USub (.int 1)) fun v679 => bnd (ofO (lk m "self")) fun a680 => bnd (setAttrV K a680 "size" v679) fun zz => ret (Fl.next, m)) (B_ClauseChecker_control_step_5 K C)
noncomputable abbrev B_ClauseChecker_control_step_7 (K : Frag) (C : Or) (m : Loc) : Mo (Fl × Loc) := seqF (bnd (bnd (bnd (ofO (lk m "self")) fun a674 => attrV K a674 "size") fun a673 => cmpV .Lt a673 (.int 0)) fun c672 => ifF c672 ((B_ClauseChecker_control_step_4 K C) m) (nextF m)) (B_ClauseChecker_control_step_6 K C)
noncomputable abbrev B_ClauseChecker_control_step_8 (K : Frag) (C : Or) (m : Loc) : Mo (Fl × Loc) := seqF (bnd (bnd (ofO (lk m "self")) fun a686 => bnd (methOf K a686 "call_step") fun f687 => bnd (mvs [ofO (lk m "ins")]) fun s688 => callM K C f687 a686 s688) fun v685 => grd (noRef v685) (ret (Fl.next, m))) nextF
noncomputable abbrev B_ClauseChecker_control_step_9 (K : Frag) (C : Or) (m : Loc) : Mo (Fl × Loc) := seqF (bnd (bnd (ofO (lk m "self")) fun a693 => bnd (methOf K a693 "leave_step") fun f694 => bnd (mvs [ofO (lk m "ins")]) fun s695 => callM K C f694 a693 s695) fun v692 => grd (noRef v692) (ret (Fl.next, m))) nextF
noncomputable abbrev B_ClauseChecker_control_step_10 (K : Frag) (C : Or) (m : Loc) : Mo (Fl × Loc) := seqF (bnd (bnd (ofO (lk m "self")) fun a699 => bnd (methOf K a699 "arguments") fun f700 => bnd (mvs [bnd (ofO (lk m "ins")) fun a702 => itemV a702 (.int 1)]) fun s701 => callM K C f700 a699 s701) fun v698 => grd (noRef v698) (ret (Fl.next, m))) nextF
noncomputable abbrev B_ClauseChecker_control_step_11 (K : Frag) (C : Or) (m : Loc) : Mo (Fl × Loc) := seqF (bnd (bnd (ofO (lk m "self")) fun a707 => bnd (methOf K a707 "write") fun f708 => bnd (mvs [bnd (ofO (lk m "ins")) fun a710 => itemV a710 (.int 1)]) fun s709 => callM K C f708 a707 s709) fun v706 => grd (noRef v706) (ret (Fl.next, m))) nextF
noncomputable abbrev B_ClauseChecker_control_step_12 (K : Frag) (C : Or) (m : Loc) : Mo (Fl × Loc) := seqF (bnd (bnd (ofO (lk m "self")) fun a714 => bnd (methOf K a714 "read") fun f715 => bnd (mvs [bnd (ofO (lk m "ins")) fun a717 => itemV a717 (.int 1)]) fun s716 => callM K C f715 a714 s716) fun v713 => grd (noRef v713) (ret (Fl.next, m))) nextF
noncomputable abbrev B_ClauseChecker_control_step_13 (K : Frag) (C : Or) (m : Loc) : Mo (Fl × Loc) := seqF (bnd (ret (.bool true)) fun v721 => bnd (ofO (lk m "self")) fun a722 => bnd (setAttrV K a722 "ended" v721) fun zz => ret (Fl.next, m)) nextF
noncomputable abbrev B_ClauseChecker_control_step_14 (K : Frag) (C : Or) (m : Loc) : Mo (Fl × Loc) := seqF (bnd (bnd (ofO (lk m "self")) fun a726 => bnd (methOf K a726 "complain") fun f727 => bnd (mvs [bnd (ofO (lk m "name")) fun a729 => binV .Add a729 (.str " in a clause")]) fun s728 => callM K C f727 a726 s728) fun v725 => grd (noRef v725) (ret (Fl.next, m))) nextF
noncomputable abbrev B_ClauseChecker_control_step_15 (K : Frag) (C : Or) (m : Loc) : Mo (Fl × Loc) := seqF (bnd (bnd (ofO (lk m "name")) fun a724 => cmpV .NotEq a724 (.str "neck_cut")) fun c723 => ifF c723 ((B_ClauseChecker_control_step_14 K C) m) (nextF m)) nextF
noncomputable abbrev B_ClauseChecker_control_step_16 (K : Frag) (C : Or) (m : Loc) : Mo (Fl × Loc) := seqF (bnd (allV .Or [bnd (ofO (lk m "name")) fun a719 => cmpV .Eq a719 (.str "fail"), bnd (ofO (lk m "name")) fun a720 => cmpV .Eq a720 (.str "halt")]) fun c718 => ifF c718 ((B_ClauseChecker_control_step_13 K C) m) ((B_ClauseChecker_control_step_15 K C) m)) nextF
noncomputable abbrev B_ClauseChecker_control_step_17 (K : Frag) (C : Or) (m : Loc) : Mo (Fl × Loc) := seqF (bnd (bnd (ofO (lk m "name")) fun a712 => cmpV .Eq a712 (.str "cut_to")) fun c711 => ifF c711 ((B_ClauseChecker_control_step_12 K C) m) ((B_ClauseChecker_control_step_16 K C) m)) nextF
noncomputable abbrev B_ClauseChecker_control_step_18 (K : Frag) (C : Or) (m : Loc) : Mo (Fl × Loc) := seqF (bnd (allV .Or [bnd (ofO (lk m "name")) fun a704 => cmpV .Eq a704 (.str "get_level"), bnd (ofO (lk m "name")) fun a705 => cmpV .Eq a705 (.str "mark")]) fun c703 => ifF c703 ((B_ClauseChecker_control_step_11 K C) m) ((B_ClauseChecker_control_step_17 K C) m)) nextF
noncomputable abbrev B_ClauseChecker_control_step_19 (K : Frag) (C : Or) (m : Loc) : Mo (Fl × Loc) := seqF (bnd (bnd (ofO (lk m "name")) fun a697 => cmpV .Eq a697 (.str "builtin")) fun c696 => ifF c696 ((B_ClauseChecker_control_step_10 K C) m) ((B_ClauseChecker_control_step_18 K C) m)) nextF
noncomputable abbrev B_ClauseChecker_control_step_20 (K : Frag) (C : Or) (m : Loc) : Mo (Fl × Loc) := seqF (bnd (allV .Or [bnd (ofO (lk m "name")) fun a690 => cmpV .Eq a690 (.str "execute"), bnd (ofO (lk m "name")) fun a691 => cmpV .Eq a691 (.str "proceed")]) fun c689 => ifF c689 ((B_ClauseChecker_control_step_9 K C) m) ((B_ClauseChecker_control_step_19 K C) m)) nextF
noncomputable abbrev B_ClauseChecker_control_step_21 (K : Frag) (C : Or) (m : Loc) : Mo (Fl × Loc) := seqF (bnd (bnd (ofO (lk m "name")) fun a684 => cmpV .Eq a684 (.str "call")) fun c683 => ifF c683 ((B_ClauseChecker_control_step_8 K C) m) ((B_ClauseChecker_control_step_20 K C) m)) nextF
noncomputable abbrev B_ClauseChecker_control_step_22 (K : Frag) (C : Or) (m : Loc) : Mo (Fl × Loc) := seqF (bnd (bnd (ofO (lk m "name")) fun a671 => cmpV .Eq a671 (.str "deallocate")) fun c670 => ifF c670 ((B_ClauseChecker_control_step_7 K C) m) ((B_ClauseChecker_control_step_21 K C) m)) nextF
noncomputable abbrev B_ClauseChecker_control_step_23 (K : Frag) (C : Or) (m : Loc) : Mo (Fl × Loc) := seqF (bnd (bnd (ofO (lk m "name")) fun a659 => cmpV .Eq a659 (.str "allocate")) fun c658 => ifF c658 ((B_ClauseChecker_control_step_3 K C) m) ((B_ClauseChecker_control_step_22 K C) m)) nextF
noncomputable def B_ClauseChecker_control_step (K : Frag) (C : Or) (m : Loc) : Mo (Fl × Loc) := seqF (bnd (bnd (ofO (lk m "ins")) fun a657 => itemV a657 (.int 0)) fun v656 => ret (Fl.next, put m "name" v656)) (B_ClauseChecker_control_step_23 K C)

noncomputable abbrev B_ClauseChecker_step_1 (K : Frag) (C : Or) (m : Loc) : Mo (Fl × Loc) := seqF (bnd (bnd (ofO (lk m "self")) fun a741 => bnd (methOf K a741 "structure_step") fun f742 => bnd (mvs [ofO (lk m "ins")]) fun s743 => callM K C f742 a741 s743) fun v740 => grd (noRef v740) (ret (Fl.next, m))) nextF
noncomputable abbrev B_ClauseChecker_step_2 (K : Frag) (C : Or) (m : Loc) : Mo (Fl × Loc) := seqF (bnd (bnd (ofO (lk m "self")) fun a745 => bnd (methOf K a745 "complain") fun f746 => bnd (mvs [ret (.str "a structure is not filled")]) fun s747 => callM K C f746 a745 s747) fun v744 => grd (noRef v744) (ret (Fl.next, m))) nextF
noncomputable abbrev B_ClauseChecker_step_3 (K : Frag) (C : Or) (m : Loc) : Mo (Fl × Loc) := seqF (bnd (bnd (bnd (ofO (lk m "name")) fun a736 => bnd (methOf K a736 "startswith") fun f737 => bnd (mvs [bnd (ofO (lk m "self")) fun a739 => attrV K a739 "family"]) fun s738 => callM K C f737 a736 s738) asB) fun c735 => ifF c735 ((B_ClauseChecker_step_1 K C) m) ((B_ClauseChecker_step_2 K C) m)) nextF
noncomputable abbrev B_ClauseChecker_step_4 (K : Frag) (C : Or) (m : Loc) : Mo (Fl × Loc) := seqF (bnd (bnd (ofO (lk m "self")) fun a756 => bnd (methOf K a756 "complain") fun f757 => bnd (mvs [ret (.str "an argument outside of a structure")]) fun s758 => callM K C f757 a756 s758) fun v755 => grd (noRef v755) (ret (Fl.next, m))) nextF
noncomputable abbrev B_ClauseChecker_step_5 (K : Frag) (C : Or) (m : Loc) : Mo (Fl × Loc) := seqF (bnd (bnd (ofO (lk m "self")) fun a762 => bnd (methOf K a762 "control_step") fun f763 => bnd (mvs [ofO (lk m "ins")]) fun s764 => callM K C f763 a762 s764) fun v761 => grd (noRef v761) (ret (Fl.next, m))) nextF
noncomputable abbrev B_ClauseChecker_step_6 (K : Frag) (C : Or) (m : Loc) : Mo (Fl × Loc) := seqF (bnd (bnd (ofO (lk m "self")) fun a770 => bnd (methOf K a770 "get_step") fun f771 => bnd (mvs [ofO (lk m "ins")]) fun s772 => callM K C f771 a770 s772) fun v769 => grd (noRef v769) (ret (Fl.next, m))) nextF
noncomputable abbrev B_ClauseChecker_step_7 (K : Frag) (C : Or) (m : Loc) : Mo (Fl × Loc) := seqF (bnd (bnd (ofO (lk m "self")) fun a778 => bnd (methOf K a778 "put_step") fun f779 => bnd (mvs [ofO (lk m "ins")]) fun s780 => callM K C f779 a778 s780) fun v777 => grd (noRef v777) (ret (Fl.next, m))) nextF
noncomputable abbrev B_ClauseChecker_step_8 (K : Frag) (C : Or) (m : Loc) : Mo (Fl × Loc) := seqF (bnd (bnd (ofO (lk m "self")) fun a782 => bnd (methOf K a782 "control_step") fun f783 => bnd (mvs [ofO (lk m "ins")]) fun s784 => callM K C f783 a782 s784) fun v781 => grd (noRef v781) (ret (Fl.next, m))) nextF
noncomputable abbrev B_ClauseChecker_step_9 (K : Frag) (C : Or) (m : Loc) : Mo (Fl × Loc) := seqF (bnd (bnd (bnd (ofO (lk m "name")) fun a774 => bnd (methOf K a774 "startswith") fun f775 => bnd (mvs [ret (.str "put_")]) fun s776 => callM K C f775 a774 s776) asB) fun c773 => ifF c773 ((B_ClauseChecker_step_7 K C) m) ((B_ClauseChecker_step_8 K C) m)) nextF
noncomputable abbrev B_ClauseChecker_step_10 (K : Frag) (C : Or) (m : Loc) : Mo (Fl × Loc) := seqF (bnd (bnd (bnd (ofO (lk m "name")) fun a766 => bnd (methOf K a766 "startswith") fun f767 => bnd (mvs [ret (.str "get_")]) fun s768 => callM K C f767 a766 s768) asB) fun c765 => ifF c765 ((B_ClauseChecker_step_6 K C) m) ((B_ClauseChecker_step_9 K C) m)) nextF
noncomputable abbrev B_ClauseChecker_step_11 (K : Frag) (C : Or) (m : Loc) : Mo (Fl × Loc) := seqF (bnd (bnd (ofO (lk m "name")) fun a760 => cmpV .Eq a760 (.str "get_level")) fun c759 => ifF c759 ((B_ClauseChecker_step_5 K C) m) ((B_ClauseChecker_step_10 K C) m)) nextF
noncomputable abbrev B_ClauseChecker_step_12 (K : Frag) (C : Or) (m : Loc) : Mo (Fl × Loc) := seqF (bnd (allV .Or [bnd (bnd (ofO (lk m "name")) fun a749 => bnd (methOf K a749 "startswith") fun f750 => bnd (mvs [ret (.str "unify_")]) fun s751 => callM K C f750 a749 s751) asB, bnd (bnd (ofO (lk m "name")) fun a752 => bnd (methOf K a752 "startswith") fun f753 => bnd (mvs [ret (.str "set_")]) fun s754 => callM K C f753 a752 s754) asB]) fun c748 => ifF c748 ((B_ClauseChecker_step_4 K C) m) ((B_ClauseChecker_step_11 K C) m)) nextF
noncomputable abbrev B_ClauseChecker_step_13 (K : Frag) (C : Or) (m : Loc) : Mo (Fl × Loc) := seqF (bnd (bnd (bnd (ofO (lk m "self")) fun a734 => attrV K a734 "due") fun a733 => cmpV .Gt a733 (.int 0)) fun c732 => ifF c732 ((B_ClauseChecker_step_3 K C) m) ((B_ClauseChecker_step_12 K C) m)) nextF
noncomputable def B_ClauseChecker_step (K : Frag) (C : Or) (m : Loc) : Mo (Fl × Loc) := seqF (bnd (bnd (ofO (lk m "ins")) fun a731 => itemV a731 (.int 0)) fun v730 => ret (Fl.next, put m "name" v730)) (B_ClauseChecker_step_13 K C)

noncomputable abbrev B_clause_fault_1 (K : Frag) (C : Or) (m : Loc) : Mo (Fl × Loc) := seqF (ret (Fl.cont, m)) nextF
noncomputable abbrev B_clause_fault_2 (K : Frag) (C : Or) (m : Loc) : Mo (Fl × Loc) := seqF (bnd (bnd (ofO (lk m "checker")) fun a802 => bnd (methOf K a802 "complain") fun f803 => bnd (mvs [ret (.str "code behind the end")]) fun s804 => callM K C f803 a802 s804) fun v801 => grd (noRef v801) (ret (Fl.next, m))) nextF
noncomputable abbrev B_clause_fault_3 (K : Frag) (C : Or) (m : Loc) : Mo (Fl × Loc) := seqF (bnd (bnd (ofO (lk m "checker")) fun a806 => bnd (methOf K a806 "step") fun f807 => bnd (mvs [bnd (ofO (lk m "instrs")) fun a809 => bnd (ofO (lk m "place")) fun a810 => itemV a809 a810]) fun s808 => callM K C f807 a806 s808) fun v805 => grd (noRef v805) (ret (Fl.next, m))) nextF
noncomputable abbrev B_clause_fault_4 (K : Frag) (C : Or) (m : Loc) : Mo (Fl × Loc) := seqF (bnd (joinV Str.empty [bnd (ofO (lk m "place")) fun a815 => fmtV a815, ret (.str ": "), bnd (bnd (ofO (lk m "checker")) fun a817 => attrV K a817 "fault") fun a816 => fmtV a816]) fun v814 => ret (Fl.ret v814, m)) nextF
noncomputable abbrev B_clause_fault_5 (K : Frag) (C : Or) (m : Loc) : Mo (Fl × Loc) := seqF (bnd (bnd (bnd (bnd (ofO (lk m "instrs")) fun a821 => bnd (ofO (lk m "place")) fun a822 => itemV a821 a822) fun a820 => itemV a820 (.int 0)) fun a819 => bnd (cmpV .Eq a819 (.str "fail")) fun c823 => ret (.bool c823)) fun v818 => ret (Fl.next, put m "dead" v818)) nextF
noncomputable abbrev B_clause_fault_6 (K : Frag) (C : Or) (m : Loc) : Mo (Fl × Loc) := seqF (bnd (bnd (bnd (ofO (lk m "checker")) fun a813 => attrV K a813 "fault") fun a812 => cmpV .NotEq a812 (.str "")) fun c811 => ifF c811 ((B_clause_fault_4 K C) m) (nextF m)) (B_clause_fault_5 K C)
noncomputable abbrev B_clause_fault_7 (K : Frag) (C : Or) (m : Loc) : Mo (Fl × Loc) := seqF (bnd (bnd (bnd (ofO (lk m "checker")) fun a800 => attrV K a800 "ended") asB) fun c799 => ifF c799 ((B_clause_fault_2 K C) m) ((B_clause_fault_3 K C) m)) (B_clause_fault_6 K C)
noncomputable abbrev B_clause_fault_8 (K : Frag) (C : Or) (m : Loc) : Mo (Fl × Loc) := seqF (bnd (bnd (ofO (lk m "dead")) asB) fun c798 => ifF c798 ((B_clause_fault_1 K C) m) (nextF m)) (B_clause_fault_7 K C)
noncomputable abbrev B_clause_fault_9 (K : Frag) (C : Or) (m : Loc) : Mo (Fl × Loc) := seqF (bnd (bnd (mvs [ofO (lk m "table"), bnd (ofO (lk m "instrs")) fun a796 => bnd (ofO (lk m "place")) fun a797 => itemV a796 a797, ret (.bool false)]) fun s795 => C 243 s795) fun v794 => grd (noRef v794) (ret (Fl.next, m))) (B_clause_fault_8 K C)
noncomputable abbrev B_clause_fault_10 (K : Frag) (C : Or) (m : Loc) : Mo (Fl × Loc) := seqF (bnd (joinV Str.empty [bnd (bnd (mvs [ofO (lk m "instrs")]) fun s829 => bLen s829) fun a828 => fmtV a828, ret (.str ": the clause has no end")]) fun v827 => ret (Fl.ret v827, m)) nextF
noncomputable abbrev B_clause_fault_11 (K : Frag) (C : Or) (m : Loc) : Mo (Fl × Loc) := seqF (bnd (ret (.str "")) fun v830 => ret (Fl.ret v830, m)) nextF
noncomputable abbrev B_clause_fault_12 (K : Frag) (C : Or) (m : Loc) : Mo (Fl × Loc) := seqF (bnd (bnd (bnd (bnd (ofO (lk m "checker")) fun a826 => attrV K a826 "ended") asB) fun c825 => ret (!c825)) fun c824 => ifF c824 ((B_clause_fault_10 K C) m) (nextF m)) (B_clause_fault_11 K C)
noncomputable abbrev B_clause_fault_13 (K : Frag) (C : Or) (m : Loc) : Mo (Fl × Loc) := seqF (bnd (bnd (mvs [bnd (mvs [ofO (lk m "instrs")]) fun s792 => bLen s792]) fun s791 => tRange s791) fun a790 => bnd (iterV a790) fun i793 => forV "place" (B_clause_fault_9 K C) 4096 i793 m) (B_clause_fault_12 K C)
noncomputable abbrev B_clause_fault_14 (K : Frag) (C : Or) (m : Loc) : Mo (Fl × Loc) := seqF (bnd (ret (.bool false)) fun v789 => ret (Fl.next, put m "dead" v789)) (B_clause_fault_13 K C)
noncomputable abbrev B_clause_fault_15 (K : Frag) (C : Or) (m : Loc) : Mo (Fl × Loc) := seqF (bnd (bnd (mvs [ofO (lk m "symbols"), ofO (lk m "arity")]) fun s788 => C 358 s788) fun v787 => ret (Fl.next, put m "checker" v787)) (B_clause_fault_14 K C)
noncomputable def B_clause_fault (K : Frag) (C : Or) (m : Loc) : Mo (Fl × Loc) := seqF (bnd (bnd (mvs []) fun s786 => C 173 s786) fun v785 => ret (Fl.next, put m "table" v785)) (B_clause_fault_15 K C)

abbrev Bod := Frag → Or → Loc → Mo (Fl × Loc)
abbrev Ent0 (K : Frag) (a : Addr) (B : Bod) : Prop := ∀ n : Nat, callN K (n + 1) a [] = bnd (B K (callN K n) []) outF
abbrev Ent1 (K : Frag) (a : Addr) (s0 : Str) (B : Bod) : Prop := ∀ (n : Nat) (x0 : V), callN K (n + 1) a [x0] = bnd (B K (callN K n) [(s0, x0)]) outF
abbrev Ent2 (K : Frag) (a : Addr) (s0 s1 : Str) (B : Bod) : Prop := ∀ (n : Nat) (x0 x1 : V), callN K (n + 1) a [x0, x1] = bnd (B K (callN K n) [(s0, x0), (s1, x1)]) outF
abbrev Ent3 (K : Frag) (a : Addr) (s0 s1 s2 : Str) (B : Bod) : Prop := ∀ (n : Nat) (x0 x1 x2 : V), callN K (n + 1) a [x0, x1, x2] = bnd (B K (callN K n) [(s0, x0), (s1, x1), (s2, x2)]) outF
structure Env (K : Frag) : Prop where
  e_number_text : Ent1 K 28 "value" B_number_text
  e_fixed_atoms : Ent0 K 68 B_fixed_atoms
  e_fixed_functors : Ent0 K 75 B_fixed_functors
  e_Symbols_init : Ent1 K 89 "self" B_Symbols_init
  e_Symbols_atom : Ent2 K 96 "self" "text" B_Symbols_atom
  e_Symbols_functor : Ent3 K 110 "self" "atom" "arity" B_Symbols_functor
  e_Symbols_func : Ent3 K 117 "self" "text" "arity" B_Symbols_func
  e_Symbols_arity : Ent2 K 131 "self" "functor" B_Symbols_arity
  e_Symbols_functor_count : Ent1 K 152 "self" B_Symbols_functor_count
  e_shapes : Ent0 K 173 B_shapes
  e_is_whole : Ent1 K 180 "value" B_is_whole
  e_is_pair : Ent1 K 187 "value" B_is_pair
  e_is_register : Ent2 K 194 "value" "names" B_is_register
  e_is_constant : Ent1 K 201 "value" B_is_constant
  e_is_functor : Ent1 K 208 "value" B_is_functor
  e_is_operand : Ent3 K 236 "value" "kind" "linked" B_is_operand
  e_check_row : Ent3 K 243 "table" "ins" "linked" B_check_row
  e_register_text : Ent1 K 250 "register" B_register_text
  e_ClauseChecker_init : Ent3 K 264 "self" "symbols" "arity" B_ClauseChecker_init
  e_ClauseChecker_complain : Ent2 K 271 "self" "text" B_ClauseChecker_complain
  e_ClauseChecker_read : Ent2 K 278 "self" "register" B_ClauseChecker_read
  e_ClauseChecker_write : Ent2 K 285 "self" "register" B_ClauseChecker_write
  e_ClauseChecker_arity_of : Ent2 K 292 "self" "functor" B_ClauseChecker_arity_of
  e_ClauseChecker_arguments : Ent2 K 299 "self" "functor" B_ClauseChecker_arguments
  e_ClauseChecker_open_structure : Ent3 K 306 "self" "count" "family" B_ClauseChecker_open_structure
  e_ClauseChecker_structure_step : Ent2 K 313 "self" "ins" B_ClauseChecker_structure_step
  e_ClauseChecker_get_step : Ent2 K 320 "self" "ins" B_ClauseChecker_get_step
  e_ClauseChecker_put_step : Ent2 K 327 "self" "ins" B_ClauseChecker_put_step
  e_ClauseChecker_call_step : Ent2 K 334 "self" "ins" B_ClauseChecker_call_step
  e_ClauseChecker_leave_step : Ent2 K 341 "self" "ins" B_ClauseChecker_leave_step
  e_ClauseChecker_control_step : Ent2 K 348 "self" "ins" B_ClauseChecker_control_step
  e_ClauseChecker_step : Ent2 K 355 "self" "ins" B_ClauseChecker_step
  e_clause_fault : Ent3 K 369 "symbols" "arity" "instrs" B_clause_fault
  k_96 : keepIn K (.ref 96) = true
  m_atom : methIn K 162 "atom" = some 96
  k_110 : keepIn K (.ref 110) = true
  m_functor : methIn K 162 "functor" = some 110
  k_117 : keepIn K (.ref 117) = true
  m_func : methIn K 162 "func" = some 117
  k_131 : keepIn K (.ref 131) = true
  m_arity : methIn K 162 "arity" = some 131
  k_152 : keepIn K (.ref 152) = true
  m_functor_count : methIn K 162 "functor_count" = some 152
  k_271 : keepIn K (.ref 271) = true
  m_complain : methIn K 358 "complain" = some 271
  k_278 : keepIn K (.ref 278) = true
  m_read : methIn K 358 "read" = some 278
  k_285 : keepIn K (.ref 285) = true
  m_write : methIn K 358 "write" = some 285
  k_292 : keepIn K (.ref 292) = true
  m_arity_of : methIn K 358 "arity_of" = some 292
  k_299 : keepIn K (.ref 299) = true
  m_arguments : methIn K 358 "arguments" = some 299
  k_306 : keepIn K (.ref 306) = true
  m_open_structure : methIn K 358 "open_structure" = some 306
  k_313 : keepIn K (.ref 313) = true
  m_structure_step : methIn K 358 "structure_step" = some 313
  k_320 : keepIn K (.ref 320) = true
  m_get_step : methIn K 358 "get_step" = some 320
  k_327 : keepIn K (.ref 327) = true
  m_put_step : methIn K 358 "put_step" = some 327
  k_334 : keepIn K (.ref 334) = true
  m_call_step : methIn K 358 "call_step" = some 334
  k_341 : keepIn K (.ref 341) = true
  m_leave_step : methIn K 358 "leave_step" = some 341
  k_348 : keepIn K (.ref 348) = true
  m_control_step : methIn K 358 "control_step" = some 348
  k_355 : keepIn K (.ref 355) = true
  m_step : methIn K 358 "step" = some 355
  g_symbols : okGet K 358 "symbols" = true
  s_symbols : okSet K 358 "symbols" = true
  g_xs : okGet K 358 "xs" = true
  s_xs : okSet K 358 "xs" = true
  g_ys : okGet K 358 "ys" = true
  s_ys : okSet K 358 "ys" = true
  g_size : okGet K 358 "size" = true
  s_size : okSet K 358 "size" = true
  g_due : okGet K 358 "due" = true
  s_due : okSet K 358 "due" = true
  g_family : okGet K 358 "family" = true
  s_family : okSet K 358 "family" = true
  g_building : okGet K 358 "building" = true
  s_building : okSet K 358 "building" = true
  g_ended : okGet K 358 "ended" = true
  s_ended : okSet K 358 "ended" = true
  g_fault : okGet K 358 "fault" = true
  s_fault : okSet K 358 "fault" = true
  c_ClauseChecker : ∀ (n : Nat) (as : List V), callN K (n + 1) 358 as = bnd (nw (.inst 358 [])) fun self => bnd (callN K n 264 (self :: as)) (mkF self)
  g_texts : okGet K 162 "texts" = true
  s_texts : okSet K 162 "texts" = true
  g_atom_numbers : okGet K 162 "atom_numbers" = true
  s_atom_numbers : okSet K 162 "atom_numbers" = true
  g_functors : okGet K 162 "functors" = true
  s_functors : okSet K 162 "functors" = true
  g_functor_numbers : okGet K 162 "functor_numbers" = true
  s_functor_numbers : okSet K 162 "functor_numbers" = true
  c_Symbols : ∀ (n : Nat) (as : List V), callN K (n + 1) 162 as = bnd (nw (.inst 162 [])) fun self => bnd (callN K n 89 (self :: as)) (mkF self)
end Mine
end P_C0
section P_P0
open PySem PySem.W PyProof.Rows
set_option Elab.async false
set_option genSizeOf false
set_option maxRecDepth 100000
set_option linter.unusedVariables false
namespace Mine
/-! ## the checker in plain words -/
inductive Fam where | n | u | s
  deriving DecidableEq
noncomputable def Fam.text : Fam → Str
  | .n => "" | .u => "unify_" | .s => "set_"
structure Reg where
  y : Bool
  n : Int
  deriving DecidableEq
structure CS where
  xs : List Int
  ys : List Int
  size : Int
  due : Int
  fam : Fam
  bld : Int
  ended : Bool
  fault : Str
/-- the figures of a number -/
noncomputable def ntext (v : Int) : Str := Str.ofString (toString v)
noncomputable def rtext (r : Reg) : Str := (if r.y then "y" else "x") ++ ntext r.n
noncomputable def comp (t : Str) (c : CS) : CS := if c.fault == "" then { c with fault := t } else c
noncomputable def ins (ks : List Int) (k : Int) : List Int := if k ∈ ks then ks else ks ++ [k]
noncomputable def cread (r : Reg) (c : CS) : CS :=
  if r.y then
    (if c.size < r.n then comp (rtext r ++ " is read outside of the environment") c
     else if r.n ∈ c.ys then c else comp (rtext r ++ " is read before it is written") c)
  else
    (if r.n ∈ c.xs then (if r.n = c.bld then comp (rtext r ++ " is read while its structure is built") c else c)
     else comp (rtext r ++ " is read before it is written") c)
noncomputable def cwrite (r : Reg) (c : CS) : CS :=
  if r.y then
    (if c.size < r.n then comp (rtext r ++ " is written outside of the environment") c else { c with ys := ins c.ys r.n })
  else { c with bld := (if r.n = c.bld then 0 else c.bld), xs := ins c.xs r.n }
noncomputable def lackF (xs : List Int) (a : Int) : Nat → Int → Option Int
  | 0, _ => none
  | n + 1, p => if p ≤ a then (if p ∈ xs then lackF xs a n (p + 1) else some p) else none
theorem lackF_s {xs : List Int} {a : Int} {n : Nat} {p : Int} : lackF xs a (n + 1) p = if p ≤ a then (if p ∈ xs then lackF xs a n (p + 1) else some p) else none := rfl
noncomputable def cargs (a : Int) (c : CS) : CS := match lackF c.xs a 1000 1 with
  | none => c
  | some p => comp ("argument " ++ ntext p ++ " is lacking") c
noncomputable def copen (n : Int) (f : Fam) (c : CS) : CS := { (if n < 1 then comp "a structure without arguments" c else c) with due := n, fam := f }
noncomputable def csub (d : Int) (c : CS) : CS := { c with due := c.due - d, bld := if c.due - d = 0 then 0 else c.bld }
noncomputable def cdone (d : Int) (c : CS) : CS :=
  if d < 1 ∨ c.due < d then csub c.due (comp "too many arguments in a structure" c) else csub d c
noncomputable def ccall (live : Int) (c : CS) : CS :=
  { (if c.size < 0 then comp "a call without an environment" c else if c.size < live then comp "more live slots than the environment has" c else c) with
    xs := [], ys := c.ys.filter fun s => decide (s ≤ live) }
noncomputable def cleave (c : CS) : CS := if 0 ≤ c.size then comp "the clause is left with its environment" c else c
noncomputable def calloc (n : Int) (c : CS) : CS := { (if 0 ≤ c.size then comp "a second environment" c else c) with size := n }
noncomputable def cdeall (c : CS) : CS := { (if c.size < 0 then comp "no environment to give back" c else c) with size := -1, ys := [] }
inductive M where
  | rd (r : Reg) | wr (r : Reg) | opn (n : Int) (f : Fam) | bld (n : Int) | args (a : Int) | call (live : Int) | leave | fin | alloc (n : Int) | deall | done (d : Int)
noncomputable def M.run : M → CS → CS
  | .rd r, c => cread r c
  | .wr r, c => cwrite r c
  | .opn n f, c => copen n f c
  | .bld n, c => { c with bld := n }
  | .args a, c => cargs a c
  | .call l, c => ccall l c
  | .leave, c => cleave c
  | .fin, c => { c with ended := true }
  | .alloc n, c => calloc n c
  | .deall, c => cdeall c
  | .done d, c => cdone d c
noncomputable def runM : List M → CS → CS
  | [], c => c
  | m :: r, c => runM r (m.run c)
inductive SK where
  | void (n : Int) | var (r : Reg) | val (r : Reg) | con (a b : Int)
inductive Op where
  | getVar (r : Reg) (x : Int) | getVal (r : Reg) (x : Int) | getCon (a b x : Int) | getList (x : Int) | getStr (f : Nat) (x : Int)
  | putVar (r : Reg) (x : Int) | putVal (r : Reg) (x : Int) | putCon (a b x : Int) | putList (x : Int) | putStr (f : Nat) (x : Int)
  | alloc (n : Int) | deall | call (f : Nat) (n : Int) | exec (f : Nat) | proceed | builtin (f : Nat) | neckCut | mark (r : Reg) | cutTo (r : Reg) | fail
inductive Ins where
  | arg (u : Bool) (k : SK)
  | op (o : Op)
noncomputable def arOf (ar : List (Int × Int)) (f : Nat) : Int := (ar[f]?.map (·.2)).getD 0
noncomputable def X (n : Int) : Reg := ⟨false, n⟩
noncomputable def Y (n : Int) : Reg := ⟨true, n⟩
noncomputable def SK.ms : SK → List M
  | .void n => [.done n]
  | .var r => [.wr r, .done 1]
  | .val r => [.rd r, .done 1]
  | .con _ _ => [.done 1]
noncomputable def Op.ms (ar : List (Int × Int)) : Op → List M
  | .getVar r x => [.rd (X x), .wr r]
  | .getVal r x => [.rd (X x), .rd r]
  | .getCon _ _ x => [.rd (X x)]
  | .getList x => [.rd (X x), .opn 2 .u]
  | .getStr f x => [.rd (X x), .opn (arOf ar f) .u]
  | .putVar r x => [.wr r, .wr (X x)]
  | .putVal r x => [.rd r, .wr (X x)]
  | .putCon _ _ x => [.wr (X x)]
  | .putList x => [.wr (X x), .opn 2 .s, .bld x]
  | .putStr f x => [.wr (X x), .opn (arOf ar f) .s, .bld x]
  | .alloc n => [.alloc n]
  | .deall => [.deall]
  | .call f n => [.args (arOf ar f), .call n]
  | .exec f => [.leave, .args (arOf ar f), .fin]
  | .proceed => [.leave, .fin]
  | .builtin f => [.args (arOf ar f)]
  | .neckCut => []
  | .mark r => [.wr r]
  | .cutTo r => [.rd r]
  | .fail => [.fin]
noncomputable def famOf (u : Bool) : Fam := if u then .u else .s
noncomputable def step (ar : List (Int × Int)) : Ins → CS → CS
  | .arg u k, c => if 0 < c.due then (if c.fam = famOf u then runM k.ms c else comp "a structure is not filled" c) else comp "an argument outside of a structure" c
  | .op o, c => if 0 < c.due then comp "a structure is not filled" c else runM (o.ms ar) c
inductive Rs where
  | ok | noend (p : Nat) | bad (p : Nat) (t : Str)
noncomputable def Ins.isFail : Ins → Bool
  | .op .fail => true
  | _ => false
noncomputable def turn (ar : List (Int × Int)) (i : Ins) (c : CS) : CS := if c.ended then comp "code behind the end" c else step ar i c
noncomputable def cf (ar : List (Int × Int)) : Nat → Bool → CS → List Ins → Rs
  | p, _, c, [] => if c.ended then .ok else .noend p
  | p, true, c, _ :: r => cf ar (p + 1) true c r
  | p, false, c, i :: r => if (turn ar i c).fault == "" then cf ar (p + 1) i.isFail (turn ar i c) r else .bad p (turn ar i c).fault
theorem cf_nil {ar : List (Int × Int)} {p : Nat} {d : Bool} {c : CS} : cf ar p d c [] = if c.ended then .ok else .noend p := by cases d <;> rfl
theorem cf_t {ar : List (Int × Int)} {p : Nat} {c : CS} {i : Ins} {r : List Ins} : cf ar p true c (i :: r) = cf ar (p + 1) true c r := rfl
theorem cf_f {ar : List (Int × Int)} {p : Nat} {c : CS} {i : Ins} {r : List Ins} : cf ar p false c (i :: r) = if (turn ar i c).fault == "" then cf ar (p + 1) i.isFail (turn ar i c) r else .bad p (turn ar i c).fault := rfl
noncomputable def Rs.text : Rs → Str
  | .ok => ""
  | .noend p => Str.empty ++ txtI p ++ ": the clause has no end"
  | .bad p t => Str.empty ++ txtI p ++ ": " ++ t
/-- the numbers from a to b -/
noncomputable def upto : Nat → List Int
  | 0 => []
  | n + 1 => upto n ++ [(n : Int) + 1]
noncomputable def cs0 (wide : Nat) : CS := ⟨upto wide, [], -1, 0, .n, 0, false, ""⟩
noncomputable def cfault (ar : List (Int × Int)) (wide : Nat) (rows : List Ins) : Rs := cf ar 0 false (cs0 wide) rows

/-! ## as the program holds them -/
noncomputable def Reg.v (r : Reg) : V := .tup [.str (if r.y then "y" else "x"), .int r.n]
noncomputable def xV (n : Int) : V := .tup [.str "x", .int n]
noncomputable def cV (a b : Int) : V := .tup [.int a, .int b]
noncomputable def SK.v (u : Bool) : SK → V
  | .void n => .tup [.str (if u then "unify_void" else "set_void"), .int n]
  | .var r => .tup [.str (if u then "unify_variable" else "set_variable"), r.v]
  | .val r => .tup [.str (if u then "unify_local_value" else "set_value"), r.v]
  | .con a b => .tup [.str (if u then "unify_constant" else "set_constant"), cV a b]
noncomputable def Op.v : Op → V
  | .getVar r x => .tup [.str "get_variable", r.v, xV x]
  | .getVal r x => .tup [.str "get_value", r.v, xV x]
  | .getCon a b x => .tup [.str "get_constant", cV a b, xV x]
  | .getList x => .tup [.str "get_list", xV x]
  | .getStr f x => .tup [.str "get_structure", .int f, xV x]
  | .putVar r x => .tup [.str "put_variable", r.v, xV x]
  | .putVal r x => .tup [.str "put_value", r.v, xV x]
  | .putCon a b x => .tup [.str "put_constant", cV a b, xV x]
  | .putList x => .tup [.str "put_list", xV x]
  | .putStr f x => .tup [.str "put_structure", .int f, xV x]
  | .alloc n => .tup [.str "allocate", .int n]
  | .deall => .tup [.str "deallocate"]
  | .call f n => .tup [.str "call", .int f, .int n]
  | .exec f => .tup [.str "execute", .int f]
  | .proceed => .tup [.str "proceed"]
  | .builtin f => .tup [.str "builtin", .int f]
  | .neckCut => .tup [.str "neck_cut"]
  | .mark r => .tup [.str "mark", r.v]
  | .cutTo r => .tup [.str "cut_to", r.v]
  | .fail => .tup [.str "fail"]
noncomputable def Ins.v : Ins → V
  | .arg u k => k.v u
  | .op o => o.v
end Mine
end P_P0
section P_K0
open PySem PySem.W PyProof.Rows
set_option Elab.async false
set_option genSizeOf false
set_option maxRecDepth 100000
set_option linter.unusedVariables false
set_option linter.unusedSectionVars false
namespace Mine
/-! ## a ledger of the new objects -/
noncomputable def Ext (σ σ' : Hp) : Prop := ∀ (j : Nat) (o : O), σ[j]? = some o → σ'[j]? = some o
theorem Ext.refl (σ : Hp) : Ext σ σ := fun zz zz h => h
theorem Ext.trans {a b c : Hp} (h : Ext a b) (g : Ext b c) : Ext a c := fun j o e => g j o (h j o e)
theorem Ext.app (σ τ : Hp) : Ext σ (σ ++ τ) := fun j o e => by
  have : j < σ.length := (List.getElem?_eq_some_iff.mp e).1
  rw [List.getElem?_append_left this]; exact e
theorem Ext.len {a b : Hp} (h : Ext a b) : a.length ≤ b.length := by
  cases hn : a.length with
  | zero => exact Nat.zero_le _
  | succ n =>
    have : n < a.length := by lia
    have e : a[n]? = some a[n] := List.getElem?_eq_getElem this
    have := (List.getElem?_eq_some_iff.mp (h _ _ e)).1
    lia
structure Lg (σ0 : Hp) (l : List (Nat × O)) (σ : Hp) : Prop where
  e : Ext σ0 σ
  lo : ∀ p ∈ l, σ0.length ≤ p.1
  nd : (l.map (·.1)).Nodup
  at_ : ∀ p ∈ l, σ[p.1]? = some p.2
section
variable {σ0 σ σ' : Hp} {l l' : List (Nat × O)}
theorem Lg.nil (σ : Hp) : Lg σ [] σ := ⟨Ext.refl _, fun zz h => (nomatch h), List.nodup_nil, fun zz h => (nomatch h)⟩
theorem Lg.ext (h : Lg σ0 l σ) (g : Ext σ σ') : Lg σ0 l σ' := ⟨h.e.trans g, h.lo, h.nd, fun p hp => g _ _ (h.at_ p hp)⟩
theorem Lg.perm (h : Lg σ0 l σ) (p : l.Perm l') : Lg σ0 l' σ := ⟨h.e, fun q hq => h.lo q (p.mem_iff.mpr hq), (p.map _).nodup_iff.mp h.nd, fun q hq => h.at_ q (p.mem_iff.mpr hq)⟩
theorem Lg.sub (h : Lg σ0 l σ) (p : l'.Sublist l) : Lg σ0 l' σ := ⟨h.e, fun q hq => h.lo q (p.subset hq), h.nd.sublist (p.map _), fun q hq => h.at_ q (p.subset hq)⟩
theorem Lg.nw (h : Lg σ0 l σ) (o : O) : Lg σ0 ((σ.length, o) :: l) (σ ++ [o]) := by
  have g : Ext σ (σ ++ [o]) := Ext.app _ _
  refine ⟨h.e.trans g, ?_, ?_, ?_⟩
  · intro p hp
    rcases List.mem_cons.mp hp with rfl | hp
    · exact h.e.len
    · exact h.lo p hp
  · refine List.nodup_cons.mpr ⟨fun hm => ?_, h.nd⟩
    obtain ⟨p, hp, hp'⟩ := List.mem_map.mp hm
    have := (List.getElem?_eq_some_iff.mp (h.at_ p hp)).1
    have hp' : p.1 = σ.length := hp'
    lia
  · intro p hp
    rcases List.mem_cons.mp hp with rfl | hp
    · simp
    · exact g _ _ (h.at_ p hp)
theorem Lg.set1 {a : Nat} {o : O} (h : Lg σ0 ((a, o) :: l) σ) (o' : O) : Lg σ0 ((a, o') :: l) (σ.set a o') := by
  have ha : σ0.length ≤ a := h.lo _ (.head _)
  have hb : a < σ.length := (List.getElem?_eq_some_iff.mp (h.at_ _ (.head _))).1
  refine ⟨?_, ?_, h.nd, ?_⟩
  · intro j o e
    have : j < σ0.length := (List.getElem?_eq_some_iff.mp e).1
    rw [List.getElem?_set_ne (by lia)]
    exact h.e _ _ e
  · intro p hp
    rcases List.mem_cons.mp hp with rfl | hp
    · exact ha
    · exact h.lo p (.tail _ hp)
  · intro p hp
    rcases List.mem_cons.mp hp with rfl | hp
    · simp [hb]
    · have : a ≠ p.1 := fun e => (List.nodup_cons.mp h.nd).1 (List.mem_map.mpr ⟨p, hp, e.symm⟩)
      rw [List.getElem?_set_ne this]
      exact h.at_ p (.tail _ hp)
end

/-! ## reading -/
section
variable {α : Type} {σ : Hp} {K : Frag}
theorem W_gt' {i : Nat} {o : O} {f : O → Mo α} {Q} (e : σ[i]? = some o) (h : W (f o) σ Q) : W (bnd (gt i) f) σ Q := W_bnd ⟨o, σ, by unfold gt; rw [e], h⟩
theorem W_gtL {i : Nat} {xs : List V} {Q : List V → Hp → Prop} (e : σ[i]? = some (.list xs)) (h : Q xs σ) : W (gtL i) σ Q := W_gt' e (W_ret h)
noncomputable def notBi : V → Bool
  | .bi _ => false
  | _ => true
theorem W_attr {C : Addr} {fs : List (Str × V)} {x : Str} {v : V} {i : Nat} {Q : V → Hp → Prop} (e : σ[i]? = some (.inst C fs)) (hk : okGet K C x = true) (hl : lk fs x = some v) (hb : notBi v = true) (h : Q v σ) : W (attrV K (.ref i) x) σ Q := by
  unfold attrV; dsimp only
  refine W_gt' e ?_
  show W (match okGet K C x with | true => grd (match lk fs x with | some (.bi _) => false | _ => true) (ofO (lk fs x)) | false => stuck) σ Q
  rw [hk, hl]
  refine W_grd ?_ (W_ofO rfl h)
  cases v <;> first | rfl | cases hb
theorem W_setAttr {C : Addr} {fs : List (Str × V)} {x : Str} {v : V} {i : Nat} {Q : Unit → Hp → Prop} (e : σ[i]? = some (.inst C fs)) (hk : okSet K C x = true) (hl : fs.length ≤ 100) (h : Q () (σ.set i (.inst C (put fs x v)))) : W (setAttrV K (.ref i) x v) σ Q := by
  unfold setAttrV; dsimp only
  refine W_gt' e ?_
  show W (match okSet K C x with | true => grd (Nat.ble fs.length 100) (st i (.inst C (put fs x v))) | false => stuck) σ Q
  rw [hk]
  exact W_grd (Nat.ble_eq_true_of_le hl) ⟨_, _, rfl, h⟩
theorem W_meth {C : Addr} {fs : List (Str × V)} {x : Str} {f : Addr} {i : Nat} {Q : Fn → Hp → Prop} (e : σ[i]? = some (.inst C fs)) (hm : methIn K C x = some f) (hl : lk fs x = none) (h : Q (.own f) σ) : W (methOf K (.ref i) x) σ Q := by
  unfold methOf; dsimp only
  refine W_gt' e ?_
  show W (match lk fs x with | some _ => stuck | none => (match methIn K C x with | some f => ret (.own f) | none => stuck)) σ Q
  rw [hl, hm]
  exact W_ret h
theorem W_lenL {i : Nat} {xs : List V} {Q : V → Hp → Prop} (e : σ[i]? = some (.list xs)) (hl : xs.length ≤ LIM) (h : Q (.int xs.length) σ) : W (bLen [.ref i]) σ Q := by
  show W (bnd (gtL i) fun xs => grd (okLen xs.length) (ret (.int xs.length))) σ Q
  exact W_bnd (W_gtL e (W_grd (Nat.ble_eq_true_of_le hl) (W_ret h)))
theorem idx_ok {k n : Nat} (h : k < n) (h2 : k ≤ 1048576) : idx? (k : Int) n = some k := by
  have h0 : decide ((0 : Int) ≤ (k : Int)) = true := by simp
  have h1 : (decide ((k : Int) < (n : Int)) && decide ((k : Int) ≤ 1048576)) = true := by simp; lia
  unfold idx?
  rw [h0]
  simp only
  rw [h1]
  simp
theorem W_itemL {i k : Nat} {xs : List V} {v : V} {Q : V → Hp → Prop} (e : σ[i]? = some (.list xs)) (h2 : k ≤ 1048576) (hv : xs[k]? = some v) (h : Q v σ) : W (itemV (.ref i) (.int (k : Int))) σ Q := by
  unfold itemV; dsimp only
  refine W_gt' e ?_
  show W (ofO ((idx? k xs.length).bind fun j => xs[j]?)) σ Q
  refine W_ofO (a := v) ?_ h
  rw [idx_ok (List.getElem?_eq_some_iff.mp hv).1 h2]
  exact hv
theorem W_methL {i : Nat} {xs : List V} {n : Str} {f : Fn} {Q : Fn → Hp → Prop} (e : σ[i]? = some (.list xs)) (hl : (listMeth.lookup n).map Fn.blt = some f) (h : Q f σ) : W (methOf K (.ref i) n) σ Q := by
  unfold methOf; dsimp only
  exact W_gt' e (W_ofO hl h)
end

/-! ## the checker's objects -/
structure CX where
  σ0 : Hp
  i : Nat
  sy : Nat
  st : Nat
  sa : Nat
  jf : Nat
  sn : Nat
  ar : List (Int × Int)
noncomputable def symF (st sa jf sn : Nat) : List (Str × V) := [("texts", .ref st), ("atom_numbers", .ref sa), ("functors", .ref jf), ("functor_numbers", .ref sn)]
noncomputable def arV (ar : List (Int × Int)) : List V := ar.map fun p => .tup [.int p.1, .int p.2]
noncomputable def flds (sy ix iy : Nat) (c : CS) : List (Str × V) := [("symbols", .ref sy), ("xs", .ref ix), ("ys", .ref iy), ("size", .int c.size), ("due", .int c.due), ("family", .str c.fam.text), ("building", .int c.bld), ("ended", .bool c.ended), ("fault", .str c.fault)]
noncomputable def KD (o : O) (ks : List Int) : Prop := ks.Nodup ∧ ((o = .dnew ∧ ks = []) ∨ ∃ es, o = .dint es ∧ es.map (·.1) = ks)
structure Ck (x : CX) (l : List (Nat × O)) (ix iy : Nat) (c : CS) (σ : Hp) : Prop where
  lg : ∃ ox oy, Lg x.σ0 ((x.i, .inst 358 (flds x.sy ix iy c)) :: (ix, ox) :: (iy, oy) :: l) σ ∧ KD ox c.xs ∧ KD oy c.ys
  sy : x.σ0[x.sy]? = some (.inst 162 (symF x.st x.sa x.jf x.sn))
  fo : x.σ0[x.jf]? = some (.list (arV x.ar))
  fl : x.ar.length ≤ 1000
theorem KD.nil : KD .dnew [] := ⟨List.nodup_nil, .inl ⟨rfl, rfl⟩⟩
theorem any_mem {es : List (Int × V)} {k : Int} : (es.any fun kv => decide (kv.1 = k)) = decide (k ∈ es.map (·.1)) := by
  induction es with
  | nil => rfl
  | cons p r ih =>
    rw [List.any_cons, ih, List.map_cons]
    by_cases h : p.1 = k
    · subst h; simp
    · have : ¬ k = p.1 := fun e => h e.symm
      simp [h, this]
theorem atK_mem {es : List (Int × V)} {k : Int} : (atK es k).isSome = decide (k ∈ es.map (·.1)) := by
  rw [← any_mem]
  unfold atK
  induction es with
  | nil => rfl
  | cons p r ih =>
    rw [List.find?_cons, List.any_cons]
    by_cases h : p.1 = k
    · simp [h]
    · simp only [h, decide_false, Bool.false_or]; exact ih
theorem stK_keys {es : List (Int × V)} {k : Int} {v : V} : (stK es k v).map (·.1) = ins (es.map (·.1)) k := by
  unfold stK ins
  rw [any_mem]
  by_cases h : k ∈ es.map (·.1)
  · simp only [h, decide_true, if_true]
    rw [List.map_map]
    apply List.map_congr_left
    intro p hp
    show (if p.1 = k then (p.1, v) else p).1 = p.1
    split <;> rfl
  · simp only [h, decide_false, if_false, Bool.false_eq_true]
    rw [List.map_append]; rfl
theorem woK_keys {es : List (Int × V)} {k : Int} : (woK es k).map (·.1) = (es.map (·.1)).filter fun a => decide (a ≠ k) := by
  unfold woK
  rw [List.filter_map]; rfl
set_option tactic.hygienic true in
theorem ins_nodup {ks : List Int} {k : Int} (h : ks.Nodup) : (ins ks k).Nodup := by
  unfold ins
  split
  · exact h
  · rename_i hn
    refine List.nodup_append.mpr ⟨h, by simp, ?_⟩
    intro a ha b hb
    rw [List.mem_singleton.mp hb]
    exact fun e => hn (e ▸ ha)
theorem ins_len {ks : List Int} {k : Int} : (ins ks k).length ≤ ks.length + 1 := by
  unfold ins; split <;> simp
section
variable {K : Frag} {x : CX} {l : List (Nat × O)} {ix iy : Nat} {c c' : CS} {σ σ' : Hp}
theorem Ck.ext (h : Ck x l ix iy c σ) (g : Ext σ σ') : Ck x l ix iy c σ' := by
  obtain ⟨ox, oy, a, b, d⟩ := h.lg
  exact ⟨⟨ox, oy, a.ext g, b, d⟩, h.sy, h.fo, h.fl⟩
theorem Ck.e0 (h : Ck x l ix iy c σ) : Ext x.σ0 σ := by
  obtain ⟨ox, oy, a, b, d⟩ := h.lg; exact a.e
theorem Ck.obj (h : Ck x l ix iy c σ) : σ[x.i]? = some (.inst 358 (flds x.sy ix iy c)) := by
  obtain ⟨ox, oy, a, b, d⟩ := h.lg; exact a.at_ _ (.head _)
theorem Ck.ox (h : Ck x l ix iy c σ) : ∃ o, σ[ix]? = some o ∧ KD o c.xs := by
  obtain ⟨ox, oy, a, b, d⟩ := h.lg; exact ⟨ox, a.at_ _ (.tail _ (.head _)), b⟩
theorem Ck.oy (h : Ck x l ix iy c σ) : ∃ o, σ[iy]? = some o ∧ KD o c.ys := by
  obtain ⟨ox, oy, a, b, d⟩ := h.lg; exact ⟨oy, a.at_ _ (.tail _ (.tail _ (.head _))), d⟩
theorem Ck.in_ (h : Ck x l ix iy c σ) {p : Nat × O} (hp : p ∈ l) : σ[p.1]? = some p.2 := by
  obtain ⟨ox, oy, a, b, d⟩ := h.lg; exact a.at_ _ (.tail _ (.tail _ (.tail _ hp)))
theorem Ck.drop {p : Nat × O} (h : Ck x (p :: l) ix iy c σ) : Ck x l ix iy c σ := by
  obtain ⟨ox, oy, a, b, d⟩ := h.lg
  exact ⟨⟨ox, oy, a.sub (.cons_cons _ (.cons_cons _ (.cons_cons _ (.cons _ (List.Sublist.refl _))))), b, d⟩, h.sy, h.fo, h.fl⟩
theorem Ck_get {f : Str} {v : V} {Q : V → Hp → Prop} (h : Ck x l ix iy c σ) (hk : okGet K 358 f = true) (hl : lk (flds x.sy ix iy c) f = some v) (hb : notBi v = true) (q : Q v σ) : W (attrV K (.ref x.i) f) σ Q := W_attr h.obj hk hl hb q
theorem Ck_set {f : Str} {v : V} {Q : Unit → Hp → Prop} (h : Ck x l ix iy c σ) (hk : okSet K 358 f = true) (hp : put (flds x.sy ix iy c) f v = flds x.sy ix iy c') (hx : c'.xs = c.xs) (hy : c'.ys = c.ys) (q : ∀ σ', Ck x l ix iy c' σ' → Q () σ') : W (setAttrV K (.ref x.i) f v) σ Q := by
  refine W_setAttr h.obj hk (by show (9 : Nat) ≤ 100; lia) (q _ ?_)
  obtain ⟨ox, oy, a, b, d⟩ := h.lg
  rw [hp]
  exact ⟨⟨ox, oy, a.set1 _, hx ▸ b, hy ▸ d⟩, h.sy, h.fo, h.fl⟩
variable (E : Env K)
include E
theorem Ck_g_symbols {Q : V → Hp → Prop} (h : Ck x l ix iy c σ) (q : Q (.ref x.sy) σ) : W (attrV K (.ref x.i) "symbols") σ Q := Ck_get h E.g_symbols (by kernel_rfl) rfl q
theorem Ck_g_xs {Q : V → Hp → Prop} (h : Ck x l ix iy c σ) (q : Q (.ref ix) σ) : W (attrV K (.ref x.i) "xs") σ Q := Ck_get h E.g_xs (by kernel_rfl) rfl q
theorem Ck_g_ys {Q : V → Hp → Prop} (h : Ck x l ix iy c σ) (q : Q (.ref iy) σ) : W (attrV K (.ref x.i) "ys") σ Q := Ck_get h E.g_ys (by kernel_rfl) rfl q
theorem Ck_g_size {Q : V → Hp → Prop} (h : Ck x l ix iy c σ) (q : Q (.int c.size) σ) : W (attrV K (.ref x.i) "size") σ Q := Ck_get h E.g_size (by kernel_rfl) rfl q
theorem Ck_g_due {Q : V → Hp → Prop} (h : Ck x l ix iy c σ) (q : Q (.int c.due) σ) : W (attrV K (.ref x.i) "due") σ Q := Ck_get h E.g_due (by kernel_rfl) rfl q
theorem Ck_g_family {Q : V → Hp → Prop} (h : Ck x l ix iy c σ) (q : Q (.str c.fam.text) σ) : W (attrV K (.ref x.i) "family") σ Q := Ck_get h E.g_family (by kernel_rfl) rfl q
theorem Ck_g_building {Q : V → Hp → Prop} (h : Ck x l ix iy c σ) (q : Q (.int c.bld) σ) : W (attrV K (.ref x.i) "building") σ Q := Ck_get h E.g_building (by kernel_rfl) rfl q
theorem Ck_g_ended {Q : V → Hp → Prop} (h : Ck x l ix iy c σ) (q : Q (.bool c.ended) σ) : W (attrV K (.ref x.i) "ended") σ Q := Ck_get h E.g_ended (by kernel_rfl) rfl q
theorem Ck_g_fault {Q : V → Hp → Prop} (h : Ck x l ix iy c σ) (q : Q (.str c.fault) σ) : W (attrV K (.ref x.i) "fault") σ Q := Ck_get h E.g_fault (by kernel_rfl) rfl q
theorem Ck_s_size {v : Int} {Q : Unit → Hp → Prop} (h : Ck x l ix iy c σ) (q : ∀ σ', Ck x l ix iy { c with size := v } σ' → Q () σ') : W (setAttrV K (.ref x.i) "size" (.int v)) σ Q := Ck_set (c' := { c with size := v }) h E.s_size (by kernel_rfl) rfl rfl q
theorem Ck_s_due {v : Int} {Q : Unit → Hp → Prop} (h : Ck x l ix iy c σ) (q : ∀ σ', Ck x l ix iy { c with due := v } σ' → Q () σ') : W (setAttrV K (.ref x.i) "due" (.int v)) σ Q := Ck_set (c' := { c with due := v }) h E.s_due (by kernel_rfl) rfl rfl q
theorem Ck_s_family {v : Fam} {Q : Unit → Hp → Prop} (h : Ck x l ix iy c σ) (q : ∀ σ', Ck x l ix iy { c with fam := v } σ' → Q () σ') : W (setAttrV K (.ref x.i) "family" (.str v.text)) σ Q := Ck_set (c' := { c with fam := v }) h E.s_family (by kernel_rfl) rfl rfl q
theorem Ck_s_building {v : Int} {Q : Unit → Hp → Prop} (h : Ck x l ix iy c σ) (q : ∀ σ', Ck x l ix iy { c with bld := v } σ' → Q () σ') : W (setAttrV K (.ref x.i) "building" (.int v)) σ Q := Ck_set (c' := { c with bld := v }) h E.s_building (by kernel_rfl) rfl rfl q
theorem Ck_s_ended {v : Bool} {Q : Unit → Hp → Prop} (h : Ck x l ix iy c σ) (q : ∀ σ', Ck x l ix iy { c with ended := v } σ' → Q () σ') : W (setAttrV K (.ref x.i) "ended" (.bool v)) σ Q := Ck_set (c' := { c with ended := v }) h E.s_ended (by kernel_rfl) rfl rfl q
theorem Ck_s_fault {v : Str} {Q : Unit → Hp → Prop} (h : Ck x l ix iy c σ) (q : ∀ σ', Ck x l ix iy { c with fault := v } σ' → Q () σ') : W (setAttrV K (.ref x.i) "fault" (.str v)) σ Q := Ck_set (c' := { c with fault := v }) h E.s_fault (by kernel_rfl) rfl rfl q
omit E
theorem Ck_nw {o : O} {Q : V → Hp → Prop} (h : Ck x l ix iy c σ) (q : ∀ k σ', Ck x ((k, o) :: l) ix iy c σ' → Q (.ref k) σ') : W (nw o) σ Q := by
  refine ⟨_, _, rfl, q _ _ ?_⟩
  obtain ⟨ox, oy, a, b, d⟩ := h.lg
  refine ⟨⟨ox, oy, (a.nw o).perm ?_, b, d⟩, h.sy, h.fo, h.fl⟩
  exact (List.Perm.swap _ _ _).trans (.cons _ ((List.Perm.swap _ _ _).trans (.cons _ (List.Perm.swap _ _ _))))
include E
theorem Ck_s_xs {k : Nat} {Q : Unit → Hp → Prop} (h : Ck x ((k, .dnew) :: l) ix iy c σ) (q : ∀ σ', Ck x l k iy { c with xs := [] } σ' → Q () σ') : W (setAttrV K (.ref x.i) "xs" (.ref k)) σ Q := by
  refine W_setAttr h.obj E.s_xs (by show (9 : Nat) ≤ 100; lia) (q _ ?_)
  obtain ⟨ox, oy, a, b, d⟩ := h.lg
  have hp : put (flds x.sy ix iy c) "xs" (.ref k) = flds x.sy k iy { c with xs := [] } := by kernel_rfl
  rw [hp]
  have a1 := a.set1 (.inst 358 (flds x.sy k iy { c with xs := [] }))
  have p1 : List.Perm ((x.i, O.inst 358 (flds x.sy k iy { c with xs := [] })) :: (ix, ox) :: (iy, oy) :: (k, .dnew) :: l) ((ix, ox) :: (x.i, O.inst 358 (flds x.sy k iy { c with xs := [] })) :: (k, .dnew) :: (iy, oy) :: l) :=
    (List.Perm.swap _ _ _).trans (.cons _ (.cons _ (.swap _ _ _)))
  exact ⟨⟨.dnew, oy, (a1.perm p1).sub (.cons _ (List.Sublist.refl _)), .nil, d⟩, h.sy, h.fo, h.fl⟩
theorem Ck_s_ys {k : Nat} {Q : Unit → Hp → Prop} (h : Ck x ((k, .dnew) :: l) ix iy c σ) (q : ∀ σ', Ck x l ix k { c with ys := [] } σ' → Q () σ') : W (setAttrV K (.ref x.i) "ys" (.ref k)) σ Q := by
  refine W_setAttr h.obj E.s_ys (by show (9 : Nat) ≤ 100; lia) (q _ ?_)
  obtain ⟨ox, oy, a, b, d⟩ := h.lg
  have hp : put (flds x.sy ix iy c) "ys" (.ref k) = flds x.sy ix k { c with ys := [] } := by kernel_rfl
  rw [hp]
  have a1 := a.set1 (.inst 358 (flds x.sy ix k { c with ys := [] }))
  have p1 : List.Perm ((x.i, O.inst 358 (flds x.sy ix k { c with ys := [] })) :: (ix, ox) :: (iy, oy) :: (k, .dnew) :: l) ((iy, oy) :: (x.i, O.inst 358 (flds x.sy ix k { c with ys := [] })) :: (ix, ox) :: (k, .dnew) :: l) :=
    (List.Perm.cons _ (.swap _ _ _)).trans (.swap _ _ _)
  exact ⟨⟨ox, .dnew, (a1.perm p1).sub (.cons _ (List.Sublist.refl _)), b, .nil⟩, h.sy, h.fo, h.fl⟩
theorem Ck_m_complain {Q : Fn → Hp → Prop} (h : Ck x l ix iy c σ) (q : Q (.own 271) σ) : W (methOf K (.ref x.i) "complain") σ Q := W_meth h.obj E.m_complain (by kernel_rfl) q
theorem Ck_m_read {Q : Fn → Hp → Prop} (h : Ck x l ix iy c σ) (q : Q (.own 278) σ) : W (methOf K (.ref x.i) "read") σ Q := W_meth h.obj E.m_read (by kernel_rfl) q
theorem Ck_m_write {Q : Fn → Hp → Prop} (h : Ck x l ix iy c σ) (q : Q (.own 285) σ) : W (methOf K (.ref x.i) "write") σ Q := W_meth h.obj E.m_write (by kernel_rfl) q
theorem Ck_m_arity_of {Q : Fn → Hp → Prop} (h : Ck x l ix iy c σ) (q : Q (.own 292) σ) : W (methOf K (.ref x.i) "arity_of") σ Q := W_meth h.obj E.m_arity_of (by kernel_rfl) q
theorem Ck_m_arguments {Q : Fn → Hp → Prop} (h : Ck x l ix iy c σ) (q : Q (.own 299) σ) : W (methOf K (.ref x.i) "arguments") σ Q := W_meth h.obj E.m_arguments (by kernel_rfl) q
theorem Ck_m_open_structure {Q : Fn → Hp → Prop} (h : Ck x l ix iy c σ) (q : Q (.own 306) σ) : W (methOf K (.ref x.i) "open_structure") σ Q := W_meth h.obj E.m_open_structure (by kernel_rfl) q
theorem Ck_m_structure_step {Q : Fn → Hp → Prop} (h : Ck x l ix iy c σ) (q : Q (.own 313) σ) : W (methOf K (.ref x.i) "structure_step") σ Q := W_meth h.obj E.m_structure_step (by kernel_rfl) q
theorem Ck_m_get_step {Q : Fn → Hp → Prop} (h : Ck x l ix iy c σ) (q : Q (.own 320) σ) : W (methOf K (.ref x.i) "get_step") σ Q := W_meth h.obj E.m_get_step (by kernel_rfl) q
theorem Ck_m_put_step {Q : Fn → Hp → Prop} (h : Ck x l ix iy c σ) (q : Q (.own 327) σ) : W (methOf K (.ref x.i) "put_step") σ Q := W_meth h.obj E.m_put_step (by kernel_rfl) q
theorem Ck_m_call_step {Q : Fn → Hp → Prop} (h : Ck x l ix iy c σ) (q : Q (.own 334) σ) : W (methOf K (.ref x.i) "call_step") σ Q := W_meth h.obj E.m_call_step (by kernel_rfl) q
theorem Ck_m_leave_step {Q : Fn → Hp → Prop} (h : Ck x l ix iy c σ) (q : Q (.own 341) σ) : W (methOf K (.ref x.i) "leave_step") σ Q := W_meth h.obj E.m_leave_step (by kernel_rfl) q
theorem Ck_m_control_step {Q : Fn → Hp → Prop} (h : Ck x l ix iy c σ) (q : Q (.own 348) σ) : W (methOf K (.ref x.i) "control_step") σ Q := W_meth h.obj E.m_control_step (by kernel_rfl) q
theorem Ck_m_step {Q : Fn → Hp → Prop} (h : Ck x l ix iy c σ) (q : Q (.own 355) σ) : W (methOf K (.ref x.i) "step") σ Q := W_meth h.obj E.m_step (by kernel_rfl) q
theorem Ck_m_functor_count {Q : Fn → Hp → Prop} (h : Ck x l ix iy c σ) (q : Q (.own 152) σ) : W (methOf K (.ref x.sy) "functor_count") σ Q := W_meth (h.e0 _ _ h.sy) E.m_functor_count (by kernel_rfl) q
theorem Ck_m_arity {Q : Fn → Hp → Prop} (h : Ck x l ix iy c σ) (q : Q (.own 131) σ) : W (methOf K (.ref x.sy) "arity") σ Q := W_meth (h.e0 _ _ h.sy) E.m_arity (by kernel_rfl) q
theorem Ck_g_functors {Q : V → Hp → Prop} (h : Ck x l ix iy c σ) (q : Q (.ref x.jf) σ) : W (attrV K (.ref x.sy) "functors") σ Q := W_attr (h.e0 _ _ h.sy) E.g_functors (by kernel_rfl) rfl q
omit E
theorem Ck_len_functors {Q : V → Hp → Prop} (h : Ck x l ix iy c σ) (q : Q (.int x.ar.length) σ) : W (bLen [.ref x.jf]) σ Q := by
  have hl := h.fl
  refine W_lenL (h.e0 _ _ h.fo) ?_ ?_
  · unfold arV LIM; rw [List.length_map]; lia
  · unfold arV; rw [List.length_map]; exact q
theorem Ck_item_functors {f : Nat} {Q : V → Hp → Prop} (h : Ck x l ix iy c σ) (hf : f < x.ar.length) (q : Q (.tup [.int (x.ar[f]).1, .int (arOf x.ar f)]) σ) : W (itemV (.ref x.jf) (.int (f : Int))) σ Q := by
  have hl := h.fl
  refine W_itemL (h.e0 _ _ h.fo) (by lia) (v := .tup [.int (x.ar[f]).1, .int (arOf x.ar f)]) ?_ q
  unfold arV arOf
  rw [List.getElem?_map, List.getElem?_eq_getElem hf]
  rfl
theorem W_inD {k : Int} {i : Nat} {o : O} {ks : List Int} {Q : Bool → Hp → Prop} (e : σ[i]? = some o) (d : KD o ks) (q : Q (decide (k ∈ ks)) σ) : W (inV (.int k) (.ref i)) σ Q := by
  unfold inV; dsimp only
  refine W_gt' e ?_
  rcases d.2 with ⟨rfl, rfl⟩ | ⟨es, rfl, rfl⟩
  · exact W_ret (by simpa using q)
  · refine W_ret ?_
    rw [atK_mem]; exact q
theorem Ck_nix {k : Int} {Q : Bool → Hp → Prop} (h : Ck x l ix iy c σ) (q : Q (!decide (k ∈ c.xs)) σ) : W (cmpV .NotIn (.int k) (.ref ix)) σ Q := by
  obtain ⟨o, e, d⟩ := h.ox
  show W (bnd (inV (.int k) (.ref ix)) fun c => ret (!c)) σ Q
  exact W_bnd (W_inD (Q := fun c σ => W (ret (!c)) σ Q) e d (W_ret q))
theorem Ck_niy {k : Int} {Q : Bool → Hp → Prop} (h : Ck x l ix iy c σ) (q : Q (!decide (k ∈ c.ys)) σ) : W (cmpV .NotIn (.int k) (.ref iy)) σ Q := by
  obtain ⟨o, e, d⟩ := h.oy
  show W (bnd (inV (.int k) (.ref iy)) fun c => ret (!c)) σ Q
  exact W_bnd (W_inD (Q := fun c σ => W (ret (!c)) σ Q) e d (W_ret q))
theorem W_putD {k : Int} {v : V} {i : Nat} {o : O} {ks : List Int} {Q : Unit → Hp → Prop} (e : σ[i]? = some o) (d : KD o ks) (hl : ks.length ≤ LIM) (q : ∀ o', KD o' (ins ks k) → Q () (σ.set i o')) : W (setItemV (.ref i) (.int k) v) σ Q := by
  refine W_gt' e ?_
  rcases d.2 with ⟨rfl, rfl⟩ | ⟨es, rfl, rfl⟩
  · exact ⟨_, _, rfl, q (.dint [(k, v)]) ⟨ins_nodup d.1, .inr ⟨_, rfl, rfl⟩⟩⟩
  · refine W_grd (Nat.ble_eq_true_of_le (by simpa using hl)) ⟨_, _, rfl, q _ ⟨ins_nodup d.1, .inr ⟨_, rfl, stK_keys⟩⟩⟩
theorem Ck_addx {k : Int} {v : V} {Q : Unit → Hp → Prop} (h : Ck x l ix iy c σ) (hl : c.xs.length ≤ 1000) (q : ∀ σ', Ck x l ix iy { c with xs := ins c.xs k } σ' → Q () σ') : W (setItemV (.ref ix) (.int k) v) σ Q := by
  obtain ⟨ox, oy, a, b, d⟩ := h.lg
  refine W_putD (a.at_ _ (.tail _ (.head _))) b (by unfold LIM; lia) fun o' d' => q _ ?_
  refine ⟨⟨o', oy, ?_, d', d⟩, h.sy, h.fo, h.fl⟩
  exact ((a.perm (.swap _ _ _)).set1 o').perm (.swap _ _ _)
theorem Ck_addy {k : Int} {v : V} {Q : Unit → Hp → Prop} (h : Ck x l ix iy c σ) (hl : c.ys.length ≤ 1000) (q : ∀ σ', Ck x l ix iy { c with ys := ins c.ys k } σ' → Q () σ') : W (setItemV (.ref iy) (.int k) v) σ Q := by
  obtain ⟨ox, oy, a, b, d⟩ := h.lg
  refine W_putD (a.at_ _ (.tail _ (.tail _ (.head _)))) d (by unfold LIM; lia) fun o' d' => q _ ?_
  refine ⟨⟨ox, o', ?_, b, d'⟩, h.sy, h.fo, h.fl⟩
  have p1 : List.Perm ((x.i, O.inst 358 (flds x.sy ix iy c)) :: (ix, ox) :: (iy, oy) :: l) ((iy, oy) :: (x.i, O.inst 358 (flds x.sy ix iy c)) :: (ix, ox) :: l) := (List.Perm.cons _ (.swap _ _ _)).trans (.swap _ _ _)
  exact ((a.perm p1).set1 o').perm ((List.Perm.swap _ _ _).trans (.cons _ (.swap _ _ _)))
theorem Ck_dely {k : Int} {Q : Unit → Hp → Prop} (h : Ck x l ix iy c σ) (hk : k ∈ c.ys) (hl : c.ys.length ≤ 1000) (q : ∀ σ', Ck x l ix iy { c with ys := c.ys.filter fun a => decide (a ≠ k) } σ' → Q () σ') : W (delItemV (.ref iy) (.int k)) σ Q := by
  obtain ⟨ox, oy, a, b, d⟩ := h.lg
  refine W_gt' (a.at_ _ (.tail _ (.tail _ (.head _)))) ?_
  rcases d.2 with ⟨rfl, e⟩ | ⟨es, rfl, e⟩
  · rw [e] at hk; cases hk
  · refine W_grd ?_ ⟨_, _, rfl, q _ ⟨⟨ox, .dint (woK es k), ?_, b, ⟨d.1.sublist List.filter_sublist, .inr ⟨_, rfl, ?_⟩⟩⟩, h.sy, h.fo, h.fl⟩⟩
    · rw [atK_mem, e]
      have : es.length = c.ys.length := by rw [← e, List.length_map]
      simp only [hk, decide_true, Bool.true_and]
      exact Nat.ble_eq_true_of_le (by unfold LIM; lia)
    · have p1 : List.Perm ((x.i, O.inst 358 (flds x.sy ix iy c)) :: (ix, ox) :: (iy, .dint es) :: l) ((iy, .dint es) :: (x.i, O.inst 358 (flds x.sy ix iy c)) :: (ix, ox) :: l) := (List.Perm.cons _ (.swap _ _ _)).trans (.swap _ _ _)
      exact ((a.perm p1).set1 _).perm ((List.Perm.swap _ _ _).trans (.cons _ (.swap _ _ _)))
    · rw [woK_keys, e]
theorem Ck_sorty {Q : V → Hp → Prop} (h : Ck x l ix iy c σ) (hl : c.ys.length < 64) (q : ∀ k σ', Ck x ((k, .list ((PySem.W.sortI c.ys).map V.int)) :: l) ix iy c σ' → Q (.ref k) σ') : W (bSorted [.ref iy]) σ Q := by
  obtain ⟨o, e, d⟩ := h.oy
  delta bSorted asR; dsimp only
  refine W_gt' e ?_
  rcases d.2 with ⟨rfl, e'⟩ | ⟨es, rfl, e'⟩
  · refine Ck_nw h ?_
    rw [e'] at q
    exact q
  · refine W_grd ?_ (Ck_nw h ?_)
    · have : es.length = c.ys.length := by rw [← e', List.length_map]
      rw [this]; exact Nat.ble_eq_true_of_le hl
    · rw [e']; exact q
end
end Mine
end P_K0
section P_R0
open PySem PySem.W PyProof.Rows
set_option Elab.async false
set_option maxRecDepth 100000
set_option linter.unusedVariables false
set_option linter.unusedSectionVars false
namespace Mine
section
variable {α β : Type} {σ : Hp}
theorem W_lk {m : Loc} {x : Str} {v : V} {f : V → Mo β} {Q} (e : lk m x = some v) (h : W (f v) σ Q) : W (bnd (ofO (lk m x)) f) σ Q := W_bo e h
theorem W_lk1 {m : Loc} {x : Str} {v : V} {Q : V → Hp → Prop} (e : lk m x = some v) (h : Q v σ) : W (ofO (lk m x)) σ Q := W_ofO e h
theorem SQ_p {k} {Q} {m m' : Loc} {x : Str} {v : V} (e : put m x v = m') (h : W (k m') σ Q) : SQ k Q (Fl.next, put m x v) σ := by rw [e]; exact h
theorem W_adds2 {a b : Str} {Q : V → Hp → Prop} (ha : a.length ≤ 20000) (hb : b.length ≤ 20000) (h : Q (.str (a ++ b)) σ) : W (binV .Add (.str a) (.str b)) σ Q := W_adds (by unfold LIM; lia) h
theorem app_len {a b : Str} : (a ++ b).length = a.length + b.length := by
  show (a.cps ++ b.cps).size = _
  rw [Array.size_append]; rfl
theorem W_blt_starts {K : Frag} {C : Or} {x y : Str} {Q : V → Hp → Prop} (h : Q (.bool (Txt.startswith x y)) σ) : W (callM K C (.blt "str.startswith") (.str x) [.str y]) σ Q := W_blt (by rfl) (W_starts h)
theorem AQ_ot' {r} {Q : Bool → Hp → Prop} {c : Bool} (e : c = true) (h : Q true σ) : AQ .Or r Q c σ := by rw [e]; exact h
theorem AQ_on' {r} {Q : Bool → Hp → Prop} {c : Bool} (e : c = false) (h : W (allV .Or r) σ Q) : AQ .Or r Q c σ := by rw [e]; exact h
theorem AQ_at' {r} {Q : Bool → Hp → Prop} {c : Bool} (e : c = true) (h : W (allV .And r) σ Q) : AQ .And r Q c σ := by rw [e]; exact h
theorem AQ_an' {r} {Q : Bool → Hp → Prop} {c : Bool} (e : c = false) (h : Q false σ) : AQ .And r Q c σ := by rw [e]; exact h
end
section
variable {α β : Type} {σ : Hp}
theorem W_allNo {Q : Bool → Hp → Prop} (h : Q false σ) : W (allV .Or []) σ Q := ⟨_, σ, rfl, h⟩
theorem W_allNa {Q : Bool → Hp → Prop} (h : Q true σ) : W (allV .And []) σ Q := ⟨_, σ, rfl, h⟩
noncomputable def OQ (f : Option Int → Mo V) (Q : V → Hp → Prop) (v : V) (σ : Hp) : Prop := match v with
  | .int i => W (f (some i)) σ Q
  | _ => False
theorem OQ_i {f : Option Int → Mo V} {Q : V → Hp → Prop} {i : Int} (h : W (f (some i)) σ Q) : OQ f Q (.int i) σ := h
theorem W_optI {x : Mo V} {f : Option Int → Mo V} {Q : V → Hp → Prop} (h : W x σ (OQ f Q)) : W (optI x f) σ Q := by
  refine W_bnd (W_mono h ?_)
  intro v σ' q
  cases v <;> first | exact q | exact q.elim
theorem W_i32 {a b c : V} {Q : V → Hp → Prop} (h : Q c σ) : W (itemV (.tup [a, b, c]) (.int (3 - 1))) σ Q := ⟨c, σ, rfl, h⟩
theorem W_i21 {a b : V} {Q : V → Hp → Prop} (h : Q b σ) : W (itemV (.tup [a, b]) (.int (2 - 1))) σ Q := ⟨b, σ, rfl, h⟩
theorem W_cut {x : Mo (Fl × Loc)} {k Q} {m : Loc} {P : Hp → Prop} (h : W x σ (fun p σ' => p = (Fl.next, m) ∧ P σ')) (g : ∀ σ', P σ' → W (k m) σ' Q) : W x σ (SQ k Q) :=
  W_mono h fun p σ' ⟨e, q⟩ => by rw [e]; exact g _ q
theorem W_slice {s t : Str} {i : Int} {Q : V → Hp → Prop} (e : sliceV (.str s) (some i) none = ret (.str t)) (h : Q (.str t) σ) : W (sliceV (.str s) (some i) none) σ Q := by rw [e]; exact W_ret h
end
end Mine
end P_R0
section P_N0
open PySem PySem.W PyProof.Rows
set_option Elab.async false
set_option maxRecDepth 100000
set_option linter.unusedVariables false
set_option linter.unusedSectionVars false
namespace Mine
/-! ## figures -/
noncomputable def chS (l : List Char) : Str := ⟨(l.map Char.toNat).toArray⟩
theorem chS_len (a : List Char) : (chS a).length = a.length := by
  show (List.toArray _).size = _
  simp
theorem ntext_nat (n : Nat) : ntext (n : Int) = chS (Nat.toDigits 10 n) := text_ofNat n
theorem ntext_len {v : Int} (hv : 0 ≤ v) (hb : v < 10 ^ 18) : (ntext v).length ≤ 5000 := by
  obtain ⟨n, rfl⟩ := Int.eq_ofNat_of_zero_le hv
  rw [ntext_nat, chS_len]
  refine (Nat.length_toDigits_le_iff (by lia) (by lia)).mpr ?_
  have : n < 10 ^ 18 := by lia
  exact Nat.lt_trans this (by decide +kernel)
noncomputable def cat : List Str → Str
  | [] => Str.empty
  | s :: r => s ++ cat r
theorem join_cat : ∀ l : List Str, Txt.join (Str.ofString "") l = cat l := by
  intro l
  have e0 : Str.ofString "" = Str.empty := by kernel_rfl
  rw [e0]
  show Builtin.Str.glued Str.empty l = _
  rw [StrLaws.glued_eq_join]
  induction l with
  | nil => rfl
  | cons a r ih =>
    cases r with
    | nil => show a = a ++ Str.empty; rw [Str.append_empty]
    | cons b r =>
      show a ++ Str.empty ++ Str.join Str.empty (b :: r) = a ++ cat (b :: r)
      rw [ih, Str.append_empty]
theorem sumLen_cat : ∀ l : List Str, sumLen l = (cat l).length
  | [] => rfl
  | s :: r => by show s.length + sumLen r = (s ++ cat r).length; rw [sumLen_cat r, Str.length_append]
theorem strsOf_map : ∀ l : List Str, strsOf (l.map V.str) = some l
  | [] => rfl
  | s :: r => by show (strsOf (r.map V.str)).map (s :: ·) = _; rw [strsOf_map r]; rfl
end Mine
end P_N0
section M_1
open PySem PySem.W PyProof.Rows
namespace Mine
set_option hygiene false in
local macro_rules | `(tactic| walk_at "lk") => `(tactic| first | with_reducible exact lk_hit | (with_reducible refine lk_miss ?_ ?_; (decide +kernel); walk_at "lk"))
local macro_rules | `(tactic| walk_at "put") => `(tactic| first | with_reducible exact put_nil | with_reducible exact put_hit | (with_reducible refine' put_miss ?k1 ?k2; (case k1 => decide +kernel); (case k2 => walk_at "put")))
set_option hygiene false in
local macro_rules | `(tactic| walk_at "w") => `(tactic| with_reducible first
  | (refine' W_lk ?zw1 ?_; (case zw1 => walk_at "lk"))
  | refine W_seq ?_
  | refine W_br ?_
  | refine W_bnd ?_
  | (refine' W_lk1 ?zw1 ?_; (case zw1 => walk_at "lk"))
  | refine W_ret ?_
  | (refine' SQ_p ?zw1 ?_; (case zw1 => walk_at "put"))
  | refine SQ_n ?_
  | refine SQ_r ?_
  | refine SQ_c ?_
  | refine SQ_b ?_
  | refine W_outr ?_
  | refine W_outn ?_
  | refine W_outp ?_
  | refine W_nr rfl ?_
  | refine W_m1 ?_
  | refine W_mcons ?_
  | refine W_mnil ?_
  | refine W_eqStr ?_
  | refine W_eqInt ?_
  | refine W_neStr ?_
  | refine W_neInt ?_
  | refine W_lt ?_ | refine W_le ?_ | refine W_gt ?_ | refine W_ge ?_
  | refine W_add ?_ | refine W_sub ?_ | refine W_aadd ?_ | refine W_asub ?_
  | refine W_not ?_ | refine W_neg ?_ | refine W_asB ?_
  | refine W_item0 ?_ | refine W_item1 ?_ | refine W_item31 ?_ | refine W_item32 ?_
  | refine W_len1 ?_ | refine W_len2 ?_ | refine W_len3 ?_
  | refine W_newT1 ?_ | refine W_newT2 ?_ | refine W_newT3 ?_
  | refine W_range1 ?_ | refine W_range2 ?_
  | refine W_all ?_ | refine W_bool1 ?_ | refine W_bool ?_ | refine W_allNo ?_ | refine W_allNa ?_ | refine W_optI ?_ | refine OQ_i ?_ | refine W_i32 ?_ | refine W_i21 ?_
  | refine W_ift ?_ | refine W_iff ?_)
set_option hygiene false in
local macro_rules | `(tactic| walk_at "i") => `(tactic| with_reducible first
  | (refine' W_ifT ?zw1 ?_; (case zw1 => decide +kernel)) | (refine' W_ifN ?zw1 ?_; (case zw1 => decide +kernel))
  | (refine' AQ_ot' ?zw1 ?_; (case zw1 => decide +kernel)) | (refine' AQ_on' ?zw1 ?_; (case zw1 => decide +kernel)) | (refine' AQ_at' ?zw1 ?_; (case zw1 => decide +kernel)) | (refine' AQ_an' ?zw1 ?_; (case zw1 => decide +kernel))
  | (refine' BQ_ot ?zw1 ?_; (case zw1 => decide +kernel)) | (refine' BQ_on ?zw1 ?_; (case zw1 => decide +kernel)) | (refine' BQ_at ?zw1 ?_; (case zw1 => decide +kernel)) | (refine' BQ_an ?zw1 ?_; (case zw1 => decide +kernel)))
set_option hygiene false in
local macro_rules | `(tactic| walk_at "c") => `(tactic| with_reducible first
  | refine Ck_g_symbols ‹_› ‹_› ?_ | refine Ck_g_xs ‹_› ‹_› ?_ | refine Ck_g_ys ‹_› ‹_› ?_ | refine Ck_g_size ‹_› ‹_› ?_
  | refine Ck_g_due ‹_› ‹_› ?_ | refine Ck_g_family ‹_› ‹_› ?_ | refine Ck_g_building ‹_› ‹_› ?_ | refine Ck_g_ended ‹_› ‹_› ?_ | refine Ck_g_fault ‹_› ‹_› ?_
  | refine Ck_m_complain ‹_› ‹_› ?_ | refine Ck_m_read ‹_› ‹_› ?_ | refine Ck_m_write ‹_› ‹_› ?_ | refine Ck_m_arity_of ‹_› ‹_› ?_
  | refine Ck_m_arguments ‹_› ‹_› ?_ | refine Ck_m_open_structure ‹_› ‹_› ?_ | refine Ck_m_structure_step ‹_› ‹_› ?_ | refine Ck_m_get_step ‹_› ‹_› ?_
  | refine Ck_m_put_step ‹_› ‹_› ?_ | refine Ck_m_call_step ‹_› ‹_› ?_ | refine Ck_m_leave_step ‹_› ‹_› ?_ | refine Ck_m_control_step ‹_› ‹_› ?_ | refine Ck_m_step ‹_› ‹_› ?_
  | refine Ck_m_functor_count ‹_› ‹_› ?_ | refine Ck_m_arity ‹_› ‹_› ?_ | refine Ck_g_functors ‹_› ‹_› ?_ | refine Ck_len_functors ‹_› ?_
  | refine Ck_nix ‹_› ?_ | refine Ck_niy ‹_› ?_
  | refine W_own (Env.k_271 ‹_›) ?_ | refine W_own (Env.k_278 ‹_›) ?_ | refine W_own (Env.k_285 ‹_›) ?_ | refine W_own (Env.k_292 ‹_›) ?_ | refine W_own (Env.k_299 ‹_›) ?_ | refine W_own (Env.k_306 ‹_›) ?_ | refine W_own (Env.k_313 ‹_›) ?_
  | refine W_own (Env.k_320 ‹_›) ?_ | refine W_own (Env.k_327 ‹_›) ?_ | refine W_own (Env.k_334 ‹_›) ?_ | refine W_own (Env.k_341 ‹_›) ?_ | refine W_own (Env.k_348 ‹_›) ?_ | refine W_own (Env.k_355 ‹_›) ?_
  | refine W_own (Env.k_131 ‹_›) ?_ | refine W_own (Env.k_152 ‹_›) ?_)
set_option hygiene false in
local macro_rules | `(tactic| walk_at "ww") => `(tactic| repeat (first | walk_at "w" | walk_at "c" | walk_at "i"))
section P_N1
open PySem PySem.W PyProof.Rows
set_option Elab.async false
set_option maxRecDepth 100000
set_option linter.unusedVariables false
set_option linter.unusedSectionVars false
section
variable {K : Frag} {σ0 σ σ' : Hp} {l : List (Nat × O)} (E : Env K)
theorem W_pow18 {Q : V → Hp → Prop} (h : Q (.int (10 ^ 18)) σ) : W (binV .Pow (.int 10) (.int 18)) σ Q := ⟨_, _, by kernel_rfl, h⟩
theorem W_str {i : Int} {Q : V → Hp → Prop} (h1 : -(10 ^ 20) < i) (h2 : i < 10 ^ 20) (h : Q (.str (ntext i)) σ) : W (tStr [.int i]) σ Q := W_grd (by unfold smallI; simp; exact ⟨h1, h2⟩) (W_ret h)
theorem W_newL {xs : List V} {Q : V → Hp → Prop} (hl : xs.length ≤ LIM) (h : W (nw (.list xs)) σ Q) : W (newL xs) σ Q := W_grd (Nat.ble_eq_true_of_le hl) h
theorem W_abs {v : Nat} {Q : V → Hp → Prop} (h : Q (.int (v : Int)) σ) : W (bAbs [.int (v : Int)]) σ Q := ⟨_, _, rfl, by
  have : (if (v : Int) < 0 then -(v : Int) else v) = v := if_neg (by lia)
  rw [this]; exact h⟩
theorem L_nw {o : O} {Q : V → Hp → Prop} (h : Lg σ0 l σ) (q : ∀ k σ', Lg σ0 ((k, o) :: l) σ' → Q (.ref k) σ') : W (nw o) σ Q := ⟨_, _, rfl, q _ _ (h.nw o)⟩
theorem L_append {a : Nat} {xs : List V} {v : V} {Q : V → Hp → Prop} (hl : xs.length ≤ LIM) (h : Lg σ0 ((a, .list xs) :: l) σ) (q : ∀ σ', Lg σ0 ((a, .list (xs ++ [v])) :: l) σ' → Q .none σ') : W (bAppend [.ref a, v]) σ Q := by
  show W (bnd (gtL a) fun xs => grd (okLen xs.length) (bnd (st a (.list (xs ++ [v]))) fun zz => ret .none)) σ Q
  refine W_bnd (W_gtL (h.at_ _ (.head _)) (W_grd (Nat.ble_eq_true_of_le hl) (W_bnd ⟨_, _, rfl, W_ret (q _ (h.set1 _))⟩)))
theorem W_methAppend {i : Nat} {xs : List V} {Q : Fn → Hp → Prop} (e : σ[i]? = some (.list xs)) (h : Q (.blt "list.append") σ) : W (methOf K (.ref i) "append") σ Q := W_methL e (by kernel_rfl) h
theorem W_bltAppend {C : Or} {a v : V} {Q : V → Hp → Prop} (h : W (bAppend [a, v]) σ Q) : W (callM K C (.blt "list.append") a [v]) σ Q := W_blt (by rfl) h
theorem W_joinRev {i : Nat} {L : List Str} {Q : V → Hp → Prop} (e : σ[i]? = some (.list (L.map V.str))) (h1 : (cat L.reverse).length ≤ LIM) (h2 : L.length ≤ LIM) (h : Q (.str (cat L.reverse)) σ) : W (joinRev (.str "") (.ref i)) σ Q := by
  unfold joinRev; dsimp only
  refine W_bnd (W_gtL e (W_bo (a := L.reverse) (by rw [← List.map_reverse, strsOf_map]) ?_))
  refine W_grd ?_ (W_ret (by rw [join_cat]; exact h))
  rw [sumLen_cat]
  have e0 : (Str.ofString "").length = 0 := by kernel_rfl
  rw [e0, Nat.zero_mul, Nat.add_zero, List.length_reverse]
  unfold okLen
  rw [Nat.ble_eq_true_of_le h1, Nat.ble_eq_true_of_le h2]; rfl
include E
theorem ct_number_text {n : Nat} {v : Int} {Q : V → Hp → Prop} (hv : 0 ≤ v) (hb : v < 10 ^ 18) (q : ∀ σ', Ext σ σ' → Q (.str (ntext v)) σ') : W (callN K (n + 1) 28 [.int v]) σ Q := by
  have hlen := ntext_len hv hb
  obtain ⟨v, rfl⟩ := Int.eq_ofNat_of_zero_le hv
  rw [E.e_number_text]; unfold B_number_text
  walk_at "ww"
  refine W_abs ?_
  walk_at "ww"
  refine W_newL (by simp) (L_nw (Lg.nil σ) fun r σ1 h => ?_)
  walk_at "ww"
  refine W_while0 ?_
  walk_at "ww"
  refine W_pow18 ?_
  walk_at "ww"
  refine ⟨decide_eq_false (by lia), ?_⟩
  walk_at "ww"
  refine W_methAppend (h.at_ _ (.head _)) ?_
  walk_at "ww"
  refine W_str (by lia) (by lia) ?_
  walk_at "ww"
  refine W_bltAppend (L_append (Nat.zero_le _) h fun σ1 h => ?_)
  walk_at "ww"
  refine W_ifN (decide_eq_false (by lia)) ?_
  walk_at "ww"
  have ec : cat [ntext (v : Int)].reverse = ntext (v : Int) := Str.append_empty _
  have h : Lg σ [(r, .list ([ntext (v : Int)].map V.str))] σ1 := h
  refine W_joinRev (h.at_ _ (.head _)) (by rw [ec]; unfold LIM; lia) (by simp; unfold LIM; lia) ?_
  rw [ec]
  walk_at "ww"
  exact q _ h.e
end
end P_N1
section P_K1
open PySem PySem.W PyProof.Rows
set_option Elab.async false
set_option maxRecDepth 100000
set_option linter.unusedVariables false
set_option linter.unusedSectionVars false
section
variable {K : Frag} {x : CX} {l : List (Nat × O)} {ix iy : Nat} {c c' : CS} {σ σ' : Hp} (E : Env K)
include E
theorem ct_complain {n : Nat} {t : Str} {Q : V → Hp → Prop} (h : Ck x l ix iy c σ) (q : ∀ σ', Ck x l ix iy (comp t c) σ' → Q .none σ') : W (callN K (n + 1) 271 [.ref x.i, .str t]) σ Q := by
  rw [E.e_ClauseChecker_complain]; unfold B_ClauseChecker_complain
  walk_at "ww"
  refine W_ifF (fun e => ?_) (fun e => ?_)
  · walk_at "ww"
    refine Ck_s_fault E h fun σ' h' => ?_
    walk_at "ww"
    exact q _ (by unfold comp; rw [if_pos e]; exact h')
  · walk_at "ww"
    exact q _ (by unfold comp; rw [if_neg (by simp [e])]; exact h)
theorem ct_register_text {n : Nat} {s : Str} {v : Int} {Q : V → Hp → Prop} (hs : s.length ≤ 1000) (hv : 0 ≤ v) (hb : v < 10 ^ 18) (q : ∀ σ', Ext σ σ' → (s ++ ntext v).length ≤ 20000 → Q (.str (s ++ ntext v)) σ') : W (callN K (n + 2) 250 [.tup [.str s, .int v]]) σ Q := by
  rw [E.e_register_text]; unfold B_register_text
  walk_at "ww"
  have := ntext_len hv hb
  refine ct_number_text E hv hb fun σ' g => ?_
  refine W_adds2 (by lia) (by lia) ?_
  walk_at "ww"
  exact q _ g (by rw [app_len]; lia)
noncomputable def okR (r : Reg) : Prop := 1 ≤ r.n ∧ r.n < 10 ^ 18
theorem ct_read {n : Nat} {r : Reg} {Q : V → Hp → Prop} (hr : okR r) (h : Ck x l ix iy c σ) (q : ∀ σ', Ck x l ix iy (cread r c) σ' → Q .none σ') : W (callN K (n + 3) 278 [.ref x.i, r.v]) σ Q := by
  obtain ⟨y, k⟩ := r
  obtain ⟨h1, h2⟩ := hr
  have h0 : 0 ≤ k := by simp only at h1; lia
  simp only at h2
  rw [E.e_ClauseChecker_read]; unfold B_ClauseChecker_read
  cases y
  · simp only [Reg.v, Bool.false_eq_true, if_false]
    walk_at "ww"
    refine W_ifF (fun e => ?_) (fun e => ?_)
    · walk_at "ww"
      refine ct_register_text E (by decide +kernel) h0 h2 fun σ1 g1 l1 => ?_
      have h := h.ext g1
      refine W_adds2 l1 (by decide +kernel) ?_
      walk_at "ww"
      refine ct_complain E h fun σ2 h => ?_
      walk_at "ww"
      exact q _ (by simp at e; simpa [cread, rtext, e] using h)
    · walk_at "ww"
      refine W_ifF (fun e2 => ?_) (fun e2 => ?_)
      · walk_at "ww"
        refine ct_register_text E (by decide +kernel) h0 h2 fun σ1 g1 l1 => ?_
        have h := h.ext g1
        refine W_adds2 l1 (by decide +kernel) ?_
        walk_at "ww"
        refine ct_complain E h fun σ2 h => ?_
        walk_at "ww"
        exact q _ (by simp at e e2; subst e2; simpa [cread, rtext, e] using h)
      · walk_at "ww"
        exact q _ (by simp at e e2; simpa [cread, rtext, e, e2] using h)
  · simp only [Reg.v, if_true]
    walk_at "ww"
    refine W_ifF (fun e => ?_) (fun e => ?_)
    · walk_at "ww"
      refine ct_register_text E (by decide +kernel) h0 h2 fun σ1 g1 l1 => ?_
      have h := h.ext g1
      refine W_adds2 l1 (by decide +kernel) ?_
      walk_at "ww"
      refine ct_complain E h fun σ2 h => ?_
      walk_at "ww"
      exact q _ (by simp at e; simpa [cread, rtext, e] using h)
    · walk_at "ww"
      have e' : ¬ c.size < k := by simpa using e
      refine W_ifF (fun e2 => ?_) (fun e2 => ?_)
      · walk_at "ww"
        refine ct_register_text E (by decide +kernel) h0 h2 fun σ1 g1 l1 => ?_
        have h := h.ext g1
        refine W_adds2 l1 (by decide +kernel) ?_
        walk_at "ww"
        refine ct_complain E h fun σ2 h => ?_
        walk_at "ww"
        exact q _ (by simp only [Bool.not_eq_true', decide_eq_false_iff_not] at e2; simpa [cread, rtext, e', e2] using h)
      · walk_at "ww"
        exact q _ (by simp at e2; simpa [cread, rtext, e', e2] using h)
theorem ct_write {n : Nat} {r : Reg} {Q : V → Hp → Prop} (hr : okR r) (hx : c.xs.length ≤ 1000) (hy : c.ys.length ≤ 1000) (h : Ck x l ix iy c σ) (q : ∀ σ', Ck x l ix iy (cwrite r c) σ' → Q .none σ') : W (callN K (n + 3) 285 [.ref x.i, r.v]) σ Q := by
  obtain ⟨y, k⟩ := r
  obtain ⟨h1, h2⟩ := hr
  have h0 : 0 ≤ k := by simp only at h1; lia
  simp only at h2
  rw [E.e_ClauseChecker_write]; unfold B_ClauseChecker_write
  cases y
  · simp only [Reg.v, Bool.false_eq_true, if_false]
    walk_at "ww"
    refine W_ifF (fun e => ?_) (fun e => ?_)
    · walk_at "ww"
      refine Ck_s_building E h fun σ1 h => ?_
      walk_at "ww"
      refine Ck_addx h hx fun σ2 h => ?_
      walk_at "ww"
      exact q _ (by simp at e; simpa [cwrite, e] using h)
    · walk_at "ww"
      refine Ck_addx h hx fun σ2 h => ?_
      walk_at "ww"
      exact q _ (by simp at e; simpa [cwrite, e] using h)
  · simp only [Reg.v, if_true]
    walk_at "ww"
    refine W_ifF (fun e => ?_) (fun e => ?_)
    · walk_at "ww"
      refine ct_register_text E (by decide +kernel) h0 h2 fun σ1 g1 l1 => ?_
      have h := h.ext g1
      refine W_adds2 l1 (by decide +kernel) ?_
      walk_at "ww"
      refine ct_complain E h fun σ2 h => ?_
      walk_at "ww"
      exact q _ (by simp at e; simpa [cwrite, rtext, e] using h)
    · walk_at "ww"
      have e' : ¬ c.size < k := by simpa using e
      refine Ck_addy h hy fun σ2 h => ?_
      walk_at "ww"
      exact q _ (by simpa [cwrite, e'] using h)
end
end P_K1
section P_K2
open PySem PySem.W PyProof.Rows
set_option Elab.async false
set_option maxRecDepth 100000
set_option linter.unusedVariables false
set_option linter.unusedSectionVars false
section
variable {K : Frag} {x : CX} {l : List (Nat × O)} {ix iy : Nat} {c c' : CS} {σ σ' : Hp} (E : Env K)
include E
theorem ct_functor_count {n : Nat} {Q : V → Hp → Prop} (h : Ck x l ix iy c σ) (q : Q (.int x.ar.length) σ) : W (callN K (n + 1) 152 [.ref x.sy]) σ Q := by
  rw [E.e_Symbols_functor_count]; unfold B_Symbols_functor_count
  walk_at "ww"
  exact q
theorem ct_arity {n f : Nat} {Q : V → Hp → Prop} (h : Ck x l ix iy c σ) (hf : f < x.ar.length) (q : Q (.int (arOf x.ar f)) σ) : W (callN K (n + 1) 131 [.ref x.sy, .int (f : Int)]) σ Q := by
  rw [E.e_Symbols_arity]; unfold B_Symbols_arity
  walk_at "ww"
  refine Ck_item_functors h hf ?_
  walk_at "ww"
  exact q
theorem ct_arity_of {n f : Nat} {Q : V → Hp → Prop} (h : Ck x l ix iy c σ) (hf : f < x.ar.length) (q : Q (.int (arOf x.ar f)) σ) : W (callN K (n + 2) 292 [.ref x.i, .int (f : Int)]) σ Q := by
  rw [E.e_ClauseChecker_arity_of]; unfold B_ClauseChecker_arity_of
  walk_at "ww"
  refine AQ_on' (decide_eq_false (by lia)) ?_
  walk_at "ww"
  refine ct_functor_count E h ?_
  walk_at "ww"
  refine AQ_on' (decide_eq_false (by lia)) ?_
  walk_at "ww"
  refine ct_arity E h hf ?_
  walk_at "ww"
  exact q
omit E in
theorem pig : ∀ (N : Nat) (p : Int) (xs : List Int), (∀ j : Nat, j < N → p + j ∈ xs) → N ≤ xs.length
  | 0, _, _, _ => Nat.zero_le _
  | N + 1, p, xs, h => by
    have hp : p ∈ xs := by have := h 0 (by lia); simpa using this
    have := pig N (p + 1) (xs.erase p) fun j hj => by
      have := h (j + 1) (by lia)
      refine (List.mem_erase_of_ne (by lia)).mpr ?_
      have e : p + 1 + (j : Int) = p + ((j + 1 : Nat) : Int) := by lia
      rw [e]; exact this
    have e := List.length_erase_of_mem hp
    have : 0 < xs.length := List.length_pos_of_mem hp
    lia
noncomputable abbrev argB (K : Frag) (C : Or) : XsT := B_ClauseChecker_arguments_3 K C
theorem args_loop {n : Nat} {a : Int} {f : V} {Q : Fl × Loc → Hp → Prop} (ha : a < 2 ^ 59) (h : Ck x l ix iy c σ) : ∀ (N k : Nat) (p : Int) (m : Loc), N < k → (∀ v, put m "place" v = ([("self", .ref x.i), ("functor", f), ("place", v)] : Loc)) →
    0 ≤ p → (∃ j : Nat, j < N ∧ (a < p + j ∨ p + j ∉ c.xs)) →
    (match lackF c.xs a N p with
      | none => ∀ m', Q (.next, m') σ
      | some p => ∀ m' σ', Ck x l ix iy (comp ("argument " ++ ntext p ++ " is lacking") c) σ' → Q (.ret .none, m') σ') →
    W (forV "place" (argB K (callN K (n + 2))) k (.rng p (a + 1)) m) σ Q := by
  intro N
  induction N with
  | zero => intro k p m hk hm hp ⟨j, hj, _⟩; lia
  | succ N ih =>
    intro k p m hk hm hp ⟨j, hj, hj'⟩ q
    obtain ⟨k, rfl⟩ : ∃ k', k = k' + 1 := ⟨k - 1, by lia⟩
    rw [lackF_s] at q
    by_cases hpa : p ≤ a
    · refine W_for (next_rng (by lia)) ?_
      rw [hm]
      unfold argB
      rw [if_pos hpa] at q
      walk_at "ww"
      refine W_ifF (fun e => ?_) (fun e => ?_)
      · have e : p ∉ c.xs := by simpa using e
        rw [if_neg e] at q
        walk_at "ww"
        have h2 : p < 10 ^ 18 := Int.lt_of_le_of_lt hpa (Int.lt_trans ha (by decide +kernel))
        have hl := ntext_len hp h2
        refine ct_number_text E hp h2 fun σ1 g => ?_
        have h := h.ext g
        refine W_adds2 (by decide +kernel) (by lia) ?_
        walk_at "ww"
        refine W_adds2 ?_ (by decide +kernel) ?_
        · rw [app_len]
          have : (Str.ofString "argument ").length = 9 := by decide +kernel
          lia
        walk_at "ww"
        refine ct_complain E h fun σ2 h => ?_
        walk_at "ww"
        exact q _ _ h
      · have e : p ∈ c.xs := by simpa using e
        rw [if_pos e] at q
        walk_at "ww"
        refine ih _ (p + 1) _ (by lia) (fun v => ?_) (by lia) ?_ q
        · walk_at "put"
        · cases j with
          | zero => simp at hj'; rcases hj' with h' | h'
                    · lia
                    · exact absurd e h'
          | succ j =>
            refine ⟨j, by lia, ?_⟩
            have e : p + 1 + (j : Int) = p + ((j + 1 : Nat) : Int) := by lia
            rw [e]; exact hj'
    · rw [if_neg hpa] at q
      exact W_forEnd (next_rngE (by lia)) (q _)
set_option tactic.hygienic true in
theorem ct_arguments {n f : Nat} {Q : V → Hp → Prop} (h : Ck x l ix iy c σ) (hf : f < x.ar.length) (ha : -1000 ≤ arOf x.ar f) (hb : arOf x.ar f < 2 ^ 59) (hx : c.xs.length ≤ 900) (q : ∀ σ', Ck x l ix iy (cargs (arOf x.ar f) c) σ' → Q .none σ') : W (callN K (n + 3) 299 [.ref x.i, .int (f : Int)]) σ Q := by
  rw [E.e_ClauseChecker_arguments]; unfold B_ClauseChecker_arguments
  walk_at "ww"
  refine ct_arity_of E h hf ?_
  walk_at "ww"
  refine W_iterR (by decide) (by decide) (by lia) (by lia) ?_
  refine args_loop (f := .int f) E (by lia) h 1000 4096 1 _ (by lia) (fun v => ?_) (by lia) ?_ ?_
  · walk_at "put"
  · apply Classical.byContradiction
    intro hn
    have := pig 1000 1 c.xs fun j hj => Classical.byContradiction fun hm => hn ⟨j, hj, .inr hm⟩
    lia
  · unfold cargs at q
    split
    · rename_i e
      rw [e] at q
      intro m'
      walk_at "ww"
      exact q _ h
    · rename_i p e
      rw [e] at q
      intro m' σ' h'
      walk_at "ww"
      exact q _ h'
theorem ct_open {n : Nat} {k : Int} {f : Fam} {Q : V → Hp → Prop} (h : Ck x l ix iy c σ) (q : ∀ σ', Ck x l ix iy (copen k f c) σ' → Q .none σ') : W (callN K (n + 2) 306 [.ref x.i, .int k, .str f.text]) σ Q := by
  rw [E.e_ClauseChecker_open_structure]; unfold B_ClauseChecker_open_structure
  walk_at "ww"
  refine W_ifF (fun e => ?_) (fun e => ?_)
  · have e : k < 1 := by simpa using e
    walk_at "ww"
    refine ct_complain E h fun σ1 h => ?_
    walk_at "ww"
    refine Ck_s_due E h fun σ1 h => ?_
    walk_at "ww"
    refine Ck_s_family E h fun σ1 h => ?_
    walk_at "ww"
    exact q _ (by unfold copen; rw [if_pos e]; exact h)
  · have e : ¬ k < 1 := by simpa using e
    walk_at "ww"
    refine Ck_s_due E h fun σ1 h => ?_
    walk_at "ww"
    refine Ck_s_family E h fun σ1 h => ?_
    walk_at "ww"
    exact q _ (by unfold copen; rw [if_neg e]; exact h)
end
end P_K2
section P_K3
open PySem PySem.W PyProof.Rows
set_option Elab.async false
set_option maxRecDepth 100000
set_option linter.unusedVariables false
set_option linter.unusedSectionVars false
section
variable {K : Frag} {x : CX} {l : List (Nat × O)} {ix iy : Nat} {c c' : CS} {σ σ' : Hp} (E : Env K)
noncomputable def okX (k : Int) : Prop := okR (X k)
noncomputable def okF (ar : List (Int × Int)) (f : Nat) : Prop := f < ar.length ∧ 0 ≤ arOf ar f ∧ arOf ar f < 2 ^ 59
noncomputable def sm (c : CS) (b : Nat) : Prop := c.xs.length ≤ b ∧ c.ys.length ≤ b
theorem sm.mono {b b' : Nat} (h : sm c b) (hb : b ≤ b') : sm c b' := ⟨Nat.le_trans h.1 hb, Nat.le_trans h.2 hb⟩
theorem comp_xs {t : Str} : (comp t c).xs = c.xs := by unfold comp; split <;> rfl
theorem comp_ys {t : Str} : (comp t c).ys = c.ys := by unfold comp; split <;> rfl
theorem comp_due {t : Str} : (comp t c).due = c.due := by unfold comp; split <;> rfl
theorem comp_sm {t : Str} {b : Nat} (h : sm c b) : sm (comp t c) b := by
  unfold sm; rw [comp_xs, comp_ys]; exact h
noncomputable def M.wt : M → Nat
  | .wr _ => 1
  | _ => 0
set_option tactic.hygienic true in
theorem run_sm {m : M} {b : Nat} (h : sm c b) : sm (m.run c) (b + m.wt) := by
  cases m <;> delta M.run M.wt <;> dsimp only [Nat.add_zero]
  · unfold cread; repeat' split
    all_goals first | exact h | exact comp_sm h
  · rename_i r
    have i1 := @ins_len c.xs r.n
    have i2 := @ins_len c.ys r.n
    obtain ⟨h1, h2⟩ := h
    unfold cwrite; repeat' split
    · exact (comp_sm ⟨h1, h2⟩).mono (by lia)
    all_goals constructor <;> simp only <;> lia
  · unfold copen; split
    · exact comp_sm h
    · exact h
  · exact h
  · unfold cargs; split
    · exact h
    · exact comp_sm h
  · unfold ccall
    constructor
    · simp
    · exact Nat.le_trans (List.length_filter_le _ _) h.2
  · unfold cleave; split
    · exact comp_sm h
    · exact h
  · exact h
  · unfold calloc; split
    · exact comp_sm h
    · exact h
  · unfold cdeall
    refine ⟨?_, by simp⟩
    split
    · exact (comp_sm h).1
    · exact h.1
  · unfold cdone; split
    · exact comp_sm h
    · exact h
theorem sm_hx {b : Nat} (h : sm c b) (hb : b ≤ 900) : c.xs.length ≤ 900 := Nat.le_trans h.1 hb
include E
theorem ct_done {n : Nat} {v : V} {d : Int} {kd : V} {Q : Fl × Loc → Hp → Prop} (h : Ck x l ix iy c σ) (q : ∀ m σ', Ck x l ix iy (cdone d c) σ' → Q (.next, m) σ') :
    W ((fun m => seqF (bnd (allV .Or [bnd (ofO (lk m "done")) fun a491 => cmpV .Lt a491 (.int 1), bnd (ofO (lk m "done")) fun a492 => bnd (bnd (ofO (lk m "self")) fun a494 => attrV K a494 "due") fun a493 => cmpV .Gt a492 a493]) fun c490 => ifF c490 (seqF (bnd (bnd (ofO (lk m "self")) fun a496 => bnd (methOf K a496 "complain") fun f497 => bnd (mvs [ret (.str "too many arguments in a structure")]) fun s498 => callM K (callN K (n + 1)) f497 a496 s498) fun v495 => grd (noRef v495) (ret (Fl.next, m))) fun m => seqF (bnd (bnd (ofO (lk m "self")) fun a500 => attrV K a500 "due") fun v499 => ret (Fl.next, put m "done" v499)) fun m => ret (Fl.next, m))
  (ret (Fl.next, m))) fun m => seqF (bnd (ofO (lk m "self")) fun a502 => bnd (attrV K a502 "due") fun a503 => bnd (ofO (lk m "done")) fun a504 => bnd (augV .Sub a503 a504) fun v501 => bnd (setAttrV K a502 "due" v501) fun zz => ret (Fl.next, m)) fun m => seqF (bnd (bnd (bnd (ofO (lk m "self")) fun a507 => attrV K a507 "due") fun a506 => cmpV .Eq a506 (.int 0)) fun c505 => ifF c505 (seqF (bnd (ret (.int 0)) fun v508 => bnd (ofO (lk m "self")) fun a509 => bnd (setAttrV K a509 "building" v508) fun zz => ret (Fl.next, m)) fun m => ret (Fl.next, m))
  (ret (Fl.next, m))) fun m => ret (Fl.next, m)) ([("self", .ref x.i), ("ins", v), ("kind", kd), ("done", .int d)] : Loc)) σ Q := by
  have last : ∀ (d : Int) (c : CS) (σ : Hp), Ck x l ix iy c σ → (∀ m σ', Ck x l ix iy (csub d c) σ' → Q (.next, m) σ') → W ((fun m => seqF (bnd (ofO (lk m "self")) fun a502 => bnd (attrV K a502 "due") fun a503 => bnd (ofO (lk m "done")) fun a504 => bnd (augV .Sub a503 a504) fun v501 => bnd (setAttrV K a502 "due" v501) fun zz => ret (Fl.next, m)) fun m => seqF (bnd (bnd (bnd (ofO (lk m "self")) fun a507 => attrV K a507 "due") fun a506 => cmpV .Eq a506 (.int 0)) fun c505 => ifF c505 (seqF (bnd (ret (.int 0)) fun v508 => bnd (ofO (lk m "self")) fun a509 => bnd (setAttrV K a509 "building" v508) fun zz => ret (Fl.next, m)) fun m => ret (Fl.next, m))
    (ret (Fl.next, m))) fun m => ret (Fl.next, m)) ([("self", .ref x.i), ("ins", v), ("kind", kd), ("done", .int d)] : Loc)) σ Q := by
    intro d c σ h q
    walk_at "ww"
    refine Ck_s_due E h fun σ1 h => ?_
    walk_at "ww"
    refine W_ifF (fun e => ?_) (fun e => ?_)
    · walk_at "ww"
      refine Ck_s_building E h fun σ1 h => ?_
      walk_at "ww"
      exact q _ _ (by simp at e; unfold csub; rw [if_pos e]; exact h)
    · walk_at "ww"
      exact q _ _ (by simp at e; unfold csub; rw [if_neg e]; exact h)
  dsimp only
  refine W_seq ?_
  by_cases hd : d < 1 ∨ c.due < d
  · refine W_cut (m := [("self", .ref x.i), ("ins", v), ("kind", kd), ("done", .int c.due)]) (P := Ck x l ix iy (comp "too many arguments in a structure" c)) ?_ ?_
    · refine W_bnd (W_mono (Q := fun b σ' => b = true ∧ σ' = σ) ?_ ?_)
      · walk_at "ww"
        refine AQ_o (fun e => ⟨rfl, rfl⟩) (fun e => ?_)
        walk_at "ww"
        refine AQ_o (fun e => ⟨rfl, rfl⟩) (fun e2 => ?_)
        simp at e e2; lia
      · rintro b σ' ⟨rfl, rfl⟩
        walk_at "ww"
        refine ct_complain E h fun σ1 h => ?_
        walk_at "ww"
        rw [comp_due]
        exact ⟨rfl, h⟩
    · intro σ1 h
      refine last _ _ _ h ?_
      unfold cdone at q
      rw [if_pos hd] at q
      exact q
  · refine W_cut (m := [("self", .ref x.i), ("ins", v), ("kind", kd), ("done", .int d)]) (P := Ck x l ix iy c) ?_ ?_
    · refine W_bnd (W_mono (Q := fun b σ' => b = false ∧ σ' = σ) ?_ ?_)
      · walk_at "ww"
        refine AQ_o (fun e => ?_) (fun e => ?_)
        · simp at e; lia
        walk_at "ww"
        refine AQ_o (fun e => ?_) (fun e2 => ?_)
        · simp at e; lia
        walk_at "ww"
        exact ⟨rfl, rfl⟩
      · rintro b σ' ⟨rfl, rfl⟩
        walk_at "ww"
        exact ⟨rfl, h⟩
    · intro σ1 h
      refine last _ _ _ h ?_
      unfold cdone at q
      rw [if_neg hd] at q
      exact q
end
end P_K3
section P_K4
open PySem PySem.W PyProof.Rows
set_option Elab.async false
set_option maxRecDepth 100000
set_option linter.unusedVariables false
set_option linter.unusedSectionVars false
section
variable {K : Frag} {x : CX} {l : List (Nat × O)} {ix iy : Nat} {c c' : CS} {σ σ' : Hp} (E : Env K)
include E
theorem ct_struct {n : Nat} {u : Bool} {k : SK} {Q : V → Hp → Prop} (hf : c.fam = famOf u) (hk : match k with | .var r => okR r | .val r => okR r | _ => True) (hx : c.xs.length ≤ 900) (hy : c.ys.length ≤ 900) (h : Ck x l ix iy c σ) (q : ∀ σ', Ck x l ix iy (runM k.ms c) σ' → Q .none σ') : W (callN K (n + 4) 313 [.ref x.i, k.v u]) σ Q := by
  rw [E.e_ClauseChecker_structure_step]; unfold B_ClauseChecker_structure_step
  cases u <;> cases k
  all_goals
    simp only [SK.v, Bool.false_eq_true, if_false, if_true]
    walk_at "ww"
    rw [hf]
    refine W_lenS (by decide +kernel) ?_
    walk_at "ww"
  · refine W_slice (t := "void") (by kernel_rfl) ?_
    repeat (first | (with_reducible refine ct_done E (n := n + 2) h fun m σ' h => ?_) | walk_at "w" | walk_at "c" | walk_at "i")
    exact q _ h
  · refine W_slice (t := "variable") (by kernel_rfl) ?_
    walk_at "ww"
    refine ct_write E hk (by lia) (by lia) h fun σ' h => ?_
    repeat (first | (with_reducible refine ct_done E (n := n + 2) h fun m σ' h => ?_) | walk_at "w" | walk_at "c" | walk_at "i")
    exact q _ h
  · refine W_slice (t := "value") (by kernel_rfl) ?_
    walk_at "ww"
    refine ct_read E hk h fun σ' h => ?_
    repeat (first | (with_reducible refine ct_done E (n := n + 2) h fun m σ' h => ?_) | walk_at "w" | walk_at "c" | walk_at "i")
    exact q _ h
  · refine W_slice (t := "constant") (by kernel_rfl) ?_
    repeat (first | (with_reducible refine ct_done E (n := n + 2) h fun m σ' h => ?_) | walk_at "w" | walk_at "c" | walk_at "i")
    exact q _ h
  · refine W_slice (t := "void") (by kernel_rfl) ?_
    repeat (first | (with_reducible refine ct_done E (n := n + 2) h fun m σ' h => ?_) | walk_at "w" | walk_at "c" | walk_at "i")
    exact q _ h
  · refine W_slice (t := "variable") (by kernel_rfl) ?_
    walk_at "ww"
    refine ct_write E hk (by lia) (by lia) h fun σ' h => ?_
    repeat (first | (with_reducible refine ct_done E (n := n + 2) h fun m σ' h => ?_) | walk_at "w" | walk_at "c" | walk_at "i")
    exact q _ h
  · refine W_slice (t := "local_value") (by kernel_rfl) ?_
    walk_at "ww"
    refine ct_read E hk h fun σ' h => ?_
    repeat (first | (with_reducible refine ct_done E (n := n + 2) h fun m σ' h => ?_) | walk_at "w" | walk_at "c" | walk_at "i")
    exact q _ h
  · refine W_slice (t := "constant") (by kernel_rfl) ?_
    repeat (first | (with_reducible refine ct_done E (n := n + 2) h fun m σ' h => ?_) | walk_at "w" | walk_at "c" | walk_at "i")
    exact q _ h
end
end P_K4
section P_K5
open PySem PySem.W PyProof.Rows
set_option Elab.async false
set_option maxRecDepth 100000
set_option linter.unusedVariables false
set_option linter.unusedSectionVars false
section
variable {K : Frag} {x : CX} {l : List (Nat × O)} {ix iy : Nat} {c c' : CS} {σ σ' : Hp} (E : Env K)
include E
theorem mt_rd {n b : Nat} {r : Reg} {Q : V → Hp → Prop} (h : Ck x l ix iy c σ) (hs : sm c b) (hr : okR r) (q : ∀ σ', Ck x l ix iy (M.run (.rd r) c) σ' → sm (M.run (.rd r) c) b → Q .none σ') : W (callN K (n + 3) 278 [.ref x.i, r.v]) σ Q :=
  ct_read E hr h fun σ' h => q _ h (run_sm (m := .rd r) hs)
theorem mt_rdX {n b : Nat} {k : Int} {Q : V → Hp → Prop} (h : Ck x l ix iy c σ) (hs : sm c b) (hr : okX k) (q : ∀ σ', Ck x l ix iy (M.run (.rd (X k)) c) σ' → sm (M.run (.rd (X k)) c) b → Q .none σ') : W (callN K (n + 3) 278 [.ref x.i, xV k]) σ Q :=
  ct_read E (r := X k) hr h fun σ' h => q _ h (run_sm (m := .rd (X k)) hs)
theorem mt_wr {n b : Nat} {r : Reg} {Q : V → Hp → Prop} (h : Ck x l ix iy c σ) (hs : sm c b) (hb : b ≤ 200) (hr : okR r) (q : ∀ σ', Ck x l ix iy (M.run (.wr r) c) σ' → sm (M.run (.wr r) c) (b + 1) → Q .none σ') : W (callN K (n + 3) 285 [.ref x.i, r.v]) σ Q :=
  ct_write E hr (Nat.le_trans hs.1 (by lia)) (Nat.le_trans hs.2 (by lia)) h fun σ' h => q _ h (run_sm (m := .wr r) hs)
theorem mt_wrX {n b : Nat} {k : Int} {Q : V → Hp → Prop} (h : Ck x l ix iy c σ) (hs : sm c b) (hb : b ≤ 200) (hr : okX k) (q : ∀ σ', Ck x l ix iy (M.run (.wr (X k)) c) σ' → sm (M.run (.wr (X k)) c) (b + 1) → Q .none σ') : W (callN K (n + 3) 285 [.ref x.i, xV k]) σ Q :=
  ct_write E (r := X k) hr (Nat.le_trans hs.1 (by lia)) (Nat.le_trans hs.2 (by lia)) h fun σ' h => q _ h (run_sm (m := .wr (X k)) hs)
theorem mt_opU {n b : Nat} {k : Int} {Q : V → Hp → Prop} (h : Ck x l ix iy c σ) (hs : sm c b) (q : ∀ σ', Ck x l ix iy (M.run (.opn k .u) c) σ' → sm (M.run (.opn k .u) c) b → Q .none σ') : W (callN K (n + 2) 306 [.ref x.i, .int k, .str "unify_"]) σ Q :=
  ct_open E (f := .u) h fun σ' h => q _ h (run_sm (m := .opn k .u) hs)
theorem mt_opS {n b : Nat} {k : Int} {Q : V → Hp → Prop} (h : Ck x l ix iy c σ) (hs : sm c b) (q : ∀ σ', Ck x l ix iy (M.run (.opn k .s) c) σ' → sm (M.run (.opn k .s) c) b → Q .none σ') : W (callN K (n + 2) 306 [.ref x.i, .int k, .str "set_"]) σ Q :=
  ct_open E (f := .s) h fun σ' h => q _ h (run_sm (m := .opn k .s) hs)
theorem mt_bld {b : Nat} {v : Int} {Q : Unit → Hp → Prop} (h : Ck x l ix iy c σ) (hs : sm c b) (q : ∀ σ', Ck x l ix iy (M.run (.bld v) c) σ' → sm (M.run (.bld v) c) b → Q () σ') : W (setAttrV K (.ref x.i) "building" (.int v)) σ Q :=
  Ck_s_building E h fun σ' h => q _ h (run_sm (m := .bld v) hs)
theorem mt_args {n b f : Nat} {Q : V → Hp → Prop} (h : Ck x l ix iy c σ) (hs : sm c b) (hb : b ≤ 200) (hf : okF x.ar f) (q : ∀ σ', Ck x l ix iy (M.run (.args (arOf x.ar f)) c) σ' → sm (M.run (.args (arOf x.ar f)) c) b → Q .none σ') : W (callN K (n + 3) 299 [.ref x.i, .int (f : Int)]) σ Q :=
  ct_arguments E h hf.1 (by have := hf.2.1; lia) hf.2.2 (Nat.le_trans hs.1 (by lia)) fun σ' h => q _ h (run_sm (m := .args (arOf x.ar f)) hs)
theorem mt_fin {b : Nat} {Q : Unit → Hp → Prop} (h : Ck x l ix iy c σ) (hs : sm c b) (q : ∀ σ', Ck x l ix iy (M.run .fin c) σ' → sm (M.run .fin c) b → Q () σ') : W (setAttrV K (.ref x.i) "ended" (.bool true)) σ Q :=
  Ck_s_ended E h fun σ' h => q _ h (run_sm (m := .fin) hs)
omit E in
theorem W_xV1 {k : Int} {Q : V → Hp → Prop} (h : Q (.int k) σ) : W (itemV (xV k) (.int 1)) σ Q := ⟨_, σ, rfl, h⟩
theorem mt_arity {n f : Nat} {Q : V → Hp → Prop} (h : Ck x l ix iy c σ) (hf : okF x.ar f) (q : Q (.int (arOf x.ar f)) σ) : W (callN K (n + 2) 292 [.ref x.i, .int (f : Int)]) σ Q := ct_arity_of E h hf.1 q
omit E in
theorem W_ifge {α : Type} {a b : Mo α} {f : Nat} {Q} (hf : okF x.ar f) (h : W a σ Q) : W (ifF (decide (0 ≤ arOf x.ar f)) a b) σ Q := W_ifT (decide_eq_true hf.2.1) h
end
end P_K5
local macro_rules | `(tactic| walk_at "m1") => `(tactic| with_reducible first
  | (refine' mt_rd ‹Env _› ?k1 ?k2 ?k3 ?_; (case k1 => assumption); (case k2 => assumption); (case k3 => assumption); intro σ' h' hs')
  | (refine' mt_rdX ‹Env _› ?k1 ?k2 ?k3 ?_; (case k1 => assumption); (case k2 => assumption); (case k3 => assumption); intro σ' h' hs')
  | (refine' mt_wr ‹Env _› ?k1 ?k2 ?k4 ?k3 ?_; (case k1 => assumption); (case k2 => assumption); (case k3 => assumption); (case k4 => decide); intro σ' h' hs')
  | (refine' mt_wrX ‹Env _› ?k1 ?k2 ?k4 ?k3 ?_; (case k1 => assumption); (case k2 => assumption); (case k3 => assumption); (case k4 => decide); intro σ' h' hs')
  | (refine' mt_opU ‹Env _› ?k1 ?k2 ?_; (case k1 => assumption); (case k2 => assumption); intro σ' h' hs')
  | (refine' mt_opS ‹Env _› ?k1 ?k2 ?_; (case k1 => assumption); (case k2 => assumption); intro σ' h' hs')
  | (refine' mt_bld ‹Env _› ?k1 ?k2 ?_; (case k1 => assumption); (case k2 => assumption); intro σ' h' hs')
  | (refine' mt_args ‹Env _› ?k1 ?k2 ?k4 ?k3 ?_; (case k1 => assumption); (case k2 => assumption); (case k3 => assumption); (case k4 => decide); intro σ' h' hs')
  | (refine' mt_fin ‹Env _› ?k1 ?k2 ?_; (case k1 => assumption); (case k2 => assumption); intro σ' h' hs')
  | (refine' mt_arity ‹Env _› ?k1 ?k3 ?_; (case k1 => assumption); (case k3 => assumption))
  | (refine' W_ifge ?k3 ?_; (case k3 => assumption))
  | refine W_xV1 ?_)
set_option hygiene false in
local macro_rules | `(tactic| walk_at "wm") => `(tactic| repeat (first | walk_at "w" | walk_at "m1" | walk_at "c" | walk_at "i"))
section P_K5
open PySem PySem.W PyProof.Rows
set_option Elab.async false
set_option maxRecDepth 100000
set_option linter.unusedVariables false
set_option linter.unusedSectionVars false
section
variable {K : Frag} {x : CX} {l : List (Nat × O)} {ix iy : Nat} {c c' : CS} {σ σ' : Hp} (E : Env K)
include E
theorem ct_getVar {n : Nat} {r : Reg} {k : Int} {Q : V → Hp → Prop} (hr : okR r) (hk : okX k) (hs : sm c 60) (h : Ck x l ix iy c σ) (q : ∀ σ', Ck x l ix iy (runM (Op.ms x.ar (.getVar r k)) c) σ' → Q .none σ') : W (callN K (n + 4) 320 [.ref x.i, Op.v (.getVar r k)]) σ Q := by
  delta Op.v; dsimp only
  rw [E.e_ClauseChecker_get_step]; unfold B_ClauseChecker_get_step
  walk_at "wm"
  exact q _ ‹_›
theorem ct_getVal {n : Nat} {r : Reg} {k : Int} {Q : V → Hp → Prop} (hr : okR r) (hk : okX k) (hs : sm c 60) (h : Ck x l ix iy c σ) (q : ∀ σ', Ck x l ix iy (runM (Op.ms x.ar (.getVal r k)) c) σ' → Q .none σ') : W (callN K (n + 4) 320 [.ref x.i, Op.v (.getVal r k)]) σ Q := by
  delta Op.v; dsimp only
  rw [E.e_ClauseChecker_get_step]; unfold B_ClauseChecker_get_step
  walk_at "wm"
  exact q _ ‹_›
theorem ct_getCon {n : Nat} {a b k : Int} {Q : V → Hp → Prop} (hk : okX k) (hs : sm c 60) (h : Ck x l ix iy c σ) (q : ∀ σ', Ck x l ix iy (runM (Op.ms x.ar (.getCon a b k)) c) σ' → Q .none σ') : W (callN K (n + 4) 320 [.ref x.i, Op.v (.getCon a b k)]) σ Q := by
  delta Op.v; dsimp only
  rw [E.e_ClauseChecker_get_step]; unfold B_ClauseChecker_get_step
  walk_at "wm"
  exact q _ ‹_›
theorem ct_getList {n : Nat} {k : Int} {Q : V → Hp → Prop} (hk : okX k) (hs : sm c 60) (h : Ck x l ix iy c σ) (q : ∀ σ', Ck x l ix iy (runM (Op.ms x.ar (.getList k)) c) σ' → Q .none σ') : W (callN K (n + 4) 320 [.ref x.i, Op.v (.getList k)]) σ Q := by
  delta Op.v; dsimp only
  rw [E.e_ClauseChecker_get_step]; unfold B_ClauseChecker_get_step
  walk_at "wm"
  exact q _ ‹_›
theorem ct_getStr {n : Nat} {f : Nat} {k : Int} {Q : V → Hp → Prop} (hf : okF x.ar f) (hk : okX k) (hs : sm c 60) (h : Ck x l ix iy c σ) (q : ∀ σ', Ck x l ix iy (runM (Op.ms x.ar (.getStr f k)) c) σ' → Q .none σ') : W (callN K (n + 4) 320 [.ref x.i, Op.v (.getStr f k)]) σ Q := by
  delta Op.v; dsimp only
  rw [E.e_ClauseChecker_get_step]; unfold B_ClauseChecker_get_step
  walk_at "wm"
  exact q _ ‹_›
theorem ct_putVar {n : Nat} {r : Reg} {k : Int} {Q : V → Hp → Prop} (hr : okR r) (hk : okX k) (hs : sm c 60) (h : Ck x l ix iy c σ) (q : ∀ σ', Ck x l ix iy (runM (Op.ms x.ar (.putVar r k)) c) σ' → Q .none σ') : W (callN K (n + 4) 327 [.ref x.i, Op.v (.putVar r k)]) σ Q := by
  delta Op.v; dsimp only
  rw [E.e_ClauseChecker_put_step]; unfold B_ClauseChecker_put_step
  walk_at "wm"
  exact q _ ‹_›
theorem ct_putVal {n : Nat} {r : Reg} {k : Int} {Q : V → Hp → Prop} (hr : okR r) (hk : okX k) (hs : sm c 60) (h : Ck x l ix iy c σ) (q : ∀ σ', Ck x l ix iy (runM (Op.ms x.ar (.putVal r k)) c) σ' → Q .none σ') : W (callN K (n + 4) 327 [.ref x.i, Op.v (.putVal r k)]) σ Q := by
  delta Op.v; dsimp only
  rw [E.e_ClauseChecker_put_step]; unfold B_ClauseChecker_put_step
  walk_at "wm"
  exact q _ ‹_›
theorem ct_putCon {n : Nat} {a b k : Int} {Q : V → Hp → Prop} (hk : okX k) (hs : sm c 60) (h : Ck x l ix iy c σ) (q : ∀ σ', Ck x l ix iy (runM (Op.ms x.ar (.putCon a b k)) c) σ' → Q .none σ') : W (callN K (n + 4) 327 [.ref x.i, Op.v (.putCon a b k)]) σ Q := by
  delta Op.v; dsimp only
  rw [E.e_ClauseChecker_put_step]; unfold B_ClauseChecker_put_step
  walk_at "wm"
  exact q _ ‹_›
theorem ct_putList {n : Nat} {k : Int} {Q : V → Hp → Prop} (hk : okX k) (hs : sm c 60) (h : Ck x l ix iy c σ) (q : ∀ σ', Ck x l ix iy (runM (Op.ms x.ar (.putList k)) c) σ' → Q .none σ') : W (callN K (n + 4) 327 [.ref x.i, Op.v (.putList k)]) σ Q := by
  delta Op.v; dsimp only
  rw [E.e_ClauseChecker_put_step]; unfold B_ClauseChecker_put_step
  walk_at "wm"
  exact q _ ‹_›
theorem ct_putStr {n : Nat} {f : Nat} {k : Int} {Q : V → Hp → Prop} (hf : okF x.ar f) (hk : okX k) (hs : sm c 60) (h : Ck x l ix iy c σ) (q : ∀ σ', Ck x l ix iy (runM (Op.ms x.ar (.putStr f k)) c) σ' → Q .none σ') : W (callN K (n + 4) 327 [.ref x.i, Op.v (.putStr f k)]) σ Q := by
  delta Op.v; dsimp only
  rw [E.e_ClauseChecker_put_step]; unfold B_ClauseChecker_put_step
  walk_at "wm"
  exact q _ ‹_›
end
end P_K5
section P_K6
open PySem PySem.W PyProof.Rows
set_option Elab.async false
set_option maxRecDepth 100000
set_option linter.unusedVariables false
set_option linter.unusedSectionVars false
section
variable {K : Frag} {x : CX} {l : List (Nat × O)} {ix iy : Nat} {c c' : CS} {σ σ' : Hp} (E : Env K)
theorem W_iterL {r : Nat} {xs : List V} {Q : It → Hp → Prop} (e : σ[r]? = some (.list xs)) (h : Q (.list r 0) σ) : W (iterV (.ref r)) σ Q := by
  show W (bnd (gtL r) fun zz => ret (It.list r 0)) σ Q
  exact W_bnd (W_gtL e (W_ret h))
theorem next_list {r k : Nat} {xs : List V} {v : V} (e : σ[r]? = some (.list xs)) (hv : xs[k]? = some v) : nextI (.list r k) σ = some (some (v, .list r (k + 1)), σ) := by
  unfold nextI gtL
  simp only [bnd, gt, e, ret, hv]
theorem next_listE {r k : Nat} {xs : List V} (e : σ[r]? = some (.list xs)) (hv : xs[k]? = none) : nextI (.list r k) σ = some (none, σ) := by
  unfold nextI gtL
  simp only [bnd, gt, e, ret, hv]
noncomputable def slotB (K : Frag) : XsT := fun m => seqF (bnd (bnd (ofO (lk m "slot")) fun a633 => bnd (bnd (ofO (lk m "ins")) fun a635 => itemV a635 (.int 2)) fun a634 => cmpV .Gt a633 a634) fun c632 => ifF c632 (seqF (bnd (bnd (ofO (lk m "self")) fun a637 => attrV K a637 "ys") fun a636 => bnd (ofO (lk m "slot")) fun a638 => bnd (delItemV a636 a638) fun zz => ret (Fl.next, m)) fun m => ret (Fl.next, m))
    (ret (Fl.next, m))) fun m => ret (Fl.next, m)
include E
theorem slot_loop {a b : V} {live : Int} {L : List Int} {r : Nat} {Q : Fl × Loc → Hp → Prop} : ∀ (rem : List Int) (k : Nat) (fuel : Nat) (m : Loc) (c : CS) (σ : Hp), L.drop k = rem → rem.length < fuel → rem.Nodup → (∀ s ∈ rem, s ∈ c.ys) → c.ys.length ≤ 1000 →
    (∀ v, put m "slot" v = ([("self", .ref x.i), ("ins", .tup [a, b, .int live]), ("slot", v)] : Loc)) → Ck x ((r, .list (L.map V.int)) :: l) ix iy c σ →
    (∀ m' σ', Ck x l ix iy { c with ys := c.ys.filter fun s => decide (¬ (s ∈ rem ∧ live < s)) } σ' → Q (.next, m') σ') → W (forV "slot" (slotB K) fuel (.list r k) m) σ Q
  | [], k, fuel, m, c, σ, hd, hf, hn, hm, hl, hp, h, q => by
    obtain ⟨fuel, rfl⟩ : ∃ f, fuel = f + 1 := ⟨fuel - 1, by simp at hf; lia⟩
    have hk : L.length ≤ k := List.drop_eq_nil_iff.mp hd
    refine W_forEnd (next_listE (h.in_ (.head _)) (List.getElem?_eq_none (by simpa using hk))) (q _ _ ?_)
    have : (c.ys.filter fun s => decide (¬ (s ∈ ([] : List Int) ∧ live < s))) = c.ys := by simp
    rw [this]
    exact h.drop
  | s :: rem, k, fuel, m, c, σ, hd, hf, hn, hm, hl, hp, h, q => by
    obtain ⟨fuel, rfl⟩ : ∃ f, fuel = f + 1 := ⟨fuel - 1, by simp at hf; lia⟩
    have hk : k < L.length := by
      apply Classical.byContradiction; intro hn
      rw [List.drop_eq_nil_of_le (by lia)] at hd; cases hd
    rw [List.drop_eq_getElem_cons hk] at hd
    injection hd with hd1 hd2
    refine W_for (next_list (v := .int s) (h.in_ (.head _)) (by rw [List.getElem?_map, List.getElem?_eq_getElem hk, hd1]; rfl)) ?_
    rw [hp]
    unfold slotB
    walk_at "ww"
    have hn' := List.nodup_cons.mp hn
    refine W_ifF (fun e => ?_) (fun e => ?_)
    · have e : live < s := by simpa using e
      walk_at "ww"
      refine Ck_dely h (hm s (.head _)) hl fun σ1 h => ?_
      walk_at "ww"
      refine slot_loop rem (k + 1) fuel _ _ _ hd2 (by simp at hf; lia) hn'.2 ?_ (Nat.le_trans (List.length_filter_le _ _) hl) (fun v => by walk_at "put") h ?_
      · intro t ht
        refine List.mem_filter.mpr ⟨hm t (.tail _ ht), ?_⟩
        have : t ≠ s := fun e => hn'.1 (e ▸ ht)
        simpa using this
      · intro m' σ' h'
        refine q m' σ' ?_
        have : ((c.ys.filter fun a => decide (a ≠ s)).filter fun t => decide (¬ (t ∈ rem ∧ live < t))) = c.ys.filter fun t => decide (¬ (t ∈ s :: rem ∧ live < t)) := by
          rw [List.filter_filter]
          apply List.filter_congr
          intro t ht
          by_cases ets : t = s
          · subst ets; simp [e]
          · simp [ets]
        rw [← this]; exact h'
    · have e : ¬ live < s := by simpa using e
      walk_at "ww"
      refine slot_loop rem (k + 1) fuel _ _ _ hd2 (by simp at hf; lia) hn'.2 (fun t ht => hm t (.tail _ ht)) hl (fun v => by walk_at "put") h ?_
      intro m' σ' h'
      refine q m' σ' ?_
      have : (c.ys.filter fun t => decide (¬ (t ∈ rem ∧ live < t))) = c.ys.filter fun t => decide (¬ (t ∈ s :: rem ∧ live < t)) := by
        apply List.filter_congr
        intro t ht
        by_cases ets : t = s
        · subst ets; simp [e]
        · simp [ets]
      rw [← this]; exact h'
theorem ct_call {n f : Nat} {k : Int} {Q : V → Hp → Prop} (hf : okF x.ar f) (hs : sm c 60) (h : Ck x l ix iy c σ) (q : ∀ ix' σ', Ck x l ix' iy (runM (Op.ms x.ar (.call f k)) c) σ' → Q .none σ') : W (callN K (n + 4) 334 [.ref x.i, Op.v (.call f k)]) σ Q := by
  delta Op.v; dsimp only
  rw [E.e_ClauseChecker_call_step]; unfold B_ClauseChecker_call_step
  refine W_bnd (W_seq ?_)
  refine W_cut (m := [("self", .ref x.i), ("ins", .tup [.str "call", .int f, .int k])]) (P := Ck x l ix iy (M.run (.args (arOf x.ar f)) c)) ?_ ?_
  · walk_at "wm"
    exact ⟨rfl, ‹_›⟩
  intro σ h1
  have hs1 : sm (M.run (.args (arOf x.ar f)) c) 60 := run_sm (m := .args (arOf x.ar f)) hs
  have qq : ∀ ix' σ', Ck x l ix' iy (M.run (.call k) (M.run (.args (arOf x.ar f)) c)) σ' → Q .none σ' := q
  clear q
  revert hs1 h1 qq
  generalize M.run (.args (arOf x.ar f)) c = c1
  intro h hs q
  refine W_seq ?_
  let c2 : CS := if c1.size < 0 then comp "a call without an environment" c1 else if c1.size < k then comp "more live slots than the environment has" c1 else c1
  have ey : c2.ys = c1.ys := by simp only [c2]; repeat' split
                                all_goals simp [comp_ys]
  refine W_cut (m := [("self", .ref x.i), ("ins", .tup [.str "call", .int f, .int k])]) (P := Ck x l ix iy c2) ?_ ?_
  · walk_at "wm"
    refine W_ifF (fun e => ?_) (fun e => ?_)
    · have e : c1.size < 0 := by simpa using e
      walk_at "wm"
      refine ct_complain E h fun σ1 h => ?_
      walk_at "wm"
      exact ⟨rfl, by simp only [c2]; rw [if_pos e]; exact h⟩
    · have e : ¬ c1.size < 0 := by simpa using e
      walk_at "wm"
      refine W_ifF (fun e2 => ?_) (fun e2 => ?_)
      · have e2 : c1.size < k := by simpa using e2
        walk_at "wm"
        refine ct_complain E h fun σ1 h => ?_
        walk_at "wm"
        exact ⟨rfl, by simp only [c2]; rw [if_neg e, if_pos e2]; exact h⟩
      · have e2 : ¬ c1.size < k := by simpa using e2
        walk_at "wm"
        exact ⟨rfl, by simp only [c2]; rw [if_neg e, if_neg e2]; exact h⟩
  intro σ h
  walk_at "wm"
  refine Ck_nw h fun r σ h => ?_
  walk_at "wm"
  refine Ck_s_xs E h fun σ h => ?_
  walk_at "wm"
  have hly : c2.ys.length ≤ 60 := by rw [ey]; exact hs.2
  refine Ck_sorty h (by show c2.ys.length < 64; lia) fun r2 σ h => ?_
  walk_at "wm"
  refine W_iterL (h.in_ (.head _)) ?_
  have pm := sortI_perm c2.ys
  obtain ⟨oy, _, hd⟩ := h.oy
  refine slot_loop E (c := { c2 with xs := [] }) (L := sortI c2.ys) (sortI c2.ys) 0 4096 _ _ rfl (by rw [pm.length_eq]; lia) (pm.nodup_iff.mpr hd.1) (fun s hs => pm.mem_iff.mp hs) (by show c2.ys.length ≤ 1000; lia) (fun v => by walk_at "put") h ?_
  intro m' σ' h'
  walk_at "wm"
  refine q r σ' ?_
  have : (c2.ys.filter fun s => decide (¬ (s ∈ sortI c2.ys ∧ k < s))) = c1.ys.filter fun s => decide (s ≤ k) := by
    rw [ey]
    apply List.filter_congr
    intro t ht
    have : t ∈ sortI c1.ys := (sortI_perm c1.ys).mem_iff.mpr ht
    simp [this]
  have h'' : Ck x l r iy { c2 with xs := [], ys := c1.ys.filter fun s => decide (s ≤ k) } σ' := by rw [← this]; exact h'
  exact h''
end
end P_K6
section P_K7
open PySem PySem.W PyProof.Rows
set_option Elab.async false
set_option maxRecDepth 100000
set_option linter.unusedVariables false
set_option linter.unusedSectionVars false
section
variable {K : Frag} {x : CX} {l : List (Nat × O)} {ix iy : Nat} {c c' : CS} {σ σ' : Hp} (E : Env K)
include E
theorem ct_exec {n f : Nat} {Q : V → Hp → Prop} (hf : okF x.ar f) (hs : sm c 60) (h : Ck x l ix iy c σ) (q : ∀ σ', Ck x l ix iy (runM (Op.ms x.ar (.exec f)) c) σ' → Q .none σ') : W (callN K (n + 4) 341 [.ref x.i, Op.v (.exec f)]) σ Q := by
  delta Op.v; dsimp only
  rw [E.e_ClauseChecker_leave_step]; unfold B_ClauseChecker_leave_step
  walk_at "wm"
  refine W_cut (m := [("self", .ref x.i), ("ins", .tup [.str "execute", .int f])]) (P := Ck x l ix iy (M.run .leave c)) ?_ ?_
  · refine W_ifF (fun e => ?_) (fun e => ?_)
    · have e : 0 ≤ c.size := by simpa using e
      walk_at "wm"
      refine ct_complain E h fun σ1 h => ?_
      walk_at "wm"
      exact ⟨rfl, by simp only [M.run, cleave]; rw [if_pos e]; exact h⟩
    · have e : ¬ 0 ≤ c.size := by simpa using e
      walk_at "wm"
      exact ⟨rfl, by simp only [M.run, cleave]; rw [if_neg e]; exact h⟩
  intro σ h1
  have hs1 : sm (M.run .leave c) 60 := run_sm (m := .leave) hs
  walk_at "wm"
  exact q _ ‹_›
theorem ct_proceed {n : Nat} {Q : V → Hp → Prop} (hs : sm c 60) (h : Ck x l ix iy c σ) (q : ∀ σ', Ck x l ix iy (runM (Op.ms x.ar .proceed) c) σ' → Q .none σ') : W (callN K (n + 4) 341 [.ref x.i, Op.v .proceed]) σ Q := by
  delta Op.v; dsimp only
  rw [E.e_ClauseChecker_leave_step]; unfold B_ClauseChecker_leave_step
  walk_at "wm"
  refine W_cut (m := [("self", .ref x.i), ("ins", .tup [.str "proceed"])]) (P := Ck x l ix iy (M.run .leave c)) ?_ ?_
  · refine W_ifF (fun e => ?_) (fun e => ?_)
    · have e : 0 ≤ c.size := by simpa using e
      walk_at "wm"
      refine ct_complain E h fun σ1 h => ?_
      walk_at "wm"
      exact ⟨rfl, by simp only [M.run, cleave]; rw [if_pos e]; exact h⟩
    · have e : ¬ 0 ≤ c.size := by simpa using e
      walk_at "wm"
      exact ⟨rfl, by simp only [M.run, cleave]; rw [if_neg e]; exact h⟩
  intro σ h1
  have hs1 : sm (M.run .leave c) 60 := run_sm (m := .leave) hs
  walk_at "wm"
  exact q _ ‹_›
noncomputable def isCtl : Op → Bool
  | .alloc _ => true | .deall => true | .call _ _ => true | .exec _ => true | .proceed => true | .builtin _ => true | .neckCut => true | .mark _ => true | .cutTo _ => true | .fail => true
  | _ => false
noncomputable def okOp (ar : List (Int × Int)) : Op → Prop
  | .getVar r k => okR r ∧ okX k
  | .getVal r k => okR r ∧ okX k
  | .getCon a b k => a = 5 ∧ okX k
  | .getList k => okX k
  | .getStr f k => okF ar f ∧ okX k
  | .putVar r k => okR r ∧ okX k
  | .putVal r k => okR r ∧ okX k
  | .putCon a b k => a = 5 ∧ okX k
  | .putList k => okX k
  | .putStr f k => okF ar f ∧ okX k
  | .alloc n => 0 ≤ n
  | .call f n => okF ar f ∧ 0 ≤ n
  | .exec f => okF ar f
  | .builtin f => okF ar f
  | .mark r => okR r
  | .cutTo r => okR r
  | _ => True
set_option tactic.hygienic true in
theorem ct_control {n : Nat} {o : Op} {Q : V → Hp → Prop} (ho : isCtl o = true) (hk : okOp x.ar o) (hs : sm c 60) (h : Ck x l ix iy c σ) (q : ∀ ix' iy' σ', Ck x l ix' iy' (runM (Op.ms x.ar o) c) σ' → Q .none σ') : W (callN K (n + 5) 348 [.ref x.i, o.v]) σ Q := by
  cases o <;> (try cases ho) <;> delta Op.v <;> dsimp only <;> rw [E.e_ClauseChecker_control_step] <;> unfold B_ClauseChecker_control_step
  case alloc k =>
    walk_at "wm"
    refine W_cut (m := [("self", .ref x.i), ("ins", .tup [.str "allocate", .int k]), ("name", .str "allocate")]) (P := Ck x l ix iy (if 0 ≤ c.size then comp "a second environment" c else c)) ?_ ?_
    · refine W_ifF (fun e => ?_) (fun e => ?_)
      · have e : 0 ≤ c.size := by simpa using e
        walk_at "wm"
        refine ct_complain E h fun σ1 h => ?_
        walk_at "wm"
        exact ⟨rfl, by rw [if_pos e]; exact h⟩
      · have e : ¬ 0 ≤ c.size := by simpa using e
        walk_at "wm"
        exact ⟨rfl, by rw [if_neg e]; exact h⟩
    intro σ h
    walk_at "wm"
    refine Ck_s_size E h fun σ h => ?_
    walk_at "wm"
    exact q _ _ _ h
  case deall =>
    walk_at "wm"
    refine W_cut (m := [("self", .ref x.i), ("ins", .tup [.str "deallocate"]), ("name", .str "deallocate")]) (P := Ck x l ix iy (if c.size < 0 then comp "no environment to give back" c else c)) ?_ ?_
    · refine W_ifF (fun e => ?_) (fun e => ?_)
      · have e : c.size < 0 := by simpa using e
        walk_at "wm"
        refine ct_complain E h fun σ1 h => ?_
        walk_at "wm"
        exact ⟨rfl, by rw [if_pos e]; exact h⟩
      · have e : ¬ c.size < 0 := by simpa using e
        walk_at "wm"
        exact ⟨rfl, by rw [if_neg e]; exact h⟩
    intro σ h
    walk_at "wm"
    refine Ck_s_size E h fun σ h => ?_
    walk_at "wm"
    refine Ck_nw h fun r σ h => ?_
    walk_at "wm"
    refine Ck_s_ys E h fun σ h => ?_
    walk_at "wm"
    exact q _ _ _ h
  case call f k =>
    walk_at "wm"
    refine ct_call E (f := f) (k := k) hk.1 hs h fun ix' σ' h => ?_
    walk_at "wm"
    exact q _ _ _ h
  case exec f =>
    walk_at "wm"
    refine ct_exec E (f := f) hk hs h fun σ' h => ?_
    walk_at "wm"
    exact q _ _ _ h
  case proceed =>
    walk_at "wm"
    refine ct_proceed E hs h fun σ' h => ?_
    walk_at "wm"
    exact q _ _ _ h
  case builtin f =>
    have hk : okF x.ar f := hk
    walk_at "wm"
    exact q _ _ _ ‹_›
  case neckCut =>
    walk_at "wm"
    exact q _ _ _ h
  case mark r =>
    have hk : okR r := hk
    walk_at "wm"
    exact q _ _ _ ‹_›
  case cutTo r =>
    have hk : okR r := hk
    walk_at "wm"
    exact q _ _ _ ‹_›
  case fail =>
    walk_at "wm"
    exact q _ _ _ ‹_›
end
end P_K7
section P_K8
open PySem PySem.W PyProof.Rows
set_option Elab.async false
set_option maxRecDepth 100000
set_option linter.unusedVariables false
set_option linter.unusedSectionVars false
section
variable {σ : Hp}
theorem W_methStarts {K : Frag} {x : Str} {Q : Fn → Hp → Prop} (h : Q (.blt "str.startswith") σ) : W (methOf K (.str x) "startswith") σ Q := W_methS (by kernel_rfl) h
end
section
variable {K : Frag} {x : CX} {l : List (Nat × O)} {ix iy : Nat} {c c' : CS} {σ σ' : Hp} (E : Env K)
include E
theorem st_struct {n : Nat} {nm : Str} {rest : List V} {Q : V → Hp → Prop} (h : Ck x l ix iy c σ) (hd : 0 < c.due) (hn : Txt.startswith nm c.fam.text = true)
    (H : W (callN K (n + 5) 313 [.ref x.i, .tup (.str nm :: rest)]) σ (fun v σ' => v = .none ∧ Q .none σ')) : W (callN K (n + 6) 355 [.ref x.i, .tup (.str nm :: rest)]) σ Q := by
  rw [E.e_ClauseChecker_step]; unfold B_ClauseChecker_step
  walk_at "wm"
  refine W_ifT (decide_eq_true hd) ?_
  walk_at "wm"
  refine W_methStarts ?_
  walk_at "wm"
  refine W_blt_starts ?_
  walk_at "wm"
  refine W_ifT hn ?_
  walk_at "wm"
  refine W_mono H ?_
  rintro v σ' ⟨rfl, q⟩
  walk_at "wm"
  exact q
theorem st_fill {n : Nat} {nm : Str} {rest : List V} {Q : V → Hp → Prop} (h : Ck x l ix iy c σ) (hd : 0 < c.due) (hn : Txt.startswith nm c.fam.text = false)
    (q : ∀ σ', Ck x l ix iy (comp "a structure is not filled" c) σ' → Q .none σ') : W (callN K (n + 6) 355 [.ref x.i, .tup (.str nm :: rest)]) σ Q := by
  rw [E.e_ClauseChecker_step]; unfold B_ClauseChecker_step
  walk_at "wm"
  refine W_ifT (decide_eq_true hd) ?_
  walk_at "wm"
  refine W_methStarts ?_
  walk_at "wm"
  refine W_blt_starts ?_
  walk_at "wm"
  refine W_ifN hn ?_
  walk_at "wm"
  refine ct_complain E h fun σ' h => ?_
  walk_at "wm"
  exact q _ h
theorem st_out {n : Nat} {nm : Str} {rest : List V} {Q : V → Hp → Prop} (h : Ck x l ix iy c σ) (hd : ¬ 0 < c.due) (hn : (Txt.startswith nm "unify_" || Txt.startswith nm "set_") = true)
    (q : ∀ σ', Ck x l ix iy (comp "an argument outside of a structure" c) σ' → Q .none σ') : W (callN K (n + 6) 355 [.ref x.i, .tup (.str nm :: rest)]) σ Q := by
  rw [E.e_ClauseChecker_step]; unfold B_ClauseChecker_step
  walk_at "wm"
  refine W_ifN (decide_eq_false hd) ?_
  walk_at "wm"
  refine W_methStarts ?_
  walk_at "wm"
  refine W_blt_starts ?_
  walk_at "wm"
  refine AQ_o (fun e => ?_) (fun e => ?_)
  · walk_at "wm"
    refine ct_complain E h fun σ' h => ?_
    walk_at "wm"
    exact q _ h
  · walk_at "wm"
    refine W_methStarts ?_
    walk_at "wm"
    refine W_blt_starts ?_
    walk_at "wm"
    rw [e, Bool.false_or] at hn
    refine AQ_ot' hn ?_
    walk_at "wm"
    refine ct_complain E h fun σ' h => ?_
    walk_at "wm"
    exact q _ h
theorem st_op {n : Nat} {a : Addr} {nm : Str} {rest : List V} {Q : V → Hp → Prop} (h : Ck x l ix iy c σ) (hd : ¬ 0 < c.due) (h1 : Txt.startswith nm "unify_" = false) (h2 : Txt.startswith nm "set_" = false) (h3 : (nm == ("get_level" : Str)) = false)
    (h4 : (Txt.startswith nm "get_" = true ∧ a = 320) ∨ (Txt.startswith nm "get_" = false ∧ Txt.startswith nm "put_" = true ∧ a = 327) ∨ (Txt.startswith nm "get_" = false ∧ Txt.startswith nm "put_" = false ∧ a = 348))
    (H : W (callN K (n + 5) a [.ref x.i, .tup (.str nm :: rest)]) σ (fun v σ' => v = .none ∧ Q .none σ')) : W (callN K (n + 6) 355 [.ref x.i, .tup (.str nm :: rest)]) σ Q := by
  rw [E.e_ClauseChecker_step]; unfold B_ClauseChecker_step
  walk_at "wm"
  refine W_ifN (decide_eq_false hd) ?_
  walk_at "wm"
  refine W_methStarts ?_
  walk_at "wm"
  refine W_blt_starts ?_
  walk_at "wm"
  refine AQ_on' h1 ?_
  walk_at "wm"
  refine W_methStarts ?_
  walk_at "wm"
  refine W_blt_starts ?_
  walk_at "wm"
  refine AQ_on' h2 ?_
  walk_at "wm"
  refine W_ifN h3 ?_
  walk_at "wm"
  refine W_methStarts ?_
  walk_at "wm"
  refine W_blt_starts ?_
  walk_at "wm"
  rcases h4 with ⟨h4, rfl⟩ | ⟨h4, h5, rfl⟩ | ⟨h4, h5, rfl⟩
  · refine W_ifT h4 ?_
    walk_at "wm"
    refine W_mono H ?_
    rintro v σ' ⟨rfl, q⟩
    walk_at "wm"
    exact q
  · refine W_ifN h4 ?_
    walk_at "wm"
    refine W_methStarts ?_
    walk_at "wm"
    refine W_blt_starts ?_
    walk_at "wm"
    refine W_ifT h5 ?_
    walk_at "wm"
    refine W_mono H ?_
    rintro v σ' ⟨rfl, q⟩
    walk_at "wm"
    exact q
  · refine W_ifN h4 ?_
    walk_at "wm"
    refine W_methStarts ?_
    walk_at "wm"
    refine W_blt_starts ?_
    walk_at "wm"
    refine W_ifN h5 ?_
    walk_at "wm"
    refine W_mono H ?_
    rintro v σ' ⟨rfl, q⟩
    walk_at "wm"
    exact q
noncomputable def okIns (ar : List (Int × Int)) : Ins → Prop
  | .arg u (.void n) => 0 ≤ n
  | .arg u (.var r) => okR r
  | .arg u (.val r) => okR r
  | .arg u (.con a b) => a = 5
  | .op o => okOp ar o
noncomputable def Op.nm : Op → Str
  | .getVar r x => "get_variable"
  | .getVal r x => "get_value"
  | .getCon a b x => "get_constant"
  | .getList x => "get_list"
  | .getStr f x => "get_structure"
  | .putVar r x => "put_variable"
  | .putVal r x => "put_value"
  | .putCon a b x => "put_constant"
  | .putList x => "put_list"
  | .putStr f x => "put_structure"
  | .alloc n => "allocate"
  | .deall => "deallocate"
  | .call f n => "call"
  | .exec f => "execute"
  | .proceed => "proceed"
  | .builtin f => "builtin"
  | .neckCut => "neck_cut"
  | .mark r => "mark"
  | .cutTo r => "cut_to"
  | .fail => "fail"
omit E in
theorem Op.v_nm (o : Op) : ∃ r, o.v = .tup (.str o.nm :: r) := by cases o <;> exact ⟨_, rfl⟩
omit E in
theorem Op.nm_u (o : Op) : Txt.startswith o.nm "unify_" = false := by cases o <;> kernel_rfl
omit E in
theorem Op.nm_s (o : Op) : Txt.startswith o.nm "set_" = false := by cases o <;> kernel_rfl
omit E in
theorem Op.nm_l (o : Op) : (o.nm == ("get_level" : Str)) = false := by cases o <;> kernel_rfl
noncomputable def Op.ad : Op → Addr
  | .getVar r x => 320 | .getVal r x => 320 | .getCon a b x => 320 | .getList x => 320 | .getStr f x => 320
  | .putVar r x => 327 | .putVal r x => 327 | .putCon a b x => 327 | .putList x => 327 | .putStr f x => 327
  | _ => 348
omit E in
theorem Op.nm_a (o : Op) : (Txt.startswith o.nm "get_" = true ∧ o.ad = 320) ∨ (Txt.startswith o.nm "get_" = false ∧ Txt.startswith o.nm "put_" = true ∧ o.ad = 327) ∨ (Txt.startswith o.nm "get_" = false ∧ Txt.startswith o.nm "put_" = false ∧ o.ad = 348) := by
  cases o <;> first | exact .inl ⟨by kernel_rfl, rfl⟩ | exact .inr (.inl ⟨by kernel_rfl, by kernel_rfl, rfl⟩) | exact .inr (.inr ⟨by kernel_rfl, by kernel_rfl, rfl⟩)
set_option tactic.hygienic true in
theorem ct_step {n : Nat} {i : Ins} {Q : V → Hp → Prop} (hk : okIns x.ar i) (hs : sm c 60) (hf : 0 < c.due → c.fam ≠ .n) (h : Ck x l ix iy c σ) (q : ∀ ix' iy' σ', Ck x l ix' iy' (step x.ar i c) σ' → Q .none σ') : W (callN K (n + 6) 355 [.ref x.i, i.v]) σ Q := by
  by_cases hd : 0 < c.due
  · cases i with
    | arg u k =>
      by_cases hu : c.fam = famOf u
      · have q' : ∀ ix' iy' σ', Ck x l ix' iy' (runM k.ms c) σ' → Q .none σ' := by
          simpa only [step, if_pos hd, if_pos hu] using q
        have hv : ∃ nm r, k.v u = .tup (.str nm :: r) ∧ Txt.startswith nm (famOf u).text = true := by
          cases u <;> cases k <;> exact ⟨_, _, rfl, by kernel_rfl⟩
        obtain ⟨nm, r, e, e2⟩ := hv
        show W (callN K (n + 6) 355 [.ref x.i, k.v u]) σ Q
        rw [e]
        refine st_struct E h hd (by rw [hu]; exact e2) ?_
        rw [← e]
        refine ct_struct E hu ?_ (sm_hx hs (by lia)) (Nat.le_trans hs.2 (by lia)) h fun σ' h' => ⟨rfl, q' _ _ _ h'⟩
        cases k <;> first | exact hk | trivial
      · have q' : ∀ ix' iy' σ', Ck x l ix' iy' (comp "a structure is not filled" c) σ' → Q .none σ' := by
          simpa only [step, if_pos hd, if_neg hu] using q
        have hv : ∃ nm r, k.v u = .tup (.str nm :: r) ∧ Txt.startswith nm c.fam.text = false := by
          have hfn := hf hd
          revert hu hfn
          generalize c.fam = fm
          intro hu hfn
          cases fm <;> cases u <;> first | exact absurd rfl hfn | exact absurd rfl hu | (cases k <;> exact ⟨_, _, rfl, by kernel_rfl⟩)
        obtain ⟨nm, r, e, e2⟩ := hv
        show W (callN K (n + 6) 355 [.ref x.i, k.v u]) σ Q
        rw [e]
        exact st_fill E h hd e2 fun σ' h' => q' _ _ _ h'
    | op o =>
      have q' : ∀ ix' iy' σ', Ck x l ix' iy' (comp "a structure is not filled" c) σ' → Q .none σ' := by
        simpa only [step, if_pos hd] using q
      obtain ⟨r, e⟩ := o.v_nm
      show W (callN K (n + 6) 355 [.ref x.i, o.v]) σ Q
      rw [e]
      refine st_fill E h hd ?_ fun σ' h' => q' _ _ _ h'
      have hfn := hf hd
      cases hfm : c.fam with
      | n => exact absurd hfm hfn
      | u => exact o.nm_u
      | s => exact o.nm_s
  · cases i with
    | arg u k =>
      have q' : ∀ ix' iy' σ', Ck x l ix' iy' (comp "an argument outside of a structure" c) σ' → Q .none σ' := by
        simpa only [step, if_neg hd] using q
      have hv : ∃ nm r, k.v u = .tup (.str nm :: r) ∧ (Txt.startswith nm "unify_" || Txt.startswith nm "set_") = true := by
        cases u <;> cases k <;> exact ⟨_, _, rfl, by kernel_rfl⟩
      obtain ⟨nm, r, e, e2⟩ := hv
      show W (callN K (n + 6) 355 [.ref x.i, k.v u]) σ Q
      rw [e]
      exact st_out E h hd e2 fun σ' h' => q' _ _ _ h'
    | op o =>
      have q' : ∀ ix' iy' σ', Ck x l ix' iy' (runM (o.ms x.ar) c) σ' → Q .none σ' := by
        simpa only [step, if_neg hd] using q
      have hk : okOp x.ar o := hk
      obtain ⟨r, e⟩ := o.v_nm
      show W (callN K (n + 6) 355 [.ref x.i, o.v]) σ Q
      rw [e]
      refine st_op E (a := o.ad) h hd o.nm_u o.nm_s o.nm_l o.nm_a ?_
      rw [← e]
      cases o
      case getVar r k => exact ct_getVar E hk.1 hk.2 hs h fun σ' h' => ⟨rfl, q' _ _ _ h'⟩
      case getVal r k => exact ct_getVal E hk.1 hk.2 hs h fun σ' h' => ⟨rfl, q' _ _ _ h'⟩
      case getCon a b k => exact ct_getCon E hk.2 hs h fun σ' h' => ⟨rfl, q' _ _ _ h'⟩
      case getList k => exact ct_getList E hk hs h fun σ' h' => ⟨rfl, q' _ _ _ h'⟩
      case getStr f k => exact ct_getStr E hk.1 hk.2 hs h fun σ' h' => ⟨rfl, q' _ _ _ h'⟩
      case putVar r k => exact ct_putVar E hk.1 hk.2 hs h fun σ' h' => ⟨rfl, q' _ _ _ h'⟩
      case putVal r k => exact ct_putVal E hk.1 hk.2 hs h fun σ' h' => ⟨rfl, q' _ _ _ h'⟩
      case putCon a b k => exact ct_putCon E hk.2 hs h fun σ' h' => ⟨rfl, q' _ _ _ h'⟩
      case putList k => exact ct_putList E hk hs h fun σ' h' => ⟨rfl, q' _ _ _ h'⟩
      case putStr f k => exact ct_putStr E hk.1 hk.2 hs h fun σ' h' => ⟨rfl, q' _ _ _ h'⟩
      all_goals exact ct_control E rfl hk hs h fun ix' iy' σ' h' => ⟨rfl, q' _ _ _ h'⟩
end
end P_K8
section P_K9
open PySem PySem.W PyProof.Rows
set_option Elab.async false
set_option genSizeOf false
set_option maxRecDepth 100000
set_option linter.unusedVariables false
set_option linter.unusedSectionVars false
noncomputable def shL : List (Str × Str) := [(("get_variable" : Str), ("RX" : Str)), (("get_value" : Str), ("RX" : Str)), (("get_constant" : Str), ("CX" : Str)), (("get_list" : Str), ("X" : Str)), (("get_structure" : Str), ("FX" : Str)), (("unify_variable" : Str), ("R" : Str)), (("unify_value" : Str), ("R" : Str)), (("unify_local_value" : Str), ("R" : Str)), (("unify_constant" : Str), ("C" : Str)), (("unify_void" : Str), ("N" : Str)), (("put_variable" : Str), ("RX" : Str)), (("put_void" : Str), ("X" : Str)), (("put_value" : Str), ("RX" : Str)), (("put_unsafe_value" : Str), ("YX" : Str)), (("put_constant" : Str), ("CX" : Str)), (("put_list" : Str), ("X" : Str)), (("put_structure" : Str), ("FX" : Str)), (("set_variable" : Str), ("R" : Str)), (("set_value" : Str), ("R" : Str)), (("set_local_value" : Str), ("R" : Str)), (("set_constant" : Str), ("C" : Str)), (("set_void" : Str), ("N" : Str)), (("allocate" : Str), ("N" : Str)), (("deallocate" : Str), ("" : Str)), (("call" : Str), ("FN" : Str)), (("execute" : Str), ("F" : Str)), (("proceed" : Str), ("" : Str)), (("builtin" : Str), ("F" : Str)), (("neck_cut" : Str), ("" : Str)), (("get_level" : Str), ("R" : Str)), (("mark" : Str), ("R" : Str)), (("cut_to" : Str), ("R" : Str)), (("fail" : Str), ("" : Str)), (("halt" : Str), ("" : Str)), (("try" : Str), ("LN" : Str)), (("retry" : Str), ("L" : Str)), (("trust" : Str), ("L" : Str)), (("switch_on_term" : Str), ("LLLL" : Str)), (("switch_on_constant" : Str), ("TL" : Str)), (("switch_on_structure" : Str), ("UL" : Str)), (("meta_call" : Str), ("N" : Str)), (("catch_push" : Str), ("" : Str)), (("catch_exit" : Str), ("Y" : Str)), (("catch_fail" : Str), ("" : Str)), (("dyn_retry" : Str), ("" : Str))]
section
variable {σ : Hp}
theorem W_lenT {xs : List V} {Q : V → Hp → Prop} (hl : xs.length ≤ LIM) (h : Q (.int xs.length) σ) : W (bLen [.tup xs]) σ Q := ⟨_, σ, by show grd (Nat.ble _ _) _ σ = _; rw [Nat.ble_eq_true_of_le hl]; rfl, h⟩
theorem W_itemT {xs : List V} {i : Int} {k : Nat} {v : V} {Q : V → Hp → Prop} (e : i = (k : Int)) (h2 : k ≤ 1048576) (hv : xs[k]? = some v) (h : Q v σ) : W (itemV (.tup xs) (.int i)) σ Q := by
  subst e
  show W (ofO ((idx? k xs.length).bind fun j => xs[j]?)) σ Q
  refine W_ofO (a := v) ?_ h
  rw [idx_ok (List.getElem?_eq_some_iff.mp hv).1 h2]; exact hv
theorem W_itemS {x : Str} {i : Int} {k ch : Nat} {Q : V → Hp → Prop} (e : i = (k : Int)) (h2 : k ≤ 1048576) (hv : x.cps[k]? = some ch) (h : Q (.str ⟨#[ch]⟩) σ) : W (itemV (.str x) (.int i)) σ Q := by
  subst e
  show W (ofO ((idx? k x.length).bind fun j => (x.cps[j]?).map fun c => V.str ⟨#[c]⟩)) σ Q
  refine W_ofO (a := .str ⟨#[ch]⟩) ?_ h
  have hb : k < x.length := (Array.getElem?_eq_some_iff.mp hv).1
  rw [idx_ok hb h2]
  show (x.cps[k]?).map _ = _
  rw [hv]; rfl
theorem W_ninS {t : Nat} {es : List (Str × V)} {k : Str} {v : V} {Q : Bool → Hp → Prop} (e : σ[t]? = some (.dstr es)) (hk : atK es k = some v) (q : Q false σ) : W (cmpV .NotIn (.str k) (.ref t)) σ Q := by
  show W (bnd (inV (.str k) (.ref t)) fun c => ret (!c)) σ Q
  refine W_bnd ?_
  unfold inV; dsimp only
  refine W_gt' e (W_ret (W_ret ?_))
  rw [hk]; exact q
theorem W_itemDS {t : Nat} {es : List (Str × V)} {k : Str} {v : V} {Q : V → Hp → Prop} (e : σ[t]? = some (.dstr es)) (hk : atK es k = some v) (q : Q v σ) : W (itemV (.ref t) (.str k)) σ Q := by
  unfold itemV; dsimp only
  exact W_gt' e (W_ofO hk q)
end
section
variable {K : Frag} {σ σ' : Hp} (E : Env K)
include E
theorem ct_shapes {n : Nat} {Q : V → Hp → Prop} (q : Q (.ref σ.length) (σ ++ [.dstr (dispO shL)])) : W (callN K (n + 1) 173 []) σ Q := by
  rw [E.e_shapes]; unfold B_shapes
  refine W_bnd (W_seq (W_bnd ⟨_, _, rfl, ?_⟩))
  walk_at "ww"
  exact q
theorem ct_whole {n : Nat} {k : Int} {Q : V → Hp → Prop} (q : Q (.bool true) σ) : W (callN K (n + 1) 180 [.int k]) σ Q := by
  rw [E.e_is_whole]; unfold B_is_whole
  walk_at "ww"
  refine W_isi (b := true) rfl ?_
  walk_at "ww"
  refine W_isi (b := false) rfl ?_
  walk_at "ww"
  exact q
theorem ct_pair {n : Nat} {a b : V} {Q : V → Hp → Prop} (q : Q (.bool true) σ) : W (callN K (n + 1) 187 [.tup [a, b]]) σ Q := by
  rw [E.e_is_pair]; unfold B_is_pair
  walk_at "ww"
  refine W_isi (b := true) rfl ?_
  walk_at "ww"
  exact q
theorem ct_isreg {n : Nat} {s : Str} {k : Int} {names : List V} {Q : V → Hp → Prop} (hs : anyEq (.str s) names = some true) (hk : 1 ≤ k) (q : Q (.bool true) σ) : W (callN K (n + 2) 194 [.tup [.str s, .int k], .tup names]) σ Q := by
  rw [E.e_is_register]; unfold B_is_register
  walk_at "ww"
  refine ct_pair E ?_
  walk_at "ww"
  refine W_inT hs ?_
  walk_at "ww"
  refine ct_whole E ?_
  walk_at "ww"
  rw [decide_eq_true hk]
  exact q
theorem ct_iscon {n : Nat} {b : Int} {Q : V → Hp → Prop} (q : Q (.bool true) σ) : W (callN K (n + 2) 201 [.tup [.int 5, .int b]]) σ Q := by
  rw [E.e_is_constant]; unfold B_is_constant
  walk_at "ww"
  refine ct_pair E ?_
  walk_at "ww"
  refine ct_whole E ?_
  walk_at "ww"
  exact q
theorem ct_isfun {n : Nat} {b : Int} {Q : V → Hp → Prop} (hb : 0 ≤ b) (q : Q (.bool true) σ) : W (callN K (n + 2) 208 [.int b]) σ Q := by
  rw [E.e_is_functor]; unfold B_is_functor
  walk_at "ww"
  refine ct_whole E ?_
  walk_at "ww"
  rw [decide_eq_true hb]
  exact q
/-- what an operand is -/
inductive Opd : V → Nat → Prop where
  | r {r : Reg} (h : 1 ≤ r.n) : Opd r.v 82
  | x {k : Int} (h : 1 ≤ k) : Opd (xV k) 88
  | c {b : Int} : Opd (cV 5 b) 67
  | f {k : Int} (h : 0 ≤ k) : Opd (.int k) 70
  | n {k : Int} (h : 0 ≤ k) : Opd (.int k) 78
theorem ct_operand {n ch : Nat} {v : V} {Q : V → Hp → Prop} (ho : Opd v ch) (q : Q (.bool true) σ) : W (callN K (n + 3) 236 [v, .str ⟨#[ch]⟩, .bool false]) σ Q := by
  rw [E.e_is_operand]; unfold B_is_operand
  cases ho with
  | @r r h =>
    obtain ⟨y, k⟩ := r
    unfold Reg.v
    walk_at "ww"
    refine ct_isreg E ?_ h ?_
    · cases y <;> kernel_rfl
    walk_at "ww"
    exact q
  | x h =>
    unfold xV
    walk_at "ww"
    refine ct_isreg E (by kernel_rfl) h ?_
    walk_at "ww"
    exact q
  | c =>
    unfold cV
    walk_at "ww"
    refine ct_iscon E ?_
    walk_at "ww"
    exact q
  | f h =>
    walk_at "ww"
    refine ct_isfun E h ?_
    walk_at "ww"
    exact q
  | n h =>
    walk_at "ww"
    refine ct_isfun E h ?_
    walk_at "ww"
    exact q
noncomputable abbrev rowB (K : Frag) (C : Or) : XsT := B_check_row_5 K C
theorem row_loop {n : Nat} {tb nmv : V} {a : V} {ops : List (V × Nat)} {kinds : Str} (ho : ∀ p ∈ ops, Opd p.1 p.2) (hk : kinds = ⟨(ops.map (·.2)).toArray⟩) (hl : ops.length ≤ 1000) {Q : Fl × Loc → Hp → Prop} : ∀ (d j fuel : Nat) (m : Loc), ops.length - j = d → j ≤ ops.length → d < fuel →
    (∀ v, put m "place" v = ([("table", tb), ("ins", .tup (a :: ops.map (·.1))), ("linked", .bool false), ("name", nmv), ("kinds", .str kinds), ("place", v)] : Loc)) → (∀ m', Q (.next, m') σ) → W (forV "place" (rowB K (callN K (n + 3))) fuel (.rng (j : Int) (ops.length : Int)) m) σ Q := by
  intro d
  induction d with
  | zero =>
    intro j fuel m hd hj hf hp q
    obtain ⟨fuel, rfl⟩ : ∃ f, fuel = f + 1 := ⟨fuel - 1, by lia⟩
    exact W_forEnd (next_rngE (by lia)) (q _)
  | succ d ih =>
    intro j fuel m hd hj hf hp q
    obtain ⟨fuel, rfl⟩ : ∃ f, fuel = f + 1 := ⟨fuel - 1, by lia⟩
    have hj2 : j < ops.length := by lia
    refine W_for (next_rng (by lia)) ?_
    rw [hp]
    unfold rowB
    walk_at "ww"
    refine W_itemT (k := j + 1) (v := ops[j].1) (by lia) (by lia) (by simp [hj2]) ?_
    walk_at "ww"
    refine W_itemS (k := j) (ch := ops[j].2) rfl (by lia) (by rw [hk]; simp [hj2]) ?_
    walk_at "ww"
    refine ct_operand E (ho _ (List.getElem_mem hj2)) ?_
    walk_at "ww"
    refine ih (j + 1) fuel _ (by lia) (by lia) (by lia) (fun v => by walk_at "put") q
theorem ct_row {n t : Nat} {nm : Str} {ops : List (V × Nat)} {kinds : Str} {Q : V → Hp → Prop} (ht : σ[t]? = some (.dstr (dispO shL))) (hs : atK (dispO shL) nm = some (.str kinds)) (ho : ∀ p ∈ ops, Opd p.1 p.2) (hk : kinds = ⟨(ops.map (·.2)).toArray⟩) (hl : ops.length ≤ 1000)
    (q : Q .none σ) : W (callN K (n + 4) 243 [.ref t, .tup (.str nm :: ops.map (·.1)), .bool false]) σ Q := by
  have hkl : kinds.length = ops.length := by rw [hk]; show (List.toArray _).size = _; simp
  rw [E.e_check_row]; unfold B_check_row
  walk_at "ww"
  refine W_isi (b := true) rfl ?_
  walk_at "ww"
  refine W_lenT (by unfold LIM; simp; lia) ?_
  walk_at "ww"
  refine AQ_on' (by simp; lia) ?_
  walk_at "ww"
  refine W_isi (b := true) rfl ?_
  walk_at "ww"
  refine W_ninS ht hs ?_
  walk_at "ww"
  refine W_itemDS ht hs ?_
  walk_at "ww"
  refine W_lenT (by unfold LIM; simp; lia) ?_
  walk_at "ww"
  refine W_lenS (by unfold LIM; lia) ?_
  walk_at "ww"
  rw [hkl]
  refine W_ifN (by simp) ?_
  walk_at "ww"
  refine W_lenS (by unfold LIM; lia) ?_
  walk_at "ww"
  rw [hkl]
  refine W_iterR (by decide) (by decide) (by lia) (by lia) ?_
  refine row_loop E ho hk hl ops.length 0 4096 _ (by lia) (by lia) (by lia) (fun v => by walk_at "put") fun m' => ?_
  walk_at "ww"
  exact q
theorem ct_check {n t : Nat} {ar : List (Int × Int)} {i : Ins} {Q : V → Hp → Prop} (hi : okIns ar i) (ht : σ[t]? = some (.dstr (dispO shL))) (q : Q .none σ) : W (callN K (n + 4) 243 [.ref t, i.v, .bool false]) σ Q := by
  have key : ∃ (nm : Str) (ops : List (V × Nat)) (kinds : Str), i.v = .tup (.str nm :: ops.map (·.1)) ∧ atK (dispO shL) nm = some (.str kinds) ∧ kinds = ⟨(ops.map (·.2)).toArray⟩ ∧ (∀ p ∈ ops, Opd p.1 p.2) ∧ ops.length ≤ 1000 := by
    cases i with
    | arg u k =>
      cases k with
      | void k => cases u <;> exact ⟨_, [(.int k, 78)], "N", rfl, by kernel_rfl, by kernel_rfl, by simp; exact .n hi, by simp⟩
      | var r => cases u <;> exact ⟨_, [(r.v, 82)], "R", rfl, by kernel_rfl, by kernel_rfl, by simp; exact .r hi.1, by simp⟩
      | val r => cases u <;> exact ⟨_, [(r.v, 82)], "R", rfl, by kernel_rfl, by kernel_rfl, by simp; exact .r hi.1, by simp⟩
      | con a b =>
        have hi : a = 5 := hi
        subst hi
        cases u <;> exact ⟨_, [(cV 5 b, 67)], "C", rfl, by kernel_rfl, by kernel_rfl, by simp; exact .c, by simp⟩
    | op o =>
      cases o with
      | getVar r k => exact ⟨_, [(r.v, 82), (xV k, 88)], "RX", rfl, by kernel_rfl, by kernel_rfl, by simp; exact ⟨.r hi.1.1, .x hi.2.1⟩, by simp⟩
      | getVal r k => exact ⟨_, [(r.v, 82), (xV k, 88)], "RX", rfl, by kernel_rfl, by kernel_rfl, by simp; exact ⟨.r hi.1.1, .x hi.2.1⟩, by simp⟩
      | getCon a b k =>
        obtain ⟨h1, h2⟩ : a = 5 ∧ okX k := hi
        subst h1
        exact ⟨_, [(cV 5 b, 67), (xV k, 88)], "CX", rfl, by kernel_rfl, by kernel_rfl, by simp; exact ⟨.c, .x h2.1⟩, by simp⟩
      | getList k => exact ⟨_, [(xV k, 88)], "X", rfl, by kernel_rfl, by kernel_rfl, by simp; exact .x hi.1, by simp⟩
      | getStr f k => exact ⟨_, [(.int f, 70), (xV k, 88)], "FX", rfl, by kernel_rfl, by kernel_rfl, by simp; exact ⟨.f (by lia), .x hi.2.1⟩, by simp⟩
      | putVar r k => exact ⟨_, [(r.v, 82), (xV k, 88)], "RX", rfl, by kernel_rfl, by kernel_rfl, by simp; exact ⟨.r hi.1.1, .x hi.2.1⟩, by simp⟩
      | putVal r k => exact ⟨_, [(r.v, 82), (xV k, 88)], "RX", rfl, by kernel_rfl, by kernel_rfl, by simp; exact ⟨.r hi.1.1, .x hi.2.1⟩, by simp⟩
      | putCon a b k =>
        obtain ⟨h1, h2⟩ : a = 5 ∧ okX k := hi
        subst h1
        exact ⟨_, [(cV 5 b, 67), (xV k, 88)], "CX", rfl, by kernel_rfl, by kernel_rfl, by simp; exact ⟨.c, .x h2.1⟩, by simp⟩
      | putList k => exact ⟨_, [(xV k, 88)], "X", rfl, by kernel_rfl, by kernel_rfl, by simp; exact .x hi.1, by simp⟩
      | putStr f k => exact ⟨_, [(.int f, 70), (xV k, 88)], "FX", rfl, by kernel_rfl, by kernel_rfl, by simp; exact ⟨.f (by lia), .x hi.2.1⟩, by simp⟩
      | alloc k => exact ⟨_, [(.int k, 78)], "N", rfl, by kernel_rfl, by kernel_rfl, by simp; exact .n hi, by simp⟩
      | deall => exact ⟨_, [], "", rfl, by kernel_rfl, by kernel_rfl, by simp, by simp⟩
      | call f k => exact ⟨_, [(.int f, 70), (.int k, 78)], "FN", rfl, by kernel_rfl, by kernel_rfl, by simp; exact ⟨.f (by lia), .n hi.2⟩, by simp⟩
      | exec f => exact ⟨_, [(.int f, 70)], "F", rfl, by kernel_rfl, by kernel_rfl, by simp; exact .f (by lia), by simp⟩
      | proceed => exact ⟨_, [], "", rfl, by kernel_rfl, by kernel_rfl, by simp, by simp⟩
      | builtin f => exact ⟨_, [(.int f, 70)], "F", rfl, by kernel_rfl, by kernel_rfl, by simp; exact .f (by lia), by simp⟩
      | neckCut => exact ⟨_, [], "", rfl, by kernel_rfl, by kernel_rfl, by simp, by simp⟩
      | mark r => exact ⟨_, [(r.v, 82)], "R", rfl, by kernel_rfl, by kernel_rfl, by simp; exact .r hi.1, by simp⟩
      | cutTo r => exact ⟨_, [(r.v, 82)], "R", rfl, by kernel_rfl, by kernel_rfl, by simp; exact .r hi.1, by simp⟩
      | fail => exact ⟨_, [], "", rfl, by kernel_rfl, by kernel_rfl, by simp, by simp⟩
  obtain ⟨nm, ops, kinds, e, h1, h2, h3, h4⟩ := key
  rw [e]
  exact ct_row E ht h1 h3 h2 h4 q
end
end P_K9
section P_P1
open PySem PySem.W PyProof.Rows
set_option Elab.async false
set_option maxRecDepth 100000
set_option linter.unusedVariables false
set_option linter.unusedSectionVars false
section
variable {c : CS}
theorem runM_sm : ∀ (ms : List M) (c : CS) (b : Nat), sm c b → sm (runM ms c) (b + (ms.map M.wt).sum)
  | [], c, b, h => h
  | m :: r, c, b, h => by
    have := runM_sm r (m.run c) (b + m.wt) (run_sm h)
    show sm (runM r (m.run c)) (b + (m.wt + (r.map M.wt).sum))
    rw [← Nat.add_assoc]; exact this
theorem step_sm {ar : List (Int × Int)} {i : Ins} {b : Nat} (h : sm c b) : sm (step ar i c) (b + 2) := by
  cases i with
  | arg u k =>
    delta step; dsimp only
    split
    · split
      · refine (runM_sm _ _ _ h).mono ?_
        cases k <;> exact Nat.add_le_add_left (Nat.le_of_ble_eq_true rfl) _
      · exact (comp_sm h).mono (by lia)
    · exact (comp_sm h).mono (by lia)
  | op o =>
    delta step; dsimp only
    split
    · exact (comp_sm h).mono (by lia)
    · refine (runM_sm _ _ _ h).mono ?_
      cases o <;> exact Nat.add_le_add_left (Nat.le_of_ble_eq_true rfl) _
theorem turn_sm {ar : List (Int × Int)} {i : Ins} {b : Nat} (h : sm c b) : sm (turn ar i c) (b + 2) := by
  unfold turn; split
  · exact (comp_sm h).mono (by lia)
  · exact step_sm h
noncomputable def famOk (c : CS) : Prop := 0 < c.due → c.fam ≠ .n
theorem comp_fam {t : Str} : (comp t c).fam = c.fam := by unfold comp; split <;> rfl
theorem famOk_comp {t : Str} (h : famOk c) : famOk (comp t c) := by unfold famOk; rw [comp_due, comp_fam]; exact h
theorem run_fam {m : M} (h : famOk c) (hm : match m with | .opn _ f => f ≠ .n | .done d => c.fam ≠ .n | _ => True) : famOk (m.run c) := by
  cases m <;> delta M.run <;> dsimp only
  · unfold cread; repeat' split
    all_goals first | exact h | exact famOk_comp h
  · unfold cwrite; repeat' split
    all_goals first | exact h | exact famOk_comp h
  · exact fun zz => hm
  · exact h
  · unfold cargs; split
    · exact h
    · exact famOk_comp h
  · unfold ccall; repeat' split
    all_goals first | exact h | exact famOk_comp h
  · unfold cleave; split
    · exact famOk_comp h
    · exact h
  · exact h
  · unfold calloc; split
    · exact famOk_comp h
    · exact h
  · unfold cdeall; split
    · exact famOk_comp h
    · exact h
  · unfold cdone csub
    split
    · intro _; simp only [comp_fam]; exact hm
    · intro _; exact hm
theorem runM_fam : ∀ (ms : List M) (c : CS), famOk c → (∀ m ∈ ms, match m with | .opn _ f => f ≠ .n | .done d => False | _ => True) → famOk (runM ms c)
  | [], c, h, _ => h
  | m :: r, c, h, hm => by
    refine runM_fam r (m.run c) (run_fam h ?_) fun m hm' => hm m (.tail _ hm')
    have := hm m (.head _)
    cases m <;> first | trivial | exact this | exact this.elim
theorem all_nil {P : M → Prop} : ∀ m, m ∈ ([] : List M) → P m := fun zz h => nomatch h
theorem all_cons {P : M → Prop} {a : M} {l : List M} (h : P a) (r : ∀ m, m ∈ l → P m) : ∀ m, m ∈ a :: l → P m := List.forall_mem_cons.mpr ⟨h, r⟩
set_option tactic.hygienic true in
theorem step_fam {ar : List (Int × Int)} {i : Ins} (h : famOk c) : famOk (step ar i c) := by
  cases i with
  | arg u k =>
    delta step; dsimp only
    split
    · split
      · rename_i hf
        have hn : c.fam ≠ .n := by rw [hf]; cases u <;> exact fun h => nomatch h
        cases k with
        | void n => exact run_fam (m := .done n) h hn
        | con a b => exact run_fam (m := .done 1) h hn
        | var r =>
          refine run_fam (m := .done 1) (run_fam (m := .wr r) h trivial) ?_
          show (cwrite r c).fam ≠ .n
          unfold cwrite; repeat' split
          all_goals first | exact hn | (rw [comp_fam]; exact hn)
        | val r =>
          refine run_fam (m := .done 1) (run_fam (m := .rd r) h trivial) ?_
          show (cread r c).fam ≠ .n
          unfold cread; repeat' split
          all_goals first | exact hn | (rw [comp_fam]; exact hn)
      · exact famOk_comp h
    · exact famOk_comp h
  | op o =>
    delta step; dsimp only
    split
    · exact famOk_comp h
    · refine runM_fam _ _ h ?_
      cases o <;> delta Op.ms <;> dsimp only <;> repeat (first | exact all_nil | refine all_cons (by first | exact True.intro | exact fun h => nomatch h) ?_)
theorem turn_fam {ar : List (Int × Int)} {i : Ins} (h : famOk c) : famOk (turn ar i c) := by
  unfold turn; split
  · exact famOk_comp h
  · exact step_fam h
theorem comp_len {t : Str} (h : c.fault.length ≤ 20200) (ht : t.length ≤ 20200) : (comp t c).fault.length ≤ 20200 := by unfold comp; split <;> assumption
theorem rtext_len {r : Reg} (hr : okR r) : (rtext r).length ≤ 20000 := by
  unfold rtext
  rw [app_len]
  have := ntext_len (v := r.n) (by have := hr.1; lia) hr.2
  have h2 : (Str.ofString (if r.y = true then "y" else "x")).length = 1 := by cases r.y <;> kernel_rfl
  lia
theorem lackF_le {xs : List Int} {a : Int} : ∀ (n : Nat) (p q : Int), lackF xs a n p = some q → p ≤ q ∧ q ≤ a
  | 0, _, _, h => by cases h
  | n + 1, p, q, h => by
    rw [lackF_s] at h
    split at h
    · split at h
      · have := lackF_le n _ _ h; lia
      · injection h with h; lia
    · cases h
noncomputable def okM : M → Prop
  | .rd r => okR r
  | .wr r => okR r
  | .args a => a < 2 ^ 59
  | _ => True
set_option tactic.hygienic true in
theorem run_len {m : M} (hm : okM m) (h : c.fault.length ≤ 20200) : (m.run c).fault.length ≤ 20200 := by
  have e1 : (Str.ofString " is read before it is written").length ≤ 200 := by decide +kernel
  have e2 : (Str.ofString " is read while its structure is built").length ≤ 200 := by decide +kernel
  have e3 : (Str.ofString " is read outside of the environment").length ≤ 200 := by decide +kernel
  have e4 : (Str.ofString " is written outside of the environment").length ≤ 200 := by decide +kernel
  cases m <;> delta M.run <;> dsimp only
  · have := rtext_len hm
    unfold cread; repeat' split
    all_goals first | exact h | (refine comp_len h ?_; rw [app_len]; lia)
  · have := rtext_len hm
    unfold cwrite; repeat' split
    all_goals first | exact h | (refine comp_len h ?_; rw [app_len]; lia)
  · unfold copen; split
    · exact comp_len h (by decide +kernel)
    · exact h
  · exact h
  · unfold cargs; split
    · exact h
    · rename_i a o p e
      have := lackF_le _ _ _ e
      have hm : a < 2 ^ 59 := hm
      refine comp_len h ?_
      rw [app_len, app_len]
      have := ntext_len (v := p) (by lia) (Int.lt_of_lt_of_le (Int.lt_of_le_of_lt this.2 hm) (by decide +kernel))
      have e5 : (Str.ofString "argument ").length ≤ 200 := by decide +kernel
      have e6 : (Str.ofString " is lacking").length ≤ 200 := by decide +kernel
      lia
  · unfold ccall
    dsimp only
    repeat' split
    all_goals first | exact h | exact comp_len h (by decide +kernel)
  · unfold cleave; split
    · exact comp_len h (by decide +kernel)
    · exact h
  · exact h
  · unfold calloc; dsimp only; split
    · exact comp_len h (by decide +kernel)
    · exact h
  · unfold cdeall; dsimp only; split
    · exact comp_len h (by decide +kernel)
    · exact h
  · unfold cdone csub; split
    · exact comp_len h (by decide +kernel)
    · exact h
theorem runM_len : ∀ (ms : List M) (c : CS), (∀ m ∈ ms, okM m) → c.fault.length ≤ 20200 → (runM ms c).fault.length ≤ 20200
  | [], c, _, h => h
  | m :: r, c, hm, h => runM_len r _ (fun m' hm' => hm m' (.tail _ hm')) (run_len (hm m (.head _)) h)
theorem step_len {ar : List (Int × Int)} {i : Ins} (hi : okIns ar i) (h : c.fault.length ≤ 20200) : (step ar i c).fault.length ≤ 20200 := by
  cases i with
  | arg u k =>
    delta step; dsimp only
    split
    · split
      · refine runM_len _ _ ?_ h
        cases k <;> delta SK.ms <;> dsimp only <;> repeat (first | exact all_nil | refine all_cons (by first | exact True.intro | exact hi) ?_)
      · exact comp_len h (by decide +kernel)
    · exact comp_len h (by decide +kernel)
  | op o =>
    delta step; dsimp only
    split
    · exact comp_len h (by decide +kernel)
    · refine runM_len _ _ ?_ h
      have hi : okOp ar o := hi
      cases o <;> delta Op.ms <;> dsimp only <;> repeat (first | exact all_nil | refine all_cons (by first | exact True.intro | exact hi | exact hi.1 | exact hi.2 | exact hi.1.2.2 | exact hi.2.2 | exact hi.2.1) ?_)
theorem turn_len {ar : List (Int × Int)} {i : Ins} (hi : okIns ar i) (h : c.fault.length ≤ 20200) : (turn ar i c).fault.length ≤ 20200 := by
  unfold turn; split
  · exact comp_len h (by decide +kernel)
  · exact step_len hi h
end
end P_P1
section P_K10
open PySem PySem.W PyProof.Rows
set_option Elab.async false
set_option maxRecDepth 100000
set_option linter.unusedVariables false
set_option linter.unusedSectionVars false
section
variable {K : Frag} {σ0 σ σ' : Hp} {l : List (Nat × O)} (E : Env K)
theorem L_set {C : Addr} {fs fs' : List (Str × V)} {f : Str} {v : V} {a : Nat} {Q : Unit → Hp → Prop} (hk : okSet K C f = true) (h : Lg σ0 ((a, .inst C fs) :: l) σ) (hp : put fs f v = fs') (hl : fs.length ≤ 100) (q : ∀ σ', Lg σ0 ((a, .inst C fs') :: l) σ' → Q () σ') : W (setAttrV K (.ref a) f v) σ Q :=
  W_setAttr (h.at_ _ (.head _)) hk hl (q _ (by rw [hp]; exact h.set1 _))
theorem upto_le : ∀ (n : Nat) (k : Int), k ∈ upto n → 1 ≤ k ∧ k ≤ n
  | 0, k, h => by cases h
  | n + 1, k, h => by
    rcases List.mem_append.mp (show k ∈ upto n ++ [(n : Int) + 1] from h) with h | h
    · have := upto_le n k h; lia
    · rw [List.mem_singleton.mp h]; lia
theorem ins_upto {n : Nat} : ins (upto n) ((n : Int) + 1) = upto (n + 1) := by
  unfold ins
  rw [if_neg (fun h => by have := upto_le n _ h; lia)]; rfl
theorem upto_len : ∀ n : Nat, (upto n).length = n
  | 0 => rfl
  | n + 1 => by show (upto n ++ [(n : Int) + 1]).length = _; rw [List.length_append, upto_len n]; rfl
noncomputable def initB (K : Frag) : XsT := fun m => seqF (bnd (ret (.bool true)) fun v318 => bnd (bnd (ofO (lk m "self")) fun a320 => attrV K a320 "xs") fun a319 => bnd (ofO (lk m "place")) fun a321 => bnd (setItemV a319 a321 v318) fun zz => ret (Fl.next, m)) fun m => ret (Fl.next, m)
include E
theorem init_loop {i sy ix wide : Nat} {sv av : V} {Q : Fl × Loc → Hp → Prop} (hw : wide ≤ 900) : ∀ (d k fuel : Nat) (m : Loc) (o : O) (σ : Hp), wide - k = d → k ≤ wide → d < fuel → (∀ v, put m "place" v = ([("self", .ref i), ("symbols", sv), ("arity", av), ("place", v)] : Loc)) →
    Lg σ0 [(ix, o), (i, .inst 358 [("symbols", .ref sy), ("xs", .ref ix)])] σ → KD o (upto k) →
    (∀ m' o' σ', lk m' "self" = some (.ref i) → Lg σ0 [(ix, o'), (i, .inst 358 [("symbols", .ref sy), ("xs", .ref ix)])] σ' → KD o' (upto wide) → Q (.next, m') σ') →
    lk m "self" = some (.ref i) → W (forV "place" (initB K) fuel (.rng ((k : Int) + 1) ((wide : Int) + 1)) m) σ Q := by
  intro d
  induction d with
  | zero =>
    intro k fuel m o σ hd hk hf hp h hkd q hm
    obtain ⟨fuel, rfl⟩ : ∃ f, fuel = f + 1 := ⟨fuel - 1, by lia⟩
    obtain rfl : k = wide := by lia
    exact W_forEnd (next_rngE (by lia)) (q _ _ _ hm h hkd)
  | succ d ih =>
    intro k fuel m o σ hd hk hf hp h hkd q hm
    obtain ⟨fuel, rfl⟩ : ∃ f, fuel = f + 1 := ⟨fuel - 1, by lia⟩
    refine W_for (next_rng (by lia)) ?_
    rw [hp]
    unfold initB
    walk_at "ww"
    refine W_attr (v := .ref ix) (h.at_ _ (.tail _ (.head _))) E.g_xs (by kernel_rfl) rfl ?_
    walk_at "ww"
    refine W_putD (h.at_ _ (.head _)) hkd (by rw [upto_len]; unfold LIM; lia) fun o' hkd' => ?_
    walk_at "ww"
    rw [ins_upto] at hkd'
    have e1 : ((k : Int) + 1 + 1) = ((k + 1 : Nat) : Int) + 1 := by lia
    show W (forV "place" (initB K) fuel (.rng ((k : Int) + 1 + 1) _) _) _ _
    rw [e1]
    exact ih (k + 1) fuel _ o' _ (by lia) (by lia) (by lia) (fun v => by walk_at "put") (h.set1 o') hkd' q (by walk_at "lk")
theorem ct_new {n sy st sa jf sn wide : Nat} {ar : List (Int × Int)} {Q : V → Hp → Prop} (hsy : σ[sy]? = some (.inst 162 (symF st sa jf sn))) (hfo : σ[jf]? = some (.list (arV ar))) (hl : ar.length ≤ 1000) (hw : wide ≤ 900)
    (q : ∀ i ix iy σ', Ck ⟨σ, i, sy, st, sa, jf, sn, ar⟩ [] ix iy (cs0 wide) σ' → Q (.ref i) σ') : W (callN K (n + 2) 358 [.ref sy, .int (wide : Int)]) σ Q := by
  rw [E.c_ClauseChecker]
  refine W_bnd (L_nw (Lg.nil σ) fun i σ1 h => W_bnd ?_)
  rw [E.e_ClauseChecker_init]; unfold B_ClauseChecker_init
  walk_at "ww"
  refine L_set E.s_symbols h (by walk_at "put") (by simp) fun σ2 h => ?_
  walk_at "ww"
  refine L_nw h fun ix σ3 h => ?_
  walk_at "ww"
  have h := h.perm (.swap _ _ _)
  refine L_set E.s_xs h (by walk_at "put") (by simp) fun σ2 h => ?_
  walk_at "ww"
  refine W_iterR (by decide) (by decide) (by lia) (by lia) ?_
  refine init_loop (sy := sy) (sv := .ref sy) (av := .int wide) E hw wide 0 4096 _ _ _ (by lia) (by lia) (by lia) (fun v => by walk_at "put") (h.perm (.swap _ _ _)) .nil ?_ (by walk_at "lk")
  intro m o σ4 hm h hkd
  refine SQ_n ?_
  have step1 : ∀ {Q : V → Hp → Prop} {σ : Hp}, Q (.ref i) σ → W (ofO (lk m "self")) σ Q := fun h => W_ofO hm h
  walk_at "ww"
  refine L_nw h fun iy σ5 h => ?_
  have h := h.perm (((List.Perm.swap _ _ _).trans (.cons _ (.swap _ _ _))).trans (.swap _ _ _))
  walk_at "ww"
  refine step1 ?_
  walk_at "ww"
  refine L_set E.s_ys h (by walk_at "put") (by simp) fun σ6 h => ?_
  walk_at "ww"
  refine step1 ?_
  walk_at "ww"
  refine L_set E.s_size h (by walk_at "put") (by simp) fun σ6 h => ?_
  walk_at "ww"
  refine step1 ?_
  walk_at "ww"
  refine L_set E.s_due h (by walk_at "put") (by simp) fun σ6 h => ?_
  walk_at "ww"
  refine step1 ?_
  walk_at "ww"
  refine L_set E.s_family h (by walk_at "put") (by simp) fun σ6 h => ?_
  walk_at "ww"
  refine step1 ?_
  walk_at "ww"
  refine L_set E.s_building h (by walk_at "put") (by simp) fun σ6 h => ?_
  walk_at "ww"
  refine step1 ?_
  walk_at "ww"
  refine L_set E.s_ended h (by walk_at "put") (by simp) fun σ6 h => ?_
  walk_at "ww"
  refine step1 ?_
  walk_at "ww"
  refine L_set E.s_fault h (by walk_at "put") (by simp) fun σ6 h => ?_
  walk_at "ww"
  refine W_ret ?_
  exact q i ix iy _ ⟨⟨o, .dnew, h, hkd, .nil⟩, hsy, hfo, hl⟩
noncomputable abbrev faultB (K : Frag) (C : Or) : XsT := B_clause_fault_9 K C
noncomputable def JQ (out : Str) (r : List (Mo V)) (Q : V → Hp → Prop) (v : V) (σ : Hp) : Prop := match v with
  | .str s => out.length + s.length ≤ LIM ∧ W (joinV (out ++ s) r) σ Q
  | _ => False
omit E in
theorem W_jcons {out : Str} {x : Mo V} {r : List (Mo V)} {Q : V → Hp → Prop} (h : W x σ (JQ out r Q)) : W (joinV out (x :: r)) σ Q := by
  refine W_bnd (W_mono h ?_)
  intro v σ' q
  cases v <;> first | exact q.elim | skip
  obtain ⟨h1, h2⟩ := q
  exact W_grd (Nat.ble_eq_true_of_le h1) h2
omit E in
theorem W_jnil {out : Str} {Q : V → Hp → Prop} (hl : out.length ≤ LIM) (h : Q (.str out) σ) : W (joinV out []) σ Q := W_grd (Nat.ble_eq_true_of_le hl) (W_ret h)
omit E in
theorem W_fmtS {s : Str} {Q : V → Hp → Prop} (hl : s.length ≤ LIM) (h : Q (.str s) σ) : W (fmtV (.str s)) σ Q := W_grd (Nat.ble_eq_true_of_le hl) (W_ret h)
omit E in
theorem W_fmtI {i : Int} {Q : V → Hp → Prop} (h0 : 0 ≤ i) (h1 : i < 10 ^ 9) (h : Q (.str (txtI i)) σ) : W (fmtV (.int i)) σ Q := W_grd (by simp [h0]; lia) (W_ret h)
end
end P_K10
section P_K11
open PySem PySem.W PyProof.Rows
set_option Elab.async false
set_option maxRecDepth 100000
set_option linter.unusedVariables false
set_option linter.unusedSectionVars false
section
variable {K : Frag} {σ0 σ σ' : Hp} {x : CX} {ix iy : Nat} {c : CS} (E : Env K)
theorem txtI_le {p : Nat} (h : p ≤ 1000) : (txtI (p : Int)).length ≤ 5000 :=
  ntext_len (v := (p : Int)) (by lia) (Int.lt_of_le_of_lt (b := 1000) (by lia) (by decide +kernel))
theorem isFail_eq {i : Ins} {nm : Str} {r : List V} (e : i.v = .tup (.str nm :: r)) : (nm == ("fail" : Str)) = i.isFail := by
  cases i with
  | arg u k => cases u <;> cases k <;> (injection e with e; injection e with e _; injection e with e; subst e; kernel_rfl)
  | op o => cases o <;> (injection e with e; injection e with e _; injection e with e; subst e; kernel_rfl)
theorem Ins.v_nm (i : Ins) : ∃ nm r, i.v = .tup (.str nm :: r) := by
  cases i with
  | arg u k => cases k <;> exact ⟨_, _, rfl⟩
  | op o => cases o <;> exact ⟨_, _, rfl⟩
include E
theorem fault_loop {n r t : Nat} {sv av : V} {rows : List Ins} {Q : Fl × Loc → Hp → Prop} (hr : x.σ0[r]? = some (.list (rows.map Ins.v))) (ht : x.σ0[t]? = some (.dstr (dispO shL))) (hok : ∀ i ∈ rows, okIns x.ar i) (hlen : rows.length ≤ 1000)
    : ∀ (rem : List Ins) (j fuel : Nat) (dead : Bool) (m : Loc) (c : CS) (ix iy : Nat) (σ : Hp), rows.drop j = rem → j ≤ rows.length → rem.length < fuel →
    (∀ v, put m "place" v = ([("symbols", sv), ("arity", av), ("instrs", .ref r), ("table", .ref t), ("checker", .ref x.i), ("dead", .bool dead), ("place", v)] : Loc)) →
    lk m "checker" = some (.ref x.i) → lk m "instrs" = some (.ref r) →
    Ck x [] ix iy c σ → sm c (60 - 2 * rem.length) → 2 * rem.length ≤ 60 → famOk c → c.fault.length ≤ 20200 →
    (match cf x.ar j dead c rem with
      | .bad p s => ∀ m σ', Ext x.σ0 σ' → Q (.ret (.str (Rs.bad p s).text), m) σ'
      | rs => ∀ m c' ix iy σ', lk m "checker" = some (.ref x.i) → lk m "instrs" = some (.ref r) → Ck x [] ix iy c' σ' → rs = (if c'.ended then Rs.ok else Rs.noend rows.length) → Q (.next, m) σ') →
    W (forV "place" (faultB K (callN K (n + 6))) fuel (.rng (j : Int) (rows.length : Int)) m) σ Q := by
  intro rem
  induction rem with
  | nil =>
    intro j fuel dead m c ix iy σ hd hj hf hp hm1 hm2 h hs hb hfam hfl q
    obtain ⟨fuel, rfl⟩ : ∃ f, fuel = f + 1 := ⟨fuel - 1, by simp at hf; lia⟩
    have hj2 : rows.length ≤ j := List.drop_eq_nil_iff.mp hd
    refine W_forEnd (next_rngE (by lia)) ?_
    obtain rfl : j = rows.length := by lia
    have e : cf x.ar rows.length dead c [] = if c.ended then Rs.ok else Rs.noend rows.length := by cases dead <;> rfl
    rw [e] at q
    cases hce : c.ended
    · rw [hce] at q; exact q m c ix iy σ hm1 hm2 h (by rw [hce])
    · rw [hce] at q; exact q m c ix iy σ hm1 hm2 h (by rw [hce])
  | cons i rem ih =>
    intro j fuel dead m c ix iy σ hd hj hf hp hm1 hm2 h hs hb hfam hfl q
    obtain ⟨fuel, rfl⟩ : ∃ f, fuel = f + 1 := ⟨fuel - 1, by simp at hf; lia⟩
    have hj2 : j < rows.length := by
      apply Classical.byContradiction; intro hn
      rw [List.drop_eq_nil_of_le (by lia)] at hd; cases hd
    rw [List.drop_eq_getElem_cons hj2] at hd
    injection hd with hd1 hd2
    have hi : okIns x.ar i := hok i (hd1 ▸ List.getElem_mem hj2)
    have hrow : (rows.map Ins.v)[j]? = some i.v := by rw [List.getElem?_map, List.getElem?_eq_getElem hj2, hd1]; rfl
    have ej : ((j : Int) + 1) = ((j + 1 : Nat) : Int) := by lia
    refine W_for (next_rng (by lia)) ?_
    rw [hp, ej]
    unfold faultB
    walk_at "wm"
    refine W_itemL (k := j) (h.e0 _ _ hr) (by lia) hrow ?_
    walk_at "wm"
    refine ct_check E (n := n + 2) hi (h.e0 _ _ ht) ?_
    walk_at "wm"
    cases dead with
    | true =>
      refine W_ifT rfl ?_
      walk_at "wm"
      refine ih (j + 1) fuel true _ c ix iy σ hd2 (by lia) (by simp at hf; lia) (fun v => by walk_at "put") (by walk_at "lk") (by walk_at "lk") h (hs.mono (by simp; lia)) (by simp at hb; lia) hfam hfl ?_
      have e : cf x.ar j true c (i :: rem) = cf x.ar (j + 1) true c rem := rfl
      rw [e] at q; exact q
    | false =>
      refine W_ifN rfl ?_
      walk_at "wm"
      have hs60 : sm c 58 := hs.mono (by simp; lia)
      refine W_cut (m := [("symbols", sv), ("arity", av), ("instrs", .ref r), ("table", .ref t), ("checker", .ref x.i), ("dead", .bool false), ("place", .int j)]) (P := fun σ' => ∃ ix iy, Ck x [] ix iy (turn x.ar i c) σ') ?_ ?_
      · refine W_ifF (fun e => ?_) (fun e => ?_)
        · walk_at "wm"
          refine ct_complain E (n := n + 5) h fun σ1 h => ?_
          walk_at "wm"
          exact ⟨rfl, ix, iy, by unfold turn; rw [if_pos e]; exact h⟩
        · walk_at "wm"
          refine W_itemL (k := j) (h.e0 _ _ hr) (by lia) hrow ?_
          walk_at "wm"
          refine ct_step E hi (hs60.mono (by lia)) hfam h fun ix' iy' σ1 h => ?_
          walk_at "wm"
          exact ⟨rfl, ix', iy', by unfold turn; rw [if_neg (by simp [e])]; exact h⟩
      · rintro σ ⟨ix, iy, h⟩
        have hs' : sm (turn x.ar i c) (60 - 2 * rem.length) := (turn_sm hs).mono (by simp at hb ⊢; lia)
        have hfl' := turn_len hi hfl
        have hfam' := turn_fam (ar := x.ar) (i := i) hfam
        rw [cf_f] at q
        walk_at "wm"
        refine W_ifF (fun e => ?_) (fun e => ?_)
        · have e : ¬ ((turn x.ar i c).fault == "") = true := by simpa using e
          rw [if_neg e] at q
          walk_at "wm"
          refine W_jcons ?_
          walk_at "wm"
          have hjl : j ≤ 1000 := by lia
          have htl := txtI_le hjl
          have hel : Str.empty.length = 0 := rfl
          have hcl : (Str.ofString ": ").length = 2 := by decide +kernel
          refine W_fmtI (by lia) (by lia) ⟨by unfold LIM; lia, ?_⟩
          refine W_jcons (W_ret ⟨by rw [app_len]; unfold LIM; lia, ?_⟩)
          refine W_jcons ?_
          walk_at "wm"
          refine W_fmtS (by unfold LIM; lia) ⟨by rw [app_len, app_len]; unfold LIM; lia, ?_⟩
          refine W_jnil (by rw [app_len, app_len, app_len]; unfold LIM; lia) ?_
          walk_at "wm"
          exact q _ _ h.e0
        · have e : ((turn x.ar i c).fault == "") = true := by simpa using e
          rw [if_pos e] at q
          walk_at "wm"
          refine W_itemL (k := j) (h.e0 _ _ hr) (by lia) hrow ?_
          obtain ⟨nm, rr, ev⟩ := i.v_nm
          have ef := isFail_eq ev
          rw [ev]
          walk_at "wm"
          rw [ef]
          exact ih (j + 1) fuel i.isFail _ _ ix iy σ hd2 (by lia) (by simp at hf; lia) (fun v => by walk_at "put") (by walk_at "lk") (by walk_at "lk") h hs' (by simp at hb; lia) hfam' hfl' q
end
end P_K11
section P_K12
open PySem PySem.W PyProof.Rows
set_option Elab.async false
set_option maxRecDepth 100000
set_option linter.unusedVariables false
set_option linter.unusedSectionVars false
section
variable {K : Frag} {σ : Hp} (E : Env K)
include E
set_option tactic.hygienic true in
theorem ct_fault {n r sy st sa jf sn wide : Nat} {ar : List (Int × Int)} {rows : List Ins} {Q : V → Hp → Prop} (hsy : σ[sy]? = some (.inst 162 (symF st sa jf sn))) (hfo : σ[jf]? = some (.list (arV ar))) (hl : ar.length ≤ 1000)
    (hr : σ[r]? = some (.list (rows.map Ins.v))) (hok : ∀ i ∈ rows, okIns ar i) (hw : wide + 2 * rows.length ≤ 60)
    (q : ∀ σ', Ext σ σ' → Q (.str (cfault ar wide rows).text) σ') : W (callN K (n + 7) 369 [.ref sy, .int (wide : Int), .ref r]) σ Q := by
  rw [E.e_clause_fault]; unfold B_clause_fault
  walk_at "ww"
  refine ct_shapes E ?_
  have x1 : Ext σ (σ ++ [.dstr (dispO shL)]) := Ext.app _ _
  have ht : (σ ++ [O.dstr (dispO shL)])[σ.length]? = some (.dstr (dispO shL)) := by simp
  revert x1 ht
  generalize (σ ++ [O.dstr (dispO shL)]) = σ1
  generalize σ.length = t
  intro x1 ht
  walk_at "ww"
  refine ct_new E (n := n + 4) (x1 _ _ hsy) (x1 _ _ hfo) hl (by lia) fun i ix iy σ2 h => ?_
  walk_at "ww"
  refine W_lenL (h.e0 _ _ (x1 _ _ hr)) (by simp; unfold LIM; lia) ?_
  walk_at "ww"
  rw [List.length_map]
  refine W_iterR (by decide) (by decide) (by lia) (by lia) ?_
  refine fault_loop E (x := ⟨σ1, i, sy, st, sa, jf, sn, ar⟩) (n := n) (r := r) (t := t) (sv := .ref sy) (av := .int wide) (rows := rows) (x1 _ _ hr) ht hok (by lia) rows 0 4096 false _ (cs0 wide) ix iy _ rfl (by lia) (by lia) (fun v => by walk_at "put") (by walk_at "lk") (by walk_at "lk") h ?_ (by lia) ?_ ?_ ?_
  · constructor
    · show (upto wide).length ≤ _
      rw [upto_len]; lia
    · exact Nat.zero_le _
  · intro hd; exact absurd (show (0 : Int) < 0 from hd) (by decide)
  · show (Str.ofString "").length ≤ 20200
    decide +kernel
  · have fin : ∀ m c' ix iy σ', lk m "checker" = some (.ref i) → lk m "instrs" = some (.ref r) → Ck ⟨σ1, i, sy, st, sa, jf, sn, ar⟩ [] ix iy c' σ' → cfault ar wide rows = (if c'.ended then Rs.ok else Rs.noend rows.length) →
        SQ (fun m => seqF (bnd (bnd (bnd (bnd (ofO (lk m "checker")) fun a826 => attrV K a826 "ended") asB) fun c825 => ret (!c825)) fun c824 => ifF c824 (seqF (bnd (joinV Str.empty [bnd (bnd (mvs [ofO (lk m "instrs")]) fun s829 => bLen s829) fun a828 => fmtV a828, ret (.str ": the clause has no end")]) fun v827 => ret (Fl.ret v827, m)) fun m => ret (Fl.next, m))
          (ret (Fl.next, m))) fun m => seqF (bnd (ret (.str "")) fun v830 => ret (Fl.ret v830, m)) fun m => ret (Fl.next, m)) (fun a σ' => W (outF a) σ' Q) (.next, m) σ' := by
      intro m c' ix iy σ' hm1 hm2 h e
      have g : Ext σ σ' := x1.trans h.e0
      have q := q _ g
      rw [e] at q
      refine SQ_n ?_
      walk_at "ww"
      refine W_ofO hm1 ?_
      refine Ck_g_ended E (x := ⟨σ1, i, sy, st, sa, jf, sn, ar⟩) h ?_
      walk_at "ww"
      cases hc : c'.ended
      · rw [hc] at q
        refine W_ifT rfl ?_
        walk_at "ww"
        refine W_jcons ?_
        walk_at "ww"
        refine W_ofO hm2 ?_
        walk_at "ww"
        refine W_lenL (g _ _ hr) (by simp; unfold LIM; lia) ?_
        rw [List.length_map]
        have htl := txtI_le (p := rows.length) (by lia)
        have hel : Str.empty.length = 0 := rfl
        have hcl : (Str.ofString ": the clause has no end").length ≤ 100 := by decide +kernel
        refine W_fmtI (by lia) (by lia) ⟨by unfold LIM; lia, ?_⟩
        refine W_jcons (W_ret ⟨by rw [app_len]; unfold LIM; lia, ?_⟩)
        refine W_jnil (by rw [app_len, app_len]; unfold LIM; lia) ?_
        walk_at "ww"
        exact q
      · rw [hc] at q
        refine W_ifN rfl ?_
        walk_at "ww"
        exact q
    show (match cf ar 0 false (cs0 wide) rows with | .bad p s => _ | rs => _)
    have fin' := fin
    unfold cfault at fin'
    have q' := q
    unfold cfault at q'
    split
    · rename_i p s e
      intro m σ' g
      rw [e] at q'
      walk_at "ww"
      exact q' _ (x1.trans g)
    · intro m c' ix iy σ' h1 h2 h3 e
      exact fin' m c' ix iy σ' h1 h2 h3 e
end
end P_K12
section P_S0
open PySem PySem.W PyProof.Rows
set_option Elab.async false
set_option genSizeOf false
set_option maxRecDepth 100000
set_option linter.unusedVariables false
set_option linter.unusedSectionVars false
section
variable {K : Frag} {σ0 σ σ' : Hp} {l : List (Nat × O)} (E : Env K)
/-! ## symbols -/
structure SX where
  sy : Nat
  st : Nat
  sa : Nat
  jf : Nat
  sn : Nat
structure SS where
  ts : List Str
  an : List (Str × Int)
  fs : List (Int × Int)
  fn : List (List Int × Int)
noncomputable def anV (es : List (Str × Int)) : List (Str × V) := es.map fun p => (p.1, .int p.2)
noncomputable def fnV (es : List (List Int × Int)) : List (List Int × V) := es.map fun p => (p.1, .int p.2)
noncomputable def DA (o : O) (es : List (Str × Int)) : Prop := (o = .dnew ∧ es = []) ∨ o = .dstr (anV es)
noncomputable def DF (o : O) (es : List (List Int × Int)) : Prop := (o = .dnew ∧ es = []) ∨ o = .dpair (fnV es)
noncomputable def syLed (x : SX) (S : SS) (oA oN : O) (l : List (Nat × O)) : List (Nat × O) :=
  (x.sy, .inst 162 (symF x.st x.sa x.jf x.sn)) :: (x.st, .list (S.ts.map V.str)) :: (x.sa, oA) :: (x.jf, .list (arV S.fs)) :: (x.sn, oN) :: l
structure SOk (S : SS) (N : Nat) : Prop where
  h1 : S.ts.length ≤ N
  h2 : S.an.length ≤ N
  h3 : S.fs.length ≤ N
  h4 : S.fn.length ≤ N
  a : ∀ p ∈ S.an, 0 ≤ p.2
  f : ∀ p ∈ S.fn, ∃ (a r : Int) (i : Nat), p = ([a, r], (i : Int)) ∧ S.fs[i]? = some (a, r)
  r : ∀ p ∈ S.fs, 0 ≤ p.2 ∧ p.2 < 2 ^ 59
structure SyH (σ0 : Hp) (x : SX) (l : List (Nat × O)) (S : SS) (N : Nat) (σ : Hp) : Prop where
  lg : ∃ oA oN, Lg σ0 (syLed x S oA oN l) σ ∧ DA oA S.an ∧ DF oN S.fn
  ok : SOk S N
theorem SOk.mono {S : SS} {N M : Nat} (h : SOk S N) (hn : N ≤ M) : SOk S M := ⟨Nat.le_trans h.h1 hn, Nat.le_trans h.h2 hn, Nat.le_trans h.h3 hn, Nat.le_trans h.h4 hn, h.a, h.f, h.r⟩
noncomputable def atomP (t : Str) (S : SS) : SS := match atK S.an t with
  | some _ => S
  | none => { S with ts := S.ts ++ [t], an := S.an ++ [(t, (S.ts.length : Int))] }
theorem atK_none_app {κ β : Type} [DecidableEq κ] {es : List (κ × β)} {k : κ} {v : β} (h : atK es k = none) : stK es k v = es ++ [(k, v)] := by
  unfold stK
  have : (es.any fun kv => decide (kv.1 = k)) = false := by
    rw [List.any_eq_false]
    intro p hp
    unfold atK at h
    have := List.find?_eq_none.mp (Option.map_eq_none_iff.mp h) p hp
    simpa using this
  rw [this]; rfl
theorem atK_map {κ β γ : Type} [DecidableEq κ] {es : List (κ × β)} {k : κ} {g : β → γ} : atK (es.map fun p => (p.1, g p.2)) k = (atK es k).map g := by
  unfold atK
  induction es with
  | nil => rfl
  | cons p r ih =>
    rw [List.map_cons, List.find?_cons, List.find?_cons]
    by_cases h : p.1 = k
    · simp [h]
    · simp only [h, decide_false]; exact ih
theorem atK_mem' {κ β : Type} [DecidableEq κ] {es : List (κ × β)} {k : κ} {v : β} (h : atK es k = some v) : (k, v) ∈ es := by
  unfold atK at h
  obtain ⟨p, hp, e⟩ := Option.map_eq_some_iff.mp h
  have := List.find?_some hp
  have hm := List.mem_of_find?_eq_some hp
  have e1 : p.1 = k := by simpa using this
  rw [← e1, ← e]; exact hm
theorem atomP_ok {S : SS} {N : Nat} {t : Str} (h : SOk S N) : SOk (atomP t S) (N + 1) := by
  unfold atomP
  split
  · exact h.mono (by lia)
  · have := h.h1
    have := h.h2
    refine ⟨by simp; lia, by simp; lia, Nat.le_trans h.h3 (by lia), Nat.le_trans h.h4 (by lia), ?_, h.f, h.r⟩
    intro p hp
    rcases List.mem_append.mp hp with hp | hp
    · exact h.a p hp
    · rw [List.mem_singleton.mp hp]; show (0 : Int) ≤ (S.ts.length : Int); lia
theorem W_methGet1 {i : Nat} {o : O} {Q : Fn → Hp → Prop} (e : σ[i]? = some o) (ho : match o with | .list _ => False | .inst _ _ => False | .dint _ => False | _ => True) (h : Q (.blt "dict.get") σ) : W (methOf K (.ref i) "get") σ Q := by
  unfold methOf; dsimp only
  refine W_gt' e ?_
  have eg : ((("get" : Str) == ("get" : Str)) = true) := by decide +kernel
  cases o <;> first | exact ho.elim | (dsimp only; rw [eg]; exact W_ret h)
theorem W_bltGet {C : Or} {a k d : V} {Q : V → Hp → Prop} (h : W (bGet [a, k, d]) σ Q) : W (callM K C (.blt "dict.get") a [k, d]) σ Q := W_blt (by rfl) h
theorem W_getA {i : Nat} {o : O} {es : List (Str × Int)} {t : Str} {d : Int} {Q : V → Hp → Prop} (e : σ[i]? = some o) (ho : DA o es) (h : Q (.int ((atK es t).getD d)) σ) : W (bGet [.ref i, .str t, .int d]) σ Q := by
  refine W_gt' e ?_
  rcases ho with ⟨rfl, rfl⟩ | rfl
  · exact W_ret h
  · refine W_ret ?_
    unfold anV
    rw [atK_map]
    cases hx : atK es t with
    | none => rw [hx] at h; exact h
    | some v => rw [hx] at h; exact h
theorem L_append_at {a : Nat} {xs : List V} {v : V} {l l' : List (Nat × O)} {Q : V → Hp → Prop} (hp : l.Perm ((a, .list xs) :: l')) (hl : xs.length ≤ LIM) (h : Lg σ0 l σ) (q : ∀ σ', Lg σ0 ((a, .list (xs ++ [v])) :: l') σ' → Q .none σ') : W (bAppend [.ref a, v]) σ Q := L_append hl (h.perm hp) q
theorem W_setA {i : Nat} {o : O} {es : List (Str × Int)} {t : Str} {v : Int} {Q : Unit → Hp → Prop} (e : σ[i]? = some o) (ho : DA o es) (hl : es.length ≤ LIM) (hn : atK es t = none) (q : ∀ o', DA o' (es ++ [(t, v)]) → Q () (σ.set i o')) : W (setItemV (.ref i) (.str t) (.int v)) σ Q := by
  refine W_gt' e ?_
  rcases ho with ⟨rfl, rfl⟩ | rfl
  · exact ⟨_, _, rfl, q _ (.inr rfl)⟩
  · refine W_grd (Nat.ble_eq_true_of_le (by unfold anV; simpa using hl)) ⟨_, _, rfl, q _ (.inr ?_)⟩
    have : atK (anV es) t = none := by unfold anV; rw [atK_map, hn]; rfl
    rw [atK_none_app this]
    unfold anV; simp
theorem sy_p2 {x : SX} {S : SS} {oA oN : O} : (syLed x S oA oN l).Perm ((x.st, .list (S.ts.map V.str)) :: (x.sy, .inst 162 (symF x.st x.sa x.jf x.sn)) :: (x.sa, oA) :: (x.jf, .list (arV S.fs)) :: (x.sn, oN) :: l) := List.Perm.swap _ _ _
theorem sy_p4 {x : SX} {S : SS} {oA oN : O} : (syLed x S oA oN l).Perm ((x.jf, .list (arV S.fs)) :: (x.sy, .inst 162 (symF x.st x.sa x.jf x.sn)) :: (x.st, .list (S.ts.map V.str)) :: (x.sa, oA) :: (x.sn, oN) :: l) :=
  (List.Perm.cons _ ((List.Perm.cons _ (.swap _ _ _)).trans (.swap _ _ _))).trans (.swap _ _ _)
include E
theorem ct_atom {n N : Nat} {x : SX} {S : SS} {t : Str} {Q : V → Hp → Prop} (hN : N ≤ 1000) (h : SyH σ0 x l S N σ) (q : ∀ a σ', SyH σ0 x l (atomP t S) (N + 1) σ' → Q (.int a) σ') : W (callN K (n + 1) 96 [.ref x.sy, .str t]) σ Q := by
  have ok := h.ok
  have h1 := ok.h1
  have h2 := ok.h2
  obtain ⟨oA, oN, lg, hA, hF⟩ := h.lg
  rw [E.e_Symbols_atom]; unfold B_Symbols_atom
  have hi := lg.at_ _ (.head _)
  walk_at "ww"
  refine W_attr (v := .ref x.sa) hi E.g_atom_numbers (by kernel_rfl) rfl ?_
  have ha : σ[x.sa]? = some oA := lg.at_ _ (.tail _ (.tail _ (.head _)))
  walk_at "ww"
  refine W_methGet1 ha (by rcases hA with ⟨rfl, _⟩ | rfl <;> trivial) ?_
  walk_at "ww"
  refine W_bltGet (W_getA ha hA ?_)
  walk_at "ww"
  cases hx : atK S.an t with
  | some i =>
    have h0 := ok.a _ (atK_mem' hx)
    refine W_ifT (decide_eq_true h0) ?_
    walk_at "ww"
    have e : atomP t S = S := by unfold atomP; rw [hx]
    exact q _ _ (by rw [e]; exact ⟨h.lg, ok.mono (by lia)⟩)
  | none =>
    refine W_ifN (by rfl) ?_
    walk_at "ww"
    refine W_attr (v := .ref x.st) hi E.g_texts (by kernel_rfl) rfl ?_
    refine W_lenL (lg.at_ _ (.tail _ (.head _))) (by simp; unfold LIM; lia) ?_
    walk_at "ww"
    refine W_attr (v := .ref x.st) hi E.g_texts (by kernel_rfl) rfl ?_
    walk_at "ww"
    refine W_methAppend (lg.at_ _ (.tail _ (.head _))) ?_
    walk_at "ww"
    refine W_bltAppend (L_append_at sy_p2 (by simp; unfold LIM; lia) lg fun σ1 lg => ?_)
    walk_at "ww"
    refine W_attr (v := .ref x.sa) (lg.at_ _ (.tail _ (.head _))) E.g_atom_numbers (by kernel_rfl) rfl ?_
    walk_at "ww"
    refine W_setA (lg.at_ _ (.tail _ (.tail _ (.head _)))) hA (by unfold LIM; lia) hx fun o' hA' => ?_
    walk_at "ww"
    refine q _ _ ⟨⟨o', oN, ?_, ?_, ?_⟩, atomP_ok ok⟩
    · have e : atomP t S = { S with ts := S.ts ++ [t], an := S.an ++ [(t, (S.ts.length : Int))] } := by unfold atomP; rw [hx]
      rw [e]
      have p1 : List.Perm ((x.st, O.list (S.ts.map V.str ++ [.str t])) :: (x.sy, .inst 162 (symF x.st x.sa x.jf x.sn)) :: (x.sa, oA) :: (x.jf, .list (arV S.fs)) :: (x.sn, oN) :: l) ((x.sa, oA) :: (x.sy, .inst 162 (symF x.st x.sa x.jf x.sn)) :: (x.st, O.list (S.ts.map V.str ++ [.str t])) :: (x.jf, .list (arV S.fs)) :: (x.sn, oN) :: l) :=
        (((List.Perm.swap _ _ _).trans (.cons _ (.swap _ _ _))).trans (.swap _ _ _))
      have l2 := (lg.perm p1).set1 o'
      have := l2.perm (((List.Perm.swap _ _ _)).trans (.cons _ (.swap _ _ _)))
      unfold syLed
      simpa using this
    · have e : (atomP t S).an = S.an ++ [(t, (S.ts.length : Int))] := by unfold atomP; rw [hx]
      rw [e]; simpa using hA'
    · have e : (atomP t S).fn = S.fn := by unfold atomP; rw [hx]
      rw [e]; exact hF
end
end P_S0
section P_S1
open PySem PySem.W PyProof.Rows
set_option Elab.async false
set_option maxRecDepth 100000
set_option linter.unusedVariables false
set_option linter.unusedSectionVars false
section
variable {K : Frag} {σ0 σ σ' : Hp} {l : List (Nat × O)} (E : Env K)
theorem Lg.comb {σ00 : Hp} {l l2 : List (Nat × O)} (h : Lg σ00 l σ) (h2 : Lg σ l2 σ') : Lg σ00 (l2 ++ l) σ' := by
  refine ⟨h.e.trans h2.e, ?_, ?_, ?_⟩
  · intro p hp
    rcases List.mem_append.mp hp with hp | hp
    · exact Nat.le_trans h.e.len (h2.lo p hp)
    · exact h.lo p hp
  · rw [List.map_append]
    refine List.nodup_append.mpr ⟨h2.nd, h.nd, ?_⟩
    intro a ha b hb e
    obtain ⟨p, hp, rfl⟩ := List.mem_map.mp ha
    obtain ⟨r, hr, rfl⟩ := List.mem_map.mp hb
    have h3 := h2.lo p hp
    have h4 := (List.getElem?_eq_some_iff.mp (h.at_ r hr)).1
    lia
  · intro p hp
    rcases List.mem_append.mp hp with hp | hp
    · exact h2.at_ p hp
    · exact h2.e _ _ (h.at_ p hp)
theorem W_getF {i : Nat} {o : O} {es : List (List Int × Int)} {a r d : Int} {Q : V → Hp → Prop} (e : σ[i]? = some o) (ho : DF o es) (h : Q (.int ((atK es [a, r]).getD d)) σ) : W (bGet [.ref i, .tup [.int a, .int r], .int d]) σ Q := by
  refine W_gt' e ?_
  rcases ho with ⟨rfl, rfl⟩ | rfl
  · exact W_ret h
  · refine W_ret ?_
    unfold fnV
    rw [atK_map]
    cases hx : atK es [a, r] with
    | none => rw [hx] at h; exact h
    | some v => rw [hx] at h; exact h
theorem W_setF {i : Nat} {o : O} {es : List (List Int × Int)} {a r v : Int} {Q : Unit → Hp → Prop} (e : σ[i]? = some o) (ho : DF o es) (hl : es.length ≤ LIM) (hn : atK es [a, r] = none) (q : ∀ o', DF o' (es ++ [([a, r], v)]) → Q () (σ.set i o')) : W (setItemV (.ref i) (.tup [.int a, .int r]) (.int v)) σ Q := by
  refine W_gt' e ?_
  rcases ho with ⟨rfl, rfl⟩ | rfl
  · exact ⟨_, _, rfl, q _ (.inr rfl)⟩
  · refine W_grd (Nat.ble_eq_true_of_le (by unfold fnV; simpa using hl)) ⟨_, _, rfl, q _ (.inr ?_)⟩
    have : atK (fnV es) [a, r] = none := by unfold fnV; rw [atK_map, hn]; rfl
    rw [atK_none_app this]
    unfold fnV; simp
noncomputable def functorP (a r : Int) (S : SS) : SS := match atK S.fn [a, r] with
  | some _ => S
  | none => { S with fs := S.fs ++ [(a, r)], fn := S.fn ++ [([a, r], (S.fs.length : Int))] }
theorem functorP_ok {S : SS} {N : Nat} {a r : Int} (hr : 0 ≤ r ∧ r < 2 ^ 59) (h : SOk S N) : SOk (functorP a r S) (N + 1) := by
  unfold functorP
  split
  · exact h.mono (by lia)
  · have := h.h3
    have := h.h4
    refine ⟨Nat.le_trans h.h1 (by lia), Nat.le_trans h.h2 (by lia), by simp; lia, by simp; lia, h.a, ?_, ?_⟩
    · intro p hp
      rcases List.mem_append.mp hp with hp | hp
      · obtain ⟨a', r', i, e, hi⟩ := h.f p hp
        refine ⟨a', r', i, e, ?_⟩
        have hi' := (List.getElem?_eq_some_iff.mp hi).1
        show (S.fs ++ [(a, r)])[i]? = _
        rw [List.getElem?_append_left hi']; exact hi
      · refine ⟨a, r, S.fs.length, List.mem_singleton.mp hp, ?_⟩
        show (S.fs ++ [(a, r)])[S.fs.length]? = _
        simp
    · intro p hp
      rcases List.mem_append.mp hp with hp | hp
      · exact h.r p hp
      · rw [List.mem_singleton.mp hp]; exact hr
theorem okF_of {S : SS} {N f : Nat} {a r : Int} (h : SOk S N) (hf : S.fs[f]? = some (a, r)) : okF S.fs f ∧ arOf S.fs f = r := by
  have e : arOf S.fs f = r := by unfold arOf; rw [hf]; rfl
  have hb := List.getElem?_eq_some_iff.mp hf
  have := h.r (a, r) (List.mem_of_getElem? hf)
  exact ⟨⟨hb.1, by rw [e]; exact this.1, by rw [e]; exact this.2⟩, e⟩
include E
theorem ct_functor {n N : Nat} {x : SX} {S : SS} {a r : Int} {Q : V → Hp → Prop} (hN : N ≤ 1000) (hr : 0 ≤ r ∧ r < 2 ^ 59) (h : SyH σ0 x l S N σ) (q : ∀ (f : Nat) σ', SyH σ0 x l (functorP a r S) (N + 1) σ' → (functorP a r S).fs[f]? = some (a, r) → Q (.int (f : Int)) σ') : W (callN K (n + 1) 110 [.ref x.sy, .int a, .int r]) σ Q := by
  have ok := h.ok
  have h3 := ok.h3
  have h4 := ok.h4
  obtain ⟨oA, oN, lg, hA, hF⟩ := h.lg
  rw [E.e_Symbols_functor]; unfold B_Symbols_functor
  have hi := lg.at_ _ (.head _)
  walk_at "ww"
  refine W_attr (v := .ref x.sn) hi E.g_functor_numbers (by kernel_rfl) rfl ?_
  have ha : σ[x.sn]? = some oN := lg.at_ _ (.tail _ (.tail _ (.tail _ (.tail _ (.head _)))))
  walk_at "ww"
  refine W_methGet1 ha (by rcases hF with ⟨rfl, _⟩ | rfl <;> trivial) ?_
  walk_at "ww"
  refine W_bltGet (W_getF ha hF ?_)
  walk_at "ww"
  cases hx : atK S.fn [a, r] with
  | some i =>
    obtain ⟨a', r', f, e, hf⟩ := ok.f _ (atK_mem' hx)
    injection e with e1 e2
    injection e1 with e1 e3
    injection e3 with e3 _
    subst e1 e3
    have e2 : i = (f : Int) := e2
    subst e2
    have e : functorP a r S = S := by unfold functorP; rw [hx]
    refine W_ifT (decide_eq_true (by show (0 : Int) ≤ (f : Int); lia)) ?_
    walk_at "ww"
    exact q f _ (by rw [e]; exact ⟨h.lg, ok.mono (by lia)⟩) (by rw [e]; exact hf)
  | none =>
    refine W_ifN (by rfl) ?_
    walk_at "ww"
    refine W_attr (v := .ref x.jf) hi E.g_functors (by kernel_rfl) rfl ?_
    refine W_lenL (lg.at_ _ (.tail _ (.tail _ (.tail _ (.head _))))) (by unfold arV LIM; simp; lia) ?_
    walk_at "ww"
    refine W_attr (v := .ref x.jf) hi E.g_functors (by kernel_rfl) rfl ?_
    walk_at "ww"
    refine W_methAppend (lg.at_ _ (.tail _ (.tail _ (.tail _ (.head _))))) ?_
    walk_at "ww"
    refine W_bltAppend (L_append_at sy_p4 (by unfold arV LIM; simp; lia) lg fun σ1 lg => ?_)
    walk_at "ww"
    refine W_attr (v := .ref x.sn) (lg.at_ _ (.tail _ (.head _))) E.g_functor_numbers (by kernel_rfl) rfl ?_
    walk_at "ww"
    refine W_setF (lg.at_ _ (.tail _ (.tail _ (.tail _ (.tail _ (.head _)))))) hF (by unfold LIM; lia) hx fun o' hF' => ?_
    walk_at "ww"
    have el : (arV S.fs).length = S.fs.length := by unfold arV; simp
    rw [el] at hF' ⊢
    have e : functorP a r S = { S with fs := S.fs ++ [(a, r)], fn := S.fn ++ [([a, r], (S.fs.length : Int))] } := by unfold functorP; rw [hx]
    refine q S.fs.length _ ⟨⟨oA, o', ?_, ?_, ?_⟩, functorP_ok hr ok⟩ ?_
    · rw [e]
      have p1 : List.Perm ((x.jf, O.list (arV S.fs ++ [.tup [.int a, .int r]])) :: (x.sy, .inst 162 (symF x.st x.sa x.jf x.sn)) :: (x.st, O.list (S.ts.map V.str)) :: (x.sa, oA) :: (x.sn, oN) :: l) ((x.sn, oN) :: (x.sy, .inst 162 (symF x.st x.sa x.jf x.sn)) :: (x.st, O.list (S.ts.map V.str)) :: (x.sa, oA) :: (x.jf, O.list (arV S.fs ++ [.tup [.int a, .int r]])) :: l) := by
        refine (List.Perm.swap _ _ _).trans ((List.Perm.cons _ ((List.Perm.swap _ _ _).trans (.cons _ ((List.Perm.swap _ _ _).trans (.cons _ (.swap _ _ _)))))).trans ?_)
        exact (List.Perm.cons _ ((List.Perm.cons _ (.swap _ _ _)).trans (.swap _ _ _))).trans (.swap _ _ _)
      have l2 := (lg.perm p1).set1 o'
      have l3 := l2.perm (l' := (x.sy, .inst 162 (symF x.st x.sa x.jf x.sn)) :: (x.st, O.list (S.ts.map V.str)) :: (x.sa, oA) :: (x.jf, O.list (arV S.fs ++ [.tup [.int a, .int r]])) :: (x.sn, o') :: l)
        ((List.Perm.swap _ _ _).trans (.cons _ ((List.Perm.swap _ _ _).trans (.cons _ ((List.Perm.swap _ _ _).trans (.cons _ (.swap _ _ _)))))))
      unfold syLed
      have ea : arV (S.fs ++ [(a, r)]) = arV S.fs ++ [.tup [.int a, .int r]] := by unfold arV; simp
      show Lg σ0 ((x.sy, .inst 162 (symF x.st x.sa x.jf x.sn)) :: (x.st, O.list (S.ts.map V.str)) :: (x.sa, oA) :: (x.jf, O.list (arV (S.fs ++ [(a, r)]))) :: (x.sn, o') :: l) _
      rw [ea]; exact l3
    · rw [e]; exact hA
    · rw [e]; exact hF'
    · rw [e]; simp
theorem ct_func {n N : Nat} {x : SX} {S : SS} {t : Str} {r : Int} {Q : V → Hp → Prop} (hN : N ≤ 900) (hr : 0 ≤ r ∧ r < 2 ^ 59) (h : SyH σ0 x l S N σ) (q : ∀ (S' : SS) (f : Nat) σ', SyH σ0 x l S' (N + 2) σ' → okF S'.fs f → arOf S'.fs f = r → Q (.int (f : Int)) σ') : W (callN K (n + 2) 117 [.ref x.sy, .str t, .int r]) σ Q := by
  rw [E.e_Symbols_func]; unfold B_Symbols_func
  obtain ⟨oA, oN, lg, hA, hF⟩ := h.lg
  have hi := lg.at_ _ (.head _)
  walk_at "ww"
  refine W_meth hi E.m_functor (by kernel_rfl) ?_
  walk_at "ww"
  refine W_meth hi E.m_atom (by kernel_rfl) ?_
  walk_at "ww"
  refine W_own E.k_96 (ct_atom E (by lia) h fun a σ1 h => ?_)
  walk_at "ww"
  refine W_own E.k_110 (ct_functor E (by lia) hr h fun f σ2 h hf => ?_)
  walk_at "ww"
  have := okF_of h.ok hf
  exact q _ f _ h this.1 this.2
end
end P_S1
section P_S2
open PySem PySem.W PyProof.Rows
set_option Elab.async false
set_option maxRecDepth 100000
set_option linter.unusedVariables false
set_option linter.unusedSectionVars false
noncomputable def atomsL : List Str := ["[]", ".", "{}", "-", "+", "*", "/", ",", "|", ";", "->", "\\+", ":-", "?-", "-->", "!", "true", "fail", "false", "call", "=", "^", "error", "", "end_of_file", "system", "$VAR", "catch", "throw"]
noncomputable def functL : List (Str × Int) := [(".", 2), (",", 2), (";", 2), ("->", 2), ("\\+", 1), (":-", 2), (":-", 1), ("?-", 1), ("-->", 2), ("{}", 1), ("=", 2), ("^", 2), ("-", 1), ("-", 2), ("+", 2), ("/", 2), ("error", 2), ("$VAR", 1), ("catch", 3), ("throw", 1), ("!", 0), ("true", 0), ("fail", 0), ("false", 0), ("call", 1), ("call", 2), ("call", 3), ("call", 4), ("call", 5), ("call", 6), ("call", 7), ("call", 8)]
section
variable {K : Frag} {σ0 σ σ' : Hp} {l : List (Nat × O)} (E : Env K)
theorem lk_put_hit {k : Str} {v : V} : ∀ {m : Loc}, lk (put m k v) k = some v
  | [] => lk_hit
  | p :: r => by
    show lk (match p.1 == k with | true => (k, v) :: r | false => p :: put r k v) k = _
    cases h : p.1 == k
    · obtain ⟨a, b⟩ := p; exact lk_miss h lk_put_hit
    · exact lk_hit
theorem lk_put_miss {k k' : Str} {v : V} (hn : (k == k') = false) : ∀ {m : Loc}, lk (put m k v) k' = lk m k'
  | [] => lk_miss hn rfl
  | p :: r => by
    obtain ⟨a, b⟩ := p
    show lk (match a == k with | true => (k, v) :: r | false => (a, b) :: put r k v) k' = _
    cases h : a == k
    · show (match a == k' with | true => some b | false => lk (put r k v) k') = (match a == k' with | true => some b | false => lk r k')
      rw [lk_put_miss hn]
    · have e : a = k := eq_of_beq h
      subst e
      show (match a == k' with | true => some v | false => lk r k') = (match a == k' with | true => some b | false => lk r k')
      rw [hn]
theorem next_items {v : V} {xs : List V} : nextI (.items (v :: xs)) σ = some (some (v, .items xs), σ) := rfl
theorem next_itemsE : nextI (.items []) σ = some (none, σ) := rfl
theorem W_iterT {xs : List V} {Q : It → Hp → Prop} (h : Q (.items xs) σ) : W (iterV (.tup xs)) σ Q := W_ret h
include E
theorem ct_atoms {n : Nat} {Q : V → Hp → Prop} (q : Q (.tup (atomsL.map V.str)) σ) : W (callN K (n + 1) 68 []) σ Q := by
  rw [E.e_fixed_atoms]
  exact ⟨_, σ, by kernel_rfl, q⟩
theorem ct_functors {n : Nat} {Q : V → Hp → Prop} (q : Q (.tup (functL.map fun p => .tup [.str p.1, .int p.2])) σ) : W (callN K (n + 1) 75 []) σ Q := by
  rw [E.e_fixed_functors]
  exact ⟨_, σ, by kernel_rfl, q⟩
noncomputable abbrev iniA (K : Frag) (C : Or) : XsT := B_Symbols_init_1 K C
noncomputable abbrev iniF (K : Frag) (C : Or) : XsT := B_Symbols_init_2 K C
theorem ini_loop1 {n : Nat} {x : SX} {Q : Fl × Loc → Hp → Prop} : ∀ (ts : List Str) (N fuel : Nat) (m : Loc) (S : SS) (σ : Hp), ts.length < fuel → N + ts.length ≤ 900 → lk m "self" = some (.ref x.sy) → SyH σ0 x l S N σ →
    (∀ m S σ', lk m "self" = some (.ref x.sy) → SyH σ0 x l S (N + ts.length) σ' → Q (.next, m) σ') → W (forV "text" (iniA K (callN K (n + 1))) fuel (.items (ts.map V.str)) m) σ Q
  | [], N, fuel, m, S, σ, hf, hN, hm, h, q => by
    obtain ⟨fuel, rfl⟩ : ∃ f, fuel = f + 1 := ⟨fuel - 1, by simp at hf; lia⟩
    exact W_forEnd next_itemsE (q _ _ _ hm h)
  | t :: ts, N, fuel, m, S, σ, hf, hN, hm, h, q => by
    obtain ⟨fuel, rfl⟩ : ∃ f, fuel = f + 1 := ⟨fuel - 1, by simp at hf; lia⟩
    refine W_for next_items ?_
    have hm1 : lk (put m "text" (.str t)) "self" = some (.ref x.sy) := by rw [lk_put_miss (by decide +kernel)]; exact hm
    have hm2 : lk (put m "text" (.str t)) "text" = some (.str t) := lk_put_hit
    revert hm1 hm2
    generalize put m "text" (.str t) = m'
    intro hm1 hm2
    unfold iniA
    walk_at "ww"
    refine W_ofO hm1 ?_
    walk_at "ww"
    obtain ⟨oA, oN, lg, hA, hF⟩ := h.lg
    refine W_meth (lg.at_ _ (.head _)) E.m_atom (by kernel_rfl) ?_
    walk_at "ww"
    refine W_ofO hm2 ?_
    refine W_own E.k_96 (ct_atom E (by simp at hN; lia) h fun a σ1 h => ?_)
    walk_at "ww"
    refine ini_loop1 ts (N + 1) fuel m' _ σ1 (by simp at hf; lia) (by simp at hN; lia) hm1 h ?_
    intro m S σ' hm h
    refine q m S σ' hm ?_
    have e : N + (t :: ts).length = N + 1 + ts.length := by simp; lia
    rw [e]; exact h
theorem ini_loop2 {n : Nat} {x : SX} {Q : Fl × Loc → Hp → Prop} : ∀ (ts : List (Str × Int)) (N fuel : Nat) (m : Loc) (S : SS) (σ : Hp), (∀ p ∈ ts, 0 ≤ p.2 ∧ p.2 < 2 ^ 59) → ts.length < fuel → N + 2 * ts.length ≤ 900 → lk m "self" = some (.ref x.sy) → SyH σ0 x l S N σ →
    (∀ m S σ', lk m "self" = some (.ref x.sy) → SyH σ0 x l S (N + 2 * ts.length) σ' → Q (.next, m) σ') → W (forV "row" (iniF K (callN K (n + 2))) fuel (.items (ts.map fun p => .tup [.str p.1, .int p.2])) m) σ Q
  | [], N, fuel, m, S, σ, hp, hf, hN, hm, h, q => by
    obtain ⟨fuel, rfl⟩ : ∃ f, fuel = f + 1 := ⟨fuel - 1, by simp at hf; lia⟩
    exact W_forEnd next_itemsE (q _ _ _ hm h)
  | t :: ts, N, fuel, m, S, σ, hp, hf, hN, hm, h, q => by
    obtain ⟨fuel, rfl⟩ : ∃ f, fuel = f + 1 := ⟨fuel - 1, by simp at hf; lia⟩
    refine W_for next_items ?_
    have hm1 : lk (put m "row" (.tup [.str t.1, .int t.2])) "self" = some (.ref x.sy) := by rw [lk_put_miss (by decide +kernel)]; exact hm
    have hm2 : lk (put m "row" (.tup [.str t.1, .int t.2])) "row" = some (.tup [.str t.1, .int t.2]) := lk_put_hit
    revert hm1 hm2
    generalize put m "row" (.tup [.str t.1, .int t.2]) = m'
    intro hm1 hm2
    unfold iniF
    walk_at "ww"
    refine W_ofO hm1 ?_
    walk_at "ww"
    obtain ⟨oA, oN, lg, hA, hF⟩ := h.lg
    refine W_meth (lg.at_ _ (.head _)) E.m_func (by kernel_rfl) ?_
    walk_at "ww"
    refine W_ofO hm2 ?_
    walk_at "ww"
    refine W_ofO hm2 ?_
    walk_at "ww"
    refine W_own E.k_117 (ct_func E (by simp at hN; lia) (hp t (.head _)) h fun S' f σ1 h zz zz => ?_)
    walk_at "ww"
    refine ini_loop2 ts (N + 2) fuel m' _ σ1 (fun p hp' => hp p (.tail _ hp')) (by simp at hf; lia) (by simp at hN; lia) hm1 h ?_
    intro m S σ' hm h
    refine q m S σ' hm ?_
    have e : N + 2 * (t :: ts).length = N + 2 + 2 * ts.length := by simp; lia
    rw [e]; exact h
theorem ct_symbols {n : Nat} {Q : V → Hp → Prop} (q : ∀ x S σ', SyH σ x [] S 200 σ' → Q (.ref x.sy) σ') : W (callN K (n + 4) 162 []) σ Q := by
  rw [E.c_Symbols]
  refine W_bnd (L_nw (Lg.nil σ) fun i σ1 h => W_bnd ?_)
  rw [E.e_Symbols_init]; unfold B_Symbols_init
  walk_at "ww"
  refine W_newL (by simp) (L_nw h fun jt σ2 h => ?_)
  walk_at "ww"
  refine L_set E.s_texts (h.perm (.swap _ _ _)) (by walk_at "put") (by simp) fun σ2 h => ?_
  walk_at "ww"
  refine L_nw h fun ja σ2 h => ?_
  walk_at "ww"
  refine L_set E.s_atom_numbers (h.perm (.swap _ _ _)) (by walk_at "put") (by simp) fun σ2 h => ?_
  walk_at "ww"
  refine W_newL (by simp) (L_nw h fun jf σ2 h => ?_)
  walk_at "ww"
  refine L_set E.s_functors (h.perm (.swap _ _ _)) (by walk_at "put") (by simp) fun σ2 h => ?_
  walk_at "ww"
  refine L_nw h fun jn σ2 h => ?_
  walk_at "ww"
  refine L_set E.s_functor_numbers (h.perm (.swap _ _ _)) (by walk_at "put") (by simp) fun σ2 h => ?_
  walk_at "ww"
  have h0 : SyH σ ⟨i, jt, ja, jf, jn⟩ [] ⟨[], [], [], []⟩ 0 σ2 := by
    refine ⟨⟨.dnew, .dnew, h.perm ?_, .inl ⟨rfl, rfl⟩, .inl ⟨rfl, rfl⟩⟩, ⟨by simp, by simp, by simp, by simp, by simp, by simp, by simp⟩⟩
    refine List.Perm.cons _ ?_
    exact (List.reverse_perm [(jt, O.list []), (ja, O.dnew), (jf, O.list []), (jn, O.dnew)])
  refine ct_atoms E ?_
  walk_at "ww"
  refine W_iterT ?_
  refine ini_loop1 E (x := ⟨i, jt, ja, jf, jn⟩) atomsL 0 4096 _ _ _ (by decide +kernel) (by decide +kernel) (by walk_at "lk") h0 ?_
  intro m S σ3 hm h
  refine SQ_n ?_
  walk_at "ww"
  refine ct_functors E ?_
  walk_at "ww"
  refine W_iterT ?_
  refine ini_loop2 E (x := ⟨i, jt, ja, jf, jn⟩) functL _ 4096 _ _ _ (by decide +kernel) (by decide +kernel) (by decide +kernel) hm h ?_
  intro m S σ3 hm h
  refine SQ_n ?_
  walk_at "ww"
  refine W_ret ?_
  refine q ⟨i, jt, ja, jf, jn⟩ S _ ⟨h.lg, h.ok.mono (by decide +kernel)⟩
end
end P_S2
section P_GA
open PySem PySem.W PyProof.Rows
set_option Elab.async false
set_option genSizeOf false
set_option maxRecDepth 100000
set_option linter.unusedVariables false
set_option linter.unusedSectionVars false
section
variable {K : Frag} {σ0 σ σ' : Hp} {l l' : List (Nat × O)} (E : Env K)
/-! ## the law's objects: the symbols, the law's own (e), others (l) -/
structure H (x : SX) (S : SS) (N : Nat) (e : List (Nat × O) → Prop) (l : List (Nat × O)) (σ : Hp) : Prop where
  h : ∃ l0, e l0 ∧ SyH [] x (l0 ++ l) S N σ
variable {x : SX} {S : SS} {N : Nat} {e : List (Nat × O) → Prop}
theorem H.upd (h : H x S N e l σ) : ∃ r, Lg [] (l ++ r) σ ∧ (∃ l0 r', e l0 ∧ r = r' ++ l0) ∧ ∀ l' σ', Lg [] (l' ++ r) σ' → H x S N e l' σ' := by
  obtain ⟨l0, he, ⟨oA, oN, lg, hA, hF⟩, ok⟩ := h.h
  refine ⟨syLed x S oA oN [] ++ l0, lg.perm ?_, ⟨l0, _, he, rfl⟩, fun l' σ' lg => ⟨l0, he, ⟨oA, oN, lg.perm ?_, hA, hF⟩, ok⟩⟩
  · show List.Perm (syLed x S oA oN [] ++ (l0 ++ l)) _
    rw [← List.append_assoc]; exact List.perm_append_comm
  · show List.Perm _ (syLed x S oA oN [] ++ (l0 ++ l'))
    exact List.perm_append_comm.trans (by rw [List.append_assoc])
theorem H.sub (h : H x S N e l σ) (p : l'.Sublist l) : H x S N e l' σ := by
  obtain ⟨r, a, _, b⟩ := h.upd; exact b _ _ (a.sub (p.append_right r))
theorem H.drop {p : Nat × O} (h : H x S N e (p :: l) σ) : H x S N e l σ := h.sub (.cons _ (List.Sublist.refl _))
theorem H.at_ (h : H x S N e l σ) {p : Nat × O} (hp : p ∈ l) : σ[p.1]? = some p.2 := by
  obtain ⟨r, a, _, b⟩ := h.upd; exact a.at_ p (List.mem_append_left _ hp)
theorem H.ext (h : H x S N e l σ) (g : Ext σ σ') : H x S N e l σ' := by
  obtain ⟨r, a, _, b⟩ := h.upd; exact b _ _ (a.ext g)
theorem H.set1 {a : Nat} {o : O} (h : H x S N e ((a, o) :: l) σ) (o' : O) : H x S N e ((a, o') :: l) (σ.set a o') := by
  obtain ⟨r, lg, _, b⟩ := h.upd; exact b _ _ (Lg.set1 (l := l ++ r) lg o')
theorem H.own (h : H x S N e l σ) : ∃ l0 r, e l0 ∧ Lg [] (l0 ++ r) σ ∧ ∀ l1 σ', e l1 → Lg [] (l1 ++ r) σ' → H x S N e l σ' := by
  obtain ⟨l0, he, ⟨oA, oN, lg, hA, hF⟩, ok⟩ := h.h
  refine ⟨l0, syLed x S oA oN [] ++ l, he, lg.perm ?_, fun l1 σ' he lg => ⟨l1, he, ⟨oA, oN, lg.perm ?_, hA, hF⟩, ok⟩⟩
  · show List.Perm (syLed x S oA oN [] ++ (l0 ++ l)) _
    exact List.perm_append_comm_assoc _ _ _
  · show List.Perm _ (syLed x S oA oN [] ++ (l1 ++ l))
    exact List.perm_append_comm_assoc _ _ _
theorem H.start {l0 : List (Nat × O)} (he : e l0) (lg : Lg [] l0 σ) (h : SyH σ x [] S N σ') : H x S N e [] σ' := by
  obtain ⟨⟨oA, oN, lg2, hA, hF⟩, ok⟩ := h
  refine ⟨l0, he, ⟨oA, oN, ?_, hA, hF⟩, ok⟩
  have := lg.comb lg2
  rw [List.append_nil]; exact this
theorem H_nw {o : O} {Q : V → Hp → Prop} (h : H x S N e l σ) (q : ∀ i σ', H x S N e ((i, o) :: l) σ' → Q (.ref i) σ') : W (nw o) σ Q := by
  obtain ⟨r, lg, _, b⟩ := h.upd
  exact ⟨_, _, rfl, q _ _ (b _ _ (lg.nw o))⟩
theorem H_newL {xs : List V} {Q : V → Hp → Prop} (hl : xs.length ≤ 1000) (h : H x S N e l σ) (q : ∀ i σ', H x S N e ((i, .list xs) :: l) σ' → Q (.ref i) σ') : W (newL xs) σ Q := W_newL (by unfold LIM; lia) (H_nw h q)
theorem H_append {a : Nat} {xs : List V} {v : V} {Q : V → Hp → Prop} (hl : xs.length ≤ 1000) (h : H x S N e ((a, .list xs) :: l) σ) (q : ∀ σ', H x S N e ((a, .list (xs ++ [v])) :: l) σ' → Q .none σ') : W (bAppend [.ref a, v]) σ Q := by
  show W (bnd (gtL a) fun xs => grd (okLen xs.length) (bnd (st a (.list (xs ++ [v]))) fun zz => ret .none)) σ Q
  refine W_bnd (W_gtL (h.at_ (.head _)) (W_grd (Nat.ble_eq_true_of_le (by unfold LIM; lia)) (W_bnd ⟨_, _, rfl, W_ret (q _ (h.set1 _))⟩)))
theorem H_add {i j : Nat} {xs ys : List V} {Q : V → Hp → Prop} (hi : σ[i]? = some (.list xs)) (hj : σ[j]? = some (.list ys)) (hl : xs.length + ys.length ≤ 1000) (h : H x S N e l σ) (q : ∀ k σ', H x S N e ((k, .list (xs ++ ys)) :: l) σ' → Q (.ref k) σ') : W (binV .Add (.ref i) (.ref j)) σ Q := by
  show W (bnd (gtL i) fun xs => bnd (gtL j) fun ys => newL (xs ++ ys)) σ Q
  refine W_bnd (W_gtL hi (W_bnd (W_gtL hj (H_newL ?_ h q))))
  rw [List.length_append]; exact hl
include E
theorem H_func {n : Nat} {t : Str} {r : Int} {Q : V → Hp → Prop} (hN : N ≤ 900) (hr : 0 ≤ r ∧ r < 2 ^ 59) (h : H x S N e l σ) (q : ∀ (S' : SS) (f : Nat) σ', H x S' (N + 2) e l σ' → okF S'.fs f → arOf S'.fs f = r → Q (.int (f : Int)) σ') : W (callN K (n + 2) 117 [.ref x.sy, .str t, .int r]) σ Q := by
  obtain ⟨l0, he, hs⟩ := h.h
  exact ct_func E hN hr hs fun S' f σ' h => q S' f σ' ⟨l0, he, h⟩
theorem H_m_func {Q : Fn → Hp → Prop} (h : H x S N e l σ) (q : Q (.own 117) σ) : W (methOf K (.ref x.sy) "func") σ Q := by
  obtain ⟨l0, he, ⟨oA, oN, lg, hA, hF⟩, ok⟩ := h.h
  exact W_meth (lg.at_ _ (.head _)) E.m_func (by kernel_rfl) q
theorem H_fault {n r wide : Nat} {wi : Int} {rows : List Ins} {Q : V → Hp → Prop} (ew : wi = (wide : Int)) (hN : N ≤ 1000) (h : H x S N e l σ) (hr : σ[r]? = some (.list (rows.map Ins.v))) (hok : ∀ i ∈ rows, okIns S.fs i) (hw : wide + 2 * rows.length ≤ 60)
    (q : ∀ σ', H x S N e l σ' → Ext σ σ' → Q (.str (cfault S.fs wide rows).text) σ') : W (callN K (n + 7) 369 [.ref x.sy, .int wi, .ref r]) σ Q := by
  subst ew
  obtain ⟨l0, he, ⟨oA, oN, lg, hA, hF⟩, ok⟩ := h.h
  have h3 := ok.h3
  refine ct_fault E (lg.at_ _ (.head _)) (lg.at_ _ (.tail _ (.tail _ (.tail _ (.head _))))) (by lia) hr hok hw fun σ' g => q σ' (h.ext g) g
omit E
/-! ## locals that are not written out -/
theorem lk_putm {k k' : Str} {v : V} {m : Loc} {o : Option V} (hn : (k == k') = false) (h : lk m k' = o) : lk (put m k v) k' = o := (lk_put_miss hn).trans h
/-- a list of ints, by a figure -/
theorem W_pickI {i : Nat} {v : Int} {xs : List Int} {Q : V → Hp → Prop} (hl : xs.length ≤ 1000) (e : σ[i]? = some (.list (xs.map V.int))) (h0 : 0 ≤ v) (h1 : v < xs.length) (q : ∀ a ∈ xs, Q (.int a) σ) : W (itemV (.ref i) (.int v)) σ Q := by
  obtain ⟨k, rfl⟩ := Int.eq_ofNat_of_zero_le h0
  have hk : k < xs.length := by lia
  refine W_itemL (v := .int xs[k]) e (by lia) ?_ (q _ (List.getElem_mem hk))
  rw [List.getElem?_map, List.getElem?_eq_getElem hk]; rfl
end
end P_GA
section P_LA1
open PySem PySem.W PyProof.Rows
set_option Elab.async false
set_option maxRecDepth 100000
set_option linter.unusedVariables false
set_option linter.unusedSectionVars false
set_option linter.unusedSimpArgs false
/-! ## law 1 in plain words -/
theorem ne_empty {a : Str} (h : 1 ≤ a.length) : (a == ("" : Str)) = false := by
  cases e : a == ("" : Str)
  · rfl
  · have := eq_of_beq e
    rw [this] at h
    exact absurd h (by decide +kernel)
noncomputable def argT (q : Int) : Str := "argument " ++ ntext q ++ " is lacking"
theorem argT_ne (q : Int) : (argT q == ("" : Str)) = false := by
  refine ne_empty ?_
  unfold argT
  rw [app_len, app_len]
  have : (Str.ofString "argument ").length = 9 := by decide +kernel
  lia
noncomputable def put5 (a : Int) : Ins := .op (.putCon 5 4 a)
noncomputable def c1 (xs : List Int) (s : Int) : CS := ⟨xs, [], s, 0, .n, 0, false, ""⟩
set_option tactic.hygienic true in
theorem mem_ins {xs : List Int} {a b : Int} : b ∈ ins xs a ↔ b ∈ xs ∨ b = a := by
  unfold ins
  split
  · rename_i h
    constructor
    · exact .inl
    · rintro (h' | rfl)
      · exact h'
      · exact h
  · simp
noncomputable def rows1 (way : Nat) (f : Nat) (ats : List Int) : List Ins := match way with
  | 0 => .op (.alloc 1) :: (ats.map put5 ++ [.op (.call f 1), .op .deall, .op .proceed])
  | 1 => ats.map put5 ++ [.op (.builtin f), .op .proceed]
  | _ => ats.map put5 ++ [.op (.exec f)]
/-! registers -/
end P_LA1
section P_LB0
open PySem PySem.W PyProof.Rows
set_option Elab.async false
set_option maxRecDepth 100000
set_option linter.unusedVariables false
set_option linter.unusedSectionVars false
section
/-! ## splitting a text -/
theorem app_c_inj {c : Nat} : ∀ {a b X Y : List Nat}, c ∉ a → c ∉ b → a ++ c :: X = b ++ c :: Y → a = b ∧ X = Y
  | [], [], X, Y, _, _, h => ⟨rfl, (List.cons.inj h).2⟩
  | [], b :: bs, X, Y, _, hb, h => absurd (List.cons.inj h).1 (fun e => hb (e ▸ .head _))
  | a :: as, [], X, Y, ha, _, h => absurd (List.cons.inj h).1 (fun e => ha (e ▸ .head _))
  | a :: as, b :: bs, X, Y, ha, hb, h => by
    obtain ⟨e, h⟩ := List.cons.inj h
    obtain ⟨e1, e2⟩ := app_c_inj (fun h => ha (.tail _ h)) (fun h => hb (.tail _ h)) h
    exact ⟨by rw [e, e1], e2⟩
noncomputable def chars (s : Str) : List Nat := s.cps.toList
theorem chars_app {a b : Str} : chars (a ++ b) = chars a ++ chars b := by
  show (a.cps ++ b.cps).toList = _
  exact Array.toList_append
theorem chars_inj {a b : Str} (h : chars a = chars b) : a = b := Str.ext' (Array.toList_inj.mp h)
theorem split_uniq {c : Nat} : ∀ {p q : List Str}, p ≠ [] → q ≠ [] → (∀ s ∈ p, c ∉ chars s) → (∀ s ∈ q, c ∉ chars s) → Str.join ⟨#[c]⟩ p = Str.join ⟨#[c]⟩ q → p = q
  | [], _, h, _, _, _, _ => absurd rfl h
  | _, [], _, h, _, _, _ => absurd rfl h
  | [a], [b], _, _, _, _, e => by rw [show a = b from e]
  | [a], b :: b' :: r, _, _, ha, _, e => by
    have e : a = b ++ ⟨#[c]⟩ ++ Str.join ⟨#[c]⟩ (b' :: r) := e
    refine absurd ?_ (ha a (.head _))
    rw [e, chars_app, chars_app]
    exact List.mem_append_left _ (List.mem_append_right _ (.head _))
  | a :: a' :: r, [b], _, _, _, hb, e => by
    have e : a ++ ⟨#[c]⟩ ++ Str.join ⟨#[c]⟩ (a' :: r) = b := e
    refine absurd ?_ (hb b (.head _))
    rw [← e, chars_app, chars_app]
    exact List.mem_append_left _ (List.mem_append_right _ (.head _))
  | a :: a' :: r, b :: b' :: r', _, _, ha, hb, e => by
    have e : a ++ ⟨#[c]⟩ ++ Str.join ⟨#[c]⟩ (a' :: r) = b ++ ⟨#[c]⟩ ++ Str.join ⟨#[c]⟩ (b' :: r') := e
    have e' := congrArg chars e
    rw [chars_app, chars_app, chars_app, chars_app, List.append_assoc, List.append_assoc] at e'
    obtain ⟨e1, e2⟩ := app_c_inj (ha a (.head _)) (hb b (.head _)) e'
    have := split_uniq (p := a' :: r) (q := b' :: r') (by simp) (by simp) (fun s h => ha s (.tail _ h)) (fun s h => hb s (.tail _ h)) (chars_inj e2)
    rw [chars_inj e1, this]
theorem split_ne {x y : Str} : Txt.split x y ≠ [] := by
  have := PyProof.Rows.split_pos x y
  intro e; rw [e] at this; simp at this
theorem join_cons {y a : Str} {l : List Str} (h : l ≠ []) : Str.join y (a :: l) = a ++ y ++ Str.join y l := by
  cases l with
  | nil => exact absurd rfl h
  | cons b r => rfl
theorem split_cons {c : Nat} {B rest : Str} (hB : c ∉ chars B) : Txt.split (B ++ ⟨#[c]⟩ ++ rest) ⟨#[c]⟩ = B :: Txt.split rest ⟨#[c]⟩ := by
  refine split_uniq split_ne (by simp) (StrLaws.split_free _ c) ?_ ?_
  · intro s hs
    rcases List.mem_cons.mp hs with rfl | hs
    · exact hB
    · exact StrLaws.split_free _ c s hs
  · rw [StrLaws.join_split, join_cons split_ne, StrLaws.join_split]
theorem txtJoin (y : Str) (l : List Str) : Txt.join y l = Str.join y l := StrLaws.glued_eq_join y l
theorem sp_eq : (" " : Str) = ⟨#[32]⟩ := by decide +kernel
theorem co_eq : (":" : Str) = ⟨#[58]⟩ := by decide +kernel
theorem chars_chS (l : List Char) : chars (chS l) = l.map Char.toNat := by
  show ((l.map Char.toNat).toArray).toList = _
  simp
theorem digit_range {n : Nat} {a : Nat} (h : a ∈ chars (ntext (n : Int))) : 48 ≤ a ∧ a ≤ 57 := by
  rw [ntext_nat, chars_chS] at h
  obtain ⟨ch, hc, rfl⟩ := List.mem_map.mp h
  have := Nat.isDigit_of_mem_toDigits (b := 10) (n := n) (c := ch) (by lia) (by lia) hc
  unfold Char.isDigit at this
  simp at this
  obtain ⟨h1, h2⟩ := this
  have h1 : 48 ≤ ch.toNat := h1
  have h2 : ch.toNat ≤ 57 := h2
  exact ⟨h1, h2⟩
theorem digit_no {n c : Nat} (h : c < 48 ∨ 57 < c) : c ∉ chars (ntext (n : Int)) := fun hx => by
  have := digit_range hx; lia
theorem at_text {p : Nat} {t : Str} : Str.empty ++ txtI (p : Int) ++ ": " ++ t = ntext (p : Int) ++ ":" ++ " " ++ t := by
  have e : (": " : Str) = ":" ++ " " := by decide +kernel
  rw [Str.empty_append, e]
  show ntext (p : Int) ++ (":" ++ " ") ++ t = _
  rw [Str.append_assoc (ntext (p : Int)) ":" " "]
/-- the place that is told -/
theorem split_place {p : Nat} {t : Str} : (Txt.split (Str.empty ++ txtI (p : Int) ++ ": " ++ t) ":")[0]? = some (txtI (p : Int)) := by
  rw [at_text, Str.append_assoc, co_eq, split_cons (digit_no (by lia))]
  rfl
noncomputable def sw (b : Str) : Str := if b == "x3" then "x5" else if b == "x5" then "x3" else b
noncomputable def swH : List Str → List Str
  | b :: r => sw b :: r
  | [] => []
noncomputable def swD : List Str → List Str
  | a :: b :: r => a :: sw b :: r
  | l => l
noncomputable def swT (t : Str) : Str := Str.join " " (swH (Txt.split t " "))
theorem swT_cons {B rest : Str} (hB : 32 ∉ chars B) : swT (B ++ " " ++ rest) = sw B ++ " " ++ rest := by
  unfold swT
  rw [sp_eq, split_cons hB]
  show Str.join ⟨#[32]⟩ (sw B :: Txt.split rest ⟨#[32]⟩) = _
  rw [join_cons split_ne, StrLaws.join_split]
theorem swD_told {p : Nat} {t : Str} : Txt.join " " (swD (Txt.split (Str.empty ++ txtI (p : Int) ++ ": " ++ t) " ")) = Str.empty ++ txtI (p : Int) ++ ": " ++ swT t := by
  rw [at_text, at_text, txtJoin]
  have hB : 32 ∉ chars (ntext (p : Int) ++ ":") := by
    rw [chars_app, List.mem_append]
    rintro (h | h)
    · exact digit_no (by lia) h
    · exact absurd h (by decide +kernel)
  unfold swT
  rw [sp_eq, split_cons hB]
  cases h : Txt.split t ⟨#[32]⟩ with
  | nil => exact absurd h split_ne
  | cons b r =>
    show Str.join ⟨#[32]⟩ ((ntext (p : Int) ++ ":") :: sw b :: r) = _
    rw [join_cons (by simp)]
    rfl
theorem swD_empty : Txt.join " " (swD (Txt.split "" " ")) = "" := by
  have e : Txt.split "" " " = [("" : Str)] := by
    rw [sp_eq]
    refine split_uniq split_ne (by simp) (StrLaws.split_free _ 32) ?_ ?_
    · intro s hs
      rw [List.mem_singleton.mp hs]; decide +kernel
    · rw [StrLaws.join_split]; rfl
  rw [e]
  decide +kernel
/-- the number of a text -/
theorem numOf_txt {p : Nat} (h : p < 60) : numOf (txtI (p : Int)) = some (p : Int) := by
  have : ∀ p : Fin 60, numOf (txtI ((p.val : Nat) : Int)) = some ((p.val : Nat) : Int) := by decide +kernel
  exact this ⟨p, h⟩
end
end P_LB0
section P_LB1
open PySem PySem.W PyProof.Rows
set_option Elab.async false
set_option maxRecDepth 100000
set_option linter.unusedVariables false
set_option linter.unusedSectionVars false
section
/-! ## law 2 in plain words -/
variable {ar : List (Int × Int)}
theorem comp_none {t : Str} {c : CS} (ht : (t == ("" : Str)) = false) : ((comp t c).fault == ("" : Str)) = false := by
  unfold comp
  cases h : c.fault == ("" : Str)
  · rw [if_neg (by simp)]; exact h
  · rw [if_pos rfl]; exact ht
theorem comp_ended {t : Str} {c : CS} : (comp t c).ended = c.ended := by unfold comp; split <;> rfl
set_option tactic.hygienic true in
theorem turn_fail {c : CS} (h : ((turn ar (.op .fail) c).fault == ("" : Str)) = true) : (turn ar (.op .fail) c).ended = true := by
  unfold turn at h ⊢
  split
  · rename_i he
    rw [comp_ended]; exact he
  · rename_i he
    rw [if_neg he] at h
    unfold step at h ⊢
    dsimp only at h ⊢
    split
    · rename_i hd
      rw [if_pos hd, comp_none (by decide +kernel)] at h
      cases h
    · rfl
theorem isFail_eq' {i : Ins} (h : i.isFail = true) : i = .op .fail := by
  cases i with
  | arg u k => cases h
  | op o => cases o <;> first | rfl | cases h
noncomputable def okD (d : Bool) (c : CS) : Prop := d = true → c.ended = true
theorem okD_turn {i : Ins} {c : CS} (h : ((turn ar i c).fault == ("" : Str)) = true) : okD i.isFail (turn ar i c) := by
  intro hi
  have := isFail_eq' hi
  subst this
  exact turn_fail h
theorem cf_dead : ∀ (rows : List Ins) (p : Nat) (c : CS), cf ar p true c rows = if c.ended then .ok else .noend (p + rows.length)
  | [], p, c => rfl
  | i :: r, p, c => by
    rw [cf_t, cf_dead r]
    rw [List.length_cons, show p + 1 + r.length = p + (r.length + 1) by lia]
set_option tactic.hygienic true in
theorem cf_bd : ∀ (rows : List Ins) (p : Nat) (d : Bool) (c : CS), match cf ar p d c rows with | .ok => True | .noend q => q = p + rows.length | .bad q t => p ≤ q ∧ q < p + rows.length ∧ (t == ("" : Str)) = false
  | [], p, d, c => by
    rw [cf_nil]
    split
    · rename_i h; split at h <;> trivial
    · rename_i h
      split at h
      · cases h
      · cases h; rfl
    · rename_i h; split at h <;> cases h
  | i :: r, p, true, c => by
    rw [cf_t]
    have := cf_bd r (p + 1) true c
    revert this
    cases cf ar (p + 1) true c r <;> simp only [List.length_cons] <;> intro h
    all_goals first | trivial | exact ⟨by lia, by lia, h.2.2⟩ | lia
  | i :: r, p, false, c => by
    rw [cf_f]
    cases hf : (turn ar i c).fault == ("" : Str)
    · rw [if_neg (by simp)]
      exact ⟨Nat.le_refl _, by simp, hf⟩
    · rw [if_pos rfl]
      have := cf_bd r (p + 1) i.isFail (turn ar i c)
      revert this
      cases cf ar (p + 1) i.isFail (turn ar i c) r <;> simp only [List.length_cons] <;> intro h
      all_goals first | trivial | exact ⟨by lia, by lia, h.2.2⟩ | lia
theorem cf_bad_lt {rows : List Ins} {p q : Nat} {d : Bool} {c : CS} {t : Str} (h : cf ar p d c rows = .bad q t) : p ≤ q ∧ q < p + rows.length ∧ (t == ("" : Str)) = false := by
  have := cf_bd (ar := ar) rows p d c
  rw [h] at this; exact this
theorem cf_run : ∀ (n : Nat) (rows : List Ins) (p : Nat) (d : Bool) (c : CS), n ≤ rows.length → okD d c → (∀ q t, cf ar p d c rows = .bad q t → p + n ≤ q) →
    ∃ d' c', okD d' c' ∧ ∀ rest, cf ar p d c (rows.take n ++ rest) = cf ar (p + n) d' c' rest
  | 0, rows, p, d, c, _, hd, _ => ⟨d, c, hd, fun zz => rfl⟩
  | n + 1, [], _, _, _, h, _, _ => by simp at h
  | n + 1, i :: r, p, true, c, h, hd, hb => by
    obtain ⟨d', c', h1, h2⟩ := cf_run n r (p + 1) true c (by simpa using h) hd (fun q t e => by have := hb q t (cf_t.trans e); lia)
    refine ⟨d', c', h1, fun rest => ?_⟩
    rw [List.take_succ_cons, List.cons_append, cf_t, h2 rest, show p + 1 + n = p + (n + 1) by lia]
  | n + 1, i :: r, p, false, c, h, hd, hb => by
    cases hf : (turn ar i c).fault == ("" : Str)
    · have := hb p (turn ar i c).fault (by rw [cf_f, hf]; rfl)
      lia
    · obtain ⟨d', c', h1, h2⟩ := cf_run n r (p + 1) i.isFail (turn ar i c) (by simpa using h) (okD_turn hf) (fun q t e => by have := hb q t (by rw [cf_f, hf]; exact e); lia)
      refine ⟨d', c', h1, fun rest => ?_⟩
      rw [List.take_succ_cons, List.cons_append, cf_f, hf, if_pos rfl, h2 rest, show p + 1 + n = p + (n + 1) by lia]
noncomputable def Rs.pl (n : Nat) : Rs → Nat
  | .ok => n + 1
  | .noend p => p
  | .bad p _ => p
variable {rows : List Ins} {w : Nat}
theorem ok0 : okD false (cs0 w) := fun h => nomatch h
theorem l2_pl {p : Nat} (h : cfault ar w rows = .noend p) : p = rows.length := by
  have := cf_bd (ar := ar) rows 0 false (cs0 w)
  have h : cf ar 0 false (cs0 w) rows = .noend p := h
  rw [h] at this
  simpa using this
theorem l2_bad {p : Nat} {t : Str} (h : cfault ar w rows = .bad p t) : p < rows.length ∧ (t == ("" : Str)) = false := by
  have := cf_bad_lt h
  exact ⟨by lia, this.2.2⟩
/-- the rows up to the fault, whatever follows -/
theorem l2_cut {p : Nat} {t : Str} (h : cfault ar w rows = .bad p t) (tail : List Ins) : cfault ar w (rows.take (p + 1) ++ tail) = .bad p t := by
  obtain ⟨hp, ht⟩ := l2_bad h
  obtain ⟨d', c', h1, h2⟩ := cf_run (ar := ar) p rows 0 false (cs0 w) (by lia) ok0 (fun q s e => by
    have : Rs.bad q s = .bad p t := e.symm.trans h
    cases this; lia)
  rw [Nat.zero_add] at h2
  have e := h2 (rows.drop p)
  rw [List.take_append_drop] at e
  have e : cf ar p d' c' (rows.drop p) = .bad p t := e.symm.trans h
  have hdr : rows.drop p = rows[p] :: rows.drop (p + 1) := List.drop_eq_getElem_cons hp
  rw [hdr] at e
  have e3 : rows.take (p + 1) ++ tail = rows.take p ++ (rows[p] :: tail) := by
    rw [List.take_succ_eq_append_getElem hp, List.append_assoc]; rfl
  show cf ar 0 false (cs0 w) _ = _
  rw [e3, h2]
  cases d' with
  | true =>
    rw [cf_t, cf_dead] at e
    split at e <;> cases e
  | false =>
    rw [cf_f] at e ⊢
    cases hf : (turn ar rows[p] c').fault == ("" : Str)
    · rw [hf] at e; exact e
    · rw [hf, if_pos rfl] at e
      have := cf_bad_lt e
      lia
/-- the rows ahead of the place -/
theorem l2_ahead {a : Nat} (ha : a ≤ rows.length) (hp : a ≤ (cfault ar w rows).pl rows.length) :
    (cfault ar w (rows.take a) = .ok ∨ cfault ar w (rows.take a) = .noend a) ∧
    ∃ first, (first = Rs.ok ∨ ∃ t, first = .bad a t) ∧ cfault ar w (rows.take a ++ [.op .fail]) = first ∧ cfault ar w (rows.take a ++ [.op .fail] ++ rows.drop a) = first := by
  obtain ⟨d', c', h1, h2⟩ := cf_run (ar := ar) a rows 0 false (cs0 w) ha ok0 (fun q s e => by
    have e : cfault ar w rows = .bad q s := e
    rw [e] at hp
    have hp : a ≤ q := hp
    lia)
  rw [Nat.zero_add] at h2
  constructor
  · have := h2 []
    rw [List.append_nil, cf_nil] at this
    have this : cfault ar w (rows.take a) = _ := this
    rw [this]
    split
    · exact .inl rfl
    · exact .inr rfl
  · refine ⟨cf ar a d' c' [.op .fail], ?_, h2 _, ?_⟩
    · cases d' with
      | true => rw [cf_t, cf_nil, h1 rfl]; exact .inl rfl
      | false =>
        rw [cf_f]
        cases hf : (turn ar (.op .fail) c').fault == ("" : Str)
        · exact .inr ⟨_, rfl⟩
        · rw [if_pos rfl, cf_nil, turn_fail hf]; exact .inl rfl
    · rw [List.append_assoc]
      refine (h2 _).trans ?_
      show cf ar a d' c' (.op .fail :: rows.drop a) = _
      cases d' with
      | true => rw [cf_dead, cf_dead, h1 rfl]; rfl
      | false =>
        rw [cf_f, cf_f]
        cases hf : (turn ar (.op .fail) c').fault == ("" : Str)
        · rfl
        · rw [if_pos rfl, if_pos rfl]
          show cf ar (a + 1) true _ _ = cf ar (a + 1) true _ _
          rw [cf_dead, cf_dead, turn_fail hf]; rfl
end
end P_LB1
section P_LB2
open PySem PySem.W PyProof.Rows
set_option Elab.async false
set_option maxRecDepth 100000
set_option linter.unusedVariables false
set_option linter.unusedSectionVars false
section
/-! ## law 2: one argument more -/
variable {ar : List (Int × Int)}
noncomputable def noF (c : CS) : Prop := (c.fault == ("" : Str)) = true
theorem rtext_ne {r : Reg} {s : Str} (hs : 1 ≤ s.length) : (rtext r ++ s == ("" : Str)) = false := ne_empty (by rw [app_len]; lia)
theorem run_noF {m : M} {c : CS} (h : noF (m.run c)) : noF c := by
  have key : ∀ t, noF (comp t c) → noF c := by
    intro t h
    unfold noF comp at *
    split at h
    · assumption
    · exact h
  cases m <;> delta M.run at h <;> dsimp only at h
  · unfold cread at h
    repeat' split at h
    all_goals first | exact h | exact key _ h
  · unfold cwrite at h
    repeat' split at h
    all_goals first | exact h | exact key _ h
  · unfold copen at h
    dsimp only [noF] at h
    split at h
    · exact key _ h
    · exact h
  · exact h
  · unfold cargs at h
    split at h
    · exact h
    · exact key _ h
  · unfold ccall at h
    dsimp only [noF] at h
    repeat' split at h
    all_goals first | exact h | exact key _ h
  · unfold cleave at h
    split at h
    · exact key _ h
    · exact h
  · exact h
  · unfold calloc at h
    dsimp only [noF] at h
    split at h
    · exact key _ h
    · exact h
  · unfold cdeall at h
    dsimp only [noF] at h
    split at h
    · exact key _ h
    · exact h
  · unfold cdone csub at h
    split at h
    · exact key _ h
    · exact h
theorem runM_noF : ∀ (ms : List M) (c : CS), noF (runM ms c) → noF c
  | [], c, h => h
  | m :: r, c, h => run_noF (runM_noF r _ h)
theorem comp_noF {t : Str} {c : CS} (ht : (t == ("" : Str)) = false) (h : noF (comp t c)) : False := by
  unfold noF at h
  rw [comp_none ht] at h; cases h
/-- the same but for more registers -/
noncomputable def Mo1 (c c' : CS) : Prop := ∃ xs, c' = { c with xs := xs } ∧ ∀ k, k ∈ c.xs → k ∈ xs
set_option tactic.hygienic true in
theorem lackF_mono {xs xs' : List Int} {a : Int} (h : ∀ k, k ∈ xs → k ∈ xs') : ∀ (n : Nat) (p : Int), lackF xs a n p = none → lackF xs' a n p = none
  | 0, _, _ => rfl
  | n + 1, p, e => by
    rw [lackF_s] at e ⊢
    split
    · rename_i hp
      rw [if_pos hp] at e
      split at e
      · rename_i hx
        rw [if_pos (h _ hx)]
        exact lackF_mono h n _ e
      · cases e
    · rfl
theorem ins_sub {xs xs' : List Int} {k : Int} (h : ∀ j, j ∈ xs → j ∈ xs') : ∀ j, j ∈ ins xs k → j ∈ ins xs' k := by
  intro j hj
  rw [mem_ins] at hj ⊢
  exact hj.imp (h j) id
set_option tactic.hygienic true in
theorem run_mo {m : M} {c c' : CS} (h : Mo1 c c') (hn : noF (m.run c)) : Mo1 (m.run c) (m.run c') := by
  have hc := run_noF hn
  obtain ⟨xs, rfl, hx⟩ := h
  have key : ∀ t, Mo1 (comp t c) (comp t { c with xs := xs }) := by
    intro t
    unfold comp
    dsimp only
    split
    · exact ⟨xs, rfl, hx⟩
    · exact ⟨xs, rfl, hx⟩
  have e1 : 1 ≤ (Str.ofString " is read before it is written").length := by decide +kernel
  have e2 : 1 ≤ (Str.ofString " is read while its structure is built").length := by decide +kernel
  cases m with
  | rd r =>
    simp only [M.run, cread] at hn ⊢
    split
    · repeat' split
      all_goals first | exact key _ | exact ⟨xs, rfl, hx⟩
    · rename_i hy
      rw [if_neg hy] at hn
      by_cases hr : r.n ∈ c.xs
      · rw [if_pos hr]
        rw [if_pos (hx _ hr)]
        split
        · exact key _
        · exact ⟨xs, rfl, hx⟩
      · rw [if_neg hr] at hn
        exact (comp_noF (rtext_ne e1) hn).elim
  | wr r =>
    simp only [M.run, cwrite]
    split
    · split
      · exact key _
      · exact ⟨xs, rfl, hx⟩
    · exact ⟨ins xs r.n, rfl, ins_sub hx⟩
  | opn n f =>
    simp only [M.run, copen]
    split
    · obtain ⟨xs', e, hx'⟩ := key "a structure without arguments"
      rw [e]
      exact ⟨xs', rfl, hx'⟩
    · exact ⟨xs, rfl, hx⟩
  | bld n => exact ⟨xs, rfl, hx⟩
  | args a =>
    simp only [M.run, cargs] at hn ⊢
    cases hl : lackF c.xs a 1000 1 with
    | none =>
      rw [lackF_mono hx 1000 1 hl]
      exact ⟨xs, rfl, hx⟩
    | some p =>
      rw [hl] at hn
      exact (comp_noF (argT_ne p) hn).elim
  | call l =>
    simp only [M.run, ccall]
    split
    · obtain ⟨xs', e, hx'⟩ := key "a call without an environment"
      rw [e]
      exact ⟨[], rfl, fun _ h => h⟩
    · split
      · obtain ⟨xs', e, hx'⟩ := key "more live slots than the environment has"
        rw [e]
        exact ⟨[], rfl, fun _ h => h⟩
      · exact ⟨[], rfl, fun _ h => h⟩
  | leave =>
    simp only [M.run, cleave]
    split
    · exact key _
    · exact ⟨xs, rfl, hx⟩
  | fin => exact ⟨xs, rfl, hx⟩
  | alloc n =>
    simp only [M.run, calloc]
    split
    · obtain ⟨xs', e, hx'⟩ := key "a second environment"
      rw [e]
      exact ⟨xs', rfl, hx'⟩
    · exact ⟨xs, rfl, hx⟩
  | deall =>
    simp only [M.run, cdeall]
    split
    · obtain ⟨xs', e, hx'⟩ := key "no environment to give back"
      rw [e]
      exact ⟨xs', rfl, hx'⟩
    · exact ⟨xs, rfl, hx⟩
  | done d =>
    simp only [M.run, cdone, csub]
    split
    · obtain ⟨xs', e, hx'⟩ := key "too many arguments in a structure"
      rw [e]
      exact ⟨xs', rfl, hx'⟩
    · exact ⟨xs, rfl, hx⟩
theorem runM_mo : ∀ (ms : List M) {c c' : CS}, Mo1 c c' → noF (runM ms c) → Mo1 (runM ms c) (runM ms c')
  | [], _, _, h, _ => h
  | m :: r, _, _, h, hn => runM_mo r (run_mo h (runM_noF r _ hn)) hn
theorem comp_mo {t : Str} {c c' : CS} (h : Mo1 c c') : Mo1 (comp t c) (comp t c') := by
  obtain ⟨xs, rfl, hx⟩ := h
  unfold comp
  dsimp only
  split
  · exact ⟨xs, rfl, hx⟩
  · exact ⟨xs, rfl, hx⟩
set_option tactic.hygienic true in
theorem turn_mo {i : Ins} {c c' : CS} (h : Mo1 c c') (hn : noF (turn ar i c)) : Mo1 (turn ar i c) (turn ar i c') := by
  have h' := h
  obtain ⟨xs, e, hx⟩ := h'
  have e1 : c'.ended = c.ended := by rw [e]
  have e2 : c'.due = c.due := by rw [e]
  have e3 : c'.fam = c.fam := by rw [e]
  unfold turn at hn ⊢
  rw [e1]
  split
  · exact comp_mo h
  · rename_i he
    rw [if_neg he] at hn
    cases i with
    | arg u k =>
      delta step at hn ⊢; dsimp only at hn ⊢
      rw [e2, e3]
      split
      · rename_i hd
        rw [if_pos hd] at hn
        split
        · rename_i hf
          rw [if_pos hf] at hn
          exact runM_mo _ h hn
        · exact comp_mo h
      · exact comp_mo h
    | op o =>
      delta step at hn ⊢; dsimp only at hn ⊢
      rw [e2]
      split
      · exact comp_mo h
      · rename_i hd
        rw [if_neg hd] at hn
        exact runM_mo _ h hn
theorem cf_mo : ∀ (rows : List Ins) (p : Nat) (d : Bool) {c c' : CS}, Mo1 c c' → (cf ar p d c rows).pl (p + rows.length) ≤ (cf ar p d c' rows).pl (p + rows.length)
  | [], p, d, c, c', h => by
    obtain ⟨xs, rfl, hx⟩ := h
    rw [cf_nil, cf_nil]
    exact Nat.le_refl _
  | i :: r, p, true, c, c', h => by
    rw [cf_t, cf_t, List.length_cons, show p + (r.length + 1) = p + 1 + r.length by lia]
    exact cf_mo r (p + 1) true h
  | i :: r, p, false, c, c', h => by
    rw [cf_f, cf_f]
    cases hf : (turn ar i c).fault == ("" : Str)
    · rw [if_neg (by simp)]
      show p ≤ _
      split
      · have := cf_bd (ar := ar) r (p + 1) i.isFail (turn ar i c')
        revert this
        cases cf ar (p + 1) i.isFail (turn ar i c') r <;> intro this <;> delta Rs.pl <;> dsimp only <;> lia
      · exact Nat.le_refl _
    · rw [if_pos rfl]
      have h1 := turn_mo (ar := ar) h hf
      obtain ⟨xs, e, hx⟩ := h1
      have e' : ((turn ar i c').fault == ("" : Str)) = true := by rw [e]; exact hf
      rw [e', if_pos rfl, List.length_cons, show p + (r.length + 1) = p + 1 + r.length by lia]
      exact cf_mo r (p + 1) i.isFail ⟨xs, e, hx⟩
theorem l2_more {rows : List Ins} {w : Nat} : (cfault ar w rows).pl rows.length ≤ (cfault ar (w + 1) rows).pl rows.length := by
  have h : Mo1 (cs0 w) (cs0 (w + 1)) := ⟨upto (w + 1), rfl, fun k hk => List.mem_append_left _ hk⟩
  have := cf_mo (ar := ar) rows 0 false h
  rw [Nat.zero_add] at this
  exact this
end
end P_LB2
section P_LB3
open PySem PySem.W PyProof.Rows
set_option Elab.async false
set_option maxRecDepth 100000
set_option linter.unusedVariables false
set_option linter.unusedSectionVars false
section
/-! ## law 2: x3 and x5 exchanged -/
variable {ar : List (Int × Int)}
noncomputable def sx (n : Int) : Int := if n = 3 then 5 else if n = 5 then 3 else n
theorem sx_sx (n : Int) : sx (sx n) = n := by
  unfold sx
  repeat' split
  all_goals lia
theorem sx_inj {a b : Int} : sx a = sx b ↔ a = b := ⟨fun h => by rw [← sx_sx a, h, sx_sx], fun h => by rw [h]⟩
theorem sx_low {n : Int} (h : n ≤ 2) : sx n = n := by
  unfold sx
  repeat' split
  all_goals lia
noncomputable def Reg.sx (r : Reg) : Reg := if r.y then r else ⟨false, Mine.sx r.n⟩
noncomputable def SK.sx : SK → SK
  | .void n => .void n
  | .var r => .var r.sx
  | .val r => .val r.sx
  | .con a b => .con a b
noncomputable def Op.sx : Op → Op
  | .getVar r x => .getVar r.sx (Mine.sx x)
  | .getVal r x => .getVal r.sx (Mine.sx x)
  | .getCon a b x => .getCon a b (Mine.sx x)
  | .getList x => .getList (Mine.sx x)
  | .getStr f x => .getStr f (Mine.sx x)
  | .putVar r x => .putVar r.sx (Mine.sx x)
  | .putVal r x => .putVal r.sx (Mine.sx x)
  | .putCon a b x => .putCon a b (Mine.sx x)
  | .putList x => .putList (Mine.sx x)
  | .putStr f x => .putStr f (Mine.sx x)
  | .mark r => .mark r.sx
  | .cutTo r => .cutTo r.sx
  | o => o
noncomputable def Ins.sx : Ins → Ins
  | .arg u k => .arg u k.sx
  | .op o => .op o.sx
noncomputable def M.sx : M → M
  | .rd r => .rd r.sx
  | .wr r => .wr r.sx
  | .bld n => .bld (Mine.sx n)
  | m => m
/-- a register that the law draws -/
noncomputable def okL (r : Reg) : Prop := 1 ≤ r.n ∧ if r.y then r.n ≤ 3 else r.n ≤ 6
noncomputable def FS (a b : Str) : Prop := (a = "" ∧ b = "") ∨ ((a == ("" : Str)) = false ∧ (b == ("" : Str)) = false ∧ swT a = b)
theorem FS.e {a b : Str} (h : FS a b) : (a == ("" : Str)) = (b == ("" : Str)) := by
  rcases h with ⟨rfl, rfl⟩ | ⟨h1, h2, _⟩
  · rfl
  · rw [h1, h2]
structure Sx (c c' : CS) : Prop where
  e : ∃ f, c' = { c with xs := c.xs.map sx, bld := sx c.bld, fault := f } ∧ FS c.fault f
noncomputable def okT (t t' : Str) : Prop := (t == ("" : Str)) = false ∧ (t' == ("" : Str)) = false ∧ swT t = t'
theorem comp_sx {t t' : Str} {c c' : CS} (ht : okT t t') (h : Sx c c') : Sx (comp t c) (comp t' c') := by
  obtain ⟨f, rfl, hf⟩ := h.e
  have e := hf.e
  unfold comp
  dsimp only
  cases hc : c.fault == ("" : Str)
  · rw [hc] at e
    rw [← e, if_neg (by simp), if_neg (by simp)]
    exact ⟨f, rfl, hf⟩
  · rw [hc] at e
    rw [← e, if_pos rfl, if_pos rfl]
    exact ⟨t', rfl, .inr ht⟩
theorem okT_same {B rest t : Str} (e : t = B ++ " " ++ rest) (hB : 32 ∉ chars B) (hs : sw B = B) : okT t t := by
  subst e
  have hn : (B ++ " " ++ rest == ("" : Str)) = false := ne_empty (by
    rw [app_len, app_len]
    have : (Str.ofString " ").length = 1 := by decide +kernel
    lia)
  exact ⟨hn, hn, by rw [swT_cons hB, hs]⟩
theorem okT_reg {r : Reg} {s : Str} {rest : Str} (hr : okL r) (e : s = " " ++ rest) : okT (rtext r ++ s) (rtext r.sx ++ s) := by
  subst e
  have hl : 1 ≤ ((" " : Str) ++ rest).length := by
    rw [app_len]
    have : (Str.ofString " ").length = 1 := by decide +kernel
    lia
  refine ⟨rtext_ne hl, rtext_ne hl, ?_⟩
  obtain ⟨y, n⟩ := r
  obtain ⟨h1, h2⟩ := hr
  rw [← Str.append_assoc, ← Str.append_assoc]
  cases y
  · have h2 : n ≤ 6 := h2
    have h1 : 1 ≤ n := h1
    have hn : n = 1 ∨ n = 2 ∨ n = 3 ∨ n = 4 ∨ n = 5 ∨ n = 6 := by lia
    rcases hn with rfl | rfl | rfl | rfl | rfl | rfl
    all_goals
      rw [swT_cons (by decide +kernel)]
      refine congrArg (· ++ " " ++ rest) ?_
      decide +kernel
  · have h2 : n ≤ 3 := h2
    have h1 : 1 ≤ n := h1
    have hn : n = 1 ∨ n = 2 ∨ n = 3 := by lia
    rcases hn with rfl | rfl | rfl
    all_goals
      rw [swT_cons (by decide +kernel)]
      refine congrArg (· ++ " " ++ rest) ?_
      decide +kernel
theorem okT_arg (q : Int) : okT (argT q) (argT q) := by
  refine okT_same (B := "argument") (rest := ntext q ++ " is lacking") ?_ (by decide +kernel) (by decide +kernel)
  show "argument " ++ ntext q ++ " is lacking" = "argument" ++ " " ++ (ntext q ++ " is lacking")
  have e : ("argument " : Str) = "argument" ++ " " := by decide +kernel
  rw [e, Str.append_assoc]
theorem mem_sx {xs : List Int} {k : Int} : sx k ∈ xs.map sx ↔ k ∈ xs := by
  rw [List.mem_map]
  constructor
  · rintro ⟨a, ha, e⟩
    rw [sx_inj.mp e] at ha; exact ha
  · intro h; exact ⟨k, h, rfl⟩
theorem ins_sx {xs : List Int} {k : Int} : ins (xs.map sx) (sx k) = (ins xs k).map sx := by
  unfold ins
  by_cases h : k ∈ xs
  · rw [if_pos h, if_pos (mem_sx.mpr h)]
  · rw [if_neg h, if_neg (fun hx => h (mem_sx.mp hx)), List.map_append]; rfl
theorem lackF_sx {xs : List Int} {a : Int} (ha : a ≤ 2) : ∀ (n : Nat) (p : Int), lackF (xs.map sx) a n p = lackF xs a n p
  | 0, _ => rfl
  | n + 1, p => by
    rw [lackF_s, lackF_s]
    by_cases hp : p ≤ a
    · rw [if_pos hp, if_pos hp]
      have hs : sx p = p := sx_low (by lia)
      have hm : p ∈ xs.map sx ↔ p ∈ xs := by
        have := mem_sx (xs := xs) (k := p)
        rw [hs] at this; exact this
      by_cases hx : p ∈ xs
      · rw [if_pos hx, if_pos (hm.mpr hx)]; exact lackF_sx ha n _
      · rw [if_neg hx, if_neg (fun h => hx (hm.mp h))]
    · rw [if_neg hp, if_neg hp]
noncomputable def okMs : M → Prop
  | .rd r => okL r
  | .wr r => okL r
  | .args a => a ≤ 2
  | _ => True
theorem Sx.fx {c c' : CS} (h : Sx c c') : c'.size = c.size ∧ c'.ys = c.ys ∧ c'.due = c.due ∧ c'.fam = c.fam ∧ c'.ended = c.ended ∧ c'.xs = c.xs.map sx ∧ c'.bld = sx c.bld := by
  obtain ⟨f, rfl, hf⟩ := h.e; exact ⟨rfl, rfl, rfl, rfl, rfl, rfl, rfl⟩
theorem cread_x {n : Int} {c : CS} : cread ⟨false, n⟩ c = if n ∈ c.xs then (if n = c.bld then comp (rtext ⟨false, n⟩ ++ " is read while its structure is built") c else c) else comp (rtext ⟨false, n⟩ ++ " is read before it is written") c := rfl
theorem cread_y {n : Int} {c : CS} : cread ⟨true, n⟩ c = if c.size < n then comp (rtext ⟨true, n⟩ ++ " is read outside of the environment") c else if n ∈ c.ys then c else comp (rtext ⟨true, n⟩ ++ " is read before it is written") c := rfl
theorem cwrite_x {n : Int} {c : CS} : cwrite ⟨false, n⟩ c = { c with bld := (if n = c.bld then 0 else c.bld), xs := ins c.xs n } := rfl
theorem cwrite_y {n : Int} {c : CS} : cwrite ⟨true, n⟩ c = if c.size < n then comp (rtext ⟨true, n⟩ ++ " is written outside of the environment") c else { c with ys := ins c.ys n } := rfl
set_option tactic.hygienic true in
theorem run_sx {m : M} {c c' : CS} (hm : okMs m) (h : Sx c c') : Sx (m.run c) (m.sx.run c') := by
  obtain ⟨f1, f2, f3, f4, f5, f6, f7⟩ := h.fx
  have s0 : sx 0 = 0 := by decide
  cases m with
  | rd r =>
    obtain ⟨y, n⟩ := r
    cases y
    · show Sx (cread ⟨false, n⟩ c) (cread ⟨false, sx n⟩ c')
      rw [cread_x, cread_x, f6, f7]
      by_cases hx : n ∈ c.xs
      · rw [if_pos hx, if_pos (mem_sx.mpr hx)]
        by_cases hb : n = c.bld
        · rw [if_pos hb, if_pos (sx_inj.mpr hb)]
          exact comp_sx (okT_reg (r := ⟨false, n⟩) (rest := "is read while its structure is built") hm (by decide +kernel)) h
        · rw [if_neg hb, if_neg (fun e => hb (sx_inj.mp e))]
          exact h
      · rw [if_neg hx, if_neg (fun e => hx (mem_sx.mp e))]
        exact comp_sx (okT_reg (r := ⟨false, n⟩) (rest := "is read before it is written") hm (by decide +kernel)) h
    · show Sx (cread ⟨true, n⟩ c) (cread ⟨true, n⟩ c')
      rw [cread_y, cread_y, f1, f2]
      split
      · exact comp_sx (okT_reg (r := ⟨true, n⟩) (rest := "is read outside of the environment") hm (by decide +kernel)) h
      · split
        · exact h
        · exact comp_sx (okT_reg (r := ⟨true, n⟩) (rest := "is read before it is written") hm (by decide +kernel)) h
  | wr r =>
    obtain ⟨y, n⟩ := r
    cases y
    · show Sx (cwrite ⟨false, n⟩ c) (cwrite ⟨false, sx n⟩ c')
      rw [cwrite_x, cwrite_x]
      obtain ⟨f, rfl, hf⟩ := h.e
      dsimp only
      rw [ins_sx]
      by_cases hb : n = c.bld
      · rw [if_pos hb, if_pos (sx_inj.mpr hb)]
        exact ⟨f, by simp only [s0], hf⟩
      · rw [if_neg hb, if_neg (fun e => hb (sx_inj.mp e))]
        exact ⟨f, rfl, hf⟩
    · show Sx (cwrite ⟨true, n⟩ c) (cwrite ⟨true, n⟩ c')
      rw [cwrite_y, cwrite_y, f1]
      split
      · exact comp_sx (okT_reg (r := ⟨true, n⟩) (rest := "is written outside of the environment") hm (by decide +kernel)) h
      · obtain ⟨f, rfl, hf⟩ := h.e
        exact ⟨f, rfl, hf⟩
  | opn n f =>
    show Sx (copen n f c) (copen n f c')
    unfold copen
    split
    · obtain ⟨g, e, hf⟩ := (comp_sx (okT_same (B := "a") (rest := "structure without arguments") (t := "a structure without arguments") (by decide +kernel) (by decide +kernel) (by decide +kernel)) h).e
      rw [e]
      exact ⟨g, rfl, hf⟩
    · obtain ⟨g, rfl, hf⟩ := h.e
      exact ⟨g, rfl, hf⟩
  | bld n =>
    obtain ⟨g, rfl, hf⟩ := h.e
    exact ⟨g, rfl, hf⟩
  | args a =>
    show Sx (cargs a c) (cargs a c')
    unfold cargs
    rw [f6, lackF_sx hm]
    split
    · exact h
    · rename_i p e
      exact comp_sx (okT_arg p) h
  | call l =>
    show Sx (ccall l c) (ccall l c')
    unfold ccall
    rw [f1, f2]
    split
    · obtain ⟨g, e, hf⟩ := (comp_sx (okT_same (B := "a") (rest := "call without an environment") (t := "a call without an environment") (by decide +kernel) (by decide +kernel) (by decide +kernel)) h).e
      rw [e]
      exact ⟨g, rfl, hf⟩
    · split
      · obtain ⟨g, e, hf⟩ := (comp_sx (okT_same (B := "more") (rest := "live slots than the environment has") (t := "more live slots than the environment has") (by decide +kernel) (by decide +kernel) (by decide +kernel)) h).e
        rw [e]
        exact ⟨g, rfl, hf⟩
      · obtain ⟨g, rfl, hf⟩ := h.e
        exact ⟨g, rfl, hf⟩
  | leave =>
    show Sx (cleave c) (cleave c')
    unfold cleave
    rw [f1]
    split
    · exact comp_sx (okT_same (B := "the") (rest := "clause is left with its environment") (t := "the clause is left with its environment") (by decide +kernel) (by decide +kernel) (by decide +kernel)) h
    · exact h
  | fin =>
    obtain ⟨g, rfl, hf⟩ := h.e
    exact ⟨g, rfl, hf⟩
  | alloc n =>
    show Sx (calloc n c) (calloc n c')
    unfold calloc
    rw [f1]
    split
    · obtain ⟨g, e, hf⟩ := (comp_sx (okT_same (B := "a") (rest := "second environment") (t := "a second environment") (by decide +kernel) (by decide +kernel) (by decide +kernel)) h).e
      rw [e]
      exact ⟨g, rfl, hf⟩
    · obtain ⟨g, rfl, hf⟩ := h.e
      exact ⟨g, rfl, hf⟩
  | deall =>
    show Sx (cdeall c) (cdeall c')
    unfold cdeall
    rw [f1]
    split
    · obtain ⟨g, e, hf⟩ := (comp_sx (okT_same (B := "no") (rest := "environment to give back") (t := "no environment to give back") (by decide +kernel) (by decide +kernel) (by decide +kernel)) h).e
      rw [e]
      exact ⟨g, rfl, hf⟩
    · obtain ⟨g, rfl, hf⟩ := h.e
      exact ⟨g, rfl, hf⟩
  | done d =>
    have key : ∀ {a a' : CS} (n : Int), Sx a a' → Sx (csub n a) (csub n a') := by
      intro a a' n h
      obtain ⟨g, rfl, hf⟩ := h.e
      unfold csub
      dsimp only
      split
      · exact ⟨g, by simp only [s0], hf⟩
      · exact ⟨g, rfl, hf⟩
    show Sx (cdone d c) (cdone d c')
    unfold cdone
    rw [f3]
    split
    · exact key _ (comp_sx (okT_same (B := "too") (rest := "many arguments in a structure") (t := "too many arguments in a structure") (by decide +kernel) (by decide +kernel) (by decide +kernel)) h)
    · exact key _ h
theorem runM_sx : ∀ (ms : List M) {c c' : CS}, (∀ m ∈ ms, okMs m) → Sx c c' → Sx (runM ms c) (runM (ms.map M.sx) c')
  | [], _, _, _, h => h
  | m :: r, _, _, hm, h => runM_sx r (fun m' h' => hm m' (.tail _ h')) (run_sx (hm m (.head _)) h)
/-- an instruction that the law draws -/
noncomputable def okI (ar : List (Int × Int)) : Ins → Prop
  | .arg _ k => ∀ m ∈ k.ms, okMs m
  | .op o => ∀ m ∈ o.ms ar, okMs m
theorem sk_ms {k : SK} : k.sx.ms = k.ms.map M.sx := by cases k <;> rfl
theorem op_ms {o : Op} : o.sx.ms ar = (o.ms ar).map M.sx := by cases o <;> rfl
theorem turn_sx {i : Ins} {c c' : CS} (hi : okI ar i) (h : Sx c c') : Sx (turn ar i c) (turn ar i.sx c') := by
  obtain ⟨f1, f2, f3, f4, f5, f6, f7⟩ := h.fx
  unfold turn
  rw [f5]
  split
  · exact comp_sx (okT_same (B := "code") (rest := "behind the end") (t := "code behind the end") (by decide +kernel) (by decide +kernel) (by decide +kernel)) h
  · cases i with
    | arg u k =>
      show Sx (step ar (.arg u k) c) (step ar (.arg u k.sx) c')
      delta step; dsimp only
      rw [f3, f4, sk_ms]
      split
      · split
        · exact runM_sx _ hi h
        · exact comp_sx (okT_same (B := "a") (rest := "structure is not filled") (t := "a structure is not filled") (by decide +kernel) (by decide +kernel) (by decide +kernel)) h
      · exact comp_sx (okT_same (B := "an") (rest := "argument outside of a structure") (t := "an argument outside of a structure") (by decide +kernel) (by decide +kernel) (by decide +kernel)) h
    | op o =>
      show Sx (step ar (.op o) c) (step ar (.op o.sx) c')
      delta step; dsimp only
      rw [f3, op_ms]
      split
      · exact comp_sx (okT_same (B := "a") (rest := "structure is not filled") (t := "a structure is not filled") (by decide +kernel) (by decide +kernel) (by decide +kernel)) h
      · exact runM_sx _ hi h
theorem isFail_sx {i : Ins} : i.sx.isFail = i.isFail := by
  cases i with
  | arg u k => rfl
  | op o => cases o <;> rfl
noncomputable def RsR (r r' : Rs) : Prop := match r, r' with
  | .ok, .ok => True
  | .noend p, .noend q => p = q
  | .bad p t, .bad q t' => p = q ∧ swT t = t'
  | _, _ => False
theorem cf_sx : ∀ (rows : List Ins) (p : Nat) (d : Bool) {c c' : CS}, (∀ i ∈ rows, okI ar i) → Sx c c' → RsR (cf ar p d c rows) (cf ar p d c' (rows.map Ins.sx))
  | [], p, d, c, c', _, h => by
    rw [List.map_nil, cf_nil, cf_nil, h.fx.2.2.2.2.1]
    split <;> first | exact True.intro | exact rfl
  | i :: r, p, true, c, c', hi, h => by
    rw [List.map_cons, cf_t, cf_t]
    exact cf_sx r (p + 1) true (fun j hj => hi j (.tail _ hj)) h
  | i :: r, p, false, c, c', hi, h => by
    rw [List.map_cons, cf_f, cf_f, isFail_sx]
    have h1 := turn_sx (hi i (.head _)) h
    have hfr : FS (turn ar i c).fault (turn ar i.sx c').fault := by
      obtain ⟨f, e, hf⟩ := h1.e
      rw [e]; exact hf
    have e := hfr.e
    cases hf : (turn ar i c).fault == ("" : Str)
    · rw [hf] at e
      rw [← e, if_neg (by simp), if_neg (by simp)]
      rcases hfr with ⟨a, _⟩ | ⟨_, _, a⟩
      · rw [a] at hf; cases hf
      · exact ⟨rfl, a⟩
    · rw [hf] at e
      rw [← e, if_pos rfl, if_pos rfl]
      exact cf_sx r (p + 1) i.isFail (fun j hj => hi j (.tail _ hj)) h1
theorem upto_sx : ∀ {w : Nat}, w ≤ 2 → (upto w).map sx = upto w
  | 0, _ => rfl
  | w + 1, h => by
    show (upto w ++ [(w : Int) + 1]).map sx = _
    rw [List.map_append, upto_sx (by lia), List.map_singleton, sx_low (by lia)]; rfl
theorem l2_sx {rows : List Ins} {w : Nat} (hw : w ≤ 2) (hi : ∀ i ∈ rows, okI ar i) : (cfault ar w (rows.map Ins.sx)).text = Txt.join " " (swD (Txt.split (cfault ar w rows).text " ")) := by
  have h : Sx (cs0 w) (cs0 w) := ⟨"", by
    show cs0 w = { cs0 w with xs := (upto w).map sx, bld := sx 0, fault := "" }
    rw [upto_sx hw]; rfl, .inl ⟨rfl, rfl⟩⟩
  have := cf_sx rows 0 false hi h
  have this : RsR (cfault ar w rows) (cfault ar w (rows.map Ins.sx)) := this
  revert this
  cases cfault ar w rows with
  | ok =>
    cases cfault ar w (rows.map Ins.sx) with
    | ok => intro _; exact swD_empty.symm
    | noend q => exact fun h => h.elim
    | bad q t => exact fun h => h.elim
  | noend p =>
    cases cfault ar w (rows.map Ins.sx) with
    | ok => exact fun h => h.elim
    | noend q =>
      intro e
      have e : p = q := e
      subst e
      have e1 : (Rs.noend p).text = Str.empty ++ txtI (p : Int) ++ ": " ++ "the clause has no end" := by
        show Str.empty ++ txtI (p : Int) ++ ": the clause has no end" = _
        have : (": the clause has no end" : Str) = ": " ++ "the clause has no end" := by decide +kernel
        rw [this]
        simp only [Str.append_assoc]
      rw [e1, swD_told]
      have := (okT_same (B := "the") (rest := "clause has no end") (t := "the clause has no end") (by decide +kernel) (by decide +kernel) (by decide +kernel)).2.2
      rw [this]
    | bad q t => exact fun h => h.elim
  | bad p t =>
    cases cfault ar w (rows.map Ins.sx) with
    | ok => exact fun h => h.elim
    | noend q => exact fun h => h.elim
    | bad q t' =>
      rintro ⟨e, e'⟩
      subst e e'
      exact swD_told.symm
end
end P_LB3
section P_E2
open PySem PySem.W PyProof.Rows
set_option Elab.async false
set_option maxRecDepth 100000
set_option linter.unusedVariables false
noncomputable abbrev B_2law_figures_1 (K : Frag) (C : Or) (m : Loc) : Mo (Fl × Loc) := seqF (ret (Fl.brk, m)) nextF
noncomputable abbrev B_2law_figures_2 (K : Frag) (C : Or) (m : Loc) : Mo (Fl × Loc) := seqF (bnd (bnd (ofO (lk m "whole")) fun a22 => cmpV .Eq a22 (.int 0)) fun c21 => ifF c21 ((B_2law_figures_1 K C) m) (nextF m)) nextF
noncomputable abbrev B_2law_figures_3 (K : Frag) (C : Or) (m : Loc) : Mo (Fl × Loc) := seqF (bnd (bnd (ofO (lk m "whole")) fun a20 => binV .FloorDiv a20 (.int 997)) fun v19 => ret (Fl.next, put m "whole" v19)) (B_2law_figures_2 K C)
noncomputable abbrev B_2law_figures_4 (K : Frag) (C : Or) (m : Loc) : Mo (Fl × Loc) := seqF (bnd (bnd (ofO (lk m "figures")) fun a15 => bnd (methOf K a15 "append") fun f16 => bnd (mvs [bnd (ofO (lk m "whole")) fun a18 => binV .Mod a18 (.int 997)]) fun s17 => callM K C f16 a15 s17) fun v14 => grd (noRef v14) (ret (Fl.next, m))) (B_2law_figures_3 K C)
noncomputable abbrev B_2law_figures_5 (K : Frag) (C : Or) (m : Loc) : Mo (Fl × Loc) := seqF (bnd (bnd (mvs [ret (.int 24)]) fun s12 => tRange s12) fun a11 => bnd (iterV a11) fun i13 => forV "turn" (B_2law_figures_4 K C) 4096 i13 m) nextF
noncomputable abbrev B_2law_figures_6 (K : Frag) (C : Or) (m : Loc) : Mo (Fl × Loc) := seqF (bnd (bnd (bnd (ofO (lk m "cell")) fun a8 => cmpV .GtE a8 (.int 0)) fun c7 => ifF c7 (ofO (lk m "cell")) (bnd (bnd (ofO (lk m "cell")) fun a10 => binV .Mult (.int 5) a10) fun a9 => binV .Sub (.int 3) a9)) fun v6 => ret (Fl.next, put m "whole" v6)) (B_2law_figures_5 K C)
noncomputable abbrev B_2law_figures_7 (K : Frag) (C : Or) (m : Loc) : Mo (Fl × Loc) := seqF (bnd (ofO (lk m "figures")) fun v29 => ret (Fl.ret v29, m)) nextF
noncomputable abbrev B_2law_figures_8 (K : Frag) (C : Or) (m : Loc) : Mo (Fl × Loc) := seqF (bnd (bnd (ofO (lk m "figures")) fun a26 => bnd (methOf K a26 "reverse") fun f27 => bnd (mvs []) fun s28 => callM K C f27 a26 s28) fun v25 => grd (noRef v25) (ret (Fl.next, m))) (B_2law_figures_7 K C)
noncomputable abbrev B_2law_figures_9 (K : Frag) (C : Or) (m : Loc) : Mo (Fl × Loc) := seqF (bnd (bnd (ofO (lk m "figures")) fun a24 => optI (ret (.int 90)) fun h => sliceV a24 none h) fun v23 => ret (Fl.next, put m "figures" v23)) (B_2law_figures_8 K C)
noncomputable abbrev B_2law_figures_10 (K : Frag) (C : Or) (m : Loc) : Mo (Fl × Loc) := seqF (bnd (bnd (ofO (lk m "script")) fun a4 => optI (ret (.int 30)) fun h => sliceV a4 none h) fun a3 => bnd (iterV a3) fun i5 => forV "cell" (B_2law_figures_6 K C) 4096 i5 m) (B_2law_figures_9 K C)
noncomputable def B_2law_figures (K : Frag) (C : Or) (m : Loc) : Mo (Fl × Loc) := seqF (bnd (bnd (mvs []) fun s2 => newL s2) fun v1 => ret (Fl.next, put m "figures" v1)) (B_2law_figures_10 K C)

noncomputable abbrev B_2law_draw_1 (K : Frag) (C : Or) (m : Loc) : Mo (Fl × Loc) := seqF (bnd (ret (.int 0)) fun v34 => ret (Fl.ret v34, m)) nextF
noncomputable abbrev B_2law_draw_2 (K : Frag) (C : Or) (m : Loc) : Mo (Fl × Loc) := seqF (bnd (bnd (bnd (ofO (lk m "figures")) fun a37 => bnd (methOf K a37 "pop") fun f38 => bnd (mvs []) fun s39 => callM K C f38 a37 s39) fun a36 => bnd (ofO (lk m "many")) fun a40 => binV .Mod a36 a40) fun v35 => ret (Fl.ret v35, m)) nextF
noncomputable def B_2law_draw (K : Frag) (C : Or) (m : Loc) : Mo (Fl × Loc) := seqF (bnd (bnd (ofO (lk m "figures")) fun a31 => bnd (bnd (mvs []) fun s33 => newL s33) fun a32 => cmpV .Eq a31 a32) fun c30 => ifF c30 ((B_2law_draw_1 K C) m) (nextF m)) (B_2law_draw_2 K C)


noncomputable def B_2law_x (K : Frag) (C : Or) (m : Loc) : Mo (Fl × Loc) := seqF (bnd (bnd (mvs [ret (.str "x"), bnd (bnd (mvs [ofO (lk m "figures"), ret (.int 6)]) fun s44 => C 383 s44) fun a43 => binV .Add (.int 1) a43]) fun s42 => newT s42) fun v41 => ret (Fl.ret v41, m)) nextF

noncomputable abbrev B_2law_any_1 (K : Frag) (C : Or) (m : Loc) : Mo (Fl × Loc) := seqF (bnd (bnd (mvs [ret (.str "y"), bnd (bnd (mvs [ofO (lk m "figures"), ret (.int 3)]) fun s51 => C 383 s51) fun a50 => binV .Add (.int 1) a50]) fun s49 => newT s49) fun v48 => ret (Fl.ret v48, m)) nextF
noncomputable abbrev B_2law_any_2 (K : Frag) (C : Or) (m : Loc) : Mo (Fl × Loc) := seqF (bnd (bnd (mvs [ofO (lk m "figures")]) fun s53 => C 390 s53) fun v52 => ret (Fl.ret v52, m)) nextF
noncomputable def B_2law_any (K : Frag) (C : Or) (m : Loc) : Mo (Fl × Loc) := seqF (bnd (bnd (bnd (mvs [ofO (lk m "figures"), ret (.int 3)]) fun s47 => C 383 s47) fun a46 => cmpV .Eq a46 (.int 2)) fun c45 => ifF c45 ((B_2law_any_1 K C) m) (nextF m)) (B_2law_any_2 K C)

noncomputable abbrev B_2law_piece_1 (K : Frag) (C : Or) (m : Loc) : Mo (Fl × Loc) := seqF (bnd (bnd (mvs [bnd (mvs [ret (.str "put_structure"), ofO (lk m "name"), bnd (mvs [ret (.str "x"), ret (.int 3)]) fun s61 => newT s61]) fun s60 => newT s60, bnd (mvs [ret (.str "set_value"), bnd (mvs [ofO (lk m "figures")]) fun s63 => C 390 s63]) fun s62 => newT s62, bnd (mvs [ret (.str "set_constant"), bnd (mvs [ret (.int 5), ret (.int 4)]) fun s65 => newT s65]) fun s64 => newT s64]) fun s59 => newL s59) fun v58 => ret (Fl.ret v58, m)) nextF
noncomputable abbrev B_2law_piece_2 (K : Frag) (C : Or) (m : Loc) : Mo (Fl × Loc) := seqF (bnd (bnd (mvs [bnd (mvs [ret (.str "get_variable"), bnd (mvs [ofO (lk m "figures")]) fun s71 => C 397 s71, bnd (mvs [ofO (lk m "figures")]) fun s72 => C 390 s72]) fun s70 => newT s70]) fun s69 => newL s69) fun v68 => ret (Fl.ret v68, m)) nextF
noncomputable abbrev B_2law_piece_3 (K : Frag) (C : Or) (m : Loc) : Mo (Fl × Loc) := seqF (bnd (bnd (mvs [bnd (mvs [ret (.str "get_list"), bnd (mvs [ofO (lk m "figures")]) fun s78 => C 390 s78]) fun s77 => newT s77, bnd (mvs [ret (.str "unify_variable"), bnd (mvs [ofO (lk m "figures")]) fun s80 => C 397 s80]) fun s79 => newT s79, bnd (mvs [ret (.str "unify_void"), ret (.int 1)]) fun s81 => newT s81]) fun s76 => newL s76) fun v75 => ret (Fl.ret v75, m)) nextF
noncomputable abbrev B_2law_piece_4 (K : Frag) (C : Or) (m : Loc) : Mo (Fl × Loc) := seqF (bnd (bnd (mvs [bnd (mvs [ret (.str "get_structure"), ofO (lk m "name"), bnd (mvs [ret (.str "x"), ret (.int 1)]) fun s87 => newT s87]) fun s86 => newT s86, bnd (mvs [ret (.str "unify_variable"), bnd (mvs [ret (.str "x"), ret (.int 5)]) fun s89 => newT s89]) fun s88 => newT s88, bnd (mvs [ret (.str "unify_local_value"), bnd (mvs [ofO (lk m "figures")]) fun s91 => C 397 s91]) fun s90 => newT s90]) fun s85 => newL s85) fun v84 => ret (Fl.ret v84, m)) nextF
noncomputable abbrev B_2law_piece_5 (K : Frag) (C : Or) (m : Loc) : Mo (Fl × Loc) := seqF (bnd (bnd (mvs [bnd (mvs [ret (.str "allocate"), bnd (mvs [ofO (lk m "figures"), ret (.int 4)]) fun s97 => C 383 s97]) fun s96 => newT s96]) fun s95 => newL s95) fun v94 => ret (Fl.ret v94, m)) nextF
noncomputable abbrev B_2law_piece_6 (K : Frag) (C : Or) (m : Loc) : Mo (Fl × Loc) := seqF (bnd (bnd (mvs [bnd (mvs [ret (.str "put_value"), bnd (mvs [ofO (lk m "figures")]) fun s103 => C 397 s103, bnd (mvs [ret (.str "x"), ret (.int 1)]) fun s104 => newT s104]) fun s102 => newT s102, bnd (mvs [ret (.str "put_variable"), bnd (mvs [ofO (lk m "figures")]) fun s106 => C 397 s106, bnd (mvs [ret (.str "x"), ret (.int 2)]) fun s107 => newT s107]) fun s105 => newT s105, bnd (mvs [ret (.str "call"), ofO (lk m "name"), bnd (mvs [ofO (lk m "figures"), ret (.int 4)]) fun s109 => C 383 s109]) fun s108 => newT s108]) fun s101 => newL s101) fun v100 => ret (Fl.ret v100, m)) nextF
noncomputable abbrev B_2law_piece_7 (K : Frag) (C : Or) (m : Loc) : Mo (Fl × Loc) := seqF (bnd (bnd (mvs [bnd (mvs [ret (.str "deallocate")]) fun s114 => newT s114]) fun s113 => newL s113) fun v112 => ret (Fl.ret v112, m)) nextF
noncomputable abbrev B_2law_piece_8 (K : Frag) (C : Or) (m : Loc) : Mo (Fl × Loc) := seqF (bnd (bnd (mvs [bnd (mvs [ret (.str "put_list"), bnd (mvs [ofO (lk m "figures")]) fun s120 => C 390 s120]) fun s119 => newT s119, bnd (mvs [ret (.str "set_void"), ret (.int 2)]) fun s121 => newT s121, bnd (mvs [ret (.str "builtin"), ofO (lk m "name")]) fun s122 => newT s122]) fun s118 => newL s118) fun v117 => ret (Fl.ret v117, m)) nextF
noncomputable abbrev B_2law_piece_9 (K : Frag) (C : Or) (m : Loc) : Mo (Fl × Loc) := seqF (bnd (bnd (mvs [bnd (mvs [ret (.str "mark"), bnd (mvs [ofO (lk m "figures")]) fun s128 => C 397 s128]) fun s127 => newT s127, bnd (mvs [ret (.str "cut_to"), bnd (mvs [ofO (lk m "figures")]) fun s130 => C 397 s130]) fun s129 => newT s129]) fun s126 => newL s126) fun v125 => ret (Fl.ret v125, m)) nextF
noncomputable abbrev B_2law_piece_10 (K : Frag) (C : Or) (m : Loc) : Mo (Fl × Loc) := seqF (bnd (bnd (mvs [bnd (mvs [ret (.str "get_value"), bnd (mvs [ofO (lk m "figures")]) fun s136 => C 397 s136, bnd (mvs [ofO (lk m "figures")]) fun s137 => C 390 s137]) fun s135 => newT s135]) fun s134 => newL s134) fun v133 => ret (Fl.ret v133, m)) nextF
noncomputable abbrev B_2law_piece_11 (K : Frag) (C : Or) (m : Loc) : Mo (Fl × Loc) := seqF (bnd (bnd (mvs [bnd (bnd (mvs [bnd (mvs [ret (.str "proceed")]) fun s144 => newT s144, bnd (mvs [ret (.str "execute"), ofO (lk m "name")]) fun s145 => newT s145, bnd (mvs [ret (.str "fail")]) fun s146 => newT s146]) fun s143 => newL s143) fun a142 => bnd (bnd (mvs [ofO (lk m "figures"), ret (.int 3)]) fun s148 => C 383 s148) fun a147 => itemV a142 a147]) fun s141 => newL s141) fun v140 => ret (Fl.ret v140, m)) nextF
noncomputable abbrev B_2law_piece_12 (K : Frag) (C : Or) (m : Loc) : Mo (Fl × Loc) := seqF (bnd (bnd (mvs [bnd (mvs [ret (.str "get_constant"), bnd (mvs [ret (.int 5), ret (.int 1)]) fun s152 => newT s152, bnd (mvs [ofO (lk m "figures")]) fun s153 => C 390 s153]) fun s151 => newT s151, bnd (mvs [ret (.str "neck_cut")]) fun s154 => newT s154]) fun s150 => newL s150) fun v149 => ret (Fl.ret v149, m)) nextF
noncomputable abbrev B_2law_piece_13 (K : Frag) (C : Or) (m : Loc) : Mo (Fl × Loc) := seqF (bnd (bnd (ofO (lk m "kind")) fun a139 => cmpV .Eq a139 (.int 10)) fun c138 => ifF c138 ((B_2law_piece_11 K C) m) (nextF m)) (B_2law_piece_12 K C)
noncomputable abbrev B_2law_piece_14 (K : Frag) (C : Or) (m : Loc) : Mo (Fl × Loc) := seqF (bnd (bnd (ofO (lk m "kind")) fun a132 => cmpV .Eq a132 (.int 9)) fun c131 => ifF c131 ((B_2law_piece_10 K C) m) (nextF m)) (B_2law_piece_13 K C)
noncomputable abbrev B_2law_piece_15 (K : Frag) (C : Or) (m : Loc) : Mo (Fl × Loc) := seqF (bnd (bnd (ofO (lk m "kind")) fun a124 => cmpV .Eq a124 (.int 8)) fun c123 => ifF c123 ((B_2law_piece_9 K C) m) (nextF m)) (B_2law_piece_14 K C)
noncomputable abbrev B_2law_piece_16 (K : Frag) (C : Or) (m : Loc) : Mo (Fl × Loc) := seqF (bnd (bnd (ofO (lk m "kind")) fun a116 => cmpV .Eq a116 (.int 7)) fun c115 => ifF c115 ((B_2law_piece_8 K C) m) (nextF m)) (B_2law_piece_15 K C)
noncomputable abbrev B_2law_piece_17 (K : Frag) (C : Or) (m : Loc) : Mo (Fl × Loc) := seqF (bnd (bnd (ofO (lk m "kind")) fun a111 => cmpV .Eq a111 (.int 6)) fun c110 => ifF c110 ((B_2law_piece_7 K C) m) (nextF m)) (B_2law_piece_16 K C)
noncomputable abbrev B_2law_piece_18 (K : Frag) (C : Or) (m : Loc) : Mo (Fl × Loc) := seqF (bnd (bnd (ofO (lk m "kind")) fun a99 => cmpV .Eq a99 (.int 5)) fun c98 => ifF c98 ((B_2law_piece_6 K C) m) (nextF m)) (B_2law_piece_17 K C)
noncomputable abbrev B_2law_piece_19 (K : Frag) (C : Or) (m : Loc) : Mo (Fl × Loc) := seqF (bnd (bnd (ofO (lk m "kind")) fun a93 => cmpV .Eq a93 (.int 4)) fun c92 => ifF c92 ((B_2law_piece_5 K C) m) (nextF m)) (B_2law_piece_18 K C)
noncomputable abbrev B_2law_piece_20 (K : Frag) (C : Or) (m : Loc) : Mo (Fl × Loc) := seqF (bnd (bnd (ofO (lk m "kind")) fun a83 => cmpV .Eq a83 (.int 3)) fun c82 => ifF c82 ((B_2law_piece_4 K C) m) (nextF m)) (B_2law_piece_19 K C)
noncomputable abbrev B_2law_piece_21 (K : Frag) (C : Or) (m : Loc) : Mo (Fl × Loc) := seqF (bnd (bnd (ofO (lk m "kind")) fun a74 => cmpV .Eq a74 (.int 2)) fun c73 => ifF c73 ((B_2law_piece_3 K C) m) (nextF m)) (B_2law_piece_20 K C)
noncomputable abbrev B_2law_piece_22 (K : Frag) (C : Or) (m : Loc) : Mo (Fl × Loc) := seqF (bnd (bnd (ofO (lk m "kind")) fun a67 => cmpV .Eq a67 (.int 1)) fun c66 => ifF c66 ((B_2law_piece_2 K C) m) (nextF m)) (B_2law_piece_21 K C)
noncomputable abbrev B_2law_piece_23 (K : Frag) (C : Or) (m : Loc) : Mo (Fl × Loc) := seqF (bnd (bnd (ofO (lk m "kind")) fun a57 => cmpV .Eq a57 (.int 0)) fun c56 => ifF c56 ((B_2law_piece_1 K C) m) (nextF m)) (B_2law_piece_22 K C)
noncomputable def B_2law_piece (K : Frag) (C : Or) (m : Loc) : Mo (Fl × Loc) := seqF (bnd (bnd (mvs [ofO (lk m "figures"), ret (.int 12)]) fun s55 => C 383 s55) fun v54 => ret (Fl.next, put m "kind" v54)) (B_2law_piece_23 K C)

noncomputable abbrev B_2law_exchanged_1 (K : Frag) (C : Or) (m : Loc) : Mo (Fl × Loc) := seqF (bnd (bnd (ofO (lk m "parts")) fun a168 => bnd (methOf K a168 "append") fun f169 => bnd (mvs [bnd (mvs [ret (.str "x"), ret (.int 5)]) fun s171 => newT s171]) fun s170 => callM K C f169 a168 s170) fun v167 => grd (noRef v167) (ret (Fl.next, m))) nextF
noncomputable abbrev B_2law_exchanged_2 (K : Frag) (C : Or) (m : Loc) : Mo (Fl × Loc) := seqF (bnd (bnd (ofO (lk m "parts")) fun a177 => bnd (methOf K a177 "append") fun f178 => bnd (mvs [bnd (mvs [ret (.str "x"), ret (.int 3)]) fun s180 => newT s180]) fun s179 => callM K C f178 a177 s179) fun v176 => grd (noRef v176) (ret (Fl.next, m))) nextF
noncomputable abbrev B_2law_exchanged_3 (K : Frag) (C : Or) (m : Loc) : Mo (Fl × Loc) := seqF (bnd (bnd (ofO (lk m "parts")) fun a182 => bnd (methOf K a182 "append") fun f183 => bnd (mvs [ofO (lk m "part")]) fun s184 => callM K C f183 a182 s184) fun v181 => grd (noRef v181) (ret (Fl.next, m))) nextF
noncomputable abbrev B_2law_exchanged_4 (K : Frag) (C : Or) (m : Loc) : Mo (Fl × Loc) := seqF (bnd (bnd (ofO (lk m "part")) fun a173 => bnd (bnd (mvs [ret (.str "x"), ret (.int 5)]) fun s175 => newT s175) fun a174 => cmpV .Eq a173 a174) fun c172 => ifF c172 ((B_2law_exchanged_2 K C) m) ((B_2law_exchanged_3 K C) m)) nextF
noncomputable abbrev B_2law_exchanged_5 (K : Frag) (C : Or) (m : Loc) : Mo (Fl × Loc) := seqF (bnd (bnd (ofO (lk m "part")) fun a164 => bnd (bnd (mvs [ret (.str "x"), ret (.int 3)]) fun s166 => newT s166) fun a165 => cmpV .Eq a164 a165) fun c163 => ifF c163 ((B_2law_exchanged_1 K C) m) ((B_2law_exchanged_4 K C) m)) nextF
noncomputable abbrev B_2law_exchanged_6 (K : Frag) (C : Or) (m : Loc) : Mo (Fl × Loc) := seqF (bnd (bnd (ofO (lk m "made")) fun a186 => bnd (methOf K a186 "append") fun f187 => bnd (mvs [bnd (mvs [ofO (lk m "parts")]) fun s189 => tTuple s189]) fun s188 => callM K C f187 a186 s188) fun v185 => grd (noRef v185) (ret (Fl.next, m))) nextF
noncomputable abbrev B_2law_exchanged_7 (K : Frag) (C : Or) (m : Loc) : Mo (Fl × Loc) := seqF (bnd (ofO (lk m "row")) fun a161 => bnd (iterV a161) fun i162 => forV "part" (B_2law_exchanged_5 K C) 4096 i162 m) (B_2law_exchanged_6 K C)
noncomputable abbrev B_2law_exchanged_8 (K : Frag) (C : Or) (m : Loc) : Mo (Fl × Loc) := seqF (bnd (bnd (mvs []) fun s160 => newL s160) fun v159 => ret (Fl.next, put m "parts" v159)) (B_2law_exchanged_7 K C)
noncomputable abbrev B_2law_exchanged_9 (K : Frag) (C : Or) (m : Loc) : Mo (Fl × Loc) := seqF (bnd (ofO (lk m "made")) fun v190 => ret (Fl.ret v190, m)) nextF
noncomputable abbrev B_2law_exchanged_10 (K : Frag) (C : Or) (m : Loc) : Mo (Fl × Loc) := seqF (bnd (ofO (lk m "rows")) fun a157 => bnd (iterV a157) fun i158 => forV "row" (B_2law_exchanged_8 K C) 4096 i158 m) (B_2law_exchanged_9 K C)
noncomputable def B_2law_exchanged (K : Frag) (C : Or) (m : Loc) : Mo (Fl × Loc) := seqF (bnd (bnd (mvs []) fun s156 => newL s156) fun v155 => ret (Fl.next, put m "made" v155)) (B_2law_exchanged_10 K C)

noncomputable abbrev B_2law_place_1 (K : Frag) (C : Or) (m : Loc) : Mo (Fl × Loc) := seqF (bnd (bnd (bnd (mvs [ofO (lk m "rows")]) fun s195 => bLen s195) fun a194 => binV .Add a194 (.int 1)) fun v193 => ret (Fl.ret v193, m)) nextF
noncomputable abbrev B_2law_place_2 (K : Frag) (C : Or) (m : Loc) : Mo (Fl × Loc) := seqF (bnd (bnd (mvs [bnd (bnd (ofO (lk m "told")) fun a199 => bnd (methOf K a199 "split") fun f200 => bnd (mvs [ret (.str ":")]) fun s201 => callM K C f200 a199 s201) fun a198 => itemV a198 (.int 0)]) fun s197 => tInt s197) fun v196 => ret (Fl.ret v196, m)) nextF
noncomputable def B_2law_place (K : Frag) (C : Or) (m : Loc) : Mo (Fl × Loc) := seqF (bnd (bnd (ofO (lk m "told")) fun a192 => cmpV .Eq a192 (.str "")) fun c191 => ifF c191 ((B_2law_place_1 K C) m) (nextF m)) (B_2law_place_2 K C)

noncomputable abbrev B_2law_1 (K : Frag) (C : Or) (m : Loc) : Mo (Fl × Loc) := seqF (bnd (bnd (ofO (lk m "rows")) fun a225 => bnd (bnd (mvs [ofO (lk m "figures"), ofO (lk m "name")]) fun s227 => C 404 s227) fun a226 => binV .Add a225 a226) fun v224 => ret (Fl.next, put m "rows" v224)) nextF
noncomputable abbrev B_2law_2 (K : Frag) (C : Or) (m : Loc) : Mo (Fl × Loc) := seqF (bnd (bnd (ofO (lk m "rows")) fun a245 => bnd (methOf K a245 "insert") fun f246 => bnd (mvs [bnd (mvs [ofO (lk m "figures"), bnd (mvs [ofO (lk m "rows")]) fun s249 => bLen s249]) fun s248 => C 383 s248, bnd (ofO (lk m "piece")) fun a250 => bnd (bnd (mvs [ofO (lk m "figures"), bnd (mvs [ofO (lk m "piece")]) fun s253 => bLen s253]) fun s252 => C 383 s252) fun a251 => itemV a250 a251]) fun s247 => callM K C f246 a245 s247) fun v244 => grd (noRef v244) (ret (Fl.next, m))) nextF
noncomputable abbrev B_2law_3 (K : Frag) (C : Or) (m : Loc) : Mo (Fl × Loc) := seqF (bnd (bnd (mvs [ofO (lk m "figures"), ofO (lk m "name")]) fun s243 => C 404 s243) fun v242 => ret (Fl.next, put m "piece" v242)) (B_2law_2 K C)
noncomputable abbrev B_2law_4 (K : Frag) (C : Or) (m : Loc) : Mo (Fl × Loc) := seqF (bnd (bnd (ofO (lk m "tail")) fun a266 => bnd (methOf K a266 "append") fun f267 => bnd (mvs [bnd (ofO (lk m "piece")) fun a269 => bnd (bnd (mvs [ofO (lk m "figures"), bnd (mvs [ofO (lk m "piece")]) fun s272 => bLen s272]) fun s271 => C 383 s271) fun a270 => itemV a269 a270]) fun s268 => callM K C f267 a266 s268) fun v265 => grd (noRef v265) (ret (Fl.next, m))) nextF
noncomputable abbrev B_2law_5 (K : Frag) (C : Or) (m : Loc) : Mo (Fl × Loc) := seqF (bnd (bnd (mvs [ofO (lk m "figures"), ofO (lk m "name")]) fun s264 => C 404 s264) fun v263 => ret (Fl.next, put m "piece" v263)) (B_2law_4 K C)
noncomputable abbrev B_2law_6 (K : Frag) (C : Or) (m : Loc) : Mo (Fl × Loc) := seqF (bnd (ret (.bool false)) fun v283 => ret (Fl.ret v283, m)) nextF
noncomputable abbrev B_2law_7 (K : Frag) (C : Or) (m : Loc) : Mo (Fl × Loc) := seqF (bnd (ret (.bool false)) fun v296 => ret (Fl.ret v296, m)) nextF
noncomputable abbrev B_2law_8 (K : Frag) (C : Or) (m : Loc) : Mo (Fl × Loc) := seqF (bnd (bnd (bnd (mvs [ofO (lk m "signs"), ofO (lk m "wide"), bnd (bnd (ofO (lk m "rows")) fun a292 => optI (bnd (ofO (lk m "place")) fun a293 => binV .Add a293 (.int 1)) fun h => sliceV a292 none h) fun a291 => bnd (ofO (lk m "tail")) fun a294 => binV .Add a291 a294]) fun s290 => C 369 s290) fun a289 => bnd (ofO (lk m "told")) fun a295 => cmpV .NotEq a289 a295) fun c288 => ifF c288 ((B_2law_7 K C) m) (nextF m)) nextF
noncomputable abbrev B_2law_9 (K : Frag) (C : Or) (m : Loc) : Mo (Fl × Loc) := seqF (bnd (ofO (lk m "place")) fun v304 => ret (Fl.next, put m "ahead" v304)) nextF
noncomputable abbrev B_2law_10 (K : Frag) (C : Or) (m : Loc) : Mo (Fl × Loc) := seqF (bnd (ret (.bool false)) fun v313 => ret (Fl.ret v313, m)) nextF
noncomputable abbrev B_2law_11 (K : Frag) (C : Or) (m : Loc) : Mo (Fl × Loc) := seqF (bnd (ret (.bool false)) fun v329 => ret (Fl.ret v329, m)) nextF
noncomputable abbrev B_2law_12 (K : Frag) (C : Or) (m : Loc) : Mo (Fl × Loc) := seqF (bnd (ret (.bool false)) fun v342 => ret (Fl.ret v342, m)) nextF
noncomputable abbrev B_2law_13 (K : Frag) (C : Or) (m : Loc) : Mo (Fl × Loc) := seqF (bnd (bnd (bnd (bnd (ofO (lk m "due")) fun a357 => itemV a357 (.int 1)) fun a356 => cmpV .Eq a356 (.str "x3")) fun c355 => ifF c355 (ret (.str "x5")) (ret (.str "x3"))) fun v354 => bnd (ofO (lk m "due")) fun a358 => bnd (setItemV a358 (.int 1) v354) fun zz => ret (Fl.next, m)) nextF
noncomputable abbrev B_2law_14 (K : Frag) (C : Or) (m : Loc) : Mo (Fl × Loc) := seqF (bnd (ret (.bool false)) fun v366 => ret (Fl.ret v366, m)) nextF
noncomputable abbrev B_2law_15 (K : Frag) (C : Or) (m : Loc) : Mo (Fl × Loc) := seqF (bnd (bnd (bnd (mvs [bnd (mvs [ofO (lk m "signs"), bnd (ofO (lk m "wide")) fun a371 => binV .Add a371 (.int 1), ofO (lk m "rows")]) fun s370 => C 369 s370, ofO (lk m "rows")]) fun s369 => C 418 s369) fun a368 => bnd (ofO (lk m "place")) fun a372 => bnd (cmpV .GtE a368 a372) fun c373 => ret (.bool c373)) fun v367 => ret (Fl.ret v367, m)) nextF
noncomputable abbrev B_2law_16 (K : Frag) (C : Or) (m : Loc) : Mo (Fl × Loc) := seqF (bnd (bnd (bnd (mvs [ofO (lk m "signs"), ofO (lk m "wide"), bnd (mvs [ofO (lk m "rows")]) fun s362 => C 411 s362]) fun s361 => C 369 s361) fun a360 => bnd (bnd (methOf K (.str " ") "join") fun f364 => bnd (mvs [ofO (lk m "due")]) fun s365 => callM K C f364 (.str " ") s365) fun a363 => cmpV .NotEq a360 a363) fun c359 => ifF c359 ((B_2law_14 K C) m) (nextF m)) (B_2law_15 K C)
noncomputable abbrev B_2law_17 (K : Frag) (C : Or) (m : Loc) : Mo (Fl × Loc) := seqF (bnd (allV .And [bnd (bnd (mvs [ofO (lk m "due")]) fun s349 => bLen s349) fun a348 => cmpV .Gt a348 (.int 1), bnd (bnd (ofO (lk m "due")) fun a351 => itemV a351 (.int 1)) fun a350 => bnd (bnd (mvs [ret (.str "x3"), ret (.str "x5")]) fun s353 => newT s353) fun a352 => cmpV .In a350 a352]) fun c347 => ifF c347 ((B_2law_13 K C) m) (nextF m)) (B_2law_16 K C)
noncomputable abbrev B_2law_18 (K : Frag) (C : Or) (m : Loc) : Mo (Fl × Loc) := seqF (bnd (bnd (ofO (lk m "told")) fun a344 => bnd (methOf K a344 "split") fun f345 => bnd (mvs [ret (.str " ")]) fun s346 => callM K C f345 a344 s346) fun v343 => ret (Fl.next, put m "due" v343)) (B_2law_17 K C)
noncomputable abbrev B_2law_19 (K : Frag) (C : Or) (m : Loc) : Mo (Fl × Loc) := seqF (bnd (bnd (bnd (mvs [ofO (lk m "signs"), ofO (lk m "wide"), bnd (bnd (bnd (ofO (lk m "rows")) fun a335 => optI (ofO (lk m "ahead")) fun h => sliceV a335 none h) fun a334 => bnd (bnd (mvs [bnd (mvs [ret (.str "fail")]) fun s338 => newT s338]) fun s337 => newL s337) fun a336 => binV .Add a334 a336) fun a333 => bnd (bnd (ofO (lk m "rows")) fun a340 => optI (ofO (lk m "ahead")) fun l => sliceV a340 l none) fun a339 => binV .Add a333 a339]) fun s332 => C 369 s332) fun a331 => bnd (ofO (lk m "first")) fun a341 => cmpV .NotEq a331 a341) fun c330 => ifF c330 ((B_2law_12 K C) m) (nextF m)) (B_2law_18 K C)
noncomputable abbrev B_2law_20 (K : Frag) (C : Or) (m : Loc) : Mo (Fl × Loc) := seqF (bnd (allV .And [bnd (ofO (lk m "first")) fun a322 => cmpV .NotEq a322 (.str ""), bnd (bnd (bnd (ofO (lk m "first")) fun a324 => bnd (methOf K a324 "startswith") fun f325 => bnd (mvs [bnd (bnd (mvs [ofO (lk m "ahead")]) fun s328 => tStr s328) fun a327 => binV .Add a327 (.str ": ")]) fun s326 => callM K C f325 a324 s326) asB) fun c323 => ret (!c323)]) fun c321 => ifF c321 ((B_2law_11 K C) m) (nextF m)) (B_2law_19 K C)
noncomputable abbrev B_2law_21 (K : Frag) (C : Or) (m : Loc) : Mo (Fl × Loc) := seqF (bnd (bnd (mvs [ofO (lk m "signs"), ofO (lk m "wide"), bnd (bnd (ofO (lk m "rows")) fun a317 => optI (ofO (lk m "ahead")) fun h => sliceV a317 none h) fun a316 => bnd (bnd (mvs [bnd (mvs [ret (.str "fail")]) fun s320 => newT s320]) fun s319 => newL s319) fun a318 => binV .Add a316 a318]) fun s315 => C 369 s315) fun v314 => ret (Fl.next, put m "first" v314)) (B_2law_20 K C)
noncomputable abbrev B_2law_22 (K : Frag) (C : Or) (m : Loc) : Mo (Fl × Loc) := seqF (bnd (bnd (bnd (mvs [ofO (lk m "signs"), ofO (lk m "wide"), bnd (ofO (lk m "rows")) fun a308 => optI (ofO (lk m "ahead")) fun h => sliceV a308 none h]) fun s307 => C 369 s307) fun a306 => bnd (bnd (mvs [ret (.str ""), bnd (bnd (mvs [ofO (lk m "ahead")]) fun s312 => tStr s312) fun a311 => binV .Add a311 (.str ": the clause has no end")]) fun s310 => newT s310) fun a309 => cmpV .NotIn a306 a309) fun c305 => ifF c305 ((B_2law_10 K C) m) (nextF m)) (B_2law_21 K C)
noncomputable abbrev B_2law_23 (K : Frag) (C : Or) (m : Loc) : Mo (Fl × Loc) := seqF (bnd (bnd (ofO (lk m "ahead")) fun a302 => bnd (ofO (lk m "place")) fun a303 => cmpV .Gt a302 a303) fun c301 => ifF c301 ((B_2law_9 K C) m) (nextF m)) (B_2law_22 K C)
noncomputable abbrev B_2law_24 (K : Frag) (C : Or) (m : Loc) : Mo (Fl × Loc) := seqF (bnd (bnd (mvs [ofO (lk m "figures"), bnd (bnd (mvs [ofO (lk m "rows")]) fun s300 => bLen s300) fun a299 => binV .Add a299 (.int 1)]) fun s298 => C 383 s298) fun v297 => ret (Fl.next, put m "ahead" v297)) (B_2law_23 K C)
noncomputable abbrev B_2law_25 (K : Frag) (C : Or) (m : Loc) : Mo (Fl × Loc) := seqF (bnd (bnd (ofO (lk m "place")) fun a285 => bnd (bnd (mvs [ofO (lk m "rows")]) fun s287 => bLen s287) fun a286 => cmpV .Lt a285 a286) fun c284 => ifF c284 ((B_2law_8 K C) m) (nextF m)) (B_2law_24 K C)
noncomputable abbrev B_2law_26 (K : Frag) (C : Or) (m : Loc) : Mo (Fl × Loc) := seqF (bnd (allV .And [bnd (ofO (lk m "told")) fun a278 => cmpV .NotEq a278 (.str ""), allV .Or [bnd (ofO (lk m "place")) fun a279 => cmpV .Lt a279 (.int 0), bnd (ofO (lk m "place")) fun a280 => bnd (bnd (mvs [ofO (lk m "rows")]) fun s282 => bLen s282) fun a281 => cmpV .Gt a280 a281]]) fun c277 => ifF c277 ((B_2law_6 K C) m) (nextF m)) (B_2law_25 K C)
noncomputable abbrev B_2law_27 (K : Frag) (C : Or) (m : Loc) : Mo (Fl × Loc) := seqF (bnd (bnd (mvs [ofO (lk m "told"), ofO (lk m "rows")]) fun s276 => C 418 s276) fun v275 => ret (Fl.next, put m "place" v275)) (B_2law_26 K C)
noncomputable abbrev B_2law_28 (K : Frag) (C : Or) (m : Loc) : Mo (Fl × Loc) := seqF (bnd (bnd (mvs [ofO (lk m "signs"), ofO (lk m "wide"), ofO (lk m "rows")]) fun s274 => C 369 s274) fun v273 => ret (Fl.next, put m "told" v273)) (B_2law_27 K C)
noncomputable abbrev B_2law_29 (K : Frag) (C : Or) (m : Loc) : Mo (Fl × Loc) := seqF (bnd (bnd (mvs [bnd (bnd (mvs [ret (.int 1), ret (.int 0), ret (.int 2), ret (.int 3)]) fun s259 => newL s259) fun a258 => bnd (bnd (mvs [ofO (lk m "figures"), ret (.int 4)]) fun s261 => C 383 s261) fun a260 => itemV a258 a260]) fun s257 => tRange s257) fun a256 => bnd (iterV a256) fun i262 => forV "turn" (B_2law_5 K C) 4096 i262 m) (B_2law_28 K C)
noncomputable abbrev B_2law_30 (K : Frag) (C : Or) (m : Loc) : Mo (Fl × Loc) := seqF (bnd (bnd (mvs []) fun s255 => newL s255) fun v254 => ret (Fl.next, put m "tail" v254)) (B_2law_29 K C)
noncomputable abbrev B_2law_31 (K : Frag) (C : Or) (m : Loc) : Mo (Fl × Loc) := seqF (bnd (bnd (mvs [bnd (mvs [ofO (lk m "figures"), ret (.int 3)]) fun s240 => C 383 s240]) fun s239 => tRange s239) fun a238 => bnd (iterV a238) fun i241 => forV "turn" (B_2law_3 K C) 4096 i241 m) (B_2law_30 K C)
noncomputable abbrev B_2law_32 (K : Frag) (C : Or) (m : Loc) : Mo (Fl × Loc) := seqF (bnd (bnd (ofO (lk m "rows")) fun a229 => bnd (methOf K a229 "append") fun f230 => bnd (mvs [bnd (bnd (mvs [bnd (mvs [ret (.str "proceed")]) fun s234 => newT s234, bnd (mvs [ret (.str "execute"), ofO (lk m "name")]) fun s235 => newT s235]) fun s233 => newL s233) fun a232 => bnd (bnd (mvs [ofO (lk m "figures"), ret (.int 2)]) fun s237 => C 383 s237) fun a236 => itemV a232 a236]) fun s231 => callM K C f230 a229 s231) fun v228 => grd (noRef v228) (ret (Fl.next, m))) (B_2law_31 K C)
noncomputable abbrev B_2law_33 (K : Frag) (C : Or) (m : Loc) : Mo (Fl × Loc) := seqF (bnd (bnd (mvs [bnd (bnd (mvs [ret (.int 2), ret (.int 0), ret (.int 1), ret (.int 3), ret (.int 4), ret (.int 5)]) fun s220 => newL s220) fun a219 => bnd (bnd (mvs [ofO (lk m "figures"), ret (.int 6)]) fun s222 => C 383 s222) fun a221 => itemV a219 a221]) fun s218 => tRange s218) fun a217 => bnd (iterV a217) fun i223 => forV "turn" (B_2law_1 K C) 4096 i223 m) (B_2law_32 K C)
noncomputable abbrev B_2law_34 (K : Frag) (C : Or) (m : Loc) : Mo (Fl × Loc) := seqF (bnd (bnd (mvs []) fun s216 => newL s216) fun v215 => ret (Fl.next, put m "rows" v215)) (B_2law_33 K C)
noncomputable abbrev B_2law_35 (K : Frag) (C : Or) (m : Loc) : Mo (Fl × Loc) := seqF (bnd (bnd (bnd (mvs [ret (.int 2), ret (.int 1), ret (.int 0)]) fun s212 => newL s212) fun a211 => bnd (bnd (mvs [ofO (lk m "figures"), ret (.int 3)]) fun s214 => C 383 s214) fun a213 => itemV a211 a213) fun v210 => ret (Fl.next, put m "wide" v210)) (B_2law_34 K C)
noncomputable abbrev B_2law_36 (K : Frag) (C : Or) (m : Loc) : Mo (Fl × Loc) := seqF (bnd (bnd (ofO (lk m "signs")) fun a207 => bnd (methOf K a207 "func") fun f208 => bnd (mvs [ret (.str "p"), ret (.int 2)]) fun s209 => callM K C f208 a207 s209) fun v206 => ret (Fl.next, put m "name" v206)) (B_2law_35 K C)
noncomputable abbrev B_2law_37 (K : Frag) (C : Or) (m : Loc) : Mo (Fl × Loc) := seqF (bnd (bnd (mvs []) fun s205 => C 162 s205) fun v204 => ret (Fl.next, put m "signs" v204)) (B_2law_36 K C)
noncomputable def B_2law (K : Frag) (C : Or) (m : Loc) : Mo (Fl × Loc) := seqF (bnd (bnd (mvs [ofO (lk m "script")]) fun s203 => C 376 s203) fun v202 => ret (Fl.next, put m "figures" v202)) (B_2law_37 K C)

structure Env2 (K : Frag) : Prop extends Env K where
  e_law_figures : Ent1 K 376 "script" B_2law_figures
  e_law_draw : Ent2 K 383 "figures" "many" B_2law_draw
  e_law_x : Ent1 K 390 "figures" B_2law_x
  e_law_any : Ent1 K 397 "figures" B_2law_any
  e_law_piece : Ent2 K 404 "figures" "name" B_2law_piece
  e_law_exchanged : Ent1 K 411 "rows" B_2law_exchanged
  e_law_place : Ent2 K 418 "told" "rows" B_2law_place
  e_law : Ent1 K 425 "script" B_2law
end P_E2
set_option hygiene false in
local macro_rules | `(tactic| walk_at "lk") => `(tactic| first | with_reducible exact lk_hit | assumption | with_reducible exact lk_put_hit | (with_reducible refine lk_miss ?_ ?_; (decide +kernel); walk_at "lk") | (with_reducible refine lk_putm ?_ ?_; (decide +kernel); walk_at "lk"))
set_option hygiene false in
local macro_rules | `(tactic| walk_at "c") => `(tactic| with_reducible first
  | refine H_m_func ‹_› ‹_› ?_
  | refine W_own (Env.k_117 ‹_›) ?_)
section P_LC0
open PySem PySem.W PyProof.Rows
set_option Elab.async false
set_option maxRecDepth 100000
set_option linter.unusedVariables false
set_option linter.unusedSectionVars false
section
variable {K : Frag} {σ0 σ σ' : Hp} {l : List (Nat × O)} (E : Env2 K)
/-! ## _law_figures (law 2) -/
theorem pyl997 (x : Int) : Builtin.divisionGoesByPylong x 997 = false := by
  unfold Builtin.divisionGoesByPylong
  simp only [show (decide ((if ((997 : Int) == 0) = true then 0 else (997 : Int).natAbs.log2 / 30 + 1) > 300)) = false by decide +kernel, Bool.false_and]
theorem W_div997 {a : Int} {Q : V → Hp → Prop} (h : Q (.int (a / 997)) σ) : W (binV .FloorDiv (.int a) (.int 997)) σ Q := by
  show W (grd (decide (0 < (997 : Int)) && !(Builtin.divisionGoesByPylong a 997)) (ret (.int (a / 997)))) σ Q
  exact W_grd (by rw [pyl997]; decide +kernel) (W_ret h)
theorem W_mod2 {a b : Int} {Q : V → Hp → Prop} (hb : 0 < b) (h : Q (.int (a % b)) σ) : W (binV .Mod (.int a) (.int b)) σ Q := W_grd (decide_eq_true hb) (W_ret h)
theorem W_mul5 {a : Int} {Q : V → Hp → Prop} (hb : Builtin.Int.intBits a ≤ 2 ^ 20) (h : Q (.int (5 * a)) σ) : W (binV .Mult (.int 5) (.int a)) σ Q := by
  show W (grd (Nat.ble (Builtin.Int.intBits 5 + Builtin.Int.intBits a) 134217728) (ret (.int (5 * a)))) σ Q
  refine W_grd (Nat.ble_eq_true_of_le ?_) (W_ret h)
  have e : Builtin.Int.intBits 5 = 3 := by decide +kernel
  rw [e]; lia
theorem L_reverse {a : Nat} {xs : List V} {Q : V → Hp → Prop} (hl : xs.length ≤ 1000) (h : Lg σ0 ((a, .list xs) :: l) σ) (q : ∀ σ', Lg σ0 ((a, .list xs.reverse) :: l) σ' → Q .none σ') : W (bReverse [.ref a]) σ Q := by
  show W (bnd (gtL a) fun xs => grd (okLen xs.length) (bnd (st a (.list xs.reverse)) fun zz => ret .none)) σ Q
  exact W_bnd (W_gtL (h.at_ _ (.head _)) (W_grd (Nat.ble_eq_true_of_le (by unfold LIM; lia)) (W_bnd ⟨_, _, rfl, W_ret (q _ (h.set1 _))⟩)))
theorem W_itemL' {i k : Nat} {j : Int} {xs : List V} {v : V} {Q : V → Hp → Prop} (ej : j = (k : Int)) (e : σ[i]? = some (.list xs)) (h2 : k ≤ 1048576) (hv : xs[k]? = some v) (h : Q v σ) : W (itemV (.ref i) (.int j)) σ Q := by
  subst ej; exact W_itemL e h2 hv h
noncomputable def figOk (L : List Int) : Prop := ∀ a ∈ L, 0 ≤ a ∧ a < 997
noncomputable abbrev turnB (K : Frag) (C : Or) : XsT := B_2law_figures_4 K C
theorem turn_loop {C : Or} {fg : Nat} {Q : Fl × Loc → Hp → Prop} : ∀ (k fuel : Nat) (j b : Int) (L : List Int) (wh : Int) (m : Loc) (σ : Hp), b = j + (k : Int) → k < fuel → L.length + k ≤ 900 → 0 ≤ wh →
    lk m "figures" = some (.ref fg) → lk m "whole" = some (.int wh) → figOk L → Lg [] ((fg, .list (L.map V.int)) :: l) σ →
    (∀ (L' : List Int) (m : Loc) (σ' : Hp), L'.length ≤ L.length + k → lk m "figures" = some (.ref fg) → figOk L' → Lg [] ((fg, .list (L'.map V.int)) :: l) σ' → Q (.next, m) σ') →
    W (forV "turn" (turnB K C) fuel (.rng j b) m) σ Q := by
  intro k
  induction k with
  | zero =>
    intro fuel j b L wh m σ hb hf hL hw f1 f2 ha h q
    obtain ⟨fuel, rfl⟩ : ∃ f, fuel = f + 1 := ⟨fuel - 1, by lia⟩
    exact W_forEnd (next_rngE (by lia)) (q L m σ (by lia) f1 ha h)
  | succ k ih =>
    intro fuel j b L wh m σ hb hf hL hw f1 f2 ha h q
    obtain ⟨fuel, rfl⟩ : ∃ f, fuel = f + 1 := ⟨fuel - 1, by lia⟩
    refine W_for (next_rng (by lia)) ?_
    have f1 : lk (put m "turn" (.int j)) "figures" = some (.ref fg) := lk_putm (by decide +kernel) f1
    have f2 : lk (put m "turn" (.int j)) "whole" = some (.int wh) := lk_putm (by decide +kernel) f2
    revert f1 f2
    generalize put m "turn" (.int j) = m1
    intro f1 f2
    unfold turnB
    walk_at "ww"
    refine W_methAppend (h.at_ _ (.head _)) ?_
    walk_at "ww"
    refine W_mod2 (by decide +kernel) ?_
    refine W_bltAppend (L_append (by simp; unfold LIM; lia) h fun σ1 h => ?_)
    have h : Lg [] ((fg, .list ((L ++ [wh % 997]).map V.int)) :: l) σ1 := by simpa using h
    have ha : figOk (L ++ [wh % 997]) := by
      intro a hx
      rcases List.mem_append.mp hx with hx | hx
      · exact ha a hx
      · rw [List.mem_singleton.mp hx]; lia
    walk_at "ww"
    refine W_div997 ?_
    walk_at "ww"
    refine W_ifF (fun e => ?_) (fun e => ?_)
    · walk_at "ww"
      exact q _ _ σ1 (by simp) (by walk_at "lk") ha h
    · walk_at "ww"
      refine ih fuel (j + 1) b (L ++ [wh % 997]) (wh / 997) _ σ1 (by lia) (by lia) (by simp; lia) (by lia) (by walk_at "lk") (by walk_at "lk") ha h ?_
      intro L' m' σ' hl
      exact q L' m' σ' (by simp at hl; lia)
noncomputable abbrev cellB (K : Frag) (C : Or) : XsT := B_2law_figures_6 K C
theorem cell_loop {C : Or} {fg sl : Nat} {ns : List Int} {Q : Fl × Loc → Hp → Prop} (hns : ∀ a ∈ ns, Builtin.Int.intBits a ≤ 2 ^ 20) (hn : ns.length ≤ 30) : ∀ (d fuel k : Nat) (L : List Int) (m : Loc) (σ : Hp), k + d = ns.length → d < fuel → L.length ≤ 24 * k →
    lk m "figures" = some (.ref fg) → figOk L → Lg [] ((fg, .list (L.map V.int)) :: (sl, .list (ns.map V.int)) :: l) σ →
    (∀ (L' : List Int) (m : Loc) (σ' : Hp), L'.length ≤ 720 → lk m "figures" = some (.ref fg) → figOk L' → Lg [] ((fg, .list (L'.map V.int)) :: (sl, .list (ns.map V.int)) :: l) σ' → Q (.next, m) σ') →
    W (forV "cell" (cellB K C) fuel (.list sl k) m) σ Q := by
  intro d
  induction d with
  | zero =>
    intro fuel k L m σ hd hf hL f1 ha h q
    obtain ⟨fuel, rfl⟩ : ∃ f, fuel = f + 1 := ⟨fuel - 1, by lia⟩
    exact W_forEnd (next_listE (h.at_ _ (.tail _ (.head _))) (by simp; lia)) (q L m σ (by lia) f1 ha h)
  | succ d ih =>
    intro fuel k L m σ hd hf hL f1 ha h q
    obtain ⟨fuel, rfl⟩ : ∃ f, fuel = f + 1 := ⟨fuel - 1, by lia⟩
    have hk : k < ns.length := by lia
    refine W_for (next_list (v := .int ns[k]) (h.at_ _ (.tail _ (.head _))) (by simp [hk])) ?_
    have f1 : lk (put m "cell" (.int ns[k])) "figures" = some (.ref fg) := lk_putm (by decide +kernel) f1
    have f2 : lk (put m "cell" (.int ns[k])) "cell" = some (.int ns[k]) := lk_put_hit
    have hbits := hns ns[k] (List.getElem_mem hk)
    revert f1 f2 hbits
    generalize put m "cell" (.int ns[k]) = m1
    generalize ns[k] = c
    intro f1 f2 hbits
    unfold cellB
    walk_at "ww"
    refine W_mono (Q := fun v σ' => ∃ wh : Int, v = .int wh ∧ 0 ≤ wh ∧ σ' = σ) ?_ ?_
    · refine W_ifF (fun e => ?_) (fun e => ?_)
      · have e : 0 ≤ c := of_decide_eq_true e
        walk_at "ww"
        exact ⟨c, rfl, e, rfl⟩
      · have e : ¬ 0 ≤ c := of_decide_eq_false e
        walk_at "ww"
        refine W_mul5 hbits ?_
        walk_at "ww"
        exact ⟨_, rfl, by lia, rfl⟩
    rintro _ _ ⟨wh, rfl, hw, rfl⟩
    walk_at "ww"
    refine W_iterR (by lia) (by lia) (by lia) (by lia) ?_
    refine turn_loop 24 4096 0 24 L wh _ _ (by lia) (by lia) (by lia) hw (by walk_at "lk") (by walk_at "lk") ha h ?_
    intro L' m' σ' hl f1 ha h
    walk_at "ww"
    exact ih fuel (k + 1) L' m' σ' (by lia) (by lia) (by lia) f1 ha h q
include E in
theorem ct2_figures {n : Nat} {ns : List Int} {Q : V → Hp → Prop} (hns : ∀ a ∈ ns, Builtin.Int.intBits a ≤ 2 ^ 20) (hn : ns.length ≤ 63) (q : ∀ (fg : Nat) (fs : List Int) σ', fs.length ≤ 90 → figOk fs → Lg [] [(fg, .list (fs.map V.int))] σ' → Q (.ref fg) σ') : W (callN K (n + 1) 376 [.flist (ns.map V.int)]) [] Q := by
  have E0 := E.toEnv
  rw [E.e_law_figures]; unfold B_2law_figures
  walk_at "ww"
  refine W_newL (by simp) (L_nw (Lg.nil []) fun fg σ1 h => ?_)
  walk_at "ww"
  have ec : cutL (ns.map V.int) none (some 30) = (ns.take 30).map V.int := by
    unfold cutL
    simp
  have hs : sliceV (.flist (ns.map V.int)) none (some 30) = newL ((ns.take 30).map V.int) := by
    show grd (okLen (ns.map V.int).length) (newL (cutL (ns.map V.int) none (some 30))) = _
    rw [ec]
    have : okLen (ns.map V.int).length = true := Nat.ble_eq_true_of_le (by simp; unfold LIM; lia)
    rw [this]; rfl
  rw [hs]
  have hl : (ns.take 30).length ≤ 30 := by simp; lia
  refine W_newL (by simp; unfold LIM; lia) (L_nw h fun sl σ1 h => ?_)
  walk_at "ww"
  refine W_iterL (h.at_ _ (.head _)) ?_
  refine cell_loop (ns := ns.take 30) (l := []) (fg := fg) (sl := sl) (fun a ha => hns a (List.mem_of_mem_take ha)) hl (ns.take 30).length 4096 0 [] _ σ1 (by lia) (by lia) (by simp) (by walk_at "lk") (fun zz h => nomatch h) (h.perm (.swap _ _ _)) ?_
  intro L m σ2 hL f1 ha h
  walk_at "ww"
  have hc : sliceV (.ref fg) none (some 90) = bnd (gtL fg) fun xs => grd (okLen xs.length) (newL (cutL xs none (some 90))) := rfl
  rw [hc]
  refine W_bnd (W_gtL (h.at_ _ (.head _)) (W_grd (Nat.ble_eq_true_of_le (by simp; unfold LIM; lia)) ?_))
  have ec : cutL (L.map V.int) none (some 90) = (L.take 90).map V.int := by
    unfold cutL
    simp
  rw [ec]
  have hl9 : (L.take 90).length ≤ 90 := by simp; lia
  refine W_newL (by simp; unfold LIM; lia) (L_nw h fun fg' σ3 h => ?_)
  have h := h.sub (l' := [(fg', _)]) (.cons_cons _ (List.nil_sublist _))
  walk_at "ww"
  refine W_methL (h.at_ _ (.head _)) (f := .blt "list.reverse") (by kernel_rfl) ?_
  walk_at "ww"
  refine W_blt (f := bReverse) (by rfl) ?_
  refine L_reverse (by simp; lia) h fun σ4 h => ?_
  walk_at "ww"
  refine q fg' (L.take 90).reverse σ4 (by simp; lia) ?_ ?_
  · intro a hx
    exact ha a (List.mem_of_mem_take (List.mem_reverse.mp hx))
  · rw [List.map_reverse]; exact h
end
end P_LC0
section P_LC1
open PySem PySem.W PyProof.Rows
set_option Elab.async false
set_option maxRecDepth 100000
set_option linter.unusedVariables false
set_option linter.unusedSectionVars false
section
variable {K : Frag} {σ0 σ σ' : Hp} {l : List (Nat × O)} (E : Env2 K)
variable {fg : Nat} {x : SX} {S : SS} {N : Nat}
/-! ## _law_draw, _law_x, _law_any, _law_place (law 2) -/
noncomputable def e2 (fg : Nat) (l0 : List (Nat × O)) : Prop := ∃ fs : List Int, fs.length ≤ 90 ∧ figOk fs ∧ l0 = [(fg, .list (fs.map V.int))]
theorem W_eqL0 {i j : Nat} {xs : List V} {Q : Bool → Hp → Prop} (hi : σ[i]? = some (.list xs)) (hj : σ[j]? = some (.list [])) (q : Q xs.isEmpty σ) : W (cmpV .Eq (.ref i) (.ref j)) σ Q := by
  show W (bnd (gtL i) fun xs => bnd (gtL j) fun ys => (match ys with
      | [] => ret xs.isEmpty
      | _ :: _ => stuck)) σ Q
  exact W_bnd (W_gtL hi (W_bnd (W_gtL hj (W_ret q))))
theorem L_pop {a : Nat} {xs : List V} {v : V} {Q : V → Hp → Prop} (hl : xs.length ≤ 1000) (h : Lg σ0 ((a, .list (xs ++ [v])) :: l) σ) (q : ∀ σ', Lg σ0 ((a, .list xs) :: l) σ' → Q v σ') : W (bPop [.ref a]) σ Q := by
  show W (bnd (gtL a) fun xs => (match xs.getLast? with
    | some v => grd (okLen xs.length) (bnd (st a (.list xs.dropLast)) fun zz => ret v)
    | none => stuck)) σ Q
  refine W_bnd (W_gtL (h.at_ _ (.head _)) ?_)
  rw [List.getLast?_concat, List.dropLast_concat]
  exact W_grd (Nat.ble_eq_true_of_le (by simp; unfold LIM; lia)) (W_bnd ⟨_, _, rfl, W_ret (q _ (h.set1 _))⟩)
include E in
theorem H_draw2 {n : Nat} {many : Int} {Q : V → Hp → Prop} (hm : 0 < many) (h : H x S N (e2 fg) l σ) (q : ∀ (v : Int) σ', 0 ≤ v → v < many → H x S N (e2 fg) l σ' → Q (.int v) σ') : W (callN K (n + 1) 383 [.ref fg, .int many]) σ Q := by
  rw [E.e_law_draw]; unfold B_2law_draw
  walk_at "ww"
  refine H_newL (by simp) h fun j σ1 h => ?_
  have hj := h.at_ (.head _)
  obtain ⟨l0, r, ⟨fs, hl, ho, rfl⟩, lg, b⟩ := h.own
  refine W_eqL0 (lg.at_ _ (.head _)) hj ?_
  walk_at "ww"
  rcases List.eq_nil_or_concat fs with rfl | ⟨gs, a, rfl⟩
  · refine W_ifT rfl ?_
    walk_at "ww"
    exact q 0 σ1 (by lia) hm h.drop
  · rw [List.concat_eq_append] at hl ho lg
    refine W_ifN (by simp) ?_
    walk_at "ww"
    refine W_methL (lg.at_ _ (.head _)) (f := .blt "list.pop") (by kernel_rfl) ?_
    walk_at "ww"
    refine W_blt (f := bPop) (by rfl) ?_
    have lg : Lg [] ((fg, .list (gs.map V.int ++ [.int a])) :: ([] ++ r)) σ1 := by simpa using lg
    have hl : gs.length ≤ 89 := by simp at hl; lia
    refine L_pop (by simp; lia) lg fun σ2 lg => ?_
    walk_at "ww"
    refine W_mod2 hm ?_
    walk_at "ww"
    have ha := ho a (List.mem_append_right _ (.head _))
    refine q _ σ2 (Int.emod_nonneg _ (by lia)) (Int.emod_lt_of_pos _ hm) (H.drop (b _ _ ⟨gs, by lia, fun c hc => ho c (List.mem_append_left _ hc), rfl⟩ lg))
noncomputable def okLx (k : Int) : Prop := 1 ≤ k ∧ k ≤ 6
theorem okLx_reg {k : Int} (h : okLx k) : okL (X k) := ⟨h.1, h.2⟩
theorem okR_of {r : Reg} (h : okL r) : okR r := by
  refine ⟨h.1, ?_⟩
  have h2 := h.2
  have h3 : r.n ≤ 6 := by split at h2 <;> lia
  exact Int.lt_of_le_of_lt h3 (by decide +kernel)
include E in
theorem H_x2 {n : Nat} {Q : V → Hp → Prop} (h : H x S N (e2 fg) l σ) (q : ∀ (k : Int) σ', okLx k → H x S N (e2 fg) l σ' → Q (xV k) σ') : W (callN K (n + 2) 390 [.ref fg]) σ Q := by
  rw [E.e_law_x]; unfold B_2law_x
  walk_at "ww"
  refine H_draw2 E (by decide) h fun v σ1 v0 v1 h => ?_
  walk_at "ww"
  exact q (1 + v) σ1 ⟨by lia, by lia⟩ h
include E in
theorem H_any2 {n : Nat} {Q : V → Hp → Prop} (h : H x S N (e2 fg) l σ) (q : ∀ (r : Reg) σ', okL r → H x S N (e2 fg) l σ' → Q r.v σ') : W (callN K (n + 3) 397 [.ref fg]) σ Q := by
  rw [E.e_law_any]; unfold B_2law_any
  walk_at "ww"
  refine H_draw2 E (by decide) h fun v σ1 v0 v1 h => ?_
  walk_at "ww"
  refine W_ifF (fun zz => ?_) (fun zz => ?_)
  · walk_at "ww"
    refine H_draw2 E (by decide) h fun v σ1 v0 v1 h => ?_
    walk_at "ww"
    exact q ⟨true, 1 + v⟩ σ1 ⟨by show (1 : Int) ≤ 1 + v; lia, by show 1 + v ≤ 3; lia⟩ h
  · walk_at "ww"
    refine H_x2 E h fun k σ2 hk h => ?_
    walk_at "ww"
    exact q (X k) σ2 (okLx_reg hk) h
theorem W_split {x y : Str} {Q : V → Hp → Prop} {C : Or} (hy : (!(y.length == 0)) = true) (hx : x.length ≤ LIM) (h : W (nw (.list ((Txt.split x y).map V.str))) σ Q) : W (callM K C (.blt "str.split") (.str x) [.str y]) σ Q := by
  refine W_blt (f := bSplit) (by rfl) ?_
  show W (grd (!(y.length == 0) && okLen x.length) (nw (.list ((Txt.split x y).map V.str)))) σ Q
  exact W_grd (by rw [hy, Bool.true_and]; exact Nat.ble_eq_true_of_le hx) h
theorem W_int {s : Str} {i : Int} {Q : V → Hp → Prop} (e : numOf s = some i) (h : Q (.int i) σ) : W (tInt [.str s]) σ Q := by
  show W (bnd (ofO (numOf s)) fun i => ret (.int i)) σ Q
  exact W_bo e (W_ret h)
noncomputable def RsOk (n : Nat) (rs : Rs) : Prop := rs.text.length ≤ 30000 ∧ match rs with | .ok => True | .noend p => p ≤ n | .bad p t => p ≤ n ∧ (t == ("" : Str)) = false
theorem text_head {rs : Rs} {n : Nat} (h : RsOk n rs) (hn : n < 60) : (rs = .ok) ∨ ((rs.text == ("" : Str)) = false ∧ rs.pl n < 60 ∧ (Txt.split rs.text ":")[0]? = some (txtI (rs.pl n : Int))) := by
  have key : ∀ (p : Nat) (t : Str), (Str.empty ++ txtI (p : Int) ++ ": " ++ t == ("" : Str)) = false := by
    intro p t
    refine ne_empty ?_
    rw [app_len, app_len]
    have : (Str.ofString ": ").length = 2 := by decide +kernel
    lia
  cases rs with
  | ok => exact .inl rfl
  | noend p =>
    have e : (Rs.noend p).text = Str.empty ++ txtI (p : Int) ++ ": " ++ "the clause has no end" := by
      show Str.empty ++ txtI (p : Int) ++ ": the clause has no end" = _
      have : (": the clause has no end" : Str) = ": " ++ "the clause has no end" := by decide +kernel
      rw [this]
      simp only [Str.append_assoc]
    have hp : p ≤ n := h.2
    rw [e]
    exact .inr ⟨key _ _, by show p < 60; lia, split_place⟩
  | bad p t =>
    have hp : p ≤ n := h.2.1
    exact .inr ⟨key _ _, by show p < 60; lia, split_place⟩
include E in
theorem H_place2 {n r : Nat} {rows : List V} {rs : Rs} {Q : V → Hp → Prop} (hr : σ[r]? = some (.list rows)) (hn : rows.length < 59) (hs : RsOk rows.length rs) (h : H x S N (e2 fg) l σ) (q : ∀ σ', H x S N (e2 fg) l σ' → Q (.int (rs.pl rows.length : Int)) σ') : W (callN K (n + 1) 418 [.str rs.text, .ref r]) σ Q := by
  rw [E.e_law_place]; unfold B_2law_place
  have ht := text_head hs (by lia)
  have hlen := hs.1
  walk_at "ww"
  rcases ht with rfl | ⟨h1, h2, h3⟩
  · refine W_ifT (beq_self_eq_true _) ?_
    walk_at "ww"
    refine W_lenL hr (by unfold LIM; lia) ?_
    walk_at "ww"
    exact q _ h
  · refine W_ifN h1 ?_
    walk_at "ww"
    refine W_methS (f := .blt "str.split") (by kernel_rfl) ?_
    walk_at "ww"
    refine W_split (by decide +kernel) (by unfold LIM; lia) (H_nw h fun i σ1 h => ?_)
    walk_at "ww"
    refine W_itemL' (k := 0) rfl (h.at_ (.head _)) (by lia) (v := .str (txtI (rs.pl rows.length : Int))) (by rw [List.getElem?_map, h3]; rfl) ?_
    walk_at "ww"
    refine W_int (numOf_txt h2) ?_
    walk_at "ww"
    exact q σ1 h.drop
end
end P_LC1
section P_LC2
open PySem PySem.W PyProof.Rows
set_option Elab.async false
set_option maxRecDepth 100000
set_option linter.unusedVariables false
set_option linter.unusedSectionVars false
section
variable {K : Frag} {σ0 σ σ' : Hp} {l : List (Nat × O)} (E : Env2 K)
variable {fg : Nat} {x : SX} {S : SS} {N : Nat}
/-! ## _law_piece (law 2) -/
noncomputable def okJ (ar : List (Int × Int)) (i : Ins) : Prop := okIns ar i ∧ okI ar i
noncomputable def okN (ar : List (Int × Int)) (f : Nat) : Prop := okF ar f ∧ arOf ar f = 2
theorem x1L : okLx 1 := ⟨by lia, by lia⟩
theorem x2L : okLx 2 := ⟨by lia, by lia⟩
theorem x3L : okLx 3 := ⟨by lia, by lia⟩
theorem x5L : okLx 5 := ⟨by lia, by lia⟩
theorem okX_of {k : Int} (h : okLx k) : okX k := okR_of (okLx_reg h)
section
variable {ar : List (Int × Int)} {r r' : Reg} {k d : Int} {f : Nat} {u : Bool}
theorem two {m1 m2 : M} (h1 : okMs m1) (h2 : okMs m2) : ∀ m ∈ [m1, m2], okMs m := by
  intro m hm
  simp only [List.mem_cons, List.not_mem_nil, or_false] at hm
  rcases hm with rfl | rfl <;> assumption
theorem one {m1 : M} (h1 : okMs m1) : ∀ m ∈ [m1], okMs m := by
  intro m hm
  rw [List.mem_singleton.mp hm]; exact h1
theorem three {m1 m2 m3 : M} (h1 : okMs m1) (h2 : okMs m2) (h3 : okMs m3) : ∀ m ∈ [m1, m2, m3], okMs m := by
  intro m hm
  simp only [List.mem_cons, List.not_mem_nil, or_false] at hm
  rcases hm with rfl | rfl | rfl <;> assumption
theorem j_void (h : 0 ≤ d) : okJ ar (.arg u (.void d)) := ⟨h, one trivial⟩
theorem j_var (h : okL r) : okJ ar (.arg u (.var r)) := ⟨okR_of h, two h trivial⟩
theorem j_val (h : okL r) : okJ ar (.arg u (.val r)) := ⟨okR_of h, two h trivial⟩
theorem j_con {b : Int} : okJ ar (.arg u (.con 5 b)) := ⟨rfl, one trivial⟩
theorem j_getVar (h : okL r) (hk : okLx k) : okJ ar (.op (.getVar r k)) := ⟨⟨okR_of h, okX_of hk⟩, two (okLx_reg hk) h⟩
theorem j_getVal (h : okL r) (hk : okLx k) : okJ ar (.op (.getVal r k)) := ⟨⟨okR_of h, okX_of hk⟩, two (okLx_reg hk) h⟩
theorem j_getCon {b : Int} (hk : okLx k) : okJ ar (.op (.getCon 5 b k)) := ⟨⟨rfl, okX_of hk⟩, one (okLx_reg hk)⟩
theorem j_getList (hk : okLx k) : okJ ar (.op (.getList k)) := ⟨okX_of hk, two (okLx_reg hk) trivial⟩
theorem j_getStr (hf : okN ar f) (hk : okLx k) : okJ ar (.op (.getStr f k)) := ⟨⟨hf.1, okX_of hk⟩, two (okLx_reg hk) trivial⟩
theorem j_putVar (h : okL r) (hk : okLx k) : okJ ar (.op (.putVar r k)) := ⟨⟨okR_of h, okX_of hk⟩, two h (okLx_reg hk)⟩
theorem j_putVal (h : okL r) (hk : okLx k) : okJ ar (.op (.putVal r k)) := ⟨⟨okR_of h, okX_of hk⟩, two h (okLx_reg hk)⟩
theorem j_putList (hk : okLx k) : okJ ar (.op (.putList k)) := ⟨okX_of hk, three (okLx_reg hk) trivial trivial⟩
theorem j_putStr (hf : okN ar f) (hk : okLx k) : okJ ar (.op (.putStr f k)) := ⟨⟨hf.1, okX_of hk⟩, three (okLx_reg hk) trivial trivial⟩
theorem j_alloc (h : 0 ≤ d) : okJ ar (.op (.alloc d)) := ⟨h, one trivial⟩
theorem j_deall : okJ ar (.op .deall) := ⟨trivial, one trivial⟩
theorem okA (hf : okN ar f) : okMs (.args (arOf ar f)) := by
  show arOf ar f ≤ 2
  rw [hf.2]; lia
theorem j_call (hf : okN ar f) (h : 0 ≤ d) : okJ ar (.op (.call f d)) := ⟨⟨hf.1, h⟩, two (okA hf) trivial⟩
theorem j_exec (hf : okN ar f) : okJ ar (.op (.exec f)) := ⟨hf.1, three trivial (okA hf) trivial⟩
theorem j_proceed : okJ ar (.op .proceed) := ⟨trivial, two trivial trivial⟩
theorem j_blt (hf : okN ar f) : okJ ar (.op (.builtin f)) := ⟨hf.1, one (okA hf)⟩
theorem j_neck : okJ ar (.op .neckCut) := ⟨trivial, fun zz h => nomatch h⟩
theorem j_mark (h : okL r) : okJ ar (.op (.mark r)) := ⟨okR_of h, one h⟩
theorem j_cut (h : okL r) : okJ ar (.op (.cutTo r)) := ⟨okR_of h, one h⟩
theorem j_fail : okJ ar (.op .fail) := ⟨trivial, one trivial⟩
theorem js1 {a : Ins} (h1 : okJ ar a) : ∀ i ∈ [a], okJ ar i := by
  intro i hi; rw [List.mem_singleton.mp hi]; exact h1
theorem js2 {a b : Ins} (h1 : okJ ar a) (h2 : okJ ar b) : ∀ i ∈ [a, b], okJ ar i := by
  intro i hi
  simp only [List.mem_cons, List.not_mem_nil, or_false] at hi
  rcases hi with rfl | rfl <;> assumption
theorem js3 {a b c : Ins} (h1 : okJ ar a) (h2 : okJ ar b) (h3 : okJ ar c) : ∀ i ∈ [a, b, c], okJ ar i := by
  intro i hi
  simp only [List.mem_cons, List.not_mem_nil, or_false] at hi
  rcases hi with rfl | rfl | rfl <;> assumption
end
include E in
theorem H_piece2 {n f : Nat} {Q : V → Hp → Prop} (hf : okN S.fs f) (h : H x S N (e2 fg) l σ) (q : ∀ (i : Nat) (P : List Ins) σ', 1 ≤ P.length → P.length ≤ 3 → (∀ j ∈ P, okJ S.fs j) → H x S N (e2 fg) ((i, .list (P.map Ins.v)) :: l) σ' → Q (.ref i) σ') : W (callN K (n + 4) 404 [.ref fg, .int (f : Int)]) σ Q := by
  have fin : ∀ (P : List Ins) (xs : List V) (σ : Hp), xs = P.map Ins.v → 1 ≤ P.length → P.length ≤ 3 → (∀ j ∈ P, okJ S.fs j) → H x S N (e2 fg) l σ → W (newL xs) σ Q := by
    intro P xs σ e h1 h3 ho h
    subst e
    exact H_newL (by simp; lia) h fun i σ' h => q i P σ' h1 h3 ho h
  rw [E.e_law_piece]; unfold B_2law_piece
  walk_at "ww"
  refine H_draw2 E (by decide) h fun v σ1 v0 v1 h => ?_
  walk_at "ww"
  refine W_ifF (fun zz => ?_) (fun zz => ?_)
  · walk_at "ww"
    refine H_x2 E h fun k σ2 hk h => ?_
    walk_at "ww"
    refine W_mono (fin [.op (.putStr f 3), .arg false (.val (X k)), .arg false (.con 5 4)] _ _ rfl (by simp) (by simp) (js3 (j_putStr hf x3L) (j_val (okLx_reg hk)) j_con) h) fun a σ' h => ?_
    walk_at "ww"
    exact h
  walk_at "ww"
  refine W_ifF (fun zz => ?_) (fun zz => ?_)
  · walk_at "ww"
    refine H_any2 E h fun r σ2 hr h => ?_
    walk_at "ww"
    refine H_x2 E h fun k σ2 hk h => ?_
    walk_at "ww"
    refine W_mono (fin [.op (.getVar r k)] _ _ rfl (by simp) (by simp) (js1 (j_getVar hr hk)) h) fun a σ' h => ?_
    walk_at "ww"
    exact h
  walk_at "ww"
  refine W_ifF (fun zz => ?_) (fun zz => ?_)
  · walk_at "ww"
    refine H_x2 E h fun k σ2 hk h => ?_
    walk_at "ww"
    refine H_any2 E h fun r σ2 hr h => ?_
    walk_at "ww"
    refine W_mono (fin [.op (.getList k), .arg true (.var r), .arg true (.void 1)] _ _ rfl (by simp) (by simp) (js3 (j_getList hk) (j_var hr) (j_void (by lia))) h) fun a σ' h => ?_
    walk_at "ww"
    exact h
  walk_at "ww"
  refine W_ifF (fun zz => ?_) (fun zz => ?_)
  · walk_at "ww"
    refine H_any2 E h fun r σ2 hr h => ?_
    walk_at "ww"
    refine W_mono (fin [.op (.getStr f 1), .arg true (.var (X 5)), .arg true (.val r)] _ _ rfl (by simp) (by simp) (js3 (j_getStr hf x1L) (j_var (okLx_reg x5L)) (j_val hr)) h) fun a σ' h => ?_
    walk_at "ww"
    exact h
  walk_at "ww"
  refine W_ifF (fun zz => ?_) (fun zz => ?_)
  · walk_at "ww"
    refine H_draw2 E (by decide) h fun d σ1 d0 d1 h => ?_
    walk_at "ww"
    refine W_mono (fin [.op (.alloc d)] _ _ rfl (by simp) (by simp) (js1 (j_alloc d0)) h) fun a σ' h => ?_
    walk_at "ww"
    exact h
  walk_at "ww"
  refine W_ifF (fun zz => ?_) (fun zz => ?_)
  · walk_at "ww"
    refine H_any2 E h fun r σ2 hr h => ?_
    walk_at "ww"
    refine H_any2 E h fun r' σ2 hr' h => ?_
    walk_at "ww"
    refine H_draw2 E (by decide) h fun d σ1 d0 d1 h => ?_
    walk_at "ww"
    refine W_mono (fin [.op (.putVal r 1), .op (.putVar r' 2), .op (.call f d)] _ _ rfl (by simp) (by simp) (js3 (j_putVal hr x1L) (j_putVar hr' x2L) (j_call hf d0)) h) fun a σ' h => ?_
    walk_at "ww"
    exact h
  walk_at "ww"
  refine W_ifF (fun zz => ?_) (fun zz => ?_)
  · walk_at "ww"
    refine W_mono (fin [.op .deall] _ _ rfl (by simp) (by simp) (js1 j_deall) h) fun a σ' h => ?_
    walk_at "ww"
    exact h
  walk_at "ww"
  refine W_ifF (fun zz => ?_) (fun zz => ?_)
  · walk_at "ww"
    refine H_x2 E h fun k σ2 hk h => ?_
    walk_at "ww"
    refine W_mono (fin [.op (.putList k), .arg false (.void 2), .op (.builtin f)] _ _ rfl (by simp) (by simp) (js3 (j_putList hk) (j_void (by lia)) (j_blt hf)) h) fun a σ' h => ?_
    walk_at "ww"
    exact h
  walk_at "ww"
  refine W_ifF (fun zz => ?_) (fun zz => ?_)
  · walk_at "ww"
    refine H_any2 E h fun r σ2 hr h => ?_
    walk_at "ww"
    refine H_any2 E h fun r' σ2 hr' h => ?_
    walk_at "ww"
    refine W_mono (fin [.op (.mark r), .op (.cutTo r')] _ _ rfl (by simp) (by simp) (js2 (j_mark hr) (j_cut hr')) h) fun a σ' h => ?_
    walk_at "ww"
    exact h
  walk_at "ww"
  refine W_ifF (fun zz => ?_) (fun zz => ?_)
  · walk_at "ww"
    refine H_any2 E h fun r σ2 hr h => ?_
    walk_at "ww"
    refine H_x2 E h fun k σ2 hk h => ?_
    walk_at "ww"
    refine W_mono (fin [.op (.getVal r k)] _ _ rfl (by simp) (by simp) (js1 (j_getVal hr hk)) h) fun a σ' h => ?_
    walk_at "ww"
    exact h
  walk_at "ww"
  refine W_ifF (fun zz => ?_) (fun zz => ?_)
  · walk_at "ww"
    refine H_newL (by simp) h fun i σ1 h => ?_
    walk_at "ww"
    refine H_draw2 E (by decide) h fun d σ1 d0 d1 h => ?_
    obtain ⟨d, rfl⟩ := Int.eq_ofNat_of_zero_le d0
    have hd : d = 0 ∨ d = 1 ∨ d = 2 := by lia
    have hp : ∃ o : Ins, okJ S.fs o ∧ ([(Ins.op .proceed).v, (Ins.op (.exec f)).v, (Ins.op .fail).v] : List V)[d]? = some o.v := by
      rcases hd with rfl | rfl | rfl
      · exact ⟨_, j_proceed, rfl⟩
      · exact ⟨_, j_exec hf, rfl⟩
      · exact ⟨_, j_fail, rfl⟩
    obtain ⟨o, ho, hv⟩ := hp
    refine W_itemL' (k := d) rfl (h.at_ (.head _)) (by lia) (v := o.v) hv ?_
    walk_at "ww"
    refine W_mono (fin [o] _ _ rfl (by simp) (by simp) (js1 ho) h.drop) fun a σ' h => ?_
    walk_at "ww"
    exact h
  walk_at "ww"
  refine H_x2 E h fun k σ2 hk h => ?_
  walk_at "ww"
  refine W_mono (fin [.op (.getCon 5 1 k), .op .neckCut] _ _ rfl (by simp) (by simp) (js2 (j_getCon hk) j_neck) h) fun a σ' h => ?_
  walk_at "ww"
  exact h
end
end P_LC2
section P_LC3
open PySem PySem.W PyProof.Rows
set_option Elab.async false
set_option maxRecDepth 100000
set_option linter.unusedVariables false
set_option linter.unusedSectionVars false
section
variable {K : Frag} {σ0 σ σ' : Hp} {l : List (Nat × O)} (E : Env2 K)
variable {fg : Nat} {x : SX} {S : SS} {N : Nat} {e : List (Nat × O) → Prop}
/-! ## _law_exchanged (law 2) -/
inductive PV : V → V → Prop where
  | s (s : Str) : PV (.str s) (.str s)
  | i (i : Int) : PV (.int i) (.int i)
  | c (a b : Int) : PV (.tup [.int a, .int b]) (.tup [.int a, .int b])
  | x (n : Int) : PV (.tup [.str "x", .int n]) (.tup [.str "x", .int (sx n)])
  | y (n : Int) : PV (.tup [.str "y", .int n]) (.tup [.str "y", .int n])
theorem PV.r (r : Reg) : PV r.v r.sx.v := by
  obtain ⟨y, n⟩ := r
  cases y
  · exact PV.x n
  · exact PV.y n
theorem W_eqP {v v' : V} {k : Int} {Q : Bool → Hp → Prop} (h : PV v v') (q : ∀ b : Bool, (b = true → v = xV k) → (b = false → v ≠ xV k) → Q b σ) : W (cmpV .Eq v (.tup [.str "x", .int k])) σ Q := by
  cases h with
  | s s => exact W_ofO (a := false) rfl (q false (fun h => nomatch h) (fun zz h => nomatch h))
  | i i => exact W_ofO (a := false) rfl (q false (fun h => nomatch h) (fun zz h => nomatch h))
  | c a b => exact W_ofO (a := false) rfl (q false (fun h => nomatch h) (fun zz h => by unfold xV at h; injection h with h; injection h with h _; cases h))
  | x n =>
    have ex : (("x" : Str) == ("x" : Str)) = true := beq_self_eq_true _
    show W (ofO (eqV (.tup [.str "x", .int n]) (.tup [.str "x", .int k]))) σ Q
    refine W_ofO (a := (n == k)) ?_ (q _ (fun h => ?_) (fun h h' => ?_))
    · show some (((("x" : Str) == ("x" : Str)) && ((n == k) && true)) && true) = _
      rw [ex]; simp
    · rw [eq_of_beq h]; rfl
    · unfold xV at h'
      injection h' with h'
      injection h' with _ h'
      injection h' with h' _
      injection h' with h'
      rw [h', beq_self_eq_true] at h; cases h
  | y n =>
    have ex : (("y" : Str) == ("x" : Str)) = false := by decide +kernel
    show W (ofO (eqV (.tup [.str "y", .int n]) (.tup [.str "x", .int k]))) σ Q
    refine W_ofO (a := false) ?_ (q false (fun h => nomatch h) (fun zz h => ?_))
    · show some (((("y" : Str) == ("x" : Str)) && ((n == k) && true)) && true) = _
      rw [ex]; rfl
    · unfold xV at h
      injection h with h
      injection h with h _
      injection h with h
      rw [h, beq_self_eq_true] at ex; cases ex
theorem PV_x {v v' : V} {k : Int} (h : PV v v') (e : v = xV k) : v' = xV (sx k) := by
  unfold xV at e
  cases h with
  | s s => cases e
  | i i => cases e
  | c a b => injection e with e; injection e with e _; cases e
  | x n =>
    injection e with e
    injection e with _ e
    injection e with e _
    injection e with e
    rw [e]; rfl
  | y n =>
    injection e with e
    injection e with e _
    injection e with e
    have ex : (("y" : Str) == ("x" : Str)) = false := by decide +kernel
    rw [e, beq_self_eq_true] at ex; cases ex
theorem PV_other {v v' : V} (h : PV v v') (h3 : v ≠ xV 3) (h5 : v ≠ xV 5) : v' = v := by
  cases h with
  | x n =>
    have hn : sx n = n := by
      unfold sx
      rw [if_neg (fun e => h3 (by rw [e]; rfl)), if_neg (fun e => h5 (by rw [e]; rfl))]
    rw [hn]
  | _ => rfl
theorem ins_parts (i : Ins) : ∃ qs : List (V × V), i.v = .tup (qs.map (·.1)) ∧ i.sx.v = .tup (qs.map (·.2)) ∧ (∀ p ∈ qs, PV p.1 p.2) ∧ qs.length ≤ 3 := by
  have p1 : ∀ {a a' : V}, PV a a' → ∀ p ∈ [(a, a')], PV p.1 p.2 := by
    intro a a' h p hp; rw [List.mem_singleton.mp hp]; exact h
  have p2 : ∀ {a a' b b' : V}, PV a a' → PV b b' → ∀ p ∈ [(a, a'), (b, b')], PV p.1 p.2 := by
    intro a a' b b' h1 h2 p hp
    simp only [List.mem_cons, List.not_mem_nil, or_false] at hp
    rcases hp with rfl | rfl <;> assumption
  have p3 : ∀ {a a' b b' c c' : V}, PV a a' → PV b b' → PV c c' → ∀ p ∈ [(a, a'), (b, b'), (c, c')], PV p.1 p.2 := by
    intro a a' b b' c c' h1 h2 h3 p hp
    simp only [List.mem_cons, List.not_mem_nil, or_false] at hp
    rcases hp with rfl | rfl | rfl <;> assumption
  cases i with
  | arg u k =>
    cases k with
    | void n => exact ⟨[(_, _), (_, _)], rfl, rfl, p2 (.s _) (.i n), by simp⟩
    | var r => exact ⟨[(_, _), (_, _)], rfl, rfl, p2 (.s _) (.r r), by simp⟩
    | val r => exact ⟨[(_, _), (_, _)], rfl, rfl, p2 (.s _) (.r r), by simp⟩
    | con a b => exact ⟨[(_, _), (_, _)], rfl, rfl, p2 (.s _) (.c a b), by simp⟩
  | op o =>
    cases o with
    | getVar r k => exact ⟨[(_, _), (_, _), (_, _)], rfl, rfl, p3 (.s _) (.r r) (.x k), by simp⟩
    | getVal r k => exact ⟨[(_, _), (_, _), (_, _)], rfl, rfl, p3 (.s _) (.r r) (.x k), by simp⟩
    | getCon a b k => exact ⟨[(_, _), (_, _), (_, _)], rfl, rfl, p3 (.s _) (.c a b) (.x k), by simp⟩
    | getList k => exact ⟨[(_, _), (_, _)], rfl, rfl, p2 (.s _) (.x k), by simp⟩
    | getStr f k => exact ⟨[(_, _), (_, _), (_, _)], rfl, rfl, p3 (.s _) (.i f) (.x k), by simp⟩
    | putVar r k => exact ⟨[(_, _), (_, _), (_, _)], rfl, rfl, p3 (.s _) (.r r) (.x k), by simp⟩
    | putVal r k => exact ⟨[(_, _), (_, _), (_, _)], rfl, rfl, p3 (.s _) (.r r) (.x k), by simp⟩
    | putCon a b k => exact ⟨[(_, _), (_, _), (_, _)], rfl, rfl, p3 (.s _) (.c a b) (.x k), by simp⟩
    | putList k => exact ⟨[(_, _), (_, _)], rfl, rfl, p2 (.s _) (.x k), by simp⟩
    | putStr f k => exact ⟨[(_, _), (_, _), (_, _)], rfl, rfl, p3 (.s _) (.i f) (.x k), by simp⟩
    | alloc n => exact ⟨[(_, _), (_, _)], rfl, rfl, p2 (.s _) (.i n), by simp⟩
    | deall => exact ⟨[(_, _)], rfl, rfl, p1 (.s _), by simp⟩
    | call f n => exact ⟨[(_, _), (_, _), (_, _)], rfl, rfl, p3 (.s _) (.i f) (.i n), by simp⟩
    | exec f => exact ⟨[(_, _), (_, _)], rfl, rfl, p2 (.s _) (.i f), by simp⟩
    | proceed => exact ⟨[(_, _)], rfl, rfl, p1 (.s _), by simp⟩
    | builtin f => exact ⟨[(_, _), (_, _)], rfl, rfl, p2 (.s _) (.i f), by simp⟩
    | neckCut => exact ⟨[(_, _)], rfl, rfl, p1 (.s _), by simp⟩
    | mark r => exact ⟨[(_, _), (_, _)], rfl, rfl, p2 (.s _) (.r r), by simp⟩
    | cutTo r => exact ⟨[(_, _), (_, _)], rfl, rfl, p2 (.s _) (.r r), by simp⟩
    | fail => exact ⟨[(_, _)], rfl, rfl, p1 (.s _), by simp⟩
noncomputable abbrev partB (K : Frag) (C : Or) : XsT := B_2law_exchanged_5 K C
theorem part_loop {C : Or} {pt md r : Nat} {Q : Fl × Loc → Hp → Prop} : ∀ (qs : List (V × V)) (fuel : Nat) (D : List V) (m : Loc) (σ : Hp), (∀ p ∈ qs, PV p.1 p.2) → qs.length < fuel → D.length + qs.length ≤ 900 →
    lk m "parts" = some (.ref pt) → lk m "made" = some (.ref md) → lk m "rows" = some (.ref r) → H x S N e ((pt, .list D) :: l) σ →
    (∀ (m : Loc) (σ' : Hp), lk m "parts" = some (.ref pt) → lk m "made" = some (.ref md) → lk m "rows" = some (.ref r) → H x S N e ((pt, .list (D ++ qs.map (·.2))) :: l) σ' → Q (.next, m) σ') →
    W (forV "part" (partB K C) fuel (.items (qs.map (·.1))) m) σ Q
  | [], fuel, D, m, σ, hp, hf, hD, f1, f2, f3, h, q => by
    obtain ⟨fuel, rfl⟩ : ∃ f, fuel = f + 1 := ⟨fuel - 1, by simp at hf; lia⟩
    refine W_forEnd next_itemsE (q m σ f1 f2 f3 ?_)
    simpa using h
  | p :: qs, fuel, D, m, σ, hp, hf, hD, f1, f2, f3, h, q => by
    obtain ⟨fuel, rfl⟩ : ∃ f, fuel = f + 1 := ⟨fuel - 1, by simp at hf; lia⟩
    refine W_for next_items ?_
    obtain ⟨v, v'⟩ := p
    have hv : PV v v' := hp _ (.head _)
    have f1 : lk (put m "part" v) "parts" = some (.ref pt) := lk_putm (by decide +kernel) f1
    have f2 : lk (put m "part" v) "made" = some (.ref md) := lk_putm (by decide +kernel) f2
    have f3 : lk (put m "part" v) "rows" = some (.ref r) := lk_putm (by decide +kernel) f3
    have f4 : lk (put m "part" v) "part" = some v := lk_put_hit
    revert f1 f2 f3 f4
    show lk (put m "part" v) "parts" = some (.ref pt) → lk (put m "part" v) "made" = some (.ref md) → lk (put m "part" v) "rows" = some (.ref r) → lk (put m "part" v) "part" = some v → W (partB K C (put m "part" v)) σ _
    generalize put m "part" v = m1
    intro f1 f2 f3 f4
    have hD1 : D.length ≤ 1000 := by simp at hD; lia
    have go : ∀ σ', H x S N e ((pt, .list (D ++ [v'])) :: l) σ' → W (forV "part" (partB K C) fuel (.items (qs.map (·.1))) m1) σ' Q := by
      intro σ' h
      refine part_loop qs fuel (D ++ [v']) m1 σ' (fun p h => hp p (.tail _ h)) (by simp at hf; lia) (by simp at hD ⊢; lia) f1 f2 f3 h ?_
      intro m σ' f1 f2 f3 h
      refine q m σ' f1 f2 f3 ?_
      simpa using h
    unfold partB
    walk_at "ww"
    refine W_eqP hv fun b b1 b2 => ?_
    walk_at "ww"
    cases b with
    | true =>
      refine W_ifT rfl ?_
      have hv' : v' = xV 5 := PV_x hv (b1 rfl)
      walk_at "ww"
      refine W_methAppend (h.at_ (.head _)) ?_
      walk_at "ww"
      refine W_bltAppend (H_append hD1 h fun σ1 h => ?_)
      walk_at "ww"
      subst hv'
      exact go σ1 h
    | false =>
      refine W_ifN rfl ?_
      walk_at "ww"
      refine W_eqP hv fun b c1 c2 => ?_
      walk_at "ww"
      cases b with
      | true =>
        refine W_ifT rfl ?_
        have hv' : v' = xV 3 := PV_x hv (c1 rfl)
        walk_at "ww"
        refine W_methAppend (h.at_ (.head _)) ?_
        walk_at "ww"
        refine W_bltAppend (H_append hD1 h fun σ1 h => ?_)
        walk_at "ww"
        subst hv'
        exact go σ1 h
      | false =>
        refine W_ifN rfl ?_
        have hv' : v' = v := PV_other hv (b2 rfl) (c2 rfl)
        walk_at "ww"
        refine W_methAppend (h.at_ (.head _)) ?_
        walk_at "ww"
        refine W_bltAppend (H_append hD1 h fun σ1 h => ?_)
        walk_at "ww"
        subst hv'
        exact go σ1 h
noncomputable abbrev exRowB (K : Frag) (C : Or) : XsT := B_2law_exchanged_8 K C
theorem W_tTuple {r : Nat} {xs : List V} {Q : V → Hp → Prop} (e : σ[r]? = some (.list xs)) (hl : xs.length ≤ 1000) (q : Q (.tup xs) σ) : W (tTuple [.ref r]) σ Q := by
  show W (bnd (gtL r) fun xs => newT xs) σ Q
  refine W_bnd (W_gtL e ?_)
  show W (grd (okLen xs.length) (ret (.tup xs))) σ Q
  exact W_grd (Nat.ble_eq_true_of_le (by unfold LIM; lia)) (W_ret q)
theorem row_loop2 {C : Or} {md r : Nat} {R : List Ins} {Q : Fl × Loc → Hp → Prop} (hR : R.length ≤ 100) (hr : (r, O.list (R.map Ins.v)) ∈ l) : ∀ (d fuel k : Nat) (m : Loc) (σ : Hp), k + d = R.length → d < fuel →
    lk m "made" = some (.ref md) → lk m "rows" = some (.ref r) → H x S N e ((md, .list ((R.take k).map fun i => i.sx.v)) :: l) σ →
    (∀ (m : Loc) (σ' : Hp), lk m "made" = some (.ref md) → H x S N e ((md, .list (R.map fun i => i.sx.v)) :: l) σ' → Q (.next, m) σ') →
    W (forV "row" (exRowB K C) fuel (.list r k) m) σ Q := by
  intro d
  induction d with
  | zero =>
    intro fuel k m σ hd hf f1 f2 h q
    obtain ⟨fuel, rfl⟩ : ∃ f, fuel = f + 1 := ⟨fuel - 1, by lia⟩
    refine W_forEnd (next_listE (h.at_ (.tail _ hr)) (by simp; lia)) (q m σ f1 ?_)
    rw [List.take_of_length_le (by lia)] at h
    exact h
  | succ d ih =>
    intro fuel k m σ hd hf f1 f2 h q
    obtain ⟨fuel, rfl⟩ : ∃ f, fuel = f + 1 := ⟨fuel - 1, by lia⟩
    have hk : k < R.length := by lia
    refine W_for (next_list (v := R[k].v) (h.at_ (.tail _ hr)) (by simp [hk])) ?_
    obtain ⟨qs, q1, q2, q3, q4⟩ := ins_parts R[k]
    rw [q1]
    have f1 : lk (put m "row" (.tup (qs.map (·.1)))) "made" = some (.ref md) := lk_putm (by decide +kernel) f1
    have f2 : lk (put m "row" (.tup (qs.map (·.1)))) "rows" = some (.ref r) := lk_putm (by decide +kernel) f2
    have f3 : lk (put m "row" (.tup (qs.map (·.1)))) "row" = some (.tup (qs.map (·.1))) := lk_put_hit
    revert f1 f2 f3
    generalize put m "row" (.tup (qs.map (·.1))) = m1
    intro f1 f2 f3
    unfold exRowB
    walk_at "ww"
    refine H_newL (by simp) h fun pt σ1 h => ?_
    walk_at "ww"
    refine W_iterT ?_
    refine part_loop qs 4096 [] _ σ1 q3 (by lia) (by simp; lia) (by walk_at "lk") (by walk_at "lk") (by walk_at "lk") h ?_
    intro m2 σ2 g1 g2 g3 h
    refine SQ_n ?_
    walk_at "ww"
    refine W_methAppend (h.at_ (.tail _ (.head _))) ?_
    walk_at "ww"
    refine W_tTuple (h.at_ (.head _)) (by simp; lia) ?_
    have h := h.drop
    refine W_bltAppend (H_append (by simp; lia) h fun σ3 h => ?_)
    walk_at "ww"
    refine ih fuel (k + 1) m2 σ3 (by lia) (by lia) g2 g3 ?_ q
    have ea : (R.take (k + 1)).map (fun i => i.sx.v) = (R.take k).map (fun i => i.sx.v) ++ [.tup ([] ++ qs.map (·.2))] := by
      rw [List.take_succ_eq_append_getElem hk, List.map_append, List.nil_append, ← q2]; rfl
    rw [ea]; exact h
include E in
theorem H_exch2 {n r : Nat} {R : List Ins} {Q : V → Hp → Prop} (hR : R.length ≤ 100) (hr : (r, O.list (R.map Ins.v)) ∈ l) (h : H x S N e l σ) (q : ∀ (i : Nat) σ', H x S N e ((i, .list ((R.map Ins.sx).map Ins.v)) :: l) σ' → Q (.ref i) σ') : W (callN K (n + 1) 411 [.ref r]) σ Q := by
  rw [E.e_law_exchanged]; unfold B_2law_exchanged
  walk_at "ww"
  refine H_newL (by simp) h fun md σ1 h => ?_
  walk_at "ww"
  refine W_iterL (h.at_ (.tail _ hr)) ?_
  refine row_loop2 (md := md) hR hr R.length 4096 0 _ σ1 (by lia) (by lia) (by walk_at "lk") (by walk_at "lk") (by simpa using h) ?_
  intro m σ2 f1 h
  refine SQ_n ?_
  walk_at "ww"
  refine q md σ2 ?_
  rw [List.map_map]
  exact h
end
end P_LC3
section P_LC4
open PySem PySem.W PyProof.Rows
set_option Elab.async false
set_option maxRecDepth 100000
set_option linter.unusedVariables false
set_option linter.unusedSectionVars false
section
variable {K : Frag} {σ0 σ σ' : Hp} {l : List (Nat × O)} (E : Env2 K)
variable {fg : Nat} {x : SX} {S : SS} {N : Nat}
/-! ## law 2: the rows -/
structure ML2 (fg sy f w r : Nat) (m : Loc) : Prop where
  f1 : lk m "figures" = some (.ref fg)
  f2 : lk m "signs" = some (.ref sy)
  f3 : lk m "name" = some (.int (f : Int))
  f4 : lk m "wide" = some (.int (w : Int))
  f5 : lk m "rows" = some (.ref r)
noncomputable def ml2K : List Str := ["figures", "signs", "name", "wide", "rows"]
theorem ML2.put {sy f w r : Nat} {m : Loc} {k : Str} {v : V} (h : ML2 fg sy f w r m) (hk : (ml2K.all fun y => !(k == y)) = true) : ML2 fg sy f w r (put m k v) := by
  simp only [ml2K, List.all_cons, List.all_nil, Bool.and_true, Bool.and_eq_true, Bool.not_eq_true'] at hk
  obtain ⟨a1, a2, a3, a4, a5⟩ := hk
  exact ⟨lk_putm a1 h.f1, lk_putm a2 h.f2, lk_putm a3 h.f3, lk_putm a4 h.f4, lk_putm a5 h.f5⟩
theorem ML2.rows {sy f w r r' : Nat} {m : Loc} (h : ML2 fg sy f w r m) : ML2 fg sy f w r' (Mine.put m "rows" (.ref r')) :=
  ⟨lk_putm (by decide +kernel) h.f1, lk_putm (by decide +kernel) h.f2, lk_putm (by decide +kernel) h.f3, lk_putm (by decide +kernel) h.f4, lk_put_hit⟩
noncomputable def okRows (ar : List (Int × Int)) (R : List Ins) : Prop := ∀ i ∈ R, okJ ar i
theorem okRows.app {ar : List (Int × Int)} {R P : List Ins} (h1 : okRows ar R) (h2 : okRows ar P) : okRows ar (R ++ P) := fun i hi => (List.mem_append.mp hi).elim (h1 i) (h2 i)
noncomputable abbrev bldB (K : Frag) (C : Or) : XsT := B_2law_1 K C
include E in
theorem bld_loop {n f w : Nat} {Q : Fl × Loc → Hp → Prop} (hf : okN S.fs f) : ∀ (k fuel : Nat) (j b : Int) (R : List Ins) (r : Nat) (m : Loc) (σ : Hp), b = j + (k : Int) → k < fuel → R.length + 3 * k ≤ 15 → ML2 fg x.sy f w r m → okRows S.fs R → H x S N (e2 fg) [(r, .list (R.map Ins.v))] σ →
    (∀ (R : List Ins) (r : Nat) (m : Loc) (σ' : Hp), R.length ≤ 15 → ML2 fg x.sy f w r m → okRows S.fs R → H x S N (e2 fg) [(r, .list (R.map Ins.v))] σ' → Q (.next, m) σ') →
    W (forV "turn" (bldB K (callN K (n + 4))) fuel (.rng j b) m) σ Q := by
  intro k
  induction k with
  | zero =>
    intro fuel j b R r m σ hb hfu hR hm ho h q
    obtain ⟨fuel, rfl⟩ : ∃ f, fuel = f + 1 := ⟨fuel - 1, by lia⟩
    exact W_forEnd (next_rngE (by lia)) (q R r m σ (by lia) hm ho h)
  | succ k ih =>
    intro fuel j b R r m σ hb hfu hR hm ho h q
    obtain ⟨fuel, rfl⟩ : ∃ f, fuel = f + 1 := ⟨fuel - 1, by lia⟩
    refine W_for (next_rng (by lia)) ?_
    have hm := hm.put (k := "turn") (v := .int j) (by decide +kernel)
    revert hm
    generalize put m "turn" (.int j) = m1
    intro hm
    obtain ⟨f1, f2, f3, f4, f5⟩ := id hm
    unfold bldB
    walk_at "ww"
    refine H_piece2 E hf h fun i P σ1 p1 p3 hP h => ?_
    refine H_add (h.at_ (.tail _ (.head _))) (h.at_ (.head _)) (by simp; lia) h fun r' σ2 h => ?_
    have h := h.sub (l' := [(r', _)]) (.cons_cons _ (List.nil_sublist _))
    rw [← List.map_append] at h
    walk_at "ww"
    exact ih fuel (j + 1) b (R ++ P) r' _ σ2 (by lia) (by lia) (by simp; lia) hm.rows (ho.app hP) h q
theorem H_insert {e : List (Nat × O) → Prop} {a k : Nat} {j : Int} {xs : List V} {v : V} {Q : V → Hp → Prop} (ej : j = (k : Int)) (hk : k < xs.length) (hl : xs.length ≤ 1000) (h : H x S N e ((a, .list xs) :: l) σ) (q : ∀ σ', H x S N e ((a, .list (xs.take k ++ v :: xs.drop k)) :: l) σ' → Q .none σ') : W (bInsert [.ref a, .int j, v]) σ Q := by
  subst ej
  show W (bnd (gtL a) fun xs => (match idx? (k : Int) (xs.length + 1) with
    | some j => grd (okLen xs.length) (bnd (st a (.list (xs.take j ++ v :: xs.drop j))) fun zz => ret .none)
    | none => stuck)) σ Q
  refine W_bnd (W_gtL (h.at_ (.head _)) ?_)
  rw [idx_ok (by lia) (by lia)]
  exact W_grd (Nat.ble_eq_true_of_le (by unfold LIM; lia)) (W_bnd ⟨_, _, rfl, W_ret (q _ (h.set1 _))⟩)
noncomputable abbrev insB (K : Frag) (C : Or) : XsT := B_2law_3 K C
include E in
theorem ins_loop {n f w r : Nat} {Q : Fl × Loc → Hp → Prop} (hf : okN S.fs f) : ∀ (k fuel : Nat) (j b : Int) (R : List Ins) (m : Loc) (σ : Hp), b = j + (k : Int) → k < fuel → 1 ≤ R.length → R.length + k ≤ 18 → ML2 fg x.sy f w r m → okRows S.fs R → H x S N (e2 fg) [(r, .list (R.map Ins.v))] σ →
    (∀ (R : List Ins) (m : Loc) (σ' : Hp), 1 ≤ R.length → R.length ≤ 18 → ML2 fg x.sy f w r m → okRows S.fs R → H x S N (e2 fg) [(r, .list (R.map Ins.v))] σ' → Q (.next, m) σ') →
    W (forV "turn" (insB K (callN K (n + 4))) fuel (.rng j b) m) σ Q := by
  intro k
  induction k with
  | zero =>
    intro fuel j b R m σ hb hfu h1 hR hm ho h q
    obtain ⟨fuel, rfl⟩ : ∃ f, fuel = f + 1 := ⟨fuel - 1, by lia⟩
    exact W_forEnd (next_rngE (by lia)) (q R m σ h1 (by lia) hm ho h)
  | succ k ih =>
    intro fuel j b R m σ hb hfu h1 hR hm ho h q
    obtain ⟨fuel, rfl⟩ : ∃ f, fuel = f + 1 := ⟨fuel - 1, by lia⟩
    refine W_for (next_rng (by lia)) ?_
    have hm := hm.put (k := "turn") (v := .int j) (by decide +kernel)
    revert hm
    generalize put m "turn" (.int j) = m1
    intro hm
    obtain ⟨f1, f2, f3, f4, f5⟩ := id hm
    unfold insB
    walk_at "ww"
    refine H_piece2 E hf h fun i P σ1 p1 p3 hP h => ?_
    walk_at "ww"
    refine W_methL (h.at_ (.tail _ (.head _))) (f := .blt "list.insert") (by kernel_rfl) ?_
    walk_at "ww"
    refine W_lenL (h.at_ (.tail _ (.head _))) (by simp; unfold LIM; lia) ?_
    refine H_draw2 E (by simp; lia) h fun a σ2 a0 a1 h => ?_
    obtain ⟨a, rfl⟩ := Int.eq_ofNat_of_zero_le a0
    have a1 : a < R.length := by simp at a1; lia
    walk_at "ww"
    refine W_lenL (h.at_ (.head _)) (by simp; unfold LIM; lia) ?_
    refine H_draw2 E (by simp; lia) h fun d σ2 d0 d1 h => ?_
    obtain ⟨d, rfl⟩ := Int.eq_ofNat_of_zero_le d0
    have d1 : d < P.length := by simp at d1; lia
    refine W_itemL' (k := d) rfl (h.at_ (.head _)) (by lia) (v := P[d].v) (by simp [d1]) ?_
    walk_at "ww"
    refine W_blt (f := bInsert) (by rfl) ?_
    refine H_insert rfl (by simp; lia) (by simp; lia) h.drop fun σ3 h => ?_
    walk_at "ww"
    refine ih fuel (j + 1) b (R.take a ++ P[d] :: R.drop a) _ σ3 (by lia) (by lia) (by simp; lia) (by simp; lia) (hm.put (by decide +kernel)) ?_ ?_ q
    · intro i hi
      rcases List.mem_append.mp hi with hi | hi
      · exact ho i (List.mem_of_mem_take hi)
      · rcases List.mem_cons.mp hi with rfl | hi
        · exact hP _ (List.getElem_mem d1)
        · exact ho i (List.mem_of_mem_drop hi)
    · have ea : (R.take a ++ P[d] :: R.drop a).map Ins.v = (R.map Ins.v).take a ++ P[d].v :: (R.map Ins.v).drop a := by
        rw [List.map_append, List.map_cons, List.map_take, List.map_drop]
      rw [ea]; exact h
noncomputable abbrev tailB (K : Frag) (C : Or) : XsT := B_2law_5 K C
include E in
theorem tail_loop {n f w r t : Nat} {R : List Ins} {Q : Fl × Loc → Hp → Prop} (hf : okN S.fs f) : ∀ (k fuel : Nat) (j b : Int) (T : List Ins) (m : Loc) (σ : Hp), b = j + (k : Int) → k < fuel → T.length + k ≤ 3 → ML2 fg x.sy f w r m → lk m "tail" = some (.ref t) → okRows S.fs T → H x S N (e2 fg) [(t, .list (T.map Ins.v)), (r, .list (R.map Ins.v))] σ →
    (∀ (T : List Ins) (m : Loc) (σ' : Hp), T.length ≤ 3 → ML2 fg x.sy f w r m → lk m "tail" = some (.ref t) → okRows S.fs T → H x S N (e2 fg) [(t, .list (T.map Ins.v)), (r, .list (R.map Ins.v))] σ' → Q (.next, m) σ') →
    W (forV "turn" (tailB K (callN K (n + 4))) fuel (.rng j b) m) σ Q := by
  intro k
  induction k with
  | zero =>
    intro fuel j b T m σ hb hfu hT hm ht ho h q
    obtain ⟨fuel, rfl⟩ : ∃ f, fuel = f + 1 := ⟨fuel - 1, by lia⟩
    exact W_forEnd (next_rngE (by lia)) (q T m σ (by lia) hm ht ho h)
  | succ k ih =>
    intro fuel j b T m σ hb hfu hT hm ht ho h q
    obtain ⟨fuel, rfl⟩ : ∃ f, fuel = f + 1 := ⟨fuel - 1, by lia⟩
    refine W_for (next_rng (by lia)) ?_
    have hm := hm.put (k := "turn") (v := .int j) (by decide +kernel)
    have ht : lk (put m "turn" (.int j)) "tail" = some (.ref t) := lk_putm (by decide +kernel) ht
    revert hm ht
    generalize put m "turn" (.int j) = m1
    intro hm ht
    obtain ⟨f1, f2, f3, f4, f5⟩ := id hm
    unfold tailB
    walk_at "ww"
    refine H_piece2 E hf h fun i P σ1 p1 p3 hP h => ?_
    walk_at "ww"
    refine W_methAppend (h.at_ (.tail _ (.head _))) ?_
    walk_at "ww"
    refine W_lenL (h.at_ (.head _)) (by simp; unfold LIM; lia) ?_
    refine H_draw2 E (by simp; lia) h fun d σ2 d0 d1 h => ?_
    obtain ⟨d, rfl⟩ := Int.eq_ofNat_of_zero_le d0
    have d1 : d < P.length := by simp at d1; lia
    refine W_itemL' (k := d) rfl (h.at_ (.head _)) (by lia) (v := P[d].v) (by simp [d1]) ?_
    walk_at "ww"
    refine W_bltAppend (H_append (by simp; lia) h.drop fun σ3 h => ?_)
    walk_at "ww"
    refine ih fuel (j + 1) b (T ++ [P[d]]) _ σ3 (by lia) (by lia) (by simp; lia) (hm.put (by decide +kernel)) (by walk_at "lk") (ho.app (js1 (hP _ (List.getElem_mem d1)))) ?_ q
    have ea : (T ++ [P[d]]).map Ins.v = T.map Ins.v ++ [P[d].v] := by rw [List.map_append]; rfl
    rw [ea]; exact h
end
end P_LC4
section P_LC5
open PySem PySem.W PyProof.Rows
set_option Elab.async false
set_option maxRecDepth 100000
set_option linter.unusedVariables false
set_option linter.unusedSectionVars false
section
variable {K : Frag} {σ0 σ σ' : Hp} {l : List (Nat × O)} (E : Env2 K)
variable {fg : Nat} {x : SX} {S : SS} {N : Nat} {e : List (Nat × O) → Prop}
/-! ## law 2: helps for the main part -/
theorem starts_app {a y : Str} : Txt.startswith (a ++ y) a = true := by
  unfold Txt.startswith
  have e1 : decide (0 + a.length ≤ (a ++ y).length) = true := decide_eq_true (by rw [app_len]; lia)
  have la : a.cps.toList.length = a.length := Array.length_toList
  have e2 : Builtin.Str.subAt (a ++ y) a 0 = true := by
    rw [StrLaws.subAt_eq, List.drop_zero]
    have : (a ++ y).cps.toList = a.cps.toList ++ y.cps.toList := chars_app
    rw [this, ← la, List.take_left]
    exact beq_self_eq_true _
  rw [e1, e2]; rfl
set_option tactic.hygienic true in
theorem cf_len {ar : List (Int × Int)} : ∀ (rows : List Ins) (p : Nat) (d : Bool) (c : CS), (∀ i ∈ rows, okIns ar i) → c.fault.length ≤ 20200 → match cf ar p d c rows with | .bad _ t => t.length ≤ 20200 | _ => True
  | [], p, d, c, _, _ => by
    rw [cf_nil]
    split
    · rename_i h; split at h <;> cases h
    · trivial
  | i :: r, p, true, c, hi, hc => by
    rw [cf_t]
    exact cf_len r (p + 1) true c (fun j hj => hi j (.tail _ hj)) hc
  | i :: r, p, false, c, hi, hc => by
    have ht := turn_len (ar := ar) (hi i (.head _)) hc
    rw [cf_f]
    cases hf : (turn ar i c).fault == ("" : Str)
    · exact ht
    · exact cf_len r (p + 1) i.isFail _ (fun j hj => hi j (.tail _ hj)) ht
theorem rsOk {ar : List (Int × Int)} {w : Nat} {rows : List Ins} (hi : ∀ i ∈ rows, okIns ar i) (hn : rows.length ≤ 1000) : RsOk rows.length (cfault ar w rows) := by
  have hl := cf_len (ar := ar) rows 0 false (cs0 w) hi (by show (Str.ofString "").length ≤ 20200; decide +kernel)
  have hl : match cfault ar w rows with | .bad _ t => t.length ≤ 20200 | _ => True := hl
  have he : Str.empty.length = 0 := rfl
  cases h : cfault ar w rows with
  | ok => exact ⟨by show (Str.ofString "").length ≤ 30000; decide +kernel, trivial⟩
  | noend p =>
    have hp := l2_pl h
    have ht := txtI_le (p := p) (by lia)
    have hc : (Str.ofString ": the clause has no end").length ≤ 100 := by decide +kernel
    refine ⟨?_, by show p ≤ rows.length; lia⟩
    show (Str.empty ++ txtI (p : Int) ++ ": the clause has no end").length ≤ 30000
    rw [app_len, app_len]; lia
  | bad p t =>
    obtain ⟨hp, hn'⟩ := l2_bad h
    rw [h] at hl
    have hl : t.length ≤ 20200 := hl
    have ht := txtI_le (p := p) (by lia)
    have hc : (Str.ofString ": ").length ≤ 100 := by decide +kernel
    refine ⟨?_, by lia, hn'⟩
    show (Str.empty ++ txtI (p : Int) ++ ": " ++ t).length ≤ 30000
    rw [app_len, app_len, app_len]; lia
theorem okL_sx {r : Reg} (h : okL r) : okL r.sx := by
  obtain ⟨y, n⟩ := r
  cases y
  · have h1 : 1 ≤ n := h.1
    have h2 : n ≤ 6 := h.2
    have e : Reg.sx ⟨false, n⟩ = ⟨false, sx n⟩ := rfl
    rw [e]
    have : 1 ≤ sx n ∧ sx n ≤ 6 := by unfold sx; repeat' split
                                     all_goals lia
    exact this
  · exact h
theorem okX_sx {k : Int} (h : okL (X k)) : okX (sx k) := okR_of (okL_sx h)
theorem okJ_sx {ar : List (Int × Int)} {i : Ins} (h : okJ ar i) : okIns ar i.sx := by
  obtain ⟨h1, h2⟩ := h
  cases i with
  | arg u k =>
    cases k with
    | void n => exact h1
    | var r => exact okR_of (okL_sx (h2 (.wr r) (.head _)))
    | val r => exact okR_of (okL_sx (h2 (.rd r) (.head _)))
    | con a b => exact h1
  | op o =>
    cases o with
    | getVar r k => exact ⟨okR_of (okL_sx (h2 (.wr r) (.tail _ (.head _)))), okX_sx (h2 (.rd (X k)) (.head _))⟩
    | getVal r k => exact ⟨okR_of (okL_sx (h2 (.rd r) (.tail _ (.head _)))), okX_sx (h2 (.rd (X k)) (.head _))⟩
    | getCon a b k => exact ⟨h1.1, okX_sx (h2 (.rd (X k)) (.head _))⟩
    | getList k => exact okX_sx (h2 (.rd (X k)) (.head _))
    | getStr f k => exact ⟨h1.1, okX_sx (h2 (.rd (X k)) (.head _))⟩
    | putVar r k => exact ⟨okR_of (okL_sx (h2 (.wr r) (.head _))), okX_sx (h2 (.wr (X k)) (.tail _ (.head _)))⟩
    | putVal r k => exact ⟨okR_of (okL_sx (h2 (.rd r) (.head _))), okX_sx (h2 (.wr (X k)) (.tail _ (.head _)))⟩
    | putCon a b k => exact ⟨h1.1, okX_sx (h2 (.wr (X k)) (.head _))⟩
    | putList k => exact okX_sx (h2 (.wr (X k)) (.head _))
    | putStr f k => exact ⟨h1.1, okX_sx (h2 (.wr (X k)) (.head _))⟩
    | mark r => exact okR_of (okL_sx (h2 (.wr r) (.head _)))
    | cutTo r => exact okR_of (okL_sx (h2 (.rd r) (.head _)))
    | alloc n => exact h1
    | deall => exact h1
    | call f n => exact h1
    | exec f => exact h1
    | proceed => exact h1
    | builtin f => exact h1
    | neckCut => exact h1
    | fail => exact h1
theorem anyEq_two {t a b : Str} : anyEq (.str t) [.str a, .str b] = some ((a == t) || ((b == t) || false)) := rfl
theorem W_notIn2 {t a b : Str} {Q : Bool → Hp → Prop} (h : a = t ∨ b = t) (q : Q false σ) : W (cmpV .NotIn (.str t) (.tup [.str a, .str b])) σ Q := by
  show W (bnd (ofO (anyEq (.str t) [.str a, .str b])) fun c => ret (!c)) σ Q
  refine W_bo anyEq_two (W_ret ?_)
  have e : ((a == t) || ((b == t) || false)) = true := by
    rcases h with rfl | rfl
    · rw [beq_self_eq_true]; rfl
    · rw [beq_self_eq_true, Bool.or_false, Bool.or_true]
  rw [e]; exact q
theorem W_in2 {t a b : Str} {Q : Bool → Hp → Prop} (q : Q ((a == t) || ((b == t) || false)) σ) : W (cmpV .In (.str t) (.tup [.str a, .str b])) σ Q := W_ofO anyEq_two q
set_option tactic.hygienic true in
theorem sw_len (b : Str) : (sw b).length = b.length := by
  unfold sw
  split
  · rename_i h
    rw [eq_of_beq h]; decide +kernel
  · split
    · rename_i h
      rw [eq_of_beq h]; decide +kernel
    · rfl
theorem swD_len (L : List Str) : (swD L).length = L.length ∧ ((swD L).map (·.length)).sum = (L.map (·.length)).sum := by
  match L with
  | [] => exact ⟨rfl, rfl⟩
  | [a] => exact ⟨rfl, rfl⟩
  | a :: b :: r => exact ⟨rfl, by show a.length + ((sw b).length + (r.map (·.length)).sum) = a.length + (b.length + (r.map (·.length)).sum); rw [sw_len]⟩
theorem sumLen_sum : ∀ l : List Str, sumLen l = (l.map (·.length)).sum
  | [] => rfl
  | s :: r => by simp [sumLen, sumLen_sum r]
theorem W_join {C : Or} {r : Nat} {L : List Str} {Q : V → Hp → Prop} (e : σ[r]? = some (.list (L.map V.str))) (hl : L.length ≤ 40000) (hs : (L.map (·.length)).sum ≤ 40000) (q : Q (.str (Txt.join " " L)) σ) : W (callM K C (.blt "str.join") (.str " ") [.ref r]) σ Q := by
  refine W_blt (f := bJoin) (by rfl) ?_
  show W (bnd (gtL r) fun xs => bnd (ofO (strsOf xs)) fun l => grd (okLen (sumLen l + (" " : Str).length * l.length) && okLen l.length) (ret (.str (Txt.join " " l)))) σ Q
  refine W_bnd (W_gtL e (W_bo (strsOf_map L) (W_grd ?_ (W_ret q))))
  have e1 : (" " : Str).length = 1 := by decide +kernel
  rw [sumLen_sum, e1]
  unfold okLen
  rw [Nat.ble_eq_true_of_le (by unfold LIM; lia), Nat.ble_eq_true_of_le (by unfold LIM; lia)]; rfl
theorem H_setItem {a k : Nat} {j : Int} {xs : List V} {v : V} {Q : Unit → Hp → Prop} (ej : j = (k : Int)) (h : H x S N e ((a, .list xs) :: l) σ) (hk : k < xs.length) (h2 : k ≤ 1048576) (q : ∀ σ', H x S N e ((a, .list (xs.set k v)) :: l) σ' → Q () σ') : W (setItemV (.ref a) (.int j) v) σ Q := by
  subst ej
  refine W_gt' (h.at_ (.head _)) ?_
  show W (match idx? (k : Int) xs.length with | some j => st a (.list (xs.set j v)) | none => stuck) σ Q
  rw [idx_ok hk h2]
  exact ⟨_, _, rfl, q _ (h.set1 _)⟩
theorem H_slice {r : Nat} {xs : List V} {lo hi : Option Int} {ys : List V} {Q : V → Hp → Prop} (hlo : 0 ≤ lo.getD 0 ∧ 0 ≤ hi.getD 0) (hr : σ[r]? = some (.list xs)) (hl : xs.length ≤ 1000) (ey : cutL xs lo hi = ys) (hy : ys.length ≤ 1000) (h : H x S N e l σ) (q : ∀ i σ', H x S N e ((i, .list ys) :: l) σ' → Q (.ref i) σ') : W (sliceV (.ref r) lo hi) σ Q := by
  subst ey
  unfold sliceV
  rw [decide_eq_true hlo]
  dsimp only
  exact W_bnd (W_gtL hr (W_grd (Nat.ble_eq_true_of_le (by unfold LIM; lia)) (H_newL hy h q)))
theorem cut_take {xs : List V} {k : Nat} : cutL xs none (some (k : Int)) = xs.take k := by
  unfold cutL; simp
theorem cut_drop {xs : List V} {k : Nat} : cutL xs (some (k : Int)) none = xs.drop k := by
  unfold cutL
  simp
  exact List.take_of_length_le (by simp)
theorem okIns_of {ar : List (Int × Int)} {R : List Ins} (h : okRows ar R) : ∀ i ∈ R, okIns ar i := fun i hi => (h i hi).1
/-- told.split(' ') with x3 and x5 exchanged -/
noncomputable def dueB (K : Frag) (C : Or) (m : Loc) : Mo (Fl × Loc) := bnd (allV .And [bnd (bnd (mvs [ofO (lk m "due")]) fun s349 => bLen s349) fun a348 => cmpV .Gt a348 (.int 1), bnd (bnd (ofO (lk m "due")) fun a351 => itemV a351 (.int 1)) fun a350 => bnd (bnd (mvs [ret (.str "x3"), ret (.str "x5")]) fun s353 => newT s353) fun a352 => cmpV .In a350 a352]) fun c347 => ifF c347 (seqF (bnd (bnd (bnd (bnd (ofO (lk m "due")) fun a357 => itemV a357 (.int 1)) fun a356 => cmpV .Eq a356 (.str "x3")) fun c355 => ifF c355 (ret (.str "x5")) (ret (.str "x3"))) fun v354 => bnd (ofO (lk m "due")) fun a358 => bnd (setItemV a358 (.int 1) v354) fun zz => ret (Fl.next, m)) fun m => ret (Fl.next, m))
  (ret (Fl.next, m))
theorem due_step {C : Or} {m : Loc} {d : Nat} {D : List Str} {Q : Fl × Loc → Hp → Prop} (hm : lk m "due" = some (.ref d)) (hl : D.length ≤ 40000) (h : H x S N e ((d, .list (D.map V.str)) :: l) σ) (q : ∀ σ', H x S N e ((d, .list ((swD D).map V.str)) :: l) σ' → Q (.next, m) σ') : W (dueB K C m) σ Q := by
  unfold dueB
  walk_at "ww"
  refine W_lenL (h.at_ (.head _)) (by simp; unfold LIM; lia) ?_
  walk_at "ww"
  match D with
  | [] =>
    refine AQ_an' (by decide) ?_
    refine W_ifN rfl ?_
    walk_at "ww"
    exact q σ h
  | [a] =>
    refine AQ_an' (by simp) ?_
    refine W_ifN rfl ?_
    walk_at "ww"
    exact q σ h
  | a :: b :: r =>
    refine AQ_at' (by simp; lia) ?_
    walk_at "ww"
    refine W_itemL' (k := 1) rfl (h.at_ (.head _)) (by lia) (v := .str b) rfl ?_
    walk_at "ww"
    refine W_in2 ?_
    refine AQ_a (fun he => ?_) (fun he => ?_)
    · refine W_ifN rfl ?_
      walk_at "ww"
      have e1 : ("x3" == b) = false := by
        cases h3 : ("x3" : Str) == b
        · rfl
        · rw [h3] at he; cases he
      have e2 : ("x5" == b) = false := by
        cases h3 : ("x5" : Str) == b
        · rfl
        · rw [h3, Bool.true_or, Bool.or_true] at he; cases he
      have eb : sw b = b := by
        unfold sw
        rw [if_neg, if_neg]
        · intro hx; rw [eq_of_beq hx, beq_self_eq_true] at e2; cases e2
        · intro hx; rw [eq_of_beq hx, beq_self_eq_true] at e1; cases e1
      refine q σ ?_
      show H x S N e ((d, .list ((a :: sw b :: r).map V.str)) :: l) σ
      rw [eb]; exact h
    · refine W_allNa ?_
      refine W_ifT rfl ?_
      walk_at "ww"
      refine W_itemL' (k := 1) rfl (h.at_ (.head _)) (by lia) (v := .str b) rfl ?_
      walk_at "ww"
      refine W_mono (Q := fun v σ' => v = .str (sw b) ∧ σ' = σ) ?_ ?_
      · refine W_ifF (fun e3 => ?_) (fun e3 => ?_)
        · walk_at "ww"
          have : sw b = "x5" := by unfold sw; rw [if_pos e3]
          exact ⟨by rw [this], rfl⟩
        · walk_at "ww"
          have e5 : (b == ("x5" : Str)) = true := by
            cases h3 : ("x3" : Str) == b
            · rw [h3, Bool.false_or, Bool.or_false] at he
              rw [← eq_of_beq he]; exact beq_self_eq_true _
            · rw [← eq_of_beq h3, beq_self_eq_true] at e3; cases e3
          have : sw b = "x3" := by
            unfold sw
            rw [if_neg (by rw [e3]; simp), if_pos e5]
          exact ⟨by rw [this], rfl⟩
      rintro _ _ ⟨rfl, rfl⟩
      walk_at "ww"
      refine H_setItem (k := 1) rfl h (by simp) (by lia) fun σ1 h => ?_
      walk_at "ww"
      exact q σ1 h
end
end P_LC5
section P_LC6
open PySem PySem.W PyProof.Rows
set_option Elab.async false
set_option maxRecDepth 100000
set_option linter.unusedVariables false
set_option linter.unusedSectionVars false
section
variable {K : Frag} {σ0 σ σ' : Hp} {l : List (Nat × O)} (E : Env2 K)
variable {fg : Nat} {x : SX} {S : SS} {N : Nat} {e : List (Nat × O) → Prop}
/-! ## law 2: the checks -/
theorem AQ_cut {r : List (Mo Bool)} {Q : Bool → Hp → Prop} {c : Bool} (P : Hp → Prop) (h0 : P σ) (h1 : c = true → W (allV .And r) σ (fun c σ' => c = false ∧ P σ')) (k : ∀ σ', P σ' → Q false σ') : AQ .And r Q c σ := by
  refine AQ_a (fun zz => k σ h0) (fun e => W_mono (h1 e) ?_)
  rintro _ σ' ⟨rfl, p⟩
  exact k σ' p
structure ML5 (sy w r t : Nat) (told : Str) (pl : Nat) (m : Loc) : Prop where
  f1 : lk m "signs" = some (.ref sy)
  f2 : lk m "wide" = some (.int (w : Int))
  f3 : lk m "rows" = some (.ref r)
  f4 : lk m "tail" = some (.ref t)
  f5 : lk m "told" = some (.str told)
  f6 : lk m "place" = some (.int (pl : Int))
theorem told_empty {rs : Rs} {k : Nat} (h : RsOk k rs) (hk : k < 60) (e : (rs.text == ("" : Str)) = false) : rs ≠ .ok := by
  rintro rfl
  have : ((Rs.ok).text == ("" : Str)) = true := beq_self_eq_true _
  rw [this] at e; cases e
include E in
theorem law2_checks {n f w r t fg : Nat} {R T : List Ins} {m : Loc} (hw : w ≤ 2) (hf : okN S.fs f) (hN : N ≤ 1000) (h1 : 1 ≤ R.length) (hR : R.length ≤ 18) (hT : T.length ≤ 3) (ho : okRows S.fs R) (hoT : okRows S.fs T)
    (hm : ML2 fg x.sy f w r m) (ht : lk m "tail" = some (.ref t)) (h : H x S N (e2 fg) [(t, .list (T.map Ins.v)), (r, .list (R.map Ins.v))] σ) {k : Loc → Mo (Fl × Loc)} {Q : Fl × Loc → Hp → Prop}
    (q : ∀ (a : Nat) (m : Loc) (σ' : Hp), a ≤ R.length → a ≤ (cfault S.fs w R).pl R.length → ML5 x.sy w r t (cfault S.fs w R).text ((cfault S.fs w R).pl R.length) m → lk m "ahead" = some (.int (a : Int)) → H x S N (e2 fg) [(t, .list (T.map Ins.v)), (r, .list (R.map Ins.v))] σ' → W (k m) σ' Q) :
    W (seqF (bnd (bnd (mvs [ofO (lk m "signs"), ofO (lk m "wide"), ofO (lk m "rows")]) fun s274 => callN K (n + 7) 369 s274) fun v273 => ret (Fl.next, put m "told" v273)) fun m => seqF (bnd (bnd (mvs [ofO (lk m "told"), ofO (lk m "rows")]) fun s276 => callN K (n + 7) 418 s276) fun v275 => ret (Fl.next, put m "place" v275)) fun m => seqF (bnd (allV .And [bnd (ofO (lk m "told")) fun a278 => cmpV .NotEq a278 (.str ""), allV .Or [bnd (ofO (lk m "place")) fun a279 => cmpV .Lt a279 (.int 0), bnd (ofO (lk m "place")) fun a280 => bnd (bnd (mvs [ofO (lk m "rows")]) fun s282 => bLen s282) fun a281 => cmpV .Gt a280 a281]]) fun c277 => ifF c277 (seqF (bnd (ret (.bool false)) fun v283 => ret (Fl.ret v283, m)) fun m => ret (Fl.next, m))
  (ret (Fl.next, m))) fun m => seqF (bnd (bnd (ofO (lk m "place")) fun a285 => bnd (bnd (mvs [ofO (lk m "rows")]) fun s287 => bLen s287) fun a286 => cmpV .Lt a285 a286) fun c284 => ifF c284 (seqF (bnd (bnd (bnd (mvs [ofO (lk m "signs"), ofO (lk m "wide"), bnd (bnd (ofO (lk m "rows")) fun a292 => optI (bnd (ofO (lk m "place")) fun a293 => binV .Add a293 (.int 1)) fun h => sliceV a292 none h) fun a291 => bnd (ofO (lk m "tail")) fun a294 => binV .Add a291 a294]) fun s290 => callN K (n + 7) 369 s290) fun a289 => bnd (ofO (lk m "told")) fun a295 => cmpV .NotEq a289 a295) fun c288 => ifF c288 (seqF (bnd (ret (.bool false)) fun v296 => ret (Fl.ret v296, m)) fun m => ret (Fl.next, m))
    (ret (Fl.next, m))) fun m => ret (Fl.next, m))
  (ret (Fl.next, m))) fun m => seqF (bnd (bnd (mvs [ofO (lk m "figures"), bnd (bnd (mvs [ofO (lk m "rows")]) fun s300 => bLen s300) fun a299 => binV .Add a299 (.int 1)]) fun s298 => callN K (n + 7) 383 s298) fun v297 => ret (Fl.next, put m "ahead" v297)) fun m => seqF (bnd (bnd (ofO (lk m "ahead")) fun a302 => bnd (ofO (lk m "place")) fun a303 => cmpV .Gt a302 a303) fun c301 => ifF c301 (seqF (bnd (ofO (lk m "place")) fun v304 => ret (Fl.next, put m "ahead" v304)) fun m => ret (Fl.next, m))
  (ret (Fl.next, m))) k) σ Q := by
  have E0 := E.toEnv
  have hokR := okIns_of ho
  have hokT := okIns_of hoT
  obtain ⟨f1, f2, f3, f4, f5⟩ := id hm
  have hrs : RsOk R.length (cfault S.fs w R) := rsOk hokR (by lia)
  have hcut := @l2_cut S.fs R w
  have hbad := @l2_bad S.fs R w
  have hne := @l2_pl S.fs R w
  revert q hrs hcut hbad hne
  generalize hd : cfault S.fs w R = told
  intro q hrs hcut hbad hne
  have hple : told.pl R.length ≤ R.length ∨ told = .ok := by
    cases told with
    | ok => exact .inr rfl
    | noend p => exact .inl (by rw [hne rfl]; exact Nat.le_refl _)
    | bad p t => exact .inl (by have := (hbad rfl).1; show p ≤ R.length; lia)
  walk_at "ww"
  refine H_fault E0 (n := n) (wide := w) rfl hN h (h.at_ (.tail _ (.head _))) hokR (by lia) fun σ1 h zz => ?_
  rw [hd]
  walk_at "ww"
  refine H_place2 E (rows := R.map Ins.v) (h.at_ (.tail _ (.head _))) (by simp; lia) (by rw [List.length_map]; exact hrs) h fun σ2 h => ?_
  rw [List.length_map]
  refine W_ret ?_
  refine SQ_n ?_
  have g : ML5 x.sy w r t told.text (told.pl R.length) (put (put m "told" (.str told.text)) "place" (.int (told.pl R.length : Int))) := by constructor <;> walk_at "lk"
  have g7 : lk (put (put m "told" (.str told.text)) "place" (.int (told.pl R.length : Int))) "figures" = some (.ref fg) := by walk_at "lk"
  revert g g7
  generalize put (put m "told" (.str told.text)) "place" (.int (told.pl R.length : Int)) = M
  intro g g7
  obtain ⟨g1, g2, g3, g4, g5, g6⟩ := id g
  walk_at "ww"
  refine AQ_cut (fun σ' => H x S N (e2 fg) [(t, .list (T.map Ins.v)), (r, .list (R.map Ins.v))] σ') h (fun e1 => ?_) ?_
  · have e1 : (told.text == ("" : Str)) = false := by
      cases hx : told.text == ("" : Str)
      · rfl
      · rw [hx] at e1; cases e1
    have hnok := told_empty hrs (by lia) e1
    have hpl : told.pl R.length ≤ R.length := hple.resolve_right hnok
    walk_at "ww"
    refine AQ_on' (decide_eq_false (by lia)) ?_
    walk_at "ww"
    refine W_lenL (h.at_ (.tail _ (.head _))) (by simp; unfold LIM; lia) ?_
    walk_at "ww"
    refine AQ_on' (decide_eq_false (by rw [List.length_map]; lia)) ?_
    walk_at "ww"
    exact ⟨rfl, h⟩
  intro σ3 h
  refine W_ifN rfl ?_
  walk_at "ww"
  refine W_lenL (h.at_ (.tail _ (.head _))) (by simp; unfold LIM; lia) ?_
  walk_at "ww"
  refine W_mono (Q := fun p σ' => p = (Fl.next, M) ∧ H x S N (e2 fg) [(t, .list (T.map Ins.v)), (r, .list (R.map Ins.v))] σ') ?_ ?_
  · refine W_ifF (fun e1 => ?_) (fun e1 => ?_)
    · have e1 : told.pl R.length < R.length := by
        have := of_decide_eq_true e1
        rw [List.length_map] at this; lia
      have hb : ∃ s, told = .bad (told.pl R.length) s := by
        cases told with
        | ok => exact absurd e1 (by show ¬ R.length + 1 < R.length; lia)
        | noend p => exact absurd e1 (by rw [hne rfl]; show ¬ R.length < R.length; lia)
        | bad p s => exact ⟨s, rfl⟩
      obtain ⟨s, hb⟩ := hb
      have hc := hcut hb T
      walk_at "ww"
      have ec : ((told.pl R.length : Nat) : Int) + 1 = ((told.pl R.length + 1 : Nat) : Int) := by lia
      rw [ec]
      refine H_slice (ys := (R.take (told.pl R.length + 1)).map Ins.v) ⟨by decide, by show (0 : Int) ≤ ((told.pl R.length + 1 : Nat) : Int); lia⟩ (h.at_ (.tail _ (.head _))) (by simp; lia) (by rw [cut_take, List.map_take]) (by simp; lia) h fun i σ4 h => ?_
      walk_at "ww"
      refine H_add (h.at_ (.head _)) (h.at_ (.tail _ (.head _))) (by simp; lia) h fun i2 σ5 h => ?_
      rw [← List.map_append] at h
      refine H_fault E0 (n := n) (wide := w) rfl hN h (h.at_ (.head _)) ?_ (by simp; lia) fun σ6 h zz => ?_
      · intro i hi
        rcases List.mem_append.mp hi with hi | hi
        · exact hokR i (List.mem_of_mem_take hi)
        · exact hokT i hi
      rw [hc, ← hb]
      have h := h.drop.drop
      walk_at "ww"
      refine W_ifN (by rw [beq_self_eq_true]; rfl) ?_
      walk_at "ww"
      exact ⟨rfl, h⟩
    · walk_at "ww"
      exact ⟨rfl, h⟩
  rintro _ σ4 ⟨rfl, h⟩
  refine SQ_n ?_
  walk_at "ww"
  refine W_lenL (h.at_ (.tail _ (.head _))) (by simp; unfold LIM; lia) ?_
  walk_at "ww"
  refine H_draw2 E (by lia) h fun a σ5 a0 a1 h => ?_
  obtain ⟨a, rfl⟩ := Int.eq_ofNat_of_zero_le a0
  have a1 : a ≤ R.length := by simp at a1; lia
  walk_at "ww"
  refine W_mono (Q := fun p σ' => ∃ b m', p = (Fl.next, m') ∧ b ≤ R.length ∧ b ≤ told.pl R.length ∧ ML5 x.sy w r t told.text (told.pl R.length) m' ∧ lk m' "ahead" = some (.int ((b : Nat) : Int)) ∧ H x S N (e2 fg) [(t, .list (T.map Ins.v)), (r, .list (R.map Ins.v))] σ') ?_ ?_
  · refine W_ifF (fun e1 => ?_) (fun e1 => ?_)
    · have e1 := of_decide_eq_true e1
      walk_at "ww"
      exact ⟨told.pl R.length, _, rfl, by lia, Nat.le_refl _, by constructor <;> walk_at "lk", by walk_at "lk", h⟩
    · have e1 := of_decide_eq_false e1
      walk_at "ww"
      exact ⟨a, _, rfl, a1, by lia, by constructor <;> walk_at "lk", by walk_at "lk", h⟩
  rintro _ σ6 ⟨b, m', rfl, b1, b2, g, gb, h⟩
  refine SQ_n ?_
  exact q b m' σ6 b1 b2 g gb h
end
end P_LC6
section P_LC7
open PySem PySem.W PyProof.Rows
set_option Elab.async false
set_option maxRecDepth 100000
set_option linter.unusedVariables false
set_option linter.unusedSectionVars false
section
variable {K : Frag} {σ0 σ σ' : Hp} {l : List (Nat × O)} (E : Env2 K)
variable {fg : Nat} {x : SX} {S : SS} {N : Nat} {e : List (Nat × O) → Prop}
noncomputable def law2R (K : Frag) (C : Or) (m : Loc) : Mo (Fl × Loc) := seqF (bnd (bnd (bnd (mvs [ofO (lk m "signs"), ofO (lk m "wide"), bnd (ofO (lk m "rows")) fun a308 => optI (ofO (lk m "ahead")) fun h => sliceV a308 none h]) fun s307 => C 369 s307) fun a306 => bnd (bnd (mvs [ret (.str ""), bnd (bnd (mvs [ofO (lk m "ahead")]) fun s312 => tStr s312) fun a311 => binV .Add a311 (.str ": the clause has no end")]) fun s310 => newT s310) fun a309 => cmpV .NotIn a306 a309) fun c305 => ifF c305 (seqF (bnd (ret (.bool false)) fun v313 => ret (Fl.ret v313, m)) fun m => ret (Fl.next, m))
  (ret (Fl.next, m))) fun m => seqF (bnd (bnd (mvs [ofO (lk m "signs"), ofO (lk m "wide"), bnd (bnd (ofO (lk m "rows")) fun a317 => optI (ofO (lk m "ahead")) fun h => sliceV a317 none h) fun a316 => bnd (bnd (mvs [bnd (mvs [ret (.str "fail")]) fun s320 => newT s320]) fun s319 => newL s319) fun a318 => binV .Add a316 a318]) fun s315 => C 369 s315) fun v314 => ret (Fl.next, put m "first" v314)) fun m => seqF (bnd (allV .And [bnd (ofO (lk m "first")) fun a322 => cmpV .NotEq a322 (.str ""), bnd (bnd (bnd (ofO (lk m "first")) fun a324 => bnd (methOf K a324 "startswith") fun f325 => bnd (mvs [bnd (bnd (mvs [ofO (lk m "ahead")]) fun s328 => tStr s328) fun a327 => binV .Add a327 (.str ": ")]) fun s326 => callM K C f325 a324 s326) asB) fun c323 => ret (!c323)]) fun c321 => ifF c321 (seqF (bnd (ret (.bool false)) fun v329 => ret (Fl.ret v329, m)) fun m => ret (Fl.next, m))
  (ret (Fl.next, m))) fun m => seqF (bnd (bnd (bnd (mvs [ofO (lk m "signs"), ofO (lk m "wide"), bnd (bnd (bnd (ofO (lk m "rows")) fun a335 => optI (ofO (lk m "ahead")) fun h => sliceV a335 none h) fun a334 => bnd (bnd (mvs [bnd (mvs [ret (.str "fail")]) fun s338 => newT s338]) fun s337 => newL s337) fun a336 => binV .Add a334 a336) fun a333 => bnd (bnd (ofO (lk m "rows")) fun a340 => optI (ofO (lk m "ahead")) fun l => sliceV a340 l none) fun a339 => binV .Add a333 a339]) fun s332 => C 369 s332) fun a331 => bnd (ofO (lk m "first")) fun a341 => cmpV .NotEq a331 a341) fun c330 => ifF c330 (seqF (bnd (ret (.bool false)) fun v342 => ret (Fl.ret v342, m)) fun m => ret (Fl.next, m))
  (ret (Fl.next, m))) fun m => seqF (bnd (bnd (ofO (lk m "told")) fun a344 => bnd (methOf K a344 "split") fun f345 => bnd (mvs [ret (.str " ")]) fun s346 => callM K C f345 a344 s346) fun v343 => ret (Fl.next, put m "due" v343)) fun m => seqF (bnd (allV .And [bnd (bnd (mvs [ofO (lk m "due")]) fun s349 => bLen s349) fun a348 => cmpV .Gt a348 (.int 1), bnd (bnd (ofO (lk m "due")) fun a351 => itemV a351 (.int 1)) fun a350 => bnd (bnd (mvs [ret (.str "x3"), ret (.str "x5")]) fun s353 => newT s353) fun a352 => cmpV .In a350 a352]) fun c347 => ifF c347 (seqF (bnd (bnd (bnd (bnd (ofO (lk m "due")) fun a357 => itemV a357 (.int 1)) fun a356 => cmpV .Eq a356 (.str "x3")) fun c355 => ifF c355 (ret (.str "x5")) (ret (.str "x3"))) fun v354 => bnd (ofO (lk m "due")) fun a358 => bnd (setItemV a358 (.int 1) v354) fun zz => ret (Fl.next, m)) fun m => ret (Fl.next, m))
  (ret (Fl.next, m))) fun m => seqF (bnd (bnd (bnd (mvs [ofO (lk m "signs"), ofO (lk m "wide"), bnd (mvs [ofO (lk m "rows")]) fun s362 => C 411 s362]) fun s361 => C 369 s361) fun a360 => bnd (bnd (methOf K (.str " ") "join") fun f364 => bnd (mvs [ofO (lk m "due")]) fun s365 => callM K C f364 (.str " ") s365) fun a363 => cmpV .NotEq a360 a363) fun c359 => ifF c359 (seqF (bnd (ret (.bool false)) fun v366 => ret (Fl.ret v366, m)) fun m => ret (Fl.next, m))
  (ret (Fl.next, m))) fun m => seqF (bnd (bnd (bnd (mvs [bnd (mvs [ofO (lk m "signs"), bnd (ofO (lk m "wide")) fun a371 => binV .Add a371 (.int 1), ofO (lk m "rows")]) fun s370 => C 369 s370, ofO (lk m "rows")]) fun s369 => C 418 s369) fun a368 => bnd (ofO (lk m "place")) fun a372 => bnd (cmpV .GtE a368 a372) fun c373 => ret (.bool c373)) fun v367 => ret (Fl.ret v367, m)) fun m => ret (Fl.next, m)
theorem ntext_le0 {v : Int} (h0 : 0 ≤ v) (h : v ≤ 1000) : (ntext v).length ≤ 5000 := ntext_len h0 (Int.lt_of_le_of_lt h (by decide +kernel))
theorem noend_text {a : Nat} : (Rs.noend a).text = ntext (a : Int) ++ ": the clause has no end" := by
  show Str.empty ++ txtI (a : Int) ++ ": the clause has no end" = _
  rw [Str.empty_append]; rfl
theorem bad_text {a : Nat} {t : Str} : (Rs.bad a t).text = ntext (a : Int) ++ ": " ++ t := by
  show Str.empty ++ txtI (a : Int) ++ ": " ++ t = _
  rw [Str.empty_append]; rfl
include E in
theorem law2_rest {n f w r t fg a : Nat} {R T : List Ins} {m : Loc} {Q : V → Hp → Prop} (hw : w ≤ 2) (hf : okN S.fs f) (hN : N ≤ 1000) (h1 : 1 ≤ R.length) (hR : R.length ≤ 18) (ho : okRows S.fs R)
    (ha : a ≤ R.length) (hp : a ≤ (cfault S.fs w R).pl R.length) (g : ML5 x.sy w r t (cfault S.fs w R).text ((cfault S.fs w R).pl R.length) m) (ga : lk m "ahead" = some (.int (a : Int)))
    (h : H x S N (e2 fg) [(t, .list (T.map Ins.v)), (r, .list (R.map Ins.v))] σ) (q : ∀ σ', Q (.bool true) σ') : W (law2R K (callN K (n + 7)) m) σ (fun p σ' => W (outF p) σ' Q) := by
  have E0 := E.toEnv
  have hokR := okIns_of ho
  have hrs : RsOk R.length (cfault S.fs w R) := rsOk hokR (by lia)
  obtain ⟨ah1, first, ah2, ah3, ah4⟩ := l2_ahead (ar := S.fs) (w := w) ha hp
  obtain ⟨g1, g2, g3, g4, g5, g6⟩ := id g
  have t1 := ntext_le0 (v := (a : Int)) (by lia) (by lia)
  have t2 : (Str.ofString ": the clause has no end").length ≤ 100 := by decide +kernel
  have t3 : (Str.ofString ": ").length ≤ 100 := by decide +kernel
  have t0 : (Str.ofString "").length = 0 := by decide +kernel
  unfold law2R
  walk_at "ww"
  refine H_slice (ys := (R.take a).map Ins.v) ⟨by decide, by show (0 : Int) ≤ ((a : Nat) : Int); lia⟩ (h.at_ (.tail _ (.head _))) (by simp; lia) (by rw [cut_take, List.map_take]) (by simp; lia) h fun i σ1 h => ?_
  refine H_fault E0 (n := n) (wide := w) rfl hN h (h.at_ (.head _)) (fun i hi => hokR i (List.mem_of_mem_take hi)) (by simp; lia) fun σ2 h zz => ?_
  have h := h.drop
  walk_at "ww"
  refine W_str (by lia) (by lia) ?_
  walk_at "ww"
  refine W_adds2 (by lia) (by lia) ?_
  walk_at "ww"
  refine W_notIn2 ?_ ?_
  · rcases ah1 with e1 | e1
    · rw [e1]; exact .inl rfl
    · rw [e1, noend_text]; exact .inr rfl
  refine W_ifN rfl ?_
  walk_at "ww"
  refine H_slice (ys := (R.take a).map Ins.v) ⟨by decide, by show (0 : Int) ≤ ((a : Nat) : Int); lia⟩ (h.at_ (.tail _ (.head _))) (by simp; lia) (by rw [cut_take, List.map_take]) (by simp; lia) h fun i1 σ1 h => ?_
  walk_at "ww"
  refine H_newL (by simp) h fun i2 σ3 h => ?_
  walk_at "ww"
  refine H_add (h.at_ (.tail _ (.head _))) (h.at_ (.head _)) (by simp; lia) h fun i3 σ4 h => ?_
  have ef : (R.take a).map Ins.v ++ [.tup [.str "fail"]] = (R.take a ++ [Ins.op .fail]).map Ins.v := by rw [List.map_append]; rfl
  rw [ef] at h
  have okf : ∀ i ∈ R.take a ++ [Ins.op .fail], okIns S.fs i := by
    intro i hi
    rcases List.mem_append.mp hi with hi | hi
    · exact hokR i (List.mem_of_mem_take hi)
    · rw [List.mem_singleton.mp hi]; trivial
  refine H_fault E0 (n := n) (wide := w) rfl hN h (h.at_ (.head _)) okf (by simp; lia) fun σ5 h zz => ?_
  rw [ah3]
  have h := h.drop.drop.drop
  walk_at "ww"
  refine AQ_cut (fun σ' => H x S N (e2 fg) [(t, .list (T.map Ins.v)), (r, .list (R.map Ins.v))] σ') h (fun e1 => ?_) ?_
  · have hb : ∃ s, first = .bad a s := by
      rcases ah2 with rfl | hb
      · have : ((Rs.ok).text == ("" : Str)) = true := beq_self_eq_true _
        rw [this] at e1; cases e1
      · exact hb
    obtain ⟨s, rfl⟩ := hb
    rw [bad_text]
    walk_at "ww"
    refine W_methS (f := .blt "str.startswith") (by kernel_rfl) ?_
    walk_at "ww"
    refine W_str (by lia) (by lia) ?_
    walk_at "ww"
    refine W_adds2 (by lia) (by lia) ?_
    refine W_blt_starts ?_
    rw [starts_app]
    walk_at "ww"
    exact ⟨rfl, h⟩
  intro σ6 h
  refine W_ifN rfl ?_
  walk_at "ww"
  refine H_slice (ys := (R.take a).map Ins.v) ⟨by decide, by show (0 : Int) ≤ ((a : Nat) : Int); lia⟩ (h.at_ (.tail _ (.head _))) (by simp; lia) (by rw [cut_take, List.map_take]) (by simp; lia) h fun i1 σ1 h => ?_
  walk_at "ww"
  refine H_newL (by simp) h fun i2 σ3 h => ?_
  walk_at "ww"
  refine H_add (h.at_ (.tail _ (.head _))) (h.at_ (.head _)) (by simp; lia) h fun i3 σ4 h => ?_
  rw [ef] at h
  walk_at "ww"
  refine H_slice (ys := (R.drop a).map Ins.v) ⟨by show (0 : Int) ≤ ((a : Nat) : Int); lia, by decide⟩ (h.at_ (.tail _ (.tail _ (.tail _ (.tail _ (.head _)))))) (by simp; lia) (by rw [cut_drop, List.map_drop]) (by simp; lia) h fun i4 σ7 h => ?_
  refine H_add (h.at_ (.tail _ (.head _))) (h.at_ (.head _)) (by simp; lia) h fun i5 σ8 h => ?_
  rw [← List.map_append] at h
  refine H_fault E0 (n := n) (wide := w) rfl hN h (h.at_ (.head _)) ?_ (by simp; lia) fun σ9 h zz => ?_
  · intro i hi
    rcases List.mem_append.mp hi with hi | hi
    · exact okf i hi
    · exact hokR i (List.mem_of_mem_drop hi)
  rw [ah4]
  have h := h.drop.drop.drop.drop.drop
  walk_at "ww"
  refine W_ifN (by rw [beq_self_eq_true]; rfl) ?_
  walk_at "ww"
  refine W_methS (f := .blt "str.split") (by kernel_rfl) ?_
  walk_at "ww"
  have htl := hrs.1
  have hsw := split_weight (cfault S.fs w R).text " " (by decide +kernel)
  refine W_split (by decide +kernel) (by unfold LIM; lia) (H_nw h fun d σ10 h => ?_)
  refine W_ret ?_
  refine SQ_n ?_
  refine W_seq ?_
  refine due_step (K := K) (C := callN K (n + 7)) (D := Txt.split (cfault S.fs w R).text " ") lk_put_hit (by lia) h fun σ11 h => ?_
  refine SQ_n ?_
  have hsl := swD_len (Txt.split (cfault S.fs w R).text " ")
  walk_at "ww"
  refine H_exch2 E (R := R) (by lia) (.tail _ (.tail _ (.head _))) h fun i6 σ12 h => ?_
  refine H_fault E0 (n := n) (wide := w) rfl hN h (h.at_ (.head _)) ?_ (by simp; lia) fun σ13 h zz => ?_
  · intro i hi
    obtain ⟨j, hj, rfl⟩ := List.mem_map.mp hi
    exact okJ_sx (ho j hj)
  have h := h.drop
  rw [l2_sx hw fun i hi => (ho i hi).2]
  walk_at "ww"
  refine W_methS (f := .blt "str.join") (by kernel_rfl) ?_
  walk_at "ww"
  refine W_join (L := swD (Txt.split (cfault S.fs w R).text " ")) (h.at_ (.head _)) (by lia) (by lia) ?_
  walk_at "ww"
  refine W_ifN (by rw [beq_self_eq_true]; rfl) ?_
  walk_at "ww"
  refine H_fault E0 (n := n) (wide := w + 1) (by lia) hN h (h.at_ (.tail _ (.tail _ (.head _)))) hokR (by lia) fun σ14 h zz => ?_
  walk_at "ww"
  refine H_place2 E (rows := R.map Ins.v) (h.at_ (.tail _ (.tail _ (.head _)))) (by simp; lia) (by rw [List.length_map]; exact rsOk hokR (by lia)) h fun σ15 h => ?_
  rw [List.length_map]
  have hmore := l2_more (ar := S.fs) (rows := R) (w := w)
  walk_at "ww"
  rw [decide_eq_true (by lia)]
  exact q σ15
end
end P_LC7
section P_LC8
open PySem PySem.W PyProof.Rows
set_option Elab.async false
set_option maxRecDepth 100000
set_option linter.unusedVariables false
set_option linter.unusedSectionVars false
section
variable {K : Frag} {σ0 σ σ' : Hp} {l : List (Nat × O)} (E : Env2 K)
include E in
theorem ct2_law {n : Nat} {ns : List Int} {Q : V → Hp → Prop} (hns : ∀ a ∈ ns, Builtin.Int.intBits a ≤ 2 ^ 20) (hn : ns.length ≤ 63) (q : ∀ σ', Q (.bool true) σ') : W (callN K (n + 8) 425 [.flist (ns.map V.int)]) [] Q := by
  have E0 := E.toEnv
  rw [E.e_law]; unfold B_2law
  walk_at "ww"
  refine ct2_figures E hns hn fun fg fs σ1 hl ho h => ?_
  walk_at "ww"
  refine ct_symbols E0 fun x S σ2 hs => ?_
  have h : H x S 200 (e2 fg) [] σ2 := H.start ⟨fs, hl, ho, rfl⟩ h hs
  walk_at "ww"
  refine H_func E0 (by lia) ⟨by lia, by decide⟩ h fun S f σ3 h hf hfr => ?_
  have hfN : okN S.fs f := ⟨hf, hfr⟩
  walk_at "ww"
  refine H_newL (by simp) h fun i σ1 h => ?_
  walk_at "ww"
  refine H_draw2 E (by decide) h fun v σ1 v0 v1 h => ?_
  refine W_pickI (xs := [2, 1, 0]) (by simp) (h.at_ (.head _)) v0 v1 fun w hw => ?_
  have h := h.drop
  obtain ⟨w, rfl, hw2⟩ : ∃ w' : Nat, w = (w' : Int) ∧ w' ≤ 2 := by
    simp only [List.mem_cons, List.not_mem_nil, or_false] at hw
    exact ⟨w.toNat, by lia, by lia⟩
  walk_at "ww"
  refine H_newL (by simp) h fun r0 σ1 h => ?_
  walk_at "ww"
  refine H_newL (by simp) h fun i σ1 h => ?_
  walk_at "ww"
  refine H_draw2 E (by decide) h fun v σ1 v0 v1 h => ?_
  refine W_pickI (xs := [2, 0, 1, 3, 4, 5]) (by simp) (h.at_ (.head _)) v0 v1 fun k hk => ?_
  have h := h.drop
  obtain ⟨k, rfl, hk5⟩ : ∃ k' : Nat, k = (k' : Int) ∧ k' ≤ 5 := by
    simp only [List.mem_cons, List.not_mem_nil, or_false] at hk
    exact ⟨k.toNat, by lia, by lia⟩
  walk_at "ww"
  refine W_iterR (by lia) (by lia) (by lia) (by lia) ?_
  refine bld_loop E (n := n + 3) (w := w) hfN k 4096 0 _ [] r0 _ _ (by lia) (by lia) (by simp; lia) ?_ (fun zz h => nomatch h) h ?_
  · constructor <;> walk_at "lk"
  intro R r m σ4 hR hm ho h
  obtain ⟨f1, f2, f3, f4, f5⟩ := id hm
  refine SQ_n ?_
  walk_at "ww"
  refine W_methAppend (h.at_ (.head _)) ?_
  walk_at "ww"
  refine H_newL (by simp) h fun i σ1 h => ?_
  walk_at "ww"
  refine H_draw2 E (by decide) h fun d σ1 d0 d1 h => ?_
  obtain ⟨d, rfl⟩ := Int.eq_ofNat_of_zero_le d0
  have hp : ∃ o : Ins, okJ S.fs o ∧ ([(Ins.op .proceed).v, (Ins.op (.exec f)).v] : List V)[d]? = some o.v := by
    have hd : d = 0 ∨ d = 1 := by lia
    rcases hd with rfl | rfl
    · exact ⟨_, j_proceed, rfl⟩
    · exact ⟨_, j_exec hfN, rfl⟩
  obtain ⟨o, hoj, hv⟩ := hp
  refine W_itemL' (k := d) rfl (h.at_ (.head _)) (by lia) (v := o.v) hv ?_
  have h := h.drop
  walk_at "ww"
  refine W_bltAppend (H_append (by simp; lia) h fun σ5 h => ?_)
  have er : R.map Ins.v ++ [o.v] = (R ++ [o]).map Ins.v := by rw [List.map_append]; rfl
  rw [er] at h
  have ho := ho.app (js1 hoj)
  walk_at "ww"
  refine H_draw2 E (by decide) h fun d2 σ6 e0 e1 h => ?_
  obtain ⟨d2, rfl⟩ := Int.eq_ofNat_of_zero_le e0
  walk_at "ww"
  refine W_iterR (by lia) (by lia) (by lia) (by lia) ?_
  refine ins_loop E (n := n + 3) (w := w) (r := r) hfN d2 4096 0 _ (R ++ [o]) _ σ6 (by lia) (by lia) (by simp) (by simp; lia) hm ho h ?_
  intro R m σ7 h1 hR hm ho h
  obtain ⟨f1, f2, f3, f4, f5⟩ := id hm
  refine SQ_n ?_
  walk_at "ww"
  refine H_newL (by simp) h fun t σ8 h => ?_
  walk_at "ww"
  refine H_newL (by simp) h fun i σ1 h => ?_
  walk_at "ww"
  refine H_draw2 E (by decide) h fun v σ1 v0 v1 h => ?_
  refine W_pickI (xs := [1, 0, 2, 3]) (by simp) (h.at_ (.head _)) v0 v1 fun k3 hk3 => ?_
  have h := h.drop
  obtain ⟨k3, rfl, hk33⟩ : ∃ k' : Nat, k3 = (k' : Int) ∧ k' ≤ 3 := by
    simp only [List.mem_cons, List.not_mem_nil, or_false] at hk3
    exact ⟨k3.toNat, by lia, by lia⟩
  walk_at "ww"
  refine W_iterR (by lia) (by lia) (by lia) (by lia) ?_
  refine tail_loop E (n := n + 3) (w := w) (r := r) (t := t) (R := R) hfN k3 4096 0 _ [] _ _ (by lia) (by lia) (by simp; lia) (hm.put (by decide +kernel)) lk_put_hit (fun zz h => nomatch h) h ?_
  intro T m σ9 hT hm ht hoT h
  refine SQ_n ?_
  refine law2_checks E (n := n) hw2 hfN (by lia) h1 hR hT ho hoT hm ht h fun a m σ' ha hp g ga h => ?_
  exact law2_rest E hw2 hfN (by lia) h1 hR ho ha hp g ga h q
end
end P_LC8
section P_LU2
open PySem PySem.W PyProof.Rows
set_option Elab.async false
set_option linter.unusedVariables false
theorem weight_mem : ∀ {ns : List Int} {a : Int}, a ∈ ns → Builtin.Int.intBits a ≤ PyData.weightAll (ns.map PyData.int)
  | b :: r, a, h => by
    rw [List.map_cons]
    simp only [PyData.weightAll]
    rcases List.mem_cons.mp h with rfl | h
    · have e : PyData.weight (PyData.int a) = Builtin.Int.intBits a := by
        simp only [PyData.weight]; rfl
      rw [e]; omega
    · have := weight_mem h
      omega
theorem bits_of {ns : List Int} (h : (PyData.list (ns.map PyData.int)).layable0 = true) : ∀ a ∈ ns, Builtin.Int.intBits a ≤ 2 ^ 20 := by
  intro a ha
  have hw : PyData.weight (.list (ns.map .int)) ≤ 2 ^ 20 := of_decide_eq_true (Bool.and_eq_true_iff.mp h).2
  have e : PyData.weight (.list (ns.map .int)) = PyData.weightAll (ns.map PyData.int) := by simp only [PyData.weight]
  rw [e] at hw
  exact Nat.le_trans (weight_mem ha) hw
theorem fin2 {prog : Program} {w : World} {K : Frag} {s : Shared} (X : K.In s.heap) (E : Env2 K) (nl : s.heap.NoLimit) (T : Bt s.heap) (hb : (K.lookup 425).isSome = true) {l : Addr} {vs : List Value} {ns : List Int} (hl : s.heap.IsList l vs.toArray) (hi : IntsAre vs ns) (hn : ns.length ≤ 63) (hy : ∀ a ∈ ns, Builtin.Int.intBits a ≤ 2 ^ 20) {Q : Value → Shared → Prop} {F : Value → Shared → Prop}
    (hQ : ∀ s', (∀ a o, s.heap.get? a = some o → s'.heap.get? a = some o) → s'.gens = s.gens ∧ s'.drawn = s.drawn ∧ s'.os = s.os → Q (.bool true) s') : wpAny (model prog w) callerA (call (.ref 425) [.ref l]) Q F s := by
  obtain ⟨ob, hb⟩ := Option.isSome_iff_exists.mp hb
  obtain ⟨a, σ', hr, ha⟩ := ct2_law (K := K) E (n := 9) (ns := ns) (Q := fun a zz => a = .bool true) hy hn (fun zz => rfl)
  subst ha
  exact law_runs X nl T rfl 17 (by decide +kernel) (by decide +kernel) (big := 425) hb (by decide +kernel) (by decide +kernel) (by decide +kernel) (by decide +kernel) hl hi hr hQ
/-! Names taken ahead: the head would keep a memo of twins under them, which the proof does not need; so the compiled text stays small. -/
theorem t2.tw16959672334328043076 : True := trivial
theorem t2.tw10404656273824573449 : True := trivial
theorem t2.tw17729034832458069917 : True := trivial
theorem t2.tw16609734611062152509 : True := trivial
theorem t2.tw115497718282952823 : True := trivial
theorem t2.tw14010099448282112905 : True := trivial
theorem t2.tw9102360157623982739 : True := trivial
theorem t2.tw5719145415811615175 : True := trivial
theorem t2.tw18305071112869114530 : True := trivial
theorem t2.tw11015819300708049403 : True := trivial
theorem t2.tw17137816836001163100 : True := trivial
theorem t2.tw2488418270542736874 : True := trivial
theorem t2.tw2799538851982208526 : True := trivial
theorem t2.tw13937625632465098646 : True := trivial
theorem t2.tw10916805891496345539 : True := trivial
theorem t2.tw17983270031831925459 : True := trivial
theorem t2.tw16520838756714080772 : True := trivial
theorem t2.tw5754523343780704519 : True := trivial
theorem t2.tw597591139684015558 : True := trivial
theorem t2.tw11877757652117897148 : True := trivial
theorem t2.tw12548614345706220700 : True := trivial
theorem t2.tw665973106647378770 : True := trivial
theorem t2.tw6635083743483548856 : True := trivial
theorem t2.tw1729203775934491576 : True := trivial
theorem t2.tw6366640985394541897 : True := trivial
theorem t2.tw7063162115372145553 : True := trivial
theorem t2.tw16499620885065939997 : True := trivial
theorem t2.tw14284568020104701609 : True := trivial
theorem t2.tw11896819570648146686 : True := trivial
theorem t2.tw173679858656936271 : True := trivial
theorem t2.tw5061368810211601348 : True := trivial
theorem t2.tw17249897196287212548 : True := trivial
theorem t2.tw6737041712857675369 : True := trivial
theorem t2.tw7115977305178424329 : True := trivial
theorem t2.tw10235071698970285217 : True := trivial
theorem t2.tw13747282853600241224 : True := trivial
theorem t2.tw551869544967678674 : True := trivial
theorem t2.tw5444703492783509972 : True := trivial
theorem t2.tw1028144301003088009 : True := trivial
theorem t2.tw2700618788960738733 : True := trivial
theorem t2.tw16447389300263567997 : True := trivial
theorem t2.tw16440824438751624261 : True := trivial
theorem t2.tw17861629154913430112 : True := trivial
theorem t2.tw8070432979215619062 : True := trivial
theorem t2.tw15686427853674770490 : True := trivial
theorem t2.tw5593874392018240374 : True := trivial
theorem t2.tw7231470177987986530 : True := trivial
theorem t2.tw9310840190686191320 : True := trivial
theorem t2.tw13065531262495396620 : True := trivial
theorem t2.tw6254966332874141735 : True := trivial
theorem t2.tw13629088044940592607 : True := trivial
theorem t2.tw87743652225243171 : True := trivial
theorem t2.tw5459798262454256790 : True := trivial
theorem t2.tw15351096894596814700 : True := trivial
theorem t2.tw14450311925488721646 : True := trivial
theorem t2.tw6652510692086785275 : True := trivial
theorem t2.tw11162032106593601195 : True := trivial
theorem t2.tw11908687031508626348 : True := trivial
theorem t2.tw7897268310511154449 : True := trivial
theorem t2.tw17362202502744895367 : True := trivial
theorem t2.tw11305917583581326503 : True := trivial
theorem t2.tw7289317912418987605 : True := trivial
theorem t2.tw10941315277198291699 : True := trivial
theorem t2.tw2805161860429960271 : True := trivial
theorem t2.tw14896534479097332145 : True := trivial
theorem t2.tw12822500485672910301 : True := trivial
theorem t2.tw16118767212976981993 : True := trivial
theorem t2.tw401289770413213225 : True := trivial
theorem t2.tw15776635726788576722 : True := trivial
theorem t2.tw5732690048215924147 : True := trivial
theorem t2.tw315899302791639008 : True := trivial
theorem t2.tw6230833999764444535 : True := trivial
theorem t2.tw15853917480051463491 : True := trivial
theorem t2.tw397871705132050337 : True := trivial
theorem t2.tw2972640511713183380 : True := trivial
theorem t2.tw14608300458998085401 : True := trivial
theorem t2.tw12802134363522479612 : True := trivial
theorem t2.tw6794148031077260327 : True := trivial
theorem t2.tw118303954990801125 : True := trivial
theorem t2.tw6735262898465583637 : True := trivial
theorem t2.tw17518237193936478270 : True := trivial
theorem t2.tw2252123463249159309 : True := trivial
theorem t2.tw5604457611338980624 : True := trivial
theorem t2.tw16099289428243688958 : True := trivial
theorem t2.tw17342548918570517974 : True := trivial
theorem t2.tw17831546934881107844 : True := trivial
theorem t2.tw6372043503622040191 : True := trivial
theorem t2.tw1512441895894846621 : True := trivial
theorem t2.tw6359924911846391429 : True := trivial
theorem t2.tw10760006315983836167 : True := trivial
theorem t2.tw9219206303791405385 : True := trivial
theorem t2.tw18355222636273349425 : True := trivial
theorem t2.tw628792614763822789 : True := trivial
theorem t2.tw5840870283321264518 : True := trivial
theorem t2.tw3236089530308968222 : True := trivial
theorem t2.tw2865977134813091462 : True := trivial
theorem t2.tw10973419323516673724 : True := trivial
theorem t2.tw8031297425463822629 : True := trivial
theorem t2.tw8908456382974104164 : True := trivial
theorem t2.tw3028722062481723401 : True := trivial
theorem t2.tw17437916977612527129 : True := trivial
theorem t2.tw7397723701551162972 : True := trivial
theorem t2.tw9830990539327820849 : True := trivial
theorem t2.tw6830670780329341899 : True := trivial
theorem t2.tw9227608916848272552 : True := trivial
theorem t2.tw18175727978387664286 : True := trivial
theorem t2.tw12089315119480834177 : True := trivial
theorem t2.tw8165856688138953686 : True := trivial
theorem t2.tw4301224398237442131 : True := trivial
theorem t2.tw9690569775593287659 : True := trivial
theorem t2.tw10466676220807542355 : True := trivial
theorem t2.tw3017107291649145273 : True := trivial
theorem t2.tw13762148412042021662 : True := trivial
theorem t2.tw3975714109794000212 : True := trivial
theorem t2.tw1516006722530220027 : True := trivial
theorem t2.tw928454024773384813 : True := trivial
theorem t2.tw9921386520599730938 : True := trivial
theorem t2.tw12463432681396130699 : True := trivial
theorem t2.tw15899780667076999337 : True := trivial
theorem t2.tw10487853568361855182 : True := trivial
theorem t2.tw5146124851407622020 : True := trivial
theorem t2.tw15056975412480716535 : True := trivial
theorem t2.tw3769953596628856207 : True := trivial
theorem t2.tw1951835318847577466 : True := trivial
theorem t2.tw10315967818336049279 : True := trivial
theorem t2.tw8291610057587622720 : True := trivial
theorem t2.tw14631571398595006085 : True := trivial
theorem t2.tw13046981222955557206 : True := trivial
theorem t2.tw15932866417068410601 : True := trivial
theorem t2.tw1341686453448182263 : True := trivial
theorem t2.tw560439537393747282 : True := trivial
theorem t2.tw17760346681831470741 : True := trivial
theorem t2.tw8050293756969582281 : True := trivial
theorem t2.tw13521254937992473295 : True := trivial
theorem t2.tw12604228054126986525 : True := trivial
theorem t2.tw17547325842069234357 : True := trivial
theorem t2.tw11926245768666033851 : True := trivial
theorem t2.tw5327073812574759793 : True := trivial
theorem t2.tw6837631821154984216 : True := trivial
theorem t2.tw4787112100981247822 : True := trivial
theorem t2.tw148511173454998757 : True := trivial
theorem t2.tw5533498671671624191 : True := trivial
theorem t2.tw14414790161174665440 : True := trivial
theorem t2.tw1573971284251581164 : True := trivial
theorem t2.tw9463701296552155142 : True := trivial
theorem t2.tw6141547984136274013 : True := trivial
theorem t2.tw13757119013528962865 : True := trivial
theorem t2.tw11591976280921594204 : True := trivial
theorem t2.tw17568631729111726869 : True := trivial
theorem t2.tw18238053028348475791 : True := trivial
theorem t2.tw15748442723928530201 : True := trivial
theorem t2.tw13080153590005515879 : True := trivial
theorem t2.tw16857990521485761870 : True := trivial
theorem t2.tw15677741869310504818 : True := trivial
theorem t2.tw17158232615477799462 : True := trivial
theorem t2.tw4031559431707168664 : True := trivial
theorem t2.tw3680359886296647393 : True := trivial
theorem t2.tw17335059443069878923 : True := trivial
theorem t2.tw5685917633548590370 : True := trivial
theorem t2.tw14610441097790066446 : True := trivial
theorem t2.tw16127765472611768321 : True := trivial
theorem t2.tw1911065948966644858 : True := trivial
theorem t2.tw8096586914488065780 : True := trivial
theorem t2.tw7952122038305447817 : True := trivial
theorem t2.tw12979467292651515975 : True := trivial
theorem t2.tw5072923874750941415 : True := trivial
theorem t2.tw15247391101339467783 : True := trivial
theorem t2.tw16831010404527082909 : True := trivial
theorem t2.tw11878789635747461537 : True := trivial
theorem t2.tw4672991139432667561 : True := trivial
theorem t2.tw13553153846634458509 : True := trivial
theorem t2.tw4233402725922609256 : True := trivial
theorem t2.tw13005868050298559745 : True := trivial
theorem t2.tw5938153271301720344 : True := trivial
theorem t2.tw16078806496884154773 : True := trivial
theorem t2.tw3483167703491351305 : True := trivial
theorem t2.tw2787126279341009535 : True := trivial
theorem t2.tw1055150355881923122 : True := trivial
theorem t2.tw13003013834247399227 : True := trivial
theorem t2.tw15552341853812275491 : True := trivial
theorem t2.tw12383849471262774227 : True := trivial
theorem t2.tw16566224535747365612 : True := trivial
theorem t2.tw18058706770072908027 : True := trivial
theorem t2.tw8403316741512096840 : True := trivial
theorem t2.tw11024813963089310449 : True := trivial
theorem t2.tw8503334791850174991 : True := trivial
theorem t2.tw1428250821935966984 : True := trivial
theorem t2.tw11767347018173327472 : True := trivial
theorem t2.tw9311308204591642603 : True := trivial
theorem t2.tw12735071157419140234 : True := trivial
theorem t2.tw17352556424942327028 : True := trivial
theorem t2.tw5726815210785069502 : True := trivial
theorem t2.tw1367370977276935541 : True := trivial
theorem t2.tw125221159715142186 : True := trivial
theorem t2.tw15643009707486266588 : True := trivial
theorem t2.tw12412033153994671727 : True := trivial
theorem t2.tw3732287931228042485 : True := trivial
theorem t2.tw9351978409707471962 : True := trivial
theorem t2.tw1572663524215977941 : True := trivial
theorem t2.tw12322829035584690397 : True := trivial
theorem t2.tw17565850433566390037 : True := trivial
theorem t2.tw4534103065036749892 : True := trivial
theorem t2.tw6011907917759050962 : True := trivial
theorem t2.tw15714485448395204198 : True := trivial
theorem t2.tw7070415490010654294 : True := trivial
theorem t2.tw9314350985005685079 : True := trivial
theorem t2.tw4600732435382637795 : True := trivial
theorem t2.tw427072787840483008 : True := trivial
theorem t2.tw8715921581979024883 : True := trivial
theorem t2.tw10606219775207259954 : True := trivial
theorem t2.tw16541704296162457225 : True := trivial
theorem t2.tw996254271073758647 : True := trivial
theorem t2.tw12685388493594930481 : True := trivial
theorem t2.tw6554053659452435661 : True := trivial
theorem t2.tw13156113850323588171 : True := trivial
theorem t2.tw4585342581148189660 : True := trivial
theorem t2.tw468247106480746060 : True := trivial
theorem t2.tw12564575344524111845 : True := trivial
theorem t2.tw5757021733611236401 : True := trivial
theorem t2.tw5535590903485360822 : True := trivial
theorem t2.tw13294388951981107047 : True := trivial
theorem t2.tw11465140087014732465 : True := trivial
theorem t2.tw15482106534335122691 : True := trivial
theorem t2.tw9414283406712413030 : True := trivial
theorem t2.tw13759160952559558636 : True := trivial
theorem t2.tw9087703869618805848 : True := trivial
theorem t2.tw15829761971097002526 : True := trivial
theorem t2.tw11231136081880638048 : True := trivial
theorem t2.tw3597144234654561737 : True := trivial
theorem t2.tw7087508564700455244 : True := trivial
theorem t2.tw17025149820047265244 : True := trivial
theorem t2.tw15023007493524032250 : True := trivial
theorem t2.tw15743492982841998637 : True := trivial
theorem t2.tw3461892475105985307 : True := trivial
theorem t2.tw4439250984335233898 : True := trivial
theorem t2.tw8537158011412110516 : True := trivial
theorem t2.tw1455373362930421131 : True := trivial
theorem t2.tw18087385110495452824 : True := trivial
theorem t2.tw15379835570528328541 : True := trivial
theorem t2.tw237943757465913677 : True := trivial
theorem t2.tw12541072725896639813 : True := trivial
theorem t2.tw15827367712642678073 : True := trivial
theorem t2.tw8521676453418200129 : True := trivial
theorem t2.tw2268898688519867974 : True := trivial
theorem t2.tw9431668918769147637 : True := trivial
theorem t2.tw10262523971882840073 : True := trivial
theorem t2.tw7019840533286894242 : True := trivial
theorem t2.tw17610832899817802417 : True := trivial
theorem t2.tw11603869759292827509 : True := trivial
theorem t2.tw15288573938099887533 : True := trivial
theorem t2.tw8235057197960675922 : True := trivial
theorem t2.tw2617934659165603751 : True := trivial
theorem t2.tw4060845535153911713 : True := trivial
theorem t2.tw6919942131859500942 : True := trivial
theorem t2.tw5495774509181419804 : True := trivial
theorem t2.tw13351138441636563134 : True := trivial
theorem t2.tw237622782132921807 : True := trivial
theorem t2.tw7272704550918210883 : True := trivial
theorem t2.tw8004964198889592961 : True := trivial
theorem t2.tw10596517905142718756 : True := trivial
theorem t2.tw4671298168534028525 : True := trivial
theorem t2.tw796963170391767655 : True := trivial
theorem t2.tw3462014148468951448 : True := trivial
theorem t2.tw14240520766709098887 : True := trivial
theorem t2.tw13816307174301002646 : True := trivial
theorem t2.tw3548548442753999218 : True := trivial
theorem t2.tw7483821566889959421 : True := trivial
theorem t2.tw15250169578700200418 : True := trivial
theorem t2.tw13901509724005731428 : True := trivial
theorem t2.tw16081195202375618023 : True := trivial
theorem t2.tw6683252913765859495 : True := trivial
theorem t2.tw5981876667127245324 : True := trivial
theorem t2.tw10731970973758998325 : True := trivial
theorem t2.tw1506436998435660160 : True := trivial
theorem t2.tw4849132956011330164 : True := trivial
theorem t2.tw9938051494490672875 : True := trivial
theorem t2.tw16566720606583955313 : True := trivial
theorem t2.tw7282799465143469749 : True := trivial
theorem t2.tw13577390293270945822 : True := trivial
theorem t2.tw3646700045762829220 : True := trivial
theorem t2.tw17349592090381742418 : True := trivial
theorem t2.tw1071437399536525427 : True := trivial
theorem t2.tw9647683642951392931 : True := trivial
theorem t2.tw15144173703176542341 : True := trivial
theorem t2.tw8922046002517499200 : True := trivial
theorem t2.tw5998361428591998707 : True := trivial
theorem t2.tw1956104520633139277 : True := trivial
theorem t2.tw10740731201111340267 : True := trivial
theorem t2.tw6896674220873991659 : True := trivial
theorem t2.tw11323582464299312297 : True := trivial
theorem t2.tw10989050090792518646 : True := trivial
theorem t2.tw1071293666227829269 : True := trivial
theorem t2.tw8505378028228362494 : True := trivial
theorem t2.tw10109655432094877873 : True := trivial
theorem t2.tw95264493407792962 : True := trivial
theorem t2.tw16547176434681161663 : True := trivial
theorem t2.tw9741369130076870005 : True := trivial
theorem t2.tw9072522840376475012 : True := trivial
theorem t2.tw12706361291358522674 : True := trivial
theorem t2.tw2902386438810611576 : True := trivial
theorem t2.tw17088561309686757748 : True := trivial
theorem t2.tw8940353131893183502 : True := trivial
theorem t2.tw6976602379923486990 : True := trivial
theorem t2.tw14967053939826998242 : True := trivial
theorem t2.tw3333227185095157466 : True := trivial
theorem t2.tw9958120051100154793 : True := trivial
theorem t2.tw10803485706450013457 : True := trivial
theorem t2.tw6344938952417684655 : True := trivial
theorem t2.tw11988201828319868072 : True := trivial
theorem t2.tw12687725117838012427 : True := trivial
theorem t2.tw18168230184013476836 : True := trivial
theorem t2.tw8394959256524832468 : True := trivial
theorem t2.tw3567396607562344891 : True := trivial
theorem t2.tw14004336685372974554 : True := trivial
theorem t2.tw11225656374139264028 : True := trivial
theorem t2.tw9068572879730895491 : True := trivial
theorem t2.tw5926906712699332315 : True := trivial
theorem t2.tw6223943429183456946 : True := trivial
theorem t2.tw9750565375194616188 : True := trivial
theorem t2.tw16222159663315141368 : True := trivial
theorem t2.tw17957717612067385727 : True := trivial
theorem t2.tw857259734692270363 : True := trivial
theorem t2.tw13589672232197216577 : True := trivial
theorem t2.tw5658208489943977709 : True := trivial
theorem t2.tw7753761756447454638 : True := trivial
theorem t2.tw7962079245385590777 : True := trivial
theorem t2.tw13368336442615115792 : True := trivial
theorem t2.tw5101003490951158082 : True := trivial
theorem t2.tw18430474059468803112 : True := trivial
theorem t2.tw17723463983935698641 : True := trivial
theorem t2.tw12488327053034961126 : True := trivial
theorem t2.tw17397669407508223424 : True := trivial
theorem t2.tw5650303406819552627 : True := trivial
theorem t2.tw765581657126248788 : True := trivial
theorem t2.tw9833276233102535837 : True := trivial
theorem t2.tw11544465883338558327 : True := trivial
theorem t2.tw10568964006659853666 : True := trivial
theorem t2.tw15956603549550856469 : True := trivial
theorem t2.tw12137796429034120059 : True := trivial
theorem t2.tw10980773216096333916 : True := trivial
theorem t2.tw4371209080521652160 : True := trivial
theorem t2.tw4607935425332388559 : True := trivial
theorem t2.tw8298019009924903557 : True := trivial
theorem t2.tw4021289969694803732 : True := trivial
theorem t2.tw1255292182476382107 : True := trivial
theorem t2.tw18272704837922943719 : True := trivial
theorem t2.tw3664846569685596557 : True := trivial
theorem t2.tw11492166715954757819 : True := trivial
theorem t2.tw7598925992230702061 : True := trivial
theorem t2.tw14912323080789271459 : True := trivial
theorem t2.tw2377539586476040163 : True := trivial
theorem t2.tw9012098465631722450 : True := trivial
theorem t2.tw12879598657320015329 : True := trivial
theorem t2.tw3562116517299625482 : True := trivial
theorem t2.tw18110797006445689995 : True := trivial
theorem t2.tw14996540110089361594 : True := trivial
theorem t2.tw5314447500099002073 : True := trivial
theorem t2.tw7867745146913115468 : True := trivial
theorem t2.tw1720893745540072293 : True := trivial
theorem t2.tw9099497828346901034 : True := trivial
theorem t2.tw7359924611178400303 : True := trivial
theorem t2.tw6174377215963507985 : True := trivial
theorem t2.tw11059413823540335993 : True := trivial
theorem t2.tw1290995648027433610 : True := trivial
theorem t2.tw7900502443576017160 : True := trivial
theorem t2.tw5972905864616600919 : True := trivial
theorem t2.tw2808805523739925611 : True := trivial
theorem t2.tw6574444396733585864 : True := trivial
theorem t2.tw14062668337657150187 : True := trivial
theorem t2.tw18439487279128768623 : True := trivial
theorem t2.tw16008641491998048621 : True := trivial
theorem t2.tw7296685429575403824 : True := trivial
theorem t2.tw15253850957908170710 : True := trivial
theorem t2.tw1654520526781379495 : True := trivial
theorem t2.tw11903271393982671156 : True := trivial
theorem t2.tw8477503267964216564 : True := trivial
theorem t2.tw15473000104905535448 : True := trivial
theorem t2.tw16880148782297173083 : True := trivial
theorem t2.tw17812471754779503792 : True := trivial
theorem t2.tw1599151324868666585 : True := trivial
theorem t2.tw16657652667317352866 : True := trivial
theorem t2.tw11905408229189916580 : True := trivial
theorem t2.tw16140986755764227280 : True := trivial
theorem t2.tw12300654979727256997 : True := trivial
theorem t2.tw2866199360750903081 : True := trivial
theorem t2.tw8616023489301418861 : True := trivial
theorem t2.tw14037235180776055195 : True := trivial
theorem t2.tw8075377052541478937 : True := trivial
theorem t2.tw7222963605609497405 : True := trivial
theorem t2.tw13262276413789002239 : True := trivial
theorem t2.tw2483759707338628719 : True := trivial
theorem t2.tw10086923472223729403 : True := trivial
theorem t2.tw7380065141423948611 : True := trivial
theorem t2.tw17968141570507501750 : True := trivial
theorem t2.tw17976489836827382609 : True := trivial
theorem t2.tw15669625757048787166 : True := trivial
theorem t2.tw6403609648859283546 : True := trivial
theorem t2.tw11904380081956534362 : True := trivial
theorem t2.tw15538465342815708240 : True := trivial
theorem t2.tw8630283823045247790 : True := trivial
theorem t2.tw6642813396290439262 : True := trivial
theorem t2.tw1362451779112755143 : True := trivial
theorem t2.tw9341981606986425920 : True := trivial
theorem t2.tw6762813876669615748 : True := trivial
theorem t2.tw17102116793336853424 : True := trivial
theorem t2.tw11733322872392305337 : True := trivial
theorem t2.tw5976623051827997519 : True := trivial
theorem t2.tw10982635927312759807 : True := trivial
theorem t2.tw14266967545426663723 : True := trivial
theorem t2.tw14341494360225831960 : True := trivial
theorem t2.tw1562892323765362845 : True := trivial
theorem t2.tw4119965851832059703 : True := trivial
theorem t2.tw5675308623207844442 : True := trivial
theorem t2.tw8684601114685361736 : True := trivial
theorem t2.tw7685949758561364869 : True := trivial
theorem t2.tw1598223820301007520 : True := trivial
theorem t2.tw11051367727697496075 : True := trivial
theorem t2.tw5904202300185671157 : True := trivial
theorem t2.tw17229632025850960354 : True := trivial
theorem t2.tw17540267789094046072 : True := trivial
theorem t2.tw7803004543641341330 : True := trivial
theorem t2.tw15605162972949403920 : True := trivial
theorem t2.tw744985229137309054 : True := trivial
theorem t2.tw352759259448203403 : True := trivial
theorem t2.tw14987652436914869521 : True := trivial
theorem t2.tw2958447559074198383 : True := trivial
theorem t2.tw8019478661648047359 : True := trivial
theorem t2.tw1861221677469882307 : True := trivial
theorem t2.tw10024201514764353019 : True := trivial
theorem t2.tw7998443894745552547 : True := trivial
theorem t2.tw2305036084358295314 : True := trivial
theorem t2.tw3971327366381961980 : True := trivial
theorem t2.tw12063389491628005216 : True := trivial
theorem t2.tw15737289618201616468 : True := trivial
theorem t2.tw1181342547064305330 : True := trivial
theorem t2.tw17365052934380034862 : True := trivial
theorem t2.tw10396990748643821567 : True := trivial
theorem t2.tw5318268043651221770 : True := trivial
theorem t2.tw12682596170217687459 : True := trivial
theorem t2.tw1550767012981843614 : True := trivial
theorem t2.tw14902247211677178060 : True := trivial
theorem t2.tw13173048885819233580 : True := trivial
theorem t2.tw4448826809169985353 : True := trivial
theorem t2.tw3235872086035743513 : True := trivial
theorem t2.tw8807213598490771939 : True := trivial
theorem t2.tw8451543679450910148 : True := trivial
theorem t2.tw14717727533986649434 : True := trivial
theorem t2.tw8406807353025187530 : True := trivial
theorem t2.tw8813175105875513496 : True := trivial
theorem t2.tw5536097161922826076 : True := trivial
theorem t2.tw8368160323521849392 : True := trivial
theorem t2.tw2453122779116721666 : True := trivial
theorem t2.tw10069712980329529024 : True := trivial
theorem t2.tw8187682515480472064 : True := trivial
theorem t2.tw15831184007404089509 : True := trivial
theorem t2.tw1853123263434933533 : True := trivial
theorem t2.tw15486386658267023127 : True := trivial
theorem t2.tw14056548815149186948 : True := trivial
theorem t2.tw8443584868734116190 : True := trivial
set_option tactic.hygienic true in
open PySem.W.X in
set_option Elab.async true in
set_option maxRecDepth 100000 in
set_option maxHeartbeats 8000000 in
theorem t2 : PySem.Challenge.rw_rh0085_02.Holds := by
  w_on; o_law; k_head
  (case hw => w_witness2)
  intro w s₀ s₁ mg mb G Y fa o pm cd doc dV kV ho hd hcd hD hmg hg args vals as hpre hlay hrd hwl hlo
  have KX := kIn_of Y
  clear hd hD hcd ho
  refine Ground.open G ?_
  intro T B D TE TW
  wrow_args hpre hlay hrd hwl hlo
  rename_i ns _ _ hL0 _ _ _ _ l vs _ hL _ _ _ hI _ hlen _
  have hlen : ns.length ≤ 63 := by omega
  have hbits := bits_of hL0
  x_fa T KX hmg
  clear hmg
  refine fin2 KX ?_ T.nolimit ⟨mg, mb, T.g, T.b, T.builtins⟩ (by kernel_rfl) hL hI hlen hbits ?_
  · refine Env2.mk (by constructor <;> ((try delta Ent0 Ent1 Ent2 Ent3); intros; kernel_rfl)) ?_ ?_ ?_ ?_ ?_ ?_ ?_ ?_ <;> ((try delta Ent0 Ent1 Ent2 Ent3); intros; kernel_rfl)
  intro s' hk hrest
  exact GoodW.toG ⟨.inl ⟨.bool true, .bool true, [], rfl, raisesW_false (by wrow_none_raised), .bool _, postW_of (by wrow_shape) (by wtm_val) (by w_fin), unshared_nil⟩, hk, hrest.2.2, hrest.1.trans hg⟩
end P_LU2
end Mine
end M_1
theorem PySem.Challenge.cw_rh0085_02_holds : PySem.Challenge.rw_rh0085_02.Holds :=
  Mine.t2
