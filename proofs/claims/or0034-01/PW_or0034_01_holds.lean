import PyProof.Rows.All
import Wide.All
import OpenK.AllK
import Wide.FinOn
import PySem.Challenge.RW_or0034_01
set_option Elab.async false
set_option linter.all false
section
open PySem
set_option linter.all false
set_option genSizeOfSpec false
namespace Mine

/-! the words, as code points -/
noncomputable def mkS (l : List Nat) : Str := ⟨l.toArray⟩
noncomputable def sDelim : Str := mkS [68, 69, 76, 73, 77, 73, 84, 69, 82]
noncomputable def sInbox : Str := mkS [73, 78, 66, 79, 88]
noncomputable def sWild : Str := mkS [87, 73, 76, 68, 95, 83, 73, 71, 78, 83]
noncomputable def sNext : Str := mkS [95, 108, 97, 119, 95, 110, 101, 120, 116]
noncomputable def sSource : Str := mkS [115, 111, 117, 114, 99, 101]
noncomputable def sLimit : Str := mkS [108, 105, 109, 105, 116]
noncomputable def sLen : Str := mkS [108, 101, 110]
noncomputable def sChr : Str := mkS [99, 104, 114]
noncomputable def sOrd : Str := mkS [111, 114, 100]
noncomputable def sInt : Str := mkS [105, 110, 116]
noncomputable def sSorted : Str := mkS [115, 111, 114, 116, 101, 100]
noncomputable def sTuple : Str := mkS [116, 117, 112, 108, 101]
noncomputable def sSet : Str := mkS [115, 101, 116]
noncomputable def sRange : Str := mkS [114, 97, 110, 103, 101]
noncomputable def sStarts : Str := mkS [115, 116, 97, 114, 116, 115, 119, 105, 116, 104]
noncomputable def sEnds : Str := mkS [101, 110, 100, 115, 119, 105, 116, 104]
noncomputable def sFind : Str := mkS [102, 105, 110, 100]
noncomputable def sSplit : Str := mkS [115, 112, 108, 105, 116]
noncomputable def sJoin : Str := mkS [106, 111, 105, 110]
noncomputable def sGet : Str := mkS [103, 101, 116]
noncomputable def sPop : Str := mkS [112, 111, 112]
noncomputable def sAppend : Str := mkS [97, 112, 112, 101, 110, 100]
noncomputable def sAdd : Str := mkS [97, 100, 100]

/-! values by value -/
inductive AV where
  | d (x : PyData)
  | m (kvs : List (Str × PyData))
  | u (ks : List Str)
inductive Sl where
  | val (v : AV)
  | own (v : AV)
abbrev Loc := List (Str × Sl)
inductive Fl where
  | next
  | cont
  | ret (v : AV) (fresh : Bool)
structure Res where
  v : AV
  fresh : Bool
  io : Option AV
abbrev Oracle := Str → List AV → Option Res

/-! names -/
noncomputable def leq : List Nat → List Nat → Bool
  | [], [] => true
  | a :: r, b :: q => Nat.beq a b && leq r q
  | _, _ => false
noncomputable def eqb (a b : Str) : Bool := leq a.cps.toList b.cps.toList
noncomputable def lkp {α : Type} (x : Str) : List (Str × α) → Option α
  | [] => none
  | (y, v) :: r => if eqb x y then some v else lkp x r
noncomputable def lput (x : Str) (v : Sl) : Loc → Loc
  | [] => [(x, v)]
  | (y, w) :: r => if eqb x y then (y, v) :: r else (y, w) :: lput x v r
noncomputable def kd (sc : Scope) (x : Str) : Option NameKind := lkp x sc.names
noncomputable def isVarKind : Option NameKind → Bool
  | some .local | some .cell => true
  | _ => false
/-- the name of a thing that was lent: it stays where it is -/
noncomputable def isPin (sc : Scope) (x : Str) : Bool := eqb x sSource && (kd sc sLimit).isSome
noncomputable def isGlob : Option NameKind → Bool
  | some .globalImplicit => true
  | _ => false
noncomputable def isCellKind : NameKind → Bool
  | .cell | .free => true
  | _ => false

noncomputable def bound (x : Str) (l : Loc) : Bool := (lkp x l).isSome

/-! the words on data -/
noncomputable def strsOf : List PyData → Option (List Str)
  | [] => some []
  | .str s :: r => match strsOf r with | some q => some (s :: q) | none => none
  | _ => none
noncomputable def toStrs (l : List Str) : List PyData := l.map .str
noncomputable def elems (l : List Str) (s : Str) : Bool := l.any (eqb s)
noncomputable def kget (k : Str) : List (Str × PyData) → Option PyData := lkp k
noncomputable def kput (k : Str) (v : PyData) : List (Str × PyData) → List (Str × PyData)
  | [] => [(k, v)]
  | (y, w) :: r => if eqb k y then (y, v) :: r else (y, w) :: kput k v r
noncomputable def ltN : List Nat → List Nat → Bool
  | _, [] => false
  | [], _ :: _ => true
  | a :: r, b :: q => if Nat.blt a b then true else if Nat.blt b a then false else ltN r q
noncomputable def ltS (a b : Str) : Bool := ltN a.cps.toList b.cps.toList
noncomputable def insS (x : Str) : List Str → List Str
  | [] => [x]
  | y :: r => if ltS y x then y :: insS x r else x :: y :: r
noncomputable def sortS : List Str → List Str
  | [] => []
  | x :: r => insS x (sortS r)
noncomputable def big : Nat := 10000
noncomputable def addS (ks : List Str) (x : Str) : List Str := if elems ks x then ks else ks ++ [x]
noncomputable def unionS (a b : List Str) : List Str := b.foldl addS a
/-- the first place of b at or behind k, or -1 -/
noncomputable def findFrom (c : Nat) : List Nat → Nat → Nat → Int
  | [], _, _ => -1
  | x :: r, i, k => if Nat.ble k i && Nat.beq x c then (i : Int) else findFrom c r (i + 1) k
noncomputable def prefixN : List Nat → List Nat → Bool
  | [], _ => true
  | _ :: _, [] => false
  | a :: r, b :: q => Nat.beq a b && prefixN r q
noncomputable def splitN (c : Nat) : List Nat → List Nat → List (List Nat)
  | acc, [] => [acc]
  | acc, x :: r => if Nat.beq x c then acc :: splitN c [] r else splitN c (acc ++ [x]) r
noncomputable def joinN (sep : List Nat) : List (List Nat) → List Nat
  | [] => []
  | [a] => a
  | a :: b :: r => a ++ sep ++ joinN sep (b :: r)
noncomputable def sumLen : List Str → Nat
  | [] => 0
  | x :: r => x.cps.toList.length + sumLen r

noncomputable def binD (op : Operator) (a b : PyData) : Option PyData :=
  match op, a, b with
  | .Add, .int x, .int y => some (.int (x + y))
  | .Sub, .int x, .int y => some (.int (x - y))
  | .Mult, .int x, .int y => if x.natAbs < 2 ^ 62 ∧ y.natAbs < 2 ^ 62 then some (.int (x * y)) else none
  | .Mod, .int x, .int y => if 0 < y then some (.int (x.fmod y)) else none
  | .FloorDiv, .int x, .int y => if 0 < y ∧ y < 1073741824 then some (.int (x.fdiv y)) else none
  | .Add, .str x, .str y => if x.cps.toList.length + y.cps.toList.length ≤ big then some (.str (mkS (x.cps.toList ++ y.cps.toList))) else none
  | _, _, _ => none
noncomputable def binV (op : Operator) (a b : AV) : Option AV :=
  match op, a, b with
  | .BitOr, .u x, .u y => if x.length + y.length ≤ 15 then some (.u (unionS x y)) else none
  | op, .d x, .d y => match binD op x y with | some v => some (.d v) | none => none
  | _, _, _ => none
noncomputable def eqD (a b : PyData) : Option Bool :=
  match a, b with
  | .int x, .int y => some (decide (x = y))
  | .bool x, .bool y => some (x == y)
  | .str x, .str y => some (eqb x y)
  | a, b => if SeqAt.shaped a && SeqAt.shaped b then some (PyData.eqv a b) else none
noncomputable def cmpD (op : CmpOp) (a b : PyData) : Option Bool :=
  match op, a, b with
  | .Eq, a, b => eqD a b
  | .NotEq, a, b => match eqD a b with | some r => some (!r) | none => none
  | .Lt, .int x, .int y => some (decide (x < y))
  | .LtE, .int x, .int y => some (decide (x ≤ y))
  | .Gt, .int x, .int y => some (decide (y < x))
  | .GtE, .int x, .int y => some (decide (y ≤ x))
  | .LtE, .str x, .str y => some (!ltS y x)
  | .In, .str x, .str y => match x.cps.toList with | [c] => some (y.cps.toList.any (Nat.beq c)) | _ => none
  | .In, .str x, .list l => match strsOf l with | some q => some (elems q x) | none => none
  | .In, .str x, .tuple l => match strsOf l with | some q => some (elems q x) | none => none
  | .NotIn, .str x, .list l => match strsOf l with | some q => some (!elems q x) | none => none
  | _, _, _ => none
noncomputable def cmpV (op : CmpOp) (a b : AV) : Option Bool :=
  match op, a, b with
  | .Is, .d .none, .d .none => some true
  | .Is, .m _, .d .none => some false
  | .In, .d (.str x), .m kvs => some (kget x kvs).isSome
  | .NotIn, .d (.str x), .m kvs => some (!(kget x kvs).isSome)
  | .In, .d (.str x), .u ks => some (elems ks x)
  | .NotEq, .u x, .u y => some (!(Nat.beq x.length y.length && x.all (elems y)))
  | op, .d x, .d y => cmpD op x y
  | _, _, _ => none
noncomputable def itemV (a : AV) (i : PyData) : Option PyData :=
  match a, i with
  | .d (.str s), .int i => if 0 ≤ i ∧ i < 2 ^ 62 then (match s.cps.toList[i.toNat]? with | some c => some (.str (mkS [c])) | none => none) else none
  | .d (.list l), .int i => if 0 ≤ i ∧ i < 2 ^ 62 then l[i.toNat]? else if i = -1 then l.getLast? else none
  | .d (.tuple l), .int i => if 0 ≤ i ∧ i < 2 ^ 62 then l[i.toNat]? else none
  | .m kvs, .str k => kget k kvs
  | _, _ => none
noncomputable def uptoV (a : AV) (k : Int) : Option PyData :=
  if 0 ≤ k ∧ k < 2 ^ 62 then
    match a with
    | .d (.str s) => if s.cps.toList.length ≤ big then some (.str (mkS (s.cps.toList.take k.toNat))) else none
    | .d (.list l) => if l.length ≤ big then some (.list (l.take k.toNat)) else none
    | _ => none
  else none
noncomputable def fromV (a : AV) (k : Int) : Option PyData :=
  if 0 ≤ k ∧ k < 2 ^ 62 then
    match a with
    | .d (.str s) => if s.cps.toList.length ≤ big then some (.str (mkS (s.cps.toList.drop k.toNat))) else none
    | _ => none
  else none
inductive IdxV where
  | upto (k : Int)
  | from (k : Int)
  | at (j : PyData)
noncomputable def subV (a : AV) : IdxV → Option PyData
  | .upto k => uptoV a k
  | .from k => fromV a k
  | .at j => itemV a j
noncomputable def truthV : AV → Option Bool
  | .d (.bool b) => some b
  | .d (.list l) => if l.length ≤ big then some (!l.isEmpty) else none
  | _ => none
noncomputable def keysOf (kvs : List (Str × PyData)) : List Str := kvs.map (·.1)
noncomputable def iterV : AV → Option (List PyData)
  | .d (.list l) => some l
  | .d (.str s) => some (s.cps.toList.map fun c => .str (mkS [c]))
  | .m kvs => some (toStrs (keysOf kvs))
  | _ => none
noncomputable def builtinNames : List Str := [sChr, sOrd, sLen, sInt, sSorted, sTuple, sSet]
noncomputable def bltV (f : Str) (a : AV) : Option AV :=
  if eqb f sLen then (match a with
    | .d (.str s) => if s.cps.toList.length ≤ big then some (.d (.int s.cps.toList.length)) else none
    | .d (.list l) => if l.length ≤ big then some (.d (.int l.length)) else none
    | _ => none)
  else if eqb f sChr then (match a with
    | .d (.int i) => if 0 ≤ i ∧ i < 128 then some (.d (.str (mkS [i.toNat]))) else none
    | _ => none)
  else if eqb f sOrd then (match a with
    | .d (.str s) => (match s.cps.toList with | [c] => some (.d (.int c)) | _ => none)
    | _ => none)
  else if eqb f sInt then (match a with
    | .d (.int i) => some (.d (.int i))
    | _ => none)
  else if eqb f sSorted then (match a with
    | .d (.list l) => (match strsOf l with | some q => if q.length < 64 then some (.d (.list (toStrs (sortS q)))) else none | none => none)
    | .m kvs => if kvs.length < 64 then some (.d (.list (toStrs (sortS (keysOf kvs))))) else none
    | _ => none)
  else if eqb f sTuple then (match a with
    | .d (.list l) => if l.length ≤ big then some (.d (.tuple l)) else none
    | _ => none)
  else if eqb f sSet then (match a with
    | .d (.list l) => (match strsOf l with | some q => if q.length < 64 then some (.u (unionS [] q)) else none | none => none)
    | .m kvs => if kvs.length < 16 then some (.u (unionS [] (keysOf kvs))) else none
    | _ => none)
  else none
/-- a method that only reads: on a constant or a name that is no own thing -/
noncomputable def mthV (o : AV) (f : Str) (args : List PyData) : Option PyData :=
  match o, args with
  | .d (.str s), [.str x] =>
    if eqb f sStarts then some (.bool (prefixN x.cps.toList s.cps.toList))
    else if eqb f sEnds then some (.bool (prefixN x.cps.toList.reverse s.cps.toList.reverse))
    else if eqb f sFind then (match x.cps.toList with | [c] => some (.int (findFrom c s.cps.toList 0 0)) | _ => none)
    else if eqb f sSplit then (match x.cps.toList with | [c] => if s.cps.toList.length ≤ big then some (.list ((splitN c [] s.cps.toList).map fun l => .str (mkS l))) else none | _ => none)
    else none
  | .d (.str s), [.str x, .int k] =>
    if eqb f sFind then (match x.cps.toList with | [c] => if 0 ≤ k ∧ k ≤ s.cps.toList.length then some (.int (findFrom c s.cps.toList 0 k.toNat)) else none | _ => none) else none
  | .d (.str s), [.list l] =>
    if eqb f sJoin then (match strsOf l with
      | some q => if sumLen q + q.length * s.cps.toList.length ≤ big then some (.str (mkS (joinN s.cps.toList (q.map fun x => x.cps.toList)))) else none
      | none => none) else none
  | .m kvs, [.str k] => if eqb f sGet then some ((kget k kvs).getD .none) else none
  | _, _ => none
noncomputable def constD : Const → Option PyData
  | .none => some .none
  | .bool b => some (.bool b)
  | .int i => some (.int i)
  | .str s => some (.str s)
  | _ => none
noncomputable def globD (x : Str) : Option PyData :=
  if eqb x sDelim then some (.str (mkS [47]))
  else if eqb x sInbox then some (.str (mkS [73, 78, 66, 79, 88]))
  else if eqb x sWild then some (.str (mkS [37, 42]))
  else none
noncomputable def oneName? : Expr → Option Str
  | .Name x _ => some x
  | _ => none
noncomputable def namesOf? : List Expr → Option (List Str)
  | [] => some []
  | .Name x _ :: r => match namesOf? r with | some q => some (x :: q) | none => none
  | _ => none
/-- one turn's binding -/
noncomputable def bindAll (sc : Scope) : List Str → List PyData → Loc → Option Loc
  | [], [], l => some l
  | x :: xs, v :: vs, l => if (kd sc x == some .local) && !isPin sc x then bindAll sc xs vs (lput x (.val (.d v)) l) else none
  | _, _, _ => none
noncomputable def bindTgt (sc : Scope) (t : Expr) (v : PyData) (l : Loc) : Option Loc :=
  match t with
  | .Name x _ => bindAll sc [x] [v] l
  | .Tuple ts _ _ => (match namesOf? ts, v with | some xs, .tuple vs => bindAll sc xs vs l | _, _ => none)
  | _ => none
/-- the comprehension's own scope; what it captures (all read-only from now on) -/
noncomputable def compScope (sc scope : Scope) : Scope :=
  { scope with names := scope.names.map fun p => if (p.2 == .free) && (kd sc p.1 == some .cell) then (p.1, .cell) else p }
noncomputable def freeze1 (x : Str) (l : Loc) : Loc :=
  match lkp x l with
  | some (.own v) => lput x (.val v) l
  | _ => l
noncomputable def captured (names : List (Str × NameKind)) : List Str := (names.filter fun p => isCellKind p.2).map (·.1)
noncomputable def freezeAll : List Str → Loc → Loc
  | [], l => l
  | x :: r, l => freezeAll r (freeze1 x l)
noncomputable def capture (l : Loc) : List Str → Option Loc
  | [] => some []
  | x :: r => match lkp x l, capture l r with
    | some (.val v), some q => some ((x, .val v) :: q)
    | _, _ => none
noncomputable def notUnd (x : Str) : Bool := match x.cps.toList with | c :: _ => !(Nat.beq c 95) | [] => true
noncomputable def undOk (names : List (Str × NameKind)) : Bool := names.all fun p => isGlob (some p.2) || notUnd p.1
noncomputable def isCellVar : Option NameKind → Bool
  | some .cell | some .free => true
  | _ => false
noncomputable def isFun : ScopeKind → Bool
  | .function => true
  | _ => false
noncomputable def compOk (scope : Scope) : Bool := undOk scope.names && isFun scope.kind && scope.names.all fun p => match p.2 with
  | .cell => false
  | .local => (match kd scope p.1 with | some .local => true | _ => false)
  | .free => (match kd scope p.1 with | some .free => true | _ => false)
  | _ => true
noncomputable def isInout (f : Str) : Bool := eqb f sNext
noncomputable def isSelf (sc : Scope) (f : Str) : Bool := isGlob (kd sc f)

/-- not starred, no set display: what the evaluator takes -/
noncomputable def plainE : Expr → Bool
  | .Starred .. => false
  | .Set .. => false
  | _ => true
noncomputable def forLoop (step : PyData → Loc → Option (Fl × Loc)) : List PyData → Loc → Option (Fl × Loc)
  | [], l => some (.next, l)
  | x :: r, l => match step x l with
    | some (.next, l') => forLoop step r l'
    | some (.cont, l') => forLoop step r l'
    | some (.ret v b, l') => some (.ret v b, l')
    | none => none
noncomputable def whileLoop (test : Loc → Option (Bool × Loc)) (body : Loc → Option (Fl × Loc)) : Nat → Loc → Option (Fl × Loc)
  | 0, _ => none
  | n + 1, l => match test l with
    | some (true, l') => (match body l' with
      | some (.next, l'') => whileLoop test body n l''
      | some (.cont, l'') => whileLoop test body n l''
      | some (.ret v b, l'') => some (.ret v b, l'')
      | none => none)
    | some (false, l') => some (.next, l')
    | none => none
noncomputable def compLoop (step : PyData → Loc → Option (Option PyData × Loc)) : List PyData → Loc → List PyData → Option (List PyData)
  | [], _, acc => some acc
  | x :: r, l, acc => match step x l with
    | some (some y, l') => compLoop step r l' (acc ++ [y])
    | some (none, l') => compLoop step r l' acc
    | none => none
/-- what is run later -/
noncomputable def holdB (b : List Stmt) : List Stmt := b
noncomputable def holdE (e : Expr) : Expr := e
noncomputable def holdEs (e : List Expr) : List Expr := e
/-- one turn of a for -/
noncomputable def mkStep (sc : Scope) (t : Expr) (body : Loc → Option (Fl × Loc)) (v : PyData) (l : Loc) : Option (Fl × Loc) :=
  match bindTgt sc t v l with
  | some l1 => body l1
  | none => none
/-- one turn of a comprehension -/
noncomputable def mkComp (sc2 : Scope) (tgt : Expr) (tests : Loc → Option (Bool × Loc)) (elt : Loc → Option (AV × Loc)) (v : PyData) (lc : Loc) : Option (Option PyData × Loc) :=
  match bindTgt sc2 tgt v lc with
  | some l3 => (match tests l3 with
    | some (true, l4) => (match elt l4 with
      | some (.d y, l5) => some (some y, l5)
      | _ => none)
    | some (false, l4) => some (none, l4)
    | none => none)
  | none => none
noncomputable def rangeD (a n : Int) : List PyData := (List.range (n - a).toNat).map fun (i : Nat) => .int (a + i)
noncomputable def turnsMost : Nat := 400

noncomputable def stE (sc : Scope) (e : Expr) (l : Loc) (cE : Expr → Loc → Option (AV × Loc)) (cB : Expr → Loc → Option (AV × Loc)) (cI : Expr → Loc → Option (IdxV × Loc)) (cEs : List Expr → Loc → Option (List PyData × Loc)) (cCall : Expr → Loc → Option (AV × Bool × Loc)) (cT : Expr → Loc → Option (Bool × Loc)) (cComp : Expr → List Comprehension → Scope → Loc → Option (List PyData × Loc)) : Option (AV × Loc) := match e with
    | .Constant c _ _ => (match constD c with | some v => some (.d v, l) | none => none)
    | .Name x _ => (match lkp x l with
      | some (.val v) => some (v, l)
      | some (.own v) => some (v, lput x (.val v) l)
      | none => if isGlob (kd sc x) then (match globD x with | some v => some (.d v, l) | none => none) else none)
    | .BinOp a op b _ => (match cE a l with
      | some (x, l1) => (match cB b l1 with
        | some (y, l2) => (match binV op x y with | some v => some (v, l2) | none => none)
        | none => none)
      | none => none)
    | .UnaryOp .USub (.Constant (.int i) _ _) _ => some (.d (.int (-i)), l)
    | .IfExp t b o _ => (match cT t l with
      | some (true, l1) => cE b l1
      | some (false, l1) => cE o l1
      | none => none)
    | .BoolOp .And [a, b] _ => (match cE a l with
      | some (.d (.bool true), l1) => (match cE b l1 with | some (.d (.bool r), l2) => some (.d (.bool r), l2) | _ => none)
      | some (.d (.bool false), l1) => some (.d (.bool false), l1)
      | _ => none)
    | .Compare a [op] [b] _ => (match cE a l with
      | some (x, l1) => (match cB b l1 with
        | some (y, l2) => (match cmpV op x y with | some r => some (.d (.bool r), l2) | none => none)
        | none => none)
      | none => none)
    | .List es _ => (match cEs es l with | some (vs, l1) => if vs.length ≤ big then some (.d (.list vs), l1) else none | none => none)
    | .Tuple es _ _ => (match cEs es l with | some (vs, l1) => if vs.length ≤ big then some (.d (.tuple vs), l1) else none | none => none)
    | .Call _ _ [] _ => (match cCall e l with | some (v, _, l1) => some (v, l1) | none => none)
    | .Subscript b i _ => (match b with
      | .Name x _ => if bound x l then (match cI i l with
        | some (j, l1) => (match lkp x l1 with
          | some (.val v) => (match subV v j with | some r => some (.d r, l1) | none => none)
          | some (.own v) => (match subV v j with | some r => some (.d r, l1) | none => none)
          | none => none)
        | none => none) else none
      | b => (match cE b l with
        | some (v, l1) => (match cI i l1 with
          | some (j, l2) => (match subV v j with | some r => some (.d r, l2) | none => none)
          | none => none)
        | none => none))
    | .ListComp elt gens scope pos => (match cComp elt gens scope l with | some (vs, l1) => some (.d (.list vs), l1) | none => none)
    | _ => none
noncomputable def stI (sc : Scope) (e : Expr) (l : Loc) (cE : Expr → Loc → Option (AV × Loc)) : Option (IdxV × Loc) := match e with
    | .Slice none (some k) none _ => (match cE k l with
      | some (.d (.int j), l1) => some (.upto j, l1)
      | _ => none)
    | .Slice (some k) none none _ => (match cE k l with
      | some (.d (.int j), l1) => some (.from j, l1)
      | _ => none)
    | .Slice .. => none
    | e => (match cE e l with
      | some (.d j, l1) => some (.at j, l1)
      | _ => none)
noncomputable def stB (sc : Scope) (e : Expr) (l : Loc) (cE : Expr → Loc → Option (AV × Loc)) : Option (AV × Loc) := match e with
    | .Name x p => (match lkp x l with
      | some (.own v) => some (v, l)
      | _ => cE (.Name x p) l)
    | e => cE e l
noncomputable def stCall (C : Oracle) (sc : Scope) (e : Expr) (l : Loc) (cB : Expr → Loc → Option (AV × Loc)) (cEs : List Expr → Loc → Option (List PyData × Loc)) (cAs : List Expr → Loc → Option (List AV × Loc)) : Option (AV × Bool × Loc) := match e with
    | .Call (.Name f _) args [] _ =>
      if isGlob (kd sc f) then
        if isInout f then (match args with
          | .Name x _ :: rest => if bound x l then (match cAs rest l with
            | some (vs, l1) => (match lkp x l1 with
              | some (.own v0) => (match C f (v0 :: vs) with
                | some ⟨v, false, some v1⟩ => some (v, false, lput x (.own v1) l1)
                | _ => none)
              | _ => none)
            | none => none) else none
          | _ => none)
        else if builtinNames.any (fun b => eqb f b) then (match args with
          | [a] => (match cB a l with
            | some (x, l1) => (match bltV f x with | some v => some (v, false, l1) | none => none)
            | none => none)
          | _ => none)
        else (match cAs args l with
          | some (vs, l1) => (match C f vs with
            | some ⟨v, b, none⟩ => some (v, b, l1)
            | _ => none)
          | none => none)
      else none
    | .Call (.Attribute (.Constant c _ _) f q) args [] pos =>
      if q.endLine == pos.line then (match constD c with
        | some v => (match cEs args l with
          | some (vs, l1) => (match mthV (.d v) f vs with | some r => some (.d r, false, l1) | none => none)
          | none => none)
        | none => none)
      else none
    | .Call (.Attribute (.Name x _) f q) args [] pos =>
      if q.endLine == pos.line then (match lkp x l with
        | some (.val v) => (match cEs args l with
          | some (vs, l1) => (match mthV v f vs with | some r => some (.d r, false, l1) | none => none)
          | none => none)
        | some (.own (.d (.list _))) => (match cEs args l with
          | some ([.int 0], l1) => (match lkp x l1 with
            | some (.own (.d (.list (y :: ys)))) => if eqb f sPop && decide (ys.length < big) then some (.d y, false, lput x (.own (.d (.list ys))) l1) else none
            | _ => none)
          | _ => none)
        | _ => none)
      else none
    | _ => none
noncomputable def stT (sc : Scope) (e : Expr) (l : Loc) (cE : Expr → Loc → Option (AV × Loc)) (cB : Expr → Loc → Option (AV × Loc)) (cT : Expr → Loc → Option (Bool × Loc)) (cTs : BoolOp → List Expr → Loc → Option (Bool × Loc)) : Option (Bool × Loc) := match e with
    | .UnaryOp .Not x _ => (match cT x l with | some (b, l1) => some (!b, l1) | none => none)
    | .BoolOp op vs _ => cTs op vs l
    | .Compare a [o1, o2] [b, c] _ => if plainE c then (match cE a l with
      | some (x, l1) => (match cE b l1 with
        | some (y, l2) => (match cmpV o1 x y with
          | some true => (match cE c l2 with
            | some (z, l3) => (match cmpV o2 y z with | some r => some (r, l3) | none => none)
            | none => none)
          | some false => some (false, l2)
          | none => none)
        | none => none)
      | none => none) else none
    | .Compare a [op] [b] _ => (match cE a l with
      | some (x, l1) => (match cB b l1 with
        | some (y, l2) => (match cmpV op x y with | some r => some (r, l2) | none => none)
        | none => none)
      | none => none)
    | .Compare .. => none
    | .IfExp .. => none
    | e => (match cB e l with
      | some (v, l1) => (match truthV v with | some b => some (b, l1) | none => none)
      | none => none)
noncomputable def stComp (sc : Scope) (elt : Expr) (gens : List Comprehension) (scope : Scope) (l : Loc) (cE : Scope → Expr → Loc → Option (AV × Loc)) (cTs : Scope → BoolOp → List Expr → Loc → Option (Bool × Loc)) : Option (List PyData × Loc) := match gens with
    | [⟨tgt, iter, ifs, 0⟩] => if compOk scope && (captured scope.names).all (fun x => isCellVar (kd sc x) && bound x l) then (match cE sc iter l with
      | some (x, l1) => (match iterV x with
        | some items =>
          (let sc2 := compScope sc scope
           let l2 := freezeAll (captured scope.names) l1
           match capture l2 (captured scope.names) with
           | some lc => (match compLoop (mkComp sc2 tgt (cTs sc2 .And (holdEs ifs)) (cE sc2 (holdE elt))) items lc [] with
              | some ys => if ys.length ≤ big then some (ys, l2) else none
              | none => none)
           | none => none)
        | none => none)
      | none => none) else none
    | _ => none
noncomputable def stEs (es : List Expr) (l : Loc) (cE : Expr → Loc → Option (AV × Loc)) (cEs : List Expr → Loc → Option (List PyData × Loc)) : Option (List PyData × Loc) := match es with
  | [] => some ([], l)
  | e :: r => (match cE e l with
    | some (.d v, l1) => (match cEs r l1 with | some (vs, l2) => some (v :: vs, l2) | none => none)
    | _ => none)
noncomputable def stAs (es : List Expr) (l : Loc) (cE : Expr → Loc → Option (AV × Loc)) (cAs : List Expr → Loc → Option (List AV × Loc)) : Option (List AV × Loc) := match es with
  | [] => some ([], l)
  | e :: r => (match cE e l with
    | some (v, l1) => (match cAs r l1 with | some (vs, l2) => some (v :: vs, l2) | none => none)
    | none => none)
noncomputable def stTs (op : BoolOp) (es : List Expr) (l : Loc) (cT : Expr → Loc → Option (Bool × Loc)) (cTs : BoolOp → List Expr → Loc → Option (Bool × Loc)) : Option (Bool × Loc) := match es with
  | [] => some ((match op with | .And => true | .Or => false), l)
  | x :: r => (match cT x l with
    | some (b, l1) => (match op, b with
      | .And, true => cTs .And r l1
      | .And, false => some (false, l1)
      | .Or, true => some (true, l1)
      | .Or, false => cTs .Or r l1)
    | none => none)
noncomputable def stSs (ss : List Stmt) (l : Loc) (cS : Stmt → Loc → Option (Fl × Loc)) (cSs : List Stmt → Loc → Option (Fl × Loc)) : Option (Fl × Loc) := match ss with
  | [] => some (.next, l)
  | s :: r => (match cS s l with
    | some (.next, l1) => cSs r l1
    | some (.cont, l1) => some (.cont, l1)
    | some (.ret v b, l1) => some (.ret v b, l1)
    | none => none)
mutual
noncomputable def evE (C : Oracle) (sc : Scope) : Nat → Expr → Loc → Option (AV × Loc)
  | 0, _, _ => none
  | n + 1, e, l => stE sc e l (evE C sc n) (evB C sc n) (evI C sc n) (evEs C sc n) (evCall C sc n) (evT C sc n) (evComp C sc n)
noncomputable def evI (C : Oracle) (sc : Scope) : Nat → Expr → Loc → Option (IdxV × Loc)
  | 0, _, _ => none
  | n + 1, e, l => stI sc e l (evE C sc n)
noncomputable def evB (C : Oracle) (sc : Scope) : Nat → Expr → Loc → Option (AV × Loc)
  | 0, _, _ => none
  | n + 1, e, l => stB sc e l (evE C sc n)
noncomputable def evEs (C : Oracle) (sc : Scope) : Nat → List Expr → Loc → Option (List PyData × Loc)
  | 0, _, _ => none
  | n + 1, es, l => stEs es l (evE C sc n) (evEs C sc n)
noncomputable def evAs (C : Oracle) (sc : Scope) : Nat → List Expr → Loc → Option (List AV × Loc)
  | 0, _, _ => none
  | n + 1, es, l => stAs es l (evE C sc n) (evAs C sc n)
noncomputable def evCall (C : Oracle) (sc : Scope) : Nat → Expr → Loc → Option (AV × Bool × Loc)
  | 0, _, _ => none
  | n + 1, e, l => stCall C sc e l (evB C sc n) (evEs C sc n) (evAs C sc n)
noncomputable def evT (C : Oracle) (sc : Scope) : Nat → Expr → Loc → Option (Bool × Loc)
  | 0, _, _ => none
  | n + 1, e, l => stT sc e l (evE C sc n) (evB C sc n) (evT C sc n) (evTs C sc n)
noncomputable def evTs (C : Oracle) (sc : Scope) : Nat → BoolOp → List Expr → Loc → Option (Bool × Loc)
  | 0, _, _, _ => none
  | n + 1, op, es, l => stTs op es l (evT C sc n) (evTs C sc n)
noncomputable def evComp (C : Oracle) (sc : Scope) : Nat → Expr → List Comprehension → Scope → Loc → Option (List PyData × Loc)
  | 0, _, _, _, _ => none
  | n + 1, elt, gens, scope, l => stComp sc elt gens scope l (fun sc => evE C sc n) (fun sc => evTs C sc n)
end
noncomputable def strKey : Option Expr → Option Str
  | some (.Constant (.str a) _ _) => some a
  | _ => none
noncomputable def isSetCall (sc : Scope) : Expr → List Expr → Bool
  | .Name f _, [] => isGlob (kd sc f) && eqb f sSet
  | _, _ => false
noncomputable def rangeArgs (sc : Scope) : Expr → Option (List Expr)
  | .Call (.Name f _) args [] _ => if isGlob (kd sc f) && eqb f sRange then some args else none
  | _ => none
/-- what is made for a name: its own thing, or a value -/
noncomputable def evV (C : Oracle) (sc : Scope) (n : Nat) (e : Expr) (l : Loc) : Option (Sl × Loc) :=
  match e with
  | .List es _ => (match evEs C sc n es l with | some (vs, l1) => if vs.length ≤ big then some (.own (.d (.list vs)), l1) else none | none => none)
  | .Dict ks vs _ => (match ks, vs with
    | [], [] => some (.own (.m []), l)
    | [k1, k2, k3], vs => (match strKey k1, strKey k2, strKey k3 with
      | some a, some b, some c => (match evEs C sc n vs l with
        | some ([x, y, z], l1) => if eqb a b || eqb a c || eqb b c then none else some (.own (.m [(a, x), (b, y), (c, z)]), l1)
        | _ => none)
      | _, _, _ => none)
    | _, _ => none)
  | .Call f args [] q => if isSetCall sc f args then some (.own (.u []), l) else (match evCall C sc n (.Call f args [] q) l with
    | some (v, true, l1) => some (.own v, l1)
    | some (v, false, l1) => some (.val v, l1)
    | none => none)
  | e => (match evE C sc n e l with | some (v, l1) => some (.val v, l1) | none => none)

noncomputable def stS (sc : Scope) (s : Stmt) (l : Loc) (cE : Expr → Loc → Option (AV × Loc)) (cEs : List Expr → Loc → Option (List PyData × Loc)) (cT : Expr → Loc → Option (Bool × Loc)) (cV : Expr → Loc → Option (Sl × Loc)) (cSs : List Stmt → Loc → Option (Fl × Loc)) : Option (Fl × Loc) := match s with
    | .Assign [.Name x _] e _ => if isVarKind (kd sc x) && !isPin sc x then (match cV e l with | some (v, l1) => some (.next, lput x v l1) | none => none) else none
    | .Assign [.Subscript (.Name x _) i _] e _ => (match cE e l with
      | some (.d v, l1) => (match cE i l1 with
        | some (.d (.str k), l2) => (match lkp x l2 with
          | some (.own (.m kvs)) => if bound x l1 && decide (kvs.length < 900) then some (.next, lput x (.own (.m (kput k v kvs))) l2) else none
          | _ => none)
        | _ => none)
      | _ => none)
    | .AugAssign (.Name x _) .Add e _ => if isVarKind (kd sc x) && !isPin sc x then (match lkp x l with
      | some (.val (.d (.int a))) => (match cE e l with
        | some (.d (.int b), l1) => some (.next, lput x (.val (.d (.int (a + b)))) l1)
        | _ => none)
      | _ => none) else none
    | .Expr (.Call (.Attribute (.Name x _) f q) [a] [] pos) _ =>
      if q.endLine == pos.line then (match lkp x l with
        | some (.own (.d (.list _))) => (match cE a l with
          | some (.d v, l1) => (match lkp x l1 with
            | some (.own (.d (.list xs))) => if eqb f sAppend && decide (xs.length < big) then some (.next, lput x (.own (.d (.list (xs ++ [v])))) l1) else none
            | _ => none)
          | _ => none)
        | some (.own (.u _)) => (match cE a l with
          | some (.d (.str y), l1) => (match lkp x l1 with
            | some (.own (.u ks)) => if eqb f sAdd && decide (ks.length < 64) then some (.next, lput x (.own (.u (addS ks y))) l1) else none
            | _ => none)
          | _ => none)
        | _ => none)
      else none
    | .If t b o _ => (match cT t l with
      | some (true, l1) => cSs b l1
      | some (false, l1) => cSs o l1
      | none => none)
    | .While t b [] _ => whileLoop (cT (holdE t)) (cSs (holdB b)) turnsMost l
    | .For t e b [] _ => (match rangeArgs sc e with
      | some args => (match cEs args l with
        | some ([.int k], l1) => if -1000 < k ∧ k < 1000 then forLoop (mkStep sc t (cSs (holdB b))) (rangeD 0 k) l1 else none
        | some ([.int a, .int k], l1) => if 0 ≤ a ∧ a < 1000 ∧ -1000 < k ∧ k < 1000 then forLoop (mkStep sc t (cSs (holdB b))) (rangeD a k) l1 else none
        | _ => none)
      | none => (match cE e l with
        | some (x, l1) => (match iterV x with
          | some items => forLoop (mkStep sc t (cSs (holdB b))) items l1
          | none => none)
        | none => none))
    | .Return (some e) _ => (match cV e l with
      | some (.val v, l1) => some (.ret v false, l1)
      | some (.own v, l1) => some (.ret v true, l1)
      | none => none)
    | .Continue _ => some (.cont, l)
    | _ => none
mutual
noncomputable def evS (C : Oracle) (sc : Scope) : Nat → Stmt → Loc → Option (Fl × Loc)
  | 0, _, _ => none
  | n + 1, s, l => stS sc s l (evE C sc n) (evEs C sc n) (evT C sc n) (evV C sc n) (evSs C sc n)
noncomputable def evSs (C : Oracle) (sc : Scope) : Nat → List Stmt → Loc → Option (Fl × Loc)
  | 0, _, _ => none
  | n + 1, ss, l => stSs ss l (evS C sc n) (evSs C sc n)
end

/-! the defs -/
structure Def where
  name : Str
  params : Arguments
  body : List Stmt
  scope : Scope
noncomputable def defsOf : List Stmt → List Def
  | [] => []
  | .FunctionDef name args body _ _ _ scope _ _ _ :: r => ⟨name, args, body, scope⟩ :: defsOf r
  | _ :: r => defsOf r
noncomputable def theDefs : List Def := defsOf PySem.Challenge.pw_or0034_01.main.body
noncomputable def findDef (f : Str) : List Def → Option Def
  | [] => none
  | d :: r => if eqb f d.name then some d else findDef f r
noncomputable def argNames : List Arg → List Str
  | [] => []
  | ⟨x, _, _⟩ :: r => x :: argNames r
noncomputable def bindArgsV : List Str → List AV → Option Loc
  | [], [] => some []
  | x :: xs, v :: vs => match bindArgsV xs vs with | some l => some ((x, .val v) :: l) | none => none
  | _, _ => none
noncomputable def ownFirst : Loc → Loc
  | (x, .val v) :: r => (x, .own v) :: r
  | l => l
noncomputable def fuel : Nat := 60
noncomputable def callBody (C : Oracle) (d : Def) (args : List AV) : Option Res :=
  match bindArgsV (argNames d.params.args) args with
  | some l0 =>
    let l := if isInout d.name then ownFirst l0 else l0
    (match evSs C d.scope fuel d.body l with
    | some (.ret v b, l1) => if isInout d.name then (match argNames d.params.args with
        | x :: _ => (match lkp x l1, b with | some (.own v1), false => some ⟨v, false, some v1⟩ | _, _ => none)
        | [] => none) else some ⟨v, b, none⟩
    | _ => none)
  | none => none
noncomputable def callEval : Nat → Oracle
  | 0, _, _ => none
  | n + 1, f, args => match findDef f theDefs with
    | some d => callBody (callEval n) d args
    | none => none
section
variable {C : Oracle} {sc : Scope} {n : Nat} {l : Loc} {e : Expr} {s : Stmt}
theorem evE_succ : evE C sc (n + 1) e l = stE sc e l (evE C sc n) (evB C sc n) (evI C sc n) (evEs C sc n) (evCall C sc n) (evT C sc n) (evComp C sc n) := by rw [evE]
theorem evI_succ : evI C sc (n + 1) e l = stI sc e l (evE C sc n) := by rw [evI]
theorem evB_succ : evB C sc (n + 1) e l = stB sc e l (evE C sc n) := by rw [evB]
theorem evCall_succ : evCall C sc (n + 1) e l = stCall C sc e l (evB C sc n) (evEs C sc n) (evAs C sc n) := by rw [evCall]
theorem evT_succ : evT C sc (n + 1) e l = stT sc e l (evE C sc n) (evB C sc n) (evT C sc n) (evTs C sc n) := by rw [evT]
theorem evComp_succ {g : List Comprehension} {scope : Scope} : evComp C sc (n + 1) e g scope l = stComp sc e g scope l (fun sc => evE C sc n) (fun sc => evTs C sc n) := by rw [evComp]
theorem evS_succ : evS C sc (n + 1) s l = stS sc s l (evE C sc n) (evEs C sc n) (evT C sc n) (evV C sc n) (evSs C sc n) := by rw [evS]
theorem evEs_succ {es : List Expr} : evEs C sc (n + 1) es l = stEs es l (evE C sc n) (evEs C sc n) := by rw [evEs]
theorem evAs_succ {es : List Expr} : evAs C sc (n + 1) es l = stAs es l (evE C sc n) (evAs C sc n) := by rw [evAs]
theorem evTs_succ {op : BoolOp} {es : List Expr} : evTs C sc (n + 1) op es l = stTs op es l (evT C sc n) (evTs C sc n) := by rw [evTs]
theorem evSs_succ {ss : List Stmt} : evSs C sc (n + 1) ss l = stSs ss l (evS C sc n) (evSs C sc n) := by rw [evSs]
end
end Mine
end

section
open PySem PySem.Calls PyProof.Rows
set_option Elab.async false
set_option linter.unusedVariables false
namespace Mine
theorem no_none {α : Type} {x : α} {P : Prop} (h : none = some x) : P := nomatch h
theorem of_ite {α : Type} {c : Prop} [Decidable c] {x y : α} (h : (if c then some x else none) = some y) : c ∧ x = y := by
  by_cases hc : c
  · rw [if_pos hc] at h; exact ⟨hc, Option.some.inj h⟩
  · rw [if_neg hc] at h; exact no_none h
/-! the words are these texts -/
theorem sDelim_eq : sDelim = ("DELIMITER" : Str) := by decide +kernel
theorem sInbox_eq : sInbox = ("INBOX" : Str) := by decide +kernel
theorem sWild_eq : sWild = ("WILD_SIGNS" : Str) := by decide +kernel
theorem sLen_eq : sLen = ("len" : Str) := by decide +kernel
theorem sChr_eq : sChr = ("chr" : Str) := by decide +kernel
theorem sOrd_eq : sOrd = ("ord" : Str) := by decide +kernel
theorem sInt_eq : sInt = ("int" : Str) := by decide +kernel
theorem sSorted_eq : sSorted = ("sorted" : Str) := by decide +kernel
theorem sTuple_eq : sTuple = ("tuple" : Str) := by decide +kernel
theorem sSet_eq : sSet = ("set" : Str) := by decide +kernel
theorem sRange_eq : sRange = ("range" : Str) := by decide +kernel
theorem sStarts_eq : sStarts = ("startswith" : Str) := by decide +kernel
theorem sEnds_eq : sEnds = ("endswith" : Str) := by decide +kernel
theorem sFind_eq : sFind = ("find" : Str) := by decide +kernel
theorem sSplit_eq : sSplit = ("split" : Str) := by decide +kernel
theorem sJoin_eq : sJoin = ("join" : Str) := by decide +kernel
theorem sGet_eq : sGet = ("get" : Str) := by decide +kernel
theorem sPop_eq : sPop = ("pop" : Str) := by decide +kernel
theorem sAppend_eq : sAppend = ("append" : Str) := by decide +kernel
theorem sAdd_eq : sAdd = ("add" : Str) := by decide +kernel
/-! names -/
theorem leq_iff : ∀ {a b : List Nat}, leq a b = true ↔ a = b
  | [], [] => by simp [leq]
  | [], _ :: _ => by simp [leq]
  | _ :: _, [] => by simp [leq]
  | a :: r, b :: q => by simp [leq, leq_iff (a := r) (b := q)]
theorem eqb_iff {a b : Str} : eqb a b = true ↔ a = b := by
  obtain ⟨⟨a⟩⟩ := a; obtain ⟨⟨b⟩⟩ := b
  simp [eqb, leq_iff]
theorem eqb_refl (a : Str) : eqb a a = true := eqb_iff.mpr rfl
theorem eqb_false {a b : Str} : eqb a b = false ↔ a ≠ b := by
  rw [← Bool.not_eq_true, eqb_iff]
theorem eqb_beq (a b : Str) : eqb a b = (a == b) := by
  cases h : eqb a b with
  | true => rw [eqb_iff.mp h]; simp
  | false => exact (beq_eq_false_iff_ne.mpr (eqb_false.mp h)).symm
theorem lkp_lookup {α : Type} (x : Str) : ∀ l : List (Str × α), lkp x l = l.lookup x
  | [] => rfl
  | (y, v) :: r => by
    rw [lkp, List.lookup_cons, eqb_beq, lkp_lookup x r]
    cases x == y <;> rfl
theorem lkp_lput_self (x : Str) (v : Sl) : ∀ l : Loc, lkp x (lput x v l) = some v
  | [] => by simp [lput, lkp, eqb_refl]
  | (y, w) :: r => by
    by_cases h : eqb x y = true
    · simp [lput, lkp, h]
    · simp [lput, lkp, h, lkp_lput_self x v r]
theorem lkp_lput_ne {x y : Str} (h : y ≠ x) (v : Sl) : ∀ l : Loc, lkp y (lput x v l) = lkp y l
  | [] => by simp [lput, lkp, eqb_false.mpr h]
  | (z, w) :: r => by
    by_cases hx : eqb x z = true
    · have := eqb_iff.mp hx; subst this
      simp [lput, lkp, hx, eqb_false.mpr h]
    · simp only [lput, hx, lkp]
      simp [lkp_lput_ne h v r, lkp]

/-! a heap cut down to what is not bad -/
open Classical in
noncomputable def pick (h : Heap) (bad : Addr → Prop) : Heap := PySem.W.hideAll h ((List.range h.objs.size).filter fun b => decide (bad b))
theorem pick_get {h : Heap} {bad : Addr → Prop} {b : Addr} {o : Obj} : (pick h bad).get? b = some o ↔ h.get? b = some o ∧ ¬ bad b := by
  classical
  constructor
  · intro e
    have e1 := PySem.W.of_hideAll _ e
    refine ⟨e1, fun hb => ?_⟩
    have hm : b ∈ (List.range h.objs.size).filter fun b => decide (bad b) := List.mem_filter.mpr ⟨List.mem_range.mpr (Heap.lt_size e1), by simpa using hb⟩
    have := PySem.W.hideAll_none (h := h) _ hm
    unfold pick at e
    rw [this] at e; cases e
  · rintro ⟨e, hb⟩
    refine PySem.W.hideAll_get _ e fun hm => hb ?_
    simpa using (List.mem_filter.mp hm).2
theorem pick_none {h : Heap} {bad : Addr → Prop} {b : Addr} (hb : bad b) : (pick h bad).get? b = none := by
  cases e : (pick h bad).get? b with
  | none => rfl
  | some o => exact absurd hb (pick_get.mp e).2
theorem pick_stays {h : Heap} {bad : Addr → Prop} : (pick h bad).StaysIn h := fun _ _ e => (pick_get.mp e).1

/-! values -/
noncomputable def RD (B : Heap) (v : Value) (x : PyData) : Prop := ∃ as, Reads B v x as
noncomputable def RDs (B : Heap) (vs : List Value) (xs : List PyData) : Prop := ∃ as, ReadsAll B vs xs as
inductive Prs (B : Heap) : List (Str × Value) → List (Str × PyData) → Prop
  | nil : Prs B [] []
  | cons {k v x r q} : RD B v x → Prs B r q → Prs B ((k, v) :: r) ((k, x) :: q)
section
variable (prog : Program) (w : World)
noncomputable def CRm (B h : Heap) (kvs : List (Str × PyData)) (a : Addr) : Prop :=
  (a == sysModules) = false ∧ ∃ es, h.DictOf (strKind prog w) a es ∧ Prs B es kvs
noncomputable def CRu (h : Heap) (ks : List Str) (a : Addr) : Prop := h.SetOf (strKind prog w) a (fun x => elems ks x) ks.length ∧ ks.Nodup
noncomputable def VR (B : Heap) : AV → Value → Prop
  | .d x, v => RD B v x
  | .m kvs, v => ∃ a, v = .ref a ∧ CRm prog w B B kvs a
  | .u ks, v => ∃ a, v = .ref a ∧ CRu prog w B ks a
noncomputable def CR (B h : Heap) : AV → Addr → Prop
  | .d (.list l), a => ∃ vs c, h.get? a = some { cls := .type "list", data := .seq (List.toArray vs) c } ∧ RDs B vs l
  | .m kvs, a => CRm prog w B h kvs a
  | .u ks, a => CRu prog w h ks a
  | _, _ => False
noncomputable def SlR (B h : Heap) (a : Addr) : Sl → Value → Prop
  | .val v, val => VR prog w B v val
  | .own v, val => val = .ref a ∧ CR prog w B h v a
end

theorem RD.keeps {B B' : Heap} (k : B.StaysIn B') {v x} (h : RD B v x) : RD B' v x := let ⟨as, r⟩ := h; ⟨as, Reads.keeps k r⟩
theorem RDs.keeps {B B' : Heap} (k : B.StaysIn B') {v x} (h : RDs B v x) : RDs B' v x := let ⟨as, r⟩ := h; ⟨as, ReadsAll.keeps k r⟩
theorem Prs.keeps {B B' : Heap} (k : B.StaysIn B') {v x} (h : Prs B v x) : Prs B' v x := by
  induction h with
  | nil => exact .nil
  | cons r _ ih => exact .cons (r.keeps k) ih
theorem RDs.nil {B : Heap} : RDs B [] [] := ⟨_, .nil⟩
theorem RDs.cons {B : Heap} {v x vs xs} (h : RD B v x) (r : RDs B vs xs) : RDs B (v :: vs) (x :: xs) := let ⟨_, a⟩ := h; let ⟨_, b⟩ := r; ⟨_, .cons a b⟩
theorem RDs.uncons {B : Heap} {vs x xs} (h : RDs B vs (x :: xs)) : ∃ v r, vs = v :: r ∧ RD B v x ∧ RDs B r xs := by
  obtain ⟨as, h⟩ := h; cases h with | cons a b => exact ⟨_, _, rfl, ⟨_, a⟩, ⟨_, b⟩⟩
theorem RDs.unnil {B : Heap} {vs} (h : RDs B vs []) : vs = [] := by obtain ⟨as, h⟩ := h; cases h; rfl
theorem RDs.append {B : Heap} : ∀ {vs xs ws ys}, RDs B vs xs → RDs B ws ys → RDs B (vs ++ ws) (xs ++ ys)
  | vs, [], _, _, h, r => by rw [h.unnil]; exact r
  | vs, x :: xs, _, _, h, r => by
    obtain ⟨v, q, rfl, a, b⟩ := h.uncons
    exact .cons a (RDs.append b r)
theorem RDs.length {B : Heap} : ∀ {vs xs}, RDs B vs xs → vs.length = xs.length
  | vs, [], h => by rw [h.unnil]; rfl
  | vs, x :: xs, h => by obtain ⟨v, q, rfl, a, b⟩ := h.uncons; simp [RDs.length b]
theorem RDs.get {B : Heap} : ∀ {vs xs} {i : Nat} {x}, RDs B vs xs → xs[i]? = some x → ∃ v, vs[i]? = some v ∧ RD B v x
  | vs, [], i, x, h, e => by simp at e
  | vs, y :: ys, 0, x, h, e => by obtain ⟨v, q, rfl, a, b⟩ := h.uncons; simp at e; subst e; exact ⟨v, rfl, a⟩
  | vs, y :: ys, i + 1, x, h, e => by
    obtain ⟨v, q, rfl, a, b⟩ := h.uncons
    simpa using RDs.get b (by simpa using e)
theorem RDs.get' {B : Heap} {vs xs} {i : Nat} {v} (h : RDs B vs xs) (e : vs[i]? = some v) : ∃ x, xs[i]? = some x ∧ RD B v x := by
  have hl := h.length
  have hi : i < vs.length := (List.getElem?_eq_some_iff.mp e).1
  obtain ⟨v', e', r⟩ := h.get (i := i) (x := xs[i]'(by omega)) (by simp)
  rw [e] at e'; cases e'
  exact ⟨_, by simp, r⟩
theorem RDs.take {B : Heap} : ∀ {vs xs}, RDs B vs xs → ∀ n, RDs B (vs.take n) (xs.take n)
  | vs, [], h, n => by rw [h.unnil]; simp; exact .nil
  | vs, x :: xs, h, 0 => by simp; exact .nil
  | vs, x :: xs, h, n + 1 => by obtain ⟨v, q, rfl, a, b⟩ := h.uncons; exact .cons a (RDs.take b n)
theorem RD.int {B v i} (h : RD B v (.int i)) : ∃ t, v = .int i t := by obtain ⟨_, h⟩ := h; cases h; exact ⟨_, rfl⟩
theorem RD.str {B v i} (h : RD B v (.str i)) : ∃ t, v = .str i t := by obtain ⟨_, h⟩ := h; cases h; exact ⟨_, rfl⟩
theorem RD.bool {B v i} (h : RD B v (.bool i)) : v = .bool i := by obtain ⟨_, h⟩ := h; cases h; rfl
theorem RD.none {B v} (h : RD B v .none) : v = .none := by obtain ⟨_, h⟩ := h; cases h; rfl
theorem RD.list {B v l} (h : RD B v (.list l)) : ∃ a vs, v = .ref a ∧ B.IsList a (List.toArray vs) ∧ RDs B vs l := by
  obtain ⟨_, h⟩ := h; cases h with
  | list ho hc hd r => exact ⟨_, _, rfl, ⟨_, ho, hc, _, by rw [hd]⟩, ⟨_, r⟩⟩
theorem RD.tuple {B v l} (h : RD B v (.tuple l)) : ∃ a vs, v = .ref a ∧ IsTup B a (List.toArray vs) ∧ RDs B vs l := by
  obtain ⟨_, h⟩ := h; cases h with
  | tuple ho hc hd r => exact ⟨_, _, rfl, ⟨_, ho, hc, _, by rw [hd]⟩, ⟨_, r⟩⟩
theorem rdInt {B i t} : RD B (.int i t) (.int i) := ⟨_, .int i t⟩
theorem rdStr {B i t} : RD B (.str i t) (.str i) := ⟨_, .str i t⟩
theorem rdBool {B i} : RD B (.bool i) (.bool i) := ⟨_, .bool i⟩
theorem rdNone {B} : RD B .none .none := ⟨_, .none⟩
theorem rdList {B : Heap} {a vs l n o} (ho : B.get? a = some o) (hc : o.cls = .type "list") (hd : o.data = .seq vs n) (r : RDs B vs.toList l) : RD B (.ref a) (.list l) := let ⟨_, r⟩ := r; ⟨_, .list ho hc hd r⟩
theorem rdTuple {B : Heap} {a vs l n o} (ho : B.get? a = some o) (hc : o.cls = .type "tuple") (hd : o.data = .seq vs n) (r : RDs B vs.toList l) : RD B (.ref a) (.tuple l) := let ⟨_, r⟩ := r; ⟨_, .tuple ho hc hd r⟩

section
variable {prog : Program} {w : World}
theorem CRm.keeps {B B' h h' : Heap} (k : B.StaysIn B') {kvs a} (c : CRm prog w B h kvs a) (e : ∀ o, h.get? a = some o → h'.get? a = some o) : CRm prog w B' h' kvs a := by
  obtain ⟨lo, es, ⟨o, ds, ep, ho, r⟩, p⟩ := c
  exact ⟨lo, es, ⟨o, ds, ep, e _ ho, r⟩, p.keeps k⟩
theorem CRu.keeps {h h' : Heap} {ks a} (c : CRu prog w h ks a) (e : ∀ o, h.get? a = some o → h'.get? a = some o) : CRu prog w h' ks a := by
  obtain ⟨⟨o, ds, ep, t, ho, r⟩, nd⟩ := c
  exact ⟨⟨o, ds, ep, t, e _ ho, r⟩, nd⟩
theorem VR.keeps {B B' : Heap} (k : B.StaysIn B') {v val} (r : VR prog w B v val) : VR prog w B' v val := by
  cases v with
  | d x => exact RD.keeps k r
  | m kvs => obtain ⟨a, rfl, c⟩ := r; exact ⟨a, rfl, c.keeps k fun o e => k _ _ e⟩
  | u ks => obtain ⟨a, rfl, c⟩ := r; exact ⟨a, rfl, c.keeps fun o e => k _ _ e⟩
theorem CR.keeps {B B' h h' : Heap} (k : B.StaysIn B') {v a} (c : CR prog w B h v a) (e : ∀ o, h.get? a = some o → h'.get? a = some o) : CR prog w B' h' v a := by
  cases v with
  | d x => cases x with
    | list l => obtain ⟨vs, n, ho, r⟩ := c; exact ⟨vs, n, e _ ho, r.keeps k⟩
    | _ => exact c.elim
  | m kvs => exact CRm.keeps k c e
  | u ks => exact CRu.keeps c e
theorem CR.there {B h : Heap} {v a} (c : CR prog w B h v a) : ∃ o, h.get? a = some o := by
  cases v with
  | d x => cases x with
    | list l => obtain ⟨vs, n, ho, r⟩ := c; exact ⟨_, ho⟩
    | _ => exact c.elim
  | m kvs => obtain ⟨lo, es, ⟨o, ds, ep, ho, r⟩, p⟩ := c; exact ⟨_, ho⟩
  | u ks => obtain ⟨⟨o, ds, ep, t, ho, r⟩, nd⟩ := c; exact ⟨_, ho⟩
/-- an own thing, once it is in the read part, is a value -/
theorem CR.vr {B h : Heap} {v a} (c : CR prog w B h v a) (e : ∀ o, h.get? a = some o → B.get? a = some o) : VR prog w B v (.ref a) := by
  cases v with
  | d x => cases x with
    | list l => obtain ⟨vs, n, ho, r⟩ := c; exact rdList (e _ ho) rfl rfl (by simpa using r)
    | _ => exact c.elim
  | m kvs => exact ⟨a, rfl, CRm.keeps (fun _ _ e => e) c e⟩
  | u ks => exact ⟨a, rfl, CRu.keeps c e⟩
theorem SlR.keeps {B B' h h' : Heap} (k : B.StaysIn B') {a sl val} (c : SlR prog w B h a sl val) (e : (∃ v, sl = .own v) → ∀ o, h.get? a = some o → h'.get? a = some o) : SlR prog w B' h' a sl val := by
  cases sl with
  | val v => exact VR.keeps k c
  | own v => exact ⟨c.1, c.2.keeps k (e ⟨_, rfl⟩)⟩
end


/-! what every heap of the call bears: the globals -/
noncomputable def bltVal (f : Str) : Option Value :=
  if eqb f sLen then some (.builtin "len") else if eqb f sChr then some (.builtin "chr") else if eqb f sOrd then some (.builtin "ord")
  else if eqb f sInt then some (.type "int") else if eqb f sSorted then some (.builtin "sorted") else if eqb f sTuple then some (.type "tuple")
  else if eqb f sSet then some (.type "set") else if eqb f sRange then some (.type "range") else none
structure Gl (mg mb : Str → Option Value) (B : Heap) : Prop where
  g : B.Ns mainGlobals mg
  b : B.Ns builtinsNs mb
  lim : B.NoLimit
  defs : ∀ f d, findDef f theDefs = some d → ∃ a o pm code doc, mg f = some (.ref a) ∧ B.get? a = some o ∧ o.data = .func (docDef d.name d.params d.body d.scope pm code doc) ∧ B.CodeRec code d.name
  con : ∀ x v, globD x = some v → ∃ val, mg x = some val ∧ ∀ h, RD h val v
  blt : ∀ f v, bltVal f = some v → mg f = none ∧ mb f = some v
theorem Gl.keeps {mg mb} {B B' : Heap} (k : B.StaysIn B') (G : Gl mg mb B) : Gl mg mb B' where
  g := G.g.keeps k
  b := G.b.keeps k
  lim := G.lim.keeps k
  defs := fun f d e => let ⟨a, o, pm, code, doc, h1, h2, h3, h4⟩ := G.defs f d e; ⟨a, o, pm, code, doc, h1, k _ _ h2, h3, h4.keeps k⟩
  con := G.con
  blt := G.blt
theorem Gl.sys {mg mb} {B h : Heap} (G : Gl mg mb B) (k : B.StaysIn h) : sysModules < h.objs.size := by
  have := (G.g.keeps k).lt
  exact Nat.lt_of_le_of_lt (by decide) this

/-! a frame -/
structure Fx where
  env : Env
  K : Heap
  Fb : Addr → Prop
  pc : List Addr
  pin : Option (Str × Addr)
structure EnvOk (sc : Scope) (env : Env) : Prop where
  scope : env.scope = sc
  kind : sc.kind = .function
  globals : env.globals = mainGlobals
  builtins : env.builtins = builtinsNs
  und : undOk sc.names = true
structure StOk (sc : Scope) (F : Fx) : Prop where
  fn : ∀ n c, F.env.cells.lookup n = some c → c ∈ F.pc
  has : ∀ x, kd sc x = some .cell → (F.env.cells.lookup x).isSome = true
  apart : F.env.cells.Pairwise fun x y => x.2 ≠ y.2
noncomputable def slotv (env : Env) (m cm : Str → Option Value) (x : Str) : Option Value :=
  match env.kindOf x with
  | some .local => m x
  | some .cell => if (env.cells.lookup x).isSome then cm x else none
  | some .free => if (env.cells.lookup x).isSome && !(x == "__classdict__") then cm x else none
  | _ => none
noncomputable def Priv (F : Fx) (ad : Str → Addr) (l : Loc) (b : Addr) : Prop :=
  b = F.env.locals ∨ b ∈ F.pc ∨ ∃ x v, lkp x l = some (.own v) ∧ ad x = b
noncomputable def Sh (s s' : Shared) : Prop := ∃ h tk, s' = { s with heap := h, toks := tk }
theorem Sh.refl (s : Shared) : Sh s s := ⟨s.heap, s.toks, rfl⟩
theorem Sh.trans {s s' s'' : Shared} (a : Sh s s') (b : Sh s' s'') : Sh s s'' := by
  obtain ⟨h, tk, rfl⟩ := a; obtain ⟨h', tk', rfl⟩ := b; exact ⟨h', tk', rfl⟩

section
variable (prog : Program) (w : World) (mg mb : Str → Option Value)
structure Rel (F : Fx) (m cm : Str → Option Value) (ad : Str → Addr) (l : Loc) (B : Heap) (s : Shared) : Prop where
  keepK : F.K.StaysIn s.heap
  keepB : B.StaysIn s.heap
  gl : Gl mg mb B
  forb : ∀ b, F.Fb b → B.get? b = none
  alive : ∀ b, F.Fb b → ∃ o, s.heap.get? b = some o
  ns : s.heap.Ns F.env.locals m
  cl : ∀ n c, F.env.cells.lookup n = some c → s.heap.IsCell c (cm n)
  cellK : ∀ n c, F.env.cells.lookup n = some c → c ∈ F.pc ∨ ∃ o, F.K.get? c = some o
  pcAlive : ∀ c, c ∈ F.pc → ∃ o, s.heap.get? c = some o
  pcL : F.env.locals ∉ F.pc
  privB : ∀ b, Priv F ad l b → B.get? b = none
  privK : ∀ b, Priv F ad l b → F.K.get? b = none
  slots : ∀ x sl, lkp x l = some sl → ∃ val, slotv F.env m cm x = some val ∧ SlR prog w B s.heap (ad x) sl val
  inj : ∀ x y v u, lkp x l = some (.own v) → lkp y l = some (.own u) → ad x = ad y → x = y
  off : ∀ x v, lkp x l = some (.own v) → ad x ≠ F.env.locals ∧ ad x ∉ F.pc ∧ ¬ F.Fb (ad x)
  pin : ∀ x a, F.pin = some (x, a) → isPin F.env.scope x = true ∧ slotv F.env m cm x = some (.ref a)
end

section
variable {prog : Program} {w : World} {mg mb : Str → Option Value} {F : Fx} {m cm : Str → Option Value} {ad : Str → Addr} {l : Loc} {B : Heap} {s : Shared}

theorem Rel.cellL (R : Rel prog w mg mb F m cm ad l B s) (n : Str) (c : Addr) (e : F.env.cells.lookup n = some c) : c ≠ F.env.locals := by
  rintro rfl
  rcases R.cellK n _ e with p | ⟨o, ho⟩
  · exact R.pcL p
  · have h9 := R.privK _ (.inl rfl); rw [ho] at h9; cases h9
theorem Rel.privAlive (R : Rel prog w mg mb F m cm ad l B s) {b : Addr} (p : Priv F ad l b) : ∃ o, s.heap.get? b = some o := by
  rcases p with rfl | p | ⟨x, v, e, rfl⟩
  · obtain ⟨o, _, _, ho, _⟩ := R.ns; exact ⟨o, ho⟩
  · exact R.pcAlive b p
  · obtain ⟨val, _, rfl, c⟩ := R.slots x _ e
    exact c.there

/-- the same locals and things, another heap: what is private stands, what else stood stands but for X -/
theorem Rel.chg {X : Addr → Prop} {s' : Shared} {B' : Heap} (R : Rel prog w mg mb F m cm ad l B s)
    (hk : ∀ b o, s.heap.get? b = some o → ¬ X b → s'.heap.get? b = some o)
    (hX : ∀ b, X b → F.K.get? b = none ∧ B.get? b = none ∧ ¬ Priv F ad l b) (hXa : ∀ b, X b → F.Fb b → ∃ o, s'.heap.get? b = some o)
    (kB : B.StaysIn B') (kB' : B'.StaysIn s'.heap) (hnew : ∀ b o, B'.get? b = some o → B.get? b = some o ∨ s.heap.get? b = none) : Rel prog w mg mb F m cm ad l B' s' := by
  have hK : F.K.StaysIn s'.heap := fun b o e => hk b o (R.keepK b o e) fun x => by rw [(hX b x).1] at e; cases e
  have hP : ∀ b, Priv F ad l b → ∀ o, s.heap.get? b = some o → s'.heap.get? b = some o := fun b p o e => hk b o e fun x => (hX b x).2.2 p
  have nB : ∀ b, (∃ o, s.heap.get? b = some o) → B.get? b = none → B'.get? b = none := fun b ⟨o, ho⟩ e => by
    cases q : B'.get? b with
    | none => rfl
    | some o' => rcases hnew b o' q with q' | q'
                 · rw [e] at q'; cases q'
                 · rw [ho] at q'; cases q'
  have hC : ∀ n c, F.env.cells.lookup n = some c → ∀ o, s.heap.get? c = some o → s'.heap.get? c = some o := fun n c e o ho => by
    rcases R.cellK n c e with p | ⟨o', ho'⟩
    · exact hP c (.inr (.inl p)) o ho
    · have := R.keepK _ _ ho'; rw [ho] at this; cases this; exact hK _ _ ho'
  refine ⟨hK, kB', R.gl.keeps kB, fun b f => nB b (R.alive b f) (R.forb b f), fun b f => ?_, ?_, fun n c e => ?_, R.cellK, fun c hc => ?_, R.pcL, fun b p => nB b (R.privAlive p) (R.privB b p), R.privK, fun x sl e => ?_, R.inj, R.off, R.pin⟩
  · by_cases x : X b
    · exact hXa b x f
    · obtain ⟨o, ho⟩ := R.alive b f; exact ⟨o, hk _ _ ho x⟩
  · obtain ⟨o, es, ep, ho, r⟩ := R.ns
    exact ⟨o, es, ep, hP _ (.inl rfl) _ ho, r⟩
  · obtain ⟨o, ho, hd⟩ := R.cl n c e
    exact ⟨o, hC n c e o ho, hd⟩
  · obtain ⟨o, ho⟩ := R.pcAlive c hc; exact ⟨o, hP c (.inr (.inl hc)) o ho⟩
  · obtain ⟨val, h1, h2⟩ := R.slots x sl e
    refine ⟨val, h1, h2.keeps kB fun ⟨v, hv⟩ o ho => ?_⟩
    subst hv
    exact hP _ (.inr (.inr ⟨x, v, e, rfl⟩)) o ho
/-- everything stood, the read part may have grown by what is new -/
theorem Rel.after {s' : Shared} {B' : Heap} (R : Rel prog w mg mb F m cm ad l B s) (hk : s.heap.StaysIn s'.heap)
    (kB : B.StaysIn B') (kB' : B'.StaysIn s'.heap) (hnew : ∀ b o, B'.get? b = some o → B.get? b = some o ∨ s.heap.get? b = none) : Rel prog w mg mb F m cm ad l B' s' :=
  R.chg (X := fun _ => False) (fun b o e _ => hk b o e) (fun _ x => x.elim) (fun _ x => x.elim) kB kB' hnew
theorem Rel.keep {s' : Shared} (R : Rel prog w mg mb F m cm ad l B s) (hk : s.heap.StaysIn s'.heap) : Rel prog w mg mb F m cm ad l B s' :=
  R.after hk (fun _ _ e => e) (fun b o e => hk b o (R.keepB b o e)) fun _ _ e => .inl e
/-- all that is new is read from now on -/
theorem Rel.fresh {s' : Shared} (R : Rel prog w mg mb F m cm ad l B s) (hk : s.heap.StaysIn s'.heap) :
    ∃ B', B.StaysIn B' ∧ Rel prog w mg mb F m cm ad l B' s' ∧ ∀ b o, s.heap.get? b = none → s'.heap.get? b = some o → B'.get? b = some o := by
  refine ⟨pick s'.heap fun b => (∃ o, s.heap.get? b = some o) ∧ B.get? b = none, fun b o e => ?_, R.after hk (fun b o e => ?_) pick_stays fun b o e => ?_, fun b o e e' => ?_⟩
  · exact pick_get.mpr ⟨hk b o (R.keepB b o e), fun x => by rw [x.2] at e; cases e⟩
  · exact pick_get.mpr ⟨hk b o (R.keepB b o e), fun x => by rw [x.2] at e; cases e⟩
  · obtain ⟨e1, e2⟩ := pick_get.mp e
    cases q : s.heap.get? b with
    | none => exact .inr rfl
    | some o' =>
      cases q' : B.get? b with
      | none => exact absurd ⟨⟨o', q⟩, q'⟩ e2
      | some o'' =>
        have := R.keepB b o'' q'
        have := hk _ _ this
        rw [e1] at this; cases this; exact .inl rfl
  · exact pick_get.mpr ⟨e', fun x => by obtain ⟨o', h⟩ := x.1; rw [e] at h; cases h⟩
/-- less is asked to be kept -/
theorem Rel.weaken {F' : Fx} (R : Rel prog w mg mb F' m cm ad l B s) (he : F'.env = F.env) (hp : F'.pc = F.pc) (hpn : F'.pin = F.pin) (hK : F.K.StaysIn F'.K) (hf : ∀ b, F.Fb b → F'.Fb b)
    (hc : ∀ n c, F.env.cells.lookup n = some c → c ∈ F.pc ∨ ∃ o, F.K.get? c = some o) : Rel prog w mg mb F m cm ad l B s := by
  obtain ⟨env, K, Fb, pc, pn⟩ := F
  obtain ⟨env', K', Fb', pc', pn'⟩ := F'
  dsimp only at he hp hpn hK hf hc
  subst he; subst hp; subst hpn
  refine ⟨fun b o e => R.keepK b o (hK b o e), R.keepB, R.gl, fun b f => R.forb b (hf b f), fun b f => R.alive b (hf b f), R.ns, R.cl, hc, R.pcAlive, R.pcL, R.privB, fun b p => ?_, R.slots, R.inj, fun x v e => ⟨(R.off x v e).1, (R.off x v e).2.1, fun f => (R.off x v e).2.2 (hf _ f)⟩, R.pin⟩
  cases q : K.get? b with
  | none => rfl
  | some o =>
    have h9 := hK b o q
    have h8 : K'.get? b = none := R.privK b p
    rw [h8] at h9; cases h9
/-- all that is not private is kept from now on, and what is named is never read -/
theorem Rel.stand (R : Rel prog w mg mb F m cm ad l B s) (X : Addr → Prop) (hX : ∀ b, X b → B.get? b = none ∧ (∃ o, s.heap.get? b = some o) ∧ ¬ Priv F ad l b) :
    Rel prog w mg mb { F with K := pick s.heap (Priv F ad l), Fb := fun b => F.Fb b ∨ X b } m cm ad l B s := by
  refine ⟨pick_stays, R.keepB, R.gl, fun b f => f.elim (R.forb b) fun x => (hX b x).1, fun b f => f.elim (R.alive b) fun x => (hX b x).2.1, R.ns, R.cl, fun n c e => ?_, R.pcAlive, R.pcL, R.privB, fun b p => pick_none p, R.slots, R.inj, fun x v e => ⟨(R.off x v e).1, (R.off x v e).2.1, fun f => f.elim (R.off x v e).2.2 fun z => (hX _ z).2.2 (.inr (.inr ⟨x, v, e, rfl⟩))⟩, R.pin⟩
  rcases R.cellK n c e with p | ⟨o, ho⟩
  · exact .inl p
  · refine .inr ⟨o, pick_get.mpr ⟨R.keepK _ _ ho, fun p => ?_⟩⟩
    have h9 := R.privK _ p
    rw [ho] at h9; cases h9
theorem Rel.kStand (R : Rel prog w mg mb F m cm ad l B s) : F.K.StaysIn (pick s.heap (Priv F ad l)) := fun b o e => pick_get.mpr ⟨R.keepK b o e, fun p => by have h9 := R.privK _ p; rw [e] at h9; cases h9⟩
/-- a name's own thing is only read from now on -/
theorem Rel.freeze {x : Str} {v : AV} (R : Rel prog w mg mb F m cm ad l B s) (e : lkp x l = some (.own v)) :
    ∃ B', B.StaysIn B' ∧ Rel prog w mg mb F m cm ad (lput x (.val v) l) B' s ∧ VR prog w B' v (.ref (ad x)) := by
  obtain ⟨val, h1, rfl, c⟩ := R.slots x _ e
  have hal := c.there
  obtain ⟨oa, hoa⟩ := id hal
  refine ⟨pick s.heap fun b => b ≠ ad x ∧ B.get? b = none, fun b o q => pick_get.mpr ⟨R.keepB b o q, fun z => by rw [z.2] at q; cases q⟩, ?_, ?_⟩
  · have kB : B.StaysIn (pick s.heap fun b => b ≠ ad x ∧ B.get? b = none) := fun b o q => pick_get.mpr ⟨R.keepB b o q, fun z => by rw [z.2] at q; cases q⟩
    have pr : ∀ b, Priv F ad (lput x (.val v) l) b → Priv F ad l b ∧ b ≠ ad x := by
      rintro b (rfl | p | ⟨y, u, ey, rfl⟩)
      · exact ⟨.inl rfl, (R.off x v e).1.symm⟩
      · exact ⟨.inr (.inl p), fun q => (R.off x v e).2.1 (q ▸ p)⟩
      · by_cases hy : y = x
        · subst hy; rw [lkp_lput_self] at ey; cases ey
        · rw [lkp_lput_ne hy] at ey
          exact ⟨.inr (.inr ⟨y, u, ey, rfl⟩), fun q => hy (R.inj y x u v ey e q)⟩
    refine ⟨R.keepK, pick_stays, R.gl.keeps kB, fun b f => pick_none ⟨fun q => ?_, R.forb b f⟩, R.alive, R.ns, R.cl, R.cellK, R.pcAlive, R.pcL, fun b p => pick_none ⟨(pr b p).2, R.privB b (pr b p).1⟩, fun b p => R.privK b (pr b p).1, fun y sl ey => ?_, fun y z u u' ey ez => ?_, fun y u ey => ?_, R.pin⟩
    · exact (R.off x v e).2.2 (q ▸ f)
    · by_cases hy : y = x
      · subst hy; rw [lkp_lput_self] at ey; cases ey
        exact ⟨_, h1, CR.vr (c.keeps kB fun _ o => o) fun o ho => pick_get.mpr ⟨ho, fun z => z.1 rfl⟩⟩
      · rw [lkp_lput_ne hy] at ey
        obtain ⟨val, g1, g2⟩ := R.slots y sl ey
        exact ⟨val, g1, g2.keeps kB fun _ o ho => ho⟩
    · have hy : y ≠ x := fun q => by subst q; rw [lkp_lput_self] at ey; cases ey
      have hz : z ≠ x := fun q => by subst q; rw [lkp_lput_self] at ez; cases ez
      rw [lkp_lput_ne hy] at ey; rw [lkp_lput_ne hz] at ez
      exact R.inj y z u u' ey ez
    · have hy : y ≠ x := fun q => by subst q; rw [lkp_lput_self] at ey; cases ey
      rw [lkp_lput_ne hy] at ey
      exact R.off y u ey
  · exact CR.vr (c.keeps (fun b o q => pick_get.mpr ⟨R.keepB b o q, fun z => by rw [z.2] at q; cases q⟩) fun _ o => o) fun o ho => pick_get.mpr ⟨ho, fun z => z.1 rfl⟩

/-- the read part grows by what stands and is nobody's own -/
theorem Rel.grow {B' : Heap} (R : Rel prog w mg mb F m cm ad l B s) (kB : B.StaysIn B') (kB' : B'.StaysIn s.heap) (hn : ∀ b, B.get? b = none → B'.get? b ≠ none → ¬ F.Fb b ∧ ¬ Priv F ad l b) : Rel prog w mg mb F m cm ad l B' s := by
  have none' : ∀ b, (F.Fb b ∨ Priv F ad l b) → B.get? b = none → B'.get? b = none := fun b h e => by
    cases q : B'.get? b with
    | none => rfl
    | some o => have := hn b e (by rw [q]; simp); exact (h.elim this.1 this.2).elim
  exact ⟨R.keepK, kB', R.gl.keeps kB, fun b f => none' b (.inl f) (R.forb b f), R.alive, R.ns, R.cl, R.cellK, R.pcAlive, R.pcL, fun b p => none' b (.inr p) (R.privB b p), R.privK,
    fun x sl e => let ⟨val, h1, h2⟩ := R.slots x sl e; ⟨val, h1, h2.keeps kB fun _ o h => h⟩, R.inj, R.off, R.pin⟩
/-- a name's own thing is turned -/
theorem Rel.mut {x : Str} {v v' : AV} {s' : Shared} {B' : Heap} (R : Rel prog w mg mb F m cm ad l B s) (e : lkp x l = some (.own v))
    (hk : ∀ b o, b ≠ ad x → s.heap.get? b = some o → s'.heap.get? b = some o) (kB : B.StaysIn B') (kB' : B'.StaysIn s'.heap) (hnew : ∀ b o, B'.get? b = some o → B.get? b = some o ∨ s.heap.get? b = none) (c : CR prog w B' s'.heap v' (ad x)) : Rel prog w mg mb F m cm ad (lput x (.own v') l) B' s' := by
  obtain ⟨oa, hoa⟩ := c.there
  have pr : ∀ b, Priv F ad (lput x (.own v') l) b → Priv F ad l b := by
    rintro b (rfl | p | ⟨y, u, ey, rfl⟩)
    · exact .inl rfl
    · exact .inr (.inl p)
    · by_cases hy : y = x
      · subst hy; exact .inr (.inr ⟨y, v, e, rfl⟩)
      · rw [lkp_lput_ne hy] at ey; exact .inr (.inr ⟨y, u, ey, rfl⟩)
  have ow : ∀ y u, lkp y (lput x (.own v') l) = some (.own u) → ∃ u', lkp y l = some (.own u') := fun y u ey => by
    by_cases hy : y = x
    · subst hy; exact ⟨v, e⟩
    · rw [lkp_lput_ne hy] at ey; exact ⟨u, ey⟩
  have px : Priv F ad l (ad x) := .inr (.inr ⟨x, v, e, rfl⟩)
  have nK : ∀ b o, F.K.get? b = some o → b ≠ ad x := fun b o q z => by have h9 := R.privK _ px; rw [← z, q] at h9; cases h9
  have nB : ∀ b, (∃ o, s.heap.get? b = some o) → B.get? b = none → B'.get? b = none := fun b ⟨o, ho⟩ e => by
    cases q : B'.get? b with
    | none => rfl
    | some o' => rcases hnew b o' q with q' | q'
                 · rw [e] at q'; cases q'
                 · rw [ho] at q'; cases q'
  refine ⟨fun b o q => hk b o (nK b o q) (R.keepK b o q), kB', R.gl.keeps kB, fun b f => nB b (R.alive b f) (R.forb b f), fun b f => ?_, ?_, fun n c' q => ?_, R.cellK, fun c' q => ?_, R.pcL, fun b p => nB b (R.privAlive (pr b p)) (R.privB b (pr b p)), fun b p => R.privK b (pr b p), fun y sl ey => ?_, fun y z u u' ey ez => ?_, fun y u ey => ?_, R.pin⟩
  · obtain ⟨o, ho⟩ := R.alive b f
    exact ⟨o, hk b o (fun z => (R.off x v e).2.2 (z ▸ f)) ho⟩
  · obtain ⟨o, es, ep, ho, r⟩ := R.ns
    exact ⟨o, es, ep, hk _ _ (R.off x v e).1.symm ho, r⟩
  · obtain ⟨o, ho, hd⟩ := R.cl n c' q
    refine ⟨o, hk _ _ (fun z => ?_) ho, hd⟩
    rcases R.cellK n c' q with p | ⟨o', ho'⟩
    · exact (R.off x v e).2.1 (z ▸ p)
    · exact nK _ _ ho' z
  · obtain ⟨o, ho⟩ := R.pcAlive c' q
    exact ⟨o, hk _ _ (fun z => (R.off x v e).2.1 (z ▸ q)) ho⟩
  · by_cases hy : y = x
    · subst hy; rw [lkp_lput_self] at ey; cases ey
      obtain ⟨val, h1, h2, _⟩ := R.slots y _ e
      exact ⟨val, h1, h2, c⟩
    · rw [lkp_lput_ne hy] at ey
      obtain ⟨val, g1, g2⟩ := R.slots y sl ey
      refine ⟨val, g1, g2.keeps kB fun ⟨u, hu⟩ o ho => hk _ _ (fun z => hy ?_) ho⟩
      subst hu
      exact R.inj y x u v ey e z
  · obtain ⟨a1, e1⟩ := ow y u ey
    obtain ⟨a2, e2⟩ := ow z u' ez
    exact R.inj y z _ _ e1 e2
  · obtain ⟨a1, e1⟩ := ow y u ey
    exact R.off y _ e1

noncomputable def OwnNew (prog : Program) (w : World) (F : Fx) (ad : Str → Addr) (l : Loc) (B : Heap) (s : Shared) (v : AV) (a : Addr) : Prop :=
  CR prog w B s.heap v a ∧ B.get? a = none ∧ F.K.get? a = none ∧ ¬ F.Fb a ∧ ¬ Priv F ad l a
noncomputable def NewSl (prog : Program) (w : World) (F : Fx) (ad : Str → Addr) (l : Loc) (B : Heap) (s : Shared) (val : Value) : Sl → Prop
  | .val v => VR prog w B v val
  | .own v => ∃ a, val = .ref a ∧ OwnNew prog w F ad l B s v a

/-- a name is bound -/
theorem Rel.put {x : Str} {sl : Sl} {val : Value} {s' : Shared} {t : Addr} {m' cm' : Str → Option Value} (R : Rel prog w mg mb F m cm ad l B s) (hn : NewSl prog w F ad l B s val sl)
    (ht : t = F.env.locals ∨ t ∈ F.pc) (hta : ∃ o, s'.heap.get? t = some o) (hk : ∀ b o, b ≠ t → s.heap.get? b = some o → s'.heap.get? b = some o)
    (ns' : s'.heap.Ns F.env.locals m') (cl' : ∀ n c, F.env.cells.lookup n = some c → s'.heap.IsCell c (cm' n))
    (hx : slotv F.env m' cm' x = some val) (ho : ∀ y, y ≠ x → slotv F.env m' cm' y = slotv F.env m cm y) (hpn : isPin F.env.scope x = false) : ∃ ad', Rel prog w mg mb F m' cm' ad' (lput x sl l) B s' := by
  have pt : Priv F ad l t := ht.elim .inl fun z => .inr (.inl z)
  have nB : ∀ b o, B.get? b = some o → b ≠ t := fun b o q z => by have h9 := R.privB _ pt; rw [← z, q] at h9; cases h9
  have nK : ∀ b o, F.K.get? b = some o → b ≠ t := fun b o q z => by have h9 := R.privK _ pt; rw [← z, q] at h9; cases h9
  have alv : ∀ b, (∃ o, s.heap.get? b = some o) → ∃ o, s'.heap.get? b = some o := fun b ⟨o, h⟩ => by
    by_cases z : b = t
    · subst z; exact hta
    · exact ⟨o, hk b o z h⟩
  have own : ∀ y u, lkp y l = some (.own u) → ad y ≠ t := fun y u e z => ht.elim (fun q => (R.off y u e).1 (z.trans q)) fun q => (R.off y u e).2.1 (z ▸ q)
  have base : ∀ (ad' : Str → Addr), (∀ y, y ≠ x → ad' y = ad y) → (∀ v, sl = .own v → val = .ref (ad' x) ∧ OwnNew prog w F ad l B s v (ad' x)) → Rel prog w mg mb F m' cm' ad' (lput x sl l) B s' := by
    intro ad' had hown
    have pr : ∀ b, Priv F ad' (lput x sl l) b → Priv F ad l b ∨ ∃ v, sl = .own v ∧ b = ad' x := by
      rintro b (rfl | p | ⟨y, u, ey, rfl⟩)
      · exact .inl (.inl rfl)
      · exact .inl (.inr (.inl p))
      · by_cases hy : y = x
        · subst hy; rw [lkp_lput_self] at ey; cases ey; exact .inr ⟨u, rfl, rfl⟩
        · rw [lkp_lput_ne hy] at ey; rw [had y hy]; exact .inl (.inr (.inr ⟨y, u, ey, rfl⟩))
    refine ⟨fun b o q => hk b o (nK b o q) (R.keepK b o q), fun b o q => hk b o (nB b o q) (R.keepB b o q), R.gl, R.forb, fun b f => alv b (R.alive b f), ns', cl', R.cellK, fun c q => alv c (R.pcAlive c q), R.pcL, fun b p => ?_, fun b p => ?_, fun y sl' ey => ?_, fun y z u u' ey ez q => ?_, fun y u ey => ?_, fun y a e => ⟨(R.pin y a e).1, (ho y fun q => by rw [q] at e; rw [(R.pin x a e).1] at hpn; cases hpn).trans (R.pin y a e).2⟩⟩
    · rcases pr b p with p | ⟨v, rfl, rfl⟩
      · exact R.privB b p
      · exact (hown v rfl).2.2.1
    · rcases pr b p with p | ⟨v, rfl, rfl⟩
      · exact R.privK b p
      · exact (hown v rfl).2.2.2.1
    · by_cases hy : y = x
      · subst hy; rw [lkp_lput_self] at ey; cases ey
        refine ⟨val, hx, ?_⟩
        cases sl with
        | val v => exact hn
        | own v =>
          obtain ⟨h1, h2, h3, h4, h5, h6⟩ := hown v rfl
          exact ⟨h1, h2.keeps (fun _ _ q => q) fun o q => hk _ o (fun z => h6 (z ▸ pt)) q⟩
      · rw [lkp_lput_ne hy] at ey
        obtain ⟨val', g1, g2⟩ := R.slots y sl' ey
        rw [had y hy]
        refine ⟨val', (ho y hy).trans g1, g2.keeps (fun _ _ q => q) fun ⟨u, hu⟩ o h9 => hk _ _ ?_ h9⟩
        subst hu
        exact own y u ey
    · by_cases hy : y = x
      · by_cases hz : z = x
        · rw [hy, hz]
        · exfalso
          subst hy
          rw [lkp_lput_self] at ey; cases ey
          rw [lkp_lput_ne hz] at ez
          rw [had z hz] at q
          exact (hown u rfl).2.2.2.2.2 (.inr (.inr ⟨z, u', ez, q.symm⟩))
      · by_cases hz : z = x
        · exfalso
          subst hz
          rw [lkp_lput_self] at ez; cases ez
          rw [lkp_lput_ne hy] at ey
          rw [had y hy] at q
          exact (hown u' rfl).2.2.2.2.2 (.inr (.inr ⟨y, u, ey, q⟩))
        · rw [lkp_lput_ne hy] at ey; rw [lkp_lput_ne hz] at ez
          rw [had y hy, had z hz] at q
          exact R.inj y z u u' ey ez q
    · by_cases hy : y = x
      · subst hy; rw [lkp_lput_self] at ey; cases ey
        obtain ⟨h1, h2, h3, h4, h5, h6⟩ := hown u rfl
        exact ⟨fun z => h6 (.inl z), fun z => h6 (.inr (.inl z)), h5⟩
      · rw [lkp_lput_ne hy] at ey; rw [had y hy]
        exact R.off y u ey
  cases sl with
  | val v => exact ⟨ad, base ad (fun _ _ => rfl) fun v q => by cases q⟩
  | own v =>
    obtain ⟨a, rfl, hna⟩ := hn
    exact ⟨fun y => if y = x then a else ad y, base _ (fun y hy => if_neg hy) fun u q => by cases q; rw [if_pos rfl]; exact ⟨rfl, hna⟩⟩

theorem kd_kindOf {sc : Scope} {env : Env} (h : EnvOk sc env) (x : Str) : env.kindOf x = kd sc x := by
  unfold Env.kindOf kd; rw [h.scope, lkp_lookup]
theorem slotv_local {env : Env} {x : Str} (h : env.kindOf x = some .local) : slotv env m cm x = m x := by simp [slotv, h]

theorem store_sound {sc : Scope} {A : Around} {E : Value → Shared → Prop} {Q : Unit → Shared → Prop} {x : Str} {sl : Sl} {val : Value} (ok : EnvOk sc F.env) (st : kd sc x = some .cell → StOk sc F) (R : Rel prog w mg mb F m cm ad l B s) (hv : isVarKind (kd sc x) = true) (hnp : isPin sc x = false) (hn : NewSl prog w F ad l B s val sl)
    (h : ∀ s' m' cm' ad', Sh s s' → Rel prog w mg mb F m' cm' ad' (lput x sl l) B s' → Q () s') : wpAny (model prog w) A (storeName F.env x val) Q E s := by
  have hk := kd_kindOf ok x
  have hkind : F.env.scope.kind = .function := by rw [ok.scope]; exact ok.kind
  cases hkd : kd sc x with
  | none => rw [hkd] at hv; cases hv
  | some k =>
    rw [hkd] at hk hv st
    cases k with
    | «local» =>
      refine wpAny_storeName_local hk R.ns (fun h' hn' hs' => ?_) (by rw [hkind]; rfl)
      obtain ⟨o', es', ep', ho', r'⟩ := id hn'
      obtain ⟨ad', R'⟩ := R.put (x := x) (val := val) (s' := { s with heap := h', toks := s.toks + 1 }) (m' := fun y => if y = x then some val else m y) (cm' := cm) hn (.inl rfl) ⟨o', ho'⟩ (fun b o hb e => (hs'.2 b hb).trans e) hn'
        (fun n c e => (R.cl n c e).sameBut hs' fun z => R.cellL n c e z) (by rw [slotv_local hk]; simp) (fun y hy => by simp only [slotv]; split <;> simp [hy]) (by rw [ok.scope]; exact hnp)
      exact h _ _ _ ad' ⟨_, _, rfl⟩ R'
    | cell =>
      obtain ⟨fn, hc, apart⟩ := st rfl
      obtain ⟨c, hcx⟩ := Option.isSome_iff_exists.mp (hc x hkd)
      refine wpAny_storeName_cell hkind hk hcx (R.cl x c hcx) fun h' hv' hs' => ?_
      obtain ⟨o', ho', hd'⟩ := id hv'
      have hcp := fn x c hcx
      obtain ⟨ad', R'⟩ := R.put (x := x) (val := val) (s' := { s with heap := h' }) (m' := m) (cm' := fun y => if y = x then some val else cm y) hn (.inr hcp) ⟨o', ho'⟩ (fun b o hb e => (hs'.2 b hb).trans e)
        (R.ns.sameBut hs' fun z => R.pcL (z ▸ hcp)) (fun n c' e => by
          by_cases hnx : n = x
          · subst hnx; rw [hcx] at e; cases e; simpa using hv'
          · have hcc : c' ≠ c := fun q => hnx (name_of_addr apart (mem_of_lookup e) (q ▸ mem_of_lookup hcx))
            simpa [hnx] using (R.cl n c' e).sameBut hs' hcc) (by simp [slotv, hk, hcx]) (fun y hy => by simp only [slotv]; split <;> simp [hy]) (by rw [ok.scope]; exact hnp)
      exact h _ _ _ ad' ⟨_, s.toks, rfl⟩ R'
    | _ => cases hv
end
end Mine
end

section
open PySem PySem.Calls PyProof.Rows
set_option Elab.async false
set_option linter.unusedVariables false
namespace Mine

noncomputable def AOk (k : Nat) (A : Around) : Prop := A.handled = none ∧ A.depth + k < 900 ∧ A.units + 10 * k + 300 < 9900

theorem strsOf_are {B : Heap} : ∀ {l : List PyData} {q : List Str} {vs : List Value}, strsOf l = some q → RDs B vs l → StrsAre vs q
  | [], q, vs, h, r => by rw [r.unnil]; simp [strsOf] at h; subst h; exact .nil
  | x :: xs, q, vs, h, r => by
    obtain ⟨v, vr, rfl, a, b⟩ := r.uncons
    cases x with
    | str s =>
      simp only [strsOf] at h
      split at h
      · rename_i q' hq
        cases h
        obtain ⟨t, rfl⟩ := a.str
        exact .cons _ _ (strsOf_are hq b)
      · cases h
    | _ => simp [strsOf] at h
theorem StrsAre.rds {B : Heap} {vs : List Value} {q : List Str} (h : StrsAre vs q) : RDs B vs (toStrs q) := by
  induction h with
  | nil => exact .nil
  | cons y t _ ih => exact .cons rdStr ih
theorem elems_any (q : List Str) (x : Str) : elems q x = q.any (· == x) := by
  unfold elems
  congr 1
  funext y
  rw [eqb_beq, Bool.eq_iff_iff, beq_iff_eq, beq_iff_eq]
  exact eq_comm
theorem ltN_iff : ∀ a b : List Nat, ltN a b = true ↔ a < b
  | a, [] => by cases a <;> simp [ltN]
  | [], _ :: _ => by simp [ltN]
  | a :: r, b :: q => by
    rw [ltN, List.cons_lt_cons_iff]
    by_cases h1 : a < b
    · simp [h1]
    · by_cases h2 : b < a
      · simp [h1, h2]; omega
      · have : a = b := by omega
        subst this
        simp [ltN_iff r q]
theorem ltS_eq (x y : Str) : ltS x y = decide (x.cps.toList < y.cps.toList) := by
  unfold ltS
  rw [Bool.eq_iff_iff, ltN_iff]; simp

section
variable {prog : Program} {w : World} {A : Around} {E : Value → Shared → Prop} {s : Shared} {B : Heap} {Q : Value → Shared → Prop}

theorem binD_sound {op : Operator} {x y r : PyData} {a b : Value} (h : binD op x y = some r) (ha : RD B a x) (hb : RD B b y)
    (hQ : ∀ v tk, (∀ B, RD B v r) → Q v { s with toks := tk }) : wpAny (model prog w) A (binaryOp op a b) Q E s := by
  cases op <;> try exact no_none h
  case Add =>
    cases x <;> try exact no_none h
    case int i =>
      cases y <;> try exact no_none h
      cases h; obtain ⟨t, rfl⟩ := ha.int; obtain ⟨u, rfl⟩ := hb.int
      exact PyProof.Rows.add_int (hQ _ _ fun _ => rdInt)
    case str x =>
      cases y <;> try exact no_none h
      rename_i y
      obtain ⟨hz, rfl⟩ := of_ite h
      obtain ⟨t, rfl⟩ := ha.str; obtain ⟨u, rfl⟩ := hb.str
      refine PyProof.Rows.add_str (fun t' tk => hQ _ _ fun _ => ?_) ?_
      · have : x ++ y = mkS (x.cps.toList ++ y.cps.toList) := by
          obtain ⟨⟨x⟩⟩ := x; obtain ⟨⟨y⟩⟩ := y
          show Str.append _ _ = _
          simp [Str.append, mkS]
        rw [← this]; exact rdStr
      · simp only [Str.length, sizeLine, big] at *
        simp at hz
        omega
  all_goals (cases x <;> try exact no_none h)
  all_goals (cases y <;> try exact no_none h)
  case Sub =>
    cases h; obtain ⟨t, rfl⟩ := ha.int; obtain ⟨u, rfl⟩ := hb.int
    exact PyProof.Rows.sub_int (hQ _ _ fun _ => rdInt)
  case Mult =>
    obtain ⟨hz, rfl⟩ := of_ite h
    obtain ⟨t, rfl⟩ := ha.int; obtain ⟨u, rfl⟩ := hb.int
    exact PyProof.Rows.mul_int (hQ _ _ fun _ => rdInt) (.of_left (intBits_le_64 (by omega) (by omega)))
  case Mod =>
    obtain ⟨hz, rfl⟩ := of_ite h
    obtain ⟨t, rfl⟩ := ha.int; obtain ⟨u, rfl⟩ := hb.int
    exact PyProof.Rows.mod_int' (by omega) (hQ _ _ fun _ => rdInt)
  case FloorDiv =>
    obtain ⟨hz, rfl⟩ := of_ite h
    obtain ⟨t, rfl⟩ := ha.int; obtain ⟨u, rfl⟩ := hb.int
    exact PyProof.Rows.floordiv_int (by omega) (hQ _ _ fun _ => rdInt) (.inl (PyProof.noPylong_small (by omega)))

theorem eqD_sound {x y : PyData} {r : Bool} {a b : Value} (hA : A.units + 64 < cLine) (h : eqD x y = some r) (ha : RD s.heap a x) (hb : RD s.heap b y) (hQ : Q (.bool r) s) :
    wpAny (model prog w) A (compareOp .Eq a b) Q E s := by
  unfold eqD at h
  split at h
  · cases h; obtain ⟨t, rfl⟩ := ha.int; obtain ⟨u, rfl⟩ := hb.int
    exact PyProof.Rows.eq_int hQ
  · cases h; cases ha.bool; cases hb.bool
    exact PyProof.Rows.eq_bool hQ
  · cases h; obtain ⟨t, rfl⟩ := ha.str; obtain ⟨u, rfl⟩ := hb.str
    refine PyProof.Rows.eq_str ?_
    rw [eqb_beq] at hQ; exact hQ
  · split at h
    · rename_i hs
      obtain ⟨h1, h2⟩ := Bool.and_eq_true_iff.mp hs
      cases h
      obtain ⟨_, ra⟩ := ha; obtain ⟨_, rb⟩ := hb
      exact SeqAt.compareEq_shaped ra rb h1 h2 hA hQ
    · cases h
theorem neD_sound {x y : PyData} {r : Bool} {a b : Value} (hA : A.units + 64 < cLine) (h : eqD x y = some r) (ha : RD s.heap a x) (hb : RD s.heap b y) (hQ : Q (.bool (!r)) s) :
    wpAny (model prog w) A (compareOp .NotEq a b) Q E s := by
  unfold eqD at h
  split at h
  · cases h; obtain ⟨t, rfl⟩ := ha.int; obtain ⟨u, rfl⟩ := hb.int
    exact PyProof.Rows.ne_int hQ
  · cases h; cases ha.bool; cases hb.bool
    exact PyProof.Rows.ne_bool hQ
  · cases h; obtain ⟨t, rfl⟩ := ha.str; obtain ⟨u, rfl⟩ := hb.str
    refine PyProof.Rows.ne_str ?_
    rw [eqb_beq] at hQ; exact hQ
  · split at h
    · rename_i hs
      obtain ⟨h1, h2⟩ := Bool.and_eq_true_iff.mp hs
      cases h
      obtain ⟨_, ra⟩ := ha; obtain ⟨_, rb⟩ := hb
      exact SeqAt.compareNe_shaped ra rb h1 h2 hA hQ
    · cases h

theorem in_one {c : Nat} {y : Str} {x : Str} {t u : Tok} (hx : x.cps.toList = [c]) (hQ : Q (.bool (y.cps.toList.any (Nat.beq c))) s) : wpAny (model prog w) A (compareOp .In (.str x t) (.str y u)) Q E s := by
  refine PyProof.Rows.in_str ?_
  have e : (!(Builtin.Str.occurrences y x 0 y.length 1).isEmpty) = y.cps.toList.any (Nat.beq c) := by
    rw [Bool.eq_iff_iff, StrLaws.found_iff]
    have hl : x.length = 1 := by
      have := congrArg List.length hx
      simpa [Str.length] using this
    simp only [StrLaws.subAt_eq, hl, hx, List.any_eq_true, beq_iff_eq]
    constructor
    · rintro ⟨i, h1, h2⟩
      refine ⟨c, ?_, Nat.beq_refl c⟩
      have : c ∈ (y.cps.toList.drop i).take 1 := by rw [h2]; simp
      exact List.mem_of_mem_drop (List.mem_of_mem_take this)
    · rintro ⟨d, hd, hcd⟩
      have := Nat.eq_of_beq_eq_true hcd
      subst this
      obtain ⟨i, hi, e⟩ := List.mem_iff_getElem.mp hd
      refine ⟨i, ?_, ?_⟩
      · simp at hi; simp [Str.length]; omega
      · rw [List.drop_eq_getElem_cons hi, e]; simp
  rw [e]; exact hQ
theorem cmpD_sound {op : CmpOp} {x y : PyData} {r : Bool} {a b : Value} (hA : A.units + 64 < cLine) (h : cmpD op x y = some r) (ha : RD s.heap a x) (hb : RD s.heap b y) (hQ : Q (.bool r) s) :
    wpAny (model prog w) A (compareOp op a b) Q E s := by
  cases op <;> try exact no_none h
  case Eq => exact eqD_sound hA h ha hb hQ
  case NotEq =>
    unfold cmpD at h; dsimp only at h
    split at h
    · cases h
      exact neD_sound hA ‹_› ha hb hQ
    · cases h
  all_goals (cases x <;> try exact no_none h)
  all_goals (cases y <;> try exact no_none h)
  case Lt.int.int =>
    cases h; obtain ⟨t, rfl⟩ := ha.int; obtain ⟨u, rfl⟩ := hb.int
    exact PyProof.Rows.lt_int hQ
  case LtE.int.int =>
    cases h; obtain ⟨t, rfl⟩ := ha.int; obtain ⟨u, rfl⟩ := hb.int
    exact PyProof.Rows.le_int hQ
  case Gt.int.int =>
    cases h; obtain ⟨t, rfl⟩ := ha.int; obtain ⟨u, rfl⟩ := hb.int
    exact PyProof.Rows.gt_int hQ
  case GtE.int.int =>
    cases h; obtain ⟨t, rfl⟩ := ha.int; obtain ⟨u, rfl⟩ := hb.int
    exact PyProof.Rows.ge_int hQ
  case LtE.str.str =>
    cases h; obtain ⟨t, rfl⟩ := ha.str; obtain ⟨u, rfl⟩ := hb.str
    refine P.le_str ?_
    rw [ltS_eq] at hQ; exact hQ
  all_goals (unfold cmpD at h; dsimp only at h; split at h <;> try exact no_none h)
  · cases h; obtain ⟨t, rfl⟩ := ha.str; obtain ⟨u, rfl⟩ := hb.str
    exact in_one ‹_› hQ
  · cases h; obtain ⟨t, rfl⟩ := ha.str; obtain ⟨l, vs, rfl, hl, hr⟩ := hb.list
    rw [elems_any] at hQ
    exact PyProof.Rows.in_list_strs hl (strsOf_are ‹_› hr) hQ
  · cases h; obtain ⟨t, rfl⟩ := ha.str; obtain ⟨l, vs, rfl, hl, hr⟩ := hb.tuple
    rw [elems_any] at hQ
    exact PyProof.Rows.in_tuple_strs hl (by simpa using strsOf_are ‹_› hr) hQ
  · cases h; obtain ⟨t, rfl⟩ := ha.str; obtain ⟨l, vs, rfl, hl, hr⟩ := hb.list
    rw [elems_any] at hQ
    exact PyProof.Rows.notin_list_strs hl (strsOf_are ‹_› hr) hQ
end
end Mine
end

section
open PySem PySem.Calls PyProof.Rows
set_option Elab.async false
set_option linter.unusedVariables false
namespace Mine

/-- what is seen of a thing that is read, or lent -/
noncomputable def Seen (prog : Program) (w : World) (B h : Heap) : AV → Value → Prop
  | .d (.list l), val => ∃ a vs, val = .ref a ∧ h.IsList a (List.toArray vs) ∧ RDs B vs l
  | .d x, val => RD B val x
  | .m kvs, val => ∃ a, val = .ref a ∧ CRm prog w B h kvs a
  | .u ks, val => ∃ a, val = .ref a ∧ CRu prog w h ks a
noncomputable def New (B : Heap) (s s' : Shared) (B' : Heap) : Prop := B.StaysIn B' ∧ ∀ b o, s.heap.get? b = none → s'.heap.get? b = some o → B'.get? b = some o
/-- what a step hands on -/
noncomputable def PQ (prog : Program) (w : World) (B : Heap) (s : Shared) (r : AV) (Q : Value → Shared → Prop) : Prop :=
  ∀ val s', Sh s s' → s.heap.StaysIn s'.heap → (∀ B', New B s s' B' → VR prog w B' r val) → Q val s'
noncomputable def IR (B h : Heap) : IdxV → Value → Prop
  | .at d, v => RD B v d
  | .upto k, v => ∃ a t, v = .ref a ∧ h.get? a = some { cls := .type "slice", data := .fields #[.none, .int k t, .none] }
  | .from k, v => ∃ a t, v = .ref a ∧ h.get? a = some { cls := .type "slice", data := .fields #[.int k t, .none, .none] }

section
variable {prog : Program} {w : World} {A : Around} {E : Value → Shared → Prop} {s : Shared} {B : Heap} {Q : Value → Shared → Prop}

theorem staysRefl (h : Heap) : h.StaysIn h := fun _ _ e => e
theorem push_stays (h : Heap) (o : Obj) : h.StaysIn (h.push o) := fun _ _ e => Heap.get?_push_of_some _ e
theorem size_none (h : Heap) : h.get? h.objs.size = none := by
  cases e : h.get? h.objs.size with
  | none => rfl
  | some o => exact absurd (Heap.lt_size e) (Nat.lt_irrefl _)
theorem VR.seen {v : AV} {val : Value} (k : B.StaysIn s.heap) (h : VR prog w B v val) : Seen prog w B s.heap v val := by
  cases v with
  | d x => cases x with
    | list l =>
      obtain ⟨a, vs, rfl, hl, r⟩ := RD.list h
      exact ⟨a, vs, rfl, hl.at fun o e => k _ _ e, r⟩
    | _ => exact h
  | m kvs => obtain ⟨a, rfl, c⟩ := h; exact ⟨a, rfl, c.keeps (staysRefl _) fun o e => k _ _ e⟩
  | u ks => obtain ⟨a, rfl, c⟩ := h; exact ⟨a, rfl, c.keeps fun o e => k _ _ e⟩
theorem CR.seen {h : Heap} {v : AV} {a : Addr} (c : CR prog w B h v a) : Seen prog w B h v (.ref a) := by
  cases v with
  | d x => cases x with
    | list l => obtain ⟨vs, n, ho, r⟩ := c; exact ⟨a, vs, rfl, ⟨_, ho, rfl, n, rfl⟩, r⟩
    | _ => exact c.elim
  | m kvs => exact ⟨a, rfl, c⟩
  | u ks => exact ⟨a, rfl, c⟩
theorem Seen.rd {x : PyData} {val : Value} {h : Heap} (k : B.StaysIn h) (c : Seen prog w B h (.d x) val) : RD h val x := by
  cases x with
  | list l => obtain ⟨a, vs, rfl, ⟨o, ho, hc, n, hd⟩, r⟩ := c; exact rdList ho hc hd (by simpa using r.keeps k)
  | _ => exact RD.keeps k c
theorem Seen.rd' {x : PyData} {val : Value} {h : Heap} (c : Seen prog w B h (.d x) val) (hn : ∀ l, x ≠ .list l) : RD B val x := by
  cases x with
  | list l => exact absurd rfl (hn l)
  | _ => exact c
/-- a value that needs no heap -/
theorem PQ.imm {r : PyData} (h : PQ prog w B s (.d r) Q) {val : Value} {tk : Nat} (hv : ∀ B, RD B val r) : Q val { s with toks := tk } :=
  h val _ ⟨s.heap, tk, rfl⟩ (staysRefl _) fun B' _ => hv B'
theorem PQ.old {r : PyData} (h : PQ prog w B s (.d r) Q) {val : Value} (hv : RD B val r) : Q val s :=
  h val _ (Sh.refl s) (staysRefl _) fun B' n => hv.keeps n.1

theorem subscripted_ops (slice : Expr) (o i : Value) : ∃ ops, subscripted slice false o i = operate ops (getItem o i) := by
  unfold subscripted
  split
  · exact ⟨_, rfl⟩
  · rename_i h; cases h
  · exact ⟨_, rfl⟩
theorem seqIndex_of {i : Int} {n : Nat} (h0 : 0 ≤ i) (h1 : i.toNat < n) : seqIndex? i n = some i.toNat := by
  unfold seqIndex?
  simp
  omega

theorem txt_to {x : Str} {j : Int} (h0 : 0 ≤ j) : Txt.slice x none (some j) = mkS (x.cps.toList.take j.toNat) := by
  by_cases h : j ≤ x.cps.toList.length
  · have := eq_of_beq (PyProof.Rows.slice_closes_to (x := x) ⟨h0, h⟩)
    rw [this]; simp [mkS]
  · have hl : (x.length : Int) = (x.cps.toList.length : Int) := by simp [Str.length]
    rw [PyProof.Rows.slice_to_beyond (by omega), eq_of_beq (PyProof.Rows.slice_closes_to (x := x) (j := x.length) ⟨by omega, by omega⟩)]
    simp only [mkS]
    congr 2
    rw [List.take_of_length_le, List.take_of_length_le] <;> first | (simp at *; done) | (simp at *; omega) | (simp [Str.length] at *; omega)
theorem txt_from {x : Str} {j : Int} (h0 : 0 ≤ j) : Txt.slice x (some j) none = mkS (x.cps.toList.drop j.toNat) := by
  by_cases h : j ≤ x.cps.toList.length
  · have := eq_of_beq (PyProof.Rows.slice_closes_from (x := x) ⟨h0, h⟩)
    rw [this]
    simp only [mkS]
    congr 2
    rw [List.take_of_length_le]
    simp at *; omega
  · have hl : (x.length : Int) = (x.cps.toList.length : Int) := by simp [Str.length]
    rw [PyProof.Rows.slice_from_beyond (by omega)]
    simp only [mkS]
    rw [List.drop_eq_nil_of_le (by omega)]

theorem prs_find {es : List (Str × Value)} {kvs : List (Str × PyData)} (p : Prs B es kvs) {k : Str} {x : PyData} (h : kget k kvs = some x) :
    ∃ v, valueAt es k = some v ∧ RD B v x := by
  induction p with
  | nil => cases h
  | @cons k' v' x' r q hr p ih =>
    unfold kget lkp at h
    by_cases e : eqb k k' = true
    · rw [if_pos e] at h; cases h
      have := eqb_iff.mp e; subst this
      exact ⟨v', by simp [valueAt], hr⟩
    · rw [if_neg e] at h
      obtain ⟨v, h1, h2⟩ := ih h
      refine ⟨v, ?_, h2⟩
      have hne : ¬ (k' = k) := fun z => e (by rw [z]; exact eqb_refl _)
      simpa [valueAt, hne] using h1

theorem str_item {x : Str} {i : Int} {c : Nat} (h0 : 0 ≤ i) (h : x.cps.toList[i.toNat]? = some c) : (seqIndex? i x.length).bind (x.cps[·]?) = some c := by
  have hlt : i.toNat < x.cps.toList.length := (List.getElem?_eq_some_iff.mp h).1
  rw [seqIndex_of h0 (by simpa [Str.length] using hlt)]
  simpa using h

theorem sub_sound {value slice : Expr} {v : AV} {j : IdxV} {r : PyData} {val i : Value} (h : subV v j = some r) (kB : B.StaysIn s.heap) (hs : Seen prog w B s.heap v val) (hi : IR B s.heap j i)
    (hQ : PQ prog w B s (.d r) Q) : wpAny (model prog w) A (PyProof.Rows.subscriptTail value slice val i) Q E s := by
  obtain ⟨ops, hops⟩ := subscripted_ops slice val i
  cases j with
  | «at» d =>
    simp only [subV, itemV] at h
    split at h
    · rename_i x k
      split at h
      · rename_i hz
        obtain ⟨t, rfl⟩ := RD.str (Seen.rd' hs fun _ q => by cases q)
        obtain ⟨u, rfl⟩ := RD.int hi
        split at h
        · cases h
          refine tail_any (T := "str") (typeIs_str _ _ _) F.slot_str_getitem.lookup ?_ hops
          refine P.getItem_str ?_ (str_item hz.1 ‹_›) ?_
          · simp; omega
          · exact hQ.imm fun _ => rdStr
        · cases h
      · cases h
    · rename_i l k
      obtain ⟨a, vs, rfl, hl, hr⟩ := hs
      obtain ⟨u, rfl⟩ := RD.int hi
      split at h
      · rename_i hz
        obtain ⟨x, hx, hrx⟩ := hr.get h
        exact tail_any hl.typeIs slot_list_getitem.lookup (wpAny_getItem_list hl hz.1 (by omega) (by simpa using hx) (hQ.old hrx)) hops
      · split at h
        · rename_i hz
          subst hz
          have hlen := hr.length
          have hne : l.length ≠ 0 := fun z => by
            have : l = [] := List.eq_nil_of_length_eq_zero z
            subst this; simp at h
          have h' : l[l.length - 1]? = some r := by rw [← List.getLast?_eq_getElem?]; exact h
          obtain ⟨x, hx, hrx⟩ := hr.get h'
          refine tail_any hl.typeIs slot_list_getitem.lookup (wpAny_getItem_list_neg hl (by omega) (by simp; omega) (by omega) (x := x) ?_ (hQ.old hrx)) hops
          have : (-1 + ((List.toArray vs).size : Int)).toNat = l.length - 1 := by simp; omega
          rw [this]; simpa using hx
        · cases h
    · rename_i l k
      obtain ⟨a, vs, rfl, hl, hr⟩ := RD.tuple (Seen.rd' hs fun _ q => by cases q)
      obtain ⟨u, rfl⟩ := RD.int hi
      split at h
      · rename_i hz
        obtain ⟨x, hx, hrx⟩ := hr.get h
        have hlt : k.toNat < vs.length := (List.getElem?_eq_some_iff.mp hx).1
        exact tail_any (hl.keeps kB).typeIs slot_tuple_getitem.lookup (PyProof.Rows.getItem_tuple (hl.keeps kB) (by omega) (by omega) (seqIndex_of hz.1 (by simpa using hlt)) (by simpa using hx) (hQ.old hrx)) hops
      · cases h
    · rename_i kvs k
      obtain ⟨a, rfl, lo, es, hd, hp⟩ := hs
      obtain ⟨u, rfl⟩ := RD.str hi
      obtain ⟨x, hx, hrx⟩ := prs_find hp h
      refine tail_any hd.typeIs slot_dict_getitem.lookup (wpAny_getItem_of (strKind_is prog w k u) hd.mapOf hx ?_) hops
      exact hQ x _ ⟨s.heap, _, rfl⟩ (staysRefl _) fun B' n => hrx.keeps n.1
    · cases h
  | upto k =>
    simp only [subV, uptoV] at h
    split at h
    · rename_i hz
      obtain ⟨b, u, rfl, hb⟩ := hi
      split at h
      · rename_i x
        split at h
        · cases h
          obtain ⟨t, rfl⟩ := RD.str (Seen.rd' hs fun _ q => by cases q)
          refine tail_any (T := "str") (typeIs_str _ _ _) F.slot_str_getitem.lookup (wpAny_getItem_str_slice (l := none) (u := some (k, u)) (st := none) ⟨_, hb, rfl, rfl⟩ rfl
            (post_val_or_str ⟨Nat.le_trans (Txt.slice_le x _ _) (by simp [Str.length, sizeLine, big] at *; omega), fun t' tk => ?_⟩)) hops
          have e := txt_to (x := x) hz.1
          exact hQ.imm fun _ => by rw [← e]; exact rdStr
        · cases h
      · rename_i l
        split at h
        · rename_i hbig
          cases h
          obtain ⟨a, vs, rfl, hl, hr⟩ := hs
          have hlen := hr.length
          refine tail_any hl.typeIs slot_list_getitem.lookup (wpAny_getItem_list_slice hl ⟨_, hb, rfl, rfl⟩ .none (.int k u) .none (by simp) ?_ (by simp [sizeLine, big] at *; omega)) hops
          refine hQ _ _ ⟨_, s.toks, rfl⟩ (push_stays _ _) fun B' n => ?_
          refine rdList (n.2 _ _ (size_none _) (Heap.get?_push_size _ rfl)) rfl rfl ?_
          have e : slicePick (List.toArray vs) none (some k) none = ((List.toArray vs).toList.take k.toNat).toArray := by
            obtain ⟨j, rfl⟩ : ∃ j : Nat, k = j := ⟨k.toNat, by omega⟩
            exact slicePick_upto' _ _
          rw [e]
          simpa using (hr.take k.toNat).keeps n.1
        · cases h
      · cases h
    · cases h
  | «from» k =>
    simp only [subV, fromV] at h
    split at h
    · rename_i hz
      obtain ⟨b, u, rfl, hb⟩ := hi
      split at h
      · rename_i x
        split at h
        · cases h
          obtain ⟨t, rfl⟩ := RD.str (Seen.rd' hs fun _ q => by cases q)
          refine tail_any (T := "str") (typeIs_str _ _ _) F.slot_str_getitem.lookup (wpAny_getItem_str_slice (l := some (k, u)) (u := none) (st := none) ⟨_, hb, rfl, rfl⟩ rfl
            (post_val_or_str ⟨Nat.le_trans (Txt.slice_le x _ _) (by simp [Str.length, sizeLine, big] at *; omega), fun t' tk => ?_⟩)) hops
          have e := txt_from (x := x) hz.1
          exact hQ.imm fun _ => by rw [← e]; exact rdStr
        · cases h
      · cases h
    · cases h
end
end Mine
end

section
open PySem PySem.Calls PyProof.Rows
set_option Elab.async false
set_option linter.unusedVariables false
namespace Mine

/-! texts -/
theorem prefixN_iff : ∀ {a b : List Nat}, prefixN a b = true ↔ a <+: b
  | [], b => by simp [prefixN]
  | _ :: _, [] => by simp [prefixN]
  | a :: r, b :: q => by
    rw [prefixN, Bool.and_eq_true, prefixN_iff (a := r) (b := q), List.cons_prefix_cons]
    simp
theorem txt_starts (x y : Str) : Txt.startswith x y = prefixN y.cps.toList x.cps.toList := by
  rw [Bool.eq_iff_iff, prefixN_iff]
  unfold Txt.startswith
  rw [StrLaws.subAt_eq, List.drop_zero, Bool.and_eq_true, beq_iff_eq, decide_eq_true_eq, List.prefix_iff_eq_take]
  have hx : x.cps.toList.length = x.length := by simp [Str.length]
  have hy : y.cps.toList.length = y.length := by simp [Str.length]
  rw [hy]
  constructor
  · exact fun h => h.2.symm
  · intro h
    refine ⟨?_, h.symm⟩
    have := congrArg List.length h
    rw [List.length_take] at this
    omega
theorem txt_ends (x y : Str) : Txt.endswith x y = prefixN y.cps.toList.reverse x.cps.toList.reverse := by
  rw [Bool.eq_iff_iff, prefixN_iff, List.reverse_prefix]
  unfold Txt.endswith
  rw [StrLaws.subAt_eq, Bool.and_eq_true, beq_iff_eq, decide_eq_true_eq, List.suffix_iff_eq_drop]
  have hx : x.cps.toList.length = x.length := by simp [Str.length]
  have hy : y.cps.toList.length = y.length := by simp [Str.length]
  rw [hy, hx]
  constructor
  · rintro ⟨h1, h2⟩
    rw [List.take_of_length_le (by rw [List.length_drop, hx]; omega)] at h2
    exact h2.symm
  · intro h
    have := congrArg List.length h
    rw [List.length_drop] at this
    refine ⟨by omega, ?_⟩
    rw [List.take_of_length_le (by rw [List.length_drop, hx]; omega)]
    exact h.symm
theorem findFrom_spec (c k : Nat) : ∀ (l : List Nat) (i : Nat),
    (findFrom c l i k = -1 ∧ ∀ v, k ≤ i + v → l[v]? ≠ some c) ∨ ∃ v, findFrom c l i k = ((i + v : Nat) : Int) ∧ k ≤ i + v ∧ l[v]? = some c ∧ ∀ u, u < v → k ≤ i + u → l[u]? ≠ some c
  | [], i => .inl ⟨rfl, fun v _ => by simp⟩
  | x :: r, i => by
    unfold findFrom
    by_cases h : (Nat.ble k i && Nat.beq x c) = true
    · rw [if_pos h]
      obtain ⟨h1, h2⟩ := Bool.and_eq_true_iff.mp h
      have := Nat.le_of_ble_eq_true h1
      have := Nat.eq_of_beq_eq_true h2
      subst this
      exact .inr ⟨0, rfl, by omega, by simp, fun u hu => absurd hu (Nat.not_lt_zero _)⟩
    · rw [if_neg h]
      have hno : k ≤ i → x ≠ c := fun h1 h2 => h (Bool.and_eq_true_iff.mpr ⟨Nat.ble_eq_true_of_le h1, by subst h2; exact Nat.beq_refl x⟩)
      rcases findFrom_spec c k r (i + 1) with ⟨h1, h2⟩ | ⟨v, h1, h2, h3, h4⟩
      · refine .inl ⟨h1, fun v hv => ?_⟩
        cases v with
        | zero => simpa using hno hv
        | succ v => simpa using h2 v (by omega)
      · refine .inr ⟨v + 1, ?_, by omega, by simpa using h3, fun u hu hk => ?_⟩
        · rw [h1]; congr 1; omega
        · cases u with
          | zero => simpa using hno hk
          | succ u => simpa using h4 u (by omega) (by omega)
theorem find_uniq {x : Str} {c k : Nat} : Txt.find3 x ⟨#[c]⟩ (k : Int) = findFrom c x.cps.toList 0 k := by
  have hf : fromIndex x.length (k : Int) = k := by unfold fromIndex; rw [if_neg (by omega)]; omega
  have hl : x.cps.toList.length = x.length := by simp [Str.length]
  rcases StrLaws.find3_spec x c (k : Int) with ⟨h1, h2⟩ | ⟨v, h1, h2, h3, h4, h5⟩ <;> rw [hf] at * <;>
    rcases findFrom_spec c k x.cps.toList 0 with ⟨g1, g2⟩ | ⟨u, g1, g2, g3, g4⟩
  · rw [h1, g1]
  · exfalso
    have hu : u < x.length := by rw [← hl]; exact (List.getElem?_eq_some_iff.mp g3).1
    exact h2 u (by omega) hu (StrLaws.getD_of_getElem? g3)
  · exfalso
    exact g2 v (by omega) (StrLaws.getElem?_of_getD h3 h4)
  · have g3' := StrLaws.getD_of_getElem? g3
    have hu : u < x.length := by rw [← hl]; exact (List.getElem?_eq_some_iff.mp g3).1
    have : v = u := by
      rcases Nat.lt_trichotomy v u with h | h | h
      · exact absurd (StrLaws.getElem?_of_getD h3 h4) (g4 v h (by omega))
      · exact h
      · exact absurd g3' (h5 u (by omega) h)
    rw [h1, g1, this]; simp
theorem find_zero (x y : Str) : Txt.find x y = Txt.find3 x y 0 := by
  unfold Txt.find Txt.find3
  have hf : fromIndex x.length (0 : Int) = 0 := by unfold fromIndex; simp
  rw [hf]
  cases Builtin.Str.occurrences x y 0 x.length 1 <;> rfl

theorem strJoin_joinN (sep : Str) : ∀ ys : List Str, (Str.join sep ys).cps.toList = joinN sep.cps.toList (ys.map fun y => y.cps.toList)
  | [] => rfl
  | [y] => rfl
  | y :: z :: r => by
    have ih := strJoin_joinN sep (z :: r)
    have e : Str.join sep (y :: z :: r) = y ++ sep ++ Str.join sep (z :: r) := rfl
    rw [e]
    have ca : ∀ a b : Str, (a ++ b).cps.toList = a.cps.toList ++ b.cps.toList := fun a b => by
      show (Str.append a b).cps.toList = _
      simp [Str.append]
    rw [ca, ca, ih]
    simp [joinN]
theorem txt_join (sep : Str) (ys : List Str) : Txt.join sep ys = mkS (joinN sep.cps.toList (ys.map fun y => y.cps.toList)) := by
  unfold Txt.join
  rw [StrLaws.glued_eq_join, ← strJoin_joinN]
  simp [mkS]
theorem splitN_free (c : Nat) : ∀ (a acc r : List Nat), c ∉ a → splitN c acc (a ++ c :: r) = (acc ++ a) :: splitN c [] r
  | [], acc, r, _ => by simp [splitN]
  | x :: a, acc, r, h => by
    have hx : Nat.beq x c = false := by
      cases e : Nat.beq x c with
      | false => rfl
      | true => exact absurd (Nat.eq_of_beq_eq_true e) fun z => h (by simp [z])
    rw [List.cons_append, splitN, hx]
    simp only [Bool.false_eq_true, if_false]
    rw [splitN_free c a (acc ++ [x]) r fun z => h (by simp [z])]
    simp
theorem splitN_last (c : Nat) : ∀ (a acc : List Nat), c ∉ a → splitN c acc a = [acc ++ a]
  | [], acc, _ => by simp [splitN]
  | x :: a, acc, h => by
    have hx : Nat.beq x c = false := by
      cases e : Nat.beq x c with
      | false => rfl
      | true => exact absurd (Nat.eq_of_beq_eq_true e) fun z => h (by simp [z])
    rw [splitN, hx]
    simp only [Bool.false_eq_true, if_false]
    rw [splitN_last c a (acc ++ [x]) fun z => h (by simp [z])]
    simp
theorem splitN_join (c : Nat) : ∀ P : List (List Nat), P ≠ [] → (∀ p ∈ P, c ∉ p) → splitN c [] (joinN [c] P) = P
  | [], h, _ => absurd rfl h
  | [a], _, h => by simpa [joinN] using splitN_last c a [] (h a (by simp))
  | a :: b :: r, _, h => by
    have ih := splitN_join c (b :: r) (by simp) fun p hp => h p (by simp [List.mem_cons.mp hp])
    show splitN c [] (a ++ [c] ++ joinN [c] (b :: r)) = _
    have := splitN_free c a [] (joinN [c] (b :: r)) (h a (by simp))
    simp only [List.append_assoc, List.cons_append, List.nil_append] at this ⊢
    rw [this, ih]
theorem split_ne (x : Str) (c : Nat) : Txt.split x ⟨#[c]⟩ ≠ [] := by
  unfold Txt.split
  split
  · simp
  · split
    · simp
    · rw [StrLaws.partsBetween_eq]
      obtain ⟨p, r, e⟩ := StrLaws.partsFrom_ne x (⟨#[c]⟩ : Str).length 0 (Builtin.Str.occurrences x ⟨#[c]⟩ 0 x.length (x.length + 1))
      rw [e]; simp
theorem txt_split (x : Str) (c : Nat) : Txt.split x ⟨#[c]⟩ = (splitN c [] x.cps.toList).map mkS := by
  have h := StrLaws.join_split x ⟨#[c]⟩
  have h1 := congrArg (fun s : Str => s.cps.toList) h
  simp only [strJoin_joinN] at h1
  have h2 := splitN_join c ((Txt.split x ⟨#[c]⟩).map fun y => y.cps.toList) (by simp [split_ne]) (by
    intro p hp
    obtain ⟨y, hy, rfl⟩ := List.mem_map.mp hp
    exact StrLaws.split_free x c y hy)
  rw [← h1]
  have e : joinN (⟨#[c]⟩ : Str).cps.toList = joinN [c] := rfl
  rw [e, h2, List.map_map]
  have : (mkS ∘ fun y : Str => y.cps.toList) = id := by funext y; simp [mkS]
  rw [this]; simp
theorem splitN_len (c : Nat) : ∀ (l acc : List Nat), (splitN c acc l).length ≤ l.length + 1
  | [], acc => by simp [splitN]
  | x :: r, acc => by
    rw [splitN]
    split
    · have := splitN_len c r []; simp; omega
    · have := splitN_len c r (acc ++ [x]); simp; omega
theorem sumLen_eq : ∀ q : List Str, sumLen q = (q.map (·.length)).sum
  | [] => rfl
  | x :: r => by simp [sumLen, sumLen_eq r, Str.length]
theorem strsFrom_are : ∀ (n : Nat) (l : List Str), StrsAre (strsFrom n l) l
  | n, [] => .nil
  | n, x :: r => .cons x n (strsFrom_are (n + 1) r)

section
variable {prog : Program} {w : World} {A : Around} {E : Value → Shared → Prop} {s : Shared} {B : Heap} {Q : Value → Shared → Prop}

theorem split_sound {x : Str} {c : Nat} {t u : Tok} (hx : x.cps.toList.length ≤ big) (hQ : PQ prog w B s (.d (.list ((splitN c [] x.cps.toList).map fun l => .str (mkS l)))) Q) :
    wpAny (model prog w) A (call (.builtin "str.split") [.str x t, .str ⟨#[c]⟩ u]) Q E s := by
  have e : ((splitN c [] x.cps.toList).map fun l => PyData.str (mkS l)) = toStrs (Txt.split x ⟨#[c]⟩) := by
    rw [txt_split]; simp [toStrs]
  rw [e] at hQ
  have hxl : x.length ≤ big := by simpa [Str.length] using hx
  have hsz : x.length ≤ sizeLine := Nat.le_trans hxl (by decide)
  have fin : ∀ (vs : List Value) (n tk : Nat), StrsAre vs (Txt.split x ⟨#[c]⟩) → Q (.ref s.heap.objs.size) { s with heap := s.heap.push { cls := .type "list", data := .seq (List.toArray vs) n }, toks := tk } := fun vs n tk hv =>
    hQ _ _ ⟨_, tk, rfl⟩ (push_stays _ _) fun B' nw => rdList (nw.2 _ _ (size_none _) (Heap.get?_push_size _ rfl)) rfl rfl (by simpa using _root_.Mine.StrsAre.rds hv)
  cases h1 : (decide (x.length < (⟨#[c]⟩ : Str).length) || decide (Builtin.Str.strKind x < Builtin.Str.strKind ⟨#[c]⟩))
  · cases hf : (Builtin.Str.occurrences x ⟨#[c]⟩ 0 x.length (x.length + 1)).isEmpty
    · have hsp : Txt.split x ⟨#[c]⟩ = Builtin.Str.partsBetween x (Builtin.Str.occurrences x ⟨#[c]⟩ 0 x.length (x.length + 1)) (⟨#[c]⟩ : Str).length := by
        unfold Txt.split; rw [if_neg (by rw [h1]; exact Bool.false_ne_true), if_neg (by rw [hf]; exact Bool.false_ne_true)]
      refine call_meets F.slot_str_split (typeIs_str _ _ _) F.entry_str_split (F.args_str_split_2 _ _) (meets_str_split_sep x ⟨#[c]⟩ t u h1 rfl hf hsz ?_) ?_
      · rw [← hsp, txt_split, List.length_map]
        exact Nat.le_trans (splitN_len c _ _) (by simp [Str.length, sizeLine, big] at *; omega)
      · rw [← hsp]
        exact fin _ 0 _ (strsFrom_are _ _)
    · have hsp : Txt.split x ⟨#[c]⟩ = [x] := by
        unfold Txt.split; rw [if_neg (by rw [h1]; exact Bool.false_ne_true), if_pos hf]
      refine call_meets F.slot_str_split (typeIs_str _ _ _) F.entry_str_split (F.args_str_split_2 _ _) (meets_str_split_not_found x ⟨#[c]⟩ t u h1 rfl hf) ?_
      exact fin [.str x t] 0 s.toks (by rw [hsp]; exact .cons _ _ .nil)
  · have hsp : Txt.split x ⟨#[c]⟩ = [x] := by
      unfold Txt.split; rw [if_pos h1]
    refine call_meets F.slot_str_split (typeIs_str _ _ _) F.entry_str_split (F.args_str_split_2 _ _) (meets_str_split_cannot_occur x ⟨#[c]⟩ t u h1) ?_
    exact fin [.str x t] 0 s.toks (by rw [hsp]; exact .cons _ _ .nil)

theorem str_one {x : Str} {c : Nat} (h : x.cps.toList = [c]) : x = ⟨#[c]⟩ := by
  obtain ⟨⟨l⟩⟩ := x
  simp at h; subst h; rfl
theorem prs_none {es : List (Str × Value)} {kvs : List (Str × PyData)} (p : Prs B es kvs) {k : Str} (h : kget k kvs = none) : valueAt es k = none := by
  induction p with
  | nil => rfl
  | @cons k' v' x' r q hr p ih =>
    unfold kget lkp at h
    by_cases e : eqb k k' = true
    · rw [if_pos e] at h; cases h
    · rw [if_neg e] at h
      have hne : ¬ (k' = k) := fun z => e (by rw [z]; exact eqb_refl _)
      simpa [valueAt, hne] using ih h
theorem prs_isSome {es : List (Str × Value)} {kvs : List (Str × PyData)} (p : Prs B es kvs) (k : Str) : (valueAt es k).isSome = (kget k kvs).isSome := by
  cases h : kget k kvs with
  | none => rw [prs_none p h]; rfl
  | some x => obtain ⟨v, h1, _⟩ := prs_find p h; rw [h1]; rfl


noncomputable def mid (v : AV) (f : Str) : String :=
  match v with
  | .m _ => "dict.get"
  | _ => if eqb f sStarts then "str.startswith" else if eqb f sEnds then "str.endswith" else if eqb f sFind then "str.find" else if eqb f sSplit then "str.split" else "str.join"
theorem Prs.getD {es : List (Str × Value)} {kvs : List (Str × PyData)} (p : Prs B es kvs) (k : Str) : RD B ((valueAt es k).getD .none) ((kget k kvs).getD .none) := by
  cases h : kget k kvs with
  | none => rw [prs_none p h]; exact rdNone
  | some x => obtain ⟨v, h1, h2⟩ := prs_find p h; rw [h1]; exact h2

theorem mth_call {v : AV} {f : Str} {args : List PyData} {r : PyData} {o : Value} {vals : List Value} (h : mthV v f args = some r) (kB : B.StaysIn s.heap) (hs : Seen prog w B s.heap v o) (ha : RDs B vals args)
    (hQ : PQ prog w B s (.d r) Q) : wpAny (model prog w) A (call (.builtin (mid v f)) (o :: vals)) Q E s := by
  unfold mthV at h
  split at h
  · rename_i x y
    obtain ⟨t, rfl⟩ := RD.str (Seen.rd' hs fun _ q => by cases q)
    obtain ⟨v1, r1, rfl, ha1, ha2⟩ := ha.uncons
    rw [ha2.unnil]
    obtain ⟨u, rfl⟩ := ha1.str
    split at h
    · rename_i hf; cases h
      simp only [mid, hf, if_true]
      exact SC.startswith (by rw [txt_starts]; exact hQ.old rdBool)
    · rename_i n1
      split at h
      · rename_i hf; cases h
        simp only [mid, hf, if_true, n1, if_false]
        exact SC.endswith (by rw [txt_ends]; exact hQ.old rdBool)
      · rename_i n2
        split at h
        · rename_i hf
          split at h
          · rename_i c hc
            cases h
            simp only [mid, hf, if_true, n1, n2, if_false]
            refine SC.find ?_
            rw [str_one hc, find_zero]
            have := find_uniq (x := x) (c := c) (k := 0)
            rw [show ((0 : Nat) : Int) = 0 from rfl] at this
            rw [this]
            exact hQ.imm fun _ => rdInt
          · cases h
        · rename_i n3
          split at h
          · rename_i hf
            split at h
            · rename_i c hc
              split at h
              · rename_i hb
                cases h
                rw [str_one hc]
                simp only [mid, hf, if_true, n1, n2, n3, if_false]
                exact split_sound hb hQ
              · cases h
            · cases h
          · cases h
  · rename_i x y k
    obtain ⟨t, rfl⟩ := RD.str (Seen.rd' hs fun _ q => by cases q)
    obtain ⟨v1, r1, rfl, ha1, ha2⟩ := ha.uncons
    obtain ⟨v2, r2, rfl, ha3, ha4⟩ := ha2.uncons
    rw [ha4.unnil]
    obtain ⟨u, rfl⟩ := ha1.str
    obtain ⟨u', rfl⟩ := ha3.int
    split at h
    · rename_i hf
      split at h
      · rename_i c hc
        split at h
        · rename_i hk
          cases h
          have e := eqb_iff.mp hf
          have n1 : eqb f sStarts = false := by rw [e]; decide +kernel
          have n2 : eqb f sEnds = false := by rw [e]; decide +kernel
          simp only [mid, hf, if_true, n1, n2, Bool.false_eq_true, if_false]
          refine SC.find3 ?_
          rw [str_one hc]
          obtain ⟨j, rfl⟩ : ∃ j : Nat, k = j := ⟨k.toNat, by omega⟩
          rw [find_uniq]
          exact hQ.imm fun _ => rdInt
        · cases h
      · cases h
    · cases h
  · rename_i x l
    obtain ⟨t, rfl⟩ := RD.str (Seen.rd' hs fun _ q => by cases q)
    obtain ⟨v1, r1, rfl, ha1, ha2⟩ := ha.uncons
    rw [ha2.unnil]
    obtain ⟨a, vs, rfl, hl, hr⟩ := ha1.list
    split at h
    · rename_i hf
      split at h
      · rename_i q hq
        split at h
        · rename_i hb
          cases h
          have e := eqb_iff.mp hf
          have n1 : eqb f sStarts = false := by rw [e]; decide +kernel
          have n2 : eqb f sEnds = false := by rw [e]; decide +kernel
          have n3 : eqb f sFind = false := by rw [e]; decide +kernel
          have n4 : eqb f sSplit = false := by rw [e]; decide +kernel
          simp only [mid, n1, n2, n3, n4, Bool.false_eq_true, if_false]
          refine PyProof.Rows.join_list (hl.at fun o e => kB _ _ e) (ys := q) (by simpa using strsOf_are hq hr) ?_ fun t' tk => ?_
          · rw [sumLen_eq] at hb
            simp only [big] at hb
            have : x.length = x.cps.toList.length := by simp [Str.length]
            rw [this]; omega
          · rw [txt_join]; exact hQ.imm fun _ => rdStr
        · cases h
      · cases h
    · cases h
  · rename_i kvs k
    obtain ⟨a, rfl, lo, es, hd, hp⟩ := hs
    obtain ⟨v1, r1, rfl, ha1, ha2⟩ := ha.uncons
    rw [ha2.unnil]
    obtain ⟨u, rfl⟩ := ha1.str
    split at h
    · cases h
      simp only [mid]
      refine call_meetsIn F.slot_dict_get hd.typeIs F.entry_dict_get (F.args_dict_get_2 _ _) (meets_dict_get (strKind prog w) a (strKind_is prog w k u) lo) ⟨_, hd.mapOf, ?_⟩
      exact hQ _ _ ⟨s.heap, _, rfl⟩ (staysRefl _) fun B' n => (hp.getD k).keeps n.1
    · cases h
  · cases h
theorem mth_get {v : AV} {f : Str} {args : List PyData} {r : PyData} {o : Value} {pl : Sem Bool} {Q : Value × List Value → Shared → Prop} (h : mthV v f args = some r) (hs : Seen prog w B s.heap v o)
    (hQ : Q (.builtin (mid v f), [o]) s) : wpAny (model prog w) A (getMethod o f pl) Q E s := by
  unfold mthV at h
  split at h
  · rename_i x y
    obtain ⟨t, rfl⟩ := RD.str (Seen.rd' hs fun _ q => by cases q)
    split at h
    · rename_i hf
      simp only [mid, hf, if_true] at hQ
      have e := (eqb_iff.mp hf).trans sStarts_eq; subst e
      with_reducible exact GM.startswith hQ
    · rename_i n1
      split at h
      · rename_i hf
        simp only [mid, hf, if_true, n1, Bool.false_eq_true, if_false] at hQ
        have e := (eqb_iff.mp hf).trans sEnds_eq; subst e
        with_reducible exact GM.endswith hQ
      · rename_i n2
        split at h
        · rename_i hf
          simp only [mid, hf, if_true, n1, n2, Bool.false_eq_true, if_false] at hQ
          have e := (eqb_iff.mp hf).trans sFind_eq; subst e
          with_reducible exact GM.find hQ
        · rename_i n3
          split at h
          · rename_i hf
            simp only [mid, hf, if_true, n1, n2, n3, Bool.false_eq_true, if_false] at hQ
            have e := (eqb_iff.mp hf).trans sSplit_eq; subst e
            with_reducible exact GM.split hQ
          · cases h
  · rename_i x y k
    obtain ⟨t, rfl⟩ := RD.str (Seen.rd' hs fun _ q => by cases q)
    split at h
    · rename_i hf
      have e := eqb_iff.mp hf
      have n1 : eqb f sStarts = false := by rw [e]; decide +kernel
      have n2 : eqb f sEnds = false := by rw [e]; decide +kernel
      simp only [mid, hf, if_true, n1, n2, Bool.false_eq_true, if_false] at hQ
      have e := e.trans sFind_eq
      subst e
      with_reducible exact GM.find hQ
    · cases h
  · rename_i x l
    obtain ⟨t, rfl⟩ := RD.str (Seen.rd' hs fun _ q => by cases q)
    split at h
    · rename_i hf
      have e := eqb_iff.mp hf
      have n1 : eqb f sStarts = false := by rw [e]; decide +kernel
      have n2 : eqb f sEnds = false := by rw [e]; decide +kernel
      have n3 : eqb f sFind = false := by rw [e]; decide +kernel
      have n4 : eqb f sSplit = false := by rw [e]; decide +kernel
      simp only [mid, n1, n2, n3, n4, Bool.false_eq_true, if_false] at hQ
      have e := e.trans sJoin_eq
      subst e
      with_reducible exact GM.join hQ
    · cases h
  · rename_i kvs k
    obtain ⟨a, rfl, lo, es, hd, hp⟩ := hs
    split at h
    · rename_i hf
      have e := (eqb_iff.mp hf).trans sGet_eq; subst e
      exact getMethod_builtin hd.typeIs F.plainAttrs_dict F.slot_dict_get F.type_dict_get hd.mapOf.noDict hQ
    · cases h
  · cases h
end
end Mine
end

section
open PySem PySem.Calls PyProof.Rows
set_option Elab.async false
set_option linter.unusedVariables false
namespace Mine

/-! sorting texts -/
noncomputable def leS (a b : Str) : Prop := ¬ (b.cps.toList < a.cps.toList)
theorem leS_antisymm {a b : Str} (h1 : leS a b) (h2 : leS b a) : a = b := by
  have : a.cps.toList = b.cps.toList := List.le_antisymm (List.not_lt.mp h1) (List.not_lt.mp h2)
  obtain ⟨⟨a⟩⟩ := a; obtain ⟨⟨b⟩⟩ := b
  simp at this; subst this; rfl
theorem leS_trans {a b c : Str} (h1 : leS a b) (h2 : leS b c) : leS a c :=
  List.not_lt.mpr (List.le_trans (List.not_lt.mp h1) (List.not_lt.mp h2))
theorem sortedS_pairwise : ∀ l : List Str, sortedS l = true → l.Pairwise leS
  | [], _ => .nil
  | [x], _ => by simp
  | x :: y :: r, h => by
    have h' : (!PySem.Spec.ltCps y.cps.toList x.cps.toList && risingS y r) = true := h
    obtain ⟨h1, h2⟩ := Bool.and_eq_true_iff.mp h'
    have ih := sortedS_pairwise (y :: r) h2
    rw [ltCps_eq] at h1
    have hxy : leS x y := by simpa [leS] using h1
    refine List.pairwise_cons.mpr ⟨fun z hz => ?_, ih⟩
    rcases List.mem_cons.mp hz with rfl | hz
    · exact hxy
    · exact leS_trans hxy (List.rel_of_pairwise_cons ih hz)
theorem insS_perm (x : Str) : ∀ l : List Str, (insS x l).Perm (x :: l)
  | [] => .refl _
  | y :: r => by
    rw [insS]
    split
    · exact ((insS_perm x r).cons y).trans (.swap x y r)
    · exact .refl _
theorem sortS_perm : ∀ l : List Str, (sortS l).Perm l
  | [] => .refl _
  | x :: r => (insS_perm x (sortS r)).trans ((sortS_perm r).cons x)
theorem insS_pairwise (x : Str) : ∀ l : List Str, l.Pairwise leS → (insS x l).Pairwise leS
  | [], _ => by simp [insS]
  | y :: r, h => by
    rw [insS]
    split
    · rename_i hlt
      rw [ltS_eq] at hlt
      have hlt' : y.cps.toList < x.cps.toList := of_decide_eq_true hlt
      refine List.pairwise_cons.mpr ⟨fun z hz => ?_, insS_pairwise x r (List.pairwise_cons.mp h).2⟩
      rcases List.mem_cons.mp ((insS_perm x r).mem_iff.mp hz) with rfl | hz
      · exact List.not_lt.mpr (List.le_of_lt hlt')
      · exact List.rel_of_pairwise_cons h hz
    · rename_i hlt
      rw [ltS_eq] at hlt
      have hxy : leS x y := fun z => hlt (by simpa using z)
      refine List.pairwise_cons.mpr ⟨fun z hz => ?_, h⟩
      rcases List.mem_cons.mp hz with rfl | hz
      · exact hxy
      · exact leS_trans hxy (List.rel_of_pairwise_cons h hz)
theorem sortS_pairwise : ∀ l : List Str, (sortS l).Pairwise leS
  | [] => .nil
  | x :: r => insS_pairwise x _ (sortS_pairwise r)
theorem sorted_uniq : ∀ {a b : List Str}, a.Perm b → a.Pairwise leS → b.Pairwise leS → a = b
  | [], b, p, _, _ => p.nil_eq
  | x :: r, b, p, ha, hb => by
    cases b with
    | nil => exact absurd p.length_eq (by simp)
    | cons y t =>
      have hx : x ∈ y :: t := p.mem_iff.mp (.head _)
      have hy : y ∈ x :: r := p.mem_iff.mpr (.head _)
      have e : x = y := by
        rcases List.mem_cons.mp hx with e | hx
        · exact e
        · rcases List.mem_cons.mp hy with e | hy
          · exact e.symm
          · exact leS_antisymm (List.rel_of_pairwise_cons ha hy) (List.rel_of_pairwise_cons hb hx)
      subst e
      rw [sorted_uniq (p.cons_inv) (List.pairwise_cons.mp ha).2 (List.pairwise_cons.mp hb).2]
theorem sortS_eq {ss ss' : List Str} (p : ss'.Perm ss) (h : sortedS ss' = true) : ss' = sortS ss :=
  sorted_uniq (p.trans (sortS_perm ss).symm) (sortedS_pairwise _ h) (sortS_pairwise ss)

section
variable {prog : Program} {w : World} {A : Around} {E : Value → Shared → Prop} {s : Shared} {B : Heap} {Q : Value → Shared → Prop}

theorem collect_keys {d : Addr} {kvs : List (Str × Value)} {ep : Nat} {R : List Value → Shared → Prop} (hh : A.handled = none) (lo : (d == sysModules) = false) (hm : s.heap.DictAt (PySem.strKind prog w) d kvs ep) (hn : kvs.length ≤ sizeLine)
    (h : ∀ (h' : Heap) (tk : Nat) (vs : List Value), s.heap.StaysIn h' → StrsAre vs (kvs.map (·.1)) → R vs { s with heap := h', toks := tk }) : wpAny (model prog w) A (collect (.ref d)) R E s := by
  have hd : d < s.heap.objs.size := hm.lt_size
  unfold collect
  refine wpAny_bind (wpAny_runValue (codeAny_builtin entry_proto_collect' ?_))
  rw [Around.under_plainId PySem.F.plain_proto_collect _]
  show wpAny _ A.in1 (newList [] >>= fun l => again (.builtin "list.__iadd__" ⟨[l, .ref d], []⟩)) _ _ s
  refine wpAny_bind (wpAny_newObj_type ?_)
  refine wpAny_pure ⟨plainId_quiet PySem.F.plain_list_iadd _, codeAny_builtin entry_list_iadd' ?_⟩
  rw [Around.under_plainId PySem.F.plain_list_iadd _]
  have hS₁ : (s.heap.push { cls := .type "list", data := .seq ([] : List Value).toArray }).get? s.heap.objs.size = some { cls := .type "list", data := .seq #[] } := Heap.get?_push_size _ rfl
  show wpAny _ A.in1 (Builtin.List.listExtendWith (.ref s.heap.objs.size) (.ref d) (.ref s.heap.objs.size)) _ _ _
  have key := PySem.W.kdl_extend (A := A) (s := { s with heap := s.heap.push { cls := .type "list", data := .seq ([] : List Value).toArray } }) (PySem.W.kdl_dict (knd := PySem.strKind prog w) (kvs := kvs) (ep := ep) lo)
    (R := fun (q : Result) (s' : Shared) => ∃ (h' : Heap) (tk : Nat) (acc' : Array Value) (c' : Nat), q = .ok (.ret (.ref s.heap.objs.size)) ∧ s' = { s with heap := h', toks := tk } ∧
      s.heap.StaysIn h' ∧ h'.get? s.heap.objs.size = some { cls := .type "list", dict := none, data := .seq acc' c', slots := #[] } ∧ ItemsOf (fun i v => ∃ k x, kvs[i]? = some (k, x) ∧ (PySem.strKind prog w).is k v = true) acc' kvs.length)
    hh (hm.push _) s.heap.objs.size (Nat.ne_of_gt hd) (Nat.ne_of_gt hd) (.ref s.heap.objs.size) 0 hS₁
    (fun h' tk acc' c' hk hS' hacc => ⟨h', tk, acc', c', rfl, rfl, fun b o e => hk b o (Nat.ne_of_lt (Heap.lt_size e)) (Heap.get?_push_of_some _ e), hS', hacc⟩) hn
  have are : ∀ (kvs : List (Str × Value)) (l : List Value), l.length = kvs.length → (∀ (j : Nat) (v : Value), l[j]? = some v → ∃ k x, kvs[j]? = some (k, x) ∧ (PySem.strKind prog w).is k v = true) → StrsAre l (kvs.map (·.1)) := by
    intro kvs
    induction kvs with
    | nil => intro l hl _; rw [List.eq_nil_of_length_eq_zero hl]; exact .nil
    | cons q r ih =>
      intro l hl hv
      cases l with
      | nil => simp at hl
      | cons v vs =>
        obtain ⟨k, x, e, hk⟩ := hv 0 v rfl
        simp only [List.getElem?_cons_zero, Option.some.injEq] at e
        subst e
        obtain ⟨t, rfl⟩ := Value.isStrOf_shape hk
        exact .cons _ _ (ih vs (by simpa using hl) fun j u hu => by simpa using hv (j + 1) u (by simpa using hu))
  have fin : ∀ (h' : Heap) (tk : Nat) (acc' : Array Value) (c' : Nat), s.heap.StaysIn h' → h'.get? s.heap.objs.size = some { cls := .type "list", dict := none, data := .seq acc' c', slots := #[] } → ItemsOf (fun i v => ∃ k x, kvs[i]? = some (k, x) ∧ (PySem.strKind prog w).is k v = true) acc' kvs.length →
      wpAny (model prog w) A (load s.heap.objs.size >>= fun o => match o.data with | .seq xs _ => pure xs.toList | _ => unsupported "internal:collect") R E { s with heap := h', toks := tk } := by
    intro h' tk acc' c' hk hS' hacc
    refine wpAny_bind (wpAny_load hS' (wpAny_pure (h h' tk acc'.toList hk (are kvs _ (by rw [Array.length_toList]; exact hacc.1) fun j v e => hacc.2 j v (by rw [← Array.getElem?_toList]; exact e)))))
  refine wpAny_mono key (fun fn s' x => ?_) fun e s' x => ?_
  · cases fn with
    | done f =>
      obtain ⟨h', tk, acc', c', e, rfl, hk, hS', hacc⟩ := x
      cases e
      exact fin h' tk acc' c' hk hS' hacc
    | again c₁ =>
      refine ⟨x.1, codeAny_mono x.2 fun q s₂ y => ?_⟩
      obtain ⟨h', tk, acc', c', rfl, rfl, hk, hS', hacc⟩ := y
      exact fin h' tk acc' c' hk hS' hacc
  · obtain ⟨_, _, _, _, e', _⟩ := x
    cases e'

theorem sorted_dict {d : Addr} {kvs : List (Str × Value)} {ep : Nat} (hh : A.handled = none) (lo : (d == sysModules) = false) (hm : s.heap.DictAt (PySem.strKind prog w) d kvs ep) (h64 : kvs.length < 64)
    (h : ∀ (h' : Heap) (tk : Nat) (a : Addr) (vs : List Value) (e : Nat), s.heap.StaysIn h' → s.heap.get? a = none → h'.get? a = some { cls := .type "list", data := .seq (List.toArray vs) e } → StrsAre vs (sortS (kvs.map (·.1))) → Q (.ref a) { s with heap := h', toks := tk }) :
    wpAny (model prog w) A (call (.builtin "sorted") [.ref d]) Q E s := by
  refine Calls.call_function_entry kind_sorted plain_sorted entry_sorted (args_sorted1 _) ?_
  unfold Builtin.«sorted»
  refine wpAny_bind (m := checkCount "sorted" 1 1 _) (wpAny_pure ?_)
  refine wpAny_bind (collect_keys (A := A.in1) hh lo hm (Nat.le_trans (Nat.le_of_lt h64) (by decide)) fun h₁ tk₁ vs hk₁ hv => ?_)
  have hvl : vs.length < 64 := by
    have : ∀ {vs : List Value} {ss : List Str}, StrsAre vs ss → vs.length = ss.length := fun h => by induction h <;> simp_all
    rw [this hv, List.length_map]; exact h64
  refine wpAny_bind (wpAny_newList (hsz := Nat.le_trans (Nat.le_of_lt hvl) (by decide)) ?_)
  have hoL : (h₁.push (seqObj "list" vs.toArray 0)).get? h₁.objs.size = some (seqObj "list" vs.toArray 0) := Heap.get?_push_size _ rfl
  show wpAny _ _ _ _ _ { s with heap := h₁.push (seqObj "list" vs.toArray 0), toks := tk₁ }
  refine wpAny_bind (wpAny_holding (wpAny_call_entry slot_list_sort ⟨_, hoL, rfl⟩ entry_list_sort (list_sort_treeK strKind_oneLt hoL hv.keysOf (fun v₁ v₂ rest e => keyKind_strs (by rw [← e]; exact hv)) hvl fun st' a1 a2 => ⟨_, rfl, ?_⟩) (args_list_sort _)))
  obtain ⟨ss', q1, q2, q3⟩ := sorted_out_str hv a1 a2
  obtain ⟨e, he⟩ := sortedHeap_at (vs := vs) (out := (arrOf st').map (·.2)) hoL
  refine wpAny_pure ⟨_, rfl, h _ tk₁ h₁.objs.size ((arrOf st').map (·.2)).toList e (fun b o eb => ?_) ?_ (by rw [Array.toArray_toList]; exact he) (by rw [← sortS_eq q2 q3]; exact q1)⟩
  · have hb := hk₁ _ _ eb
    rw [sortedHeap_old (Nat.ne_of_lt (Heap.lt_size hb)) (by rw [Heap.size_push]; exact Nat.lt_succ_of_lt (Heap.lt_size hb))]
    exact Heap.get?_push_of_some _ hb
  · cases q : s.heap.get? h₁.objs.size with
    | none => rfl
    | some o => exact absurd (Heap.lt_size (hk₁ _ _ q)) (Nat.lt_irrefl _)
end
end Mine
end

section
open PySem PySem.Calls PyProof.Rows
set_option Elab.async false
set_option linter.unusedVariables false
namespace Mine

/-! laying a table anew: it always succeeds with room to spare -/
noncomputable def leaps (mask : Nat) : Nat → Nat × Nat → Nat × Nat
  | 0, x => x
  | n + 1, x => leaps mask n (SetTable.leap mask x.1 x.2)
theorem leaps_lt {mask : Nat} : ∀ (n : Nat) (x : Nat × Nat), x.1 < mask + 1 → (leaps mask n x).1 < mask + 1
  | 0, x, h => h
  | n + 1, x, h => leaps_lt n _ (Nat.mod_lt _ (Nat.succ_pos _))
theorem leaps_p {mask : Nat} : ∀ (n : Nat) (x : Nat × Nat), (leaps mask n x).2 = x.2 / 32 ^ n
  | 0, x => by simp [leaps]
  | n + 1, x => by
    rw [leaps, leaps_p n, SetTable.leap, Nat.pow_succ, Nat.div_div_eq_div_mul, Nat.mul_comm]
theorem leaps_add {mask : Nat} : ∀ (n m : Nat) (x : Nat × Nat), leaps mask (n + m) x = leaps mask m (leaps mask n x)
  | 0, m, x => by simp [leaps]
  | n + 1, m, x => by rw [Nat.add_right_comm]; simp [leaps, leaps_add n m]
noncomputable def fives (mask : Nat) : Nat → Nat → Nat
  | 0, i => i
  | n + 1, i => fives mask n ((i * 5 + 1) % (mask + 1))
theorem leaps_zero {mask : Nat} : ∀ (n i : Nat), leaps mask n (i, 0) = (fives mask n i, 0)
  | 0, i => rfl
  | n + 1, i => by rw [leaps, fives, ← leaps_zero n]; simp [SetTable.leap]
noncomputable def orbOk (mask : Nat) : Bool := (List.range (mask + 1)).all fun i => (List.range (mask + 1)).all fun j => (List.range (mask + 1)).any fun t => fives mask t i == j
noncomputable def okMask (mask : Nat) : Prop := mask = 7 ∨ mask = 15 ∨ mask = 31
theorem orb7 : orbOk 7 = true := by decide +kernel
theorem orb15 : orbOk 15 = true := by decide +kernel
theorem orb31 : orbOk 31 = true := by decide +kernel
theorem orb {mask : Nat} (h : okMask mask) {i j : Nat} (hi : i < mask + 1) (hj : j < mask + 1) : ∃ t, t < mask + 1 ∧ fives mask t i = j := by
  have ho : orbOk mask = true := by
    rcases h with rfl | rfl | rfl
    · exact orb7
    · exact orb15
    · exact orb31
  unfold orbOk at ho
  have := List.all_eq_true.mp (List.all_eq_true.mp ho i (List.mem_range.mpr hi)) j (List.mem_range.mpr hj)
  obtain ⟨t, ht, e⟩ := List.any_eq_true.mp this
  exact ⟨t, List.mem_range.mp ht, beq_iff_eq.mp e⟩
theorem bits_lt (h : Int) : SetTable.bits h < 2 ^ 64 := by
  unfold SetTable.bits
  have h1 : 0 ≤ h % (2 ^ 64 : Int) := Int.emod_nonneg _ (by decide)
  have h2 : h % (2 ^ 64 : Int) < 2 ^ 64 := Int.emod_lt_of_pos _ (by decide)
  omega
/-- every place is reached -/
theorem reach {mask : Nat} (h : okMask mask) {i p j : Nat} (hi : i < mask + 1) (hp : p < 2 ^ 64) (hj : j < mask + 1) : ∃ t, t < SetTable.turns mask ∧ (leaps mask t (i, p)).1 = j := by
  have hz : (leaps mask 13 (i, p)).2 = 0 := by
    rw [leaps_p]; exact Nat.div_eq_of_lt (Nat.lt_trans hp (by decide))
  have hl := leaps_lt 13 (i, p) hi
  obtain ⟨t, ht, e⟩ := orb h hl hj
  refine ⟨13 + t, by unfold SetTable.turns; omega, ?_⟩
  rw [leaps_add]
  have : leaps mask 13 (i, p) = ((leaps mask 13 (i, p)).1, 0) := by rw [← hz]
  rw [this, leaps_zero]
  exact e
theorem free_some {mask : Nat} {owner : Array (Option Nat)} : ∀ {fuel i p j : Nat}, SetTable.layClean.free mask owner fuel i p = some j → owner[j]? = some none := by
  intro fuel
  induction fuel with
  | zero => intro i p j h; simp [SetTable.layClean.free] at h
  | succ n ih =>
    intro i p j h
    unfold SetTable.layClean.free at h
    split at h
    · rename_i k hk
      cases h
      have := List.find?_some hk
      rw [Array.getD_eq_getD_getElem?] at this
      cases q : owner[i + k]? with
      | none => rw [q] at this; simp at this
      | some v =>
        rw [q] at this
        simp only [Option.getD_some, Option.isNone_iff_eq_none] at this
        rw [this]
    · exact ih h
theorem free_none {mask : Nat} {owner : Array (Option Nat)} : ∀ {fuel i p : Nat}, SetTable.layClean.free mask owner fuel i p = none → ∀ t, t < fuel → owner[(leaps mask t (i, p)).1]? ≠ some none := by
  intro fuel
  induction fuel with
  | zero => intro i p h t ht; omega
  | succ n ih =>
    intro i p h t ht
    unfold SetTable.layClean.free at h
    split at h
    · cases h
    · rename_i hk
      cases t with
      | zero =>
        intro e
        have := List.find?_eq_none.mp hk 0 (List.mem_range.mpr (by unfold SetTable.runEnd; split <;> omega))
        simp only [leaps] at e
        simp [Array.getD_eq_getD_getElem?, e] at this
      | succ t =>
        exact ih h t (by omega)
theorem filterMap_set {α : Type} (x : α) : ∀ (l : List (Option α)) (j : Nat), l[j]? = some none → ((l.set j (some x)).filterMap id).Perm (x :: l.filterMap id)
  | [], j, h => by simp at h
  | a :: r, 0, h => by
    simp at h; subst h
    simp
  | a :: r, j + 1, h => by
    have ih := filterMap_set x r j (by simpa using h)
    simp only [List.set_cons_succ]
    cases a with
    | none => simpa using ih
    | some y =>
      simp only [List.filterMap_cons, id]
      exact (ih.cons y).trans (List.Perm.swap ..)
theorem free_there {mask : Nat} (h : okMask mask) {owner : Array (Option Nat)} {k : Nat} (hs : owner.size = mask + 1) (hp : (owner.toList.filterMap id).length = k) (hk : k ≤ mask) (b : Int) :
    ∃ j, SetTable.layClean.free mask owner (SetTable.turns mask) (SetTable.bits b % (mask + 1)) (SetTable.bits b) = some j ∧ owner[j]? = some none := by
  cases e : SetTable.layClean.free mask owner (SetTable.turns mask) (SetTable.bits b % (mask + 1)) (SetTable.bits b) with
  | some j => exact ⟨j, rfl, free_some e⟩
  | none =>
    exfalso
    have hall : ∀ o ∈ owner.toList, o ≠ none := by
      intro o ho q
      obtain ⟨j, hj, ej⟩ := List.mem_iff_getElem.mp ho
      have hj' : j < owner.size := by simpa using hj
      obtain ⟨t, ht, er⟩ := reach h (i := SetTable.bits b % (mask + 1)) (Nat.mod_lt _ (Nat.succ_pos _)) (bits_lt b) (j := j) (by omega)
      refine free_none e t ht ?_
      rw [er]
      subst q
      rw [← Array.getElem?_toList, List.getElem?_eq_getElem hj, ej]
    have : ∀ l : List (Option Nat), (∀ o ∈ l, o ≠ none) → (l.filterMap id).length = l.length := by
      intro l
      induction l with
      | nil => intro _; rfl
      | cons a r ih =>
        intro hr
        cases a with
        | none => exact absurd rfl (hr none List.mem_cons_self)
        | some x => simp [ih fun o ho => hr o (List.mem_cons_of_mem _ ho)]
    have := this _ hall
    rw [hp] at this
    simp at this
    omega
theorem layClean_ok {mask : Nat} (h : okMask mask) (hashes : Array Int) (hn : hashes.size ≤ mask) :
    ∃ owner, SetTable.layClean mask hashes = some owner ∧ owner.size = mask + 1 ∧ (owner.toList.filterMap id).Perm (List.range hashes.size) := by
  obtain ⟨l⟩ := hashes
  have key : ∀ (l : List Int) (owner : Array (Option Nat)) (k : Nat), owner.size = mask + 1 → (owner.toList.filterMap id).Perm (List.range k) → k + l.length ≤ mask →
      ∃ owner', l.foldl (fun (acc : Option (Array (Option Nat) × Nat)) h => do
        let (owner, k) ← acc
        let j ← SetTable.layClean.free mask owner (SetTable.turns mask) (SetTable.bits h % (mask + 1)) (SetTable.bits h)
        pure (owner.setIfInBounds j (some k), k + 1)) (some (owner, k)) = some (owner', k + l.length) ∧ owner'.size = mask + 1 ∧ (owner'.toList.filterMap id).Perm (List.range (k + l.length)) := by
    intro l
    induction l with
    | nil => intro owner k hs hp _; exact ⟨owner, rfl, hs, hp⟩
    | cons b r ih =>
      intro owner k hs hp hk
      simp only [List.length_cons] at hk
      obtain ⟨j, hj, hjn⟩ := free_there h hs (k := k) (by rw [hp.length_eq, List.length_range]) (by omega) b
      obtain ⟨o', e', hs', hp'⟩ := ih (owner.setIfInBounds j (some k)) (k + 1) (by simpa using hs) (by
        rw [Array.toList_setIfInBounds]
        refine (filterMap_set k _ j (by simpa using hjn)).trans ?_
        rw [List.range_succ]
        exact ((hp.cons k).trans (List.perm_append_singleton k _).symm)) (by omega)
      refine ⟨o', ?_, hs', ?_⟩
      · rw [List.foldl_cons]
        show List.foldl _ (Option.bind _ _) r = _
        simp only [Option.bind_some, hj]
        show List.foldl _ (some (owner.setIfInBounds j (some k), k + 1)) r = _
        rw [e', List.length_cons, Nat.add_right_comm, Nat.add_assoc k r.length 1]
      · rw [List.length_cons, Nat.add_comm r.length 1, ← Nat.add_assoc]; exact hp'
  obtain ⟨o', e', hs', hp'⟩ := key l (Array.replicate (mask + 1) none) 0 (by simp) (by
    have : ((Array.replicate (mask + 1) (none : Option Nat)).toList.filterMap id) = [] := by
      rw [List.filterMap_eq_nil_iff]; intro a ha; simp at ha; rw [ha]; rfl
    rw [this]; exact .refl _) (by simpa using hn)
  refine ⟨o', ?_, hs', by simpa using hp'⟩
  unfold SetTable.layClean
  have : ∀ {β : Type} (f : β → Int → β) (b : β), Array.foldl f b (⟨l⟩ : Array Int) 0 (⟨l⟩ : Array Int).size = l.foldl f b := fun f b => by rw [← Array.foldl_toList]
  rw [this, e']
  rfl
theorem laid_ok {mask : Nat} (h : okMask mask) (finger moves : Nat) (led plain : Bool) (es : Array (Int × Value)) (hn : es.size ≤ mask) :
    ∃ t order, SetTable.laid mask finger moves led plain (es.map (·.1)) = some (t, order) ∧ t.mask = mask ∧ t.dummies = #[] ∧ (order.filterMap (es[·]?)).toList.Perm es.toList ∧ t.fits es.size = true := by
  obtain ⟨o, e, hs, hp⟩ := layClean_ok h (es.map (·.1)) (by simpa using hn)
  unfold SetTable.laid
  rw [e]
  refine ⟨_, _, rfl, rfl, rfl, ?_, ?_⟩
  · have e1 : ((List.range (mask + 1)).filterMap fun j => (o.getD j none).map (j, ·)).map (·.2) = o.toList.filterMap id := by
      rw [List.map_filterMap, ← hs]
      have : ∀ (l : List (Option Nat)), (List.range l.length).filterMap (fun x => Option.map (fun y : Nat × Nat => y.2) (Option.map (fun y => (x, y)) (l[x]?.getD none))) = l.filterMap id := by
        intro l
        have e2 : (fun x => Option.map (fun y : Nat × Nat => y.2) (Option.map (fun y => (x, y)) (l[x]?.getD none))) = fun x => (l[x]?).bind id := by
          funext x
          cases l[x]? with
          | none => rfl
          | some v => cases v <;> rfl
        rw [e2, ← List.filterMap_filterMap, List.filterMap_getElem?_range_length]
      have := this o.toList
      simpa [Array.getD_eq_getD_getElem?] using this
    simp only [Array.toList_filterMap, e1]
    refine (hp.filterMap _).trans ?_
    rw [Array.size_map]
    rw [filterMap_getElem?_range]
  · have hl : ((List.range (mask + 1)).filterMap fun j => (o.getD j none).map (j, ·)).length = es.size := by
      have e1 : ((List.range (mask + 1)).filterMap fun j => (o.getD j none).map (j, ·)).map (·.2) = o.toList.filterMap id := by
        rw [List.map_filterMap, ← hs]
        have : ∀ (l : List (Option Nat)), (List.range l.length).filterMap (fun x => Option.map (fun y : Nat × Nat => y.2) (Option.map (fun y => (x, y)) (l[x]?.getD none))) = l.filterMap id := by
          intro l
          have e2 : (fun x => Option.map (fun y : Nat × Nat => y.2) (Option.map (fun y => (x, y)) (l[x]?.getD none))) = fun x => (l[x]?).bind id := by
            funext x
            cases l[x]? with
            | none => rfl
            | some v => cases v <;> rfl
          rw [e2, ← List.filterMap_filterMap, List.filterMap_getElem?_range_length]
        have := this o.toList
        simpa [Array.getD_eq_getD_getElem?] using this
      have := congrArg List.length e1
      rw [hp.length_eq] at this
      simpa using this
    simp only [SetTable.fits, SetTable.fill, List.size_toArray, List.length_map, hl, Array.size_empty, Nat.add_zero, beq_self_eq_true, Bool.true_and, decide_eq_true_eq]
    exact hn
end Mine
end

section
open PySem PySem.Calls PyProof.Rows
set_option Elab.async false
set_option linter.unusedVariables false
namespace Mine

theorem getElem_eraseIdx_perm {α : Type} : ∀ (l : List α) (i : Nat) (h : i < l.length), (l[i] :: l.eraseIdx i).Perm l
  | [], i, h => by simp at h
  | a :: r, 0, h => by simp
  | a :: r, i + 1, h => by
    have := getElem_eraseIdx_perm r i (by simpa using h)
    simp only [List.getElem_cons_succ, List.eraseIdx_cons_succ]
    exact (List.Perm.swap _ _ _).trans (this.cons a)
theorem pickOrder_go {α : Type} (next : Nat → Nat) : ∀ (fuel k : Nat) (left : List α) (out : Array α), left.length ≤ fuel → (pickOrder.go next fuel k left out).toList.Perm (out.toList ++ left) := by
  intro fuel
  induction fuel with
  | zero => intro k left out h; have : left = [] := List.eq_nil_of_length_eq_zero (by omega); subst this; simp [pickOrder.go]
  | succ n ih =>
    intro k left out h
    unfold pickOrder.go
    split
    · rename_i x hx
      have hlt := (List.getElem?_eq_some_iff.mp hx).1
      refine (ih _ _ _ (by rw [List.length_eraseIdx_of_lt hlt]; omega)).trans ?_
      rw [Array.toList_push, List.append_assoc]
      refine List.Perm.append_left _ ?_
      obtain ⟨_, e⟩ := List.getElem?_eq_some_iff.mp hx
      rw [List.singleton_append, ← e]
      exact getElem_eraseIdx_perm _ _ hlt
    · rename_i hx
      have : left = [] := by
        cases left with
        | nil => rfl
        | cons a r =>
          exfalso
          have : next k % (a :: r).length < (a :: r).length := Nat.mod_lt _ (by simp)
          rw [List.getElem?_eq_none_iff] at hx
          omega
      subst this; simp
theorem pickOrder_perm {α : Type} (next : Nat → Nat) (xs : Array α) : (pickOrder next xs).toList.Perm xs.toList := by
  unfold pickOrder
  simpa using pickOrder_go next xs.size 0 xs.toList #[] (by simp)

theorem setRelay_eq (a : Addr) (wanted : Nat) : setRelay a wanted = (do
    let (es, _, t) ← setState a
    if SetTable.sizeAbove wanted > sizeLine then unsupported "set:memory"
    let (es, t) ← (do
      let some (t, order) := t.relaid (es.map (·.1)) wanted | unsupported "internal:set-table-without-room"
      let es' := order.filterMap (es[·]?)
      if es'.size != es.size then unsupported "internal:set-table-lost-an-element"
      pure (es', t) : Sem (Array (Int × Value) × SetTable))
    storeSet a es t) := rfl
theorem setMerge_eq (s o : Addr) (each : Sem Unit) : setMerge s o each = (do
    if s == o then return
    let (eo, epoch, to) ← setState o
    if eo.isEmpty then return
    setRoomFor s eo.size
    let (_, _, ts) ← setState s
    match ts.road to with
    | .slotForSlot => storeSet s eo { to with finger := ts.finger, led := ts.led && to.led, moves := ts.moves, plain := ts.plain && to.plain }
    | .clean =>
      let (es, t) ← (do
        let some (t, order) := (SetTable.laid ts.mask ts.finger ts.moves (led := ts.led && to.led) (plain := ts.plain && to.plain) (eo.map (·.1))) | unsupported "internal:set-table-without-room"
        let es' := order.filterMap (eo[·]?)
        if es'.size != eo.size then unsupported "internal:set-table-lost-an-element"
        pure (es', t) : Sem (Array (Int × Value) × SetTable))
      storeSet s es t
    | .oneByOne =>
      for (h, x) in ← setWalkUnseen o [s] (some s) do
        let _ ← holding [x] (setAddHashed s x h)
        each
        if (← setState o).2.1 != epoch then unsupported "set.changed-during-merge") := rfl
theorem setWalk_eq (a : Addr) : setWalk a = (do
    let (es, epoch, t) ← setState a
    if ← setsByText then return pickOrder ((← ask).params.setOrder a epoch) es
    if (!t.plain && es.size > 1) then return (← drawOrder es.size es.toList).toArray
    (do if !t.led && es.size > 1 then unsupported "set:maker-not-led" : Sem Unit)
    return es) := rfl

section
variable {prog : Program} {w : World} {K : Type} [DecidableEq K] {knd : KeyKind prog w K} {A : Around} {E : Value → Shared → Prop} {s : Shared}

structure Tab (h : Heap) (a : Addr) (o : Obj) (es : Array (Int × Value)) (ep : Nat) (t : SetTable) : Prop where
  ho : h.get? a = some o
  ex : o.ExactSet
  dt : o.data = .set es ep t
  ft : t.fits es.size = true
theorem Tab.put {h : Heap} {a : Addr} {o : Obj} {es : Array (Int × Value)} {ep : Nat} {t : SetTable} (T : Tab h a o es ep t) (es' : Array (Int × Value)) (t' : SetTable) (hf : t'.fits es'.size = true) :
    Tab (h.update a (Obj.putSet es' t')) a { o with data := .set es' (ep + 1) t' } es' (ep + 1) t' := by
  refine ⟨?_, T.ex, rfl, hf⟩
  have := Heap.get?_update_self (Obj.putSet es' t') T.ho (by rw [putSet_of es' t' T.dt]; rfl)
  rw [putSet_of es' t' T.dt] at this; exact this
theorem Tab.other {h h' : Heap} {a b : Addr} {o : Obj} {es : Array (Int × Value)} {ep : Nat} {t : SetTable} (T : Tab h b o es ep t) (hs : Heap.SameBut a h h') (hne : b ≠ a) : Tab h' b o es ep t :=
  ⟨(hs.2 b hne).trans T.ho, T.ex, T.dt, T.ft⟩

theorem sizeAbove_ok : ∀ n, n < 31 → okMask (SetTable.sizeAbove n - 1) ∧ n ≤ SetTable.sizeAbove n - 1 ∧ SetTable.sizeAbove n ≤ sizeLine := by
  have : ∀ n, n < 31 → (SetTable.sizeAbove n - 1 = 7 ∨ SetTable.sizeAbove n - 1 = 15 ∨ SetTable.sizeAbove n - 1 = 31) ∧ n ≤ SetTable.sizeAbove n - 1 ∧ SetTable.sizeAbove n ≤ 32 := by decide +kernel
  intro n hn
  obtain ⟨h1, h2, h3⟩ := this n hn
  exact ⟨h1, h2, by rw [sizeLine_eq]; omega⟩

theorem setRelay_of {a : Addr} {o : Obj} {es : Array (Int × Value)} {ep : Nat} {t : SetTable} {wanted : Nat} {Q : Unit → Shared → Prop} (T : Tab s.heap a o es ep t) (hw : wanted < 31) (hn : es.size ≤ wanted)
    (h : ∀ h' o' ep' es' t', Heap.SameBut a s.heap h' → es'.toList.Perm es.toList → okMask t'.mask → wanted ≤ t'.mask → t'.dummies = #[] → Tab h' a o' es' ep' t' → Q () { s with heap := h' }) :
    wpAny (model prog w) A (setRelay a wanted) Q E s := by
  obtain ⟨h1, h2, h3⟩ := sizeAbove_ok wanted hw
  rw [setRelay_eq]
  refine wpAny_bind (wpAny_setState_of T.ho T.dt T.ft ?_)
  dsimp only
  rw [if_neg (by omega)]
  obtain ⟨t', order, e, hm, hd, hp, hf⟩ := laid_ok h1 t.finger (t.movedTo (SetTable.sizeAbove wanted - 1)) t.led t.plain es (by omega)
  unfold SetTable.relaid
  rw [e]
  dsimp only
  have hsz : (order.filterMap (es[·]?)).size = es.size := by rw [← Array.length_toList, hp.length_eq, Array.length_toList]
  refine wpAny_bind ?_
  rw [if_neg (by simp [hsz])]
  refine wpAny_bind (wpAny_pure (wpAny_pure ?_))
  dsimp only
  refine wpAny_storeSet_of T.ho T.dt ?_ (by rw [hsz, sizeLine_eq]; omega)
  exact h _ _ _ _ t' (Heap.SameBut.update s.heap a _) hp (by rw [hm]; exact h1) (by omega) hd (T.put _ _ (by rw [hsz]; exact hf))

theorem setRoomFor_of {a : Addr} {o : Obj} {es : Array (Int × Value)} {ep : Nat} {t : SetTable} {more : Nat} {Q : Unit → Shared → Prop} (T : Tab s.heap a o es ep t) (hw : es.size + more ≤ 15) (hk : okMask t.mask)
    (h : ∀ h' o' ep' es' t', Heap.SameBut a s.heap h' → es'.toList.Perm es.toList → okMask t'.mask → more ≤ t'.mask → (t'.dummies = #[] ∨ t'.dummies = t.dummies) → Tab h' a o' es' ep' t' → Q () { s with heap := h' }) :
    wpAny (model prog w) A (setRoomFor a more) Q E s := by
  unfold setRoomFor
  refine wpAny_bind (wpAny_setState_of T.ho T.dt T.ft ?_)
  dsimp only
  have hps : t.place.size = es.size := by have := T.ft; simp [SetTable.fits] at this; exact this.1
  cases e : t.roomFor more with
  | none =>
    refine wpAny_pure ?_
    have : more ≤ t.mask := by
      unfold SetTable.roomFor at e
      split at e
      · cases e
      · omega
    have := h s.heap o ep es t (Heap.SameBut.refl a s.heap) (.refl _) hk this (.inr rfl) T
    exact this
  | some wanted =>
    have hwd : wanted = (es.size + more) * 2 := by
      unfold SetTable.roomFor at e
      split at e
      · cases e; rw [hps]
      · cases e
    exact setRelay_of T (by omega) (by omega) fun h' o' ep' es' t' g1 g2 g3 g4 g5 g6 => h h' o' ep' es' t' g1 g2 g3 (by omega) (.inl g5) g6

theorem setsQuiet_of {prog : Program} {w : World} {A : Around} {E : Value → Shared → Prop} {s : Shared} {Q : Bool → Shared → Prop} {l : List Addr} (hl : ∀ a, a ∈ l → ∃ o es ep t, Tab s.heap a o es ep t ∧ ∀ e ∈ es.toList, e.2.scannable = true)
    (h : Q true s) : wpAny (model prog w) A (setsQuiet l) Q E s := by
  unfold setsQuiet
  refine wpAny_bind ?_
  refine wpAny_forIn_list _ (fun rest b s' => s' = s ∧ b.1 = none ∧ ∀ a, a ∈ rest → ∃ o es ep t, Tab s.heap a o es ep t ∧ ∀ e ∈ es.toList, e.2.scannable = true) _ ?_ ?_ _ _ ⟨rfl, rfl, hl⟩
  · rintro a rest b s' ⟨rfl, hb, hr⟩
    obtain ⟨o, es, ep, t, T, hsc⟩ := hr a List.mem_cons_self
    refine wpAny_bind (wpAny_setEntries_of T.ho T.dt T.ft ?_)
    refine wpAny_bind ?_
    refine wpAny_forIn_array' _ (fun rest' b' s'' => s'' = s' ∧ b'.1 = none ∧ ∀ e ∈ rest', e.2.scannable = true) _ ?_ ?_ _ _ ⟨rfl, rfl, hsc⟩
    · rintro ⟨hh, x⟩ rest' b' s'' ⟨rfl, hb', hr'⟩
      have hx := hr' _ List.mem_cons_self
      have hr'' : ∀ e ∈ rest', e.2.scannable = true := fun e he => hr' e (List.mem_cons_of_mem _ he)
      dsimp only at hx ⊢
      cases x <;> first | (simp [Value.scannable] at hx; done) | exact wpAny_pure ⟨rfl, rfl, hr''⟩
    · rintro ⟨b1, b2⟩ s'' ⟨rfl, hb', _⟩
      cases hb'
      exact wpAny_pure ⟨rfl, rfl, fun a ha => hr a (List.mem_cons_of_mem _ ha)⟩
  · rintro ⟨b1, b2⟩ s' ⟨rfl, hb, _⟩
    cases hb
    exact wpAny_pure h

theorem setWalk_of {a : Addr} {o : Obj} {es : Array (Int × Value)} {ep : Nat} {t : SetTable} {Q : Array (Int × Value) → Shared → Prop} (T : Tab s.heap a o es ep t)
    (hc : w.params.followText "set-order" = true ∨ (t.led = true ∧ t.plain = true) ∨ es.size ≤ 1) (h : ∀ L : Array (Int × Value), L.toList.Perm es.toList → Q L s) : wpAny (model prog w) A (setWalk a) Q E s := by
  rw [setWalk_eq]
  refine wpAny_bind (wpAny_setState_of T.ho T.dt T.ft ?_)
  dsimp only
  unfold setsByText
  refine wpAny_bind (wpAny_bind (wpAny_askSetting (wpAny_pure ?_)))
  dsimp only
  show wpAny _ _ (if w.params.followText "set-order" = true then _ else _) _ _ _
  by_cases ht : w.params.followText "set-order" = true
  · rw [if_pos ht]
    refine wpAny_bind (wpAny_askSetting (wpAny_pure ?_))
    exact h _ (pickOrder_perm _ _)
  · rw [if_neg ht]
    have hc' := hc.resolve_left ht
    have h1 : (!t.plain && decide (es.size > 1)) = false := by
      rcases hc' with ⟨_, hp⟩ | hs
      · simp [hp]
      · simp; omega
    have h2 : (!t.led && decide (es.size > 1)) = false := by
      rcases hc' with ⟨hl, _⟩ | hs
      · simp [hl]
      · simp; omega
    rw [h1, h2]
    simp only [Bool.false_eq_true, if_false]
    refine wpAny_bind (wpAny_pure ?_)
    exact wpAny_bind (wpAny_pure (wpAny_pure (h _ (.refl _))))

theorem setWalkUnseen_of {a b : Addr} {o oa : Obj} {es ea : Array (Int × Value)} {ep epa : Nat} {t ta : SetTable} {Q : Array (Int × Value) → Shared → Prop} (T : Tab s.heap b o es ep t) (Ta : Tab s.heap a oa ea epa ta) (hne : b ≠ a)
    (hs : ∀ e ∈ es.toList, e.2.scannable = true) (hsa : ∀ e ∈ ea.toList, e.2.scannable = true) (hz : ea.size ≤ sizeLine)
    (h : ∀ L h' oa' epa' ta', L.toList.Perm es.toList → Heap.SameBut a s.heap h' → Tab h' a oa' ea epa' ta' → ta'.mask = ta.mask → Q L { s with heap := h' }) : wpAny (model prog w) A (setWalkUnseen b [a] (some a)) Q E s := by
  unfold setWalkUnseen
  refine wpAny_bind (wpAny_setState_of T.ho T.dt T.ft ?_)
  dsimp only
  unfold setsByText
  refine wpAny_bind (wpAny_bind (wpAny_askSetting (wpAny_pure ?_)))
  dsimp only
  show wpAny _ _ (if (w.params.followText "set-order" || _ || _) = true then _ else _) _ _ _
  have hkeep : ∀ L : Array (Int × Value), L.toList.Perm es.toList → Q L s := fun L p => h L s.heap oa epa ta p (Heap.SameBut.refl a s.heap) Ta rfl
  split
  · rename_i hc
    refine setWalk_of T ?_ fun L p => hkeep L p
    simp only [Bool.or_eq_true, Bool.and_eq_true, decide_eq_true_eq] at hc
    rcases hc with (hc | hc) | hc
    · exact .inl hc
    · exact .inr (.inl hc)
    · exact .inr (.inr hc)
  · refine wpAny_bind (setsQuiet_of (fun c hc => ?_) ?_)
    · rcases List.mem_cons.mp hc with rfl | hc
      · exact ⟨o, es, ep, t, T, hs⟩
      · rw [List.mem_singleton] at hc; subst hc; exact ⟨oa, ea, epa, ta, Ta, hsa⟩
    simp only [Bool.not_true, Bool.false_eq_true, if_false]
    refine wpAny_bind (wpAny_rule ?_)
    refine wpAny_bind (wpAny_setState_of Ta.ho Ta.dt Ta.ft ?_)
    dsimp only
    split
    · refine wpAny_bind (wpAny_storeSet_of Ta.ho Ta.dt ?_ hz)
      refine wpAny_pure ?_
      exact h es _ _ _ _ (.refl _) (Heap.SameBut.update s.heap a _) (Ta.put _ _ (by have := Ta.ft; exact this)) rfl
    · exact wpAny_pure (hkeep es (.refl _))
end
end Mine
end

section
open PySem PySem.Calls PyProof.Rows
set_option Elab.async false
set_option linter.unusedVariables false
namespace Mine

inductive F2 {α β : Type} (R : α → β → Prop) : List α → List β → Prop
  | nil : F2 R [] []
  | cons {a b l k} : R a b → F2 R l k → F2 R (a :: l) (b :: k)
theorem elems_mem {l : List Str} {x : Str} : elems l x = true ↔ x ∈ l := by
  unfold elems
  rw [List.any_eq_true]
  constructor
  · rintro ⟨y, hy, e⟩; rw [eqb_iff.mp e]; exact hy
  · intro h; exact ⟨x, h, eqb_refl x⟩
theorem elems_false {l : List Str} {x : Str} : elems l x = false ↔ x ∉ l := by
  rw [← Bool.not_eq_true, elems_mem]
theorem unionS_cons (ks : List Str) (x : Str) (r : List Str) : unionS ks (x :: r) = unionS (addS ks x) r := rfl
theorem mem_addS {ks : List Str} {x y : Str} : y ∈ addS ks x ↔ y ∈ ks ∨ y = x := by
  unfold addS
  split
  · rename_i h; have := elems_mem.mp h
    exact ⟨.inl, fun h => h.elim id fun e => e ▸ this⟩
  · simp
theorem unionS_spec : ∀ (L ks : List Str), ∃ D, unionS ks L = ks ++ D ∧ D.Nodup ∧ ∀ x, x ∈ D ↔ x ∈ L ∧ x ∉ ks
  | [], ks => ⟨[], by simp [unionS], List.nodup_nil, fun x => by simp⟩
  | a :: r, ks => by
    rw [unionS_cons]
    obtain ⟨D, e, nd, hm⟩ := unionS_spec r (addS ks a)
    cases h : elems ks a with
    | true =>
      have ha : addS ks a = ks := by simp [addS, h]
      rw [ha] at e hm
      refine ⟨D, by rw [ha]; exact e, nd, fun x => ?_⟩
      rw [hm]
      constructor
      · rintro ⟨h1, h2⟩; exact ⟨List.mem_cons_of_mem _ h1, h2⟩
      · rintro ⟨h1, h2⟩
        rcases List.mem_cons.mp h1 with rfl | h1
        · exact absurd (elems_mem.mp h) h2
        · exact ⟨h1, h2⟩
    | false =>
      have ha : addS ks a = ks ++ [a] := by simp [addS, h]
      have hna := elems_false.mp h
      rw [ha] at e hm
      refine ⟨a :: D, by rw [ha, e]; simp, List.nodup_cons.mpr ⟨fun q => ((hm a).mp q).2 (by simp), nd⟩, fun x => ?_⟩
      rw [List.mem_cons, hm]
      simp only [List.mem_append, List.mem_singleton, List.mem_cons]
      constructor
      · rintro (rfl | ⟨h1, h2⟩)
        · exact ⟨.inl rfl, hna⟩
        · exact ⟨.inr h1, fun q => h2 (.inl q)⟩
      · rintro ⟨h1, h2⟩
        by_cases hx : x = a
        · exact .inl hx
        · exact .inr ⟨h1.resolve_left hx, fun q => q.elim h2 (by simpa using hx)⟩
theorem mem_unionS {ks L : List Str} {x : Str} : x ∈ unionS ks L ↔ x ∈ ks ∨ x ∈ L := by
  obtain ⟨D, e, _, hm⟩ := unionS_spec L ks
  rw [e, List.mem_append, hm]
  by_cases h : x ∈ ks <;> simp [h]
theorem unionS_nodup {ks L : List Str} (h : ks.Nodup) : (unionS ks L).Nodup := by
  obtain ⟨D, e, nd, hm⟩ := unionS_spec L ks
  rw [e]
  exact List.nodup_append.mpr ⟨h, nd, fun a ha b hb q => ((hm b).mp hb).2 (q ▸ ha)⟩
theorem nodup_perm : ∀ {a b : List Str}, a.Nodup → b.Nodup → (∀ x, x ∈ a ↔ x ∈ b) → a.Perm b
  | [], b, _, _, h => by
    have : b = [] := List.eq_nil_iff_forall_not_mem.mpr fun x hx => by simpa using (h x).mpr hx
    rw [this]
  | x :: r, b, ha, hb, h => by
    have hx : x ∈ b := (h x).mp List.mem_cons_self
    obtain ⟨hxr, hr⟩ := List.nodup_cons.mp ha
    refine ((nodup_perm hr (hb.erase x) fun y => ?_).cons x).trans (List.perm_cons_erase hx).symm
    rw [hb.mem_erase_iff, ← h y, List.mem_cons]
    constructor
    · intro hy; exact ⟨fun q => hxr (q ▸ hy), .inr hy⟩
    · rintro ⟨h1, h2⟩; exact h2.resolve_left h1
theorem unionS_len {ks L L' : List Str} (h : ∀ x, x ∈ L ↔ x ∈ L') : (unionS ks L).length = (unionS ks L').length := by
  obtain ⟨D, e, nd, hm⟩ := unionS_spec L ks
  obtain ⟨D', e', nd', hm'⟩ := unionS_spec L' ks
  rw [e, e', List.length_append, List.length_append, (nodup_perm nd nd' fun x => by rw [hm, hm', h]).length_eq]
theorem unionS_self_len {ks L : List Str} (h : ∀ x, x ∈ L → x ∈ ks) : unionS ks L = ks := by
  obtain ⟨D, e, nd, hm⟩ := unionS_spec L ks
  have : D = [] := List.eq_nil_iff_forall_not_mem.mpr fun x hx => ((hm x).mp hx).2 (h x ((hm x).mp hx).1)
  rw [e, this, List.append_nil]
theorem elems_congr {a b : List Str} (h : ∀ x, x ∈ a ↔ x ∈ b) (x : Str) : elems a x = elems b x := by
  rw [Bool.eq_iff_iff, elems_mem, elems_mem, h]
theorem unionS_le : ∀ (L ks : List Str), (unionS ks L).length ≤ ks.length + L.length
  | [], ks => by simp [unionS]
  | x :: r, ks => by
    rw [unionS_cons]
    have := unionS_le r (addS ks x)
    have : (addS ks x).length ≤ ks.length + 1 := by unfold addS; split <;> simp
    simp only [List.length_cons]; omega

section
variable {prog : Program} {w : World} {A : Around} {E : Value → Shared → Prop} {s : Shared}

noncomputable def KA (prog : Program) (w : World) (e : Int × Value) (k : Str) : Prop := (strKind prog w).is k e.2 = true ∧ e.1 = (strKind prog w).hash k ∧ e.2.scannable = true
noncomputable def SU (prog : Program) (w : World) (h : Heap) (a : Addr) (ks : List Str) (P : SetTable → Prop) : Prop :=
  ∃ o es ep t, Tab h a o es ep t ∧ ElemsOf (strKind prog w) es.toList ∧ (∀ k, elems ks k = true ↔ ∃ e ∈ es.toList, (strKind prog w).is k e.2 = true) ∧ es.size = ks.length ∧ es.size < scanBound ∧ P t
theorem SU.cru {h : Heap} {a : Addr} {ks : List Str} {P : SetTable → Prop} (S : SU prog w h a ks P) (nd : ks.Nodup) : CRu prog w h ks a :=
  let ⟨o, es, ep, t, T, h1, h2, h3, h4, _⟩ := S
  ⟨⟨o, es, ep, t, T.ho, T.ex, T.dt, h1, h2, h4, T.ft, h3⟩, nd⟩
theorem SU.ofSet {h : Heap} {a : Addr} {ks : List Str} (S : h.SetOf (strKind prog w) a (fun x => elems ks x) ks.length) : SU prog w h a ks fun _ => True :=
  let ⟨o, es, ep, t, ho, ex, dt, h1, h2, h4, ft, h3⟩ := S
  ⟨o, es, ep, t, ⟨ho, ex, dt, ft⟩, h1, h2, h3, h4, trivial⟩
theorem SU.mono {h : Heap} {a : Addr} {ks : List Str} {P P' : SetTable → Prop} (S : SU prog w h a ks P) (f : ∀ t, P t → P' t) : SU prog w h a ks P' :=
  let ⟨o, es, ep, t, T, h1, h2, h3, h4, p⟩ := S
  ⟨o, es, ep, t, T, h1, h2, h3, h4, f _ p⟩
noncomputable def good (t : SetTable) : Prop := okMask t.mask ∧ t.dummies = #[]
theorem SU.nil {h : Heap} {a : Addr} {o : Obj} {ep : Nat} {t : SetTable} {P : SetTable → Prop} (T : Tab h a o #[] ep t) (p : P t) : SU prog w h a [] P :=
  ⟨o, #[], ep, t, T, fun e he => by simp at he, fun k => by simp [elems], rfl, by decide, p⟩
/-- the keys that an order of entries shows -/
theorem keysAre {l : List (Int × Value)} (h : ElemsOf (strKind prog w) l) : ∃ kl : List Str, F2 (KA prog w) l kl := by
  induction l with
  | nil => exact ⟨[], .nil⟩
  | cons e r ih =>
    obtain ⟨⟨k, hk, hh⟩, hs⟩ := h.head
    obtain ⟨kl, hkl⟩ := ih h.tail
    exact ⟨k :: kl, .cons ⟨hk, hh, hs⟩ hkl⟩
theorem keys_mem {l : List (Int × Value)} {kl : List Str} (h : F2 (KA prog w) l kl) (x : Str) :
    x ∈ kl ↔ ∃ e ∈ l, (strKind prog w).is x e.2 = true := by
  induction h with
  | nil => simp
  | @cons e k l kl hd _ ih =>
    rw [List.mem_cons, ih]
    constructor
    · rintro (rfl | ⟨e', h1, h2⟩)
      · exact ⟨e, List.mem_cons_self, hd.1⟩
      · exact ⟨e', List.mem_cons_of_mem _ h1, h2⟩
    · rintro ⟨e', h1, h2⟩
      rcases List.mem_cons.mp h1 with rfl | h1
      · exact .inl ((strKind prog w).inj _ _ _ h2 hd.1)
      · exact .inr ⟨e', h1, h2⟩
theorem forall2_len {α β : Type} {R : α → β → Prop} {l : List α} {k : List β} (h : F2 R l k) : l.length = k.length := by
  induction h with
  | nil => rfl
  | cons _ _ ih => simp [ih]

theorem merge_of {a b : Addr} {ks ks' : List Str} {each : Sem Unit} {Q : Unit → Shared → Prop} (hab : b ≠ a) (Sa : SU prog w s.heap a ks good) (Sb : SU prog w s.heap b ks' fun _ => True) (nd' : ks'.Nodup) (h15 : ks.length + ks'.length ≤ 15)
    (heach : ∀ h1 (Q' : Unit → Shared → Prop), Heap.SameBut a s.heap h1 → Q' () { s with heap := h1 } → wpAny (model prog w) A each Q' E { s with heap := h1 })
    (h : ∀ h', Heap.SameBut a s.heap h' → SU prog w h' a (unionS ks ks') (fun t => ks = [] → good t) → Q () { s with heap := h' }) : wpAny (model prog w) A (setMerge a b each) Q E s := by
  obtain ⟨oa, ea, epa, ta, Ta, hea, hma, hsa, hba, hok, hdum⟩ := Sa
  obtain ⟨ob, eb, epb, tb, Tb, heb, hmb, hsb, hbb, _⟩ := Sb
  rw [setMerge_eq]
  rw [if_neg (by simpa using fun q : a = b => hab q.symm)]
  refine wpAny_bind (wpAny_setState_of Tb.ho Tb.dt Tb.ft ?_)
  dsimp only
  by_cases hem : eb.isEmpty = true
  · rw [if_pos hem]
    have hk : ks' = [] := by
      have : eb.size = 0 := by simpa using hem
      exact List.eq_nil_of_length_eq_zero (by omega)
    subst hk
    exact wpAny_pure (h s.heap (Heap.SameBut.refl a s.heap) ⟨oa, ea, epa, ta, Ta, hea, hma, hsa, hba, fun _ => ⟨hok, hdum⟩⟩)
  rw [if_neg hem]
  refine wpAny_bind (setRoomFor_of Ta (by omega) hok fun h1 o1 ep1 es1 t1 sb1 pm1 hok1 hmore hd1 T1 => ?_)
  have hsz1 : es1.size = ea.size := by rw [← Array.length_toList, pm1.length_eq, Array.length_toList]
  have hd1' : t1.dummies = #[] := hd1.elim id fun q => q.trans hdum
  have he1 : ElemsOf (strKind prog w) es1.toList := hea.perm pm1
  have hm1 : ∀ k, elems ks k = true ↔ ∃ e ∈ es1.toList, (strKind prog w).is k e.2 = true := fun k => (hma k).trans ⟨fun ⟨e, he, q⟩ => ⟨e, pm1.mem_iff.mpr he, q⟩, fun ⟨e, he, q⟩ => ⟨e, pm1.mem_iff.mp he, q⟩⟩
  have Tb1 : Tab h1 b ob eb epb tb := Tb.other sb1 hab
  refine wpAny_bind (wpAny_setState_of (s := { s with heap := h1 }) T1.ho T1.dt T1.ft ?_)
  dsimp only
  have hps : t1.place.size = es1.size := by have := T1.ft; simp [SetTable.fits] at this; exact this.1
  have hfill : t1.fill = ks.length := by simp [SetTable.fill, hd1', hps, hsz1, hsa]
  -- the roads by which the target is new
  have hnew : ∀ (es2 : Array (Int × Value)) (t2 : SetTable), ks = [] → es2.toList.Perm eb.toList → t2.fits es2.size = true → good t2 → SU prog w (h1.update a (Obj.putSet es2 t2)) a (unionS ks ks') fun t => ks = [] → good t := by
    intro es2 t2 hk pm hf hg
    subst hk
    have hsz2 : es2.size = eb.size := by rw [← Array.length_toList, pm.length_eq, Array.length_toList]
    have hl : (unionS [] ks').length = ks'.length := by
      obtain ⟨D, e, nd, hm⟩ := unionS_spec ks' []
      rw [e, List.nil_append]
      exact (nodup_perm nd nd' fun x => by rw [hm]; simp).length_eq
    refine ⟨_, es2, _, t2, T1.put es2 t2 hf, heb.perm pm, fun k => ?_, by rw [hsz2, hsb, hl], by rw [hsz2]; exact hbb, fun _ => hg⟩
    rw [elems_congr (b := ks') (fun x => by rw [mem_unionS]; simp) k, hmb]
    exact ⟨fun ⟨e, he, q⟩ => ⟨e, pm.mem_iff.mpr he, q⟩, fun ⟨e, he, q⟩ => ⟨e, pm.mem_iff.mp he, q⟩⟩
  split
  · rename_i hr
    unfold SetTable.road at hr
    split at hr
    · cases hr
    · rename_i hf0
      split at hr
      · rename_i hc
        simp only [Bool.and_eq_true, beq_iff_eq] at hc
        have hk : ks = [] := List.eq_nil_of_length_eq_zero (by rw [hfill] at hf0; simpa using hf0)
        refine wpAny_storeSet_of T1.ho T1.dt ?_ (by rw [sizeLine_eq]; omega)
        have hde : tb.dummies = #[] := by simpa using hc.2
        exact h _ (sb1.trans (Heap.SameBut.update _ a _)) (hnew eb _ hk (.refl _) (by have := Tb.ft; exact this) ⟨by show okMask tb.mask; rw [← hc.1]; exact hok1, hde⟩)
      · cases hr
  · rename_i hr
    unfold SetTable.road at hr
    split at hr
    · cases hr
    · rename_i hf0
      have hk : ks = [] := List.eq_nil_of_length_eq_zero (by rw [hfill] at hf0; simpa using hf0)
      obtain ⟨t2, order, e, hm2, hd2, hp2, hf2⟩ := laid_ok hok1 t1.finger t1.moves (t1.led && tb.led) (t1.plain && tb.plain) eb hmore
      rw [e]
      dsimp only
      have hsz : (order.filterMap (eb[·]?)).size = eb.size := by rw [← Array.length_toList, hp2.length_eq, Array.length_toList]
      refine wpAny_bind ?_
      rw [if_neg (by simp [hsz])]
      refine wpAny_pure ?_
      dsimp only
      refine wpAny_storeSet_of T1.ho T1.dt ?_ (by rw [hsz, sizeLine_eq]; omega)
      exact h _ (sb1.trans (Heap.SameBut.update _ a _)) (hnew _ t2 hk hp2 (by rw [hsz]; exact hf2) ⟨by rw [hm2]; exact hok1, hd2⟩)
  · rename_i hr
    have hk : ks ≠ [] := by
      rintro rfl
      unfold SetTable.road at hr
      rw [hfill] at hr
      simp at hr
      split at hr <;> cases hr
    refine wpAny_bind (setWalkUnseen_of (s := { s with heap := h1 }) Tb1 T1 hab (fun e he => (heb e he).2) (fun e he => (he1 e he).2) (by rw [sizeLine_eq]; omega) fun L h2 o2 ep2 t2 pL sb2 T2 _ => ?_)
    have sb02 := sb1.trans sb2
    obtain ⟨kl, hkl⟩ := keysAre (heb.perm pL)
    have hmem : ∀ x, x ∈ kl ↔ x ∈ ks' := fun x => by
      rw [keys_mem hkl, ← elems_mem (l := ks'), hmb]
      exact ⟨fun ⟨e, he, q⟩ => ⟨e, pL.mem_iff.mp he, q⟩, fun ⟨e, he, q⟩ => ⟨e, pL.mem_iff.mpr he, q⟩⟩
    have hkll : kl.length = ks'.length := by rw [← forall2_len hkl, pL.length_eq, Array.length_toList, hsb]
    refine wpAny_bind ?_
    refine wpAny_forIn_array' _ (fun rest _ s' => ∃ h3 cur kr, s' = { s with heap := h3 } ∧ Heap.SameBut a s.heap h3 ∧ h3.SetOf (strKind prog w) a (fun x => elems cur x) cur.length ∧ F2 (KA prog w) rest kr ∧ unionS cur kr = unionS ks kl ∧ cur.length + kr.length ≤ 15) _ ?_ ?_ _ _ ⟨h2, ks, kl, rfl, sb02, ⟨_, _, _, _, T2.ho, T2.ex, T2.dt, he1, hm1, by omega, T2.ft, by omega⟩, hkl, rfl, by omega⟩
    · rintro ⟨hh, x⟩ rest u s' ⟨h3, cur, kr, rfl, sb3, S3, hf3, hu, hlen⟩
      obtain ⟨k, kr, rfl, ⟨hx, rfl, hsc⟩, hf5⟩ : ∃ k kr', kr = k :: kr' ∧ ((strKind prog w).is k x = true ∧ hh = (strKind prog w).hash k ∧ x.scannable = true) ∧ F2 (KA prog w) rest kr' := by
        cases hf3 with | cons a b => exact ⟨_, _, rfl, a, b⟩
      simp only [List.length_cons] at hlen
      dsimp only
      refine wpAny_bind (wpAny_holding (wpAny_setAddHashed_of (s := { s with heap := h3 }) hx hsc S3 (by unfold scanBound; omega) fun h4 sb4 S4 => ?_))
      have sb04 := sb3.trans sb4
      refine wpAny_bind (heach h4 _ sb04 ?_)
      have Tb4 := Tb.other sb04 hab
      refine wpAny_bind (wpAny_setState_of (s := { s with heap := h4 }) Tb4.ho Tb4.dt Tb4.ft ?_)
      dsimp only
      rw [if_neg (by simp)]
      refine wpAny_pure ?_
      refine ⟨h4, addS cur k, kr, rfl, sb04, SetOf_congr S4 (fun k' => ?_) ?_, hf5, by rw [← hu]; rfl, ?_⟩
      · rw [Bool.eq_iff_iff, Bool.or_eq_true, decide_eq_true_eq, elems_mem, elems_mem, mem_addS]
      · unfold addS; split <;> simp
      · have : (addS cur k).length ≤ cur.length + 1 := by unfold addS; split <;> simp
        omega
    · rintro u s' ⟨h3, cur, kr, rfl, sb3, S3, hf3, hu, hlen⟩
      cases hf3
      refine wpAny_pure (h h3 sb3 ?_)
      have hcur : cur = unionS ks kl := hu
      subst hcur
      refine SU.mono (SU.ofSet (SetOf_congr S3 (fun k => elems_congr (fun x => by rw [mem_unionS, mem_unionS, hmem]) k) (unionS_len hmem))) fun t _ q => absurd q hk
end
end Mine
end

section
open PySem PySem.Calls PyProof.Rows
set_option Elab.async false
set_option linter.unusedVariables false
namespace Mine
theorem entry_set_or : entryFor table "set.__or__" = some Builtin.«frozenset.__or__» :=
  entryFor_alias (id' := "frozenset.__or__") (by kernel_rfl) rfl (by decide +kernel) (by kernel_rfl)
theorem entry_set_ne : entryFor table "set.__ne__" = some Builtin.«frozenset.__ne__» :=
  entryFor_alias (id' := "frozenset.__ne__") (by kernel_rfl) rfl (by decide +kernel) (by kernel_rfl)

section
variable {prog : Program} {w : World} {A : Around} {E : Value → Shared → Prop} {s : Shared} {B : Heap}

theorem isAnySet_of {M : Model} {v : Value} {Q : Bool → Shared → Prop} (hT : s.TypeIs v "set") (h : Q true s) : wpAny M A (Builtin.Frozenset.isAnySet v) Q E s := by
  unfold Builtin.Frozenset.isAnySet
  refine wpAny_bind (wpAny_isInstance hT sub_set_self ?_)
  exact wpAny_pure h
theorem CRu.typeIs {ks : List Str} {a : Addr} (c : CRu prog w s.heap ks a) : s.TypeIs (.ref a) "set" := Heap.SetOf.typeIs c.1
theorem newSet_su {Q : Value → Shared → Prop} (h : ∀ h', s.heap.StaysIn h' → SU prog w h' s.heap.objs.size [] good → Q (.ref s.heap.objs.size) { s with heap := h' }) :
    wpAny (model prog w) A (newSet (.type "set")) Q E s := by
  refine wpAny_newSet_of (knd := strKind prog w) fun led _ => ?_
  refine h _ (push_stays _ _) (SU.nil (ep := 0) (t := .fresh 0 0 led) ⟨Heap.get?_push_size _ rfl, ⟨rfl, rfl, rfl⟩, rfl, rfl⟩ ⟨.inl rfl, rfl⟩)
theorem copyOf_of {a : Addr} {ks : List Str} {Q : Value → Shared → Prop} (c : CRu prog w s.heap ks a) (h15 : ks.length ≤ 15)
    (h : ∀ h', s.heap.StaysIn h' → SU prog w h' s.heap.objs.size ks good → Q (.ref s.heap.objs.size) { s with heap := h' }) : wpAny (model prog w) A (Builtin.Frozenset.copyOf a) Q E s := by
  unfold Builtin.Frozenset.copyOf Builtin.Frozenset.baseOf
  refine wpAny_bind ?_
  refine wpAny_bind (wpAny_isInstance c.typeIs sub_set_self ?_)
  refine wpAny_pure ?_
  simp only [if_true]
  refine wpAny_bind (newSet_su fun h' k S => ?_)
  refine wpAny_bind ?_
  unfold Builtin.Frozenset.addrOf
  refine wpAny_pure ?_
  have hlt : a ≠ s.heap.objs.size := by
    obtain ⟨⟨o, _, _, _, ho, _⟩, _⟩ := c
    exact Nat.ne_of_lt (Heap.lt_size ho)
  have c' : CRu prog w h' ks a := c.keeps fun o e => k _ _ e
  refine wpAny_bind (merge_of (s := { s with heap := h' }) hlt S (SU.ofSet c'.1) c'.2 (by simpa using h15) (fun h1 Q' _ q => wpAny_pure q) fun h'' sb S' => ?_)
  refine wpAny_pure ?_
  refine h h'' (fun b o e => (sb.2 b (Nat.ne_of_lt (Heap.lt_size e))).trans (k b o e)) ?_
  have hl : (unionS [] ks).length = ks.length := by
    obtain ⟨D, e, nd, hm⟩ := unionS_spec ks []
    rw [e, List.nil_append]
    exact (nodup_perm nd c.2 fun x => by rw [hm]; simp).length_eq
  obtain ⟨o, es, ep, t, T, g1, g2, g3, g4, g5⟩ := S'
  refine ⟨o, es, ep, t, T, g1, fun k => ?_, g3.trans hl, g4, g5 rfl⟩
  rw [← g2, ← elems_congr (a := unionS [] ks) (fun x => by rw [mem_unionS]; simp) k]
theorem or_of {a b : Addr} {ks ks' : List Str} {Q : Value → Shared → Prop} (Sa : CRu prog w s.heap ks a) (Sb : CRu prog w s.heap ks' b) (h15 : ks.length + ks'.length ≤ 15)
    (hQ : PQ prog w B s (.u (unionS ks ks')) Q) : wpAny (model prog w) A (binaryOp .BitOr (.ref a) (.ref b)) Q E s := by
  refine wpAny_binaryOp_same Sa.typeIs Sb.typeIs F.fills_set_or F.slot_set_or (wpAny_call_entry F.slot_set_or Sa.typeIs entry_set_or ?_ (F.args_set_or_2 _ _))
  show wpAny _ _ (Builtin.Frozenset.slot1 "__or__" _ >>= _) _ _ _
  unfold Builtin.Frozenset.slot1 slotArgs
  refine wpAny_bind (wpAny_pure ?_)
  dsimp only
  simp only [Bool.false_eq_true, if_false]
  refine wpAny_bind ?_
  unfold andM
  refine wpAny_bind (isAnySet_of Sa.typeIs ?_)
  refine isAnySet_of Sb.typeIs ?_
  simp only [Bool.not_true, Bool.false_eq_true, if_false]
  unfold Builtin.Frozenset.addrOf
  refine wpAny_bind (wpAny_pure ?_)
  refine wpAny_bind ?_
  have hfin : ∀ h', s.heap.StaysIn h' → CRu prog w h' (unionS ks ks') s.heap.objs.size → Q (.ref s.heap.objs.size) { s with heap := h' } := fun h' k c =>
    hQ _ _ ⟨h', s.toks, rfl⟩ k fun B' n => ⟨_, rfl, c.keeps fun o e => n.2 _ _ (size_none _) e⟩
  show wpAny _ _ (Builtin.Frozenset.copyOf a >>= fun result => (do
    if Value.ref b != .ref a then holding [result] (Builtin.Frozenset.updateFrom _ (← Builtin.Frozenset.addrOf result) (.ref b))
    return result)) _ _ _
  refine wpAny_bind (copyOf_of Sa (by omega) fun h' k S => ?_)
  dsimp only
  by_cases hab : b = a
  · subst hab
    rw [if_neg (by simp)]
    refine wpAny_pure (wpAny_pure ⟨_, rfl, nofun, hfin _ k ?_⟩)
    have : ∀ x, x ∈ ks' → x ∈ ks := fun x hx => by
      obtain ⟨⟨o, es, ep, t, ho, ex, dt, h1, h2, h4, ft, h3⟩, _⟩ := Sa
      obtain ⟨⟨o', es', ep', t', ho', ex', dt', h1', h2', h4', ft', h3'⟩, _⟩ := Sb
      rw [ho] at ho'; cases ho'; rw [dt] at dt'; cases dt'
      exact elems_mem.mp ((h2 x).mpr ((h2' x).mp (elems_mem.mpr hx)))
    rw [unionS_self_len this]
    exact S.cru Sa.2
  · rw [if_pos (by simpa using hab)]
    have hb' : b ≠ s.heap.objs.size := by
      obtain ⟨⟨o, _, _, _, ho, _⟩, _⟩ := Sb
      exact Nat.ne_of_lt (Heap.lt_size ho)
    have Sb' : CRu prog w h' ks' b := Sb.keeps fun o e => k _ _ e
    unfold Builtin.Frozenset.addrOf
    refine wpAny_bind ?_
    refine wpAny_pure ?_
    refine wpAny_bind (wpAny_holding ?_)
    unfold Builtin.Frozenset.updateFrom
    refine wpAny_bind (isAnySet_of (s := { s with heap := h' }) Sb'.typeIs ?_)
    simp only [if_true]
    unfold Builtin.Frozenset.addrOf
    refine wpAny_bind (wpAny_pure ?_)
    unfold Builtin.Frozenset.merge
    obtain ⟨o, es, ep, t, T, _⟩ := SU.ofSet Sb'.1
    refine wpAny_bind (wpAny_setEpoch_of (s := { s with heap := h' }) T.ho T.dt T.ft ?_)
    refine merge_of (s := { s with heap := h' }) hb' S (SU.ofSet Sb'.1) Sb'.2 h15 (fun h1 Q' sb q => ?_) fun h'' sb S' => ?_
    · unfold Builtin.Frozenset.unchanged
      have T1 := T.other sb hb'
      refine wpAny_bind (wpAny_setEpoch_of (s := { s with heap := h1 }) T1.ho T1.dt T1.ft ?_)
      rw [if_neg (by simp)]
      exact wpAny_pure q
    · refine wpAny_pure (wpAny_pure ⟨_, rfl, nofun, hfin _ (fun c o e => (sb.2 c (Nat.ne_of_lt (Heap.lt_size e))).trans (k c o e)) (S'.cru (unionS_nodup Sa.2))⟩)
end
end Mine
end

section
open PySem PySem.Calls PyProof.Rows
set_option Elab.async false
set_option linter.unusedVariables false
namespace Mine
section
variable {prog : Program} {w : World} {A : Around} {E : Value → Shared → Prop} {s : Shared} {B : Heap}
theorem sizeOf_of {a : Addr} {o : Obj} {es : Array (Int × Value)} {ep : Nat} {t : SetTable} {Q : Nat → Shared → Prop} (T : Tab s.heap a o es ep t) (h : Q es.size s) : wpAny (model prog w) A (Builtin.Frozenset.sizeOf a) Q E s := by
  unfold Builtin.Frozenset.sizeOf
  exact wpAny_bind (wpAny_setEntries_of T.ho T.dt T.ft (wpAny_pure h))
theorem quietEq_of {x : Value} {Q : Bool → Shared → Prop} (hx : x.scannable = true) (h : Q true s) : wpAny (model prog w) A (Builtin.Frozenset.quietEq x) Q E s := by
  unfold Builtin.Frozenset.quietEq
  cases x <;> first | (simp [Value.scannable] at hx; done) | exact wpAny_pure h
theorem walkUnseen2_of {a b : Addr} {o oa : Obj} {es ea : Array (Int × Value)} {ep epa : Nat} {t ta : SetTable} {Q : List (Int × Value) → Shared → Prop} (T : Tab s.heap b o es ep t) (Ta : Tab s.heap a oa ea epa ta)
    (hs : ∀ e ∈ es.toList, e.2.scannable = true) (hsa : ∀ e ∈ ea.toList, e.2.scannable = true) (h : Q es.toList s) : wpAny (model prog w) A (Builtin.Frozenset.walkUnseen b a) Q E s := by
  unfold Builtin.Frozenset.walkUnseen
  refine wpAny_bind (wpAny_setEntries_of T.ho T.dt T.ft ?_)
  refine wpAny_bind (wpAny_setEntries_of Ta.ho Ta.dt Ta.ft ?_)
  refine wpAny_bind ?_
  refine wpAny_forIn_list _ (fun rest b s' => s' = s ∧ b.1 = none ∧ ∀ e ∈ rest, e.2.scannable = true) _ ?_ ?_ _ _ ⟨rfl, rfl, fun e he => (List.mem_append.mp he).elim (hs e) (hsa e)⟩
  · rintro ⟨hh, x⟩ rest b s' ⟨rfl, hb, hr⟩
    refine wpAny_bind (quietEq_of (hr _ List.mem_cons_self) ?_)
    simp only [Bool.not_true, Bool.false_eq_true, if_false]
    exact wpAny_pure ⟨rfl, rfl, fun e he => hr e (List.mem_cons_of_mem _ he)⟩
  · rintro ⟨b1, b2⟩ s' ⟨rfl, hb, _⟩
    cases hb
    exact wpAny_pure h
theorem subsetOf_of {id : String} {a b : Addr} {ks ks' : List Str} {Q : Bool → Shared → Prop} (Sa : CRu prog w s.heap ks a) (Sb : CRu prog w s.heap ks' b) (hl : ks.length ≤ ks'.length) (h : Q (ks.all (elems ks')) s) :
    wpAny (model prog w) A (Builtin.Frozenset.subsetOf id a b) Q E s := by
  obtain ⟨oa, ea, epa, ta, Ta, hea, hma, hsa, hba, _⟩ := SU.ofSet Sa.1
  obtain ⟨ob, eb, epb, tb, Tb, heb, hmb, hsb, hbb, _⟩ := SU.ofSet Sb.1
  unfold Builtin.Frozenset.subsetOf
  refine wpAny_bind (sizeOf_of Ta ?_)
  refine wpAny_bind (sizeOf_of Tb ?_)
  rw [if_neg (by omega)]
  refine wpAny_bind (wpAny_setEpoch_of Ta.ho Ta.dt Ta.ft ?_)
  refine wpAny_bind (walkUnseen2_of Ta Tb (fun e he => (hea e he).2) (fun e he => (heb e he).2) ?_)
  refine wpAny_bind ?_
  obtain ⟨kl, hkl⟩ := keysAre hea
  have hall : ks.all (elems ks') = kl.all (elems ks') := by
    rw [Bool.eq_iff_iff, List.all_eq_true, List.all_eq_true]
    have hm : ∀ x, x ∈ ks ↔ x ∈ kl := fun x => by rw [keys_mem hkl, ← elems_mem (l := ks), hma]
    exact ⟨fun q x hx => q x ((hm x).mpr hx), fun q x hx => q x ((hm x).mp hx)⟩
  rw [hall] at h
  refine wpAny_forIn_list _ (fun rest b s' => s' = s ∧ ∃ kr, F2 (KA prog w) rest kr ∧ ((b.1 = none ∧ Q (kr.all (elems ks')) s) ∨ (b.1 = some false ∧ Q false s ∧ rest = []))) _ ?_ ?_ _ _ ⟨rfl, kl, hkl, .inl ⟨rfl, h⟩⟩
  · rintro ⟨hh, x⟩ rest b s' ⟨rfl, kr, hf, hc⟩
    rcases hc with ⟨hb, hq⟩ | ⟨_, _, q⟩
    · cases hf with
      | @cons _ k _ kr hd hr =>
        obtain ⟨hx, hh', hsc⟩ := hd
        dsimp only at hh' hx hsc
        subst hh'
        dsimp only
        refine wpAny_bind (wpAny_holding (wpAny_setFind_of hx hsc Sb.1 fun r hr' => ?_))
        rw [List.all_cons] at hq
        cases r with
        | none =>
          have he : elems ks' k = false := hr'.symm
          rw [he, Bool.false_and] at hq
          simp only [Option.isNone_none, if_true]
          exact wpAny_pure (wpAny_pure hq)
        | some i =>
          have he : elems ks' k = true := hr'.symm
          rw [he, Bool.true_and] at hq
          simp only [Option.isNone_some, Bool.false_eq_true, if_false]
          unfold Builtin.Frozenset.unchanged
          refine wpAny_bind (wpAny_bind (wpAny_setEpoch_of Ta.ho Ta.dt Ta.ft ?_))
          rw [if_neg (by simp)]
          exact wpAny_pure (wpAny_pure ⟨rfl, kr, hr, .inl ⟨rfl, hq⟩⟩)
    · cases q
  · rintro ⟨b1, b2⟩ s' ⟨rfl, kr, hf, hc⟩
    cases hf
    rcases hc with ⟨hb, hq⟩ | ⟨hb, hq, _⟩
    · cases hb; exact wpAny_pure hq
    · cases hb; exact wpAny_pure hq
theorem ne_of {a b : Addr} {ks ks' : List Str} {Q : Value → Shared → Prop} (hA : A.units < cLine) (Sa : CRu prog w s.heap ks a) (Sb : CRu prog w s.heap ks' b)
    (hQ : Q (.bool (!(Nat.beq ks.length ks'.length && ks.all (elems ks')))) s) : wpAny (model prog w) A (compareOp .NotEq (.ref a) (.ref b)) Q E s := by
  show wpAny _ _ (richCompare .NotEq (.ref a) (.ref b)) _ _ _
  refine wpAny_richCompare_same_room Sa.typeIs Sb.typeIs F.slot_set_ne (wpAny_call_entry F.slot_set_ne Sa.typeIs entry_set_ne ?_ (F.args_set_ne_2 _ _)) hA
  show wpAny _ _ (Builtin.Frozenset.slot1 "__ne__" _ >>= _) _ _ _
  unfold Builtin.Frozenset.slot1 slotArgs
  refine wpAny_bind (wpAny_pure ?_)
  dsimp only
  refine wpAny_bind (isAnySet_of Sb.typeIs ?_)
  simp only [Bool.not_true, Bool.false_eq_true, if_false]
  unfold Builtin.Frozenset.addrOf
  refine wpAny_bind (wpAny_pure ?_)
  refine wpAny_bind (wpAny_pure ?_)
  obtain ⟨oa, ea, epa, ta, Ta, hea, hma, hsa, hba, _⟩ := SU.ofSet Sa.1
  obtain ⟨ob, eb, epb, tb, Tb, heb, hmb, hsb, hbb, _⟩ := SU.ofSet Sb.1
  refine wpAny_bind (sizeOf_of Ta ?_)
  refine wpAny_bind (sizeOf_of Tb ?_)
  rw [hsa, hsb]
  refine wpAny_bind ?_
  by_cases hn : ks.length = ks'.length
  · rw [if_neg (by simp [hn])]
    have hff : ∀ Q' : Bool → Shared → Prop, Q' false s → wpAny (model prog w) A.in1 (isInstance (.ref a) (.type "frozenset") <&&> isInstance (.ref b) (.type "frozenset")) Q' E s := fun Q' q => by
      unfold andM
      refine wpAny_bind (wpAny_isInstance Sa.typeIs (b := false) (by rw [isSubtype_type]; kernel_rfl) ?_)
      exact wpAny_pure q
    refine wpAny_bind (hff _ ?_)
    simp only [Bool.false_eq_true, if_false]
    refine subsetOf_of Sa Sb (by omega) ?_
    rw [show Nat.beq ks.length ks'.length = true by simp [hn], Bool.true_and] at hQ
    exact wpAny_pure ⟨_, rfl, nofun, hQ⟩
  · rw [if_pos (by simpa using hn)]
    refine wpAny_pure ?_
    rw [show Nat.beq ks.length ks'.length = false by rw [← Bool.not_eq_true, Nat.beq_eq]; exact hn, Bool.false_and] at hQ
    exact wpAny_pure ⟨_, rfl, nofun, hQ⟩
end
end Mine
end

section
open PySem PySem.Calls PyProof.Rows
set_option Elab.async false
set_option linter.unusedVariables false
namespace Mine
section
variable {prog : Program} {w : World} {A : Around} {E : Value → Shared → Prop} {s : Shared} {B : Heap}
abbrev freshSet (led : Bool) : Obj := { cls := .type "set", dict := none, data := .set #[] 0 (.fresh 0 0 led) }
set_option maxRecDepth 100000 in
set_option maxHeartbeats 3200000 in
theorem call_set_1 {a : Value} {Q : Value → Shared → Prop}
    (hupd : ∀ (led : Bool) (A' : Around), A'.handled = A.handled → wpAny (model prog w) A' (Builtin.Frozenset.updateFrom "set.__init__" s.heap.objs.size a)
      (fun _ s₂ => ∃ h' tk, s₂ = { s with heap := h', toks := tk } ∧ h'.get? s.heap.objs.size ≠ none ∧ Q (.ref s.heap.objs.size) s₂) E { s with heap := s.heap.push (freshSet led) }) :
    wpAny (model prog w) A (call (.type "set") [a]) Q E s := by
  obtain ⟨c, tl, hmro⟩ := F.called_set.mro
  have hmade := F.called_set.made
  have hsub := F.called_set.sub
  refine wpAny_call (codeAny_of_tree ?_)
  show wpAny _ _ (callAny (.type "set") _) _ _ _
  refine wpAny_pure ⟨Code.quiet_builtin _ (by decide +kernel), codeAny_builtin F.entry_type_call ?_⟩
  rw [Around.under_plain (weight_type_call_type "set" [a] []) rfl]
  have h1 := F.called_set.notType
  have h2 := F.called_set.canCreate
  have hct := F.typeCall_set_1 a
  repeat (any_goals (first | assumption | wp_step))
  refine codeAny_mono (code_set_new_1 a (E := E) (Q₁ := fun obj s₁ => ∃ led : Bool, obj = .ref s.heap.objs.size ∧ s₁ = { s with heap := s.heap.push { cls := .type "set", dict := none, data := .set #[] 0 (.fresh 0 0 led) } }) fun led => ⟨led, rfl, rfl⟩) fun r s₁ hr => ?_
  cases r with
  | error e => exact hr
  | ok fl =>
    cases fl with
    | ret obj =>
      obtain ⟨led, rfl, rfl⟩ := hr
      have hS : (s.heap.push { cls := .type "set", dict := none, data := .set #[] 0 (.fresh 0 0 led) }).get? s.heap.objs.size = some { cls := .type "set", dict := none, data := .set #[] 0 (.fresh 0 0 led) } := Heap.get?_push_size _ rfl
      have hT : Shared.TypeIs { s with heap := s.heap.push { cls := .type "set", dict := none, data := .set #[] 0 (.fresh 0 0 led) } } (.ref s.heap.objs.size) "set" := ⟨_, hS, rfl⟩
      have hli := F.called_set.init.lookup
      have hbi := F.called_set.init.bind (.ref s.heap.objs.size)
      repeat (any_goals (first | assumption | wp_step))
      refine codeAny_mono (codeAny_call_builtin (R := wants (fun r s₂ => r = .none ∧ ∃ h' tk, s₂ = { s with heap := h', toks := tk } ∧ Q (.ref s.heap.objs.size) s₂) E) F.called_set.init.plain F.entry_set_init (check_set_init_1 hT ?_)) fun r₂ s₂ hr₂ => ?_
      · have hu := hupd led
        unfold Builtin.«set.__init__» noKeywords
        generalize Builtin.Frozenset.updateFrom = U at hu ⊢
        wp_walk
        refine wpAny_mono (hu _ ?_) (fun _ s₂ h => ?_) fun _ _ x => x
        · simp
        obtain ⟨h', tk, rfl, _, hq⟩ := h
        refine wpAny_pure ⟨rfl, h', tk, rfl, hq⟩
      · cases r₂ with
        | error e => exact hr₂
        | ok fl₂ =>
          cases fl₂ with
          | ret r =>
            obtain ⟨rfl, h', tk, rfl, hq⟩ := hr₂
            repeat (any_goals (first | assumption | wp_step))
          | _ => exact hr₂.elim
    | _ => exact hr.elim
end
end Mine
end

section
open PySem PySem.Calls PyProof.Rows
set_option Elab.async false
set_option linter.unusedVariables false
namespace Mine
theorem sub_dict_set : isSubtype (.type "dict") (.type "set") = pure false := by rw [isSubtype_type]; kernel_rfl
theorem sub_dict_frozenset : isSubtype (.type "dict") (.type "frozenset") = pure false := by rw [isSubtype_type]; kernel_rfl
section
variable {prog : Program} {w : World} {A : Around} {E : Value → Shared → Prop} {s : Shared} {B : Heap}
theorem noSet_of {M : Model} {v : Value} {T : String} {Q : Bool → Shared → Prop} (hT : s.TypeIs v T) (h1 : isSubtype (.type T) (.type "set") = pure false) (h2 : isSubtype (.type T) (.type "frozenset") = pure false) (h : Q false s) : wpAny M A (Builtin.Frozenset.isAnySet v) Q E s := by
  unfold Builtin.Frozenset.isAnySet
  refine wpAny_bind (wpAny_isInstance hT h1 ?_)
  exact wpAny_isInstance hT h2 h
theorem freshSet_su (led : Bool) (h : Heap) : SU prog w (h.push (freshSet led)) h.objs.size [] good :=
  SU.nil (ep := 0) (t := .fresh 0 0 led) ⟨Heap.get?_push_size _ rfl, ⟨rfl, rfl, rfl⟩, rfl, rfl⟩ ⟨.inl rfl, rfl⟩
theorem pairs_keys {es : List DictEntry} {kvs : List (Str × Value)} (hk : ∀ e ∈ es, ∃ k, (strKind prog w).is k e.key = true ∧ e.hash = (strKind prog w).hash k) (h : Pairs (strKind prog w) es kvs) :
    F2 (fun (e : DictEntry) k => (strKind prog w).is k e.key = true ∧ e.hash = (strKind prog w).hash k ∧ e.key.scannable = true) es (kvs.map (·.1)) := by
  induction h with
  | nil => exact .nil
  | @cons e kv es kvs h1 _ _ ih =>
    obtain ⟨k, hk1, hk2⟩ := hk e List.mem_cons_self
    have : k = kv.1 := (strKind prog w).inj _ _ _ hk1 h1
    subst this
    refine .cons ⟨h1, hk2, ?_⟩ (ih fun e he => hk e (List.mem_cons_of_mem _ he))
    obtain ⟨t, q⟩ := Value.isStrOf_shape h1
    rw [q]; rfl
theorem F2.at {α β : Type} {R : α → β → Prop} {l : List α} {k : List β} (h : F2 R l k) : ∀ {i : Nat} {a : α}, l[i]? = some a → ∃ b, k[i]? = some b ∧ R a b := by
  induction h with
  | nil => intro i a e; simp at e
  | cons hd _ ih =>
    intro i a e
    cases i with
    | zero => simp at e; subst e; exact ⟨_, rfl, hd⟩
    | succ i => simpa using ih (by simpa using e)
theorem set_dict {d : Addr} {kvs : List (Str × Value)} {ep : Nat} {Q : Value → Shared → Prop} (lo : (d == sysModules) = false) (hm : s.heap.DictAt (PySem.strKind prog w) d kvs ep) (h16 : kvs.length < 16)
    (hQ : PQ prog w B s (.u (unionS [] (kvs.map (·.1)))) Q) : wpAny (model prog w) A (call (.type "set") [.ref d]) Q E s := by
  refine call_set_1 fun led A' _ => ?_
  have hlt : d < s.heap.objs.size := hm.lt_size
  have hne : d ≠ s.heap.objs.size := Nat.ne_of_lt hlt
  have hm0 := hm
  obtain ⟨o, es, ho, hex, hd, hke, hp, hnd⟩ := hm
  have ho1 : (s.heap.push (freshSet led)).get? d = some o := Heap.get?_push_of_some _ ho
  have hT : Shared.TypeIs { s with heap := s.heap.push (freshSet led) } (.ref d) "dict" := ⟨o, ho1, hex.1⟩
  have hpl : es.size = kvs.length := by rw [← Array.length_toList, hp.length]
  have hf2 := pairs_keys (fun e he => hke e (Array.mem_def.mpr he)) hp
  unfold Builtin.Frozenset.updateFrom
  refine wpAny_bind (noSet_of hT sub_dict_set sub_dict_frozenset ?_)
  simp only [Bool.false_eq_true, if_false]
  refine wpAny_bind (wpAny_typeOf hT ?_)
  rw [if_pos (by decide)]
  refine wpAny_bind (wpAny_rule ?_)
  unfold Builtin.Frozenset.addrOf
  refine wpAny_bind (wpAny_pure ?_)
  rw [if_neg (by rw [lo]; exact Bool.false_ne_true)]
  refine wpAny_bind (wpAny_dictEpoch (s := { s with heap := s.heap.push (freshSet led) }) ho1 hd ?_)
  refine wpAny_bind (wpAny_dictEntries (s := { s with heap := s.heap.push (freshSet led) }) ho1 hd ?_)
  obtain ⟨oa, ea, epa, ta, Ta, hea, hma, hsa, hba, hok, hdum⟩ := freshSet_su (prog := prog) (w := w) led s.heap
  have hea0 : ea.size = 0 := hsa
  refine wpAny_bind (setRoomFor_of (s := { s with heap := s.heap.push (freshSet led) }) Ta (by omega) hok fun h1 o1 ep1 es1 t1 sb1 pm1 hok1 hmore hd1 T1 => ?_)
  have hsz1 : es1.size = 0 := by rw [← Array.length_toList, pm1.length_eq, Array.length_toList, hea0]
  have hes1 : es1 = #[] := Array.eq_empty_of_size_eq_zero hsz1
  subst hes1
  have ho2 : h1.get? d = some o := (sb1.2 d hne).trans ho1
  refine wpAny_bind (wpAny_dictEntries (s := { s with heap := h1 }) ho2 hd ?_)
  rw [Std.Legacy.Range.forIn_eq_forIn_range']
  have hsz : [0:es.size].size = es.size := by simp [Std.Legacy.Range.size]
  rw [hsz]
  have S1 : h1.SetOf (strKind prog w) s.heap.objs.size (fun x => elems [] x) 0 := ⟨_, _, _, _, T1.ho, T1.ex, T1.dt, fun e he => by simp at he, fun k => by simp [elems], by decide, T1.ft, rfl⟩
  refine wpAny_bind ?_
  refine wpAny_forIn_list _ (fun rest _ s' => ∃ h3 i, rest = List.range' i (es.size - i) ∧ i ≤ es.size ∧ s' = { s with heap := h3 } ∧ Heap.SameBut s.heap.objs.size (s.heap.push (freshSet led)) h3 ∧
    h3.SetOf (strKind prog w) s.heap.objs.size (fun x => elems (unionS [] ((kvs.map (·.1)).take i)) x) (unionS [] ((kvs.map (·.1)).take i)).length) _ ?_ ?_ _ _ ⟨h1, 0, rfl, Nat.zero_le _, rfl, sb1, S1⟩
  · rintro i rest u s' ⟨h3, i', hr, hi, rfl, sb3, S3⟩
    obtain ⟨n, hn⟩ : ∃ n, es.size - i' = n + 1 := by
      cases q : es.size - i' with
      | zero => rw [q] at hr; simp at hr
      | succ n => exact ⟨n, rfl⟩
    rw [hn, List.range'_succ] at hr
    obtain ⟨rfl, rfl⟩ := List.cons.inj hr
    have ho3 : h3.get? d = some o := (sb3.2 d hne).trans ho1
    have hilt : i < es.size := by omega
    refine wpAny_bind (wpAny_dictEntries (s := { s with heap := h3 }) ho3 hd ?_)
    obtain ⟨k, hk, hx, hh, hsc⟩ := hf2.at (i := i) (a := es[i]) (by rw [Array.getElem?_toList]; exact Array.getElem?_eq_getElem hilt)
    rw [Array.getElem?_eq_getElem hilt]
    dsimp only
    rw [hh]
    have hlen : (unionS [] ((kvs.map (·.1)).take i)).length ≤ 16 := by
      have h9 := unionS_le ((kvs.map (·.1)).take i) []
      rw [List.length_take, List.length_map] at h9
      simp only [List.length_nil] at h9
      omega
    refine wpAny_bind (wpAny_holding (wpAny_setAddHashed_of (s := { s with heap := h3 }) hx hsc S3 (by unfold scanBound; omega) fun h4 sb4 S4 => ?_))
    have sb5 := sb3.trans sb4
    have ho4 : h4.get? d = some o := (sb5.2 d hne).trans ho1
    refine wpAny_bind (wpAny_dictEpoch (s := { s with heap := h4 }) ho4 hd ?_)
    rw [if_neg (by simp)]
    have htk : (kvs.map (·.1)).take (i + 1) = (kvs.map (·.1)).take i ++ [k] := by
      rw [List.take_succ, hk]; rfl
    have hun : unionS [] ((kvs.map (·.1)).take (i + 1)) = addS (unionS [] ((kvs.map (·.1)).take i)) k := by
      rw [htk]; simp [unionS, List.foldl_append]
    refine wpAny_pure ⟨h4, i + 1, by rw [show es.size - (i + 1) = n by omega], by omega, rfl, sb5, ?_⟩
    rw [hun]
    refine PyProof.Rows.SetOf_congr S4 (fun k' => ?_) ?_
    · rw [Bool.eq_iff_iff, Bool.or_eq_true, decide_eq_true_eq, elems_mem, elems_mem, mem_addS]
    · unfold addS; split <;> simp
  · rintro u s' ⟨h3, i', hr, hi, rfl, sb3, S3⟩
    have hi' : i' = es.size := by
      have := congrArg List.length hr
      simp at this; omega
    subst hi'
    rw [List.take_of_length_le (by rw [List.length_map]; omega)] at S3
    refine wpAny_pure ⟨h3, s.toks, rfl, ?_, ?_⟩
    · obtain ⟨o, _, _, _, ho, _⟩ := S3
      rw [ho]; simp
    · refine hQ _ _ ⟨h3, s.toks, rfl⟩ (fun b o e => (sb3.2 b (Nat.ne_of_lt (Heap.lt_size e))).trans (Heap.get?_push_of_some _ e)) fun B' n => ⟨_, rfl, ?_⟩
      exact CRu.keeps ⟨S3, unionS_nodup List.nodup_nil⟩ fun o e => n.2 _ _ (size_none _) e

theorem strsAre_at : ∀ {vs : List Value} {q : List Str}, StrsAre vs q → ∀ (i : Nat) (v : Value), vs[i]? = some v → ∃ k t, q[i]? = some k ∧ v = .str k t := by
  intro vs q h
  induction h with
  | nil => intro i v e; simp at e
  | cons y t _ ih =>
    intro i v e
    cases i with
    | zero => simp at e; exact ⟨y, t, rfl, e.symm⟩
    | succ i => simpa using ih i v (by simpa using e)
theorem strsAre_len {vs : List Value} {ss : List Str} (h : StrsAre vs ss) : vs.length = ss.length := by
  induction h <;> simp_all
section
variable {R : Result → Shared → Prop} {I : Addr} {fp wr : List Addr} {G : Array GenState → Array GenState → Prop} {n : Nat} {P : Nat → Value → Prop} {St : Nat → Shared → Prop}
theorem setLoop_of (W : WalksS prog w A.in1 I fp wr G n P St) (S : Addr) (hSf : S ∉ fp) (q : List Str) (hP : ∀ i v, P i v → ∃ k t, q[i]? = some k ∧ v = .str k t) (hn : n = q.length) (hb : n < 64) :
    ∀ (k i : Nat) (s : Shared), n - i = k → i ≤ n → St i s →
      s.heap.SetOf (strKind prog w) S (fun x => elems (unionS [] (q.take i)) x) (unionS [] (q.take i)).length →
      (∀ s', Moved (S :: wr) G s s' → s'.heap.SetOf (strKind prog w) S (fun x => elems (unionS [] q) x) (unionS [] q).length → R (.ok (.ret .none)) s') →
      codeAny (model prog w) A (.builtin "set.update.loop" ⟨[.ref S, .ref I], []⟩) R s := by
  have hSw : S ∉ wr := fun h => hSf (W.sub _ h)
  have hsub : ∀ b ∈ wr, b ∈ S :: wr := fun b hb => List.mem_cons_of_mem _ hb
  intro k
  induction k with
  | zero =>
    intro i s hk hi hst hS hR
    have hin : i = n := by omega
    subst hin
    refine codeAny_builtin F.entry_set_update_loop ?_
    rw [Around.under_plainId F.plain_set_update_loop _]
    show wpAny _ A.in1 (pyNext (.ref I) >>= _) _ _ s
    refine wpAny_bind (W.done s _ _ hst fun s' hm => ?_)
    show wpAny _ A.in1 (ret Value.none) _ _ s'
    rw [hn, List.take_length] at hS
    exact wpAny_pure (hR s' (hm.mono hsub) (by
      obtain ⟨o, es, ep, t, ho, rest⟩ := hS
      exact ⟨o, es, ep, t, hm.heap S _ hSw ho, rest⟩))
  | succ k ih =>
    intro i s hk hi hst hS hR
    have hlt : i < n := by omega
    refine codeAny_builtin F.entry_set_update_loop ?_
    rw [Around.under_plainId F.plain_set_update_loop _]
    show wpAny _ A.in1 (pyNext (.ref I) >>= _) _ _ s
    refine wpAny_bind (W.item i s _ _ hlt hst fun v s' hPv hst' hm => ?_)
    obtain ⟨x, t, hx, rfl⟩ := hP i v hPv
    have hS' : s'.heap.SetOf (strKind prog w) S (fun x => elems (unionS [] (q.take i)) x) (unionS [] (q.take i)).length := by
      obtain ⟨o, es, ep, tb, ho, rest⟩ := hS
      exact ⟨o, es, ep, tb, hm.heap S _ hSw ho, rest⟩
    show wpAny _ A.in1 (holding [Value.str x t] (setAdd S (.str x t)) >>= _) _ _ s'
    refine wpAny_bind (wpAny_holding ?_)
    unfold setAdd
    refine wpAny_holding ?_
    refine wpAny_bind ((strKind prog w).pyHash (k := x) (strKind_is _ _ _ _) ?_)
    have hroom : (unionS [] (q.take i)).length + 1 < scanBound := by
      have h9 := unionS_le (q.take i) []
      rw [List.length_take] at h9
      simp only [List.length_nil] at h9
      unfold scanBound; omega
    refine wpAny_setAddHashed_of (knd := strKind prog w) (s := { s' with toks := s'.toks + 1 }) (strKind_is _ _ _ _) rfl hS' hroom fun h' hsb hS2 => ?_
    have htk : q.take (i + 1) = q.take i ++ [x] := by
      rw [List.take_succ, hx]; rfl
    have hun : unionS [] (q.take (i + 1)) = addS (unionS [] (q.take i)) x := by
      rw [htk]; simp [unionS, List.foldl_append]
    have hSi : h'.SetOf (strKind prog w) S (fun x => elems (unionS [] (q.take (i + 1))) x) (unionS [] (q.take (i + 1))).length := by
      rw [hun]
      refine SetOf_congr hS2 (fun k' => ?_) ?_
      · rw [Bool.eq_iff_iff, Bool.or_eq_true, decide_eq_true_eq, elems_mem, elems_mem, mem_addS]
      · unfold addS; split <;> simp
    refine wpAny_pure ⟨plainId_quiet F.plain_set_update_loop _, ih (i + 1) _ (by omega) hlt (W.frame _ s' _ _ hst' (Nat.le_succ _) fun b hb o e => ?_) hSi fun s'' hm'' hS'' => ?_⟩
    · rw [hsb.2 b (fun h : b = S => hSf (by rw [← h]; exact hb))]; exact e
    · refine hR s'' (Moved.trans W.gtrans ((hm.mono hsub).then_heap (Nat.le_succ _) fun b o hb e => ?_) hm'') hS''
      rw [hsb.2 b (fun h : b = S => hb (by rw [h]; exact List.mem_cons_self))]; exact e
end
theorem set_list {l : Addr} {vs : List Value} {q : List Str} {Q : Value → Shared → Prop} (hh : A.handled = none) (hl : s.heap.IsList l vs.toArray) (hq : StrsAre vs q) (h64 : q.length < 64)
    (hQ : PQ prog w B s (.u (unionS [] q)) Q) : wpAny (model prog w) A (call (.type "set") [.ref l]) Q E s := by
  refine call_set_1 fun led A' hA' => ?_
  have hvl := strsAre_len hq
  obtain ⟨ol, hol, hcl, nl, hdl⟩ := hl
  have hlS : l < s.heap.objs.size := Heap.lt_size hol
  have hol' : (s.heap.push (freshSet led)).get? l = some ol := Heap.get?_push_of_some _ hol
  have hl1 : (s.heap.push (freshSet led)).IsList l vs.toArray := ⟨_, hol', hcl, nl, hdl⟩
  have hT : Shared.TypeIs { s with heap := s.heap.push (freshSet led) } (.ref l) "list" := ⟨ol, hol', hcl⟩
  unfold Builtin.Frozenset.updateFrom
  refine wpAny_bind (noSet_of hT F.sub_list_set F.sub_list_frozenset ?_)
  simp only [Bool.false_eq_true, if_false]
  refine wpAny_bind (wpAny_typeOf hT ?_)
  rw [if_neg (by decide)]
  refine wpAny_bind (wpAny_pyIter_list (s := { s with heap := s.heap.push (freshSet led) }) hl1 ?_)
  refine wpAny_bind (wpAny_runValue ?_)
  have hneI : l ≠ (s.heap.push (freshSet led)).objs.size := by
    rw [Heap.size_push]; exact Nat.ne_of_lt (Nat.lt_succ_of_lt hlS)
  have hSf : s.heap.objs.size ∉ [(s.heap.push (freshSet led)).objs.size, l] := by
    rw [Heap.size_push]; simp only [List.mem_cons, List.mem_singleton, List.not_mem_nil, or_false, not_or]
    exact ⟨Nat.ne_of_lt (Nat.lt_succ_self _), Nat.ne_of_gt hlS⟩
  have hh3 : A'.in1.handled = none := by simp [hA', hh]
  have hsz : vs.toArray.size = q.length := by simp [hvl]
  refine setLoop_of ((Walks.list hh3 _ l hneI vs.toArray).toS) s.heap.objs.size hSf q (fun i v hv => strsAre_at hq i v (by simpa using hv)) hsz (by omega) (vs.toArray.size - 0) 0 _ rfl (Nat.zero_le _)
    ⟨⟨_, Heap.get?_push_size _ rfl, rfl, rfl⟩, (hl1.push _)⟩ ?hS0 ?hR
  case hS0 =>
    have hget : ((s.heap.push (freshSet led)).push { cls := .type "list_iterator", data := .fields #[.ref l, .int 0 0] }).get? s.heap.objs.size = some (freshSet led) := Heap.get?_push_of_some _ (Heap.get?_push_size _ rfl)
    exact PyProof.Rows.SetOf_congr ((PyProof.Rows.setObjOf_fresh (knd := strKind prog w) led).setOf hget (by unfold scanBound; omega)) (fun _ => rfl) rfl
  case hR =>
    intro s' hm hS'
    obtain ⟨h', g', d', tk', os'⟩ := s'
    have eg : g' = s.gens := hm.gens
    have ed : d' = s.drawn := hm.drawn
    have eo : os' = s.os := hm.os
    subst eg; subst ed; subst eo
    have hold : ∀ b o, s.heap.get? b = some o → h'.get? b = some o := fun b o e => by
      have hb := Heap.lt_size e
      have hb1 : b ≠ s.heap.objs.size := Nat.ne_of_lt hb
      have hb2 : b ≠ (s.heap.push (freshSet led)).objs.size := by
        rw [Heap.size_push]; exact Nat.ne_of_lt (Nat.lt_succ_of_lt hb)
      exact hm.heap b o (by simp only [List.mem_cons, List.mem_singleton, List.not_mem_nil, or_false, not_or]; exact ⟨hb1, hb2⟩) (Heap.get?_push_of_some _ (Heap.get?_push_of_some _ e))
    refine wpAny_pure ⟨h', tk', rfl, ?_, ?_⟩
    · obtain ⟨o, _, _, _, ho, _⟩ := hS'
      show h'.get? _ ≠ none
      rw [ho]; simp
    · refine hQ _ _ ⟨h', tk', rfl⟩ hold fun B' n => ⟨_, rfl, ?_⟩
      exact CRu.keeps ⟨hS', unionS_nodup List.nodup_nil⟩ fun o e => n.2 _ _ (size_none _) e
end
end Mine
end

section
open PySem PySem.Calls PyProof.Rows
set_option Elab.async false
set_option linter.unusedVariables false
namespace Mine
section
variable {prog : Program} {w : World} {A : Around} {E : Value → Shared → Prop} {s : Shared} {B : Heap} {Q : Value → Shared → Prop}

theorem cmpV_sound {op : CmpOp} {x y : AV} {r : Bool} {a b : Value} (hA : A.units + 64 < cLine) (kB : B.StaysIn s.heap) (h : cmpV op x y = some r) (ha : Seen prog w B s.heap x a) (hb : Seen prog w B s.heap y b) (hQ : ∀ tk, Q (.bool r) { s with toks := tk }) :
    wpAny (model prog w) A (compareOp op a b) Q E s := by
  have hQ0 : Q (.bool r) s := hQ s.toks
  have hd : ∀ {u v : PyData}, x = .d u → y = .d v → cmpD op u v = some r → wpAny (model prog w) A (compareOp op a b) Q E s := by
    intro u v hx hy h2
    subst hx; subst hy
    exact cmpD_sound hA h2 (ha.rd kB) (hb.rd kB) hQ0
  cases x with
  | m kvs =>
    cases y <;> cases op <;> try exact no_none h
    all_goals (rename_i u; cases u <;> try exact no_none h)
    cases h
    obtain ⟨a', rfl, _⟩ := ha
    have h2 := RD.none (Seen.rd' hb fun _ q => by cases q)
    subst h2
    exact wpAny_is_other rfl nofun hQ0
  | u ks =>
    cases y <;> cases op <;> try exact no_none h
    cases h
    obtain ⟨d, rfl, hS⟩ := ha
    obtain ⟨d', rfl, hS'⟩ := hb
    exact ne_of (by omega) hS hS' hQ0
  | d u =>
    cases y with
    | d v =>
      cases op <;> first | exact hd rfl rfl h | skip
      all_goals (cases u <;> try exact no_none h)
      all_goals (cases v <;> first | exact no_none h | exact hd rfl rfl h | skip)
      cases h
      have h1 := RD.none (Seen.rd' ha fun _ q => by cases q)
      have h2 := RD.none (Seen.rd' hb fun _ q => by cases q)
      subst h1; subst h2
      exact wpAny_is_self rfl hQ0
    | m kvs =>
      cases op <;> cases u <;> try exact no_none h
      · cases h
        obtain ⟨t, rfl⟩ := RD.str (Seen.rd' ha fun _ q => by cases q)
        obtain ⟨d, rfl, lo, es, hd, hp⟩ := hb
        refine wpAny_in_of (PySem.strKind_is prog w _ t) lo hd.mapOf ?_
        rw [prs_isSome hp]; exact hQ _
      · cases h
        obtain ⟨t, rfl⟩ := RD.str (Seen.rd' ha fun _ q => by cases q)
        obtain ⟨d, rfl, lo, es, hd, hp⟩ := hb
        refine wpAny_notIn_of (PySem.strKind_is prog w _ t) lo hd.mapOf ?_
        rw [prs_isSome hp]; exact hQ _
    | u ks =>
      cases op <;> cases u <;> try exact no_none h
      cases h
      obtain ⟨t, rfl⟩ := RD.str (Seen.rd' ha fun _ q => by cases q)
      obtain ⟨d, rfl, hS, _⟩ := hb
      exact wpAny_inSet_of (PySem.strKind_is prog w _ t) rfl hS (hQ _)

theorem binV_sound {op : Operator} {x y r : AV} {a b : Value} (kB : B.StaysIn s.heap) (h : binV op x y = some r) (ha : Seen prog w B s.heap x a) (hb : Seen prog w B s.heap y b) (hQ : PQ prog w B s r Q) :
    wpAny (model prog w) A (binaryOp op a b) Q E s := by
  unfold binV at h
  split at h
  · split at h
    · cases h
      obtain ⟨d, rfl, hS⟩ := ha
      obtain ⟨d', rfl, hS'⟩ := hb
      exact or_of hS hS' ‹_› hQ
    · cases h
  · split at h
    · cases h
      refine binD_sound (s := s) ‹_› (ha.rd kB) (hb.rd kB) fun v tk hv => PQ.imm hQ hv
    · cases h
  · cases h

theorem truthV_sound {x : AV} {r : Bool} {a : Value} {Q : Bool → Shared → Prop} (h : truthV x = some r) (ha : Seen prog w B s.heap x a) (hQ : ∀ tk, Q r { s with toks := tk }) : wpAny (model prog w) A (truthy a) Q E s := by
  unfold truthV at h
  split at h
  · cases h
    have h1 := RD.bool (Seen.rd' ha fun _ q => by cases q)
    subst h1
    exact wpAny_truthy_bool (hQ s.toks)
  · split at h
    · rename_i hbig
      cases h
      obtain ⟨l, vs, rfl, hl, hr⟩ := ha
      have hlen := hr.length
      refine wpAny_truthy_list hl (by simp [big] at *; omega) ?_
      have e : ∀ (l' : List PyData), vs.length = l'.length → (List.toArray vs).isEmpty = l'.isEmpty := fun l' hl' => by
        rw [Bool.eq_iff_iff]; simp [← List.length_eq_zero_iff, hl']
      rw [e _ hlen]; exact hQ _
    · cases h
  · cases h

theorem bltV_sound {f : Str} {x r : AV} {c a : Value} (hh : A.handled = none) (kB : B.StaysIn s.heap) (h : bltV f x = some r) (hc : bltVal f = some c) (ha : Seen prog w B s.heap x a) (hQ : PQ prog w B s r Q) : wpAny (model prog w) A (call c [a]) Q E s := by
  unfold bltV at h
  unfold bltVal at hc
  split at h
  · rename_i hf; rw [if_pos hf] at hc; cases hc
    split at h
    · split at h
      · rename_i hbig
        cases h
        obtain ⟨t, rfl⟩ := RD.str (Seen.rd' ha fun _ q => by cases q)
        refine P.len_str (by simp [big, Str.length] at *; omega) ?_
        refine PQ.imm (tk := s.toks + 1 + 1) hQ fun B => ?_
        have : ∀ y : Str, (y.length : Int) = (y.cps.toList.length : Int) := fun y => by simp [Str.length]
        rw [this]; exact rdInt
      · cases h
    · split at h
      · rename_i hbig
        cases h
        obtain ⟨l, vs, rfl, hl, hr⟩ := ha
        have hlen := hr.length
        refine call_len_list hl (by simp [big] at *; omega) ?_
        refine PQ.imm (tk := s.toks + 1 + 1) hQ fun B => ?_
        rw [List.size_toArray, hlen]; exact rdInt
      · cases h
    · cases h
  rename_i hf1; rw [if_neg hf1] at hc
  split at h
  · rename_i hf; rw [if_pos hf] at hc; cases hc
    split at h
    · split at h
      · rename_i hz
        cases h
        obtain ⟨t, rfl⟩ := RD.int (Seen.rd' ha fun _ q => by cases q)
        refine PyProof.Rows.chr_of_range (by omega) (by omega) ?_
        exact PQ.imm (tk := s.toks + 1) hQ fun B => rdStr
      · cases h
    · cases h
  rename_i hf2; rw [if_neg hf2] at hc
  split at h
  · rename_i hf; rw [if_pos hf] at hc; cases hc
    split at h
    · split at h
      · rename_i y c hz
        cases h
        obtain ⟨t, rfl⟩ := RD.str (Seen.rd' ha fun _ q => by cases q)
        have := str_one hz
        subst this
        refine PyProof.Rows.ord_of_one rfl ?_
        exact PQ.imm (tk := s.toks + 1) hQ fun B => rdInt
      · cases h
    · cases h
  rename_i hf3; rw [if_neg hf3] at hc
  split at h
  · rename_i hf; rw [if_pos hf] at hc; cases hc
    split at h
    · cases h
      obtain ⟨t, rfl⟩ := RD.int (Seen.rd' ha fun _ q => by cases q)
      exact call_int_int (PQ.old hQ rdInt)
    · cases h
  rename_i hf4; rw [if_neg hf4] at hc
  split at h
  · rename_i hf; rw [if_pos hf] at hc; cases hc
    split at h
    · split at h
      · rename_i q hq
        split at h
        · rename_i h64
          cases h
          obtain ⟨l, vs, rfl, hl, hr⟩ := ha
          have hS := strsOf_are hq hr
          refine sorted_strs hl hS (by rw [strsAre_len hS]; exact h64) fun out ss' q1 q2 q3 => ?_
          obtain ⟨e, he⟩ := sortedAll_at s.heap vs out
          refine hQ _ _ ⟨_, s.toks, rfl⟩ (fun b o eb => sortedAll_old eb) fun B' n => ?_
          have hnone : s.heap.get? (s.heap.objs.size + 1) = none := by
            cases q : s.heap.get? (s.heap.objs.size + 1) with
            | none => rfl
            | some o => exact absurd (Heap.lt_size q) (by simp)
          refine rdList (n.2 _ _ hnone he) rfl rfl ?_
          rw [← sortS_eq q2 q3]; exact _root_.Mine.StrsAre.rds q1
        · cases h
      · cases h
    · split at h
      · rename_i h64
        cases h
        obtain ⟨d, rfl, lo, es, hd, hp⟩ := ha
        obtain ⟨ep, hda⟩ := hd.dictAt
        have hk : ∀ {es : List (Str × Value)} {kvs : List (Str × PyData)}, Prs B es kvs → es.map (·.1) = keysOf kvs := by
          intro es kvs p; induction p with
          | nil => rfl
          | cons _ _ ih => simp [keysOf] at ih ⊢; exact ih
        have hkk := hk hp
        have hl : es.length < 64 := by
          have := congrArg List.length hkk
          simp [keysOf] at this; omega
        refine sorted_dict hh lo hda hl fun h' tk l vs e k hn hl' hS => ?_
        rw [hkk] at hS
        refine hQ _ _ ⟨h', tk, rfl⟩ k fun B' n => ?_
        exact rdList (n.2 _ _ hn hl') rfl rfl (by simpa using _root_.Mine.StrsAre.rds hS)
      · cases h
    · cases h
  rename_i hf5; rw [if_neg hf5] at hc
  split at h
  · rename_i hf; rw [if_pos hf] at hc; cases hc
    split at h
    · split at h
      · rename_i hbig
        cases h
        obtain ⟨l, vs, rfl, hl, hr⟩ := ha
        have hlen := hr.length
        refine call_tuple_list hl (fun h' hk => ?_) (by rw [sizeLine_eq]; simp [big] at *; omega)
        refine hQ _ _ ⟨_, s.toks, rfl⟩ (fun b o e => Heap.get?_push_of_some _ (hk b o e)) fun B' n => ?_
        have hnone : s.heap.get? h'.objs.size = none := by
          cases q : s.heap.get? h'.objs.size with
          | none => rfl
          | some o => exact absurd (Heap.lt_size (hk _ _ q)) (Nat.lt_irrefl _)
        exact rdTuple (n.2 _ _ hnone (Heap.get?_push_size _ rfl)) rfl rfl (by simpa using hr.keeps n.1)
      · cases h
    · cases h
  rename_i hf6; rw [if_neg hf6] at hc
  split at h
  · rename_i hf; rw [if_pos hf] at hc; cases hc
    split at h
    · split at h
      · rename_i q hq
        split at h
        · rename_i h64
          cases h
          obtain ⟨l, vs, rfl, hl, hr⟩ := ha
          exact set_list hh hl (strsOf_are hq hr) h64 hQ
        · cases h
      · cases h
    · split at h
      · rename_i h64
        cases h
        obtain ⟨d, rfl, lo, es, hd, hp⟩ := ha
        obtain ⟨ep, hda⟩ := hd.dictAt
        have hk : ∀ {es : List (Str × Value)} {kvs : List (Str × PyData)}, Prs B es kvs → es.map (·.1) = keysOf kvs := by
          intro es kvs p; induction p with
          | nil => rfl
          | cons _ _ ih => simp [keysOf] at ih ⊢; exact ih
        have hkk := hk hp
        have hl : es.length < 16 := by
          have := congrArg List.length hkk
          simp [keysOf] at this; omega
        rw [← hkk] at hQ
        exact set_dict lo hda hl hQ
      · cases h
    · cases h
  · cases h

/-! what a name's own thing undergoes -/
theorem append_sound {a : Addr} {l : List PyData} {x : PyData} {v : Value} (c : CR prog w B s.heap (.d (.list l)) a) (hx : RD B v x) (hb : l.length < big)
    (hQ : ∀ h', CR prog w B h' (.d (.list (l ++ [x]))) a → Heap.SameBut a s.heap h' → Q .none { s with heap := h' }) : wpAny (model prog w) A (call (.builtin "list.append") [.ref a, v]) Q E s := by
  obtain ⟨vs, n, ho, hr⟩ := c
  have hlen := hr.length
  refine wpAny_list_append_plain ⟨n, ho⟩ (fun h' hp hs => hQ h' ?_ hs) (by rw [sizeLine_eq]; simp [big] at *; omega)
  obtain ⟨n', ho'⟩ := hp
  exact ⟨vs ++ [v], n', by rw [ho']; simp, hr.append (RDs.cons hx .nil)⟩
theorem pop_sound {a : Addr} {l : List PyData} {x : PyData} {t : Tok} (c : CR prog w B s.heap (.d (.list (x :: l))) a) (hb : l.length < big)
    (hQ : ∀ v h', RD B v x → CR prog w B h' (.d (.list l)) a → Heap.SameBut a s.heap h' → Q v { s with heap := h' }) : wpAny (model prog w) A (call (.builtin "list.pop") [.ref a, .int 0 t]) Q E s := by
  obtain ⟨vs, n, ho, hr⟩ := c
  obtain ⟨v, r, rfl, hv, hr⟩ := hr.uncons
  have hlen := hr.length
  refine wpAny_call (codeAny_call_builtin F.slot_list_pop.plain F.entry_list_pop (F.slot_list_pop.check _ _ _ _ _ _ _ _ ⟨_, ho, rfl⟩ (F.args_list_pop_2 _ _)
    ((MeetsSeq.list_pop_at a (List.toArray (v :: r)) n 0 t 0 v (by decide) (seqIndex_of (by decide) (by simp)) (by simp) (by rw [sizeLine_eq]; simp [big] at *; omega)) prog w A (wants Q E) s ⟨ho, ?_⟩)))
  refine hQ v _ hv ?_ (Heap.SameBut.update s.heap a _)
  refine ⟨r, n + 1, ?_, hr⟩
  rw [Heap.get?_update_self _ ho (by simp [Obj.mapSeq]; rfl)]
  simp [Obj.mapSeq]
theorem setItem_sound {a : Addr} {kvs : List (Str × PyData)} {k : Str} {x : PyData} {v : Value} {t : Tok} {Q : Unit → Shared → Prop} (c : CR prog w B s.heap (.m kvs) a) (hx : RD B v x) (hb : kvs.length < 900)
    (hQ : ∀ h', CR prog w B h' (.m (kput k x kvs)) a → Heap.SameBut a s.heap h' → Q () { s with heap := h', toks := s.toks + 1 }) : wpAny (model prog w) A (setItem (.ref a) (.str k t) v) Q E s := by
  obtain ⟨lo, es, hd, hp⟩ := c
  have hl : ∀ {es : List (Str × Value)} {kvs : List (Str × PyData)}, Prs B es kvs → es.length = kvs.length := by
    intro es kvs p; induction p <;> simp_all
  have hnd : (es.map (·.1)).Nodup := let ⟨_, _, _, _, _, _, _, _, h⟩ := hd; h
  refine wpAny_setItem_pairs (PySem.strKind_is prog w k t) hd (fun h' hd' hs => hQ h' ⟨lo, stored es k v, hd', ?_⟩ hs) (by rw [sizeLine_eq, hl hp]; omega)
  have map_id : ∀ (es : List (Str × Value)), k ∉ es.map (·.1) → (es.map fun kv => if kv.1 = k then (kv.1, v) else kv) = es := by
    intro es
    induction es with
    | nil => intro _; rfl
    | cons e r ih =>
      intro h
      simp only [List.map_cons, List.mem_cons, not_or] at h ⊢
      rw [if_neg fun q => h.1 q.symm, ih h.2]
  have key : ∀ {es : List (Str × Value)} {kvs : List (Str × PyData)}, Prs B es kvs → (es.map (·.1)).Nodup → Prs B (stored es k v) (kput k x kvs) := by
    intro es kvs p
    induction p with
    | nil => intro _; simp only [stored, List.any_nil, Bool.false_eq_true, if_false, List.nil_append, kput]; exact .cons hx .nil
    | @cons k' v' x' r q hr p ih =>
      intro hn
      simp only [List.map_cons, List.nodup_cons] at hn
      by_cases e : eqb k k' = true
      · have := eqb_iff.mp e; subst this
        have : stored ((k, v') :: r) k v = (k, v) :: r := by
          simp only [stored, List.any_cons, decide_true, Bool.true_or, if_true, List.map_cons, if_true]
          rw [map_id r hn.1]
        rw [this, kput, if_pos e]
        exact .cons hx p
      · have hne : ¬ (k' = k) := fun z => e (by rw [z]; exact eqb_refl _)
        have : stored ((k', v') :: r) k v = (k', v') :: stored r k v := by
          simp only [stored, List.any_cons, decide_eq_false hne, Bool.false_or, List.map_cons, if_neg hne]
          split <;> simp
        rw [this, kput, if_neg e]
        exact .cons hr (ih hn.2)
  exact key hp hnd
theorem add_sound {a : Addr} {ks : List Str} {k : Str} {t : Tok} (c : CR prog w B s.heap (.u ks) a) (hb : ks.length < 64)
    (hQ : ∀ h', CR prog w B h' (.u (addS ks k)) a → Heap.SameBut a s.heap h' → Q .none { s with heap := h', toks := s.toks + 1 }) : wpAny (model prog w) A (call (.builtin "set.add") [.ref a, .str k t]) Q E s := by
  obtain ⟨hS, nd⟩ := c
  refine call_set_add (PySem.strKind_is prog w k t) rfl hS (by unfold scanBound; omega) fun h' hs hS' => hQ h' ⟨SetOf_congr hS' (fun k' => ?_) ?_, ?_⟩ hs
  · rw [Bool.eq_iff_iff, Bool.or_eq_true, decide_eq_true_eq, elems_mem, elems_mem, mem_addS]
  · unfold addS; split <;> simp
  · unfold addS; split
    · exact nd
    · rename_i h
      have := elems_false.mp (by simpa using h)
      exact List.nodup_append.mpr ⟨nd, by simp, fun x hx y hy q => by rw [List.mem_singleton] at hy; subst hy; subst q; exact this hx⟩
end
end Mine
end

section
open PySem PySem.Calls PyProof.Rows
set_option Elab.async false
set_option linter.unusedVariables false
namespace Mine

/-! names -/
theorem notUnd_ne {x y : Str} (h : notUnd x = true) (hy : notUnd y = false) : (x == y) = false := by
  rw [beq_eq_false_iff_ne]; rintro rfl; rw [h] at hy; cases hy
theorem und_kd {names : List (Str × NameKind)} (h : undOk names = true) {x : Str} {k : NameKind} (e : lkp x names = some k) : isGlob (some k) = true ∨ notUnd x = true := by
  induction names with
  | nil => cases e
  | cons p r ih =>
    obtain ⟨y, k'⟩ := p
    simp only [undOk, List.all_cons, Bool.and_eq_true, Bool.or_eq_true] at h
    unfold lkp at e
    split at e
    · rename_i hx
      cases e
      rw [eqb_iff.mp hx]; exact h.1
    · exact ih h.2 e
theorem debug_und : notUnd ("__debug__" : Str) = false := by decide +kernel
theorem classdict_und : notUnd ("__classdict__" : Str) = false := by decide +kernel
theorem allDebug : (theDefs.all fun d => !(d.name == ("__debug__" : Str))) = true := by decide +kernel
theorem findDef_mem {f : Str} {d : Def} : ∀ {l : List Def}, findDef f l = some d → d ∈ l ∧ f = d.name
  | [], h => by cases h
  | e :: r, h => by
    unfold findDef at h
    split at h
    · cases h; rename_i hx; exact ⟨List.mem_cons_self, eqb_iff.mp hx⟩
    · obtain ⟨a, b⟩ := findDef_mem h; exact ⟨List.mem_cons_of_mem _ a, b⟩
theorem findDef_debug {f : Str} {d : Def} (h : findDef f theDefs = some d) : (f == ("__debug__" : Str)) = false := by
  obtain ⟨a, rfl⟩ := findDef_mem h
  have := List.all_eq_true.mp allDebug d a
  simpa using this
theorem globD_debug {x : Str} {v : PyData} (h : globD x = some v) : (x == ("__debug__" : Str)) = false := by
  unfold globD at h
  have key : ∀ y : Str, eqb x y = true → (y == ("__debug__" : Str)) = false → (x == ("__debug__" : Str)) = false := fun y e hy => by rw [eqb_iff.mp e]; exact hy
  split at h
  · exact key _ ‹_› (by decide)
  · split at h
    · exact key _ ‹_› (by decide)
    · split at h
      · exact key _ ‹_› (by decide)
      · cases h
theorem bltVal_debug {x : Str} {v : Value} (h : bltVal x = some v) : (x == ("__debug__" : Str)) = false := by
  unfold bltVal at h
  have key : ∀ y : Str, eqb x y = true → (y == ("__debug__" : Str)) = false → (x == ("__debug__" : Str)) = false := fun y e hy => by rw [eqb_iff.mp e]; exact hy
  repeat' (split at h)
  all_goals first | (cases h; done) | exact key _ ‹_› (by decide)

/-! what the parts of the evaluator promise -/
section
variable (prog : Program) (w : World) (mg mb : Str → Option Value)
/-- where a step may start -/
structure At (k : Nat) (A : Around) (sc : Scope) (F : Fx) (m cm : Str → Option Value) (ad : Str → Addr) (l : Loc) (B : Heap) (s : Shared) : Prop where
  a : AOk k A
  ok : EnvOk sc F.env
  rel : Rel prog w mg mb F m cm ad l B s
/-- where it may end -/
structure To (F : Fx) (m cm : Str → Option Value) (ad : Str → Addr) (l' : Loc) (B : Heap) (s : Shared) (B' : Heap) (s' : Shared) : Prop where
  sh : Sh s s'
  keep : B.StaysIn B'
  rel : Rel prog w mg mb F m cm ad l' B' s'
inductive VRs (B : Heap) : List AV → List Value → Prop
  | nil : VRs B [] []
  | cons {v val vs vals} : VR prog w B v val → VRs B vs vals → VRs B (v :: vs) (val :: vals)
noncomputable def CallV (F : Fx) (ad : Str → Addr) (l' : Loc) (B' : Heap) (s' : Shared) (v : AV) (b : Bool) (val : Value) : Prop :=
  match b with
  | false => VR prog w B' v val
  | true => ∃ a, val = .ref a ∧ OwnNew prog w F ad l' B' s' v a

variable (C : Oracle) (k : Nat)
noncomputable def PE (n : Nat) : Prop := ∀ {sc e l v l'}, evE C sc n e l = some (v, l') → ∀ {A E F m cm ad B s Q}, At prog w mg mb k A sc F m cm ad l B s →
  (∀ val s' B', To prog w mg mb F m cm ad l' B s B' s' → VR prog w B' v val → Q val s') → wpAny (model prog w) A (eval e F.env) Q E s
noncomputable def PI (n : Nat) : Prop := ∀ {sc e l v l'}, evI C sc n e l = some (v, l') → ∀ {A E F m cm ad B s Q}, At prog w mg mb k A sc F m cm ad l B s →
  (∀ val s' B', To prog w mg mb F m cm ad l' B s B' s' → IR B' s'.heap v val → Q val s') → wpAny (model prog w) A (eval e F.env) Q E s
noncomputable def PB (n : Nat) : Prop := ∀ {sc e l v l'}, evB C sc n e l = some (v, l') → ∀ {A E F m cm ad B s Q}, At prog w mg mb k A sc F m cm ad l B s →
  (∀ val s' B', To prog w mg mb F m cm ad l' B s B' s' → Seen prog w B' s'.heap v val → Q val s') → wpAny (model prog w) A (eval e F.env) Q E s
noncomputable def PEs (n : Nat) : Prop := ∀ {sc es l vs l'}, evEs C sc n es l = some (vs, l') → ∀ {A E F m cm ad B s Q} {pos : Pos}, At prog w mg mb k A sc F m cm ad l B s →
  (∀ vals s' B', To prog w mg mb F m cm ad l' B s B' s' → RDs B' vals vs → Q vals s') → wpAny (model prog w) A (spliced (backTo pos (starEach es F.env))) Q E s
noncomputable def PAs (n : Nat) : Prop := ∀ {sc es l vs l'}, evAs C sc n es l = some (vs, l') → ∀ {A E F m cm ad B s Q} {pos : Pos}, At prog w mg mb k A sc F m cm ad l B s →
  (∀ vals s' B', To prog w mg mb F m cm ad l' B s B' s' → VRs prog w B' vs vals → Q vals s') → wpAny (model prog w) A (spliced (backTo pos (starEach es F.env))) Q E s
noncomputable def PCall (n : Nat) : Prop := ∀ {sc e l v b l'}, evCall C sc n e l = some (v, b, l') → ∀ {A E F m cm ad B s Q}, At prog w mg mb k A sc F m cm ad l B s →
  (∀ val s' B', To prog w mg mb F m cm ad l' B s B' s' → CallV prog w F ad l' B' s' v b val → Q val s') → wpAny (model prog w) A (eval e F.env) Q E s
noncomputable def PT (n : Nat) : Prop := ∀ {sc e l b l'}, evT C sc n e l = some (b, l') → ∀ {A E F m cm ad B s} {Q : Bool → Shared → Prop}, At prog w mg mb k A sc F m cm ad l B s →
  (∀ s' B', To prog w mg mb F m cm ad l' B s B' s' → Q b s') → wpAny (model prog w) A (isTrue e F.env (eval e F.env)) Q E s
noncomputable def PTs (n : Nat) : Prop := ∀ {sc op es l b l'}, evTs C sc n op es l = some (b, l') → ∀ {A E F m cm ad B s} {Q : Bool → Shared → Prop}, At prog w mg mb k A sc F m cm ad l B s →
  (∀ s' B', To prog w mg mb F m cm ad l' B s B' s' → Q b s') → wpAny (model prog w) A (allTrue op es F.env) Q E s
structure CompC (F : Fx) (ad : Str → Addr) (l' : Loc) (B' : Heap) (s' : Shared) (D c : Addr) : Prop where
  noB : B'.get? c = none
  noK : F.K.get? c = none
  noF : ¬ F.Fb c
  noP : ¬ Priv F ad l' c
  ne : c ≠ D
  ns : ∃ m', s'.heap.Ns c m'
/-- a comprehension, and who takes its list -/
noncomputable def PComp (n : Nat) : Prop := ∀ {sc elt gens scope l vs l'}, evComp C sc n elt gens scope l = some (vs, l') → ∀ {A} {E : Value → Shared → Prop} {F m cm ad B s} {Q : Value → Shared → Prop} {use : Option (Value → Sem Unit)} {pos : Pos}, At prog w mg mb k A sc F m cm ad l B s →
  (∀ D c s' B', To prog w mg mb F m cm ad l' B s B' s' → OwnNew prog w F ad l' B' s' (.d (.list vs)) D → CompC F ad l' B' s' D c → compPost (model prog w) A E use Q (.ref D) c (.ok .next) s') →
  wpAny (model prog w) A (comprehension (.ListComp elt gens scope pos) scope F.env (firstIterPos gens pos) (newList []) (firstAsync gens) (firstIter gens F.env) use) Q E s
noncomputable def FlR (F : Fx) (ad : Str → Addr) (l' : Loc) (B' : Heap) (s' : Shared) : Fl → Flow → Prop
  | .next, f => f = .next
  | .cont, f => f = .cont
  | .ret v b, f => ∃ val, f = .ret val ∧ CallV prog w F ad l' B' s' v b val
noncomputable def PS (n : Nat) : Prop := ∀ {sc st l fl l'}, evS C sc n st l = some (fl, l') → ∀ {A} {E : Value → Shared → Prop} {F m cm ad B s} {Q : Flow → Shared → Prop}, At prog w mg mb k A sc F m cm ad l B s → StOk sc F →
  (∀ f s' B' m' cm' ad', To prog w mg mb F m' cm' ad' l' B s B' s' → FlR prog w F ad' l' B' s' fl f → Q f s') → wpAny (model prog w) A (exec st F.env) Q E s
noncomputable def PSs (n : Nat) : Prop := ∀ {sc st l fl l'}, evSs C sc n st l = some (fl, l') → ∀ {A} {E : Value → Shared → Prop} {F m cm ad B s} {Q : Flow → Shared → Prop}, At prog w mg mb k A sc F m cm ad l B s → StOk sc F →
  (∀ f s' B' m' cm' ad', To prog w mg mb F m' cm' ad' l' B s B' s' → FlR prog w F ad' l' B' s' fl f → Q f s') → wpAny (model prog w) A (execs st F.env) Q E s
/-- what is handed to a def, and what it hands back -/
noncomputable def InArgs (io : Bool) (B h : Heap) (vs : List AV) (vals : List Value) (x : Addr) : Prop :=
  match io with
  | false => VRs prog w B vs vals
  | true => ∃ v r rs, vs = v :: r ∧ vals = .ref x :: rs ∧ CR prog w B h v x ∧ B.get? x = none ∧ VRs prog w B r rs
structure Back (res : Res) (x : Addr) (B : Heap) (s : Shared) (val : Value) (B' : Heap) (s' : Shared) : Prop where
  sh : Sh s s'
  kB : B.StaysIn B'
  kB' : B'.StaysIn s'.heap
  keep : ∀ b o, (res.io.isSome = true → b ≠ x) → s.heap.get? b = some o → s'.heap.get? b = some o
  hnew : ∀ b o, B'.get? b = some o → B.get? b = some o ∨ s.heap.get? b = none
  val : match res.fresh with
    | false => VR prog w B' res.v val
    | true => ∃ a, val = .ref a ∧ CR prog w B' s'.heap res.v a ∧ B'.get? a = none ∧ s.heap.get? a = none
  io : ∀ v1, res.io = some v1 → CR prog w B' s'.heap v1 x
noncomputable def PC : Prop := ∀ {f args res}, C f args = some res → ∃ d, findDef f theDefs = some d ∧ ∀ {A} {E : Value → Shared → Prop} {s : Shared} {B : Heap} {a o pm code doc vals x} {Q : Value → Shared → Prop}, AOk k A → B.StaysIn s.heap → Gl mg mb B → B.get? a = some o →
  o.data = .func (docDef d.name d.params d.body d.scope pm code doc) → B.CodeRec code d.name → InArgs prog w (isInout f) B s.heap args vals x → (res.io.isSome = isInout f) →
  (∀ val s' B', Back prog w res x B s val B' s' → Q val s') → wpAny (model prog w) A (call (.ref a) vals) Q E s
end

section
variable {prog : Program} {w : World} {mg mb : Str → Option Value} {C : Oracle} {k : Nat} {F : Fx} {m cm : Str → Option Value} {ad : Str → Addr} {l l' l'' : Loc} {B B' B'' : Heap} {s s' s'' : Shared} {A : Around} {sc : Scope}
theorem To.refl (R : Rel prog w mg mb F m cm ad l B s) : To prog w mg mb F m cm ad l B s B s := ⟨Sh.refl s, fun _ _ e => e, R⟩
theorem To.trans {m' cm' ad'} (a : To prog w mg mb F m cm ad l' B s B' s') (b : To prog w mg mb F m' cm' ad' l'' B' s' B'' s'') : To prog w mg mb F m' cm' ad' l'' B s B'' s'' :=
  ⟨a.sh.trans b.sh, fun x o e => b.keep x o (a.keep x o e), b.rel⟩
theorem At.next {m' cm' ad'} (a : At prog w mg mb k A sc F m cm ad l B s) (t : To prog w mg mb F m' cm' ad' l' B s B' s') : At prog w mg mb k A sc F m' cm' ad' l' B' s' := ⟨a.a, a.ok, t.rel⟩
theorem Sh.toks (s : Shared) (tk : Nat) : Sh s { s with toks := tk } := ⟨s.heap, tk, rfl⟩
theorem To.toks (R : Rel prog w mg mb F m cm ad l B s) (tk : Nat) : To prog w mg mb F m cm ad l B s B { s with toks := tk } := ⟨Sh.toks s tk, fun _ _ e => e, R.keep (fun _ _ e => e)⟩
/-- what a rule hands on, taken into the read part -/
theorem To.ofPQ {r : AV} {Q : Value → Shared → Prop} (R : Rel prog w mg mb F m cm ad l B s) (h : ∀ val s' B', To prog w mg mb F m cm ad l B s B' s' → VR prog w B' r val → Q val s') : PQ prog w B s r Q := by
  intro val s' sh k hv
  obtain ⟨B', kB, R', hn⟩ := R.fresh k
  exact h val s' B' ⟨sh, kB, R'⟩ (hv B' ⟨kB, hn⟩)
/-- a new thing is only read from now on -/
theorem OwnNew.vr' {v : AV} {a : Addr} (R : Rel prog w mg mb F m cm ad l B s) (h : OwnNew prog w F ad l B s v a) : ∃ B', To prog w mg mb F m cm ad l B s B' s ∧ VR prog w B' v (.ref a) ∧ ∀ b, b ≠ a → B.get? b = none → B'.get? b = none := by
  obtain ⟨c, hB, hK, hF, hP⟩ := h
  obtain ⟨oa, hoa⟩ := c.there
  have kB : B.StaysIn (pick s.heap fun b => b ≠ a ∧ B.get? b = none) := fun b o q => pick_get.mpr ⟨R.keepB b o q, fun z => by rw [z.2] at q; cases q⟩
  refine ⟨pick s.heap fun b => b ≠ a ∧ B.get? b = none, ⟨Sh.refl s, kB, R.grow kB pick_stays fun b h1 h2 => ?_⟩, CR.vr (c.keeps kB fun _ o => o) fun o ho => pick_get.mpr ⟨ho, fun z => z.1 rfl⟩, fun b h1 h2 => pick_none ⟨h1, h2⟩⟩
  have : b = a := Classical.byContradiction fun q => h2 (pick_none ⟨q, h1⟩)
  subst this
  exact ⟨hF, hP⟩
theorem OwnNew.vr {v : AV} {a : Addr} (R : Rel prog w mg mb F m cm ad l B s) (h : OwnNew prog w F ad l B s v a) : ∃ B', To prog w mg mb F m cm ad l B s B' s ∧ VR prog w B' v (.ref a) :=
  let ⟨B', t, v, _⟩ := h.vr' R; ⟨B', t, v⟩
end
end Mine
end

section
open PySem PySem.Calls PyProof.Rows
set_option Elab.async false
set_option linter.unusedVariables false
namespace Mine
section
variable {prog : Program} {w : World} {mg mb : Str → Option Value} {C : Oracle} {k : Nat}
section
variable {F : Fx} {m cm : Str → Option Value} {ad : Str → Addr} {l l' l'' : Loc} {B B' B'' : Heap} {s s' s'' : Shared} {A : Around} {sc : Scope} {E : Value → Shared → Prop} {Q : Value → Shared → Prop}

theorem At.kindFn (a : At prog w mg mb k A sc F m cm ad l B s) : F.env.scope.kind = .function := by rw [a.ok.scope]; exact a.ok.kind
theorem name_slot {x : Str} {pos : Pos} {sl : Sl} (a : At prog w mg mb k A sc F m cm ad l B s) (hx : lkp x l = some sl)
    (h : ∀ val, slotv F.env m cm x = some val → SlR prog w B s.heap (ad x) sl val → Q val s) : wpAny (model prog w) A (eval (.Name x pos) F.env) Q E s := by
  obtain ⟨val, hv, hr⟩ := a.rel.slots x sl hx
  have hq := h val hv hr
  have hk := kd_kindOf a.ok x
  cases hkd : F.env.kindOf x with
  | none => simp [slotv, hkd] at hv
  | some kk =>
    rw [hkd] at hk
    have hu := und_kd a.ok.und hk.symm
    have hd : isGlob (some kk) = false → (x == ("__debug__" : Str)) = false := fun q => notUnd_ne (hu.resolve_left (by rw [q]; exact Bool.false_ne_true)) debug_und
    cases kk with
    | «local» =>
      simp only [slotv, hkd] at hv
      exact wpAny_Name (wpAny_loadName_local a.kindFn hkd a.rel.ns hv hq) (hd rfl)
    | cell =>
      simp only [slotv, hkd] at hv
      split at hv
      · rename_i hs
        obtain ⟨c, hc⟩ := Option.isSome_iff_exists.mp hs
        exact wpAny_Name (wpAny_loadName_cell a.kindFn hkd hc (hv ▸ a.rel.cl x c hc) hq) (hd rfl)
      · cases hv
    | free =>
      simp only [slotv, hkd] at hv
      split at hv
      · rename_i hs
        simp only [Bool.and_eq_true, Bool.not_eq_true'] at hs
        obtain ⟨c, hc⟩ := Option.isSome_iff_exists.mp hs.1
        exact wpAny_Name (wpAny_loadName_free a.kindFn hkd hc (hv ▸ a.rel.cl x c hc) hq hs.2) (hd rfl)
      · cases hv
    | _ => simp [slotv, hkd] at hv
theorem globKind {x : Str} (a : At prog w mg mb k A sc F m cm ad l B s) (h : isGlob (kd sc x) = true) : F.env.kindOf x = some .globalImplicit := by
  rw [kd_kindOf a.ok]
  cases q : kd sc x with
  | none => rw [q] at h; cases h
  | some kk => rw [q] at h; cases kk <;> first | rfl | cases h
theorem name_glob {x : Str} {pos : Pos} {v : Value} (a : At prog w mg mb k A sc F m cm ad l B s) (h : isGlob (kd sc x) = true) (hv : mg x = some v) (hd : (x == ("__debug__" : Str)) = false) (hQ : Q v s) :
    wpAny (model prog w) A (eval (.Name x pos) F.env) Q E s :=
  Name_function_global a.kindFn (globKind a h) (loadGlobal_global (by rw [a.ok.globals]; exact a.rel.gl.g.keeps a.rel.keepB) hv hQ) hd
theorem name_blt {x : Str} {pos : Pos} {v : Value} (a : At prog w mg mb k A sc F m cm ad l B s) (h : isGlob (kd sc x) = true) (hv : bltVal x = some v) (hQ : Q v s) :
    wpAny (model prog w) A (eval (.Name x pos) F.env) Q E s :=
  Name_function_global a.kindFn (globKind a h) (loadGlobal_builtin (by rw [a.ok.globals]; exact a.rel.gl.g.keeps a.rel.keepB) (a.rel.gl.blt x v hv).1 (by rw [a.ok.builtins]; exact a.rel.gl.b.keeps a.rel.keepB) (a.rel.gl.blt x v hv).2 hQ) (bltVal_debug hv)
theorem At.line (a : At prog w mg mb k A sc F m cm ad l B s) : A.units + 64 < cLine := by
  have := a.a.2.2
  show A.units + 64 < 9900
  omega
theorem At.handled (a : At prog w mg mb k A sc F m cm ad l B s) : A.handled = none := a.a.1
theorem const_sound {c : Const} {v : PyData} {kk : Nat} {pos : Pos} (h : constD c = some v) (hQ : ∀ val tk, (∀ B, RD B val v) → Q val { s with toks := tk }) : wpAny (model prog w) A (eval (.Constant c kk pos) F.env) Q E s := by
  cases c with
  | none => cases h; exact fun _ _ _ => hQ _ s.toks fun _ => rdNone
  | bool b => cases h; exact fun _ _ _ => hQ _ s.toks fun _ => rdBool
  | int i => cases h; exact fun _ _ _ => hQ _ _ fun _ => rdInt
  | str x => cases h; exact fun _ _ _ => hQ _ _ fun _ => rdStr
  | _ => cases h
theorem evE_plain {n : Nat} {e : Expr} {r : AV × Loc} (h : evE C sc n e l = some r) : plainE e = true := by
  cases n with
  | zero => cases h
  | succ n => cases e <;> first | rfl | exact no_none h
theorem evB_plain {n : Nat} {e : Expr} {r : AV × Loc} (h : evB C sc n e l = some r) : plainE e = true := by
  cases n with
  | zero => cases h
  | succ n => cases e <;> first | rfl | exact evE_plain h
theorem star_plain {e : Expr} {rest : List Expr} {env : Env} (h : plainE e = true) : starEach (e :: rest) env = (false, eval e env) :: starEach rest env := by
  cases e <;> first | rfl | cases h
theorem marks_plain {op : CmpOp} {e : Expr} (h : plainE e = true) : behindInMarks op e = false := by
  cases e <;> first | rfl | cases h
theorem folded_plain {e : Expr} {env : Env} (h : plainE e = true) (x : Value) : foldedSetIterable e env x = pure x := by
  cases e <;> first | rfl | cases h
theorem newList_val {vs : List PyData} {vals : List Value} (R : Rel prog w mg mb F m cm ad l B s) (hr : RDs B vals vs) (hz : vals.length ≤ sizeLine)
    (h : ∀ a s', Sh s s' → Rel prog w mg mb F m cm ad l B s' → OwnNew prog w F ad l B s' (.d (.list vs)) a → Q (.ref a) s') : wpAny (model prog w) A (newList vals) Q E s := by
  refine wpAny_newList (hsz := hz) ?_
  have k : s.heap.StaysIn (s.heap.push { cls := .type "list", data := .seq vals.toArray }) := push_stays _ _
  refine h _ _ ⟨_, s.toks, rfl⟩ (R.keep k) ⟨⟨vals, 0, Heap.get?_push_size _ rfl, hr⟩, ?_, ?_, fun f => ?_, fun p => ?_⟩
  · cases q : B.get? s.heap.objs.size with
    | none => rfl
    | some o => have := R.keepB _ _ q; rw [size_none] at this; cases this
  · cases q : F.K.get? s.heap.objs.size with
    | none => rfl
    | some o => have := R.keepK _ _ q; rw [size_none] at this; cases this
  · obtain ⟨o, ho⟩ := R.alive _ f; rw [size_none] at ho; cases ho
  · obtain ⟨o, ho⟩ := R.privAlive p; rw [size_none] at ho; cases ho
end
end
end Mine
end

section
open PySem PySem.Calls PyProof.Rows
set_option Elab.async false
set_option linter.unusedVariables false
namespace Mine
section
variable {prog : Program} {w : World} {mg mb : Str → Option Value} {C : Oracle} {k : Nat} {n : Nat}

theorem pe_name {sc : Scope} {x : Str} {pos : Pos} {l l' : Loc} {v : AV} (h : evE C sc (n + 1) (.Name x pos) l = some (v, l')) {A E F m cm ad B s Q} (a : At prog w mg mb k A sc F m cm ad l B s)
    (hQ : ∀ val s' B', To prog w mg mb F m cm ad l' B s B' s' → VR prog w B' v val → Q val s') : wpAny (model prog w) A (eval (.Name x pos) F.env) Q E s := by
  rw [evE_succ] at h; delta stE at h; dsimp only at h
  split at h
  · rename_i hx
    cases h
    exact name_slot a hx fun val _ hr => hQ _ _ _ (To.refl a.rel) hr
  · rename_i hx
    cases h
    obtain ⟨B', kB, R', hv⟩ := a.rel.freeze hx
    refine name_slot a hx fun val _ hr => ?_
    obtain ⟨rfl, _⟩ := hr
    exact hQ _ _ _ ⟨Sh.refl s, kB, R'⟩ hv
  · split at h
    · rename_i hg
      split at h
      · rename_i hgd
        cases h
        obtain ⟨val, hm, hr⟩ := a.rel.gl.con _ _ hgd
        exact name_glob a hg hm (globD_debug hgd) (hQ _ _ _ (To.refl a.rel) (hr _))
      · cases h
    · cases h

theorem pe_sub {sc : Scope} {b i : Expr} {pos : Pos} {l l' : Loc} {v : AV} (hE : PE prog w mg mb C k n) (hI : PI prog w mg mb C k n) (h : evE C sc (n + 1) (.Subscript b i pos) l = some (v, l')) {A E F m cm ad B s Q} (a : At prog w mg mb k A sc F m cm ad l B s)
    (hQ : ∀ val s' B', To prog w mg mb F m cm ad l' B s B' s' → VR prog w B' v val → Q val s') : wpAny (model prog w) A (eval (.Subscript b i pos) F.env) Q E s := by
  refine Subscript_ ?_
  have fin : ∀ {x : AV} {j : IdxV} {r : PyData} {val iv : Value} {s₂ : Shared} {B₂ : Heap}, subV x j = some r → v = .d r → To prog w mg mb F m cm ad l' B s B₂ s₂ → Seen prog w B₂ s₂.heap x val → IR B₂ s₂.heap j iv →
      wpAny (model prog w) A (subscriptTail b i val iv) Q E s₂ := by
    intro x j r val iv s₂ B₂ hs hv t hx hj
    subst hv
    exact sub_sound hs t.rel.keepB hx hj (To.ofPQ t.rel fun val' s₃ B₃ t₃ hr => hQ _ _ _ (t.trans t₃) hr)
  rw [evE_succ] at h; delta stE at h; dsimp only at h
  split at h
  · rename_i x px
    split at h
    · rename_i hbd
      obtain ⟨sl, hsl⟩ := Option.isSome_iff_exists.mp hbd
      split at h
      · rename_i j l1 hi
        refine name_slot a hsl fun val hval _ => ?_
        refine hI hi a fun iv s₁ B₁ t₁ hj => ?_
        split at h
        · rename_i av hx
          split at h
          · rename_i r hs
            cases h
            obtain ⟨val', h1, h2⟩ := t₁.rel.slots _ _ hx
            rw [hval] at h1; cases h1
            exact fin hs rfl t₁ (VR.seen t₁.rel.keepB h2) hj
          · cases h
        · rename_i av hx
          split at h
          · rename_i r hs
            cases h
            obtain ⟨val', h1, h2⟩ := t₁.rel.slots _ _ hx
            rw [hval] at h1; cases h1
            obtain ⟨rfl, h2⟩ := h2
            exact fin hs rfl t₁ h2.seen hj
          · cases h
        · cases h
      · cases h
    · cases h
  · rename_i hb
    split at h
    · rename_i av l1 he
      split at h
      · rename_i j l2 hi
        split at h
        · rename_i r hs
          cases h
          refine hE he a fun val s₁ B₁ t₁ hv => ?_
          refine hI hi (a.next t₁) fun iv s₂ B₂ t₂ hj => ?_
          exact fin hs rfl (t₁.trans t₂) (VR.seen t₂.rel.keepB (hv.keeps t₂.keep)) hj
        · cases h
      · cases h
    · cases h

theorem chg_one {F : Fx} {m cm : Str → Option Value} {ad : Str → Addr} {l : Loc} {B : Heap} {s : Shared} {c : Addr} {h' : Heap} (R : Rel prog w mg mb F m cm ad l B s) (hs : Heap.SameBut c s.heap h') (hB : B.get? c = none) (hK : F.K.get? c = none) (hF : ¬ F.Fb c) (hP : ¬ Priv F ad l c) :
    Rel prog w mg mb F m cm ad l B { s with heap := h' } :=
  R.chg (X := fun b => b = c) (s' := { s with heap := h' }) (fun b o e hb => (hs.2 b hb).trans e) (fun b hb => by subst hb; exact ⟨hK, hB, hP⟩) (fun b hb hf => by subst hb; exact absurd hf hF) (fun _ _ e => e)
    (fun b o e => (hs.2 b (fun q => by subst q; rw [hB] at e; cases e)).trans (R.keepB b o e)) fun _ _ e => .inl e

theorem pe_succ (hE : PE prog w mg mb C k n) (hB : PB prog w mg mb C k n) (hI : PI prog w mg mb C k n) (hEs : PEs prog w mg mb C k n) (hT : PT prog w mg mb C k n) (hCall : PCall prog w mg mb C k n) (hComp : PComp prog w mg mb C k n) : PE prog w mg mb C k (n + 1) := by
  intro sc e l v l' h A E F m cm ad B s Q a hQ
  have viaPQ : ∀ {r : AV} {s₂ : Shared} {B₂ : Heap} {l₂ : Loc}, l₂ = l' → v = r → To prog w mg mb F m cm ad l₂ B s B₂ s₂ → PQ prog w B₂ s₂ r Q := by
    intro r s₂ B₂ l₂ hl hv t
    subst hl; subst hv
    exact To.ofPQ t.rel fun val' s₃ B₃ t₃ hr => hQ _ _ _ (t.trans t₃) hr
  cases e with
  | Constant c kk pos =>
    rw [evE_succ] at h; delta stE at h; dsimp only at h
    split at h
    · rename_i hc
      cases h
      exact const_sound hc fun val tk hv => hQ _ _ _ (To.toks a.rel tk) (hv _)
    · cases h
  | Name x pos => exact pe_name h a hQ
  | BinOp x op y pos =>
    rw [evE_succ] at h; delta stE at h; dsimp only at h
    split at h
    · rename_i av l1 h1
      split at h
      · rename_i bv l2 h2
        split at h
        · rename_i r hr
          cases h
          refine wpAny_BinOp (hE h1 a fun val s₁ B₁ t₁ hv => ?_)
          refine hB h2 (a.next t₁) fun val₂ s₂ B₂ t₂ hv₂ => ?_
          exact binV_sound t₂.rel.keepB hr (VR.seen t₂.rel.keepB (hv.keeps t₂.keep)) hv₂ (viaPQ rfl rfl (t₁.trans t₂))
        · cases h
      · cases h
    · cases h
  | UnaryOp op x pos =>
    cases op <;> try exact no_none h
    cases x <;> try exact no_none h
    rename_i c kk p
    cases c <;> try exact no_none h
    rename_i i
    cases h
    refine wpAny_UnaryOp ?_
    refine const_sound (v := .int i) rfl fun val tk hv => ?_
    obtain ⟨t, rfl⟩ := RD.int (hv s.heap)
    exact neg_int (hQ _ _ _ (To.toks a.rel _) rdInt)
  | IfExp t b o pos =>
    rw [evE_succ] at h; delta stE at h; dsimp only at h
    split at h
    · rename_i l1 h1
      refine wpAny_IfExp (hT h1 a fun s₁ B₁ t₁ => ?_)
      simp only [if_true]
      exact hE h (a.next t₁) fun val s₂ B₂ t₂ hv => hQ _ _ _ (t₁.trans t₂) hv
    · rename_i l1 h1
      refine wpAny_IfExp (hT h1 a fun s₁ B₁ t₁ => ?_)
      simp only [Bool.false_eq_true, if_false]
      exact hE h (a.next t₁) fun val s₂ B₂ t₂ hv => hQ _ _ _ (t₁.trans t₂) hv
    · cases h
  | Compare x ops ys pos =>
    rcases ops with _ | ⟨op, _ | ⟨o2, os⟩⟩ <;> try exact no_none h
    rcases ys with _ | ⟨y, _ | ⟨y2, ys⟩⟩ <;> try exact no_none h
    rw [evE_succ] at h; delta stE at h; dsimp only at h
    focus
      split at h
      · rename_i av l1 h1
        split at h
        · rename_i bv l2 h2
          split at h
          · rename_i r hr
            cases h
            refine wpAny_Compare1 (hE h1 a fun val s₁ B₁ t₁ hv => ?_) (marks_plain (evB_plain h2))
            refine hB h2 (a.next t₁) fun val₂ s₂ B₂ t₂ hv₂ => ?_
            exact cmpV_sound a.line t₂.rel.keepB hr (VR.seen t₂.rel.keepB (hv.keeps t₂.keep)) hv₂ fun tk => hQ _ _ _ ((t₁.trans t₂).trans (To.toks t₂.rel tk)) rdBool
          · cases h
        · cases h
      · cases h
  | BoolOp op vs pos =>
    cases op <;> try exact no_none h
    rcases vs with _ | ⟨x, _ | ⟨y, _ | ⟨z, vs⟩⟩⟩ <;> try exact no_none h
    rw [evE_succ] at h; delta stE at h; dsimp only at h
    focus
      split at h
      · rename_i l1 h1
        split at h
        · rename_i r l2 h2
          cases h
          refine BoolOp_and (hE h1 a fun val s₁ B₁ t₁ hv => ?_)
          have hv' := RD.bool hv
          subst hv'
          refine wpAny_truthy_bool ?_
          simp only [if_true]
          refine BoolOp_one (hE h2 (a.next t₁) fun val s₂ B₂ t₂ hv => ?_)
          exact hQ _ _ _ (t₁.trans t₂) hv
        · cases h
      · rename_i l1 h1
        cases h
        refine BoolOp_and (hE h1 a fun val s₁ B₁ t₁ hv => ?_)
        have hv' := RD.bool hv
        subst hv'
        refine wpAny_truthy_bool ?_
        simp only [Bool.false_eq_true, if_false]
        exact hQ _ _ _ t₁ hv
      · cases h
  | List es pos =>
    rw [evE_succ] at h; delta stE at h; dsimp only at h
    split at h
    · rename_i vs l1 h1
      split at h
      · rename_i hz
        cases h
        refine List_ (hEs h1 a fun vals s₁ B₁ t₁ hr => ?_)
        refine newList_val t₁.rel hr (by rw [hr.length, sizeLine_eq]; simp [big] at hz; omega) fun x s₂ sh R₂ on => ?_
        obtain ⟨B₃, t₃, hv⟩ := on.vr R₂
        exact hQ _ _ _ (t₁.trans (To.trans ⟨sh, fun _ _ e => e, R₂⟩ t₃)) hv
      · cases h
    · cases h
  | Tuple es kk pos =>
    rw [evE_succ] at h; delta stE at h; dsimp only at h
    split at h
    · rename_i vs l1 h1
      split at h
      · rename_i hz
        cases h
        refine Tuple_ (hEs h1 a fun vals s₁ B₁ t₁ hr => ?_)
        refine wpAny_newTuple (hsz := by rw [hr.length, sizeLine_eq]; simp [big] at hz; omega) ?_
        refine viaPQ rfl rfl t₁ _ _ ⟨_, s₁.toks, rfl⟩ (push_stays _ _) fun B' nw => ?_
        exact rdTuple (nw.2 _ _ (size_none _) (Heap.get?_push_size _ rfl)) rfl rfl (by simpa using hr.keeps nw.1)
      · cases h
    · cases h
  | Call f args kws pos =>
    cases kws <;> try exact no_none h
    rw [evE_succ] at h; delta stE at h; dsimp only at h
    focus
      split at h
      · rename_i r b l1 h1
        cases h
        refine hCall h1 a fun val s₁ B₁ t₁ hc => ?_
        cases b with
        | false => exact hQ _ _ _ t₁ hc
        | true =>
          obtain ⟨x, rfl, on⟩ := hc
          obtain ⟨B₂, t₂, hv⟩ := on.vr t₁.rel
          exact hQ _ _ _ (t₁.trans t₂) hv
      · cases h
  | Subscript b i pos => exact pe_sub hE hI h a hQ
  | ListComp elt gens scope pos =>
    rw [evE_succ] at h; delta stE at h; dsimp only at h
    split at h
    · rename_i vs l1 h1
      cases h
      rw [eval_ListComp]
      refine hComp (use := none) h1 a fun D c s₁ B₁ t₁ on cc => ?_
      obtain ⟨m', hm'⟩ := cc.ns
      refine ⟨m', hm', fun h' hs' => ?_⟩
      have R₂ := chg_one t₁.rel hs' cc.noB cc.noK cc.noF cc.noP
      have on₂ : OwnNew prog w F ad l' B₁ { s₁ with heap := h' } (.d (.list vs)) D := by
        obtain ⟨c1, c2, c3, c4, c5⟩ := on
        exact ⟨c1.keeps (fun _ _ e => e) fun o e => (hs'.2 D (fun q => cc.ne q.symm)).trans e, c2, c3, c4, c5⟩
      obtain ⟨B₃, t₃, hv⟩ := on₂.vr R₂
      exact hQ _ _ _ (t₁.trans (To.trans ⟨⟨h', s₁.toks, rfl⟩, fun _ _ e => e, R₂⟩ t₃)) hv
    · cases h
  | _ => exact no_none h
end
end Mine
end

section
open PySem PySem.Calls PyProof.Rows
set_option Elab.async false
set_option linter.unusedVariables false
namespace Mine
theorem stars {args : List Expr} {env : Env} {pos : Pos} (h : args.all plainE = true) : (backTo pos (starEach args env)).any (·.1) = false ∧ (backTo pos (starEach args env)).all (!·.1) = true := by
  induction args with
  | nil => exact ⟨rfl, rfl⟩
  | cons e r ih =>
    simp only [List.all_cons, Bool.and_eq_true] at h
    obtain ⟨i1, i2⟩ := ih h.2
    rw [star_plain h.1]
    exact ⟨by show (false || (backTo pos (starEach r env)).any (·.1)) = false; rw [i1]; rfl, by show (true && (backTo pos (starEach r env)).all (!·.1)) = true; rw [i2]; rfl⟩
theorem method_eq {o : Expr} {args : List Expr} {f : Str} {q pos : Pos} {env : Env} (ho : ∀ g as ks p, o ≠ .Call g as ks p) (ha : args.all plainE = true) (hl : args.length < 30) (hq : (q.endLine == pos.line) = true) :
    eval (.Call (.Attribute o f q) args [] pos) env = (do
      let ov ← eval o env
      standAt q.atName
      let (g, first) ← holding [ov] (getMethod ov f (do return (← importBound o env).getD true))
      callWith pos g first (backTo pos (starEach args env)) []) := by
  have h1 : attributeBase o f env (eval o env) = eval o env := by
    cases o <;> first | rfl | exact absurd rfl (ho _ _ _ _)
  have h2 : methodCallForm args.length (backTo pos (starEach args env)) [] = true := by
    unfold methodCallForm
    rw [(stars ha).2]
    simpa using hl
  show (do let ov ← attributeBase o f env (eval o env); standAt q.atName; methodCall o f q pos env ov (args.length + 0) (backTo pos (starEach args env)) []) = _
  rw [h1]
  unfold methodCall
  rw [Nat.add_zero, h2]
  unfold methodCallPos calleeOf
  rw [hq]
  rfl
section
variable {prog : Program} {w : World} {mg mb : Str → Option Value} {C : Oracle} {k : Nat} {n : Nat}

theorem evEs_plain {sc : Scope} : ∀ {n : Nat} {es : List Expr} {l l' : Loc} {vs : List PyData}, evEs C sc n es l = some (vs, l') → es.all plainE = true ∧ es.length = vs.length
  | 0, es, l, l', vs, h => by exact no_none h
  | n + 1, [], l, l', vs, h => by rw [evEs_succ] at h; delta stEs at h; dsimp only at h; cases h; exact ⟨rfl, rfl⟩
  | n + 1, e :: r, l, l', vs, h => by
    rw [evEs_succ] at h; delta stEs at h; dsimp only at h
    split at h
    · rename_i v l1 h1
      split at h
      · rename_i vs' l2 h2
        cases h
        obtain ⟨a, b⟩ := evEs_plain h2
        exact ⟨by rw [List.all_cons, evE_plain h1, a]; rfl, by simp [b]⟩
      · cases h
    · cases h
theorem evAs_plain {sc : Scope} : ∀ {n : Nat} {es : List Expr} {l l' : Loc} {vs : List AV}, evAs C sc n es l = some (vs, l') → es.all plainE = true ∧ es.length = vs.length
  | 0, es, l, l', vs, h => by exact no_none h
  | n + 1, [], l, l', vs, h => by rw [evAs_succ] at h; delta stAs at h; dsimp only at h; cases h; exact ⟨rfl, rfl⟩
  | n + 1, e :: r, l, l', vs, h => by
    rw [evAs_succ] at h; delta stAs at h; dsimp only at h
    split at h
    · rename_i v l1 h1
      split at h
      · rename_i vs' l2 h2
        cases h
        obtain ⟨a, b⟩ := evAs_plain h2
        exact ⟨by rw [List.all_cons, evE_plain h1, a]; rfl, by simp [b]⟩
      · cases h
    · cases h

theorem pi_succ (hE : PE prog w mg mb C k n) : PI prog w mg mb C k (n + 1) := by
  intro sc e l v l' h A E F m cm ad B s Q a hQ
  have slice : ∀ {s₁ : Shared} {B₁ : Heap} {d : Data}, To prog w mg mb F m cm ad l' B s B₁ s₁ → To prog w mg mb F m cm ad l' B s B₁ { s₁ with heap := s₁.heap.push { cls := .type "slice", data := d } } := fun t =>
    t.trans ⟨⟨_, _, rfl⟩, fun _ _ e => e, t.rel.keep (push_stays _ _)⟩
  have other : ∀ {e : Expr}, (match evE C sc n e l with | some (.d j, l1) => some (IdxV.at j, l1) | _ => none) = some (v, l') → wpAny (model prog w) A (eval e F.env) Q E s := by
    intro e h
    split at h
    · rename_i j l1 h1
      cases h
      exact hE h1 a fun val s₁ B₁ t₁ hv => hQ _ _ _ t₁ hv
    · cases h
  cases e <;> first | exact other h | skip
  rename_i lo up st pos
  cases st <;> cases lo <;> cases up <;> try exact no_none h
  all_goals (rw [evI_succ] at h; delta stI at h; dsimp only at h)
  · split at h
    · rename_i j l1 h1
      cases h
      refine wpAny_Slice (wpAny_pure ?_)
      refine hE h1 a fun val s₁ B₁ t₁ hv => ?_
      obtain ⟨t, rfl⟩ := RD.int hv
      refine wpAny_pure ?_
      exact hQ _ _ _ (slice t₁) ⟨_, t, rfl, Heap.get?_push_size _ rfl⟩
    · cases h
  · split at h
    · rename_i j l1 h1
      cases h
      refine wpAny_Slice ?_
      refine hE h1 a fun val s₁ B₁ t₁ hv => ?_
      obtain ⟨t, rfl⟩ := RD.int hv
      refine wpAny_pure (wpAny_pure ?_)
      exact hQ _ _ _ (slice t₁) ⟨_, t, rfl, Heap.get?_push_size _ rfl⟩
    · cases h

theorem pb_succ (hE : PE prog w mg mb C k n) : PB prog w mg mb C k (n + 1) := by
  intro sc e l v l' h A E F m cm ad B s Q a hQ
  rw [evB_succ] at h; delta stB at h
  split at h
  · split at h
    · rename_i hx
      cases h
      refine name_slot a hx fun val _ hr => ?_
      obtain ⟨rfl, hr⟩ := hr
      exact hQ _ _ _ (To.refl a.rel) hr.seen
    · exact hE h a fun val s₁ B₁ t₁ hv => hQ _ _ _ t₁ (VR.seen t₁.rel.keepB hv)
  · exact hE h a fun val s₁ B₁ t₁ hv => hQ _ _ _ t₁ (VR.seen t₁.rel.keepB hv)

theorem pes_succ (hE : PE prog w mg mb C k n) (hEs : PEs prog w mg mb C k n) : PEs prog w mg mb C k (n + 1) := by
  intro sc es l vs l' h A E F m cm ad B s Q pos a hQ
  cases es with
  | nil =>
    rw [evEs_succ] at h; delta stEs at h; dsimp only at h; cases h
    exact args_nil (hQ _ _ _ (To.refl a.rel) .nil)
  | cons e r =>
    rw [evEs_succ] at h; delta stEs at h; dsimp only at h
    split at h
    · rename_i v l1 h1
      split at h
      · rename_i vs' l2 h2
        cases h
        refine args_cons (hE h1 a fun val s₁ B₁ t₁ hv => ?_) (star_plain (evE_plain h1))
        refine hEs h2 (a.next t₁) fun vals s₂ B₂ t₂ hr => ?_
        exact hQ _ _ _ (t₁.trans t₂) (.cons (hv.keeps t₂.keep) hr)
      · cases h
    · cases h
theorem pas_succ (hE : PE prog w mg mb C k n) (hAs : PAs prog w mg mb C k n) : PAs prog w mg mb C k (n + 1) := by
  intro sc es l vs l' h A E F m cm ad B s Q pos a hQ
  cases es with
  | nil =>
    rw [evAs_succ] at h; delta stAs at h; dsimp only at h; cases h
    exact args_nil (hQ _ _ _ (To.refl a.rel) .nil)
  | cons e r =>
    rw [evAs_succ] at h; delta stAs at h; dsimp only at h
    split at h
    · rename_i v l1 h1
      split at h
      · rename_i vs' l2 h2
        cases h
        refine args_cons (hE h1 a fun val s₁ B₁ t₁ hv => ?_) (star_plain (evE_plain h1))
        refine hAs h2 (a.next t₁) fun vals s₂ B₂ t₂ hr => ?_
        exact hQ _ _ _ (t₁.trans t₂) (.cons (hv.keeps t₂.keep) hr)
      · cases h
    · cases h

theorem pt_succ (hE : PE prog w mg mb C k n) (hB : PB prog w mg mb C k n) (hT : PT prog w mg mb C k n) (hTs : PTs prog w mg mb C k n) : PT prog w mg mb C k (n + 1) := by
  intro sc e l b l' h A E F m cm ad B s Q a hQ
  have whole : ∀ {e : Expr}, (match evB C sc n e l with | some (v, l1) => (match truthV v with | some b => some (b, l1) | none => none) | none => none) = some (b, l') →
      isTrue e F.env (eval e F.env) = (do let v ← eval e F.env; standAt e.pos; holding [v] (truthy v)) → wpAny (model prog w) A (isTrue e F.env (eval e F.env)) Q E s := by
    intro e h he
    split at h
    · rename_i v l1 h1
      split at h
      · rename_i b' hb
        cases h
        refine wpAny_isTrue_value (hB h1 a fun val s₁ B₁ t₁ hv => ?_) he
        exact truthV_sound hb hv fun tk => hQ _ _ (t₁.trans (To.toks t₁.rel tk))
      · cases h
    · cases h
  cases e with
  | UnaryOp op x pos =>
    cases op with
    | Not =>
      rw [evT_succ] at h; delta stT at h; dsimp only at h
      split at h
      · rename_i b' l1 h1
        cases h
        exact wpAny_isTrue_Not (hT h1 a fun s₁ B₁ t₁ => hQ _ _ t₁)
      · cases h
    | _ => exact whole h rfl
  | BoolOp op vs pos =>
    exact wpAny_isTrue_BoolOp (hTs h a fun s₁ B₁ t₁ => hQ _ _ t₁)
  | IfExp => exact no_none h
  | Compare x ops ys pos =>
    rcases ops with _ | ⟨o1, _ | ⟨o2, _ | ⟨o3, os⟩⟩⟩ <;> try exact no_none h
    all_goals (rcases ys with _ | ⟨y, _ | ⟨z, _ | ⟨y3, ys⟩⟩⟩ <;> try exact no_none h)
    all_goals (rw [evT_succ] at h; delta stT at h; dsimp only at h)
    rotate_left
    focus
      split at h
      case isFalse => cases h
      rename_i hpl
      split at h
      · rename_i av l1 h1
        split at h
        · rename_i bv l2 h2
          refine isTrue_chain (hE h1 a fun val s₁ B₁ t₁ hv => ?_) ?hm
          refine test_link (hE h2 (a.next t₁) fun val₂ s₂ B₂ t₂ hv₂ => ?_)
          have t12 := t₁.trans t₂
          split at h
          · rename_i hc
            split at h
            · rename_i cv l3 h3
              split at h
              · rename_i r hr
                cases h
                refine cmpV_sound a.line t₂.rel.keepB hc (VR.seen t₂.rel.keepB (hv.keeps t₂.keep)) (VR.seen t₂.rel.keepB hv₂) fun tk => ?_
                refine wpAny_truthy_bool ?_
                simp only [if_true]
                have t3 := t12.trans (To.toks t₂.rel tk)
                refine test_last (hE h3 (a.next t3) fun val₃ s₃ B₃ t₃ hv₃ => ?_)
                refine cmpV_sound a.line t₃.rel.keepB hr (VR.seen t₃.rel.keepB (hv₂.keeps t₃.keep)) (VR.seen t₃.rel.keepB hv₃) fun tk => ?_
                exact wpAny_truthy_bool (hQ _ _ ((t3.trans t₃).trans (To.toks t₃.rel tk)))
              · cases h
            · cases h
          · rename_i hc
            cases h
            refine cmpV_sound a.line t₂.rel.keepB hc (VR.seen t₂.rel.keepB (hv.keeps t₂.keep)) (VR.seen t₂.rel.keepB hv₂) fun tk => ?_
            refine wpAny_truthy_bool ?_
            simp only [Bool.false_eq_true, if_false]
            exact hQ _ _ (t12.trans (To.toks t₂.rel tk))
          · cases h
          case hm => exact marks_plain hpl
        · cases h
      · cases h
    focus
      split at h
      · rename_i av l1 h1
        split at h
        · rename_i bv l2 h2
          split at h
          · rename_i r hr
            cases h
            refine wpAny_isTrue_Compare1 (hE h1 a fun val s₁ B₁ t₁ hv => ?_) (marks_plain (evB_plain h2))
            refine hB h2 (a.next t₁) fun val₂ s₂ B₂ t₂ hv₂ => ?_
            refine cmpV_sound a.line t₂.rel.keepB hr (VR.seen t₂.rel.keepB (hv.keeps t₂.keep)) hv₂ fun tk => ?_
            exact wpAny_truthy_bool (hQ _ _ ((t₁.trans t₂).trans (To.toks t₂.rel tk)))
          · cases h
        · cases h
      · cases h
  | _ => exact whole h rfl

theorem pts_succ (hT : PT prog w mg mb C k n) (hTs : PTs prog w mg mb C k n) : PTs prog w mg mb C k (n + 1) := by
  intro sc op es l b l' h A E F m cm ad B s Q a hQ
  cases es with
  | nil =>
    rw [evTs_succ] at h; delta stTs at h; dsimp only at h
    cases op with
    | And => cases h; exact wpAny_allTrue_And_nil (hQ _ _ (To.refl a.rel))
    | Or => cases h; exact wpAny_allTrue_Or_nil (hQ _ _ (To.refl a.rel))
  | cons x r =>
    rw [evTs_succ] at h; delta stTs at h; dsimp only at h
    split at h
    · rename_i b1 l1 h1
      cases op with
      | And =>
        refine wpAny_allTrue_And_cons (hT h1 a fun s₁ B₁ t₁ => ?_)
        cases b1 with
        | true => exact hTs h (a.next t₁) fun s₂ B₂ t₂ => hQ _ _ (t₁.trans t₂)
        | false => cases h; exact hQ _ _ t₁
      | Or =>
        refine wpAny_allTrue_Or_cons (hT h1 a fun s₁ B₁ t₁ => ?_)
        cases b1 with
        | true => cases h; exact hQ _ _ t₁
        | false => exact hTs h (a.next t₁) fun s₂ B₂ t₂ => hQ _ _ (t₁.trans t₂)
    · cases h
end
end Mine
end

section
open PySem PySem.Calls PyProof.Rows
set_option Elab.async false
set_option linter.unusedVariables false
namespace Mine
section
variable {prog : Program} {w : World} {mg mb : Str → Option Value} {C : Oracle} {k : Nat} {n : Nat}

theorem blt_has {f : Str} (h : builtinNames.any (fun b => eqb f b) = true) : ∃ c, bltVal f = some c ∧ ((∃ id, c = .builtin id) ∨ ∃ T, c = .type T) := by
  simp only [builtinNames, List.any_cons, List.any_nil, Bool.or_eq_true, Bool.or_false] at h
  unfold bltVal
  repeat' split
  all_goals first | exact ⟨_, rfl, .inl ⟨_, rfl⟩⟩ | exact ⟨_, rfl, .inr ⟨_, rfl⟩⟩ | skip
  simp_all
theorem callWith_T {M : Model} {A : Around} {E : Value → Shared → Prop} {s : Shared} {env : Env} {pos : Pos} {T : String} {e : Expr} {rest : List Expr} {Q : Value → Shared → Prop}
    (h : wpAny M A (spliced (backTo pos (starEach (e :: rest) env))) (fun vs s₁ => wpAny M A (call (.type T) vs) Q E s₁) E s)
    (he : starEach (e :: rest) env = (false, eval e env) :: starEach rest env) (hplain : (backTo pos (starEach rest env)).any (·.1) = false) :
    wpAny M A (callWith pos (.type T) [] (backTo pos (starEach (e :: rest) env)) []) Q E s := by
  rw [he] at h ⊢
  exact PySem.callWith_type (by show (false || (backTo pos (starEach rest env)).any (·.1)) = false; rw [hplain]; rfl) (evalArgs_plain h)
/-- the call of a def -/
theorem callWith_F {M : Model} {A : Around} {E : Value → Shared → Prop} {s : Shared} {env : Env} {pos : Pos} {a : Addr} {o : Obj} {fd : FuncData} {args : List Expr} {Q : Value → Shared → Prop} (hd : o.data = .func fd) (hp : args.all plainE = true)
    (h : wpAny M A (spliced (backTo pos (starEach args env))) (fun vs s₁ => s₁.heap.get? a = some o ∧ wpAny M A (call (.ref a) vs) Q E s₁) E s) :
    wpAny M A (callWith pos (.ref a) [] (backTo pos (starEach args env)) []) Q E s := by
  cases args with
  | nil =>
    refine callWith_function (args := []) (o := o) (fd := fd) ?_
    unfold evalArgs
    show wpAny M A (spliced [] >>= _) _ E s
    refine wpAny_bind (wpAny_mono h (fun vs s' h' => ?_) fun _ _ x => x)
    refine wpAny_holding ?_
    exact wpAny_bind (wpAny_pure (wpAny_bind (wpAny_pure (wpAny_pure ⟨⟨h'.1, hd⟩, h'.2⟩))))
  | cons e r =>
    simp only [List.all_cons, Bool.and_eq_true] at hp
    exact callWith_def hd h (star_plain hp.1)

theorem pcall_succ (hC : PC prog w mg mb C k) (hB : PB prog w mg mb C k n) (hEs : PEs prog w mg mb C k n) (hAs : PAs prog w mg mb C k n) : PCall prog w mg mb C k (n + 1) := by
  intro sc e l v b l' h A E F m cm ad B s Q a hQ
  have viaPQ : ∀ {r : AV} {s₂ : Shared} {B₂ : Heap} {l₂ : Loc}, l₂ = l' → v = r → b = false → To prog w mg mb F m cm ad l₂ B s B₂ s₂ → PQ prog w B₂ s₂ r Q := by
    intro r s₂ B₂ l₂ hl hv hb t
    subst hl; subst hv; subst hb
    exact To.ofPQ t.rel fun val' s₃ B₃ t₃ hr => hQ _ _ _ (t.trans t₃) hr
  cases e <;> try exact no_none h
  rename_i fe args kws pos
  cases fe <;> try exact no_none h
  case' Attribute b f q => cases b <;> try exact no_none h
  all_goals (cases kws <;> try exact no_none h)
  all_goals (rw [evCall_succ] at h; delta stCall at h; try dsimp only at h)
  rotate_left 2
  · rename_i f p
    split at h
    case isFalse => cases h
    rename_i hg
    split at h
    · rename_i hio
      split at h
      case h_2 => cases h
      rename_i x px rest
      split at h
      case isFalse => cases h
      rename_i hbd
      obtain ⟨sl, hsl⟩ := Option.isSome_iff_exists.mp hbd
      split at h
      case h_2 => cases h
      rename_i vs l1 h1
      split at h
      case h_2 => cases h
      rename_i v0 hx
      split at h
      case h_2 => cases h
      rename_i r v1 hc
      cases h
      obtain ⟨d, hfd, hcall⟩ := hC hc
      obtain ⟨fa, o, pm, code, doc, hmf, hfo, hod, hcode⟩ := a.rel.gl.defs f d hfd
      refine Call_ (name_glob a hg hmf (findDef_debug hfd) ?_) rfl
      have hpl : (Expr.Name x px :: rest).all plainE = true := by rw [List.all_cons, (evAs_plain h1).1]; rfl
      refine callWith_F hod hpl (args_cons (name_slot a hsl fun val hval _ => ?_) rfl)
      refine hAs h1 a fun vals s₁ B₁ t₁ hvs => ?_
      refine ⟨t₁.rel.keepB _ _ (t₁.keep _ _ hfo), ?_⟩
      obtain ⟨val', e1, e2⟩ := t₁.rel.slots x _ hx
      rw [hval] at e1; cases e1
      obtain ⟨rfl, hcr⟩ := e2
      refine hcall a.a t₁.rel.keepB t₁.rel.gl (t₁.keep _ _ hfo) hod (hcode.keeps t₁.keep) (x := ad x) ?_ (by rw [hio]; rfl) fun val s₂ B₂ bk => ?_
      · rw [hio]
        exact ⟨v0, vs, vals, rfl, rfl, hcr, t₁.rel.privB _ (.inr (.inr ⟨x, v0, hx, rfl⟩)), hvs⟩
      · have R₂ := t₁.rel.mut hx (s' := s₂) (B' := B₂) (fun b o hb e => bk.keep b o (fun _ => hb) e) bk.kB bk.kB' bk.hnew (bk.io _ rfl)
        exact hQ _ _ _ (t₁.trans ⟨bk.sh, bk.kB, R₂⟩) bk.val
    · rename_i hio
      have hio' : isInout f = false := by simpa using hio
      split at h
      · rename_i hbn
        obtain ⟨c, hc, hkind⟩ := blt_has hbn
        split at h
        case h_2 => cases h
        rename_i x
        split at h
        case h_2 => cases h
        rename_i xv l1 h1
        split at h
        case h_2 => cases h
        rename_i r hr
        cases h
        refine Call_ (name_blt a hg hc ?_) rfl
        have fin : wpAny (model prog w) A (spliced (backTo pos (starEach [x] F.env))) (fun vs s₁ => wpAny (model prog w) A (call c vs) Q E s₁) E s := by
          refine args_cons (hB h1 a fun val s₁ B₁ t₁ hv => args_nil ?_) (star_plain (evB_plain h1))
          exact bltV_sound a.handled t₁.rel.keepB hr hc hv (viaPQ rfl rfl rfl t₁)
        rcases hkind with ⟨id, rfl⟩ | ⟨T, rfl⟩
        · exact callWith_builtin1 fin (star_plain (evB_plain h1)) rfl
        · exact callWith_T fin (star_plain (evB_plain h1)) rfl
      · split at h
        case h_2 => cases h
        rename_i vs l1 h1
        split at h
        case h_2 => cases h
        rename_i r rb hc
        cases h
        obtain ⟨d, hfd, hcall⟩ := hC hc
        obtain ⟨fa, o, pm, code, doc, hmf, hfo, hod, hcode⟩ := a.rel.gl.defs f d hfd
        refine Call_ (name_glob a hg hmf (findDef_debug hfd) ?_) rfl
        refine callWith_F hod (evAs_plain h1).1 ?_
        refine hAs h1 a fun vals s₁ B₁ t₁ hvs => ?_
        refine ⟨t₁.rel.keepB _ _ (t₁.keep _ _ hfo), ?_⟩
        refine hcall a.a t₁.rel.keepB t₁.rel.gl (t₁.keep _ _ hfo) hod (hcode.keeps t₁.keep) (x := 0) (by rw [hio']; exact hvs) (by rw [hio']; rfl) fun val s₂ B₂ bk => ?_
        have hk : s₁.heap.StaysIn s₂.heap := fun b o e => bk.keep b o (fun q => by cases q) e
        have R₂ := t₁.rel.after hk bk.kB bk.kB' bk.hnew
        refine hQ _ _ _ (t₁.trans ⟨bk.sh, bk.kB, R₂⟩) ?_
        have hv := bk.val
        cases b with
        | false => exact hv
        | true =>
          obtain ⟨y, rfl, c1, c2, c3⟩ := hv
          refine ⟨y, rfl, c1, c2, ?_, fun f => ?_, fun p => ?_⟩
          · cases q : F.K.get? y with
            | none => rfl
            | some o' => have := t₁.rel.keepK _ _ q; rw [c3] at this; cases this
          · obtain ⟨o', ho'⟩ := t₁.rel.alive _ f; rw [c3] at ho'; cases ho'
          · obtain ⟨o', ho'⟩ := t₁.rel.privAlive p; rw [c3] at ho'; cases ho'
  · rename_i c kk p
    split at h
    case isFalse => cases h
    rename_i hq
    split at h
    case h_2 => cases h
    rename_i cv hc
    split at h
    case h_2 => cases h
    rename_i vs l1 h1
    split at h
    case h_2 => cases h
    rename_i r hr
    cases h
    obtain ⟨hpl, hlen⟩ := evEs_plain h1
    have hl2 : vs.length = 1 ∨ vs.length = 2 := by
      unfold mthV at hr
      split at hr <;> simp_all
    cases args with
    | nil => simp at hlen; omega
    | cons e0 er =>
      rw [List.length_cons] at hlen
      have hpl' := hpl
      simp only [List.all_cons, Bool.and_eq_true] at hpl'
      refine MethodCall_ ?_ (method_eq (fun _ _ _ _ => nofun) hpl (by rw [List.length_cons]; omega) hq)
      refine const_sound hc fun val tk hv => ?_
      refine mth_get (B := B) hr (VR.seen a.rel.keepB (hv B)) ?_
      refine callWith_method1 ?_ (star_plain hpl'.1) (stars hpl'.2).1
      refine hEs h1 (a.next (To.toks a.rel tk)) fun vals s₁ B₁ t₁ hrs => ?_
      exact mth_call hr t₁.rel.keepB (VR.seen t₁.rel.keepB (hv B₁)) hrs (viaPQ rfl rfl rfl ((To.toks a.rel tk).trans t₁))
  · rename_i x px
    split at h
    case isFalse => cases h
    rename_i hq
    split at h
    · rename_i ov hx
      split at h
      case h_2 => cases h
      rename_i vs l1 h1
      split at h
      case h_2 => cases h
      rename_i r hr
      cases h
      obtain ⟨hpl, hlen⟩ := evEs_plain h1
      have hl2 : vs.length = 1 ∨ vs.length = 2 := by
        unfold mthV at hr
        split at hr <;> simp_all
      cases args with
      | nil => simp at hlen; omega
      | cons e0 er =>
        rw [List.length_cons] at hlen
        have hpl' := hpl
        simp only [List.all_cons, Bool.and_eq_true] at hpl'
        refine MethodCall_ ?_ (method_eq (fun _ _ _ _ => nofun) hpl (by rw [List.length_cons]; omega) hq)
        refine name_slot a hx fun val _ hv => ?_
        refine mth_get (B := B) hr (VR.seen a.rel.keepB hv) ?_
        refine callWith_method1 ?_ (star_plain hpl'.1) (stars hpl'.2).1
        refine hEs h1 a fun vals s₁ B₁ t₁ hrs => ?_
        exact mth_call hr t₁.rel.keepB (VR.seen t₁.rel.keepB (VR.keeps t₁.keep hv)) hrs (viaPQ rfl rfl rfl t₁)
    · rename_i ov hx
      split at h
      case h_2 => cases h
      rename_i l1 h1
      split at h
      case h_2 => cases h
      rename_i y ys hx1
      split at h
      case isFalse => cases h
      rename_i hpop
      cases h
      simp only [Bool.and_eq_true, decide_eq_true_eq] at hpop
      obtain ⟨hf, hbig⟩ := hpop
      have hf' := (eqb_iff.mp hf).trans sPop_eq
      subst hf'
      obtain ⟨hpl, hlen⟩ := evEs_plain h1
      obtain ⟨e0, rfl⟩ : ∃ e0, args = [e0] := by
        match args, hlen with
        | [e0], _ => exact ⟨e0, rfl⟩
      have hpl' := hpl
      simp only [List.all_cons, Bool.and_eq_true] at hpl'
      refine MethodCall_ ?_ (method_eq (fun _ _ _ _ => nofun) hpl (by simp) hq)
      refine name_slot a hx fun val hval hv => ?_
      obtain ⟨rfl, hcr⟩ := hv
      obtain ⟨vs0, n0, ho0, _⟩ := id hcr
      refine getMethod_builtin ⟨_, ho0, rfl⟩ PySem.F.plainAttrs_list PySem.F.slot_list_pop PySem.F.type_list_pop (fun b e => ?_) ?_
      · injection e with e; subst e; exact ⟨_, ho0, rfl⟩
      refine callWith_method1 ?_ (star_plain hpl'.1) (stars hpl'.2).1
      refine hEs h1 a fun vals s₁ B₁ t₁ hrs => ?_
      obtain ⟨val', e1, e2⟩ := t₁.rel.slots x _ hx1
      rw [hval] at e1; cases e1
      obtain ⟨_, hcr1⟩ := e2
      obtain ⟨v0, vr, rfl, r0, r1⟩ := hrs.uncons
      rw [r1.unnil]
      obtain ⟨t, rfl⟩ := r0.int
      refine pop_sound hcr1 hbig fun v h' hv hc' hs' => ?_
      have kk : B₁.StaysIn h' := fun b o e => (hs'.2 b (fun q => by
        have := t₁.rel.privB _ (.inr (.inr ⟨x, _, hx1, rfl⟩))
        rw [← q, e] at this; cases this)).trans (t₁.rel.keepB b o e)
      have R₂ := t₁.rel.mut hx1 (s' := { s₁ with heap := h' }) (B' := B₁) (fun b o hb e => (hs'.2 b hb).trans e) (fun _ _ e => e) kk (fun _ _ e => .inl e) hc'
      exact hQ _ _ _ (t₁.trans ⟨⟨h', s₁.toks, rfl⟩, fun _ _ e => e, R₂⟩) hv
    · cases h
end
end Mine
end

section
open PySem PySem.Calls PyProof.Rows
set_option Elab.async false
set_option linter.unusedVariables false
namespace Mine
theorem letGo_name {target : Expr} {it v : Value} (h : (match target with | .Name .. => true | _ => false) = true) : letOwnedTupleGo target it v = pure () := by
  cases target <;> first | rfl | cases h
noncomputable def isNm : Expr → Bool
  | .Name .. => true
  | _ => false
section
variable {prog : Program} {w : World} {mg mb : Str → Option Value} {C : Oracle} {k : Nat} {n : Nat}

theorem compLoop_gen {A : Around} {R : Result → Shared → Prop} {s : Shared} {elt target iter : Expr} {ifs : List Expr} {scope : Scope} {pos : Pos} {it acc : Value} {env : Env} (I : Nat → Shared → Prop)
    (turn : ∀ n s, I n s → wpAny (model prog w) A (pyNext it) (fun r s₁ => match r with
      | none => R (.ok .next) s₁
      | some v => wpAny (model prog w) A (letOwnedTupleGo target it v) (fun _ s₁' => wpAny (model prog w) A (assign target env v) (fun _ s₂ =>
          wpAny (model prog w) A (forIn ifs true fun c r => if r = true then do let ok ← isTrue c env (eval c env); pure (ForInStep.yield ok) else pure (ForInStep.yield r)) (fun ok s₃ =>
            if ok = true then wpAny (model prog w) A (eval elt env) (fun x s₄ =>
              wpAny (model prog w) A (call (.builtin "list.append") [acc, x]) (fun _ s₅ => ∃ m, m < n ∧ I m s₅) (notedBy (model prog w) A env fun e s' => R (.error e) s') s₄) (notedBy (model prog w) A env fun e s' => R (.error e) s') s₃
            else ∃ m, m < n ∧ I m s₃) (notedBy (model prog w) A env fun e s' => R (.error e) s') s₂) (notedBy (model prog w) A env fun e s' => R (.error e) s') s₁') (notedBy (model prog w) A env fun e s' => R (.error e) s') s₁) (notedBy (model prog w) A env fun e s' => R (.error e) s') s)
    (n : Nat) (h : I n s) :
    codeAny (model prog w) A (.compLoop (.ListComp elt [⟨target, iter, ifs, 0⟩] scope pos) 0 it acc env) R s := by
  refine codeAny_loop rfl I (fun n s hI => ?_) n h
  show wpAny _ A ((compTurn (.ListComp elt [⟨target, iter, ifs, 0⟩] scope pos) 0 it acc env).onRaise (fun x => do noteFrame x env; theTreesLotGoes x)) _ _ s
  refine wpAny_noted ?_
  rw [compTurn_list]
  refine wpAny_bind (wpAny_standAt (wpAny_bind (wpAny_mono (turn n s hI) (fun r s₁ h₁ => ?_) fun _ _ h' => h')))
  cases r with
  | none => exact wpAny_pure h₁
  | some v =>
    refine wpAny_bind (wpAny_mono h₁ (fun _ s₁' h₁ => ?_) fun _ _ h' => h')
    refine wpAny_bind (wpAny_mono h₁ (fun _ s₂ h₂ => wpAny_bind (wpAny_mono h₂ (fun ok s₃ h₃ => ?_) fun _ _ h' => h')) fun _ _ h' => h')
    cases ok with
    | false => exact wpAny_pure ⟨rfl, h₃⟩
    | true =>
      exact wpAny_bind (wpAny_bind (wpAny_mono h₃ (fun x s₄ h₄ => wpAny_bind (wpAny_mono h₄ (fun _ s₅ h₅ => wpAny_pure (wpAny_pure ⟨rfl, h₅⟩)) fun _ _ h' => h')) fun _ _ h' => h'))

/-- what is walked -/
structure Iter (prog : Program) (w : World) (B : Heap) (I : Addr) (items : List PyData) (fp : List Addr) (P : Nat → Value → Prop) (St : Nat → Heap → Prop) : Prop where
  W : ∀ A : Around, A.handled = none → Walks prog w A I fp [I] items.length P St
  fpB : ∀ b ∈ fp, b = I ∨ ∃ o, B.get? b = some o
  rd : ∀ i v, P i v → ∃ x, items[i]? = some x ∧ RD B v x
  live : ∀ i h, St i h → ∃ o, h.get? I = some o
  go : ∀ {A : Around} {E : Value → Shared → Prop} {s : Shared} {i v target} {Q : Unit → Shared → Prop}, St i s.heap → (isNm target = true ∨ ∃ (j : Nat) (l : List PyData), items[j]? = some (PyData.tuple l)) → Q () s → wpAny (model prog w) A (letOwnedTupleGo target (.ref I) v) Q E s

section
variable {A : Around} {E : Value → Shared → Prop} {s : Shared} {B : Heap}
theorem go_name {target : Expr} {it v : Value} {Q : Unit → Shared → Prop} (h : isNm target = true) (hQ : Q () s) : wpAny (model prog w) A (letOwnedTupleGo target it v) Q E s := by
  rw [letGo_name h]; exact wpAny_pure hQ
theorem iter_of {x : AV} {val : Value} {items : List PyData} {Q : Value → Shared → Prop} (hx : iterV x = some items) (hv : VR prog w B x val) (kB : B.StaysIn s.heap)
    (h : ∀ (o : Obj) fp P St, Iter prog w B s.heap.objs.size items fp P St → St 0 (s.heap.push o) → Q (.ref s.heap.objs.size) { s with heap := s.heap.push o }) : wpAny (model prog w) A (pyIter val) Q E s := by
  have sz : ∀ {a : Addr} {o : Obj}, B.get? a = some o → a ≠ s.heap.objs.size := fun e => Nat.ne_of_lt (Heap.lt_size (kB _ _ e))
  unfold iterV at hx
  split at hx
  · rename_i l
    cases hx
    obtain ⟨a, vs, rfl, hl, hr⟩ := RD.list hv
    obtain ⟨oa, hoa, _⟩ := id hl
    have hne := sz hoa
    have hlen := hr.length
    have hl' : s.heap.IsList a (List.toArray vs) := hl.at fun o e => kB _ _ e
    refine wpAny_pyIter_list hl' ?_
    refine h _ [s.heap.objs.size, a] (fun i v => (List.toArray vs)[i]? = some v) (fun i h => h.IsListIter s.heap.objs.size a i ∧ h.IsList a (List.toArray vs)) ⟨fun A' hh => ?_, fun b hb => ?_, fun i v hp => ?_, fun i h st => ?_, fun st _ hq => ?_⟩ ⟨⟨_, Heap.get?_push_size _ rfl, rfl, rfl⟩, hl'.push _⟩
    · have e : (List.toArray vs).size = items.length := by rw [List.size_toArray, hlen]
      rw [← e]; exact Walks.list (prog := prog) (w := w) hh s.heap.objs.size a hne (List.toArray vs)
    · rcases List.mem_cons.mp hb with rfl | hb
      · exact .inl rfl
      · rw [List.mem_singleton] at hb; subst hb; exact .inr ⟨_, hoa⟩
    · exact hr.get' (by simpa using hp)
    · obtain ⟨⟨o, ho, _⟩, _⟩ := st; exact ⟨o, ho⟩
    · exact letGo_listiter st.1 hq
  · rename_i y
    cases hx
    obtain ⟨t, rfl⟩ := RD.str hv
    have fin : ∀ (o : Obj) (T : String), (∀ A' : Around, A'.handled = none → Walks prog w A' s.heap.objs.size [s.heap.objs.size] [s.heap.objs.size] y.cps.size (SignAt y) fun i h => h.IsStrIter s.heap.objs.size T y t i) → (s.heap.push o).IsStrIter s.heap.objs.size T y t 0 → Q (.ref s.heap.objs.size) { s with heap := s.heap.push o } := by
      intro o T hW hst
      refine h o [s.heap.objs.size] (SignAt y) (fun i h => h.IsStrIter s.heap.objs.size T y t i) ⟨fun A' hh => ?_, fun b hb => .inl (List.mem_singleton.mp hb), fun i v hp => ?_, fun i h st => ?_, fun st ht hq => ?_⟩ hst
      · have := hW A' hh
        rw [List.length_map, Array.length_toList]; exact this
      · obtain ⟨c, u, hc, rfl⟩ := hp
        refine ⟨.str (mkS [c]), ?_, rdStr⟩
        rw [List.getElem?_map, Array.getElem?_toList, hc]; rfl
      · obtain ⟨o, ho, _⟩ := st; exact ⟨o, ho⟩
      · refine go_name (ht.resolve_right ?_) hq
        rintro ⟨j, l, e⟩
        rw [List.getElem?_map] at e
        cases q : y.cps.toList[j]? with
        | none => rw [q] at e; cases e
        | some c => rw [q] at e; cases e
    cases ha : y.cps.all (· < 128)
    · exact wpAny_pyIter_wide ha (fin _ _ (fun A' hA => Walks.strWide hA _ y t) ⟨_, Heap.get?_push_size _ rfl, rfl, rfl⟩)
    · exact wpAny_pyIter_ascii ha (fin _ _ (fun A' hA => Walks.strAscii hA _ y t) ⟨_, Heap.get?_push_size _ rfl, rfl, rfl⟩)
  · rename_i kvs
    cases hx
    obtain ⟨d, rfl, lo, es, hd, hp⟩ := hv
    obtain ⟨ep, hda⟩ := hd.dictAt
    have hda' : s.heap.DictAt (PySem.strKind prog w) d es ep := hda.keep kB
    obtain ⟨od, hod⟩ : ∃ o, B.get? d = some o := let ⟨o, _, ho, _⟩ := hda; ⟨o, ho⟩
    have hne := sz hod
    have hk : ∀ {es : List (Str × Value)} {kvs : List (Str × PyData)}, Prs B es kvs → es.map (·.1) = keysOf kvs := by
      intro es kvs p; induction p with
      | nil => rfl
      | cons _ _ ih => simp [keysOf] at ih ⊢; exact ih
    have hkk := hk hp
    have hlen : es.length = kvs.length := by
      have := congrArg List.length hkk
      simpa [keysOf] using this
    refine wpAny_pyIter_dict lo hda' ?_
    refine h _ [s.heap.objs.size, d] (fun i v => ∃ k x, es[i]? = some (k, x) ∧ (PySem.strKind prog w).is k v = true) (fun i h => h.IsKeyIter s.heap.objs.size d i es.length ep ∧ h.DictAt (PySem.strKind prog w) d es ep) ⟨fun A' hh => ?_, fun b hb => ?_, fun i v hp => ?_, fun i h st => ?_, fun st ht hq => ?_⟩ ⟨⟨_, Heap.get?_push_size _ rfl, rfl, rfl⟩, hda'.push _⟩
    · have := Walks.dictKeys (prog := prog) (w := w) (knd := PySem.strKind prog w) hh s.heap.objs.size d hne es ep
      simp only [toStrs, keysOf, List.length_map]; rw [← hlen]; exact this
    · rcases List.mem_cons.mp hb with rfl | hb
      · exact .inl rfl
      · rw [List.mem_singleton] at hb; subst hb; exact .inr ⟨_, hod⟩
    · obtain ⟨k, x, e, hk⟩ := hp
      obtain ⟨t, rfl⟩ := Value.isStrOf_shape hk
      refine ⟨.str k, ?_, rdStr⟩
      rw [toStrs, ← hkk, List.getElem?_map, List.getElem?_map, e]; rfl
    · obtain ⟨⟨o, ho, _⟩, _⟩ := st; exact ⟨o, ho⟩
    · refine go_name (ht.resolve_right ?_) hq
      rintro ⟨j, l, e⟩
      rw [toStrs, List.getElem?_map] at e
      cases q : (keysOf kvs)[j]? with
      | none => rw [q] at e; cases e
      | some c => rw [q] at e; cases e
  · cases hx
end
end
end Mine
end

section
open PySem PySem.Calls PyProof.Rows
set_option Elab.async false
set_option linter.unusedVariables false
namespace Mine
section
variable {prog : Program} {w : World} {mg mb : Str → Option Value} {C : Oracle} {k : Nat} {n : Nat}

theorem names_of : ∀ {ts : List Expr} {xs : List Str} {env : Env}, namesOf? ts = some xs → ((assignEach ts env).map (·.2)).length = xs.length ∧ (assignEach ts env).length = xs.length ∧ (assignEach ts env).findIdx? (·.1) = none
  | [], xs, env, h => by simp [namesOf?] at h; subst h; exact ⟨rfl, rfl, rfl⟩
  | .Name x p :: r, xs, env, h => by
    simp only [namesOf?] at h
    split at h
    · rename_i q hq
      cases h
      obtain ⟨h1, h2, h3⟩ := names_of (env := env) hq
      show ((assign (.Name x p) env :: (assignEach r env).map (·.2)).length = _) ∧ (((false, assign (.Name x p) env) :: assignEach r env).length = _) ∧ (((false, assign (.Name x p) env) :: assignEach r env).findIdx? (·.1) = none)
      refine ⟨by simp [h2], by simp [h2], ?_⟩
      rw [List.findIdx?_cons, h3]; rfl
    · cases h
  | .BoolOp .. :: _, _, _, h | .NamedExpr .. :: _, _, _, h | .BinOp .. :: _, _, _, h | .UnaryOp .. :: _, _, _, h | .Lambda .. :: _, _, _, h | .IfExp .. :: _, _, _, h | .Dict .. :: _, _, _, h | .Set .. :: _, _, _, h
  | .ListComp .. :: _, _, _, h | .SetComp .. :: _, _, _, h | .DictComp .. :: _, _, _, h | .GeneratorExp .. :: _, _, _, h | .Await .. :: _, _, _, h | .Yield .. :: _, _, _, h | .YieldFrom .. :: _, _, _, h | .Compare .. :: _, _, _, h
  | .Call .. :: _, _, _, h | .FormattedValue .. :: _, _, _, h | .JoinedStr .. :: _, _, _, h | .Constant .. :: _, _, _, h | .Attribute .. :: _, _, _, h | .Subscript .. :: _, _, _, h | .Starred .. :: _, _, _, h
  | .List .. :: _, _, _, h | .Tuple .. :: _, _, _, h | .Slice .. :: _, _, _, h => by simp [namesOf?] at h

theorem bindAll_sound {sc : Scope} {A : Around} {E : Value → Shared → Prop} {F : Fx} (ok : EnvOk sc F.env) {B : Heap} : ∀ {ts : List Expr} {xs : List Str} {vs : List PyData} {vals : List Value} {l l1 : Loc} {m cm ad} {s : Shared} {Q : Unit → Shared → Prop},
    namesOf? ts = some xs → bindAll sc xs vs l = some l1 → RDs B vals vs → Rel prog w mg mb F m cm ad l B s → (∀ s' m' cm' ad', Sh s s' → Rel prog w mg mb F m' cm' ad' l1 B s' → Q () s') →
    wpAny (model prog w) A (assignInOrder ((assignEach ts F.env).map (·.2)) vals) Q E s
  | [], xs, vs, vals, l, l1, m, cm, ad, s, Q, ht, hb, hr, R, hQ => by
    simp [namesOf?] at ht; subst ht
    cases vs with
    | nil => cases hb; exact assignInOrder_nil (hQ s m cm ad (Sh.refl s) R)
    | cons _ _ => cases hb
  | e :: r, xs, vs, vals, l, l1, m, cm, ad, s, Q, ht, hb, hr, R, hQ => by
    cases e with
    | Name x p =>
      simp only [namesOf?] at ht
      split at ht
      · rename_i q hq
        cases ht
        cases vs with
        | nil => cases hb
        | cons v vs =>
          obtain ⟨val, vals, rfl, r1, r2⟩ := hr.uncons
          simp only [bindAll] at hb
          split at hb
          · rename_i hk
            simp only [Bool.and_eq_true, Bool.not_eq_true'] at hk
            have hk' : kd sc x = some .local := by simpa using hk.1
            show wpAny _ _ (assignInOrder (assign (.Name x p) F.env :: (assignEach r F.env).map (·.2)) (val :: vals)) _ _ _
            refine assignInOrder_cons (wpAny_assign_Name (store_sound ok (fun q => by rw [hk'] at q; cases q) R (by rw [hk']; rfl) hk.2 (sl := .val (.d v)) r1 fun s' m' cm' ad' sh R' => ?_))
            exact bindAll_sound ok hq hb r2 R' fun s'' m'' cm'' ad'' sh' R'' => hQ _ _ _ _ (sh.trans sh') R''
          · cases hb
      · cases ht
    | _ => simp [namesOf?] at ht

theorem bind_sound {sc : Scope} {A : Around} {E : Value → Shared → Prop} {F : Fx} {m cm ad l l1 B} {s : Shared} {t : Expr} {v : PyData} {val : Value} {Q : Unit → Shared → Prop} (a : At prog w mg mb k A sc F m cm ad l B s) (h : bindTgt sc t v l = some l1) (hv : RD B val v)
    (hQ : ∀ s' m' cm' ad', Sh s s' → Rel prog w mg mb F m' cm' ad' l1 B s' → Q () s') : wpAny (model prog w) A (assign t F.env val) Q E s := by
  unfold bindTgt at h
  split at h
  · rename_i x p
    simp only [bindAll] at h
    split at h
    · rename_i hk
      cases h
      simp only [Bool.and_eq_true, Bool.not_eq_true'] at hk
      have hk' : kd sc x = some .local := by simpa using hk.1
      exact wpAny_assign_Name (store_sound a.ok (fun q => by rw [hk'] at q; cases q) a.rel (by rw [hk']; rfl) hk.2 (sl := .val (.d v)) hv fun s' m' cm' ad' sh R' => hQ _ _ _ _ sh R')
    · cases h
  · rename_i ts kk pos
    split at h
    · rename_i xs vs hn
      rw [arm_assign_Tuple]
      refine wpAny_bind (wpAny_standAt ?_)
      obtain ⟨x, vals, rfl, ht, hr⟩ := RD.tuple hv
      obtain ⟨n1, n2, n3⟩ := names_of (env := F.env) hn
      have hlen : xs.length = vals.length := by
        have : ∀ {xs : List Str} {vs : List PyData} {l l1 : Loc}, bindAll sc xs vs l = some l1 → xs.length = vs.length := by
          intro xs
          induction xs with
          | nil => intro vs l l1 h; cases vs with
            | nil => rfl
            | cons _ _ => cases h
          | cons x r ih => intro vs l l1 h; cases vs with
            | nil => cases h
            | cons v vs =>
              simp only [bindAll] at h
              split at h
              · simp [ih h]
              · cases h
        rw [this h, hr.length]
      refine unpack_tuple a.handled (ht.keeps a.rel.keepB) (by rw [n2, hlen]; simp) n3 fun h' hx => ?_
      have kk' : s.heap.StaysIn h' := fun b o e => hx b o (Nat.ne_of_lt (Heap.lt_size e)) e
      exact bindAll_sound a.ok hn h (by simpa using hr) (a.rel.keep (s' := { s with heap := h' }) kk') fun s' m' cm' ad' sh R' => hQ _ _ _ _ (Sh.trans ⟨h', s.toks, rfl⟩ sh) R'
    · cases h
  · cases h
end
end Mine
end

section
open PySem PySem.Calls PyProof.Rows
set_option Elab.async false
set_option linter.unusedVariables false
namespace Mine
section
variable {prog : Program} {w : World} {mg mb : Str → Option Value} {C : Oracle} {k : Nat} {n : Nat}

theorem bindTgt_go {sc : Scope} {t : Expr} {v : PyData} {l l1 : Loc} (h : bindTgt sc t v l = some l1) : isNm t = true ∨ ∃ r, v = .tuple r := by
  unfold bindTgt at h
  split at h
  · exact .inl rfl
  · split at h
    · exact .inr ⟨_, rfl⟩
    · cases h
  · cases h
/-- the thing that walks: nobody's own, never read -/
structure Apart (F : Fx) (ad : Str → Addr) (l : Loc) (B : Heap) (c : Addr) : Prop where
  noB : B.get? c = none
  noK : F.K.get? c = none
  noF : ¬ F.Fb c
  noP : ¬ Priv F ad l c
theorem Apart.new {F : Fx} {m cm : Str → Option Value} {ad : Str → Addr} {l : Loc} {B : Heap} {s : Shared} {c : Addr} (R : Rel prog w mg mb F m cm ad l B s) (h : s.heap.get? c = none) : Apart F ad l B c := by
  refine ⟨?_, ?_, fun f => ?_, fun p => ?_⟩
  · cases q : B.get? c with
    | none => rfl
    | some o => have := R.keepB _ _ q; rw [h] at this; cases this
  · cases q : F.K.get? c with
    | none => rfl
    | some o => have := R.keepK _ _ q; rw [h] at this; cases this
  · obtain ⟨o, ho⟩ := R.alive _ f; rw [h] at ho; cases ho
  · obtain ⟨o, ho⟩ := R.privAlive p; rw [h] at ho; cases ho
/-- the frame in which all that stands is kept -/
noncomputable def Fx.stand (F : Fx) (ad : Str → Addr) (l : Loc) (h : Heap) (X : Addr → Prop) : Fx := { F with K := pick h (Priv F ad l), Fb := fun b => F.Fb b ∨ X b }
theorem back_stand {F : Fx} {m cm m' cm' : Str → Option Value} {ad ad' : Str → Addr} {l l' : Loc} {B B' : Heap} {s s' : Shared} {X : Addr → Prop} (R : Rel prog w mg mb F m cm ad l B s)
    (R' : Rel prog w mg mb (F.stand ad l s.heap X) m' cm' ad' l' B' s') : Rel prog w mg mb F m' cm' ad' l' B' s' :=
  R'.weaken (F := F) rfl rfl rfl R.kStand (fun b h => .inl h) R.cellK
theorem apart_stand {F : Fx} {m cm m' cm' : Str → Option Value} {ad ad' : Str → Addr} {l l' : Loc} {B B' : Heap} {s s' : Shared} {X : Addr → Prop} {c : Addr} (R : Rel prog w mg mb F m cm ad l B s)
    (R' : Rel prog w mg mb (F.stand ad l s.heap X) m' cm' ad' l' B' s') (ap : Apart F ad l B c) (hX : X c) (hc : ∃ o, s.heap.get? c = some o) :
    Apart F ad' l' B' c ∧ ∀ o, s.heap.get? c = some o → s'.heap.get? c = some o := by
  refine ⟨⟨R'.forb c (.inr hX), ap.noK, ap.noF, ?_⟩, fun o e => R'.keepK c o (pick_get.mpr ⟨e, ap.noP⟩)⟩
  rintro (rfl | p | ⟨x, v, e, rfl⟩)
  · exact ap.noP (.inl rfl)
  · exact ap.noP (.inr (.inl p))
  · exact (R'.off x v e).2.2 (.inr hX)
theorem callV_stand {F : Fx} {m cm : Str → Option Value} {ad ad' : Str → Addr} {l l' : Loc} {B B' : Heap} {s s' : Shared} {X : Addr → Prop} {v : AV} {b : Bool} {val : Value} (R : Rel prog w mg mb F m cm ad l B s)
    (h : CallV prog w (F.stand ad l s.heap X) ad' l' B' s' v b val) : CallV prog w F ad' l' B' s' v b val := by
  cases b with
  | false => exact h
  | true =>
    obtain ⟨a, rfl, c1, c2, c3, c4, c5⟩ := h
    refine ⟨a, rfl, c1, c2, ?_, fun f => c4 (.inl f), c5⟩
    cases q : F.K.get? a with
    | none => rfl
    | some o =>
      have h9 := R.kStand a o q
      have h8 : (pick s.heap (Priv F ad l)).get? a = none := c3
      rw [h8] at h9; cases h9

theorem for_loop {sc : Scope} {A : Around} {F : Fx} {b : List Stmt} {t : Expr} (hSs : PSs prog w mg mb C k n) (hA : AOk k A) (ok : EnvOk sc F.env) (sto : StOk sc F) {items : List PyData} {B₀ : Heap} {Ia : Addr} {fp : List Addr} {P : Nat → Value → Prop} {St : Nat → Heap → Prop}
    (I : Iter prog w B₀ Ia items fp P St) {l l' : Loc} {fl : Fl} (h : forLoop (fun v l => match bindTgt sc t v l with | some l1 => evSs C sc n b l1 | none => none) items l = some (fl, l'))
    {m cm ad B} {s : Shared} (R : Rel prog w mg mb F m cm ad l B s) (kB0 : B₀.StaysIn B) (st0 : St 0 s.heap) (ap : Apart F ad l B Ia) {Q : Result → Shared → Prop}
    (hQ : ∀ f s' B' m' cm' ad', To prog w mg mb F m' cm' ad' l' B s B' s' → FlR prog w F ad' l' B' s' fl f → Q (.ok f) s') :
    codeAny (model prog w) A (.forLoop t (.ref Ia) b [] F.env) Q s := by
  have W := I.W A hA.1
  refine codeAny_forLoop_any (fun j s' => ∃ i li mi cmi adi Bi, j = items.length + 1 - i ∧ i ≤ items.length ∧ To prog w mg mb F mi cmi adi li B s Bi s' ∧ St i s'.heap ∧ Apart F adi li Bi Ia ∧
      forLoop (fun v l => match bindTgt sc t v l with | some l1 => evSs C sc n b l1 | none => none) (items.drop i) li = some (fl, l')) ?_ (items.length + 1) ⟨0, l, m, cm, ad, B, rfl, Nat.zero_le _, To.refl R, st0, ap, by simpa using h⟩
  rintro j s' ⟨i, li, mi, cmi, adi, Bi, rfl, hi, ti, hst, api, hf⟩
  have chg : ∀ h' tk, (∀ c o, c ∉ [Ia] → s'.heap.get? c = some o → h'.get? c = some o) → Rel prog w mg mb F mi cmi adi li Bi { s' with heap := h', toks := tk } := fun h' tk hk =>
    ti.rel.chg (X := fun c => c = Ia) (s' := { s' with heap := h', toks := tk }) (fun c o e hc => hk c o (by simpa using hc) e) (fun c hc => by subst hc; exact ⟨api.noK, api.noB, api.noP⟩) (fun c hc hf => by subst hc; exact absurd hf api.noF) (fun _ _ e => e)
      (fun c o e => hk c o (by simp only [List.mem_singleton]; rintro rfl; rw [api.noB] at e; cases e) (ti.rel.keepB c o e)) fun _ _ e => .inl e
  by_cases hlt : i < items.length
  · refine W.item i s' _ _ hlt hst fun v h' tk hP hst' hk => ?_
    have R1 := chg h' tk hk
    obtain ⟨x, hx, hrx⟩ := I.rd i v hP
    have hrx' : RD Bi v x := hrx.keeps fun c o e => ti.keep c o (kB0 c o e)
    rw [List.drop_eq_getElem_cons hlt, forLoop] at hf
    have hxe : items[i] = x := by rw [List.getElem?_eq_getElem hlt] at hx; exact Option.some.inj hx
    rw [hxe] at hf
    have hli := I.live _ _ hst'
    have S1 := R1.stand (fun c => c = Ia) fun c hc => by subst hc; exact ⟨api.noB, hli, api.noP⟩
    cases hbt : bindTgt sc t x li with
    | none => rw [hbt] at hf; cases hf
    | some l1 =>
      rw [hbt] at hf
      dsimp only at hf
      refine I.go (s := { s' with heap := h', toks := tk }) hst' ((bindTgt_go hbt).imp id fun ⟨r, e⟩ => ⟨i, r, by rw [hx, e]⟩) ?_
      refine bind_sound (F := F.stand adi li h' fun c => c = Ia) ⟨hA, ok, S1⟩ hbt hrx' fun s₂ m₂ cm₂ ad₂ sh₂ R₂ => ?_
      cases hev : evSs C sc n b l1 with
      | none => rw [hev] at hf; cases hf
      | some q =>
        obtain ⟨fl2, l2⟩ := q
        rw [hev] at hf
        refine hSs (F := F.stand adi li h' fun c => c = Ia) hev ⟨hA, ok, R₂⟩ ⟨sto.fn, sto.has, sto.apart⟩ fun f s₃ B₃ m₃ cm₃ ad₃ t₃ hfl => ?_
        have R3 := back_stand R1 t₃.rel
        obtain ⟨ap3, keepI⟩ := apart_stand (c := Ia) R1 t₃.rel ⟨api.noB, api.noK, api.noF, api.noP⟩ rfl hli
        have T3 : To prog w mg mb F m₃ cm₃ ad₃ l2 B s B₃ s₃ := ⟨ti.sh.trans (Sh.trans ⟨h', tk, rfl⟩ (sh₂.trans t₃.sh)), fun c o e => t₃.keep c o (ti.keep c o e), R3⟩
        have again : forLoop (fun v l => match bindTgt sc t v l with | some l1 => evSs C sc n b l1 | none => none) (items.drop (i + 1)) l2 = some (fl, l') →
            ∃ m', m' < items.length + 1 - i ∧ ∃ i' li mi cmi adi Bi, m' = items.length + 1 - i' ∧ i' ≤ items.length ∧ To prog w mg mb F mi cmi adi li B s Bi s₃ ∧ St i' s₃.heap ∧ Apart F adi li Bi Ia ∧
              forLoop (fun v l => match bindTgt sc t v l with | some l1 => evSs C sc n b l1 | none => none) (items.drop i') li = some (fl, l') := fun hf' => by
          refine ⟨items.length + 1 - (i + 1), by omega, i + 1, l2, m₃, cm₃, ad₃, B₃, rfl, hlt, T3, ?_, ap3, hf'⟩
          refine W.frame (i + 1) h' s₃.heap hst' fun c hc o e => ?_
          rcases I.fpB c hc with rfl | ⟨o', ho'⟩
          · exact keepI o e
          · have h1 := R1.keepB c o' (ti.keep c o' (kB0 c o' ho'))
            have h2 : h'.get? c = some o' := h1
            rw [e] at h2; cases h2
            exact R3.keepB c o (t₃.keep c o (ti.keep c o (kB0 c o ho')))
        cases fl2 with
        | next => cases hfl; exact again hf
        | cont => cases hfl; exact again hf
        | ret v bb =>
          obtain ⟨val, rfl, hc⟩ := hfl
          simp only [Option.some.injEq, Prod.mk.injEq] at hf
          obtain ⟨rfl, rfl⟩ := hf
          exact hQ _ _ _ _ _ _ T3 ⟨val, rfl, callV_stand R1 hc⟩
  · have hi' : i = items.length := by omega
    subst hi'
    refine W.done s' _ _ hst fun h' tk hk => ?_
    have R1 := chg h' tk hk
    rw [List.drop_length, forLoop] at hf
    cases hf
    refine wpAny_execs_nil ?_
    exact hQ _ _ _ _ _ _ (ti.trans ⟨⟨h', tk, rfl⟩, fun _ _ e => e, R1⟩) rfl
end
end Mine
end

section
open PySem PySem.Calls PyProof.Rows
set_option Elab.async false
set_option linter.unusedVariables false
namespace Mine
theorem closure_go {env : Env} : ∀ (names : List (Str × NameKind)) (cs : List (Str × Addr)), (∀ p ∈ names, p.2 = .free → ∃ c, env.cells.lookup p.1 = some c) → (∀ n c, cs.lookup n = some c → env.cells.lookup n = some c) →
    ∃ cl, (forIn names cs fun (x : Str × NameKind) (r : List (Str × Addr)) => (if (x.2 == NameKind.free) = true then (do let c ← cellOf env x.1; pure (ForInStep.yield ((x.1, c) :: r))) else pure (ForInStep.yield r) : Sem (ForInStep (List (Str × Addr))))) = pure cl ∧
      (∀ n c, cl.lookup n = some c → env.cells.lookup n = some c) ∧ (∀ p ∈ names, p.2 = .free → (cl.lookup p.1).isSome = true) ∧ (∀ n, (cs.lookup n).isSome = true → (cl.lookup n).isSome = true)
  | [], cs, _, h => ⟨cs, rfl, h, fun _ hp => by simp at hp, fun _ e => e⟩
  | (n, kk) :: r, cs, hn, h => by
    have hr : ∀ p ∈ r, p.2 = .free → ∃ c, env.cells.lookup p.1 = some c := fun p hp => hn p (List.mem_cons_of_mem _ hp)
    by_cases hk : kk = .free
    · subst hk
      obtain ⟨c, hc⟩ := hn (n, .free) List.mem_cons_self rfl
      have hcell : cellOf env n = pure c := by unfold cellOf; rw [hc]
      obtain ⟨cl, e, h1, h2, h3⟩ := closure_go r ((n, c) :: cs) hr (fun n' c' e' => by
        rw [List.lookup_cons] at e'
        split at e'
        · rename_i hx; rw [beq_iff_eq] at hx; subst hx; rw [hc]; exact e'
        · exact h _ _ e')
      refine ⟨cl, ?_, h1, fun p hp hf => ?_, fun n' e' => h3 n' ?_⟩
      · rw [List.forIn_cons]
        simp only [beq_self_eq_true, if_true, hcell, pure_bind]
        exact e
      · rcases List.mem_cons.mp hp with rfl | hp
        · exact h3 n (by simp)
        · exact h2 p hp hf
      · rw [List.lookup_cons]; split
        · rfl
        · exact e'
    · obtain ⟨cl, e, h1, h2, h3⟩ := closure_go r cs hr h
      have hb : (kk == NameKind.free) = false := by simpa using hk
      refine ⟨cl, ?_, h1, fun p hp hf => ?_, h3⟩
      · rw [List.forIn_cons]
        simp only [hb, Bool.false_eq_true, if_false, pure_bind]
        exact e
      · rcases List.mem_cons.mp hp with rfl | hp
        · exact absurd hf hk
        · exact h2 p hp hf
theorem closure_ok {scope : Scope} {env : Env} (hn : ∀ p ∈ scope.names, p.2 = .free → ∃ c, env.cells.lookup p.1 = some c) :
    ∃ cl, closureFor scope env = pure cl ∧ (∀ n c, cl.lookup n = some c → env.cells.lookup n = some c) ∧ (∀ p ∈ scope.names, p.2 = .free → (cl.lookup p.1).isSome = true) := by
  obtain ⟨cl, e, h1, h2, _⟩ := closure_go (env := env) scope.names [] hn (fun n c e => by cases e)
  refine ⟨cl, ?_, h1, h2⟩
  unfold closureFor
  show (forIn scope.names [] _ >>= fun r => pure r) = _
  rw [show (fun (x : Str × NameKind) (r : List (Str × Addr)) => (if (x.2 == NameKind.free) = true then (do let c ← cellOf env x.1; pure (ForInStep.yield ((x.1, c) :: r))) else pure (ForInStep.yield r) : Sem (ForInStep (List (Str × Addr))))) = _ from rfl] at e
  first | rw [e, pure_bind] | (simp only [bind_pure]; exact e)

section
variable {prog : Program} {w : World} {mg mb : Str → Option Value} {C : Oracle} {k : Nat} {n : Nat}
/-- the tests of a comprehension -/
noncomputable def PTests (prog : Program) (w : World) (mg mb : Str → Option Value) (C : Oracle) (k n : Nat) : Prop := ∀ {sc es l b l'}, evTs C sc n .And es l = some (b, l') → ∀ {A} {E : Value → Shared → Prop} {F m cm ad B s} {Q : Bool → Shared → Prop}, At prog w mg mb k A sc F m cm ad l B s →
  (∀ s' B', To prog w mg mb F m cm ad l' B s B' s' → Q b s') → wpAny (model prog w) A (forIn es true fun c r => if r = true then do let ok ← isTrue c F.env (eval c F.env); pure (ForInStep.yield ok) else pure (ForInStep.yield r)) Q E s
theorem tests_false {M : Model} {A : Around} {E : Value → Shared → Prop} {s : Shared} {env : Env} {Q : Bool → Shared → Prop} : ∀ (es : List Expr), Q false s →
    wpAny M A (forIn es false fun c r => if r = true then do let ok ← isTrue c env (eval c env); pure (ForInStep.yield ok) else pure (ForInStep.yield r)) Q E s
  | [], h => wpAny_pure h
  | e :: r, h => by
    rw [List.forIn_cons]
    simp only [Bool.false_eq_true, if_false, pure_bind]
    exact tests_false r h
theorem ptests_succ (hT : PT prog w mg mb C k n) (hTs : PTests prog w mg mb C k n) : PTests prog w mg mb C k (n + 1) := by
  intro sc es l b l' h A E F m cm ad B s Q a hQ
  cases es with
  | nil => rw [evTs_succ] at h; delta stTs at h; dsimp only at h; cases h; exact wpAny_pure (hQ _ _ (To.refl a.rel))
  | cons x r =>
    rw [evTs_succ] at h; delta stTs at h; dsimp only at h
    split at h
    · rename_i b1 l1 h1
      rw [List.forIn_cons]
      simp only [if_true]
      refine wpAny_bind (wpAny_bind (hT h1 a fun s₁ B₁ t₁ => wpAny_pure ?_))
      dsimp only
      cases b1 with
      | true => exact hTs h (a.next t₁) fun s₂ B₂ t₂ => hQ _ _ (t₁.trans t₂)
      | false => cases h; exact tests_false r (hQ _ _ t₁)
    · cases h

theorem freezeAll_sound {F : Fx} {m cm : Str → Option Value} {ad : Str → Addr} {s : Shared} : ∀ (xs : List Str) {l : Loc} {B : Heap}, Rel prog w mg mb F m cm ad l B s → ∃ B', B.StaysIn B' ∧ Rel prog w mg mb F m cm ad (freezeAll xs l) B' s
  | [], l, B, R => ⟨B, fun _ _ e => e, R⟩
  | x :: r, l, B, R => by
    unfold freezeAll freeze1
    split
    · rename_i v hx
      obtain ⟨B1, k1, R1, _⟩ := R.freeze hx
      obtain ⟨B2, k2, R2⟩ := freezeAll_sound r R1
      exact ⟨B2, fun b o e => k2 b o (k1 b o e), R2⟩
    · exact freezeAll_sound r R
theorem capture_spec {l : Loc} : ∀ {xs : List Str} {lc : Loc}, capture l xs = some lc → ∀ x sl, lkp x lc = some sl → x ∈ xs ∧ ∃ v, sl = .val v ∧ lkp x l = some (.val v)
  | [], lc, h, x, sl, e => by cases h; cases e
  | y :: r, lc, h, x, sl, e => by
    simp only [capture] at h
    split at h
    · rename_i v q hv hq
      cases h
      unfold lkp at e
      split at e
      · rename_i hx
        cases e
        have := eqb_iff.mp hx; subst this
        exact ⟨List.mem_cons_self, v, rfl, hv⟩
      · obtain ⟨a, b⟩ := capture_spec hq x sl e
        exact ⟨List.mem_cons_of_mem _ a, b⟩
    · cases h
theorem compLoop_len {step : PyData → Loc → Option (Option PyData × Loc)} : ∀ {items : List PyData} {l : Loc} {acc ys : List PyData}, compLoop step items l acc = some ys → acc.length ≤ ys.length
  | [], l, acc, ys, h => by cases h; exact Nat.le_refl _
  | x :: r, l, acc, ys, h => by
    simp only [compLoop] at h
    split at h
    · have := compLoop_len h; simp at this; omega
    · exact compLoop_len h
    · cases h
theorem relabel_eq {sc scope : Scope} {env : Env} (ok : EnvOk sc env) : relabel scope env = compScope sc scope := by
  unfold relabel compScope
  congr 1
  refine List.map_congr_left fun p hp => ?_
  obtain ⟨x, kk⟩ := p
  have hk : env.scope.kind = .function := by rw [ok.scope]; exact ok.kind
  simp only [hk, beq_self_eq_true, Bool.and_true, kd_kindOf ok]


theorem comp_loop {sc2 : Scope} {A : Around} {F : Fx} {elt tgt iter : Expr} {ifs : List Expr} {scope : Scope} {pos : Pos} (hE : PE prog w mg mb C k n) (hTe : PTests prog w mg mb C k n) (hA : AOk k A) (ok : EnvOk sc2 F.env) {items : List PyData} {B₀ : Heap} {Ia D : Addr} {fp : List Addr}
    {P : Nat → Value → Prop} {St : Nat → Heap → Prop} (I : Iter prog w B₀ Ia items fp P St) {l : Loc} {ys : List PyData} {step : PyData → Loc → Option (Option PyData × Loc)}
    (hstep : step = fun v lc => match bindTgt sc2 tgt v lc with
      | some l3 => (match evTs C sc2 n .And ifs l3 with
        | some (true, l4) => (match evE C sc2 n elt l4 with
          | some (.d y, l5) => some (some y, l5)
          | _ => none)
        | some (false, l4) => some (none, l4)
        | none => none)
      | none => none) (h : compLoop step items l [] = some ys) (hbig : ys.length ≤ big)
    {m cm ad B} {s : Shared} (R : Rel prog w mg mb F m cm ad l B s) (kB0 : B₀.StaysIn B) (st0 : St 0 s.heap) (ap : Apart F ad l B Ia) (apD : Apart F ad l B D) (hDI : D ≠ Ia) (hD : CR prog w B s.heap (.d (.list [])) D) {Q : Result → Shared → Prop}
    (hQ : ∀ s' B' m' cm' ad' l', To prog w mg mb F m' cm' ad' l' B s B' s' → CR prog w B' s'.heap (.d (.list ys)) D → Apart F ad' l' B' D → Q (.ok .next) s') :
    codeAny (model prog w) A (.compLoop (.ListComp elt [⟨tgt, iter, ifs, 0⟩] scope pos) 0 (.ref Ia) (.ref D) F.env) Q s := by
  have W := I.W A hA.1
  refine compLoop_gen (fun j s' => ∃ i li mi cmi adi Bi acc, j = items.length + 1 - i ∧ i ≤ items.length ∧ To prog w mg mb F mi cmi adi li B s Bi s' ∧ St i s'.heap ∧ Apart F adi li Bi Ia ∧ Apart F adi li Bi D ∧
      CR prog w Bi s'.heap (.d (.list acc)) D ∧ compLoop step (items.drop i) li acc = some ys) ?_ (items.length + 1) ⟨0, l, m, cm, ad, B, [], rfl, Nat.zero_le _, To.refl R, st0, ap, apD, hD, by simpa using h⟩
  rintro j s' ⟨i, li, mi, cmi, adi, Bi, acc, rfl, hi, ti, hst, api, apd, hcd, hf⟩
  have chg : ∀ h' tk, (∀ c o, c ∉ [Ia] → s'.heap.get? c = some o → h'.get? c = some o) → Rel prog w mg mb F mi cmi adi li Bi { s' with heap := h', toks := tk } := fun h' tk hk =>
    ti.rel.chg (X := fun c => c = Ia) (s' := { s' with heap := h', toks := tk }) (fun c o e hc => hk c o (by simpa using hc) e) (fun c hc => by subst hc; exact ⟨api.noK, api.noB, api.noP⟩) (fun c hc hf => by subst hc; exact absurd hf api.noF) (fun _ _ e => e)
      (fun c o e => hk c o (by simp only [List.mem_singleton]; rintro rfl; rw [api.noB] at e; cases e) (ti.rel.keepB c o e)) fun _ _ e => .inl e
  have keepD : ∀ h' : Heap, (∀ c o, c ∉ [Ia] → s'.heap.get? c = some o → h'.get? c = some o) → CR prog w Bi h' (.d (.list acc)) D := fun h' hk => CR.keeps (fun _ _ e => e) hcd fun o e => hk D o (by simpa using hDI) e
  by_cases hlt : i < items.length
  · refine W.item i s' _ _ hlt hst fun v h' tk hP hst' hk => ?_
    have R1 := chg h' tk hk
    have hcd1 := keepD h' hk
    obtain ⟨x, hx, hrx⟩ := I.rd i v hP
    have hrx' : RD Bi v x := hrx.keeps fun c o e => ti.keep c o (kB0 c o e)
    rw [List.drop_eq_getElem_cons hlt, compLoop] at hf
    have hxe : items[i] = x := by rw [List.getElem?_eq_getElem hlt] at hx; exact Option.some.inj hx
    rw [hxe] at hf
    have hli := I.live _ _ hst'
    have hld : ∃ o, h'.get? D = some o := hcd1.there
    have S1 := R1.stand (fun c => c = Ia ∨ c = D) fun c hc => by
      rcases hc with rfl | rfl
      · exact ⟨api.noB, hli, api.noP⟩
      · exact ⟨apd.noB, hld, apd.noP⟩
    rw [hstep] at hf
    dsimp only at hf
    cases hbt : bindTgt sc2 tgt x li with
    | none => rw [hbt] at hf; cases hf
    | some l1 =>
      rw [hbt] at hf
      dsimp only at hf
      refine I.go (s := { s' with heap := h', toks := tk }) hst' ((bindTgt_go hbt).imp id fun ⟨r, e⟩ => ⟨i, r, by rw [hx, e]⟩) ?_
      refine bind_sound (F := F.stand adi li h' fun c => c = Ia ∨ c = D) ⟨hA, ok, S1⟩ hbt hrx' fun s₂ m₂ cm₂ ad₂ sh₂ R₂ => ?_
      -- the end of a turn
      have back : ∀ {m₃ cm₃ ad₃ l₃ B₃} {s₃ : Shared}, To prog w mg mb (F.stand adi li h' fun c => c = Ia ∨ c = D) m₃ cm₃ ad₃ l₃ Bi s₂ B₃ s₃ → To prog w mg mb F m₃ cm₃ ad₃ l₃ B s B₃ s₃ ∧ St (i + 1) s₃.heap ∧ Apart F ad₃ l₃ B₃ Ia ∧ Apart F ad₃ l₃ B₃ D ∧ CR prog w B₃ s₃.heap (.d (.list acc)) D := by
        intro m₃ cm₃ ad₃ l₃ B₃ s₃ t₃
        have R3 := back_stand R1 t₃.rel
        obtain ⟨ap3, keepI⟩ := apart_stand (c := Ia) R1 t₃.rel ⟨api.noB, api.noK, api.noF, api.noP⟩ (.inl rfl) hli
        obtain ⟨ap4, keepD'⟩ := apart_stand (c := D) R1 t₃.rel ⟨apd.noB, apd.noK, apd.noF, apd.noP⟩ (.inr rfl) hld
        refine ⟨⟨ti.sh.trans (Sh.trans ⟨h', tk, rfl⟩ (sh₂.trans t₃.sh)), fun c o e => t₃.keep c o (ti.keep c o e), R3⟩, ?_, ap3, ap4, hcd1.keeps t₃.keep fun o e => keepD' o e⟩
        refine W.frame (i + 1) h' s₃.heap hst' fun c hc o e => ?_
        rcases I.fpB c hc with rfl | ⟨o', ho'⟩
        · exact keepI o e
        · have h1 := R1.keepB c o' (ti.keep c o' (kB0 c o' ho'))
          have h2 : h'.get? c = some o' := h1
          rw [e] at h2; cases h2
          exact R3.keepB c o (t₃.keep c o (ti.keep c o (kB0 c o ho')))
      cases hts : evTs C sc2 n .And ifs l1 with
      | none => rw [hts] at hf; cases hf
      | some q =>
        obtain ⟨b, l4⟩ := q
        rw [hts] at hf
        refine hTe (F := F.stand adi li h' fun c => c = Ia ∨ c = D) hts ⟨hA, ok, R₂⟩ fun s₃ B₃ t₃ => ?_
        cases b with
        | false =>
          simp only [Bool.false_eq_true, if_false]
          obtain ⟨T3, st3, a3, d3, c3⟩ := back t₃
          exact ⟨items.length + 1 - (i + 1), by omega, i + 1, l4, _, _, _, B₃, acc, rfl, hlt, T3, st3, a3, d3, c3, by rw [hstep]; exact hf⟩
        | true =>
          simp only [if_true]
          dsimp only at hf
          cases hel : evE C sc2 n elt l4 with
          | none => rw [hel] at hf; cases hf
          | some q =>
            obtain ⟨yv, l5⟩ := q
            rw [hel] at hf
            cases yv with
            | d y =>
              dsimp only at hf
              refine hE (F := F.stand adi li h' fun c => c = Ia ∨ c = D) hel ⟨hA, ok, t₃.rel⟩ fun val s₄ B₄ t₄ hy => ?_
              obtain ⟨T4, st4, a4, d4, c4⟩ := back (t₃.trans t₄)
              have hlen : acc.length < big := by
                have := compLoop_len hf
                simp at this; omega
              refine append_sound c4 hy hlen fun h5 c5 s5 => ?_
              have R5 := chg_one T4.rel s5 d4.noB d4.noK d4.noF d4.noP
              refine ⟨items.length + 1 - (i + 1), by omega, i + 1, l5, _, _, _, B₄, acc ++ [y], rfl, hlt, T4.trans ⟨⟨h5, s₄.toks, rfl⟩, fun _ _ e => e, R5⟩, ?_, a4, d4, c5, by rw [hstep]; exact hf⟩
              refine W.frame (i + 1) s₄.heap h5 st4 fun c hc o e => (s5.2 c ?_).trans e
              rintro rfl
              rcases I.fpB c hc with q | ⟨o', ho'⟩
              · exact hDI q
              · have := T4.keep c o' (kB0 c o' ho')
                rw [d4.noB] at this; cases this
            | m kvs => cases hf
            | u ks => cases hf
  · have hi' : i = items.length := by omega
    subst hi'
    refine W.done s' _ _ hst fun h' tk hk => ?_
    have R1 := chg h' tk hk
    rw [List.drop_length, compLoop] at hf
    cases hf
    exact hQ _ _ _ _ _ _ (ti.trans ⟨⟨h', tk, rfl⟩, fun _ _ e => e, R1⟩) (keepD h' hk) apd
noncomputable def rek (sc : Scope) (x : Str) (kk : NameKind) : NameKind := if (kk == .free && kd sc x == some .cell) = true then .cell else kk
theorem compScope_names (sc scope : Scope) : (compScope sc scope).names = scope.names.map fun p => (p.1, rek sc p.1 p.2) := by
  unfold compScope rek
  refine List.map_congr_left fun p hp => ?_
  obtain ⟨x, kk⟩ := p
  dsimp only
  split <;> rfl
theorem lkp_map (sc : Scope) (x : Str) : ∀ names : List (Str × NameKind), lkp x (names.map fun p => (p.1, rek sc p.1 p.2)) = (lkp x names).map (rek sc x)
  | [] => rfl
  | (y, kk) :: r => by
    simp only [List.map_cons, lkp]
    split
    · rename_i h; rw [eqb_iff.mp h]; rfl
    · exact lkp_map sc x r
theorem und_comp {sc scope : Scope} (h : undOk scope.names = true) : undOk (compScope sc scope).names = true := by
  rw [compScope_names]
  unfold undOk at *
  rw [List.all_map]
  rw [List.all_eq_true] at *
  intro p hp
  have := h p hp
  obtain ⟨x, kk⟩ := p
  simp only [Function.comp, rek]
  split
  · rename_i hc
    simp only [Bool.and_eq_true, beq_iff_eq] at hc
    rw [hc.1] at this
    exact this
  · exact this

theorem pcomp_succ (hE : PE prog w mg mb C k n) (hTe : PTests prog w mg mb C k n) : PComp prog w mg mb C k (n + 1) := by
  intro sc elt gens scope l vs l' h A E F m cm ad B s Q use pos a hQ
  rw [evComp_succ] at h; delta stComp at h
  split at h
  case h_2 => cases h
  rename_i tgt iter ifs
  split at h
  case isFalse => cases h
  rename_i hco
  simp only [Bool.and_eq_true] at hco
  obtain ⟨hco, hcv⟩ := hco
  simp only [compOk, Bool.and_eq_true] at hco
  obtain ⟨⟨hund, hfun⟩, hall⟩ := hco
  split at h
  case h_2 => cases h
  rename_i x l1 h1
  split at h
  case h_2 => cases h
  rename_i items hit
  dsimp only at h
  split at h
  case h_2 => cases h
  rename_i lc hcap
  split at h
  case h_2 => cases h
  rename_i ys hloop
  split at h
  case isFalse => cases h
  rename_i hbig
  cases h
  have hkind : scope.kind = .function := by cases q : scope.kind <;> rw [q] at hfun <;> first | rfl | cases hfun
  have hnm : ∀ p ∈ scope.names, (match p.2 with | .cell => false | .local => (match kd scope p.1 with | some .local => true | _ => false) | .free => (match kd scope p.1 with | some .free => true | _ => false) | _ => true) = true := fun p hp => List.all_eq_true.mp hall p hp
  have hcell : ∀ y ∈ scope.names, y.2 ≠ .cell := fun y hy q => by have := hnm y hy; rw [q] at this; cases this
  have hnames : ∀ y ∈ scope.names, y.2 = .local → scope.names.lookup y.1 = some .local := fun y hy q => by
    have := hnm y hy
    rw [q] at this
    dsimp only at this
    split at this
    · rename_i hk; rw [← lkp_lookup]; exact hk
    · cases this
  have hfree : ∀ y ∈ scope.names, y.2 = .free → kd scope y.1 = some .free ∧ y.1 ∈ captured scope.names := fun y hy q => by
    have := hnm y hy
    rw [q] at this
    dsimp only at this
    split at this
    · rename_i hk
      refine ⟨hk, List.mem_map.mpr ⟨y, List.mem_filter.mpr ⟨hy, ?_⟩, rfl⟩⟩
      rw [q]; rfl
    · cases this
  have hcapt : ∀ z ∈ captured scope.names, ∃ y ∈ scope.names, y.1 = z ∧ y.2 = .free := fun z hz => by
    obtain ⟨y, hy, rfl⟩ := List.mem_map.mp hz
    obtain ⟨hy1, hy2⟩ := List.mem_filter.mp hy
    refine ⟨y, hy1, rfl, ?_⟩
    have := hcell y hy1
    cases q : y.2 <;> rw [q] at hy2 this <;> first | rfl | exact absurd rfl this | cases hy2
  -- the cells of the captured names
  have hpl := evE_plain h1
  have capAll : ∀ {xs : List Str} {lc : Loc} {l2 : Loc}, capture l2 xs = some lc → ∀ z ∈ xs, ∃ v, lkp z l2 = some (.val v) := by
    intro xs
    induction xs with
    | nil => intro lc l2 _ z hz; simp at hz
    | cons y r ih =>
      intro lc l2 h z hz
      simp only [capture] at h
      split at h
      · rename_i v q hv hq
        rcases List.mem_cons.mp hz with rfl | hz
        · exact ⟨v, hv⟩
        · exact ih hq z hz
      · cases h
  have boundCell : ∀ {B' : Heap} {s' : Shared}, Rel prog w mg mb F m cm ad (freezeAll (captured scope.names) l1) B' s' → ∀ z ∈ captured scope.names, ∃ c v val, F.env.cells.lookup z = some c ∧ lkp z (freezeAll (captured scope.names) l1) = some (.val v) ∧ cm z = some val ∧ VR prog w B' v val := by
    intro B' s' R z hz
    obtain ⟨v, hv⟩ := capAll hcap z hz
    obtain ⟨val, e1, e2⟩ := R.slots z _ hv
    have hk := (Bool.and_eq_true_iff.mp (List.all_eq_true.mp hcv z hz)).1
    have hkd := kd_kindOf a.ok z
    unfold slotv at e1
    rw [hkd] at e1
    cases q : kd sc z with
    | none => rw [q] at hk; cases hk
    | some kk =>
      rw [q] at hk e1
      cases kk with
      | cell =>
        dsimp only at e1
        split at e1
        · rename_i hs
          obtain ⟨c, hc⟩ := Option.isSome_iff_exists.mp hs
          exact ⟨c, v, val, hc, hv, e1, e2⟩
        · cases e1
      | free =>
        dsimp only at e1
        split at e1
        · rename_i hs
          simp only [Bool.and_eq_true] at hs
          obtain ⟨c, hc⟩ := Option.isSome_iff_exists.mp hs.1
          exact ⟨c, v, val, hc, hv, e1, e2⟩
        · cases e1
      | _ => cases hk
  have hcells : ∀ p ∈ scope.names, p.2 = .free → ∃ c, F.env.cells.lookup p.1 = some c := fun p hp hf => by
    have hk := Bool.and_eq_true_iff.mp (List.all_eq_true.mp hcv p.1 (hfree p hp hf).2)
    obtain ⟨sl, hsl⟩ := Option.isSome_iff_exists.mp hk.2
    obtain ⟨val, e1, _⟩ := a.rel.slots _ sl hsl
    have hk := hk.1
    unfold slotv at e1
    rw [kd_kindOf a.ok] at e1
    cases q : kd sc p.1 with
    | none => rw [q] at hk; cases hk
    | some kk =>
      rw [q] at hk e1
      cases kk with
      | cell =>
        dsimp only at e1
        split at e1
        · rename_i hs; exact Option.isSome_iff_exists.mp hs
        · cases e1
      | free =>
        dsimp only at e1
        split at e1
        · rename_i hs
          simp only [Bool.and_eq_true] at hs
          exact Option.isSome_iff_exists.mp hs.1
        · cases e1
      | _ => cases hk
  obtain ⟨cl, hclos, hcl1, hcl2⟩ := closure_ok hcells
  -- the iterable, and what the comprehension takes with it
  show wpAny _ A (comprehension (.ListComp elt [⟨tgt, iter, ifs, 0⟩] scope pos) scope F.env _ (newList []) false (eval iter F.env) use) Q E s
  refine wpAny_comprehension_free (use := use) rfl (folded_plain hpl) hclos hkind hnames (hE h1 a fun val s₁ B₁ t₁ hv => ?_)
  obtain ⟨B₂, k12, R₂⟩ := freezeAll_sound (captured scope.names) t₁.rel
  have hv₂ := hv.keeps k12
  refine iter_of hit hv₂ R₂.keepB fun o fp P St I st0 => ?_
  refine wpAny_newObj_type (wpAny_newFunctionEnv hcell (by intro y hy; simp at hy) (fun h₁ hns₁ hsb₁ => ?_) hkind)
  dsimp only at hns₁ hsb₁ ⊢
  generalize hH2 : (s₁.heap.push o).push { cls := .type "list", data := .seq ([] : List Value).toArray } = H2 at hns₁ hsb₁ ⊢
  have e1 : (s₁.heap.push o).objs.size = s₁.heap.objs.size + 1 := Heap.size_push ..
  have e2 : H2.objs.size = s₁.heap.objs.size + 2 := by rw [← hH2, Heap.size_push, e1]
  have nDI : (s₁.heap.push o).objs.size ≠ s₁.heap.objs.size := by rw [e1]; omega
  have nCI : H2.objs.size ≠ s₁.heap.objs.size := by rw [e2]; omega
  have nCD : H2.objs.size ≠ (s₁.heap.push o).objs.size := by rw [e2, e1]; omega
  have freshAt : ∀ c, s₁.heap.objs.size ≤ c → s₁.heap.get? c = none := fun c hc => by
    cases e : s₁.heap.get? c with
    | none => rfl
    | some o' => exact absurd (Heap.lt_size e) (Nat.not_lt.mpr hc)
  have old1 : ∀ b o', (s₁.heap.push o).get? b = some o' → h₁.get? b = some o' := fun b o' e => by
    have hb := Heap.lt_size e
    exact hsb₁.extBut b o' (Nat.ne_of_lt (Nat.lt_trans hb (by rw [e1, e2]; exact Nat.lt_succ_self _))) (Heap.get?_push_of_some _ (hH2 ▸ Heap.get?_push_of_some _ e))
  have old : ∀ b o', s₁.heap.get? b = some o' → h₁.get? b = some o' := fun b o' e => old1 b o' (Heap.get?_push_of_some _ e)
  have hDget : h₁.get? (s₁.heap.push o).objs.size = some { cls := .type "list", data := .seq (List.toArray []) } :=
    hsb₁.extBut _ _ (Ne.symm nCD) (Heap.get?_push_of_some _ (hH2 ▸ Heap.get?_push_size _ rfl))
  have st1 : St 0 h₁ := (I.W A a.a.1).frame 0 _ _ st0 fun b _ o' e => old1 b o' e
  have hnB : ∀ c, s₁.heap.get? c = none → B₂.get? c = none := fun c hc => by
    cases q : B₂.get? c with
    | none => rfl
    | some o' => have := R₂.keepB _ _ q; rw [hc] at this; cases this
  let F2 : Fx := { env := compEnvC scope cl H2.objs.size F.env, K := s₁.heap, Fb := fun b => (∃ o, s₁.heap.get? b = some o) ∧ B₂.get? b = none, pc := [], pin := none }
  have ok2 : EnvOk (compScope sc scope) F2.env := ⟨relabel_eq a.ok, hkind, a.ok.globals, a.ok.builtins, und_comp hund⟩
  have noOwn : ∀ x v, lkp x lc = some (.own v) → False := fun x v e => by
    obtain ⟨_, v', q, _⟩ := capture_spec hcap x _ e; cases q
  have R2 : Rel prog w mg mb F2 (fun x => List.lookup x ([] : List (Str × Value)).reverse) cm ad lc B₂ { s₁ with heap := h₁, toks := s₁.toks + ([] : List (Str × Value)).length } := by
    refine ⟨old, fun b o' e => old b o' (R₂.keepB b o' e), R₂.gl, fun b f => f.2, fun b f => let ⟨o', ho'⟩ := f.1; ⟨o', old b o' ho'⟩, hns₁, fun n' c e => ?_, fun n' c e => ?_, fun c hc => (by cases hc), fun hc => (by cases hc), fun b p => ?_, fun b p => ?_, fun x sl e => ?_, fun x y v u e => (noOwn x v e).elim, fun x v e => (noOwn x v e).elim, fun x a e => (by cases e)⟩
    · obtain ⟨o', ho', hd'⟩ := R₂.cl n' c (hcl1 n' c e)
      exact ⟨o', old c o' ho', hd'⟩
    · obtain ⟨o', ho', _⟩ := R₂.cl n' c (hcl1 n' c e)
      exact .inr ⟨o', ho'⟩
    · rcases p with rfl | p | ⟨x, v, e, _⟩
      · exact hnB _ (freshAt _ (by show _ ≤ H2.objs.size; rw [e2]; omega))
      · cases p
      · exact (noOwn x v e).elim
    · rcases p with rfl | p | ⟨x, v, e, _⟩
      · exact freshAt _ (by show _ ≤ H2.objs.size; rw [e2]; omega)
      · cases p
      · exact (noOwn x v e).elim
    · obtain ⟨hx, v, rfl, hl2⟩ := capture_spec hcap x sl e
      obtain ⟨c, v', cv, hc, hl2', hcm, hvr⟩ := boundCell R₂ x hx
      rw [hl2] at hl2'; cases hl2'
      refine ⟨cv, ?_, hvr⟩
      obtain ⟨y, hy, rfl, hyf⟩ := hcapt x hx
      obtain ⟨hks, _⟩ := hfree y hy hyf
      have hsome := hcl2 y hy hyf
      have hkk : F2.env.kindOf y.1 = some (rek sc y.1 .free) := by
        rw [kd_kindOf ok2]
        unfold kd
        rw [compScope_names, lkp_map]
        unfold kd at hks
        rw [hks]; rfl
      have hnu := (und_kd hund (x := y.1) (k := .free) hks).resolve_left (by decide)
      unfold slotv
      rw [hkk]
      have hre : rek sc y.1 .free = .cell ∨ rek sc y.1 .free = .free := by unfold rek; split <;> simp
      rcases hre with hre | hre
      · rw [hre]
        show (if (List.lookup y.1 cl).isSome = true then cm y.1 else none) = _
        rw [if_pos hsome]; exact hcm
      · rw [hre]
        show (if ((List.lookup y.1 cl).isSome && !(y.1 == "__classdict__")) = true then cm y.1 else none) = _
        rw [hsome, notUnd_ne hnu classdict_und]; exact hcm
  have apI : Apart F2 ad lc B₂ s₁.heap.objs.size := by
    refine ⟨hnB _ (size_none _), size_none _, fun f => ?_, fun p => ?_⟩
    · obtain ⟨o', ho'⟩ := f.1; rw [size_none] at ho'; cases ho'
    · rcases p with q | p | ⟨x, v, e, _⟩
      · exact nCI q.symm
      · cases p
      · exact (noOwn x v e).elim
  have apD : Apart F2 ad lc B₂ (s₁.heap.push o).objs.size := by
    have hn := freshAt (s₁.heap.push o).objs.size (by rw [e1]; omega)
    refine ⟨hnB _ hn, hn, fun f => ?_, fun p => ?_⟩
    · obtain ⟨o', ho'⟩ := f.1; rw [hn] at ho'; cases ho'
    · rcases p with q | p | ⟨x, v, e, _⟩
      · exact nCD q.symm
      · cases p
      · exact (noOwn x v e).elim
  have loop : codeAny (model prog w) A (.compLoop (.ListComp elt [⟨tgt, iter, ifs, 0⟩] scope pos) 0 (.ref s₁.heap.objs.size) (.ref (s₁.heap.push o).objs.size) F2.env)
      (compPost (model prog w) A E use Q (.ref (s₁.heap.push o).objs.size) H2.objs.size) { s₁ with heap := h₁, toks := s₁.toks + ([] : List (Str × Value)).length } := by
    refine comp_loop (F := F2) hE hTe a.a ok2 I rfl hloop hbig R2 (fun _ _ e => e) st1 apI apD nDI ⟨[], 0, hDget, .nil⟩ fun s' B' m' cm' ad' l' T c3 aD => ?_
    have hkeep : s₁.heap.StaysIn s'.heap := fun b o' e => T.rel.keepK b o' e
    have R3 : Rel prog w mg mb F m cm ad (freezeAll (captured scope.names) l1) B' s' := R₂.after hkeep T.keep T.rel.keepB fun b o' e => by
      cases q : s₁.heap.get? b with
      | none => exact .inr rfl
      | some o'' =>
        cases q' : B₂.get? b with
        | none => have := T.rel.forb b ⟨⟨o'', q⟩, q'⟩; rw [e] at this; cases this
        | some o3 => have := T.keep _ _ q'; rw [e] at this; cases this; exact .inl rfl
    have ap0D : Apart F ad (freezeAll (captured scope.names) l1) B₂ (s₁.heap.push o).objs.size := Apart.new R₂ (freshAt _ (by rw [e1]; omega))
    have ap0C : Apart F ad (freezeAll (captured scope.names) l1) B₂ H2.objs.size := Apart.new R₂ (freshAt _ (by rw [e2]; omega))
    refine hQ _ _ s' B' ⟨t₁.sh.trans (Sh.trans ⟨h₁, s₁.toks, rfl⟩ T.sh), fun b o' e => T.keep b o' (k12 b o' (t₁.keep b o' e)), R3⟩ ⟨c3, aD.noB, ap0D.noK, ap0D.noF, ap0D.noP⟩ ⟨T.rel.privB _ (.inl rfl), ap0C.noK, ap0C.noF, ap0C.noP, nCD, ⟨m', T.rel.ns⟩⟩
  exact codeAny_compStart_list loop ((I.W A a.a.1).self 0 _ _ _ st1 loop)
end
end Mine
end

section
open PySem PySem.Calls PyProof.Rows
set_option Elab.async false
set_option linter.unusedVariables false
namespace Mine
section
variable {prog : Program} {w : World} {mg mb : Str → Option Value} {C : Oracle} {k : Nat} {n : Nat}
noncomputable def PairsOk (B : Heap) : List Str → List PyData → List (Value × Value) → Prop
  | [], [], [] => True
  | a :: ks, x :: xs, (kv, vv) :: r => (∃ t, kv = .str a t) ∧ RD B vv x ∧ PairsOk B ks xs r
  | _, _, _ => False
theorem PairsOk.strs {B : Heap} : ∀ {ks xs r}, PairsOk B ks xs r → allStrKeys r = true ∧ (strPairs r).map (·.1) = ks ∧ Prs B (strPairs r) (ks.zip xs)
  | [], [], [], _ => ⟨rfl, rfl, .nil⟩
  | a :: ks, x :: xs, (kv, vv) :: r, h => by
    obtain ⟨⟨t, rfl⟩, h2, h3⟩ := h
    obtain ⟨i1, i2, i3⟩ := h3.strs
    exact ⟨i1, by simp [strPairs, i2], .cons h2 i3⟩
  | [], [], _ :: _, h | [], _ :: _, _, h | _ :: _, [], _, h | _ :: _, _ :: _, [], h => by simp [PairsOk] at h
noncomputable def PPairs (prog : Program) (w : World) (mg mb : Str → Option Value) (C : Oracle) (k n : Nat) : Prop := ∀ {sc es l vs l'}, evEs C sc n es l = some (vs, l') → ∀ {A E F m cm ad B s Q} {pos : Pos} {ks : List (Str × Nat × Pos)}, ks.length = es.length → At prog w mg mb k A sc F m cm ad l B s →
  (∀ pvs s' B', To prog w mg mb F m cm ad l' B s B' s' → PairsOk B' (ks.map (·.1)) vs pvs → Q pvs s') → wpAny (model prog w) A (evalPairs (pairTrees (ks.map fun q => some (.Constant (.str q.1) q.2.1 q.2.2)) es F.env pos)) Q E s
theorem ppairs_succ (hE : PE prog w mg mb C k n) (hP : PPairs prog w mg mb C k n) : PPairs prog w mg mb C k (n + 1) := by
  intro sc es l vs l' h A E F m cm ad B s Q pos ks hl a hQ
  cases es with
  | nil =>
    rw [evEs_succ] at h; delta stEs at h; dsimp only at h; cases h
    cases ks with
    | nil => exact pairTrees_nil_walk (hQ _ _ _ (To.refl a.rel) trivial)
    | cons _ _ => simp at hl
  | cons e r =>
    cases ks with
    | nil => simp at hl
    | cons q ks =>
      rw [evEs_succ] at h; delta stEs at h; dsimp only at h
      split at h
      · rename_i v l1 h1
        split at h
        · rename_i vs' l2 h2
          cases h
          refine pairTrees_cons_walk (const_sound (v := .str q.1) rfl fun val tk hv => ?_)
          refine hE h1 (a.next (To.toks a.rel tk)) fun val₂ s₁ B₁ t₁ hv₂ => ?_
          refine hP h2 (by simpa using hl) (a.next ((To.toks a.rel tk).trans t₁)) fun pvs s₂ B₂ t₂ hp => ?_
          exact hQ _ _ _ (((To.toks a.rel tk).trans t₁).trans t₂) ⟨RD.str (hv B), hv₂.keeps t₂.keep, hp⟩
        · cases h
      · cases h

theorem strKey_spec {k : Option Expr} {a : Str} (h : strKey k = some a) : ∃ n p, k = some (.Constant (.str a) n p) := by
  rcases k with _ | e
  · exact no_none h
  cases e <;> try exact no_none h
  rename_i c n p
  cases c <;> try exact no_none h
  cases h
  exact ⟨n, p, rfl⟩
theorem no_false {P : Prop} (h : false = true) : P := nomatch h
theorem isSetCall_spec {sc : Scope} {f : Expr} {args : List Expr} (h : isSetCall sc f args = true) : ∃ x p, f = .Name x p ∧ args = [] ∧ isGlob (kd sc x) = true ∧ eqb x sSet = true := by
  cases f <;> try exact no_false h
  rename_i x p
  rcases args with _ | ⟨a, r⟩ <;> try exact no_false h
  have h' := Bool.and_eq_true_iff.mp h
  exact ⟨x, p, rfl, rfl, h'.1, h'.2⟩
theorem own_new {F : Fx} {ad : Str → Addr} {l : Loc} {B : Heap} {s : Shared} {v : AV} {c : Addr} (ap : Apart F ad l B c) (h : CR prog w B s.heap v c) : OwnNew prog w F ad l B s v c := ⟨h, ap.noB, ap.noK, ap.noF, ap.noP⟩

theorem pv (hE : PE prog w mg mb C k n) (hEs : PEs prog w mg mb C k n) (hP : PPairs prog w mg mb C k n) (hCall : PCall prog w mg mb C k n) {sc e l sl l'} (h : evV C sc n e l = some (sl, l')) {A E F m cm ad B s Q} (a : At prog w mg mb k A sc F m cm ad l B s)
    (hQ : ∀ val s' B', To prog w mg mb F m cm ad l' B s B' s' → NewSl prog w F ad l' B' s' val sl → Q val s') : wpAny (model prog w) A (eval e F.env) Q E s := by
  have call : ∀ {e : Expr} {v b l1}, evCall C sc n e l = some (v, b, l1) → sl = (if b = true then .own v else .val v) → l' = l1 → wpAny (model prog w) A (eval e F.env) Q E s := by
    intro e v b l1 h1 hsl hl
    subst hl
    refine hCall h1 a fun val s₁ B₁ t₁ hc => ?_
    subst hsl
    cases b with
    | false => exact hQ _ _ _ t₁ hc
    | true => exact hQ _ _ _ t₁ hc
  have other : ∀ {e : Expr}, (match evE C sc n e l with | some (v, l1) => some (Sl.val v, l1) | none => none) = some (sl, l') → wpAny (model prog w) A (eval e F.env) Q E s := by
    intro e h
    split at h
    · rename_i v l1 h1
      cases h
      exact hE h1 a fun val s₁ B₁ t₁ hv => hQ _ _ _ t₁ hv
    · cases h
  cases e with
  | List es pos =>
    delta evV at h; dsimp only at h
    split at h
    · rename_i vs l1 h1
      split at h
      · rename_i hz
        cases h
        refine List_ (hEs h1 a fun vals s₁ B₁ t₁ hr => ?_)
        refine newList_val t₁.rel hr (by rw [hr.length, sizeLine_eq]; simp [big] at hz; omega) fun x s₂ sh R₂ on => ?_
        exact hQ _ _ _ (t₁.trans ⟨sh, fun _ _ e => e, R₂⟩) ⟨x, rfl, on⟩
      · cases h
    · cases h
  | Dict ks vs pos =>
    delta evV at h; dsimp only at h
    rcases ks with _ | ⟨k1, _ | ⟨k2, _ | ⟨k3, _ | ⟨k4, ks⟩⟩⟩⟩ <;> try exact no_none h
    · rcases vs with _ | ⟨v1, vs⟩ <;> try exact no_none h
      cases h
      refine wpAny_Dict_empty ?_
      have R' := a.rel.keep (s' := { s with heap := s.heap.push { cls := .type "dict", data := .dict #[] } }) (push_stays _ _)
      have ap := Apart.new a.rel (size_none s.heap)
      refine hQ _ _ _ ⟨⟨_, s.toks, rfl⟩, fun _ _ e => e, R'⟩ ⟨_, rfl, own_new ap ⟨?_, [], ⟨_, #[], 0, Heap.get?_push_size _ rfl, ⟨rfl, rfl, rfl⟩, rfl, fun e he => by simp at he, .nil, by simp⟩, .nil⟩⟩
      exact beq_eq_false_iff_ne.mpr (Nat.ne_of_gt (a.rel.gl.sys a.rel.keepB))
    · dsimp only at h
      split at h
      case h_2 => cases h
      rename_i ka kb kc q1 q2 q3
      obtain ⟨na, pa, rfl⟩ := strKey_spec q1
      obtain ⟨nb, pb, rfl⟩ := strKey_spec q2
      obtain ⟨nc, pc, rfl⟩ := strKey_spec q3
      split at h
      · rename_i x y z l1 h1
        split at h
        · cases h
        · rename_i hne
          cases h
          simp only [Bool.or_eq_true, not_or, Bool.not_eq_true] at hne
          obtain ⟨⟨n1, n2⟩, n3⟩ := hne
          have hlen := (evEs_plain h1).2
          refine wpAny_Dict_walk (knd := PySem.strKind prog w) rfl (by rw [hlen]; rfl) (by simp) (by simp) ?_
          have R' := a.rel.keep (s' := { s with heap := s.heap.push { cls := .type "dict", data := .dict #[] } }) (push_stays _ _)
          have ap := Apart.new a.rel (size_none s.heap)
          have hdn : ∃ o, (s.heap.push { cls := .type "dict", data := .dict #[] }).get? s.heap.objs.size = some o := ⟨_, Heap.get?_push_size _ rfl⟩
          have S1 := R'.stand (fun c => c = s.heap.objs.size) fun c hc => by subst hc; exact ⟨ap.noB, hdn, ap.noP⟩
          refine hP (F := F.stand ad l (s.heap.push { cls := .type "dict", data := .dict #[] }) fun c => c = s.heap.objs.size) (ks := [(ka, na, pa), (kb, nb, pb), (kc, nc, pc)]) h1 (by rw [hlen]; rfl) ⟨a.a, a.ok, S1⟩ fun pvs s₁ B₁ t₁ hp => ?_
          have R3 := back_stand R' t₁.rel
          obtain ⟨ap3, keepD⟩ := apart_stand (c := s.heap.objs.size) R' t₁.rel ap rfl hdn
          obtain ⟨q1, q2, q3⟩ := hp.strs
          have hd0 : s₁.heap.DictOf (PySem.strKind prog w) s.heap.objs.size [] := ⟨_, #[], 0, keepD _ (Heap.get?_push_size _ rfl), ⟨rfl, rfl, rfl⟩, rfl, fun e he => by simp at he, .nil, by simp⟩
          refine PySem.display_done_str q1 ?_ hd0 fun h' hd' hs' => ?_
          · rw [q2]
            have e1 := eqb_false.mp n1
            have e2 := eqb_false.mp n2
            have e3 := eqb_false.mp n3
            simp [e1, e2, e3]
          have R4 := chg_one R3 hs' ap3.noB ap3.noK ap3.noF ap3.noP
          have R5 := R4.keep (s' := { s₁ with heap := h', toks := s₁.toks + pvs.length }) (fun _ _ e => e)
          refine hQ _ _ _ ⟨Sh.trans ⟨_, s.toks, rfl⟩ (t₁.sh.trans ⟨h', _, rfl⟩), t₁.keep, R5⟩ ⟨_, rfl, own_new ap3 ⟨?_, strPairs pvs, hd', q3⟩⟩
          exact beq_eq_false_iff_ne.mpr (Nat.ne_of_gt (a.rel.gl.sys a.rel.keepB))
      · cases h
  | Call fe args kws q =>
    cases kws with
    | cons => exact other h
    | nil =>
      delta evV at h; dsimp only at h
      split at h
      · rename_i hc
        cases h
        obtain ⟨f, p, rfl, rfl, hg, hs⟩ := isSetCall_spec hc
        have hf := (eqb_iff.mp hs).trans sSet_eq
        subst hf
        refine Call_ (name_blt a hg (v := .type "set") (by decide +kernel) ?_) rfl
        refine PySem.callWith_type (args := []) rfl (PyProof.Rows.evalArgs_none (call_set_0 fun led => ?_))
        have R' := a.rel.keep (s' := { s with heap := s.heap.push (freshSet led) }) (push_stays _ _)
        have ap := Apart.new a.rel (size_none s.heap)
        exact hQ _ _ _ ⟨⟨_, s.toks, rfl⟩, fun _ _ e => e, R'⟩ ⟨_, rfl, own_new ap ((freshSet_su led s.heap).cru List.nodup_nil)⟩
      · split at h
        · rename_i v l1 h1; cases h; exact call h1 rfl rfl
        · rename_i v l1 h1; cases h; exact call h1 rfl rfl
        · cases h
  | _ => exact other h
end
end Mine
end

section
open PySem PySem.Calls PyProof.Rows
set_option Elab.async false
set_option linter.unusedVariables false
namespace Mine
section
variable {prog : Program} {w : World} {mg mb : Str → Option Value} {C : Oracle} {k : Nat} {n : Nat}

theorem load_slot {F : Fx} {m cm : Str → Option Value} {ad : Str → Addr} {l : Loc} {B : Heap} {s : Shared} {A : Around} {sc : Scope} {E : Value → Shared → Prop} {Q : Value → Shared → Prop} {x : Str} {sl : Sl} (a : At prog w mg mb k A sc F m cm ad l B s) (hx : lkp x l = some sl)
    (h : ∀ val, slotv F.env m cm x = some val → SlR prog w B s.heap (ad x) sl val → Q val s) : wpAny (model prog w) A (loadName F.env x) Q E s := by
  obtain ⟨val, hv, hr⟩ := a.rel.slots x sl hx
  have hq := h val hv hr
  cases hkd : F.env.kindOf x with
  | none => simp [slotv, hkd] at hv
  | some kk =>
    cases kk with
    | «local» =>
      simp only [slotv, hkd] at hv
      exact wpAny_loadName_local a.kindFn hkd a.rel.ns hv hq
    | cell =>
      simp only [slotv, hkd] at hv
      split at hv
      · rename_i hs
        obtain ⟨c, hc⟩ := Option.isSome_iff_exists.mp hs
        exact wpAny_loadName_cell a.kindFn hkd hc (hv ▸ a.rel.cl x c hc) hq
      · cases hv
    | free =>
      simp only [slotv, hkd] at hv
      split at hv
      · rename_i hs
        simp only [Bool.and_eq_true, Bool.not_eq_true'] at hs
        obtain ⟨c, hc⟩ := Option.isSome_iff_exists.mp hs.1
        exact wpAny_loadName_free a.kindFn hkd hc (hv ▸ a.rel.cl x c hc) hq hs.2
      · cases hv
    | _ => simp [slotv, hkd] at hv

/-- a value is bound to a name, beside a thing that stands apart -/
theorem store_to {F : Fx} {m cm : Str → Option Value} {ad : Str → Addr} {l : Loc} {B : Heap} {s : Shared} {A : Around} {sc : Scope} {E : Value → Shared → Prop} {Q : Unit → Shared → Prop} {x : Str} {sl : Sl} {val : Value} (a : At prog w mg mb k A sc F m cm ad l B s) (st : StOk sc F) (hv : (isVarKind (kd sc x) && !isPin sc x) = true)
    (hn : NewSl prog w F ad l B s val sl) (h : ∀ s' m' cm' ad', To prog w mg mb F m' cm' ad' (lput x sl l) B s B s' → Q () s') : wpAny (model prog w) A (storeName F.env x val) Q E s :=
  store_sound a.ok (fun _ => st) a.rel (Bool.and_eq_true_iff.mp hv).1 (by simpa using (Bool.and_eq_true_iff.mp hv).2) hn fun s' m' cm' ad' sh R => h s' m' cm' ad' ⟨sh, fun _ _ e => e, R⟩

theorem swaps_comp {elt : Expr} {gens : List Comprehension} {scope : Scope} {pos px : Pos} {x : Str} {line : Nat} {env : Env} : ∃ b, swapsWith (.ListComp elt gens scope pos) (some (.Name x px)) line env = pure b := ⟨_, rfl⟩
noncomputable def isComp : Expr → Bool
  | .ListComp .. | .SetComp .. | .DictComp .. => true
  | _ => false
theorem swaps_no {e : Expr} {t : Option Expr} {line : Nat} {env : Env} (h : isComp e = false) : swapsWith e t line env = pure false := by
  cases e <;> first | rfl | cases h
theorem swaps_sub {e o i : Expr} {p : Pos} {line : Nat} {env : Env} : swapsWith e (some (.Subscript o i p)) line env = pure false := by
  cases e <;> rfl

theorem ps_assign (hE : PE prog w mg mb C k n) (hEs : PEs prog w mg mb C k n) (hP : PPairs prog w mg mb C k n) (hCall : PCall prog w mg mb C k n) (hComp : ∀ n', n' < n → PComp prog w mg mb C k n') {sc x px e pos l fl l'} (h : evS C sc (n + 1) (.Assign [.Name x px] e pos) l = some (fl, l')) {A} {E : Value → Shared → Prop} {F m cm ad B s} {Q : Flow → Shared → Prop}
    (a : At prog w mg mb k A sc F m cm ad l B s) (st : StOk sc F) (hQ : ∀ f s' B' m' cm' ad', To prog w mg mb F m' cm' ad' l' B s B' s' → FlR prog w F ad' l' B' s' fl f → Q f s') : wpAny (model prog w) A (exec (.Assign [.Name x px] e pos) F.env) Q E s := by
  rw [evS_succ] at h; delta stS at h; dsimp only at h
  split at h
  case isFalse => cases h
  rename_i hk
  split at h
  case h_2 => cases h
  rename_i sl l1 h1
  cases h
  have plain : swapsWith e (some (.Name x px)) pos.line F.env = pure false → wpAny (model prog w) A (exec (.Assign [.Name x px] e pos) F.env) Q E s := fun hs => by
    refine wpAny_Assign_Name (pv hE hEs hP hCall h1 a fun val s₁ B₁ t₁ hn => ?_) hs
    exact store_to (a.next t₁) st hk hn fun s₂ m₂ cm₂ ad₂ t₂ => hQ _ _ _ _ _ _ (t₁.trans t₂) rfl
  by_cases hc : isComp e = true
  · cases e with
    | ListComp elt gens scope cpos =>
      obtain ⟨b, hb⟩ := swaps_comp (elt := elt) (gens := gens) (scope := scope) (pos := cpos) (px := px) (x := x) (line := pos.line) (env := F.env)
      cases b with
      | false => exact plain hb
      | true =>
        rw [exec_Assign_Name_used _ _ _ _ hb]
        refine wpAny_bind (wpAny_standAt (wpAny_bind ?_))
        show wpAny _ A (do let _ ← comprehension (.ListComp elt gens scope cpos) scope F.env _ (newList []) (firstAsync gens) (firstIter gens F.env) (some (assign (.Name x px) F.env))) _ _ s
        -- the list, as the evaluator sees it
        delta evV at h1; dsimp only at h1
        split at h1
        case h_2 => cases h1
        rename_i v l2 h2
        cases h1
        cases n with
        | zero => cases h2
        | succ n =>
          rw [evE_succ] at h2; delta stE at h2; dsimp only at h2
          split at h2
          case h_2 => cases h2
          rename_i vs l3 h3
          cases h2
          refine wpAny_bind (hComp n (Nat.lt_succ_self _) (use := some (assign (.Name x px) F.env)) (Q := fun _ s' => wpAny (model prog w) A (pure PUnit.unit) (fun _ s'' => wpAny (model prog w) A (pure Flow.next) Q E s'') E s') h3 a fun D c s₁ B₁ t₁ on cc => ?_)
          obtain ⟨m', hm'⟩ := cc.ns
          obtain ⟨B₂, t₂, hv, hB₂⟩ := on.vr' t₁.rel
          have ap : Apart F ad _ B₂ c := ⟨hB₂ c cc.ne cc.noB, cc.noK, cc.noF, cc.noP⟩
          obtain ⟨oc, _, _, hoc, _⟩ := id hm'
          have S1 := t₂.rel.stand (fun b => b = c) fun b hb => by subst hb; exact ⟨ap.noB, ⟨oc, hoc⟩, ap.noP⟩
          show wpAny _ A (assign (.Name x px) F.env (.ref D)) _ _ _
          refine wpAny_assign_Name (store_to (F := F.stand ad l1 s₁.heap fun b => b = c) ⟨a.a, a.ok, S1⟩ ⟨st.fn, st.has, st.apart⟩ hk (sl := .val (.d (.list vs))) hv fun s₃ m₃ cm₃ ad₃ t₃ => ?_)
          have R3 := back_stand t₂.rel t₃.rel
          obtain ⟨ap3, keepC⟩ := apart_stand (c := c) t₂.rel t₃.rel ap rfl ⟨oc, hoc⟩
          refine ⟨m', hm'.at' fun o e => keepC o e, fun h' hs' => ?_⟩
          have R4 := chg_one R3 hs' ap3.noB ap3.noK ap3.noF ap3.noP
          refine wpAny_pure (wpAny_pure (hQ _ _ _ _ _ _ ((t₁.trans t₂).trans ⟨t₃.sh.trans ⟨h', s₃.toks, rfl⟩, t₃.keep, R4⟩) rfl))
    | SetComp => cases n <;> exact no_none h1
    | DictComp => cases n <;> exact no_none h1
    | _ => cases hc
  · exact plain (swaps_no (by simpa using hc))
end
end Mine
end

section
open PySem PySem.Calls PyProof.Rows
set_option Elab.async false
set_option linter.unusedVariables false
namespace Mine
section
variable {prog : Program} {w : World} {mg mb : Str → Option Value} {C : Oracle} {k : Nat} {n : Nat}

theorem rangeSize_one (a b : Int) : Builtin.Range.rangeSize a b 1 = ((b - a).toNat : Int) := by
  unfold Builtin.Range.rangeSize
  rw [if_pos (by decide)]
  split
  · rw [Int.ediv_one]; omega
  · omega
theorem small_one {a b : Int} (h0 : 0 ≤ a) (h1 : a < 1000) (h2 : b < 1000) (h3 : -1000 < b) : Builtin.Range.small a b 1 = true := by
  have f : ∀ x : Int, -1000 < x → x < 2000 → Builtin.Range.rangeFitsLong x = true := fun x hx hy => by
    simp [Builtin.Range.rangeFitsLong]; omega
  unfold Builtin.Range.small
  rw [rangeSize_one]
  rw [f a (by omega) (by omega), f b h3 (by omega), f 1 (by omega) (by omega), f ((b - a).toNat) (by omega) (by omega)]
  simp only [Bool.true_and]
  rw [if_pos (by decide), f (b + (1 - 1)) (by omega) (by omega)]
  simp

theorem iter_range {s : Shared} {A : Around} {E : Value → Shared → Prop} {B : Heap} {r : Addr} {a b : Int} {t u v : Tok} {Q : Value → Shared → Prop} (hr : IsRange s.heap r a b 1 t u v) (hs : Builtin.Range.small a b 1 = true)
    (h : ∀ (o : Obj) fp P St, Iter prog w B s.heap.objs.size (rangeD a b) fp P St → St 0 (s.heap.push o) → Q (.ref s.heap.objs.size) { s with heap := s.heap.push o }) : wpAny (model prog w) A (pyIter (.ref r)) Q E s := by
  refine wpAny_pyIter_range hr hs ?_
  refine h _ [s.heap.objs.size] (fun i v => ∃ t, v = .int (a + i * 1) t ∧ i < (b - a).toNat) (fun i h => IsRangeIter h s.heap.objs.size (a + (i : Nat) * 1) (((b - a).toNat : Int) - (i : Nat)) 1) ⟨fun A' hh => ?_, fun b hb => .inl (List.mem_singleton.mp hb), fun i v hp => ?_, fun i h st => ⟨_, st⟩, fun st ht hq => ?_⟩ ?_
  · have W := Walks.range (prog := prog) (w := w) hh s.heap.objs.size a 1 (b - a).toNat
    have hl : (rangeD a b).length = (b - a).toNat := by simp [rangeD]
    rw [hl]
    exact ⟨W.sub, W.frame, fun i s Q E hi st hQ => W.item i s Q E hi st fun v h' tk hp st' hk => hQ v h' tk (by obtain ⟨t, ht⟩ := hp; exact ⟨t, ht, hi⟩) st' hk, W.done, W.self⟩
  · obtain ⟨t, rfl, hi⟩ := hp
    refine ⟨.int (a + i), ?_, ?_⟩
    · simp [rangeD, hi]
    · rw [Int.mul_one]; exact rdInt
  · refine go_name (ht.resolve_right ?_) hq
    rintro ⟨j, l, e⟩
    simp only [rangeD, List.getElem?_map] at e
    cases q : (List.range (b - a).toNat)[j]? with
    | none => rw [q] at e; cases e
    | some c => rw [q] at e; cases e
  · have e : (s.heap.push { cls := .type "range_iterator", data := .fields #[rawInt a, rawInt (Builtin.Range.rangeSize a b 1), rawInt 1] }).get? s.heap.objs.size = some { cls := .type "range_iterator", data := .fields #[rawInt a, rawInt (Builtin.Range.rangeSize a b 1), rawInt 1] } := Heap.get?_push_size _ rfl
    rw [rangeSize_one] at e
    rw [rangeSize_one]
    show IsRangeIter _ _ (a + ((0 : Nat) : Int) * 1) (((b - a).toNat : Int) - ((0 : Nat) : Int)) 1
    have e1 : a + ((0 : Nat) : Int) * 1 = a := by simp
    have e2 : ((b - a).toNat : Int) - ((0 : Nat) : Int) = ((b - a).toNat : Int) := by simp
    rw [e1, e2]
    exact e

theorem for_any {sc : Scope} {A : Around} {F : Fx} {b : List Stmt} {t iter : Expr} {pos : Pos} (hSs : PSs prog w mg mb C k n) {items : List PyData} {l l1 l' : Loc} {fl : Fl} (hpl : plainE iter = true)
    (h : forLoop (fun v l => match bindTgt sc t v l with | some l1 => evSs C sc n b l1 | none => none) items l1 = some (fl, l')) {E : Value → Shared → Prop} {m cm ad B} {s : Shared} {Q : Flow → Shared → Prop} (a : At prog w mg mb k A sc F m cm ad l B s) (st : StOk sc F)
    (hi : ∀ (Q' : Value → Shared → Prop), (∀ xv s₁ B₁, To prog w mg mb F m cm ad l1 B s B₁ s₁ → (∀ (Q'' : Value → Shared → Prop), (∀ (o : Obj) fp P St, Iter prog w B₁ s₁.heap.objs.size items fp P St → St 0 (s₁.heap.push o) → Q'' (.ref s₁.heap.objs.size) { s₁ with heap := s₁.heap.push o }) → wpAny (model prog w) A (pyIter xv) Q'' E s₁) → Q' xv s₁) → wpAny (model prog w) A (eval iter F.env) Q' E s)
    (hQ : ∀ f s' B' m' cm' ad', To prog w mg mb F m' cm' ad' l' B s B' s' → FlR prog w F ad' l' B' s' fl f → Q f s') : wpAny (model prog w) A (exec (.For t iter b [] pos) F.env) Q E s := by
  refine wpAny_For (hi _ fun xv s₁ B₁ t₁ hit => ?_) (folded_plain hpl)
  refine hit _ fun o fp P St I st0 => ?_
  have R2 := t₁.rel.keep (s' := { s₁ with heap := s₁.heap.push o }) (push_stays _ _)
  have ap := Apart.new t₁.rel (size_none s₁.heap)
  refine for_loop hSs a.a a.ok st I h R2 (fun _ _ e => e) st0 ap fun f s' B' m' cm' ad' T hf => ?_
  exact hQ _ _ _ _ _ _ (t₁.trans (To.trans ⟨⟨_, s₁.toks, rfl⟩, fun _ _ e => e, R2⟩ T)) hf
end
end Mine
end

section
open PySem PySem.Calls PyProof.Rows
set_option Elab.async false
set_option linter.unusedVariables false
namespace Mine
section
variable {prog : Program} {w : World} {mg mb : Str → Option Value} {C : Oracle} {k : Nat} {n : Nat}

theorem rangeArgs_spec {sc : Scope} {e : Expr} {args : List Expr} (h : rangeArgs sc e = some args) : ∃ f p q, e = .Call (.Name f p) args [] q ∧ isGlob (kd sc f) = true ∧ eqb f sRange = true := by
  cases e <;> try exact no_none h
  rename_i fe as kws q
  cases fe <;> try exact no_none h
  rename_i f p
  cases kws <;> try exact no_none h
  obtain ⟨hc, rfl⟩ := of_ite h
  have h' := Bool.and_eq_true_iff.mp hc
  exact ⟨f, p, q, rfl, h'.1, h'.2⟩
theorem ps_succ (hE : PE prog w mg mb C k n) (hEs : PEs prog w mg mb C k n) (hT : PT prog w mg mb C k n) (hP : PPairs prog w mg mb C k n) (hCall : PCall prog w mg mb C k n) (hComp : ∀ n', n' < n → PComp prog w mg mb C k n') (hSs : PSs prog w mg mb C k n) : PS prog w mg mb C k (n + 1) := by
  intro sc stm l fl l' h A E F m cm ad B s Q a st hQ
  have toSh : ∀ {h' : Heap} {B₁ : Heap} {l₁ : Loc} {s₁ : Shared} {x : Str} {v v' : AV} {tk : Nat}, To prog w mg mb F m cm ad l₁ B s B₁ s₁ → lkp x l₁ = some (.own v) → CR prog w B₁ h' v' (ad x) → Heap.SameBut (ad x) s₁.heap h' → To prog w mg mb F m cm ad (lput x (.own v') l₁) B s B₁ { s₁ with heap := h', toks := tk } := by
    intro h' B₁ l₁ s₁ x v v' tk t hx hc hs
    have kk : B₁.StaysIn h' := fun b o e => (hs.2 b (fun q => by
      have := t.rel.privB _ (.inr (.inr ⟨x, _, hx, rfl⟩))
      rw [← q, e] at this; cases this)).trans (t.rel.keepB b o e)
    exact t.trans ⟨⟨h', tk, rfl⟩, fun _ _ e => e, t.rel.mut hx (s' := { s₁ with heap := h', toks := tk }) (B' := B₁) (fun b o hb e => (hs.2 b hb).trans e) (fun _ _ e => e) kk (fun _ _ e => .inl e) hc⟩
  cases stm <;> try exact no_none h
  case Assign ts e pos =>
    rcases ts with _ | ⟨t, ts⟩ <;> try exact no_none h
    cases t <;> try exact no_none h
    case Name x px =>
      rcases ts with _ | ⟨t2, ts⟩ <;> try exact no_none h
      exact ps_assign hE hEs hP hCall hComp h a st hQ
    case Subscript tb i ip =>
      cases tb <;> try exact no_none h
      rename_i x px
      rcases ts with _ | ⟨t2, ts⟩ <;> try exact no_none h
      rw [evS_succ] at h; delta stS at h; dsimp only at h
      split at h
      case h_2 => cases h
      rename_i v l1 h1
      split at h
      case h_2 => cases h
      rename_i key l2 h2
      split at h
      case h_2 => cases h
      rename_i kvs hx
      split at h
      case isFalse => cases h
      rename_i hc
      cases h
      simp only [Bool.and_eq_true, decide_eq_true_eq] at hc
      obtain ⟨sl, hsl⟩ := Option.isSome_iff_exists.mp hc.1
      refine wpAny_Assign_Subscript (hE h1 a fun val s₁ B₁ t₁ hv => ?_) swaps_sub
      refine name_slot (a.next t₁) hsl fun ov hov _ => ?_
      refine hE h2 (a.next t₁) fun iv s₂ B₂ t₂ hi => ?_
      have t12 := t₁.trans t₂
      obtain ⟨ov', e1, e2⟩ := t₂.rel.slots x _ hx
      rw [hov] at e1; cases e1
      obtain ⟨rfl, hcr⟩ := e2
      obtain ⟨t, rfl⟩ := RD.str hi
      refine setItem_sound hcr (RD.keeps t₂.keep hv) hc.2 fun h' hc' hs' => ?_
      exact hQ _ _ _ _ _ _ (toSh t12 hx hc' hs') rfl
  case AugAssign t op e pos =>
    cases t <;> try exact no_none h
    cases op <;> try exact no_none h
    rename_i x px
    rw [evS_succ] at h; delta stS at h; dsimp only at h
    split at h
    case isFalse => cases h
    rename_i hk
    split at h
    case h_2 => cases h
    rename_i i hx
    split at h
    case h_2 => cases h
    rename_i j l1 h1
    cases h
    refine wpAny_AugAssign_Name (load_slot a hx fun val _ hv => ?_)
    obtain ⟨t, rfl⟩ := RD.int hv
    refine hE h1 a fun val₂ s₁ B₁ t₁ hv₂ => ?_
    obtain ⟨u, rfl⟩ := RD.int hv₂
    refine PyProof.Rows.iadd_int ?_
    have t2 := t₁.trans (To.toks t₁.rel (s₁.toks + 1))
    exact store_to (a.next t2) st hk (sl := .val (.d (.int (i + j)))) rdInt fun s₃ m₃ cm₃ ad₃ t₃ => hQ _ _ _ _ _ _ (t2.trans t₃) rfl
  case Expr ex epos =>
    cases ex <;> try exact no_none h
    rename_i fe args kws pos
    cases fe <;> try exact no_none h
    rename_i b f q
    cases b <;> try exact no_none h
    rename_i x px
    rcases args with _ | ⟨e, _ | ⟨e2, es⟩⟩ <;> try exact no_none h
    cases kws <;> try exact no_none h
    rw [evS_succ] at h; delta stS at h; dsimp only at h
    split at h
    case isFalse => cases h
    rename_i hq
    have hint : interactive F.env = false := by unfold interactive; rw [a.kindFn]; rfl
    split at h
    · rename_i xs0 hx
      split at h
      case h_2 => cases h
      rename_i v l1 h1
      split at h
      case h_2 => cases h
      rename_i xs hx1
      split at h
      case isFalse => cases h
      rename_i hc
      cases h
      simp only [Bool.and_eq_true, decide_eq_true_eq] at hc
      have hf := (eqb_iff.mp hc.1).trans sAppend_eq
      subst hf
      have hpl := evE_plain h1
      refine wpAny_Expr ?_ hint rfl
      refine MethodCall_ ?_ (method_eq (fun _ _ _ _ => nofun) (by simp [hpl]) (by simp) hq)
      refine name_slot a hx fun val hval hv => ?_
      obtain ⟨rfl, hcr⟩ := hv
      obtain ⟨vs0, n0, ho0, _⟩ := id hcr
      refine getMethod_list_append ho0 rfl rfl ?_
      refine callWith_method1 ?_ (star_plain hpl) rfl
      refine args_cons (hE h1 a fun val₂ s₁ B₁ t₁ hv₂ => args_nil ?_) (star_plain hpl)
      obtain ⟨val', e1, e2⟩ := t₁.rel.slots x _ hx1
      rw [hval] at e1; cases e1
      obtain ⟨_, hcr1⟩ := e2
      refine append_sound hcr1 hv₂ hc.2 fun h' hc' hs' => ?_
      exact hQ _ _ _ _ _ _ (toSh (tk := s₁.toks) t₁ hx1 hc' hs') rfl
    · rename_i ks0 hx
      split at h
      case h_2 => cases h
      rename_i y l1 h1
      split at h
      case h_2 => cases h
      rename_i ks hx1
      split at h
      case isFalse => cases h
      rename_i hc
      cases h
      simp only [Bool.and_eq_true, decide_eq_true_eq] at hc
      have hf := (eqb_iff.mp hc.1).trans sAdd_eq
      subst hf
      have hpl := evE_plain h1
      refine wpAny_Expr ?_ hint rfl
      refine MethodCall_ ?_ (method_eq (fun _ _ _ _ => nofun) (by simp [hpl]) (by simp) hq)
      refine name_slot a hx fun val hval hv => ?_
      obtain ⟨rfl, hcr⟩ := hv
      refine getMethod_set_add hcr.1 ?_
      refine callWith_method1 ?_ (star_plain hpl) rfl
      refine args_cons (hE h1 a fun val₂ s₁ B₁ t₁ hv₂ => args_nil ?_) (star_plain hpl)
      obtain ⟨t, rfl⟩ := RD.str hv₂
      obtain ⟨val', e1, e2⟩ := t₁.rel.slots x _ hx1
      rw [hval] at e1; cases e1
      obtain ⟨_, hcr1⟩ := e2
      refine add_sound hcr1 hc.2 fun h' hc' hs' => ?_
      exact hQ _ _ _ _ _ _ (toSh (tk := s₁.toks + 1) t₁ hx1 hc' hs') rfl
    · cases h
  case If t b o pos =>
    rw [evS_succ] at h; delta stS at h; dsimp only at h
    split at h
    · rename_i l1 h1
      refine wpAny_If (hT h1 a fun s₁ B₁ t₁ => ?_)
      simp only [if_true]
      exact hSs h (a.next t₁) st fun f s₂ B₂ m₂ cm₂ ad₂ t₂ hf => hQ _ _ _ _ _ _ (t₁.trans t₂) hf
    · rename_i l1 h1
      refine wpAny_If (hT h1 a fun s₁ B₁ t₁ => ?_)
      simp only [Bool.false_eq_true, if_false]
      exact hSs h (a.next t₁) st fun f s₂ B₂ m₂ cm₂ ad₂ t₂ hf => hQ _ _ _ _ _ _ (t₁.trans t₂) hf
    · cases h
  case While t b o pos =>
    cases o <;> try exact no_none h
    rw [evS_succ] at h; delta stS at h; dsimp only at h
    refine wpAny_While (codeAny_whileLoop (fun j s' => ∃ li mi cmi adi Bi, To prog w mg mb F mi cmi adi li B s Bi s' ∧ whileLoop (evT C sc n t) (evSs C sc n b) j li = some (fl, l')) ?_ turnsMost ⟨l, m, cm, ad, B, To.refl a.rel, h⟩)
    rintro j s' ⟨li, mi, cmi, adi, Bi, ti, hw⟩
    cases j with
    | zero => cases hw
    | succ j =>
      simp only [whileLoop] at hw
      split at hw
      · rename_i l1 h1
        refine hT h1 ⟨a.a, a.ok, ti.rel⟩ fun s₁ B₁ t₁ => ?_
        simp only [if_true]
        split at hw
        · rename_i l2 h2
          refine hSs h2 ⟨a.a, a.ok, t₁.rel⟩ st fun f s₂ B₂ m₂ cm₂ ad₂ t₂ hf => ?_
          cases hf
          exact ⟨j, Nat.lt_succ_self _, l2, m₂, cm₂, ad₂, B₂, (ti.trans t₁).trans t₂, hw⟩
        · rename_i l2 h2
          refine hSs h2 ⟨a.a, a.ok, t₁.rel⟩ st fun f s₂ B₂ m₂ cm₂ ad₂ t₂ hf => ?_
          cases hf
          exact ⟨j, Nat.lt_succ_self _, l2, m₂, cm₂, ad₂, B₂, (ti.trans t₁).trans t₂, hw⟩
        · rename_i v bb l2 h2
          cases hw
          refine hSs h2 ⟨a.a, a.ok, t₁.rel⟩ st fun f s₂ B₂ m₂ cm₂ ad₂ t₂ hf => ?_
          have hf' := hf
          obtain ⟨val, rfl, _⟩ := hf'
          exact hQ _ _ _ _ _ _ ((ti.trans t₁).trans t₂) hf
        · cases hw
      · rename_i l1 h1
        cases hw
        refine hT h1 ⟨a.a, a.ok, ti.rel⟩ fun s₁ B₁ t₁ => ?_
        simp only [Bool.false_eq_true, if_false]
        exact wpAny_execs_nil (hQ _ _ _ _ _ _ (ti.trans t₁) rfl)
      · cases hw
  case For t e b o pos =>
    cases o <;> try exact no_none h
    rw [evS_succ] at h; delta stS at h; dsimp only at h
    split at h
    · rename_i args hra
      obtain ⟨f, p, q, rfl, hrg, hrs⟩ := rangeArgs_spec hra
      have hr := And.intro hrg hrs
      have hfr := (eqb_iff.mp hr.2).trans sRange_eq
      subst hfr
      have hbr : bltVal "range" = some (.type "range") := by decide +kernel
      split at h
      · rename_i kk l1 h1
        split at h
        case isFalse => cases h
        rename_i hz
        have hpl := evEs_plain h1
        obtain ⟨e0, rfl⟩ : ∃ e0, args = [e0] := by
          match args, hpl.2 with
          | [e0], _ => exact ⟨e0, rfl⟩
        have hpl' := hpl.1
        simp only [List.all_cons, Bool.and_eq_true] at hpl'
        refine for_any hSs rfl h a st (fun Q' hq' => ?_) hQ
        refine Call_ (name_blt a hr.1 hbr ?_) rfl
        refine callWith_T ?_ (star_plain hpl'.1) (stars hpl'.2).1
        refine hEs h1 a fun vals s₁ B₁ t₁ hrs => ?_
        obtain ⟨v0, vr, rfl, r0, r1⟩ := hrs.uncons
        rw [r1.unnil]
        obtain ⟨t, rfl⟩ := r0.int
        refine call_range_1 ?_
        have T2 : To prog w mg mb F m cm ad l1 B s B₁ { s₁ with heap := s₁.heap.push { cls := .type "range", data := .fields #[.int 0 s₁.toks, .int kk t, .int 1 (s₁.toks + 1)] }, toks := s₁.toks + 1 + 1 } :=
          t₁.trans ⟨⟨_, _, rfl⟩, fun _ _ e => e, t₁.rel.keep (push_stays _ _)⟩
        refine hq' _ _ _ T2 fun Q'' hq'' => ?_
        exact iter_range (prog := prog) (w := w) (B := B₁) (r := s₁.heap.objs.size) (a := 0) (b := kk) (Heap.get?_push_size _ rfl) (small_one (by decide) (by decide) hz.2 hz.1) hq''
      · rename_i ka kk l1 h1
        split at h
        case isFalse => cases h
        rename_i hz
        have hpl := evEs_plain h1
        obtain ⟨e0, e1, rfl⟩ : ∃ e0 e1, args = [e0, e1] := by
          match args, hpl.2 with
          | [e0, e1], _ => exact ⟨e0, e1, rfl⟩
        have hpl' := hpl.1
        simp only [List.all_cons, Bool.and_eq_true] at hpl'
        refine for_any hSs rfl h a st (fun Q' hq' => ?_) hQ
        refine Call_ (name_blt a hr.1 hbr ?_) rfl
        refine callWith_T ?_ (star_plain hpl'.1) (stars (by simp only [List.all_cons, Bool.and_eq_true]; exact hpl'.2)).1
        refine hEs h1 a fun vals s₁ B₁ t₁ hrs => ?_
        obtain ⟨v0, vr, rfl, r0, r1⟩ := hrs.uncons
        obtain ⟨v1, vr2, rfl, r2, r3⟩ := r1.uncons
        rw [r3.unnil]
        obtain ⟨t, rfl⟩ := r0.int
        obtain ⟨u, rfl⟩ := r2.int
        refine call_range_2 ?_
        have T2 : To prog w mg mb F m cm ad l1 B s B₁ { s₁ with heap := s₁.heap.push { cls := .type "range", data := .fields #[.int ka t, .int kk u, .int 1 s₁.toks] }, toks := s₁.toks + 1 } :=
          t₁.trans ⟨⟨_, _, rfl⟩, fun _ _ e => e, t₁.rel.keep (push_stays _ _)⟩
        refine hq' _ _ _ T2 fun Q'' hq'' => ?_
        exact iter_range (prog := prog) (w := w) (B := B₁) (r := s₁.heap.objs.size) (a := ka) (b := kk) (Heap.get?_push_size _ rfl) (small_one hz.1 hz.2.1 hz.2.2.2 hz.2.2.1) hq''
      · cases h
    · split at h
      case h_2 => cases h
      rename_i xv l1 h1
      split at h
      case h_2 => cases h
      rename_i items hit
      refine for_any hSs (evE_plain h1) h a st (fun Q' hq' => ?_) hQ
      refine hE h1 a fun val s₁ B₁ t₁ hv => hq' _ _ _ t₁ fun Q'' hq'' => ?_
      exact iter_of hit hv t₁.rel.keepB hq''
  case Return e pos =>
    cases e <;> try exact no_none h
    rw [evS_succ] at h; delta stS at h; dsimp only at h
    split at h
    · rename_i v l1 h1
      cases h
      refine wpAny_Return_some (pv hE hEs hP hCall h1 a fun val s₁ B₁ t₁ hn => ?_)
      exact hQ _ _ _ _ _ _ t₁ ⟨val, rfl, hn⟩
    · rename_i v l1 h1
      cases h
      refine wpAny_Return_some (pv hE hEs hP hCall h1 a fun val s₁ B₁ t₁ hn => ?_)
      exact hQ _ _ _ _ _ _ t₁ ⟨val, rfl, hn⟩
    · cases h
  case Continue pos =>
    cases h
    exact wpAny_Continue (hQ _ _ _ _ _ _ (To.refl a.rel) rfl)

theorem pss_succ (hS : PS prog w mg mb C k n) (hSs : PSs prog w mg mb C k n) : PSs prog w mg mb C k (n + 1) := by
  intro sc sts l fl l' h A E F m cm ad B s Q a st hQ
  cases sts with
  | nil => rw [evSs_succ] at h; delta stSs at h; dsimp only at h; cases h; exact wpAny_execs_nil (hQ _ _ _ _ _ _ (To.refl a.rel) rfl)
  | cons x r =>
    rw [evSs_succ] at h; delta stSs at h; dsimp only at h
    split at h
    · rename_i l1 h1
      refine wpAny_execs_cons (hS h1 a st fun f s₁ B₁ m₁ cm₁ ad₁ t₁ hf => ?_)
      cases hf
      exact hSs h ⟨a.a, a.ok, t₁.rel⟩ st fun f s₂ B₂ m₂ cm₂ ad₂ t₂ hf => hQ _ _ _ _ _ _ (t₁.trans t₂) hf
    · rename_i l1 h1
      cases h
      refine wpAny_execs_cons (hS h1 a st fun f s₁ B₁ m₁ cm₁ ad₁ t₁ hf => ?_)
      cases hf; exact hQ _ _ _ _ _ _ t₁ rfl
    · rename_i v b l1 h1
      cases h
      refine wpAny_execs_cons (hS h1 a st fun f s₁ B₁ m₁ cm₁ ad₁ t₁ hf => ?_)
      have hf' := hf
      obtain ⟨val, rfl, _⟩ := hf'
      exact hQ _ _ _ _ _ _ t₁ hf
    · cases h
end
end Mine
end

section
open PySem PySem.Calls PyProof.Rows
set_option Elab.async false
set_option linter.unusedVariables false
namespace Mine

noncomputable def nodupS : List Str → Bool
  | [] => true
  | x :: r => !elems r x && nodupS r
theorem nodupS_iff : ∀ {l : List Str}, nodupS l = true → l.Nodup
  | [], _ => List.nodup_nil
  | x :: r, h => by
    simp only [nodupS, Bool.and_eq_true, Bool.not_eq_true'] at h
    exact List.nodup_cons.mpr ⟨elems_false.mp h.1, nodupS_iff h.2⟩
theorem argNames_map : ∀ l : List Arg, l.map (·.arg) = argNames l
  | [] => rfl
  | ⟨x, _, _⟩ :: r => by simp [argNames, argNames_map r]
theorem zip_lookup : ∀ {xs : List Str} {vals : List Value}, vals.length = xs.length → ∀ x ∈ xs, ((xs.zip vals).lookup x).isNone = false
  | [], _, _, x, h => by simp at h
  | y :: r, [], h, _, _ => by simp at h
  | y :: r, v :: vals, h, x, hx => by
    simp only [List.zip_cons_cons, List.lookup_cons]
    split
    · rfl
    · rename_i hne
      have : x ≠ y := by simpa using hne
      exact zip_lookup (by simpa using h) x ((List.mem_cons.mp hx).resolve_left this)
theorem zip_back : ∀ {xs : List Str} {vals : List Value}, vals.length = xs.length → xs.Nodup → (xs.filterMap fun n => ((xs.zip vals).lookup n).map (n, ·)) = xs.zip vals := by
  have go : ∀ {xs ys : List Str} {vals ws : List Value}, vals.length = xs.length → ws.length = ys.length → xs.Nodup → (∀ x ∈ xs, x ∉ ys) → (xs.filterMap fun n => (((ys.zip ws) ++ xs.zip vals).lookup n).map (n, ·)) = xs.zip vals := by
    intro xs
    induction xs with
    | nil => intro ys vals ws _ _ _ _; rfl
    | cons x r ih =>
      intro ys vals ws hl hw hn hd
      cases vals with
      | nil => simp at hl
      | cons v vals =>
        have hno : ∀ (l : List Str) (u : List Value), u.length = l.length → x ∉ l → (l.zip u).lookup x = none := by
          intro l
          induction l with
          | nil => intro u _ _; rfl
          | cons y l ih2 =>
            intro u hu hx
            cases u with
            | nil => simp at hu
            | cons a u =>
              simp only [List.mem_cons, not_or] at hx
              simp only [List.zip_cons_cons, List.lookup_cons, beq_false_of_ne hx.1]
              exact ih2 u (by simpa using hu) hx.2
        have h1 : ((ys.zip ws) ++ (x, v) :: r.zip vals).lookup x = some v := by
          rw [List.lookup_append, hno ys ws hw (hd x List.mem_cons_self)]
          simp
        simp only [List.zip_cons_cons, List.filterMap_cons, h1, Option.map_some]
        congr 1
        have := ih (ys := ys ++ [x]) (vals := vals) (ws := ws ++ [v]) (by simpa using hl) (by simp [hw]) (List.nodup_cons.mp hn).2 (fun z hz hm => by
          rcases List.mem_append.mp hm with hm | hm
          · exact hd z (List.mem_cons_of_mem _ hz) hm
          · rw [List.mem_singleton] at hm; subst hm; exact (List.nodup_cons.mp hn).1 hz)
        rw [List.zip_append hw.symm] at this
        simpa using this
  intro xs vals hl hn
  simpa using go (ys := []) (ws := []) hl rfl hn (fun _ _ h => by simp at h)
theorem bind_plain {fd : FuncData} {vals : List Value} (h1 : fd.params.posonlyargs = []) (h2 : fd.params.kwonlyargs = []) (h3 : fd.params.vararg = none) (h4 : fd.params.kwarg = none) (h5 : fd.defaults = .none)
    (hl : vals.length = (argNames fd.params.args).length) (hn : (argNames fd.params.args).Nodup) : bindArgs fd ⟨vals, []⟩ = pure ((argNames fd.params.args).zip vals) := by
  have hm : ((argNames fd.params.args).filter fun n => (((argNames fd.params.args).zip vals).lookup n).isNone) = [] := by
    rw [List.filter_eq_nil_iff]
    intro x hx
    rw [zip_lookup hl x hx]; simp
  have hb := zip_back hl hn
  have hs : seqItems? Value.none = pure none := rfl
  unfold bindArgs
  simp only [h1, h2, h3, h4, h5, argNames_map, List.map_nil, List.nil_append, List.append_nil, hs, List.forIn_nil, pure_bind, hl, Option.getD_none, List.drop_nil, List.length_nil, Nat.sub_zero, List.take_length, hm, List.isEmpty_nil]
  simp
  rw [hb]
end Mine
end

section
open PySem PySem.Calls PyProof.Rows
set_option Elab.async false
set_option linter.unusedVariables false
namespace Mine

noncomputable def plainArgs (p : Arguments) : Bool := p.posonlyargs.isEmpty && p.kwonlyargs.isEmpty && p.vararg.isNone && p.kwarg.isNone && nodupS (argNames p.args)
noncomputable def notBoth (sc : Scope) (x : Str) : Bool := isVarKind (kd sc x)
noncomputable def defOk (d : Def) : Bool := plainArgs d.params && isFun d.scope.kind && !d.scope.isGenerator && !d.scope.isCoroutine && undOk d.scope.names && (argNames d.params.args).all (notBoth d.scope) && (!isInout d.name || (match argNames d.params.args with | x0 :: _ => isPin d.scope x0 | [] => false))
theorem defsOk : theDefs.all defOk = true := by decide +kernel

theorem bindL_ne {kindOf : Str → Option NameKind} {x : Str} : ∀ {binds : List (Str × Value)} {m : Str → Option Value}, (∀ v, (x, v) ∉ binds) → bindL kindOf binds m x = m x
  | [], m, _ => rfl
  | (n, v) :: r, m, h => by
    rw [bindL, bindL_ne fun v hv => h v (List.mem_cons_of_mem _ hv)]
    have : x ≠ n := fun q => h v (q ▸ List.mem_cons_self)
    split <;> simp [this]
theorem bindC_ne {kindOf : Str → Option NameKind} {x : Str} : ∀ {binds : List (Str × Value)} {m : Str → Option Value}, (∀ v, (x, v) ∉ binds) → bindC kindOf binds m x = m x
  | [], m, _ => rfl
  | (n, v) :: r, m, h => by
    rw [bindC, bindC_ne fun v hv => h v (List.mem_cons_of_mem _ hv)]
    have : x ≠ n := fun q => h v (q ▸ List.mem_cons_self)
    split <;> simp [this]
theorem bindL_at {kindOf : Str → Option NameKind} {x : Str} (hk : kindOf x = some .local) : ∀ {binds : List (Str × Value)} {m : Str → Option Value} {v : Value}, (binds.map (·.1)).Nodup → binds.lookup x = some v → bindL kindOf binds m x = some v
  | [], m, v, _, h => by cases h
  | (n, u) :: r, m, v, hn, h => by
    rw [bindL]
    simp only [List.map_cons, List.nodup_cons] at hn
    rw [List.lookup_cons] at h
    split at h
    · rename_i hx
      have hx' : x = n := by simpa using hx
      subst hx'
      cases h
      rw [bindL_ne fun v hv => hn.1 (List.mem_map.mpr ⟨_, hv, rfl⟩), hk]
      simp
    · exact bindL_at hk hn.2 h
theorem bindC_at {kindOf : Str → Option NameKind} {x : Str} (hk : kindOf x ≠ some .local) : ∀ {binds : List (Str × Value)} {m : Str → Option Value} {v : Value}, (binds.map (·.1)).Nodup → binds.lookup x = some v → bindC kindOf binds m x = some v
  | [], m, v, _, h => by cases h
  | (n, u) :: r, m, v, hn, h => by
    rw [bindC]
    simp only [List.map_cons, List.nodup_cons] at hn
    rw [List.lookup_cons] at h
    split at h
    · rename_i hx
      have hx' : x = n := by simpa using hx
      subst hx'
      cases h
      rw [bindC_ne fun v hv => hn.1 (List.mem_map.mpr ⟨_, hv, rfl⟩), if_neg hk]
      simp
    · exact bindC_at hk hn.2 h
theorem cells_keep {x : Str} : ∀ (names : List (Str × NameKind)) (i : Nat) (acc : List (Str × Addr)), (acc.lookup x).isSome = true → ((cellsFrom i names acc).lookup x).isSome = true
  | [], _, _, h => h
  | (n, kk) :: r, i, acc, h => by
    unfold cellsFrom
    split
    · refine cells_keep r _ _ ?_
      rw [List.lookup_cons]; split
      · rfl
      · exact h
    · exact cells_keep r _ _ h
theorem cells_has {x : Str} : ∀ (names : List (Str × NameKind)) (i : Nat) (acc : List (Str × Addr)), (x, NameKind.cell) ∈ names → ((cellsFrom i names acc).lookup x).isSome = true
  | [], _, _, h => by simp at h
  | (n, kk) :: r, i, acc, h => by
    unfold cellsFrom
    rcases List.mem_cons.mp h with e | h
    · cases e
      simp only [beq_self_eq_true, if_true]
      refine cells_keep r _ _ ?_
      simp
    · split
      · exact cells_has r _ _ h
      · exact cells_has r _ _ h
theorem lkp_mem {α : Type} {x : Str} {v : α} : ∀ {l : List (Str × α)}, lkp x l = some v → (x, v) ∈ l
  | [], h => by cases h
  | (y, u) :: r, h => by
    unfold lkp at h
    split at h
    · rename_i hx; cases h; rw [eqb_iff.mp hx]; exact List.mem_cons_self
    · exact List.mem_cons_of_mem _ (lkp_mem h)

section
variable {prog : Program} {w : World} {mg mb : Str → Option Value} {C : Oracle} {k : Nat} {n : Nat}
theorem bindArgs_len {xs : List Str} {args : List AV} {l0 : Loc} (h : bindArgsV xs args = some l0) : xs.length = args.length := by
  induction xs generalizing args l0 with
  | nil => cases args with
    | nil => rfl
    | cons _ _ => cases h
  | cons x r ih => cases args with
    | nil => cases h
    | cons v vs =>
      simp only [bindArgsV] at h
      split at h
      · rename_i l hl; simp [ih hl]
      · cases h
theorem bindArgs_at {B : Heap} : ∀ {xs : List Str} {args : List AV} {vals : List Value} {l0 : Loc}, bindArgsV xs args = some l0 → VRs prog w B args vals → ∀ x sl, lkp x l0 = some sl → ∃ val v, (xs.zip vals).lookup x = some val ∧ sl = .val v ∧ VR prog w B v val
  | [], args, vals, l0, h, r, x, sl, e => by
    cases args with
    | nil => cases h; cases e
    | cons _ _ => cases h
  | y :: ys, args, vals, l0, h, r, x, sl, e => by
    cases args with
    | nil => cases h
    | cons v vs =>
      simp only [bindArgsV] at h
      split at h
      · rename_i l hl
        cases h
        cases r with
        | cons hv hr =>
          unfold lkp at e
          rw [List.zip_cons_cons, List.lookup_cons]
          split at e
          · rename_i hx
            cases e
            have := eqb_iff.mp hx
            subst this
            exact ⟨_, v, by simp, rfl, hv⟩
          · rename_i hx
            have : (x == y) = false := by rw [← eqb_beq]; simpa using hx
            rw [this]
            exact bindArgs_at hl hr x sl e
      · cases h
theorem VRs.length {B : Heap} {vs vals} (h : VRs prog w B vs vals) : vs.length = vals.length := by
  induction h <;> simp_all
/-- where a def's body starts: from the arguments' values -/
theorem slots_of {B h : Heap} {io : Bool} {xa : Addr} {xs : List Str} {args : List AV} {vals : List Value} {l0 : Loc} (hb : bindArgsV xs args = some l0) (hi : InArgs prog w io B h args vals xa) :
    vals.length = xs.length ∧ (∀ x sl, lkp x (if io = true then ownFirst l0 else l0) = some sl → ∃ val, (xs.zip vals).lookup x = some val ∧ SlR prog w B h xa sl val) ∧
    (∀ x y v u, lkp x (if io = true then ownFirst l0 else l0) = some (.own v) → lkp y (if io = true then ownFirst l0 else l0) = some (.own u) → x = y) ∧ ((∃ x v, lkp x (if io = true then ownFirst l0 else l0) = some (.own v)) → io = true ∧ B.get? xa = none ∧ ∃ o, h.get? xa = some o) ∧ (∀ x sl, lkp x (if io = true then ownFirst l0 else l0) = some sl → x ∈ xs) := by
  have names : ∀ {xs : List Str} {args : List AV} {l0 : Loc}, bindArgsV xs args = some l0 → l0.map (·.1) = xs := by
    intro xs
    induction xs with
    | nil => intro args l0 h; cases args with
      | nil => cases h; rfl
      | cons _ _ => cases h
    | cons x r ih => intro args l0 h; cases args with
      | nil => cases h
      | cons v vs =>
        simp only [bindArgsV] at h
        split at h
        · rename_i l hl; cases h; simp [ih hl]
        · cases h
  have mem : ∀ {l : Loc} {x sl}, lkp x l = some sl → x ∈ l.map (·.1) := fun e => List.mem_map.mpr ⟨_, lkp_mem e, rfl⟩
  cases io with
  | false =>
    simp only [Bool.false_eq_true, if_false]
    have hv : VRs prog w B args vals := hi
    have at' := bindArgs_at hb hv
    have noOwn : ∀ x v, lkp x l0 = some (.own v) → False := fun x v e => by obtain ⟨_, _, _, q, _⟩ := at' x _ e; cases q
    refine ⟨by rw [← hv.length, bindArgs_len hb], fun x sl e => ?_, fun x y v u e _ => (noOwn x v e).elim, fun ⟨x, v, e⟩ => (noOwn x v e).elim, fun x sl e => by rw [← names hb]; exact mem e⟩
    obtain ⟨val, v, h1, rfl, h2⟩ := at' x sl e
    exact ⟨val, h1, h2⟩
  | true =>
    simp only [if_true]
    obtain ⟨v, r, rs, rfl, rfl, hc, hx, hv⟩ := hi
    cases xs with
    | nil => cases hb
    | cons x0 xs =>
      have hb0 := hb
      simp only [bindArgsV] at hb
      split at hb
      case h_2 => cases hb
      rename_i l1 hl1
      cases hb
      have at' := bindArgs_at hl1 hv
      have noOwn : ∀ x v, lkp x l1 = some (.own v) → False := fun x v e => by obtain ⟨_, _, _, q, _⟩ := at' x _ e; cases q
      show (_ ∧ (∀ x sl, lkp x ((x0, .own v) :: l1) = some sl → _) ∧ (∀ x y v' u, lkp x ((x0, .own v) :: l1) = some (.own v') → lkp y ((x0, .own v) :: l1) = some (.own u) → x = y) ∧ ((∃ x v', lkp x ((x0, .own v) :: l1) = some (.own v')) → _) ∧ (∀ x sl, lkp x ((x0, .own v) :: l1) = some sl → _))
      have isFirst : ∀ x v', lkp x ((x0, .own v) :: l1) = some (.own v') → x = x0 := fun x v' e => by
        unfold lkp at e
        split at e
        · rename_i h; exact eqb_iff.mp h
        · exact (noOwn x v' e).elim
      refine ⟨by have := bindArgs_len hl1; have := hv.length; simp; omega, fun x sl e => ?_, fun x y v' u e e' => by rw [isFirst x v' e, isFirst y u e'], fun _ => ⟨by first | rfl | trivial, hx, hc.there⟩, fun x sl e => ?_⟩
      · rw [List.zip_cons_cons, List.lookup_cons]
        unfold lkp at e
        split at e
        · rename_i h
          cases e
          have := eqb_iff.mp h
          subst this
          exact ⟨.ref xa, by simp, rfl, hc⟩
        · rename_i h
          have : (x == x0) = false := by rw [← eqb_beq]; simpa using h
          rw [this]
          obtain ⟨val, v', h1, rfl, h2⟩ := at' x sl e
          exact ⟨val, h1, h2⟩
      · have hm := mem e
        rw [List.map_cons, names hl1] at hm
        exact hm
end
end Mine
end

section
open PySem PySem.Calls PyProof.Rows
set_option Elab.async false
set_option linter.unusedVariables false
namespace Mine
section
variable {prog : Program} {w : World} {mg mb : Str → Option Value} {C : Oracle} {k : Nat}

structure Alls (prog : Program) (w : World) (mg mb : Str → Option Value) (C : Oracle) (k n : Nat) : Prop where
  e : PE prog w mg mb C k n
  i : PI prog w mg mb C k n
  b : PB prog w mg mb C k n
  es : PEs prog w mg mb C k n
  as : PAs prog w mg mb C k n
  call : PCall prog w mg mb C k n
  t : PT prog w mg mb C k n
  ts : PTs prog w mg mb C k n
  te : PTests prog w mg mb C k n
  comp : PComp prog w mg mb C k n
  pairs : PPairs prog w mg mb C k n
theorem alls (hC : PC prog w mg mb C k) : ∀ n, Alls prog w mg mb C k n
  | 0 => by
    constructor
    · intro sc e l v l' h; exact no_none h
    · intro sc e l v l' h; exact no_none h
    · intro sc e l v l' h; exact no_none h
    · intro sc e l v l' h; exact no_none h
    · intro sc e l v l' h; exact no_none h
    · intro sc e l v b l' h; exact no_none h
    · intro sc e l v l' h; exact no_none h
    · intro sc op e l v l' h; exact no_none h
    · intro sc e l v l' h; exact no_none h
    · intro sc elt gens scope l v l' h; exact no_none h
    · intro sc e l v l' h; exact no_none h
  | n + 1 =>
    let a := alls hC n
    ⟨pe_succ a.e a.b a.i a.es a.t a.call a.comp, pi_succ a.e, pb_succ a.e, pes_succ a.e a.es, pas_succ a.e a.as, pcall_succ hC a.b a.es a.as, pt_succ a.e a.b a.t a.ts, pts_succ a.t a.ts, ptests_succ a.t a.te, pcomp_succ a.e a.te, ppairs_succ a.e a.pairs⟩
theorem stmts (hC : PC prog w mg mb C k) : ∀ n, PS prog w mg mb C k n ∧ PSs prog w mg mb C k n
  | 0 => ⟨by intro sc e l v l' h; exact no_none h, by intro sc e l v l' h; exact no_none h⟩
  | n + 1 =>
    let a := alls hC n
    let b := stmts hC n
    ⟨ps_succ a.e a.es a.t a.pairs a.call (fun n' _ => (alls hC n').comp) b.2, pss_succ b.1 b.2⟩

/-- a def's body, run -/
theorem def_code (hC : PC prog w mg mb (callEval k) k) {f : Str} {args : List AV} {res : Res} (h : callEval (k + 1) f args = some res) : ∃ d, findDef f theDefs = some d ∧ ∀ {A} {E : Value → Shared → Prop} {s : Shared} {B : Heap} {a o pm code doc vals x} {Q : Value → Shared → Prop}, AOk (k + 1) A → B.StaysIn s.heap → Gl mg mb B → B.get? a = some o →
    o.data = .func (docDef d.name d.params d.body d.scope pm code doc) → B.CodeRec code d.name → InArgs prog w (isInout f) B s.heap args vals x → (res.io.isSome = isInout f) →
    (∀ val s' B', Back prog w res x B s val B' s' → Q val s') → codeAny (model prog w) A (.call (.ref a) ⟨vals, []⟩) (wants Q E) s := by
  simp only [callEval] at h
  split at h
  case h_2 => cases h
  rename_i d hd
  refine ⟨d, hd, ?_⟩
  intro A E s B a o pm code doc vals x Q hA kB G hao hod hcode hin hio hQ
  obtain ⟨hmem, hname⟩ := findDef_mem hd
  have hok := List.all_eq_true.mp defsOk d hmem
  simp only [defOk, plainArgs, Bool.and_eq_true, List.isEmpty_iff, Option.isNone_iff_eq_none, Bool.not_eq_true'] at hok
  obtain ⟨⟨⟨⟨⟨⟨⟨⟨⟨⟨p1, p2⟩, p3⟩, p4⟩, p5⟩, hfun⟩, hgen⟩, hcor⟩, hund⟩, hkinds⟩, hpinOk⟩ := hok
  have hkind : d.scope.kind = .function := by cases q : d.scope.kind <;> rw [q] at hfun <;> first | rfl | cases hfun
  unfold callBody at h
  split at h
  case h_2 => cases h
  rename_i l0 hb
  dsimp only at h
  split at h
  case h_2 => cases h
  rename_i v b l1 hev
  have hio' : isInout d.name = isInout f := by rw [hname]
  rw [hio'] at h hev
  obtain ⟨hlen, hslots, hinj, hown, hin'⟩ := slots_of hb hin
  have hnd := nodupS_iff p5
  have hbinds := bind_plain (fd := docDef d.name d.params d.body d.scope pm code doc) (vals := vals) p1 p2 p3 p4 rfl hlen hnd
  have hnm : ((argNames d.params.args).zip vals).map (·.1) = argNames d.params.args := by rw [List.map_fst_zip]; omega
  have hkk : ∀ y ∈ argNames d.params.args, kd d.scope y = some .local ∨ kd d.scope y = some .cell := fun y hy => by
    have := List.all_eq_true.mp hkinds y hy
    unfold notBoth at this
    cases q : kd d.scope y with
    | none => rw [q] at this; cases this
    | some kk => rw [q] at this; cases kk <;> first | exact .inl rfl | exact .inr rfl | cases this
  have hcellHas : ∀ y, kd d.scope y = some .cell → ((cellsFrom (s.heap.objs.size + 1) d.scope.names []).lookup y).isSome = true := fun y hy => cells_has _ _ _ (lkp_mem hy)
  refine call_cells_ret (R := wants Q E) (show A.depth < 1000 by have := hA.2.1; omega) (kB _ _ hao) hod (G.lim.keeps kB) (hcode.keeps kB) hbinds ?_ ?_ hcor hgen hkind
  · rintro ⟨y, u⟩ hy
    have hy' : y ∈ argNames d.params.args := by rw [← hnm]; exact List.mem_map.mpr ⟨_, hy, rfl⟩
    rcases hkk y hy' with q | q
    · exact .inl (by rw [← lkp_lookup]; exact q)
    · exact .inr ⟨by rw [← lkp_lookup]; exact q, hcellHas y q⟩
  intro h₁ tk Fr0 Cl0
  let io := isInout f
  let F : Fx := { env := envOfC d.name d.scope s.heap.objs.size a code, K := pick s.heap fun c => io = true ∧ c = x, Fb := fun c => (∃ o, s.heap.get? c = some o) ∧ B.get? c = none ∧ ¬ (io = true ∧ c = x), pc := (cellsFrom (s.heap.objs.size + 1) d.scope.names []).filterMap fun p => (cellsFrom (s.heap.objs.size + 1) d.scope.names []).lookup p.1, pin := if io = true then (argNames d.params.args).head?.map fun y => (y, x) else none }
  have ok : EnvOk d.scope F.env := ⟨rfl, hkind, rfl, rfl, hund⟩
  have inPc : ∀ y c, (cellsFrom (s.heap.objs.size + 1) d.scope.names []).lookup y = some c → c ∈ F.pc := fun y c e => List.mem_filterMap.mpr ⟨(y, c), mem_of_lookup e, e⟩
  have ofPc : ∀ c, c ∈ F.pc → ∃ y, (cellsFrom (s.heap.objs.size + 1) d.scope.names []).lookup y = some c := fun c hc => by
    obtain ⟨p, _, e⟩ := List.mem_filterMap.mp hc; exact ⟨p.1, e⟩
  have sto : StOk d.scope F := ⟨inPc, hcellHas, Cl0.apart⟩
  have pcGt : ∀ c, c ∈ F.pc → s.heap.objs.size < c := fun c hc => by obtain ⟨y, e⟩ := ofPc c hc; exact Cl0.above y c (mem_of_lookup e)
  have deadAt : ∀ c, s.heap.objs.size ≤ c → s.heap.get? c = none := fun c hc => by
    cases e : s.heap.get? c with
    | none => rfl
    | some o' => exact absurd (Heap.lt_size e) (Nat.not_lt.mpr hc)
  have deadB : ∀ c, s.heap.objs.size ≤ c → B.get? c = none := fun c hc => by
    cases e : B.get? c with
    | none => rfl
    | some o' => have := kB _ _ e; rw [deadAt c hc] at this; cases this
  have deadK : ∀ c, s.heap.objs.size ≤ c → F.K.get? c = none := fun c hc => by
    cases e : F.K.get? c with
    | none => rfl
    | some o' => have := (pick_get.mp e).1; rw [deadAt c hc] at this; cases this
  have hown' : ∀ y u, lkp y (if isInout f = true then ownFirst l0 else l0) = some (.own u) → io = true ∧ B.get? x = none ∧ ∃ o, s.heap.get? x = some o := fun y u e => hown ⟨y, u, e⟩
  have hsl : ∀ y sl, lkp y (if isInout f = true then ownFirst l0 else l0) = some sl → ∃ val, slotv F.env (bindL (envOfC d.name d.scope s.heap.objs.size a code).kindOf ((argNames d.params.args).zip vals) fun _ => none) (bindC (envOfC d.name d.scope s.heap.objs.size a code).kindOf ((argNames d.params.args).zip vals) fun _ => none) y = some val ∧ SlR prog w B h₁ x sl val := fun y sl e => by
    obtain ⟨val, hl, hr⟩ := hslots y sl e
    refine ⟨val, ?_, ?_⟩
    · have hk := kd_kindOf ok y
      have hndz : (((argNames d.params.args).zip vals).map (·.1)).Nodup := by rw [hnm]; exact hnd
      unfold slotv
      rcases hkk y (hin' y sl e) with q | q
      · rw [q] at hk; rw [hk]
        exact bindL_at hk hndz hl
      · rw [q] at hk; rw [hk]
        show (if ((cellsFrom (s.heap.objs.size + 1) d.scope.names []).lookup y).isSome = true then _ else _) = _
        rw [if_pos (hcellHas y q)]
        exact bindC_at (by show F.env.kindOf y ≠ _; rw [hk]; simp) hndz hl
    · exact hr.keeps (fun _ _ e => e) fun _ o' e' => Fr0.keep _ o' e'
  have hpin : ∀ y c, F.pin = some (y, c) → io = true ∧ c = x ∧ isPin d.scope y = true ∧ ∃ v, lkp y (if isInout f = true then ownFirst l0 else l0) = some (.own v) := fun y c e => by
    have hi : io = true := by
      cases q : io with
      | true => rfl
      | false =>
        have : F.pin = none := by show (if io = true then _ else none) = none; rw [q]; simp
        rw [this] at e; cases e
    have e2 : F.pin = (argNames d.params.args).head?.map fun y => (y, x) := by show (if io = true then _ else none) = _; rw [if_pos hi]
    rw [e2] at e
    have hi2 : isInout f = true := hi
    rw [hi2]
    simp only [if_true]
    cases q : argNames d.params.args with
    | nil => rw [q] at e; cases e
    | cons x0 xs =>
      rw [q] at e hpinOk hb
      cases e
      refine ⟨hi, rfl, ?_, ?_⟩
      · rw [← hname, hi2] at hpinOk
        simpa using hpinOk
      · cases args with
        | nil => cases hb
        | cons v0 vs =>
          simp only [bindArgsV] at hb
          split at hb
          · cases hb; exact ⟨v0, by simp [ownFirst, lkp, eqb_refl]⟩
          · cases hb
  have R0 : Rel prog w mg mb F (bindL (envOfC d.name d.scope s.heap.objs.size a code).kindOf ((argNames d.params.args).zip vals) fun _ => none) (bindC (envOfC d.name d.scope s.heap.objs.size a code).kindOf ((argNames d.params.args).zip vals) fun _ => none) (fun _ => x) (if isInout f = true then ownFirst l0 else l0) B { s with heap := h₁, toks := tk } := by
    refine ⟨fun c o' e => Fr0.keep c o' (pick_get.mp e).1, fun c o' e => Fr0.keep c o' (kB c o' e), G, fun c hc => hc.2.1, fun c hc => let ⟨o', ho'⟩ := hc.1; ⟨o', Fr0.keep c o' ho'⟩, Fr0.ns, Cl0.cell, fun y c e => .inl (inPc y c e), fun c hc => ?_, fun hc => Nat.lt_irrefl _ (pcGt _ hc), fun c hc => ?_, fun c hc => ?_, hsl, fun y z u u' e e' _ => hinj y z u u' e e', fun y u e => ?_, fun y c e => ?_⟩
    · obtain ⟨y, e⟩ := ofPc c hc
      obtain ⟨o', ho', _⟩ := Cl0.cell y c e
      exact ⟨o', ho'⟩
    · rcases hc with rfl | hc | ⟨y, u, e, rfl⟩
      · exact deadB _ (Nat.le_refl _)
      · exact deadB _ (Nat.le_of_lt (pcGt c hc))
      · exact (hown' y u e).2.1
    · rcases hc with rfl | hc | ⟨y, u, e, rfl⟩
      · exact deadK _ (Nat.le_refl _)
      · exact deadK _ (Nat.le_of_lt (pcGt c hc))
      · exact pick_none ⟨(hown' y u e).1, rfl⟩
    · obtain ⟨i1, i2, o', ho'⟩ := hown' y u e
      refine ⟨Nat.ne_of_lt (Heap.lt_size ho'), fun hc => ?_, fun hc => hc.2.2 ⟨i1, rfl⟩⟩
      exact Nat.lt_irrefl _ (Nat.lt_trans (pcGt x hc) (Heap.lt_size ho'))
    · obtain ⟨i1, rfl, i2, v', hv'⟩ := hpin y c e
      obtain ⟨val, e1, e2⟩ := hsl y _ hv'
      obtain ⟨rfl, _⟩ := e2
      exact ⟨i2, e1⟩
  have hA' : AOk k (A.deeper (envOfC d.name d.scope s.heap.objs.size a code)) := by
    obtain ⟨g1, g2, g3⟩ := hA
    exact ⟨g1, by show A.depth + 1 + k < 900; omega, by show A.units + 3 + 10 * k + 300 < 9900; omega⟩
  refine (stmts hC fuel).2 (F := F) hev ⟨hA', ok, R0⟩ sto fun fl s' B' m' cm' ad' T hf => ?_
  obtain ⟨val, rfl, hc⟩ := hf
  have sh : Sh s s' := Sh.trans ⟨h₁, tk, rfl⟩ T.sh
  have hkeep : ∀ c o', ¬ (io = true ∧ c = x) → s.heap.get? c = some o' → s'.heap.get? c = some o' := fun c o' hc e => T.rel.keepK c o' (pick_get.mpr ⟨e, hc⟩)
  have hnewIf : (io = true → B'.get? x = none) → ∀ c o', B'.get? c = some o' → B.get? c = some o' ∨ s.heap.get? c = none := fun hx c o' e => by
    cases q : s.heap.get? c with
    | none => exact .inr rfl
    | some o'' =>
      cases q' : B.get? c with
      | none =>
        have hne : ¬ (io = true ∧ c = x) := fun hc => by
          obtain ⟨hi, rfl⟩ := hc
          rw [hx hi] at e; cases e
        have := T.rel.forb c ⟨⟨o'', q⟩, q', hne⟩
        rw [e] at this; cases this
      | some o3 => have := T.keep _ _ q'; rw [e] at this; cases this; exact .inl rfl
  cases hi : isInout f with
  | false =>
    have hi' : io = false := hi
    rw [hi] at h
    simp only [Bool.false_eq_true, if_false] at h
    cases h
    refine hQ val s' B' ⟨sh, T.keep, T.rel.keepB, fun c o' _ e => hkeep c o' (by rw [hi']; simp) e, hnewIf (by rw [hi']; simp), ?_, fun v1 q => by cases q⟩
    cases b with
    | false => exact hc
    | true =>
      obtain ⟨y, rfl, c1, c2, c3, c4, c5⟩ := hc
      refine ⟨y, rfl, c1, c2, ?_⟩
      cases q : s.heap.get? y with
      | none => rfl
      | some o' =>
        have h9 : F.K.get? y = some o' := pick_get.mpr ⟨q, by rw [hi']; simp⟩
        rw [h9] at c3; cases c3
  | true =>
    have hi' : io = true := hi
    rw [hi] at h
    simp only [if_true] at h
    split at h
    case h_2 => cases h
    rename_i x0 xs hxs
    split at h
    case h_2 => cases h
    rename_i v1 hx1
    cases h
    obtain ⟨val', e1, e2⟩ := T.rel.slots x0 _ hx1
    have hp : F.pin = some (x0, x) := by
      show (if io = true then (argNames d.params.args).head?.map fun y => (y, x) else none) = _
      rw [if_pos hi', hxs]; rfl
    obtain ⟨_, e3⟩ := T.rel.pin x0 x hp
    rw [e1] at e3; cases e3
    obtain ⟨e4, hcr⟩ := e2
    have e5 : x = ad' x0 := by injection e4
    have hxB : B'.get? x = none := by rw [e5]; exact T.rel.privB _ (.inr (.inr ⟨x0, v1, hx1, rfl⟩))
    refine hQ val s' B' ⟨sh, T.keep, T.rel.keepB, fun c o' hc' e => hkeep c o' (fun q => hc' rfl q.2) e, hnewIf fun _ => hxB, hc, fun v2 q => ?_⟩
    cases q
    rw [e5]; exact hcr
theorem pc_zero : PC prog w mg mb (callEval 0) 0 := by intro f args res h; cases h
theorem pc_succ (hC : PC prog w mg mb (callEval k) k) : PC prog w mg mb (callEval (k + 1)) (k + 1) := by
  intro f args res h
  obtain ⟨d, hd, hh⟩ := def_code hC h
  exact ⟨d, hd, fun hA kB G hao hod hcode hin hio hQ => wpAny_call (hh hA kB G hao hod hcode hin hio hQ)⟩
theorem pc_all : ∀ k, PC prog w mg mb (callEval k) k
  | 0 => pc_zero
  | k + 1 => pc_succ (pc_all k)
end
end Mine
end

section
open PySem PySem.W PyProof.Rows
set_option Elab.async false
set_option maxRecDepth 100000
set_option maxHeartbeats 8000000
namespace Mine
noncomputable def vw : Program := { PySem.Challenge.pw_or0034_01 with main := { PySem.Challenge.pw_or0034_01.main with body := [1,3,4,5,6,7,8,9,10,11,12,13,14,15,16,18,20,21,22,23,24].filterMap fun i => PySem.Challenge.pw_or0034_01.main.body[i]? } }
theorem left : LeftO PySem.Challenge.rw_or0034_01.row.prog vw [] (fun s => xlAt vw [] s && recOk (RowW.records PySem.Challenge.rw_or0034_01.row.toRowW) s) (Hook.none.obs) (Hook.none.val) 1328 := by
  intro w
  kernel_rfl
theorem lawSome : (defOf vw (Str.ofString "law")).isSome = true := by kernel_rfl
noncomputable def lawDef : DefRec × List (Str × Expr) := (defOf vw (Str.ofString "law")).get lawSome
theorem lawEq : defOf vw PySem.Challenge.rw_or0034_01.row.toRowW.name = some (lawDef.1, lawDef.2) := (Option.some_get lawSome).symm
theorem lawIs : PySem.Challenge.rw_or0034_01.row.prog.theDef PySem.Challenge.rw_or0034_01.row.toRowW.name = some (lawDef.1.params, lawDef.1.body, lawDef.1.scope) := by kernel_rfl
theorem lawKw : kwWritten? lawDef.1.params.kwonlyargs lawDef.1.params.kw_defaults = some lawDef.2 := by kernel_rfl
theorem said : PySem.Challenge.rw_or0034_01.wellSaid = true := by
  delta OpenLaw.wellSaid
  repeat' (first | (with_reducible refine look_both ?_ ?_) | (delta OpenRow.wellSaid) | (delta OpenRow.partSaid) | (delta looksOpen))
  all_goals decide +kernel
theorem lawOk : (chainsOk vw && opensWell PySem.Challenge.rw_or0034_01.row.prog && (frees PySem.Challenge.rw_or0034_01.row.toRowW && PySem.Challenge.rw_or0034_01.row.within.isEmpty)) = true := by decide +kernel
theorem lawPromise : PySem.Challenge.rw_or0034_01.row.toRowW.promised := ⟨[.list []], by decide +kernel, by decide +kernel⟩
theorem hd (call : WalkO vw [] (XL vw []) Hook.none.says PySem.Challenge.rw_or0034_01.row.toRowW lawDef.1 lawDef.2 fun f vs => PySem.call f vs) : PySem.Challenge.rw_or0034_01.Holds := by
  refine holds_law said fun s => ?_
  exact holds_open left (Hook.of Hook.none) (Hook.keeps Hook.none) (fun s e => xl_of s (Bool.and_eq_true_iff.mp e).1) XL.keeps lawEq lawIs lawKw (fun s e => recFacts_of (Bool.and_eq_true_iff.mp e).2) (by rfl) s lawOk ⟨rfl, rfl, rfl, rfl, rfl, by decide +kernel⟩ lawPromise call
end Mine
end

section
open PySem PySem.Calls PyProof.Rows
set_option Elab.async false
set_option maxRecDepth 100000
namespace Mine
theorem recs_eq : (recsOf Mine.vw).map (fun r => (⟨r.name, r.params, r.body, r.scope⟩ : Def)) = theDefs := by kernel_rfl
theorem findDef_rec {f : Str} {d : Def} (h : findDef f theDefs = some d) : ∃ r ∈ recsOf Mine.vw, r.name = d.name ∧ r.params = d.params ∧ r.body = d.body ∧ r.scope = d.scope ∧ f = d.name := by
  obtain ⟨hm, hf⟩ := findDef_mem h
  rw [← recs_eq] at hm
  obtain ⟨r, hr, rfl⟩ := List.mem_map.mp hm
  exact ⟨r, hr, rfl, rfl, rfl, rfl, hf⟩
end Mine
end

section
open PySem PySem.Calls PyProof.Rows PySem.W
set_option Elab.async false
set_option maxRecDepth 100000
namespace Mine
theorem val1 : valOf vw "DELIMITER" = some (.str (mkS [47])) := by kernel_rfl
theorem val2 : valOf vw "INBOX" = some (.str (mkS [73, 78, 66, 79, 88])) := by kernel_rfl
theorem val3 : valOf vw "WILD_SIGNS" = some (.str (mkS [37, 42])) := by kernel_rfl
theorem globD_val {x : Str} {v : PyData} (h : globD x = some v) : valOf vw x = some v := by
  unfold globD at h
  split at h
  · rename_i hx; cases h; rw [eqb_iff.mp hx, sDelim_eq]; exact val1
  · split at h
    · rename_i hx; cases h; rw [eqb_iff.mp hx, sInbox_eq]; exact val2
    · split at h
      · rename_i hx; cases h; rw [eqb_iff.mp hx, sWild_eq]; exact val3
      · cases h
noncomputable def bltAll : List (Str × Value) := [("len", .builtin "len"), ("chr", .builtin "chr"), ("ord", .builtin "ord"), ("int", .type "int"), ("sorted", .builtin "sorted"), ("tuple", .type "tuple"), ("set", .type "set"), ("range", .type "range")]
theorem ite_mem {f x : Str} {a v : Value} {r : Option Value} {L : List (Str × Value)} (h : (if eqb f x then some a else r) = some v) (hm : (x, a) ∈ L) (hr : r = some v → (f, v) ∈ L) : (f, v) ∈ L := by
  by_cases hx : eqb f x = true
  · rw [if_pos hx] at h; cases h; rw [eqb_iff.mp hx]; exact hm
  · rw [if_neg hx] at h; exact hr h
theorem bltVal_mem {f : Str} {v : Value} (h : bltVal f = some v) : (f, v) ∈ bltAll := by
  delta bltVal at h
  refine ite_mem h (by rw [sLen_eq]; exact .head _) fun h => ?_
  refine ite_mem h (by rw [sChr_eq]; exact .tail _ (.head _)) fun h => ?_
  refine ite_mem h (by rw [sOrd_eq]; exact .tail _ (.tail _ (.head _))) fun h => ?_
  refine ite_mem h (by rw [sInt_eq]; exact .tail _ (.tail _ (.tail _ (.head _)))) fun h => ?_
  refine ite_mem h (by rw [sSorted_eq]; exact .tail _ (.tail _ (.tail _ (.tail _ (.head _))))) fun h => ?_
  refine ite_mem h (by rw [sTuple_eq]; exact .tail _ (.tail _ (.tail _ (.tail _ (.tail _ (.head _)))))) fun h => ?_
  refine ite_mem h (by rw [sSet_eq]; exact .tail _ (.tail _ (.tail _ (.tail _ (.tail _ (.tail _ (.head _))))))) fun h => ?_
  refine ite_mem h (by rw [sRange_eq]; exact .tail _ (.tail _ (.tail _ (.tail _ (.tail _ (.tail _ (.tail _ (.head _)))))))) fun h => ?_
  cases h
theorem blt_boot : ∀ p ∈ bltAll, bootBuiltins p.1 = some p.2 ∧ p.1 ≠ "__name__" := by
  intro p hp
  simp only [bltAll, List.mem_cons, List.not_mem_nil, or_false] at hp
  rcases hp with rfl | rfl | rfl | rfl | rfl | rfl | rfl | rfl <;> exact ⟨by kernel_rfl, by decide +kernel⟩
theorem blt_free : ∀ p ∈ bltAll, p.1 ∉ startupNames ∧ p.1 ∉ looseW vw [] ∧ p.1 ∉ (recsOf vw).map (·.name) ∧ p.1 ∉ (litsOf vw).map (·.1) ∧ p.1 ∉ (clssOf vw (looseW vw [])).map (·.name) := by
  intro p hp
  simp only [bltAll, List.mem_cons, List.not_mem_nil, or_false] at hp
  rcases hp with rfl | rfl | rfl | rfl | rfl | rfl | rfl | rfl <;> exact ⟨by decide +kernel, by decide +kernel, by decide +kernel, by decide +kernel, by decide +kernel⟩
theorem gl_of {mean : ExcName → Option Value} {mg mb : Str → Option Value} {h : Heap} (T : Top vw (looseW vw []) mean mg mb h) : Gl mg mb h where
  g := T.g
  b := T.b
  lim := T.nolimit
  defs := fun f d hd => by
    obtain ⟨r, hr, e1, e2, e3, e4, e5⟩ := findDef_rec hd
    obtain ⟨a, o, pm, code, doc, h1, h2, h3, h4⟩ := T.fn r hr
    rw [e1, e2, e3, e4] at *
    exact ⟨a, o, pm, code, doc, by rw [e5]; exact h1, h2, h3, h4⟩
  con := fun x v hv => by
    obtain ⟨val, h1, h2⟩ := T.const x v (globD_val hv)
    exact ⟨val, h1, fun h => ⟨_, h2 h⟩⟩
  blt := fun f v hv => by
    have hm := bltVal_mem hv
    obtain ⟨b1, b2⟩ := blt_boot _ hm
    obtain ⟨f1, f2, f3, f4, f5⟩ := blt_free _ hm
    exact ⟨T.free f f1 f2 f3 f4 f5, by rw [T.builtins f b2]; exact b1⟩
end Mine
end

section
open PySem PySem.W PyProof.Rows
set_option Elab.async false
set_option maxRecDepth 100000
set_option maxHeartbeats 8000000
theorem Mine.postOk (args : List WData) : PySem.Challenge.rw_or0034_01.row.claim.post args (WData.bool true) args = true := by
  show (WShape.has [] (WData.bool true) .bool && WTm.holds _ _ _) = true
  have h1 : WShape.has [] (WData.bool true) .bool = true := by decide +kernel
  rw [h1, Bool.true_and]
  show WTm.holds [] (.eq .res (.lit (.bool true))) _ = true
  unfold WTm.holds
  have h2 : PySem.W.same (WData.bool true) (WData.bool true) = true := by decide +kernel
  simp [WTm.value, h2]
theorem Mine.x (pure_law : ∀ ns : List Int, ns.length ≤ 63 → Mine.callEval 9 "law" [.d (.list (ns.map .int))] = some ⟨.d (.bool true), false, none⟩) : PySem.Challenge.rw_or0034_01.Holds := Mine.hd (by
  intro w s₀ s₁ mg mb G Y fa o pm cd doc dV kV ho hd hcd hD hmg hg args vals as hpre hlay hrd hwl hlo
  refine Ground.open G ?_
  intro T B D TE TW
  try (refine guard_noD D (by decide +kernel) ?_; clear D)
  wrow_args hpre hlay hrd hwl hlo
  all_goals (
    first | refine callC_kw (enter_call ?_) | refine enter_call ?_)
  rename_i ns hs9 hlay9 hL9 hr9 hl9 a9 b9 l9 vs9 c9 hL8 ra9 w9 r0 hI9 hr8 hc9 hc8
  obtain ⟨d, hfd, hh⟩ := Mine.def_code (prog := Challenge.rw_or0034_01.row.prog) (w := w) (mg := mg) (mb := mb) (Mine.pc_all 8) (pure_law ns (by omega))
  have GL := Mine.gl_of T
  obtain ⟨a, o', pm', code, doc', h1, h2, h3, h4⟩ := GL.defs _ _ hfd
  have hfa : a = fa := by
    have : mg (Str.ofString "law") = some (.ref fa) := hmg
    rw [h1] at this
    injection this with this
    injection this
  subst hfa
  refine codeAny_mono (hh (A := callerA) (E := fun _ _ => False) (x := 0) (Q := fun val s' => val = .bool true ∧ Mine.Sh s₁ s' ∧ s₁.heap.StaysIn s'.heap) ⟨rfl, by decide, by decide⟩ (fun _ _ e => e) GL h2 h3 h4 (Mine.VRs.cons ⟨_, r0⟩ .nil) (by decide +kernel) fun val s' B' bk => ?_) fun r s' hr => ?_
  · have hv : Mine.RD B' val (.bool true) := bk.val
    exact ⟨hv.bool, bk.sh, fun b o e => bk.keep b o (fun q => by cases q) e⟩
  · cases r with
    | error e => exact hr.elim
    | ok fl =>
      cases fl with
      | ret v =>
        obtain ⟨rfl, ⟨h', tk, rfl⟩, hk⟩ := hr
        refine GoodW.toG ⟨.inl ⟨_, _, _, rfl, fun _ => rfl, ReadsW.bool true, Mine.postOk _, fun _ => ⟨.nil, fun _ h => by simp at h⟩⟩, hk, rfl, hg⟩
      | _ => exact hr.elim)
end

section
open PySem
set_option Elab.async false
set_option maxRecDepth 100000
namespace Mine
theorem stE_0 {sc l cE cB cI cEs cCall cT cComp c q1 q2} : stE sc (.Constant c q1 q2) l cE cB cI cEs cCall cT cComp = (match constD c with | some v => some (.d v, l) | none => none) := id rfl
theorem stE_1 {sc l cE cB cI cEs cCall cT cComp x q1} : stE sc (.Name x q1) l cE cB cI cEs cCall cT cComp = (match lkp x l with
      | some (.val v) => some (v, l)
      | some (.own v) => some (v, lput x (.val v) l)
      | none => if isGlob (kd sc x) then (match globD x with | some v => some (.d v, l) | none => none) else none) := id rfl
theorem stE_2 {sc l cE cB cI cEs cCall cT cComp a op b q1} : stE sc (.BinOp a op b q1) l cE cB cI cEs cCall cT cComp = (match cE a l with
      | some (x, l1) => (match cB b l1 with
        | some (y, l2) => (match binV op x y with | some v => some (v, l2) | none => none)
        | none => none)
      | none => none) := id rfl
theorem stE_6 {sc l cE cB cI cEs cCall cT cComp a op b q1} : stE sc (.Compare a [op] [b] q1) l cE cB cI cEs cCall cT cComp = (match cE a l with
      | some (x, l1) => (match cB b l1 with
        | some (y, l2) => (match cmpV op x y with | some r => some (.d (.bool r), l2) | none => none)
        | none => none)
      | none => none) := id rfl
theorem stE_7 {sc l cE cB cI cEs cCall cT cComp es q1} : stE sc (.List es q1) l cE cB cI cEs cCall cT cComp = (match cEs es l with | some (vs, l1) => if vs.length ≤ big then some (.d (.list vs), l1) else none | none => none) := id rfl
theorem stE_8 {sc l cE cB cI cEs cCall cT cComp es q1 q2} : stE sc (.Tuple es q1 q2) l cE cB cI cEs cCall cT cComp = (match cEs es l with | some (vs, l1) => if vs.length ≤ big then some (.d (.tuple vs), l1) else none | none => none) := id rfl
theorem stE_9 {sc l cE cB cI cEs cCall cT cComp q1 q2 q3} : stE sc (.Call q1 q2 [] q3) l cE cB cI cEs cCall cT cComp = (match cCall (.Call q1 q2 [] q3) l with | some (v, _, l1) => some (v, l1) | none => none) := id rfl
theorem stI_0 {sc l cE k q1} : stI sc (.Slice none (some k) none q1) l cE = (match cE k l with
      | some (.d (.int j), l1) => some (.upto j, l1)
      | _ => none) := id rfl
theorem stI_Constant {sc l cE k1 k2 k3} : stI sc (.Constant k1 k2 k3) l cE = (match cE (.Constant k1 k2 k3) l with
      | some (.d j, l1) => some (.at j, l1)
      | _ => none) := id rfl
theorem stI_Name {sc l cE k1 k2} : stI sc (.Name k1 k2) l cE = (match cE (.Name k1 k2) l with
      | some (.d j, l1) => some (.at j, l1)
      | _ => none) := id rfl
theorem stI_Call {sc l cE k1 k2 k3 k4} : stI sc (.Call k1 k2 k3 k4) l cE = (match cE (.Call k1 k2 k3 k4) l with
      | some (.d j, l1) => some (.at j, l1)
      | _ => none) := id rfl
theorem stB_0 {sc l cE x p} : stB sc (.Name x p) l cE = (match lkp x l with
      | some (.own v) => some (v, l)
      | _ => cE (.Name x p) l) := id rfl
theorem stB_Constant {sc l cE k1 k2 k3} : stB sc (.Constant k1 k2 k3) l cE = cE (.Constant k1 k2 k3) l := id rfl
theorem stB_BinOp {sc l cE k1 k2 k3 k4} : stB sc (.BinOp k1 k2 k3 k4) l cE = cE (.BinOp k1 k2 k3 k4) l := id rfl
theorem stB_Compare {sc l cE k1 k2 k3 k4} : stB sc (.Compare k1 k2 k3 k4) l cE = cE (.Compare k1 k2 k3 k4) l := id rfl
theorem stB_List {sc l cE k1 k2} : stB sc (.List k1 k2) l cE = cE (.List k1 k2) l := id rfl
theorem stB_Call {sc l cE k1 k2 k3 k4} : stB sc (.Call k1 k2 k3 k4) l cE = cE (.Call k1 k2 k3 k4) l := id rfl
theorem stB_Subscript {sc l cE k1 k2 k3} : stB sc (.Subscript k1 k2 k3) l cE = cE (.Subscript k1 k2 k3) l := id rfl
theorem stB_ListComp {sc l cE k1 k2 k3 k4} : stB sc (.ListComp k1 k2 k3 k4) l cE = cE (.ListComp k1 k2 k3 k4) l := id rfl
theorem stT_0 {sc l cE cB cT cTs x q1} : stT sc (.UnaryOp .Not x q1) l cE cB cT cTs = (match cT x l with | some (b, l1) => some (!b, l1) | none => none) := id rfl
theorem stT_1 {sc l cE cB cT cTs op vs q1} : stT sc (.BoolOp op vs q1) l cE cB cT cTs = cTs op vs l := id rfl
theorem stT_3 {sc l cE cB cT cTs a op b q1} : stT sc (.Compare a [op] [b] q1) l cE cB cT cTs = (match cE a l with
      | some (x, l1) => (match cB b l1 with
        | some (y, l2) => (match cmpV op x y with | some r => some (r, l2) | none => none)
        | none => none)
      | none => none) := id rfl
theorem stT_Name {sc l cE cB cT cTs k1 k2} : stT sc (.Name k1 k2) l cE cB cT cTs = (match cB (.Name k1 k2) l with
      | some (v, l1) => (match truthV v with | some b => some (b, l1) | none => none)
      | none => none) := id rfl
theorem stT_Call {sc l cE cB cT cTs k1 k2 k3 k4} : stT sc (.Call k1 k2 k3 k4) l cE cB cT cTs = (match cB (.Call k1 k2 k3 k4) l with
      | some (v, l1) => (match truthV v with | some b => some (b, l1) | none => none)
      | none => none) := id rfl
theorem stS_0 {sc l cE cEs cT cV cSs x q1 e q2} : stS sc (.Assign [.Name x q1] e q2) l cE cEs cT cV cSs = if isVarKind (kd sc x) && !isPin sc x then (match cV e l with | some (v, l1) => some (.next, lput x v l1) | none => none) else none := id rfl
theorem stS_1 {sc l cE cEs cT cV cSs x q1 i q2 e q3} : stS sc (.Assign [.Subscript (.Name x q1) i q2] e q3) l cE cEs cT cV cSs = (match cE e l with
      | some (.d v, l1) => (match cE i l1 with
        | some (.d (.str k), l2) => (match lkp x l2 with
          | some (.own (.m kvs)) => if bound x l1 && decide (kvs.length < 900) then some (.next, lput x (.own (.m (kput k v kvs))) l2) else none
          | _ => none)
        | _ => none)
      | _ => none) := id rfl
theorem stS_3 {sc l cE cEs cT cV cSs x q1 f q a pos q2} : stS sc (.Expr (.Call (.Attribute (.Name x q1) f q) [a] [] pos) q2) l cE cEs cT cV cSs = if q.endLine == pos.line then (match lkp x l with
        | some (.own (.d (.list _))) => (match cE a l with
          | some (.d v, l1) => (match lkp x l1 with
            | some (.own (.d (.list xs))) => if eqb f sAppend && decide (xs.length < big) then some (.next, lput x (.own (.d (.list (xs ++ [v])))) l1) else none
            | _ => none)
          | _ => none)
        | some (.own (.u _)) => (match cE a l with
          | some (.d (.str y), l1) => (match lkp x l1 with
            | some (.own (.u ks)) => if eqb f sAdd && decide (ks.length < 64) then some (.next, lput x (.own (.u (addS ks y))) l1) else none
            | _ => none)
          | _ => none)
        | _ => none)
      else none := id rfl
theorem stS_4 {sc l cE cEs cT cV cSs t b o q1} : stS sc (.If t b o q1) l cE cEs cT cV cSs = (match cT t l with
      | some (true, l1) => cSs b l1
      | some (false, l1) => cSs o l1
      | none => none) := id rfl
theorem stS_6 {sc l cE cEs cT cV cSs t e b q1} : stS sc (.For t e b [] q1) l cE cEs cT cV cSs = (match rangeArgs sc e with
      | some args => (match cEs args l with
        | some ([.int k], l1) => if -1000 < k ∧ k < 1000 then forLoop (mkStep sc t (cSs (holdB b))) (rangeD 0 k) l1 else none
        | some ([.int a, .int k], l1) => if 0 ≤ a ∧ a < 1000 ∧ -1000 < k ∧ k < 1000 then forLoop (mkStep sc t (cSs (holdB b))) (rangeD a k) l1 else none
        | _ => none)
      | none => (match cE e l with
        | some (x, l1) => (match iterV x with
          | some items => forLoop (mkStep sc t (cSs (holdB b))) items l1
          | none => none)
        | none => none)) := id rfl
theorem stS_7 {sc l cE cEs cT cV cSs e q1} : stS sc (.Return (some e) q1) l cE cEs cT cV cSs = (match cV e l with
      | some (.val v, l1) => some (.ret v false, l1)
      | some (.own v, l1) => some (.ret v true, l1)
      | none => none) := id rfl
theorem stEs_0 {l cE cEs} : stEs ([]) l cE cEs = some ([], l) := id rfl
theorem stEs_1 {l cE cEs e r} : stEs (e :: r) l cE cEs = (match cE e l with
    | some (.d v, l1) => (match cEs r l1 with | some (vs, l2) => some (v :: vs, l2) | none => none)
    | _ => none) := id rfl
theorem stAs_0 {l cE cAs} : stAs ([]) l cE cAs = some ([], l) := id rfl
theorem stAs_1 {l cE cAs e r} : stAs (e :: r) l cE cAs = (match cE e l with
    | some (v, l1) => (match cAs r l1 with | some (vs, l2) => some (v :: vs, l2) | none => none)
    | none => none) := id rfl
theorem stE_sub_name {sc l cE cB cI cEs cCall cT cComp x p i q} : stE sc (.Subscript (.Name x p) i q) l cE cB cI cEs cCall cT cComp = if bound x l then (match cI i l with
        | some (j, l1) => (match lkp x l1 with
          | some (.val v) => (match subV v j with | some r => some (.d r, l1) | none => none)
          | some (.own v) => (match subV v j with | some r => some (.d r, l1) | none => none)
          | none => none)
        | none => none) else none := id rfl
theorem stE_sub_Call {sc l cE cB cI cEs cCall cT cComp k1 k2 k3 k4 i q} : stE sc (.Subscript (.Call k1 k2 k3 k4) i q) l cE cB cI cEs cCall cT cComp = (match cE (.Call k1 k2 k3 k4) l with
        | some (v, l1) => (match cI i l1 with
          | some (j, l2) => (match subV v j with | some r => some (.d r, l2) | none => none)
          | none => none)
        | none => none) := id rfl
theorem stE_sub_List {sc l cE cB cI cEs cCall cT cComp k1 k2 i q} : stE sc (.Subscript (.List k1 k2) i q) l cE cB cI cEs cCall cT cComp = (match cE (.List k1 k2) l with
        | some (v, l1) => (match cI i l1 with
          | some (j, l2) => (match subV v j with | some r => some (.d r, l2) | none => none)
          | none => none)
        | none => none) := id rfl
theorem stSs_nil {l cS cSs} : stSs [] l cS cSs = some (.next, l) := id rfl
theorem stSs_cons {s r l cS cSs} : stSs (s :: r) l cS cSs = (match cS s l with
    | some (.next, l1) => cSs r l1
    | some (.cont, l1) => some (.cont, l1)
    | some (.ret v b, l1) => some (.ret v b, l1)
    | none => none) := id rfl
theorem stTs_and_nil {l cT cTs} : stTs .And [] l cT cTs = some (true, l) := id rfl
theorem stTs_or_nil {l cT cTs} : stTs .Or [] l cT cTs = some (false, l) := id rfl
theorem stTs_and {x r l cT cTs} : stTs .And (x :: r) l cT cTs = (match cT x l with
    | some (true, l1) => cTs .And r l1
    | some (false, l1) => some (false, l1)
    | none => none) := by
  show (match cT x l with | some (b, l1) => _ | none => _) = _
  rcases cT x l with _ | ⟨b, l1⟩
  · rfl
  · cases b <;> rfl
theorem stTs_or {x r l cT cTs} : stTs .Or (x :: r) l cT cTs = (match cT x l with
    | some (true, l1) => some (true, l1)
    | some (false, l1) => cTs .Or r l1
    | none => none) := by
  show (match cT x l with | some (b, l1) => _ | none => _) = _
  rcases cT x l with _ | ⟨b, l1⟩
  · rfl
  · cases b <;> rfl
noncomputable def isBlt (f : Str) : Bool := builtinNames.any (fun b => eqb f b)
theorem stCall_io {C sc f p x px rest q l cB cEs cAs} (h1 : isGlob (kd sc f) = true) (h2 : isInout f = true) : stCall C sc (.Call (.Name f p) (.Name x px :: rest) [] q) l cB cEs cAs = if bound x l then (match cAs rest l with
            | some (vs, l1) => (match lkp x l1 with
              | some (.own v0) => (match C f (v0 :: vs) with
                | some ⟨v, false, some v1⟩ => some (v, false, lput x (.own v1) l1)
                | _ => none)
              | _ => none)
            | none => none) else none := by
  show (if isGlob (kd sc f) then (if isInout f then _ else _) else _) = _
  rw [if_pos h1, if_pos h2]; try rfl
theorem stCall_blt {C sc f p a q l cB cEs cAs} (h1 : isGlob (kd sc f) = true) (h2 : isInout f = false) (h3 : isBlt f = true) : stCall C sc (.Call (.Name f p) [a] [] q) l cB cEs cAs = (match cB a l with
            | some (x, l1) => (match bltV f x with | some v => some (v, false, l1) | none => none)
            | none => none) := by
  show (if isGlob (kd sc f) then (if isInout f then _ else if isBlt f then _ else _) else _) = _
  rw [if_pos h1, if_neg (by rw [h2]; exact Bool.false_ne_true), if_pos h3]; try rfl
theorem stCall_fn {C sc f p args q l cB cEs cAs} (h1 : isGlob (kd sc f) = true) (h2 : isInout f = false) (h3 : isBlt f = false) : stCall C sc (.Call (.Name f p) args [] q) l cB cEs cAs = (match cAs args l with
          | some (vs, l1) => (match C f vs with
            | some ⟨v, b, none⟩ => some (v, b, l1)
            | _ => none)
          | none => none) := by
  show (if isGlob (kd sc f) then (if isInout f then _ else if isBlt f then _ else _) else _) = _
  rw [if_pos h1, if_neg (by rw [h2]; exact Bool.false_ne_true), if_neg (by rw [h3]; exact Bool.false_ne_true)]; try rfl
theorem stCall_const {C sc c k p f q args pos l cB cEs cAs} (h : (q.endLine == pos.line) = true) : stCall C sc (.Call (.Attribute (.Constant c k p) f q) args [] pos) l cB cEs cAs = (match constD c with
        | some v => (match cEs args l with
          | some (vs, l1) => (match mthV (.d v) f vs with | some r => some (.d r, false, l1) | none => none)
          | none => none)
        | none => none) := by
  show (if _ then _ else _) = _
  rw [if_pos h]; try rfl
theorem stCall_name {C sc x p f q args pos l cB cEs cAs} (h : (q.endLine == pos.line) = true) : stCall C sc (.Call (.Attribute (.Name x p) f q) args [] pos) l cB cEs cAs = (match lkp x l with
        | some (.val v) => (match cEs args l with
          | some (vs, l1) => (match mthV v f vs with | some r => some (.d r, false, l1) | none => none)
          | none => none)
        | some (.own (.d (.list _))) => (match cEs args l with
          | some ([.int 0], l1) => (match lkp x l1 with
            | some (.own (.d (.list (y :: ys)))) => if eqb f sPop && decide (ys.length < big) then some (.d y, false, lput x (.own (.d (.list ys))) l1) else none
            | _ => none)
          | _ => none)
        | _ => none) := by
  show (if _ then _ else _) = _
  rw [if_pos h]; try rfl
theorem evV_list {C sc n es p l} : evV C sc n (.List es p) l = (match evEs C sc n es l with | some (vs, l1) => if vs.length ≤ big then some (.own (.d (.list vs)), l1) else none | none => none) := rfl
theorem evV_dict0 {C sc n p l} : evV C sc n (.Dict [] [] p) l = some (.own (.m []), l) := id rfl
theorem evV_dict3 {C sc n a b c p1 p2 p3 p4 p5 p6 vs p l} : evV C sc n (.Dict [some (.Constant (.str a) p1 p2), some (.Constant (.str b) p3 p4), some (.Constant (.str c) p5 p6)] vs p) l = (match evEs C sc n vs l with
        | some ([x, y, z], l1) => if eqb a b || eqb a c || eqb b c then none else some (.own (.m [(a, x), (b, y), (c, z)]), l1)
        | _ => none) := id rfl
theorem evV_set {C sc n f p q l} (h1 : isGlob (kd sc f) = true) (h2 : eqb f sSet = true) : evV C sc n (.Call (.Name f p) [] [] q) l = some (.own (.u []), l) := by
  show (if isGlob (kd sc f) && eqb f sSet then _ else _) = _
  rw [h1, h2]; try rfl
theorem evV_call1 {C sc n f a r q l} : evV C sc n (.Call f (a :: r) [] q) l = (match evCall C sc n (.Call f (a :: r) [] q) l with
    | some (v, true, l1) => some (.own v, l1)
    | some (v, false, l1) => some (.val v, l1)
    | none => none) := by
  have h : isSetCall sc f (a :: r) = false := by cases f <;> rfl
  show (if isSetCall sc f (a :: r) then _ else _) = _
  rw [h]; rfl
theorem evV_Constant {C sc n k1 k2 k3 l} : evV C sc n (.Constant k1 k2 k3) l = (match evE C sc n (.Constant k1 k2 k3) l with | some (v, l1) => some (.val v, l1) | none => none) := id rfl
theorem evV_Name {C sc n k1 k2 l} : evV C sc n (.Name k1 k2) l = (match evE C sc n (.Name k1 k2) l with | some (v, l1) => some (.val v, l1) | none => none) := id rfl
theorem evV_BinOp {C sc n k1 k2 k3 k4 l} : evV C sc n (.BinOp k1 k2 k3 k4) l = (match evE C sc n (.BinOp k1 k2 k3 k4) l with | some (v, l1) => some (.val v, l1) | none => none) := id rfl
theorem evV_Compare {C sc n k1 k2 k3 k4 l} : evV C sc n (.Compare k1 k2 k3 k4) l = (match evE C sc n (.Compare k1 k2 k3 k4) l with | some (v, l1) => some (.val v, l1) | none => none) := id rfl
theorem evV_Subscript {C sc n k1 k2 k3 l} : evV C sc n (.Subscript k1 k2 k3) l = (match evE C sc n (.Subscript k1 k2 k3) l with | some (v, l1) => some (.val v, l1) | none => none) := id rfl
end Mine
end

section
open PySem
set_option Elab.async false
set_option maxRecDepth 100000
namespace Mine
theorem cps_os (s : String) : (Str.ofString s).cps.toList = s.toList.map Char.toNat := by
  rw [Str.ofString_eq_toList]
theorem leq_refl : ∀ a : List Nat, leq a a = true
  | [] => rfl
  | x :: r => by
    have h : Nat.beq x x = true := Nat.beq_refl x
    simp only [leq, h, leq_refl r, Bool.and_self]
theorem leq_eq : ∀ {a b : List Nat}, leq a b = true → a = b
  | [], [], _ => rfl
  | [], _ :: _, h => by simp [leq] at h
  | _ :: _, [], h => by simp [leq] at h
  | x :: r, y :: q, h => by
    simp only [leq, Bool.and_eq_true] at h
    rw [Nat.eq_of_beq_eq_true h.1, leq_eq h.2]
theorem eqb_eq {a b : Str} (h : eqb a b = true) : a = b := by
  have := leq_eq h
  cases a; cases b; simp only [Str.mk.injEq]; exact Array.toList_inj.mp this
theorem eqb_self (a : Str) : eqb a a = true := leq_refl _
theorem eqb_true_iff {a b : Str} : eqb a b = true ↔ a = b := ⟨eqb_eq, fun h => h ▸ eqb_self a⟩
theorem char_toNat_inj : ∀ {a b : List Char}, a.map Char.toNat = b.map Char.toNat → a = b
  | [], [], _ => rfl
  | [], _ :: _, h => by simp at h
  | _ :: _, [], h => by simp at h
  | x :: r, y :: q, h => by
    simp only [List.map_cons, List.cons.injEq] at h
    rw [char_toNat_inj h.2, show x = y from Char.ext (UInt32.toNat_inj.mp h.1)]
theorem os_inj {a b : String} (h : Str.ofString a = Str.ofString b) : a = b := by
  have h1 := cps_os a
  rw [h, cps_os b] at h1
  exact (String.toList_inj.mp (char_toNat_inj h1)).symm
theorem eqb_os (a b : String) : eqb (Str.ofString a) (Str.ofString b) = (a == b) := by
  rw [Bool.eq_iff_iff, eqb_true_iff]
  simp only [beq_iff_eq]
  exact ⟨os_inj, congrArg _⟩
theorem os_delim : sDelim = Str.ofString "DELIMITER" := by kernel_rfl
theorem os_inbox : sInbox = Str.ofString "INBOX" := by kernel_rfl
theorem os_wild : sWild = Str.ofString "WILD_SIGNS" := by kernel_rfl
theorem os_next : sNext = Str.ofString "_law_next" := by kernel_rfl
theorem os_source : sSource = Str.ofString "source" := by kernel_rfl
theorem os_limit : sLimit = Str.ofString "limit" := by kernel_rfl
theorem os_set : sSet = Str.ofString "set" := by kernel_rfl
theorem os_range : sRange = Str.ofString "range" := by kernel_rfl
theorem cps_slash : (Str.ofString "/").cps.toList = [47] := by kernel_rfl
theorem cps_pct : (Str.ofString "%").cps.toList = [37] := by kernel_rfl
theorem cps_star : (Str.ofString "*").cps.toList = [42] := by kernel_rfl
theorem mkS_list (l : List Nat) : (mkS l).cps.toList = l := rfl
/-- a def of the program, by its place -/
noncomputable def theD (i : Nat) : Def := theDefs.getD i ⟨⟨#[]⟩, ⟨[], [], none, [], [], none, []⟩, [], ⟨.function, [], false, false, []⟩⟩
theorem find_parents : findDef (Str.ofString "parents") theDefs = some (theD 2) := by kernel_rfl
theorem find_is_below : findDef (Str.ofString "is_below") theDefs = some (theD 3) := by kernel_rfl
theorem find_has_below : findDef (Str.ofString "has_below") theDefs = some (theD 4) := by kernel_rfl
theorem find_is_listed : findDef (Str.ofString "is_listed") theDefs = some (theD 8) := by kernel_rfl
theorem find_whole_pattern : findDef (Str.ofString "whole_pattern") theDefs = some (theD 9) := by kernel_rfl
theorem find_list_names : findDef (Str.ofString "list_names") theDefs = some (theD 10) := by kernel_rfl
theorem find_list_attributes : findDef (Str.ofString "list_attributes") theDefs = some (theD 11) := by kernel_rfl
theorem find_list_answers : findDef (Str.ofString "list_answers") theDefs = some (theD 12) := by kernel_rfl
theorem find_law_begun : findDef (Str.ofString "_law_begun") theDefs = some (theD 13) := by kernel_rfl
theorem find_law_next : findDef (Str.ofString "_law_next") theDefs = some (theD 14) := by kernel_rfl
theorem find_law_menu : findDef (Str.ofString "_law_menu") theDefs = some (theD 15) := by kernel_rfl
theorem find_law_levels : findDef (Str.ofString "_law_levels") theDefs = some (theD 16) := by kernel_rfl
theorem find_law : findDef (Str.ofString "law") theDefs = some (theD 17) := by kernel_rfl
theorem evSs_next {C : Oracle} {sc : PySem.Scope} {n : Nat} {s : Stmt} {r : List Stmt} {l l1 : Loc} {q : Option (Fl × Loc)} (h : evS C sc n s l = some (.next, l1)) (h' : evSs C sc n r l1 = q) : evSs C sc (n + 1) (s :: r) l = q := by
  rw [← h', evSs_succ]; simp only [stSs.eq_def, h]
theorem evSs_ret {C : Oracle} {sc : PySem.Scope} {n : Nat} {s : Stmt} {r : List Stmt} {l l1 : Loc} {v : AV} {b : Bool} (h : evS C sc n s l = some (.ret v b, l1)) : evSs C sc (n + 1) (s :: r) l = some (.ret v b, l1) := by
  rw [evSs_succ]; simp only [stSs.eq_def, h]
theorem callBody_of {C : Oracle} {d : Def} {args : List AV} {l0 l1 : Loc} {v : AV} {b : Bool} (hb : bindArgsV (argNames d.params.args) args = some l0) (hio : isInout d.name = false) (he : evSs C d.scope 60 d.body l0 = some (.ret v b, l1)) : callBody C d args = some ⟨v, b, none⟩ := by
  unfold callBody
  rw [hb]
  dsimp only
  rw [hio]
  simp only [Bool.false_eq_true, if_false]
  show (match evSs C d.scope 60 d.body l0 with | some (.ret v b, l1) => _ | _ => none) = _
  rw [he]
noncomputable def Runs (C : Oracle) (sc : PySem.Scope) (n : Nat) (ss : List Stmt) (l : Loc) (v : AV) (b : Bool) : Prop := ∃ l1, evSs C sc n ss l = some (.ret v b, l1)
theorem runs_next {C : Oracle} {sc : PySem.Scope} {n : Nat} {s : Stmt} {r : List Stmt} {l l1 : Loc} {v b} (h : evS C sc n s l = some (.next, l1)) (h' : Runs C sc n r l1 v b) : Runs C sc (n + 1) (s :: r) l v b :=
  let ⟨l2, e⟩ := h'; ⟨l2, evSs_next h e⟩
theorem runs_ret {C : Oracle} {sc : PySem.Scope} {n : Nat} {s : Stmt} {r : List Stmt} {l l1 : Loc} {v : AV} {b : Bool} (h : evS C sc n s l = some (.ret v b, l1)) : Runs C sc (n + 1) (s :: r) l v b := ⟨l1, evSs_ret h⟩
theorem callBody_runs {C : Oracle} {d : Def} {args : List AV} {l0 : Loc} {v : AV} {b : Bool} (hb : bindArgsV (argNames d.params.args) args = some l0) (hio : isInout d.name = false) (he : Runs C d.scope 60 d.body l0 v b) : callBody C d args = some ⟨v, b, none⟩ :=
  let ⟨_, e⟩ := he; callBody_of hb hio e
/-- a loop that never stops before its end -/
theorem for_next {step : PyData → Loc → Option (Fl × Loc)} {x : PyData} {r : List PyData} {l l' : Loc} (h : step x l = some (.next, l')) : forLoop step (x :: r) l = forLoop step r l' := by rw [forLoop, h]
theorem for_ret {step : PyData → Loc → Option (Fl × Loc)} {x : PyData} {r : List PyData} {l l' : Loc} {v b} (h : step x l = some (.ret v b, l')) : forLoop step (x :: r) l = some (.ret v b, l') := by rw [forLoop, h]
theorem comp_some {step : PyData → Loc → Option (Option PyData × Loc)} {x y : PyData} {r acc : List PyData} {l l' : Loc} (h : step x l = some (some y, l')) : compLoop step (x :: r) l acc = compLoop step r l' (acc ++ [y]) := by rw [compLoop, h]
theorem comp_none {step : PyData → Loc → Option (Option PyData × Loc)} {x : PyData} {r acc : List PyData} {l l' : Loc} (h : step x l = some (none, l')) : compLoop step (x :: r) l acc = compLoop step r l' acc := by rw [compLoop, h]
theorem toStrs_cons (x : Str) (M : List Str) : toStrs (x :: M) = .str x :: toStrs M := rfl
theorem lkp_lput (x y : Str) (v : Sl) : ∀ l : Loc, lkp x (lput y v l) = if eqb x y = true then some v else lkp x l
  | [] => rfl
  | (z, w) :: r => by
    by_cases h1 : eqb y z = true
    · have hz := eqb_eq h1; subst hz
      simp only [lput, h1, if_true, lkp]
      split <;> rfl
    · simp only [lput, h1, if_false, lkp, lkp_lput x y v r, Bool.false_eq_true]
      by_cases h2 : eqb x z = true
      · have hz := eqb_eq h2; subst hz
        have h3 : ¬ eqb x y = true := fun h => h1 (by rw [eqb_eq h]; exact eqb_self _)
        simp only [h2, if_true, h3, if_false, Bool.false_eq_true]
      · simp only [h2, if_false, Bool.false_eq_true]
theorem runs_ex {C : Oracle} {sc : PySem.Scope} {n : Nat} {s : Stmt} {r : List Stmt} {l : Loc} {v b} (P : Loc → Prop) (h : ∃ l1, evS C sc n s l = some (.next, l1) ∧ P l1) (h' : ∀ l1, P l1 → Runs C sc n r l1 v b) : Runs C sc (n + 1) (s :: r) l v b :=
  let ⟨l1, e, hp⟩ := h; runs_next e (h' l1 hp)
theorem comp_ok {C : Oracle} {sc : PySem.Scope} {n : Nat} {elt tgt iter : Expr} {ifs : List Expr} {scope : PySem.Scope} {pos : Pos} {l l1 lc : Loc} {x : AV} {items ys : List PyData} {cap : List Str} (h1 : compOk scope = true) (hcap : captured scope.names = cap) (h2 : cap.all (fun x => isCellVar (kd sc x) && bound x l) = true) (h3 : evE C sc n iter l = some (x, l1)) (h4 : iterV x = some items) (h5 : capture (freezeAll cap l1) cap = some lc) (h6 : compLoop (mkComp (compScope sc scope) tgt (evTs C (compScope sc scope) n .And (holdEs ifs)) (evE C (compScope sc scope) n (holdE elt))) items lc [] = some ys) (h7 : ys.length ≤ 10000) :
    evE C sc (n + 2) (.ListComp elt [⟨tgt, iter, ifs, 0⟩] scope pos) l = some (.d (.list ys), freezeAll cap l1) := by
  subst hcap
  show stE sc _ l _ _ _ _ _ _ (evComp C sc (n + 1)) = _
  delta stE
  try dsimp only
  rw [evComp_succ]
  delta stComp
  simp only [h1, h2, Bool.and_self, if_true, h3, h4, h5, h6, h7, big]
theorem ret_comp {C : Oracle} {sc : PySem.Scope} {n : Nat} {elt : Expr} {g : List Comprehension} {scope : PySem.Scope} {pos q : Pos} {l l1 : Loc} {v : AV} (h : evE C sc n (.ListComp elt g scope pos) l = some (v, l1)) : evS C sc (n + 1) (.Return (some (.ListComp elt g scope pos)) q) l = some (.ret v false, l1) := by
  rw [evS_succ]
  simp only [stS.eq_def, evV.eq_def, h]
theorem set_comp {C : Oracle} {sc : PySem.Scope} {n : Nat} {y : Str} {p2 : Pos} {elt : Expr} {g : List Comprehension} {scope : PySem.Scope} {pos q : Pos} {l l1 : Loc} {v : AV} (hk : (isVarKind (kd sc y) && !isPin sc y) = true) (h : evE C sc n (.ListComp elt g scope pos) l = some (v, l1)) : evS C sc (n + 1) (.Assign [.Name y p2] (.ListComp elt g scope pos) q) l = some (.next, lput y (.val v) l1) := by
  rw [evS_succ]
  simp only [stS.eq_def, evV.eq_def, h, hk, if_true]
theorem runs_if {C : Oracle} {sc : PySem.Scope} {n : Nat} {s : Stmt} {r : List Stmt} {l : Loc} {b : Bool} (h : ∃ l1, evS C sc n s l = some (if b = true then .ret (.d (.bool true)) false else .next, l1)) (h' : b = false → ∀ l1, Runs C sc n r l1 (.d (.bool false)) false) : Runs C sc (n + 1) (s :: r) l (.d (.bool b)) false := by
  obtain ⟨l1, e⟩ := h
  cases b with
  | true => exact runs_ret e
  | false => exact runs_next e (h' rfl l1)
theorem nk1 : (NameKind.local == NameKind.free) = false := rfl
theorem nk2 : (NameKind.globalImplicit == NameKind.free) = false := rfl
theorem nk4 : (some NameKind.local == some NameKind.cell) = false := rfl
theorem kd3_DELIMITER : kd (theD 3).scope "DELIMITER" = some .globalImplicit := by kernel_rfl
theorem kd4_name : kd (theD 4).scope "name" = some .local := by kernel_rfl
theorem pin4_name : isPin (theD 4).scope "name" = false := by kernel_rfl
theorem kd4_is_below : kd (theD 4).scope "is_below" = some .globalImplicit := by kernel_rfl
theorem kd9_DELIMITER : kd (theD 9).scope "DELIMITER" = some .globalImplicit := by kernel_rfl
theorem kd10_whole : kd (theD 10).scope "whole" = some .cell := by kernel_rfl
theorem pin10_whole : isPin (theD 10).scope "whole" = false := by kernel_rfl
theorem kd10_whole_pattern : kd (theD 10).scope "whole_pattern" = some .globalImplicit := by kernel_rfl
theorem kd10_known : kd (theD 10).scope "known" = some .cell := by kernel_rfl
theorem pin10_known : isPin (theD 10).scope "known" = false := by kernel_rfl
theorem kd10_name : kd (theD 10).scope "name" = some .local := by kernel_rfl
theorem pin10_name : isPin (theD 10).scope "name" = false := by kernel_rfl
theorem kd10_parent : kd (theD 10).scope "parent" = some .local := by kernel_rfl
theorem pin10_parent : isPin (theD 10).scope "parent" = false := by kernel_rfl
theorem kd10_parents : kd (theD 10).scope "parents" = some .globalImplicit := by kernel_rfl
theorem kd10_sorted : kd (theD 10).scope "sorted" = some .globalImplicit := by kernel_rfl
theorem kd11_some : kd (theD 11).scope "some" = some .local := by kernel_rfl
theorem pin11_some : isPin (theD 11).scope "some" = false := by kernel_rfl
theorem kd11_has_below : kd (theD 11).scope "has_below" = some .globalImplicit := by kernel_rfl
theorem kd12_names : kd (theD 12).scope "names" = some .cell := by kernel_rfl
theorem kd12_found : kd (theD 12).scope "found" = some .local := by kernel_rfl
theorem pin12_found : isPin (theD 12).scope "found" = false := by kernel_rfl
theorem kd12_list_names : kd (theD 12).scope "list_names" = some .globalImplicit := by kernel_rfl
theorem kd13_total : kd (theD 13).scope "total" = some .local := by kernel_rfl
theorem pin13_total : isPin (theD 13).scope "total" = false := by kernel_rfl
theorem kd13_cell : kd (theD 13).scope "cell" = some .local := by kernel_rfl
theorem pin13_cell : isPin (theD 13).scope "cell" = false := by kernel_rfl
theorem kd14_turn : kd (theD 14).scope "turn" = some .local := by kernel_rfl
theorem pin14_turn : isPin (theD 14).scope "turn" = false := by kernel_rfl
theorem kd14_len : kd (theD 14).scope "len" = some .globalImplicit := by kernel_rfl
theorem kd16_found : kd (theD 16).scope "found" = some .local := by kernel_rfl
theorem pin16_found : isPin (theD 16).scope "found" = false := by kernel_rfl
theorem kd16_asked : kd (theD 16).scope "asked" = some .local := by kernel_rfl
theorem pin16_asked : isPin (theD 16).scope "asked" = false := by kernel_rfl
theorem kd16_waiting : kd (theD 16).scope "waiting" = some .local := by kernel_rfl
theorem pin16_waiting : isPin (theD 16).scope "waiting" = false := by kernel_rfl
theorem kd16_level : kd (theD 16).scope "level" = some .local := by kernel_rfl
theorem pin16_level : isPin (theD 16).scope "level" = false := by kernel_rfl
theorem kd16_rows : kd (theD 16).scope "rows" = some .local := by kernel_rfl
theorem pin16_rows : isPin (theD 16).scope "rows" = false := by kernel_rfl
theorem kd16_list_answers : kd (theD 16).scope "list_answers" = some .globalImplicit := by kernel_rfl
theorem kd16_kind : kd (theD 16).scope "kind" = some .local := by kernel_rfl
theorem pin16_kind : isPin (theD 16).scope "kind" = false := by kernel_rfl
theorem kd16_attributes : kd (theD 16).scope "attributes" = some .local := by kernel_rfl
theorem pin16_attributes : isPin (theD 16).scope "attributes" = false := by kernel_rfl
theorem kd16_name : kd (theD 16).scope "name" = some .local := by kernel_rfl
theorem pin16_name : isPin (theD 16).scope "name" = false := by kernel_rfl
theorem kd17_source : kd (theD 17).scope "source" = some .local := by kernel_rfl
theorem pin17_source : isPin (theD 17).scope "source" = false := by kernel_rfl
theorem kd17_law_begun : kd (theD 17).scope "_law_begun" = some .globalImplicit := by kernel_rfl
theorem kd17_names : kd (theD 17).scope "names" = some .local := by kernel_rfl
theorem pin17_names : isPin (theD 17).scope "names" = false := by kernel_rfl
theorem kd17_turn : kd (theD 17).scope "turn" = some .local := by kernel_rfl
theorem pin17_turn : isPin (theD 17).scope "turn" = false := by kernel_rfl
theorem kd17_range : kd (theD 17).scope "range" = some .globalImplicit := by kernel_rfl
theorem kd17_law_next : kd (theD 17).scope "_law_next" = some .globalImplicit := by kernel_rfl
theorem kd17_name : kd (theD 17).scope "name" = some .local := by kernel_rfl
theorem pin17_name : isPin (theD 17).scope "name" = false := by kernel_rfl
theorem kd17_law_menu : kd (theD 17).scope "_law_menu" = some .globalImplicit := by kernel_rfl
theorem kd17_sorted : kd (theD 17).scope "sorted" = some .globalImplicit := by kernel_rfl
theorem kd17_found : kd (theD 17).scope "found" = some .cell := by kernel_rfl
theorem pin17_found : isPin (theD 17).scope "found" = false := by kernel_rfl
theorem kd17_law_levels : kd (theD 17).scope "_law_levels" = some .globalImplicit := by kernel_rfl
theorem kd17_every : kd (theD 17).scope "every" = some .local := by kernel_rfl
theorem pin17_every : isPin (theD 17).scope "every" = false := by kernel_rfl
theorem kd17_list_answers : kd (theD 17).scope "list_answers" = some .globalImplicit := by kernel_rfl
theorem kd17_above : kd (theD 17).scope "above" = some .local := by kernel_rfl
theorem pin17_above : isPin (theD 17).scope "above" = false := by kernel_rfl
theorem kd17_set : kd (theD 17).scope "set" = some .globalImplicit := by kernel_rfl
theorem kd17_parts : kd (theD 17).scope "parts" = some .local := by kernel_rfl
theorem pin17_parts : isPin (theD 17).scope "parts" = false := by kernel_rfl
theorem kd17_count : kd (theD 17).scope "count" = some .local := by kernel_rfl
theorem pin17_count : isPin (theD 17).scope "count" = false := by kernel_rfl
theorem kd17_len : kd (theD 17).scope "len" = some .globalImplicit := by kernel_rfl
theorem kd17_lead : kd (theD 17).scope "lead" = some .cell := by kernel_rfl
theorem pin17_lead : isPin (theD 17).scope "lead" = false := by kernel_rfl
theorem glob_g : isGlob (some .globalImplicit) = true := id rfl
theorem var_l : isVarKind (some .local) = true := id rfl
theorem var_c : isVarKind (some .cell) = true := id rfl
theorem cv_c : isCellVar (some .cell) = true := id rfl
theorem kd_lit {k : ScopeKind} {ns : List (Str × NameKind)} {a b : Bool} {m : List (Str × Const)} {x : Str} : kd ⟨k, ns, a, b, m⟩ x = lkp x ns := id rfl
theorem pin_lit {k : ScopeKind} {ns : List (Str × NameKind)} {a b : Bool} {m : List (Str × Const)} {x : Str} : isPin ⟨k, ns, a, b, m⟩ x = (eqb x sSource && (lkp sLimit ns).isSome) := id rfl
theorem cs_lit {sc : PySem.Scope} {k : ScopeKind} {ns : List (Str × NameKind)} {a b : Bool} {m : List (Str × Const)} : compScope sc ⟨k, ns, a, b, m⟩ = ⟨k, ns.map fun p => if (p.2 == .free) && (kd sc p.1 == some .cell) then (p.1, .cell) else p, a, b, m⟩ := id rfl
theorem nb_is_below : isBlt "is_below" = false := by kernel_rfl
theorem ni_is_below : isInout "is_below" = false := by kernel_rfl
theorem nb_has_below : isBlt "has_below" = false := by kernel_rfl
theorem ni_has_below : isInout "has_below" = false := by kernel_rfl
theorem nb_whole_pattern : isBlt "whole_pattern" = false := by kernel_rfl
theorem ni_whole_pattern : isInout "whole_pattern" = false := by kernel_rfl
theorem nb_parents : isBlt "parents" = false := by kernel_rfl
theorem ni_parents : isInout "parents" = false := by kernel_rfl
theorem nb_is_listed : isBlt "is_listed" = false := by kernel_rfl
theorem ni_is_listed : isInout "is_listed" = false := by kernel_rfl
theorem nb_list_names : isBlt "list_names" = false := by kernel_rfl
theorem ni_list_names : isInout "list_names" = false := by kernel_rfl
theorem nb_list_attributes : isBlt "list_attributes" = false := by kernel_rfl
theorem ni_list_attributes : isInout "list_attributes" = false := by kernel_rfl
theorem nb_list_answers : isBlt "list_answers" = false := by kernel_rfl
theorem ni_list_answers : isInout "list_answers" = false := by kernel_rfl
theorem nb_law_begun : isBlt "_law_begun" = false := by kernel_rfl
theorem ni_law_begun : isInout "_law_begun" = false := by kernel_rfl
theorem nb_law_menu : isBlt "_law_menu" = false := by kernel_rfl
theorem ni_law_menu : isInout "_law_menu" = false := by kernel_rfl
theorem nb_law_levels : isBlt "_law_levels" = false := by kernel_rfl
theorem ni_law_levels : isInout "_law_levels" = false := by kernel_rfl
theorem nb_len : isBlt "len" = true := by kernel_rfl
theorem ni_len : isInout "len" = false := by kernel_rfl
theorem nb_sorted : isBlt "sorted" = true := by kernel_rfl
theorem ni_sorted : isInout "sorted" = false := by kernel_rfl
theorem nb_tuple : isBlt "tuple" = true := by kernel_rfl
theorem ni_tuple : isInout "tuple" = false := by kernel_rfl
theorem nb_set : isBlt "set" = true := by kernel_rfl
theorem ni_set : isInout "set" = false := by kernel_rfl
theorem nb_int : isBlt "int" = true := by kernel_rfl
theorem ni_int : isInout "int" = false := by kernel_rfl
theorem ni_next : isInout "_law_next" = true := by kernel_rfl
theorem gl_delim : globD "DELIMITER" = some (.str (mkS [47])) := by kernel_rfl
theorem eq_pop_sPop : eqb "pop" sPop = true := by kernel_rfl
theorem eq_append_sAppend : eqb "append" sAppend = true := by kernel_rfl
theorem eq_add_sAdd : eqb "add" sAdd = true := by kernel_rfl
theorem ra_name {sc : PySem.Scope} {x : Str} {p : Pos} : rangeArgs sc (.Name x p) = none := id rfl
theorem ra_yes {sc : PySem.Scope} {f : Str} {p q : Pos} {args : List Expr} (h1 : isGlob (kd sc f) = true) (h2 : eqb f sRange = true) : rangeArgs sc (.Call (.Name f p) args [] q) = some args := by
  show (if isGlob (kd sc f) && eqb f sRange then _ else _) = _
  rw [h1, h2]; rfl
theorem ra_no {sc : PySem.Scope} {f : Str} {p q : Pos} {args : List Expr} (h2 : eqb f sRange = false) : rangeArgs sc (.Call (.Name f p) args [] q) = none := by
  show (if isGlob (kd sc f) && eqb f sRange then _ else _) = _
  rw [h2, Bool.and_false]; rfl
theorem bv_len_l {l : List PyData} : bltV "len" (.d (.list l)) = if l.length ≤ big then some (.d (.int l.length)) else none := by kernel_rfl
theorem bv_int {i : Int} : bltV "int" (.d (.int i)) = some (.d (.int i)) := by kernel_rfl
theorem bv_sort_l {l : List PyData} : bltV "sorted" (.d (.list l)) = (match strsOf l with | some q => if q.length < 64 then some (.d (.list (toStrs (sortS q)))) else none | none => none) := by kernel_rfl
theorem bv_sort_m {kvs : List (Str × PyData)} : bltV "sorted" (.m kvs) = if kvs.length < 64 then some (.d (.list (toStrs (sortS (keysOf kvs))))) else none := by kernel_rfl
theorem bv_tuple {l : List PyData} : bltV "tuple" (.d (.list l)) = if l.length ≤ big then some (.d (.tuple l)) else none := by kernel_rfl
theorem bv_set_l {l : List PyData} : bltV "set" (.d (.list l)) = (match strsOf l with | some q => if q.length < 64 then some (.u (unionS [] q)) else none | none => none) := by kernel_rfl
theorem bv_set_m {kvs : List (Str × PyData)} : bltV "set" (.m kvs) = if kvs.length < 16 then some (.u (unionS [] (keysOf kvs))) else none := by kernel_rfl
theorem mv_starts {s x : Str} : mthV (.d (.str s)) "startswith" [.str x] = some (.bool (prefixN x.cps.toList s.cps.toList)) := by kernel_rfl
theorem mv_ends {s x : Str} : mthV (.d (.str s)) "endswith" [.str x] = some (.bool (prefixN x.cps.toList.reverse s.cps.toList.reverse)) := by kernel_rfl
theorem mv_split {s x : Str} : mthV (.d (.str s)) "split" [.str x] = (match x.cps.toList with | [c] => if s.cps.toList.length ≤ big then some (.list ((splitN c [] s.cps.toList).map fun l => .str (mkS l))) else none | _ => none) := by kernel_rfl
theorem mv_join {s : Str} {l : List PyData} : mthV (.d (.str s)) "join" [.list l] = (match strsOf l with | some q => if sumLen q + q.length * s.cps.toList.length ≤ big then some (.str (mkS (joinN s.cps.toList (q.map fun x => x.cps.toList)))) else none | none => none) := by kernel_rfl
theorem mv_get {kvs : List (Str × PyData)} {k : Str} : mthV (.m kvs) "get" [.str k] = some ((kget k kvs).getD .none) := by kernel_rfl
theorem cv_is {kvs : List (Str × PyData)} : cmpV .Is (.m kvs) (.d .none) = some false := id rfl
theorem cv_in_m {x : Str} {kvs : List (Str × PyData)} : cmpV .In (.d (.str x)) (.m kvs) = some (kget x kvs).isSome := id rfl
theorem cv_nin_m {x : Str} {kvs : List (Str × PyData)} : cmpV .NotIn (.d (.str x)) (.m kvs) = some (!(kget x kvs).isSome) := id rfl
theorem cv_in_u {x : Str} {ks : List Str} : cmpV .In (.d (.str x)) (.u ks) = some (elems ks x) := id rfl
theorem cv_Eq {a b : PyData} : cmpV .Eq (.d a) (.d b) = cmpD .Eq a b := id rfl
theorem cv_NotEq {a b : PyData} : cmpV .NotEq (.d a) (.d b) = cmpD .NotEq a b := id rfl
theorem cv_Lt {a b : PyData} : cmpV .Lt (.d a) (.d b) = cmpD .Lt a b := id rfl
theorem cv_Gt {a b : PyData} : cmpV .Gt (.d a) (.d b) = cmpD .Gt a b := id rfl
theorem cv_In {x : Str} {b : PyData} : cmpV .In (.d (.str x)) (.d b) = cmpD .In (.str x) b := id rfl
theorem cv_NotIn {x : Str} {b : PyData} : cmpV .NotIn (.d (.str x)) (.d b) = cmpD .NotIn (.str x) b := id rfl
theorem cd_eq {a b : PyData} : cmpD .Eq a b = eqD a b := id rfl
theorem cd_ne {a b : PyData} : cmpD .NotEq a b = (match eqD a b with | some r => some (!r) | none => none) := id rfl
theorem cd_lt {x y : Int} : cmpD .Lt (.int x) (.int y) = some (decide (x < y)) := id rfl
theorem cd_gt {x y : Int} : cmpD .Gt (.int x) (.int y) = some (decide (y < x)) := id rfl
theorem cd_in_t {x : Str} {l : List PyData} : cmpD .In (.str x) (.tuple l) = (match strsOf l with | some q => some (elems q x) | none => none) := id rfl
theorem cd_nin_l {x : Str} {l : List PyData} : cmpD .NotIn (.str x) (.list l) = (match strsOf l with | some q => some (!elems q x) | none => none) := id rfl
theorem ed_b {x y : Bool} : eqD (.bool x) (.bool y) = some (x == y) := id rfl
theorem ed_s {x y : Str} : eqD (.str x) (.str y) = some (eqb x y) := id rfl
theorem ed_l {x y : List PyData} : eqD (.list x) (.list y) = if SeqAt.shaped (.list x) && SeqAt.shaped (.list y) then some (PyData.eqv (.list x) (.list y)) else none := id rfl
theorem ed_t {x y : List PyData} : eqD (.tuple x) (.tuple y) = if SeqAt.shaped (.tuple x) && SeqAt.shaped (.tuple y) then some (PyData.eqv (.tuple x) (.tuple y)) else none := id rfl
theorem bi_Add {x y : PyData} : binV .Add (.d x) (.d y) = (match binD .Add x y with | some v => some (.d v) | none => none) := id rfl
theorem bi_Mult {x y : PyData} : binV .Mult (.d x) (.d y) = (match binD .Mult x y with | some v => some (.d v) | none => none) := id rfl
theorem bi_Mod {x y : PyData} : binV .Mod (.d x) (.d y) = (match binD .Mod x y with | some v => some (.d v) | none => none) := id rfl
theorem bi_FloorDiv {x y : PyData} : binV .FloorDiv (.d x) (.d y) = (match binD .FloorDiv x y with | some v => some (.d v) | none => none) := id rfl
theorem bi_or {x y : List Str} : binV .BitOr (.u x) (.u y) = if x.length + y.length ≤ 15 then some (.u (unionS x y)) else none := id rfl
theorem bd_add {x y : Int} : binD .Add (.int x) (.int y) = some (.int (x + y)) := id rfl
theorem bd_mul {x y : Int} : binD .Mult (.int x) (.int y) = if x.natAbs < 2 ^ 62 ∧ y.natAbs < 2 ^ 62 then some (.int (x * y)) else none := id rfl
theorem bd_mod {x y : Int} : binD .Mod (.int x) (.int y) = if 0 < y then some (.int (x.fmod y)) else none := id rfl
theorem bd_div {x y : Int} : binD .FloorDiv (.int x) (.int y) = if 0 < y ∧ y < 1073741824 then some (.int (x.fdiv y)) else none := id rfl
theorem bd_cat {x y : Str} : binD .Add (.str x) (.str y) = if x.cps.toList.length + y.cps.toList.length ≤ big then some (.str (mkS (x.cps.toList ++ y.cps.toList))) else none := id rfl
theorem sv_upto {a : AV} {k : Int} : subV a (.upto k) = uptoV a k := id rfl
theorem sv_at {a : AV} {j : PyData} : subV a (.at j) = itemV a j := id rfl
theorem iv_l {l : List PyData} {i : Int} : itemV (.d (.list l)) (.int i) = if 0 ≤ i ∧ i < 2 ^ 62 then l[i.toNat]? else if i = -1 then l.getLast? else none := id rfl
theorem iv_t {l : List PyData} {i : Int} : itemV (.d (.tuple l)) (.int i) = if 0 ≤ i ∧ i < 2 ^ 62 then l[i.toNat]? else none := id rfl
theorem iv_m {kvs : List (Str × PyData)} {k : Str} : itemV (.m kvs) (.str k) = kget k kvs := id rfl
theorem uv_l {l : List PyData} {k : Int} : uptoV (.d (.list l)) k = if 0 ≤ k ∧ k < 2 ^ 62 then (if l.length ≤ big then some (.list (l.take k.toNat)) else none) else none := id rfl
theorem tv_b {b : Bool} : truthV (.d (.bool b)) = some b := id rfl
theorem tv_l {l : List PyData} : truthV (.d (.list l)) = if l.length ≤ big then some (!l.isEmpty) else none := id rfl
theorem it_l {l : List PyData} : iterV (.d (.list l)) = some l := id rfl
theorem it_m {kvs : List (Str × PyData)} : iterV (.m kvs) = some (toStrs (keysOf kvs)) := id rfl
theorem co_n : constD .none = some .none := id rfl
theorem co_b {b : Bool} : constD (.bool b) = some (.bool b) := id rfl
theorem co_i {i : Int} : constD (.int i) = some (.int i) := id rfl
theorem co_s {s : Str} : constD (.str s) = some (.str s) := id rfl
noncomputable def evR0 := And.intro @evE_succ (And.intro @evB_succ (And.intro @evI_succ (And.intro @evEs_succ (And.intro @evAs_succ (And.intro @evCall_succ (And.intro @evT_succ (And.intro @evTs_succ (And.intro @evS_succ (And.intro @evSs_succ (And.intro @nk1 (And.intro @nk2 (And.intro @nk4 (And.intro @eqb_os (And.intro @os_delim (And.intro @os_inbox (And.intro @os_wild (And.intro @os_next (And.intro @os_source (@os_limit)))))))))))))))))))
noncomputable def evR1 := And.intro @os_set (And.intro @os_range (And.intro @cps_slash (And.intro @cps_pct (And.intro @mkS_list (And.intro @lkp_lput (And.intro @Bool.false_eq_true (And.intro @Bool.not_true (And.intro @Bool.not_false (And.intro @Bool.and_true (And.intro @Bool.and_false (And.intro @Bool.false_and (And.intro @Bool.or_false (And.intro @decide_true (And.intro @decide_eq_true_eq (And.intro @and_self (And.intro @stE_0 (And.intro @stE_1 (And.intro @stE_2 (@stE_6)))))))))))))))))))
noncomputable def evR2 := And.intro @stE_7 (And.intro @stE_8 (And.intro @stE_9 (And.intro @stI_0 (And.intro @stI_Constant (And.intro @stI_Name (And.intro @stI_Call (And.intro @stB_0 (And.intro @stB_Constant (And.intro @stB_BinOp (And.intro @stB_Compare (And.intro @stB_List (And.intro @stB_Call (And.intro @stB_Subscript (And.intro @stT_0 (And.intro @stT_1 (And.intro @stT_3 (And.intro @stT_Name (And.intro @stT_Call (@stS_0)))))))))))))))))))
noncomputable def evR3 := And.intro @stS_1 (And.intro @stS_3 (And.intro @stS_4 (And.intro @stS_6 (And.intro @stS_7 (And.intro @stEs_0 (And.intro @stEs_1 (And.intro @stAs_0 (And.intro @stAs_1 (And.intro @stE_sub_name (And.intro @stE_sub_Call (And.intro @stE_sub_List (And.intro @stSs_nil (And.intro @stSs_cons (And.intro @stTs_and_nil (And.intro @stTs_or_nil (And.intro @stTs_and (And.intro @stTs_or (And.intro @stCall_io (@stCall_blt)))))))))))))))))))
noncomputable def evR4 := And.intro @stCall_fn (And.intro @stCall_const (And.intro @stCall_name (And.intro @evV_list (And.intro @evV_dict0 (And.intro @evV_dict3 (And.intro @evV_set (And.intro @evV_call1 (And.intro @evV_Constant (And.intro @evV_Name (And.intro @evV_BinOp (And.intro @evV_Subscript (And.intro @kd3_DELIMITER (And.intro @kd4_name (And.intro @pin4_name (And.intro @kd4_is_below (And.intro @kd9_DELIMITER (And.intro @kd10_whole (And.intro @pin10_whole (@kd10_whole_pattern)))))))))))))))))))
noncomputable def evR5 := And.intro @kd10_known (And.intro @pin10_known (And.intro @kd10_name (And.intro @pin10_name (And.intro @kd10_parent (And.intro @pin10_parent (And.intro @kd10_parents (And.intro @kd10_sorted (And.intro @kd11_some (And.intro @pin11_some (And.intro @kd11_has_below (And.intro @kd12_names (And.intro @kd12_found (And.intro @pin12_found (And.intro @kd12_list_names (And.intro @kd13_total (And.intro @pin13_total (And.intro @kd13_cell (And.intro @pin13_cell (@kd14_turn)))))))))))))))))))
noncomputable def evR6 := And.intro @pin14_turn (And.intro @kd14_len (And.intro @kd16_found (And.intro @pin16_found (And.intro @kd16_asked (And.intro @pin16_asked (And.intro @kd16_waiting (And.intro @pin16_waiting (And.intro @kd16_level (And.intro @pin16_level (And.intro @kd16_rows (And.intro @pin16_rows (And.intro @kd16_list_answers (And.intro @kd16_kind (And.intro @pin16_kind (And.intro @kd16_attributes (And.intro @pin16_attributes (And.intro @kd16_name (And.intro @pin16_name (@kd17_source)))))))))))))))))))
noncomputable def evR7 := And.intro @pin17_source (And.intro @kd17_law_begun (And.intro @kd17_names (And.intro @pin17_names (And.intro @kd17_turn (And.intro @pin17_turn (And.intro @kd17_range (And.intro @kd17_law_next (And.intro @kd17_name (And.intro @pin17_name (And.intro @kd17_law_menu (And.intro @kd17_sorted (And.intro @kd17_found (And.intro @pin17_found (And.intro @kd17_law_levels (And.intro @kd17_every (And.intro @pin17_every (And.intro @kd17_list_answers (And.intro @kd17_above (@pin17_above)))))))))))))))))))
noncomputable def evR8 := And.intro @kd17_set (And.intro @kd17_parts (And.intro @pin17_parts (And.intro @kd17_count (And.intro @pin17_count (And.intro @kd17_len (And.intro @kd17_lead (And.intro @pin17_lead (And.intro @glob_g (And.intro @var_l (And.intro @var_c (And.intro @cv_c (And.intro @kd_lit (And.intro @pin_lit (And.intro @cs_lit (And.intro @nb_is_below (And.intro @ni_is_below (And.intro @nb_has_below (And.intro @ni_has_below (@nb_whole_pattern)))))))))))))))))))
noncomputable def evR9 := And.intro @ni_whole_pattern (And.intro @nb_parents (And.intro @ni_parents (And.intro @nb_is_listed (And.intro @ni_is_listed (And.intro @nb_list_names (And.intro @ni_list_names (And.intro @nb_list_attributes (And.intro @ni_list_attributes (And.intro @nb_list_answers (And.intro @ni_list_answers (And.intro @nb_law_begun (And.intro @ni_law_begun (And.intro @nb_law_menu (And.intro @ni_law_menu (And.intro @nb_law_levels (And.intro @ni_law_levels (And.intro @nb_len (And.intro @ni_len (@nb_sorted)))))))))))))))))))
noncomputable def evR10 := And.intro @ni_sorted (And.intro @nb_tuple (And.intro @ni_tuple (And.intro @nb_set (And.intro @ni_set (And.intro @nb_int (And.intro @ni_int (And.intro @ni_next (And.intro @gl_delim (And.intro @eq_pop_sPop (And.intro @eq_append_sAppend (And.intro @eq_add_sAdd (And.intro @ra_name (And.intro @ra_yes (And.intro @ra_no (And.intro @bv_len_l (And.intro @bv_int (And.intro @bv_sort_l (And.intro @bv_sort_m (@bv_tuple)))))))))))))))))))
noncomputable def evR11 := And.intro @bv_set_l (And.intro @bv_set_m (And.intro @mv_starts (And.intro @mv_ends (And.intro @mv_split (And.intro @mv_join (And.intro @mv_get (And.intro @cv_is (And.intro @cv_in_m (And.intro @cv_nin_m (And.intro @cv_in_u (And.intro @cv_Eq (And.intro @cv_NotEq (And.intro @cv_Lt (And.intro @cv_Gt (And.intro @cv_In (And.intro @cv_NotIn (And.intro @cd_eq (And.intro @cd_ne (@cd_lt)))))))))))))))))))
noncomputable def evR12 := And.intro @cd_gt (And.intro @cd_in_t (And.intro @cd_nin_l (And.intro @ed_b (And.intro @ed_s (And.intro @ed_l (And.intro @ed_t (And.intro @bi_Add (And.intro @bi_Mult (And.intro @bi_Mod (And.intro @bi_FloorDiv (And.intro @bi_or (And.intro @bd_add (And.intro @bd_mul (And.intro @bd_mod (And.intro @bd_div (And.intro @bd_cat (And.intro @sv_upto (And.intro @sv_at (@iv_l)))))))))))))))))))
noncomputable def evR13 := And.intro @iv_t (And.intro @iv_m (And.intro @uv_l (And.intro @tv_b (And.intro @tv_l (And.intro @it_l (And.intro @it_m (And.intro @co_n (And.intro @co_b (And.intro @co_i (@co_s))))))))))
noncomputable def evR := And.intro @evR0 (And.intro @evR1 (And.intro @evR2 (And.intro @evR3 (And.intro @evR4 (And.intro @evR5 (And.intro @evR6 (And.intro @evR7 (And.intro @evR8 (And.intro @evR9 (And.intro @evR10 (And.intro @evR11 (And.intro @evR12 (@evR13)))))))))))))
end Mine
end

section
open PySem
namespace Mine
set_option maxRecDepth 100000
set_option Elab.async false
theorem below_c (C : Oracle) (x p : Str) (h : p.cps.toList.length + 1 ≤ 10000) : callBody C (theD 3) [.d (.str x), .d (.str p)] = some ⟨.d (.bool (prefixN (p.cps.toList ++ [47]) x.cps.toList)), false, none⟩ := by
  refine callBody_runs (d := theD 3) rfl (by kernel_rfl) ?_
  conv => arg 4; whnf
  exact runs_ret (by simp only [evR, lkp, lput, Mine.bound, ownFirst, capture, freezeAll, freeze1, List.map_cons, List.map_nil, List.all_cons, List.all_nil, String.reduceBEq, ↓reduceIte, beq_self_eq_true, Option.isSome_some, Option.isSome_none, Nat.reduceBEq, List.length_cons, List.length_nil, Nat.reduceAdd, Nat.reduceLeDiff, Nat.reduceLT, Int.reduceLE, Int.reduceLT, Int.reducePow, Int.reduceToNat, Int.reduceNeg, Int.reduceEq, List.reverse_singleton, List.getElem?_cons_zero, List.getElem?_cons_succ, Nat.reducePow, big, h]; rfl)
theorem whole_c (C : Oracle) (r p : Str) (h : r.cps.toList.length + p.cps.toList.length ≤ 10000) (hp : prefixN [47] p.cps.toList = false) : callBody C (theD 9) [.d (.str r), .d (.str p)] = some ⟨.d (.str (mkS (r.cps.toList ++ p.cps.toList))), false, none⟩ := by
  refine callBody_runs (d := theD 9) rfl (by kernel_rfl) ?_
  conv => arg 4; whnf
  exact runs_next (by simp only [evR, lkp, lput, Mine.bound, ownFirst, capture, freezeAll, freeze1, List.map_cons, List.map_nil, List.all_cons, List.all_nil, String.reduceBEq, ↓reduceIte, beq_self_eq_true, Option.isSome_some, Option.isSome_none, Nat.reduceBEq, List.length_cons, List.length_nil, Nat.reduceAdd, Nat.reduceLeDiff, Nat.reduceLT, Int.reduceLE, Int.reduceLT, Int.reducePow, Int.reduceToNat, Int.reduceNeg, Int.reduceEq, List.reverse_singleton, List.getElem?_cons_zero, List.getElem?_cons_succ, Nat.reducePow, big, hp]; rfl) (runs_ret (by simp only [evR, lkp, lput, Mine.bound, ownFirst, capture, freezeAll, freeze1, List.map_cons, List.map_nil, List.all_cons, List.all_nil, String.reduceBEq, ↓reduceIte, beq_self_eq_true, Option.isSome_some, Option.isSome_none, Nat.reduceBEq, List.length_cons, List.length_nil, Nat.reduceAdd, Nat.reduceLeDiff, Nat.reduceLT, Int.reduceLE, Int.reduceLT, Int.reducePow, Int.reduceToNat, Int.reduceNeg, Int.reduceEq, List.reverse_singleton, List.getElem?_cons_zero, List.getElem?_cons_succ, Nat.reducePow, big, h]; rfl))
theorem menu_c (C : Oracle) : callBody C (theD 15) [] = some ⟨.d (.list (toStrs ["a", "b", "a/c", "a/c/d", "b/e", "INBOX/f", "a/g", "h/i", "h/i/j", "k/l/m"])), true, none⟩ := by
  refine callBody_runs (d := theD 15) rfl (by kernel_rfl) ?_
  conv => arg 4; whnf
  exact runs_ret (by simp only [evR, lkp, lput, Mine.bound, ownFirst, capture, freezeAll, freeze1, List.map_cons, List.map_nil, List.all_cons, List.all_nil, String.reduceBEq, ↓reduceIte, beq_self_eq_true, Option.isSome_some, Option.isSome_none, Nat.reduceBEq, List.length_cons, List.length_nil, Nat.reduceAdd, Nat.reduceLeDiff, Nat.reduceLT, Int.reduceLE, Int.reduceLT, Int.reducePow, Int.reduceToNat, Int.reduceNeg, Int.reduceEq, List.reverse_singleton, List.getElem?_cons_zero, List.getElem?_cons_succ, Nat.reducePow, big]; rfl)
end Mine
end

section
open PySem
namespace Mine
set_option maxRecDepth 100000
set_option Elab.async false
abbrev fBelow : Str := Str.ofString "is_below"
/-- has_below -/
theorem has_below_c (C : Oracle) (N : List Str) (p : Str) (bl : Str → Bool) (hC : ∀ x ∈ N, C fBelow [.d (.str x), .d (.str p)] = some ⟨.d (.bool (bl x)), false, none⟩) : callBody C (theD 4) [.d (.list (toStrs N)), .d (.str p)] = some ⟨.d (.bool (N.any bl)), false, none⟩ := by
  refine callBody_runs (d := theD 4) rfl (by kernel_rfl) ?_
  conv => arg 4; whnf
  refine runs_if ?_ fun _ r' => runs_ret (by simp only [evR, lkp, lput, Mine.bound, ownFirst, capture, freezeAll, freeze1, List.map_cons, List.map_nil, List.all_cons, List.all_nil, String.reduceBEq, ↓reduceIte, beq_self_eq_true, Option.isSome_some, Option.isSome_none, Nat.reduceBEq, List.length_cons, List.length_nil, Nat.reduceAdd, Nat.reduceLeDiff, Nat.reduceLT, Int.reduceLE, Int.reduceLT, Int.reducePow, Int.reduceToNat, Int.reduceNeg, Int.reduceEq, List.reverse_singleton, List.getElem?_cons_zero, List.getElem?_cons_succ, Nat.reducePow, big]; rfl)
  simp only [evR, lkp, lput, Mine.bound, ownFirst, capture, freezeAll, freeze1, List.map_cons, List.map_nil, List.all_cons, List.all_nil, String.reduceBEq, ↓reduceIte, beq_self_eq_true, Option.isSome_some, Option.isSome_none, Nat.reduceBEq, List.length_cons, List.length_nil, Nat.reduceAdd, Nat.reduceLeDiff, Nat.reduceLT, Int.reduceLE, Int.reduceLT, Int.reducePow, Int.reduceToNat, Int.reduceNeg, Int.reduceEq, List.reverse_singleton, List.getElem?_cons_zero, List.getElem?_cons_succ, Nat.reducePow, big]
  generalize hstep : mkStep _ _ _ = step
  have turn : ∀ (x : Str) (l : PyData) (r : Loc), C fBelow [.d (.str x), .d (.str p)] = some ⟨.d (.bool (bl x)), false, none⟩ → (r = [] ∨ ∃ y, r = [(Str.ofString "name", y)]) →
      step (.str x) ((Str.ofString "names", .val (.d l)) :: (Str.ofString "parent", .val (.d (.str p))) :: r) =
        some (if bl x = true then .ret (.d (.bool true)) false else .next, (Str.ofString "names", .val (.d l)) :: (Str.ofString "parent", .val (.d (.str p))) :: [(Str.ofString "name", .val (.d (.str x)))]) := by
    intro x l r h hr
    rw [← hstep]
    cases hb : bl x <;> rw [hb] at h <;> rcases hr with rfl | ⟨y, rfl⟩ <;> simp only [evR, lkp, lput, Mine.bound, ownFirst, capture, freezeAll, freeze1, List.map_cons, List.map_nil, List.all_cons, List.all_nil, String.reduceBEq, ↓reduceIte, beq_self_eq_true, Option.isSome_some, Option.isSome_none, Nat.reduceBEq, List.length_cons, List.length_nil, Nat.reduceAdd, Nat.reduceLeDiff, Nat.reduceLT, Int.reduceLE, Int.reduceLT, Int.reducePow, Int.reduceToNat, Int.reduceNeg, Int.reduceEq, List.reverse_singleton, List.getElem?_cons_zero, List.getElem?_cons_succ, Nat.reducePow, big, mkStep, holdB, bindTgt.eq_def, bindAll, h]
  have loop : ∀ (M : List Str) (l : PyData) (r : Loc), (∀ x ∈ M, x ∈ N) → (r = [] ∨ ∃ y, r = [(Str.ofString "name", y)]) →
      ∃ r', forLoop step (toStrs M) ((Str.ofString "names", .val (.d l)) :: (Str.ofString "parent", .val (.d (.str p))) :: r) =
        some (if M.any bl = true then .ret (.d (.bool true)) false else .next, r') := by
    intro M
    induction M with
    | nil => intro l r _ _; exact ⟨_, rfl⟩
    | cons x M ih =>
      intro l r hm hr
      have t := turn x l r (hC x (hm x List.mem_cons_self)) hr
      rw [toStrs_cons]
      cases hb : bl x <;> rw [hb] at t <;> simp only [if_true, if_false, Bool.false_eq_true] at t
      · obtain ⟨r', e⟩ := ih l [(Str.ofString "name", .val (.d (.str x)))] (fun y hy => hm y (List.mem_cons_of_mem _ hy)) (.inr ⟨_, rfl⟩)
        exact ⟨r', (for_next t).trans (e.trans (by simp [hb]))⟩
      · exact ⟨_, (for_ret t).trans (congrArg some (Prod.ext (by simp [hb]) rfl))⟩
  exact loop N (.list (toStrs N)) [] (fun _ h => h) (.inl rfl)
end Mine
end

section
open PySem
namespace Mine
set_option maxRecDepth 100000
set_option Elab.async false
abbrev fHasBelow : Str := Str.ofString "has_below"
noncomputable def noSel : Str := Str.ofString "\\Noselect"
noncomputable def hasC : Str := Str.ofString "\\HasChildren"
noncomputable def hasN : Str := Str.ofString "\\HasNoChildren"
theorem strsOf_toStrs' : ∀ q : List Str, strsOf (toStrs q) = some q
  | [] => rfl
  | x :: r => by
    have ih := strsOf_toStrs' r
    show (match strsOf (toStrs r) with | some q => some (x :: q) | none => none) = _
    rw [ih]
theorem attrs_c (C : Oracle) (N : List Str) (x : Str) (b c : Bool) (hc : elems N x = c) (hC : C fHasBelow [.d (.list (toStrs N)), .d (.str x)] = some ⟨.d (.bool b), false, none⟩) :
    callBody C (theD 11) [.d (.list (toStrs N)), .d (.str x)] = some ⟨.d (.list (toStrs ((if c = true then [] else [noSel]) ++ [if b = true then hasC else hasN]))), false, none⟩ := by
  refine callBody_runs (d := theD 11) rfl (by kernel_rfl) ?_
  conv => arg 4; whnf
  refine runs_next (by simp only [evR, lkp, lput, Mine.bound, ownFirst, capture, freezeAll, freeze1, List.map_cons, List.map_nil, List.all_cons, List.all_nil, String.reduceBEq, ↓reduceIte, beq_self_eq_true, Option.isSome_some, Option.isSome_none, Nat.reduceBEq, List.length_cons, List.length_nil, Nat.reduceAdd, Nat.reduceLeDiff, Nat.reduceLT, Int.reduceLE, Int.reduceLT, Int.reducePow, Int.reduceToNat, Int.reduceNeg, Int.reduceEq, List.reverse_singleton, List.getElem?_cons_zero, List.getElem?_cons_succ, Nat.reducePow, big]; rfl) ?_
  cases b <;> cases c <;> exact runs_next (by simp only [evR, lkp, lput, Mine.bound, ownFirst, capture, freezeAll, freeze1, List.map_cons, List.map_nil, List.all_cons, List.all_nil, String.reduceBEq, ↓reduceIte, beq_self_eq_true, Option.isSome_some, Option.isSome_none, Nat.reduceBEq, List.length_cons, List.length_nil, Nat.reduceAdd, Nat.reduceLeDiff, Nat.reduceLT, Int.reduceLE, Int.reduceLT, Int.reducePow, Int.reduceToNat, Int.reduceNeg, Int.reduceEq, List.reverse_singleton, List.getElem?_cons_zero, List.getElem?_cons_succ, Nat.reducePow, big, strsOf_toStrs', hc, List.nil_append, List.length_nil, List.cons_append]; rfl) (runs_next (by simp only [evR, lkp, lput, Mine.bound, ownFirst, capture, freezeAll, freeze1, List.map_cons, List.map_nil, List.all_cons, List.all_nil, String.reduceBEq, ↓reduceIte, beq_self_eq_true, Option.isSome_some, Option.isSome_none, Nat.reduceBEq, List.length_cons, List.length_nil, Nat.reduceAdd, Nat.reduceLeDiff, Nat.reduceLT, Int.reduceLE, Int.reduceLT, Int.reducePow, Int.reduceToNat, Int.reduceNeg, Int.reduceEq, List.reverse_singleton, List.getElem?_cons_zero, List.getElem?_cons_succ, Nat.reducePow, big, hC, List.nil_append, List.length_nil, List.cons_append]; rfl) (runs_ret (by simp only [evR, lkp, lput, Mine.bound, ownFirst, capture, freezeAll, freeze1, List.map_cons, List.map_nil, List.all_cons, List.all_nil, String.reduceBEq, ↓reduceIte, beq_self_eq_true, Option.isSome_some, Option.isSome_none, Nat.reduceBEq, List.length_cons, List.length_nil, Nat.reduceAdd, Nat.reduceLeDiff, Nat.reduceLT, Int.reduceLE, Int.reduceLT, Int.reducePow, Int.reduceToNat, Int.reduceNeg, Int.reduceEq, List.reverse_singleton, List.getElem?_cons_zero, List.getElem?_cons_succ, Nat.reducePow, big, noSel, hasC, hasN, toStrs, List.nil_append, List.cons_append]; rfl)))
end Mine
end

section
open PySem
namespace Mine
set_option maxRecDepth 100000
set_option Elab.async false
theorem kput_len (k : Str) (v : PyData) : ∀ d : List (Str × PyData), (kput k v d).length ≤ d.length + 1
  | [] => by simp [kput]
  | (y, w) :: r => by
    unfold kput
    split
    · simp
    · have := kput_len k v r; simp; omega
noncomputable def putTrue (d : List (Str × PyData)) (x : Str) : List (Str × PyData) := kput x (.bool true) d
noncomputable def putAbs (d : List (Str × PyData)) (x : Str) : List (Str × PyData) := if (kget x d).isSome then d else kput x (.bool false) d
theorem putAbs_len (d : List (Str × PyData)) (x : Str) : (putAbs d x).length ≤ d.length + 1 := by
  unfold putAbs; split
  · omega
  · exact kput_len _ _ _
theorem fold_len {α : Type} {f : List (Str × PyData) → α → List (Str × PyData)} {c : Nat} (P : α → Prop) (h : ∀ d x, P x → (f d x).length ≤ d.length + c) : ∀ (l : List α) (d : List (Str × PyData)), (∀ x ∈ l, P x) → (l.foldl f d).length ≤ d.length + c * l.length
  | [], d, _ => by simp
  | x :: r, d, hp => by
    have h1 := h d x (hp x List.mem_cons_self)
    have h2 := fold_len P h r (f d x) (fun y hy => hp y (List.mem_cons_of_mem _ hy))
    rw [List.foldl_cons, List.length_cons, Nat.mul_add]
    omega
/-- a loop over texts that never stops before its end -/
theorem for_strs {β : Type} {step : PyData → Loc → Option (Fl × Loc)} (S : β → Loc → Prop) (f : β → Str → β) (b : β) (l : Loc) : ∀ (items pre all : List Str), pre ++ items = all → (∀ pre x post, pre ++ x :: post = all → ∀ l, S (pre.foldl f b) l → ∃ l', (step (.str x) l = some (.next, l') ∨ step (.str x) l = some (.cont, l')) ∧ S (f (pre.foldl f b) x) l') → S (pre.foldl f b) l →
    ∃ l', forLoop step (toStrs items) l = some (.next, l') ∧ S (all.foldl f b) l'
  | [], pre, all, e, _, h => by rw [List.append_nil] at e; subst e; exact ⟨l, rfl, h⟩
  | x :: r, pre, all, he, ht, h => by
    obtain ⟨l1, e, h1⟩ := ht pre x r he l h
    have h1' : S ((pre ++ [x]).foldl f b) l1 := by rw [List.foldl_append]; exact h1
    obtain ⟨l2, e2, h2⟩ := for_strs S f b l1 r (pre ++ [x]) all (by rw [← he]; simp) ht h1'
    refine ⟨l2, ?_, h2⟩
    rw [toStrs_cons, forLoop]
    rcases e with e | e <;> rw [e] <;> exact e2
theorem comp_filter {step : PyData → Loc → Option (Option PyData × Loc)} (S : Loc → Prop) (p : Str → Bool) (g : Str → PyData) : ∀ (items : List Str) (l : Loc) (acc : List PyData), (∀ x ∈ items, ∀ l, S l → ∃ l', step (.str x) l = some (if p x then some (g x) else none, l') ∧ S l') → S l →
    compLoop step (toStrs items) l acc = some (acc ++ (items.filter p).map g)
  | [], l, acc, _, _ => by simp [toStrs, compLoop]
  | x :: r, l, acc, ht, h => by
    obtain ⟨l1, e, h1⟩ := ht x List.mem_cons_self l h
    have ih := comp_filter (step := step) S p g r l1
    rw [toStrs_cons]
    by_cases hp : p x = true
    · rw [hp] at e
      rw [comp_some e, ih _ (fun y hy => ht y (List.mem_cons_of_mem _ hy)) h1]
      simp [hp]
    · rw [Bool.not_eq_true] at hp
      rw [hp] at e
      rw [comp_none e, ih _ (fun y hy => ht y (List.mem_cons_of_mem _ hy)) h1]
      simp [hp]
noncomputable def knownT (N : List Str) : List (Str × PyData) := N.foldl putTrue []
noncomputable def knownA (N : List Str) (par : Str → List Str) : List (Str × PyData) := N.foldl (fun d n => (par n).foldl putAbs d) (knownT N)
theorem insS_mem {u x : Str} : ∀ {l : List Str}, u ∈ insS x l ↔ u = x ∨ u ∈ l
  | [] => by simp [insS]
  | y :: r => by
    unfold insS
    split
    · rw [List.mem_cons, insS_mem, List.mem_cons]
      exact ⟨fun h => h.elim (fun h => .inr (.inl h)) (fun h => h.elim .inl fun h => .inr (.inr h)), fun h => h.elim (fun h => .inr (.inl h)) (fun h => h.elim .inl fun h => .inr (.inr h))⟩
    · rw [List.mem_cons]
theorem sortS_mem {u : Str} : ∀ {l : List Str}, u ∈ sortS l ↔ u ∈ l
  | [] => by simp [sortS]
  | x :: r => by rw [sortS, insS_mem, sortS_mem, List.mem_cons]
theorem insS_len (x : Str) : ∀ l : List Str, (insS x l).length = l.length + 1
  | [] => rfl
  | y :: r => by
    unfold insS
    split
    · rw [List.length_cons, insS_len x r, List.length_cons]
    · rfl
theorem sortS_len : ∀ l : List Str, (sortS l).length = l.length
  | [] => rfl
  | x :: r => by rw [sortS, insS_len, sortS_len r, List.length_cons]
theorem kget_mem {u : Str} : ∀ {d : List (Str × PyData)}, u ∈ keysOf d → ∃ z, kget u d = some z
  | [], h => by simp [keysOf] at h
  | (y, w) :: r, h => by
    unfold kget lkp
    split
    · exact ⟨_, rfl⟩
    · rename_i hn
      rw [keysOf, List.map_cons, List.mem_cons] at h
      rcases h with rfl | h
      · exact absurd (eqb_self _) hn
      · exact kget_mem (d := r) h
/-- what stands after the first loop -/
structure Ns (N : List Str) (w : Str) (d : List (Str × PyData)) (l : Loc) : Prop where
  names : lkp "names" l = some (.val (.d (.list (toStrs N))))
  whole : lkp "whole" l = some (.val (.d (.str w)))
  known : lkp "known" l = some (.own (.m d))
theorem names_c (C : Oracle) (N : List Str) (r p w : Str) (hN : N.length < 20) (hp : eqb p "" = false) (hW : C "whole_pattern" [.d (.str r), .d (.str p)] = some ⟨.d (.str w), false, none⟩)
    (pc : Bool) (hpc : prefixN [37] w.cps.toList.reverse = pc) (par : Str → List Str) (hpar : ∀ n ∈ N, C "parents" [.d (.str n)] = some ⟨.d (.list (toStrs (par n))), false, none⟩) (hpl : ∀ n ∈ N, (par n).length ≤ 5)
    (d : List (Str × PyData)) (hd : d = if pc = true then knownA N par else knownT N) (hdl : d.length < 64) (L : Str → Bool) (hL : ∀ u ∈ keysOf d, C "is_listed" [.d (.str w), .d (.str u)] = some ⟨.d (.bool (L u)), false, none⟩) :
    callBody C (theD 10) [.d (.list (toStrs N)), .d (.str r), .d (.str p)] = some ⟨.d (.list (((sortS (keysOf d)).filter L).map fun u => .tuple [.str u, (kget u d).getD .none])), false, none⟩ := by
  refine callBody_runs (d := theD 10) rfl (by kernel_rfl) ?_
  conv => arg 4; whnf
  refine runs_next (by simp only [evR, lkp, lput, Mine.bound, ownFirst, capture, freezeAll, freeze1, List.map_cons, List.map_nil, List.all_cons, List.all_nil, String.reduceBEq, ↓reduceIte, beq_self_eq_true, Option.isSome_some, Option.isSome_none, Nat.reduceBEq, List.length_cons, List.length_nil, Nat.reduceAdd, Nat.reduceLeDiff, Nat.reduceLT, Int.reduceLE, Int.reduceLT, Int.reducePow, Int.reduceToNat, Int.reduceNeg, Int.reduceEq, List.reverse_singleton, List.getElem?_cons_zero, List.getElem?_cons_succ, Nat.reducePow, big, hp]; rfl) ?_
  refine runs_next (by simp only [evR, lkp, lput, Mine.bound, ownFirst, capture, freezeAll, freeze1, List.map_cons, List.map_nil, List.all_cons, List.all_nil, String.reduceBEq, ↓reduceIte, beq_self_eq_true, Option.isSome_some, Option.isSome_none, Nat.reduceBEq, List.length_cons, List.length_nil, Nat.reduceAdd, Nat.reduceLeDiff, Nat.reduceLT, Int.reduceLE, Int.reduceLT, Int.reducePow, Int.reduceToNat, Int.reduceNeg, Int.reduceEq, List.reverse_singleton, List.getElem?_cons_zero, List.getElem?_cons_succ, Nat.reducePow, big, hW]; rfl) ?_
  refine runs_next (by simp only [evR, lkp, lput, Mine.bound, ownFirst, capture, freezeAll, freeze1, List.map_cons, List.map_nil, List.all_cons, List.all_nil, String.reduceBEq, ↓reduceIte, beq_self_eq_true, Option.isSome_some, Option.isSome_none, Nat.reduceBEq, List.length_cons, List.length_nil, Nat.reduceAdd, Nat.reduceLeDiff, Nat.reduceLT, Int.reduceLE, Int.reduceLT, Int.reducePow, Int.reduceToNat, Int.reduceNeg, Int.reduceEq, List.reverse_singleton, List.getElem?_cons_zero, List.getElem?_cons_succ, Nat.reducePow, big]; rfl) ?_
  refine runs_ex (Ns N w (knownT N)) ?k1 fun l1 S1 => ?k2
  case k1 =>
    simp only [evR, lkp, lput, Mine.bound, ownFirst, capture, freezeAll, freeze1, List.map_cons, List.map_nil, List.all_cons, List.all_nil, String.reduceBEq, ↓reduceIte, beq_self_eq_true, Option.isSome_some, Option.isSome_none, Nat.reduceBEq, List.length_cons, List.length_nil, Nat.reduceAdd, Nat.reduceLeDiff, Nat.reduceLT, Int.reduceLE, Int.reduceLT, Int.reducePow, Int.reduceToNat, Int.reduceNeg, Int.reduceEq, List.reverse_singleton, List.getElem?_cons_zero, List.getElem?_cons_succ, Nat.reducePow, big]
    generalize hstep : mkStep _ _ _ = step
    refine for_strs (step := step) (Ns N w) putTrue [] _ N [] N rfl ?_ ⟨by simp only [evR, lkp, lput, Mine.bound, ownFirst, capture, freezeAll, freeze1, List.map_cons, List.map_nil, List.all_cons, List.all_nil, String.reduceBEq, ↓reduceIte, beq_self_eq_true, Option.isSome_some, Option.isSome_none, Nat.reduceBEq, List.length_cons, List.length_nil, Nat.reduceAdd, Nat.reduceLeDiff, Nat.reduceLT, Int.reduceLE, Int.reduceLT, Int.reducePow, Int.reduceToNat, Int.reduceNeg, Int.reduceEq, List.reverse_singleton, List.getElem?_cons_zero, List.getElem?_cons_succ, Nat.reducePow, big], by simp only [evR, lkp, lput, Mine.bound, ownFirst, capture, freezeAll, freeze1, List.map_cons, List.map_nil, List.all_cons, List.all_nil, String.reduceBEq, ↓reduceIte, beq_self_eq_true, Option.isSome_some, Option.isSome_none, Nat.reduceBEq, List.length_cons, List.length_nil, Nat.reduceAdd, Nat.reduceLeDiff, Nat.reduceLT, Int.reduceLE, Int.reduceLT, Int.reducePow, Int.reduceToNat, Int.reduceNeg, Int.reduceEq, List.reverse_singleton, List.getElem?_cons_zero, List.getElem?_cons_succ, Nat.reducePow, big], by simp only [evR, lkp, lput, Mine.bound, ownFirst, capture, freezeAll, freeze1, List.map_cons, List.map_nil, List.all_cons, List.all_nil, String.reduceBEq, ↓reduceIte, beq_self_eq_true, Option.isSome_some, Option.isSome_none, Nat.reduceBEq, List.length_cons, List.length_nil, Nat.reduceAdd, Nat.reduceLeDiff, Nat.reduceLT, Int.reduceLE, Int.reduceLT, Int.reducePow, Int.reduceToNat, Int.reduceNeg, Int.reduceEq, List.reverse_singleton, List.getElem?_cons_zero, List.getElem?_cons_succ, Nat.reducePow, big]; rfl⟩
    intro pre x post hs l S
    have hlen := fold_len (f := putTrue) (fun _ => True) (fun d x _ => kput_len x (.bool true) d) pre [] (fun _ _ => trivial)
    generalize pre.foldl putTrue [] = d0 at *
    have h1 := congrArg List.length hs
    simp only [List.length_append, List.length_cons, List.length_nil] at h1 hlen
    have hg : d0.length < 900 := by omega
    exact ⟨_, .inl (by rw [← hstep]; simp only [evR, lkp, lput, Mine.bound, ownFirst, capture, freezeAll, freeze1, List.map_cons, List.map_nil, List.all_cons, List.all_nil, String.reduceBEq, ↓reduceIte, beq_self_eq_true, Option.isSome_some, Option.isSome_none, Nat.reduceBEq, List.length_cons, List.length_nil, Nat.reduceAdd, Nat.reduceLeDiff, Nat.reduceLT, Int.reduceLE, Int.reduceLT, Int.reducePow, Int.reduceToNat, Int.reduceNeg, Int.reduceEq, List.reverse_singleton, List.getElem?_cons_zero, List.getElem?_cons_succ, Nat.reducePow, big, mkStep, holdB, bindTgt.eq_def, bindAll, S.names, S.whole, S.known, hg]; rfl), ⟨by simp only [evR, lkp, lput, Mine.bound, ownFirst, capture, freezeAll, freeze1, List.map_cons, List.map_nil, List.all_cons, List.all_nil, String.reduceBEq, ↓reduceIte, beq_self_eq_true, Option.isSome_some, Option.isSome_none, Nat.reduceBEq, List.length_cons, List.length_nil, Nat.reduceAdd, Nat.reduceLeDiff, Nat.reduceLT, Int.reduceLE, Int.reduceLT, Int.reducePow, Int.reduceToNat, Int.reduceNeg, Int.reduceEq, List.reverse_singleton, List.getElem?_cons_zero, List.getElem?_cons_succ, Nat.reducePow, big, S.names], by simp only [evR, lkp, lput, Mine.bound, ownFirst, capture, freezeAll, freeze1, List.map_cons, List.map_nil, List.all_cons, List.all_nil, String.reduceBEq, ↓reduceIte, beq_self_eq_true, Option.isSome_some, Option.isSome_none, Nat.reduceBEq, List.length_cons, List.length_nil, Nat.reduceAdd, Nat.reduceLeDiff, Nat.reduceLT, Int.reduceLE, Int.reduceLT, Int.reducePow, Int.reduceToNat, Int.reduceNeg, Int.reduceEq, List.reverse_singleton, List.getElem?_cons_zero, List.getElem?_cons_succ, Nat.reducePow, big, S.whole], by simp only [evR, lkp, lput, Mine.bound, ownFirst, capture, freezeAll, freeze1, List.map_cons, List.map_nil, List.all_cons, List.all_nil, String.reduceBEq, ↓reduceIte, beq_self_eq_true, Option.isSome_some, Option.isSome_none, Nat.reduceBEq, List.length_cons, List.length_nil, Nat.reduceAdd, Nat.reduceLeDiff, Nat.reduceLT, Int.reduceLE, Int.reduceLT, Int.reducePow, Int.reduceToNat, Int.reduceNeg, Int.reduceEq, List.reverse_singleton, List.getElem?_cons_zero, List.getElem?_cons_succ, Nat.reducePow, big]; rfl⟩⟩
  refine runs_ex (Ns N w d) ?q1 fun l2 S2 => ?q2
  case q1 =>
    cases pc with
    | false =>
      refine ⟨l1, ?_, by rw [hd]; exact S1⟩
      simp only [evR, lkp, lput, Mine.bound, ownFirst, capture, freezeAll, freeze1, List.map_cons, List.map_nil, List.all_cons, List.all_nil, String.reduceBEq, ↓reduceIte, beq_self_eq_true, Option.isSome_some, Option.isSome_none, Nat.reduceBEq, List.length_cons, List.length_nil, Nat.reduceAdd, Nat.reduceLeDiff, Nat.reduceLT, Int.reduceLE, Int.reduceLT, Int.reducePow, Int.reduceToNat, Int.reduceNeg, Int.reduceEq, List.reverse_singleton, List.getElem?_cons_zero, List.getElem?_cons_succ, Nat.reducePow, big, S1.whole, hpc]
    | true =>
      simp only [if_true] at hd
      subst hd
      simp only [evR, lkp, lput, Mine.bound, ownFirst, capture, freezeAll, freeze1, List.map_cons, List.map_nil, List.all_cons, List.all_nil, String.reduceBEq, ↓reduceIte, beq_self_eq_true, Option.isSome_some, Option.isSome_none, Nat.reduceBEq, List.length_cons, List.length_nil, Nat.reduceAdd, Nat.reduceLeDiff, Nat.reduceLT, Int.reduceLE, Int.reduceLT, Int.reducePow, Int.reduceToNat, Int.reduceNeg, Int.reduceEq, List.reverse_singleton, List.getElem?_cons_zero, List.getElem?_cons_succ, Nat.reducePow, big, S1.whole, hpc, S1.names]
      generalize hstep : mkStep _ _ _ = step
      have key := for_strs (step := step) (Ns N w) (fun d n => (par n).foldl putAbs d) (knownT N) l1 N [] N rfl ?turn S1
      · obtain ⟨l2, e2, S2⟩ := key
        rw [e2]
        exact ⟨l2, rfl, S2⟩
      case turn =>
        intro pre x post hs l S
        have hx : x ∈ N := by rw [← hs]; simp
        have hlen := fold_len (f := fun d n => (par n).foldl putAbs d) (c := 5) (fun n => (par n).length ≤ 5) (fun d x h => by have := fold_len (f := putAbs) (fun _ => True) (fun d x _ => putAbs_len d x) (par x) d (fun _ _ => trivial); omega) pre (knownT N) (fun y hy => hpl y (by rw [← hs]; simp [hy]))
        have hlen2 := fold_len (f := putTrue) (fun _ => True) (fun d x _ => kput_len x (.bool true) d) N [] (fun _ _ => trivial)
        have hlen3 : (knownT N).length ≤ 0 + 1 * N.length := hlen2
        clear hlen2
        generalize pre.foldl (fun d n => (par n).foldl putAbs d) (knownT N) = d0 at *
        have h1 := congrArg List.length hs
        simp only [List.length_append, List.length_cons] at h1
        have hpx := hpl x hx
        have hCx := hpar x hx
        suffices h : ∃ l', step (.str x) l = some (.next, l') ∧ Ns N w ((par x).foldl putAbs d0) l' from let ⟨l', a, b⟩ := h; ⟨l', .inl a, b⟩
        rw [← hstep]
        simp only [evR, lkp, lput, Mine.bound, ownFirst, capture, freezeAll, freeze1, List.map_cons, List.map_nil, List.all_cons, List.all_nil, String.reduceBEq, ↓reduceIte, beq_self_eq_true, Option.isSome_some, Option.isSome_none, Nat.reduceBEq, List.length_cons, List.length_nil, Nat.reduceAdd, Nat.reduceLeDiff, Nat.reduceLT, Int.reduceLE, Int.reduceLT, Int.reducePow, Int.reduceToNat, Int.reduceNeg, Int.reduceEq, List.reverse_singleton, List.getElem?_cons_zero, List.getElem?_cons_succ, Nat.reducePow, big, mkStep, holdB, bindTgt.eq_def, bindAll, hCx]
        generalize hin : mkStep _ _ _ = inner
        have key := for_strs (step := inner) (Ns N w) putAbs d0 (lput "name" (.val (.d (.str x))) l) (par x) [] (par x) rfl ?turn2 ⟨by simp only [evR, lkp, lput, Mine.bound, ownFirst, capture, freezeAll, freeze1, List.map_cons, List.map_nil, List.all_cons, List.all_nil, String.reduceBEq, ↓reduceIte, beq_self_eq_true, Option.isSome_some, Option.isSome_none, Nat.reduceBEq, List.length_cons, List.length_nil, Nat.reduceAdd, Nat.reduceLeDiff, Nat.reduceLT, Int.reduceLE, Int.reduceLT, Int.reducePow, Int.reduceToNat, Int.reduceNeg, Int.reduceEq, List.reverse_singleton, List.getElem?_cons_zero, List.getElem?_cons_succ, Nat.reducePow, big, S.names], by simp only [evR, lkp, lput, Mine.bound, ownFirst, capture, freezeAll, freeze1, List.map_cons, List.map_nil, List.all_cons, List.all_nil, String.reduceBEq, ↓reduceIte, beq_self_eq_true, Option.isSome_some, Option.isSome_none, Nat.reduceBEq, List.length_cons, List.length_nil, Nat.reduceAdd, Nat.reduceLeDiff, Nat.reduceLT, Int.reduceLE, Int.reduceLT, Int.reducePow, Int.reduceToNat, Int.reduceNeg, Int.reduceEq, List.reverse_singleton, List.getElem?_cons_zero, List.getElem?_cons_succ, Nat.reducePow, big, S.whole], by simp only [evR, lkp, lput, Mine.bound, ownFirst, capture, freezeAll, freeze1, List.map_cons, List.map_nil, List.all_cons, List.all_nil, String.reduceBEq, ↓reduceIte, beq_self_eq_true, Option.isSome_some, Option.isSome_none, Nat.reduceBEq, List.length_cons, List.length_nil, Nat.reduceAdd, Nat.reduceLeDiff, Nat.reduceLT, Int.reduceLE, Int.reduceLT, Int.reducePow, Int.reduceToNat, Int.reduceNeg, Int.reduceEq, List.reverse_singleton, List.getElem?_cons_zero, List.getElem?_cons_succ, Nat.reducePow, big, S.known]; rfl⟩
        · obtain ⟨l2, e2, S2⟩ := key
          simp only [iterV, e2]
          exact ⟨l2, rfl, S2⟩
        case turn2 =>
          intro pre2 y post2 hs2 l S
          have hlen2 := fold_len (f := putAbs) (fun _ => True) (fun d x _ => putAbs_len d x) pre2 d0 (fun _ _ => trivial)
          generalize pre2.foldl putAbs d0 = d1 at *
          have h2 := congrArg List.length hs2
          simp only [List.length_append, List.length_cons] at h2
          have hg : d1.length < 900 := by omega
          cases hk : kget y d1 with
          | some z =>
            have hput : putAbs d1 y = d1 := by unfold putAbs; rw [hk]; rfl
            rw [hput]
            exact ⟨_, .inl (by rw [← hin]; simp only [evR, lkp, lput, Mine.bound, ownFirst, capture, freezeAll, freeze1, List.map_cons, List.map_nil, List.all_cons, List.all_nil, String.reduceBEq, ↓reduceIte, beq_self_eq_true, Option.isSome_some, Option.isSome_none, Nat.reduceBEq, List.length_cons, List.length_nil, Nat.reduceAdd, Nat.reduceLeDiff, Nat.reduceLT, Int.reduceLE, Int.reduceLT, Int.reducePow, Int.reduceToNat, Int.reduceNeg, Int.reduceEq, List.reverse_singleton, List.getElem?_cons_zero, List.getElem?_cons_succ, Nat.reducePow, big, mkStep, holdB, bindTgt.eq_def, bindAll, S.names, S.whole, S.known, hk]; rfl), ⟨by simp only [evR, lkp, lput, Mine.bound, ownFirst, capture, freezeAll, freeze1, List.map_cons, List.map_nil, List.all_cons, List.all_nil, String.reduceBEq, ↓reduceIte, beq_self_eq_true, Option.isSome_some, Option.isSome_none, Nat.reduceBEq, List.length_cons, List.length_nil, Nat.reduceAdd, Nat.reduceLeDiff, Nat.reduceLT, Int.reduceLE, Int.reduceLT, Int.reducePow, Int.reduceToNat, Int.reduceNeg, Int.reduceEq, List.reverse_singleton, List.getElem?_cons_zero, List.getElem?_cons_succ, Nat.reducePow, big, S.names], by simp only [evR, lkp, lput, Mine.bound, ownFirst, capture, freezeAll, freeze1, List.map_cons, List.map_nil, List.all_cons, List.all_nil, String.reduceBEq, ↓reduceIte, beq_self_eq_true, Option.isSome_some, Option.isSome_none, Nat.reduceBEq, List.length_cons, List.length_nil, Nat.reduceAdd, Nat.reduceLeDiff, Nat.reduceLT, Int.reduceLE, Int.reduceLT, Int.reducePow, Int.reduceToNat, Int.reduceNeg, Int.reduceEq, List.reverse_singleton, List.getElem?_cons_zero, List.getElem?_cons_succ, Nat.reducePow, big, S.whole], by simp only [evR, lkp, lput, Mine.bound, ownFirst, capture, freezeAll, freeze1, List.map_cons, List.map_nil, List.all_cons, List.all_nil, String.reduceBEq, ↓reduceIte, beq_self_eq_true, Option.isSome_some, Option.isSome_none, Nat.reduceBEq, List.length_cons, List.length_nil, Nat.reduceAdd, Nat.reduceLeDiff, Nat.reduceLT, Int.reduceLE, Int.reduceLT, Int.reducePow, Int.reduceToNat, Int.reduceNeg, Int.reduceEq, List.reverse_singleton, List.getElem?_cons_zero, List.getElem?_cons_succ, Nat.reducePow, big, S.known]⟩⟩
          | none =>
            have hput : putAbs d1 y = kput y (.bool false) d1 := by unfold putAbs; rw [hk]; rfl
            rw [hput]
            exact ⟨_, .inl (by rw [← hin]; simp only [evR, lkp, lput, Mine.bound, ownFirst, capture, freezeAll, freeze1, List.map_cons, List.map_nil, List.all_cons, List.all_nil, String.reduceBEq, ↓reduceIte, beq_self_eq_true, Option.isSome_some, Option.isSome_none, Nat.reduceBEq, List.length_cons, List.length_nil, Nat.reduceAdd, Nat.reduceLeDiff, Nat.reduceLT, Int.reduceLE, Int.reduceLT, Int.reducePow, Int.reduceToNat, Int.reduceNeg, Int.reduceEq, List.reverse_singleton, List.getElem?_cons_zero, List.getElem?_cons_succ, Nat.reducePow, big, mkStep, holdB, bindTgt.eq_def, bindAll, S.names, S.whole, S.known, hk, hg]; rfl), ⟨by simp only [evR, lkp, lput, Mine.bound, ownFirst, capture, freezeAll, freeze1, List.map_cons, List.map_nil, List.all_cons, List.all_nil, String.reduceBEq, ↓reduceIte, beq_self_eq_true, Option.isSome_some, Option.isSome_none, Nat.reduceBEq, List.length_cons, List.length_nil, Nat.reduceAdd, Nat.reduceLeDiff, Nat.reduceLT, Int.reduceLE, Int.reduceLT, Int.reducePow, Int.reduceToNat, Int.reduceNeg, Int.reduceEq, List.reverse_singleton, List.getElem?_cons_zero, List.getElem?_cons_succ, Nat.reducePow, big, S.names], by simp only [evR, lkp, lput, Mine.bound, ownFirst, capture, freezeAll, freeze1, List.map_cons, List.map_nil, List.all_cons, List.all_nil, String.reduceBEq, ↓reduceIte, beq_self_eq_true, Option.isSome_some, Option.isSome_none, Nat.reduceBEq, List.length_cons, List.length_nil, Nat.reduceAdd, Nat.reduceLeDiff, Nat.reduceLT, Int.reduceLE, Int.reduceLT, Int.reducePow, Int.reduceToNat, Int.reduceNeg, Int.reduceEq, List.reverse_singleton, List.getElem?_cons_zero, List.getElem?_cons_succ, Nat.reducePow, big, S.whole], by simp only [evR, lkp, lput, Mine.bound, ownFirst, capture, freezeAll, freeze1, List.map_cons, List.map_nil, List.all_cons, List.all_nil, String.reduceBEq, ↓reduceIte, beq_self_eq_true, Option.isSome_some, Option.isSome_none, Nat.reduceBEq, List.length_cons, List.length_nil, Nat.reduceAdd, Nat.reduceLeDiff, Nat.reduceLT, Int.reduceLE, Int.reduceLT, Int.reducePow, Int.reduceToNat, Int.reduceNeg, Int.reduceEq, List.reverse_singleton, List.getElem?_cons_zero, List.getElem?_cons_succ, Nat.reducePow, big]⟩⟩
  refine runs_ret (l1 := freezeAll ["known", "whole"] l2) (ret_comp ?_)
  have hlen : ((List.filter L (sortS (keysOf d))).map fun u => PyData.tuple [.str u, (kget u d).getD .none]).length ≤ 10000 := by
    rw [List.length_map]
    have := List.length_filter_le L (sortS (keysOf d))
    have h2 : (keysOf d).length = d.length := List.length_map ..
    rw [sortS_len] at this
    omega
  have hk : d.length < 64 := hdl
  refine comp_ok (cap := ["known", "whole"]) (lc := [("known", .val (.m d)), ("whole", .val (.d (.str w)))]) (items := toStrs (sortS (keysOf d))) (x := .d (.list (toStrs (sortS (keysOf d))))) (l1 := l2) ?c1 ?c2 ?c3 ?c4 ?c5 ?c6 ?c7 hlen
  case c1 => decide +kernel
  case c2 => rfl
  case c3 => simp only [evR, lkp, lput, Mine.bound, ownFirst, capture, freezeAll, freeze1, List.map_cons, List.map_nil, List.all_cons, List.all_nil, String.reduceBEq, ↓reduceIte, beq_self_eq_true, Option.isSome_some, Option.isSome_none, Nat.reduceBEq, List.length_cons, List.length_nil, Nat.reduceAdd, Nat.reduceLeDiff, Nat.reduceLT, Int.reduceLE, Int.reduceLT, Int.reducePow, Int.reduceToNat, Int.reduceNeg, Int.reduceEq, List.reverse_singleton, List.getElem?_cons_zero, List.getElem?_cons_succ, Nat.reducePow, big, S2.known, S2.whole]
  case c4 => simp only [evR, lkp, lput, Mine.bound, ownFirst, capture, freezeAll, freeze1, List.map_cons, List.map_nil, List.all_cons, List.all_nil, String.reduceBEq, ↓reduceIte, beq_self_eq_true, Option.isSome_some, Option.isSome_none, Nat.reduceBEq, List.length_cons, List.length_nil, Nat.reduceAdd, Nat.reduceLeDiff, Nat.reduceLT, Int.reduceLE, Int.reduceLT, Int.reducePow, Int.reduceToNat, Int.reduceNeg, Int.reduceEq, List.reverse_singleton, List.getElem?_cons_zero, List.getElem?_cons_succ, Nat.reducePow, big, S2.known, S2.whole, hk]
  case c5 => simp only [evR, lkp, lput, Mine.bound, ownFirst, capture, freezeAll, freeze1, List.map_cons, List.map_nil, List.all_cons, List.all_nil, String.reduceBEq, ↓reduceIte, beq_self_eq_true, Option.isSome_some, Option.isSome_none, Nat.reduceBEq, List.length_cons, List.length_nil, Nat.reduceAdd, Nat.reduceLeDiff, Nat.reduceLT, Int.reduceLE, Int.reduceLT, Int.reducePow, Int.reduceToNat, Int.reduceNeg, Int.reduceEq, List.reverse_singleton, List.getElem?_cons_zero, List.getElem?_cons_succ, Nat.reducePow, big]
  case c6 => simp only [evR, lkp, lput, Mine.bound, ownFirst, capture, freezeAll, freeze1, List.map_cons, List.map_nil, List.all_cons, List.all_nil, String.reduceBEq, ↓reduceIte, beq_self_eq_true, Option.isSome_some, Option.isSome_none, Nat.reduceBEq, List.length_cons, List.length_nil, Nat.reduceAdd, Nat.reduceLeDiff, Nat.reduceLT, Int.reduceLE, Int.reduceLT, Int.reducePow, Int.reduceToNat, Int.reduceNeg, Int.reduceEq, List.reverse_singleton, List.getElem?_cons_zero, List.getElem?_cons_succ, Nat.reducePow, big, S2.known, S2.whole]
  case c7 =>
    generalize hstep : mkComp _ _ _ _ = step
    have key := comp_filter (step := step) (fun l => lkp "whole" l = some (.val (.d (.str w))) ∧ lkp "known" l = some (.val (.m d))) L (fun u => .tuple [.str u, (kget u d).getD .none]) (sortS (keysOf d)) [("known", .val (.m d)), ("whole", .val (.d (.str w)))] [] ?turn3 ⟨by simp only [evR, lkp, lput, Mine.bound, ownFirst, capture, freezeAll, freeze1, List.map_cons, List.map_nil, List.all_cons, List.all_nil, String.reduceBEq, ↓reduceIte, beq_self_eq_true, Option.isSome_some, Option.isSome_none, Nat.reduceBEq, List.length_cons, List.length_nil, Nat.reduceAdd, Nat.reduceLeDiff, Nat.reduceLT, Int.reduceLE, Int.reduceLT, Int.reducePow, Int.reduceToNat, Int.reduceNeg, Int.reduceEq, List.reverse_singleton, List.getElem?_cons_zero, List.getElem?_cons_succ, Nat.reducePow, big], by simp only [evR, lkp, lput, Mine.bound, ownFirst, capture, freezeAll, freeze1, List.map_cons, List.map_nil, List.all_cons, List.all_nil, String.reduceBEq, ↓reduceIte, beq_self_eq_true, Option.isSome_some, Option.isSome_none, Nat.reduceBEq, List.length_cons, List.length_nil, Nat.reduceAdd, Nat.reduceLeDiff, Nat.reduceLT, Int.reduceLE, Int.reduceLT, Int.reducePow, Int.reduceToNat, Int.reduceNeg, Int.reduceEq, List.reverse_singleton, List.getElem?_cons_zero, List.getElem?_cons_succ, Nat.reducePow, big]⟩
    · rw [key]; rfl
    case turn3 =>
      intro u hu l S
      have hu' : u ∈ keysOf d := sortS_mem.mp hu
      have hC := hL u hu'
      have hg : ∃ z, kget u d = some z := kget_mem hu'
      obtain ⟨z, hz⟩ := hg
      rw [← hstep]
      cases hb : L u with
      | true =>
        rw [hb] at hC
        exact ⟨_, by simp only [evR, lkp, lput, Mine.bound, ownFirst, capture, freezeAll, freeze1, List.map_cons, List.map_nil, List.all_cons, List.all_nil, String.reduceBEq, ↓reduceIte, beq_self_eq_true, Option.isSome_some, Option.isSome_none, Nat.reduceBEq, List.length_cons, List.length_nil, Nat.reduceAdd, Nat.reduceLeDiff, Nat.reduceLT, Int.reduceLE, Int.reduceLT, Int.reducePow, Int.reduceToNat, Int.reduceNeg, Int.reduceEq, List.reverse_singleton, List.getElem?_cons_zero, List.getElem?_cons_succ, Nat.reducePow, big, mkComp, holdE, holdEs, bindTgt.eq_def, bindAll, S.1, S.2, hC, hz, Option.getD]; rfl, by simp only [evR, lkp, lput, Mine.bound, ownFirst, capture, freezeAll, freeze1, List.map_cons, List.map_nil, List.all_cons, List.all_nil, String.reduceBEq, ↓reduceIte, beq_self_eq_true, Option.isSome_some, Option.isSome_none, Nat.reduceBEq, List.length_cons, List.length_nil, Nat.reduceAdd, Nat.reduceLeDiff, Nat.reduceLT, Int.reduceLE, Int.reduceLT, Int.reducePow, Int.reduceToNat, Int.reduceNeg, Int.reduceEq, List.reverse_singleton, List.getElem?_cons_zero, List.getElem?_cons_succ, Nat.reducePow, big, S.1], by simp only [evR, lkp, lput, Mine.bound, ownFirst, capture, freezeAll, freeze1, List.map_cons, List.map_nil, List.all_cons, List.all_nil, String.reduceBEq, ↓reduceIte, beq_self_eq_true, Option.isSome_some, Option.isSome_none, Nat.reduceBEq, List.length_cons, List.length_nil, Nat.reduceAdd, Nat.reduceLeDiff, Nat.reduceLT, Int.reduceLE, Int.reduceLT, Int.reducePow, Int.reduceToNat, Int.reduceNeg, Int.reduceEq, List.reverse_singleton, List.getElem?_cons_zero, List.getElem?_cons_succ, Nat.reducePow, big, S.2]⟩
      | false =>
        rw [hb] at hC
        exact ⟨_, by simp only [evR, lkp, lput, Mine.bound, ownFirst, capture, freezeAll, freeze1, List.map_cons, List.map_nil, List.all_cons, List.all_nil, String.reduceBEq, ↓reduceIte, beq_self_eq_true, Option.isSome_some, Option.isSome_none, Nat.reduceBEq, List.length_cons, List.length_nil, Nat.reduceAdd, Nat.reduceLeDiff, Nat.reduceLT, Int.reduceLE, Int.reduceLT, Int.reducePow, Int.reduceToNat, Int.reduceNeg, Int.reduceEq, List.reverse_singleton, List.getElem?_cons_zero, List.getElem?_cons_succ, Nat.reducePow, big, mkComp, holdE, holdEs, bindTgt.eq_def, bindAll, S.1, S.2, hC, hz]; rfl, by simp only [evR, lkp, lput, Mine.bound, ownFirst, capture, freezeAll, freeze1, List.map_cons, List.map_nil, List.all_cons, List.all_nil, String.reduceBEq, ↓reduceIte, beq_self_eq_true, Option.isSome_some, Option.isSome_none, Nat.reduceBEq, List.length_cons, List.length_nil, Nat.reduceAdd, Nat.reduceLeDiff, Nat.reduceLT, Int.reduceLE, Int.reduceLT, Int.reducePow, Int.reduceToNat, Int.reduceNeg, Int.reduceEq, List.reverse_singleton, List.getElem?_cons_zero, List.getElem?_cons_succ, Nat.reducePow, big, S.1], by simp only [evR, lkp, lput, Mine.bound, ownFirst, capture, freezeAll, freeze1, List.map_cons, List.map_nil, List.all_cons, List.all_nil, String.reduceBEq, ↓reduceIte, beq_self_eq_true, Option.isSome_some, Option.isSome_none, Nat.reduceBEq, List.length_cons, List.length_nil, Nat.reduceAdd, Nat.reduceLeDiff, Nat.reduceLT, Int.reduceLE, Int.reduceLT, Int.reducePow, Int.reduceToNat, Int.reduceNeg, Int.reduceEq, List.reverse_singleton, List.getElem?_cons_zero, List.getElem?_cons_succ, Nat.reducePow, big, S.2]⟩
end Mine
end

section
open PySem
namespace Mine
set_option maxRecDepth 100000
set_option Elab.async false
theorem comp_map {α : Type} {step : PyData → Loc → Option (Option PyData × Loc)} (S : Loc → Prop) (inj g : α → PyData) : ∀ (items : List α) (l : Loc) (acc : List PyData), (∀ x ∈ items, ∀ l, S l → ∃ l', step (inj x) l = some (some (g x), l') ∧ S l') → S l →
    compLoop step (items.map inj) l acc = some (acc ++ items.map g)
  | [], l, acc, _, _ => by simp [compLoop]
  | x :: r, l, acc, ht, h => by
    obtain ⟨l1, e, h1⟩ := ht x List.mem_cons_self l h
    have ih := comp_map (step := step) S inj g r l1
    rw [List.map_cons, comp_some e, ih _ (fun y hy => ht y (List.mem_cons_of_mem _ hy)) h1]
    simp
noncomputable def rowOf (att : Str → List Str) (u : Str) : PyData := .tuple [.str "list", .tuple (toStrs (att u)), .str u]
theorem answers_c (C : Oracle) (N : List Str) (r p : Str) (hp : eqb p "" = false) (K : List Str) (g : Str → PyData) (hK : K.length ≤ 64) (hL : C "list_names" [.d (.list (toStrs N)), .d (.str r), .d (.str p)] = some ⟨.d (.list (K.map fun u => .tuple [.str u, g u])), false, none⟩)
    (att : Str → List Str) (ha : ∀ u ∈ K, (att u).length ≤ 9) (hA : ∀ u ∈ K, C "list_attributes" [.d (.list (toStrs N)), .d (.str u)] = some ⟨.d (.list (toStrs (att u))), false, none⟩) :
    callBody C (theD 12) [.d (.list (toStrs N)), .d (.str r), .d (.str p)] = some ⟨.d (.list (K.map (rowOf att))), false, none⟩ := by
  refine callBody_runs (d := theD 12) rfl (by kernel_rfl) ?_
  conv => arg 4; whnf
  refine runs_next (by simp only [evR, lkp, lput, Mine.bound, ownFirst, capture, freezeAll, freeze1, List.map_cons, List.map_nil, List.all_cons, List.all_nil, String.reduceBEq, ↓reduceIte, beq_self_eq_true, Option.isSome_some, Option.isSome_none, Nat.reduceBEq, List.length_cons, List.length_nil, Nat.reduceAdd, Nat.reduceLeDiff, Nat.reduceLT, Int.reduceLE, Int.reduceLT, Int.reducePow, Int.reduceToNat, Int.reduceNeg, Int.reduceEq, List.reverse_singleton, List.getElem?_cons_zero, List.getElem?_cons_succ, Nat.reducePow, big, hp]; rfl) ?_
  refine runs_next (by simp only [evR, lkp, lput, Mine.bound, ownFirst, capture, freezeAll, freeze1, List.map_cons, List.map_nil, List.all_cons, List.all_nil, String.reduceBEq, ↓reduceIte, beq_self_eq_true, Option.isSome_some, Option.isSome_none, Nat.reduceBEq, List.length_cons, List.length_nil, Nat.reduceAdd, Nat.reduceLeDiff, Nat.reduceLT, Int.reduceLE, Int.reduceLT, Int.reducePow, Int.reduceToNat, Int.reduceNeg, Int.reduceEq, List.reverse_singleton, List.getElem?_cons_zero, List.getElem?_cons_succ, Nat.reducePow, big, hL]; rfl) ?_
  refine runs_ret (l1 := freezeAll ["names"] [("names", .val (.d (.list (toStrs N)))), ("reference", .val (.d (.str r))), ("pattern", .val (.d (.str p))), ("found", .val (.d (.list (K.map fun u => .tuple [.str u, g u]))))]) (ret_comp ?_)
  have hlen : (K.map (rowOf att)).length ≤ 10000 := by rw [List.length_map]; omega
  refine comp_ok (cap := ["names"]) (lc := [("names", .val (.d (.list (toStrs N))))]) (items := K.map fun u => .tuple [.str u, g u]) (x := .d (.list (K.map fun u => .tuple [.str u, g u]))) (l1 := [("names", .val (.d (.list (toStrs N)))), ("reference", .val (.d (.str r))), ("pattern", .val (.d (.str p))), ("found", .val (.d (.list (K.map fun u => .tuple [.str u, g u]))))]) ?c1 ?c2 ?c3 ?c4 ?c5 ?c6 ?c7 hlen
  case c1 => decide +kernel
  case c2 => rfl
  case c3 => simp only [evR, lkp, lput, Mine.bound, ownFirst, capture, freezeAll, freeze1, List.map_cons, List.map_nil, List.all_cons, List.all_nil, String.reduceBEq, ↓reduceIte, beq_self_eq_true, Option.isSome_some, Option.isSome_none, Nat.reduceBEq, List.length_cons, List.length_nil, Nat.reduceAdd, Nat.reduceLeDiff, Nat.reduceLT, Int.reduceLE, Int.reduceLT, Int.reducePow, Int.reduceToNat, Int.reduceNeg, Int.reduceEq, List.reverse_singleton, List.getElem?_cons_zero, List.getElem?_cons_succ, Nat.reducePow, big]
  case c4 => simp only [evR, lkp, lput, Mine.bound, ownFirst, capture, freezeAll, freeze1, List.map_cons, List.map_nil, List.all_cons, List.all_nil, String.reduceBEq, ↓reduceIte, beq_self_eq_true, Option.isSome_some, Option.isSome_none, Nat.reduceBEq, List.length_cons, List.length_nil, Nat.reduceAdd, Nat.reduceLeDiff, Nat.reduceLT, Int.reduceLE, Int.reduceLT, Int.reducePow, Int.reduceToNat, Int.reduceNeg, Int.reduceEq, List.reverse_singleton, List.getElem?_cons_zero, List.getElem?_cons_succ, Nat.reducePow, big]
  case c5 => simp only [evR, lkp, lput, Mine.bound, ownFirst, capture, freezeAll, freeze1, List.map_cons, List.map_nil, List.all_cons, List.all_nil, String.reduceBEq, ↓reduceIte, beq_self_eq_true, Option.isSome_some, Option.isSome_none, Nat.reduceBEq, List.length_cons, List.length_nil, Nat.reduceAdd, Nat.reduceLeDiff, Nat.reduceLT, Int.reduceLE, Int.reduceLT, Int.reducePow, Int.reduceToNat, Int.reduceNeg, Int.reduceEq, List.reverse_singleton, List.getElem?_cons_zero, List.getElem?_cons_succ, Nat.reducePow, big]
  case c6 => simp only [evR, lkp, lput, Mine.bound, ownFirst, capture, freezeAll, freeze1, List.map_cons, List.map_nil, List.all_cons, List.all_nil, String.reduceBEq, ↓reduceIte, beq_self_eq_true, Option.isSome_some, Option.isSome_none, Nat.reduceBEq, List.length_cons, List.length_nil, Nat.reduceAdd, Nat.reduceLeDiff, Nat.reduceLT, Int.reduceLE, Int.reduceLT, Int.reducePow, Int.reduceToNat, Int.reduceNeg, Int.reduceEq, List.reverse_singleton, List.getElem?_cons_zero, List.getElem?_cons_succ, Nat.reducePow, big]
  case c7 =>
    generalize hstep : mkComp _ _ _ _ = step
    have key := comp_map (step := step) (fun l => lkp "names" l = some (.val (.d (.list (toStrs N))))) (fun u => .tuple [.str u, g u]) (rowOf att) K [("names", .val (.d (.list (toStrs N))))] [] ?turn (by simp only [evR, lkp, lput, Mine.bound, ownFirst, capture, freezeAll, freeze1, List.map_cons, List.map_nil, List.all_cons, List.all_nil, String.reduceBEq, ↓reduceIte, beq_self_eq_true, Option.isSome_some, Option.isSome_none, Nat.reduceBEq, List.length_cons, List.length_nil, Nat.reduceAdd, Nat.reduceLeDiff, Nat.reduceLT, Int.reduceLE, Int.reduceLT, Int.reducePow, Int.reduceToNat, Int.reduceNeg, Int.reduceEq, List.reverse_singleton, List.getElem?_cons_zero, List.getElem?_cons_succ, Nat.reducePow, big])
    · rw [key]; rfl
    case turn =>
      intro u hu l S
      have hC := hA u hu
      have hg : (toStrs (att u)).length ≤ 10000 := by have := ha u hu; rw [toStrs, List.length_map]; omega
      rw [← hstep]
      exact ⟨_, by simp only [evR, lkp, lput, Mine.bound, ownFirst, capture, freezeAll, freeze1, List.map_cons, List.map_nil, List.all_cons, List.all_nil, String.reduceBEq, ↓reduceIte, beq_self_eq_true, Option.isSome_some, Option.isSome_none, Nat.reduceBEq, List.length_cons, List.length_nil, Nat.reduceAdd, Nat.reduceLeDiff, Nat.reduceLT, Int.reduceLE, Int.reduceLT, Int.reducePow, Int.reduceToNat, Int.reduceNeg, Int.reduceEq, List.reverse_singleton, List.getElem?_cons_zero, List.getElem?_cons_succ, Nat.reducePow, big, mkComp, holdE, holdEs, bindTgt.eq_def, bindAll, namesOf?, S, hC, hg]; rfl, by simp only [evR, lkp, lput, Mine.bound, ownFirst, capture, freezeAll, freeze1, List.map_cons, List.map_nil, List.all_cons, List.all_nil, String.reduceBEq, ↓reduceIte, beq_self_eq_true, Option.isSome_some, Option.isSome_none, Nat.reduceBEq, List.length_cons, List.length_nil, Nat.reduceAdd, Nat.reduceLeDiff, Nat.reduceLT, Int.reduceLE, Int.reduceLT, Int.reducePow, Int.reduceToNat, Int.reduceNeg, Int.reduceEq, List.reverse_singleton, List.getElem?_cons_zero, List.getElem?_cons_succ, Nat.reducePow, big, S]⟩
end Mine
end

section
open PySem
namespace Mine
set_option maxRecDepth 100000
set_option Elab.async false
theorem for_map {α : Type} {step : PyData → Loc → Option (Fl × Loc)} (inj : α → PyData) (S : List α → Loc → Prop) : ∀ (items pre all : List α), pre ++ items = all → (∀ pre x post, pre ++ x :: post = all → ∀ l, S pre l → ∃ l', (step (inj x) l = some (.next, l') ∨ step (inj x) l = some (.cont, l')) ∧ S (pre ++ [x]) l') → ∀ l, S pre l →
    ∃ l', forLoop step (items.map inj) l = some (.next, l') ∧ S all l'
  | [], pre, all, e, _, l, h => by rw [List.append_nil] at e; subst e; exact ⟨l, rfl, h⟩
  | x :: r, pre, all, he, ht, l, h => by
    obtain ⟨l1, e, h1⟩ := ht pre x r he l h
    obtain ⟨l2, e2, h2⟩ := for_map inj S r (pre ++ [x]) all (by rw [← he]; simp) ht l1 h1
    refine ⟨l2, ?_, h2⟩
    rw [List.map_cons, forLoop]
    rcases e with e | e <;> rw [e] <;> exact e2
noncomputable def levI (kids : Nat → List Nat) (hb : Nat → Bool) : Nat → List Nat → List Nat → Option (List Nat)
  | 0, _, _ => none
  | _ + 1, [], F => some F
  | k + 1, i :: W, F => match kids i with
    | [] => none
    | u :: r => levI kids hb k (W ++ (u :: r).filter hb) (F ++ u :: r)
theorem levI_pre (kids : Nat → List Nat) (hb : Nat → Bool) : ∀ (k : Nat) (W F F' : List Nat), levI kids hb k W F = some F' → ∃ t, F' = F ++ t
  | 0, _, _, _, h => by simp [levI] at h
  | _ + 1, [], F, F', h => by simp [levI] at h; exact ⟨[], by simp [h]⟩
  | k + 1, i :: W, F, F', h => by
    rw [levI] at h
    split at h
    · cases h
    · obtain ⟨t, rfl⟩ := levI_pre kids hb k _ _ _ h
      exact ⟨_, by rw [List.append_assoc]⟩
section
variable (C : Oracle) (N : List Str) (I : List Nat) (nm lv : Nat → Str) (kids : Nat → List Nat) (att : Nat → List Str) (hb : Nat → Bool)
noncomputable def rowI (nm : Nat → Str) (att : Nat → List Str) (u : Nat) : PyData := .tuple [.str "list", .tuple (toStrs (att u)), .str (nm u)]
noncomputable def dictI (nm : Nat → Str) (att : Nat → List Str) (F : List Nat) : List (Str × PyData) := F.map fun u => (nm u, .tuple (toStrs (att u)))
theorem dict_none {I : List Nat} {nm : Nat → Str} {att : Nat → List Str} (inj : ∀ u ∈ I, ∀ v ∈ I, nm u = nm v → u = v) {x : Nat} (hx : x ∈ I) : ∀ {F : List Nat}, (∀ u ∈ F, u ∈ I) → x ∉ F → kget (nm x) (dictI nm att F) = none
  | [], _, _ => rfl
  | u :: r, hF, h => by
    have h1 : ¬ eqb (nm x) (nm u) = true := fun e => h (by rw [inj x hx u (hF u List.mem_cons_self) (eqb_eq e)]; exact List.mem_cons_self)
    have ih := dict_none (nm := nm) (att := att) inj hx (F := r) (fun v hv => hF v (List.mem_cons_of_mem _ hv)) (fun hv => h (List.mem_cons_of_mem _ hv))
    unfold kget dictI at *
    rw [List.map_cons, lkp, if_neg h1]
    exact ih
theorem kput_new (k : Str) (v : PyData) : ∀ {d : List (Str × PyData)}, kget k d = none → kput k v d = d ++ [(k, v)]
  | [], _ => rfl
  | (y, w) :: r, h => by
    unfold kget lkp at h
    split at h
    · cases h
    · rename_i hn
      rw [kput, if_neg hn, kput_new k v (d := r) h]; rfl
theorem depth_strs : ∀ l : List Str, PyData.depthAll (toStrs l) = 0
  | [] => rfl
  | x :: r => by rw [toStrs_cons, PyData.depthAll, depth_strs r]; rfl
end
end Mine
end

section
open PySem
namespace Mine
set_option maxRecDepth 100000
set_option Elab.async false
theorem evS_while {C : Oracle} {sc : PySem.Scope} {n : Nat} {t : Expr} {b : List Stmt} {p : Pos} {l : Loc} : evS C sc (n + 1) (.While t b [] p) l = whileLoop (evT C sc n t) (evSs C sc n b) turnsMost l := rfl
theorem while_true {test : Loc → Option (Bool × Loc)} {body : Loc → Option (Fl × Loc)} {n : Nat} {l l1 l2 : Loc} {q} (h : test l = some (true, l1)) (h1 : body l1 = some (.next, l2)) (h2 : whileLoop test body n l2 = q) : whileLoop test body (n + 1) l = q := by
  rw [whileLoop, h]; simp only [h1, h2]
theorem while_false {test : Loc → Option (Bool × Loc)} {body : Loc → Option (Fl × Loc)} {n : Nat} {l l1 : Loc} (h : test l = some (false, l1)) : whileLoop test body (n + 1) l = some (.next, l1) := by
  rw [whileLoop, h]
noncomputable def Goes (C : Oracle) (sc : PySem.Scope) (n : Nat) (ss : List Stmt) (l : Loc) (P : Loc → Prop) : Prop := ∃ l1, evSs C sc n ss l = some (.next, l1) ∧ P l1
theorem goes_next {C : Oracle} {sc : PySem.Scope} {n : Nat} {s : Stmt} {r : List Stmt} {l l1 : Loc} {P} (h : evS C sc n s l = some (.next, l1)) (h' : Goes C sc n r l1 P) : Goes C sc (n + 1) (s :: r) l P :=
  let ⟨l2, e, p⟩ := h'; ⟨l2, evSs_next h e, p⟩
theorem goes_ex {C : Oracle} {sc : PySem.Scope} {n : Nat} {s : Stmt} {r : List Stmt} {l : Loc} {P} (Q : Loc → Prop) (h : ∃ l1, evS C sc n s l = some (.next, l1) ∧ Q l1) (h' : ∀ l1, Q l1 → Goes C sc n r l1 P) : Goes C sc (n + 1) (s :: r) l P :=
  let ⟨l1, e, hp⟩ := h; goes_next e (h' l1 hp)
theorem goes_nil {C : Oracle} {sc : PySem.Scope} {n : Nat} {l : Loc} {P : Loc → Prop} (h : P l) : Goes C sc (n + 1) [] l P := ⟨l, rfl, h⟩
theorem eqv_nil (x : PyData) (r : List PyData) : PyData.eqv (.list (x :: r)) (.list []) = false := by
  rw [PyData.eqv, PyData.eqvAll]
theorem shaped_nil : SeqAt.shaped (.list []) = true := by decide +kernel
theorem strsOf_toStrs2 : ∀ q : List Str, strsOf (toStrs q) = some q := strsOf_toStrs'
/-- the same, within one level -/
structure Li (N : List Str) (nm lv : Nat → Str) (att : Nat → List Str) (i : Nat) (F W : List Nat) (a : Int) (l : Loc) : Prop where
  names : lkp "names" l = some (.val (.d (.list (toStrs N))))
  found : lkp "found" l = some (.own (.m (dictI nm att F)))
  waiting : lkp "waiting" l = some (.own (.d (.list (W.map fun i => .str (lv i)))))
  asked : lkp "asked" l = some (.val (.d (.int a)))
  level : lkp "level" l = some (.val (.d (.str (lv i))))
/-- what stands in the walk of the levels -/
structure Ls (N : List Str) (nm lv : Nat → Str) (att : Nat → List Str) (F W : List Nat) (a : Int) (l : Loc) : Prop where
  names : lkp "names" l = some (.val (.d (.list (toStrs N))))
  found : lkp "found" l = some (.own (.m (dictI nm att F)))
  waiting : lkp "waiting" l = some (.own (.d (.list (W.map fun i => .str (lv i)))))
  asked : lkp "asked" l = some (.val (.d (.int a)))
theorem levels_c (C : Oracle) (N : List Str) (I : List Nat) (nm lv : Nat → Str) (kids : Nat → List Nat) (att : Nat → List Str) (hb : Nat → Bool)
    (inj : ∀ u ∈ I, ∀ v ∈ I, nm u = nm v → u = v) (hk : ∀ i, ∀ u ∈ kids i, u ∈ I)
    (hpre : ∀ i, ∀ u ∈ kids i, prefixN (lv i).cps.toList (nm u).cps.toList = true)
    (hlv : ∀ u ∈ I, mkS ((nm u).cps.toList ++ [47]) = lv u) (hl : ∀ u ∈ I, (nm u).cps.toList.length + 1 ≤ 10000)
    (hatt : ∀ u, elems (att u) hasC = hb u) (h0 : lv 0 = "")
    (hC : ∀ i, kids i ≠ [] → C "list_answers" [.d (.list (toStrs N)), .d (.str (lv i)), .d (.str "%")] = some ⟨.d (.list ((kids i).map (rowI nm att))), false, none⟩)
    (hsh : ∀ i, SeqAt.shaped (.list ((kids i).map (rowI nm att))) = true)
    (F : List Nat) (hF : levI kids hb 31 [0] [] = some F) (hnd : F.Nodup) (hFl : F.length < 900) :
    callBody C (theD 16) [.d (.list (toStrs N))] = some ⟨.m (dictI nm att F), false, none⟩ := by
  refine callBody_runs (d := theD 16) rfl (by kernel_rfl) ?_
  conv => arg 4; whnf
  refine runs_next (by simp only [evR, lkp, lput, Mine.bound, ownFirst, capture, freezeAll, freeze1, List.map_cons, List.map_nil, List.all_cons, List.all_nil, String.reduceBEq, ↓reduceIte, beq_self_eq_true, Option.isSome_some, Option.isSome_none, Nat.reduceBEq, List.length_cons, List.length_nil, Nat.reduceAdd, Nat.reduceLeDiff, Nat.reduceLT, Int.reduceLE, Int.reduceLT, Int.reducePow, Int.reduceToNat, Int.reduceNeg, Int.reduceEq, List.reverse_singleton, List.getElem?_cons_zero, List.getElem?_cons_succ, Nat.reducePow, big]; rfl) ?_
  refine runs_next (by simp only [evR, lkp, lput, Mine.bound, ownFirst, capture, freezeAll, freeze1, List.map_cons, List.map_nil, List.all_cons, List.all_nil, String.reduceBEq, ↓reduceIte, beq_self_eq_true, Option.isSome_some, Option.isSome_none, Nat.reduceBEq, List.length_cons, List.length_nil, Nat.reduceAdd, Nat.reduceLeDiff, Nat.reduceLT, Int.reduceLE, Int.reduceLT, Int.reducePow, Int.reduceToNat, Int.reduceNeg, Int.reduceEq, List.reverse_singleton, List.getElem?_cons_zero, List.getElem?_cons_succ, Nat.reducePow, big]; rfl) ?_
  refine runs_next (by simp only [evR, lkp, lput, Mine.bound, ownFirst, capture, freezeAll, freeze1, List.map_cons, List.map_nil, List.all_cons, List.all_nil, String.reduceBEq, ↓reduceIte, beq_self_eq_true, Option.isSome_some, Option.isSome_none, Nat.reduceBEq, List.length_cons, List.length_nil, Nat.reduceAdd, Nat.reduceLeDiff, Nat.reduceLT, Int.reduceLE, Int.reduceLT, Int.reducePow, Int.reduceToNat, Int.reduceNeg, Int.reduceEq, List.reverse_singleton, List.getElem?_cons_zero, List.getElem?_cons_succ, Nat.reducePow, big]; rfl) ?_
  refine runs_ex (fun l => lkp "found" l = some (.own (.m (dictI nm att F)))) ?w1 fun l1 S1 => ?w2
  case w2 => exact runs_ret (by simp only [evR, lkp, lput, Mine.bound, ownFirst, capture, freezeAll, freeze1, List.map_cons, List.map_nil, List.all_cons, List.all_nil, String.reduceBEq, ↓reduceIte, beq_self_eq_true, Option.isSome_some, Option.isSome_none, Nat.reduceBEq, List.length_cons, List.length_nil, Nat.reduceAdd, Nat.reduceLeDiff, Nat.reduceLT, Int.reduceLE, Int.reduceLT, Int.reducePow, Int.reduceToNat, Int.reduceNeg, Int.reduceEq, List.reverse_singleton, List.getElem?_cons_zero, List.getElem?_cons_succ, Nat.reducePow, big, S1]; rfl)
  case w1 =>
    rw [evS_while]
    generalize htest : evT _ _ _ _ = test
    generalize hbody : evSs _ _ _ _ = body
    have test_t : ∀ (i : Nat) (W F : List Nat) (a : Int) (l : Loc), W.length < 9999 → Ls N nm lv att F (i :: W) a l → test l = some (true, l) := by
      intro i W F a l hw S
      rw [← htest]
      have hw' : W.length + 1 ≤ 10000 := by omega
      simp only [evR, lkp, lput, Mine.bound, ownFirst, capture, freezeAll, freeze1, List.map_cons, List.map_nil, List.all_cons, List.all_nil, String.reduceBEq, ↓reduceIte, beq_self_eq_true, Option.isSome_some, Option.isSome_none, Nat.reduceBEq, List.length_cons, List.length_nil, Nat.reduceAdd, Nat.reduceLeDiff, Nat.reduceLT, Int.reduceLE, Int.reduceLT, Int.reducePow, Int.reduceToNat, Int.reduceNeg, Int.reduceEq, List.reverse_singleton, List.getElem?_cons_zero, List.getElem?_cons_succ, Nat.reducePow, big, S.waiting, List.length_map, hw', List.isEmpty_cons]
    have test_f : ∀ (F : List Nat) (a : Int) (l : Loc), Ls N nm lv att F [] a l → test l = some (false, l) := by
      intro F a l S
      rw [← htest]
      simp only [evR, lkp, lput, Mine.bound, ownFirst, capture, freezeAll, freeze1, List.map_cons, List.map_nil, List.all_cons, List.all_nil, String.reduceBEq, ↓reduceIte, beq_self_eq_true, Option.isSome_some, Option.isSome_none, Nat.reduceBEq, List.length_cons, List.length_nil, Nat.reduceAdd, Nat.reduceLeDiff, Nat.reduceLT, Int.reduceLE, Int.reduceLT, Int.reducePow, Int.reduceToNat, Int.reduceNeg, Int.reduceEq, List.reverse_singleton, List.getElem?_cons_zero, List.getElem?_cons_succ, Nat.reducePow, big, S.waiting, List.isEmpty_nil, Nat.zero_le]
    have body_t : ∀ (i : Nat) (W F : List Nat) (a : Int) (l : Loc), kids i ≠ [] → a + 1 ≤ 30 → W.length + (kids i).length < 9000 → F.length + (kids i).length < 900 → (F ++ kids i).Nodup → (∀ u ∈ F, u ∈ I) → Ls N nm lv att F (i :: W) a l →
        ∃ l', body l = some (.next, l') ∧ Ls N nm lv att (F ++ kids i) (W ++ (kids i).filter hb) (a + 1) l' := by
      intro i W F a l hne ha hW hFF hnd hFI S
      have hCi := hC i hne
      have hshi := hsh i
      have hki := hk i
      have hpi := hpre i
      generalize kids i = K at *
      have hw1 : W.length < 10000 := by omega
      have ha' : decide (30 < a + 1) = false := by simp; omega
      rw [← hbody]
      show Goes _ _ _ _ _ _
      refine goes_next (by simp only [evR, lkp, lput, Mine.bound, ownFirst, capture, freezeAll, freeze1, List.map_cons, List.map_nil, List.all_cons, List.all_nil, String.reduceBEq, ↓reduceIte, beq_self_eq_true, Option.isSome_some, Option.isSome_none, Nat.reduceBEq, List.length_cons, List.length_nil, Nat.reduceAdd, Nat.reduceLeDiff, Nat.reduceLT, Int.reduceLE, Int.reduceLT, Int.reducePow, Int.reduceToNat, Int.reduceNeg, Int.reduceEq, List.reverse_singleton, List.getElem?_cons_zero, List.getElem?_cons_succ, Nat.reducePow, big, S.waiting, List.map_cons, List.length_map, hw1]; rfl) ?_
      refine goes_next (by simp only [evR, lkp, lput, Mine.bound, ownFirst, capture, freezeAll, freeze1, List.map_cons, List.map_nil, List.all_cons, List.all_nil, String.reduceBEq, ↓reduceIte, beq_self_eq_true, Option.isSome_some, Option.isSome_none, Nat.reduceBEq, List.length_cons, List.length_nil, Nat.reduceAdd, Nat.reduceLeDiff, Nat.reduceLT, Int.reduceLE, Int.reduceLT, Int.reducePow, Int.reduceToNat, Int.reduceNeg, Int.reduceEq, List.reverse_singleton, List.getElem?_cons_zero, List.getElem?_cons_succ, Nat.reducePow, big, S.names, hCi]; rfl) ?_
      refine goes_next (by simp only [evR, lkp, lput, Mine.bound, ownFirst, capture, freezeAll, freeze1, List.map_cons, List.map_nil, List.all_cons, List.all_nil, String.reduceBEq, ↓reduceIte, beq_self_eq_true, Option.isSome_some, Option.isSome_none, Nat.reduceBEq, List.length_cons, List.length_nil, Nat.reduceAdd, Nat.reduceLeDiff, Nat.reduceLT, Int.reduceLE, Int.reduceLT, Int.reducePow, Int.reduceToNat, Int.reduceNeg, Int.reduceEq, List.reverse_singleton, List.getElem?_cons_zero, List.getElem?_cons_succ, Nat.reducePow, big, S.asked]; rfl) ?_
      obtain ⟨u0, r0, rfl⟩ : ∃ u0 r0, K = u0 :: r0 := by
        cases K with
        | nil => exact absurd rfl hne
        | cons u r => exact ⟨u, r, rfl⟩
      have hshi' := hshi
      simp only [List.map_cons] at hshi'
      refine goes_next (by simp only [evR, lkp, lput, Mine.bound, ownFirst, capture, freezeAll, freeze1, List.map_cons, List.map_nil, List.all_cons, List.all_nil, String.reduceBEq, ↓reduceIte, beq_self_eq_true, Option.isSome_some, Option.isSome_none, Nat.reduceBEq, List.length_cons, List.length_nil, Nat.reduceAdd, Nat.reduceLeDiff, Nat.reduceLT, Int.reduceLE, Int.reduceLT, Int.reducePow, Int.reduceToNat, Int.reduceNeg, Int.reduceEq, List.reverse_singleton, List.getElem?_cons_zero, List.getElem?_cons_succ, Nat.reducePow, big, List.map_cons, hshi', shaped_nil, eqv_nil, ha']; rfl) ?_
      refine goes_ex (Ls N nm lv att (F ++ u0 :: r0) (W ++ (u0 :: r0).filter hb) (a + 1)) ?f1 fun l3 S3 => goes_nil S3
      case f1 =>
        generalize hl4 : lput "asked" _ _ = l4
        have S4 : Li N nm lv att i F W (a + 1) l4 := by
          subst hl4
          exact ⟨by simp only [evR, lkp, lput, Mine.bound, ownFirst, capture, freezeAll, freeze1, List.map_cons, List.map_nil, List.all_cons, List.all_nil, String.reduceBEq, ↓reduceIte, beq_self_eq_true, Option.isSome_some, Option.isSome_none, Nat.reduceBEq, List.length_cons, List.length_nil, Nat.reduceAdd, Nat.reduceLeDiff, Nat.reduceLT, Int.reduceLE, Int.reduceLT, Int.reducePow, Int.reduceToNat, Int.reduceNeg, Int.reduceEq, List.reverse_singleton, List.getElem?_cons_zero, List.getElem?_cons_succ, Nat.reducePow, big, S.names], by simp only [evR, lkp, lput, Mine.bound, ownFirst, capture, freezeAll, freeze1, List.map_cons, List.map_nil, List.all_cons, List.all_nil, String.reduceBEq, ↓reduceIte, beq_self_eq_true, Option.isSome_some, Option.isSome_none, Nat.reduceBEq, List.length_cons, List.length_nil, Nat.reduceAdd, Nat.reduceLeDiff, Nat.reduceLT, Int.reduceLE, Int.reduceLT, Int.reducePow, Int.reduceToNat, Int.reduceNeg, Int.reduceEq, List.reverse_singleton, List.getElem?_cons_zero, List.getElem?_cons_succ, Nat.reducePow, big, S.found], by simp only [evR, lkp, lput, Mine.bound, ownFirst, capture, freezeAll, freeze1, List.map_cons, List.map_nil, List.all_cons, List.all_nil, String.reduceBEq, ↓reduceIte, beq_self_eq_true, Option.isSome_some, Option.isSome_none, Nat.reduceBEq, List.length_cons, List.length_nil, Nat.reduceAdd, Nat.reduceLeDiff, Nat.reduceLT, Int.reduceLE, Int.reduceLT, Int.reducePow, Int.reduceToNat, Int.reduceNeg, Int.reduceEq, List.reverse_singleton, List.getElem?_cons_zero, List.getElem?_cons_succ, Nat.reducePow, big], by simp only [evR, lkp, lput, Mine.bound, ownFirst, capture, freezeAll, freeze1, List.map_cons, List.map_nil, List.all_cons, List.all_nil, String.reduceBEq, ↓reduceIte, beq_self_eq_true, Option.isSome_some, Option.isSome_none, Nat.reduceBEq, List.length_cons, List.length_nil, Nat.reduceAdd, Nat.reduceLeDiff, Nat.reduceLT, Int.reduceLE, Int.reduceLT, Int.reducePow, Int.reduceToNat, Int.reduceNeg, Int.reduceEq, List.reverse_singleton, List.getElem?_cons_zero, List.getElem?_cons_succ, Nat.reducePow, big], by simp only [evR, lkp, lput, Mine.bound, ownFirst, capture, freezeAll, freeze1, List.map_cons, List.map_nil, List.all_cons, List.all_nil, String.reduceBEq, ↓reduceIte, beq_self_eq_true, Option.isSome_some, Option.isSome_none, Nat.reduceBEq, List.length_cons, List.length_nil, Nat.reduceAdd, Nat.reduceLeDiff, Nat.reduceLT, Int.reduceLE, Int.reduceLT, Int.reducePow, Int.reduceToNat, Int.reduceNeg, Int.reduceEq, List.reverse_singleton, List.getElem?_cons_zero, List.getElem?_cons_succ, Nat.reducePow, big]⟩
        have hr4 : lkp "rows" l4 = some (.val (.d (.list ((u0 :: r0).map (rowI nm att))))) := by
          subst hl4; simp only [evR, lkp, lput, Mine.bound, ownFirst, capture, freezeAll, freeze1, List.map_cons, List.map_nil, List.all_cons, List.all_nil, String.reduceBEq, ↓reduceIte, beq_self_eq_true, Option.isSome_some, Option.isSome_none, Nat.reduceBEq, List.length_cons, List.length_nil, Nat.reduceAdd, Nat.reduceLeDiff, Nat.reduceLT, Int.reduceLE, Int.reduceLT, Int.reducePow, Int.reduceToNat, Int.reduceNeg, Int.reduceEq, List.reverse_singleton, List.getElem?_cons_zero, List.getElem?_cons_succ, Nat.reducePow, big]
        clear hl4 hshi'
        generalize u0 :: r0 = K at *
        simp only [evR, lkp, lput, Mine.bound, ownFirst, capture, freezeAll, freeze1, List.map_cons, List.map_nil, List.all_cons, List.all_nil, String.reduceBEq, ↓reduceIte, beq_self_eq_true, Option.isSome_some, Option.isSome_none, Nat.reduceBEq, List.length_cons, List.length_nil, Nat.reduceAdd, Nat.reduceLeDiff, Nat.reduceLT, Int.reduceLE, Int.reduceLT, Int.reducePow, Int.reduceToNat, Int.reduceNeg, Int.reduceEq, List.reverse_singleton, List.getElem?_cons_zero, List.getElem?_cons_succ, Nat.reducePow, big, hr4]
        generalize hstep : mkStep _ _ _ = step
        have key := for_map (step := step) (rowI nm att) (fun pre l => Li N nm lv att i (F ++ pre) (W ++ pre.filter hb) (a + 1) l) K [] K rfl ?turn l4 (by rw [List.append_nil, List.filter_nil, List.append_nil]; exact S4)
        · obtain ⟨l5, e5, S5⟩ := key
          exact ⟨l5, e5, S5.names, S5.found, S5.waiting, S5.asked⟩
        case turn =>
          intro pre u post hs l S
          have huK : u ∈ K := by rw [← hs]; simp
          have huI := hki u huK
          have hpu := hpi u huK
          have hlu := hl u huI
          have hau : elems (att u) (Str.ofString "\\HasChildren") = hb u := hatt u
          have hvu := hlv u huI
          have hs' := congrArg List.length hs
          simp only [List.length_append, List.length_cons] at hs'
          have hnd' : (F ++ pre ++ u :: post).Nodup := by rw [List.append_assoc, hs]; exact hnd
          have hnot : u ∉ F ++ pre := fun h => (List.nodup_append.mp hnd').2.2 u h u List.mem_cons_self rfl
          have hin : ∀ v ∈ F ++ pre, v ∈ I := fun v hv => (List.mem_append.mp hv).elim (hFI v) (fun h => hki v (by rw [← hs]; simp [h]))
          have hget := dict_none (att := att) inj huI hin hnot
          have hput := kput_new (nm u) (.tuple (toStrs (att u))) hget
          have hdl : (dictI nm att (F ++ pre)).length < 900 := by rw [dictI, List.length_map, List.length_append]; omega
          have hdic : dictI nm att (F ++ (pre ++ [u])) = dictI nm att (F ++ pre) ++ [(nm u, .tuple (toStrs (att u)))] := by simp [dictI]
          have hwl : (W ++ pre.filter hb).length < 10000 := by
            have := List.length_filter_le hb pre
            rw [List.length_append]; omega
          rw [← hstep]
          cases hbu : hb u with
          | true =>
            rw [hbu] at hau
            refine ⟨_, .inl (by simp only [evR, lkp, lput, Mine.bound, ownFirst, capture, freezeAll, freeze1, List.map_cons, List.map_nil, List.all_cons, List.all_nil, String.reduceBEq, ↓reduceIte, beq_self_eq_true, Option.isSome_some, Option.isSome_none, Nat.reduceBEq, List.length_cons, List.length_nil, Nat.reduceAdd, Nat.reduceLeDiff, Nat.reduceLT, Int.reduceLE, Int.reduceLT, Int.reducePow, Int.reduceToNat, Int.reduceNeg, Int.reduceEq, List.reverse_singleton, List.getElem?_cons_zero, List.getElem?_cons_succ, Nat.reducePow, big, mkStep, holdB, bindTgt.eq_def, bindAll, namesOf?, rowI, S.names, S.found, S.waiting, S.asked, S.level, hget, hpu, hdl, strsOf_toStrs2, hau, List.length_map, hwl, hlu]; rfl), ?_⟩
            have hw2 : (W ++ (pre ++ [u]).filter hb).map (fun i => PyData.str (lv i)) = (W ++ pre.filter hb).map (fun i => PyData.str (lv i)) ++ [.str (mkS ((nm u).cps.toList ++ [47]))] := by
              rw [hvu]; simp [hbu]
            exact ⟨by simp only [evR, lkp, lput, Mine.bound, ownFirst, capture, freezeAll, freeze1, List.map_cons, List.map_nil, List.all_cons, List.all_nil, String.reduceBEq, ↓reduceIte, beq_self_eq_true, Option.isSome_some, Option.isSome_none, Nat.reduceBEq, List.length_cons, List.length_nil, Nat.reduceAdd, Nat.reduceLeDiff, Nat.reduceLT, Int.reduceLE, Int.reduceLT, Int.reducePow, Int.reduceToNat, Int.reduceNeg, Int.reduceEq, List.reverse_singleton, List.getElem?_cons_zero, List.getElem?_cons_succ, Nat.reducePow, big, S.names], by simp only [evR, lkp, lput, Mine.bound, ownFirst, capture, freezeAll, freeze1, List.map_cons, List.map_nil, List.all_cons, List.all_nil, String.reduceBEq, ↓reduceIte, beq_self_eq_true, Option.isSome_some, Option.isSome_none, Nat.reduceBEq, List.length_cons, List.length_nil, Nat.reduceAdd, Nat.reduceLeDiff, Nat.reduceLT, Int.reduceLE, Int.reduceLT, Int.reducePow, Int.reduceToNat, Int.reduceNeg, Int.reduceEq, List.reverse_singleton, List.getElem?_cons_zero, List.getElem?_cons_succ, Nat.reducePow, big, hput, hdic], by simp only [evR, lkp, lput, Mine.bound, ownFirst, capture, freezeAll, freeze1, List.map_cons, List.map_nil, List.all_cons, List.all_nil, String.reduceBEq, ↓reduceIte, beq_self_eq_true, Option.isSome_some, Option.isSome_none, Nat.reduceBEq, List.length_cons, List.length_nil, Nat.reduceAdd, Nat.reduceLeDiff, Nat.reduceLT, Int.reduceLE, Int.reduceLT, Int.reducePow, Int.reduceToNat, Int.reduceNeg, Int.reduceEq, List.reverse_singleton, List.getElem?_cons_zero, List.getElem?_cons_succ, Nat.reducePow, big, hw2], by simp only [evR, lkp, lput, Mine.bound, ownFirst, capture, freezeAll, freeze1, List.map_cons, List.map_nil, List.all_cons, List.all_nil, String.reduceBEq, ↓reduceIte, beq_self_eq_true, Option.isSome_some, Option.isSome_none, Nat.reduceBEq, List.length_cons, List.length_nil, Nat.reduceAdd, Nat.reduceLeDiff, Nat.reduceLT, Int.reduceLE, Int.reduceLT, Int.reducePow, Int.reduceToNat, Int.reduceNeg, Int.reduceEq, List.reverse_singleton, List.getElem?_cons_zero, List.getElem?_cons_succ, Nat.reducePow, big, S.asked], by simp only [evR, lkp, lput, Mine.bound, ownFirst, capture, freezeAll, freeze1, List.map_cons, List.map_nil, List.all_cons, List.all_nil, String.reduceBEq, ↓reduceIte, beq_self_eq_true, Option.isSome_some, Option.isSome_none, Nat.reduceBEq, List.length_cons, List.length_nil, Nat.reduceAdd, Nat.reduceLeDiff, Nat.reduceLT, Int.reduceLE, Int.reduceLT, Int.reducePow, Int.reduceToNat, Int.reduceNeg, Int.reduceEq, List.reverse_singleton, List.getElem?_cons_zero, List.getElem?_cons_succ, Nat.reducePow, big, S.level]⟩
          | false =>
            rw [hbu] at hau
            refine ⟨_, .inl (by simp only [evR, lkp, lput, Mine.bound, ownFirst, capture, freezeAll, freeze1, List.map_cons, List.map_nil, List.all_cons, List.all_nil, String.reduceBEq, ↓reduceIte, beq_self_eq_true, Option.isSome_some, Option.isSome_none, Nat.reduceBEq, List.length_cons, List.length_nil, Nat.reduceAdd, Nat.reduceLeDiff, Nat.reduceLT, Int.reduceLE, Int.reduceLT, Int.reducePow, Int.reduceToNat, Int.reduceNeg, Int.reduceEq, List.reverse_singleton, List.getElem?_cons_zero, List.getElem?_cons_succ, Nat.reducePow, big, mkStep, holdB, bindTgt.eq_def, bindAll, namesOf?, rowI, S.names, S.found, S.waiting, S.asked, S.level, hget, hpu, hdl, strsOf_toStrs2, hau]; rfl), ?_⟩
            have hw2 : (pre ++ [u]).filter hb = pre.filter hb := by simp [hbu]
            exact ⟨by simp only [evR, lkp, lput, Mine.bound, ownFirst, capture, freezeAll, freeze1, List.map_cons, List.map_nil, List.all_cons, List.all_nil, String.reduceBEq, ↓reduceIte, beq_self_eq_true, Option.isSome_some, Option.isSome_none, Nat.reduceBEq, List.length_cons, List.length_nil, Nat.reduceAdd, Nat.reduceLeDiff, Nat.reduceLT, Int.reduceLE, Int.reduceLT, Int.reducePow, Int.reduceToNat, Int.reduceNeg, Int.reduceEq, List.reverse_singleton, List.getElem?_cons_zero, List.getElem?_cons_succ, Nat.reducePow, big, S.names], by simp only [evR, lkp, lput, Mine.bound, ownFirst, capture, freezeAll, freeze1, List.map_cons, List.map_nil, List.all_cons, List.all_nil, String.reduceBEq, ↓reduceIte, beq_self_eq_true, Option.isSome_some, Option.isSome_none, Nat.reduceBEq, List.length_cons, List.length_nil, Nat.reduceAdd, Nat.reduceLeDiff, Nat.reduceLT, Int.reduceLE, Int.reduceLT, Int.reducePow, Int.reduceToNat, Int.reduceNeg, Int.reduceEq, List.reverse_singleton, List.getElem?_cons_zero, List.getElem?_cons_succ, Nat.reducePow, big, hput, hdic], by simp only [evR, lkp, lput, Mine.bound, ownFirst, capture, freezeAll, freeze1, List.map_cons, List.map_nil, List.all_cons, List.all_nil, String.reduceBEq, ↓reduceIte, beq_self_eq_true, Option.isSome_some, Option.isSome_none, Nat.reduceBEq, List.length_cons, List.length_nil, Nat.reduceAdd, Nat.reduceLeDiff, Nat.reduceLT, Int.reduceLE, Int.reduceLT, Int.reducePow, Int.reduceToNat, Int.reduceNeg, Int.reduceEq, List.reverse_singleton, List.getElem?_cons_zero, List.getElem?_cons_succ, Nat.reducePow, big, hw2, S.waiting], by simp only [evR, lkp, lput, Mine.bound, ownFirst, capture, freezeAll, freeze1, List.map_cons, List.map_nil, List.all_cons, List.all_nil, String.reduceBEq, ↓reduceIte, beq_self_eq_true, Option.isSome_some, Option.isSome_none, Nat.reduceBEq, List.length_cons, List.length_nil, Nat.reduceAdd, Nat.reduceLeDiff, Nat.reduceLT, Int.reduceLE, Int.reduceLT, Int.reducePow, Int.reduceToNat, Int.reduceNeg, Int.reduceEq, List.reverse_singleton, List.getElem?_cons_zero, List.getElem?_cons_succ, Nat.reducePow, big, S.asked], by simp only [evR, lkp, lput, Mine.bound, ownFirst, capture, freezeAll, freeze1, List.map_cons, List.map_nil, List.all_cons, List.all_nil, String.reduceBEq, ↓reduceIte, beq_self_eq_true, Option.isSome_some, Option.isSome_none, Nat.reduceBEq, List.length_cons, List.length_nil, Nat.reduceAdd, Nat.reduceLeDiff, Nat.reduceLT, Int.reduceLE, Int.reduceLT, Int.reducePow, Int.reduceToNat, Int.reduceNeg, Int.reduceEq, List.reverse_singleton, List.getElem?_cons_zero, List.getElem?_cons_succ, Nat.reducePow, big, S.level]⟩
    have loop : ∀ (k m : Nat) (W G : List Nat) (a : Int) (l : Loc), levI kids hb k W G = some F → k ≤ m → a + k ≤ 31 → W.length ≤ G.length + 1 → (∀ u ∈ G, u ∈ I) → Ls N nm lv att G W a l →
        ∃ l', whileLoop test body m l = some (.next, l') ∧ lkp "found" l' = some (.own (.m (dictI nm att F))) := by
      intro k
      induction k with
      | zero => intro m W G a l h; simp [levI] at h
      | succ k ih =>
        intro m W G a l h hm ha hW hG S
        obtain ⟨m, rfl⟩ : ∃ m', m = m' + 1 := ⟨m - 1, by omega⟩
        cases W with
        | nil =>
          rw [levI] at h
          cases h
          exact ⟨l, while_false (test_f _ _ _ S), S.found⟩
        | cons i W =>
          rw [levI] at h
          split at h
          · cases h
          · rename_i u r hk2
            rw [← hk2] at h
            obtain ⟨t, ht⟩ := levI_pre kids hb k _ _ _ h
            have hk0 : k ≠ 0 := by rintro rfl; simp [levI] at h
            have hne : kids i ≠ [] := by rw [hk2]; simp
            have hlen := congrArg List.length ht
            simp only [List.length_append] at hlen
            simp only [List.length_cons] at hW
            have hnd2 : (G ++ kids i).Nodup := by rw [ht] at hnd; exact (List.nodup_append.mp hnd).1
            obtain ⟨l', e, S'⟩ := body_t i W G a l hne (by omega) (by omega) (by omega) hnd2 hG S
            have hfl := List.length_filter_le hb (kids i)
            obtain ⟨l2, e2, hf2⟩ := ih m _ _ (a + 1) l' h (by omega) (by omega) (by simp only [List.length_append]; omega) (fun v hv => (List.mem_append.mp hv).elim (hG v) (hk i v)) S'
            exact ⟨l2, while_true (test_t i W G a l (by omega) S) e e2, hf2⟩
    exact loop 31 turnsMost [0] [] 0 _ hF (by decide) (by decide) (by simp) (by simp) ⟨by simp only [evR, lkp, lput, Mine.bound, ownFirst, capture, freezeAll, freeze1, List.map_cons, List.map_nil, List.all_cons, List.all_nil, String.reduceBEq, ↓reduceIte, beq_self_eq_true, Option.isSome_some, Option.isSome_none, Nat.reduceBEq, List.length_cons, List.length_nil, Nat.reduceAdd, Nat.reduceLeDiff, Nat.reduceLT, Int.reduceLE, Int.reduceLT, Int.reducePow, Int.reduceToNat, Int.reduceNeg, Int.reduceEq, List.reverse_singleton, List.getElem?_cons_zero, List.getElem?_cons_succ, Nat.reducePow, big], by simp only [evR, lkp, lput, Mine.bound, ownFirst, capture, freezeAll, freeze1, List.map_cons, List.map_nil, List.all_cons, List.all_nil, String.reduceBEq, ↓reduceIte, beq_self_eq_true, Option.isSome_some, Option.isSome_none, Nat.reduceBEq, List.length_cons, List.length_nil, Nat.reduceAdd, Nat.reduceLeDiff, Nat.reduceLT, Int.reduceLE, Int.reduceLT, Int.reducePow, Int.reduceToNat, Int.reduceNeg, Int.reduceEq, List.reverse_singleton, List.getElem?_cons_zero, List.getElem?_cons_succ, Nat.reducePow, big, dictI, List.map_nil], by simp only [evR, lkp, lput, Mine.bound, ownFirst, capture, freezeAll, freeze1, List.map_cons, List.map_nil, List.all_cons, List.all_nil, String.reduceBEq, ↓reduceIte, beq_self_eq_true, Option.isSome_some, Option.isSome_none, Nat.reduceBEq, List.length_cons, List.length_nil, Nat.reduceAdd, Nat.reduceLeDiff, Nat.reduceLT, Int.reduceLE, Int.reduceLT, Int.reducePow, Int.reduceToNat, Int.reduceNeg, Int.reduceEq, List.reverse_singleton, List.getElem?_cons_zero, List.getElem?_cons_succ, Nat.reducePow, big, List.map_cons, List.map_nil, h0], by simp only [evR, lkp, lput, Mine.bound, ownFirst, capture, freezeAll, freeze1, List.map_cons, List.map_nil, List.all_cons, List.all_nil, String.reduceBEq, ↓reduceIte, beq_self_eq_true, Option.isSome_some, Option.isSome_none, Nat.reduceBEq, List.length_cons, List.length_nil, Nat.reduceAdd, Nat.reduceLeDiff, Nat.reduceLT, Int.reduceLE, Int.reduceLT, Int.reducePow, Int.reduceToNat, Int.reduceNeg, Int.reduceEq, List.reverse_singleton, List.getElem?_cons_zero, List.getElem?_cons_succ, Nat.reducePow, big]⟩
end Mine
end

section
open PySem
namespace Mine
set_option maxRecDepth 100000
set_option Elab.async false
set_option linter.unusedSimpArgs false
noncomputable def srcM (cells : List Int) (t : Nat) (x : Int) : List (Str × PyData) := [("cells", .list (cells.map .int)), ("turn", .int t), ("mixed", .int x)]
theorem fmod_range (a b : Int) (h : 0 < b) : 0 ≤ a.fmod b ∧ a.fmod b < b := ⟨Int.fmod_nonneg_of_pos _ h, Int.fmod_lt_of_pos _ h⟩
noncomputable def begT (t c : Int) : Int := (t * 3 + c).fmod 1000003
theorem begT_range : ∀ (M : List Int) (t : Int), 0 ≤ t ∧ t < 1000003 → 0 ≤ M.foldl begT t ∧ M.foldl begT t < 1000003
  | [], _, h => h
  | _ :: M, _, _ => begT_range M _ (fmod_range _ _ (by decide))
structure Bs (M : List Int) (t : Int) (l : Loc) : Prop where
  cells : lkp "cells" l = some (.val (.d (.list (M.map .int))))
  total : lkp "total" l = some (.val (.d (.int t)))
theorem begun_c (C : Oracle) (ns : List Int) (hns : ns.length ≤ 63) : callBody C (theD 13) [.d (.list (ns.map .int))] = some ⟨.m (srcM (ns.take 40) 0 ((ns.take 40).foldl begT 0 + 1)), true, none⟩ := by
  refine callBody_runs (d := theD 13) rfl (by kernel_rfl) ?_
  conv => arg 4; whnf
  have hlen : (ns.take 40).length ≤ 10000 := by rw [List.length_take]; omega
  have hn : ns.length ≤ 10000 := by omega
  refine runs_next (l1 := lput "cells" (.val (.d (.list ((ns.take 40).map .int)))) [("script", .val (.d (.list (ns.map .int))))]) (set_comp rfl ?_) ?_
  · refine comp_ok (cap := []) (lc := []) (items := (ns.take 40).map .int) (x := .d (.list ((ns.take 40).map .int))) (l1 := [("script", .val (.d (.list (ns.map .int))))]) ?c1 ?c2 ?c3 ?c4 ?c5 ?c6 ?c7 (by rw [List.length_map]; exact hlen)
    case c1 => decide +kernel
    case c2 => rfl
    case c3 => simp only [evR, lkp, lput, Mine.bound, ownFirst, capture, freezeAll, freeze1, List.map_cons, List.map_nil, List.all_cons, List.all_nil, String.reduceBEq, ↓reduceIte, beq_self_eq_true, Option.isSome_some, Option.isSome_none, Nat.reduceBEq, List.length_cons, List.length_nil, Nat.reduceAdd, Nat.reduceLeDiff, Nat.reduceLT, Int.reduceLE, Int.reduceLT, Int.reducePow, Int.reduceToNat, Int.reduceNeg, Int.reduceEq, List.reverse_singleton, List.getElem?_cons_zero, List.getElem?_cons_succ, Nat.reducePow, big]
    case c4 => simp only [evR, lkp, lput, Mine.bound, ownFirst, capture, freezeAll, freeze1, List.map_cons, List.map_nil, List.all_cons, List.all_nil, String.reduceBEq, ↓reduceIte, beq_self_eq_true, Option.isSome_some, Option.isSome_none, Nat.reduceBEq, List.length_cons, List.length_nil, Nat.reduceAdd, Nat.reduceLeDiff, Nat.reduceLT, Int.reduceLE, Int.reduceLT, Int.reducePow, Int.reduceToNat, Int.reduceNeg, Int.reduceEq, List.reverse_singleton, List.getElem?_cons_zero, List.getElem?_cons_succ, Nat.reducePow, big, List.length_map, hn, List.map_take, Int.reduceToNat]
    case c5 => simp only [evR, lkp, lput, Mine.bound, ownFirst, capture, freezeAll, freeze1, List.map_cons, List.map_nil, List.all_cons, List.all_nil, String.reduceBEq, ↓reduceIte, beq_self_eq_true, Option.isSome_some, Option.isSome_none, Nat.reduceBEq, List.length_cons, List.length_nil, Nat.reduceAdd, Nat.reduceLeDiff, Nat.reduceLT, Int.reduceLE, Int.reduceLT, Int.reducePow, Int.reduceToNat, Int.reduceNeg, Int.reduceEq, List.reverse_singleton, List.getElem?_cons_zero, List.getElem?_cons_succ, Nat.reducePow, big]
    case c6 => simp only [evR, lkp, lput, Mine.bound, ownFirst, capture, freezeAll, freeze1, List.map_cons, List.map_nil, List.all_cons, List.all_nil, String.reduceBEq, ↓reduceIte, beq_self_eq_true, Option.isSome_some, Option.isSome_none, Nat.reduceBEq, List.length_cons, List.length_nil, Nat.reduceAdd, Nat.reduceLeDiff, Nat.reduceLT, Int.reduceLE, Int.reduceLT, Int.reducePow, Int.reduceToNat, Int.reduceNeg, Int.reduceEq, List.reverse_singleton, List.getElem?_cons_zero, List.getElem?_cons_succ, Nat.reducePow, big]
    case c7 =>
      generalize hstep : mkComp _ _ _ _ = step
      have key := comp_map (step := step) (fun _ => True) .int .int (ns.take 40) [] [] ?turn trivial
      · rw [key]; rfl
      case turn =>
        intro u hu l S
        rw [← hstep]
        exact ⟨_, by simp only [evR, lkp, lput, Mine.bound, ownFirst, capture, freezeAll, freeze1, List.map_cons, List.map_nil, List.all_cons, List.all_nil, String.reduceBEq, ↓reduceIte, beq_self_eq_true, Option.isSome_some, Option.isSome_none, Nat.reduceBEq, List.length_cons, List.length_nil, Nat.reduceAdd, Nat.reduceLeDiff, Nat.reduceLT, Int.reduceLE, Int.reduceLT, Int.reducePow, Int.reduceToNat, Int.reduceNeg, Int.reduceEq, List.reverse_singleton, List.getElem?_cons_zero, List.getElem?_cons_succ, Nat.reducePow, big, mkComp, holdE, holdEs, bindTgt.eq_def, bindAll]; rfl, trivial⟩
  generalize ns.take 40 = M at *
  refine runs_next (by simp only [evR, lkp, lput, Mine.bound, ownFirst, capture, freezeAll, freeze1, List.map_cons, List.map_nil, List.all_cons, List.all_nil, String.reduceBEq, ↓reduceIte, beq_self_eq_true, Option.isSome_some, Option.isSome_none, Nat.reduceBEq, List.length_cons, List.length_nil, Nat.reduceAdd, Nat.reduceLeDiff, Nat.reduceLT, Int.reduceLE, Int.reduceLT, Int.reducePow, Int.reduceToNat, Int.reduceNeg, Int.reduceEq, List.reverse_singleton, List.getElem?_cons_zero, List.getElem?_cons_succ, Nat.reducePow, big]; rfl) ?_
  refine runs_ex (Bs M (M.foldl begT 0)) ?w1 fun l1 S1 => ?w2
  case w1 =>
    simp only [evR, lkp, lput, Mine.bound, ownFirst, capture, freezeAll, freeze1, List.map_cons, List.map_nil, List.all_cons, List.all_nil, String.reduceBEq, ↓reduceIte, beq_self_eq_true, Option.isSome_some, Option.isSome_none, Nat.reduceBEq, List.length_cons, List.length_nil, Nat.reduceAdd, Nat.reduceLeDiff, Nat.reduceLT, Int.reduceLE, Int.reduceLT, Int.reducePow, Int.reduceToNat, Int.reduceNeg, Int.reduceEq, List.reverse_singleton, List.getElem?_cons_zero, List.getElem?_cons_succ, Nat.reducePow, big]
    generalize hstep : mkStep _ _ _ = step
    refine for_map (step := step) .int (fun pre l => Bs M (pre.foldl begT 0) l) M [] M rfl ?_ _ ⟨by simp only [evR, lkp, lput, Mine.bound, ownFirst, capture, freezeAll, freeze1, List.map_cons, List.map_nil, List.all_cons, List.all_nil, String.reduceBEq, ↓reduceIte, beq_self_eq_true, Option.isSome_some, Option.isSome_none, Nat.reduceBEq, List.length_cons, List.length_nil, Nat.reduceAdd, Nat.reduceLeDiff, Nat.reduceLT, Int.reduceLE, Int.reduceLT, Int.reducePow, Int.reduceToNat, Int.reduceNeg, Int.reduceEq, List.reverse_singleton, List.getElem?_cons_zero, List.getElem?_cons_succ, Nat.reducePow, big], by simp only [evR, lkp, lput, Mine.bound, ownFirst, capture, freezeAll, freeze1, List.map_cons, List.map_nil, List.all_cons, List.all_nil, String.reduceBEq, ↓reduceIte, beq_self_eq_true, Option.isSome_some, Option.isSome_none, Nat.reduceBEq, List.length_cons, List.length_nil, Nat.reduceAdd, Nat.reduceLeDiff, Nat.reduceLT, Int.reduceLE, Int.reduceLT, Int.reducePow, Int.reduceToNat, Int.reduceNeg, Int.reduceEq, List.reverse_singleton, List.getElem?_cons_zero, List.getElem?_cons_succ, Nat.reducePow, big]; rfl⟩
    intro pre x post hs l S
    have hr := begT_range pre 0 (by decide)
    rw [List.foldl_append, List.foldl_cons, List.foldl_nil]
    generalize pre.foldl begT 0 = t at *
    have h1 : t.natAbs < 2 ^ 62 := by omega
    have h2 : (3 : Int).natAbs < 2 ^ 62 := by decide
    have h3 : (0 : Int) < 1000003 := by decide
    exact ⟨_, .inl (by rw [← hstep]; simp only [evR, lkp, lput, Mine.bound, ownFirst, capture, freezeAll, freeze1, List.map_cons, List.map_nil, List.all_cons, List.all_nil, String.reduceBEq, ↓reduceIte, beq_self_eq_true, Option.isSome_some, Option.isSome_none, Nat.reduceBEq, List.length_cons, List.length_nil, Nat.reduceAdd, Nat.reduceLeDiff, Nat.reduceLT, Int.reduceLE, Int.reduceLT, Int.reducePow, Int.reduceToNat, Int.reduceNeg, Int.reduceEq, List.reverse_singleton, List.getElem?_cons_zero, List.getElem?_cons_succ, Nat.reducePow, big, mkStep, holdB, bindTgt.eq_def, bindAll, S.cells, S.total, h1, h2, h3]; rfl), ⟨by simp only [evR, lkp, lput, Mine.bound, ownFirst, capture, freezeAll, freeze1, List.map_cons, List.map_nil, List.all_cons, List.all_nil, String.reduceBEq, ↓reduceIte, beq_self_eq_true, Option.isSome_some, Option.isSome_none, Nat.reduceBEq, List.length_cons, List.length_nil, Nat.reduceAdd, Nat.reduceLeDiff, Nat.reduceLT, Int.reduceLE, Int.reduceLT, Int.reducePow, Int.reduceToNat, Int.reduceNeg, Int.reduceEq, List.reverse_singleton, List.getElem?_cons_zero, List.getElem?_cons_succ, Nat.reducePow, big, S.cells], by simp only [evR, lkp, lput, Mine.bound, ownFirst, capture, freezeAll, freeze1, List.map_cons, List.map_nil, List.all_cons, List.all_nil, String.reduceBEq, ↓reduceIte, beq_self_eq_true, Option.isSome_some, Option.isSome_none, Nat.reduceBEq, List.length_cons, List.length_nil, Nat.reduceAdd, Nat.reduceLeDiff, Nat.reduceLT, Int.reduceLE, Int.reduceLT, Int.reducePow, Int.reduceToNat, Int.reduceNeg, Int.reduceEq, List.reverse_singleton, List.getElem?_cons_zero, List.getElem?_cons_succ, Nat.reducePow, big]; rfl⟩⟩
  exact runs_ret (by simp only [evR, lkp, lput, Mine.bound, ownFirst, capture, freezeAll, freeze1, List.map_cons, List.map_nil, List.all_cons, List.all_nil, String.reduceBEq, ↓reduceIte, beq_self_eq_true, Option.isSome_some, Option.isSome_none, Nat.reduceBEq, List.length_cons, List.length_nil, Nat.reduceAdd, Nat.reduceLeDiff, Nat.reduceLT, Int.reduceLE, Int.reduceLT, Int.reducePow, Int.reduceToNat, Int.reduceNeg, Int.reduceEq, List.reverse_singleton, List.getElem?_cons_zero, List.getElem?_cons_succ, Nat.reducePow, big, S1.cells, S1.total]; rfl)
theorem mx_range {x : Int} {t : Nat} : 0 ≤ (x * 69621 + t).fmod 2147483647 ∧ (x * 69621 + t).fmod 2147483647 ≤ 2147483647 := by
  have := fmod_range (x * 69621 + t) 2147483647 (by decide)
  omega
noncomputable def nxM (t : Nat) (x : Int) : Int := (x * 69621 + t).fmod 2147483647
theorem callBody_io {C : Oracle} {d : Def} {args : List AV} {l0 l1 : Loc} {x : Str} {r : List Str} {v v1 : AV} (hb : bindArgsV (argNames d.params.args) args = some l0) (hio : isInout d.name = true) (hx : argNames d.params.args = x :: r) (he : evSs C d.scope 60 d.body (ownFirst l0) = some (.ret v false, l1)) (hl : lkp x l1 = some (.own v1)) : callBody C d args = some ⟨v, false, some v1⟩ := by
  unfold callBody
  rw [hb]
  dsimp only
  rw [hio]
  simp only [if_true]
  show (match evSs C d.scope 60 d.body (ownFirst l0) with | some (.ret v b, l1) => _ | _ => none) = _
  rw [he, hx]
  dsimp only
  rw [hl]
theorem ev_ret_bin {a op b p q C sc n l v l1} (h : evE C sc n (.BinOp a op b p) l = some (v, l1)) : evS C sc (n + 1) (.Return (some (.BinOp a op b p)) q) l = some (.ret v false, l1) := by
  rw [evS]; simp only [stS.eq_def, evV.eq_def, h]
theorem ev_bin {a op b p C sc n l x l1 y l2 v} (h : evE C sc n a l = some (x, l1)) (h1 : evB C sc n b l1 = some (y, l2)) (h2 : binV op x y = some v) : evE C sc (n + 1) (.BinOp a op b p) l = some (v, l2) := by
  rw [evE]; simp only [stE.eq_def, h, h1, h2]
theorem ev_if_t {e b o p C sc n l q} (h : evT C sc n e l = some (true, l)) (h' : evSs C sc n b l = q) : evS C sc (n + 1) (.If e b o p) l = q := by
  rw [evS]; simp only [stS.eq_def, h, h']
theorem ev_sub_sub {b0 i0 p0 i p C sc n l v l1 j l2 r} (h : evE C sc n (.Subscript b0 i0 p0) l = some (v, l1)) (h1 : evI C sc n i l1 = some (j, l2)) (h2 : subV v j = some r) : evE C sc (n + 1) (.Subscript (.Subscript b0 i0 p0) i p) l = some (.d r, l2) := by
  rw [evE]; simp only [stE.eq_def, h, h1, h2]
theorem subV_at {M : List PyData} {t : Nat} {r : PyData} (h : t < 10000) (h2 : M[t]? = some r) : subV (.d (.list M)) (.at (.int t)) = some r := by
  have h5 : (0 : Int) ≤ (t : Int) ∧ (t : Int) < 2 ^ 62 := by omega
  simp only [subV, itemV, h5, and_self, if_true, Int.toNat_natCast, h2]
theorem next_c1 (C : Oracle) (cells : List Int) (h6 : cells.length ≤ 10000) (t : Nat) (x : Int) (h1 : x.natAbs < 2 ^ 62) (h2 : (69621 : Int).natAbs < 2 ^ 62) (h3 : (0 : Int) < 2147483647) (lim : Int) (hl : 0 < lim)
    (h5 : (0 : Int) ≤ (t : Int) ∧ (t : Int) < 10000) (h7 : ((t : Nat) : Int) + 1 = ((t + 1 : Nat) : Int)) (c : Int) (hc' : decide ((t : Int) < (cells.length : Int)) = true) (hg : (cells.map PyData.int)[t]? = some (.int c)) :
    callBody C (theD 14) [.m (srcM cells t x), .d (.int lim)] = some ⟨.d (.int (c.fmod lim)), false, some (.m (srcM cells (t + 1) (nxM t x)))⟩ := by
  have hb : bindArgsV ["source", "limit"] [.m (srcM cells t x), .d (.int lim)] = some ([("source", .val (.m (srcM cells t x))), ("limit", .val (.d (.int lim)))] : Loc) := rfl
  refine callBody_io (d := theD 14) hb (by kernel_rfl) (x := "source") (r := ["limit"]) rfl (l1 := ([("source", .own (.m (srcM cells (t + 1) (nxM t x)))), ("limit", .val (.d (.int lim))), ("turn", .val (.d (.int t)))] : Loc)) ?_ ?_
  · conv => lhs; arg 4; whnf
    refine evSs_next (by simp only [evR, lkp, lput, Mine.bound, ownFirst, capture, freezeAll, freeze1, List.map_cons, List.map_nil, List.all_cons, List.all_nil, String.reduceBEq, ↓reduceIte, beq_self_eq_true, Option.isSome_some, Option.isSome_none, Nat.reduceBEq, List.length_cons, List.length_nil, Nat.reduceAdd, Nat.reduceLeDiff, Nat.reduceLT, Int.reduceLE, Int.reduceLT, Int.reducePow, Int.reduceToNat, Int.reduceNeg, Int.reduceEq, List.reverse_singleton, List.getElem?_cons_zero, List.getElem?_cons_succ, Nat.reducePow, big, srcM, kget]; rfl) ?_
    refine evSs_next (by simp only [evR, lkp, lput, Mine.bound, ownFirst, capture, freezeAll, freeze1, List.map_cons, List.map_nil, List.all_cons, List.all_nil, String.reduceBEq, ↓reduceIte, beq_self_eq_true, Option.isSome_some, Option.isSome_none, Nat.reduceBEq, List.length_cons, List.length_nil, Nat.reduceAdd, Nat.reduceLeDiff, Nat.reduceLT, Int.reduceLE, Int.reduceLT, Int.reducePow, Int.reduceToNat, Int.reduceNeg, Int.reduceEq, List.reverse_singleton, List.getElem?_cons_zero, List.getElem?_cons_succ, Nat.reducePow, big, srcM, kget, kput, h7]; rfl) ?_
    refine evSs_next (by simp only [evR, lkp, lput, Mine.bound, ownFirst, capture, freezeAll, freeze1, List.map_cons, List.map_nil, List.all_cons, List.all_nil, String.reduceBEq, ↓reduceIte, beq_self_eq_true, Option.isSome_some, Option.isSome_none, Nat.reduceBEq, List.length_cons, List.length_nil, Nat.reduceAdd, Nat.reduceLeDiff, Nat.reduceLT, Int.reduceLE, Int.reduceLT, Int.reducePow, Int.reduceToNat, Int.reduceNeg, Int.reduceEq, List.reverse_singleton, List.getElem?_cons_zero, List.getElem?_cons_succ, Nat.reducePow, big, srcM, kget, kput, h1, h2, h3]; rfl) ?_
    generalize hl9 : ([_, _, _] : Loc) = l9
    have S1 : lkp "source" l9 = some (.own (.m (srcM cells (t + 1) (nxM t x)))) := by subst hl9; simp only [evR, lkp, lput, Mine.bound, ownFirst, capture, freezeAll, freeze1, List.map_cons, List.map_nil, List.all_cons, List.all_nil, String.reduceBEq, ↓reduceIte, beq_self_eq_true, Option.isSome_some, Option.isSome_none, Nat.reduceBEq, List.length_cons, List.length_nil, Nat.reduceAdd, Nat.reduceLeDiff, Nat.reduceLT, Int.reduceLE, Int.reduceLT, Int.reducePow, Int.reduceToNat, Int.reduceNeg, Int.reduceEq, List.reverse_singleton, List.getElem?_cons_zero, List.getElem?_cons_succ, Nat.reducePow, big, srcM, nxM]
    have S2 : lkp "limit" l9 = some (.val (.d (.int lim))) := by subst hl9; simp only [evR, lkp, lput, Mine.bound, ownFirst, capture, freezeAll, freeze1, List.map_cons, List.map_nil, List.all_cons, List.all_nil, String.reduceBEq, ↓reduceIte, beq_self_eq_true, Option.isSome_some, Option.isSome_none, Nat.reduceBEq, List.length_cons, List.length_nil, Nat.reduceAdd, Nat.reduceLeDiff, Nat.reduceLT, Int.reduceLE, Int.reduceLT, Int.reducePow, Int.reduceToNat, Int.reduceNeg, Int.reduceEq, List.reverse_singleton, List.getElem?_cons_zero, List.getElem?_cons_succ, Nat.reducePow, big]
    have S3 : lkp "turn" l9 = some (.val (.d (.int t))) := by subst hl9; simp only [evR, lkp, lput, Mine.bound, ownFirst, capture, freezeAll, freeze1, List.map_cons, List.map_nil, List.all_cons, List.all_nil, String.reduceBEq, ↓reduceIte, beq_self_eq_true, Option.isSome_some, Option.isSome_none, Nat.reduceBEq, List.length_cons, List.length_nil, Nat.reduceAdd, Nat.reduceLeDiff, Nat.reduceLT, Int.reduceLE, Int.reduceLT, Int.reducePow, Int.reduceToNat, Int.reduceNeg, Int.reduceEq, List.reverse_singleton, List.getElem?_cons_zero, List.getElem?_cons_succ, Nat.reducePow, big]
    have S4 : kget "cells" (srcM cells (t + 1) (nxM t x)) = some (.list (cells.map .int)) := by simp only [evR, lkp, lput, Mine.bound, ownFirst, capture, freezeAll, freeze1, List.map_cons, List.map_nil, List.all_cons, List.all_nil, String.reduceBEq, ↓reduceIte, beq_self_eq_true, Option.isSome_some, Option.isSome_none, Nat.reduceBEq, List.length_cons, List.length_nil, Nat.reduceAdd, Nat.reduceLeDiff, Nat.reduceLT, Int.reduceLE, Int.reduceLT, Int.reducePow, Int.reduceToNat, Int.reduceNeg, Int.reduceEq, List.reverse_singleton, List.getElem?_cons_zero, List.getElem?_cons_succ, Nat.reducePow, big, srcM, kget]
    have hl8 : l9 = ([("source", .own (.m (srcM cells (t + 1) (nxM t x)))), ("limit", .val (.d (.int lim))), ("turn", .val (.d (.int t)))] : Loc) := by rw [← hl9]; rfl
    rw [← hl8]
    clear hl8 hl9
    generalize srcM cells (t + 1) (nxM t x) = d at *
    have hm : (cells.map PyData.int).length = cells.length := List.length_map ..
    rw [← hm] at hc' h6
    clear hm
    generalize cells.map PyData.int = M at *
    refine evSs_ret (ev_if_t (by simp only [evR, lkp, lput, Mine.bound, ownFirst, capture, freezeAll, freeze1, List.map_cons, List.map_nil, List.all_cons, List.all_nil, String.reduceBEq, ↓reduceIte, beq_self_eq_true, Option.isSome_some, Option.isSome_none, Nat.reduceBEq, List.length_cons, List.length_nil, Nat.reduceAdd, Nat.reduceLeDiff, Nat.reduceLT, Int.reduceLE, Int.reduceLT, Int.reducePow, Int.reduceToNat, Int.reduceNeg, Int.reduceEq, List.reverse_singleton, List.getElem?_cons_zero, List.getElem?_cons_succ, Nat.reducePow, big, S1, S2, S3, S4, h6, hc']) (evSs_ret (ev_ret_bin (ev_bin (x := .d (.int c)) (ev_sub_sub (v := .d (.list M)) (l1 := l9) ?A0 (l2 := l9) (j := .at (.int t)) ?A1 ?A2) (y := .d (.int lim)) ?A3 ?A4))))
    case A0 => simp only [evR, lkp, lput, Mine.bound, ownFirst, capture, freezeAll, freeze1, List.map_cons, List.map_nil, List.all_cons, List.all_nil, String.reduceBEq, ↓reduceIte, beq_self_eq_true, Option.isSome_some, Option.isSome_none, Nat.reduceBEq, List.length_cons, List.length_nil, Nat.reduceAdd, Nat.reduceLeDiff, Nat.reduceLT, Int.reduceLE, Int.reduceLT, Int.reducePow, Int.reduceToNat, Int.reduceNeg, Int.reduceEq, List.reverse_singleton, List.getElem?_cons_zero, List.getElem?_cons_succ, Nat.reducePow, big, S1, S4]
    case A1 => simp only [evR, lkp, lput, Mine.bound, ownFirst, capture, freezeAll, freeze1, List.map_cons, List.map_nil, List.all_cons, List.all_nil, String.reduceBEq, ↓reduceIte, beq_self_eq_true, Option.isSome_some, Option.isSome_none, Nat.reduceBEq, List.length_cons, List.length_nil, Nat.reduceAdd, Nat.reduceLeDiff, Nat.reduceLT, Int.reduceLE, Int.reduceLT, Int.reducePow, Int.reduceToNat, Int.reduceNeg, Int.reduceEq, List.reverse_singleton, List.getElem?_cons_zero, List.getElem?_cons_succ, Nat.reducePow, big, S3]
    case A2 => exact subV_at (by omega) hg
    case A3 => simp only [evR, lkp, lput, Mine.bound, ownFirst, capture, freezeAll, freeze1, List.map_cons, List.map_nil, List.all_cons, List.all_nil, String.reduceBEq, ↓reduceIte, beq_self_eq_true, Option.isSome_some, Option.isSome_none, Nat.reduceBEq, List.length_cons, List.length_nil, Nat.reduceAdd, Nat.reduceLeDiff, Nat.reduceLT, Int.reduceLE, Int.reduceLT, Int.reducePow, Int.reduceToNat, Int.reduceNeg, Int.reduceEq, List.reverse_singleton, List.getElem?_cons_zero, List.getElem?_cons_succ, Nat.reducePow, big, S2]
    case A4 => simp only [evR, lkp, lput, Mine.bound, ownFirst, capture, freezeAll, freeze1, List.map_cons, List.map_nil, List.all_cons, List.all_nil, String.reduceBEq, ↓reduceIte, beq_self_eq_true, Option.isSome_some, Option.isSome_none, Nat.reduceBEq, List.length_cons, List.length_nil, Nat.reduceAdd, Nat.reduceLeDiff, Nat.reduceLT, Int.reduceLE, Int.reduceLT, Int.reducePow, Int.reduceToNat, Int.reduceNeg, Int.reduceEq, List.reverse_singleton, List.getElem?_cons_zero, List.getElem?_cons_succ, Nat.reducePow, big, hl]
  · simp only [evR, lkp, lput, Mine.bound, ownFirst, capture, freezeAll, freeze1, List.map_cons, List.map_nil, List.all_cons, List.all_nil, String.reduceBEq, ↓reduceIte, beq_self_eq_true, Option.isSome_some, Option.isSome_none, Nat.reduceBEq, List.length_cons, List.length_nil, Nat.reduceAdd, Nat.reduceLeDiff, Nat.reduceLT, Int.reduceLE, Int.reduceLT, Int.reducePow, Int.reduceToNat, Int.reduceNeg, Int.reduceEq, List.reverse_singleton, List.getElem?_cons_zero, List.getElem?_cons_succ, Nat.reducePow, big]
theorem next_c2 (C : Oracle) (cells : List Int) (h6 : cells.length ≤ 10000) (t : Nat) (x : Int) (h1 : x.natAbs < 2 ^ 62) (h2 : (69621 : Int).natAbs < 2 ^ 62) (h3 : (0 : Int) < 2147483647) (h4 : (0 : Int) < 11 ∧ (11 : Int) < 1073741824) (lim : Int) (hl : 0 < lim)
    (h7 : ((t : Nat) : Int) + 1 = ((t + 1 : Nat) : Int)) (hc' : decide ((t : Int) < (cells.length : Int)) = false) :
    callBody C (theD 14) [.m (srcM cells t x), .d (.int lim)] = some ⟨.d (.int (((nxM t x).fdiv 11).fmod lim)), false, some (.m (srcM cells (t + 1) (nxM t x)))⟩ := by
  have hb : bindArgsV ["source", "limit"] [.m (srcM cells t x), .d (.int lim)] = some ([("source", .val (.m (srcM cells t x))), ("limit", .val (.d (.int lim)))] : Loc) := rfl
  refine callBody_io (d := theD 14) hb (by kernel_rfl) (x := "source") (r := ["limit"]) rfl (l1 := ([("source", .own (.m (srcM cells (t + 1) (nxM t x)))), ("limit", .val (.d (.int lim))), ("turn", .val (.d (.int t)))] : Loc)) ?_ ?_
  · conv => lhs; arg 4; whnf
    refine evSs_next (by simp only [evR, lkp, lput, Mine.bound, ownFirst, capture, freezeAll, freeze1, List.map_cons, List.map_nil, List.all_cons, List.all_nil, String.reduceBEq, ↓reduceIte, beq_self_eq_true, Option.isSome_some, Option.isSome_none, Nat.reduceBEq, List.length_cons, List.length_nil, Nat.reduceAdd, Nat.reduceLeDiff, Nat.reduceLT, Int.reduceLE, Int.reduceLT, Int.reducePow, Int.reduceToNat, Int.reduceNeg, Int.reduceEq, List.reverse_singleton, List.getElem?_cons_zero, List.getElem?_cons_succ, Nat.reducePow, big, srcM, kget]; rfl) ?_
    refine evSs_next (by simp only [evR, lkp, lput, Mine.bound, ownFirst, capture, freezeAll, freeze1, List.map_cons, List.map_nil, List.all_cons, List.all_nil, String.reduceBEq, ↓reduceIte, beq_self_eq_true, Option.isSome_some, Option.isSome_none, Nat.reduceBEq, List.length_cons, List.length_nil, Nat.reduceAdd, Nat.reduceLeDiff, Nat.reduceLT, Int.reduceLE, Int.reduceLT, Int.reducePow, Int.reduceToNat, Int.reduceNeg, Int.reduceEq, List.reverse_singleton, List.getElem?_cons_zero, List.getElem?_cons_succ, Nat.reducePow, big, srcM, kget, kput, h7]; rfl) ?_
    refine evSs_next (by simp only [evR, lkp, lput, Mine.bound, ownFirst, capture, freezeAll, freeze1, List.map_cons, List.map_nil, List.all_cons, List.all_nil, String.reduceBEq, ↓reduceIte, beq_self_eq_true, Option.isSome_some, Option.isSome_none, Nat.reduceBEq, List.length_cons, List.length_nil, Nat.reduceAdd, Nat.reduceLeDiff, Nat.reduceLT, Int.reduceLE, Int.reduceLT, Int.reducePow, Int.reduceToNat, Int.reduceNeg, Int.reduceEq, List.reverse_singleton, List.getElem?_cons_zero, List.getElem?_cons_succ, Nat.reducePow, big, srcM, kget, kput, h1, h2, h3]; rfl) ?_
    refine evSs_next (by simp only [evR, lkp, lput, Mine.bound, ownFirst, capture, freezeAll, freeze1, List.map_cons, List.map_nil, List.all_cons, List.all_nil, String.reduceBEq, ↓reduceIte, beq_self_eq_true, Option.isSome_some, Option.isSome_none, Nat.reduceBEq, List.length_cons, List.length_nil, Nat.reduceAdd, Nat.reduceLeDiff, Nat.reduceLT, Int.reduceLE, Int.reduceLT, Int.reducePow, Int.reduceToNat, Int.reduceNeg, Int.reduceEq, List.reverse_singleton, List.getElem?_cons_zero, List.getElem?_cons_succ, Nat.reducePow, big, srcM, kget, h6, List.length_map, hc']; rfl) ?_
    exact evSs_ret (by simp only [evR, lkp, lput, Mine.bound, ownFirst, capture, freezeAll, freeze1, List.map_cons, List.map_nil, List.all_cons, List.all_nil, String.reduceBEq, ↓reduceIte, beq_self_eq_true, Option.isSome_some, Option.isSome_none, Nat.reduceBEq, List.length_cons, List.length_nil, Nat.reduceAdd, Nat.reduceLeDiff, Nat.reduceLT, Int.reduceLE, Int.reduceLT, Int.reducePow, Int.reduceToNat, Int.reduceNeg, Int.reduceEq, List.reverse_singleton, List.getElem?_cons_zero, List.getElem?_cons_succ, Nat.reducePow, big, srcM, kget, h4, hl, nxM])
  · simp only [evR, lkp, lput, Mine.bound, ownFirst, capture, freezeAll, freeze1, List.map_cons, List.map_nil, List.all_cons, List.all_nil, String.reduceBEq, ↓reduceIte, beq_self_eq_true, Option.isSome_some, Option.isSome_none, Nat.reduceBEq, List.length_cons, List.length_nil, Nat.reduceAdd, Nat.reduceLeDiff, Nat.reduceLT, Int.reduceLE, Int.reduceLT, Int.reducePow, Int.reduceToNat, Int.reduceNeg, Int.reduceEq, List.reverse_singleton, List.getElem?_cons_zero, List.getElem?_cons_succ, Nat.reducePow, big]
theorem next_c (C : Oracle) (cells : List Int) (hcl : cells.length ≤ 63) (t : Nat) (ht : t < 100) (x : Int) (hx : 0 ≤ x ∧ x ≤ 2147483647) (lim : Int) (hl : 0 < lim) :
    ∃ (v y : Int), (0 ≤ v ∧ v < lim) ∧ (0 ≤ y ∧ y ≤ 2147483647) ∧ callBody C (theD 14) [.m (srcM cells t x), .d (.int lim)] = some ⟨.d (.int v), false, some (.m (srcM cells (t + 1) y))⟩ := by
  have h1 : x.natAbs < 2 ^ 62 := by omega
  by_cases hc : t < cells.length
  · exact ⟨_, nxM t x, fmod_range _ _ hl, mx_range, next_c1 C cells (by omega) t x h1 (by decide) (by decide) lim hl (by omega) rfl cells[t] (by simp; exact hc) (by simp [hc])⟩
  · exact ⟨_, nxM t x, fmod_range _ _ hl, mx_range, next_c2 C cells (by omega) t x h1 (by decide) (by decide) (by decide) lim hl rfl (by simp; omega)⟩
end Mine
end

section
open PySem
namespace Mine
set_option maxRecDepth 100000
set_option Elab.async false
set_option linter.unusedSimpArgs false
noncomputable def nmL : List (List Nat) := [[], [73, 78, 66, 79, 88], [73, 78, 66, 79, 88, 47, 102], [97], [97, 47, 99], [97, 47, 99, 47, 100], [97, 47, 103], [98], [98, 47, 101], [104], [104, 47, 105], [104, 47, 105, 47, 106], [107], [107, 47, 108], [107, 47, 108, 47, 109]]
noncomputable def parT : List (List Nat) := [[], [], [1], [], [3], [3, 4], [3], [], [7], [], [9], [9, 10], [], [12], [12, 13]]
noncomputable def kidT : List (List Nat) := [[1, 3, 7, 9, 12], [2], [], [4, 6], [5], [], [], [8], [], [10], [11], [], [13], [14], []]
noncomputable def belT : List (List Nat) := [[], [2], [], [4, 5, 6], [5], [], [], [8], [], [10, 11], [11], [], [13, 14], [14], []]
noncomputable def idx : List Nat := [1, 2, 3, 4, 5, 6, 7, 8, 9, 10, 11, 12, 13, 14]
noncomputable def real : List Nat := [1, 2, 3, 4, 5, 6, 7, 8, 10, 11, 14]
noncomputable def menuI : List Nat := [3, 7, 4, 5, 8, 2, 6, 10, 11, 14]
noncomputable def leadL : List (List Nat) := [[97], [97, 47], [104, 47, 105], [73, 78], [122], [98], []]
noncomputable def leadT : List (List Nat) := [[3, 4, 5, 6], [4, 5, 6], [10, 11], [1, 2], [], [7, 8], [1, 2, 3, 4, 5, 6, 7, 8, 10, 11, 14]]
noncomputable def nm (i : Nat) : Str := mkS (nmL.getD i [])
noncomputable def lv : Nat → Str
  | 0 => mkS []
  | i + 1 => mkS ((nm (i + 1)).cps.toList ++ [47])
noncomputable def isB (r : Option Res) (b : Bool) : Bool := match r with
  | some ⟨.d (.bool x), false, none⟩ => x == b
  | _ => false
noncomputable def listedAt (n : Nat) (w u : Str) (b : Bool) : Bool := isB (callBody (callEval n) (theD 8) [.d (.str w), .d (.str u)]) b
noncomputable def lead (k : Nat) : Str := mkS (leadL.getD k [])
theorem isB_eq {r : Option Res} {b : Bool} (h : isB r b = true) : r = some ⟨.d (.bool b), false, none⟩ := by
  unfold isB at h
  split at h
  · simp only [beq_iff_eq] at h; subst h; rfl
  · cases h
theorem li0 : idx.all (fun u => listedAt 4 (mkS ((lv 0).cps.toList ++ [37])) (nm u) ((kidT.getD 0 []).contains u)) = true := by decide +kernel
theorem li1 : idx.all (fun u => listedAt 4 (mkS ((lv 1).cps.toList ++ [37])) (nm u) ((kidT.getD 1 []).contains u)) = true := by decide +kernel
theorem li3 : idx.all (fun u => listedAt 4 (mkS ((lv 3).cps.toList ++ [37])) (nm u) ((kidT.getD 3 []).contains u)) = true := by decide +kernel
theorem li4 : idx.all (fun u => listedAt 4 (mkS ((lv 4).cps.toList ++ [37])) (nm u) ((kidT.getD 4 []).contains u)) = true := by decide +kernel
theorem li7 : idx.all (fun u => listedAt 4 (mkS ((lv 7).cps.toList ++ [37])) (nm u) ((kidT.getD 7 []).contains u)) = true := by decide +kernel
theorem li9 : idx.all (fun u => listedAt 4 (mkS ((lv 9).cps.toList ++ [37])) (nm u) ((kidT.getD 9 []).contains u)) = true := by decide +kernel
theorem li10 : idx.all (fun u => listedAt 4 (mkS ((lv 10).cps.toList ++ [37])) (nm u) ((kidT.getD 10 []).contains u)) = true := by decide +kernel
theorem li12 : idx.all (fun u => listedAt 4 (mkS ((lv 12).cps.toList ++ [37])) (nm u) ((kidT.getD 12 []).contains u)) = true := by decide +kernel
theorem li13 : idx.all (fun u => listedAt 4 (mkS ((lv 13).cps.toList ++ [37])) (nm u) ((kidT.getD 13 []).contains u)) = true := by decide +kernel
theorem ll0 : real.all (fun u => listedAt 5 (mkS ((lead 0).cps.toList ++ [42])) (nm u) ((leadT.getD 0 []).contains u)) = true := by decide +kernel
theorem ll1 : real.all (fun u => listedAt 5 (mkS ((lead 1).cps.toList ++ [42])) (nm u) ((leadT.getD 1 []).contains u)) = true := by decide +kernel
theorem ll2 : real.all (fun u => listedAt 5 (mkS ((lead 2).cps.toList ++ [42])) (nm u) ((leadT.getD 2 []).contains u)) = true := by decide +kernel
theorem ll3 : real.all (fun u => listedAt 5 (mkS ((lead 3).cps.toList ++ [42])) (nm u) ((leadT.getD 3 []).contains u)) = true := by decide +kernel
theorem ll4 : real.all (fun u => listedAt 5 (mkS ((lead 4).cps.toList ++ [42])) (nm u) ((leadT.getD 4 []).contains u)) = true := by decide +kernel
theorem ll5 : real.all (fun u => listedAt 5 (mkS ((lead 5).cps.toList ++ [42])) (nm u) ((leadT.getD 5 []).contains u)) = true := by decide +kernel
theorem ll6 : real.all (fun u => listedAt 5 (mkS ((lead 6).cps.toList ++ [42])) (nm u) ((leadT.getD 6 []).contains u)) = true := by decide +kernel
noncomputable def levs : List Nat := [0, 1, 3, 4, 7, 9, 10, 12, 13]
theorem listed_lv : ∀ i ∈ levs, ∀ u ∈ idx, callEval 5 "is_listed" [.d (.str (mkS ((lv i).cps.toList ++ [37]))), .d (.str (nm u))] = some ⟨.d (.bool ((kidT.getD i []).contains u)), false, none⟩ := by
  intro i hi u hu
  have h : ∀ i ∈ levs, idx.all (fun u => listedAt 4 (mkS ((lv i).cps.toList ++ [37])) (nm u) ((kidT.getD i []).contains u)) = true := by
    intro i hi
    simp only [levs, List.mem_cons, List.not_mem_nil, or_false] at hi
    rcases hi with rfl | rfl | rfl | rfl | rfl | rfl | rfl | rfl | rfl
    · exact li0
    · exact li1
    · exact li3
    · exact li4
    · exact li7
    · exact li9
    · exact li10
    · exact li12
    · exact li13
  rw [callEval, find_is_listed]
  exact isB_eq (List.all_eq_true.mp (h i hi) u hu)
theorem listed_lead : ∀ k, k < 7 → ∀ u ∈ real, callEval 6 "is_listed" [.d (.str (mkS ((lead k).cps.toList ++ [42]))), .d (.str (nm u))] = some ⟨.d (.bool ((leadT.getD k []).contains u)), false, none⟩ := by
  intro k hk u hu
  have h : ∀ k, k < 7 → real.all (fun u => listedAt 5 (mkS ((lead k).cps.toList ++ [42])) (nm u) ((leadT.getD k []).contains u)) = true
    | 0, _ => ll0
    | 1, _ => ll1
    | 2, _ => ll2
    | 3, _ => ll3
    | 4, _ => ll4
    | 5, _ => ll5
    | 6, _ => ll6
    | k + 7, h => absurd h (by omega)
  rw [callEval, find_is_listed]
  exact isB_eq (List.all_eq_true.mp (h k hk) u hu)
end Mine
end

section
open PySem
namespace Mine
set_option maxRecDepth 100000
set_option Elab.async false
set_option linter.unusedSimpArgs false
/-! lists of figures -/
noncomputable def insN (x : Nat) : List Nat → List Nat
  | [] => [x]
  | y :: r => if Nat.blt y x then y :: insN x r else x :: y :: r
noncomputable def sortN : List Nat → List Nat
  | [] => []
  | x :: r => insN x (sortN r)
noncomputable def addN (ks : List Nat) (x : Nat) : List Nat := if ks.contains x then ks else ks ++ [x]
theorem blt_ff {x y : Nat} (h : x ≤ y) : Nat.blt y x = false := by
  rw [Bool.eq_false_iff, Ne, Nat.blt_eq]; omega
theorem blt_tt {x y : Nat} (h : y < x) : Nat.blt y x = true := by rw [Nat.blt_eq]; exact h
theorem insN_low {x : Nat} : ∀ {l : List Nat}, (∀ y ∈ l, x < y) → insN x l = x :: l
  | [], _ => rfl
  | y :: r, h => by
    rw [insN, blt_ff (Nat.le_of_lt (h y List.mem_cons_self))]; rfl
theorem insN_filter {x : Nat} {p : Nat → Bool} (hp : p x = false) : ∀ {U : List Nat}, U.Pairwise (· < ·) → x ∈ U → insN x (U.filter p) = U.filter (fun y => y == x || p y)
  | [], _, h => by simp at h
  | y :: r, hs, h => by
    have h1 := List.pairwise_cons.mp hs
    by_cases e : y = x
    · subst e
      have h2 : List.filter (fun z => z == y || p z) r = List.filter p r := by
        apply List.filter_congr
        intro z hz
        have := h1.1 z hz
        have : (z == y) = false := by simp; omega
        rw [this, Bool.false_or]
      rw [List.filter_cons_of_neg (by simp [hp]), List.filter_cons_of_pos (by simp), h2]
      exact insN_low fun z hz => h1.1 z (List.mem_filter.mp hz).1
    · have hx : x ∈ r := by
        rcases List.mem_cons.mp h with h | h
        · exact absurd h.symm e
        · exact h
      have hyx := h1.1 x hx
      have ih := insN_filter hp (U := r) h1.2 hx
      have e' : (y == x) = false := by simp; exact e
      cases hpy : p y with
      | true =>
        rw [List.filter_cons_of_pos hpy, List.filter_cons_of_pos (by simp [hpy]), insN, blt_tt hyx, if_pos rfl, ih]
      | false =>
        rw [List.filter_cons_of_neg (by simp [hpy]), List.filter_cons_of_neg (by simp [hpy, e]), ih]
theorem sortN_filter {U : List Nat} (hU : U.Pairwise (· < ·)) : ∀ {M : List Nat}, M.Nodup → (∀ x ∈ M, x ∈ U) → sortN M = U.filter (fun u => M.contains u)
  | [], _, _ => by simp [sortN]
  | x :: r, hn, hm => by
    have h1 := List.nodup_cons.mp hn
    rw [sortN, sortN_filter hU h1.2 (fun y hy => hm y (List.mem_cons_of_mem _ hy)), insN_filter (by simp; exact h1.1) hU (hm x List.mem_cons_self)]
    apply List.filter_congr
    intro y _
    simp only [List.contains_cons]
theorem addN_mem {ks : List Nat} {x u : Nat} : u ∈ addN ks x ↔ u ∈ ks ∨ u = x := by
  unfold addN
  split
  · rename_i h
    rw [List.contains_iff_mem] at h
    exact ⟨.inl, fun h' => h'.elim id fun e => e ▸ h⟩
  · simp
theorem addN_nodup {ks : List Nat} {x : Nat} (h : ks.Nodup) : (addN ks x).Nodup := by
  unfold addN
  split
  · exact h
  · rename_i hx
    rw [Bool.not_eq_true, ← Bool.not_eq_true, List.contains_iff_mem] at hx
    rw [List.nodup_append]
    refine ⟨h, by simp, ?_⟩
    intro a ha b hb e
    simp only [List.mem_singleton] at hb
    subst hb; subst e; exact hx ha
theorem foldN_mem {u : Nat} : ∀ {M ks : List Nat}, u ∈ M.foldl addN ks ↔ u ∈ ks ∨ u ∈ M
  | [], ks => by simp
  | x :: r, ks => by
    rw [List.foldl_cons, foldN_mem, addN_mem, List.mem_cons, or_assoc]
theorem foldN_nodup : ∀ {M ks : List Nat}, ks.Nodup → (M.foldl addN ks).Nodup
  | [], _, h => h
  | x :: r, ks, h => by rw [List.foldl_cons]; exact foldN_nodup (addN_nodup h)
theorem fold2_mem {u : Nat} {f : Nat → List Nat} : ∀ {M ks : List Nat}, u ∈ M.foldl (fun ks n => (f n).foldl addN ks) ks ↔ u ∈ ks ∨ ∃ n ∈ M, u ∈ f n
  | [], ks => by simp
  | x :: r, ks => by
    rw [List.foldl_cons, fold2_mem, foldN_mem]
    simp only [List.mem_cons, exists_eq_or_imp, or_assoc]
theorem fold2_nodup {f : Nat → List Nat} : ∀ {M ks : List Nat}, ks.Nodup → (M.foldl (fun ks n => (f n).foldl addN ks) ks).Nodup
  | [], _, h => h
  | x :: r, ks, h => by rw [List.foldl_cons]; exact fold2_nodup (foldN_nodup h)
theorem nodup_sub_len : ∀ {a b : List Nat}, a.Nodup → (∀ x ∈ a, x ∈ b) → a.length ≤ b.length
  | [], _, _, _ => by simp
  | x :: r, b, hn, hs => by
    have h1 := List.nodup_cons.mp hn
    have hx := hs x List.mem_cons_self
    have h2 := nodup_sub_len (a := r) (b := b.erase x) h1.2 (fun y hy => by
      have hy' := hs y (List.mem_cons_of_mem _ hy)
      have : y ≠ x := fun e => h1.1 (e ▸ hy)
      exact (List.mem_erase_of_ne this).mpr hy')
    have h3 := List.length_erase_of_mem hx
    have h4 : 0 < b.length := List.length_pos_of_mem hx
    rw [List.length_cons]; omega
/-! the same over the texts -/
theorem eqb_nm : ∀ u ∈ idx, ∀ v ∈ idx, eqb (nm u) (nm v) = (u == v) := by decide +kernel
theorem ltS_nm : ∀ u ∈ idx, ∀ v ∈ idx, ltS (nm u) (nm v) = Nat.blt u v := by decide +kernel
theorem idx_sorted : idx.Pairwise (· < ·) := by decide +kernel
theorem nm_inj : ∀ u ∈ idx, ∀ v ∈ idx, nm u = nm v → u = v := by
  intro u hu v hv h
  have := eqb_nm u hu v hv
  rw [h, eqb_self] at this
  exact beq_iff_eq.mp this.symm
theorem elems_nm {u : Nat} (hu : u ∈ idx) : ∀ {F : List Nat}, (∀ x ∈ F, x ∈ idx) → elems (F.map nm) (nm u) = F.contains u
  | [], _ => rfl
  | x :: r, h => by
    have ih := elems_nm hu (F := r) (fun y hy => h y (List.mem_cons_of_mem _ hy))
    unfold elems at *
    rw [List.map_cons, List.any_cons, ih, eqb_nm u hu x (h x List.mem_cons_self), List.contains_cons]
theorem insS_nm {x : Nat} (hx : x ∈ idx) : ∀ {F : List Nat}, (∀ y ∈ F, y ∈ idx) → insS (nm x) (F.map nm) = (insN x F).map nm
  | [], _ => rfl
  | y :: r, h => by
    have ih := insS_nm hx (F := r) (fun z hz => h z (List.mem_cons_of_mem _ hz))
    rw [List.map_cons, insS, insN, ltS_nm y (h y List.mem_cons_self) x hx, ih]
    split <;> rfl
theorem sortS_nm : ∀ {M : List Nat}, M.Nodup → (∀ x ∈ M, x ∈ idx) → sortS (M.map nm) = (sortN M).map nm
  | [], _, _ => rfl
  | x :: r, hn, hm => by
    have h1 := List.nodup_cons.mp hn
    have hr : ∀ y ∈ r, y ∈ idx := fun y hy => hm y (List.mem_cons_of_mem _ hy)
    rw [List.map_cons, sortS, sortS_nm h1.2 hr, sortN, sortN_filter idx_sorted h1.2 hr]
    exact insS_nm (hm x List.mem_cons_self) (fun y hy => (List.mem_filter.mp hy).1)
theorem sort_nm {M : List Nat} (hn : M.Nodup) (hm : ∀ x ∈ M, x ∈ idx) : sortS (M.map nm) = (idx.filter (fun u => M.contains u)).map nm := by
  rw [sortS_nm hn hm, sortN_filter idx_sorted hn hm]
theorem addS_nm {ks : List Nat} {x : Nat} (hk : ∀ y ∈ ks, y ∈ idx) (hx : x ∈ idx) : addS (ks.map nm) (nm x) = (addN ks x).map nm := by
  unfold addS addN
  rw [elems_nm hx hk]
  split
  · rfl
  · rw [List.map_append]; rfl
theorem addN_idx {ks : List Nat} {x : Nat} (hk : ∀ y ∈ ks, y ∈ idx) (hx : x ∈ idx) : ∀ y ∈ addN ks x, y ∈ idx := fun y hy =>
  (addN_mem.mp hy).elim (hk y) (fun e => e ▸ hx)
theorem foldN_idx {ks M : List Nat} (hk : ∀ y ∈ ks, y ∈ idx) (hM : ∀ y ∈ M, y ∈ idx) : ∀ y ∈ M.foldl addN ks, y ∈ idx := fun y hy =>
  (foldN_mem.mp hy).elim (hk y) (hM y)
theorem foldS_nm : ∀ {M ks : List Nat}, (∀ y ∈ ks, y ∈ idx) → (∀ y ∈ M, y ∈ idx) → (M.map nm).foldl addS (ks.map nm) = (M.foldl addN ks).map nm
  | [], _, _, _ => rfl
  | x :: r, ks, hk, hM => by
    have hx := hM x List.mem_cons_self
    rw [List.map_cons, List.foldl_cons, List.foldl_cons, addS_nm hk hx]
    exact foldS_nm (addN_idx hk hx) (fun y hy => hM y (List.mem_cons_of_mem _ hy))
/-! the keys of a dict of names -/
theorem keys_put (k : Str) (v : PyData) : ∀ {d : List (Str × PyData)}, keysOf (kput k v d) = addS (keysOf d) k
  | [] => rfl
  | (y, w) :: r => by
    have ih := keys_put k v (d := r)
    unfold keysOf addS elems at *
    by_cases h : eqb k y = true
    · rw [kput, if_pos h, List.map_cons, List.map_cons, List.any_cons, h, Bool.true_or, if_pos rfl]
    · rw [kput, if_neg h, List.map_cons, List.map_cons, List.any_cons, Bool.not_eq_true _ |>.mp h, Bool.false_or, ih]
      split <;> rfl
theorem get_isSome (k : Str) : ∀ {d : List (Str × PyData)}, (kget k d).isSome = elems (keysOf d) k
  | [] => rfl
  | (y, w) :: r => by
    have ih := get_isSome k (d := r)
    unfold keysOf kget elems at *
    rw [lkp, List.map_cons, List.any_cons]
    by_cases h : eqb k y = true
    · rw [if_pos h, h]; rfl
    · rw [if_neg h, ih, Bool.not_eq_true _ |>.mp h, Bool.false_or]
theorem keys_putTrue (d : List (Str × PyData)) (x : Str) : keysOf (putTrue d x) = addS (keysOf d) x := keys_put x _
theorem keys_putAbs (d : List (Str × PyData)) (x : Str) : keysOf (putAbs d x) = addS (keysOf d) x := by
  unfold putAbs
  rw [get_isSome]
  split
  · rename_i h; unfold addS; rw [if_pos h]
  · exact keys_put x _
theorem keys_foldT : ∀ (N : List Str) (d : List (Str × PyData)), keysOf (N.foldl putTrue d) = N.foldl addS (keysOf d)
  | [], _ => rfl
  | x :: r, d => by rw [List.foldl_cons, List.foldl_cons, keys_foldT r, keys_putTrue]
theorem keys_foldA : ∀ (N : List Str) (d : List (Str × PyData)), keysOf (N.foldl putAbs d) = N.foldl addS (keysOf d)
  | [], _ => rfl
  | x :: r, d => by rw [List.foldl_cons, List.foldl_cons, keys_foldA r, keys_putAbs]
theorem keys_fold2 (par : Str → List Str) : ∀ (N : List Str) (d : List (Str × PyData)), keysOf (N.foldl (fun d n => (par n).foldl putAbs d) d) = N.foldl (fun ks n => (par n).foldl addS ks) (keysOf d)
  | [], _ => rfl
  | x :: r, d => by rw [List.foldl_cons, List.foldl_cons, keys_fold2 par r, keys_foldA]
/-! by name -/
noncomputable def byN {α : Type} (f : Nat → α) (d : α) (s : Str) : α := match idx.find? (fun u => eqb (nm u) s) with
  | some u => f u
  | none => d
theorem find_nm : ∀ u ∈ idx, idx.find? (fun v => eqb (nm v) (nm u)) = some u := by decide +kernel
theorem byN_nm {α : Type} {f : Nat → α} {d : α} {u : Nat} (hu : u ∈ idx) : byN f d (nm u) = f u := by
  unfold byN; rw [find_nm u hu]
noncomputable def parI (u : Nat) : List Nat := parT.getD u []
noncomputable def kidI (u : Nat) : List Nat := kidT.getD u []
noncomputable def belI (u : Nat) : List Nat := belT.getD u []
noncomputable def parS : Str → List Str := byN (fun u => (parI u).map nm) []
theorem parS_nm {u : Nat} (hu : u ∈ idx) : parS (nm u) = (parI u).map nm := byN_nm hu
theorem parI_idx : ∀ u ∈ idx, ∀ x ∈ parI u, x ∈ idx := by decide +kernel
theorem belI_idx : ∀ u ∈ idx, ∀ x ∈ belI u, x ∈ idx := by decide +kernel
theorem kidI_idx : ∀ i ∈ levs, ∀ x ∈ kidI i, x ∈ idx := by decide +kernel
theorem par_bel : ∀ u ∈ idx, ∀ v ∈ idx, (parI v).contains u = (belI u).contains v := by decide +kernel
theorem bel_pre : ∀ u ∈ idx, ∀ v ∈ idx, prefixN ((nm u).cps.toList ++ [47]) (nm v).cps.toList = (belI u).contains v := by decide +kernel
theorem kid_idx : ∀ i ∈ levs, idx.filter (fun u => (kidI i).contains u) = kidI i := by decide +kernel
theorem real_idx : ∀ u ∈ real, u ∈ idx := by decide +kernel
theorem par_len : ∀ u ∈ idx, (parI u).length ≤ 5 := by decide +kernel
theorem fold2S_nm : ∀ {M ks : List Nat}, (∀ y ∈ ks, y ∈ idx) → (∀ y ∈ M, y ∈ idx) → (M.map nm).foldl (fun ks n => (parS n).foldl addS ks) (ks.map nm) = (M.foldl (fun ks n => (parI n).foldl addN ks) ks).map nm
  | [], _, _, _ => rfl
  | x :: r, ks, hk, hM => by
    have hx := hM x List.mem_cons_self
    rw [List.map_cons, List.foldl_cons, List.foldl_cons, parS_nm hx, foldS_nm hk (parI_idx x hx)]
    exact fold2S_nm (foldN_idx hk (parI_idx x hx)) (fun y hy => hM y (List.mem_cons_of_mem _ hy))
end Mine
end

section
open PySem
namespace Mine
set_option maxRecDepth 100000
set_option Elab.async false
set_option linter.unusedSimpArgs false
theorem call_is (n : Nat) (f : Str) (i : Nat) (h : findDef f theDefs = some (theD i)) (args : List AV) : callEval (n + 1) f args = callBody (callEval n) (theD i) args := by rw [callEval, h]
/-! the names, by a table of truth -/
noncomputable def Mq (q : Nat → Bool) : List Nat := idx.filter q
noncomputable def Nq (q : Nat → Bool) : List Str := (Mq q).map nm
noncomputable def hbI (q : Nat → Bool) (u : Nat) : Bool := (belI u).any q
noncomputable def knI (q : Nat → Bool) (u : Nat) : Bool := q u || hbI q u
noncomputable def kidsK (q : Nat → Bool) (i : Nat) : List Nat := if levs.contains i then (kidI i).filter (knI q) else []
noncomputable def attI (q : Nat → Bool) (u : Nat) : List Str := (if q u = true then [] else [noSel]) ++ [if hbI q u = true then hasC else hasN]
theorem Mq_mem {q : Nat → Bool} {u : Nat} : u ∈ Mq q ↔ u ∈ idx ∧ q u = true := List.mem_filter
theorem Mq_nodup (q : Nat → Bool) : (Mq q).Nodup := List.Pairwise.filter _ (by decide)
theorem Mq_len (q : Nat → Bool) : (Mq q).length ≤ 14 := List.length_filter_le q idx
theorem Mq_idx (q : Nat → Bool) : ∀ u ∈ Mq q, u ∈ idx := fun u h => (Mq_mem.mp h).1
theorem elems_Nq {q : Nat → Bool} {u : Nat} (hu : u ∈ idx) : elems (Nq q) (nm u) = q u := by
  rw [Nq, elems_nm hu (Mq_idx q), Bool.eq_iff_iff, List.contains_iff_mem, Mq_mem]
  exact ⟨fun h => h.2, fun h => ⟨hu, h⟩⟩
theorem any_Nq {q : Nat → Bool} {u : Nat} (hu : u ∈ idx) : (Nq q).any (fun x => prefixN ((nm u).cps.toList ++ [47]) x.cps.toList) = hbI q u := by
  rw [Nq, List.any_map, Bool.eq_iff_iff, List.any_eq_true, hbI, List.any_eq_true]
  constructor
  · rintro ⟨v, hv, h⟩
    have h1 := Mq_mem.mp hv
    have h2 : prefixN ((nm u).cps.toList ++ [47]) (nm v).cps.toList = true := h
    rw [bel_pre u hu v h1.1, List.contains_iff_mem] at h2
    exact ⟨v, h2, h1.2⟩
  · rintro ⟨v, hv, h⟩
    have hi := belI_idx u hu v hv
    refine ⟨v, Mq_mem.mpr ⟨hi, h⟩, ?_⟩
    show prefixN ((nm u).cps.toList ++ [47]) (nm v).cps.toList = true
    rw [bel_pre u hu v hi, List.contains_iff_mem]
    exact hv
theorem nm_short : ∀ u ∈ idx, (nm u).cps.toList.length + 1 ≤ 10000 := by decide +kernel
theorem hb_k (n : Nat) (q : Nat → Bool) {u : Nat} (hu : u ∈ idx) : callEval (n + 2) "has_below" [.d (.list (toStrs (Nq q))), .d (.str (nm u))] = some ⟨.d (.bool (hbI q u)), false, none⟩ := by
  rw [call_is _ _ _ find_has_below, has_below_c (callEval (n + 1)) (Nq q) (nm u) (fun x => prefixN ((nm u).cps.toList ++ [47]) x.cps.toList), any_Nq hu]
  intro x _
  rw [call_is _ _ _ find_is_below]
  exact below_c _ _ _ (nm_short u hu)
theorem at_k (n : Nat) (q : Nat → Bool) {u : Nat} (hu : u ∈ idx) : callEval (n + 3) "list_attributes" [.d (.list (toStrs (Nq q))), .d (.str (nm u))] = some ⟨.d (.list (toStrs (attI q u))), false, none⟩ := by
  rw [call_is _ _ _ find_list_attributes]
  exact attrs_c _ _ _ (hbI q u) (q u) (elems_Nq hu) (hb_k n q hu)
theorem pa_k (C : Oracle) : ∀ u ∈ real, callBody C (theD 2) [.d (.str (nm u))] = some ⟨.d (.list (toStrs ((parI u).map nm))), false, none⟩ := by
  intro u hu
  simp only [real, List.mem_cons, List.not_mem_nil, or_false] at hu
  rcases hu with rfl | rfl | rfl | rfl | rfl | rfl | rfl | rfl | rfl | rfl | rfl
  · kernel_rfl
  · kernel_rfl
  · kernel_rfl
  · kernel_rfl
  · kernel_rfl
  · kernel_rfl
  · kernel_rfl
  · kernel_rfl
  · kernel_rfl
  · kernel_rfl
  · kernel_rfl
noncomputable def keysN (q : Nat → Bool) : List Nat := (Mq q).foldl addN []
noncomputable def keysA (q : Nat → Bool) : List Nat := (Mq q).foldl (fun ks n => (parI n).foldl addN ks) (keysN q)
theorem nil_idx : ∀ y ∈ ([] : List Nat), y ∈ idx := by simp
theorem keysN_mem {q : Nat → Bool} {u : Nat} : u ∈ keysN q ↔ u ∈ Mq q := by
  rw [keysN, foldN_mem]; simp
theorem keysN_idx (q : Nat → Bool) : ∀ y ∈ keysN q, y ∈ idx := fun y h => Mq_idx q y (keysN_mem.mp h)
theorem keysN_nodup (q : Nat → Bool) : (keysN q).Nodup := foldN_nodup (by simp)
theorem keysA_mem {q : Nat → Bool} {u : Nat} : u ∈ keysA q ↔ u ∈ Mq q ∨ ∃ n ∈ Mq q, u ∈ parI n := by
  rw [keysA, fold2_mem, keysN_mem]
theorem keysA_idx (q : Nat → Bool) : ∀ y ∈ keysA q, y ∈ idx := fun y h => (keysA_mem.mp h).elim (Mq_idx q y) (fun ⟨n, hn, h⟩ => parI_idx n (Mq_idx q n hn) y h)
theorem keysA_nodup (q : Nat → Bool) : (keysA q).Nodup := fold2_nodup (keysN_nodup q)
theorem keysA_kn {q : Nat → Bool} {u : Nat} (hu : u ∈ idx) : (keysA q).contains u = knI q u := by
  rw [Bool.eq_iff_iff, List.contains_iff_mem, keysA_mem, knI, Bool.or_eq_true, hbI, List.any_eq_true, Mq_mem]
  constructor
  · rintro (h | ⟨n, hn, h⟩)
    · exact .inl h.2
    · have h1 := Mq_mem.mp hn
      rw [← List.contains_iff_mem, par_bel u hu n h1.1, List.contains_iff_mem] at h
      exact .inr ⟨n, h, h1.2⟩
  · rintro (h | ⟨n, hn, h⟩)
    · exact .inl ⟨hu, h⟩
    · have hi := belI_idx u hu n hn
      rw [← List.contains_iff_mem, ← par_bel u hu n hi, List.contains_iff_mem] at hn
      exact .inr ⟨n, Mq_mem.mpr ⟨hi, h⟩, hn⟩
theorem keys_knownT (q : Nat → Bool) : keysOf (knownT (Nq q)) = (keysN q).map nm := by
  rw [knownT, keys_foldT, Nq]
  exact foldS_nm (ks := []) nil_idx (Mq_idx q)
theorem keys_knownA (q : Nat → Bool) : keysOf (knownA (Nq q) parS) = (keysA q).map nm := by
  rw [knownA, keys_fold2, keys_knownT, Nq]
  exact fold2S_nm (keysN_idx q) (Mq_idx q)
theorem idx_len {F : List Nat} (h : F.Nodup) (hF : ∀ y ∈ F, y ∈ idx) : F.length ≤ 14 := nodup_sub_len h hF
theorem keys_len (d : List (Str × PyData)) : (keysOf d).length = d.length := List.length_map ..
theorem knownA_len (q : Nat → Bool) : (knownA (Nq q) parS).length < 64 := by
  have := idx_len (keysA_nodup q) (keysA_idx q)
  rw [← keys_len, keys_knownA, List.length_map]; omega
theorem knownT_len (q : Nat → Bool) : (knownT (Nq q)).length < 64 := by
  have := idx_len (keysN_nodup q) (keysN_idx q)
  rw [← keys_len, keys_knownT, List.length_map]; omega
theorem filter_nm (F : List Nat) (L : Str → Bool) (p : Nat → Bool) (h : ∀ u ∈ F, L (nm u) = p u) : (F.map nm).filter L = (F.filter p).map nm := by
  rw [List.filter_map]
  congr 1
  apply List.filter_congr
  intro u hu
  exact h u hu
theorem Nq_len (q : Nat → Bool) : (Nq q).length < 20 := by
  have := Mq_len q
  rw [Nq, List.length_map]; omega
theorem lv_short : ∀ i ∈ levs, (lv i).cps.toList.length ≤ 9999 := by decide +kernel
theorem lead_short : ∀ k, k < 7 → (lead k).cps.toList.length ≤ 9999 := by decide +kernel
theorem pct_slash : prefixN [47] (Str.ofString "%").cps.toList = false := by decide +kernel
theorem star_slash : prefixN [47] (Str.ofString "*").cps.toList = false := by decide +kernel
theorem wp_k (n : Nat) (r p : Str) (c : Nat) (hp : p.cps.toList = [c]) (hs : prefixN [47] p.cps.toList = false) (hr : r.cps.toList.length ≤ 9999) : callEval (n + 1) "whole_pattern" [.d (.str r), .d (.str p)] = some ⟨.d (.str (mkS (r.cps.toList ++ [c]))), false, none⟩ := by
  rw [call_is _ _ _ find_whole_pattern, whole_c _ _ _ (by rw [hp]; simp; omega) hs, hp]
theorem pct_end (a : List Nat) : prefixN [37] (mkS (a ++ [37])).cps.toList.reverse = true := by rw [mkS_list]; simp [prefixN]
theorem star_end (a : List Nat) : prefixN [37] (mkS (a ++ [42])).cps.toList.reverse = false := by rw [mkS_list, List.reverse_append]; rfl
noncomputable def realQ (q : Nat → Bool) : Prop := ∀ u, q u = true → u ∈ real
theorem par_k (n : Nat) {q : Nat → Bool} (hq : realQ q) : ∀ x ∈ Nq q, callEval (n + 1) "parents" [.d (.str x)] = some ⟨.d (.list (toStrs (parS x))), false, none⟩ := by
  intro x hx
  obtain ⟨u, hu, rfl⟩ := List.mem_map.mp hx
  have h1 := Mq_mem.mp hu
  rw [call_is _ _ _ find_parents, pa_k _ u (hq u h1.2), parS_nm h1.1]
theorem parS_len {q : Nat → Bool} : ∀ x ∈ Nq q, (parS x).length ≤ 5 := by
  intro x hx
  obtain ⟨u, hu, rfl⟩ := List.mem_map.mp hx
  rw [parS_nm (Mq_idx q u hu), List.length_map]
  exact par_len u (Mq_idx q u hu)
/-- the names below a level -/
theorem ln6 {q : Nat → Bool} (hq : realQ q) {i : Nat} (hi : i ∈ levs) : ∃ g : Str → PyData, callEval 6 "list_names" [.d (.list (toStrs (Nq q))), .d (.str (lv i)), .d (.str "%")] = some ⟨.d (.list (((kidsK q i).map nm).map fun u => .tuple [.str u, g u])), false, none⟩ := by
  refine ⟨fun u => (kget u (knownA (Nq q) parS)).getD .none, ?_⟩
  have h := names_c (callEval 5) (Nq q) (lv i) "%" (mkS ((lv i).cps.toList ++ [37])) (Nq_len q) (by decide +kernel) (wp_k 4 (lv i) "%" 37 cps_pct pct_slash (lv_short i hi)) true (pct_end _) parS (par_k 4 hq) parS_len (knownA (Nq q) parS) (if_pos rfl).symm (knownA_len q) (byN (fun u => (kidI i).contains u) false) (by
    intro x hx
    rw [keys_knownA] at hx
    obtain ⟨u, hu, rfl⟩ := List.mem_map.mp hx
    have hui := keysA_idx q u hu
    rw [byN_nm hui]
    exact listed_lv i hi u hui)
  rw [call_is _ _ _ find_list_names, h, keys_knownA, sort_nm (keysA_nodup q) (keysA_idx q), filter_nm _ _ (fun u => (kidI i).contains u) (fun u hu => byN_nm (List.mem_filter.mp hu).1)]
  have e : (idx.filter (fun u => (keysA q).contains u)).filter (fun u => (kidI i).contains u) = kidsK q i := by
    have hl : levs.contains i = true := List.contains_iff_mem.mpr hi
    rw [kidsK, if_pos hl, List.filter_filter]
    conv => rhs; rw [← kid_idx i hi]
    rw [List.filter_filter]
    apply List.filter_congr
    intro u hu
    rw [keysA_kn hu, Bool.and_comm]
  rw [e]
theorem att_len (q : Nat → Bool) (u : Nat) : (attI q u).length ≤ 9 := by
  unfold attI; split <;> simp
theorem kidsK_idx {q : Nat → Bool} {i : Nat} : ∀ u ∈ kidsK q i, u ∈ idx := by
  intro u hu
  unfold kidsK at hu
  split at hu
  · rename_i h
    exact kidI_idx i (List.contains_iff_mem.mp h) u (List.mem_filter.mp hu).1
  · simp at hu
theorem rows_nm (q : Nat → Bool) {K : List Nat} (hK : ∀ u ∈ K, u ∈ idx) : (K.map nm).map (rowOf (byN (attI q) [])) = K.map (rowI nm (attI q)) := by
  rw [List.map_map]
  apply List.map_congr_left
  intro u hu
  show PyData.tuple [.str "list", .tuple (toStrs (byN (attI q) [] (nm u))), .str (nm u)] = _
  rw [byN_nm (hK u hu)]; rfl
theorem answers_k (n : Nat) (q : Nat → Bool) (r p : Str) (hp : eqb p "" = false) (K : List Nat) (hK : ∀ u ∈ K, u ∈ idx) (hl : K.length ≤ 64) (g : Str → PyData) (h : callEval (n + 3) "list_names" [.d (.list (toStrs (Nq q))), .d (.str r), .d (.str p)] = some ⟨.d (.list ((K.map nm).map fun u => .tuple [.str u, g u])), false, none⟩) :
    callEval (n + 4) "list_answers" [.d (.list (toStrs (Nq q))), .d (.str r), .d (.str p)] = some ⟨.d (.list (K.map (rowI nm (attI q)))), false, none⟩ := by
  rw [call_is _ _ _ find_list_answers, answers_c (callEval (n + 3)) (Nq q) r p hp (K.map nm) g (by rw [List.length_map]; exact hl) h (byN (attI q) []) (by
    intro x hx
    obtain ⟨u, hu, rfl⟩ := List.mem_map.mp hx
    rw [byN_nm (hK u hu)]; exact att_len q u) (by
    intro x hx
    obtain ⟨u, hu, rfl⟩ := List.mem_map.mp hx
    rw [byN_nm (hK u hu)]; exact at_k n q (hK u hu)), rows_nm q hK]
theorem kidI_len : ∀ i ∈ levs, (kidI i).length ≤ 64 := by decide +kernel
theorem la7 {q : Nat → Bool} (hq : realQ q) {i : Nat} (hi : i ∈ levs) : callEval 7 "list_answers" [.d (.list (toStrs (Nq q))), .d (.str (lv i)), .d (.str "%")] = some ⟨.d (.list ((kidsK q i).map (rowI nm (attI q)))), false, none⟩ := by
  obtain ⟨g, h⟩ := ln6 hq hi
  refine answers_k 3 q (lv i) "%" (by decide +kernel) (kidsK q i) kidsK_idx ?_ g h
  have hl : levs.contains i = true := List.contains_iff_mem.mpr hi
  rw [kidsK, if_pos hl]
  exact Nat.le_trans (List.length_filter_le _ _) (kidI_len i hi)
end Mine
end

section
open PySem
namespace Mine
set_option maxRecDepth 100000
set_option Elab.async false
set_option linter.unusedSimpArgs false
/-! the answers with a reference ahead -/
noncomputable def ldI (k u : Nat) : Bool := (leadT.getD k []).contains u
noncomputable def starK (q : Nat → Bool) (k : Nat) : List Nat := (Mq q).filter (ldI k)
theorem starK_idx {q : Nat → Bool} {k : Nat} : ∀ u ∈ starK q k, u ∈ idx := fun u h => Mq_idx q u (List.mem_filter.mp h).1
theorem starK_len (q : Nat → Bool) (k : Nat) : (starK q k).length ≤ 14 := Nat.le_trans (List.length_filter_le _ _) (Mq_len q)
theorem ln7 {q : Nat → Bool} (hq : realQ q) {k : Nat} (hk : k < 7) : ∃ g : Str → PyData, callEval 7 "list_names" [.d (.list (toStrs (Nq q))), .d (.str (lead k)), .d (.str "*")] = some ⟨.d (.list (((starK q k).map nm).map fun u => .tuple [.str u, g u])), false, none⟩ := by
  refine ⟨fun u => (kget u (knownT (Nq q))).getD .none, ?_⟩
  have h := names_c (callEval 6) (Nq q) (lead k) "*" (mkS ((lead k).cps.toList ++ [42])) (Nq_len q) (by decide +kernel) (wp_k 5 (lead k) "*" 42 cps_star star_slash (lead_short k hk)) false (star_end _) parS (par_k 5 hq) parS_len (knownT (Nq q)) (if_neg Bool.false_ne_true).symm (knownT_len q) (byN (ldI k) false) (by
    intro x hx
    rw [keys_knownT] at hx
    obtain ⟨u, hu, rfl⟩ := List.mem_map.mp hx
    rw [byN_nm (keysN_idx q u hu)]
    exact listed_lead k hk u (hq u (Mq_mem.mp (keysN_mem.mp hu)).2))
  rw [call_is _ _ _ find_list_names, h, keys_knownT, sort_nm (keysN_nodup q) (keysN_idx q), filter_nm _ _ (ldI k) (fun u hu => byN_nm (List.mem_filter.mp hu).1)]
  have e : (idx.filter (fun u => (keysN q).contains u)).filter (ldI k) = starK q k := by
    rw [starK, Mq]
    congr 1
    apply List.filter_congr
    intro u hu
    rw [Bool.eq_iff_iff, List.contains_iff_mem, keysN_mem, Mq_mem]
    exact ⟨fun h => h.2, fun h => ⟨hu, h⟩⟩
  rw [e]
theorem la8 {q : Nat → Bool} (hq : realQ q) {k : Nat} (hk : k < 7) : callEval 8 "list_answers" [.d (.list (toStrs (Nq q))), .d (.str (lead k)), .d (.str "*")] = some ⟨.d (.list ((starK q k).map (rowI nm (attI q)))), false, none⟩ := by
  obtain ⟨g, h⟩ := ln7 hq hk
  exact answers_k 4 q (lead k) "*" (by decide +kernel) (starK q k) starK_idx (by have := starK_len q k; omega) g h
/-! the levels, one below the other -/
noncomputable def bfs : Nat → List Nat → List Nat → Option (List Nat)
  | 0, _, _ => none
  | _ + 1, [], F => some F
  | k + 1, i :: W, F => bfs k (W ++ kidI i) (F ++ kidI i)
noncomputable def order : List Nat := [1, 3, 7, 9, 12, 2, 4, 6, 8, 10, 13, 5, 11, 14]
theorem bfs_order : bfs 30 (kidI 0) (kidI 0) = some order := by decide +kernel
theorem bel_kid : ∀ i ∈ idx, ∀ v ∈ idx, (belI i).contains v = (kidI i).any fun u => u == v || (belI u).contains v := by decide +kernel
theorem lev_idx : ∀ i ∈ idx, levs.contains i = true ∨ kidI i = [] := by decide +kernel
theorem kidI_idx2 : ∀ i ∈ idx, ∀ x ∈ kidI i, x ∈ idx := by decide +kernel
theorem hb_kid (q : Nat → Bool) {i : Nat} (hi : i ∈ idx) : hbI q i = (kidI i).any (knI q) := by
  rw [Bool.eq_iff_iff, hbI, List.any_eq_true, List.any_eq_true]
  constructor
  · rintro ⟨v, hv, h⟩
    have hvi := belI_idx i hi v hv
    have e := bel_kid i hi v hvi
    rw [List.contains_iff_mem.mpr hv] at e
    obtain ⟨u, hu, e⟩ := List.any_eq_true.mp e.symm
    refine ⟨u, hu, ?_⟩
    rw [knI, Bool.or_eq_true]
    rw [Bool.or_eq_true, beq_iff_eq] at e
    rcases e with rfl | e
    · exact .inl h
    · exact .inr (List.any_eq_true.mpr ⟨v, List.contains_iff_mem.mp e, h⟩)
  · rintro ⟨u, hu, h⟩
    have hui := kidI_idx2 i hi u hu
    rw [knI, Bool.or_eq_true] at h
    rcases h with h | h
    · refine ⟨u, ?_, h⟩
      rw [← List.contains_iff_mem, bel_kid i hi u hui, List.any_eq_true]
      exact ⟨u, hu, by simp⟩
    · obtain ⟨v, hv, h⟩ := List.any_eq_true.mp h
      refine ⟨v, ?_, h⟩
      rw [← List.contains_iff_mem, bel_kid i hi v (belI_idx u hui v hv), List.any_eq_true]
      exact ⟨u, hu, by rw [List.contains_iff_mem.mpr hv, Bool.or_true]⟩
theorem kidsK_lev (q : Nat → Bool) {i : Nat} (hi : i ∈ idx) : kidsK q i = (kidI i).filter (knI q) := by
  unfold kidsK
  rcases lev_idx i hi with h | h
  · rw [if_pos h]
  · rw [h]; split <;> rfl
theorem filter_hb_kn (q : Nat → Bool) (l : List Nat) : (l.filter (knI q)).filter (hbI q) = l.filter (hbI q) := by
  rw [List.filter_filter]
  apply List.filter_congr
  intro u _
  rw [knI]; cases hbI q u <;> simp
theorem levI_mono {kids : Nat → List Nat} {hb : Nat → Bool} : ∀ (k : Nat) {W F X : List Nat}, levI kids hb k W F = some X → levI kids hb (k + 1) W F = some X
  | 0, _, _, _, h => by cases h
  | _ + 1, [], _, _, h => h
  | k + 1, i :: W, F, X, h => by
    rw [levI] at h ⊢
    split at h
    · cases h
    · exact levI_mono k h
theorem lev_bfs (q : Nat → Bool) (F' : List Nat) : ∀ (k : Nat) (Q F : List Nat), (∀ u ∈ Q, u ∈ idx) → bfs k Q F = some F' → levI (kidsK q) (hbI q) k (Q.filter (hbI q)) (F.filter (knI q)) = some (F'.filter (knI q))
  | 0, _, _, _, h => by cases h
  | k + 1, [], F, _, h => by cases h; rfl
  | k + 1, i :: Q, F, hQ, h => by
    have hi := hQ i List.mem_cons_self
    have hQ2 : ∀ u ∈ Q ++ kidI i, u ∈ idx := fun u hu => (List.mem_append.mp hu).elim (fun h => hQ u (List.mem_cons_of_mem _ h)) (kidI_idx2 i hi u)
    have ih := lev_bfs q F' k (Q ++ kidI i) (F ++ kidI i) hQ2 h
    rw [List.filter_append, List.filter_append] at ih
    cases hb : hbI q i with
    | true =>
      have e := kidsK_lev q hi
      rw [List.filter_cons_of_pos hb, levI]
      have hne : (kidI i).filter (knI q) ≠ [] := by
        rw [hb_kid q hi] at hb
        obtain ⟨u, hu, h⟩ := List.any_eq_true.mp hb
        exact List.ne_nil_of_mem (List.mem_filter.mpr ⟨hu, h⟩)
      rw [← e] at hne
      split
      · rename_i h0; exact absurd h0 hne
      · rename_i u r h0
        rw [← h0, e, filter_hb_kn]
        exact ih
    | false =>
      have h0 : (kidI i).filter (knI q) = [] := by
        rw [hb_kid q hi] at hb
        rw [List.filter_eq_nil_iff]
        intro u hu h
        rw [Bool.eq_false_iff] at hb
        exact hb (List.any_eq_true.mpr ⟨u, hu, h⟩)
      have h1 : (kidI i).filter (hbI q) = [] := by rw [← filter_hb_kn, h0]; rfl
      rw [h0, h1, List.append_nil, List.append_nil] at ih
      rw [List.filter_cons_of_neg (by simp [hb])]
      exact levI_mono _ ih
noncomputable def foundI (q : Nat → Bool) : List Nat := order.filter (knI q)
theorem lev_all {q : Nat → Bool} (h1 : q 1 = true) : levI (kidsK q) (hbI q) 31 [0] [] = some (foundI q) := by
  have h := lev_bfs q order 30 (kidI 0) (kidI 0) (kidI_idx 0 (by decide)) bfs_order
  have e : kidsK q 0 = (kidI 0).filter (knI q) := rfl
  have hne : kidsK q 0 ≠ [] := by
    rw [e]
    exact List.ne_nil_of_mem (List.mem_filter.mpr ⟨(by decide : 1 ∈ kidI 0), by rw [knI, h1]; rfl⟩)
  rw [levI]
  split
  · rename_i h0; exact absurd h0 hne
  · rename_i u r h0
    rw [← h0, List.nil_append, List.nil_append, e, filter_hb_kn]
    exact h
theorem foundI_mem {q : Nat → Bool} {u : Nat} : u ∈ foundI q ↔ u ∈ order ∧ knI q u = true := List.mem_filter
theorem order_idx : ∀ u ∈ order, u ∈ idx := by decide +kernel
theorem idx_order : ∀ u ∈ idx, u ∈ order := by decide +kernel
theorem foundI_nodup (q : Nat → Bool) : (foundI q).Nodup := List.Pairwise.filter _ (by decide : order.Nodup)
theorem foundI_idx (q : Nat → Bool) : ∀ u ∈ foundI q, u ∈ idx := fun u h => order_idx u (foundI_mem.mp h).1
theorem foundI_len (q : Nat → Bool) : (foundI q).length ≤ 14 := idx_len (foundI_nodup q) (foundI_idx q)
theorem kid_pre : ∀ i ∈ levs, ∀ u ∈ kidI i, prefixN (lv i).cps.toList (nm u).cps.toList = true := by decide +kernel
theorem lv_nm : ∀ u ∈ idx, mkS ((nm u).cps.toList ++ [47]) = lv u
  | 0, h => by exact absurd h (by decide)
  | u + 1, _ => rfl
theorem has_hb (q : Nat → Bool) (u : Nat) : elems (attI q u) hasC = hbI q u := by
  have h1 : eqb hasC noSel = false := by decide +kernel
  have h2 : eqb hasC hasN = false := by decide +kernel
  unfold attI elems
  cases q u <;> cases hbI q u <;> simp [h1, h2, eqb_self]
theorem has_no (q : Nat → Bool) (u : Nat) : elems (attI q u) hasN = !hbI q u := by
  have h1 : eqb hasN noSel = false := by decide +kernel
  have h2 : eqb hasN hasC = false := by decide +kernel
  unfold attI elems
  cases q u <;> cases hbI q u <;> simp [h1, h2, eqb_self]
theorem has_ns (q : Nat → Bool) (u : Nat) : elems (attI q u) noSel = !q u := by
  have h1 : eqb noSel hasC = false := by decide +kernel
  have h2 : eqb noSel hasN = false := by decide +kernel
  unfold attI elems
  cases q u <;> cases hbI q u <;> simp [h1, h2, eqb_self]
/-! what may be compared -/
theorem lay_strs : ∀ {l : List Str}, (∀ x ∈ l, PyData.strOk x = true) → PyData.canLayAll0 (toStrs l) = true
  | [], _ => rfl
  | x :: r, h => by
    rw [toStrs_cons, PyData.canLayAll0, lay_strs (fun y hy => h y (List.mem_cons_of_mem _ hy)), PyData.canLay0, h x List.mem_cons_self]; rfl
theorem ok_nm : ∀ u ∈ idx, PyData.strOk (nm u) = true := by decide +kernel
theorem ok_att (q : Nat → Bool) (u : Nat) : ∀ x ∈ attI q u, PyData.strOk x = true := by
  have h1 : PyData.strOk noSel = true := by decide +kernel
  have h2 : PyData.strOk hasC = true := by decide +kernel
  have h3 : PyData.strOk hasN = true := by decide +kernel
  unfold attI
  cases q u <;> cases hbI q u <;> simp [h1, h2, h3]
theorem ok_list : PyData.strOk (Str.ofString "list") = true := by decide +kernel
theorem lay_rows (q : Nat → Bool) : ∀ {K : List Nat}, (∀ u ∈ K, u ∈ idx) → PyData.canLayAll0 (K.map (rowI nm (attI q))) = true
  | [], _ => rfl
  | u :: r, h => by
    rw [List.map_cons, PyData.canLayAll0, lay_rows q (fun y hy => h y (List.mem_cons_of_mem _ hy)), Bool.and_true, rowI]
    simp only [PyData.canLay0, PyData.canLayAll0, lay_strs (ok_att q u), ok_nm u (h u List.mem_cons_self), ok_list, Bool.and_self]
theorem dep_rows (q : Nat → Bool) : ∀ {K : List Nat}, PyData.depthAll (K.map (rowI nm (attI q))) ≤ 9
  | [] => by simp [PyData.depthAll]
  | u :: r => by
    have ih := dep_rows q (K := r)
    rw [List.map_cons, PyData.depthAll, rowI]
    simp only [PyData.depth, PyData.depthAll, depth_strs]
    omega
theorem shaped_rows (q : Nat → Bool) {K : List Nat} (h : ∀ u ∈ K, u ∈ idx) : SeqAt.shaped (.list (K.map (rowI nm (attI q)))) = true := by
  have := dep_rows q (K := K)
  unfold SeqAt.shaped
  rw [PyData.canLay0, lay_rows q h, PyData.depth, Bool.true_and, decide_eq_true_eq]
  omega
theorem shaped_strs {l : List Str} (h : ∀ x ∈ l, PyData.strOk x = true) : SeqAt.shaped (.list (toStrs l)) = true := by
  unfold SeqAt.shaped
  rw [PyData.canLay0, lay_strs h, PyData.depth, depth_strs]; rfl
theorem shaped_tup {l : List Str} (h : ∀ x ∈ l, PyData.strOk x = true) : SeqAt.shaped (.tuple (toStrs l)) = true := by
  unfold SeqAt.shaped
  rw [PyData.canLay0, lay_strs h, PyData.depth, depth_strs]; rfl
theorem ok_nms {K : List Nat} (h : ∀ u ∈ K, u ∈ idx) : ∀ x ∈ K.map nm, PyData.strOk x = true := by
  intro x hx
  obtain ⟨u, hu, rfl⟩ := List.mem_map.mp hx
  exact ok_nm u (h u hu)
theorem lev8 {q : Nat → Bool} (hq : realQ q) (h1 : q 1 = true) : callEval 8 "_law_levels" [.d (.list (toStrs (Nq q)))] = some ⟨.m (dictI nm (attI q) (foundI q)), false, none⟩ := by
  rw [call_is _ _ _ find_law_levels]
  refine levels_c (callEval 7) (Nq q) idx nm lv (kidsK q) (attI q) (hbI q) nm_inj (fun i => kidsK_idx) ?_ lv_nm nm_short (has_hb q) (by decide +kernel) ?_ (fun i => shaped_rows q kidsK_idx) (foundI q) (lev_all h1) (foundI_nodup q) (by have := foundI_len q; omega)
  · intro i u hu
    unfold kidsK at hu
    split at hu
    · rename_i h
      exact kid_pre i (List.contains_iff_mem.mp h) u (List.mem_filter.mp hu).1
    · simp at hu
  · intro i hi
    have h : i ∈ levs := by
      unfold kidsK at hi
      split at hi
      · rename_i h; exact List.contains_iff_mem.mp h
      · exact absurd rfl hi
    exact la7 hq h
end Mine
end

section
open PySem
namespace Mine
set_option maxRecDepth 100000
set_option Elab.async false
set_option linter.unusedSimpArgs false
/-! steps of the evaluator, by hand -/
theorem evT_cmp {C sc n a op b p l x l1 y l2 r} (h : evE C sc n a l = some (x, l1)) (h1 : evB C sc n b l1 = some (y, l2)) (h2 : cmpV op x y = some r) : evT C sc (n + 1) (.Compare a [op] [b] p) l = some (r, l2) := by
  rw [evT_succ, stT_3]; simp only [h, h1, h2]
theorem evE_cmp {C sc n a op b p l x l1 y l2 r} (h : evE C sc n a l = some (x, l1)) (h1 : evB C sc n b l1 = some (y, l2)) (h2 : cmpV op x y = some r) : evE C sc (n + 1) (.Compare a [op] [b] p) l = some (.d (.bool r), l2) := by
  rw [evE_succ, stE_6]; simp only [h, h1, h2]
theorem evT_or2 {C sc n a b p l l1 l2} (h : evT C sc (n + 2) a l = some (false, l1)) (h1 : evT C sc (n + 1) b l1 = some (false, l2)) : evT C sc (n + 4) (.BoolOp .Or [a, b] p) l = some (false, l2) := by
  rw [evT_succ, stT_1, evTs_succ, stTs_or, h]
  show evTs C sc (n + 2) .Or [b] l1 = _
  rw [evTs_succ, stTs_or, h1]
  show evTs C sc (n + 1) .Or [] l2 = _
  rw [evTs_succ, stTs_or_nil]
theorem ev_if_f {C sc n t b p l l1} (h : evT C sc (n + 1) t l = some (false, l1)) : evS C sc (n + 2) (.If t b [] p) l = some (.next, l1) := by
  rw [evS_succ, stS_4, h]
  show evSs C sc (n + 1) [] l1 = _
  rw [evSs_succ, stSs_nil]
theorem ret_cmp {C sc n a op b p q l x l1 y l2 r} (h : evE C sc n a l = some (x, l1)) (h1 : evB C sc n b l1 = some (y, l2)) (h2 : cmpV op x y = some r) : evS C sc (n + 2) (.Return (some (.Compare a [op] [b] p)) q) l = some (.ret (.d (.bool r)) false, l2) := by
  rw [evS_succ, stS_7, evV_Compare, evE_cmp h h1 h2]
theorem evB_comp {C sc n e g scope p l q} (h : evE C sc n (.ListComp e g scope p) l = q) : evB C sc (n + 1) (.ListComp e g scope p) l = q := by
  rw [evB_succ, stB_ListComp]; exact h
theorem comp_ok2 {C : Oracle} {sc : PySem.Scope} {n : Nat} {elt tgt iter : Expr} {ifs : List Expr} {scope : PySem.Scope} {pos : Pos} {l l1 l2 lc : Loc} {x : AV} {items ys : List PyData} {cap : List Str} (h1 : compOk scope = true) (hcap : captured scope.names = cap) (h2 : cap.all (fun x => isCellVar (kd sc x) && bound x l) = true) (h3 : evE C sc n iter l = some (x, l1)) (h4 : iterV x = some items) (h5 : capture (freezeAll cap l1) cap = some lc) (h6 : compLoop (mkComp (compScope sc scope) tgt (evTs C (compScope sc scope) n .And (holdEs ifs)) (evE C (compScope sc scope) n (holdE elt))) items lc [] = some ys) (h7 : ys.length ≤ 10000) (h8 : freezeAll cap l1 = l2) :
    evE C sc (n + 2) (.ListComp elt [⟨tgt, iter, ifs, 0⟩] scope pos) l = some (.d (.list ys), l2) := h8 ▸ comp_ok h1 hcap h2 h3 h4 h5 h6 h7
theorem turn_goes {C sc n t b v l l1} {P : Loc → Prop} (h : bindTgt sc t v l = some l1) (h' : Goes C sc n b l1 P) : ∃ l', mkStep sc t (evSs C sc n (holdB b)) v l = some (.next, l') ∧ P l' := by
  obtain ⟨l', e, p⟩ := h'
  exact ⟨l', by rw [mkStep, h]; exact e, p⟩
theorem ne_same {x : List PyData} (h : SeqAt.shaped (.list x) = true) : cmpV .NotEq (.d (.list x)) (.d (.list x)) = some false := by
  have e : PyData.eqv (.list x) (.list x) = true := SeqAt.eqv_refl _ (SeqAt.canLay_of_shaped h)
  rw [cv_NotEq, cd_ne, ed_l]; simp only [h, e, Bool.and_self, if_true, Bool.not_true]
theorem eq_same {x : List PyData} (h : SeqAt.shaped (.list x) = true) : cmpV .Eq (.d (.list x)) (.d (.list x)) = some true := by
  have e : PyData.eqv (.list x) (.list x) = true := SeqAt.eqv_refl _ (SeqAt.canLay_of_shaped h)
  rw [cv_Eq, cd_eq, ed_l]; simp only [h, e, Bool.and_self, if_true]
theorem comp_drop {α : Type} {step : PyData → Loc → Option (Option PyData × Loc)} (S : Loc → Prop) (inj : α → PyData) : ∀ (items : List α) (l : Loc) (acc : List PyData), (∀ x ∈ items, ∀ l, S l → ∃ l', step (inj x) l = some (none, l') ∧ S l') → S l →
    compLoop step (items.map inj) l acc = some acc
  | [], l, acc, _, _ => by simp [compLoop]
  | x :: r, l, acc, ht, h => by
    obtain ⟨l1, e, h1⟩ := ht x List.mem_cons_self l h
    rw [List.map_cons, comp_none e]
    exact comp_drop S inj r l1 acc (fun y hy => ht y (List.mem_cons_of_mem _ hy)) h1
theorem comp_filter2 {α : Type} {step : PyData → Loc → Option (Option PyData × Loc)} (S : Loc → Prop) (inj g : α → PyData) (p : α → Bool) : ∀ (items : List α) (l : Loc) (acc : List PyData), (∀ x ∈ items, ∀ l, S l → ∃ l', step (inj x) l = some (if p x then some (g x) else none, l') ∧ S l') → S l →
    compLoop step (items.map inj) l acc = some (acc ++ (items.filter p).map g)
  | [], l, acc, _, _ => by simp [compLoop]
  | x :: r, l, acc, ht, h => by
    obtain ⟨l1, e, h1⟩ := ht x List.mem_cons_self l h
    have ih := comp_filter2 (step := step) S inj g p r l1
    rw [List.map_cons]
    by_cases hp : p x = true
    · rw [hp] at e
      rw [comp_some e, ih _ (fun y hy => ht y (List.mem_cons_of_mem _ hy)) h1]
      simp [hp]
    · rw [Bool.not_eq_true] at hp
      rw [hp] at e
      rw [comp_none e, ih _ (fun y hy => ht y (List.mem_cons_of_mem _ hy)) h1]
      simp [hp]
/-! lookups in what was found -/
theorem dict_some {att : Nat → List Str} {u : Nat} (hu : u ∈ idx) : ∀ {F : List Nat}, (∀ x ∈ F, x ∈ idx) → u ∈ F → kget (nm u) (dictI nm att F) = some (.tuple (toStrs (att u)))
  | [], _, h => by simp at h
  | x :: r, hF, h => by
    have ih := dict_some (att := att) hu (F := r) (fun y hy => hF y (List.mem_cons_of_mem _ hy))
    have hx := hF x List.mem_cons_self
    unfold kget dictI at *
    rw [List.map_cons, lkp, eqb_nm u hu x hx]
    by_cases e : u = x
    · subst e; simp
    · rw [if_neg (by simp [e])]
      exact ih ((List.mem_cons.mp h).resolve_left e)
theorem keys_dict (att : Nat → List Str) (F : List Nat) : keysOf (dictI nm att F) = F.map nm := by
  rw [keysOf, dictI, List.map_map]; rfl
theorem found_of {q : Nat → Bool} {u : Nat} (hu : u ∈ Mq q) : u ∈ foundI q := by
  have h := Mq_mem.mp hu
  exact foundI_mem.mpr ⟨idx_order u h.1, by rw [knI, h.2]; rfl⟩
/-! what stands above -/
noncomputable def sp (u : Nat) : List Str := (splitN 47 [] (nm u).cps.toList).map mkS
noncomputable def aboveI (q : Nat → Bool) : List Nat := (Mq q).foldl (fun ks n => (parI n).foldl addN ks) []
theorem sp_len : ∀ u ∈ real, (sp u).length ≤ 9 := by decide +kernel
theorem sp_sum : ∀ u ∈ real, ∀ i, i < (sp u).length - 1 → sumLen ((sp u).take (i + 1)) + ((sp u).take (i + 1)).length * 1 ≤ 10000 := by decide +kernel
theorem sp_join : ∀ u ∈ real, ∀ i, i < (sp u).length - 1 → mkS (joinN [47] (((sp u).take (i + 1)).map fun x => x.cps.toList)) = nm ((parI u).getD i 0) := by decide +kernel
theorem sp_par : ∀ u ∈ real, (List.range ((sp u).length - 1)).map (fun i => (parI u).getD i 0) = parI u := by decide +kernel
theorem sp_idx : ∀ u ∈ real, ∀ i, i < (sp u).length - 1 → (parI u).getD i 0 ∈ idx := by decide +kernel
theorem aboveI_mem {q : Nat → Bool} {u : Nat} : u ∈ aboveI q ↔ ∃ n ∈ Mq q, u ∈ parI n := by
  rw [aboveI, fold2_mem]; simp
theorem aboveI_nodup (q : Nat → Bool) : (aboveI q).Nodup := fold2_nodup (by simp)
theorem aboveI_idx (q : Nat → Bool) : ∀ y ∈ aboveI q, y ∈ idx := fun y h => let ⟨n, hn, h⟩ := aboveI_mem.mp h; parI_idx n (Mq_idx q n hn) y h
theorem par_few : ∀ n ∈ idx, ∀ x ∈ parI n, x ∈ [1, 3, 4, 7, 9, 10, 12, 13] := by decide +kernel
theorem few_idx : ∀ x ∈ [1, 3, 4, 7, 9, 10, 12, 13], x ∈ idx := by decide +kernel
theorem aboveI_len (q : Nat → Bool) : (aboveI q).length ≤ 8 := nodup_sub_len (b := [1, 3, 4, 7, 9, 10, 12, 13]) (aboveI_nodup q) fun y h => let ⟨n, hn, h⟩ := aboveI_mem.mp h; par_few n (Mq_idx q n hn) y h
theorem aboveI_hb {q : Nat → Bool} {u : Nat} (hu : u ∈ idx) : (aboveI q).contains u = hbI q u := by
  rw [Bool.eq_iff_iff, List.contains_iff_mem, aboveI_mem, hbI, List.any_eq_true]
  constructor
  · rintro ⟨n, hn, h⟩
    have h1 := Mq_mem.mp hn
    rw [← List.contains_iff_mem, par_bel u hu n h1.1, List.contains_iff_mem] at h
    exact ⟨n, h, h1.2⟩
  · rintro ⟨n, hn, h⟩
    have hi := belI_idx u hu n hn
    rw [← List.contains_iff_mem, ← par_bel u hu n hi, List.contains_iff_mem] at hn
    exact ⟨n, Mq_mem.mpr ⟨hi, h⟩, hn⟩
/-! the two sets -/
theorem set_found (q : Nat → Bool) : unionS [] (keysOf (dictI nm (attI q) (foundI q))) = ((foundI q).foldl addN []).map nm := by
  rw [keys_dict]; exact foldS_nm (ks := []) nil_idx (foundI_idx q)
theorem set_names (q : Nat → Bool) : unionS [] (Nq q) = (keysN q).map nm := foldS_nm (ks := []) nil_idx (Mq_idx q)
theorem set_both (q : Nat → Bool) : unionS ((keysN q).map nm) ((aboveI q).map nm) = ((aboveI q).foldl addN (keysN q)).map nm := foldS_nm (keysN_idx q) (aboveI_idx q)
theorem sets_same (q : Nat → Bool) : cmpV .NotEq (.u (((foundI q).foldl addN []).map nm)) (.u (((aboveI q).foldl addN (keysN q)).map nm)) = some false := by
  have hX : ∀ u, u ∈ (foundI q).foldl addN [] ↔ u ∈ idx ∧ knI q u = true := by
    intro u
    rw [foldN_mem, foundI_mem]
    simp only [List.not_mem_nil, false_or]
    exact ⟨fun h => ⟨order_idx u h.1, h.2⟩, fun h => ⟨idx_order u h.1, h.2⟩⟩
  have hY : ∀ u, u ∈ (aboveI q).foldl addN (keysN q) ↔ u ∈ idx ∧ knI q u = true := by
    intro u
    rw [foldN_mem, keysN_mem, Mq_mem]
    constructor
    · rintro (h | h)
      · exact ⟨h.1, by rw [knI, h.2]; rfl⟩
      · have hi := aboveI_idx q u h
        refine ⟨hi, ?_⟩
        rw [← List.contains_iff_mem, aboveI_hb hi] at h
        rw [knI, h, Bool.or_true]
    · rintro ⟨hi, h⟩
      rw [knI, Bool.or_eq_true] at h
      rcases h with h | h
      · exact .inl ⟨hi, h⟩
      · rw [← aboveI_hb hi, List.contains_iff_mem] at h; exact .inr h
  have nX : ((foundI q).foldl addN []).Nodup := foldN_nodup (by simp)
  have nY : ((aboveI q).foldl addN (keysN q)).Nodup := foldN_nodup (keysN_nodup q)
  have l1 := nodup_sub_len nX (b := (aboveI q).foldl addN (keysN q)) fun x h => (hY x).mpr ((hX x).mp h)
  have l2 := nodup_sub_len nY (b := (foundI q).foldl addN []) fun x h => (hX x).mpr ((hY x).mp h)
  have l3 : Nat.beq ((foundI q).foldl addN []).length ((aboveI q).foldl addN (keysN q)).length = true := by
    rw [Nat.beq_eq]; omega
  have ha : (((foundI q).foldl addN []).map nm).all (elems (((aboveI q).foldl addN (keysN q)).map nm)) = true := by
    rw [List.all_map, List.all_eq_true]
    intro u hu
    have h := (hX u).mp hu
    show elems _ (nm u) = true
    rw [elems_nm h.1 (fun x hx => ((hY x).mp hx).1), List.contains_iff_mem, hY]
    exact h
  show some (!(Nat.beq (List.length (List.map nm _)) (List.length (List.map nm _)) && _)) = _
  rw [List.length_map, List.length_map, l3, ha]; rfl
/-! the reference -/
theorem lead_pre : ∀ k, k < 6 → ∀ u ∈ real, prefixN (lead k).cps.toList (nm u).cps.toList = ldI k u := by decide +kernel
theorem lead_all : ∀ u ∈ real, ldI 6 u = true := by decide +kernel
theorem leads : (["a", "a/", "h/i", "IN", "z", "b"] : List Str) = (List.range 6).map lead := by decide +kernel
theorem lead_6 : lead 6 = Str.ofString "" := by decide +kernel
theorem star_6 {q : Nat → Bool} (hq : realQ q) : starK q 6 = Mq q := by
  rw [starK, List.filter_eq_self]
  intro u hu
  exact lead_all u (hq u (Mq_mem.mp hu).2)
theorem lead_at {v : Int} (h : 0 ≤ v ∧ v < 6) : (toStrs (["a", "a/", "h/i", "IN", "z", "b"] : List Str))[v.toNat]? = some (.str (lead v.toNat)) := by
  have hl : v.toNat < (List.range 6).length := by rw [List.length_range]; omega
  rw [leads, toStrs, List.map_map, List.getElem?_map, List.getElem?_eq_getElem hl, List.getElem_range]; rfl
end Mine
end

section
open PySem
namespace Mine
set_option maxRecDepth 100000
set_option Elab.async false
set_option linter.unusedSimpArgs false
theorem menu_nm : (["a", "b", "a/c", "a/c/d", "b/e", "INBOX/f", "a/g", "h/i", "h/i/j", "k/l/m"] : List Str) = menuI.map nm := by decide +kernel
theorem inbox_nm : Str.ofString "INBOX" = nm 1 := by decide +kernel
theorem menu_real : ∀ u ∈ menuI, u ∈ real := by decide +kernel
theorem menu_at {v : Int} (h : 0 ≤ v ∧ v < 10) : ∃ u ∈ menuI, (toStrs (["a", "b", "a/c", "a/c/d", "b/e", "INBOX/f", "a/g", "h/i", "h/i/j", "k/l/m"] : List Str))[v.toNat]? = some (.str (nm u)) := by
  have hl : v.toNat < menuI.length := by show v.toNat < 10; omega
  refine ⟨menuI[v.toNat], List.getElem_mem hl, ?_⟩
  rw [menu_nm, toStrs, List.map_map, List.getElem?_map, List.getElem?_eq_getElem hl]; rfl
/-- the source: how often it was asked -/
structure Sr (cells : List Int) (m : Nat) (l : Loc) : Prop where
  src : ∃ (t : Nat) (x : Int), t ≤ m ∧ (0 ≤ x ∧ x ≤ 2147483647) ∧ lkp "source" l = some (.own (.m (srcM cells t x)))
/-- the names, while they are gathered -/
structure Na (m : Nat) (M : List Nat) (l : Loc) : Prop where
  names : lkp "names" l = some (.own (.d (.list (toStrs (M.map nm)))))
  nodup : M.Nodup
  mem : ∀ u ∈ M, u ∈ real
  one : 1 ∈ M
  len : M.length ≤ m + 1
/-- the names, laid in their order -/
structure Nb (cells : List Int) (q : Nat → Bool) (l : Loc) : Prop where
  src : Sr cells 7 l
  names : lkp "names" l = some (.val (.d (.list (toStrs (Nq q)))))
structure Nc (cells : List Int) (q : Nat → Bool) (l : Loc) : Prop where
  src : Sr cells 7 l
  names : lkp "names" l = some (.val (.d (.list (toStrs (Nq q)))))
  found : lkp "found" l = some (.val (.m (dictI nm (attI q) (foundI q))))
theorem beg_range (M : List Int) : 0 ≤ M.foldl begT 0 + 1 ∧ M.foldl begT 0 + 1 ≤ 2147483647 := by
  have := begT_range M 0 (by decide); omega
theorem law_c (C : Oracle) (ns : List Int)
    (hbeg : ∃ (cells : List Int) (x : Int), cells.length ≤ 63 ∧ (0 ≤ x ∧ x ≤ 2147483647) ∧ C "_law_begun" [.d (.list (ns.map .int))] = some ⟨.m (srcM cells 0 x), true, none⟩)
    (hnext : ∀ (cells : List Int), cells.length ≤ 63 → ∀ (t : Nat), t < 100 → ∀ (x : Int), 0 ≤ x ∧ x ≤ 2147483647 → ∀ (lim : Int), 0 < lim → ∃ (v y : Int), (0 ≤ v ∧ v < lim) ∧ (0 ≤ y ∧ y ≤ 2147483647) ∧ C "_law_next" [.m (srcM cells t x), .d (.int lim)] = some ⟨.d (.int v), false, some (.m (srcM cells (t + 1) y))⟩)
    (hmenu : C "_law_menu" [] = some ⟨.d (.list (toStrs ["a", "b", "a/c", "a/c/d", "b/e", "INBOX/f", "a/g", "h/i", "h/i/j", "k/l/m"])), true, none⟩)
    (hlev : ∀ (q : Nat → Bool), realQ q → q 1 = true → C "_law_levels" [.d (.list (toStrs (Nq q)))] = some ⟨.m (dictI nm (attI q) (foundI q)), false, none⟩)
    (hans : ∀ (q : Nat → Bool), realQ q → ∀ k, k < 7 → C "list_answers" [.d (.list (toStrs (Nq q))), .d (.str (lead k)), .d (.str "*")] = some ⟨.d (.list ((starK q k).map (rowI nm (attI q)))), false, none⟩) :
    callBody C (theD 17) [.d (.list (ns.map .int))] = some ⟨.d (.bool true), false, none⟩ := by
  obtain ⟨cells, x0, hcl, hx0, hbeg⟩ := hbeg
  refine callBody_runs (d := theD 17) rfl (by kernel_rfl) ?_
  conv => arg 4; whnf
  refine runs_next (by simp only [evR, lkp, lput, Mine.bound, ownFirst, capture, freezeAll, freeze1, List.map_cons, List.map_nil, List.all_cons, List.all_nil, String.reduceBEq, ↓reduceIte, beq_self_eq_true, Option.isSome_some, Option.isSome_none, Nat.reduceBEq, List.length_cons, List.length_nil, Nat.reduceAdd, Nat.reduceLeDiff, Nat.reduceLT, Int.reduceLE, Int.reduceLT, Int.reducePow, Int.reduceToNat, Int.reduceNeg, Int.reduceEq, List.reverse_singleton, List.getElem?_cons_zero, List.getElem?_cons_succ, Nat.reducePow, big, hbeg]; rfl) ?_
  refine runs_next (by simp only [evR, lkp, lput, Mine.bound, ownFirst, capture, freezeAll, freeze1, List.map_cons, List.map_nil, List.all_cons, List.all_nil, String.reduceBEq, ↓reduceIte, beq_self_eq_true, Option.isSome_some, Option.isSome_none, Nat.reduceBEq, List.length_cons, List.length_nil, Nat.reduceAdd, Nat.reduceLeDiff, Nat.reduceLT, Int.reduceLE, Int.reduceLT, Int.reducePow, Int.reduceToNat, Int.reduceNeg, Int.reduceEq, List.reverse_singleton, List.getElem?_cons_zero, List.getElem?_cons_succ, Nat.reducePow, big]; rfl) ?_
  refine runs_ex (fun l => Sr cells 7 l ∧ ∃ M, Na 6 M l) ?w1 fun l1 S1 => ?w2
  case w1 =>
    obtain ⟨v, y, hv, hy, hC⟩ := hnext cells hcl 0 (by decide) x0 hx0 7 (by decide)
    simp only [evR, lkp, lput, Mine.bound, ownFirst, capture, freezeAll, freeze1, List.map_cons, List.map_nil, List.all_cons, List.all_nil, String.reduceBEq, ↓reduceIte, beq_self_eq_true, Option.isSome_some, Option.isSome_none, Nat.reduceBEq, List.length_cons, List.length_nil, Nat.reduceAdd, Nat.reduceLeDiff, Nat.reduceLT, Int.reduceLE, Int.reduceLT, Int.reducePow, Int.reduceToNat, Int.reduceNeg, Int.reduceEq, List.reverse_singleton, List.getElem?_cons_zero, List.getElem?_cons_succ, Nat.reducePow, big, hC]
    have hv2 : -1000 < v ∧ v < 1000 := by omega
    simp only [hv2, and_self, if_true]
    generalize hstep : mkStep _ _ _ = step
    generalize hl0 : ([_, _, _] : Loc) = l0
    have S0 : Sr cells 1 l0 ∧ ∃ M, Na 0 M l0 := by
      subst hl0
      exact ⟨⟨1, y, by omega, hy, by simp only [evR, lkp, lput, Mine.bound, ownFirst, capture, freezeAll, freeze1, List.map_cons, List.map_nil, List.all_cons, List.all_nil, String.reduceBEq, ↓reduceIte, beq_self_eq_true, Option.isSome_some, Option.isSome_none, Nat.reduceBEq, List.length_cons, List.length_nil, Nat.reduceAdd, Nat.reduceLeDiff, Nat.reduceLT, Int.reduceLE, Int.reduceLT, Int.reducePow, Int.reduceToNat, Int.reduceNeg, Int.reduceEq, List.reverse_singleton, List.getElem?_cons_zero, List.getElem?_cons_succ, Nat.reducePow, big]⟩, [1], by simp only [evR, lkp, lput, Mine.bound, ownFirst, capture, freezeAll, freeze1, List.map_cons, List.map_nil, List.all_cons, List.all_nil, String.reduceBEq, ↓reduceIte, beq_self_eq_true, Option.isSome_some, Option.isSome_none, Nat.reduceBEq, List.length_cons, List.length_nil, Nat.reduceAdd, Nat.reduceLeDiff, Nat.reduceLT, Int.reduceLE, Int.reduceLT, Int.reducePow, Int.reduceToNat, Int.reduceNeg, Int.reduceEq, List.reverse_singleton, List.getElem?_cons_zero, List.getElem?_cons_succ, Nat.reducePow, big, inbox_nm]; rfl, by simp, by simp; decide, by simp, by simp⟩
    clear hl0
    have key := for_map (step := step) (fun (i : Nat) => .int (0 + i)) (fun pre l => Sr cells (1 + pre.length) l ∧ ∃ M, Na pre.length M l) (List.range (v - 0).toNat) [] (List.range (v - 0).toNat) rfl ?turn l0 S0
    · obtain ⟨l2, e2, ⟨t, x, h1, h2, h3⟩, M, m1, m2, m3, m4, m5⟩ := key
      rw [List.length_range] at h1 m5
      exact ⟨l2, e2, ⟨t, x, by omega, h2, h3⟩, M, m1, m2, m3, m4, by omega⟩
    case turn =>
      intro pre i post hs l S
      obtain ⟨⟨t, x, h1, h2, h3⟩, M, m1, m2, m3, m4, m5⟩ := S
      have hs' := congrArg List.length hs
      simp only [List.length_append, List.length_cons, List.length_range] at hs'
      obtain ⟨v, y, hv, hy, hC⟩ := hnext cells hcl t (by omega) x h2 10 (by decide)
      obtain ⟨u, hu, hm⟩ := menu_at hv
      have hv3 : 0 ≤ v := by omega
      have hv4 : v < 4611686018427387904 := by omega
      have hur := menu_real u hu
      have hel := elems_nm (real_idx u hur) (fun x hx => real_idx x (m3 x hx))
      have hml : (toStrs (M.map nm)).length < 10000 := by rw [toStrs, List.length_map, List.length_map]; omega
      rw [← hstep, List.length_append, List.length_singleton]
      by_cases hc : M.contains u = true
      · rw [hc] at hel
        exact ⟨_, .inl (by simp only [evR, lkp, lput, Mine.bound, ownFirst, capture, freezeAll, freeze1, List.map_cons, List.map_nil, List.all_cons, List.all_nil, String.reduceBEq, ↓reduceIte, beq_self_eq_true, Option.isSome_some, Option.isSome_none, Nat.reduceBEq, List.length_cons, List.length_nil, Nat.reduceAdd, Nat.reduceLeDiff, Nat.reduceLT, Int.reduceLE, Int.reduceLT, Int.reducePow, Int.reduceToNat, Int.reduceNeg, Int.reduceEq, List.reverse_singleton, List.getElem?_cons_zero, List.getElem?_cons_succ, Nat.reducePow, big, mkStep, holdB, bindTgt.eq_def, bindAll, h3, m1, hmenu, hC, hm, hv3, hv4, strsOf_toStrs', hel]; rfl), ⟨t + 1, y, by omega, hy, by simp only [evR, lkp, lput, Mine.bound, ownFirst, capture, freezeAll, freeze1, List.map_cons, List.map_nil, List.all_cons, List.all_nil, String.reduceBEq, ↓reduceIte, beq_self_eq_true, Option.isSome_some, Option.isSome_none, Nat.reduceBEq, List.length_cons, List.length_nil, Nat.reduceAdd, Nat.reduceLeDiff, Nat.reduceLT, Int.reduceLE, Int.reduceLT, Int.reducePow, Int.reduceToNat, Int.reduceNeg, Int.reduceEq, List.reverse_singleton, List.getElem?_cons_zero, List.getElem?_cons_succ, Nat.reducePow, big]⟩, M, by simp only [evR, lkp, lput, Mine.bound, ownFirst, capture, freezeAll, freeze1, List.map_cons, List.map_nil, List.all_cons, List.all_nil, String.reduceBEq, ↓reduceIte, beq_self_eq_true, Option.isSome_some, Option.isSome_none, Nat.reduceBEq, List.length_cons, List.length_nil, Nat.reduceAdd, Nat.reduceLeDiff, Nat.reduceLT, Int.reduceLE, Int.reduceLT, Int.reducePow, Int.reduceToNat, Int.reduceNeg, Int.reduceEq, List.reverse_singleton, List.getElem?_cons_zero, List.getElem?_cons_succ, Nat.reducePow, big, m1], m2, m3, m4, by omega⟩
      · rw [Bool.not_eq_true] at hc
        rw [hc] at hel
        have hc' : u ∉ M := by rw [← List.contains_iff_mem, hc]; simp
        refine ⟨_, .inl (by simp only [evR, lkp, lput, Mine.bound, ownFirst, capture, freezeAll, freeze1, List.map_cons, List.map_nil, List.all_cons, List.all_nil, String.reduceBEq, ↓reduceIte, beq_self_eq_true, Option.isSome_some, Option.isSome_none, Nat.reduceBEq, List.length_cons, List.length_nil, Nat.reduceAdd, Nat.reduceLeDiff, Nat.reduceLT, Int.reduceLE, Int.reduceLT, Int.reducePow, Int.reduceToNat, Int.reduceNeg, Int.reduceEq, List.reverse_singleton, List.getElem?_cons_zero, List.getElem?_cons_succ, Nat.reducePow, big, mkStep, holdB, bindTgt.eq_def, bindAll, h3, m1, hmenu, hC, hm, hv3, hv4, strsOf_toStrs', hel, hml]; rfl), ⟨t + 1, y, by omega, hy, by simp only [evR, lkp, lput, Mine.bound, ownFirst, capture, freezeAll, freeze1, List.map_cons, List.map_nil, List.all_cons, List.all_nil, String.reduceBEq, ↓reduceIte, beq_self_eq_true, Option.isSome_some, Option.isSome_none, Nat.reduceBEq, List.length_cons, List.length_nil, Nat.reduceAdd, Nat.reduceLeDiff, Nat.reduceLT, Int.reduceLE, Int.reduceLT, Int.reducePow, Int.reduceToNat, Int.reduceNeg, Int.reduceEq, List.reverse_singleton, List.getElem?_cons_zero, List.getElem?_cons_succ, Nat.reducePow, big]⟩, M ++ [u], by simp only [evR, lkp, lput, Mine.bound, ownFirst, capture, freezeAll, freeze1, List.map_cons, List.map_nil, List.all_cons, List.all_nil, String.reduceBEq, ↓reduceIte, beq_self_eq_true, Option.isSome_some, Option.isSome_none, Nat.reduceBEq, List.length_cons, List.length_nil, Nat.reduceAdd, Nat.reduceLeDiff, Nat.reduceLT, Int.reduceLE, Int.reduceLT, Int.reducePow, Int.reduceToNat, Int.reduceNeg, Int.reduceEq, List.reverse_singleton, List.getElem?_cons_zero, List.getElem?_cons_succ, Nat.reducePow, big, toStrs, List.map_append, List.map_cons, List.map_nil], ?_, ?_, ?_, ?_⟩
        · rw [List.nodup_append]
          refine ⟨m2, by simp, ?_⟩
          intro a ha b hb e
          simp only [List.mem_singleton] at hb
          subst hb; subst e; exact hc' ha
        · intro w hw
          rcases List.mem_append.mp hw with h | h
          · exact m3 w h
          · rw [List.mem_singleton.mp h]; exact hur
        · exact List.mem_append_left _ m4
        · rw [List.length_append, List.length_singleton]; omega
  obtain ⟨⟨t1, x1, ht1, hx1, s1⟩, M, m1, m2, m3, m4, m5⟩ := S1
  obtain ⟨q, hqe⟩ : ∃ q : Nat → Bool, q = fun u => M.contains u := ⟨_, rfl⟩
  have hqm : ∀ u, q u = true ↔ u ∈ M := fun u => by rw [hqe]; exact List.contains_iff_mem
  have hq : realQ q := fun u h => m3 u ((hqm u).mp h)
  have hq1 : q 1 = true := (hqm 1).mpr m4
  have hql : (Mq q).length ≤ 7 := Nat.le_trans (nodup_sub_len (Mq_nodup q) fun x hx => (hqm x).mp (Mq_mem.mp hx).2) m5
  have hsort : sortS (M.map nm) = Nq q := by
    rw [sort_nm m2 (fun x hx => real_idx x (m3 x hx)), Nq, Mq, hqe]
  have hlm : (M.map nm).length < 64 := by rw [List.length_map]; omega
  refine runs_ex (Nb cells q) ?a1 fun l2 S2 => ?a2
  case a1 =>
    exact ⟨_, by simp only [evR, lkp, lput, Mine.bound, ownFirst, capture, freezeAll, freeze1, List.map_cons, List.map_nil, List.all_cons, List.all_nil, String.reduceBEq, ↓reduceIte, beq_self_eq_true, Option.isSome_some, Option.isSome_none, Nat.reduceBEq, List.length_cons, List.length_nil, Nat.reduceAdd, Nat.reduceLeDiff, Nat.reduceLT, Int.reduceLE, Int.reduceLT, Int.reducePow, Int.reduceToNat, Int.reduceNeg, Int.reduceEq, List.reverse_singleton, List.getElem?_cons_zero, List.getElem?_cons_succ, Nat.reducePow, big, m1, strsOf_toStrs', hlm, hsort]; rfl, ⟨t1, x1, ht1, hx1, by simp only [evR, lkp, lput, Mine.bound, ownFirst, capture, freezeAll, freeze1, List.map_cons, List.map_nil, List.all_cons, List.all_nil, String.reduceBEq, ↓reduceIte, beq_self_eq_true, Option.isSome_some, Option.isSome_none, Nat.reduceBEq, List.length_cons, List.length_nil, Nat.reduceAdd, Nat.reduceLeDiff, Nat.reduceLT, Int.reduceLE, Int.reduceLT, Int.reducePow, Int.reduceToNat, Int.reduceNeg, Int.reduceEq, List.reverse_singleton, List.getElem?_cons_zero, List.getElem?_cons_succ, Nat.reducePow, big, s1]⟩, by simp only [evR, lkp, lput, Mine.bound, ownFirst, capture, freezeAll, freeze1, List.map_cons, List.map_nil, List.all_cons, List.all_nil, String.reduceBEq, ↓reduceIte, beq_self_eq_true, Option.isSome_some, Option.isSome_none, Nat.reduceBEq, List.length_cons, List.length_nil, Nat.reduceAdd, Nat.reduceLeDiff, Nat.reduceLT, Int.reduceLE, Int.reduceLT, Int.reducePow, Int.reduceToNat, Int.reduceNeg, Int.reduceEq, List.reverse_singleton, List.getElem?_cons_zero, List.getElem?_cons_succ, Nat.reducePow, big]⟩
  clear hsort hlm hqe hqm m1 m2 m3 m4 m5 s1 hx1 ht1
  have hlv := hlev q hq hq1
  refine runs_ex (Nc cells q) ?b1 fun l3 S3 => ?b2
  case b1 =>
    obtain ⟨⟨t, x, h1, h2, h3⟩, n1⟩ := S2
    exact ⟨_, by simp only [evR, lkp, lput, Mine.bound, ownFirst, capture, freezeAll, freeze1, List.map_cons, List.map_nil, List.all_cons, List.all_nil, String.reduceBEq, ↓reduceIte, beq_self_eq_true, Option.isSome_some, Option.isSome_none, Nat.reduceBEq, List.length_cons, List.length_nil, Nat.reduceAdd, Nat.reduceLeDiff, Nat.reduceLT, Int.reduceLE, Int.reduceLT, Int.reducePow, Int.reduceToNat, Int.reduceNeg, Int.reduceEq, List.reverse_singleton, List.getElem?_cons_zero, List.getElem?_cons_succ, Nat.reducePow, big, n1, hlv]; rfl, ⟨t, x, h1, h2, by simp only [evR, lkp, lput, Mine.bound, ownFirst, capture, freezeAll, freeze1, List.map_cons, List.map_nil, List.all_cons, List.all_nil, String.reduceBEq, ↓reduceIte, beq_self_eq_true, Option.isSome_some, Option.isSome_none, Nat.reduceBEq, List.length_cons, List.length_nil, Nat.reduceAdd, Nat.reduceLeDiff, Nat.reduceLT, Int.reduceLE, Int.reduceLT, Int.reducePow, Int.reduceToNat, Int.reduceNeg, Int.reduceEq, List.reverse_singleton, List.getElem?_cons_zero, List.getElem?_cons_succ, Nat.reducePow, big, h3]⟩, by simp only [evR, lkp, lput, Mine.bound, ownFirst, capture, freezeAll, freeze1, List.map_cons, List.map_nil, List.all_cons, List.all_nil, String.reduceBEq, ↓reduceIte, beq_self_eq_true, Option.isSome_some, Option.isSome_none, Nat.reduceBEq, List.length_cons, List.length_nil, Nat.reduceAdd, Nat.reduceLeDiff, Nat.reduceLT, Int.reduceLE, Int.reduceLT, Int.reducePow, Int.reduceToNat, Int.reduceNeg, Int.reduceEq, List.reverse_singleton, List.getElem?_cons_zero, List.getElem?_cons_succ, Nat.reducePow, big, n1], by simp only [evR, lkp, lput, Mine.bound, ownFirst, capture, freezeAll, freeze1, List.map_cons, List.map_nil, List.all_cons, List.all_nil, String.reduceBEq, ↓reduceIte, beq_self_eq_true, Option.isSome_some, Option.isSome_none, Nat.reduceBEq, List.length_cons, List.length_nil, Nat.reduceAdd, Nat.reduceLeDiff, Nat.reduceLT, Int.reduceLE, Int.reduceLT, Int.reducePow, Int.reduceToNat, Int.reduceNeg, Int.reduceEq, List.reverse_singleton, List.getElem?_cons_zero, List.getElem?_cons_succ, Nat.reducePow, big]⟩
  clear S2
  refine runs_ex (Nc cells q) ?c1 fun l4 S4 => ?c2
  case c1 =>
    obtain ⟨⟨t, x, h1, h2, h3⟩, n1, f1⟩ := S3
    exact ⟨l3, by simp only [evR, lkp, lput, Mine.bound, ownFirst, capture, freezeAll, freeze1, List.map_cons, List.map_nil, List.all_cons, List.all_nil, String.reduceBEq, ↓reduceIte, beq_self_eq_true, Option.isSome_some, Option.isSome_none, Nat.reduceBEq, List.length_cons, List.length_nil, Nat.reduceAdd, Nat.reduceLeDiff, Nat.reduceLT, Int.reduceLE, Int.reduceLT, Int.reducePow, Int.reduceToNat, Int.reduceNeg, Int.reduceEq, List.reverse_singleton, List.getElem?_cons_zero, List.getElem?_cons_succ, Nat.reducePow, big, f1], ⟨t, x, h1, h2, h3⟩, n1, f1⟩
  clear S3
  have hst := hans q hq 6 (by decide)
  rw [lead_6, star_6 hq] at hst
  refine runs_ex (fun l => Nc cells q l ∧ lkp "every" l = some (.val (.d (.list ((Mq q).map (rowI nm (attI q))))))) ?d1 fun l5 S5 => ?d2
  case d1 =>
    obtain ⟨⟨t, x, h1, h2, h3⟩, n1, f1⟩ := S4
    exact ⟨_, by simp only [evR, lkp, lput, Mine.bound, ownFirst, capture, freezeAll, freeze1, List.map_cons, List.map_nil, List.all_cons, List.all_nil, String.reduceBEq, ↓reduceIte, beq_self_eq_true, Option.isSome_some, Option.isSome_none, Nat.reduceBEq, List.length_cons, List.length_nil, Nat.reduceAdd, Nat.reduceLeDiff, Nat.reduceLT, Int.reduceLE, Int.reduceLT, Int.reducePow, Int.reduceToNat, Int.reduceNeg, Int.reduceEq, List.reverse_singleton, List.getElem?_cons_zero, List.getElem?_cons_succ, Nat.reducePow, big, n1, hst]; rfl, ⟨⟨t, x, h1, h2, by simp only [evR, lkp, lput, Mine.bound, ownFirst, capture, freezeAll, freeze1, List.map_cons, List.map_nil, List.all_cons, List.all_nil, String.reduceBEq, ↓reduceIte, beq_self_eq_true, Option.isSome_some, Option.isSome_none, Nat.reduceBEq, List.length_cons, List.length_nil, Nat.reduceAdd, Nat.reduceLeDiff, Nat.reduceLT, Int.reduceLE, Int.reduceLT, Int.reducePow, Int.reduceToNat, Int.reduceNeg, Int.reduceEq, List.reverse_singleton, List.getElem?_cons_zero, List.getElem?_cons_succ, Nat.reducePow, big, h3]⟩, by simp only [evR, lkp, lput, Mine.bound, ownFirst, capture, freezeAll, freeze1, List.map_cons, List.map_nil, List.all_cons, List.all_nil, String.reduceBEq, ↓reduceIte, beq_self_eq_true, Option.isSome_some, Option.isSome_none, Nat.reduceBEq, List.length_cons, List.length_nil, Nat.reduceAdd, Nat.reduceLeDiff, Nat.reduceLT, Int.reduceLE, Int.reduceLT, Int.reducePow, Int.reduceToNat, Int.reduceNeg, Int.reduceEq, List.reverse_singleton, List.getElem?_cons_zero, List.getElem?_cons_succ, Nat.reducePow, big, n1], by simp only [evR, lkp, lput, Mine.bound, ownFirst, capture, freezeAll, freeze1, List.map_cons, List.map_nil, List.all_cons, List.all_nil, String.reduceBEq, ↓reduceIte, beq_self_eq_true, Option.isSome_some, Option.isSome_none, Nat.reduceBEq, List.length_cons, List.length_nil, Nat.reduceAdd, Nat.reduceLeDiff, Nat.reduceLT, Int.reduceLE, Int.reduceLT, Int.reducePow, Int.reduceToNat, Int.reduceNeg, Int.reduceEq, List.reverse_singleton, List.getElem?_cons_zero, List.getElem?_cons_succ, Nat.reducePow, big, f1]⟩, by simp only [evR, lkp, lput, Mine.bound, ownFirst, capture, freezeAll, freeze1, List.map_cons, List.map_nil, List.all_cons, List.all_nil, String.reduceBEq, ↓reduceIte, beq_self_eq_true, Option.isSome_some, Option.isSome_none, Nat.reduceBEq, List.length_cons, List.length_nil, Nat.reduceAdd, Nat.reduceLeDiff, Nat.reduceLT, Int.reduceLE, Int.reduceLT, Int.reducePow, Int.reduceToNat, Int.reduceNeg, Int.reduceEq, List.reverse_singleton, List.getElem?_cons_zero, List.getElem?_cons_succ, Nat.reducePow, big]⟩
  clear S4
  obtain ⟨S5, y1⟩ := S5
  have shN : SeqAt.shaped (.list (toStrs (Nq q))) = true := shaped_strs (ok_nms (Mq_idx q))
  refine runs_ex (Nc cells q) ?e1 fun l6 S6 => ?e2
  case e1 =>
    refine ⟨l5, ?_, S5⟩
    have y2 := S5.found
    refine ev_if_f (evT_or2 (l1 := l5) (evT_cmp (x := .d (.list (toStrs (Nq q)))) (l1 := l5) (y := .d (.list (toStrs (Nq q)))) ?A1 (by simp only [evR, lkp, lput, Mine.bound, ownFirst, capture, freezeAll, freeze1, List.map_cons, List.map_nil, List.all_cons, List.all_nil, String.reduceBEq, ↓reduceIte, beq_self_eq_true, Option.isSome_some, Option.isSome_none, Nat.reduceBEq, List.length_cons, List.length_nil, Nat.reduceAdd, Nat.reduceLeDiff, Nat.reduceLT, Int.reduceLE, Int.reduceLT, Int.reducePow, Int.reduceToNat, Int.reduceNeg, Int.reduceEq, List.reverse_singleton, List.getElem?_cons_zero, List.getElem?_cons_succ, Nat.reducePow, big, S5.names]) (ne_same shN)) (evT_cmp (x := .d (.list [])) (l1 := l5) (y := .d (.list [])) ?A2 (by simp only [evR, lkp, lput, Mine.bound, ownFirst, capture, freezeAll, freeze1, List.map_cons, List.map_nil, List.all_cons, List.all_nil, String.reduceBEq, ↓reduceIte, beq_self_eq_true, Option.isSome_some, Option.isSome_none, Nat.reduceBEq, List.length_cons, List.length_nil, Nat.reduceAdd, Nat.reduceLeDiff, Nat.reduceLT, Int.reduceLE, Int.reduceLT, Int.reducePow, Int.reduceToNat, Int.reduceNeg, Int.reduceEq, List.reverse_singleton, List.getElem?_cons_zero, List.getElem?_cons_succ, Nat.reducePow, big]) (ne_same (by decide +kernel))))
    case A1 =>
      refine comp_ok2 (C := C) (l1 := l5) (cap := []) (lc := []) (items := (Mq q).map (rowI nm (attI q))) (ys := toStrs (Nq q)) (x := .d (.list ((Mq q).map (rowI nm (attI q))))) (l := l5) ?g1 ?g2 ?g3 ?g4 ?g5 ?g6 ?g7 ?g8 rfl
      case g1 => decide +kernel
      case g2 => rfl
      case g3 => simp only [evR, lkp, lput, Mine.bound, ownFirst, capture, freezeAll, freeze1, List.map_cons, List.map_nil, List.all_cons, List.all_nil, String.reduceBEq, ↓reduceIte, beq_self_eq_true, Option.isSome_some, Option.isSome_none, Nat.reduceBEq, List.length_cons, List.length_nil, Nat.reduceAdd, Nat.reduceLeDiff, Nat.reduceLT, Int.reduceLE, Int.reduceLT, Int.reducePow, Int.reduceToNat, Int.reduceNeg, Int.reduceEq, List.reverse_singleton, List.getElem?_cons_zero, List.getElem?_cons_succ, Nat.reducePow, big]
      case g4 => simp only [evR, lkp, lput, Mine.bound, ownFirst, capture, freezeAll, freeze1, List.map_cons, List.map_nil, List.all_cons, List.all_nil, String.reduceBEq, ↓reduceIte, beq_self_eq_true, Option.isSome_some, Option.isSome_none, Nat.reduceBEq, List.length_cons, List.length_nil, Nat.reduceAdd, Nat.reduceLeDiff, Nat.reduceLT, Int.reduceLE, Int.reduceLT, Int.reducePow, Int.reduceToNat, Int.reduceNeg, Int.reduceEq, List.reverse_singleton, List.getElem?_cons_zero, List.getElem?_cons_succ, Nat.reducePow, big, y1]
      case g5 => simp only [evR, lkp, lput, Mine.bound, ownFirst, capture, freezeAll, freeze1, List.map_cons, List.map_nil, List.all_cons, List.all_nil, String.reduceBEq, ↓reduceIte, beq_self_eq_true, Option.isSome_some, Option.isSome_none, Nat.reduceBEq, List.length_cons, List.length_nil, Nat.reduceAdd, Nat.reduceLeDiff, Nat.reduceLT, Int.reduceLE, Int.reduceLT, Int.reducePow, Int.reduceToNat, Int.reduceNeg, Int.reduceEq, List.reverse_singleton, List.getElem?_cons_zero, List.getElem?_cons_succ, Nat.reducePow, big]
      case g6 => simp only [evR, lkp, lput, Mine.bound, ownFirst, capture, freezeAll, freeze1, List.map_cons, List.map_nil, List.all_cons, List.all_nil, String.reduceBEq, ↓reduceIte, beq_self_eq_true, Option.isSome_some, Option.isSome_none, Nat.reduceBEq, List.length_cons, List.length_nil, Nat.reduceAdd, Nat.reduceLeDiff, Nat.reduceLT, Int.reduceLE, Int.reduceLT, Int.reducePow, Int.reduceToNat, Int.reduceNeg, Int.reduceEq, List.reverse_singleton, List.getElem?_cons_zero, List.getElem?_cons_succ, Nat.reducePow, big]
      case g7 =>
        generalize hstep : mkComp _ _ _ _ = step
        have key := comp_map (step := step) (fun _ => True) (rowI nm (attI q)) (fun u => .str (nm u)) (Mq q) [] [] ?turng trivial
        · rw [key, List.nil_append, toStrs, Nq, List.map_map]; rfl
        case turng =>
          intro u hu l S
          rw [← hstep]
          exact ⟨_, by simp only [evR, lkp, lput, Mine.bound, ownFirst, capture, freezeAll, freeze1, List.map_cons, List.map_nil, List.all_cons, List.all_nil, String.reduceBEq, ↓reduceIte, beq_self_eq_true, Option.isSome_some, Option.isSome_none, Nat.reduceBEq, List.length_cons, List.length_nil, Nat.reduceAdd, Nat.reduceLeDiff, Nat.reduceLT, Int.reduceLE, Int.reduceLT, Int.reducePow, Int.reduceToNat, Int.reduceNeg, Int.reduceEq, List.reverse_singleton, List.getElem?_cons_zero, List.getElem?_cons_succ, Nat.reducePow, big, mkComp, holdE, holdEs, bindTgt.eq_def, bindAll, rowI]; rfl, trivial⟩
      case g8 => rw [toStrs, List.length_map]; have := Nq_len q; omega
    case A2 =>
      refine comp_ok2 (C := C) (l1 := l5) (cap := ["found"]) (lc := [("found", .val (.m (dictI nm (attI q) (foundI q))))]) (items := (Mq q).map (rowI nm (attI q))) (ys := []) (x := .d (.list ((Mq q).map (rowI nm (attI q))))) (l := l5) ?k1 ?k2 ?k3 ?k4 ?k5 ?k6 ?k7 ?k8 (by simp only [evR, lkp, lput, Mine.bound, ownFirst, capture, freezeAll, freeze1, List.map_cons, List.map_nil, List.all_cons, List.all_nil, String.reduceBEq, ↓reduceIte, beq_self_eq_true, Option.isSome_some, Option.isSome_none, Nat.reduceBEq, List.length_cons, List.length_nil, Nat.reduceAdd, Nat.reduceLeDiff, Nat.reduceLT, Int.reduceLE, Int.reduceLT, Int.reducePow, Int.reduceToNat, Int.reduceNeg, Int.reduceEq, List.reverse_singleton, List.getElem?_cons_zero, List.getElem?_cons_succ, Nat.reducePow, big, y2])
      case k1 => decide +kernel
      case k2 => rfl
      case k3 => simp only [evR, lkp, lput, Mine.bound, ownFirst, capture, freezeAll, freeze1, List.map_cons, List.map_nil, List.all_cons, List.all_nil, String.reduceBEq, ↓reduceIte, beq_self_eq_true, Option.isSome_some, Option.isSome_none, Nat.reduceBEq, List.length_cons, List.length_nil, Nat.reduceAdd, Nat.reduceLeDiff, Nat.reduceLT, Int.reduceLE, Int.reduceLT, Int.reducePow, Int.reduceToNat, Int.reduceNeg, Int.reduceEq, List.reverse_singleton, List.getElem?_cons_zero, List.getElem?_cons_succ, Nat.reducePow, big, y2]
      case k4 => simp only [evR, lkp, lput, Mine.bound, ownFirst, capture, freezeAll, freeze1, List.map_cons, List.map_nil, List.all_cons, List.all_nil, String.reduceBEq, ↓reduceIte, beq_self_eq_true, Option.isSome_some, Option.isSome_none, Nat.reduceBEq, List.length_cons, List.length_nil, Nat.reduceAdd, Nat.reduceLeDiff, Nat.reduceLT, Int.reduceLE, Int.reduceLT, Int.reducePow, Int.reduceToNat, Int.reduceNeg, Int.reduceEq, List.reverse_singleton, List.getElem?_cons_zero, List.getElem?_cons_succ, Nat.reducePow, big, y1]
      case k5 => simp only [evR, lkp, lput, Mine.bound, ownFirst, capture, freezeAll, freeze1, List.map_cons, List.map_nil, List.all_cons, List.all_nil, String.reduceBEq, ↓reduceIte, beq_self_eq_true, Option.isSome_some, Option.isSome_none, Nat.reduceBEq, List.length_cons, List.length_nil, Nat.reduceAdd, Nat.reduceLeDiff, Nat.reduceLT, Int.reduceLE, Int.reduceLT, Int.reducePow, Int.reduceToNat, Int.reduceNeg, Int.reduceEq, List.reverse_singleton, List.getElem?_cons_zero, List.getElem?_cons_succ, Nat.reducePow, big]
      case k6 => simp only [evR, lkp, lput, Mine.bound, ownFirst, capture, freezeAll, freeze1, List.map_cons, List.map_nil, List.all_cons, List.all_nil, String.reduceBEq, ↓reduceIte, beq_self_eq_true, Option.isSome_some, Option.isSome_none, Nat.reduceBEq, List.length_cons, List.length_nil, Nat.reduceAdd, Nat.reduceLeDiff, Nat.reduceLT, Int.reduceLE, Int.reduceLT, Int.reducePow, Int.reduceToNat, Int.reduceNeg, Int.reduceEq, List.reverse_singleton, List.getElem?_cons_zero, List.getElem?_cons_succ, Nat.reducePow, big, y2]
      case k7 =>
        generalize hstep : mkComp _ _ _ _ = step
        refine comp_drop (step := step) (fun l => lkp "found" l = some (.val (.m (dictI nm (attI q) (foundI q))))) (rowI nm (attI q)) (Mq q) _ [] ?turnk (by simp only [evR, lkp, lput, Mine.bound, ownFirst, capture, freezeAll, freeze1, List.map_cons, List.map_nil, List.all_cons, List.all_nil, String.reduceBEq, ↓reduceIte, beq_self_eq_true, Option.isSome_some, Option.isSome_none, Nat.reduceBEq, List.length_cons, List.length_nil, Nat.reduceAdd, Nat.reduceLeDiff, Nat.reduceLT, Int.reduceLE, Int.reduceLT, Int.reducePow, Int.reduceToNat, Int.reduceNeg, Int.reduceEq, List.reverse_singleton, List.getElem?_cons_zero, List.getElem?_cons_succ, Nat.reducePow, big])
        case turnk =>
          intro u hu l S
          have hg := dict_some (att := attI q) (Mq_idx q u hu) (foundI_idx q) (found_of hu)
          have sh := shaped_tup (ok_att q u)
          have eq := SeqAt.eqv_refl _ (SeqAt.canLay_of_shaped sh)
          rw [← hstep]
          exact ⟨_, by simp only [evR, lkp, lput, Mine.bound, ownFirst, capture, freezeAll, freeze1, List.map_cons, List.map_nil, List.all_cons, List.all_nil, String.reduceBEq, ↓reduceIte, beq_self_eq_true, Option.isSome_some, Option.isSome_none, Nat.reduceBEq, List.length_cons, List.length_nil, Nat.reduceAdd, Nat.reduceLeDiff, Nat.reduceLT, Int.reduceLE, Int.reduceLT, Int.reducePow, Int.reduceToNat, Int.reduceNeg, Int.reduceEq, List.reverse_singleton, List.getElem?_cons_zero, List.getElem?_cons_succ, Nat.reducePow, big, mkComp, holdE, holdEs, bindTgt.eq_def, bindAll, rowI, S, hg, Option.getD, sh, eq]; rfl, by simp only [evR, lkp, lput, Mine.bound, ownFirst, capture, freezeAll, freeze1, List.map_cons, List.map_nil, List.all_cons, List.all_nil, String.reduceBEq, ↓reduceIte, beq_self_eq_true, Option.isSome_some, Option.isSome_none, Nat.reduceBEq, List.length_cons, List.length_nil, Nat.reduceAdd, Nat.reduceLeDiff, Nat.reduceLT, Int.reduceLE, Int.reduceLT, Int.reducePow, Int.reduceToNat, Int.reduceNeg, Int.reduceEq, List.reverse_singleton, List.getElem?_cons_zero, List.getElem?_cons_succ, Nat.reducePow, big, S]⟩
      case k8 => simp
  clear S5 y1
  refine runs_ex (fun l => Nc cells q l ∧ lkp "above" l = some (.own (.u []))) ?i1 fun l7 S7 => ?i2
  case i1 =>
    obtain ⟨⟨t, x, h1, h2, h3⟩, n1, f1⟩ := S6
    exact ⟨_, by simp only [evR, lkp, lput, Mine.bound, ownFirst, capture, freezeAll, freeze1, List.map_cons, List.map_nil, List.all_cons, List.all_nil, String.reduceBEq, ↓reduceIte, beq_self_eq_true, Option.isSome_some, Option.isSome_none, Nat.reduceBEq, List.length_cons, List.length_nil, Nat.reduceAdd, Nat.reduceLeDiff, Nat.reduceLT, Int.reduceLE, Int.reduceLT, Int.reducePow, Int.reduceToNat, Int.reduceNeg, Int.reduceEq, List.reverse_singleton, List.getElem?_cons_zero, List.getElem?_cons_succ, Nat.reducePow, big]; rfl, ⟨⟨t, x, h1, h2, by simp only [evR, lkp, lput, Mine.bound, ownFirst, capture, freezeAll, freeze1, List.map_cons, List.map_nil, List.all_cons, List.all_nil, String.reduceBEq, ↓reduceIte, beq_self_eq_true, Option.isSome_some, Option.isSome_none, Nat.reduceBEq, List.length_cons, List.length_nil, Nat.reduceAdd, Nat.reduceLeDiff, Nat.reduceLT, Int.reduceLE, Int.reduceLT, Int.reducePow, Int.reduceToNat, Int.reduceNeg, Int.reduceEq, List.reverse_singleton, List.getElem?_cons_zero, List.getElem?_cons_succ, Nat.reducePow, big, h3]⟩, by simp only [evR, lkp, lput, Mine.bound, ownFirst, capture, freezeAll, freeze1, List.map_cons, List.map_nil, List.all_cons, List.all_nil, String.reduceBEq, ↓reduceIte, beq_self_eq_true, Option.isSome_some, Option.isSome_none, Nat.reduceBEq, List.length_cons, List.length_nil, Nat.reduceAdd, Nat.reduceLeDiff, Nat.reduceLT, Int.reduceLE, Int.reduceLT, Int.reducePow, Int.reduceToNat, Int.reduceNeg, Int.reduceEq, List.reverse_singleton, List.getElem?_cons_zero, List.getElem?_cons_succ, Nat.reducePow, big, n1], by simp only [evR, lkp, lput, Mine.bound, ownFirst, capture, freezeAll, freeze1, List.map_cons, List.map_nil, List.all_cons, List.all_nil, String.reduceBEq, ↓reduceIte, beq_self_eq_true, Option.isSome_some, Option.isSome_none, Nat.reduceBEq, List.length_cons, List.length_nil, Nat.reduceAdd, Nat.reduceLeDiff, Nat.reduceLT, Int.reduceLE, Int.reduceLT, Int.reducePow, Int.reduceToNat, Int.reduceNeg, Int.reduceEq, List.reverse_singleton, List.getElem?_cons_zero, List.getElem?_cons_succ, Nat.reducePow, big, f1]⟩, by simp only [evR, lkp, lput, Mine.bound, ownFirst, capture, freezeAll, freeze1, List.map_cons, List.map_nil, List.all_cons, List.all_nil, String.reduceBEq, ↓reduceIte, beq_self_eq_true, Option.isSome_some, Option.isSome_none, Nat.reduceBEq, List.length_cons, List.length_nil, Nat.reduceAdd, Nat.reduceLeDiff, Nat.reduceLT, Int.reduceLE, Int.reduceLT, Int.reducePow, Int.reduceToNat, Int.reduceNeg, Int.reduceEq, List.reverse_singleton, List.getElem?_cons_zero, List.getElem?_cons_succ, Nat.reducePow, big]⟩
  clear S6
  refine runs_ex (fun l => Nc cells q l ∧ lkp "above" l = some (.own (.u ((aboveI q).map nm)))) ?j1 fun l8 S8 => ?j2
  case j1 =>
    have n7 := S7.1.names
    simp only [evR, lkp, lput, Mine.bound, ownFirst, capture, freezeAll, freeze1, List.map_cons, List.map_nil, List.all_cons, List.all_nil, String.reduceBEq, ↓reduceIte, beq_self_eq_true, Option.isSome_some, Option.isSome_none, Nat.reduceBEq, List.length_cons, List.length_nil, Nat.reduceAdd, Nat.reduceLeDiff, Nat.reduceLT, Int.reduceLE, Int.reduceLT, Int.reducePow, Int.reduceToNat, Int.reduceNeg, Int.reduceEq, List.reverse_singleton, List.getElem?_cons_zero, List.getElem?_cons_succ, Nat.reducePow, big, n7]
    generalize hstep : mkStep _ _ _ = step
    have e0 : toStrs (Nq q) = (Mq q).map (fun u => .str (nm u)) := by rw [toStrs, Nq, List.map_map]; rfl
    rw [e0]
    refine for_map (step := step) (fun u => .str (nm u)) (fun pre l => Nc cells q l ∧ lkp "above" l = some (.own (.u ((pre.foldl (fun ks n => (parI n).foldl addN ks) []).map nm)))) (Mq q) [] (Mq q) rfl ?turnj l7 S7
    case turnj =>
      intro pre u post hs l S
      have hu : u ∈ Mq q := by rw [← hs]; simp
      have hur := hq u (Mq_mem.mp hu).2
      have hpre : ∀ y ∈ pre.foldl (fun ks n => (parI n).foldl addN ks) [], y ∈ [1, 3, 4, 7, 9, 10, 12, 13] := fun y hy => by
        rw [fold2_mem] at hy
        obtain ⟨n, hn, h⟩ := hy.resolve_left (by simp)
        exact par_few n (Mq_idx q n (by rw [← hs]; simp [hn])) y h
      have hpn : (pre.foldl (fun ks n => (parI n).foldl addN ks) []).Nodup := fold2_nodup (by simp)
      rw [List.foldl_append, List.foldl_cons, List.foldl_nil]
      generalize pre.foldl (fun ks n => (parI n).foldl addN ks) [] = A at *
      suffices h : ∃ l', step (.str (nm u)) l = some (.next, l') ∧ Nc cells q l' ∧ lkp "above" l' = some (.own (.u (((parI u).foldl addN A).map nm))) from let ⟨l', a, b⟩ := h; ⟨l', .inl a, b⟩
      obtain ⟨⟨⟨t, x, h1, h2, h3⟩, n1, f1⟩, a1⟩ := S
      have hsp : (splitN 47 [] (nm u).cps.toList).map (fun l => PyData.str (mkS l)) = toStrs (sp u) := by rw [sp, toStrs, List.map_map]; rfl
      have hsh : (nm u).cps.toList.length ≤ 10000 := by have := nm_short u (real_idx u hur); omega
      have hln : (toStrs (sp u)).length = (sp u).length := by rw [toStrs, List.length_map]
      have hl9 := sp_len u hur
      have hlb : (sp u).length ≤ 10000 := by omega
      have hk1 : -1000 < ((sp u).length : Int) := by omega
      have hk2 : ((sp u).length : Int) < 1000 := by omega
      have hkt : (((sp u).length : Int) - 1).toNat = (sp u).length - 1 := by omega
      rw [← hstep]
      refine turn_goes (l1 := lput "name" (.val (.d (.str (nm u)))) l) (by simp only [evR, lkp, lput, Mine.bound, ownFirst, capture, freezeAll, freeze1, List.map_cons, List.map_nil, List.all_cons, List.all_nil, String.reduceBEq, ↓reduceIte, beq_self_eq_true, Option.isSome_some, Option.isSome_none, Nat.reduceBEq, List.length_cons, List.length_nil, Nat.reduceAdd, Nat.reduceLeDiff, Nat.reduceLT, Int.reduceLE, Int.reduceLT, Int.reducePow, Int.reduceToNat, Int.reduceNeg, Int.reduceEq, List.reverse_singleton, List.getElem?_cons_zero, List.getElem?_cons_succ, Nat.reducePow, big, bindTgt.eq_def, bindAll]) ?_
      refine goes_next (by simp only [evR, lkp, lput, Mine.bound, ownFirst, capture, freezeAll, freeze1, List.map_cons, List.map_nil, List.all_cons, List.all_nil, String.reduceBEq, ↓reduceIte, beq_self_eq_true, Option.isSome_some, Option.isSome_none, Nat.reduceBEq, List.length_cons, List.length_nil, Nat.reduceAdd, Nat.reduceLeDiff, Nat.reduceLT, Int.reduceLE, Int.reduceLT, Int.reducePow, Int.reduceToNat, Int.reduceNeg, Int.reduceEq, List.reverse_singleton, List.getElem?_cons_zero, List.getElem?_cons_succ, Nat.reducePow, big, hsp, hsh]; rfl) ?_
      refine goes_ex (fun l' => Nc cells q l' ∧ lkp "above" l' = some (.own (.u (((parI u).foldl addN A).map nm)))) ?inn fun l3 S3 => goes_nil S3
      generalize hl0 : lput "parts" _ _ = l0
      have S0 : (Nc cells q l0 ∧ lkp "parts" l0 = some (.val (.d (.list (toStrs (sp u)))))) ∧ lkp "above" l0 = some (.own (.u (A.map nm))) := by
        subst hl0
        exact ⟨⟨⟨⟨t, x, h1, h2, by simp only [evR, lkp, lput, Mine.bound, ownFirst, capture, freezeAll, freeze1, List.map_cons, List.map_nil, List.all_cons, List.all_nil, String.reduceBEq, ↓reduceIte, beq_self_eq_true, Option.isSome_some, Option.isSome_none, Nat.reduceBEq, List.length_cons, List.length_nil, Nat.reduceAdd, Nat.reduceLeDiff, Nat.reduceLT, Int.reduceLE, Int.reduceLT, Int.reducePow, Int.reduceToNat, Int.reduceNeg, Int.reduceEq, List.reverse_singleton, List.getElem?_cons_zero, List.getElem?_cons_succ, Nat.reducePow, big, h3]⟩, by simp only [evR, lkp, lput, Mine.bound, ownFirst, capture, freezeAll, freeze1, List.map_cons, List.map_nil, List.all_cons, List.all_nil, String.reduceBEq, ↓reduceIte, beq_self_eq_true, Option.isSome_some, Option.isSome_none, Nat.reduceBEq, List.length_cons, List.length_nil, Nat.reduceAdd, Nat.reduceLeDiff, Nat.reduceLT, Int.reduceLE, Int.reduceLT, Int.reducePow, Int.reduceToNat, Int.reduceNeg, Int.reduceEq, List.reverse_singleton, List.getElem?_cons_zero, List.getElem?_cons_succ, Nat.reducePow, big, n1], by simp only [evR, lkp, lput, Mine.bound, ownFirst, capture, freezeAll, freeze1, List.map_cons, List.map_nil, List.all_cons, List.all_nil, String.reduceBEq, ↓reduceIte, beq_self_eq_true, Option.isSome_some, Option.isSome_none, Nat.reduceBEq, List.length_cons, List.length_nil, Nat.reduceAdd, Nat.reduceLeDiff, Nat.reduceLT, Int.reduceLE, Int.reduceLT, Int.reducePow, Int.reduceToNat, Int.reduceNeg, Int.reduceEq, List.reverse_singleton, List.getElem?_cons_zero, List.getElem?_cons_succ, Nat.reducePow, big, f1]⟩, by simp only [evR, lkp, lput, Mine.bound, ownFirst, capture, freezeAll, freeze1, List.map_cons, List.map_nil, List.all_cons, List.all_nil, String.reduceBEq, ↓reduceIte, beq_self_eq_true, Option.isSome_some, Option.isSome_none, Nat.reduceBEq, List.length_cons, List.length_nil, Nat.reduceAdd, Nat.reduceLeDiff, Nat.reduceLT, Int.reduceLE, Int.reduceLT, Int.reducePow, Int.reduceToNat, Int.reduceNeg, Int.reduceEq, List.reverse_singleton, List.getElem?_cons_zero, List.getElem?_cons_succ, Nat.reducePow, big]⟩, by simp only [evR, lkp, lput, Mine.bound, ownFirst, capture, freezeAll, freeze1, List.map_cons, List.map_nil, List.all_cons, List.all_nil, String.reduceBEq, ↓reduceIte, beq_self_eq_true, Option.isSome_some, Option.isSome_none, Nat.reduceBEq, List.length_cons, List.length_nil, Nat.reduceAdd, Nat.reduceLeDiff, Nat.reduceLT, Int.reduceLE, Int.reduceLT, Int.reducePow, Int.reduceToNat, Int.reduceNeg, Int.reduceEq, List.reverse_singleton, List.getElem?_cons_zero, List.getElem?_cons_succ, Nat.reducePow, big, a1]⟩
      have p0 := S0.1.2
      simp only [evR, lkp, lput, Mine.bound, ownFirst, capture, freezeAll, freeze1, List.map_cons, List.map_nil, List.all_cons, List.all_nil, String.reduceBEq, ↓reduceIte, beq_self_eq_true, Option.isSome_some, Option.isSome_none, Nat.reduceBEq, List.length_cons, List.length_nil, Nat.reduceAdd, Nat.reduceLeDiff, Nat.reduceLT, Int.reduceLE, Int.reduceLT, Int.reducePow, Int.reduceToNat, Int.reduceNeg, Int.reduceEq, List.reverse_singleton, List.getElem?_cons_zero, List.getElem?_cons_succ, Nat.reducePow, big, p0, hln, hlb, hk1, hk2]
      generalize hin : mkStep _ _ _ = inner
      clear hl0
      rw [rangeD, hkt]
      have key := for_map (step := inner) (fun (i : Nat) => .int (1 + i)) (fun pre l => (Nc cells q l ∧ lkp "parts" l = some (.val (.d (.list (toStrs (sp u)))))) ∧ lkp "above" l = some (.own (.u (((pre.map fun i => (parI u).getD i 0).foldl addN A).map nm)))) (List.range ((sp u).length - 1)) [] (List.range ((sp u).length - 1)) rfl ?turnj2 l0 S0
      · obtain ⟨l2, e2, S2, a2⟩ := key
        rw [sp_par u hur] at a2
        exact ⟨l2, e2, S2.1, a2⟩
      case turnj2 =>
        intro pre2 i post2 hs2 l S
        obtain ⟨⟨⟨⟨t, x, h1, h2, h3⟩, n1, f1⟩, p1⟩, a1⟩ := S
        have hi : i < (sp u).length - 1 := List.mem_range.mp (by rw [← hs2]; simp)
        have hsub : ∀ y ∈ (pre2.map fun i => (parI u).getD i 0).foldl addN A, y ∈ [1, 3, 4, 7, 9, 10, 12, 13] := fun y hy => by
          rw [foldN_mem] at hy
          rcases hy with hy | hy
          · exact hpre y hy
          · refine par_few u (real_idx u hur) y ?_
            rw [← sp_par u hur, ← hs2, List.map_append]
            exact List.mem_append_left _ hy
        have hnd : ((pre2.map fun i => (parI u).getD i 0).foldl addN A).Nodup := foldN_nodup hpn
        have hgi := sp_idx u hur i hi
        have hsum := sp_sum u hur i hi
        have hj := sp_join u hur i hi
        rw [List.map_append, List.foldl_append, List.map_cons, List.map_nil, List.foldl_cons, List.foldl_nil]
        generalize (pre2.map fun i => (parI u).getD i 0).foldl addN A = B at *
        have hBl : (B.map nm).length < 64 := by
          have := nodup_sub_len hnd hsub
          rw [List.length_map]
          simp only [List.length_cons, List.length_nil] at this
          omega
        have hadd : addS (B.map nm) (nm ((parI u).getD i 0)) = (addN B ((parI u).getD i 0)).map nm := addS_nm (fun y hy => few_idx y (hsub y hy)) hgi
        obtain ⟨c, hc⟩ : ∃ c : Int, c = 1 + (i : Int) := ⟨_, rfl⟩
        rw [← hc]
        have hi1 : 0 ≤ c := by omega
        have hi2 : c < 4611686018427387904 := by omega
        have htk : strsOf (List.take c.toNat (toStrs (sp u))) = some ((sp u).take (i + 1)) := by
          rw [show c.toNat = i + 1 by omega, toStrs, ← List.map_take]
          exact strsOf_toStrs' _
        refine ⟨_, .inl (by rw [← hin]; simp only [evR, lkp, lput, Mine.bound, ownFirst, capture, freezeAll, freeze1, List.map_cons, List.map_nil, List.all_cons, List.all_nil, String.reduceBEq, ↓reduceIte, beq_self_eq_true, Option.isSome_some, Option.isSome_none, Nat.reduceBEq, List.length_cons, List.length_nil, Nat.reduceAdd, Nat.reduceLeDiff, Nat.reduceLT, Int.reduceLE, Int.reduceLT, Int.reducePow, Int.reduceToNat, Int.reduceNeg, Int.reduceEq, List.reverse_singleton, List.getElem?_cons_zero, List.getElem?_cons_succ, Nat.reducePow, big, mkStep, holdB, bindTgt.eq_def, bindAll, p1, a1, hi1, hi2, hln, hlb, htk, hsum, hj, hBl, hadd]; rfl), ⟨⟨⟨t, x, h1, h2, by simp only [evR, lkp, lput, Mine.bound, ownFirst, capture, freezeAll, freeze1, List.map_cons, List.map_nil, List.all_cons, List.all_nil, String.reduceBEq, ↓reduceIte, beq_self_eq_true, Option.isSome_some, Option.isSome_none, Nat.reduceBEq, List.length_cons, List.length_nil, Nat.reduceAdd, Nat.reduceLeDiff, Nat.reduceLT, Int.reduceLE, Int.reduceLT, Int.reducePow, Int.reduceToNat, Int.reduceNeg, Int.reduceEq, List.reverse_singleton, List.getElem?_cons_zero, List.getElem?_cons_succ, Nat.reducePow, big, h3]⟩, by simp only [evR, lkp, lput, Mine.bound, ownFirst, capture, freezeAll, freeze1, List.map_cons, List.map_nil, List.all_cons, List.all_nil, String.reduceBEq, ↓reduceIte, beq_self_eq_true, Option.isSome_some, Option.isSome_none, Nat.reduceBEq, List.length_cons, List.length_nil, Nat.reduceAdd, Nat.reduceLeDiff, Nat.reduceLT, Int.reduceLE, Int.reduceLT, Int.reducePow, Int.reduceToNat, Int.reduceNeg, Int.reduceEq, List.reverse_singleton, List.getElem?_cons_zero, List.getElem?_cons_succ, Nat.reducePow, big, n1], by simp only [evR, lkp, lput, Mine.bound, ownFirst, capture, freezeAll, freeze1, List.map_cons, List.map_nil, List.all_cons, List.all_nil, String.reduceBEq, ↓reduceIte, beq_self_eq_true, Option.isSome_some, Option.isSome_none, Nat.reduceBEq, List.length_cons, List.length_nil, Nat.reduceAdd, Nat.reduceLeDiff, Nat.reduceLT, Int.reduceLE, Int.reduceLT, Int.reducePow, Int.reduceToNat, Int.reduceNeg, Int.reduceEq, List.reverse_singleton, List.getElem?_cons_zero, List.getElem?_cons_succ, Nat.reducePow, big, f1]⟩, by simp only [evR, lkp, lput, Mine.bound, ownFirst, capture, freezeAll, freeze1, List.map_cons, List.map_nil, List.all_cons, List.all_nil, String.reduceBEq, ↓reduceIte, beq_self_eq_true, Option.isSome_some, Option.isSome_none, Nat.reduceBEq, List.length_cons, List.length_nil, Nat.reduceAdd, Nat.reduceLeDiff, Nat.reduceLT, Int.reduceLE, Int.reduceLT, Int.reducePow, Int.reduceToNat, Int.reduceNeg, Int.reduceEq, List.reverse_singleton, List.getElem?_cons_zero, List.getElem?_cons_succ, Nat.reducePow, big, p1]⟩, by simp only [evR, lkp, lput, Mine.bound, ownFirst, capture, freezeAll, freeze1, List.map_cons, List.map_nil, List.all_cons, List.all_nil, String.reduceBEq, ↓reduceIte, beq_self_eq_true, Option.isSome_some, Option.isSome_none, Nat.reduceBEq, List.length_cons, List.length_nil, Nat.reduceAdd, Nat.reduceLeDiff, Nat.reduceLT, Int.reduceLE, Int.reduceLT, Int.reducePow, Int.reduceToNat, Int.reduceNeg, Int.reduceEq, List.reverse_singleton, List.getElem?_cons_zero, List.getElem?_cons_succ, Nat.reducePow, big]⟩
  clear S7
  refine runs_ex (fun l => Nc cells q l ∧ lkp "above" l = some (.own (.u ((aboveI q).map nm)))) ?m1 fun l9 S9 => ?m2
  case m1 =>
    obtain ⟨S8, a8⟩ := S8
    have f8 := S8.found
    have n8 := S8.names
    refine ⟨l8, ?_, S8, a8⟩
    have hd16 : (dictI nm (attI q) (foundI q)).length < 16 := by have := foundI_len q; rw [dictI, List.length_map]; omega
    have hn64 : (Nq q).length < 64 := by have := Nq_len q; omega
    have h15 : ((keysN q).map nm).length + ((aboveI q).map nm).length ≤ 15 := by
      have h1 := nodup_sub_len (keysN_nodup q) (b := Mq q) fun x h => keysN_mem.mp h
      have h2 := aboveI_len q
      rw [List.length_map, List.length_map]; omega
    refine ev_if_f (evT_cmp (x := .u (((foundI q).foldl addN []).map nm)) (l1 := l8) (y := .u (((aboveI q).foldl addN (keysN q)).map nm)) ?M1 ?M2 (sets_same q))
    case M1 => simp only [evR, lkp, lput, Mine.bound, ownFirst, capture, freezeAll, freeze1, List.map_cons, List.map_nil, List.all_cons, List.all_nil, String.reduceBEq, ↓reduceIte, beq_self_eq_true, Option.isSome_some, Option.isSome_none, Nat.reduceBEq, List.length_cons, List.length_nil, Nat.reduceAdd, Nat.reduceLeDiff, Nat.reduceLT, Int.reduceLE, Int.reduceLT, Int.reducePow, Int.reduceToNat, Int.reduceNeg, Int.reduceEq, List.reverse_singleton, List.getElem?_cons_zero, List.getElem?_cons_succ, Nat.reducePow, big, f8, hd16, set_found]
    case M2 => simp only [evR, lkp, lput, Mine.bound, ownFirst, capture, freezeAll, freeze1, List.map_cons, List.map_nil, List.all_cons, List.all_nil, String.reduceBEq, ↓reduceIte, beq_self_eq_true, Option.isSome_some, Option.isSome_none, Nat.reduceBEq, List.length_cons, List.length_nil, Nat.reduceAdd, Nat.reduceLeDiff, Nat.reduceLT, Int.reduceLE, Int.reduceLT, Int.reducePow, Int.reduceToNat, Int.reduceNeg, Int.reduceEq, List.reverse_singleton, List.getElem?_cons_zero, List.getElem?_cons_succ, Nat.reducePow, big, n8, strsOf_toStrs', hn64, set_names, a8, h15, set_both]
  clear S8
  refine runs_ex (Nc cells q) ?n1 fun l10 S10 => ?n2
  case n1 =>
    have f9 := S9.1.found
    simp only [evR, lkp, lput, Mine.bound, ownFirst, capture, freezeAll, freeze1, List.map_cons, List.map_nil, List.all_cons, List.all_nil, String.reduceBEq, ↓reduceIte, beq_self_eq_true, Option.isSome_some, Option.isSome_none, Nat.reduceBEq, List.length_cons, List.length_nil, Nat.reduceAdd, Nat.reduceLeDiff, Nat.reduceLT, Int.reduceLE, Int.reduceLT, Int.reducePow, Int.reduceToNat, Int.reduceNeg, Int.reduceEq, List.reverse_singleton, List.getElem?_cons_zero, List.getElem?_cons_succ, Nat.reducePow, big, f9]
    generalize hstep : mkStep _ _ _ = step
    have e0 : toStrs (keysOf (dictI nm (attI q) (foundI q))) = (foundI q).map (fun u => .str (nm u)) := by rw [keys_dict, toStrs, List.map_map]; rfl
    rw [e0]
    suffices h : ∃ l', forLoop step ((foundI q).map (fun u => .str (nm u))) l9 = some (.next, l') ∧ Nc cells q l' ∧ lkp "above" l' = some (.own (.u ((aboveI q).map nm))) from let ⟨l', a, b, _⟩ := h; ⟨l', a, b⟩
    refine for_map (step := step) (fun u => .str (nm u)) (fun _ l => Nc cells q l ∧ lkp "above" l = some (.own (.u ((aboveI q).map nm)))) (foundI q) [] (foundI q) rfl ?turnn l9 S9
    case turnn =>
      intro pre u post hs l S
      have hu : u ∈ foundI q := by rw [← hs]; simp
      have hi := foundI_idx q u hu
      have hg := dict_some (att := attI q) hi (foundI_idx q) hu
      have k1 : elems (attI q u) (Str.ofString "\\Noselect") = !q u := has_ns q u
      have k2 : elems (attI q u) (Str.ofString "\\HasChildren") = hbI q u := has_hb q u
      have k3 : elems (attI q u) (Str.ofString "\\HasNoChildren") = !hbI q u := has_no q u
      have k4 := elems_Nq (q := q) hi
      have k5 : elems ((aboveI q).map nm) (nm u) = hbI q u := by rw [elems_nm hi (aboveI_idx q), aboveI_hb hi]
      obtain ⟨⟨⟨t, x, h1, h2, h3⟩, n1, f1⟩, a1⟩ := S
      have b1 : (true == false) = false := rfl
      have b2 : (false == true) = false := rfl
      suffices h : ∃ l', step (.str (nm u)) l = some (.next, l') ∧ Nc cells q l' ∧ lkp "above" l' = some (.own (.u ((aboveI q).map nm))) from let ⟨l', a, b⟩ := h; ⟨l', .inl a, b⟩
      rw [← hstep]
      refine turn_goes (l1 := lput "name" (.val (.d (.str (nm u)))) l) (by simp only [evR, lkp, lput, Mine.bound, ownFirst, capture, freezeAll, freeze1, List.map_cons, List.map_nil, List.all_cons, List.all_nil, String.reduceBEq, ↓reduceIte, beq_self_eq_true, Option.isSome_some, Option.isSome_none, Nat.reduceBEq, List.length_cons, List.length_nil, Nat.reduceAdd, Nat.reduceLeDiff, Nat.reduceLT, Int.reduceLE, Int.reduceLT, Int.reducePow, Int.reduceToNat, Int.reduceNeg, Int.reduceEq, List.reverse_singleton, List.getElem?_cons_zero, List.getElem?_cons_succ, Nat.reducePow, big, bindTgt.eq_def, bindAll]) ?_
      generalize hl0 : lput "name" _ _ = l0
      have S0 : Nc cells q l0 := by subst hl0; exact ⟨⟨t, x, h1, h2, by simp only [evR, lkp, lput, Mine.bound, ownFirst, capture, freezeAll, freeze1, List.map_cons, List.map_nil, List.all_cons, List.all_nil, String.reduceBEq, ↓reduceIte, beq_self_eq_true, Option.isSome_some, Option.isSome_none, Nat.reduceBEq, List.length_cons, List.length_nil, Nat.reduceAdd, Nat.reduceLeDiff, Nat.reduceLT, Int.reduceLE, Int.reduceLT, Int.reducePow, Int.reduceToNat, Int.reduceNeg, Int.reduceEq, List.reverse_singleton, List.getElem?_cons_zero, List.getElem?_cons_succ, Nat.reducePow, big, h3]⟩, by simp only [evR, lkp, lput, Mine.bound, ownFirst, capture, freezeAll, freeze1, List.map_cons, List.map_nil, List.all_cons, List.all_nil, String.reduceBEq, ↓reduceIte, beq_self_eq_true, Option.isSome_some, Option.isSome_none, Nat.reduceBEq, List.length_cons, List.length_nil, Nat.reduceAdd, Nat.reduceLeDiff, Nat.reduceLT, Int.reduceLE, Int.reduceLT, Int.reducePow, Int.reduceToNat, Int.reduceNeg, Int.reduceEq, List.reverse_singleton, List.getElem?_cons_zero, List.getElem?_cons_succ, Nat.reducePow, big, n1], by simp only [evR, lkp, lput, Mine.bound, ownFirst, capture, freezeAll, freeze1, List.map_cons, List.map_nil, List.all_cons, List.all_nil, String.reduceBEq, ↓reduceIte, beq_self_eq_true, Option.isSome_some, Option.isSome_none, Nat.reduceBEq, List.length_cons, List.length_nil, Nat.reduceAdd, Nat.reduceLeDiff, Nat.reduceLT, Int.reduceLE, Int.reduceLT, Int.reducePow, Int.reduceToNat, Int.reduceNeg, Int.reduceEq, List.reverse_singleton, List.getElem?_cons_zero, List.getElem?_cons_succ, Nat.reducePow, big, f1]⟩
      have m0 : lkp "name" l0 = some (.val (.d (.str (nm u)))) := by subst hl0; simp only [evR, lkp, lput, Mine.bound, ownFirst, capture, freezeAll, freeze1, List.map_cons, List.map_nil, List.all_cons, List.all_nil, String.reduceBEq, ↓reduceIte, beq_self_eq_true, Option.isSome_some, Option.isSome_none, Nat.reduceBEq, List.length_cons, List.length_nil, Nat.reduceAdd, Nat.reduceLeDiff, Nat.reduceLT, Int.reduceLE, Int.reduceLT, Int.reducePow, Int.reduceToNat, Int.reduceNeg, Int.reduceEq, List.reverse_singleton, List.getElem?_cons_zero, List.getElem?_cons_succ, Nat.reducePow, big]
      have a0 : lkp "above" l0 = some (.own (.u ((aboveI q).map nm))) := by subst hl0; simp only [evR, lkp, lput, Mine.bound, ownFirst, capture, freezeAll, freeze1, List.map_cons, List.map_nil, List.all_cons, List.all_nil, String.reduceBEq, ↓reduceIte, beq_self_eq_true, Option.isSome_some, Option.isSome_none, Nat.reduceBEq, List.length_cons, List.length_nil, Nat.reduceAdd, Nat.reduceLeDiff, Nat.reduceLT, Int.reduceLE, Int.reduceLT, Int.reducePow, Int.reduceToNat, Int.reduceNeg, Int.reduceEq, List.reverse_singleton, List.getElem?_cons_zero, List.getElem?_cons_succ, Nat.reducePow, big, a1]
      clear hl0
      have n0 := S0.names
      have f0 := S0.found
      refine goes_next (l1 := l0) ?N1 (goes_next (l1 := l0) ?N2 (goes_nil ⟨S0, a0⟩))
      case N1 =>
        cases hqu : q u <;> cases hhu : hbI q u <;> rw [hqu] at k1 k4 <;> rw [hhu] at k2 k3 k5 <;> simp only [evR, lkp, lput, Mine.bound, ownFirst, capture, freezeAll, freeze1, List.map_cons, List.map_nil, List.all_cons, List.all_nil, String.reduceBEq, ↓reduceIte, beq_self_eq_true, Option.isSome_some, Option.isSome_none, Nat.reduceBEq, List.length_cons, List.length_nil, Nat.reduceAdd, Nat.reduceLeDiff, Nat.reduceLT, Int.reduceLE, Int.reduceLT, Int.reducePow, Int.reduceToNat, Int.reduceNeg, Int.reduceEq, List.reverse_singleton, List.getElem?_cons_zero, List.getElem?_cons_succ, Nat.reducePow, big, m0, n0, f0, a0, hg, strsOf_toStrs', k1, k2, k3, k4, k5, b1, b2]
      case N2 =>
        cases hqu : q u <;> cases hhu : hbI q u <;> rw [hqu] at k1 k4 <;> rw [hhu] at k2 k3 k5 <;> simp only [evR, lkp, lput, Mine.bound, ownFirst, capture, freezeAll, freeze1, List.map_cons, List.map_nil, List.all_cons, List.all_nil, String.reduceBEq, ↓reduceIte, beq_self_eq_true, Option.isSome_some, Option.isSome_none, Nat.reduceBEq, List.length_cons, List.length_nil, Nat.reduceAdd, Nat.reduceLeDiff, Nat.reduceLT, Int.reduceLE, Int.reduceLT, Int.reducePow, Int.reduceToNat, Int.reduceNeg, Int.reduceEq, List.reverse_singleton, List.getElem?_cons_zero, List.getElem?_cons_succ, Nat.reducePow, big, m0, n0, f0, a0, hg, strsOf_toStrs', k1, k2, k3, k4, k5, b1, b2]
  clear S9
  refine runs_ex (fun l => lkp "names" l = some (.val (.d (.list (toStrs (Nq q))))) ∧ ∃ k, k < 6 ∧ lkp "lead" l = some (.val (.d (.str (lead k))))) ?o1 fun l11 S11 => ?o2
  case o1 =>
    obtain ⟨⟨t, x, h1, h2, h3⟩, n1, f1⟩ := S10
    obtain ⟨v, y, hv, hy, hC⟩ := hnext cells hcl t (by omega) x h2 6 (by decide)
    have hm : [PyData.str (Str.ofString "a"), PyData.str (Str.ofString "a/"), PyData.str (Str.ofString "h/i"), PyData.str (Str.ofString "IN"), PyData.str (Str.ofString "z"), PyData.str (Str.ofString "b")][v.toNat]? = some (.str (lead v.toNat)) := lead_at hv
    have hv3 : 0 ≤ v := by omega
    have hv4 : v < 4611686018427387904 := by omega
    exact ⟨_, by simp only [evR, lkp, lput, Mine.bound, ownFirst, capture, freezeAll, freeze1, List.map_cons, List.map_nil, List.all_cons, List.all_nil, String.reduceBEq, ↓reduceIte, beq_self_eq_true, Option.isSome_some, Option.isSome_none, Nat.reduceBEq, List.length_cons, List.length_nil, Nat.reduceAdd, Nat.reduceLeDiff, Nat.reduceLT, Int.reduceLE, Int.reduceLT, Int.reducePow, Int.reduceToNat, Int.reduceNeg, Int.reduceEq, List.reverse_singleton, List.getElem?_cons_zero, List.getElem?_cons_succ, Nat.reducePow, big, h3, hC, hm, hv3, hv4]; rfl, by simp only [evR, lkp, lput, Mine.bound, ownFirst, capture, freezeAll, freeze1, List.map_cons, List.map_nil, List.all_cons, List.all_nil, String.reduceBEq, ↓reduceIte, beq_self_eq_true, Option.isSome_some, Option.isSome_none, Nat.reduceBEq, List.length_cons, List.length_nil, Nat.reduceAdd, Nat.reduceLeDiff, Nat.reduceLT, Int.reduceLE, Int.reduceLT, Int.reducePow, Int.reduceToNat, Int.reduceNeg, Int.reduceEq, List.reverse_singleton, List.getElem?_cons_zero, List.getElem?_cons_succ, Nat.reducePow, big, n1], v.toNat, by omega, by simp only [evR, lkp, lput, Mine.bound, ownFirst, capture, freezeAll, freeze1, List.map_cons, List.map_nil, List.all_cons, List.all_nil, String.reduceBEq, ↓reduceIte, beq_self_eq_true, Option.isSome_some, Option.isSome_none, Nat.reduceBEq, List.length_cons, List.length_nil, Nat.reduceAdd, Nat.reduceLeDiff, Nat.reduceLT, Int.reduceLE, Int.reduceLT, Int.reducePow, Int.reduceToNat, Int.reduceNeg, Int.reduceEq, List.reverse_singleton, List.getElem?_cons_zero, List.getElem?_cons_succ, Nat.reducePow, big]⟩
  obtain ⟨n2, k, hk, d2⟩ := S11
  have hst := hans q hq k (by omega)
  have shK : SeqAt.shaped (.list (toStrs ((starK q k).map nm))) = true := shaped_strs (ok_nms starK_idx)
  have hKl : (toStrs ((starK q k).map nm)).length ≤ 10000 := by
    have := starK_len q k
    rw [toStrs, List.length_map, List.length_map]; omega
  have e1 : (starK q k).map (fun u => PyData.str (nm u)) = toStrs ((starK q k).map nm) := by rw [toStrs, List.map_map]; rfl
  refine runs_ret (ret_cmp (x := .d (.list (toStrs ((starK q k).map nm)))) (l1 := l11) (y := .d (.list (toStrs ((starK q k).map nm)))) (l2 := l11) ?P1 (evB_comp ?P2) (eq_same shK))
  case P1 =>
    refine comp_ok2 (C := C) (l1 := l11) (cap := []) (lc := []) (items := (starK q k).map (rowI nm (attI q))) (ys := toStrs ((starK q k).map nm)) (x := .d (.list ((starK q k).map (rowI nm (attI q))))) (l := l11) ?p1 ?p2 ?p3 ?p4 ?p5 ?p6 ?p7 hKl rfl
    case p1 => decide +kernel
    case p2 => rfl
    case p3 => simp only [evR, lkp, lput, Mine.bound, ownFirst, capture, freezeAll, freeze1, List.map_cons, List.map_nil, List.all_cons, List.all_nil, String.reduceBEq, ↓reduceIte, beq_self_eq_true, Option.isSome_some, Option.isSome_none, Nat.reduceBEq, List.length_cons, List.length_nil, Nat.reduceAdd, Nat.reduceLeDiff, Nat.reduceLT, Int.reduceLE, Int.reduceLT, Int.reducePow, Int.reduceToNat, Int.reduceNeg, Int.reduceEq, List.reverse_singleton, List.getElem?_cons_zero, List.getElem?_cons_succ, Nat.reducePow, big]
    case p4 => simp only [evR, lkp, lput, Mine.bound, ownFirst, capture, freezeAll, freeze1, List.map_cons, List.map_nil, List.all_cons, List.all_nil, String.reduceBEq, ↓reduceIte, beq_self_eq_true, Option.isSome_some, Option.isSome_none, Nat.reduceBEq, List.length_cons, List.length_nil, Nat.reduceAdd, Nat.reduceLeDiff, Nat.reduceLT, Int.reduceLE, Int.reduceLT, Int.reducePow, Int.reduceToNat, Int.reduceNeg, Int.reduceEq, List.reverse_singleton, List.getElem?_cons_zero, List.getElem?_cons_succ, Nat.reducePow, big, n2, d2, hst]
    case p5 => simp only [evR, lkp, lput, Mine.bound, ownFirst, capture, freezeAll, freeze1, List.map_cons, List.map_nil, List.all_cons, List.all_nil, String.reduceBEq, ↓reduceIte, beq_self_eq_true, Option.isSome_some, Option.isSome_none, Nat.reduceBEq, List.length_cons, List.length_nil, Nat.reduceAdd, Nat.reduceLeDiff, Nat.reduceLT, Int.reduceLE, Int.reduceLT, Int.reducePow, Int.reduceToNat, Int.reduceNeg, Int.reduceEq, List.reverse_singleton, List.getElem?_cons_zero, List.getElem?_cons_succ, Nat.reducePow, big]
    case p6 => simp only [evR, lkp, lput, Mine.bound, ownFirst, capture, freezeAll, freeze1, List.map_cons, List.map_nil, List.all_cons, List.all_nil, String.reduceBEq, ↓reduceIte, beq_self_eq_true, Option.isSome_some, Option.isSome_none, Nat.reduceBEq, List.length_cons, List.length_nil, Nat.reduceAdd, Nat.reduceLeDiff, Nat.reduceLT, Int.reduceLE, Int.reduceLT, Int.reducePow, Int.reduceToNat, Int.reduceNeg, Int.reduceEq, List.reverse_singleton, List.getElem?_cons_zero, List.getElem?_cons_succ, Nat.reducePow, big]
    case p7 =>
      generalize hstep : mkComp _ _ _ _ = step
      have key := comp_map (step := step) (fun _ => True) (rowI nm (attI q)) (fun u => .str (nm u)) (starK q k) [] [] ?turnp trivial
      · rw [key, List.nil_append, e1]
      case turnp =>
        intro u hu l S
        rw [← hstep]
        exact ⟨_, by simp only [evR, lkp, lput, Mine.bound, ownFirst, capture, freezeAll, freeze1, List.map_cons, List.map_nil, List.all_cons, List.all_nil, String.reduceBEq, ↓reduceIte, beq_self_eq_true, Option.isSome_some, Option.isSome_none, Nat.reduceBEq, List.length_cons, List.length_nil, Nat.reduceAdd, Nat.reduceLeDiff, Nat.reduceLT, Int.reduceLE, Int.reduceLT, Int.reducePow, Int.reduceToNat, Int.reduceNeg, Int.reduceEq, List.reverse_singleton, List.getElem?_cons_zero, List.getElem?_cons_succ, Nat.reducePow, big, mkComp, holdE, holdEs, bindTgt.eq_def, bindAll, rowI]; rfl, trivial⟩
  case P2 =>
    refine comp_ok2 (C := C) (l1 := l11) (cap := ["lead"]) (lc := [("lead", .val (.d (.str (lead k))))]) (items := (Mq q).map fun u => .str (nm u)) (ys := toStrs ((starK q k).map nm)) (x := .d (.list (toStrs (Nq q)))) (l := l11) ?q1 ?q2 ?q3 ?q4 ?q5 ?q6 ?q7 hKl (by simp only [evR, lkp, lput, Mine.bound, ownFirst, capture, freezeAll, freeze1, List.map_cons, List.map_nil, List.all_cons, List.all_nil, String.reduceBEq, ↓reduceIte, beq_self_eq_true, Option.isSome_some, Option.isSome_none, Nat.reduceBEq, List.length_cons, List.length_nil, Nat.reduceAdd, Nat.reduceLeDiff, Nat.reduceLT, Int.reduceLE, Int.reduceLT, Int.reducePow, Int.reduceToNat, Int.reduceNeg, Int.reduceEq, List.reverse_singleton, List.getElem?_cons_zero, List.getElem?_cons_succ, Nat.reducePow, big, d2])
    case q1 => decide +kernel
    case q2 => rfl
    case q3 => simp only [evR, lkp, lput, Mine.bound, ownFirst, capture, freezeAll, freeze1, List.map_cons, List.map_nil, List.all_cons, List.all_nil, String.reduceBEq, ↓reduceIte, beq_self_eq_true, Option.isSome_some, Option.isSome_none, Nat.reduceBEq, List.length_cons, List.length_nil, Nat.reduceAdd, Nat.reduceLeDiff, Nat.reduceLT, Int.reduceLE, Int.reduceLT, Int.reducePow, Int.reduceToNat, Int.reduceNeg, Int.reduceEq, List.reverse_singleton, List.getElem?_cons_zero, List.getElem?_cons_succ, Nat.reducePow, big, d2]
    case q4 => simp only [evR, lkp, lput, Mine.bound, ownFirst, capture, freezeAll, freeze1, List.map_cons, List.map_nil, List.all_cons, List.all_nil, String.reduceBEq, ↓reduceIte, beq_self_eq_true, Option.isSome_some, Option.isSome_none, Nat.reduceBEq, List.length_cons, List.length_nil, Nat.reduceAdd, Nat.reduceLeDiff, Nat.reduceLT, Int.reduceLE, Int.reduceLT, Int.reducePow, Int.reduceToNat, Int.reduceNeg, Int.reduceEq, List.reverse_singleton, List.getElem?_cons_zero, List.getElem?_cons_succ, Nat.reducePow, big, n2]
    case q5 => rw [iterV, toStrs, Nq, List.map_map]; rfl
    case q6 => simp only [evR, lkp, lput, Mine.bound, ownFirst, capture, freezeAll, freeze1, List.map_cons, List.map_nil, List.all_cons, List.all_nil, String.reduceBEq, ↓reduceIte, beq_self_eq_true, Option.isSome_some, Option.isSome_none, Nat.reduceBEq, List.length_cons, List.length_nil, Nat.reduceAdd, Nat.reduceLeDiff, Nat.reduceLT, Int.reduceLE, Int.reduceLT, Int.reducePow, Int.reduceToNat, Int.reduceNeg, Int.reduceEq, List.reverse_singleton, List.getElem?_cons_zero, List.getElem?_cons_succ, Nat.reducePow, big, d2]
    case q7 =>
      generalize hstep : mkComp _ _ _ _ = step
      have key := comp_filter2 (step := step) (fun l => lkp "lead" l = some (.val (.d (.str (lead k))))) (fun u => .str (nm u)) (fun u => .str (nm u)) (ldI k) (Mq q) [("lead", .val (.d (.str (lead k))))] [] ?turnq (by simp only [evR, lkp, lput, Mine.bound, ownFirst, capture, freezeAll, freeze1, List.map_cons, List.map_nil, List.all_cons, List.all_nil, String.reduceBEq, ↓reduceIte, beq_self_eq_true, Option.isSome_some, Option.isSome_none, Nat.reduceBEq, List.length_cons, List.length_nil, Nat.reduceAdd, Nat.reduceLeDiff, Nat.reduceLT, Int.reduceLE, Int.reduceLT, Int.reducePow, Int.reduceToNat, Int.reduceNeg, Int.reduceEq, List.reverse_singleton, List.getElem?_cons_zero, List.getElem?_cons_succ, Nat.reducePow, big])
      · rw [key, List.nil_append, ← e1]; rfl
      case turnq =>
        intro u hu l S
        have hp := lead_pre k hk u (hq u (Mq_mem.mp hu).2)
        rw [← hstep]
        cases hl : ldI k u <;> rw [hl] at hp <;> exact ⟨_, by simp only [evR, lkp, lput, Mine.bound, ownFirst, capture, freezeAll, freeze1, List.map_cons, List.map_nil, List.all_cons, List.all_nil, String.reduceBEq, ↓reduceIte, beq_self_eq_true, Option.isSome_some, Option.isSome_none, Nat.reduceBEq, List.length_cons, List.length_nil, Nat.reduceAdd, Nat.reduceLeDiff, Nat.reduceLT, Int.reduceLE, Int.reduceLT, Int.reducePow, Int.reduceToNat, Int.reduceNeg, Int.reduceEq, List.reverse_singleton, List.getElem?_cons_zero, List.getElem?_cons_succ, Nat.reducePow, big, mkComp, holdE, holdEs, bindTgt.eq_def, bindAll, S, hp]; rfl, by simp only [evR, lkp, lput, Mine.bound, ownFirst, capture, freezeAll, freeze1, List.map_cons, List.map_nil, List.all_cons, List.all_nil, String.reduceBEq, ↓reduceIte, beq_self_eq_true, Option.isSome_some, Option.isSome_none, Nat.reduceBEq, List.length_cons, List.length_nil, Nat.reduceAdd, Nat.reduceLeDiff, Nat.reduceLT, Int.reduceLE, Int.reduceLT, Int.reducePow, Int.reduceToNat, Int.reduceNeg, Int.reduceEq, List.reverse_singleton, List.getElem?_cons_zero, List.getElem?_cons_succ, Nat.reducePow, big, S]⟩
end Mine
end

section
open PySem
namespace Mine
set_option maxRecDepth 100000
set_option Elab.async false
theorem pure_law (ns : List Int) (h : ns.length ≤ 63) : callEval 9 "law" [.d (.list (ns.map .int))] = some ⟨.d (.bool true), false, none⟩ := by
  rw [call_is _ _ _ find_law]
  refine law_c (callEval 8) ns ⟨ns.take 40, (ns.take 40).foldl begT 0 + 1, ?_, beg_range _, ?_⟩ ?_ ?_ (fun q hq h1 => lev8 hq h1) (fun q hq k hk => la8 hq hk)
  · rw [List.length_take]; omega
  · rw [call_is _ _ _ find_law_begun]; exact begun_c _ _ h
  · intro cells hc t ht x hx lim hl
    obtain ⟨v, y, a, b, e⟩ := next_c (callEval 7) cells hc t ht x hx lim hl
    exact ⟨v, y, a, b, by rw [call_is _ _ _ find_law_next]; exact e⟩
  · rw [call_is _ _ _ find_law_menu]; exact menu_c _
end Mine
end

set_option maxRecDepth 100000 in
theorem PySem.Challenge.cw_or0034_01_holds : PySem.Challenge.rw_or0034_01.Holds := by
  exact Mine.x Mine.pure_law
