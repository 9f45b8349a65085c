import PyProof.Rows.All
import Wide.All
import OpenK.AllK
import Wide.FinOn
import KE.KStateDown
import HandS.ForMost
import HandS.Defaults
import HandS.WordsExc
import HandS.Head0
import HandS.Head1
import HandS.Head2
import HandS.HeadEnd
import HandS.HeadHook1
import HandS.HeadHook2
import PySem.Challenge.RW_quires_k99_whole_notes_and_hands
import HandS.ForExc
import HandS.IsInst
import HandS.TupAny
import HandS.Style
import HandS.Deep
import HandS.Codes
import HandS.Text
import HandS.TupLen
import HandS.RaiseMore
import HandS.More
import HandS.Iter
import HandS.Zip
import KE.GoesEnum
import HandS.SortInts
import KE.KDictPairs
import PyProof.DictUpdate
import HandS.Set
import HandS.SetFor
import HandS.Strs
import HandS.SetTxt0
import KE.KDictZip
import KE.GoesMore
import KE.GoesZip
set_option Elab.async false
set_option linter.all false
set_option maxRecDepth 100000
section
/-! QF1: plain values, the store, a small syntax of the Python subset, and its evaluator (total, over plain Lean). -/
namespace QF

abbrev Cs := List Nat
/-- the most items of a list, signs of a text -/
def SL : Nat := PySem.sizeLine

/-- a plain value: lists and dicts by value (never written again); loc: a thing of the store; fn: a def; scr: the law's script; exc: an exception, its class, its fields -/
inductive D where
  | non
  | bl (b : Bool)
  | int (i : Int)
  | str (s : Cs)
  | tup (ds : List D)
  /-- a pair that a walk hands out, to be taken apart at once -/
  | pr (ds : List D)
  | lst (ds : List D)
  | dic (t : Bool) (ks vs : List D)
  | loc (n : Nat)
  | fn (f : Nat)
  | scr (is : List Int)
  | exc (c : Nat) (fs : List D)
  deriving Inhabited

/-- a thing of the store -/
inductive O where
  | dead
  | lst (ds : List D)
  | dic (t : Bool) (ks vs : List D)
  | ins (c : Nat) (fs : List (Nat × D))
  deriving Inhabited

abbrev Sto := List O
abbrev Env := List (Option D)

inductive Res (α : Type) where
  | ok (a : α) (S : Sto)
  | exc (c : Nat) (fs : List D) (S : Sto)
  | stk

def Res.bind {α β : Type} (r : Res α) (f : α → Sto → Res β) : Res β := match r with
  | .ok a S => f a S
  | .exc c fs S => .exc c fs S
  | .stk => .stk

/-- what is told, or stuck -/
def opt {α : Type} (o : Option α) (S : Sto) : Res α := match o with
  | some a => .ok a S
  | none => .stk

mutual
/-- no thing of the store in it -/
def D.flat : D → Bool
  | .tup ds => D.flats ds
  | .pr ds => D.flats ds
  | .lst ds => D.flats ds
  | .dic _ ks vs => D.flats ks && D.flats vs
  | .exc _ fs => D.flats fs
  | .loc _ => false
  | _ => true
def D.flats : List D → Bool
  | [] => true
  | d :: ds => D.flat d && D.flats ds
end

mutual
/-- only things below n in it -/
def D.under (n : Nat) : D → Bool
  | .tup ds => D.unders n ds
  | .pr ds => D.unders n ds
  | .lst ds => D.unders n ds
  | .dic _ ks vs => D.unders n ks && D.unders n vs
  | .exc _ fs => D.unders n fs
  | .loc m => decide (m < n)
  | _ => true
def D.unders (n : Nat) : List D → Bool
  | [] => true
  | d :: ds => D.under n d && D.unders n ds
end
def O.under (n : Nat) : O → Bool
  | .dead => true
  | .lst ds => D.unders n ds
  | .dic _ ks vs => D.unders n ks && D.unders n vs
  | .ins _ fs => fs.all fun p => D.under n p.2

/-- signs that a text may have -/
def okS (s : Cs) : Bool := s.all fun c => decide (c < 1114112)
mutual
/-- data that == tells apart: None, bools, ints, texts, lists, tuples of such, so deep at most -/
def D.pl : Nat → D → Bool
  | n, .tup ds => (match n with
    | 0 => false
    | m + 1 => D.pls m ds)
  | n, .lst ds => (match n with
    | 0 => false
    | m + 1 => D.pls m ds)
  | _, .non => true
  | _, .bl _ => true
  | _, .int _ => true
  | _, .str s => okS s
  | _, _ => false
def D.pls : Nat → List D → Bool
  | _, [] => true
  | n, d :: ds => D.pl n d && D.pls n ds
end
abbrev D.pln (d : D) : Bool := D.pl 64 d
abbrev D.plns (ds : List D) : Bool := D.pls 63 ds
/-- simple values, and pairs of such that == tells apart -/
def D.flt : D → Bool
  | .non => true
  | .bl _ => true
  | .int _ => true
  | .str _ => true
  | _ => false
def scP : D → D → Bool
  | .int _, .int _ => true
  | .str _, .str _ => true
  | .bl _, .bl _ => true
  | .non, .non => true
  | .non, .int _ => true
  | .int _, .non => true
  | .non, .str _ => true
  | .str _, .non => true
  | .int _, .str _ => true
  | .str _, .int _ => true
  | _, _ => false
/-- == is known -/
def eqOk (a b : D) : Bool := scP a b || (a.pln && b.pln)

mutual
/-- == of data -/
def eqv : D → D → Bool
  | .non, .non => true
  | .bl a, .bl b => a == b
  | .bl a, .int j => (if a then 1 else 0) == j
  | .int i, .bl b => i == (if b then 1 else 0)
  | .int i, .int j => i == j
  | .str a, .str b => a == b
  | .tup xs, .tup ys => eqvs xs ys
  | .lst xs, .lst ys => eqvs xs ys
  | _, _ => false
def eqvs : List D → List D → Bool
  | [], [] => true
  | x :: xs, y :: ys => eqv x y && eqvs xs ys
  | _, _ => false
end

mutual
/-- < of data -/
def ltD : D → D → Option Bool
  | .int i, .int j => some (decide (i < j))
  | .str a, .str b => some (decide (a < b))
  | .tup xs, .tup ys => ltDs xs ys
  | _, _ => none
def ltDs : List D → List D → Option Bool
  | [], [] => some false
  | [], _ :: _ => some true
  | _ :: _, [] => some false
  | x :: xs, y :: ys => if eqv x y then ltDs xs ys else ltD x y
end

/-- built-in functions of values -/
inductive Bi where
  | len | abs | int | str | tuple | list | sum | max | min | max2 | min2 | sorted | any | all
  | sortedSet | lenSet | dict | dictT
inductive Op where
  | add | sub | mul | fdiv | mod | pow | shl | shr | band | bor
inductive Cm where
  | eq | ne | lt | le | gt | ge | isIn | notIn | isNon | notNon | isTrue | notTrue
/-- methods of built-in things -/
inductive Mt where
  | append | pop0 | pop1 | insert | index | count | get2 | update | join | startswith | items | values | setdefault | split | replace | endswith
inductive Ty where
  | int | bool | str | tuple | list | cls (c : Nat)

/-- targets -/
inductive Tn where
  | name (i : Nat)
  | tup (ts : List Tn)

mutual
inductive Ex where
  | var (i : Nat)
  | non | bl (b : Bool) | int (i : Int) | str (s : Cs)
  | glob (g : Nat)
  | fnv (f : Nat)
  | tup (es : Es)
  | lst (m : Bool) (es : Es)
  | dict0 (t : Bool)
  | bin (o : Op) (a b : Ex)
  | neg (a : Ex)
  | not (a : Ex)
  | cmp (o : Cm) (a b : Ex)
  | chain (o o' : Cm) (a b c : Ex)
  | boolop (isAnd : Bool) (es : Es)
  | ife (t a b : Ex)
  | call (f : Nat) (es : Es)
  | bi (b : Bi) (m : Bool) (es : Es)
  | isi (a : Ex) (t : Ty)
  | idx (a b : Ex)
  | slice (m : Bool) (a : Ex) (lo hi : Oe)
  | rev (m : Bool) (a : Ex)
  | meth (b : Mt) (a : Ex) (es : Es)
  | comp (m : Bool) (own : List Nat) (tg : Tn) (it : It) (cond : Oe) (elt : Ex)
  | comp2 (m : Bool) (own : List Nat) (tg : Tn) (it : It) (tg1 : Tn) (it1 : It) (cond1 : Oe) (elt : Ex)
  | listIt (m : Bool) (it : It)
  | freeze (a : Ex)
inductive Es where
  | nil
  | cons (e : Ex) (es : Es)
inductive Oe where
  | no
  | yes (e : Ex)
/-- what is walked -/
inductive It where
  | of (e : Ex)
  | rng1 (a : Ex)
  | rng2 (a b : Ex)
  | enum (a : Ex)
  | zip (a b : Ex)
end

inductive St where
  | asg (tg : Tn) (e : Ex)
  | par (is : List Nat) (es : Es)
  | aug (i : Nat) (o : Op) (e : Ex)
  | sub (o i e : Ex)
  | augSub (o i : Ex) (op : Op) (e : Ex)
  | expr (e : Ex)
  | ret (e : Ex)
  | retN
  | pass
  | ifs (t : Ex) (a b : List St)
  | for_ (tg : Tn) (it : It) (body : List St)
  | while_ (t : Ex) (body : List St)
  | brk
  | cont
  | raise_ (c : Nat) (es : Es)
  /-- never come to -/
  | never

/-- how a statement ends -/
inductive Fl where
  | nx (ρ : Env)
  | rt (d : D)
  | bk (ρ : Env)
  | ct (ρ : Env)

structure FnDef where
  np : Nat
  nl : Nat
  kind : Nat
  body : List St

structure Prg where
  fns : List FnDef
  glo : List D
  /-- of each exception class: the classes that it is -/
  sup : List (List Nat)
  /-- the most turns of a while -/
  lf : Nat

/-! ### values in, values out -/
/-- a thing of the store read as a value -/
def drf (S : Sto) : D → Option D
  | .loc n => (match S[n]? with
    | some (.lst ds) => some (.lst ds)
    | some (.dic t ks vs) => some (.dic t ks vs)
    | _ => none)
  | d => some d
def drfs (S : Sto) : List D → Option (List D)
  | [] => some []
  | d :: ds => (drf S d).bind fun a => (drfs S ds).bind fun as => some (a :: as)

def chars (s : Cs) : List D := s.map fun c => .str [c]
/-- the items that stand in a value -/
def itemsOf : D → Option (List D)
  | .tup ds => some ds
  | .lst ds => some ds
  | _ => none
def intOf : D → Option Int
  | .int i => some i
  | _ => none
def boolOf : D → Option Bool
  | .bl b => some b
  | _ => none
def strOf : D → Option Cs
  | .str s => some s
  | _ => none
/-- all of them, or nothing -/
def allOf {α β : Type} (f : α → Option β) : List α → Option (List β)
  | [] => some []
  | a :: as => (f a).bind fun b => (allOf f as).bind fun bs => some (b :: bs)

def mulOk (i j : Int) : Bool := (decide (-(2 ^ 64) < i) && decide (i < 2 ^ 64)) || (decide (-(2 ^ 64) < j) && decide (j < 2 ^ 64))
def powOk (i j : Int) : Bool := decide (0 ≤ j) && decide (j ≤ 1000000) && decide (i.natAbs < 2 ^ 64)
/-- a text, a list, a tuple so many times -/
def rep {α : Type} (xs : List α) (k : Int) : Option (List α) :=
  if -(2 ^ 63) ≤ k ∧ k < 2 ^ 63 ∧ xs.length * k.toNat ≤ SL then some (List.replicate k.toNat xs).flatten else none
def cat {α : Type} (xs ys : List α) : Option (List α) := if xs.length + ys.length ≤ SL then some (xs ++ ys) else none
def binOp : Op → D → D → Option D
  | .add, .int i, .int j => some (.int (i + j))
  | .add, .str a, .str b => (cat a b).map .str
  | .add, .tup a, .tup b => (cat a b).map .tup
  | .add, .lst a, .lst b => (cat a b).map .lst
  | .sub, .int i, .int j => some (.int (i - j))
  | .mul, .int i, .int j => if mulOk i j then some (.int (i * j)) else none
  | .mul, .lst a, .int k => (rep a k).map .lst
  | .fdiv, .int i, .int j => if 0 < j ∧ j < 1073741824 then some (.int (i / j)) else none
  | .mod, .int i, .int j => if 0 < j then some (.int (i % j)) else none
  | .pow, .int i, .int j => if powOk i j then some (.int (i ^ j.toNat)) else none
  | _, _, _ => none

mutual
/-- a value that may be a key: an int, a text; t: a tuple of such -/
def keyOk : Bool → D → Bool
  | false, .int _ => true
  | false, .str _ => true
  | true, .tup ds => !ds.isEmpty && keyOks ds
  | _, _ => false
def keyOks : List D → Bool
  | [] => true
  | d :: ds => keyOk false d && keyOks ds
end
/-- one text within another -/
def isSub (a : Cs) : Cs → Bool
  | [] => a.isEmpty
  | b :: bs => a.isPrefixOf (b :: bs) || isSub a bs
def inD (x : D) : D → Option Bool
  | .lst ds => if (x.flt && ds.all D.flt) || (x.pln && D.plns ds) then some (ds.any fun y => eqv y x) else none
  | .tup ds => if (x.flt && ds.all D.flt) || (x.pln && D.plns ds) then some (ds.any fun y => eqv y x) else none
  | .str s => (match x with
    | .str [c] => some (decide (c ∈ s))
    | _ => none)
  | .dic t ks _ => if keyOk t x then some (ks.any fun y => eqv y x) else none
  | _ => none
def cmpD : Cm → D → D → Option Bool
  | .eq, a, b => if eqOk a b then some (eqv a b) else none
  | .ne, a, b => if eqOk a b then some (!eqv a b) else none
  | .lt, .int i, .int j => some (decide (i < j))
  | .lt, .str i, .str j => some (decide (i < j))
  | .lt, .tup a, .tup b => if D.plns a && D.plns b then ltDs a b else none
  | .gt, .int i, .int j => some (decide (j < i))
  | .gt, .str i, .str j => some (decide (j < i))
  | .le, .int i, .int j => some (decide (i ≤ j))
  | .le, .str i, .str j => some (!decide (j < i))
  | .ge, .int i, .int j => some (decide (j ≤ i))
  | .ge, .str i, .str j => some (!decide (i < j))
  | .isIn, a, b => inD a b
  | .notIn, a, b => (inD a b).map fun c => !c
  | .isNon, a, .non => some (match a with | .non => true | _ => false)
  | .notNon, a, .non => some (match a with | .non => false | _ => true)
  | .isTrue, .bl a, .bl c => some (a == c)
  | .notTrue, .bl a, .bl c => some (a != c)
  | _, _, _ => none

/-- the place that an index means -/
def ixI (n : Nat) (i : Int) : Option Nat := if 0 ≤ i then (if i < n then some i.toNat else none) else if -(n : Int) ≤ i then some (i + n).toNat else none
def atD {α : Type} (xs : List α) (i : Int) : Option α := (ixI xs.length i).bind fun j => xs[j]?
/-- of a dict: the value of a key -/
def look (k : D) : List D → List D → Option D
  | x :: ks, v :: vs => if eqv x k then some v else look k ks vs
  | _, _ => none
def putM (k v : D) : List D → List D → List D
  | x :: ks, y :: vs => (if eqv x k then v else y) :: putM k v ks vs
  | _, _ => []
def put (k v : D) (ks vs : List D) : List D × List D := if ks.any fun x => eqv x k then (ks, putM k v ks vs) else (ks ++ [k], vs ++ [v])
def idxD : D → D → Option D
  | .lst ds, .int i => atD ds i
  | .tup ds, .int i => atD ds i
  | .str s, .int i => if s.length ≤ SL then (atD s i).map fun c => .str [c] else none
  | .dic t ks vs, k => if keyOk t k then look k ks vs else none
  | _, _ => none

/-- a slice's bound as a place among n -/
def sIx (n d : Nat) : Option Int → Nat
  | none => d
  | some v => if v < 0 then (v + (n : Int)).toNat else min v.toNat n
def cut {α : Type} (xs : List α) (lo hi : Option Int) : List α := (xs.drop (sIx xs.length 0 lo)).take (sIx xs.length xs.length hi - sIx xs.length 0 lo)
/-- the stable order by insertion -/
def ins {α : Type} (lt : α → α → Bool) (x : α) : List α → List α
  | [] => [x]
  | y :: ys => if lt x y then x :: y :: ys else y :: ins lt x ys
def isort {α : Type} (lt : α → α → Bool) (xs : List α) : List α := xs.foldl (fun acc x => ins lt x acc) []
def ltI (a b : Int) : Bool := decide (a < b)
def ltS (a b : Cs) : Bool := decide (a < b)
/-- ints, any number of them; texts, fewer than 64 -/
def sortD (ds : List D) : Option (List D) := match allOf intOf ds with
  | some is => some ((isort ltI is).map .int)
  | none => (match allOf strOf ds with
    | some ss => if ss.length < 64 then some ((isort ltS ss).map .str) else none
    | none => none)
def digits (n : Nat) : Cs := (Nat.toDigits 10 n).map Char.toNat
def strI (i : Int) : Cs := if i < 0 then 45 :: digits i.natAbs else digits i.natAbs
def lenD : D → Option Nat
  | .str s => if s.length ≤ SL then some s.length else none
  | .lst ds => some ds.length
  | .tup ds => some ds.length
  | .dic _ ks _ => some ks.length
  | _ => none
def foldMax : Int → List Int → Int
  | m, [] => m
  | m, i :: is => foldMax (if i > m then i else m) is
def foldMin : Int → List Int → Int
  | m, [] => m
  | m, i :: is => foldMin (if i < m then i else m) is
/-- built-ins that hand back a value that is not a new list or dict -/
def biD : Bi → List D → Option D
  | .len, [d] => (lenD d).map fun n => .int n
  | .abs, [.int i] => some (.int (if i < 0 then -i else i))
  | .int, [.int i] => some (.int i)
  | .str, [.int i] => if i.natAbs.log2 < 1920 then some (.str (strI i)) else none
  | .str, [.str s] => some (.str s)
  | .tuple, [.lst ds] => some (.tup ds)
  | .tuple, [.tup ds] => some (.tup ds)
  | .sum, [d] => (itemsOf d).bind fun ds => (allOf intOf ds).map fun is => .int is.sum
  | .max, [.lst ds] => (allOf intOf ds).bind fun is => (match is with
    | i :: r => some (.int (foldMax i r))
    | [] => none)
  | .min, [.lst ds] => (allOf intOf ds).bind fun is => (match is with
    | i :: r => some (.int (foldMin i r))
    | [] => none)
  | .max2, [.int i, .int j] => some (.int (if j > i then j else i))
  | .min2, [.int i, .int j] => some (.int (if j < i then j else i))
  | .any, [.lst ds] => (allOf boolOf ds).map fun bs => .bl (bs.any id)
  | .all, [.lst ds] => (allOf boolOf ds).map fun bs => .bl (bs.all id)
  | .lenSet, [.lst ds] => (allOf strOf ds).bind fun ss => if ss.length < 64 ∧ ss.Nodup then some (.int ds.length) else none
  | _, _ => none
/-- built-ins that hand back a new list -/
def biL : Bi → List D → Option (List D)
  | .list, [.lst ds] => some ds
  | .list, [.tup ds] => some ds
  | .list, [.scr is] => some (is.map .int)
  | .list, [.dic false ks _] => some ks
  | .sorted, [.lst ds] => sortD ds
  | .sorted, [.dic false ks _] => if ks.length < 64 then sortD ks else none
  | .sortedSet, [.lst ds] => (allOf strOf ds).bind fun ss => if ss.length < 64 ∧ ss.Nodup then some ((isort ltS ss).map .str) else none
  | _, _ => none
def pairOf : D → Option (D × D)
  | .tup [a, b] => some (a, b)
  | _ => none
/-- dict(pairs) -/
def putAll : List (D × D) → List D × List D
  | ps => ps.foldl (fun acc p => put p.1 p.2 acc.1 acc.2) ([], [])
def biDic : Bi → List D → Option (List D × List D)
  | .dict, [.lst ds] => (allOf pairOf ds).bind fun ps => if keyOks (ps.map (·.1)) then some (putAll ps) else none
  | .dictT, [.tup ds] => (allOf pairOf ds).bind fun ps => if keyOks (ps.map (·.1)) then some (putAll ps) else none
  | _, _ => none

def findIx (p : D → Bool) : List D → Nat → Option Nat
  | [], _ => none
  | d :: ds, n => if p d then some n else findIx p ds (n + 1)
/-- methods that change nothing -/
def mtD : Mt → D → List D → Option D
  | .index, .lst ds, [x] => if x.pln && D.plns ds then (findIx (fun y => eqv y x) ds 0).map fun n => .int n else none
  | .index, .tup ds, [x] => if x.pln && D.plns ds then (findIx (fun y => eqv y x) ds 0).map fun n => .int n else none
  | .count, .lst ds, [x] => if x.pln && D.plns ds then some (.int (ds.filter fun y => eqv y x).length) else none
  | .count, .tup ds, [x] => if x.pln && D.plns ds then some (.int (ds.filter fun y => eqv y x).length) else none
  | .get2, .dic t ks vs, [k, d] => if keyOk t k then some ((look k ks vs).getD d) else none
  | _, _, _ => none
/-- methods of a thing of the store -/
def mtO : Mt → O → List D → Option (D × O)
  | .append, .lst ds, [x] => if ds.length < SL then some (.non, .lst (ds ++ [x])) else none
  | .pop0, .lst ds, [] => (match ds.getLast? with
    | some x => some (x, .lst ds.dropLast)
    | none => none)
  | .update, .dic false ks vs, [.dic false ks2 vs2] => if ks.length + ks2.length ≤ SL then (let q := (ks2.zip vs2).foldl (fun acc p => put p.1 p.2 acc.1 acc.2) (ks, vs); some (.non, .dic false q.1 q.2)) else none
  | _, _, _ => none
/-- a method that reads its arguments' things -/
def Mt.dr : Mt → Bool
  | .update => true
  | _ => false
def setO : O → D → D → Option O
  | .lst ds, .int i, v => (ixI ds.length i).map fun j => .lst (ds.set j v)
  | .dic t ks vs, k, v => if keyOk t k && decide (ks.length < SL) then some (.dic t (put k v ks vs).1 (put k v ks vs).2) else none
  | _, _, _ => none

/-- a value's own type -/
def tyN : D → Option String
  | .non => some "NoneType"
  | .bl _ => some "bool"
  | .int _ => some "int"
  | .str _ => some "str"
  | .tup _ => some "tuple"
  | .lst _ => some "list"
  | .dic _ _ _ => some "dict"
  | _ => none
def Ty.name : Ty → String
  | .int => "int"
  | .bool => "bool"
  | .str => "str"
  | .tuple => "tuple"
  | .list => "list"
  | .cls _ => ""
def isTy (sup : List (List Nat)) : Ty → D → Option Bool
  | .cls c, d => (match d with
    | .exc e _ => some ((sup.getD e []).contains c)
    | _ => none)
  | t, d => (tyN d).map fun n => n == t.name || (n == "bool" && t.name == "int")

/-! ### the very same -/
mutual
def D.same : D → D → Bool
  | .non, .non => true
  | .bl a, .bl b => a == b
  | .int i, .int j => i == j
  | .str a, .str b => a == b
  | .tup xs, .tup ys => D.sames xs ys
  | .pr xs, .pr ys => D.sames xs ys
  | .lst xs, .lst ys => D.sames xs ys
  | .dic t ks vs, .dic u ls ws => t == u && (D.sames ks ls && D.sames vs ws)
  | .loc n, .loc m => n == m
  | .fn n, .fn m => n == m
  | .scr is, .scr js => is == js
  | .exc c fs, .exc e gs => c == e && D.sames fs gs
  | _, _ => false
def D.sames : List D → List D → Bool
  | [], [] => true
  | x :: xs, y :: ys => D.same x y && D.sames xs ys
  | _, _ => false
end
mutual
theorem D.same_eq : ∀ (a b : D), D.same a b = true → a = b
  | .non, b, h => by cases b <;> simp_all [D.same]
  | .bl _, b, h => by cases b <;> simp_all [D.same]
  | .int _, b, h => by cases b <;> simp_all [D.same]
  | .str _, b, h => by cases b <;> simp_all [D.same]
  | .tup xs, b, h => by cases b <;> simp [D.same] at h; exact congrArg D.tup (D.sames_eq xs _ h)
  | .pr xs, b, h => by cases b <;> simp [D.same] at h; exact congrArg D.pr (D.sames_eq xs _ h)
  | .lst xs, b, h => by cases b <;> simp [D.same] at h; exact congrArg D.lst (D.sames_eq xs _ h)
  | .dic t ks vs, b, h => by
    cases b <;> simp [D.same] at h
    obtain ⟨h1, h2, h3⟩ := h
    rw [h1, D.sames_eq ks _ h2, D.sames_eq vs _ h3]
  | .loc _, b, h => by cases b <;> simp_all [D.same]
  | .fn _, b, h => by cases b <;> simp_all [D.same]
  | .scr _, b, h => by cases b <;> simp_all [D.same]
  | .exc c fs, b, h => by
    cases b <;> simp [D.same] at h
    rw [h.1, D.sames_eq fs _ h.2]
theorem D.sames_eq : ∀ (as bs : List D), D.sames as bs = true → as = bs
  | [], bs, h => by cases bs <;> simp_all [D.sames]
  | a :: as, bs, h => by
    cases bs with
    | nil => simp [D.sames] at h
    | cons b bs =>
      simp [D.sames] at h
      rw [D.same_eq a b h.1, D.sames_eq as bs h.2]
end
mutual
theorem D.same_self : ∀ a : D, D.same a a = true
  | .non => by simp [D.same]
  | .bl _ => by simp [D.same]
  | .int _ => by simp [D.same]
  | .str _ => by simp [D.same]
  | .tup xs => by simp [D.same, D.sames_self xs]
  | .pr xs => by simp [D.same, D.sames_self xs]
  | .lst xs => by simp [D.same, D.sames_self xs]
  | .dic t ks vs => by simp [D.same, D.sames_self ks, D.sames_self vs]
  | .loc _ => by simp [D.same]
  | .fn _ => by simp [D.same]
  | .scr _ => by simp [D.same]
  | .exc c fs => by simp [D.same, D.sames_self fs]
theorem D.sames_self : ∀ as : List D, D.sames as as = true
  | [] => by simp [D.sames]
  | a :: as => by simp [D.sames, D.same_self a, D.sames_self as]
end
def O.same : O → O → Bool
  | .lst xs, .lst ys => D.sames xs ys
  | .dic t ks vs, .dic u ls ws => t == u && (D.sames ks ls && D.sames vs ws)
  | _, _ => false
theorem O.same_eq : ∀ {a b : O}, O.same a b = true → a = b := by
  intro a b h
  cases a <;> cases b <;> simp [O.same] at h
  · rw [D.sames_eq _ _ h]
  · rw [h.1, D.sames_eq _ _ h.2.1, D.sames_eq _ _ h.2.2]
theorem O.same_lst (ds : List D) : O.same (.lst ds) (.lst ds) = true := D.sames_self ds

/-! ### targets -/
mutual
def asgT : Tn → D → Env → Option Env
  | .name i, d, ρ => if i < ρ.length then some (ρ.set i (some d)) else none
  | .tup ts, .tup ds, ρ => asgTs ts ds ρ
  | .tup ts, .pr ds, ρ => asgTs ts ds ρ
  | .tup _, _, _ => none
def asgTs : List Tn → List D → Env → Option Env
  | [], [], ρ => some ρ
  | t :: ts, d :: ds, ρ => (asgT t d ρ).bind fun ρ' => asgTs ts ds ρ'
  | _, _, _ => none
end
mutual
/-- the slots that a target sets -/
def tnIx : Tn → List Nat
  | .name i => [i]
  | .tup ts => tnIxs ts
def tnIxs : List Tn → List Nat
  | [] => []
  | t :: ts => tnIx t ++ tnIxs ts
end
def wipeE (ρ : Env) : List Nat → Env
  | [] => ρ
  | v :: vs => (wipeE ρ vs).set v none

/-- a pair that is kept -/
def unpr : D → D
  | .pr ds => .tup ds
  | d => d
/-- what is walked: the items, the things of the store that may not change meanwhile -/
structure Src where
  items : List D
  chk : List (Nat × O)
def chkOk (chk : List (Nat × O)) (S : Sto) : Bool := chk.all fun p => match S[p.1]? with
  | some o => O.same o p.2
  | none => false
def srcOf (S : Sto) : D → Option Src
  | .lst ds => some ⟨ds, []⟩
  | .tup ds => some ⟨ds, []⟩
  | .str s => some ⟨chars s, []⟩
  | .loc n => (match S[n]? with
    | some (.lst ds) => some ⟨ds, [(n, .lst ds)]⟩
    | _ => none)
  | _ => none
def enumD : Nat → List D → List D
  | _, [] => []
  | i, d :: ds => .pr [.int i, d] :: enumD (i + 1) ds
def zipD : List D → List D → List D
  | x :: xs, y :: ys => .pr [x, y] :: zipD xs ys
  | _, _ => []
def rngOk (i : Int) : Bool := decide (-(2 ^ 62) ≤ i) && decide (i < 2 ^ 62)
def rngD (lo : Int) (n : Nat) : List D := (List.range n).map fun (k : Nat) => .int (lo + k)

/-! ### the evaluator -/
section
variable (P : Prg) (cf : Nat → List D → Sto → Res D)

/-- a comprehension's turns: f tells the item's value, or nothing where the test fails -/
def compGo (chk : List (Nat × O)) (f : D → Sto → Res (Option D)) : List D → List D → Sto → Res (List D)
  | [], acc, S => if chkOk chk S then .ok acc S else .stk
  | x :: xs, acc, S => if chkOk chk S then (match f x S with
    | .ok (some d) S' => if acc.length < SL then compGo chk f xs (acc ++ [d]) S' else .stk
    | .ok none S' => compGo chk f xs acc S'
    | _ => .stk) else .stk
/-- the turns of a comprehension's outer clause: g goes on with what is made -/
def compGo2 (chk : List (Nat × O)) (g : D → List D → Sto → Res (List D)) : List D → List D → Sto → Res (List D)
  | [], acc, S => if chkOk chk S then .ok acc S else .stk
  | x :: xs, acc, S => if chkOk chk S then (match g x acc S with
    | .ok acc' S' => compGo2 chk g xs acc' S'
    | _ => .stk) else .stk
/-- a new list -/
def newL (m : Bool) (ds : List D) (S : Sto) : Res D := if m then .ok (.loc S.length) (S ++ [.lst ds]) else .ok (.lst ds) S
def newD (t : Bool) (kv : List D × List D) (S : Sto) : Res D := .ok (.loc S.length) (S ++ [.dic t kv.1 kv.2])
def freezeD (d : D) (S : Sto) : Res D := match d with
  | .loc n => (match S[n]? with
    | some (.lst ds) => .ok (.lst ds) (S.set n .dead)
    | some (.dic t ks vs) => .ok (.dic t ks vs) (S.set n .dead)
    | _ => .stk)
  | _ => .stk
/-- at something that is there -/
def onO {α β : Type} (o : Option β) (k : β → Sto → Res α) (S : Sto) : Res α := match o with
  | some b => k b S
  | none => .stk
/-- a call of a built-in -/
def evBi (b : Bi) (m : Bool) (ds : List D) (S : Sto) : Res D := match drfs S ds with
  | none => .stk
  | some as => (match b with
    | .list => (match biL b as with
      | some l => newL m l S
      | none => .stk)
    | .sorted => (match biL b as with
      | some l => newL m l S
      | none => .stk)
    | .sortedSet => (match biL b as with
      | some l => newL m l S
      | none => .stk)
    | .dict => (match biDic b as with
      | some kv => newD false kv S
      | none => .stk)
    | .dictT => (match biDic b as with
      | some kv => newD false kv S
      | none => .stk)
    | _ => opt (biD b as) S)
/-- the thing that a value names -/
def thing (S : Sto) : D → Option (Nat × O)
  | .loc n => (S[n]?).map fun o => (n, o)
  | _ => none
def Mt.ro : Mt → Bool
  | .index => true
  | .count => true
  | .get2 => true
  | .join => true
  | .startswith => true
  | .items => true
  | .values => true
  | .split => true
  | .replace => true
  | .endswith => true
  | _ => false
def evMtO (b : Mt) (d : D) (as : List D) (S : Sto) : Res D := onO (thing S d) (fun p S => onO (mtO b p.2 as) (fun q S => .ok q.1 (S.set p.1 q.2)) S) S
def evMt (b : Mt) (d : D) (as : List D) (S : Sto) : Res D :=
  if b.ro then onO (drf S d) (fun v S => opt (mtD b v as) S) S
  else if b.dr then (if as.any (D.same d) then .stk else onO (drfs S as) (fun as S => evMtO b d as S) S) else evMtO b d as S
/-- what a value is -/
inductive Kd where
  | lst | dic | str | tup | no
def kdD : Option D → Kd
  | some (.lst _) => .lst
  | some (.dic _ _ _) => .dic
  | some (.str _) => .str
  | some (.tup _) => .tup
  | _ => .no
def kdO : Option (Nat × O) → Kd
  | some (_, .lst _) => .lst
  | some (_, .dic _ _ _) => .dic
  | _ => .no
def Kd.is : Kd → Kd → Bool
  | .lst, .lst => true
  | .dic, .dic => true
  | .str, .str => true
  | .tup, .tup => true
  | _, _ => false
/-- what a method is asked of -/
def recvOk (b : Mt) (x : D) (S : Sto) : Bool := match b with
  | .append => (kdO (thing S x)).is .lst
  | .pop0 => (kdO (thing S x)).is .lst
  | .pop1 => (kdO (thing S x)).is .lst
  | .insert => (kdO (thing S x)).is .lst
  | .update => (kdO (thing S x)).is .dic
  | .setdefault => (kdO (thing S x)).is .dic
  | .get2 => (kdD (drf S x)).is .dic
  | .items => (kdD (drf S x)).is .dic
  | .values => (kdD (drf S x)).is .dic
  | .index => (kdD (drf S x)).is .lst
  | .count => (kdD (drf S x)).is .lst
  | _ => (kdD (drf S x)).is .str
/-- lists, tuples -/
def seqK (S : Sto) (x : D) : Bool := (kdD (drf S x)).is .lst || (kdD (drf S x)).is .tup
def zipK (S : Sto) (x y : D) : Bool := ((kdD (drf S x)).is .lst && (kdD (drf S y)).is .lst) || ((kdD (drf S x)).is .tup && (kdD (drf S y)).is .tup)
def setD (o i v : D) (S : Sto) : Res Unit := onO (thing S o) (fun p S => onO (setO p.2 i v) (fun ob S => .ok () (S.set p.1 ob)) S) S

/-- two values as they are read, an operation -/
def op2 (f : D → D → Option D) (x y : D) (S : Sto) : Res D := match drf S x, drf S y with
  | some u, some v => opt (f u v) S
  | _, _ => .stk
def op1 (f : D → Option D) (x : D) (S : Sto) : Res D := match drf S x with
  | some u => opt (f u) S
  | none => .stk
/-- by a bool -/
def onB {α : Type} (f g : Sto → Res α) (x : D) (S : Sto) : Res α := match x with
  | .bl true => f S
  | .bl false => g S
  | _ => .stk
def onI {α : Type} (k : Int → Sto → Res α) (x : D) (S : Sto) : Res α := match x with
  | .int i => k i S
  | _ => .stk
def cmp2 (o : Cm) : D → D → Option D := fun u v => (cmpD o u v).map .bl
/-- a comparison ahead of another one -/
def chainB (o : Cm) (x y : D) (k : Sto → Res D) (S : Sto) : Res D := (op2 (cmp2 o) x y S).bind fun z S => onB k (fun S => .ok (.bl false) S) z S
def boB (isAnd : Bool) (k : Sto → Res D) (x : D) (S : Sto) : Res D := if isAnd then onB k (fun S => .ok (.bl false) S) x S else onB (fun S => .ok (.bl true) S) k x S
def sliceK (m : Bool) (l h : Option Int) (x : D) (S : Sto) : Res D := match drf S x with
  | some (.lst ds) => newL m (cut ds l h) S
  | some (.tup ds) => .ok (.tup (cut ds l h)) S
  | some (.str s) => if s.length ≤ SL then .ok (.str (cut s l h)) S else .stk
  | _ => .stk
def revK (m : Bool) (x : D) (S : Sto) : Res D := match drf S x with
  | some (.lst ds) => newL m ds.reverse S
  | _ => .stk
def idx2 (x y : D) (S : Sto) : Res D := op1 (fun u => idxD u y) x S
/-- a new sequence of written items -/
def fewB (ds : List D) (r : Res D) : Res D := if ds.length ≤ SL then r else .stk
/-- a turn's value where its test holds -/
def someB (b : Bool) (k : Sto → Res D) (S : Sto) : Res (Option D) := if b then (k S).bind fun d S => .ok (some d) S else .ok none S
/-- no exception leaves a turn -/
def noExc {α : Type} (r : Res α) : Res α := match r with
  | .ok a S => .ok a S
  | _ => .stk

mutual
def evE : Ex → Env → Sto → Res D
  | .var i, ρ, S => (match ρ[i]? with
    | some (some d) => .ok d S
    | _ => .stk)
  | .non, _, S => .ok .non S
  | .bl b, _, S => .ok (.bl b) S
  | .int i, _, S => .ok (.int i) S
  | .str s, _, S => .ok (.str s) S
  | .glob g, _, S => opt (P.glo[g]?) S
  | .fnv f, _, S => .ok (.fn f) S
  | .tup es, ρ, S => (evEs es ρ S).bind fun ds S => fewB ds (.ok (.tup ds) S)
  | .lst m es, ρ, S => (evEs es ρ S).bind fun ds S => fewB ds (newL m ds S)
  | .dict0 t, _, S => newD t ([], []) S
  | .bin o a b, ρ, S => (evE a ρ S).bind fun x S => (evE b ρ S).bind fun y S => op2 (binOp o) x y S
  | .neg a, ρ, S => (evE a ρ S).bind fun x S => onI (fun i S => .ok (.int (-i)) S) x S
  | .not a, ρ, S => (evE a ρ S).bind fun x S => onB (fun S => .ok (.bl false) S) (fun S => .ok (.bl true) S) x S
  | .cmp o a b, ρ, S => (evE a ρ S).bind fun x S => (evE b ρ S).bind fun y S => op2 (cmp2 o) x y S
  | .chain o o' a b c, ρ, S => (evE a ρ S).bind fun x S => (evE b ρ S).bind fun y S => chainB o x y (fun S => (evE c ρ S).bind fun z S => op2 (cmp2 o') y z S) S
  | .boolop isAnd es, ρ, S => evBo isAnd es ρ S
  | .ife t a b, ρ, S => (evE t ρ S).bind fun x S => onB (fun S => evE a ρ S) (fun S => evE b ρ S) x S
  | .call f es, ρ, S => (evEs es ρ S).bind fun ds S => cf f ds S
  | .bi b m es, ρ, S => (evEs es ρ S).bind fun ds S => evBi b m ds S
  | .isi a t, ρ, S => (evE a ρ S).bind fun x S => opt ((isTy P.sup t x).map .bl) S
  | .idx a b, ρ, S => (evE a ρ S).bind fun x S => (evE b ρ S).bind fun y S => idx2 x y S
  | .slice m a lo hi, ρ, S => (evE a ρ S).bind fun x S => (evO lo ρ S).bind fun l S => (evO hi ρ S).bind fun h S => sliceK m l h x S
  | .rev m a, ρ, S => (evE a ρ S).bind fun x S => revK m x S
  | .meth b a es, ρ, S => (evE a ρ S).bind fun x S => if recvOk b x S then (evEs es ρ S).bind fun ds S => evMt b x ds S else .stk
  | .comp m own tg it cond elt, ρ, S => (evI it ρ S).bind fun src S =>
    (compGo src.chk (fun x S => onO (asgT tg x (wipeE ρ own)) (fun ρ' S => (evC cond ρ' S).bind fun b S => someB b (fun S => evE elt ρ' S) S) S) src.items [] S).bind fun ds S => newL m ds S
  | .comp2 m own tg it tg1 it1 cond1 elt, ρ, S => (evI it ρ S).bind fun src S =>
    (compGo2 src.chk (fun x acc S => onO (asgT tg x (wipeE ρ own)) (fun ρ' S => (noExc (evI it1 ρ' S)).bind fun src1 S =>
      compGo src1.chk (fun y S => onO (asgT tg1 y (wipeE ρ' (tnIx tg1))) (fun ρ'' S => (evC cond1 ρ'' S).bind fun b S => someB b (fun S => evE elt ρ'' S) S) S) src1.items acc S) S) src.items [] S).bind fun ds S => newL m ds S
  | .listIt m it, ρ, S => (evI it ρ S).bind fun src S => newL m (src.items.map unpr) S
  | .freeze a, ρ, S => (evE a ρ S).bind fun d S => freezeD d S
def evEs : Es → Env → Sto → Res (List D)
  | .nil, _, S => .ok [] S
  | .cons e es, ρ, S => (evE e ρ S).bind fun d S => (evEs es ρ S).bind fun ds S => .ok (d :: ds) S
def evBo (isAnd : Bool) : Es → Env → Sto → Res D
  | .nil, _, _ => .stk
  | .cons e .nil, ρ, S => evE e ρ S
  | .cons e es, ρ, S => (evE e ρ S).bind fun x S => boB isAnd (fun S => evBo isAnd es ρ S) x S
def evO : Oe → Env → Sto → Res (Option Int)
  | .no, _, S => .ok none S
  | .yes e, ρ, S => (evE e ρ S).bind fun x S => onI (fun i S => .ok (some i) S) x S
/-- a comprehension's test -/
def evC : Oe → Env → Sto → Res Bool
  | .no, _, S => .ok true S
  | .yes e, ρ, S => (evE e ρ S).bind fun x S => onB (fun S => .ok true S) (fun S => .ok false S) x S
def evI : It → Env → Sto → Res Src
  | .of e, ρ, S => (evE e ρ S).bind fun x S => opt (srcOf S x) S
  | .rng1 a, ρ, S => (evE a ρ S).bind fun x S => onI (fun j S => if rngOk j then .ok ⟨rngD 0 j.toNat, []⟩ S else .stk) x S
  | .rng2 a b, ρ, S => (evE a ρ S).bind fun x S => (evE b ρ S).bind fun y S => onI (fun i S => onI (fun j S => if rngOk i && rngOk j then .ok ⟨rngD i (j - i).toNat, []⟩ S else .stk) y S) x S
  | .enum a, ρ, S => (evE a ρ S).bind fun x S => if seqK S x then onO (srcOf S x) (fun s S => .ok ⟨enumD 0 s.items, s.chk⟩ S) S else .stk
  | .zip a b, ρ, S => (evE a ρ S).bind fun x S => (evE b ρ S).bind fun y S => if zipK S x y then onO (srcOf S x) (fun s S => onO (srcOf S y) (fun t S => .ok ⟨zipD s.items t.items, s.chk ++ t.chk⟩ S) S) S else .stk
end

/-- how a turn of a loop goes on -/
def turnF (next : Env → Sto → Res Fl) (f : Fl) (S : Sto) : Res Fl := match f with
  | .nx ρ => next ρ S
  | .ct ρ => next ρ S
  | .bk ρ => .ok (.nx ρ) S
  | .rt d => .ok (.rt d) S
/-- the turns of a for -/
def forGo (chk : List (Nat × O)) (tg : Tn) (body : Env → Sto → Res Fl) : List D → Env → Sto → Res Fl
  | [], ρ, S => if chkOk chk S then .ok (.nx ρ) S else .stk
  | x :: xs, ρ, S => if chkOk chk S then onO (asgT tg x ρ) (fun ρ' S => (body ρ' S).bind fun f S => turnF (forGo chk tg body xs) f S) S else .stk
def whileGo (test : Env → Sto → Res D) (body : Env → Sto → Res Fl) : Nat → Env → Sto → Res Fl
  | 0, _, _ => .stk
  | n + 1, ρ, S => (test ρ S).bind fun x S => onB (fun S => (body ρ S).bind fun f S => turnF (whileGo test body n) f S) (fun S => .ok (.nx ρ) S) x S
/-- names in bounds, set from the left -/
def setAll : List Nat → List D → Env → Option Env
  | [], [], ρ => some ρ
  | i :: is, d :: ds, ρ => if i < ρ.length then setAll is ds (ρ.set i (some d)) else none
  | _, _, _ => none
/-- what name op= value leaves -/
def augD (o : Op) (x y : D) (S : Sto) : Res D := match o with
  | .add => (match x with
    | .loc n => onO (thing S (.loc n)) (fun p S => (match p.2 with
      | .lst ds => onO (drf S y) (fun v S => (match v with
        | .lst es => if decide (ds.length + es.length ≤ SL) then .ok (.loc n) (S.set n (.lst (ds ++ es))) else .stk
        | _ => .stk)) S
      | _ => .stk)) S
    | .int a => onI (fun b S => .ok (.int (a + b)) S) y S
    | .str a => (match y with
      | .str b => opt (binOp .add (.str a) (.str b)) S
      | _ => .stk)
    | _ => .stk)
  | .sub => (match x with
    | .int a => onI (fun b S => .ok (.int (a - b)) S) y S
    | _ => .stk)
  | _ => .stk
def nextB (k : Env → Sto → Res Fl) (f : Fl) (S : Sto) : Res Fl := match f with
  | .nx ρ => k ρ S
  | f => .ok f S

mutual
def evS : St → Env → Sto → Res Fl
  | .asg tg e, ρ, S => (evE P cf e ρ S).bind fun d S => onO (asgT tg d ρ) (fun ρ' S => .ok (.nx ρ') S) S
  | .par is es, ρ, S => (evEs P cf es ρ S).bind fun ds S => onO (setAll is ds ρ) (fun ρ' S => .ok (.nx ρ') S) S
  | .aug i o e, ρ, S => (evE P cf (.var i) ρ S).bind fun x S => (evE P cf e ρ S).bind fun y S => (augD o x y S).bind fun d S => onO (asgT (.name i) d ρ) (fun ρ' S => .ok (.nx ρ') S) S
  | .sub o i e, ρ, S => (evE P cf e ρ S).bind fun v S => (evE P cf o ρ S).bind fun x S => (evE P cf i ρ S).bind fun k S => (setD x k v S).bind fun _ S => .ok (.nx ρ) S
  | .augSub o i op e, ρ, S => (evE P cf o ρ S).bind fun x S => (evE P cf i ρ S).bind fun k S => (idx2 x k S).bind fun a S => (evE P cf e ρ S).bind fun b S => (augD op a b S).bind fun d S => (setD x k d S).bind fun _ S => .ok (.nx ρ) S
  | .expr e, ρ, S => (evE P cf e ρ S).bind fun _ S => .ok (.nx ρ) S
  | .ret e, ρ, S => (evE P cf e ρ S).bind fun d S => .ok (.rt d) S
  | .retN, _, S => .ok (.rt .non) S
  | .pass, ρ, S => .ok (.nx ρ) S
  | .ifs t a b, ρ, S => (evE P cf t ρ S).bind fun x S => onB (fun S => evSs a ρ S) (fun S => evSs b ρ S) x S
  | .for_ tg it body, ρ, S => (evI P cf it ρ S).bind fun src S => forGo src.chk tg (fun ρ S => evSs body ρ S) src.items ρ S
  | .while_ t body, ρ, S => whileGo (fun ρ S => evE P cf t ρ S) (fun ρ S => evSs body ρ S) P.lf ρ S
  | .brk, ρ, S => .ok (.bk ρ) S
  | .cont, ρ, S => .ok (.ct ρ) S
  | .raise_ c es, ρ, S => (evEs P cf es ρ S).bind fun ds S => .exc c ds S
  | .never, _, _ => .stk
def evSs : List St → Env → Sto → Res Fl
  | [], ρ, S => .ok (.nx ρ) S
  | s :: ss, ρ, S => (evS s ρ S).bind fun f S => nextB (evSs ss) f S
end
end

/-- what a body hands back -/
def retOf (r : Res Fl) : Res D := r.bind fun f S => match f with
  | .rt d => .ok d S
  | .nx _ => .ok .non S
  | _ => .stk
def envOf (nl : Nat) (ds : List D) : Env := ds.map some ++ List.replicate (nl - ds.length) none
/-- a call: a pure def runs over an empty store; another one's own things are dropped at its end, or kept (2) -/
def evF (P : Prg) : Nat → Nat → List D → Sto → Res D
  | 0, _, _, _ => .stk
  | n + 1, f, ds, S => match P.fns[f]? with
    | none => .stk
    | some fd => if ds.length = fd.np then (match fd.kind with
      | 0 => if D.flats ds then (match retOf (evSs P (evF P n) fd.body (envOf fd.nl ds) []) with
        | .ok d _ => if d.flat then .ok d S else .stk
        | .exc c fs _ => if D.flats fs then .exc c fs S else .stk
        | .stk => .stk) else .stk
      | 1 => (match retOf (evSs P (evF P n) fd.body (envOf fd.nl ds) S) with
        | .ok d S' => if d.under S.length && (S'.take S.length).all (O.under S.length) then .ok d (S'.take S.length) else .stk
        | .exc c fs S' => if D.flats fs && (S'.take S.length).all (O.under S.length) then .exc c fs (S'.take S.length) else .stk
        | .stk => .stk)
      | _ => retOf (evSs P (evF P n) fd.body (envOf fd.nl ds) S)) else .stk
end QF
end

section
/-! QFO: orders. -/
namespace QF
section order
variable {α : Type} {lt : α → α → Bool}
structure Tot (lt : α → α → Bool) : Prop where
  asym : ∀ x y, lt x y = true → lt y x = false
  tr : ∀ x y z, lt y x = false → lt z y = false → lt z x = false
  anti : ∀ x y, lt x y = false → lt y x = false → x = y
abbrev Asc (lt : α → α → Bool) (l : List α) : Prop := l.Pairwise fun a b => lt b a = false
theorem ins_perm (x : α) : ∀ l : List α, (ins lt x l).Perm (x :: l)
  | [] => .refl _
  | y :: ys => by
    simp only [ins]
    split
    · exact .refl _
    · exact (List.Perm.cons y (ins_perm x ys)).trans (List.Perm.swap x y ys)
theorem ins_asc (T : Tot lt) (x : α) : ∀ l : List α, Asc lt l → Asc lt (ins lt x l)
  | [], _ => List.pairwise_singleton _ _
  | y :: ys, h => by
    obtain ⟨h1, h2⟩ := List.pairwise_cons.mp h
    simp only [ins]
    by_cases c : lt x y = true
    · rw [if_pos c]
      refine List.pairwise_cons.mpr ⟨fun z hz => ?_, h⟩
      rcases List.mem_cons.mp hz with rfl | hz
      · exact T.asym _ _ c
      · exact T.tr x y z (T.asym _ _ c) (h1 z hz)
    · rw [if_neg c]
      have c' : lt x y = false := by simpa using c
      refine List.pairwise_cons.mpr ⟨fun z hz => ?_, ins_asc T x ys h2⟩
      rcases List.mem_cons.mp ((ins_perm x ys).mem_iff.mp hz) with rfl | hz
      · exact c'
      · exact h1 z hz
theorem isort_aux (T : Tot lt) : ∀ (l acc : List α), Asc lt acc → Asc lt (l.foldl (fun a x => ins lt x a) acc) ∧ (l.foldl (fun a x => ins lt x a) acc).Perm (acc ++ l)
  | [], acc, h => ⟨h, by simp⟩
  | x :: l, acc, h => by
    obtain ⟨h1, h2⟩ := isort_aux T l (ins lt x acc) (ins_asc T x acc h)
    refine ⟨h1, h2.trans ?_⟩
    exact ((ins_perm x acc).append_right l).trans (List.perm_middle.symm)
theorem isort_asc (T : Tot lt) (l : List α) : Asc lt (isort lt l) := (isort_aux T l [] .nil).1
theorem isort_perm (T : Tot lt) (l : List α) : (isort lt l).Perm l := by simpa [isort] using (isort_aux T l [] .nil).2
theorem asc_unique (T : Tot lt) : ∀ {l m : List α}, l.Perm m → Asc lt l → Asc lt m → l = m
  | [], m, p, _, _ => p.nil_eq
  | x :: l, [], p, _, _ => by simpa using p.length_eq
  | x :: l, y :: m, p, h, k => by
    obtain ⟨h1, h2⟩ := List.pairwise_cons.mp h
    obtain ⟨k1, k2⟩ := List.pairwise_cons.mp k
    have e : x = y := by
      have hx : x ∈ y :: m := p.mem_iff.mp List.mem_cons_self
      have hy : y ∈ x :: l := p.mem_iff.mpr List.mem_cons_self
      rcases List.mem_cons.mp hx with e | hx
      · exact e
      · rcases List.mem_cons.mp hy with e | hy
        · exact e.symm
        · exact T.anti x y (k1 x hx) (h1 y hy)
    subst e
    rw [asc_unique T (List.Perm.cons_inv p) h2 k2]
end order
theorem totI : Tot ltI where
  asym := fun x y h => by simp only [ltI, decide_eq_true_eq, decide_eq_false_iff_not] at h ⊢; omega
  tr := fun x y z h k => by simp only [ltI, decide_eq_false_iff_not] at h k ⊢; omega
  anti := fun x y h k => by simp only [ltI, decide_eq_false_iff_not] at h k; omega
theorem totS : Tot ltS where
  asym := fun x y h => by
    simp only [ltS, decide_eq_true_eq, decide_eq_false_iff_not] at h ⊢
    exact fun z => List.lt_irrefl x (List.lt_trans h z)
  tr := fun x y z h k => by
    simp only [ltS, decide_eq_false_iff_not] at h k ⊢
    have h' : x ≤ y := List.not_lt.mp h
    have k' : y ≤ z := List.not_lt.mp k
    exact List.not_lt.mpr (List.le_trans h' k')
  anti := fun x y h k => by
    simp only [ltS, decide_eq_false_iff_not] at h k
    exact List.le_antisymm (List.not_lt.mp k) (List.not_lt.mp h)
end QF
end

section
/-! QF2: how plain values and the store lie in the heap; what the evaluator's answer is worth as a reading. -/
namespace QF
open PySem L2

/-- what is known of the text behind the top: its written part, where each def and class stands -/
structure Gi where
  K : PySem.W.Frag
  fa : Nat → Addr
  ca : Nat → Addr
  kt : List D
  /-- the tuples of the run are known to the object (then no tuple is a key) -/
  xt : Bool

abbrev txt (s : Cs) : Str := ⟨s.toArray⟩
def kK : D → Option Key
  | .int i => some (.inl i)
  | .str s => some (.inr (txt s))
  | _ => none
def kT : D → Option (List Key)
  | .tup ds => allOf kK ds
  | _ => none

/-- a tuple, known to the object -/
def TupX (H : Hp) (a : Addr) (vs : List V) : Prop := ∃ o, H a = some (.frz o (.tup vs)) ∧ o.cls = .type "tuple" ∧ o.dict = none
/-- a tuple of the written part -/
def KTup (K : PySem.W.Frag) (a : Addr) (vs : List V) : Prop := ∃ (o : Obj) (its : Array Value) (n : Nat), K.lookup a = some o ∧ o.cls = .type "tuple" ∧ o.dict = none ∧ o.data = .seq its n ∧ its.size ≤ sizeLine ∧ Vals vs its.toList
/-- a tuple stands at a: tracked, or one of the written part's that is told -/
def TupAt (G : Gi) (H : Hp) (a : Addr) (ds : List D) (vs : List V) : Prop := (G.xt = false ∧ H a = some (.tup vs)) ∨ (G.xt = true ∧ TupX H a vs) ∨ (KTup G.K a vs ∧ D.tup ds ∈ G.kt)
theorem TupAt.sqT {G : Gi} {H : Hp} {a : Addr} {ds : List D} {vs : List V} (h : TupAt G H a ds vs) : SqT G.K H a vs := by
  rcases h with ⟨_, h⟩ | ⟨_, o, h, _⟩ | ⟨⟨o, its, n, h1, h2, _, h3, h4, h5⟩, _⟩
  · exact SqT.of h
  · exact .inl (.inr ⟨o, h⟩)
  · exact .inr ⟨o, its, n, h1, h2, h3, h4, h5⟩
mutual
/-- the value d as v: Fz: the addresses of what is never written again; μ: where the things of the store stand -/
def Rep (G : Gi) (Fz : Addr → Prop) (μ : List Addr) (H : Hp) : D → V → Prop
  | .non, v => v = .non
  | .bl b, v => v = .bl b
  | .int i, v => v = .int i
  | .str s, v => v = .str (txt s)
  | .tup ds, v => ∃ a vs, v = .ref a ∧ TupAt G H a ds vs ∧ Reps G Fz μ H ds vs
  | .pr ds, v => ∃ a vs, v = .ref a ∧ H a = some (.tup vs) ∧ Reps G Fz μ H ds vs
  | .lst ds, v => ∃ a vs, v = .ref a ∧ Fz a ∧ H a = some (.lst vs) ∧ Reps G Fz μ H ds vs
  | .dic t ks ws, v => ∃ a vs, v = .ref a ∧ Fz a ∧ Reps G Fz μ H ws vs ∧
      ((t = false ∧ ∃ kk, allOf kK ks = some kk ∧ kk.length = vs.length ∧ H a = some (.dK (kk.zip vs))) ∨
       ((t = true ∧ G.xt = false) ∧ ∃ kk, allOf kT ks = some kk ∧ kk.length = vs.length ∧ H a = some (.dT (kk.zip vs))))
  | .loc n, v => ∃ a, v = .ref a ∧ μ[n]? = some a
  | .fn f, v => v = .ref (G.fa f)
  | .scr is, v => ∃ a, v = .ref a ∧ ((∃ o, H a = some (.frz o (.lst (is.map V.int)))) ∨ SqL G.K (fun _ => none) a (is.map V.int))
  | .exc _ _, _ => False
def Reps (G : Gi) (Fz : Addr → Prop) (μ : List Addr) (H : Hp) : List D → List V → Prop
  | [], vs => vs = []
  | d :: ds, vs => ∃ v r, vs = v :: r ∧ Rep G Fz μ H d v ∧ Reps G Fz μ H ds r
end

def fixO : HO → Prop
  | .tup _ => True
  | .frz _ _ => True
  | _ => False
/-- what a value leans on is kept -/
structure Keep (Fz Fz' : Addr → Prop) (μ μ' : List Addr) (H H' : Hp) : Prop where
  fz : ∀ a, Fz a → Fz' a
  mu : ∀ (n : Nat) (a : Addr), μ[n]? = some a → μ'[n]? = some a
  ob : ∀ a o, H a = some o → Fz a ∨ fixO o → H' a = some o
theorem Keep.refl {Fz : Addr → Prop} {μ : List Addr} {H : Hp} : Keep Fz Fz μ μ H H := ⟨fun _ h => h, fun _ _ h => h, fun _ _ h _ => h⟩
theorem Keep.tupAt {G : Gi} {Fz Fz' : Addr → Prop} {μ μ' : List Addr} {H H' : Hp} (k : Keep Fz Fz' μ μ' H H') {a : Addr} {ds : List D} {vs : List V} (h : TupAt G H a ds vs) : TupAt G H' a ds vs := by
  rcases h with ⟨e, h⟩ | ⟨e, o, h, q⟩ | h
  · exact .inl ⟨e, k.ob _ _ h (.inr trivial)⟩
  · exact .inr (.inl ⟨e, o, k.ob _ _ h (.inr trivial), q⟩)
  · exact .inr (.inr h)
mutual
theorem Rep.keep {G : Gi} {Fz Fz' : Addr → Prop} {μ μ' : List Addr} {H H' : Hp} (k : Keep Fz Fz' μ μ' H H') : ∀ (d : D) (v : V), Rep G Fz μ H d v → Rep G Fz' μ' H' d v
  | .non, v, h => by simp only [Rep] at h ⊢; exact h
  | .bl _, v, h => by simp only [Rep] at h ⊢; exact h
  | .int _, v, h => by simp only [Rep] at h ⊢; exact h
  | .str _, v, h => by simp only [Rep] at h ⊢; exact h
  | .tup ds, v, h => by
    simp only [Rep] at h ⊢
    obtain ⟨a, vs, e, s, r⟩ := h
    exact ⟨a, vs, e, k.tupAt s, Reps.keep k ds vs r⟩
  | .pr ds, v, h => by
    simp only [Rep] at h ⊢
    obtain ⟨a, vs, e, s, r⟩ := h
    exact ⟨a, vs, e, k.ob _ _ s (.inr trivial), Reps.keep k ds vs r⟩
  | .lst ds, v, h => by
    simp only [Rep] at h ⊢
    obtain ⟨a, vs, e, f, s, r⟩ := h
    exact ⟨a, vs, e, k.fz _ f, k.ob _ _ s (.inl f), Reps.keep k ds vs r⟩
  | .dic t ks ws, v, h => by
    simp only [Rep] at h ⊢
    obtain ⟨a, vs, e, f, r, s⟩ := h
    refine ⟨a, vs, e, k.fz _ f, Reps.keep k ws vs r, ?_⟩
    rcases s with ⟨t, kk, e1, e2, e3⟩ | ⟨t, kk, e1, e2, e3⟩
    · exact .inl ⟨t, kk, e1, e2, k.ob _ _ e3 (.inl f)⟩
    · exact .inr ⟨t, kk, e1, e2, k.ob _ _ e3 (.inl f)⟩
  | .loc n, v, h => by
    simp only [Rep] at h ⊢
    obtain ⟨a, e, m⟩ := h
    exact ⟨a, e, k.mu _ _ m⟩
  | .fn _, v, h => by simp only [Rep] at h ⊢; exact h
  | .scr _, v, h => by
    simp only [Rep] at h ⊢
    obtain ⟨a, e, m⟩ := h
    refine ⟨a, e, ?_⟩
    rcases m with ⟨o, m⟩ | m
    · exact .inl ⟨o, k.ob _ _ m (.inr trivial)⟩
    · exact .inr m
  | .exc _ _, v, h => by simp only [Rep] at h
theorem Reps.keep {G : Gi} {Fz Fz' : Addr → Prop} {μ μ' : List Addr} {H H' : Hp} (k : Keep Fz Fz' μ μ' H H') : ∀ (ds : List D) (vs : List V), Reps G Fz μ H ds vs → Reps G Fz' μ' H' ds vs
  | [], vs, h => by simp only [Reps] at h ⊢; exact h
  | d :: ds, vs, h => by
    simp only [Reps] at h ⊢
    obtain ⟨v, r, e, h1, h2⟩ := h
    exact ⟨v, r, e, Rep.keep k d v h1, Reps.keep k ds r h2⟩
end

/-- a thing of the store at a -/
def RepO (G : Gi) (Fz : Addr → Prop) (μ : List Addr) (H : Hp) (a : Addr) : O → Prop
  | .dead => True
  | .lst ds => ∃ vs, H a = some (.lst vs) ∧ Reps G Fz μ H ds vs
  | .dic t ks ws => ∃ vs, Reps G Fz μ H ws vs ∧
      ((t = false ∧ ∃ kk, allOf kK ks = some kk ∧ kk.length = vs.length ∧ H a = some (.dK (kk.zip vs))) ∨
       ((t = true ∧ G.xt = false) ∧ ∃ kk, allOf kT ks = some kk ∧ kk.length = vs.length ∧ H a = some (.dT (kk.zip vs))))
  | .ins c fs => False
theorem RepO.keep {G : Gi} {Fz Fz' : Addr → Prop} {μ μ' : List Addr} {H H' : Hp} (k : Keep Fz Fz' μ μ' H H') {a : Addr} (ha : H' a = H a) : ∀ (o : O), RepO G Fz μ H a o → RepO G Fz' μ' H' a o
  | .dead, _ => trivial
  | .lst ds, h => by
    obtain ⟨vs, e, r⟩ := h
    exact ⟨vs, ha.trans e, Reps.keep k ds vs r⟩
  | .dic t ks ws, h => by
    obtain ⟨vs, r, s⟩ := h
    refine ⟨vs, Reps.keep k ws vs r, ?_⟩
    rcases s with ⟨t, kk, e1, e2, e3⟩ | ⟨t, kk, e1, e2, e3⟩
    · exact .inl ⟨t, kk, e1, e2, ha.trans e3⟩
    · exact .inr ⟨t, kk, e1, e2, ha.trans e3⟩
  | .ins c fs, h => h.elim
/-- what a thing of the store may be in the heap -/
theorem RepO.nofix {G : Gi} {Fz : Addr → Prop} {μ : List Addr} {H : Hp} {a : Addr} {o : O} (h : RepO G Fz μ H a o) (hd : o ≠ .dead) : ∃ x, H a = some x ∧ ¬ fixO x := by
  cases o with
  | dead => exact absurd rfl hd
  | lst ds =>
    obtain ⟨vs, e, _⟩ := h
    exact ⟨_, e, fun z => z⟩
  | dic t ks ws =>
    obtain ⟨vs, _, ⟨_, kk, _, _, e⟩ | ⟨_, kk, _, _, e⟩⟩ := h
    · exact ⟨_, e, fun z => z⟩
    · exact ⟨_, e, fun z => z⟩
  | ins c fs => exact h.elim

/-- a thing that lives stands at a -/
def Live (S : Sto) (μ : List Addr) (a : Addr) : Prop := ∃ (n : Nat) (o : O), S[n]? = some o ∧ o ≠ .dead ∧ μ[n]? = some a
structure RepS (G : Gi) (Fz : Addr → Prop) (μ : List Addr) (H : Hp) (S : Sto) : Prop where
  len : μ.length = S.length
  obj : ∀ (n : Nat) (o : O) (a : Addr), S[n]? = some o → μ[n]? = some a → RepO G Fz μ H a o
  uniq : ∀ (n m : Nat) (a : Addr) (o o' : O), μ[n]? = some a → μ[m]? = some a → S[n]? = some o → o ≠ .dead → S[m]? = some o' → o' ≠ .dead → n = m
  nfz : ∀ a, Live S μ a → ¬ Fz a
  fzt : ∀ a, Fz a → H a ≠ none
theorem RepS.there {G : Gi} {Fz : Addr → Prop} {μ : List Addr} {H : Hp} {S : Sto} (r : RepS G Fz μ H S) {a : Addr} (h : Live S μ a) : ∃ x, H a = some x ∧ ¬ fixO x := by
  obtain ⟨n, o, h1, h2, h3⟩ := h
  exact (r.obj n o a h1 h3).nofix h2

/-- what a run may have done -/
structure Ext (Fz : Addr → Prop) (μ : List Addr) (S : Sto) (H : Hp) (Fz' : Addr → Prop) (μ' : List Addr) (S' : Sto) (H' : Hp) : Prop where
  fz : ∀ a, Fz a → Fz' a
  newfz : ∀ a, Fz' a → Fz a ∨ Live S μ a ∨ H a = none
  chg : ∀ a o, H a = some o → ¬ Live S μ a → H' a = some o
  newlive : ∀ a, Live S' μ' a → Live S μ a ∨ H a = none
  mu : ∀ (n : Nat) (a : Addr), μ[n]? = some a → μ'[n]? = some a
  there : ∀ a, H a ≠ none → H' a ≠ none
theorem Ext.refl {Fz : Addr → Prop} {μ : List Addr} {S : Sto} {H : Hp} : Ext Fz μ S H Fz μ S H :=
  ⟨fun _ h => h, fun _ h => .inl h, fun _ _ h _ => h, fun _ h => .inl h, fun _ _ h => h, fun _ h => h⟩
theorem Ext.trans {F1 F2 F3 : Addr → Prop} {μ1 μ2 μ3 : List Addr} {S1 S2 S3 : Sto} {H1 H2 H3 : Hp} (a : Ext F1 μ1 S1 H1 F2 μ2 S2 H2) (b : Ext F2 μ2 S2 H2 F3 μ3 S3 H3) : Ext F1 μ1 S1 H1 F3 μ3 S3 H3 where
  fz := fun x h => b.fz x (a.fz x h)
  newfz := fun x h => by
    rcases b.newfz x h with h | h | h
    · exact a.newfz x h
    · exact .inr (a.newlive x h)
    · refine .inr (.inr ?_)
      cases e : H1 x with
      | none => rfl
      | some o => exact absurd h (a.there x (by rw [e]; simp))
  chg := fun x o h n => by
    have h2 := a.chg x o h n
    refine b.chg x o h2 fun l => ?_
    rcases a.newlive x l with l | l
    · exact n l
    · rw [h] at l; cases l
  newlive := fun x h => by
    rcases b.newlive x h with h | h
    · exact a.newlive x h
    · refine .inr ?_
      cases e : H1 x with
      | none => rfl
      | some o => exact absurd h (a.there x (by rw [e]; simp))
  mu := fun n x h => b.mu n x (a.mu n x h)
  there := fun x h => b.there x (a.there x h)
theorem Ext.keep {G : Gi} {Fz Fz' : Addr → Prop} {μ μ' : List Addr} {S S' : Sto} {H H' : Hp} (r : RepS G Fz μ H S) (e : Ext Fz μ S H Fz' μ' S' H') : Keep Fz Fz' μ μ' H H' where
  fz := e.fz
  mu := e.mu
  ob := fun a o h c => e.chg a o h fun l => by
    rcases c with c | c
    · exact r.nfz a l c
    · obtain ⟨x, hx, nx⟩ := r.there l
      rw [h] at hx; cases hx
      exact nx c

def RepE (G : Gi) (Fz : Addr → Prop) (μ : List Addr) (H : Hp) (ρ : Env) (σ : L2.St) : Prop :=
  ρ.length = σ.length ∧ ∀ (i : Nat) (d : D), ρ[i]? = some (some d) → ∃ v, σ[i]? = some (some v) ∧ Rep G Fz μ H d v
theorem RepE.keep {G : Gi} {Fz Fz' : Addr → Prop} {μ μ' : List Addr} {H H' : Hp} {ρ : Env} {σ : L2.St} (k : Keep Fz Fz' μ μ' H H') (h : RepE G Fz μ H ρ σ) : RepE G Fz' μ' H' ρ σ :=
  ⟨h.1, fun i d e => let ⟨v, e1, r⟩ := h.2 i d e; ⟨v, e1, Rep.keep k d v r⟩⟩

/-- an exception as it lies: its class, the dict of its fields -/
def ExcAt (G : Gi) (c : Nat) (fs : List D) (cls : Value) (dx : Option Addr) (H : Hp) : Prop := cls = .ref (G.ca c) ∧ fs = [] ∧ dx = none

/-- what an answer is worth at a state -/
def Go {α : Type} (G : Gi) (W : WX) (σ : L2.St) (Pq : (Addr → Prop) → List Addr → Hp → Sto → α → Prop) (Fz : Addr → Prop) (μ : List Addr) (S : Sto) (H : Hp) (r : Res α) : Prop := match r with
  | .ok a S' => ∀ Fz' μ' H', Ext Fz μ S H Fz' μ' S' H' → RepS G Fz' μ' H' S' → Pq Fz' μ' H' S' a
  | .exc c fs S' => ∀ Fz' μ' H' cls dx, Ext Fz μ S H Fz' μ' S' H' → RepS G Fz' μ' H' S' → ExcAt G c fs cls dx H' → W cls dx σ H'
  | .stk => False
theorem Go.ext {α : Type} {G : Gi} {W : WX} {σ : L2.St} {Pq : (Addr → Prop) → List Addr → Hp → Sto → α → Prop} {Fz Fz' : Addr → Prop} {μ μ' : List Addr} {S S' : Sto} {H H' : Hp} {r : Res α} (g : Go G W σ Pq Fz μ S H r)
    (e : Ext Fz μ S H Fz' μ' S' H') : Go G W σ Pq Fz' μ' S' H' r := by
  cases r with
  | ok a S'' => exact fun F2 μ2 H2 e2 r2 => g F2 μ2 H2 (e.trans e2) r2
  | exc c fs S'' => exact fun F2 μ2 H2 cls dx e2 r2 x => g F2 μ2 H2 cls dx (e.trans e2) r2 x
  | stk => exact g
/-- an answer and what comes behind it -/
theorem Go.bind {α β : Type} {G : Gi} {W : WX} {σ : L2.St} {Pq : (Addr → Prop) → List Addr → Hp → Sto → β → Prop} {Rq : (Addr → Prop) → List Addr → Hp → Sto → α → Prop} {Fz : Addr → Prop} {μ : List Addr} {S : Sto} {H : Hp} {r : Res α} {k : α → Sto → Res β}
    (g : Go G W σ Pq Fz μ S H (r.bind k)) (h : ∀ a S' Fz' μ' H', Ext Fz μ S H Fz' μ' S' H' → RepS G Fz' μ' H' S' → Go G W σ Pq Fz' μ' S' H' (k a S') → Rq Fz' μ' H' S' a) : Go G W σ Rq Fz μ S H r := by
  cases r with
  | ok a S' =>
    intro F2 μ2 H2 e2 r2
    exact h a S' F2 μ2 H2 e2 r2 (Go.ext (show Go G W σ Pq Fz μ S H (k a S') from g) e2)
  | exc c fs S' => exact g
  | stk => exact g

/-- values -/
abbrev qV (G : Gi) (Q : VK) : (Addr → Prop) → List Addr → Hp → Sto → D → Prop := fun Fz μ H _ d => ∀ v, Rep G Fz μ H d v → Q v H
abbrev qVs (G : Gi) (Q : List V → Hp → Prop) : (Addr → Prop) → List Addr → Hp → Sto → List D → Prop := fun Fz μ H _ ds => ∀ vs, Reps G Fz μ H ds vs → Q vs H
abbrev qB (Q : Bool → Hp → Prop) : (Addr → Prop) → List Addr → Hp → Sto → D → Prop := fun _ _ H _ d => ∃ b, d = .bl b ∧ Q b H
/-- the state ahead, with a run -/
def At {α : Type} (G : Gi) (W : WX) (m : Env → Sto → Res α) (Pq : (Addr → Prop) → List Addr → Hp → Sto → α → Prop) (σ : L2.St) (H : Hp) : Prop :=
  ∃ Fz μ ρ S, RepS G Fz μ H S ∧ RepE G Fz μ H ρ σ ∧ Go G W σ Pq Fz μ S H (m ρ S)
/-- the readings -/
def tD (G : Gi) (W : WX) (m : Env → Sto → Res D) : TE := fun σ H Q => At G W m (qV G Q) σ H
def tT (G : Gi) (W : WX) (m : Env → Sto → Res D) : TT := fun σ H Q => At G W m (qB Q) σ H
def tDs (G : Gi) (W : WX) (m : Env → Sto → Res (List D)) : TA := fun σ H Q => At G W m (qVs G Q) σ H

theorem PE.imp {X : Cx} {e : Expr} {t t' : TE} (h : PE X e t) (w : ∀ σ H Q, t' σ H Q → t σ H Q) : PE X e t' := ⟨fun p s σ H Q I x => h.run p s σ H Q I (w _ _ _ x)⟩
theorem PT.imp {X : Cx} {e : Expr} {t t' : TT} (h : PT X e t) (w : ∀ σ H Q, t' σ H Q → t σ H Q) : PT X e t' := ⟨fun p s σ H Q I x => h.run p s σ H Q I (w _ _ _ x)⟩
theorem PA.imp {X : Cx} {es : List Expr} {t t' : TA} (h : PA X es t) (w : ∀ σ H Q, t' σ H Q → t σ H Q) : PA X es t' := ⟨fun o p s σ H Q I x => h.run o p s σ H Q I (w _ _ _ x)⟩
theorem PS.imp {X : Cx} {st : Stmt} {t t' : TS} (h : PS X st t) (w : ∀ D σ H, t' D σ H → t D σ H) : PS X st t' := ⟨fun p s σ H D I x => h.run p s σ H D I (w _ _ _ x)⟩
theorem PSs.imp {X : Cx} {st : List Stmt} {t t' : TS} (h : PSs X st t) (w : ∀ D σ H, t' D σ H → t D σ H) : PSs X st t' := ⟨fun p s σ H D I x => h.run p s σ H D I (w _ _ _ x)⟩
theorem PG.imp {X : Cx} {e : Expr} {t t' : TG} (h : PG X e t) (w : ∀ v σ H Q, t' v σ H Q → t v σ H Q) : PG X e t' := ⟨fun p s σ H v u Q I r x => h.run p s σ H v u Q I r (w _ _ _ _ x)⟩
theorem PI.imp {X : Cx} {tg e : Expr} {t t' : TI} (h : PI X tg e t) (w : ∀ σ H R, t' σ H R → t σ H R) : PI X tg e t' := ⟨fun p s σ H R I x => h.run p s σ H R I (w _ _ _ x)⟩

/-- the first part of a run -/
theorem At.bind {α β : Type} {G : Gi} {W : WX} {σ : L2.St} {H : Hp} {Pq : (Addr → Prop) → List Addr → Hp → Sto → β → Prop} {Rq : (Addr → Prop) → List Addr → Hp → Sto → α → Prop} {m : Env → Sto → Res α} {k : Env → α → Sto → Res β}
    (g : At G W (fun ρ S => (m ρ S).bind (k ρ)) Pq σ H)
    (h : ∀ Fz μ H' S ρ a, RepS G Fz μ H' S → RepE G Fz μ H' ρ σ → Go G W σ Pq Fz μ S H' (k ρ a S) → Rq Fz μ H' S a) : At G W m Rq σ H := by
  obtain ⟨Fz, μ, ρ, S, rs, re, go⟩ := g
  exact ⟨Fz, μ, ρ, S, rs, re, go.bind fun a S' F' μ' H' e r' g' => h F' μ' H' S' ρ a r' (re.keep (e.keep rs)) g'⟩
/-- at an answer that is there -/
theorem Go.now {α : Type} {G : Gi} {W : WX} {σ : L2.St} {Pq : (Addr → Prop) → List Addr → Hp → Sto → α → Prop} {Fz : Addr → Prop} {μ : List Addr} {S : Sto} {H : Hp} {a : α} (g : Go G W σ Pq Fz μ S H (.ok a S)) (r : RepS G Fz μ H S) : Pq Fz μ H S a :=
  g Fz μ H .refl r
end QF
end

section
/-! QF3: new things, stores, readings of operations. -/
namespace QF
open PySem L2
variable {G : Gi} {Fz : Addr → Prop} {μ : List Addr} {H : Hp} {S : Sto}

theorem RepS.nolive {p : Addr} (r : RepS G Fz μ H S) (hp : H p = none) : ¬ Live S μ p := fun l => by
  obtain ⟨x, hx, _⟩ := r.there l
  rw [hp] at hx; cases hx
theorem RepS.nofz {p : Addr} (r : RepS G Fz μ H S) (hp : H p = none) : ¬ Fz p := fun l => r.fzt p l hp
theorem keep_upd {p : Addr} {o : HO} (hp : H p = none) : Keep Fz Fz μ μ H (upd H p o) :=
  ⟨fun _ h => h, fun _ _ h => h, fun a x h _ => by rw [upd_ne (ne_of_none h hp)]; exact h⟩
/-- a new address is tracked: nothing of the store, nothing frozen -/
theorem ext_new {p : Addr} {o : HO} (hp : H p = none) : Ext Fz μ S H Fz μ S (upd H p o) where
  fz := fun _ h => h
  newfz := fun _ h => .inl h
  chg := fun a x h _ => by rw [upd_ne (ne_of_none h hp)]; exact h
  newlive := fun _ h => .inl h
  mu := fun _ _ h => h
  there := fun a h => by
    by_cases e : a = p
    · subst e; rw [upd_same]; simp
    · rw [upd_ne e]; exact h
theorem reps_new {p : Addr} {o : HO} (r : RepS G Fz μ H S) (hp : H p = none) : RepS G Fz μ (upd H p o) S where
  len := r.len
  obj := fun n x a h1 h2 => by
    by_cases hd : x = .dead
    · subst hd; trivial
    · have np : a ≠ p := fun e => r.nolive (e ▸ hp) ⟨n, x, h1, hd, h2⟩
      exact RepO.keep (keep_upd hp) (upd_ne np) x (r.obj n x a h1 h2)
  uniq := r.uniq
  nfz := r.nfz
  fzt := fun a h => (ext_new (Fz := Fz) (μ := μ) (S := S) hp).there a (r.fzt a h)
/-- .. and frozen -/
def orF (Fz : Addr → Prop) (p : Addr) : Addr → Prop := fun a => Fz a ∨ a = p
theorem ext_frz {p : Addr} {o : HO} (hp : H p = none) : Ext Fz μ S H (orF Fz p) μ S (upd H p o) where
  fz := fun _ h => .inl h
  newfz := fun a h => by
    rcases h with h | h
    · exact .inl h
    · subst h; exact .inr (.inr hp)
  chg := (ext_new (Fz := Fz) (μ := μ) (S := S) hp).chg
  newlive := fun _ h => .inl h
  mu := fun _ _ h => h
  there := (ext_new (Fz := Fz) (μ := μ) (S := S) hp).there
theorem keep_or {p : Addr} : Keep Fz (orF Fz p) μ μ H H := ⟨fun _ h => .inl h, fun _ _ h => h, fun _ _ h _ => h⟩
theorem keep_or_upd {p : Addr} {o : HO} (hp : H p = none) : Keep Fz (orF Fz p) μ μ H (upd H p o) :=
  ⟨fun _ h => .inl h, fun _ _ h => h, fun a x h _ => by rw [upd_ne (ne_of_none h hp)]; exact h⟩
theorem reps_frz {p : Addr} {o : HO} (r : RepS G Fz μ H S) (hp : H p = none) : RepS G (orF Fz p) μ (upd H p o) S where
  len := r.len
  obj := fun n x a h1 h2 => by
    by_cases hd : x = .dead
    · subst hd; trivial
    · have np : a ≠ p := fun e => r.nolive (e ▸ hp) ⟨n, x, h1, hd, h2⟩
      exact RepO.keep (keep_or_upd hp) (upd_ne np) x (r.obj n x a h1 h2)
  uniq := r.uniq
  nfz := fun a l h => by
    rcases h with h | h
    · exact r.nfz a l h
    · subst h; exact r.nolive hp l
  fzt := fun a h => by
    rcases h with h | h
    · exact (ext_new (Fz := Fz) (μ := μ) (S := S) hp).there a (r.fzt a h)
    · subst h; rw [upd_same]; simp
/-- .. and a new thing of the store -/
theorem live_app {p : Addr} {o : O} (r : RepS G Fz μ H S) {a : Addr} (h : Live (S ++ [o]) (μ ++ [p]) a) : Live S μ a ∨ a = p := by
  obtain ⟨n, x, h1, h2, h3⟩ := h
  by_cases hn : n < S.length
  · rw [List.getElem?_append_left hn] at h1
    rw [List.getElem?_append_left (by rw [r.len]; exact hn)] at h3
    exact .inl ⟨n, x, h1, h2, h3⟩
  · right
    have hl : n < (S ++ [o]).length := (List.getElem?_eq_some_iff.mp h1).1
    rw [List.length_append] at hl
    simp only [List.length_cons, List.length_nil] at hl
    have en : n = μ.length := by rw [r.len]; omega
    rw [en, List.getElem?_append_right (Nat.le_refl _)] at h3
    simp at h3
    exact h3.symm
theorem ext_loc {p : Addr} {o : HO} {x : O} (r : RepS G Fz μ H S) (hp : H p = none) : Ext Fz μ S H Fz (μ ++ [p]) (S ++ [x]) (upd H p o) where
  fz := fun _ h => h
  newfz := fun _ h => .inl h
  chg := (ext_new (Fz := Fz) (μ := μ) (S := S) hp).chg
  newlive := fun a h => by
    rcases live_app r h with h | h
    · exact .inl h
    · subst h; exact .inr hp
  mu := fun n a h => by
    rw [List.getElem?_append_left (List.getElem?_eq_some_iff.mp h).1]; exact h
  there := (ext_new (Fz := Fz) (μ := μ) (S := S) hp).there
theorem reps_loc {p : Addr} {o : HO} {x : O} (r : RepS G Fz μ H S) (hp : H p = none) (hx : RepO G Fz (μ ++ [p]) (upd H p o) p x) : RepS G Fz (μ ++ [p]) (upd H p o) (S ++ [x]) where
  len := by rw [List.length_append, List.length_append, r.len]; rfl
  obj := fun n y a h1 h2 => by
    by_cases hn : n < S.length
    · rw [List.getElem?_append_left hn] at h1
      rw [List.getElem?_append_left (by rw [r.len]; exact hn)] at h2
      by_cases hd : y = .dead
      · subst hd; trivial
      · have np : a ≠ p := fun e => r.nolive (e ▸ hp) ⟨n, y, h1, hd, h2⟩
        have k : Keep Fz Fz μ (μ ++ [p]) H (upd H p o) := ⟨fun _ h => h, (ext_loc (x := x) (o := o) r hp).mu, (keep_upd (μ := μ) hp).ob⟩
        exact RepO.keep k (upd_ne np) y (r.obj n y a h1 h2)
    · have hl : n < (S ++ [x]).length := (List.getElem?_eq_some_iff.mp h1).1
      rw [List.length_append] at hl
      simp only [List.length_cons, List.length_nil] at hl
      have en : n = S.length := by omega
      have en2 : n = μ.length := by rw [r.len]; exact en
      rw [en, List.getElem?_append_right (Nat.le_refl _)] at h1
      rw [en2, List.getElem?_append_right (Nat.le_refl _)] at h2
      simp at h1 h2
      subst h1 h2
      exact hx
  uniq := fun n m a y y' h1 h2 h3 h4 h5 h6 => by
    have go : ∀ (n : Nat) (y : O), (S ++ [x])[n]? = some y → (μ ++ [p])[n]? = some a → y ≠ .dead → (n < S.length ∧ S[n]? = some y ∧ μ[n]? = some a ∧ a ≠ p) ∨ (n = S.length ∧ a = p) := fun n y h h' hd => by
      by_cases hn : n < S.length
      · rw [List.getElem?_append_left hn] at h
        rw [List.getElem?_append_left (by rw [r.len]; exact hn)] at h'
        exact .inl ⟨hn, h, h', fun e => r.nolive (e ▸ hp) ⟨n, y, h, hd, h'⟩⟩
      · have hl : n < (S ++ [x]).length := (List.getElem?_eq_some_iff.mp h).1
        rw [List.length_append] at hl
        simp only [List.length_cons, List.length_nil] at hl
        have en2 : n = μ.length := by rw [r.len]; omega
        rw [en2, List.getElem?_append_right (Nat.le_refl _)] at h'
        simp at h'
        exact .inr ⟨by omega, h'.symm⟩
    rcases go n y h3 h1 h4 with ⟨a1, a2, a3, a4⟩ | ⟨a1, a2⟩
    · rcases go m y' h5 h2 h6 with ⟨b1, b2, b3, b4⟩ | ⟨b1, b2⟩
      · exact r.uniq n m a y y' a3 b3 a2 h4 b2 h6
      · exact absurd b2 a4
    · rcases go m y' h5 h2 h6 with ⟨b1, b2, b3, b4⟩ | ⟨b1, b2⟩
      · exact absurd a2 b4
      · omega
  nfz := fun a l h => by
    rcases live_app r l with l | e
    · exact r.nfz a l h
    · subst e; exact r.nofz hp h
  fzt := fun a h => (ext_new (Fz := Fz) (μ := μ) (S := S) hp).there a (r.fzt a h)
/-- a thing of the store is written -/
theorem live_set {n : Nat} {a : Addr} {o x : O} (h1 : S[n]? = some o) (hd : o ≠ .dead) (h2 : μ[n]? = some a) {b : Addr} (h : Live (S.set n x) μ b) : Live S μ b := by
  obtain ⟨m, y, h3, h4, h5⟩ := h
  by_cases e : m = n
  · subst e
    exact ⟨m, o, h1, hd, h5⟩
  · rw [List.getElem?_set_ne (Ne.symm e)] at h3
    exact ⟨m, y, h3, h4, h5⟩
theorem ext_set {n : Nat} {a : Addr} {o x : O} {u : HO} (h1 : S[n]? = some o) (hd : o ≠ .dead) (h2 : μ[n]? = some a) : Ext Fz μ S H Fz μ (S.set n x) (upd H a u) where
  fz := fun _ h => h
  newfz := fun _ h => .inl h
  chg := fun b y h nl => by
    have nb : b ≠ a := fun e => nl (e ▸ ⟨n, o, h1, hd, h2⟩)
    rw [upd_ne nb]; exact h
  newlive := fun b h => .inl (live_set h1 hd h2 h)
  mu := fun _ _ h => h
  there := fun b h => by
    by_cases e : b = a
    · subst e; rw [upd_same]; simp
    · rw [upd_ne e]; exact h
theorem reps_set {n : Nat} {a : Addr} {o x : O} {u : HO} (r : RepS G Fz μ H S) (h1 : S[n]? = some o) (hd : o ≠ .dead) (h2 : μ[n]? = some a) (hx : RepO G Fz μ (upd H a u) a x) : RepS G Fz μ (upd H a u) (S.set n x) where
  len := by rw [List.length_set]; exact r.len
  obj := fun m y b h3 h4 => by
    by_cases e : m = n
    · subst e
      rw [List.getElem?_set_self (List.getElem?_eq_some_iff.mp h1).1] at h3
      cases h3
      rw [h2] at h4; cases h4
      exact hx
    · rw [List.getElem?_set_ne (Ne.symm e)] at h3
      by_cases hy : y = .dead
      · subst hy; trivial
      · have nb : b ≠ a := fun e' => e (r.uniq m n a y o (e' ▸ h4) h2 h3 hy h1 hd)
        exact RepO.keep (Ext.keep r (ext_set (x := x) h1 hd h2)) (upd_ne nb) y (r.obj m y b h3 h4)
  uniq := fun m k b y y' h3 h4 h5 h6 h7 h8 => by
    have go : ∀ (m : Nat) (y : O), (S.set n x)[m]? = some y → ∃ z, S[m]? = some z ∧ (z ≠ .dead ∨ m ≠ n ∧ z = y) := fun m y h => by
      by_cases e : m = n
      · subst e; exact ⟨o, h1, .inl hd⟩
      · rw [List.getElem?_set_ne (Ne.symm e)] at h
        exact ⟨y, h, .inr ⟨e, rfl⟩⟩
    obtain ⟨z, hz, cz⟩ := go m y h5
    obtain ⟨z', hz', cz'⟩ := go k y' h7
    refine r.uniq m k b z z' h3 h4 hz ?_ hz' ?_
    · rcases cz with c | ⟨_, c⟩
      · exact c
      · rw [c]; exact h6
    · rcases cz' with c | ⟨_, c⟩
      · exact c
      · rw [c]; exact h8
  nfz := fun b l h => r.nfz b (live_set h1 hd h2 l) h
  fzt := fun b h => (ext_set (Fz := Fz) (x := x) (u := u) (H := H) h1 hd h2).there b (r.fzt b h)
/-- a thing of the store is frozen -/
theorem live_dead {n : Nat} {b : Addr} (h : Live (S.set n .dead) μ b) : ∃ m y, m ≠ n ∧ S[m]? = some y ∧ y ≠ .dead ∧ μ[m]? = some b := by
  obtain ⟨m, y, h3, h4, h5⟩ := h
  by_cases e : m = n
  · subst e
    have hl := (List.getElem?_eq_some_iff.mp h3).1
    rw [List.length_set] at hl
    rw [List.getElem?_set_self hl] at h3
    cases h3
    exact absurd rfl h4
  · rw [List.getElem?_set_ne (Ne.symm e)] at h3
    exact ⟨m, y, e, h3, h4, h5⟩
theorem ext_dead {n : Nat} {a : Addr} {o : O} (h1 : S[n]? = some o) (hd : o ≠ .dead) (h2 : μ[n]? = some a) : Ext Fz μ S H (orF Fz a) μ (S.set n .dead) H where
  fz := fun _ h => .inl h
  newfz := fun b h => by
    rcases h with h | h
    · exact .inl h
    · subst h; exact .inr (.inl ⟨n, o, h1, hd, h2⟩)
  chg := fun _ _ h _ => h
  newlive := fun b h => by
    obtain ⟨m, y, _, h3, h4, h5⟩ := live_dead h
    exact .inl ⟨m, y, h3, h4, h5⟩
  mu := fun _ _ h => h
  there := fun _ h => h
theorem reps_dead {n : Nat} {a : Addr} {o : O} (r : RepS G Fz μ H S) (h1 : S[n]? = some o) (hd : o ≠ .dead) (h2 : μ[n]? = some a) : RepS G (orF Fz a) μ H (S.set n .dead) where
  len := by rw [List.length_set]; exact r.len
  obj := fun m y b h3 h4 => by
    by_cases e : m = n
    · subst e
      rw [List.getElem?_set_self (List.getElem?_eq_some_iff.mp h1).1] at h3
      cases h3
      trivial
    · rw [List.getElem?_set_ne (Ne.symm e)] at h3
      exact RepO.keep keep_or rfl y (r.obj m y b h3 h4)
  uniq := fun m k b y y' h3 h4 h5 h6 h7 h8 => by
    obtain ⟨m', e1⟩ : ∃ z : Nat, z = m := ⟨_, rfl⟩
    have em : m ≠ n := fun e => by
      subst e
      rw [List.getElem?_set_self (List.getElem?_eq_some_iff.mp h1).1] at h5
      cases h5; exact h6 rfl
    have ek : k ≠ n := fun e => by
      subst e
      rw [List.getElem?_set_self (List.getElem?_eq_some_iff.mp h1).1] at h7
      cases h7; exact h8 rfl
    rw [List.getElem?_set_ne (Ne.symm em)] at h5
    rw [List.getElem?_set_ne (Ne.symm ek)] at h7
    exact r.uniq m k b y y' h3 h4 h5 h6 h7 h8
  nfz := fun b l h => by
    obtain ⟨m, y, em, h3, h4, h5⟩ := live_dead l
    rcases h with h | h
    · exact r.nfz b ⟨m, y, h3, h4, h5⟩ h
    · subst h
      exact em (r.uniq m n b y o h5 h2 h3 h4 h1 hd)
  fzt := fun b h => by
    rcases h with h | h
    · exact r.fzt b h
    · subst h
      obtain ⟨x, hx, _⟩ := r.there ⟨n, o, h1, hd, h2⟩
      rw [hx]; simp
end QF
end

section
set_option maxHeartbeats 1000000
/-! QF4: operators on values. -/
namespace QF
open PySem L2
variable {G : Gi} {Fz : Addr → Prop} {μ : List Addr} {H : Hp} {S : Sto} {Q : VK}

/-- a value as it is read: a thing of the store as what stands in it -/
def Vw (G : Gi) (Fz : Addr → Prop) (μ : List Addr) (H : Hp) : D → V → Prop
  | .lst ds, v => ∃ a vs, v = .ref a ∧ H a = some (.lst vs) ∧ Reps G Fz μ H ds vs
  | .dic t ks ws, v => ∃ a vs, v = .ref a ∧ Reps G Fz μ H ws vs ∧
      ((t = false ∧ ∃ kk, allOf kK ks = some kk ∧ kk.length = vs.length ∧ H a = some (.dK (kk.zip vs))) ∨
       ((t = true ∧ G.xt = false) ∧ ∃ kk, allOf kT ks = some kk ∧ kk.length = vs.length ∧ H a = some (.dT (kk.zip vs))))
  | d, v => Rep G Fz μ H d v
theorem vw_of (r : RepS G Fz μ H S) {d u : D} {v : V} (h : Rep G Fz μ H d v) (e : drf S d = some u) : Vw G Fz μ H u v := by
  cases d with
  | loc n =>
    simp only [drf] at e
    simp only [Rep] at h
    obtain ⟨a, rfl, ha⟩ := h
    cases h2 : S[n]? with
    | none => rw [h2] at e; cases e
    | some o =>
      rw [h2] at e
      have ro := r.obj n o a h2 ha
      cases o with
      | dead => cases e
      | lst ds =>
        cases e
        obtain ⟨vs, e1, e2⟩ := ro
        exact ⟨a, vs, rfl, e1, e2⟩
      | dic t ks ws =>
        cases e
        obtain ⟨vs, e1, e2⟩ := ro
        exact ⟨a, vs, rfl, e1, e2⟩
      | ins c fs => cases e
  | lst ds =>
    simp only [drf] at e; cases e
    simp only [Rep] at h
    obtain ⟨a, vs, e1, _, e2, e3⟩ := h
    exact ⟨a, vs, e1, e2, e3⟩
  | dic t ks ws =>
    simp only [drf] at e; cases e
    simp only [Rep] at h
    obtain ⟨a, vs, e1, _, e2, e3⟩ := h
    exact ⟨a, vs, e1, e2, e3⟩
  | non => simp only [drf] at e; cases e; exact h
  | bl b => simp only [drf] at e; cases e; exact h
  | int i => simp only [drf] at e; cases e; exact h
  | str s => simp only [drf] at e; cases e; exact h
  | tup ds => simp only [drf] at e; cases e; exact h
  | pr ds => simp only [drf] at e; cases e; exact h
  | fn f => simp only [drf] at e; cases e; exact h
  | scr is => simp only [drf] at e; cases e; exact h
  | exc c fs => simp only [drf] at e; cases e; exact h

/-- what is wanted of a value that is told -/
def Gv (G : Gi) (Q : VK) (Fz : Addr → Prop) (μ : List Addr) (S : Sto) (H : Hp) (z : D) (S' : Sto) : Prop :=
  ∀ Fz' μ' H', Ext Fz μ S H Fz' μ' S' H' → RepS G Fz' μ' H' S' → ∀ v, Rep G Fz' μ' H' z v → Q v H'
theorem Gv.at {z : D} (g : Gv G Q Fz μ S H z S) (r : RepS G Fz μ H S) {v : V} (h : Rep G Fz μ H z v) : Q v H := g Fz μ H .refl r v h
theorem Gv.int {i : Int} (g : Gv G Q Fz μ S H (.int i) S) (r : RepS G Fz μ H S) : Q (.int i) H := g.at r (by simp only [Rep])
theorem Gv.bl {b : Bool} (g : Gv G Q Fz μ S H (.bl b) S) (r : RepS G Fz μ H S) : Q (.bl b) H := g.at r (by simp only [Rep])
theorem Gv.non (g : Gv G Q Fz μ S H .non S) (r : RepS G Fz μ H S) : Q .non H := g.at r (by simp only [Rep])
theorem Gv.str {s : Cs} (g : Gv G Q Fz μ S H (.str s) S) (r : RepS G Fz μ H S) : Q (.str (txt s)) H := g.at r (by simp only [Rep])
/-- a new tuple's heap -/
def NewT (G : Gi) (H : Hp) (p : Addr) (vs : List V) (H2 : Hp) : Prop := (G.xt = false ∧ H2 = upd H p (.tup vs)) ∨ (G.xt = true ∧ ∃ o, o.cls = .type "tuple" ∧ o.dict = none ∧ H2 = upd H p (.frz o (.tup vs)))
theorem Gv.tup {ds : List D} (g : Gv G Q Fz μ S H (.tup ds) S) (r : RepS G Fz μ H S) {vs : List V} (h : Reps G Fz μ H ds vs) {p : Addr} {H2 : Hp} (hp : H p = none) (n : NewT G H p vs H2) : Q (.ref p) H2 := by
  rcases n with ⟨e, rfl⟩ | ⟨e, o, h1, h2, rfl⟩
  · exact g Fz μ _ (ext_new hp) (reps_new r hp) _ (by simp only [Rep]; exact ⟨p, vs, rfl, .inl ⟨e, upd_same⟩, Reps.keep (keep_upd hp) ds vs h⟩)
  · exact g Fz μ _ (ext_new hp) (reps_new r hp) _ (by simp only [Rep]; exact ⟨p, vs, rfl, .inr (.inl ⟨e, o, upd_same, h1, h2⟩), Reps.keep (keep_upd hp) ds vs h⟩)
/-- a new tuple laid -/
theorem laidT (G : Gi) {X : Cx} {pins : List (Addr × Obj)} {σ : L2.St} {H : Hp} {s : Shared} (I : Inv X pins σ H s) {us : List Value} {xs : List V} (r : Vals xs us) (hz : xs.length ≤ sizeLine) :
    ∃ H2, NewT G H s.heap.objs.size xs H2 ∧ H s.heap.objs.size = none ∧ Inv X pins σ H2 { s with heap := s.heap.push { cls := .type "tuple", data := .seq us.toArray } } := by
  have hf := I.hok.fresh (Nat.le_refl s.heap.objs.size)
  cases e : G.xt with
  | false => exact ⟨_, .inl ⟨e, rfl⟩, hf, I.laid (t' := s.toks) (o := .tup xs) (fun b u q => Heap.get?_push_of_some _ q) (Nat.le_refl _) ⟨hz, us, r, PyProof.Rows.IsTup.new _ _⟩⟩
  | true => exact ⟨_, .inr ⟨e, { cls := .type "tuple", data := .seq us.toArray }, rfl, rfl, rfl⟩, hf, I.laid (t' := s.toks) (o := .frz { cls := .type "tuple", data := .seq us.toArray } (.tup xs)) (fun b u q => Heap.get?_push_of_some _ q) (Nat.le_refl _) ⟨Heap.get?_push_size _ rfl, hz, us, r, PyProof.Rows.IsTup.new _ _⟩⟩
/-- t + u -/
def rCatN (G : Gi) (K : PySem.W.Frag) : R2 := fun x y H Q => ∃ a b xs ys, x = .ref a ∧ y = .ref b ∧ SqT K H a xs ∧ SqT K H b ys ∧ xs.length + ys.length ≤ sizeLine ∧
  (xs = [] → Q (.ref b) H) ∧ (xs ≠ [] → ys = [] → Q (.ref a) H) ∧ (xs ≠ [] → ys ≠ [] → ∀ p H2, H p = none → NewT G H p (xs ++ ys) H2 → Q (.ref p) H2)
theorem op_catN {X : Cx} : OpR X (binaryOp .Add) (rCatN G X.K) := by
  intro pins s σ H x y v u Q I rx ry ⟨a, b, xs, ys, ex, ey, ha, hb, hz, q0, q1, q2⟩
  subst ex ey
  cases rx
  cases ry
  obtain ⟨its, r1, p1, _⟩ := I.tuple ha
  obtain ⟨its2, r2, p2, _⟩ := I.tuple hb
  by_cases hx : xs = []
  · subst hx
    cases r1
    exact cat_tup0 p1 p2 ⟨.ref b, H, I, rfl, q0 rfl⟩
  · refine HT.cat_tup p1 p2 (fun z => hx (r1.nil_iff.mp z)) (fun z => ⟨.ref a, H, I, rfl, q1 hx (r2.nil_iff.mp z)⟩) (fun z => ?_) (by rw [← r1.length, ← r2.length]; exact hz)
    obtain ⟨H2, n, hf, I2⟩ := laidT G I (r1.append r2) (by rw [List.length_append]; exact hz)
    exact ⟨.ref s.heap.objs.size, H2, I2, rfl, q2 hx (fun w => z (r2.nil_iff.mpr w)) _ H2 hf n⟩
theorem Gv.lst {ds : List D} (g : Gv G Q Fz μ S H (.lst ds) S) (r : RepS G Fz μ H S) {vs : List V} (h : Reps G Fz μ H ds vs) {p : Addr} (hp : H p = none) : Q (.ref p) (upd H p (.lst vs)) :=
  g (orF Fz p) μ _ (ext_frz hp) (reps_frz r hp) _ (by simp only [Rep]; exact ⟨p, vs, rfl, .inr rfl, upd_same, Reps.keep (keep_or_upd hp) ds vs h⟩)
theorem Gv.loc {ds : List D} (g : Gv G Q Fz μ S H (.loc S.length) (S ++ [.lst ds])) (r : RepS G Fz μ H S) {vs : List V} (h : Reps G Fz μ H ds vs) {p : Addr} (hp : H p = none) : Q (.ref p) (upd H p (.lst vs)) := by
  have k : Keep Fz Fz μ (μ ++ [p]) H (upd H p (.lst vs)) := ⟨fun _ h => h, (ext_loc (x := .lst ds) (o := .lst vs) r hp).mu, (keep_upd (μ := μ) hp).ob⟩
  refine g Fz (μ ++ [p]) _ (ext_loc r hp) (reps_loc r hp ⟨vs, upd_same, Reps.keep k ds vs h⟩) _ ?_
  simp only [Rep]
  exact ⟨p, rfl, by rw [← r.len]; simp⟩
/-- a new list, frozen or of the store -/
theorem Go.newL {W : WX} {σ : L2.St} {m : Bool} {ds : List D} (g : Go G W σ (qV G Q) Fz μ S H (newL m ds S)) (r : RepS G Fz μ H S) {vs : List V} (h : Reps G Fz μ H ds vs) {p : Addr} (hp : H p = none) : Q (.ref p) (upd H p (.lst vs)) := by
  cases m with
  | false => exact Gv.lst (show Gv G Q Fz μ S H (.lst ds) S from g) r h hp
  | true => exact Gv.loc (show Gv G Q Fz μ S H (.loc S.length) (S ++ [.lst ds]) from g) r h hp
theorem Go.opt {W : WX} {σ : L2.St} {o : Option D} (g : Go G W σ (qV G Q) Fz μ S H (opt o S)) : ∃ z, o = some z ∧ Gv G Q Fz μ S H z S := by
  cases o with
  | none => exact g.elim
  | some z => exact ⟨z, rfl, g⟩

theorem Reps.length : ∀ {ds : List D} {vs : List V}, Reps G Fz μ H ds vs → ds.length = vs.length
  | [], vs, h => by simp only [Reps] at h; subst h; rfl
  | d :: ds, vs, h => by
    simp only [Reps] at h
    obtain ⟨v, r, rfl, _, h2⟩ := h
    simp [Reps.length h2]
theorem Reps.append : ∀ {ds es : List D} {vs ws : List V}, Reps G Fz μ H ds vs → Reps G Fz μ H es ws → Reps G Fz μ H (ds ++ es) (vs ++ ws)
  | [], es, vs, ws, h, h' => by simp only [Reps] at h; subst h; exact h'
  | d :: ds, es, vs, ws, h, h' => by
    simp only [Reps] at h
    obtain ⟨v, r, rfl, h1, h2⟩ := h
    simp only [List.cons_append, Reps]
    exact ⟨v, _, rfl, h1, Reps.append h2 h'⟩
theorem Reps.one {d : D} {v : V} (h : Rep G Fz μ H d v) : Reps G Fz μ H [d] [v] := by
  simp only [Reps]; exact ⟨v, [], rfl, h, rfl⟩
theorem Reps.get : ∀ {ds : List D} {vs : List V} {i : Nat} {d : D}, Reps G Fz μ H ds vs → ds[i]? = some d → ∃ v, vs[i]? = some v ∧ Rep G Fz μ H d v
  | [], _, i, d, _, e => by simp at e
  | x :: ds, vs, i, d, h, e => by
    simp only [Reps] at h
    obtain ⟨v, r, rfl, h1, h2⟩ := h
    cases i with
    | zero => simp at e; subst e; exact ⟨v, rfl, h1⟩
    | succ i => simp at e; simpa using Reps.get h2 e
theorem Reps.get' {ds : List D} {vs : List V} {i : Nat} {v : V} (h : Reps G Fz μ H ds vs) (e : vs[i]? = some v) : ∃ d, ds[i]? = some d ∧ Rep G Fz μ H d v := by
  have hl : i < ds.length := by rw [h.length]; exact (List.getElem?_eq_some_iff.mp e).1
  obtain ⟨w, e2, r⟩ := h.get (List.getElem?_eq_getElem hl)
  rw [e] at e2; cases e2
  exact ⟨_, List.getElem?_eq_getElem hl, r⟩
theorem Reps.set : ∀ {ds : List D} {vs : List V} (i : Nat) {d : D} {v : V}, Reps G Fz μ H ds vs → Rep G Fz μ H d v → Reps G Fz μ H (ds.set i d) (vs.set i v)
  | [], vs, i, d, v, h, _ => by simp only [Reps] at h; subst h; simp [Reps]
  | x :: ds, vs, i, d, v, h, hd => by
    simp only [Reps] at h
    obtain ⟨w, r, rfl, h1, h2⟩ := h
    cases i with
    | zero => simp only [List.set_cons_zero, Reps]; exact ⟨v, r, rfl, hd, h2⟩
    | succ i => simp only [List.set_cons_succ, Reps]; exact ⟨w, _, rfl, h1, Reps.set i h2 hd⟩
theorem Reps.take : ∀ {ds : List D} {vs : List V} (n : Nat), Reps G Fz μ H ds vs → Reps G Fz μ H (ds.take n) (vs.take n)
  | _, _, 0, _ => by simp [Reps]
  | [], vs, n + 1, h => by simp only [Reps] at h; subst h; simp [Reps]
  | x :: ds, vs, n + 1, h => by
    simp only [Reps] at h
    obtain ⟨w, r, rfl, h1, h2⟩ := h
    simp only [List.take_succ_cons, Reps]
    exact ⟨w, _, rfl, h1, Reps.take n h2⟩
theorem Reps.drop : ∀ {ds : List D} {vs : List V} (n : Nat), Reps G Fz μ H ds vs → Reps G Fz μ H (ds.drop n) (vs.drop n)
  | _, _, 0, h => by simpa using h
  | [], vs, n + 1, h => by simp only [Reps] at h; subst h; simp [Reps]
  | x :: ds, vs, n + 1, h => by
    simp only [Reps] at h
    obtain ⟨w, r, rfl, h1, h2⟩ := h
    simpa using Reps.drop n h2
theorem Reps.replicate {ds : List D} {vs : List V} (h : Reps G Fz μ H ds vs) : ∀ n : Nat, Reps G Fz μ H (List.replicate n ds).flatten (List.replicate n vs).flatten
  | 0 => by simp [Reps]
  | n + 1 => by simp only [List.replicate_succ, List.flatten_cons]; exact h.append (Reps.replicate h n)
theorem Reps.reverse : ∀ {ds : List D} {vs : List V}, Reps G Fz μ H ds vs → Reps G Fz μ H ds.reverse vs.reverse
  | [], vs, h => by simp only [Reps] at h; subst h; simp [Reps]
  | x :: ds, vs, h => by
    simp only [Reps] at h
    obtain ⟨w, r, rfl, h1, h2⟩ := h
    simp only [List.reverse_cons]
    exact (Reps.reverse h2).append (.one h1)
theorem Reps.dropLast {ds : List D} {vs : List V} (h : Reps G Fz μ H ds vs) : Reps G Fz μ H ds.dropLast vs.dropLast := by
  rw [List.dropLast_eq_take, List.dropLast_eq_take, ← h.length]
  exact h.take _

/-! ### operators -/
def opOf : Op → Operator
  | .add => .Add
  | .sub => .Sub
  | .mul => .Mult
  | .fdiv => .FloorDiv
  | .mod => .Mod
  | .pow => .Pow
  | .shl => .LShift
  | .shr => .RShift
  | .band => .BitAnd
  | .bor => .BitOr
/-- two values, and what a function tells of them -/
def rF (G : Gi) (f : D → D → Option D) : R2 := fun x y H Q => ∃ Fz μ S d e u v z, RepS G Fz μ H S ∧ Rep G Fz μ H d x ∧ Rep G Fz μ H e y ∧ drf S d = some u ∧ drf S e = some v ∧ f u v = some z ∧ Gv G Q Fz μ S H z S
theorem mulOk_of {i j : Int} (h : mulOk i j = true) : CMul i j := by
  simp only [mulOk, Bool.or_eq_true, Bool.and_eq_true, decide_eq_true_eq] at h
  exact h
theorem powOk_of {i j : Int} (h : powOk i j = true) : CPow i j := by
  simp only [powOk, Bool.and_eq_true, decide_eq_true_eq] at h
  exact ⟨h.1.1, h.1.2, h.2⟩
theorem txt_append (a b : Cs) : txt a ++ txt b = txt (a ++ b) := by
  show (⟨(txt a).cps ++ (txt b).cps⟩ : Str) = _
  simp
theorem txt_length (a : Cs) : (txt a).length = a.length := by
  show (txt a).cps.size = _
  simp
theorem int_v {i : Int} {x : V} (h : Vw G Fz μ H (.int i) x) : x = .int i := by simpa only [Vw, Rep] using h
theorem str_v {i : Cs} {x : V} (h : Vw G Fz μ H (.str i) x) : x = .str (txt i) := by simpa only [Vw, Rep] using h
theorem op_bin {X : Cx} (hK : X.K = G.K) (o : Op) : OpR X (binaryOp (opOf o)) (rF G (binOp o)) := by
  intro pins s σ H x y v u Q I rx ry h
  obtain ⟨Fz, μ, S, d, e, u1, u2, z, rs, rd, re, h1, h2, hz, g⟩ := h
  have v1 := vw_of rs rd h1
  have v2 := vw_of rs re h2
  cases o with
  | add =>
    cases u1 <;> cases u2 <;> simp only [binOp] at hz <;> try contradiction
    · cases hz
      rw [int_v v1] at rx; rw [int_v v2] at ry
      exact op_add pins s σ H _ _ v u Q I rx ry ⟨_, _, rfl, rfl, g.int rs⟩
    · simp only [cat] at hz
      split at hz
      · cases hz
        rename_i hl
        rw [str_v v1] at rx; rw [str_v v2] at ry
        refine op_add_str pins s σ H _ _ v u Q I rx ry ⟨_, _, rfl, rfl, by rw [txt_length, txt_length]; exact hl, ?_⟩
        rw [txt_append]
        exact g.str rs
      · cases hz
    · simp only [cat] at hz
      split at hz
      · cases hz
        rename_i hl
        simp only [Vw, Rep] at v1 v2
        obtain ⟨a, vs, rfl, ha, ra⟩ := v1
        obtain ⟨b, ws, rfl, hb, rb⟩ := v2
        refine op_catN (G := G) pins s σ H _ _ v u Q I rx ry ⟨a, b, vs, ws, rfl, rfl, hK ▸ ha.sqT, hK ▸ hb.sqT, by rw [← ra.length, ← rb.length]; exact hl, fun e => ?_, fun e e' => ?_, fun e e' p H2 hp hn => ?_⟩
        · subst e
          refine g.at rs ?_
          have e2 := List.length_eq_zero_iff.mp (ra.length.trans rfl)
          subst e2
          simp only [Rep]
          exact ⟨b, ws, rfl, hb, rb⟩
        · subst e'
          refine g.at rs ?_
          have e2 := List.length_eq_zero_iff.mp (rb.length.trans rfl)
          subst e2
          rw [List.append_nil]
          simp only [Rep]
          exact ⟨a, vs, rfl, ha, ra⟩
        · exact g.tup rs (ra.append rb) hp hn
      · cases hz
    · simp only [cat] at hz
      split at hz
      · cases hz
        rename_i hl
        obtain ⟨a, vs, rfl, ha, ra⟩ := v1
        obtain ⟨b, ws, rfl, hb, rb⟩ := v2
        exact op_cat pins s σ H _ _ v u Q I rx ry ⟨a, b, vs, ws, rfl, rfl, ha, hb, by rw [← ra.length, ← rb.length]; exact hl, fun p hp => g.lst rs (ra.append rb) hp⟩
      · cases hz
  | sub =>
    cases u1 <;> cases u2 <;> simp only [binOp] at hz <;> try contradiction
    cases hz
    rw [int_v v1] at rx; rw [int_v v2] at ry
    exact op_sub pins s σ H _ _ v u Q I rx ry ⟨_, _, rfl, rfl, g.int rs⟩
  | mul =>
    cases u1 <;> cases u2 <;> simp only [binOp] at hz <;> try contradiction
    · split at hz
      · cases hz
        rename_i hm
        rw [int_v v1] at rx; rw [int_v v2] at ry
        exact op_mul pins s σ H _ _ v u Q I rx ry ⟨_, _, rfl, rfl, mulOk_of hm, g.int rs⟩
      · cases hz
    · simp only [rep] at hz
      split at hz
      · cases hz
        rename_i hm
        obtain ⟨a, vs, rfl, ha, ra⟩ := v1
        rw [int_v v2] at ry
        exact op_rep pins s σ H _ _ v u Q I rx ry ⟨a, _, vs, rfl, rfl, ha, hm.1, hm.2.1, by rw [← ra.length]; exact hm.2.2, fun p hp => g.lst rs (ra.replicate _) hp⟩
      · cases hz
  | fdiv =>
    cases u1 <;> cases u2 <;> simp only [binOp] at hz <;> try contradiction
    split at hz
    · cases hz
      rename_i hm
      rw [int_v v1] at rx; rw [int_v v2] at ry
      exact op_fdiv pins s σ H _ _ v u Q I rx ry ⟨_, _, rfl, rfl, hm, g.int rs⟩
    · cases hz
  | mod =>
    cases u1 <;> cases u2 <;> simp only [binOp] at hz <;> try contradiction
    split at hz
    · cases hz
      rename_i hm
      rw [int_v v1] at rx; rw [int_v v2] at ry
      exact op_mod pins s σ H _ _ v u Q I rx ry ⟨_, _, rfl, rfl, hm, g.int rs⟩
    · cases hz
  | pow =>
    cases u1 <;> cases u2 <;> simp only [binOp] at hz <;> try contradiction
    split at hz
    · cases hz
      rename_i hm
      rw [int_v v1] at rx; rw [int_v v2] at ry
      exact op_pow pins s σ H _ _ v u Q I rx ry ⟨_, _, rfl, rfl, powOk_of hm, g.int rs⟩
    · cases hz
  | shl => cases u1 <;> cases u2 <;> simp only [binOp] at hz <;> contradiction
  | shr => cases u1 <;> cases u2 <;> simp only [binOp] at hz <;> contradiction
  | band => cases u1 <;> cases u2 <;> simp only [binOp] at hz <;> contradiction
  | bor => cases u1 <;> cases u2 <;> simp only [binOp] at hz <;> contradiction
end QF
end

section
set_option maxHeartbeats 1000000
/-! QF5: data compared: == and < at any depth. -/
namespace QF
open PySem L2

mutual
def toPy : D → PyData
  | .non => .none
  | .bl b => .bool b
  | .int i => .int i
  | .str s => .str (txt s)
  | .tup ds => .tuple (toPys ds)
  | .lst ds => .list (toPys ds)
  | _ => .none
def toPys : List D → List PyData
  | [] => []
  | d :: ds => toPy d :: toPys ds
end
theorem strOk_txt {s : Cs} (h : okS s = true) : PyData.strOk (txt s) = true := by
  simp only [okS, List.all_eq_true, decide_eq_true_eq] at h
  show (txt s).cps.all (fun c => decide (c < 0x110000)) = true
  simp only [List.all_toArray, List.all_eq_true, decide_eq_true_eq]
  exact h
mutual
theorem lay_of : ∀ (n : Nat) (d : D), D.pl n d = true → (toPy d).canLay0 = true ∧ (toPy d).depth ≤ n
  | n, .tup ds, h => by
    cases n with
    | zero => simp [D.pl] at h
    | succ m =>
      simp only [D.pl] at h
      have := lays_of m ds h
      simp only [toPy, PyData.canLay0, PyData.depth]
      exact ⟨this.1, Nat.succ_le_succ this.2⟩
  | n, .lst ds, h => by
    cases n with
    | zero => simp [D.pl] at h
    | succ m =>
      simp only [D.pl] at h
      have := lays_of m ds h
      simp only [toPy, PyData.canLay0, PyData.depth]
      exact ⟨this.1, Nat.succ_le_succ this.2⟩
  | n, .non, h => by simp [toPy, PyData.canLay0, PyData.depth]
  | n, .bl _, h => by simp [toPy, PyData.canLay0, PyData.depth]
  | n, .int _, h => by simp [toPy, PyData.canLay0, PyData.depth]
  | n, .str s, h => by
    simp only [D.pl] at h
    simp only [toPy, PyData.canLay0, PyData.depth]
    exact ⟨strOk_txt h, Nat.zero_le _⟩
  | n, .dic _ _ _, h => by simp [D.pl] at h
  | n, .loc _, h => by simp [D.pl] at h
  | n, .fn _, h => by simp [D.pl] at h
  | n, .scr _, h => by simp [D.pl] at h
  | n, .exc _ _, h => by simp [D.pl] at h
theorem lays_of : ∀ (n : Nat) (ds : List D), D.pls n ds = true → PyData.canLayAll0 (toPys ds) = true ∧ PyData.depthAll (toPys ds) ≤ n
  | n, [], h => by simp [toPys, PyData.canLayAll0, PyData.depthAll]
  | n, d :: ds, h => by
    simp only [D.pls, Bool.and_eq_true] at h
    have a := lay_of n d h.1
    have b := lays_of n ds h.2
    simp only [toPys, PyData.canLayAll0, PyData.depthAll, a.1, b.1, Bool.and_self, true_and]
    exact Nat.max_le.mpr ⟨a.2, b.2⟩
end
theorem shaped_of {d : D} (h : D.pln d = true) : SeqAt.shaped (toPy d) = true := by
  have := lay_of 64 d h
  show ((toPy d).canLay0 && decide ((toPy d).depth ≤ 64)) = true
  rw [this.1, decide_eq_true this.2]; rfl
theorem txt_inj {a b : Cs} : (txt a == txt b) = (a == b) := by
  by_cases h : a = b
  · subst h; simp
  · have : ¬ txt a = txt b := fun e => h (by
      have := congrArg (fun z : Str => z.cps.toList) e
      simpa using this)
    rw [beq_eq_false_iff_ne.mpr h, beq_eq_false_iff_ne.mpr this]
mutual
theorem eqv_py : ∀ (n m : Nat) (a b : D), D.pl n a = true → D.pl m b = true → PyData.eqv (toPy a) (toPy b) = eqv a b
  | n, m, .tup ds, b, h, h' => by
    cases n with
    | zero => simp [D.pl] at h
    | succ n =>
      simp only [D.pl] at h
      cases b <;> simp only [toPy, PyData.eqv, eqv] <;> simp [D.pl] at h'
      cases m with
      | zero => simp at h'
      | succ m => exact eqvs_py n m ds _ h h'
  | n, m, .lst ds, b, h, h' => by
    cases n with
    | zero => simp [D.pl] at h
    | succ n =>
      simp only [D.pl] at h
      cases b <;> simp only [toPy, PyData.eqv, eqv] <;> simp [D.pl] at h'
      cases m with
      | zero => simp at h'
      | succ m => exact eqvs_py n m ds _ h h'
  | n, m, .non, b, h, h' => by cases b <;> simp [toPy, PyData.eqv, eqv] <;> simp [D.pl] at h'
  | n, m, .bl _, b, h, h' => by cases b <;> simp [toPy, PyData.eqv, eqv] <;> simp [D.pl] at h'
  | n, m, .int _, b, h, h' => by cases b <;> simp [toPy, PyData.eqv, eqv] <;> simp [D.pl] at h'
  | n, m, .str s, b, h, h' => by
    cases b <;> simp only [toPy, PyData.eqv, eqv]
    exact txt_inj
  | n, m, .dic _ _ _, b, h, h' => by simp [D.pl] at h
  | n, m, .loc _, b, h, h' => by simp [D.pl] at h
  | n, m, .fn _, b, h, h' => by simp [D.pl] at h
  | n, m, .scr _, b, h, h' => by simp [D.pl] at h
  | n, m, .exc _ _, b, h, h' => by simp [D.pl] at h
theorem eqvs_py : ∀ (n m : Nat) (as bs : List D), D.pls n as = true → D.pls m bs = true → PyData.eqvAll (toPys as) (toPys bs) = eqvs as bs
  | n, m, [], bs, h, h' => by cases bs <;> simp [toPys, PyData.eqvAll, eqvs]
  | n, m, a :: as, bs, h, h' => by
    cases bs with
    | nil => simp [toPys, PyData.eqvAll, eqvs]
    | cons b bs =>
      simp only [D.pls, Bool.and_eq_true] at h h'
      simp only [toPys, PyData.eqvAll, eqvs]
      rw [eqv_py n m a b h.1 h'.1, eqvs_py n m as bs h.2 h'.2]
end
section
variable {G : Gi} {Fz : Addr → Prop} {μ : List Addr} {H : Hp} {S : Sto}
mutual
theorem dp_of : ∀ (n : Nat) (d : D) (v : V), Rep G Fz μ H d v → D.pl n d = true → Dp G.K H v (toPy d)
  | n, .tup ds, v, r, h => by
    cases n with
    | zero => simp [D.pl] at h
    | succ n =>
      simp only [D.pl] at h
      simp only [Rep] at r
      obtain ⟨a, vs, rfl, ha, rs⟩ := r
      exact .tup ha.sqT (dps_of n ds vs rs h)
  | n, .lst ds, v, r, h => by
    cases n with
    | zero => simp [D.pl] at h
    | succ n =>
      simp only [D.pl] at h
      simp only [Rep] at r
      obtain ⟨a, vs, rfl, _, ha, rs⟩ := r
      exact .lst (SqL.of ha) (dps_of n ds vs rs h)
  | n, .non, v, r, h => by simp only [Rep] at r; subst r; exact .non
  | n, .bl _, v, r, h => by simp only [Rep] at r; subst r; exact .bl _
  | n, .int _, v, r, h => by simp only [Rep] at r; subst r; exact .int _
  | n, .str _, v, r, h => by simp only [Rep] at r; subst r; exact .str _
  | n, .dic _ _ _, v, r, h => by simp [D.pl] at h
  | n, .loc _, v, r, h => by simp [D.pl] at h
  | n, .fn _, v, r, h => by simp [D.pl] at h
  | n, .scr _, v, r, h => by simp [D.pl] at h
  | n, .exc _ _, v, r, h => by simp [D.pl] at h
theorem dps_of : ∀ (n : Nat) (ds : List D) (vs : List V), Reps G Fz μ H ds vs → D.pls n ds = true → DpAll G.K H vs (toPys ds)
  | n, [], vs, r, h => by simp only [Reps] at r; subst r; exact .nil
  | n, d :: ds, vs, r, h => by
    simp only [Reps] at r
    obtain ⟨v, w, rfl, r1, r2⟩ := r
    simp only [D.pls, Bool.and_eq_true] at h
    exact .cons (dp_of n d v r1 h.1) (dps_of n ds w r2 h.2)
end
/-- .. as it is read -/
theorem dp_vw {n : Nat} {d : D} {v : V} (r : Vw G Fz μ H d v) (h : D.pl n d = true) : Dp G.K H v (toPy d) := by
  cases d with
  | lst ds =>
    cases n with
    | zero => simp [D.pl] at h
    | succ n =>
      simp only [D.pl] at h
      obtain ⟨a, vs, rfl, ha, rs⟩ := r
      exact .lst (SqL.of ha) (dps_of n ds vs rs h)
  | dic t ks ws => simp [D.pl] at h
  | non => exact dp_of (Fz := Fz) (μ := μ) n _ v r h
  | bl b => exact dp_of (Fz := Fz) (μ := μ) n _ v r h
  | int i => exact dp_of (Fz := Fz) (μ := μ) n _ v r h
  | str s => exact dp_of (Fz := Fz) (μ := μ) n _ v r h
  | tup ds => exact dp_of (Fz := Fz) (μ := μ) n _ v r h
  | pr ds => simp [D.pl] at h
  | fn f => exact dp_of (Fz := Fz) (μ := μ) n _ v r h
  | scr is => exact dp_of (Fz := Fz) (μ := μ) n _ v r h
  | exc c fs => exact dp_of (Fz := Fz) (μ := μ) n _ v r h
  | loc m => exact dp_of (Fz := Fz) (μ := μ) n _ v r h
end
end QF
end

section
set_option maxHeartbeats 2000000
/-! QF6: < of tuples of data; comparisons as operators. -/
namespace QF
open PySem L2

/-- p < q is told to be r -/
def LtAt (A : Around) (s : Shared) (p q : Value) (r : Bool) : Prop :=
  ∀ (prog : Program) (w : World) (E Q : Value → Shared → Prop), Q (.bool r) s → wpAny (model prog w) A (richCompare .Lt p q) Q E s
inductive LexAt (A : Around) (s : Shared) : List Value → List Value → Bool → Prop where
  | nn : LexAt A s [] [] false
  | nc (q : Value) (qs : List Value) : LexAt A s [] (q :: qs) true
  | cn (p : Value) (ps : List Value) : LexAt A s (p :: ps) [] false
  | eq {p q : Value} {ps qs : List Value} {r : Bool} : SeqAt.EqAt A s p q true → LexAt A s ps qs r → LexAt A s (p :: ps) (q :: qs) r
  | ne {p q : Value} {ps qs : List Value} {r : Bool} : SeqAt.EqAt A s p q false → LtAt A s p q r → LexAt A s (p :: ps) (q :: qs) r
theorem LexAt.end_ {A : Around} {s : Shared} {ps qs : List Value} {r : Bool} (h : LexAt A s ps qs r) {n m : Nat} (hl : ps.length + m = qs.length + n) (hz : ps.zip qs = []) : r = decide (n < m) := by
  cases h with
  | nn => simp only [List.length_nil] at hl; exact (decide_eq_false (by omega)).symm
  | nc q qs => simp only [List.length_nil, List.length_cons] at hl; exact (decide_eq_true (by omega)).symm
  | cn p ps => simp only [List.length_nil, List.length_cons] at hl; exact (decide_eq_false (by omega)).symm
  | eq _ _ => simp at hz
  | ne _ _ => simp at hz
section
open PySem.SeqAt PySem.MeetsSeq PySem.MeetsSeq2 PySem.MeetsSeq3 PyProof.Rows
open PySem.AutoSeq1 (wpAny_loadPart')
theorem tup_lt_lex (l b : Addr) (xs ys : Array Value) (n m : Nat) (d1 d2 : Option Addr) (z1 z2 : Array (Option Value)) (r : Bool) :
    Meets (Builtin.«tuple.__lt__» ⟨[.ref l, .ref b], []⟩)
      (fun A R s => s.heap.get? l = some { cls := .type "tuple", dict := d1, data := .seq xs n, slots := z1 } ∧ s.heap.get? b = some { cls := .type "tuple", dict := d2, data := .seq ys m, slots := z2 } ∧
        LexAt A.in1 s xs.toList ys.toList r ∧ R (.ok (.ret (.bool r))) s) :=
  .of_wp fun prog w A R s h => by
    obtain ⟨hp, g, d, tk, os⟩ := s
    obtain ⟨hl, hb, hx, h⟩ := h
    have f2 := AutoSeq1.sub_tuple_tuple
    wp_walk using wpAny_loadPart' hl, wpAny_loadPart' hb, wpAny_forIn_list _ (fun rest b s' => b.1 = none ∧ s' = ⟨hp, g, d, tk, os⟩ ∧ ∃ ps qs : List Value, rest = ps.zip qs ∧
      LexAt A.in1 ⟨hp, g, d, tk, os⟩ ps qs r ∧ ps.length + ys.size = qs.length + xs.size) _
    case turn =>
      rintro ⟨y, x⟩ rest b s' ⟨hb', rfl, ps, qs, hz, hlex, hlen⟩
      cases hlex with
      | nn => simp at hz
      | nc q qs => simp at hz
      | cn p ps => simp at hz
      | eq he ht =>
        rw [List.zip_cons_cons] at hz
        injection hz with hyx hrest
        injection hyx with hy hx'
        subst hy hx'
        simp only [List.length_cons] at hlen
        refine wpAny_bind (he prog w _ _ ?_)
        wp_walk
        exact ⟨rfl, rfl, _, _, hrest, ht, by omega⟩
      | ne he ht =>
        rw [List.zip_cons_cons] at hz
        injection hz with hyx hrest
        injection hyx with hy hx'
        subst hy hx'
        refine wpAny_bind (he prog w _ _ ?_)
        have hri := ht prog w
        wp_walk using hri
        exact ⟨_, rfl, by simpa using h⟩
    case fin =>
      rintro ⟨b1, b2⟩ s' ⟨hb', rfl, ps, qs, hz, hlex, hlen⟩
      simp only at hb'
      subst hb'
      have hv : r = decide (xs.size < ys.size) := hlex.end_ hlen hz.symm
      rw [hv] at h
      wp_walk
      exact ⟨_, rfl, by simpa [Builtin.Tuple.tupleCompareSizes] using h⟩
    case h =>
      exact ⟨rfl, rfl, xs.toList, ys.toList, rfl, hx, by simp; omega⟩
end
theorem LtAt.tup {A : Around} {s : Shared} {l b : Addr} {xs ys : List Value} {r : Bool} (hl : PyProof.Rows.IsTup s.heap l xs.toArray) (hb : PyProof.Rows.IsTup s.heap b ys.toArray) (hx : LexAt A.in1 s xs ys r) (hu : A.units < cLine) : LtAt A s (.ref l) (.ref b) r := fun prog w E Q hq => by
  obtain ⟨⟨cls, dd, data, sl⟩, ho, hc, n, hd⟩ := id hl
  obtain ⟨⟨cls2, dd2, data2, sl2⟩, ho2, hc2, n2, hd2⟩ := id hb
  simp only at hc hd hc2 hd2
  subst hc hd hc2 hd2
  exact richCompare_meets_room (op := .Lt) ⟨_, ho, rfl⟩ ⟨_, ho2, rfl⟩ PySem.F.slot_tuple_lt PySem.F.entry_tuple_lt (PySem.F.args_tuple_lt_2 _ _) (tup_lt_lex l b xs.toArray ys.toArray n n2 dd dd2 sl sl2 r)
    ⟨ho, ho2, hx, show Value.bool r ≠ Value.notImplemented ∧ Q (.bool r) s from ⟨(fun x => nomatch x), hq⟩⟩ hu

section
variable {G : Gi} {Fz : Addr → Prop} {μ : List Addr} {H : Hp} {S : Sto} {X : Cx} {pins : List (Addr × Obj)} {σ : L2.St} {s : Shared}
/-- two data as they are read -/
theorem eqAt_of (hK : X.K = G.K) (I : Inv X pins σ H s) {n m : Nat} {a b : D} {x y : V} {p q : Value} {A : Around} (ra : Rep G Fz μ H a x) (rb : Rep G Fz μ H b y) (rp : RelV x p) (rq : RelV y q) (ha : D.pl n a = true) (hb : D.pl m b = true)
    (hu : A.units + n < cLine) : SeqAt.EqAt A s p q (eqv a b) := by
  have d1 := dp_of n a x ra ha
  have d2 := dp_of m b y rb hb
  rw [← hK] at d1 d2
  obtain ⟨as, r1⟩ := Dp.reads I _ _ _ d1 rp
  obtain ⟨bs, r2⟩ := Dp.reads I _ _ _ d2 rq
  have l1 := lay_of n a ha
  have l2 := lay_of m b hb
  rw [← eqv_py n m a b ha hb]
  exact SeqAt.eqAt_reads _ _ A s p q as bs r1 r2 l1.1 l2.1 (by have := Nat.min_le_left (toPy a).depth (toPy b).depth; omega)
mutual
theorem ltAt_of (hK : X.K = G.K) (I : Inv X pins σ H s) : ∀ (n m : Nat) (a b : D) (x y : V) (p q : Value) (A : Around) (r : Bool), Rep G Fz μ H a x → Rep G Fz μ H b y → RelV x p → RelV y q → D.pl n a = true → D.pl m b = true →
    A.units + 3 * n + 3 < cLine → ltD a b = some r → LtAt A s p q r
  | n, m, .tup as, b, x, y, p, q, A, r, ra, rb, rp, rq, ha, hb, hu, h => by
    cases n with
    | zero => simp [D.pl] at ha
    | succ n =>
      cases b <;> simp only [ltD] at h <;> try contradiction
      cases m with
      | zero => simp [D.pl] at hb
      | succ m =>
        simp only [D.pl] at ha hb
        simp only [Rep] at ra rb
        obtain ⟨l, vs, rfl, hl, r1⟩ := ra
        obtain ⟨k, ws, rfl, hk, r2⟩ := rb
        obtain ⟨us, v1, t1, _⟩ := I.tuple (hK ▸ hl.sqT)
        obtain ⟨zs, v2, t2, _⟩ := I.tuple (hK ▸ hk.sqT)
        cases rp
        cases rq
        refine LtAt.tup t1 t2 (lexAt_of hK I n m as _ vs ws us zs A.in1 r r1 r2 v1 v2 ha hb ?_ h) (by omega)
        have e1 : A.in1.units = A.units + 1 := rfl
        omega
  | n, m, .int i, b, x, y, p, q, A, r, ra, rb, rp, rq, ha, hb, hu, h => by
    cases b <;> simp only [ltD] at h <;> try contradiction
    cases h
    simp only [Rep] at ra rb
    subst ra rb
    obtain ⟨t, rfl⟩ := rp
    obtain ⟨u, rfl⟩ := rq
    intro prog w E Q hq
    exact PyProof.Rows.lt_int hq
  | n, m, .str i, b, x, y, p, q, A, r, ra, rb, rp, rq, ha, hb, hu, h => by
    cases b <;> simp only [ltD] at h <;> try contradiction
    cases h
    simp only [Rep] at ra rb
    subst ra rb
    obtain ⟨t, rfl⟩ := rp
    obtain ⟨u, rfl⟩ := rq
    intro prog w E Q hq
    refine PySem.P.lt_str ?_
    exact hq
  | n, m, .lst as, b, x, y, p, q, A, r, ra, rb, rp, rq, ha, hb, hu, h => by cases b <;> simp only [ltD] at h <;> contradiction
  | n, m, .non, b, x, y, p, q, A, r, ra, rb, rp, rq, ha, hb, hu, h => by cases b <;> simp only [ltD] at h <;> contradiction
  | n, m, .bl _, b, x, y, p, q, A, r, ra, rb, rp, rq, ha, hb, hu, h => by cases b <;> simp only [ltD] at h <;> contradiction
  | n, m, .dic _ _ _, b, x, y, p, q, A, r, ra, rb, rp, rq, ha, hb, hu, h => by simp [D.pl] at ha
  | n, m, .pr _, b, x, y, p, q, A, r, ra, rb, rp, rq, ha, hb, hu, h => by simp [D.pl] at ha
  | n, m, .loc _, b, x, y, p, q, A, r, ra, rb, rp, rq, ha, hb, hu, h => by simp [D.pl] at ha
  | n, m, .fn _, b, x, y, p, q, A, r, ra, rb, rp, rq, ha, hb, hu, h => by simp [D.pl] at ha
  | n, m, .scr _, b, x, y, p, q, A, r, ra, rb, rp, rq, ha, hb, hu, h => by simp [D.pl] at ha
  | n, m, .exc _ _, b, x, y, p, q, A, r, ra, rb, rp, rq, ha, hb, hu, h => by simp [D.pl] at ha
theorem lexAt_of (hK : X.K = G.K) (I : Inv X pins σ H s) : ∀ (n m : Nat) (as bs : List D) (xs ys : List V) (ps qs : List Value) (A : Around) (r : Bool), Reps G Fz μ H as xs → Reps G Fz μ H bs ys → Vals xs ps → Vals ys qs → D.pls n as = true → D.pls m bs = true →
    A.units + 3 * n + 3 < cLine → ltDs as bs = some r → LexAt A s ps qs r
  | n, m, [], bs, xs, ys, ps, qs, A, r, ra, rb, rp, rq, ha, hb, hu, h => by
    simp only [Reps] at ra
    subst ra
    cases rp
    cases bs with
    | nil =>
      simp only [ltDs] at h
      cases h
      simp only [Reps] at rb
      subst rb
      cases rq
      exact .nn
    | cons b bs =>
      simp only [ltDs] at h
      cases h
      simp only [Reps] at rb
      obtain ⟨v, w, rfl, _, _⟩ := rb
      cases rq
      exact .nc _ _
  | n, m, a :: as, bs, xs, ys, ps, qs, A, r, ra, rb, rp, rq, ha, hb, hu, h => by
    simp only [Reps] at ra
    obtain ⟨v, w, rfl, a1, a2⟩ := ra
    cases rp with
    | cons p1 p2 =>
      cases bs with
      | nil =>
        simp only [ltDs] at h
        cases h
        simp only [Reps] at rb
        subst rb
        cases rq
        exact .cn _ _
      | cons b bs =>
        simp only [Reps] at rb
        obtain ⟨v', w', rfl, b1, b2⟩ := rb
        cases rq with
        | cons q1 q2 =>
          simp only [D.pls, Bool.and_eq_true] at ha hb
          have he := eqAt_of (A := A) hK I a1 b1 p1 q1 ha.1 hb.1 (by omega)
          simp only [ltDs] at h
          cases e : eqv a b with
          | true =>
            rw [e] at h he
            rw [if_pos rfl] at h
            exact .eq he (lexAt_of hK I n m as bs _ _ _ _ A r a2 b2 p2 q2 ha.2 hb.2 hu h)
          | false =>
            rw [e] at h he
            rw [if_neg (by simp)] at h
            exact .ne he (ltAt_of hK I n m a b _ _ _ _ A r a1 b1 p1 q1 ha.1 hb.1 hu h)
end
end
end QF
end

section
set_option maxHeartbeats 2000000
/-! QF7: dicts as they are read and written; comparisons as operators. -/
namespace QF
open PySem L2
section
variable {G : Gi} {Fz : Addr → Prop} {μ : List Addr} {H : Hp} {S : Sto}

/-! ### keys -/
theorem allOf_length {α β : Type} {f : α → Option β} : ∀ {as : List α} {bs : List β}, allOf f as = some bs → bs.length = as.length
  | [], bs, h => by simp only [allOf] at h; cases h; rfl
  | a :: as, bs, h => by
    simp only [allOf, Option.bind_eq_some_iff] at h
    obtain ⟨b, _, bs', h2, h3⟩ := h
    cases h3
    simp [allOf_length h2]
theorem kK_inj {a b : D} {x y : Key} (ha : kK a = some x) (hb : kK b = some y) : eqv a b = decide (x = y) := by
  cases a <;> simp only [kK] at ha <;> try contradiction
  · cases b <;> simp only [kK] at hb <;> try contradiction
    · rename_i i j
      cases ha; cases hb
      simp only [eqv]
      by_cases h : i = j
      · subst h; simp
      · rw [beq_eq_false_iff_ne.mpr h]
        exact (decide_eq_false fun e => h (Sum.inl.inj e)).symm
    · cases ha; cases hb
      simp [eqv]
  · cases b <;> simp only [kK] at hb <;> try contradiction
    · cases ha; cases hb
      simp [eqv]
    · cases ha; cases hb
      rename_i s t
      simp only [eqv]
      rw [← txt_inj]
      by_cases h : txt s = txt t
      · rw [h]; simp
      · rw [beq_eq_false_iff_ne.mpr h]
        exact (decide_eq_false fun e => h (Sum.inr.inj e)).symm
theorem kKs_inj : ∀ {as bs : List D} {xs ys : List Key}, allOf kK as = some xs → allOf kK bs = some ys → eqvs as bs = decide (xs = ys)
  | [], bs, xs, ys, ha, hb => by
    simp only [allOf] at ha
    cases ha
    cases bs with
    | nil => simp only [allOf] at hb; cases hb; simp [eqvs]
    | cons b bs =>
      simp only [allOf, Option.bind_eq_some_iff] at hb
      obtain ⟨y, _, ys', _, h⟩ := hb
      cases h
      simp [eqvs]
  | a :: as, bs, xs, ys, ha, hb => by
    simp only [allOf, Option.bind_eq_some_iff] at ha
    obtain ⟨x, h1, xs', h2, h3⟩ := ha
    cases h3
    cases bs with
    | nil => simp only [allOf] at hb; cases hb; simp [eqvs]
    | cons b bs =>
      simp only [allOf, Option.bind_eq_some_iff] at hb
      obtain ⟨y, g1, ys', g2, g3⟩ := hb
      cases g3
      simp only [eqvs]
      rw [kK_inj h1 g1, kKs_inj h2 g2]
      by_cases e : x = y
      · subst e; simp
      · simp [e]
theorem kT_inj {a b : D} {x y : List Key} (ha : kT a = some x) (hb : kT b = some y) : eqv a b = decide (x = y) := by
  cases a <;> simp only [kT] at ha <;> try contradiction
  cases b <;> simp only [kT] at hb <;> try contradiction
  simp only [eqv]
  exact kKs_inj ha hb
theorem kK_ok {k : D} (h : keyOk false k = true) : ∃ x, kK k = some x ∧ ∀ v, Rep G Fz μ H k v → v = kV x := by
  cases k <;> simp only [keyOk] at h <;> try contradiction
  · exact ⟨_, rfl, fun v r => by simp only [Rep] at r; exact r⟩
  · exact ⟨_, rfl, fun v r => by simp only [Rep] at r; exact r⟩
theorem kKs_ok : ∀ {ks : List D}, keyOks ks = true → ∃ xs, allOf kK ks = some xs ∧ ∀ vs, Reps G Fz μ H ks vs → vs = xs.map kV
  | [], _ => ⟨[], rfl, fun vs r => by simp only [Reps] at r; exact r⟩
  | k :: ks, h => by
    simp only [keyOks, Bool.and_eq_true] at h
    obtain ⟨x, e, q⟩ := kK_ok (G := G) (Fz := Fz) (μ := μ) (H := H) h.1
    obtain ⟨xs, es, qs⟩ := kKs_ok h.2
    refine ⟨x :: xs, by simp only [allOf, e, es, Option.bind_some], fun vs r => ?_⟩
    simp only [Reps] at r
    obtain ⟨v, w, rfl, r1, r2⟩ := r
    rw [q v r1, qs w r2]
    rfl
theorem kT_ok (hkt : ∀ d ∈ G.kt, keyOk true d = false) (hx : G.xt = false) {k : D} (h : keyOk true k = true) : ∃ xs, kT k = some xs ∧ ∀ v, Rep G Fz μ H k v → ∃ b, v = .ref b ∧ H b = some (.tup (xs.map kV)) := by
  cases k <;> simp only [keyOk] at h <;> try contradiction
  rename_i ds
  have h' := h
  simp only [Bool.and_eq_true] at h
  obtain ⟨xs, es, qs⟩ := kKs_ok (G := G) (Fz := Fz) (μ := μ) (H := H) h.2
  refine ⟨xs, by simp only [kT]; exact es, fun v r => ?_⟩
  simp only [Rep] at r
  obtain ⟨a, vs, rfl, t, r⟩ := r
  rcases t with ⟨_, t⟩ | ⟨z, _⟩ | ⟨_, t⟩
  · exact ⟨a, rfl, by rw [← qs vs r]; exact t⟩
  · rw [hx] at z; cases z
  · have := hkt _ t
    simp only [keyOk] at this
    rw [h'] at this; cases this

/-! ### what stands at a key -/
theorem look_val {κ : Type} [DecidableEq κ] (f : D → Option κ) (hf : ∀ a b x y, f a = some x → f b = some y → eqv a b = decide (x = y)) {k : D} {x : κ} (hk : f k = some x) :
    ∀ {ks ws : List D} {kk : List κ} {vs : List V}, allOf f ks = some kk → Reps G Fz μ H ws vs → kk.length = vs.length →
      (look k ks ws = none ∧ valV (kk.zip vs) x = none) ∨ ∃ d v, look k ks ws = some d ∧ valV (kk.zip vs) x = some v ∧ Rep G Fz μ H d v
  | [], ws, kk, vs, h, r, _ => by
    simp only [allOf] at h
    cases h
    left
    exact ⟨by cases ws <;> rfl, rfl⟩
  | a :: ks, ws, kk, vs, h, r, hl => by
    simp only [allOf, Option.bind_eq_some_iff] at h
    obtain ⟨y, h1, kk', h2, h3⟩ := h
    cases h3
    cases ws with
    | nil => simp only [Reps] at r; subst r; simp at hl
    | cons w ws =>
      simp only [Reps] at r
      obtain ⟨v, vs', rfl, r1, r2⟩ := r
      simp only [look]
      rw [hf a k y x h1 hk]
      by_cases e : y = x
      · right
        refine ⟨w, v, by simp [e], ?_, r1⟩
        show valV ((y, v) :: kk'.zip vs') x = some v
        exact valV_pos e
      · rw [if_neg (by simp [e])]
        have : valV ((y, v) :: kk'.zip vs') x = valV (kk'.zip vs') x := valV_neg e
        show _ ∨ ∃ d v', _ ∧ valV ((y, v) :: kk'.zip vs') x = some v' ∧ _
        show (_ ∧ valV ((y, v) :: kk'.zip vs') x = none) ∨ _
        rw [this]
        exact look_val f hf hk h2 r2 (by simpa using hl)
theorem look_any {k : D} : ∀ {ks ws : List D}, ks.length = ws.length → (ks.any fun y => eqv y k) = (look k ks ws).isSome
  | [], [], _ => rfl
  | a :: ks, w :: ws, h => by
    simp only [List.any_cons, look]
    cases e : eqv a k with
    | true => simp
    | false => simp [look_any (k := k) (show ks.length = ws.length by simpa using h)]
/-- a dict read at a key -/
theorem vw_get (hkt : ∀ d ∈ G.kt, keyOk true d = false) {t : Bool} {ks ws : List D} {x : V} (h : Vw G Fz μ H (.dic t ks ws) x) {k : D} {y : V} (hk : keyOk t k = true) (rk : Rep G Fz μ H k y) :
    ∃ a o, x = .ref a ∧ DGet H a y o ∧ (∀ d, look k ks ws = some d → ∃ v, o = some v ∧ Rep G Fz μ H d v) ∧ (look k ks ws).isSome = o.isSome := by
  obtain ⟨a, vs, rfl, r, h⟩ := h
  rcases h with ⟨rfl, kk, e1, e2, e3⟩ | ⟨⟨rfl, hxt⟩, kk, e1, e2, e3⟩
  · obtain ⟨z, hz, q⟩ := kK_ok (G := G) (Fz := Fz) (μ := μ) (H := H) hk
    rw [q y rk]
    refine ⟨a, _, rfl, DGet.k e3, ?_⟩
    rcases look_val kK (fun a b x y h1 h2 => kK_inj h1 h2) hz e1 r e2 with ⟨h1, h2⟩ | ⟨d, v, h1, h2, h3⟩
    · rw [h1, h2]; exact ⟨fun d h => (by cases h), rfl⟩
    · rw [h1, h2]; exact ⟨fun d' h => by cases h; exact ⟨v, rfl, h3⟩, rfl⟩
  · obtain ⟨z, hz, q⟩ := kT_ok (G := G) (Fz := Fz) (μ := μ) (H := H) hkt hxt hk
    obtain ⟨b, rfl, hb⟩ := q y rk
    refine ⟨a, _, rfl, DGet.t e3 hb, ?_⟩
    rcases look_val kT (fun a b x y h1 h2 => kT_inj h1 h2) hz e1 r e2 with ⟨h1, h2⟩ | ⟨d, v, h1, h2, h3⟩
    · rw [h1, h2]; exact ⟨fun d h => (by cases h), rfl⟩
    · rw [h1, h2]; exact ⟨fun d' h => by cases h; exact ⟨v, rfl, h3⟩, rfl⟩
theorem dic_len {t : Bool} {ks ws : List D} {x : V} (h : Vw G Fz μ H (.dic t ks ws) x) : ks.length = ws.length := by
  obtain ⟨a, vs, rfl, r, h⟩ := h
  rcases h with ⟨rfl, kk, e1, e2, e3⟩ | ⟨⟨rfl, hxt⟩, kk, e1, e2, e3⟩
  · rw [← allOf_length e1, e2, r.length]
  · rw [← allOf_length e1, e2, r.length]
end

/-! ### comparisons -/
def cmOf : Cm → CmpOp
  | .eq => .Eq
  | .ne => .NotEq
  | .lt => .Lt
  | .le => .LtE
  | .gt => .Gt
  | .ge => .GtE
  | .isIn => .In
  | .notIn => .NotIn
  | .isNon => .Is
  | .notNon => .IsNot
  | .isTrue => .Is
  | .notTrue => .IsNot
section
variable {G : Gi} {Fz : Addr → Prop} {μ : List Addr} {H : Hp} {S : Sto}
theorem flat_v {d : D} {v : V} (h : d.flt = true) (r : Rep G Fz μ H d v) : flatV v = true := by
  cases d <;> simp only [D.flt] at h <;> first | (simp only [Rep] at r; subst r; rfl) | contradiction
theorem flats_v : ∀ {ds : List D} {vs : List V}, ds.all D.flt = true → Reps G Fz μ H ds vs → vs.all flatV = true
  | [], vs, _, r => by simp only [Reps] at r; subst r; rfl
  | d :: ds, vs, h, r => by
    simp only [List.all_cons, Bool.and_eq_true] at h
    simp only [Reps] at r
    obtain ⟨v, w, rfl, r1, r2⟩ := r
    simp only [List.all_cons, flat_v h.1 r1, flats_v h.2 r2, Bool.and_self]
theorem eqV_v {d e : D} {v w : V} (hd : d.flt = true) (he : e.flt = true) (r : Rep G Fz μ H d v) (q : Rep G Fz μ H e w) : eqV v w = eqv d e := by
  cases d <;> simp only [D.flt] at hd <;> first | (simp only [Rep] at r; subst r) | contradiction
  all_goals cases e <;> simp only [D.flt] at he <;> first | (simp only [Rep] at q; subst q) | contradiction
  all_goals simp only [eqV, eqv]
  exact txt_inj
theorem inV_v {d : D} {v : V} (hd : d.flt = true) (r : Rep G Fz μ H d v) : ∀ {ds : List D} {vs : List V}, ds.all D.flt = true → Reps G Fz μ H ds vs → inV v vs = ds.any fun y => eqv y d
  | [], vs, _, q => by simp only [Reps] at q; subst q; rfl
  | e :: ds, vs, h, q => by
    simp only [List.all_cons, Bool.and_eq_true] at h
    simp only [Reps] at q
    obtain ⟨w, ws, rfl, q1, q2⟩ := q
    have ih := inV_v hd r h.2 q2
    simp only [inV] at ih ⊢
    simp only [List.any_cons, eqV_v h.1 hd q1 r, ih]
theorem any_py {d : D} (hd : d.pln = true) : ∀ {ds : List D}, D.plns ds = true → (toPys ds).any (fun z => PyData.eqv z (toPy d)) = ds.any fun y => eqv y d
  | [], _ => rfl
  | e :: ds, h => by
    simp only [D.pls, Bool.and_eq_true] at h
    simp only [toPys, List.any_cons, eqv_py 63 64 e d h.1 hd, any_py hd h.2]
theorem scal_v {a b : D} {x y : V} (h : scP a b = true) (ra : Rep G Fz μ H a x) (rb : Rep G Fz μ H b y) : scal x y = true ∧ decide (x = y) = eqv a b := by
  cases a <;> cases b <;> first
    | (simp only [scP] at h; done)
    | (simp only [scP] at h; contradiction)
    | (simp only [Rep] at ra rb; subst ra rb)
  all_goals refine ⟨rfl, ?_⟩
  all_goals first
    | (simp only [eqv]; exact dec_int)
    | (simp only [eqv]; exact dec_bl)
    | (simp only [eqv]; rw [dec_str]; exact txt_inj)
    | (simp [eqv])
theorem vw_rep {d : D} {v : V} (h : Vw G Fz μ H d v) (hl : ∀ ds, d ≠ .lst ds) (hd : ∀ t ks ws, d ≠ .dic t ks ws) : Rep G Fz μ H d v := by
  cases d with
  | lst ds => exact absurd rfl (hl ds)
  | dic t ks ws => exact absurd rfl (hd t ks ws)
  | non => exact h
  | bl b => exact h
  | int i => exact h
  | pr ds => exact h
  | str s => exact h
  | tup ds => exact h
  | fn f => exact h
  | scr is => exact h
  | exc c fs => exact h
  | loc m => exact h
theorem scP_rep {a b : D} {x y : V} (h : scP a b = true) (ra : Vw G Fz μ H a x) (rb : Vw G Fz μ H b y) : Rep G Fz μ H a x ∧ Rep G Fz μ H b y := by
  constructor
  · refine vw_rep ra (fun ds e => ?_) fun t ks ws e => ?_
    · subst e; simp [scP] at h
    · subst e; simp [scP] at h
  · refine vw_rep rb (fun ds e => ?_) fun t ks ws e => ?_
    · subst e; cases a <;> simp [scP] at h
    · subst e; cases a <;> simp [scP] at h
end
/-- there is room for a comparison -/
abbrev RoomC (X : Cx) : Prop := X.A.units + 198 < cLine
theorem op_cmp {G : Gi} {X : Cx} (hK : X.K = G.K) (hkt : ∀ d ∈ G.kt, keyOk true d = false) (hu : RoomC X) (o : Cm) : OpR X (compareOp (cmOf o)) (rF G fun u v => (cmpD o u v).map .bl) := by
  intro pins s σ H x y v u Q I rx ry h
  obtain ⟨Fz, μ, S, d, e, u1, u2, z, rs, rd, re, h1, h2, hz, g⟩ := h
  have v1 := vw_of rs rd h1
  have v2 := vw_of rs re h2
  simp only [Option.map_eq_some_iff] at hz
  obtain ⟨b, hb, rfl⟩ := hz
  have q := g.bl rs
  have hu1 : X.A.units + 1 < cLine := by show _ < _; unfold RoomC at hu; omega
  have hu64 : X.A.units + 64 < cLine := by show _ < _; unfold RoomC at hu; omega
  cases o with
  | eq =>
    simp only [cmpD] at hb
    split at hb
    · rename_i ho
      cases hb
      simp only [eqOk, Bool.or_eq_true, Bool.and_eq_true] at ho
      rcases ho with ho | ⟨ha, hb⟩
      · obtain ⟨r1, r2⟩ := scP_rep ho v1 v2
        obtain ⟨e1, e2⟩ := scal_v ho r1 r2
        exact op_eq pins s σ H x y v u Q I rx ry ⟨e1, by rw [e2]; exact q⟩
      · refine op_eqD hu64 pins s σ H x y v u Q I rx ry ⟨_, _, hK ▸ dp_vw v1 ha, hK ▸ dp_vw v2 hb, shaped_of ha, shaped_of hb, ?_⟩
        rw [eqv_py 64 64 u1 u2 ha hb]
        exact q
    · cases hb
  | ne =>
    simp only [cmpD] at hb
    split at hb
    · rename_i ho
      cases hb
      simp only [eqOk, Bool.or_eq_true, Bool.and_eq_true] at ho
      rcases ho with ho | ⟨ha, hb⟩
      · obtain ⟨r1, r2⟩ := scP_rep ho v1 v2
        obtain ⟨e1, e2⟩ := scal_v ho r1 r2
        exact op_ne pins s σ H x y v u Q I rx ry ⟨e1, by rw [e2]; exact q⟩
      · refine op_neD hu64 pins s σ H x y v u Q I rx ry ⟨_, _, hK ▸ dp_vw v1 ha, hK ▸ dp_vw v2 hb, shaped_of ha, shaped_of hb, ?_⟩
        rw [eqv_py 64 64 u1 u2 ha hb]
        exact q
    · cases hb
  | lt =>
    cases u1 <;> cases u2 <;> simp only [cmpD] at hb <;> try contradiction
    · cases hb
      rw [int_v v1] at rx; rw [int_v v2] at ry
      exact op_lt pins s σ H _ _ v u Q I rx ry ⟨_, _, rfl, rfl, q⟩
    · cases hb
      rw [str_v v1] at rx; rw [str_v v2] at ry
      exact op_lt_str pins s σ H _ _ v u Q I rx ry ⟨_, _, rfl, rfl, q⟩
    · split at hb
      · rename_i ho
        simp only [Bool.and_eq_true] at ho
        refine ltAt_of (n := 64) (m := 64) hK I _ _ x y v u X.A b v1 v2 rx ry (by simp only [D.pl]; exact ho.1) (by simp only [D.pl]; exact ho.2) (by unfold RoomC at hu; omega) (by simp only [ltD]; exact hb) X.prog X.w X.xe _ ⟨.bl b, H, I, rfl, q⟩
      · cases hb
  | le =>
    cases u1 <;> cases u2 <;> simp only [cmpD] at hb <;> try contradiction
    · cases hb
      rw [int_v v1] at rx; rw [int_v v2] at ry
      exact op_le pins s σ H _ _ v u Q I rx ry ⟨_, _, rfl, rfl, q⟩
    · cases hb
      rw [str_v v1] at rx; rw [str_v v2] at ry
      exact op_le_str pins s σ H _ _ v u Q I rx ry ⟨_, _, rfl, rfl, q⟩
  | gt =>
    cases u1 <;> cases u2 <;> simp only [cmpD] at hb <;> try contradiction
    · cases hb
      rw [int_v v1] at rx; rw [int_v v2] at ry
      exact op_gt pins s σ H _ _ v u Q I rx ry ⟨_, _, rfl, rfl, q⟩
    · cases hb
      rw [str_v v1] at rx; rw [str_v v2] at ry
      exact op_gt_str pins s σ H _ _ v u Q I rx ry ⟨_, _, rfl, rfl, q⟩
  | ge =>
    cases u1 <;> cases u2 <;> simp only [cmpD] at hb <;> try contradiction
    · cases hb
      rw [int_v v1] at rx; rw [int_v v2] at ry
      exact op_ge pins s σ H _ _ v u Q I rx ry ⟨_, _, rfl, rfl, q⟩
    · cases hb
      rw [str_v v1] at rx; rw [str_v v2] at ry
      exact op_ge_str pins s σ H _ _ v u Q I rx ry ⟨_, _, rfl, rfl, q⟩
  | isIn =>
    simp only [cmpD] at hb
    cases u2 <;> simp only [inD] at hb <;> try contradiction
    · split at hb
      · cases hb
        rw [str_v v2] at ry
        have e1 := str_v v1
        rw [e1] at rx
        exact op_in_sign pins s σ H _ _ v u Q I rx ry ⟨_, _, rfl, rfl, q⟩
      · cases hb
    · split at hb
      · rename_i ho
        cases hb
        have v2' := v2
        simp only [Vw, Rep] at v2
        obtain ⟨a, vs, rfl, ha, ra⟩ := v2
        simp only [Bool.or_eq_true, Bool.and_eq_true] at ho
        rcases ho with ⟨f1, f2⟩ | ⟨p1, p2⟩
        · have r1 : Rep G Fz μ H u1 x := by cases u1 <;> simp only [D.flt] at f1 <;> first | exact v1 | contradiction
          refine op_in_seq pins s σ H _ _ v u Q I rx ry ⟨a, vs, rfl, .inr (hK ▸ ha.sqT), flat_v f1 r1, flats_v f2 ra, ?_⟩
          rw [inV_v f1 r1 f2 ra]
          exact q
        · have d1 := dp_vw v1 p1
          have d2 := dp_vw (n := 64) (d := .tup _) v2' (by simp only [D.pl]; exact p2)
          rw [← hK] at d1 d2
          obtain ⟨as, r1⟩ := Dp.reads I _ _ _ d1 rx
          obtain ⟨bs, r2⟩ := Dp.reads I _ _ _ d2 ry
          have l1 := lay_of 64 u1 p1
          have l2 := lays_of 63 _ p2
          simp only [toPy] at r2
          exact SeqAt.in_tuple_reads r2 r1 l2.1 l1.1 (by have := Nat.min_le_left (PyData.depthAll (toPys ‹List D›)) (toPy u1).depth; unfold RoomC at hu; omega) ⟨.bl _, H, I, rfl, by rw [any_py p1 p2]; exact q⟩
      · cases hb
    · split at hb
      · rename_i ho
        cases hb
        have v2' := v2
        simp only [Vw] at v2
        obtain ⟨a, vs, rfl, ha, ra⟩ := v2
        simp only [Bool.or_eq_true, Bool.and_eq_true] at ho
        rcases ho with ⟨f1, f2⟩ | ⟨p1, p2⟩
        · have r1 : Rep G Fz μ H u1 x := by cases u1 <;> simp only [D.flt] at f1 <;> first | exact v1 | contradiction
          refine op_in_seq pins s σ H _ _ v u Q I rx ry ⟨a, vs, rfl, .inl (SqL.of ha), flat_v f1 r1, flats_v f2 ra, ?_⟩
          rw [inV_v f1 r1 f2 ra]
          exact q
        · have d1 := dp_vw v1 p1
          have d2 := dp_vw (n := 64) (d := .lst _) v2' (by simp only [D.pl]; exact p2)
          rw [← hK] at d1 d2
          obtain ⟨as, r1⟩ := Dp.reads I _ _ _ d1 rx
          obtain ⟨bs, r2⟩ := Dp.reads I _ _ _ d2 ry
          have l1 := lay_of 64 u1 p1
          have l2 := lays_of 63 _ p2
          simp only [toPy] at r2
          exact SeqAt.in_list_reads r2 r1 l2.1 l1.1 (by have := Nat.min_le_left (PyData.depthAll (toPys ‹List D›)) (toPy u1).depth; unfold RoomC at hu; omega) ⟨.bl _, H, I, rfl, by rw [any_py p1 p2]; exact q⟩
      · cases hb
    · split at hb
      · rename_i t ks ws ho
        cases hb
        have r1 : Rep G Fz μ H u1 x := by cases u1 <;> cases t <;> simp only [keyOk] at ho <;> first | exact v1 | contradiction
        obtain ⟨a, o, rfl, dg, _, e2⟩ := vw_get hkt v2 ho r1
        cases ry
        rw [look_any (dic_len v2), e2] at q
        exact d_in hu1 I dg rx fun s' I' => ⟨.bl _, H, I', rfl, q⟩
      · cases hb
  | notIn =>
    simp only [cmpD, Option.map_eq_some_iff] at hb
    obtain ⟨bb, hb, rfl⟩ := hb
    cases u2 <;> simp only [inD] at hb <;> try contradiction
    · split at hb
      · cases hb
        rw [str_v v2] at ry
        have e1 := str_v v1
        rw [e1] at rx
        exact op_notIn_sign pins s σ H _ _ v u Q I rx ry ⟨_, _, rfl, rfl, q⟩
      · cases hb
    · split at hb
      · rename_i ho
        cases hb
        have v2' := v2
        simp only [Vw, Rep] at v2
        obtain ⟨a, vs, rfl, ha, ra⟩ := v2
        simp only [Bool.or_eq_true, Bool.and_eq_true] at ho
        rcases ho with ⟨f1, f2⟩ | ⟨p1, p2⟩
        · have r1 : Rep G Fz μ H u1 x := by cases u1 <;> simp only [D.flt] at f1 <;> first | exact v1 | contradiction
          refine op_notIn_seq pins s σ H _ _ v u Q I rx ry ⟨a, vs, rfl, .inr (hK ▸ ha.sqT), flat_v f1 r1, flats_v f2 ra, ?_⟩
          rw [inV_v f1 r1 f2 ra]
          exact q
        · have d1 := dp_vw v1 p1
          have d2 := dp_vw (n := 64) (d := .tup _) v2' (by simp only [D.pl]; exact p2)
          rw [← hK] at d1 d2
          obtain ⟨as, r1⟩ := Dp.reads I _ _ _ d1 rx
          obtain ⟨bs, r2⟩ := Dp.reads I _ _ _ d2 ry
          have l1 := lay_of 64 u1 p1
          have l2 := lays_of 63 _ p2
          simp only [toPy] at r2
          exact SeqAt.notIn_tuple_reads r2 r1 l2.1 l1.1 (by have := Nat.min_le_left (PyData.depthAll (toPys ‹List D›)) (toPy u1).depth; unfold RoomC at hu; omega) ⟨.bl _, H, I, rfl, by rw [any_py p1 p2]; exact q⟩
      · cases hb
    · split at hb
      · rename_i ho
        cases hb
        have v2' := v2
        simp only [Vw] at v2
        obtain ⟨a, vs, rfl, ha, ra⟩ := v2
        simp only [Bool.or_eq_true, Bool.and_eq_true] at ho
        rcases ho with ⟨f1, f2⟩ | ⟨p1, p2⟩
        · have r1 : Rep G Fz μ H u1 x := by cases u1 <;> simp only [D.flt] at f1 <;> first | exact v1 | contradiction
          refine op_notIn_seq pins s σ H _ _ v u Q I rx ry ⟨a, vs, rfl, .inl (SqL.of ha), flat_v f1 r1, flats_v f2 ra, ?_⟩
          rw [inV_v f1 r1 f2 ra]
          exact q
        · have d1 := dp_vw v1 p1
          have d2 := dp_vw (n := 64) (d := .lst _) v2' (by simp only [D.pl]; exact p2)
          rw [← hK] at d1 d2
          obtain ⟨as, r1⟩ := Dp.reads I _ _ _ d1 rx
          obtain ⟨bs, r2⟩ := Dp.reads I _ _ _ d2 ry
          have l1 := lay_of 64 u1 p1
          have l2 := lays_of 63 _ p2
          simp only [toPy] at r2
          exact SeqAt.notIn_list_reads r2 r1 l2.1 l1.1 (by have := Nat.min_le_left (PyData.depthAll (toPys ‹List D›)) (toPy u1).depth; unfold RoomC at hu; omega) ⟨.bl _, H, I, rfl, by rw [any_py p1 p2]; exact q⟩
      · cases hb
    · split at hb
      · rename_i t ks ws ho
        cases hb
        have r1 : Rep G Fz μ H u1 x := by cases u1 <;> cases t <;> simp only [keyOk] at ho <;> first | exact v1 | contradiction
        obtain ⟨a, o, rfl, dg, _, e2⟩ := vw_get hkt v2 ho r1
        cases ry
        rw [look_any (dic_len v2), e2] at q
        exact d_notIn hu1 I dg rx fun s' I' => ⟨.bl _, H, I', rfl, q⟩
      · cases hb
  | isNon =>
    cases u2 <;> simp only [cmpD] at hb <;> try contradiction
    cases hb
    have e2 : y = .non := by simpa only [Vw, Rep] using v2
    refine op_isN pins s σ H x y v u Q I rx ry ⟨e2, ?_⟩
    cases u1 <;> simp only [Vw, Rep] at v1
    all_goals first
      | (subst v1; exact q)
      | (obtain ⟨a, rfl, _⟩ := v1; exact q)
      | (obtain ⟨a, b, rfl, _⟩ := v1; exact q)
      | exact v1.elim
  | notNon =>
    cases u2 <;> simp only [cmpD] at hb <;> try contradiction
    cases hb
    have e2 : y = .non := by simpa only [Vw, Rep] using v2
    refine op_notN pins s σ H x y v u Q I rx ry ⟨e2, ?_⟩
    cases u1 <;> simp only [Vw, Rep] at v1
    all_goals first
      | (subst v1; exact q)
      | (obtain ⟨a, rfl, _⟩ := v1; exact q)
      | (obtain ⟨a, b, rfl, _⟩ := v1; exact q)
      | exact v1.elim
  | isTrue =>
    cases u1 <;> cases u2 <;> first | (have hb' : (none : Option Bool) = some b := hb; cases hb'; done) | skip
    rename_i a c
    simp only [cmpD] at hb
    have e0 := Option.some.inj hb
    have e1 : x = .bl a := by simpa only [Vw, Rep] using v1
    have e2 : y = .bl c := by simpa only [Vw, Rep] using v2
    refine op_isBl pins s σ H x y v u Q I rx ry ⟨_, _, e1, e2, ?_⟩
    subst e0
    cases a <;> cases c <;> exact q
  | notTrue =>
    cases u1 <;> cases u2 <;> first | (have hb' : (none : Option Bool) = some b := hb; cases hb'; done) | skip
    rename_i a c
    simp only [cmpD] at hb
    have e0 := Option.some.inj hb
    have e1 : x = .bl a := by simpa only [Vw, Rep] using v1
    have e2 : y = .bl c := by simpa only [Vw, Rep] using v2
    refine op_notBl pins s σ H x y v u Q I rx ry ⟨_, _, e1, e2, ?_⟩
    subst e0
    cases a <;> cases c <;> exact q
end QF
end

section
set_option maxHeartbeats 2000000
/-! QF8: expressions: a rule for each construct, its reading the evaluator's answer. -/
namespace QF
open PySem L2
variable {G : Gi} {W : WX} {X : Cx}

section binds
variable {σ : L2.St} {H : Hp} {α : Type} {Pq : (Addr → Prop) → List Addr → Hp → Sto → α → Prop}
/-- one value, then the rest -/
theorem At.b1 {m : Env → Sto → Res D} {k : Env → D → Sto → Res α} (g : At G W (fun ρ S => (m ρ S).bind (k ρ)) Pq σ H) :
    tD G W m σ H fun x H1 => ∃ Fz μ S ρ d, RepS G Fz μ H1 S ∧ RepE G Fz μ H1 ρ σ ∧ Rep G Fz μ H1 d x ∧ Go G W σ Pq Fz μ S H1 (k ρ d S) := by
  refine At.bind g fun Fz μ H' S ρ a rs re go v rv => ⟨Fz, μ, S, ρ, a, rs, re, rv, go⟩
theorem At.of {m : Env → Sto → Res α} {Fz : Addr → Prop} {μ : List Addr} {S : Sto} {ρ : Env} (rs : RepS G Fz μ H S) (re : RepE G Fz μ H ρ σ) (go : Go G W σ Pq Fz μ S H (m ρ S)) : At G W m Pq σ H := ⟨Fz, μ, ρ, S, rs, re, go⟩
/-- weaker wishes -/
theorem At.weak {m : Env → Sto → Res D} {Q Q' : VK} (h : tD G W m σ H Q) (w : ∀ v H1, Q v H1 → Q' v H1) : tD G W m σ H Q' := by
  obtain ⟨Fz, μ, ρ, S, rs, re, go⟩ := h
  refine ⟨Fz, μ, ρ, S, rs, re, ?_⟩
  cases e : m ρ S with
  | ok a S' => rw [e] at go; exact fun F2 μ2 H2 x r v rv => w v H2 (go F2 μ2 H2 x r v rv)
  | exc c fs S' => rw [e] at go; exact go
  | stk => rw [e] at go; exact go
theorem Go.b1 {m : Env → Sto → Res D} {k : D → Sto → Res α} {Fz : Addr → Prop} {μ : List Addr} {S : Sto} {ρ : Env} (rs : RepS G Fz μ H S) (re : RepE G Fz μ H ρ σ) (go : Go G W σ Pq Fz μ S H ((m ρ S).bind k)) :
    tD G W m σ H fun x H1 => ∃ F1 μ1 S1 d, RepS G F1 μ1 H1 S1 ∧ RepE G F1 μ1 H1 ρ σ ∧ Keep Fz F1 μ μ1 H H1 ∧ Rep G F1 μ1 H1 d x ∧ Go G W σ Pq F1 μ1 S1 H1 (k d S1) :=
  ⟨Fz, μ, ρ, S, rs, re, go.bind fun a S' F' μ' H' e r' g' v rv => ⟨F', μ', S', a, r', re.keep (e.keep rs), e.keep rs, rv, g'⟩⟩
theorem Go.bs {m : Env → Sto → Res (List D)} {k : List D → Sto → Res α} {Fz : Addr → Prop} {μ : List Addr} {S : Sto} {ρ : Env} (rs : RepS G Fz μ H S) (re : RepE G Fz μ H ρ σ) (go : Go G W σ Pq Fz μ S H ((m ρ S).bind k)) :
    tDs G W m σ H fun xs H1 => ∃ F1 μ1 S1 ds, RepS G F1 μ1 H1 S1 ∧ RepE G F1 μ1 H1 ρ σ ∧ Keep Fz F1 μ μ1 H H1 ∧ Reps G F1 μ1 H1 ds xs ∧ Go G W σ Pq F1 μ1 S1 H1 (k ds S1) :=
  ⟨Fz, μ, ρ, S, rs, re, go.bind fun a S' F' μ' H' e r' g' v rv => ⟨F', μ', S', a, r', re.keep (e.keep rs), e.keep rs, rv, g'⟩⟩
/-- as a test -/
theorem Go.bt {m : Env → Sto → Res D} {k : D → Sto → Res α} {Fz : Addr → Prop} {μ : List Addr} {S : Sto} {ρ : Env} (hk : ∀ d S, (∀ b, d ≠ .bl b) → k d S = .stk) (rs : RepS G Fz μ H S) (re : RepE G Fz μ H ρ σ) (go : Go G W σ Pq Fz μ S H ((m ρ S).bind k)) :
    tT G W m σ H fun b H1 => ∃ F1 μ1 S1, RepS G F1 μ1 H1 S1 ∧ RepE G F1 μ1 H1 ρ σ ∧ Keep Fz F1 μ μ1 H H1 ∧ Go G W σ Pq F1 μ1 S1 H1 (k (.bl b) S1) :=
  ⟨Fz, μ, ρ, S, rs, re, go.bind fun a S' F' μ' H' e r' g' => by
    by_cases hb : ∃ b, a = .bl b
    · obtain ⟨b, rfl⟩ := hb
      exact ⟨b, rfl, F', μ', S', r', re.keep (e.keep rs), e.keep rs, g'⟩
    · rw [hk a S' fun b eb => hb ⟨b, eb⟩] at g'
      exact g'.elim⟩
end binds

section
variable {P : Prg} {cf : Nat → List D → Sto → Res D}
abbrev TD (G : Gi) (W : WX) (P : Prg) (cf : Nat → List D → Sto → Res D) (e : Ex) : TE := tD G W (evE P cf e)
abbrev TT' (G : Gi) (W : WX) (P : Prg) (cf : Nat → List D → Sto → Res D) (e : Ex) : TT := tT G W (evE P cf e)
abbrev TDs (G : Gi) (W : WX) (P : Prg) (cf : Nat → List D → Sto → Res D) (es : Es) : TA := tDs G W (evEs P cf es)
/-- a state with an expression's answer -/
def Aw (G : Gi) (W : WX) (P : Prg) (cf : Nat → List D → Sto → Res D) (σ : L2.St) (e : Ex) (H : Hp) (Q : VK) : Prop := TD G W P cf e σ H Q
/-! ### simple expressions -/
theorem d_val {e : Expr} {v : V} {d : D} {ee : Ex} (h : PE X e (tC v)) (he : ∀ ρ S, evE P cf ee ρ S = .ok d S) (hr : ∀ Fz μ H, Rep G Fz μ H d v) : PE X e (TD G W P cf ee) :=
  PE.imp h fun σ H Q ⟨Fz, μ, ρ, S, rs, re, go⟩ => by
    rw [he] at go
    exact go.now rs v (hr Fz μ H)
theorem d_var {i : Nat} {x : Str} {pos : Pos} (hN : X.N[i]? = some x) (hv : Vis X.env.scope x) (hd : (x == ("__debug__" : Str)) = false) (hcd : (x == ("__classdict__" : Str)) = false) :
    PE X (.Name x pos) (TD G W P cf (.var i)) :=
  PE.imp (pe_var hN hv hd hcd) fun σ H Q ⟨Fz, μ, ρ, S, rs, re, go⟩ => by
    simp only [evE] at go
    cases h : ρ[i]? with
    | none => rw [h] at go; exact go.elim
    | some o =>
      cases o with
      | none => rw [h] at go; exact go.elim
      | some d =>
        rw [h] at go
        obtain ⟨v, e, r⟩ := re.2 i d h
        exact ⟨v, e, go.now rs v r⟩
theorem Go.op2 {σ : L2.St} {Fz : Addr → Prop} {μ : List Addr} {S : Sto} {H : Hp} {Q : VK} {f : D → D → Option D} {d e : D} (go : Go G W σ (qV G Q) Fz μ S H (op2 f d e S)) :
    ∃ u v z, drf S d = some u ∧ drf S e = some v ∧ f u v = some z ∧ Gv G Q Fz μ S H z S := by
  unfold QF.op2 at go
  cases h1 : drf S d with
  | none => rw [h1] at go; exact go.elim
  | some u =>
    cases h2 : drf S e with
    | none => rw [h1, h2] at go; exact go.elim
    | some v =>
      rw [h1, h2] at go
      obtain ⟨z, hz, g⟩ := Go.opt go
      exact ⟨u, v, z, rfl, rfl, hz, g⟩
/-- two values, then an operation -/
theorem two {ea eb e : Ex} {σ : L2.St} {H : Hp} {Q : VK} {f : D → D → Option D} (he : ∀ ρ S, evE P cf e ρ S = (evE P cf ea ρ S).bind fun x S => (evE P cf eb ρ S).bind fun y S => op2 f x y S) (h : TD G W P cf e σ H Q) : TD G W P cf ea σ H fun x H1 => TD G W P cf eb σ H1 fun y H2 => rF G f x y H2 Q := by
  obtain ⟨Fz, μ, ρ, S, rs, re, go⟩ := h
  rw [he] at go
  refine At.weak (Go.b1 rs re go) fun x H1 ⟨F1, μ1, S1, d, r1, e1, k1, rd, go1⟩ => ?_
  refine At.weak (Go.b1 r1 e1 go1) fun y H2 ⟨F2, μ2, S2, e, r2, e2, k2, rde, go2⟩ => ?_
  obtain ⟨u, v, z, h1, h2, hz, g⟩ := Go.op2 go2
  exact ⟨F2, μ2, S2, d, e, u, v, z, r2, Rep.keep k2 d x rd, rde, h1, h2, hz, g⟩
theorem d_bin {a b : Expr} {ea eb : Ex} {pos : Pos} (hK : X.K = G.K) (o : Op) (ha : PE X a (TD G W P cf ea)) (hb : PE X b (TD G W P cf eb)) :
    PE X (.BinOp a (opOf o) b pos) (TD G W P cf (.bin o ea eb)) :=
  PE.imp (pe_op (op_bin hK o) ha hb) fun σ H Q h => two (fun ρ S => by simp only [evE]) h
theorem op_cmp' (hK : X.K = G.K) (hkt : ∀ d ∈ G.kt, keyOk true d = false) (hu : RoomC X) (o : Cm) : OpR X (compareOp (cmOf o)) (rF G (cmp2 o)) := op_cmp hK hkt hu o
theorem d_cmp {a b : Expr} {ea eb : Ex} {pos : Pos} (hK : X.K = G.K) (hkt : ∀ d ∈ G.kt, keyOk true d = false) (hu : RoomC X) (o : Cm) (hm : behindInMarks (cmOf o) b = false) (ha : PE X a (TD G W P cf ea)) (hb : PE X b (TD G W P cf eb)) :
    PE X (.Compare a [cmOf o] [b] pos) (TD G W P cf (.cmp o ea eb)) :=
  PE.imp (pe_cmpR (op_cmp' hK hkt hu o) ha hb hm) fun σ H Q h => two (fun ρ S => by simp only [evE]) h
/-- a reading as a test is one of a value that is a bool -/
theorem tT_tD {e : Ex} {σ : L2.St} {H : Hp} {Q : Bool → Hp → Prop} (h : TT' G W P cf e σ H Q) : TD G W P cf e σ H fun v H1 => ∃ c, v = .bl c ∧ Q c H1 := by
  obtain ⟨Fz, μ, ρ, S, rs, re, go⟩ := h
  refine ⟨Fz, μ, ρ, S, rs, re, ?_⟩
  cases e1 : evE P cf e ρ S with
  | ok d S' =>
    rw [e1] at go
    intro F2 μ2 H2 x r v rv
    obtain ⟨b, rfl, q⟩ := go F2 μ2 H2 x r
    exact ⟨b, by simpa only [Rep] using rv, q⟩
  | exc c fs S' => rw [e1] at go; exact go
  | stk => rw [e1] at go; exact go
theorem t_val {e : Expr} {ee : Ex} (h : PE X e (TD G W P cf ee)) (he : ∀ whole, isTrue e X.env whole = (do let v ← whole; standAt e.pos; holding [v] (truthy v))) : PT X e (TT' G W P cf ee) :=
  PT.imp (pt_val h he) fun σ H Q h => tT_tD h
theorem t_cmp {a b : Expr} {ea eb : Ex} {pos : Pos} (hK : X.K = G.K) (hkt : ∀ d ∈ G.kt, keyOk true d = false) (hu : RoomC X) (o : Cm) (hm : behindInMarks (cmOf o) b = false) (ha : PE X a (TD G W P cf ea)) (hb : PE X b (TD G W P cf eb)) :
    PT X (.Compare a [cmOf o] [b] pos) (TT' G W P cf (.cmp o ea eb)) :=
  PT.imp (pt_cmpR (op_cmp' hK hkt hu o) ha hb hm) fun σ H Q h => two (fun ρ S => by simp only [evE]) (tT_tD h)
/-- a chain of two comparisons -/
theorem chain {ea eb ec : Ex} {o o' : Cm} {σ : L2.St} {H : Hp} {Q : VK} (h : TD G W P cf (.chain o o' ea eb ec) σ H Q) :
    tChain (rF G (cmp2 o)) (rF G (cmp2 o')) (TD G W P cf ea) (TD G W P cf eb) (TD G W P cf ec) σ H Q := by
  obtain ⟨Fz, μ, ρ, S, rs, re, go⟩ := h
  simp only [evE] at go
  refine At.weak (Go.b1 rs re go) fun x H1 ⟨F1, μ1, S1, d, r1, e1, k1, rd, go1⟩ => ?_
  refine At.weak (Go.b1 r1 e1 go1) fun y H2 ⟨F2, μ2, S2, e, r2, e2, k2, rde, go2⟩ => ?_
  unfold chainB at go2
  obtain ⟨u, v, z, h1, h2, hz, g⟩ := Go.op2 (go2.bind (Rq := qV G fun z H3 => ∃ k, z = .bl k ∧ (if k = true then TD G W P cf ec σ H3 fun w H4 => rF G (cmp2 o') y w H4 Q else Q (.bl false) H3)) fun z S3 F3 μ3 H3 e3 r3 go3 zv rz => by
    unfold onB at go3
    cases z <;> first | exact go3.elim | skip
    rename_i c
    have ez : zv = .bl c := by simpa only [Rep] using rz
    refine ⟨c, ez, ?_⟩
    have kk := e3.keep r2
    cases c with
    | false =>
      rw [if_neg (by simp)]
      exact go3.now r3 _ (by simp only [Rep])
    | true =>
      rw [if_pos rfl]
      refine At.weak (Go.b1 r3 (e2.keep kk) go3) fun w H4 ⟨F4, μ4, S4, g, r4, e4, k4, rg, go4⟩ => ?_
      obtain ⟨v', t, z, h5, h6, hz, gv⟩ := Go.op2 go4
      exact ⟨F4, μ4, S4, e, g, v', t, z, r4, Rep.keep k4 e y (Rep.keep kk e y rde), rg, h5, h6, hz, gv⟩)
  exact ⟨F2, μ2, S2, d, e, u, v, z, r2, Rep.keep k2 d x rd, rde, h1, h2, hz, g⟩
theorem d_chain {a b c : Expr} {ea eb ec : Ex} {pos : Pos} (hK : X.K = G.K) (hkt : ∀ d ∈ G.kt, keyOk true d = false) (hu : RoomC X) (o o' : Cm) (hm : lastMarks [cmOf o, cmOf o'] [b, c] = false)
    (ha : PE X a (TD G W P cf ea)) (hb : PE X b (TD G W P cf eb)) (hc : PE X c (TD G W P cf ec)) : PE X (.Compare a [cmOf o, cmOf o'] [b, c] pos) (TD G W P cf (.chain o o' ea eb ec)) :=
  PE.imp (pe_chain (op_cmp' hK hkt hu o) (op_cmp' hK hkt hu o') ha hb hc hm) fun σ H Q h => chain h
theorem t_chain {a b c : Expr} {ea eb ec : Ex} {pos : Pos} (hK : X.K = G.K) (hkt : ∀ d ∈ G.kt, keyOk true d = false) (hu : RoomC X) (o o' : Cm) (hm : lastMarks [cmOf o, cmOf o'] [b, c] = false)
    (ha : PE X a (TD G W P cf ea)) (hb : PE X b (TD G W P cf eb)) (hc : PE X c (TD G W P cf ec)) : PT X (.Compare a [cmOf o, cmOf o'] [b, c] pos) (TT' G W P cf (.chain o o' ea eb ec)) :=
  PT.imp (pt_chain (op_cmp' hK hkt hu o) (op_cmp' hK hkt hu o') ha hb hc hm) fun σ H Q h => chain (tT_tD h)
/-! ### not, and, or, if -/
theorem onBK {α : Type} {f g : Sto → Res α} : ∀ (d : D) (S : Sto), (∀ b, d ≠ .bl b) → onB f g d S = .stk := fun d S h => by
  cases d <;> first | rfl | exact absurd rfl (h _)
theorem t_not {a : Expr} {ea : Ex} {pos : Pos} (ha : PT X a (TT' G W P cf ea)) : PT X (.UnaryOp .Not a pos) (TT' G W P cf (.not ea)) :=
  PT.imp (pt_not ha) fun σ H Q ⟨Fz, μ, ρ, S, rs, re, go⟩ => by
    simp only [evE] at go
    have g := Go.bt onBK rs re go
    obtain ⟨F, m, r, T, x1, x2, x3⟩ := g
    refine ⟨F, m, r, T, x1, x2, ?_⟩
    cases e1 : evE P cf ea r T with
    | ok d S' =>
      rw [e1] at x3
      intro F2 μ2 H2 x rr
      obtain ⟨b, rfl, F1, μ1, S1, r1, _, _, go1⟩ := x3 F2 μ2 H2 x rr
      cases b with
      | true =>
        obtain ⟨c, ec, q⟩ := Go.now (a := D.bl false) go1 r1
        cases ec
        exact ⟨true, rfl, q⟩
      | false =>
        obtain ⟨c, ec, q⟩ := Go.now (a := D.bl true) go1 r1
        cases ec
        exact ⟨false, rfl, q⟩
    | exc c fs S' => rw [e1] at x3; exact x3
    | stk => rw [e1] at x3; exact x3
theorem At.weakT {e : Ex} {σ : L2.St} {H : Hp} {Q Q' : Bool → Hp → Prop} (h : TT' G W P cf e σ H Q) (w : ∀ v H1, Q v H1 → Q' v H1) : TT' G W P cf e σ H Q' := by
  obtain ⟨Fz, μ, ρ, S, rs, re, go⟩ := h
  refine ⟨Fz, μ, ρ, S, rs, re, ?_⟩
  cases e1 : evE P cf e ρ S with
  | ok a S' =>
    rw [e1] at go
    intro F2 μ2 H2 x r
    obtain ⟨b, rfl, q⟩ := go F2 μ2 H2 x r
    exact ⟨b, rfl, w b H2 q⟩
  | exc c fs S' => rw [e1] at go; exact go
  | stk => rw [e1] at go; exact go
theorem d_not {a : Expr} {ea : Ex} {pos : Pos} (ha : PE X a (TD G W P cf ea)) : PE X (.UnaryOp .Not a pos) (TD G W P cf (.not ea)) :=
  PE.imp (pe_not ha) fun σ H Q ⟨Fz, μ, ρ, S, rs, re, go⟩ => by
    simp only [evE] at go
    refine At.weak (Go.b1 rs re go) fun x H1 ⟨F1, μ1, S1, d, r1, e1, k1, rd, go1⟩ => ?_
    cases d <;> first | exact go1.elim | skip
    rename_i b
    have ex : x = .bl b := by simpa only [Rep] using rd
    refine ⟨b, ex, ?_⟩
    cases b with
    | true => exact Go.now (a := D.bl false) go1 r1 _ (by simp only [Rep]; rfl)
    | false => exact Go.now (a := D.bl true) go1 r1 _ (by simp only [Rep]; rfl)
theorem d_ife {t a b : Expr} {et ea eb : Ex} {pos : Pos} (ht : PT X t (TT' G W P cf et)) (ha : PE X a (TD G W P cf ea)) (hb : PE X b (TD G W P cf eb)) : PE X (.IfExp t a b pos) (TD G W P cf (.ife et ea eb)) :=
  PE.imp (pe_ifExp ht ha hb) fun σ H Q ⟨Fz, μ, ρ, S, rs, re, go⟩ => by
    simp only [evE] at go
    refine At.weakT (Go.bt onBK rs re go) fun c H1 ⟨F1, μ1, S1, r1, e1, k1, go1⟩ => ?_
    cases c with
    | true => rw [if_pos rfl]; exact .of r1 e1 go1
    | false => rw [if_neg (by simp)]; exact .of r1 e1 go1
theorem pt_ifExp {t a b : Expr} {pos : Pos} {tt ta tb : TT} (ht : PT X t tt) (ha : PT X a ta) (hb : PT X b tb) : PT X (.IfExp t a b pos) fun σ H Q => tt σ H fun c H1 => if c = true then ta σ H1 Q else tb σ H1 Q := by
  refine ⟨fun pins s σ H Q I h => ?_⟩
  rw [PySem.isTrue]
  refine wpAny_bind (thn (ht.run pins s σ H _ I h) fun c s1 ⟨H1, I1, q⟩ => ?_)
  cases c with
  | true => exact ha.run pins s1 σ H1 Q I1 (by rw [if_pos rfl] at q; exact q)
  | false => exact hb.run pins s1 σ H1 Q I1 (by rw [if_neg (by simp)] at q; exact q)
theorem t_ife {t a b : Expr} {et ea eb : Ex} {pos : Pos} (ht : PT X t (TT' G W P cf et)) (ha : PT X a (TT' G W P cf ea)) (hb : PT X b (TT' G W P cf eb)) : PT X (.IfExp t a b pos) (TT' G W P cf (.ife et ea eb)) :=
  PT.imp (pt_ifExp ht ha hb) fun σ H Q ⟨Fz, μ, ρ, S, rs, re, go⟩ => by
    simp only [evE] at go
    refine At.weakT (Go.bt onBK rs re go) fun c H1 ⟨F1, μ1, S1, r1, e1, k1, go1⟩ => ?_
    cases c with
    | true => rw [if_pos rfl]; exact .of r1 e1 go1
    | false => rw [if_neg (by simp)]; exact .of r1 e1 go1
def boOf : Bool → BoolOp
  | true => .And
  | false => .Or
/-- and, or as values -/
theorem d_bo1 {a : Expr} {ea : Ex} {pos : Pos} (i : Bool) (ha : PE X a (TD G W P cf ea)) : PE X (.BoolOp (boOf i) [a] pos) (tD G W (evBo P cf i (.cons ea .nil))) :=
  PE.imp (pe_one ha) fun σ H Q ⟨Fz, μ, ρ, S, rs, re, go⟩ => ⟨Fz, μ, ρ, S, rs, re, by simp only [evBo] at go; exact go⟩
theorem boBK {i : Bool} {k : Sto → Res D} : ∀ (d : D) (S : Sto), (∀ b, d ≠ .bl b) → boB i k d S = .stk := fun d S h => by
  unfold boB
  cases i <;> simp [onBK d S h]
theorem d_bo2 {a b : Expr} {rest : List Expr} {ea eb : Ex} {er : Es} {pos : Pos} (i : Bool) (ha : PE X a (TD G W P cf ea)) (hb : PE X (.BoolOp (boOf i) (b :: rest) pos) (tD G W (evBo P cf i (.cons eb er)))) :
    PE X (.BoolOp (boOf i) (a :: b :: rest) pos) (tD G W (evBo P cf i (.cons ea (.cons eb er)))) := by
  cases i with
  | true =>
    refine PE.imp (pe_and ha hb) fun σ H Q ⟨Fz, μ, ρ, S, rs, re, go⟩ => ?_
    simp only [evBo] at go
    refine At.weak (Go.b1 rs re go) fun x H1 ⟨F1, μ1, S1, d, r1, e1, k1, rd, go1⟩ => ?_
    cases d <;> first | exact go1.elim | skip
    rename_i c
    have ex : x = .bl c := by simpa only [Rep] using rd
    refine ⟨c, ex, ?_⟩
    cases c with
    | true => rw [if_pos rfl]; exact .of r1 e1 go1
    | false => rw [if_neg (by simp)]; exact go1.now r1 _ (by simp only [Rep])
  | false =>
    refine PE.imp (pe_or ha hb) fun σ H Q ⟨Fz, μ, ρ, S, rs, re, go⟩ => ?_
    simp only [evBo] at go
    refine At.weak (Go.b1 rs re go) fun x H1 ⟨F1, μ1, S1, d, r1, e1, k1, rd, go1⟩ => ?_
    cases d <;> first | exact go1.elim | skip
    rename_i c
    have ex : x = .bl c := by simpa only [Rep] using rd
    refine ⟨c, ex, ?_⟩
    cases c with
    | true => rw [if_pos rfl]; exact go1.now r1 _ (by simp only [Rep])
    | false => rw [if_neg (by simp)]; exact .of r1 e1 go1
/-- .. as tests -/
theorem t_bo1 {a : Expr} {ea : Ex} {pos : Pos} (i : Bool) (ha : PT X a (TT' G W P cf ea)) : PW X (.BoolOp (boOf i) [a] pos) (tT G W (evBo P cf i (.cons ea .nil))) := by
  have w : ∀ σ H Q, tT G W (evBo P cf i (.cons ea .nil)) σ H Q → TT' G W P cf ea σ H Q := fun σ H Q ⟨Fz, μ, ρ, S, rs, re, go⟩ => ⟨Fz, μ, ρ, S, rs, re, by simp only [evBo] at go; exact go⟩
  cases i with
  | true => exact ⟨fun wh p s σ H Q I h => (pw_and1 ha).run wh p s σ H Q I (w _ _ _ h)⟩
  | false => exact ⟨fun wh p s σ H Q I h => (pw_or1 ha).run wh p s σ H Q I (w _ _ _ h)⟩
theorem t_bo2 {a b : Expr} {rest : List Expr} {ea eb : Ex} {er : Es} {pos : Pos} (i : Bool) (ha : PT X a (TT' G W P cf ea)) (hb : PW X (.BoolOp (boOf i) (b :: rest) pos) (tT G W (evBo P cf i (.cons eb er)))) :
    PW X (.BoolOp (boOf i) (a :: b :: rest) pos) (tT G W (evBo P cf i (.cons ea (.cons eb er)))) := by
  cases i with
  | true =>
    refine ⟨fun wh p s σ H Q I h => (pw_and ha hb).run wh p s σ H Q I ?_⟩
    obtain ⟨Fz, μ, ρ, S, rs, re, go⟩ := h
    simp only [evBo] at go
    refine At.weakT (Go.bt boBK rs re go) fun c H1 ⟨F1, μ1, S1, r1, e1, k1, go1⟩ => ?_
    cases c with
    | true => rw [if_pos rfl]; exact .of r1 e1 go1
    | false =>
      rw [if_neg (by simp)]
      obtain ⟨c, ec, q⟩ := go1.now r1
      cases ec
      exact q
  | false =>
    refine ⟨fun wh p s σ H Q I h => (pw_or ha hb).run wh p s σ H Q I ?_⟩
    obtain ⟨Fz, μ, ρ, S, rs, re, go⟩ := h
    simp only [evBo] at go
    refine At.weakT (Go.bt boBK rs re go) fun c H1 ⟨F1, μ1, S1, r1, e1, k1, go1⟩ => ?_
    cases c with
    | true =>
      rw [if_pos rfl]
      obtain ⟨c, ec, q⟩ := go1.now r1
      cases ec
      exact q
    | false => rw [if_neg (by simp)]; exact .of r1 e1 go1
end
end QF
end

section
set_option maxHeartbeats 2000000
/-! QF9: displays, places, slices, calls of built-ins. -/
namespace QF
open PySem L2
variable {G : Gi} {W : WX} {X : Cx} {P : Prg} {cf : Nat → List D → Sto → Res D}

theorem At.weakL {es : Es} {σ : L2.St} {H : Hp} {Q Q' : List V → Hp → Prop} (h : TDs G W P cf es σ H Q) (w : ∀ v H1, Q v H1 → Q' v H1) : TDs G W P cf es σ H Q' := by
  obtain ⟨Fz, μ, ρ, S, rs, re, go⟩ := h
  refine ⟨Fz, μ, ρ, S, rs, re, ?_⟩
  cases e1 : evEs P cf es ρ S with
  | ok a S' => rw [e1] at go; exact fun F2 μ2 H2 x r v rv => w v H2 (go F2 μ2 H2 x r v rv)
  | exc c fs S' => rw [e1] at go; exact go
  | stk => rw [e1] at go; exact go
theorem da_nil : PA X [] (TDs G W P cf .nil) :=
  PA.imp pa_nil fun σ H Q ⟨Fz, μ, ρ, S, rs, re, go⟩ => by
    simp only [evEs] at go
    exact go.now rs [] (by simp only [Reps])
theorem da_cons {e : Expr} {es : List Expr} {ee : Ex} {ees : Es} (he : PE X e (TD G W P cf ee)) (hr : PA X es (TDs G W P cf ees)) (hs : starEach (e :: es) X.env = (false, eval e X.env) :: starEach es X.env) :
    PA X (e :: es) (TDs G W P cf (.cons ee ees)) :=
  PA.imp (pa_cons he hr hs) fun σ H Q ⟨Fz, μ, ρ, S, rs, re, go⟩ => by
    simp only [evEs] at go
    refine At.weak (Go.b1 rs re go) fun x H1 ⟨F1, μ1, S1, d, r1, e1, k1, rd, go1⟩ => ?_
    refine At.weakL (Go.bs r1 e1 go1) fun xs H2 ⟨F2, μ2, S2, ds, r2, e2, k2, rds, go2⟩ => ?_
    exact go2.now r2 _ (by simp only [Reps]; exact ⟨x, xs, rfl, Rep.keep k2 d x rd, rds⟩)
theorem Go.few {σ : L2.St} {Fz : Addr → Prop} {μ : List Addr} {S : Sto} {H : Hp} {Q : VK} {ds : List D} {r : Res D} (go : Go G W σ (qV G Q) Fz μ S H (fewB ds r)) : ds.length ≤ sizeLine ∧ Go G W σ (qV G Q) Fz μ S H r := by
  unfold fewB at go
  split at go
  · rename_i h; exact ⟨h, go⟩
  · exact go.elim
theorem pe_tupN {es : List Expr} {t : TA} {k : Nat} {pos : Pos} (h : PA X es t) : PE X (.Tuple es k pos) fun σ H Q => t σ H fun xs H1 => xs.length ≤ sizeLine ∧ ∀ p H2, H1 p = none → NewT G H1 p xs H2 → Q (.ref p) H2 := by
  refine ⟨fun pins s σ H Q I hq => wpAny_Tuple_spliced (thn (h.run pos pins s σ H _ I hq) fun us s1 ⟨xs, H1, I1, r, z, q⟩ => ⟨by rw [← r.length]; exact z, ?_⟩)⟩
  obtain ⟨H2, n, hf, I2⟩ := laidT G I1 r z
  exact ⟨.ref s1.heap.objs.size, H2, I2, rfl, q _ H2 hf n⟩
theorem d_tup {es : List Expr} {ees : Es} {k : Nat} {pos : Pos} (h : PA X es (TDs G W P cf ees)) : PE X (.Tuple es k pos) (TD G W P cf (.tup ees)) :=
  PE.imp (pe_tupN (G := G) h) fun σ H Q ⟨Fz, μ, ρ, S, rs, re, go⟩ => by
    simp only [evE] at go
    refine At.weakL (Go.bs rs re go) fun xs H1 ⟨F1, μ1, S1, ds, r1, e1, k1, rds, go1⟩ => ?_
    obtain ⟨hl, g⟩ := go1.few
    exact ⟨by rw [← rds.length]; exact hl, fun p H2 hp hn => Gv.tup (show Gv G Q F1 μ1 S1 H1 (.tup ds) S1 from g) r1 rds hp hn⟩
theorem d_lst {es : List Expr} {ees : Es} {m : Bool} {pos : Pos} (h : PA X es (TDs G W P cf ees)) : PE X (.List es pos) (TD G W P cf (.lst m ees)) :=
  PE.imp (pe_lst h) fun σ H Q ⟨Fz, μ, ρ, S, rs, re, go⟩ => by
    simp only [evE] at go
    refine At.weakL (Go.bs rs re go) fun xs H1 ⟨F1, μ1, S1, ds, r1, e1, k1, rds, go1⟩ => ?_
    obtain ⟨hl, g⟩ := go1.few
    exact ⟨by rw [← rds.length]; exact hl, fun p hp => g.newL r1 rds hp⟩
theorem Go.onI {α : Type} {σ : L2.St} {Pq : (Addr → Prop) → List Addr → Hp → Sto → α → Prop} {Fz : Addr → Prop} {μ : List Addr} {S : Sto} {H : Hp} {k : Int → Sto → Res α} {d : D} (go : Go G W σ Pq Fz μ S H (onI k d S)) :
    ∃ i, d = .int i ∧ Go G W σ Pq Fz μ S H (k i S) := by
  unfold QF.onI at go
  cases d <;> first | exact go.elim | exact ⟨_, rfl, go⟩
theorem Go.onO {α β : Type} {σ : L2.St} {Pq : (Addr → Prop) → List Addr → Hp → Sto → α → Prop} {Fz : Addr → Prop} {μ : List Addr} {S : Sto} {H : Hp} {k : β → Sto → Res α} {o : Option β} (go : Go G W σ Pq Fz μ S H (onO o k S)) :
    ∃ b, o = some b ∧ Go G W σ Pq Fz μ S H (k b S) := by
  unfold QF.onO at go
  cases o with
  | none => exact go.elim
  | some b => exact ⟨b, rfl, go⟩
theorem d_neg {a : Expr} {ea : Ex} {pos : Pos} (ha : PE X a (TD G W P cf ea)) : PE X (.UnaryOp .USub a pos) (TD G W P cf (.neg ea)) :=
  PE.imp (pe_un un_neg ha) fun σ H Q ⟨Fz, μ, ρ, S, rs, re, go⟩ => by
    simp only [evE] at go
    refine At.weak (Go.b1 rs re go) fun x H1 ⟨F1, μ1, S1, d, r1, e1, k1, rd, go1⟩ => ?_
    obtain ⟨i, rfl, g⟩ := go1.onI
    exact ⟨i, by simpa only [Rep] using rd, g.now r1 _ (by simp only [Rep])⟩
/-! ### a place -/
/-- a value read, a function of it -/
theorem Go.op1 {σ : L2.St} {Fz : Addr → Prop} {μ : List Addr} {S : Sto} {H : Hp} {Q : VK} {f : D → Option D} {d : D} (go : Go G W σ (qV G Q) Fz μ S H (op1 f d S)) : ∃ u z, drf S d = some u ∧ f u = some z ∧ Gv G Q Fz μ S H z S := by
  unfold QF.op1 at go
  cases h1 : drf S d with
  | none => rw [h1] at go; exact go.elim
  | some u =>
    rw [h1] at go
    obtain ⟨z, hz, g⟩ := Go.opt go
    exact ⟨u, z, rfl, hz, g⟩
theorem ixI_eq (n : Nat) (i : Int) : ixI n i = ixN n i := rfl
theorem atD_reps {Fz : Addr → Prop} {μ : List Addr} {H : Hp} {ds : List D} {vs : List V} {i : Int} {d : D} (h : Reps G Fz μ H ds vs) (e : atD ds i = some d) : ∃ v, atI vs i = some v ∧ Rep G Fz μ H d v := by
  unfold atD at e
  unfold atI
  rw [← h.length, ← ixI_eq]
  cases hi : ixI ds.length i with
  | none => rw [hi] at e; cases e
  | some j =>
    rw [hi] at e
    exact h.get e
def rIdx (G : Gi) : R2 := fun x y H Q => ∃ W σ Fz μ S d e, RepS G Fz μ H S ∧ Rep G Fz μ H d x ∧ Rep G Fz μ H e y ∧ Go G W σ (qV G Q) Fz μ S H (idx2 d e S)
section
open PySem.Spec PyProof.Rows
theorem ix_dict (hu : X.A.units + 1 < cLine) : IxR X (fun x y H Q => ∃ a v, x = .ref a ∧ DGet H a y (some v) ∧ Q v H) := by
  intro value slice pins s σ H x y v u Q I rx ry h hs
  obtain ⟨a, z, rfl, dg, q⟩ := h
  cases rx
  have hT := dict_typeIs I dg
  have got : wpAny (model X.prog X.w) X.A (getItem (.ref a) u) (EP X pins σ Q) X.xe s := d_getItem hu I dg ry fun w' s' I' rw' => ⟨z, H, I', rw', q⟩
  unfold subscriptTail
  refine wpAny_bind ?_
  rw [getitemInPython_of_ne hT.not_modules]
  refine wpAny_bind (wpAny_specialOf hT PySem.F.slot_dict_getitem.lookup ?_)
  have fin : wpAny (model X.prog X.w) X.A (subscripted slice false (.ref a) u) (fun r s3 => wpAny (model X.prog X.w) X.A (letTemporaryGo value (.ref a) r >>= fun _ => pure r) (EP X pins σ Q) X.xe s3) X.xe s := by
    rw [hs]
    exact wpAny_operating (wpAny_mono got (fun r s3 h3 => wpAny_bind (wpAny_letTemporaryGo (wpAny_pure h3))) fun _ _ x => x)
  first
    | exact wpAny_pure (wpAny_bind fin)
    | exact wpAny_bind (wpAny_pure (wpAny_bind fin))
    | exact wpAny_bind fin
end
theorem atI_map {α β : Type} (f : α → β) (xs : List α) (i : Int) : atI (xs.map f) i = (atI xs i).map f := by
  unfold atI
  rw [List.length_map]
  cases ixN xs.length i with
  | none => rfl
  | some j => simp
theorem ix_any (hK : X.K = G.K) (hkt : ∀ d ∈ G.kt, keyOk true d = false) (hu : X.A.units + 1 < cLine) : IxR X (rIdx G) := by
  intro value slice pins s σ H x y v u Q I rx ry h hs
  obtain ⟨W, σ', Fz, μ, S, d, e, rs, rd, re, go⟩ := h
  unfold idx2 at go
  obtain ⟨u1, z, h1, h2, g⟩ := Go.op1 go
  have v1 := vw_of rs rd h1
  cases u1 <;> simp only [idxD] at h2 <;> try contradiction
  · cases e <;> simp only [idxD] at h2 <;> try contradiction
    rename_i ii
    split at h2
    · rename_i hl
      simp only [Option.map_eq_some_iff] at h2
      obtain ⟨c, hc, rfl⟩ := h2
      have e2 : y = .int ii := by simp only [Rep] at re; exact re
      have e1 := str_v v1
      rw [e1] at rx; rw [e2] at ry
      exact ix_str value slice pins s σ H _ _ v u Q I rx ry ⟨_, _, c, rfl, rfl, by rw [txt_length]; exact hl, hc, g.str rs⟩ hs
    · cases h2
  · cases e <;> simp only [idxD] at h2 <;> try contradiction
    rename_i ii
    have e2 : y = .int ii := by simp only [Rep] at re; exact re
    rw [e2] at ry
    simp only [Vw, Rep] at v1
    obtain ⟨a, vs, rfl, ha, ra⟩ := v1
    obtain ⟨w, hw, rw'⟩ := atD_reps ra h2
    exact ix_tup value slice pins s σ H _ _ v u Q I rx ry ⟨a, vs, _, w, rfl, rfl, hK ▸ ha.sqT, hw, g.at rs rw'⟩ hs
  · cases e <;> simp only [idxD] at h2 <;> try contradiction
    rename_i ii
    have e2 : y = .int ii := by simp only [Rep] at re; exact re
    rw [e2] at ry
    simp only [Vw] at v1
    obtain ⟨a, vs, rfl, ha, ra⟩ := v1
    obtain ⟨w, hw, rw'⟩ := atD_reps ra h2
    exact ix_list value slice pins s σ H _ _ v u Q I rx ry ⟨a, vs, _, w, rfl, rfl, SqL.of ha, hw, g.at rs rw'⟩ hs
  · split at h2
    · rename_i ho
      obtain ⟨a, o, rfl, dg, hd, _⟩ := vw_get hkt v1 ho re
      obtain ⟨w, rfl, rw'⟩ := hd _ h2
      exact ix_dict hu value slice pins s σ H _ _ v u Q I rx ry ⟨a, w, rfl, dg, g.at rs rw'⟩ hs
    · cases h2
theorem d_idx {a b : Expr} {ea eb : Ex} {pos : Pos} (hK : X.K = G.K) (hkt : ∀ d ∈ G.kt, keyOk true d = false) (hu : X.A.units + 1 < cLine) (hs : PlainIx b) (ha : PE X a (TD G W P cf ea)) (hb : PE X b (TD G W P cf eb)) :
    PE X (.Subscript a b pos) (TD G W P cf (.idx ea eb)) :=
  PE.imp (pe_ix (ix_any hK hkt hu) ha hb hs) fun σ H Q ⟨Fz, μ, ρ, S, rs, re, go⟩ => by
    simp only [evE] at go
    refine At.weak (Go.b1 rs re go) fun x H1 ⟨F1, μ1, S1, d, r1, e1, k1, rd, go1⟩ => ?_
    refine At.weak (Go.b1 r1 e1 go1) fun y H2 ⟨F2, μ2, S2, e, r2, e2, k2, rde, go2⟩ => ?_
    exact ⟨W, σ, F2, μ2, S2, d, e, r2, Rep.keep k2 d x rd, rde, go2⟩
/-! ### slices -/
def tOI (G : Gi) (W : WX) (P : Prg) (cf : Nat → List D → Sto → Res D) (e : Oe) : TO := fun σ H Q => At G W (evO P cf e) (fun _ _ H _ o => Q o H) σ H
theorem PO.imp {e : Option Expr} {t t' : TO} (h : PO X e t) (w : ∀ σ H Q, t' σ H Q → t σ H Q) : PO X e t' := ⟨fun p s σ H Q I x => h.run p s σ H Q I (w _ _ _ x)⟩
theorem do_no : PO X none (tOI G W P cf .no) := PO.imp po_none fun σ H Q ⟨Fz, μ, ρ, S, rs, re, go⟩ => by
  simp only [evO] at go
  exact go.now rs
theorem do_yes {e : Expr} {ee : Ex} (h : PE X e (TD G W P cf ee)) : PO X (some e) (tOI G W P cf (.yes ee)) := PO.imp (po_some h) fun σ H Q ⟨Fz, μ, ρ, S, rs, re, go⟩ => by
  simp only [evO] at go
  refine At.weak (Go.b1 rs re go) fun x H1 ⟨F1, μ1, S1, d, r1, e1, k1, rd, go1⟩ => ?_
  obtain ⟨i, rfl, g⟩ := go1.onI
  exact ⟨i, by simpa only [Rep] using rd, g.now r1⟩
theorem Go.bO {α : Type} {σ : L2.St} {H : Hp} {Pq : (Addr → Prop) → List Addr → Hp → Sto → α → Prop} {e : Oe} {k : Option Int → Sto → Res α} {Fz : Addr → Prop} {μ : List Addr} {S : Sto} {ρ : Env} (rs : RepS G Fz μ H S) (re : RepE G Fz μ H ρ σ) (go : Go G W σ Pq Fz μ S H ((evO P cf e ρ S).bind k)) :
    tOI G W P cf e σ H fun o H1 => ∃ F1 μ1 S1, RepS G F1 μ1 H1 S1 ∧ RepE G F1 μ1 H1 ρ σ ∧ Keep Fz F1 μ μ1 H H1 ∧ Go G W σ Pq F1 μ1 S1 H1 (k o S1) :=
  ⟨Fz, μ, ρ, S, rs, re, go.bind fun a S' F' μ' H' e r' g' => ⟨F', μ', S', r', re.keep (e.keep rs), e.keep rs, g'⟩⟩
theorem At.weakO {e : Oe} {σ : L2.St} {H : Hp} {Q Q' : Option Int → Hp → Prop} (h : tOI G W P cf e σ H Q) (w : ∀ v H1, Q v H1 → Q' v H1) : tOI G W P cf e σ H Q' := by
  obtain ⟨Fz, μ, ρ, S, rs, re, go⟩ := h
  refine ⟨Fz, μ, ρ, S, rs, re, ?_⟩
  cases e1 : evO P cf e ρ S with
  | ok a S' => rw [e1] at go; exact fun F2 μ2 H2 x r => w a H2 (go F2 μ2 H2 x r)
  | exc c fs S' => rw [e1] at go; exact go
  | stk => rw [e1] at go; exact go
def rSlc (G : Gi) (m : Bool) : V → Option Int → Option Int → Hp → VK → Prop := fun x lo hi H Q => ∃ W σ Fz μ S d, RepS G Fz μ H S ∧ Rep G Fz μ H d x ∧ Go G W σ (qV G Q) Fz μ S H (sliceK m lo hi d S)
theorem sIx_eq (n d : Nat) (o : Option Int) : sIx n d o = HT.sIx n d o := by cases o <;> rfl
theorem cut_reps {Fz : Addr → Prop} {μ : List Addr} {H : Hp} {ds : List D} {vs : List V} (h : Reps G Fz μ H ds vs) (lo hi : Option Int) : Reps G Fz μ H (cut ds lo hi) (cutV vs lo hi) := by
  unfold cut cutV
  rw [← h.length, sIx_eq, sIx_eq]
  exact (h.drop _).take _
theorem cut_all {α : Type} {xs : List α} {lo hi : Option Int} (h : HT.sIx xs.length 0 lo = 0 ∧ HT.sIx xs.length xs.length hi = xs.length) : cut xs lo hi = xs := by
  unfold cut
  rw [sIx_eq, sIx_eq, h.1, h.2]
  simp
theorem sl_tupN : SlR X fun x lo hi H Q => ∃ a xs, x = V.ref a ∧ SqT X.K H a xs ∧ (HT.sIx xs.length 0 lo = 0 ∧ HT.sIx xs.length xs.length hi = xs.length → Q (.ref a) H) ∧
    (¬ (HT.sIx xs.length 0 lo = 0 ∧ HT.sIx xs.length xs.length hi = xs.length) → ∀ p H2, H p = none → NewT G H p (cutV xs lo hi) H2 → Q (.ref p) H2) := by
  intro pins s σ H x v vl vu lo hi sl Q I rx hs pl pu ⟨a, xs, ex, hx, q1, q2⟩
  by_cases hw : HT.sIx xs.length 0 lo = 0 ∧ HT.sIx xs.length xs.length hi = xs.length
  · exact sl_tupA pins s σ H x v vl vu lo hi sl Q I rx hs pl pu ⟨a, xs, ex, hx, q1, fun z => absurd hw z⟩
  · subst ex
    cases rx
    obtain ⟨its, r, ht, hz⟩ := I.tuple hx
    have hlen : its.toArray.size = xs.length := by rw [List.size_toArray]; exact r.length.symm
    refine ⟨"tuple", _, PyProof.Rows.slot_tuple_getitem.lookup, ht.typeIs, HT.getItem_tuple_cut ht hs pl pu (by rw [hlen]; exact hw) ?_ (by rw [hlen]; exact hz)⟩
    rw [hlen]
    obtain ⟨H2, n, hf, I2⟩ := laidT G I ((r.drop (HT.sIx xs.length 0 lo)).take (HT.sIx xs.length xs.length hi - HT.sIx xs.length 0 lo)) (Nat.le_trans (cutV_length xs lo hi) hz)
    exact ⟨.ref s.heap.objs.size, H2, I2, rfl, q2 hw _ H2 hf n⟩
theorem sl_any (hK : X.K = G.K) (m : Bool) : SlR X (rSlc G m) := by
  intro pins s σ H x v vl vu lo hi sl Q I rx hs pl pu h
  obtain ⟨W, σ', Fz, μ, S, d, rs, rd, go⟩ := h
  unfold sliceK at go
  cases h1 : drf S d with
  | none => rw [h1] at go; exact go.elim
  | some u =>
    rw [h1] at go
    have v1 := vw_of rs rd h1
    cases u <;> try exact go.elim
    · rename_i t
      dsimp only at go
      split at go
      · rename_i hl
        have e1 := str_v v1
        rw [e1] at rx
        refine sl_str pins s σ H _ v vl vu lo hi sl Q I rx hs pl pu ⟨_, rfl, by rw [txt_length]; exact hl, ?_⟩
        have g : Gv G Q Fz μ S H (.str (cut t lo hi)) S := go
        have q := g.str rs
        have e2 : txt (cut t lo hi) = cutS (txt t) lo hi := by
          unfold cut cutS
          rw [sIx_eq, sIx_eq, txt_length]
        rw [← e2]
        exact q
      · exact go.elim
    · simp only [Vw, Rep] at v1
      obtain ⟨a, vs, rfl, ha, ra⟩ := v1
      refine sl_tupN (G := G) pins s σ H _ v vl vu lo hi sl Q I rx hs pl pu ⟨a, vs, rfl, hK ▸ ha.sqT, fun hw => ?_, fun hw p H2 hp hn => ?_⟩
      · rw [← ra.length] at hw
        have g : Gv G Q Fz μ S H (.tup (cut _ lo hi)) S := go
        rw [cut_all hw] at g
        exact g.at rs (by simp only [Rep]; exact ⟨a, vs, rfl, ha, ra⟩)
      · exact Gv.tup go rs (cut_reps ra lo hi) hp hn
    · simp only [Vw] at v1
      obtain ⟨a, vs, rfl, ha, ra⟩ := v1
      exact sl_list pins s σ H _ v vl vu lo hi sl Q I rx hs pl pu ⟨a, vs, rfl, SqL.of ha, fun p hp => Go.newL go rs (cut_reps ra lo hi) hp⟩
theorem d_slice {a : Expr} {ea : Ex} {lo hi : Option Expr} {l h : Oe} {m : Bool} {pos p2 : Pos} (hK : X.K = G.K) (ha : PE X a (TD G W P cf ea)) (hl : PO X lo (tOI G W P cf l)) (hh : PO X hi (tOI G W P cf h)) :
    PE X (.Subscript a (.Slice lo hi none p2) pos) (TD G W P cf (.slice m ea l h)) :=
  PE.imp (pe_slice (sl_any hK m) ha hl hh) fun σ H Q ⟨Fz, μ, ρ, S, rs, re, go⟩ => by
    simp only [evE] at go
    refine At.weak (Go.b1 rs re go) fun x H1 ⟨F1, μ1, S1, d, r1, e1, k1, rd, go1⟩ => ?_
    refine At.weakO (Go.bO r1 e1 go1) fun o1 H2 ⟨F2, μ2, S2, r2, e2, k2, go2⟩ => ?_
    refine At.weakO (Go.bO r2 e2 go2) fun o2 H3 ⟨F3, μ3, S3, r3, e3, k3, go3⟩ => ?_
    exact ⟨W, σ, F3, μ3, S3, d, r3, Rep.keep k3 d x (Rep.keep k2 d x rd), go3⟩
theorem d_rev {a : Expr} {ea : Ex} {m : Bool} {k : Nat} {p1 p2 p3 pos : Pos} (hK : X.K = G.K) (ha : PE X a (TD G W P cf ea)) :
    PE X (.Subscript a (.Slice none none (some (.UnaryOp .USub (.Constant (.int 1) k p1) p2)) p3) pos) (TD G W P cf (.rev m ea)) :=
  PE.imp (pe_revL ha) fun σ H Q ⟨Fz, μ, ρ, S, rs, re, go⟩ => by
    simp only [evE] at go
    refine At.weak (Go.b1 rs re go) fun x H1 ⟨F1, μ1, S1, d, r1, e1, k1, rd, go1⟩ => ?_
    unfold revK at go1
    cases h1 : drf S1 d with
    | none => rw [h1] at go1; exact go1.elim
    | some u =>
      rw [h1] at go1
      have v1 := vw_of r1 rd h1
      cases u <;> try exact go1.elim
      simp only [Vw] at v1
      obtain ⟨a, vs, rfl, ha, ra⟩ := v1
      exact ⟨a, vs, rfl, SqL.of ha, fun p hp => Go.newL go1 r1 ra.reverse hp⟩
/-! ### freeze -/
theorem Go.freeze {σ : L2.St} {Fz : Addr → Prop} {μ : List Addr} {S : Sto} {H : Hp} {Q : VK} {d : D} {v : V} (go : Go G W σ (qV G Q) Fz μ S H (freezeD d S)) (rs : RepS G Fz μ H S) (rd : Rep G Fz μ H d v) : Q v H := by
  unfold freezeD at go
  cases d <;> try exact go.elim
  rename_i n
  simp only [Rep] at rd
  obtain ⟨a, rfl, ha⟩ := rd
  dsimp only at go
  cases h : S[n]? with
  | none => rw [h] at go; exact go.elim
  | some o =>
    rw [h] at go
    have ro := rs.obj n o a h ha
    cases o with
    | dead => exact go.elim
    | ins c fs => exact go.elim
    | lst ds =>
      have g : Gv G Q Fz μ S H (.lst ds) (S.set n .dead) := go
      obtain ⟨vs, e1, e2⟩ := ro
      exact g (orF Fz a) μ H (ext_dead h (by simp) ha) (reps_dead rs h (by simp) ha) _ (by simp only [Rep]; exact ⟨a, vs, rfl, .inr rfl, e1, Reps.keep keep_or ds vs e2⟩)
    | dic t ks ws =>
      have g : Gv G Q Fz μ S H (.dic t ks ws) (S.set n .dead) := go
      obtain ⟨vs, e1, e2⟩ := ro
      exact g (orF Fz a) μ H (ext_dead h (by simp) ha) (reps_dead rs h (by simp) ha) _ (by simp only [Rep]; exact ⟨a, vs, rfl, .inr rfl, Reps.keep keep_or ws vs e1, e2⟩)
theorem d_freeze {a : Expr} {ea : Ex} (ha : PE X a (TD G W P cf ea)) : PE X a (TD G W P cf (.freeze ea)) :=
  PE.imp ha fun σ H Q ⟨Fz, μ, ρ, S, rs, re, go⟩ => by
    simp only [evE] at go
    exact At.weak (Go.b1 rs re go) fun x H1 ⟨F1, μ1, S1, d, r1, e1, k1, rd, go1⟩ => go1.freeze r1 rd
/-! ### {} -/
theorem d_dict0 {t : Bool} {pos : Pos} (ht : t = true → G.xt = false) : PE X (.Dict [] [] pos) (TD G W P cf (.dict0 t)) := by
  have key : ∀ {Q : VK} {σ : L2.St} {H : Hp} {u : HO} {Fz : Addr → Prop} {μ : List Addr} {S : Sto} (p : Addr), RepS G Fz μ H S → H p = none → Go G W σ (qV G Q) Fz μ S H (evE P cf (.dict0 t) [] S) →
      RepO G Fz (μ ++ [p]) (upd H p u) p (.dic t [] []) → Q (.ref p) (upd H p u) := fun {Q σ H u Fz μ S} p rs hp go ro => by
    simp only [evE, newD] at go
    have g : Gv G Q Fz μ S H (.loc S.length) (S ++ [.dic t [] []]) := go
    refine g Fz (μ ++ [p]) _ (ext_loc rs hp) (reps_loc rs hp ro) _ ?_
    simp only [Rep]
    exact ⟨p, rfl, by rw [← rs.len]; simp⟩
  cases t with
  | false =>
    refine PE.imp pe_dnewK fun σ H Q ⟨Fz, μ, ρ, S, rs, re, go⟩ p hp => key p rs hp (by simpa only [evE] using go) ?_
    exact ⟨[], by simp [Reps], .inl ⟨rfl, [], rfl, rfl, upd_same⟩⟩
  | true =>
    refine PE.imp pe_dnewT fun σ H Q ⟨Fz, μ, ρ, S, rs, re, go⟩ p hp => key p rs hp (by simpa only [evE] using go) ?_
    exact ⟨[], by simp [Reps], .inr ⟨⟨rfl, ht rfl⟩, [], rfl, rfl, upd_same⟩⟩
end QF
end

section
set_option maxHeartbeats 2000000
/-! QF10: calls of built-ins. -/
namespace QF
open PySem L2
variable {G : Gi} {W : WX} {X : Cx} {P : Prg} {cf : Nat → List D → Sto → Res D}

/-- a call of a built-in, by the evaluator -/
def rBi (G : Gi) (b : Bi) (m : Bool) : List V → Hp → VK → Prop := fun xs H Q => ∃ W σ Fz μ S ds, RepS G Fz μ H S ∧ Reps G Fz μ H ds xs ∧ Go G W σ (qV G Q) Fz μ S H (evBi b m ds S)
theorem reps_one {Fz : Addr → Prop} {μ : List Addr} {H : Hp} {d : D} {xs : List V} (h : Reps G Fz μ H [d] xs) : ∃ x, xs = [x] ∧ Rep G Fz μ H d x := by
  simp only [Reps] at h
  obtain ⟨v, r, rfl, h1, rfl⟩ := h
  exact ⟨v, rfl, h1⟩
theorem reps_two {Fz : Addr → Prop} {μ : List Addr} {H : Hp} {d e : D} {xs : List V} (h : Reps G Fz μ H [d, e] xs) : ∃ x y, xs = [x, y] ∧ Rep G Fz μ H d x ∧ Rep G Fz μ H e y := by
  simp only [Reps] at h
  obtain ⟨v, r, rfl, h1, w, r', rfl, h2, rfl⟩ := h
  exact ⟨v, w, rfl, h1, h2⟩
theorem drfs_one {S : Sto} {ds : List D} {u : D} (h : drfs S ds = some [u]) : ∃ d, ds = [d] ∧ drf S d = some u := by
  cases ds with
  | nil => simp [drfs] at h
  | cons d ds =>
    simp only [drfs, Option.bind_eq_some_iff] at h
    obtain ⟨a, h1, as, h2, h3⟩ := h
    cases h3
    cases ds with
    | nil => exact ⟨d, rfl, h1⟩
    | cons e es =>
      simp only [drfs, Option.bind_eq_some_iff] at h2
      obtain ⟨_, _, _, _, h4⟩ := h2
      cases h4
theorem drfs_two {S : Sto} {ds : List D} {u v : D} (h : drfs S ds = some [u, v]) : ∃ d e, ds = [d, e] ∧ drf S d = some u ∧ drf S e = some v := by
  cases ds with
  | nil => simp [drfs] at h
  | cons d ds =>
    simp only [drfs, Option.bind_eq_some_iff] at h
    obtain ⟨a, h1, as, h2, h3⟩ := h
    cases h3
    obtain ⟨e, rfl, h4⟩ := drfs_one h2
    exact ⟨d, e, rfl, h1, h4⟩
/-- a simple built-in's call: its arguments as they are read, its value -/
theorem bi_val {b : Bi} {m : Bool} (hb : b = .len ∨ b = .abs ∨ b = .int ∨ b = .str ∨ b = .tuple ∨ b = .sum ∨ b = .max ∨ b = .min ∨ b = .max2 ∨ b = .min2 ∨ b = .any ∨ b = .all ∨ b = .lenSet) {W : WX} {σ : L2.St} {Fz : Addr → Prop} {μ : List Addr} {S : Sto} {H : Hp} {Q : VK} {ds : List D}
    (go : Go G W σ (qV G Q) Fz μ S H (evBi b m ds S)) : ∃ as z, drfs S ds = some as ∧ biD b as = some z ∧ Gv G Q Fz μ S H z S := by
  unfold evBi at go
  cases h : drfs S ds with
  | none => rw [h] at go; exact go.elim
  | some as =>
    rw [h] at go
    have go' : Go G W σ (qV G Q) Fz μ S H (opt (biD b as) S) := by
      rcases hb with rfl | rfl | rfl | rfl | rfl | rfl | rfl | rfl | rfl | rfl | rfl | rfl | rfl <;> exact go
    obtain ⟨z, hz, g⟩ := Go.opt go'
    exact ⟨as, z, rfl, hz, g⟩
theorem ints_of : ∀ {ds : List D} {is : List Int} {vs : List V} {Fz : Addr → Prop} {μ : List Addr} {H : Hp}, allOf intOf ds = some is → Reps G Fz μ H ds vs → vs = is.map V.int
  | [], is, vs, _, _, _, h, r => by
    simp only [allOf] at h
    cases h
    simp only [Reps] at r
    exact r
  | d :: ds, is, vs, _, _, _, h, r => by
    simp only [allOf, Option.bind_eq_some_iff] at h
    obtain ⟨i, h1, is', h2, h3⟩ := h
    cases h3
    simp only [Reps] at r
    obtain ⟨v, w, rfl, r1, r2⟩ := r
    cases d <;> simp only [intOf] at h1 <;> try contradiction
    cases h1
    simp only [Rep] at r1
    rw [r1, ints_of h2 r2]
    rfl
theorem bools_of : ∀ {ds : List D} {is : List Bool} {vs : List V} {Fz : Addr → Prop} {μ : List Addr} {H : Hp}, allOf boolOf ds = some is → Reps G Fz μ H ds vs → vs = is.map V.bl
  | [], is, vs, _, _, _, h, r => by
    simp only [allOf] at h
    cases h
    simp only [Reps] at r
    exact r
  | d :: ds, is, vs, _, _, _, h, r => by
    simp only [allOf, Option.bind_eq_some_iff] at h
    obtain ⟨i, h1, is', h2, h3⟩ := h
    cases h3
    simp only [Reps] at r
    obtain ⟨v, w, rfl, r1, r2⟩ := r
    cases d <;> simp only [boolOf] at h1 <;> try contradiction
    cases h1
    simp only [Rep] at r1
    rw [r1, bools_of h2 r2]
    rfl
theorem foldMax_spec : ∀ (is : List Int) (m : Int), (foldMax m is = m ∨ foldMax m is ∈ is) ∧ m ≤ foldMax m is ∧ ∀ i ∈ is, i ≤ foldMax m is
  | [], m => ⟨.inl rfl, Int.le_refl _, fun i h => by cases h⟩
  | i :: is, m => by
    simp only [foldMax]
    obtain ⟨h1, h2, h3⟩ := foldMax_spec is (if i > m then i else m)
    by_cases h : i > m
    · rw [if_pos h] at h1 h2 h3 ⊢
      refine ⟨.inr ?_, by omega, fun j hj => ?_⟩
      · rcases h1 with h1 | h1
        · rw [h1]; exact List.mem_cons_self
        · exact List.mem_cons_of_mem _ h1
      · rcases List.mem_cons.mp hj with rfl | hj
        · exact h2
        · exact h3 j hj
    · rw [if_neg h] at h1 h2 h3 ⊢
      refine ⟨?_, h2, fun j hj => ?_⟩
      · rcases h1 with h1 | h1
        · exact .inl h1
        · exact .inr (List.mem_cons_of_mem _ h1)
      · rcases List.mem_cons.mp hj with rfl | hj
        · omega
        · exact h3 j hj
theorem foldMin_spec : ∀ (is : List Int) (m : Int), (foldMin m is = m ∨ foldMin m is ∈ is) ∧ foldMin m is ≤ m ∧ ∀ i ∈ is, foldMin m is ≤ i
  | [], m => ⟨.inl rfl, Int.le_refl _, fun i h => by cases h⟩
  | i :: is, m => by
    simp only [foldMin]
    obtain ⟨h1, h2, h3⟩ := foldMin_spec is (if i < m then i else m)
    by_cases h : i < m
    · rw [if_pos h] at h1 h2 h3 ⊢
      refine ⟨.inr ?_, by omega, fun j hj => ?_⟩
      · rcases h1 with h1 | h1
        · rw [h1]; exact List.mem_cons_self
        · exact List.mem_cons_of_mem _ h1
      · rcases List.mem_cons.mp hj with rfl | hj
        · exact h2
        · exact h3 j hj
    · rw [if_neg h] at h1 h2 h3 ⊢
      refine ⟨?_, h2, fun j hj => ?_⟩
      · rcases h1 with h1 | h1
        · exact .inl h1
        · exact .inr (List.mem_cons_of_mem _ h1)
      · rcases List.mem_cons.mp hj with rfl | hj
        · omega
        · exact h3 j hj
/-- sum of a tuple of ints -/
theorem sum_tup {prog : Program} {w : World} {A : Around} {E : Value → Shared → Prop} {s : Shared} {l : Addr} {its : List Value} {ns : List Int} {Q : Value → Shared → Prop} (hh : A.handled = none) (hl : s.heap.IsTuple l its.toArray) (hi : PyProof.Rows.IntsAre its ns)
    (h : ∀ h' tk t', (∀ b o, s.heap.get? b = some o → h'.get? b = some o) → Q (.int ns.sum t') { s with heap := h', toks := tk }) : wpAny (model prog w) A (call (.builtin "sum") [.ref l]) Q E s := by
  obtain ⟨xs, e⟩ := hi.allInts.items
  have hn : numsOf (intItems xs).toList = ns := by rw [← e]; exact hi.numsOf
  rw [nums_intItems] at hn
  rw [e] at hl
  obtain ⟨ol, hol, _⟩ := id hl
  have hlt : l < s.heap.objs.size := Heap.lt_size hol
  refine call_sum_walkG (wpAny_pyIter_tuple hl ?_)
  refine ⟨s.heap.objs.size, [s.heap.objs.size, l], [s.heap.objs.size], _, _, _, numAt xs, rfl, Walks.tuple (A := A.in1) hh _ l (Nat.ne_of_lt hlt) (intItems xs), ⟨⟨_, Heap.get?_push_size _ rfl, rfl, rfl⟩, hl.at fun o e => Heap.get?_push_of_some _ e⟩, fun b hb => ?_, fun _ _ => intItems_at, fun h' tk t' hk => ?_⟩
  · rw [Heap.size_push]
    simp only [List.mem_cons, List.not_mem_nil, or_false] at hb
    rcases hb with rfl | rfl
    · exact Nat.lt_succ_self _
    · exact Nat.lt_succ_of_lt hlt
  · have q := h h' tk t' fun b o eb => hk b o (by simp only [List.mem_singleton]; exact Nat.ne_of_lt (Heap.lt_size eb)) (Heap.get?_push_of_some _ eb)
    rw [preSum_eq, List.take_of_length_le (by simp [intItems]), hn]
    exact q
theorem strI_eq (i : Int) : (toString i : Str) = txt (strI i) := by
  show Str.ofString (toString i) = _
  rw [Str.ofString_eq_toList]
  cases i with
  | ofNat n =>
    have e : (toString (Int.ofNat n)).toList = Nat.toDigits 10 n := by
      show (Nat.repr n).toList = _
      simp [Nat.repr]
    rw [e]
    have e2 : strI (Int.ofNat n) = digits n := by
      unfold strI
      rw [if_neg (by have := Int.natCast_nonneg n; show ¬ ((n : Int) < 0); omega)]
      rfl
    rw [e2]
    rfl
  | negSucc n =>
    have e : (toString (Int.negSucc n)).toList = '-' :: Nat.toDigits 10 (n + 1) := by
      show ("-" ++ Nat.repr (n + 1)).toList = _
      simp [Nat.repr]
    rw [e]
    have e2 : strI (Int.negSucc n) = 45 :: digits (n + 1) := by
      unfold strI
      rw [if_pos (by omega)]
      rfl
    rw [e2]
    rfl
theorem cb_len (hK : X.K = G.K) {m : Bool} : CallR X (.builtin "len") (rBi G .len m) := by
  intro pins s σ H xs us Q I r h
  obtain ⟨W, σ', Fz, μ, S, ds, rs, rd, go⟩ := h
  obtain ⟨as, z, h1, h2, g⟩ := bi_val (by simp) go
  have : ∃ u, as = [u] := by
    cases as with
    | nil => simp [biD] at h2
    | cons u r => cases r with
      | nil => exact ⟨u, rfl⟩
      | cons v r => simp [biD] at h2
  obtain ⟨u, rfl⟩ := this
  obtain ⟨d, rfl, hd⟩ := drfs_one h1
  obtain ⟨x, rfl, rx⟩ := reps_one rd
  have v1 := vw_of rs rx hd
  simp only [biD, Option.map_eq_some_iff] at h2
  obtain ⟨n, hn, rfl⟩ := h2
  have q := g.int rs
  cases u <;> simp only [lenD] at hn <;> try contradiction
  · split at hn
    · rename_i hl
      cases hn
      have e1 := str_v v1
      rw [e1] at r
      exact call_len_str pins s σ H _ us Q I r ⟨_, rfl, by rw [txt_length]; exact hl, by rw [txt_length]; exact q⟩
    · cases hn
  · cases hn
    simp only [Vw, Rep] at v1
    obtain ⟨a, vs, rfl, ha, ra⟩ := v1
    exact call_len_seq pins s σ H _ us Q I r ⟨a, vs, rfl, .inr (hK ▸ ha.sqT), by rw [← ra.length]; exact q⟩
  · cases hn
    simp only [Vw] at v1
    obtain ⟨a, vs, rfl, ha, ra⟩ := v1
    exact call_len_seq pins s σ H _ us Q I r ⟨a, vs, rfl, .inl (SqL.of ha), by rw [← ra.length]; exact q⟩
  · cases hn
    obtain ⟨a, vs, rfl, ra, hh⟩ := v1
    obtain ⟨u, rfl, ru⟩ := vals1 r
    cases ru
    rcases hh with ⟨rfl, kk, e1, e2, e3⟩ | ⟨⟨rfl, _⟩, kk, e1, e2, e3⟩
    · refine d_len I (.inl e3) fun t s' I' => ⟨.int _, H, I', ⟨t, rfl⟩, ?_⟩
      rw [List.length_zip, ← e2, Nat.min_self, allOf_length e1]
      exact q
    · refine call_len_dT pins s σ H _ _ Q I r ⟨a, _, rfl, e3, ?_⟩
      rw [List.length_zip, ← e2, Nat.min_self, allOf_length e1]
      exact q
theorem as_one {b : Bi} {as : List D} {z : D} (hb : b = .abs ∨ b = .int ∨ b = .str ∨ b = .tuple ∨ b = .sum ∨ b = .max ∨ b = .min ∨ b = .any ∨ b = .all) (h : biD b as = some z) : ∃ u, as = [u] := by
  cases as with
  | nil => rcases hb with rfl | rfl | rfl | rfl | rfl | rfl | rfl | rfl | rfl <;> simp [biD] at h
  | cons u r =>
    cases r with
    | nil => exact ⟨u, rfl⟩
    | cons v r => rcases hb with rfl | rfl | rfl | rfl | rfl | rfl | rfl | rfl | rfl <;> simp [biD] at h
theorem cb_abs {m : Bool} : CallR X (.builtin "abs") (rBi G .abs m) := by
  intro pins s σ H xs us Q I r h
  obtain ⟨W, σ', Fz, μ, S, ds, rs, rd, go⟩ := h
  obtain ⟨as, z, h1, h2, g⟩ := bi_val (by simp) go
  obtain ⟨u, rfl⟩ := as_one (by simp) h2
  obtain ⟨d, rfl, hd⟩ := drfs_one h1
  obtain ⟨x, rfl, rx⟩ := reps_one rd
  have v1 := vw_of rs rx hd
  cases u <;> simp only [biD] at h2 <;> try contradiction
  cases h2
  rw [int_v v1] at r
  exact call_abs pins s σ H _ us Q I r ⟨_, rfl, g.int rs⟩
theorem cb_int {m : Bool} : CallR X (.type "int") (rBi G .int m) := by
  intro pins s σ H xs us Q I r h
  obtain ⟨W, σ', Fz, μ, S, ds, rs, rd, go⟩ := h
  obtain ⟨as, z, h1, h2, g⟩ := bi_val (by simp) go
  obtain ⟨u, rfl⟩ := as_one (by simp) h2
  obtain ⟨d, rfl, hd⟩ := drfs_one h1
  obtain ⟨x, rfl, rx⟩ := reps_one rd
  have v1 := vw_of rs rx hd
  cases u <;> simp only [biD] at h2 <;> try contradiction
  cases h2
  rw [int_v v1] at r
  exact call_int1 pins s σ H _ us Q I r (.inl ⟨_, rfl, g.int rs⟩)
theorem cb_str {m : Bool} : CallR X (.type "str") (rBi G .str m) := by
  intro pins s σ H xs us Q I r h
  obtain ⟨W, σ', Fz, μ, S, ds, rs, rd, go⟩ := h
  obtain ⟨as, z, h1, h2, g⟩ := bi_val (by simp) go
  obtain ⟨u, rfl⟩ := as_one (by simp) h2
  obtain ⟨d, rfl, hd⟩ := drfs_one h1
  obtain ⟨x, rfl, rx⟩ := reps_one rd
  have v1 := vw_of rs rx hd
  cases u <;> simp only [biD] at h2 <;> try contradiction
  · split at h2
    · rename_i hl
      cases h2
      rw [int_v v1] at r
      refine call_str_int pins s σ H _ us Q I r ⟨_, rfl, hl, ?_⟩
      rw [strI_eq]
      exact g.str rs
    · cases h2
  · cases h2
    rw [str_v v1] at r
    exact SkE.call_str_str pins s σ H _ us Q I r ⟨_, rfl, g.str rs⟩
theorem call_tupleN : CallR X (.type "tuple") (fun xs H Q => ∃ p ys, xs = [V.ref p] ∧ SqL X.K H p ys ∧ ∀ l H2, H l = none → NewT G H l ys H2 → Q (.ref l) H2) := by
  intro pins s σ H xs us Q I r ⟨p, ys, ex, hq, q⟩
  subst ex
  obtain ⟨u, rfl, rx⟩ := vals1 r
  cases rx
  obtain ⟨its, r', pl, hz⟩ := I.list hq
  refine call_tuple_list pl.isList (fun h' kp => ?_) (by rw [List.size_toArray, ← r'.length]; exact hz)
  obtain ⟨H2, n, hf, I2⟩ := laidT G (I.kept (t' := s.toks) kp : Inv X pins σ H { s with heap := h' }) r' hz
  exact ⟨.ref h'.objs.size, H2, I2, rfl, q _ H2 hf n⟩
theorem cb_tuple (hK : X.K = G.K) {m : Bool} : CallR X (.type "tuple") (rBi G .tuple m) := by
  intro pins s σ H xs us Q I r h
  obtain ⟨W, σ', Fz, μ, S, ds, rs, rd, go⟩ := h
  obtain ⟨as, z, h1, h2, g⟩ := bi_val (by simp) go
  obtain ⟨u, rfl⟩ := as_one (by simp) h2
  obtain ⟨d, rfl, hd⟩ := drfs_one h1
  obtain ⟨x, rfl, rx⟩ := reps_one rd
  have v1 := vw_of rs rx hd
  cases u <;> simp only [biD] at h2 <;> try contradiction
  · cases h2
    have v2 := v1
    simp only [Vw, Rep] at v1
    obtain ⟨a, vs, rfl, ha, ra⟩ := v1
    exact call_tuple_of pins s σ H _ us Q I r ⟨a, vs, rfl, .inr ⟨hK ▸ ha.sqT, g.at rs v2⟩⟩
  · cases h2
    simp only [Vw] at v1
    obtain ⟨a, vs, rfl, ha, ra⟩ := v1
    exact call_tupleN (G := G) pins s σ H _ us Q I r ⟨a, vs, rfl, SqL.of ha, fun p H2 hp hn => g.tup rs ra hp hn⟩
theorem cb_sum (hK : X.K = G.K) (hc : X.calm = true) {m : Bool} : CallR X (.builtin "sum") (rBi G .sum m) := by
  intro pins s σ H xs us Q I r h
  obtain ⟨W, σ', Fz, μ, S, ds, rs, rd, go⟩ := h
  obtain ⟨as, z, h1, h2, g⟩ := bi_val (by simp) go
  obtain ⟨u, rfl⟩ := as_one (by simp) h2
  obtain ⟨d, rfl, hd⟩ := drfs_one h1
  obtain ⟨x, rfl, rx⟩ := reps_one rd
  have v1 := vw_of rs rx hd
  simp only [biD, Option.bind_eq_some_iff, Option.map_eq_some_iff] at h2
  obtain ⟨es, he, is, hi, rfl⟩ := h2
  have q := g.int rs
  cases u <;> simp only [itemsOf] at he <;> try contradiction
  · cases he
    simp only [Vw, Rep] at v1
    obtain ⟨a, vs, rfl, ha, ra⟩ := v1
    have ev := ints_of hi ra
    subst ev
    obtain ⟨u, rfl, ru⟩ := vals1 r
    cases ru
    obtain ⟨its, r1, t1, _⟩ := I.tuple (hK ▸ ha.sqT)
    refine sum_tup (I.ok.hd hc) t1 (Vals.ints r1) fun h' tk t' kp => ⟨.int is.sum, H, I.kept kp, ⟨t', rfl⟩, q⟩
  · cases he
    simp only [Vw] at v1
    obtain ⟨a, vs, rfl, ha, ra⟩ := v1
    have ev := ints_of hi ra
    subst ev
    exact cr_sum hc pins s σ H _ us Q I r ⟨a, is, rfl, SqL.of ha, q⟩
theorem cb_max (hc : X.calm = true) {m : Bool} : CallR X (.builtin "max") (rBi G .max m) := by
  intro pins s σ H xs us Q I r h
  obtain ⟨W, σ', Fz, μ, S, ds, rs, rd, go⟩ := h
  obtain ⟨as, z, h1, h2, g⟩ := bi_val (by simp) go
  obtain ⟨u, rfl⟩ := as_one (by simp) h2
  obtain ⟨d, rfl, hd⟩ := drfs_one h1
  obtain ⟨x, rfl, rx⟩ := reps_one rd
  have v1 := vw_of rs rx hd
  cases u <;> simp only [biD] at h2 <;> try contradiction
  simp only [Option.bind_eq_some_iff] at h2
  obtain ⟨is, hi, h2⟩ := h2
  cases is with
  | nil => cases h2
  | cons i is =>
    cases h2
    simp only [Vw] at v1
    obtain ⟨a, vs, rfl, ha, ra⟩ := v1
    have ev := ints_of hi ra
    subst ev
    refine cr_max hc pins s σ H _ us Q I r ⟨a, i :: is, rfl, SqL.of ha, by simp, fun k hk1 hk2 => ?_⟩
    obtain ⟨s1, s2, s3⟩ := foldMax_spec is i
    have hk : k = foldMax i is := by
      have a1 : k ≤ foldMax i is := by
        rcases List.mem_cons.mp hk1 with rfl | h
        · exact s2
        · exact s3 k h
      have a2 : foldMax i is ≤ k := by
        rcases s1 with h | h
        · rw [h]; exact hk2 i List.mem_cons_self
        · exact hk2 _ (List.mem_cons_of_mem _ h)
      omega
    rw [hk]
    exact g.int rs
theorem cb_min (hc : X.calm = true) {m : Bool} : CallR X (.builtin "min") (rBi G .min m) := by
  intro pins s σ H xs us Q I r h
  obtain ⟨W, σ', Fz, μ, S, ds, rs, rd, go⟩ := h
  obtain ⟨as, z, h1, h2, g⟩ := bi_val (by simp) go
  obtain ⟨u, rfl⟩ := as_one (by simp) h2
  obtain ⟨d, rfl, hd⟩ := drfs_one h1
  obtain ⟨x, rfl, rx⟩ := reps_one rd
  have v1 := vw_of rs rx hd
  cases u <;> simp only [biD] at h2 <;> try contradiction
  simp only [Option.bind_eq_some_iff] at h2
  obtain ⟨is, hi, h2⟩ := h2
  cases is with
  | nil => cases h2
  | cons i is =>
    cases h2
    simp only [Vw] at v1
    obtain ⟨a, vs, rfl, ha, ra⟩ := v1
    have ev := ints_of hi ra
    subst ev
    refine cr_min hc pins s σ H _ us Q I r ⟨a, i :: is, rfl, SqL.of ha, by simp, fun k hk1 hk2 => ?_⟩
    obtain ⟨s1, s2, s3⟩ := foldMin_spec is i
    have hk : k = foldMin i is := by
      have a1 : foldMin i is ≤ k := by
        rcases List.mem_cons.mp hk1 with rfl | h
        · exact s2
        · exact s3 k h
      have a2 : k ≤ foldMin i is := by
        rcases s1 with h | h
        · rw [h]; exact hk2 i List.mem_cons_self
        · exact hk2 _ (List.mem_cons_of_mem _ h)
      omega
    rw [hk]
    exact g.int rs
theorem cb_any (hc : X.calm = true) {m : Bool} : CallR X (.builtin "any") (rBi G .any m) := by
  intro pins s σ H xs us Q I r h
  obtain ⟨W, σ', Fz, μ, S, ds, rs, rd, go⟩ := h
  obtain ⟨as, z, h1, h2, g⟩ := bi_val (by simp) go
  obtain ⟨u, rfl⟩ := as_one (by simp) h2
  obtain ⟨d, rfl, hd⟩ := drfs_one h1
  obtain ⟨x, rfl, rx⟩ := reps_one rd
  have v1 := vw_of rs rx hd
  cases u <;> simp only [biD] at h2 <;> try contradiction
  simp only [Option.map_eq_some_iff] at h2
  obtain ⟨is, hi, rfl⟩ := h2
  simp only [Vw] at v1
  obtain ⟨a, vs, rfl, ha, ra⟩ := v1
  have ev := bools_of hi ra
  subst ev
  exact cr_any hc pins s σ H _ us Q I r ⟨a, is, rfl, SqL.of ha, g.bl rs⟩
theorem cb_all (hc : X.calm = true) {m : Bool} : CallR X (.builtin "all") (rBi G .all m) := by
  intro pins s σ H xs us Q I r h
  obtain ⟨W, σ', Fz, μ, S, ds, rs, rd, go⟩ := h
  obtain ⟨as, z, h1, h2, g⟩ := bi_val (by simp) go
  obtain ⟨u, rfl⟩ := as_one (by simp) h2
  obtain ⟨d, rfl, hd⟩ := drfs_one h1
  obtain ⟨x, rfl, rx⟩ := reps_one rd
  have v1 := vw_of rs rx hd
  cases u <;> simp only [biD] at h2 <;> try contradiction
  simp only [Option.map_eq_some_iff] at h2
  obtain ⟨is, hi, rfl⟩ := h2
  simp only [Vw] at v1
  obtain ⟨a, vs, rfl, ha, ra⟩ := v1
  have ev := bools_of hi ra
  subst ev
  exact cr_all hc pins s σ H _ us Q I r ⟨a, is, rfl, SqL.of ha, g.bl rs⟩
theorem as_two {b : Bi} {as : List D} {z : D} (hb : b = .max2 ∨ b = .min2) (h : biD b as = some z) : ∃ i j, as = [.int i, .int j] := by
  rcases hb with rfl | rfl
  all_goals
    match as, h with
    | [.int i, .int j], _ => exact ⟨i, j, rfl⟩
theorem cb_max2 (hc : X.calm = true) {m : Bool} : CallR X (.builtin "max") (rBi G .max2 m) := by
  intro pins s σ H xs us Q I r h
  obtain ⟨W, σ', Fz, μ, S, ds, rs, rd, go⟩ := h
  obtain ⟨as, z, h1, h2, g⟩ := bi_val (by simp) go
  obtain ⟨i, j, rfl⟩ := as_two (by simp) h2
  obtain ⟨d, e, rfl, hd, he⟩ := drfs_two h1
  obtain ⟨x, y, rfl, rx, ry⟩ := reps_two rd
  have v1 := int_v (vw_of rs rx hd)
  have v2 := int_v (vw_of rs ry he)
  subst v1 v2
  cases h2
  exact call_max2 hc pins s σ H _ us Q I r ⟨i, j, rfl, g.int rs⟩
theorem cb_min2 (hc : X.calm = true) {m : Bool} : CallR X (.builtin "min") (rBi G .min2 m) := by
  intro pins s σ H xs us Q I r h
  obtain ⟨W, σ', Fz, μ, S, ds, rs, rd, go⟩ := h
  obtain ⟨as, z, h1, h2, g⟩ := bi_val (by simp) go
  obtain ⟨i, j, rfl⟩ := as_two (by simp) h2
  obtain ⟨d, e, rfl, hd, he⟩ := drfs_two h1
  obtain ⟨x, y, rfl, rx, ry⟩ := reps_two rd
  have v1 := int_v (vw_of rs rx hd)
  have v2 := int_v (vw_of rs ry he)
  subst v1 v2
  cases h2
  exact call_min2 hc pins s σ H _ us Q I r ⟨i, j, rfl, g.int rs⟩
end QF
end

section
set_option maxHeartbeats 2000000
/-! QF11: isinstance, list(..), methods of lists. -/
namespace QF
open PySem L2
variable {G : Gi} {W : WX} {X : Cx} {P : Prg} {cf : Nat → List D → Sto → Res D}

theorem tyx_of (hK : X.K = G.K) {Fz : Addr → Prop} {μ : List Addr} {H : Hp} {d : D} {v : V} {n : String} (r : Rep G Fz μ H d v) (h : tyN d = some n) : TyX X.K H v (.type n) := by
  cases d <;> simp only [tyN] at h <;> try contradiction
  all_goals cases h
  · simp only [Rep] at r; subst r; exact .base .non
  · simp only [Rep] at r; subst r; exact .base (.bl _)
  · simp only [Rep] at r; subst r; exact .base (.int _)
  · simp only [Rep] at r; subst r; exact .base (.str _)
  · simp only [Rep] at r
    obtain ⟨a, vs, rfl, ha, _⟩ := r
    rcases ha with ⟨_, ha⟩ | ⟨_, o, ha, _⟩ | ⟨⟨o, its, n, e, c, _⟩, _⟩
    · exact .base (.tup ha)
    · exact .fTuple ha
    · exact .kTuple (by rw [hK]; exact e) c
  · simp only [Rep] at r
    obtain ⟨a, vs, rfl, _, ha, _⟩ := r
    exact .base (.lst ha)
  · simp only [Rep] at r
    obtain ⟨a, vs, rfl, _, _, h⟩ := r
    rcases h with ⟨_, kk, _, _, e⟩ | ⟨_, kk, _, _, e⟩
    · exact .base (.dK e)
    · exact .base (.dT e)
theorem kit_all {K : PySem.W.Frag} {d : D} {n : String} {t : Ty} (h : tyN d = some n) (ht : ∀ c, t ≠ .cls c) : PySem.W.kitOne K (.type n) (.type t.name) = some (n == t.name || (n == "bool" && t.name == "int")) := by
  refine kit_ty ?_
  cases d <;> simp only [tyN] at h <;> first | contradiction | skip
  all_goals cases h
  all_goals cases t
  all_goals first | exact absurd rfl (ht _) | skip
  all_goals decide +kernel
theorem d_isi {a : Expr} {ea : Ex} {t : Ty} {p p2 pos : Pos} (hK : X.K = G.K) (ht : ∀ c, t ≠ .cls c) (hg : Gl X "isinstance") (hm : X.mg "isinstance" = none) (hgt : Gl X (t.name : Str)) (hmt : X.mg (t.name : Str) = none)
    (hs : starEach [a, .Name (t.name : Str) p2] X.env = (false, eval a X.env) :: starEach [.Name (t.name : Str) p2] X.env) (ha : PE X a (TD G W P cf ea)) :
    PE X (.Call (.Name "isinstance" p) [a, .Name (t.name : Str) p2] [] pos) (TD G W P cf (.isi ea t)) := by
  have bt : bootBuiltins (t.name : Str) = some (.type t.name) := by
    cases t <;> first | exact absurd rfl (ht _) | decide +kernel
  have n1 : (t.name : Str) ≠ "__name__" := by cases t <;> first | exact absurd rfl (ht _) | decide +kernel
  have n2 : ((t.name : Str) == ("__debug__" : Str)) = false := by cases t <;> first | exact absurd rfl (ht _) | decide +kernel
  have pT : PE X (.Name (t.name : Str) p2) (tC (.ty t.name)) := pe_bltn hgt hmt bt rfl n1 n2
  refine PE.imp (pe_callB call_isi hg hm (by decide +kernel) (pa_cons ha (pa_cons pT pa_nil) hs) (by decide +kernel) (by decide +kernel) hs) fun σ H Q ⟨Fz, μ, ρ, S, rs, re, go⟩ => ?_
  simp only [evE] at go
  refine At.weak (Go.b1 rs re go) fun x H1 ⟨F1, μ1, S1, d, r1, e1, k1, rd, go1⟩ => ?_
  obtain ⟨z, hz, g⟩ := Go.opt go1
  have hz' : ((tyN d).map fun n => n == t.name || (n == "bool" && t.name == "int")).map D.bl = some z := by
    cases t <;> first | exact absurd rfl (ht _) | exact hz
  cases hn : tyN d with
  | none => rw [hn] at hz'; cases hz'
  | some n =>
    rw [hn] at hz'
    cases hz'
    exact ⟨x, .ty t.name, .type n, .type t.name, _, rfl, .ty _, tyx_of hK rd hn, kit_all hn ht, g.bl r1⟩
/-- a call of a built-in by its rule -/
theorem d_callB {id : String} {x : Str} {e : Expr} {es : List Expr} {ees : Es} {b : Bi} {m : Bool} {p pos : Pos} (hc : CallR X (.builtin id) (rBi G b m)) (hg : Gl X x) (hm : X.mg x = none) (hv : bootBuiltins x = some (.builtin id)) (hn : x ≠ "__name__") (hdb : (x == ("__debug__" : Str)) = false)
    (he : starEach (e :: es) X.env = (false, eval e X.env) :: starEach es X.env) (hpl : (backTo pos (starEach es X.env)).any (·.1) = false) (ha : PA X (e :: es) (TDs G W P cf ees)) : PE X (.Call (.Name x p) (e :: es) [] pos) (TD G W P cf (.bi b m ees)) :=
  PE.imp (pe_callB hc hg hm hv ha hn hdb he hpl) fun σ H Q ⟨Fz, μ, ρ, S, rs, re, go⟩ => by
    simp only [evE] at go
    exact At.weakL (Go.bs rs re go) fun xs H1 ⟨F1, μ1, S1, ds, r1, e1, k1, rds, go1⟩ => ⟨W, σ, F1, μ1, S1, ds, r1, rds, go1⟩
theorem d_callTy {id : String} {x : Str} {e : Expr} {es : List Expr} {ees : Es} {b : Bi} {m : Bool} {p pos : Pos} (hc : CallR X (.type id) (rBi G b m)) (hg : Gl X x) (hm : X.mg x = none) (hv : bootBuiltins x = some (.type id)) (hn : x ≠ "__name__") (hdb : (x == ("__debug__" : Str)) = false)
    (he : starEach (e :: es) X.env = (false, eval e X.env) :: starEach es X.env) (hpl : (backTo pos (starEach es X.env)).any (·.1) = false) (ha : PA X (e :: es) (TDs G W P cf ees)) : PE X (.Call (.Name x p) (e :: es) [] pos) (TD G W P cf (.bi b m ees)) :=
  PE.imp (pe_callTy hc hg hm hv ha hn hdb he hpl) fun σ H Q ⟨Fz, μ, ρ, S, rs, re, go⟩ => by
    simp only [evE] at go
    exact At.weakL (Go.bs rs re go) fun xs H1 ⟨F1, μ1, S1, ds, r1, e1, k1, rds, go1⟩ => ⟨W, σ, F1, μ1, S1, ds, r1, rds, go1⟩
theorem keys_reps {Fz : Addr → Prop} {μ : List Addr} {H : Hp} : ∀ {ks : List D} {kk : List Key} {vs : List V}, allOf kK ks = some kk → kk.length = vs.length → Reps G Fz μ H ks ((kk.zip vs).map fun kv => kV kv.1)
  | [], kk, vs, h, hl => by simp only [allOf] at h; cases h; simp only [List.zip_nil_left, List.map_nil, Reps]
  | d :: ks, kk, vs, h, hl => by
    simp only [allOf] at h
    cases e1 : kK d with
    | none => rw [e1] at h; cases h
    | some k =>
      cases e2 : allOf kK ks with
      | none => rw [e1, e2] at h; cases h
      | some r =>
        rw [e1, e2] at h; cases h
        cases vs with
        | nil => cases hl
        | cons v vs =>
          simp only [List.zip_cons_cons, List.map_cons, Reps]
          refine ⟨_, _, rfl, ?_, keys_reps e2 (Nat.succ.inj hl)⟩
          cases d <;> simp only [kK, reduceCtorEq, Option.some.injEq] at e1
          · subst e1; simp only [Rep, kV]
          · subst e1; simp only [Rep, kV]
/-- list(..) -/
theorem cb_list (hK : X.K = G.K) (hcm : X.calm = true) {m : Bool} : CallR X (.type "list") (rBi G .list m) := by
  intro pins s σ H xs us Q I r h
  obtain ⟨W, σ', Fz, μ, S, ds, rs, rd, go⟩ := h
  unfold evBi at go
  cases h1 : drfs S ds with
  | none => rw [h1] at go; exact go.elim
  | some as =>
    rw [h1] at go
    dsimp only at go
    cases h2 : biL .list as with
    | none => rw [h2] at go; exact go.elim
    | some l =>
      rw [h2] at go
      have : ∃ u, as = [u] := by
        cases as with
        | nil => simp [biL] at h2
        | cons u r => cases r with
          | nil => exact ⟨u, rfl⟩
          | cons v r => simp [biL] at h2
      obtain ⟨u, rfl⟩ := this
      obtain ⟨d, rfl, hd⟩ := drfs_one h1
      obtain ⟨x, rfl, rx⟩ := reps_one rd
      have v1 := vw_of rs rx hd
      cases u <;> simp only [biL] at h2 <;> try contradiction
      · cases h2
        simp only [Vw, Rep] at v1
        obtain ⟨a, vs, rfl, ha, ra⟩ := v1
        exact call_list_of pins s σ H _ us Q I r ⟨a, vs, rfl, .inr (hK ▸ ha.sqT), fun p hp => Go.newL go rs ra hp⟩
      · cases h2
        simp only [Vw] at v1
        obtain ⟨a, vs, rfl, ha, ra⟩ := v1
        exact call_list_of pins s σ H _ us Q I r ⟨a, vs, rfl, .inl (SqL.of ha), fun p hp => Go.newL go rs ra hp⟩
      · rename_i t ks ws
        cases t with
        | true => simp only [reduceCtorEq] at h2
        | false =>
          cases h2
          obtain ⟨a, vs, rfl, _, ⟨_, kk, h3, h4, ha⟩ | ⟨⟨q, _⟩, _⟩⟩ := v1
          · refine call_listD hcm pins s σ H _ us Q I r ⟨a, _, rfl, .inl ha, fun p hp => Go.newL go rs ?_ hp⟩
            exact keys_reps h3 h4
          · cases q
      · cases h2
        rename_i is
        simp only [Vw, Rep] at v1
        obtain ⟨a, rfl, ha⟩ := v1
        have hs : SqL X.K H a (is.map V.int) := by
          rcases ha with ⟨o, ha⟩ | ha
          · exact .inl (.inr ⟨o, ha⟩)
          · rcases ha with (ha | ⟨o, ha⟩) | ha
            · cases ha
            · cases ha
            · rw [hK]; exact .inr ha
        have ri : ∀ is : List Int, Reps G Fz μ H (is.map D.int) (is.map V.int) := fun is => by
          induction is with
          | nil => simp [Reps]
          | cons i is ih =>
            simp only [List.map_cons, Reps]
            exact ⟨_, _, rfl, by simp only [Rep], ih⟩
        exact call_list_of pins s σ H _ us Q I r ⟨a, _, rfl, .inl hs, fun p hp => Go.newL go rs (ri is) hp⟩
end QF
end

section
set_option maxHeartbeats 2000000
/-! QF12: methods of lists and dicts. -/
namespace QF
open PySem L2
variable {G : Gi} {W : WX} {X : Cx} {P : Prg} {cf : Nat → List D → Sto → Res D}

theorem Go.if {α : Type} {σ : L2.St} {Pq : (Addr → Prop) → List Addr → Hp → Sto → α → Prop} {Fz : Addr → Prop} {μ : List Addr} {S : Sto} {H : Hp} {b : Bool} {r : Res α} (go : Go G W σ Pq Fz μ S H (if b then r else .stk)) : b = true ∧ Go G W σ Pq Fz μ S H r := by
  cases b with
  | true => exact ⟨rfl, go⟩
  | false => exact go.elim
/-- a thing of the store is there as it is told -/
theorem loc_at {Fz : Addr → Prop} {μ : List Addr} {S : Sto} {H : Hp} {n : Nat} {x : V} (rs : RepS G Fz μ H S) (rx : Rep G Fz μ H (.loc n) x) {o : O} (h : S[n]? = some o) : ∃ a, x = .ref a ∧ μ[n]? = some a ∧ RepO G Fz μ H a o := by
  simp only [Rep] at rx
  obtain ⟨a, rfl, ha⟩ := rx
  exact ⟨a, rfl, ha, rs.obj n o a h ha⟩
/-- a method's call, by the evaluator -/
def rMt (G : Gi) (b : Mt) : V → List V → Hp → VK → Prop := fun x xs H Q => ∃ W σ Fz μ S d ds, RepS G Fz μ H S ∧ Rep G Fz μ H d x ∧ Reps G Fz μ H ds xs ∧ Go G W σ (qV G Q) Fz μ S H (evMt b d ds S)
theorem thing_eq {S : Sto} {d : D} {n : Nat} {o : O} (h : thing S d = some (n, o)) : d = .loc n ∧ S[n]? = some o := by
  cases d <;> simp only [thing] at h <;> try contradiction
  rename_i m
  cases e : S[m]? with
  | none => rw [e] at h; cases h
  | some o' => rw [e] at h; cases h; exact ⟨rfl, e⟩
theorem kdO_lst {S : Sto} {d : D} (h : (kdO (thing S d)).is .lst = true) : ∃ n ds, d = .loc n ∧ S[n]? = some (.lst ds) := by
  cases e : thing S d with
  | none => rw [e] at h; cases h
  | some p =>
    obtain ⟨n, o⟩ := p
    rw [e] at h
    obtain ⟨h1, h2⟩ := thing_eq e
    cases o with
    | lst ds => exact ⟨n, ds, h1, h2⟩
    | dead => cases h
    | dic _ _ _ => cases h
    | ins _ _ => cases h
theorem kdO_dic {S : Sto} {d : D} (h : (kdO (thing S d)).is .dic = true) : ∃ n t ks vs, d = .loc n ∧ S[n]? = some (.dic t ks vs) := by
  cases e : thing S d with
  | none => rw [e] at h; cases h
  | some p =>
    obtain ⟨n, o⟩ := p
    rw [e] at h
    obtain ⟨h1, h2⟩ := thing_eq e
    cases o with
    | dic t ks vs => exact ⟨n, t, ks, vs, h1, h2⟩
    | dead => cases h
    | lst _ => cases h
    | ins _ _ => cases h
theorem kdD_lst {o : Option D} (h : (kdD o).is .lst = true) : ∃ ds, o = some (.lst ds) := by
  cases o with
  | none => cases h
  | some d => cases d <;> first | exact ⟨_, rfl⟩ | cases h
theorem kdD_dic {o : Option D} (h : (kdD o).is .dic = true) : ∃ t ks vs, o = some (.dic t ks vs) := by
  cases o with
  | none => cases h
  | some d => cases d <;> first | exact ⟨_, _, _, rfl⟩ | cases h
theorem kdD_str {o : Option D} (h : (kdD o).is .str = true) : ∃ s, o = some (.str s) := by
  cases o with
  | none => cases h
  | some d => cases d <;> first | exact ⟨_, rfl⟩ | cases h
theorem mto_go {b : Mt} (hb : b.ro = false) (hd : b.dr = false) {W : WX} {σ : L2.St} {Fz : Addr → Prop} {μ : List Addr} {S : Sto} {H : Hp} {Q : VK} {d : D} {ds : List D} (go : Go G W σ (qV G Q) Fz μ S H (evMt b d ds S)) :
    ∃ n o v o', d = .loc n ∧ S[n]? = some o ∧ mtO b o ds = some (v, o') ∧ Gv G Q Fz μ S H v (S.set n o') := by
  rw [evMt, hb, hd] at go
  simp only [Bool.false_eq_true, if_false, evMtO] at go
  obtain ⟨p, h1, go⟩ := Go.onO go
  obtain ⟨q, h2, go⟩ := Go.onO go
  obtain ⟨n, o⟩ := p
  obtain ⟨v, o'⟩ := q
  obtain ⟨h3, h4⟩ := thing_eq h1
  exact ⟨n, o, v, o', h3, h4, h2, go⟩
theorem mtd_go {b : Mt} (hb : b.ro = true) {W : WX} {σ : L2.St} {Fz : Addr → Prop} {μ : List Addr} {S : Sto} {H : Hp} {Q : VK} {d : D} {ds : List D} (go : Go G W σ (qV G Q) Fz μ S H (evMt b d ds S)) :
    ∃ u v, drf S d = some u ∧ mtD b u ds = some v ∧ Gv G Q Fz μ S H v S := by
  rw [evMt, hb] at go
  obtain ⟨u, h1, go⟩ := Go.onO go
  obtain ⟨v, h2, g⟩ := Go.opt go
  exact ⟨u, v, h1, h2, g⟩
theorem mt_app : MtR X "list.append" (rMt G .append) := by
  intro pins s σ H x xs v us Q I rx r h
  obtain ⟨W, σ', Fz, μ, S, d, ds, rs, rd, rds, go⟩ := h
  obtain ⟨n, o, z, o', rfl, h1, h2, g⟩ := mto_go rfl rfl go
  obtain ⟨a, rfl, ha, ro⟩ := loc_at rs rd h1
  cases o <;> simp only [mtO] at h2 <;> try contradiction
  match ds, h2 with
  | [e], h2 =>
    simp only at h2
    split at h2
    · rename_i hl
      cases h2
      obtain ⟨y, rfl, ry⟩ := reps_one rds
      obtain ⟨vs, e1, e2⟩ := ro
      refine mt_append pins s σ H _ _ v us Q I rx r ⟨a, vs, y, rfl, rfl, e1, by rw [← e2.length]; exact hl, ?_⟩
      have k := (ext_set (Fz := Fz) (x := .lst (‹List D› ++ [e])) (u := .lst (vs ++ [y])) (H := H) h1 (by simp) ha).keep rs
      refine g Fz μ _ (ext_set h1 (by simp) ha) (reps_set rs h1 (by simp) ha ⟨_, upd_same, ?_⟩) _ (by simp only [Rep])
      exact Reps.keep k _ _ (e2.append (.one ry))
    · cases h2
theorem mt_pop : MtR X "list.pop" (rMt G .pop0) := by
  intro pins s σ H x xs v us Q I rx r h
  obtain ⟨W, σ', Fz, μ, S, d, ds, rs, rd, rds, go⟩ := h
  obtain ⟨n, o, z, o', rfl, h1, h2, g⟩ := mto_go rfl rfl go
  obtain ⟨a, rfl, ha, ro⟩ := loc_at rs rd h1
  cases o <;> simp only [mtO] at h2 <;> try contradiction
  rename_i l
  match ds, h2 with
  | [], h2 =>
    simp only at h2
    cases hq : l.getLast? with
    | none => rw [hq] at h2; cases h2
    | some e =>
      rw [hq] at h2
      cases h2
      simp only [Reps] at rds
      subst rds
      obtain ⟨vs, e1, e2⟩ := ro
      have hq' : l[l.length - 1]? = some z := by rw [← List.getLast?_eq_getElem?]; exact hq
      obtain ⟨y, hy, ry⟩ := e2.get hq'
      refine L2.mt_pop pins s σ H _ _ v us Q I rx r ⟨a, vs, y, rfl, rfl, e1, by rw [← e2.length]; exact hy, ?_⟩
      have k := (ext_set (Fz := Fz) (x := .lst l.dropLast) (u := .lst vs.dropLast) (H := H) h1 (by simp) ha).keep rs
      exact g Fz μ _ (ext_set h1 (by simp) ha) (reps_set rs h1 (by simp) ha ⟨_, upd_same, Reps.keep k _ _ e2.dropLast⟩) _ (Rep.keep k _ _ ry)
theorem recv_lst {Fz : Addr → Prop} {μ : List Addr} {S : Sto} {H : Hp} {d : D} {x : V} (rs : RepS G Fz μ H S) (rd : Rep G Fz μ H d x) (h : (kdO (thing S d)).is .lst = true) (K : PySem.W.Frag) : tyV K "list" x H := by
  obtain ⟨n, ds, rfl, h1⟩ := kdO_lst h
  obtain ⟨a, rfl, _, vs, e1, _⟩ := loc_at rs rd h1
  exact .inl ⟨rfl, vs, SqL.of e1⟩
theorem recv_dic {Fz : Addr → Prop} {μ : List Addr} {S : Sto} {H : Hp} {d : D} {x : V} (rs : RepS G Fz μ H S) (rd : Rep G Fz μ H d x) (h : (kdD (drf S d)).is .dic = true) : ∃ a, x = .ref a ∧ IsD H a := by
  obtain ⟨t, ks, ws, h1⟩ := kdD_dic h
  obtain ⟨a, vs, rfl, _, hh⟩ := vw_of rs rd h1
  refine ⟨a, rfl, ?_⟩
  rcases hh with ⟨_, kk, _, _, e3⟩ | ⟨_, kk, _, _, e3⟩
  · exact .inl ⟨_, .inl e3⟩
  · exact .inr ⟨_, .inl e3⟩
theorem d_append {o e : Expr} {eo ee : Ex} {apos cpos : Pos} (hbase : attributeBase o "append" X.env (eval o X.env) = eval o X.env)
    (hfew : ((backTo cpos (starEach [e] X.env)).all (fun x => !x.1) && (backToKw cpos (keywordEach [] X.env)).all (fun x => x.1.isSome) && decide (([e] : List Expr).length + ([] : List Keyword).length + (if ([] : List Keyword).isEmpty then 0 else 1) < 30)) = true)
    (hline : (apos.endLine == cpos.line) = true) (hs : starEach [e] X.env = (false, eval e X.env) :: starEach [] X.env) (ho : PE X o (TD G W P cf eo)) (he : PA X [e] (TDs G W P cf (.cons ee .nil))) :
    PE X (.Call (.Attribute o "append" apos) [e] [] cpos) (TD G W P cf (.meth .append eo (.cons ee .nil))) :=
  PE.imp (pe_bm PySem.F.plainAttrs_list PySem.F.slot_list_append PySem.F.type_list_append (mt_app (G := G)) ho he hbase hfew hline hs) fun σ H Q ⟨Fz, μ, ρ, S, rs, re, go⟩ => by
    rw [evE] at go
    refine At.weak (Go.b1 rs re go) fun x H1 ⟨F1, μ1, S1, d, r1, e1, k1, rd, go1⟩ => ?_
    obtain ⟨hr, go1⟩ := go1.if
    refine ⟨recv_lst r1 rd hr X.K, ?_⟩
    exact At.weakL (Go.bs r1 e1 go1) fun xs H2 ⟨F2, μ2, S2, ds, r2, e2, k2, rds, go2⟩ => ⟨W, σ, F2, μ2, S2, d, ds, r2, Rep.keep k2 d x rd, rds, go2⟩
theorem d_pop0 {o : Expr} {eo : Ex} {apos cpos : Pos} (hbase : attributeBase o "pop" X.env (eval o X.env) = eval o X.env) (hline : (apos.endLine == cpos.line) = true) (ho : PE X o (TD G W P cf eo)) :
    PE X (.Call (.Attribute o "pop" apos) [] [] cpos) (TD G W P cf (.meth .pop0 eo .nil)) :=
  PE.imp (pe_bm0 PySem.F.plainAttrs_list PySem.F.slot_list_pop PySem.F.type_list_pop (mt_pop (G := G)) ho hbase hline) fun σ H Q ⟨Fz, μ, ρ, S, rs, re, go⟩ => by
    rw [evE] at go
    refine At.weak (Go.b1 rs re go) fun x H1 ⟨F1, μ1, S1, d, r1, e1, k1, rd, go1⟩ => ?_
    obtain ⟨hr, go1⟩ := go1.if
    refine ⟨recv_lst r1 rd hr X.K, W, σ, F1, μ1, S1, d, [], r1, rd, by simp only [Reps], ?_⟩
    simp only [evEs, Res.bind] at go1
    exact go1
/-- d.get(k, x) -/
theorem d_get2 (hkt : ∀ d ∈ G.kt, keyOk true d = false) (hu : X.A.units + 1 < cLine) {o e f : Expr} {eo ee ef : Ex} {apos cpos : Pos} (m : M2 X o "get" apos e f cpos) (ho : PE X o (TD G W P cf eo)) (he : PE X e (TD G W P cf ee)) (hf : PE X f (TD G W P cf ef)) :
    PE X (.Call (.Attribute o "get" apos) [e, f] [] cpos) (TD G W P cf (.meth .get2 eo (.cons ee (.cons ef .nil)))) :=
  PE.imp (pe_dget2 hu ho he hf m) fun σ H Q ⟨Fz, μ, ρ, S, rs, re, go⟩ => by
    rw [evE] at go
    refine At.weak (Go.b1 rs re go) fun x H1 ⟨F1, μ1, S1, d, r1, e1, k1, rd, go1⟩ => ?_
    obtain ⟨hr, go1⟩ := go1.if
    have isd := recv_dic r1 rd hr
    obtain ⟨a, rfl, isd⟩ := isd
    refine ⟨a, rfl, isd, ?_⟩
    simp only [evEs] at go1
    have go1' : Go G W σ (qV G Q) F1 μ1 S1 H1 ((evE P cf ee ρ S1).bind fun k S => (evE P cf ef ρ S).bind fun dd S => evMt .get2 d [k, dd] S) := by
      cases h1 : evE P cf ee ρ S1 with
      | ok k S' =>
        rw [h1] at go1
        simp only [Res.bind] at go1 ⊢
        cases h2 : evE P cf ef ρ S' with
        | ok dd S'' => rw [h2] at go1; simp only [Res.bind] at go1 ⊢; exact go1
        | exc c fs S'' => rw [h2] at go1; exact go1
        | stk => rw [h2] at go1; exact go1
      | exc c fs S' => rw [h1] at go1; exact go1
      | stk => rw [h1] at go1; exact go1
    refine At.weak (Go.b1 r1 e1 go1') fun y H2 ⟨F2, μ2, S2, k, r2, e2, k2, rk, go2⟩ => ?_
    refine At.weak (Go.b1 r2 e2 go2) fun z H3 ⟨F3, μ3, S3, dd, r3, e3, k3, rdd, go3⟩ => ?_
    have rd3 := Rep.keep k3 _ _ (Rep.keep k2 _ _ rd)
    have rk3 := Rep.keep k3 _ _ rk
    obtain ⟨u, t, h1, ht, g⟩ := mtd_go rfl go3
    have v1 := vw_of r3 rd3 h1
    cases u <;> simp only [mtD] at ht <;> try contradiction
    split at ht
    · rename_i t ks ws hk
      cases ht
      obtain ⟨a', ov, e4, dg, hd, e5⟩ := vw_get hkt v1 hk rk3
      cases e4
      refine ⟨ov, dg, ?_⟩
      cases hl : look k ks ws with
      | none =>
        rw [hl] at e5 g
        cases ov with
        | none => exact g.at r3 rdd
        | some w => simp at e5
      | some w =>
        obtain ⟨w', rfl, rw'⟩ := hd w hl
        rw [hl] at g
        exact g.at r3 rw'
    · cases ht
end QF
end

section
set_option maxHeartbeats 2000000
/-! QF13: what is walked: lists, tuples, texts, ranges, enumerate, zip. -/
namespace QF
open PySem L2
variable {G : Gi} {W : WX} {X : Cx} {P : Prg} {cf : Nat → List D → Sto → Res D}

/-- an iterator serves these items, as long as the things under watch stand still -/
def SrcJ (G : Gi) (J : L2.It) (src : Src) (Fz : Addr → Prop) (μ : List Addr) (S : Sto) (H : Hp) : Prop :=
  ∀ F1 μ1 S1 H1, Keep Fz F1 μ μ1 H H1 → RepS G F1 μ1 H1 S1 → chkOk src.chk S1 = true →
    (∀ i, src.items.length ≤ i → J.stop i H1) ∧ ∀ i d, src.items[i]? = some d → J.go i H1 ∧ ∀ x H2, J.yld i H1 x H2 → Ext F1 μ1 S1 H1 F1 μ1 S1 H2 ∧ RepS G F1 μ1 H2 S1 ∧ Rep G F1 μ1 H2 d x
def tI (G : Gi) (W : WX) (m : Env → Sto → Res Src) : TI := fun σ H R => At G W m (fun Fz μ H S src => ∀ J, SrcJ G J src Fz μ S H → R J H) σ H
/-- a list or a tuple stands as told -/
def Stab (G : Gi) (K : PySem.W.Frag) (tp : Bool) (a : Addr) (src : Src) (Fz : Addr → Prop) (μ : List Addr) (S : Sto) (H : Hp) : Prop :=
  ∀ F1 μ1 S1 H1, Keep Fz F1 μ μ1 H H1 → RepS G F1 μ1 H1 S1 → chkOk src.chk S1 = true → ∃ vs, (if tp = true then SqT K H1 a vs else SqL K H1 a vs) ∧ Reps G F1 μ1 H1 src.items vs
theorem chk_one {n : Nat} {ds : List D} {S : Sto} (h : chkOk [(n, .lst ds)] S = true) : S[n]? = some (.lst ds) := by
  simp only [chkOk, List.all_cons, List.all_nil, Bool.and_true] at h
  cases e : S[n]? with
  | none => rw [e] at h; cases h
  | some o => rw [e] at h; rw [O.same_eq h]
theorem stab_lst {K : PySem.W.Frag} {Fz : Addr → Prop} {μ : List Addr} {S : Sto} {H : Hp} {ds : List D} {v : V} (rs : RepS G Fz μ H S) (r : Rep G Fz μ H (.lst ds) v) : ∃ a, v = .ref a ∧ Stab G K false a ⟨ds, []⟩ Fz μ S H := by
  simp only [Rep] at r
  obtain ⟨a, vs, rfl, f, e, q⟩ := r
  exact ⟨a, rfl, fun F1 μ1 S1 H1 x r1 _ => ⟨vs, SqL.of (x.ob _ _ e (.inl f)), Reps.keep x _ _ q⟩⟩
theorem stab_tup (hK : X.K = G.K) {Fz : Addr → Prop} {μ : List Addr} {S : Sto} {H : Hp} {ds : List D} {v : V} (rs : RepS G Fz μ H S) (r : Rep G Fz μ H (.tup ds) v) : ∃ a, v = .ref a ∧ Stab G X.K true a ⟨ds, []⟩ Fz μ S H := by
  simp only [Rep] at r
  obtain ⟨a, vs, rfl, e, q⟩ := r
  refine ⟨a, rfl, fun F1 μ1 S1 H1 x r1 _ => ⟨vs, ?_, Reps.keep x _ _ q⟩⟩
  rw [if_pos rfl, hK]
  exact (x.tupAt e).sqT
theorem stab_loc {K : PySem.W.Frag} {Fz : Addr → Prop} {μ : List Addr} {S : Sto} {H : Hp} {n : Nat} {ds : List D} {v : V} (r : Rep G Fz μ H (.loc n) v) : ∃ a, v = .ref a ∧ Stab G K false a ⟨ds, [(n, .lst ds)]⟩ Fz μ S H := by
  simp only [Rep] at r
  obtain ⟨a, rfl, e⟩ := r
  refine ⟨a, rfl, fun F1 μ1 S1 H1 x r1 c => ?_⟩
  obtain ⟨vs, h1, h2⟩ := r1.obj n _ a (chk_one c) (x.mu n a e)
  exact ⟨vs, SqL.of h1, h2⟩
theorem srcJ_l {K : PySem.W.Frag} {a : Addr} {src : Src} {Fz : Addr → Prop} {μ : List Addr} {S : Sto} {H : Hp} (h : Stab G K false a src Fz μ S H) : SrcJ G (Itl K a) src Fz μ S H := by
  intro F1 μ1 S1 H1 x r1 c
  obtain ⟨vs, hq, q⟩ := h F1 μ1 S1 H1 x r1 c
  refine ⟨fun i hi => ⟨vs, hq, by rw [← q.length]; exact hi⟩, fun i d hd => ?_⟩
  obtain ⟨w, hw, rw'⟩ := q.get hd
  refine ⟨⟨vs, w, hq, hw⟩, fun y H2 ⟨eH, hy⟩ => ?_⟩
  subst eH
  have := hy vs hq
  rw [hw] at this
  cases this
  exact ⟨.refl, r1, rw'⟩
theorem srcJ_t {K : PySem.W.Frag} {a : Addr} {src : Src} {Fz : Addr → Prop} {μ : List Addr} {S : Sto} {H : Hp} (h : Stab G K true a src Fz μ S H) : SrcJ G (Itt K a) src Fz μ S H := by
  intro F1 μ1 S1 H1 x r1 c
  obtain ⟨vs, hq, q⟩ := h F1 μ1 S1 H1 x r1 c
  refine ⟨fun i hi => ⟨vs, hq, by rw [← q.length]; exact hi⟩, fun i d hd => ?_⟩
  obtain ⟨w, hw, rw'⟩ := q.get hd
  refine ⟨⟨vs, w, hq, hw⟩, fun y H2 ⟨eH, hy⟩ => ?_⟩
  subst eH
  have := hy vs hq
  rw [hw] at this
  cases this
  exact ⟨.refl, r1, rw'⟩
theorem srcJ_s {s : Cs} {Fz : Addr → Prop} {μ : List Addr} {S : Sto} {H : Hp} : SrcJ G (Its (txt s)) ⟨chars s, []⟩ Fz μ S H := by
  intro F1 μ1 S1 H1 x r1 c
  refine ⟨fun i hi => ?_, fun i d hd => ?_⟩
  · show (txt s).cps.size ≤ i
    simpa [chars] using hi
  · simp only [chars, List.getElem?_map] at hd
    cases e : s[i]? with
    | none => rw [e] at hd; cases hd
    | some ch =>
      rw [e] at hd; cases hd
      refine ⟨?_, fun y H2 ⟨eH, k, hk, ey⟩ => ?_⟩
      · show i < (txt s).cps.size
        have := (List.getElem?_eq_some_iff.mp e).1
        simpa using this
      · subst eH ey
        have hk' : s[i]? = some k := by simpa using hk
        rw [e] at hk'; cases hk'
        exact ⟨.refl, r1, by simp only [Rep]⟩
theorem srcJ_r {lo : Int} {n : Nat} {Fz : Addr → Prop} {μ : List Addr} {S : Sto} {H : Hp} : SrcJ G (Itr lo n) ⟨rngD lo n, []⟩ Fz μ S H := by
  intro F1 μ1 S1 H1 x r1 c
  refine ⟨fun i hi => ?_, fun i d hd => ?_⟩
  · show n ≤ i
    simpa [rngD] using hi
  · have hi : i < n := by have := (List.getElem?_eq_some_iff.mp hd).1; simpa [rngD] using this
    refine ⟨hi, fun y H2 ⟨eH, ey⟩ => ?_⟩
    subst eH ey
    simp only [rngD, List.getElem?_map, List.getElem?_range hi, Option.map_some, Option.some.injEq] at hd
    subst hd
    exact ⟨.refl, r1, by simp only [Rep]⟩
theorem enumD_get : ∀ {ds : List D} {k i : Nat} {d : D}, (enumD k ds)[i]? = some d → ∃ e, ds[i]? = some e ∧ d = .pr [.int ((k + i : Nat) : Int), e]
  | [], k, i, d, h => by simp [enumD] at h
  | x :: xs, k, 0, d, h => by simp [enumD] at h; exact ⟨x, rfl, h.symm⟩
  | x :: xs, k, i + 1, d, h => by
    simp only [enumD, List.getElem?_cons_succ] at h
    obtain ⟨e, h1, h2⟩ := enumD_get h
    exact ⟨e, h1, by rw [h2, show k + 1 + i = k + (i + 1) by omega]⟩
theorem enumD_length : ∀ (ds : List D) (k : Nat), (enumD k ds).length = ds.length
  | [], _ => rfl
  | _ :: xs, k => by simp only [enumD, List.length_cons, enumD_length xs]
theorem zipD_get : ∀ {xs ys : List D} {i : Nat} {d : D}, (zipD xs ys)[i]? = some d → ∃ x y, xs[i]? = some x ∧ ys[i]? = some y ∧ d = .pr [x, y]
  | [], ys, i, d, h => by simp [zipD] at h
  | x :: xs, [], i, d, h => by simp [zipD] at h
  | x :: xs, y :: ys, 0, d, h => by simp [zipD] at h; exact ⟨x, y, rfl, rfl, h.symm⟩
  | x :: xs, y :: ys, i + 1, d, h => by
    simp only [zipD, List.getElem?_cons_succ] at h
    obtain ⟨a, b, h1, h2, h3⟩ := zipD_get (xs := xs) (ys := ys) (i := i) h
    exact ⟨a, b, h1, h2, h3⟩
theorem zipD_length : ∀ (xs ys : List D), (zipD xs ys).length = min xs.length ys.length
  | [], _ => by simp [zipD]
  | _ :: _, [] => by simp [zipD]
  | _ :: xs, _ :: ys => by simp only [zipD, List.length_cons, zipD_length xs ys]; omega
/-- a new pair -/
theorem new_pair {Fz : Addr → Prop} {μ : List Addr} {S : Sto} {H : Hp} {T : Addr} {d e : D} {x y : V} (rs : RepS G Fz μ H S) (hT : H T = none) (rd : Rep G Fz μ H d x) (re : Rep G Fz μ H e y) :
    Ext Fz μ S H Fz μ S (upd H T (.tup [x, y])) ∧ RepS G Fz μ (upd H T (.tup [x, y])) S ∧ Rep G Fz μ (upd H T (.tup [x, y])) (.pr [d, e]) (.ref T) := by
  refine ⟨ext_new hT, reps_new rs hT, ?_⟩
  have k : Keep Fz Fz μ μ H (upd H T (.tup [x, y])) := keep_upd hT
  simp only [Rep, Reps]
  exact ⟨T, [x, y], rfl, upd_same, x, [y], rfl, Rep.keep k _ _ rd, y, [], rfl, Rep.keep k _ _ re, rfl⟩
theorem int_rep {Fz : Addr → Prop} {μ : List Addr} {H : Hp} (i : Int) : Rep G Fz μ H (.int i) (.int i) := by simp only [Rep]
theorem srcJ_el {K : PySem.W.Frag} {a : Addr} {src : Src} {Fz : Addr → Prop} {μ : List Addr} {S : Sto} {H : Hp} (h : Stab G K false a src Fz μ S H) : SrcJ G (Ite K a) ⟨enumD 0 src.items, src.chk⟩ Fz μ S H := by
  intro F1 μ1 S1 H1 x r1 c
  obtain ⟨vs, hq, q⟩ := h F1 μ1 S1 H1 x r1 c
  refine ⟨fun i hi => ⟨vs, hq, by rw [← q.length, ← enumD_length src.items 0]; exact hi⟩, fun i d hd => ?_⟩
  obtain ⟨e, he, rfl⟩ := enumD_get hd
  obtain ⟨w, hw, rw'⟩ := q.get he
  refine ⟨⟨vs, w, hq, hw⟩, fun y H2 ⟨T, z, ey, hT, eH, hy⟩ => ?_⟩
  have := hy vs hq
  rw [hw] at this
  cases this
  subst eH ey
  have e0 : ((0 + i : Nat) : Int) = (i : Nat) := by omega
  rw [e0]
  exact new_pair r1 hT (int_rep _) rw'
/-- the tuple at a, each item in a new pair -/
def IteT (K : PySem.W.Frag) (a : Addr) : L2.It :=
  ⟨fun i H => ∃ (xs : List V) (x : V), SqT K H a xs ∧ xs[i]? = some x, fun i H v H' => ∃ T x, v = .ref T ∧ H T = none ∧ H' = upd H T (.tup [.int (i : Nat), x]) ∧ ∀ xs, SqT K H a xs → xs[i]? = some x, fun i H => ∃ xs : List V, SqT K H a xs ∧ xs.length ≤ i⟩
theorem srcJ_et {K : PySem.W.Frag} {a : Addr} {src : Src} {Fz : Addr → Prop} {μ : List Addr} {S : Sto} {H : Hp} (h : Stab G K true a src Fz μ S H) : SrcJ G (IteT K a) ⟨enumD 0 src.items, src.chk⟩ Fz μ S H := by
  intro F1 μ1 S1 H1 x r1 c
  obtain ⟨vs, hq, q⟩ := h F1 μ1 S1 H1 x r1 c
  refine ⟨fun i hi => ⟨vs, hq, by rw [← q.length, ← enumD_length src.items 0]; exact hi⟩, fun i d hd => ?_⟩
  obtain ⟨e, he, rfl⟩ := enumD_get hd
  obtain ⟨w, hw, rw'⟩ := q.get he
  refine ⟨⟨vs, w, hq, hw⟩, fun y H2 ⟨T, z, ey, hT, eH, hy⟩ => ?_⟩
  have := hy vs hq
  rw [hw] at this
  cases this
  subst eH ey
  have e0 : ((0 + i : Nat) : Int) = (i : Nat) := by omega
  rw [e0]
  exact new_pair r1 hT (int_rep _) rw'
theorem chk_app {c1 c2 : List (Nat × O)} {S : Sto} (h : chkOk (c1 ++ c2) S = true) : chkOk c1 S = true ∧ chkOk c2 S = true := by
  simp only [chkOk, List.all_append, Bool.and_eq_true] at h ⊢
  exact h
theorem srcJ_zl {K : PySem.W.Frag} {a b : Addr} {s t : Src} {Fz : Addr → Prop} {μ : List Addr} {S : Sto} {H : Hp} (h1 : Stab G K false a s Fz μ S H) (h2 : Stab G K false b t Fz μ S H) : SrcJ G (Itz K a b) ⟨zipD s.items t.items, s.chk ++ t.chk⟩ Fz μ S H := by
  intro F1 μ1 S1 H1 x r1 c
  obtain ⟨c1, c2⟩ := chk_app c
  obtain ⟨vs, hq, q⟩ := h1 F1 μ1 S1 H1 x r1 c1
  obtain ⟨ws, hq2, q2⟩ := h2 F1 μ1 S1 H1 x r1 c2
  refine ⟨fun i hi => ⟨vs, ws, hq, hq2, ?_⟩, fun i d hd => ?_⟩
  · rw [← q.length, ← q2.length]
    have hi' : (zipD s.items t.items).length ≤ i := hi
    rw [zipD_length] at hi'
    omega
  · obtain ⟨e, f, he, hf, rfl⟩ := zipD_get hd
    obtain ⟨w, hw, rw'⟩ := q.get he
    obtain ⟨u, hu, ru⟩ := q2.get hf
    refine ⟨⟨vs, ws, w, u, hq, hq2, hw, hu⟩, fun y H2 ⟨T, z, z2, ey, hT, eH, hy, hy2⟩ => ?_⟩
    have := hy vs hq
    rw [hw] at this
    cases this
    have := hy2 ws hq2
    rw [hu] at this
    cases this
    subst eH ey
    exact new_pair r1 hT rw' ru
theorem srcJ_zt {K : PySem.W.Frag} {a b : Addr} {s t : Src} {Fz : Addr → Prop} {μ : List Addr} {S : Sto} {H : Hp} (h1 : Stab G K true a s Fz μ S H) (h2 : Stab G K true b t Fz μ S H) : SrcJ G (RZ.ItzT K a b) ⟨zipD s.items t.items, s.chk ++ t.chk⟩ Fz μ S H := by
  intro F1 μ1 S1 H1 x r1 c
  obtain ⟨c1, c2⟩ := chk_app c
  obtain ⟨vs, hq, q⟩ := h1 F1 μ1 S1 H1 x r1 c1
  obtain ⟨ws, hq2, q2⟩ := h2 F1 μ1 S1 H1 x r1 c2
  refine ⟨fun i hi => ⟨vs, ws, hq, hq2, ?_⟩, fun i d hd => ?_⟩
  · rw [← q.length, ← q2.length]
    have hi' : (zipD s.items t.items).length ≤ i := hi
    rw [zipD_length] at hi'
    omega
  · obtain ⟨e, f, he, hf, rfl⟩ := zipD_get hd
    obtain ⟨w, hw, rw'⟩ := q.get he
    obtain ⟨u, hu, ru⟩ := q2.get hf
    refine ⟨⟨vs, ws, w, u, hq, hq2, hw, hu⟩, fun y H2 ⟨T, z, z2, ey, hT, eH, hy, hy2⟩ => ?_⟩
    have := hy vs hq
    rw [hw] at this
    cases this
    have := hy2 ws hq2
    rw [hu] at this
    cases this
    subst eH ey
    exact new_pair r1 hT rw' ru
/-- what a value is as a source -/
theorem src_cases (hK : X.K = G.K) {Fz : Addr → Prop} {μ : List Addr} {S : Sto} {H : Hp} {d : D} {v : V} {src : Src} (rs : RepS G Fz μ H S) (r : Rep G Fz μ H d v) (h : srcOf S d = some src) :
    (∃ a tp, v = .ref a ∧ Stab G X.K tp a src Fz μ S H ∧ chkOk src.chk S = true ∧ (kdD (drf S d)).is (if tp = true then .tup else .lst) = true) ∨ ∃ s, v = .str (txt s) ∧ d = .str s ∧ src = ⟨chars s, []⟩ := by
  cases d <;> simp only [srcOf, reduceCtorEq] at h
  · rename_i s
    cases h
    simp only [Rep] at r
    exact .inr ⟨s, r, rfl, rfl⟩
  · cases h
    obtain ⟨a, e, st⟩ := stab_tup hK rs r
    exact .inl ⟨a, true, e, st, rfl, rfl⟩
  · cases h
    obtain ⟨a, e, st⟩ := stab_lst (K := X.K) rs r
    exact .inl ⟨a, false, e, st, rfl, rfl⟩
  · rename_i n
    cases e : S[n]? with
    | none => rw [e] at h; cases h
    | some o =>
      rw [e] at h
      cases o <;> simp only [reduceCtorEq] at h
      rename_i ds
      cases h
      obtain ⟨a, e2, st⟩ := stab_loc (K := X.K) (S := S) (ds := ds) r
      refine .inl ⟨a, false, e2, st, ?_, ?_⟩
      · simp only [chkOk, List.all_cons, List.all_nil, Bool.and_true, e]
        exact O.same_lst ds
      · simp only [drf, e]; rfl
/-- a list, a tuple, a text as a source -/
theorem pi_seq {tg l : Expr} {tl : TE} (hl : PE X l tl) :
    PI X tg l fun σ H R => tl σ H fun x H1 => (∃ a, x = .ref a ∧ (∃ xs, SqL X.K H1 a xs) ∧ R (Itl X.K a) H1) ∨ (∃ a, x = .ref a ∧ (∃ xs, SqT X.K H1 a xs) ∧ R (Itt X.K a) H1) ∨ ∃ s, x = .str s ∧ R (Its s) H1 := by
  refine ⟨fun pins s σ H R I h => ?_⟩
  refine thn (hl.run pins s σ H _ I h) fun v s1 ⟨x, H1, I1, r1, q1⟩ => ?_
  have fresh : ∀ b ∈ [s1.heap.objs.size], FpOk X pins H1 b := fun b hb => by
    obtain rfl := List.mem_singleton.mp hb
    exact I1.fpOk (Nat.le_refl _) (I1.hok.fresh (Nat.le_refl _))
  rcases q1 with ⟨a, e, ⟨xs, hq⟩, q⟩ | ⟨a, e, ⟨xs, hq⟩, q⟩ | ⟨y, e, q⟩
  · subst e; cases r1
    obtain ⟨its, rv, p, _⟩ := I1.list hq
    exact wpAny_pyIter_list p.isList ⟨_, _, _, _, H1, rfl, I1.kept (t' := s1.toks) fun b o e => Heap.get?_push_of_some _ e, turn_list a _, ⟨_, Heap.get?_push_size _ rfl, rfl, rfl⟩, fresh, q⟩
  · subst e; cases r1
    obtain ⟨its, rv, p, _⟩ := I1.tuple hq
    exact wpAny_pyIter_tuple (show s1.heap.IsTuple a its.toArray from p) ⟨_, _, _, _, H1, rfl, I1.kept (t' := s1.toks) fun b o e => Heap.get?_push_of_some _ e, turn_tuple a _, ⟨_, Heap.get?_push_size _ rfl, rfl, rfl⟩, fresh, q⟩
  · subst e
    obtain ⟨t, rfl⟩ := r1
    cases ha : y.cps.all (· < 128)
    · exact wpAny_pyIter_wide ha (pi_one (tk := s1.toks) I1 _ (turn_str _ y t "str_iterator" (.inr rfl)) ⟨_, Heap.get?_push_size _ rfl, rfl, rfl⟩ q)
    · exact wpAny_pyIter_ascii ha (pi_one (tk := s1.toks) I1 _ (turn_str _ y t "str_ascii_iterator" (.inl rfl)) ⟨_, Heap.get?_push_size _ rfl, rfl, rfl⟩ q)
theorem Stab.now {K : PySem.W.Frag} {tp : Bool} {a : Addr} {src : Src} {Fz : Addr → Prop} {μ : List Addr} {S : Sto} {H : Hp} (h : Stab G K tp a src Fz μ S H) (rs : RepS G Fz μ H S) (c : chkOk src.chk S = true) : ∃ vs, if tp = true then SqT K H a vs else SqL K H a vs :=
  let ⟨vs, q, _⟩ := h _ _ _ _ .refl rs c
  ⟨vs, q⟩
/-- a source is there -/
theorem Go.src {σ : L2.St} {Fz : Addr → Prop} {μ : List Addr} {S : Sto} {H : Hp} {R : L2.It → Hp → Prop} {o : Option Src} (go : Go G W σ (fun Fz μ H S src => ∀ J, SrcJ G J src Fz μ S H → R J H) Fz μ S H (QF.opt o S)) (rs : RepS G Fz μ H S) :
    ∃ src, o = some src ∧ ∀ J, SrcJ G J src Fz μ S H → R J H := by
  cases o with
  | none => exact go.elim
  | some src => exact ⟨src, rfl, go.now rs⟩
theorem di_of {tg e : Expr} {ee : Ex} (hK : X.K = G.K) (he : PE X e (TD G W P cf ee)) : PI X tg e (tI G W (evI P cf (.of ee))) :=
  PI.imp (pi_seq he) fun σ H R ⟨Fz, μ, ρ, S, rs, re, go⟩ => by
    rw [evI] at go
    refine At.weak (Go.b1 rs re go) fun x H1 ⟨F1, μ1, S1, d, r1, e1, k1, rd, go1⟩ => ?_
    obtain ⟨src, h1, g⟩ := Go.src go1 r1
    rcases src_cases hK r1 rd h1 with ⟨a, tp, rfl, st, c, _⟩ | ⟨s, rfl, rfl, rfl⟩
    · obtain ⟨vs, q⟩ := st.now r1 c
      cases tp with
      | true => exact .inr (.inl ⟨a, rfl, ⟨vs, q⟩, g _ (srcJ_t st)⟩)
      | false => exact .inl ⟨a, rfl, ⟨vs, q⟩, g _ (srcJ_l st)⟩
    · exact .inr (.inr ⟨_, rfl, g _ srcJ_s⟩)
theorem di_rng1 {tg a : Expr} {ea : Ex} {p pos : Pos} (hg : Gl X "range") (hm : X.mg "range" = none) (ha : PE X a (TD G W P cf ea)) (hs : starEach [a] X.env = (false, eval a X.env) :: starEach [] X.env) :
    PI X tg (.Call (.Name "range" p) [a] [] pos) (tI G W (evI P cf (.rng1 ea))) :=
  PI.imp (pi_range1 hg hm (pa_cons ha pa_nil hs) hs) fun σ H R ⟨Fz, μ, ρ, S, rs, re, go⟩ => by
    rw [evI] at go
    refine At.weak (Go.b1 rs re go) fun x H1 ⟨F1, μ1, S1, d, r1, e1, k1, rd, go1⟩ => ?_
    obtain ⟨j, rfl, go2⟩ := Go.onI go1
    obtain ⟨hj, go3⟩ := go2.if
    simp only [Rep] at rd
    subst rd
    simp only [rngOk, Bool.and_eq_true, decide_eq_true_eq] at hj
    exact ⟨j, rfl, hj.1, hj.2, go3.now r1 _ srcJ_r⟩
theorem di_rng2 {tg a b : Expr} {ea eb : Ex} {p pos : Pos} (hg : Gl X "range") (hm : X.mg "range" = none) (ha : PE X a (TD G W P cf ea)) (hb : PE X b (TD G W P cf eb)) (hs : starEach [a, b] X.env = (false, eval a X.env) :: starEach [b] X.env) (hs2 : starEach [b] X.env = (false, eval b X.env) :: starEach [] X.env) :
    PI X tg (.Call (.Name "range" p) [a, b] [] pos) (tI G W (evI P cf (.rng2 ea eb))) :=
  PI.imp (pi_range2 hg hm (pa_cons ha (pa_cons hb pa_nil hs2) hs) (hs.trans (by rw [hs2]; rfl)) hs2) fun σ H R ⟨Fz, μ, ρ, S, rs, re, go⟩ => by
    rw [evI] at go
    refine At.weak (Go.b1 rs re go) fun x H1 ⟨F1, μ1, S1, d, r1, e1, k1, rd, go1⟩ => ?_
    refine At.weak (Go.b1 r1 e1 go1) fun y H2 ⟨F2, μ2, S2, e, r2, e2, k2, re, go2⟩ => ?_
    obtain ⟨i, rfl, go3⟩ := Go.onI go2
    obtain ⟨j, rfl, go4⟩ := Go.onI go3
    obtain ⟨hj, go5⟩ := go4.if
    simp only [Rep] at rd re
    subst rd re
    simp only [rngOk, Bool.and_eq_true, decide_eq_true_eq] at hj
    exact ⟨i, j, rfl, ⟨hj.1.1, hj.1.2, hj.2.1, hj.2.2⟩, go5.now r2 _ srcJ_r⟩
end QF
end

section
set_option maxHeartbeats 2000000
/-! QF14: enumerate of a tuple; enumerate, zip as sources. -/
namespace QF
open PySem L2
variable {G : Gi} {W : WX} {X : Cx} {P : Prg} {cf : Nat → List D → Sto → Res D}

/-- enumerate(t), t a tuple: its two new objects -/
theorem meets_enumT (tu : Addr) (items : Array Value) :
    Meets (Builtin.«enumerate.__new__» ⟨[.type "enumerate", .ref tu], []⟩) (fun _ R s => s.heap.IsTuple tu items ∧
      R (.ok (.ret (.ref (s.heap.push { cls := .type "tuple_iterator", data := .fields #[.ref tu, .int 0 0] }).objs.size)))
        { s with heap := (s.heap.push { cls := .type "tuple_iterator", data := .fields #[.ref tu, .int 0 0] }).push { cls := .type "enumerate", data := .fields #[.none, .bool false, .ref s.heap.objs.size, rawInt 0, .none, .none] } }) :=
  .of_wp fun prog w A R s h => by
    obtain ⟨hp, gs, dr, tk, os⟩ := s
    obtain ⟨ht, h⟩ := h
    have hsub := sub_enumerate
    have q0 : ∀ {A' : Around} {E : Value → Shared → Prop} {Q : Value → Shared → Prop}, Q (.ref hp.objs.size) ⟨hp.push { cls := .type "tuple_iterator", data := .fields #[.ref tu, .int 0 0] }, gs, dr, tk, os⟩ → wpAny (model prog w) A' (pyIter (.ref tu)) Q E ⟨hp, gs, dr, tk, os⟩ :=
      fun z => wpAny_pyIter_tuple (s := ⟨hp, gs, dr, tk, os⟩) ht z
    wp_walk using q0
    refine wpAny_stack_any fun stk => wpAny_pure ?_
    split
    · rename_i cl _ _ _ _ _
      cases (cl == Value.type "enumerate") <;> (wp_walk using q0; exact ⟨_, rfl, h⟩)
    · wp_walk using q0
      exact ⟨_, rfl, h⟩
theorem enum_tup {prog : Program} {w : World} {A : Around} {E : Value → Shared → Prop} {s : Shared} {tu : Addr} {items : Array Value} {Q : Value → Shared → Prop} (ht : s.heap.IsTuple tu items)
    (h : ∀ h', IsEnum h' (s.heap.objs.size + 1) s.heap.objs.size 0 .none → h'.IsTupleIter s.heap.objs.size tu 0 → (∀ b o, s.heap.get? b = some o → h'.get? b = some o) → Q (.ref (s.heap.objs.size + 1)) { s with heap := h' }) :
    wpAny (model prog w) A (call (.type "enumerate") [.ref tu]) Q E s := by
  refine callType_new F.called_enumerate (by decide) (F.typeCall_enumerate_1 _) (F.newCall_enumerate_1 _) (fun obj => F.args_object_init_2 obj _) F.entry_enumerate_new (meets_enumT tu items) ⟨ht, ?_⟩
  have hz : (s.heap.push { cls := .type "tuple_iterator", data := .fields #[.ref tu, .int 0 0] }).objs.size = s.heap.objs.size + 1 := Heap.size_push ..
  show _ ∧ _
  rw [hz]
  have en : IsEnum ((s.heap.push { cls := .type "tuple_iterator", data := .fields #[.ref tu, .int 0 0] }).push { cls := .type "enumerate", data := .fields #[.none, .bool false, .ref s.heap.objs.size, rawInt 0, .none, .none] }) (s.heap.objs.size + 1) s.heap.objs.size 0 .none := by
    have z := Heap.get?_push_size (s.heap.push { cls := .type "tuple_iterator", data := .fields #[.ref tu, .int 0 0] }) (o := { cls := .type "enumerate", data := .fields #[.none, .bool false, .ref s.heap.objs.size, rawInt 0, .none, .none] }) rfl
    rwa [hz] at z
  exact ⟨⟨_, en, rfl⟩, h _ en ⟨_, Heap.get?_push_of_some _ (Heap.get?_push_size _ rfl), rfl, rfl⟩ fun b o z => Heap.get?_push_of_some _ (Heap.get?_push_of_some _ z)⟩
/-- what stands while a tuple is counted through -/
def TurnT (en ti tu : Addr) (i : Nat) (h : Heap) : Prop := (∃ old, IsEnum h en ti ((i : Nat) : Int) old) ∧ h.IsTupleIter ti tu i ∧ en ≠ ti ∧ tu ≠ ti ∧ tu ≠ en
theorem turn_enumT {PR : Program} {w : World} {K : PySem.W.Frag} {elts : List Expr} {kk : Nat} {tpos : Pos} (tu en ti : Addr) : Turn PR w K (.Tuple elts kk tpos) (IteT K tu) [en, ti] en (TurnT en ti tu) where
  mem := List.mem_cons_self
  obj := fun i h st b hb => by
    obtain ⟨⟨old, he⟩, ⟨o, ho, _, hd⟩, _⟩ := st
    rcases List.mem_cons.mp hb with rfl | hb
    · exact ⟨_, he, fun v q => nomatch q⟩
    · obtain rfl := List.mem_singleton.mp hb
      exact ⟨o, ho, fun v q => by rw [hd] at q; cases q⟩
  keep := fun i h h2 st k => by
    obtain ⟨⟨old, he⟩, hi, hr⟩ := st
    exact ⟨⟨old, k en List.mem_cons_self _ he⟩, hi.at fun o q => k ti (by simp) o q, hr⟩
  item := fun Y e1 e2 e3 hc i pins s σ H E I hf st hg => by
    subst e1 e2 e3
    obtain ⟨⟨old, he⟩, hit, n1, n2, n3⟩ := st
    obtain ⟨xs, x, hq, hx⟩ := hg
    obtain ⟨its, rv, p, _⟩ := I.tuple hq
    have pt : s.heap.IsTuple tu its.toArray := p
    obtain ⟨u, hu, ru⟩ := rv.get hx
    have hel : en < s.heap.objs.size := Heap.lt_size he
    have hil : ti < s.heap.objs.size := by obtain ⟨_, q, _⟩ := hit; exact Heap.lt_size q
    have D : Draws Y.prog Y.w Y.A.in1 ti [ti, tu] its.toArray.size (fun i v => its.toArray[i]? = some v) (fun i h => h.IsTupleIter ti tu i ∧ h.IsTuple tu its.toArray) := Draws.tuple (show Y.A.in1.handled = none from I.ok.hd hc) ti tu n2 its.toArray
    have hi : i < its.toArray.size := by have := (List.getElem?_eq_some_iff.mp hu).1; simpa using this
    refine wpAny_pyNext_enum_itemD D he ⟨hit, pt⟩ hi n1 (by simp [n1, Ne.symm n3]) fun y h2 tk py ho st2 hT hsz hk => ?_
    have ey : y = u := by
      have py' : its[i]? = some y := by simpa using py
      rw [hu] at py'; cases py'; rfl
    subst ey
    refine ⟨_, rfl, wpAny_letOwnedTupleGo_enum (s := { s with heap := h2, toks := tk + 1 }) ho fun h3 he3 sb => ?_⟩
    have hT3 : h3.get? s.heap.objs.size = some { cls := .type "tuple", data := .seq #[.int i tk, y] } := (sb.2 _ (Nat.ne_of_gt hel)).trans hT
    have new : ObjOk Y.prog Y.w (upd H s.heap.objs.size (.tup [.int (i : Nat), x])) h3 s.heap.objs.size (.tup [.int (i : Nat), x]) :=
      ⟨show 2 ≤ sizeLine by decide, [.int i tk, y], .cons ⟨_, rfl⟩ (.cons ru .nil), ⟨_, hT3, rfl, _, rfl⟩⟩
    have I1 : Inv Y pins σ (upd H s.heap.objs.size (.tup [.int (i : Nat), x])) { s with heap := h3, toks := tk + 1 } :=
      I.turnedNew (ch := [en, ti]) (fun b ob hb q => (sb.2 b (fun z => hb (by simp [z]))).trans (hk b ob (fun z => hb (by simp [z])) (fun z => hb (by simp [z])) q)) hf (Nat.le_refl _) new
    refine ⟨.ref s.heap.objs.size, _, I1, rfl, ⟨_, x, rfl, I.hok.fresh (Nat.le_refl _), rfl, fun ys hy => ?_⟩, ⟨⟨y, ?_⟩, st2.1.at fun o q => (sb.2 ti (Ne.symm n1)).trans q, n1, n2, n3⟩, fun b hb => ?_⟩
    · rw [I.tuple_inj hy hq]; exact hx
    · rw [show ((i + 1 : Nat) : Int) = (i : Int) + 1 by omega]; exact he3
    · have hb' : b < s.heap.objs.size := by
        rcases List.mem_cons.mp hb with z | z
        · rw [z]; exact hel
        · rw [List.mem_singleton.mp z]; exact hil
      rw [upd_ne (Nat.ne_of_lt hb')]
      exact (hf b hb).1
  done := fun Y e1 e2 e3 hc i pins s σ H E I hf st hg => by
    subst e1 e2 e3
    obtain ⟨⟨old, he⟩, hit, n1, n2, n3⟩ := st
    obtain ⟨xs, hq, hx⟩ := hg
    obtain ⟨its, rv, p, _⟩ := I.tuple hq
    have pt : s.heap.IsTuple tu its.toArray := p
    have hn : its.toArray[i]? = none := by
      have := rv.length
      simp only [List.getElem?_toArray, List.getElem?_eq_none_iff]; omega
    obtain ⟨f0, f1, f2, f3, f4, f5⟩ := hf ti (by simp)
    have hT : s.TypeIs (.ref en) "enumerate" := ⟨_, he, rfl⟩
    unfold pyNext
    refine wpAny_bind (wpAny_attempt (wpAny_callSpecial?_slot (name := Str.ofString "__next__") hT F.slot_enumerate_next (wpAny_call_entry F.slot_enumerate_next hT F.entry_enumerate_next ?_ (F.args_enumerate_next_1 _))))
    show wpAny _ _ (field (.ref en) 2 >>= _) _ _ _
    refine wpAny_bind (wpAny_field he rfl (x := .ref ti) rfl ?_)
    refine wpAny_bind (RZ.nextOf_tuple_end (show Y.A.in1.handled = none from I.ok.hd hc) hit pt hn fun h2 y he2 ⟨o, ho, hcl⟩ => ?_)
    refine wpAny_bind (wpAny_isInstance (T := "StopIteration") (b := true) ⟨o, ho, hcl⟩ isSubtype_stop ?_)
    exact wpAny_pure ⟨rfl, I.turned (t' := s.toks) (fun b ob hb q => he2 b ob hb q) f0 f1 f3 f4 f5⟩
  self := fun A i s Q E st h => let ⟨⟨_, he⟩, _⟩ := st; wpAny_pyIter_enum he h
theorem pi_enumA {e : Expr} {ta : TA} {p pos tpos : Pos} {elts : List Expr} {kk : Nat} (hg : Gl X "enumerate") (hm : X.mg "enumerate" = none) (ha : PA X [e] ta) (hs : starEach [e] X.env = (false, eval e X.env) :: starEach [] X.env) :
    PI X (.Tuple elts kk tpos) (.Call (.Name "enumerate" p) [e] [] pos) fun σ H R => ta σ H fun vs H1 => ∃ a, vs = [V.ref a] ∧ ((∃ xs, SqL X.K H1 a xs ∧ R (Ite X.K a) H1) ∨ ∃ xs, SqT X.K H1 a xs ∧ R (IteT X.K a) H1) := by
  refine ⟨fun pins s σ H R I h => PyProof.Rows.Call_ (ld_blt I hg hm PyProof.Rows.boot_enumerate (PyProof.Rows.callWith_type1 (thn (ha.run pos pins s σ H _ I h) fun us s1 ⟨vs, H1, I1, r1, a, ev, q1⟩ => ?_) hs rfl))⟩
  subst ev
  cases r1 with
  | cons r rr =>
    cases rr
    cases r
    have fresh : ∀ b ∈ [s1.heap.objs.size + 1, s1.heap.objs.size], FpOk X pins H1 b := fun b hb => by
      have hle : s1.heap.objs.size ≤ b := by
        rcases List.mem_cons.mp hb with z | z
        · rw [z]; exact Nat.le_succ _
        · rw [List.mem_singleton.mp z]; exact Nat.le_refl _
      exact I1.fpOk hle (I1.hok.fresh hle)
    rcases q1 with ⟨xs, hq, q⟩ | ⟨xs, hq, q⟩
    · obtain ⟨its, _, p1, _⟩ := I1.list hq
      exact call_enumerate_list p1.isList fun h2 he hit hsz hk => wpAny_pyIter_enum he ⟨_, _, _, _, H1, rfl, I1.kept (t' := s1.toks) hk, turn_enum a _ _, ⟨⟨.none, he⟩, hit, Nat.succ_ne_self _⟩, fresh, q⟩
    · obtain ⟨its, _, p1, _⟩ := I1.tuple hq
      have la : a < s1.heap.objs.size := by obtain ⟨_, g, _⟩ := id p1; exact Heap.lt_size g
      exact enum_tup (show s1.heap.IsTuple a its.toArray from p1) fun h2 he hit hk => wpAny_pyIter_enum he
        ⟨_, _, _, _, H1, rfl, I1.kept (t' := s1.toks) hk, turn_enumT a _ _, ⟨⟨.none, he⟩, hit, Nat.succ_ne_self _, Nat.ne_of_lt la, Nat.ne_of_lt (Nat.lt_succ_of_lt la)⟩, fresh, q⟩
theorem seqK_of {S : Sto} {d : D} {src : Src} {tp : Bool} (h : (kdD (drf S d)).is (if tp = true then .tup else .lst) = true) : seqK S d = true := by
  cases tp <;> simp_all [seqK]
theorem kd_str {S : Sto} {s : Cs} : seqK S (.str s) = false := rfl
theorem di_enum {e : Expr} {ee : Ex} {p pos tpos : Pos} {elts : List Expr} {kk : Nat} (hK : X.K = G.K) (hg : Gl X "enumerate") (hm : X.mg "enumerate" = none) (he : PE X e (TD G W P cf ee)) (hs : starEach [e] X.env = (false, eval e X.env) :: starEach [] X.env) :
    PI X (.Tuple elts kk tpos) (.Call (.Name "enumerate" p) [e] [] pos) (tI G W (evI P cf (.enum ee))) :=
  PI.imp (pi_enumA hg hm (pa_cons he pa_nil hs) hs) fun σ H R ⟨Fz, μ, ρ, S, rs, re, go⟩ => by
    rw [evI] at go
    refine At.weak (Go.b1 rs re go) fun x H1 ⟨F1, μ1, S1, d, r1, e1, k1, rd, go1⟩ => ?_
    obtain ⟨hk, go1⟩ := go1.if
    obtain ⟨src, h1, go2⟩ := Go.onO go1
    rcases src_cases hK r1 rd h1 with ⟨a, tp, rfl, st, c, _⟩ | ⟨s, rfl, rfl, rfl⟩
    · obtain ⟨vs, q⟩ := st.now r1 c
      cases tp with
      | true => exact ⟨a, rfl, .inr ⟨vs, q, go2.now r1 _ (srcJ_et st)⟩⟩
      | false => exact ⟨a, rfl, .inl ⟨vs, q, go2.now r1 _ (srcJ_el st)⟩⟩
    · cases hk
theorem zipK_mix {S : Sto} {d e : D} (h : zipK S d e = true) (k : (kdD (drf S d)).is .tup = true) (l : (kdD (drf S e)).is .lst = true) : False := by
  revert h k l
  unfold zipK
  generalize kdD (drf S d) = a
  generalize kdD (drf S e) = b
  cases a <;> cases b <;> decide
theorem zipK_mix' {S : Sto} {d e : D} (h : zipK S d e = true) (k : (kdD (drf S d)).is .lst = true) (l : (kdD (drf S e)).is .tup = true) : False := by
  revert h k l
  unfold zipK
  generalize kdD (drf S d) = a
  generalize kdD (drf S e) = b
  cases a <;> cases b <;> decide
theorem di_zip {e f : Expr} {ee ef : Ex} {p pos tpos : Pos} {elts : List Expr} {kk : Nat} (hK : X.K = G.K) (hg : Gl X "zip") (hm : X.mg "zip" = none) (he : PE X e (TD G W P cf ee)) (hf : PE X f (TD G W P cf ef)) (hs : starEach [e, f] X.env = (false, eval e X.env) :: starEach [f] X.env) (hs2 : starEach [f] X.env = (false, eval f X.env) :: starEach [] X.env)
    (hpl : (backTo pos (starEach [f] X.env)).any (·.1) = false) : PI X (.Tuple elts kk tpos) (.Call (.Name "zip" p) [e, f] [] pos) (tI G W (evI P cf (.zip ee ef))) :=
  PI.imp (RZ.pi_zipA hg hm (pa_cons he (pa_cons hf pa_nil hs2) hs) hs hpl) fun σ H R ⟨Fz, μ, ρ, S, rs, re, go⟩ => by
    rw [evI] at go
    refine At.weak (Go.b1 rs re go) fun x H1 ⟨F1, μ1, S1, d, r1, e1, k1, rd, go1⟩ => ?_
    refine At.weak (Go.b1 r1 e1 go1) fun y H2 ⟨F2, μ2, S2, d2, r2, e2, k2, rd2, go2⟩ => ?_
    obtain ⟨hk, go3⟩ := go2.if
    obtain ⟨s1, h1, go4⟩ := Go.onO go3
    obtain ⟨s2, h2, go5⟩ := Go.onO go4
    have rd' := Rep.keep k2 _ _ rd
    rcases src_cases hK r2 rd' h1 with ⟨a, tp, rfl, st, c, kd⟩ | ⟨s, rfl, rfl, rfl⟩
    · rcases src_cases hK r2 rd2 h2 with ⟨b, tp2, rfl, st2, c2, kd2⟩ | ⟨s, rfl, rfl, rfl⟩
      · obtain ⟨vs, q⟩ := st.now r2 c
        obtain ⟨ws, q2⟩ := st2.now r2 c2
        cases tp with
        | true => cases tp2 with
          | true => exact ⟨a, b, vs, ws, rfl, .inr ⟨q, q2, go5.now r2 _ (srcJ_zt st st2)⟩⟩
          | false =>
            exact (zipK_mix hk kd kd2).elim
        | false => cases tp2 with
          | true =>
            exact (zipK_mix' hk kd kd2).elim
          | false => exact ⟨a, b, vs, ws, rfl, .inl ⟨q, q2, go5.now r2 _ (srcJ_zl st st2)⟩⟩
      · cases hh : kdD (drf S2 d) <;> rw [zipK, hh] at hk <;> cases hk
    · cases hk
end QF
end

section
set_option maxHeartbeats 2000000
/-! QF15: targets, comprehensions. -/
namespace QF
open PySem L2
variable {G : Gi} {W : WX} {X : Cx} {P : Prg} {cf : Nat → List D → Sto → Res D}

/-! ### targets -/
/-- the same but for these slots -/
def Agree (is : List Nat) (σ σ' : L2.St) : Prop := σ'.length = σ.length ∧ ∀ j, j ∉ is → σ'[j]? = σ[j]?
theorem Agree.refl {is : List Nat} {σ : L2.St} : Agree is σ σ := ⟨rfl, fun _ _ => rfl⟩
theorem Agree.trans {is js : List Nat} {σ σ' σ'' : L2.St} (a : Agree is σ σ') (b : Agree js σ' σ'') : Agree (is ++ js) σ σ'' :=
  ⟨b.1.trans a.1, fun j h => (b.2 j fun z => h (List.mem_append.mpr (.inr z))).trans (a.2 j fun z => h (List.mem_append.mpr (.inl z)))⟩
theorem wipe_get (σ : L2.St) (i : Nat) : ∀ vs : List Nat, (wipe σ vs)[i]? = if i ∈ vs then (if i < σ.length then some none else none) else σ[i]?
  | [] => by simp [wipe]
  | v :: vs => by
    simp only [wipe, List.getElem?_set, wipe_length]
    by_cases h : v = i
    · subst h; simp
    · rw [if_neg h, wipe_get σ i vs]
      simp [Ne.symm h]
theorem Agree.wipe {is vs : List Nat} {σ σ' : L2.St} (a : Agree is σ σ') (h : ∀ i ∈ is, i ∈ vs) : wipe σ' vs = wipe σ vs := by
  refine List.ext_getElem? fun i => ?_
  rw [wipe_get, wipe_get, a.1]
  by_cases hi : i ∈ vs
  · rw [if_pos hi, if_pos hi]
  · rw [if_neg hi, if_neg hi, a.2 i fun z => hi (h i z)]
theorem wipeE_get (ρ : Env) (i : Nat) : ∀ vs : List Nat, (wipeE ρ vs)[i]? = if i ∈ vs then (if i < ρ.length then some none else none) else ρ[i]?
  | [] => by simp [wipeE]
  | v :: vs => by
    have hl : ∀ vs : List Nat, (wipeE ρ vs).length = ρ.length := by
      intro vs
      induction vs with
      | nil => rfl
      | cons w ws ih => simp only [wipeE, List.length_set, ih]
    simp only [wipeE, List.getElem?_set, hl]
    by_cases h : v = i
    · subst h; simp
    · rw [if_neg h, wipeE_get ρ i vs]
      simp [Ne.symm h]
theorem wipeE_length (ρ : Env) : ∀ vs : List Nat, (wipeE ρ vs).length = ρ.length
  | [] => rfl
  | w :: ws => by simp only [wipeE, List.length_set, wipeE_length ρ ws]
theorem RepE.wipe {Fz : Addr → Prop} {μ : List Addr} {H : Hp} {ρ : Env} {σ : L2.St} (h : RepE G Fz μ H ρ σ) (vs : List Nat) : RepE G Fz μ H (wipeE ρ vs) (wipe σ vs) := by
  refine ⟨by rw [wipeE_length, wipe_length]; exact h.1, fun i d e => ?_⟩
  rw [wipeE_get] at e
  by_cases hi : i ∈ vs
  · rw [if_pos hi] at e; split at e <;> cases e
  · rw [if_neg hi] at e
    obtain ⟨v, hv, r⟩ := h.2 i d e
    exact ⟨v, by rw [wipe_get, if_neg hi]; exact hv, r⟩
theorem RepE.set {Fz : Addr → Prop} {μ : List Addr} {H : Hp} {ρ : Env} {σ : L2.St} (h : RepE G Fz μ H ρ σ) (i : Nat) {d : D} {v : V} (r : Rep G Fz μ H d v) : RepE G Fz μ H (ρ.set i (some d)) (σ.set i (some v)) := by
  refine ⟨by simp [h.1], fun j e hj => ?_⟩
  rw [List.getElem?_set] at hj
  by_cases hi : i = j
  · subst hi
    rw [if_pos rfl] at hj
    split at hj
    · rename_i hl
      cases hj
      exact ⟨v, by rw [List.getElem?_set, if_pos rfl, if_pos (by rw [← h.1]; exact hl)], r⟩
    · cases hj
  · rw [if_neg hi] at hj
    obtain ⟨w, hw, rw'⟩ := h.2 j e hj
    exact ⟨w, by rw [List.getElem?_set, if_neg hi]; exact hw, rw'⟩
def gT (G : Gi) (tn : Tn) : TG := fun v σ H Q => ∃ Fz μ S ρ d ρ', RepS G Fz μ H S ∧ RepE G Fz μ H ρ σ ∧ Rep G Fz μ H d v ∧ asgT tn d ρ = some ρ' ∧ ∀ σ', RepE G Fz μ H ρ' σ' → Agree (tnIx tn) σ σ' → Q σ' H
def gTs (G : Gi) (tn : List Tn) : TGs := fun vs σ H Q => ∃ Fz μ S ρ ds ρ', RepS G Fz μ H S ∧ RepE G Fz μ H ρ σ ∧ Reps G Fz μ H ds vs ∧ asgTs tn ds ρ = some ρ' ∧ ∀ σ', RepE G Fz μ H ρ' σ' → Agree (tnIxs tn) σ σ' → Q σ' H
theorem PGs.imp {ts : List Expr} {t t' : TGs} (h : PGs X ts t) (w : ∀ v σ H Q, t' v σ H Q → t v σ H Q) : PGs X ts t' := ⟨fun p s σ H v u Q I r x => h.run p s σ H v u Q I r (w _ _ _ _ x)⟩
theorem dg_name {i : Nat} {x : Str} {pos : Pos} (hN : X.N.Nodup) (hi : X.N[i]? = some x) (hx : Loc X.env.scope x) (hf : X.fn x = true ∨ X.env.scope.names.lookup x = some .local) : PG X (.Name x pos) (gT G (.name i)) :=
  PG.imp (pg_name hN hi hx hf) fun v σ H Q ⟨Fz, μ, S, ρ, d, ρ', rs, re, rd, ha, q⟩ => by
    simp only [asgT] at ha
    split at ha
    · cases ha
      exact q _ (re.set i rd) ⟨by simp, fun j hj => by rw [List.getElem?_set, if_neg fun z => hj (by simp [tnIx, z])]⟩
    · cases ha
theorem dgs_nil : PGs X [] (gTs G []) :=
  PGs.imp pgs_nil fun vs σ H Q ⟨Fz, μ, S, ρ, ds, ρ', rs, re, rd, ha, q⟩ => by
    cases ds with
    | nil =>
      simp only [asgTs] at ha
      cases ha
      simp only [Reps] at rd
      exact ⟨rd, q σ re .refl⟩
    | cons d ds => simp [asgTs] at ha
theorem dgs_cons {e : Expr} {es : List Expr} {t : Tn} {ts : List Tn} (h1 : PG X e (gT G t)) (h2 : PGs X es (gTs G ts)) (hs : (assignEach (e :: es) X.env).map (·.2) = assign e X.env :: (assignEach es X.env).map (·.2)) : PGs X (e :: es) (gTs G (t :: ts)) :=
  PGs.imp (pgs_cons h1 h2 hs) fun vs σ H Q ⟨Fz, μ, S, ρ, ds, ρ', rs, re, rd, ha, q⟩ => by
    cases ds with
    | nil => simp [asgTs] at ha
    | cons d ds =>
      simp only [Reps] at rd
      obtain ⟨v, r, rfl, rv, rr⟩ := rd
      simp only [asgTs] at ha
      cases h : asgT t d ρ with
      | none => rw [h] at ha; cases ha
      | some ρ1 =>
        rw [h] at ha
        exact ⟨v, r, rfl, Fz, μ, S, ρ, d, ρ1, rs, re, rv, h, fun σ1 re1 a1 => ⟨Fz, μ, S, ρ1, ds, ρ', rs, re1, rr, ha, fun σ2 re2 a2 => q σ2 re2 (a1.trans a2)⟩⟩
theorem asgTs_length : ∀ {ts : List Tn} {ds : List D} {ρ ρ' : Env}, asgTs ts ds ρ = some ρ' → ds.length = ts.length
  | [], [], _, _, _ => rfl
  | [], d :: ds, _, _, h => by simp [asgTs] at h
  | t :: ts, [], _, _, h => by simp [asgTs] at h
  | t :: ts, d :: ds, ρ, ρ', h => by
    simp only [asgTs] at h
    cases e : asgT t d ρ with
    | none => rw [e] at h; cases h
    | some ρ1 => rw [e] at h; simp [asgTs_length h]
theorem dg_tup {es : List Expr} {k : Nat} {ts : List Tn} {pos : Pos} (hK : X.K = G.K) (hc : X.calm = true) (h : PGs X es (gTs G ts)) (hn : (assignEach es X.env).length = ts.length) (hst : (assignEach es X.env).findIdx? (·.1) = none) : PG X (.Tuple es k pos) (gT G (.tup ts)) :=
  PG.imp (pg_tup hc h hn hst) fun v σ H Q ⟨Fz, μ, S, ρ, d, ρ', rs, re, rd, ha, q⟩ => by
    cases d <;> simp only [asgT, reduceCtorEq] at ha
    all_goals
      rename_i ds
      simp only [Rep] at rd
      obtain ⟨a, vs, rfl, t, r⟩ := rd
      exact ⟨a, vs, rfl, by rw [hK]; first | exact t.sqT | exact SqT.of t, by rw [← r.length]; exact asgTs_length ha, Fz, μ, S, ρ, ds, ρ', rs, re, r, ha, fun σ' r' a' => q σ' r' (by simpa [tnIx] using a')⟩

/-! ### a list that grows aside: at D, nothing of the store, not frozen -/
def off (D : Addr) (H : Hp) : Hp := fun a => if a = D then none else H a
theorem off_upd {D : Addr} {H : Hp} {o : HO} (h : H D = none) : off D (upd H D o) = H := by
  funext a
  by_cases e : a = D
  · subst e; simp only [off, if_pos]; exact h.symm
  · simp only [off, if_neg e]; exact upd_ne e
theorem upd_off {D : Addr} {H : Hp} {o : HO} (h : H D = some o) : upd (off D H) D o = H := by
  funext a
  by_cases e : a = D
  · subst e; exact upd_same.trans h.symm
  · rw [upd_ne e]; simp only [off, if_neg e]
structure Hid (Fz : Addr → Prop) (μ : List Addr) (S : Sto) (H : Hp) (D : Addr) (vs : List V) : Prop where
  at_ : H D = some (.lst vs)
  nf : ¬ Fz D
  nl : ¬ Live S μ D
theorem Hid.ext {Fz Fz' : Addr → Prop} {μ μ' : List Addr} {S S' : Sto} {H H' : Hp} {D : Addr} {vs : List V} (h : Hid Fz μ S H D vs) (e : Ext Fz μ S H Fz' μ' S' H') : Hid Fz' μ' S' H' D vs where
  at_ := e.chg _ _ h.at_ h.nl
  nf := fun z => by
    rcases e.newfz _ z with z | z | z
    · exact h.nf z
    · exact h.nl z
    · rw [h.at_] at z; cases z
  nl := fun z => by
    rcases e.newlive _ z with z | z
    · exact h.nl z
    · rw [h.at_] at z; cases z
theorem Hid.extOff {Fz Fz' : Addr → Prop} {μ μ' : List Addr} {S S' : Sto} {H H' : Hp} {D : Addr} {vs : List V} (h : Hid Fz μ S H D vs) (e : Ext Fz μ S H Fz' μ' S' H') : Ext Fz μ S (off D H) Fz' μ' S' (off D H') where
  fz := e.fz
  newfz := fun a z => by
    rcases e.newfz a z with z | z | z
    · exact .inl z
    · exact .inr (.inl z)
    · refine .inr (.inr ?_)
      simp only [off]; split
      · rfl
      · exact z
  chg := fun a o z n => by
    simp only [off] at z ⊢
    by_cases q : a = D
    · rw [if_pos q] at z; cases z
    · rw [if_neg q] at z ⊢; exact e.chg a o z n
  newlive := fun a z => by
    rcases e.newlive a z with z | z
    · exact .inl z
    · refine .inr ?_
      simp only [off]; split
      · rfl
      · exact z
  mu := e.mu
  there := fun a z => by
    simp only [off] at z ⊢
    by_cases q : a = D
    · rw [if_pos q] at z; exact absurd rfl z
    · rw [if_neg q] at z ⊢; exact e.there a z
theorem Hid.keepOff {Fz : Addr → Prop} {μ : List Addr} {S : Sto} {H : Hp} {D : Addr} {vs : List V} (h : Hid Fz μ S H D vs) : Keep Fz Fz μ μ H (off D H) where
  fz := fun _ z => z
  mu := fun _ _ z => z
  ob := fun a o z c => by
    simp only [off]
    by_cases q : a = D
    · subst q
      rcases c with c | c
      · exact (h.nf c).elim
      · rw [h.at_] at z; cases z; exact c.elim
    · rw [if_neg q]; exact z
theorem Hid.keepUpd {Fz : Addr → Prop} {μ : List Addr} {S : Sto} {H : Hp} {D : Addr} {vs : List V} {o : HO} (h : Hid Fz μ S H D vs) : Keep Fz Fz μ μ H (upd H D o) where
  fz := fun _ z => z
  mu := fun _ _ z => z
  ob := fun a o z c => by
    by_cases q : a = D
    · subst q
      rcases c with c | c
      · exact (h.nf c).elim
      · rw [h.at_] at z; cases z; exact c.elim
    · rw [upd_ne q]; exact z
theorem reps_keep {Fz : Addr → Prop} {μ : List Addr} {S : Sto} {H H' : Hp} {D : Addr} {vs : List V} (h : Hid Fz μ S H D vs) (rs : RepS G Fz μ H S) (k : Keep Fz Fz μ μ H H') (hh : ∀ a, a ≠ D → H' a = H a) : RepS G Fz μ H' S where
  len := rs.len
  obj := fun n o a e m => by
    by_cases hd : o = .dead
    · subst hd; trivial
    · exact RepO.keep k (hh a fun z => h.nl ⟨n, o, e, hd, z ▸ m⟩) o (rs.obj n o a e m)
  uniq := rs.uniq
  nfz := rs.nfz
  fzt := fun a z => by rw [hh a fun q => h.nf (q ▸ z)]; exact rs.fzt a z
theorem Hid.repsOff {Fz : Addr → Prop} {μ : List Addr} {S : Sto} {H : Hp} {D : Addr} {vs : List V} (h : Hid Fz μ S H D vs) (rs : RepS G Fz μ H S) : RepS G Fz μ (off D H) S :=
  reps_keep h rs h.keepOff fun a q => by simp only [off, if_neg q]
theorem Hid.repsUpd {Fz : Addr → Prop} {μ : List Addr} {S : Sto} {H : Hp} {D : Addr} {vs : List V} {o : HO} (h : Hid Fz μ S H D vs) (rs : RepS G Fz μ H S) : RepS G Fz μ (upd H D o) S :=
  reps_keep h rs h.keepUpd fun a q => upd_ne q
/-- from a state without D -/
theorem ext_aside {Fz Fz' : Addr → Prop} {μ μ' : List Addr} {S S' : Sto} {H H' : Hp} {D : Addr} {o : HO} (e : Ext Fz μ S H Fz' μ' S' H') (h : H D = none) : Ext Fz μ S H Fz' μ' S' (upd H' D o) where
  fz := e.fz
  newfz := e.newfz
  chg := fun a x z n => by
    have q : a ≠ D := fun q => by subst q; rw [h] at z; cases z
    rw [upd_ne q]; exact e.chg a x z n
  newlive := e.newlive
  mu := e.mu
  there := fun a z => by
    by_cases q : a = D
    · subst q; rw [upd_same]; simp
    · rw [upd_ne q]; exact e.there a z
abbrev WF : WX := fun _ _ _ _ => False
/-- tests of a comprehension -/
def tCo (G : Gi) (W : WX) (m : Env → Sto → Res Bool) : TT := fun σ H Q => At G W m (fun _ _ H _ b => Q b H) σ H
theorem PTs.imp {ifs : List Expr} {t t' : TT} (h : PTs X ifs t) (w : ∀ σ H Q, t' σ H Q → t σ H Q) : PTs X ifs t' := ⟨fun p s σ H Q I x => h.run p s σ H Q I (w _ _ _ x)⟩
theorem dc_no : PTs X [] (tCo G W (evC P cf .no)) :=
  PTs.imp pts_nil fun σ H Q ⟨Fz, μ, ρ, S, rs, re, go⟩ => by
    rw [evC] at go
    exact go.now rs
theorem dc_yes {c : Expr} {ec : Ex} (h : PT X c (TT' G W P cf ec)) : PTs X [c] (tCo G W (evC P cf (.yes ec))) :=
  PTs.imp (pts_one h) fun σ H Q ⟨Fz, μ, ρ, S, rs, re, go⟩ => by
    rw [evC] at go
    refine At.weakT (Go.bt onBK rs re go) fun b H1 ⟨F1, μ1, S1, r1, e1, k1, g1⟩ => ?_
    cases b <;> exact Go.now g1 r1
end QF
end

section
set_option maxHeartbeats 2000000
/-! QF16: comprehensions. -/
namespace QF
open PySem L2
variable {G : Gi} {W : WX} {X : Cx} {P : Prg} {cf : Nat → List D → Sto → Res D}

theorem Go.bI {α : Type} {σ : L2.St} {H : Hp} {Pq : (Addr → Prop) → List Addr → Hp → Sto → α → Prop} {m : Env → Sto → Res Src} {k : Src → Sto → Res α} {Fz : Addr → Prop} {μ : List Addr} {S : Sto} {ρ : Env} (rs : RepS G Fz μ H S) (re : RepE G Fz μ H ρ σ) (go : Go G W σ Pq Fz μ S H ((m ρ S).bind k)) :
    tI G W m σ H fun J H1 => ∃ F1 μ1 S1 src, RepS G F1 μ1 H1 S1 ∧ RepE G F1 μ1 H1 ρ σ ∧ Ext Fz μ S H F1 μ1 S1 H1 ∧ SrcJ G J src F1 μ1 S1 H1 ∧ Go G W σ Pq F1 μ1 S1 H1 (k src S1) :=
  ⟨Fz, μ, ρ, S, rs, re, go.bind fun src S' F' μ' H' e r' g' J sj => ⟨F', μ', S', src, r', re.keep (e.keep rs), e, sj, g'⟩⟩
theorem At.weakI {m : Env → Sto → Res Src} {σ : L2.St} {H : Hp} {R R' : L2.It → Hp → Prop} (h : tI G W m σ H R) (w : ∀ J H1, R J H1 → R' J H1) : tI G W m σ H R' := by
  obtain ⟨Fz, μ, ρ, S, rs, re, go⟩ := h
  refine ⟨Fz, μ, ρ, S, rs, re, ?_⟩
  cases e : m ρ S with
  | ok a S' => rw [e] at go; exact fun F2 μ2 H2 x r J sj => w _ _ (go F2 μ2 H2 x r J sj)
  | exc c fs S' => rw [e] at go; exact go
  | stk => rw [e] at go; exact go
theorem Go.bC {α : Type} {σ : L2.St} {H : Hp} {Pq : (Addr → Prop) → List Addr → Hp → Sto → α → Prop} {m : Env → Sto → Res Bool} {k : Bool → Sto → Res α} {Fz : Addr → Prop} {μ : List Addr} {S : Sto} {ρ : Env} (rs : RepS G Fz μ H S) (re : RepE G Fz μ H ρ σ) (go : Go G W σ Pq Fz μ S H ((m ρ S).bind k)) :
    tCo G W m σ H fun b H1 => ∃ F1 μ1 S1, RepS G F1 μ1 H1 S1 ∧ RepE G F1 μ1 H1 ρ σ ∧ Go G W σ Pq F1 μ1 S1 H1 (k b S1) :=
  ⟨Fz, μ, ρ, S, rs, re, go.bind fun b S' F' μ' H' e r' g' => ⟨F', μ', S', r', re.keep (e.keep rs), g'⟩⟩
theorem At.weakC {m : Env → Sto → Res Bool} {σ : L2.St} {H : Hp} {Q Q' : Bool → Hp → Prop} (h : tCo G W m σ H Q) (w : ∀ b H1, Q b H1 → Q' b H1) : tCo G W m σ H Q' := by
  obtain ⟨Fz, μ, ρ, S, rs, re, go⟩ := h
  refine ⟨Fz, μ, ρ, S, rs, re, ?_⟩
  cases e : m ρ S with
  | ok a S' => rw [e] at go; exact fun F2 μ2 H2 x r => w _ _ (go F2 μ2 H2 x r)
  | exc c fs S' => rw [e] at go; exact go
  | stk => rw [e] at go; exact go
theorem Go.sig {α : Type} {σ σ' : L2.St} {Pq : (Addr → Prop) → List Addr → Hp → Sto → α → Prop} {Fz : Addr → Prop} {μ : List Addr} {S : Sto} {H : Hp} {r : Res α} (go : Go G WF σ Pq Fz μ S H r) : Go G WF σ' Pq Fz μ S H r := by
  cases r with
  | ok a S' => exact go
  | exc c fs S' => exact go
  | stk => exact go
theorem off_upd' {D : Addr} {H : Hp} {o : HO} : off D (upd H D o) = off D H := by
  funext a
  simp only [off]
  split
  · rfl
  · rename_i e; exact upd_ne e
theorem wipe_wipe (σ : L2.St) (vs : List Nat) : wipe (wipe σ vs) vs = wipe σ vs := by
  refine List.ext_getElem? fun i => ?_
  rw [wipe_get, wipe_get, wipe_length]
  split <;> rfl
theorem goI_weak {α : Type} {σ : L2.St} {Pq Pr : (Addr → Prop) → List Addr → Hp → Sto → α → Prop} {Fz : Addr → Prop} {μ : List Addr} {S : Sto} {H : Hp} {r : Res α} (go : Go G W σ Pq Fz μ S H r) (w : ∀ F' μ' H' S' a, Pq F' μ' H' S' a → Pr F' μ' H' S' a) : Go G W σ Pr Fz μ S H r := by
  cases r with
  | ok a S' => exact fun F2 μ2 H2 x r => w _ _ _ _ _ (go F2 μ2 H2 x r)
  | exc c fs S' => exact go
  | stk => exact go
/-- what stands behind a turn -/
structure Aft (G : Gi) (F0 : Addr → Prop) (μ0 : List Addr) (S0 : Sto) (H0 : Hp) (D : Addr) (acc : List QF.D) (avs : List V) (F : Addr → Prop) (μ : List Addr) (S : Sto) (H : Hp) : Prop where
  rs : RepS G F μ H S
  ext : Ext F0 μ0 S0 H0 F μ S H
  hid : Hid F μ S H D avs
  ra : Reps G F μ H acc avs
theorem Aft.step {F0 : Addr → Prop} {μ0 : List Addr} {S0 : Sto} {H0 : Hp} {D : Addr} {acc : List QF.D} {avs : List V} {F F' : Addr → Prop} {μ μ' : List Addr} {S S' : Sto} {H H' : Hp} (a : Aft G F0 μ0 S0 H0 D acc avs F μ S H) (e : Ext F μ S H F' μ' S' H') (r : RepS G F' μ' H' S') :
    Aft G F0 μ0 S0 H0 D acc avs F' μ' S' H' := ⟨r, a.ext.trans e, a.hid.ext e, Reps.keep (e.keep a.rs) _ _ a.ra⟩
/-- an item put behind -/
theorem Aft.push {F0 : Addr → Prop} {μ0 : List Addr} {S0 : Sto} {H0 : Hp} {D : Addr} {acc : List QF.D} {avs : List V} {F : Addr → Prop} {μ : List Addr} {S : Sto} {H : Hp} (a : Aft G F0 μ0 S0 H0 D acc avs F μ S H) (h0 : H0 D = none) {d : QF.D} {v : V} (r : Rep G F μ H d v) :
    Aft G F0 μ0 S0 H0 D (acc ++ [d]) (avs ++ [v]) F μ S (upd H D (.lst (avs ++ [v]))) :=
  ⟨a.hid.repsUpd a.rs, ext_aside a.ext h0, ⟨upd_same, a.hid.nf, a.hid.nl⟩, Reps.keep a.hid.keepUpd _ _ (a.ra.append (.one r))⟩
section
variable {F0 : Addr → Prop} {μ0 : List Addr} {S0 : Sto} {H0 : Hp} {Dn : Addr} {σ : L2.St} {Pq : (Addr → Prop) → List Addr → Hp → Sto → List D → Prop} {chk : List (Nat × O)}
/-- what a turn's answer is worth -/
abbrev QT (G : Gi) (W : WX) (σ : L2.St) (Pq : (Addr → Prop) → List Addr → Hp → Sto → List D → Prop) (F0 : Addr → Prop) (μ0 : List Addr) (S0 : Sto) (H0 : Hp) (Dn : Addr) (acc : List D) (avs : List V) (k : List D → Sto → Res (List D)) (Fs : Addr → Prop) (μs : List Addr) (Hs : Hp) : (Addr → Prop) → List Addr → Hp → Sto → Option D → Prop :=
  fun F μ H S od => Aft G F0 μ0 S0 H0 Dn acc avs F μ S H ∧ Keep Fs F μs μ Hs H ∧ (∀ d, od = some d → acc.length < SL) ∧ Go G W σ Pq F μ S (off Dn H) (k (od.elim acc fun d => acc ++ [d]) S)
theorem compGo_step {f : D → Sto → Res (Option D)} {x : D} {xs acc : List D} {avs : List V} {F : Addr → Prop} {μ : List Addr} {S : Sto} {H : Hp} (a : Aft G F0 μ0 S0 H0 Dn acc avs F μ S H) (go : Go G W σ Pq F μ S (off Dn H) (compGo chk f (x :: xs) acc S)) :
    chkOk chk S = true ∧ Go G WF σ (QT G W σ Pq F0 μ0 S0 H0 Dn acc avs (fun l S => compGo chk f xs l S) F μ H) F μ S H (f x S) := by
  rw [compGo] at go
  obtain ⟨hc, go⟩ := go.if
  refine ⟨hc, ?_⟩
  cases e : f x S with
  | ok od S' =>
    rw [e] at go
    intro F2 μ2 H2 ex r2
    cases od with
    | none => exact ⟨a.step ex r2, ex.keep a.rs, (fun _ z => by cases z), Go.ext (show Go G W σ Pq F μ S (off Dn H) (compGo chk f xs acc S') from go) (a.hid.extOff ex)⟩
    | some d =>
      have go' : Go G W σ Pq F μ S (off Dn H) (if acc.length < SL then compGo chk f xs (acc ++ [d]) S' else .stk) := go
      by_cases hl : acc.length < SL
      · rw [if_pos hl] at go'
        exact ⟨a.step ex r2, ex.keep a.rs, fun _ _ => hl, Go.ext go' (a.hid.extOff ex)⟩
      · rw [if_neg hl] at go'; exact go'.elim
  | exc c fs S' => rw [e] at go; exact go.elim
  | stk => rw [e] at go; exact go.elim
/-- a part of a run aside of the list that grows -/
theorem Go.inOff {α β : Type} {Pr : (Addr → Prop) → List Addr → Hp → Sto → β → Prop} {r : Res α} {k : α → Sto → Res β} {acc : List D} {avs : List V} {F : Addr → Prop} {μ : List Addr} {S : Sto} {H : Hp} (a : Aft G F0 μ0 S0 H0 Dn acc avs F μ S H) (go : Go G W σ Pr F μ S (off Dn H) ((noExc r).bind k)) :
    Go G WF σ (fun F2 μ2 H2 S2 x => Aft G F0 μ0 S0 H0 Dn acc avs F2 μ2 S2 H2 ∧ Keep F F2 μ μ2 H H2 ∧ Go G W σ Pr F2 μ2 S2 (off Dn H2) (k x S2)) F μ S H r := by
  cases r with
  | ok x S' => exact fun F2 μ2 H2 ex r2 => ⟨a.step ex r2, ex.keep a.rs, Go.ext (show Go G W σ Pr F μ S (off Dn H) (k x S') from go) (a.hid.extOff ex)⟩
  | exc c fs S' => exact go.elim
  | stk => exact go.elim
/-- in the midst of the turns -/
def CW (G : Gi) (W : WX) (σ : L2.St) (Pq : (Addr → Prop) → List Addr → Hp → Sto → List D → Prop) (F0 : Addr → Prop) (μ0 : List Addr) (S0 : Sto) (H0 : Hp) (Dn : Addr) (Fb : Addr → Prop) (μb : List Addr) (Hb : Hp) (items : List D) (k : List D → List D → Sto → Res (List D)) : Nat → Nat → Hp → Prop :=
  fun i n H => n + i = items.length ∧ ∃ F μ S acc avs, Aft G F0 μ0 S0 H0 Dn acc avs F μ S H ∧ Keep Fb F μb μ Hb H ∧ Go G W σ Pq F μ S (off Dn H) (k (items.drop i) acc S)
theorem drop_get {α : Type} {xs : List α} {i : Nat} {x : α} (h : xs[i]? = some x) : xs.drop i = x :: xs.drop (i + 1) := by
  obtain ⟨hl, he⟩ := List.getElem?_eq_some_iff.mp h
  rw [List.drop_eq_getElem_cons hl, he]
theorem Keep.trans {F1 F2 F3 : Addr → Prop} {μ1 μ2 μ3 : List Addr} {H1 H2 H3 : Hp} (a : Keep F1 F2 μ1 μ2 H1 H2) (b : Keep F2 F3 μ2 μ3 H2 H3) : Keep F1 F3 μ1 μ3 H1 H3 :=
  ⟨fun x h => b.fz x (a.fz x h), fun n x h => b.mu n x (a.mu n x h), fun x o h c => b.ob x o (a.ob x o h c) (c.imp (a.fz x) id)⟩
/-- a turn: the target set, the test, the value -/
theorem turn_reads {Nx : Hp → Prop} {vs : List Nat} {tn : Tn} {cond : Oe} {ee : Ex} {ρ : Env} {σ0 : L2.St} {k : List D → Sto → Res (List D)} {Fs : Addr → Prop} {μs : List Addr} {Hs : Hp} {acc : List D} {avs : List V} {F : Addr → Prop} {μ : List Addr} {S : Sto} {H : Hp} {d : D} {x : V}
    (hD : H0 Dn = none) (hvs : ∀ i ∈ tnIx tn, i ∈ vs) (rs : RepS G F μ H S) (re : RepE G F μ H ρ σ0) (rx : Rep G F μ H d x)
    (go : Go G WF σ (QT G W σ Pq F0 μ0 S0 H0 Dn acc avs k Fs μs Hs) F μ S H (onO (asgT tn d (wipeE ρ vs)) (fun ρ' S => (evC P cf cond ρ' S).bind fun b S => someB b (fun S => evE P cf ee ρ' S) S) S))
    (hN : ∀ F μ S H acc' avs', Aft G F0 μ0 S0 H0 Dn acc' avs' F μ S H → Keep Fs F μs μ Hs H → Go G W σ Pq F μ S (off Dn H) (k acc' S) → Nx H) :
    gT G tn x (wipe σ0 vs) H fun σ2 H2 => wipe σ2 vs = wipe σ0 vs ∧ tCo G WF (evC P cf cond) σ2 H2 fun b H3 =>
      if b = true then TD G WF P cf ee σ2 H3 fun y H4 => ∃ acc, H4 Dn = some (.lst acc) ∧ acc.length < sizeLine ∧ Nx (upd H4 Dn (.lst (acc ++ [y]))) else Nx H3 := by
  obtain ⟨ρ', ha, g5⟩ := Go.onO go
  refine ⟨F, μ, S, wipeE ρ vs, d, ρ', rs, re.wipe vs, rx, ha, fun σ2 re2 ag => ⟨(ag.wipe hvs).trans (wipe_wipe σ0 vs), ?_⟩⟩
  refine At.weakC (Go.bC rs re2 (Go.sig g5)) fun b H3 ⟨F3, μ3, S3, r4, re3, g6⟩ => ?_
  cases b with
  | true =>
    rw [if_pos rfl]
    refine At.weak (Go.b1 r4 re3 g6) fun y H4 ⟨F4, μ4, S4, e, r5, re4, k4, ry, g7⟩ => ?_
    obtain ⟨a5, kp, hlt, g8⟩ := Go.now g7 r5
    exact ⟨avs, a5.hid.at_, by rw [← a5.ra.length]; exact hlt _ rfl, hN _ _ _ _ _ _ (a5.push hD ry) (kp.trans a5.hid.keepUpd) (by rw [off_upd']; exact g8)⟩
  | false =>
    rw [if_neg Bool.false_ne_true]
    obtain ⟨a5, kp, hlt, g8⟩ := Go.now g6 r4
    exact hN _ _ _ _ _ _ a5 kp g8
theorem comp_reads {vs : List Nat} {tn : Tn} {it : It} {cond : Oe} {ee : Ex} {m : Bool} {H : Hp} {Q : VK} (hvs : ∀ i ∈ tnIx tn, i ∈ vs) (h : TD G W P cf (.comp m vs tn it cond ee) σ H Q) :
    tLc (tI G W (evI P cf it)) (gT G tn) (tCo G WF (evC P cf cond)) (TD G WF P cf ee) vs σ H Q := by
  obtain ⟨Fz, μ, ρ, S, rs, re, go⟩ := h
  rw [evE] at go
  refine At.weakI (Go.bI rs re go) fun J H1 ⟨F1, μ1, S1, src, r1, e1, k1, sj, go1⟩ Dn hD => ?_
  have go2 : Go G W σ (fun F' μ' H' S' ds => RepS G F' μ' H' S' ∧ Go G W σ (qV G Q) F' μ' S' H' (newL m ds S')) F1 μ1 S1 H1 _ := go1.bind fun a S' F' μ' H' e r g => ⟨r, g⟩
  refine ⟨CW G W σ _ F1 μ1 S1 H1 Dn F1 μ1 H1 src.items fun l acc S => compGo src.chk _ l acc S, ⟨src.items.length, rfl, F1, μ1, S1, [], [], ⟨reps_new r1 hD, ext_new hD, ⟨upd_same, r1.nofz hD, r1.nolive hD⟩, by simp only [Reps]⟩, keep_upd hD, by rw [off_upd hD]; exact go2⟩, ?_⟩
  intro i n H2 ⟨hn, F, μ', S2, acc, avs, a2, kp, g2⟩
  cases hx : src.items[i]? with
  | none =>
    have hl := List.getElem?_eq_none_iff.mp hx
    rw [List.drop_eq_nil_of_le hl] at g2
    simp only [compGo] at g2
    obtain ⟨hc, g3⟩ := g2.if
    refine .inl ⟨(sj F μ' S2 H2 kp a2.rs hc).1 i hl, ?_⟩
    obtain ⟨_, g4⟩ := Go.now g3 (a2.hid.repsOff a2.rs)
    have q := g4.newL (a2.hid.repsOff a2.rs) (Reps.keep a2.hid.keepOff _ _ a2.ra) (p := Dn) (by simp [off])
    rw [upd_off a2.hid.at_] at q
    exact q
  | some d =>
    rw [drop_get hx] at g2
    obtain ⟨hc, g3⟩ := compGo_step a2 g2
    have sjx := (sj F μ' S2 H2 kp a2.rs hc).2 i d hx
    have hi := (List.getElem?_eq_some_iff.mp hx).1
    refine .inr ⟨sjx.1, _, fun H' z => z, fun x H' hy => ?_⟩
    obtain ⟨ex, r3, rx⟩ := sjx.2 x H' hy
    exact turn_reads hD hvs r3 (e1.keep (kp.trans (ex.keep a2.rs))) rx (Go.ext g3 ex) fun F5 μ5 S5 H5 acc' avs' a5 k5 g8 => ⟨n - 1, by omega, by omega, F5, μ5, S5, acc', avs', a5, kp.trans k5, g8⟩
theorem compGo2_step {g : D → List D → Sto → Res (List D)} {x : D} {xs acc : List D} {F : Addr → Prop} {μ : List Addr} {S : Sto} {H : Hp} (rs : RepS G F μ H S) (go : Go G W σ Pq F μ S H (compGo2 chk g (x :: xs) acc S)) :
    chkOk chk S = true ∧ Go G WF σ (fun F2 μ2 H2 S2 acc' => RepS G F2 μ2 H2 S2 ∧ Go G W σ Pq F2 μ2 S2 H2 (compGo2 chk g xs acc' S2)) F μ S H (g x acc S) := by
  rw [compGo2] at go
  obtain ⟨hc, go⟩ := go.if
  refine ⟨hc, ?_⟩
  cases e : g x acc S with
  | ok l S' => rw [e] at go; exact fun F2 μ2 H2 ex r2 => ⟨r2, Go.ext (show Go G W σ Pq F μ S H (compGo2 chk g xs l S') from go) ex⟩
  | exc c fs S' => rw [e] at go; exact go.elim
  | stk => rw [e] at go; exact go.elim
theorem comp2_reads {vs : List Nat} {tn tn1 : Tn} {it it1 : It} {cond : Oe} {ee : Ex} {m : Bool} {H : Hp} {Q : VK} (hvs : ∀ i ∈ tnIx tn, i ∈ vs) (h : TD G W P cf (.comp2 m vs tn it tn1 it1 cond ee) σ H Q) :
    tLc2 (tI G W (evI P cf it)) (gT G tn) tYes (tI G WF (evI P cf it1)) (gT G tn1) (tCo G WF (evC P cf cond)) (TD G WF P cf ee) vs (tnIx tn1) σ H Q := by
  obtain ⟨Fz, μ, ρ, S, rs, re, go⟩ := h
  rw [evE] at go
  refine At.weakI (Go.bI rs re go) fun J H1 ⟨F1, μ1, S1, src, r1, e1, k1, sj, go1⟩ Dn hD => ?_
  have go2 : Go G W σ (fun F' μ' H' S' ds => RepS G F' μ' H' S' ∧ Go G W σ (qV G Q) F' μ' S' H' (newL m ds S')) F1 μ1 S1 H1 _ := go1.bind fun a S' F' μ' H' e r g => ⟨r, g⟩
  refine ⟨CW G W σ _ F1 μ1 S1 H1 Dn F1 μ1 H1 src.items fun l acc S => compGo2 src.chk _ l acc S, ⟨src.items.length, rfl, F1, μ1, S1, [], [], ⟨reps_new r1 hD, ext_new hD, ⟨upd_same, r1.nofz hD, r1.nolive hD⟩, by simp only [Reps]⟩, keep_upd hD, by rw [off_upd hD]; exact go2⟩, ?_⟩
  intro i n H2 ⟨hn, F, μ', S2, acc, avs, a2, kp, g2⟩
  cases hx : src.items[i]? with
  | none =>
    have hl := List.getElem?_eq_none_iff.mp hx
    rw [List.drop_eq_nil_of_le hl] at g2
    simp only [compGo2] at g2
    obtain ⟨hc, g3⟩ := g2.if
    refine .inl ⟨(sj F μ' S2 H2 kp a2.rs hc).1 i hl, ?_⟩
    obtain ⟨_, g4⟩ := Go.now g3 (a2.hid.repsOff a2.rs)
    have q := g4.newL (a2.hid.repsOff a2.rs) (Reps.keep a2.hid.keepOff _ _ a2.ra) (p := Dn) (by simp [off])
    rw [upd_off a2.hid.at_] at q
    exact q
  | some d =>
    rw [drop_get hx] at g2
    obtain ⟨hc, g3⟩ := compGo2_step (a2.hid.repsOff a2.rs) g2
    have sjx := (sj F μ' S2 H2 kp a2.rs hc).2 i d hx
    have hi := (List.getElem?_eq_some_iff.mp hx).1
    refine .inr ⟨sjx.1, _, fun H' z => z, fun x H' hy => ?_⟩
    obtain ⟨ex, r3, rx⟩ := sjx.2 x H' hy
    have a3 := a2.step ex r3
    have kp3 := kp.trans (ex.keep a2.rs)
    obtain ⟨ρ', ha, g5⟩ := Go.onO (Go.ext g3 (a2.hid.extOff ex))
    refine ⟨F, μ', S2, wipeE ρ vs, d, ρ', r3, (e1.keep kp3).wipe vs, rx, ha, fun σ2 re2 ag => ⟨(ag.wipe hvs).trans (wipe_wipe σ vs), ?_⟩⟩
    unfold tYes
    dsimp only
    rw [if_pos rfl]
    have g6 := Go.inOff a3 g5
    refine show tI G WF (evI P cf it1) σ2 H' _ from ⟨F, μ', ρ', S2, r3, re2, ?_⟩
    refine goI_weak (Go.sig g6) fun F4 μ4 H4 S4 src1 ⟨a4, kp4, g7⟩ J1 sj1 => ?_
    refine ⟨CW G WF σ _ F1 μ1 S1 H1 Dn F4 μ4 H4 src1.items fun l acc S => compGo src1.chk _ l acc S, ⟨src1.items.length, rfl, F4, μ4, S4, acc, avs, a4, .refl, g7⟩, ?_⟩
    intro j k H5 ⟨hk, F5, μ5, S5, acc5, avs5, a5, kp5, g8⟩
    cases hy2 : src1.items[j]? with
    | none =>
      have hl := List.getElem?_eq_none_iff.mp hy2
      rw [List.drop_eq_nil_of_le hl] at g8
      simp only [compGo] at g8
      obtain ⟨hc, g9⟩ := g8.if
      refine .inl ⟨(sj1 F5 μ5 S5 H5 kp5 a5.rs hc).1 j hl, ?_⟩
      obtain ⟨_, g10⟩ := Go.now g9 (a5.hid.repsOff a5.rs)
      exact ⟨n - 1, by omega, by omega, F5, μ5, S5, acc5, avs5, a5, (kp3.trans kp4).trans kp5, g10⟩
    | some d2 =>
      rw [drop_get hy2] at g8
      obtain ⟨hc, g9⟩ := compGo_step a5 g8
      have sjy := (sj1 F5 μ5 S5 H5 kp5 a5.rs hc).2 j d2 hy2
      have hj := (List.getElem?_eq_some_iff.mp hy2).1
      refine .inr ⟨sjy.1, _, fun H' z => z, fun x2 H6 hy6 => ?_⟩
      obtain ⟨ex6, r6, rx6⟩ := sjy.2 x2 H6 hy6
      exact turn_reads hD (fun _ z => z) r6 (re2.keep ((kp4.trans kp5).trans (ex6.keep a5.rs))) rx6 (Go.ext g9 ex6) fun F7 μ7 S7 H7 acc' avs' a7 k7 g11 => ⟨k - 1, by omega, by omega, F7, μ7, S7, acc', avs', a7, kp5.trans k7, g11⟩
end
end QF
end

section
set_option maxHeartbeats 2000000
/-! QF17: statements. -/
namespace QF
open PySem L2
variable {G : Gi} {X : Cx} {P : Prg} {cf : Nat → List D → Sto → Res D} {E : XK}

/-- a wish of exceptions, whatever the frame -/
abbrev wE (E : XK) : WX := fun c d _ H => E c d H
theorem Go.sigE {α : Type} {σ σ' : L2.St} {Pq : (Addr → Prop) → List Addr → Hp → Sto → α → Prop} {Fz : Addr → Prop} {μ : List Addr} {S : Sto} {H : Hp} {r : Res α} (go : Go G (wE E) σ Pq Fz μ S H r) : Go G (wE E) σ' Pq Fz μ S H r := by
  cases r with
  | ok a S' => exact go
  | exc c fs S' => exact go
  | stk => exact go
/-- how a statement ends -/
def qF (G : Gi) (Dn : Ends) : (Addr → Prop) → List Addr → Hp → Sto → Fl → Prop := fun Fz μ H _ f => match f with
  | .nx ρ => ∀ σ, RepE G Fz μ H ρ σ → Dn.nx σ H
  | .rt d => ∀ v, Rep G Fz μ H d v → Dn.rt v H
  | .bk ρ => ∀ σ, RepE G Fz μ H ρ σ → Dn.bk σ H
  | .ct ρ => ∀ σ, RepE G Fz μ H ρ σ → Dn.ct σ H
def tS (G : Gi) (E : XK) (m : Env → Sto → Res Fl) : TS := fun Dn σ H => At G (wE E) m (qF G Dn) σ H
abbrev TSt (G : Gi) (E : XK) (P : Prg) (cf : Nat → List D → Sto → Res D) (s : QF.St) : TS := tS G E (evS P cf s)
abbrev TSs (G : Gi) (E : XK) (P : Prg) (cf : Nat → List D → Sto → Res D) (s : List QF.St) : TS := tS G E (evSs P cf s)

theorem tAsg_of {e : Ex} {tn : Tn} {Dn : Ends} {σ : L2.St} {H : Hp} (h : TSt G E P cf (.asg tn e) Dn σ H) : tAsg (TD G (wE E) P cf e) (gT G tn) Dn σ H := by
  obtain ⟨Fz, μ, ρ, S, rs, re, go⟩ := h
  rw [evS] at go
  refine At.weak (Go.b1 rs re go) fun x H1 ⟨F1, μ1, S1, d, r1, e1, k1, rd, go1⟩ => ?_
  obtain ⟨ρ', ha, g⟩ := Go.onO go1
  exact ⟨F1, μ1, S1, ρ, d, ρ', r1, e1, rd, ha, fun σ' re' _ => g.now r1 σ' re'⟩
theorem s_asg {tg e : Expr} {ee : Ex} {tn : Tn} {pos : Pos} (he : PE X e (TD G (wE E) P cf ee)) (hg : PG X tg (gT G tn)) (hs : swapsWithSole [tg] e pos.line X.env = pure false) (hw : swappedStores [tg] e X.env = pure none)
    (h1 : (assignEach [tg] X.env).map (·.2) = [assign tg X.env]) : PS X (.Assign [tg] e pos) (TSt G E P cf (.asg tn ee)) :=
  PS.imp (ps_asg he hg hs hw h1) fun Dn σ H h => tAsg_of h
theorem s_expr {e : Expr} {ee : Ex} {pos : Pos} (he : PE X e (TD G (wE E) P cf ee)) (hs : swapsWith e none pos.line X.env = pure false) : PS X (.Expr e pos) (TSt G E P cf (.expr ee)) :=
  PS.imp (ps_expr he hs) fun Dn σ H ⟨Fz, μ, ρ, S, rs, re, go⟩ => by
    rw [evS] at go
    refine At.weak (Go.b1 rs re go) fun x H1 ⟨F1, μ1, S1, d, r1, e1, k1, rd, go1⟩ => go1.now r1 σ e1
theorem s_ret {e : Expr} {ee : Ex} {pos : Pos} (he : PE X e (TD G (wE E) P cf ee)) : PS X (.Return (some e) pos) (TSt G E P cf (.ret ee)) :=
  PS.imp (ps_ret he) fun Dn σ H ⟨Fz, μ, ρ, S, rs, re, go⟩ => by
    rw [evS] at go
    refine At.weak (Go.b1 rs re go) fun x H1 ⟨F1, μ1, S1, d, r1, e1, k1, rd, go1⟩ => go1.now r1 x rd
theorem s_retN {pos : Pos} : PS X (.Return none pos) (TSt G E P cf .retN) :=
  PS.imp ps_retN fun Dn σ H ⟨Fz, μ, ρ, S, rs, re, go⟩ => by
    rw [evS] at go
    exact go.now rs .non (by simp only [Rep])
theorem s_pass {pos : Pos} : PS X (.Pass pos) (TSt G E P cf .pass) :=
  PS.imp ps_pass fun Dn σ H ⟨Fz, μ, ρ, S, rs, re, go⟩ => by
    rw [evS] at go
    exact go.now rs σ re
theorem s_brk {pos : Pos} : PS X (.Break pos) (TSt G E P cf .brk) :=
  PS.imp ps_break fun Dn σ H ⟨Fz, μ, ρ, S, rs, re, go⟩ => by
    rw [evS] at go
    exact go.now rs σ re
theorem s_cont {pos : Pos} : PS X (.Continue pos) (TSt G E P cf .cont) :=
  PS.imp ps_continue fun Dn σ H ⟨Fz, μ, ρ, S, rs, re, go⟩ => by
    rw [evS] at go
    exact go.now rs σ re
theorem s_nil : PSs X [] (TSs G E P cf []) :=
  PSs.imp pss_nil fun Dn σ H ⟨Fz, μ, ρ, S, rs, re, go⟩ => by
    rw [evSs] at go
    exact go.now rs σ re
/-- what comes behind a statement that goes on -/
theorem qF_then {Dn Dn' : Ends} {k : Env → Sto → Res Fl} {σ : L2.St} {Fz : Addr → Prop} {μ : List Addr} {S : Sto} {H : Hp} {r : Res Fl} (go : Go G (wE E) σ (qF G Dn) Fz μ S H (r.bind fun f S => nextB k f S))
    (hn : ∀ Fz μ H S ρ σ, RepS G Fz μ H S → RepE G Fz μ H ρ σ → Go G (wE E) σ (qF G Dn) Fz μ S H (k ρ S) → Dn'.nx σ H) (hr : Dn'.rt = Dn.rt) (hb : Dn'.bk = Dn.bk) (hc : Dn'.ct = Dn.ct) : Go G (wE E) σ (qF G Dn') Fz μ S H r :=
  go.bind fun f S' F' μ' H' e r' g => by
    cases f with
    | nx ρ => exact fun σ' re' => hn _ _ _ _ ρ σ' r' re' (Go.sigE g)
    | rt d => exact fun v rv => by rw [hr]; exact g.now r' v rv
    | bk ρ => exact fun σ' re' => by rw [hb]; exact g.now r' σ' re'
    | ct ρ => exact fun σ' re' => by rw [hc]; exact g.now r' σ' re'
theorem s_cons {st : Stmt} {rest : List Stmt} {s : QF.St} {ss : List QF.St} (h1 : PS X st (TSt G E P cf s)) (h2 : PSs X rest (TSs G E P cf ss)) : PSs X (st :: rest) (TSs G E P cf (s :: ss)) :=
  PSs.imp (pss_cons h1 h2) fun Dn σ H ⟨Fz, μ, ρ, S, rs, re, go⟩ => by
    rw [evSs] at go
    exact ⟨Fz, μ, ρ, S, rs, re, qF_then go (fun Fz μ H S ρ σ r e g => ⟨Fz, μ, ρ, S, r, e, g⟩) rfl rfl rfl⟩
theorem s_if {c : Expr} {a b : List Stmt} {ec : Ex} {sa sb : List QF.St} {pos : Pos} (hc : PT X c (TT' G (wE E) P cf ec)) (ha : PSs X a (TSs G E P cf sa)) (hb : PSs X b (TSs G E P cf sb)) : PS X (.If c a b pos) (TSt G E P cf (.ifs ec sa sb)) :=
  PS.imp (ps_if hc ha hb) fun Dn σ H ⟨Fz, μ, ρ, S, rs, re, go⟩ => by
    rw [evS] at go
    refine At.weakT (Go.bt onBK rs re go) fun c H1 ⟨F1, μ1, S1, r1, e1, k1, g1⟩ => ?_
    cases c with
    | true => rw [if_pos rfl]; exact ⟨F1, μ1, ρ, S1, r1, e1, g1⟩
    | false => rw [if_neg Bool.false_ne_true]; exact ⟨F1, μ1, ρ, S1, r1, e1, g1⟩
/-- in the midst of a for -/
def FW (G : Gi) (E : XK) (Dn : Ends) (Fb : Addr → Prop) (μb : List Addr) (Hb : Hp) (items : List D) (k : List D → Env → Sto → Res Fl) : Nat → Nat → L2.St → Hp → Prop :=
  fun i n σ H => n + i = items.length ∧ ∃ F μ S ρ, RepS G F μ H S ∧ RepE G F μ H ρ σ ∧ Keep Fb F μb μ Hb H ∧ Go G (wE E) σ (qF G Dn) F μ S H (k (items.drop i) ρ S)
theorem s_for {tg iter : Expr} {body : List Stmt} {it : QF.It} {tn : Tn} {sb : List QF.St} {pos : Pos} (hp : PassesOwn (model X.prog X.w) X.A X.env X.xe) (hc : X.calm = true) (hi : PI X tg iter (tI G (wE E) (evI P cf it))) (hg : PG X tg (gT G tn)) (hb : PSs X body (TSs G E P cf sb))
    (hs : ∀ x, foldedSetIterable iter X.env x = pure x) : PS X (.For tg iter body [] pos) (TSt G E P cf (.for_ tn it sb)) :=
  PS.imp (ps_for hp hc hi hg hb hs) fun Dn σ H ⟨Fz, μ, ρ, S, rs, re, go⟩ => by
    rw [evS] at go
    refine At.weakI (Go.bI rs re go) fun J H1 ⟨F1, μ1, S1, src, r1, e1, k1, sj, go1⟩ => ?_
    refine ⟨FW G E Dn F1 μ1 H1 src.items fun l ρ S => forGo src.chk tn _ l ρ S, ⟨src.items.length, rfl, F1, μ1, S1, ρ, r1, e1, .refl, go1⟩, ?_⟩
    intro i n σ2 H2 ⟨hn, F, μ', S2, ρ2, r2, e2, kp, g2⟩
    cases hx : src.items[i]? with
    | none =>
      have hl := List.getElem?_eq_none_iff.mp hx
      rw [List.drop_eq_nil_of_le hl] at g2
      simp only [forGo] at g2
      obtain ⟨hc, g3⟩ := g2.if
      exact .inl ⟨(sj F μ' S2 H2 kp r2 hc).1 i hl, g3.now r2 σ2 e2⟩
    | some d =>
      rw [drop_get hx] at g2
      simp only [forGo] at g2
      obtain ⟨hc, g3⟩ := g2.if
      have sjx := (sj F μ' S2 H2 kp r2 hc).2 i d hx
      have hi := (List.getElem?_eq_some_iff.mp hx).1
      refine .inr ⟨sjx.1, _, fun σ' H' z => z, fun x H' hy => ?_⟩
      obtain ⟨ex, r3, rx⟩ := sjx.2 x H' hy
      have kx := ex.keep r2
      obtain ⟨ρ', ha, g5⟩ := Go.onO (Go.ext g3 ex)
      refine ⟨F, μ', S2, ρ2, d, ρ', r3, e2.keep kx, rx, ha, fun σ3 re3 _ => ⟨F, μ', ρ', S2, r3, re3, ?_⟩⟩
      refine (Go.sigE g5 : Go G (wE E) σ3 _ _ _ _ _ _).bind fun f S' F' μ2 H4 e r' g => ?_
      cases f with
      | nx ρ4 => exact fun σ4 re4 => ⟨n - 1, by omega, by omega, F', μ2, S', ρ4, r', re4, (kp.trans kx).trans (e.keep r3), Go.sigE g⟩
      | ct ρ4 => exact fun σ4 re4 => ⟨n - 1, by omega, by omega, F', μ2, S', ρ4, r', re4, (kp.trans kx).trans (e.keep r3), Go.sigE g⟩
      | bk ρ4 => exact fun σ4 re4 => g.now r' σ4 re4
      | rt d => exact fun v rv => g.now r' v rv
theorem s_while {c : Expr} {body : List Stmt} {ec : Ex} {sb : List QF.St} {pos : Pos} (hp : PassesOwn (model X.prog X.w) X.A X.env X.xe) (hc : PT X c (TT' G (wE E) P cf ec)) (hb : PSs X body (TSs G E P cf sb)) : PS X (.While c body [] pos) (TSt G E P cf (.while_ ec sb)) :=
  PS.imp (ps_while hp hc hb) fun Dn σ H ⟨Fz, μ, ρ, S, rs, re, go⟩ => by
    rw [evS] at go
    refine ⟨fun m σ H => ∃ F μ S ρ, RepS G F μ H S ∧ RepE G F μ H ρ σ ∧ Go G (wE E) σ (qF G Dn) F μ S H (whileGo (fun ρ S => evE P cf ec ρ S) (fun ρ S => evSs P cf sb ρ S) m ρ S), ⟨P.lf, Fz, μ, S, ρ, rs, re, go⟩, ?_⟩
    intro m σ2 H2 ⟨F, μ2, S2, ρ2, r2, e2, g2⟩
    cases m with
    | zero => exact g2.elim
    | succ m =>
      rw [whileGo] at g2
      refine At.weakT (Go.bt onBK r2 e2 g2) fun c H3 ⟨F3, μ3, S3, r3, e3, k3, g3⟩ => ?_
      cases c with
      | false => rw [if_neg Bool.false_ne_true]; exact Go.now g3 r3 σ2 e3
      | true =>
        rw [if_pos rfl]
        refine ⟨_, fun σ' H' z => z, F3, μ3, ρ2, S3, r3, e3, ?_⟩
        have g4 : Go G (wE E) σ2 (qF G Dn) F3 μ3 S3 H3 ((evSs P cf sb ρ2 S3).bind fun f S => turnF (whileGo (fun ρ S => evE P cf ec ρ S) (fun ρ S => evSs P cf sb ρ S) m) f S) := g3
        refine g4.bind fun f S' F' μ4 H4 e r' g => ?_
        cases f with
        | nx ρ4 => exact fun σ4 re4 => ⟨m, Nat.lt_succ_self m, F', μ4, S', ρ4, r', re4, Go.sigE g⟩
        | ct ρ4 => exact fun σ4 re4 => ⟨m, Nat.lt_succ_self m, F', μ4, S', ρ4, r', re4, Go.sigE g⟩
        | bk ρ4 => exact fun σ4 re4 => g.now r' σ4 re4
        | rt d => exact fun v rv => g.now r' v rv
end QF
end

section
set_option maxHeartbeats 2000000
/-! QF18: stores into things, name op= value, several names at once. -/
namespace QF
open PySem L2
variable {G : Gi} {X : Cx} {P : Prg} {cf : Nat → List D → Sto → Res D} {E : XK}

def rAug (G : Gi) (o : Op) : TIp := fun x y H Q => ∃ W σ Fz μ S d e, RepS G Fz μ H S ∧ Rep G Fz μ H d x ∧ Rep G Fz μ H e y ∧ Go G W σ (qV G Q) Fz μ S H (augD o d e S)
theorem Go.val {W : WX} {σ : L2.St} {Fz : Addr → Prop} {μ : List Addr} {S : Sto} {H : Hp} {Q : VK} {d : D} (go : Go G W σ (qV G Q) Fz μ S H (.ok d S)) : Gv G Q Fz μ S H d S := go
theorem pip_any (hK : X.K = G.K) (o : Op) : PIp X (opOf o) (rAug G o) := by
  intro pins s σ0 H x y v u Q I rx ry ⟨W, σ, Fz, μ, S, d, e, rs, rd, re, go⟩
  cases o <;> simp only [augD] at go <;> try exact go.elim
  · cases d <;> simp only at go <;> try exact go.elim
    · obtain ⟨b, rfl, g⟩ := Go.onI go
      simp only [Rep] at rd re
      subst rd re
      exact ip_add pins s σ0 H _ _ v u Q I rx ry ⟨_, _, rfl, rfl, (Go.val g).int rs⟩
    · cases e <;> simp only at go <;> try exact go.elim
      obtain ⟨z, hz, g⟩ := Go.opt go
      simp only [binOp, cat] at hz
      split at hz
      · rename_i hl
        cases hz
        simp only [Rep] at rd re
        subst rd re
        refine iop_add_str pins s σ0 H _ _ v u Q I rx ry ⟨_, _, rfl, rfl, by rw [txt_length, txt_length]; exact hl, ?_⟩
        rw [txt_append]
        exact g.str rs
      · cases hz
    · rename_i n
      obtain ⟨p, hp, go⟩ := Go.onO go
      obtain ⟨m, ob⟩ := p
      obtain ⟨hm, h1⟩ := thing_eq hp
      cases hm
      cases ob <;> simp only at go <;> try exact go.elim
      rename_i ds
      obtain ⟨w, hw, go⟩ := Go.onO go
      cases w <;> simp only at go <;> try exact go.elim
      rename_i es
      obtain ⟨hl, go⟩ := go.if
      obtain ⟨a, rfl, ha, vs, e1, e2⟩ := loc_at rs rd h1
      obtain ⟨b, ws, rfl, e3, e4⟩ := vw_of rs re hw
      refine iop_ext pins s σ0 H _ _ v u Q I rx ry ⟨a, b, vs, ws, rfl, rfl, e1, e3, by rw [← e2.length, ← e4.length]; exact of_decide_eq_true hl, ?_⟩
      have k := (ext_set (Fz := Fz) (x := .lst (ds ++ es)) (u := .lst (vs ++ ws)) (H := H) h1 (by simp) ha).keep rs
      refine (show Gv G Q Fz μ S H _ _ from go) Fz μ _ (ext_set h1 (by simp) ha) (reps_set rs h1 (by simp) ha ⟨_, upd_same, Reps.keep k _ _ (e2.append e4)⟩) _ ?_
      simp only [Rep]
      exact ⟨a, rfl, ha⟩
  · cases d <;> simp only at go <;> try exact go.elim
    obtain ⟨b, rfl, g⟩ := Go.onI go
    simp only [Rep] at rd re
    subst rd re
    exact ip_sub pins s σ0 H _ _ v u Q I rx ry ⟨_, _, rfl, rfl, (Go.val g).int rs⟩
theorem RepE.var {Fz : Addr → Prop} {μ : List Addr} {H : Hp} {ρ : Env} {σ : L2.St} (h : RepE G Fz μ H ρ σ) {W : WX} {τ : L2.St} {α : Type} {Pq : (Addr → Prop) → List Addr → Hp → Sto → α → Prop} {S : Sto} {i : Nat} {k : D → Sto → Res α} (go : Go G W τ Pq Fz μ S H ((evE P cf (.var i) ρ S).bind k)) :
    ∃ d v, σ[i]? = some (some v) ∧ Rep G Fz μ H d v ∧ Go G W τ Pq Fz μ S H (k d S) := by
  rw [evE] at go
  cases e : ρ[i]? with
  | none => rw [e] at go; exact go.elim
  | some o =>
    rw [e] at go
    cases o with
    | none => exact go.elim
    | some d =>
      obtain ⟨v, hv, r⟩ := h.2 i d e
      exact ⟨d, v, hv, r, go⟩
theorem asgT_name {i : Nat} {d : D} {ρ ρ' : Env} (h : asgT (.name i) d ρ = some ρ') : ρ' = ρ.set i (some d) := by
  simp only [asgT] at h
  split at h
  · cases h; rfl
  · cases h
theorem s_aug {i : Nat} {x : Str} {e : Expr} {ee : Ex} {o : Op} {pos' pos : Pos} (hK : X.K = G.K) (hN : X.N.Nodup) (hi : X.N[i]? = some x) (hx : Loc X.env.scope x) (hf : X.fn x = true ∨ X.env.scope.names.lookup x = some .local) (he : PE X e (TD G (wE E) P cf ee)) :
    PS X (.AugAssign (.Name x pos') (opOf o) e pos) (TSt G E P cf (.aug i o ee)) :=
  PS.imp (ps_aug hN hi hx he (pip_any hK o) hf) fun Dn σ H ⟨Fz, μ, ρ, S, rs, re, go⟩ => by
    rw [evS] at go
    obtain ⟨d, v, hv, rd, go1⟩ := re.var go
    refine ⟨v, hv, At.weak (Go.b1 rs re go1) fun y H1 ⟨F1, μ1, S1, ey, r1, e1, k1, ry, go2⟩ => ?_⟩
    refine ⟨wE E, σ, F1, μ1, S1, d, ey, r1, Rep.keep k1 _ _ rd, ry, go2.bind fun z S' F' μ' H' ex r' g w rw' => ?_⟩
    obtain ⟨ρ', ha, g'⟩ := Go.onO g
    obtain rfl := asgT_name ha
    exact g'.now r' _ ((e1.keep (ex.keep r1)).set i rw')
/-- o[k] = z, by the evaluator -/
def rSet (G : Gi) : TSet := fun o i v H Qh => ∃ W σ Fz μ S d k z, RepS G Fz μ H S ∧ Rep G Fz μ H d o ∧ Rep G Fz μ H k i ∧ Rep G Fz μ H z v ∧ Go G W σ (fun _ _ H _ (_ : Unit) => Qh H) Fz μ S H (setD d k z S)
theorem putM_length (k v : D) : ∀ {ks vs : List D}, ks.length = vs.length → (putM k v ks vs).length = ks.length
  | [], [], _ => rfl
  | _ :: ks, _ :: vs, h => by simp only [putM, List.length_cons, putM_length k v (Nat.succ.inj h)]
  | [], _ :: _, h => by cases h
  | _ :: _, [], h => by cases h
theorem any_keys {κ : Type} [DecidableEq κ] (f : D → Option κ) (hf : ∀ a b x y, f a = some x → f b = some y → eqv a b = decide (x = y)) {k : D} {x : κ} (hk : f k = some x) :
    ∀ {ks : List D} {kk : List κ} {vs : List V}, allOf f ks = some kk → kk.length = vs.length → (ks.any fun y => eqv y k) = (kk.zip vs).any fun kv => decide (kv.1 = x)
  | [], kk, vs, h, _ => by simp only [allOf] at h; cases h; rfl
  | a :: ks, kk, vs, h, hl => by
    simp only [allOf] at h
    cases ea : f a with
    | none => rw [ea] at h; cases h
    | some b =>
      rw [ea] at h
      cases er : allOf f ks with
      | none => rw [er] at h; cases h
      | some bs =>
        rw [er] at h; cases h
        cases vs with
        | nil => cases hl
        | cons w ws => simp only [List.any_cons, List.zip_cons_cons, hf a k b x ea hk, any_keys f hf hk er (Nat.succ.inj hl)]
theorem putM_rep {κ : Type} [DecidableEq κ] (f : D → Option κ) (hf : ∀ a b x y, f a = some x → f b = some y → eqv a b = decide (x = y)) {k z : D} {x : κ} {v : V} (hk : f k = some x) {Fz : Addr → Prop} {μ : List Addr} {H : Hp} (rz : Rep G Fz μ H z v) :
    ∀ {ks ws : List D} {kk : List κ} {vs : List V}, allOf f ks = some kk → Reps G Fz μ H ws vs → kk.length = vs.length →
      ∃ vs', Reps G Fz μ H (putM k z ks ws) vs' ∧ kk.length = vs'.length ∧ (kk.zip vs).map (fun kv => if kv.1 = x then (kv.1, v) else kv) = kk.zip vs'
  | [], ws, kk, vs, h, r, hl => by
    simp only [allOf] at h; cases h
    refine ⟨[], ?_, rfl, by simp⟩
    cases ws <;> simp only [putM, Reps]
  | a :: ks, ws, kk, vs, h, r, hl => by
    simp only [allOf] at h
    cases ea : f a with
    | none => rw [ea] at h; cases h
    | some b =>
      rw [ea] at h
      cases er : allOf f ks with
      | none => rw [er] at h; cases h
      | some bs =>
        rw [er] at h; cases h
        cases ws with
        | nil => simp only [Reps] at r; subst r; cases hl
        | cons w ws =>
          simp only [Reps] at r
          obtain ⟨w', vr, rfl, r1, r2⟩ := r
          obtain ⟨vs', q1, q2, q3⟩ := putM_rep f hf hk rz er r2 (Nat.succ.inj hl)
          refine ⟨(if b = x then v else w') :: vs', ?_, by simp [q2], ?_⟩
          · simp only [putM, Reps]
            refine ⟨_, _, rfl, ?_, q1⟩
            rw [hf a k b x ea hk]
            by_cases e : b = x
            · simp only [e, decide_true, if_true]; exact rz
            · simp only [e, decide_false, if_false, Bool.false_eq_true]; exact r1
          · simp only [List.zip_cons_cons, List.map_cons, q3]
            split <;> rfl
theorem allOf_app {α β : Type} (f : α → Option β) {a : α} {b : β} (ha : f a = some b) : ∀ {as : List α} {bs : List β}, allOf f as = some bs → allOf f (as ++ [a]) = some (bs ++ [b])
  | [], bs, h => by simp only [allOf] at h; cases h; simp [allOf, ha]
  | c :: as, bs, h => by
    simp only [allOf] at h
    cases ec : f c with
    | none => rw [ec] at h; cases h
    | some d =>
      rw [ec] at h
      cases er : allOf f as with
      | none => rw [er] at h; cases h
      | some ds => rw [er] at h; cases h; simp [allOf, ec, allOf_app f ha er]
theorem put_rep {κ : Type} [DecidableEq κ] (f : D → Option κ) (hf : ∀ a b x y, f a = some x → f b = some y → eqv a b = decide (x = y)) {k z : D} {x : κ} {v : V} (hk : f k = some x) {Fz : Addr → Prop} {μ : List Addr} {H : Hp} (rz : Rep G Fz μ H z v)
    {ks ws : List D} {kk : List κ} {vs : List V} (h : allOf f ks = some kk) (r : Reps G Fz μ H ws vs) (hl : kk.length = vs.length) :
    ∃ kk' vs', allOf f (put k z ks ws).1 = some kk' ∧ Reps G Fz μ H (put k z ks ws).2 vs' ∧ kk'.length = vs'.length ∧ putK (kk.zip vs) x v = kk'.zip vs' := by
  unfold put putK
  rw [any_keys f hf hk h hl]
  by_cases c : ((kk.zip vs).any fun kv => decide (kv.1 = x)) = true
  · rw [if_pos c, if_pos c]
    obtain ⟨vs', q1, q2, q3⟩ := putM_rep f hf hk rz h r hl
    exact ⟨kk, vs', h, q1, q2, q3⟩
  · rw [if_neg c, if_neg c]
    exact ⟨kk ++ [x], vs ++ [v], allOf_app f hk h, r.append (.one rz), by simp [hl], by rw [List.zip_append hl]; rfl⟩
theorem set_any (hkt : ∀ d ∈ G.kt, keyOk true d = false) (hu : X.A.units + 1 < cLine) : PSet X (rSet G) := by
  intro pins s σ0 H o i v ov iv u Qh I ro ri rv ⟨W, σ, Fz, μ, S, d, k, z, rs, rd, rk, rz, go⟩
  unfold setD at go
  obtain ⟨⟨n, ob⟩, hp, go1⟩ := Go.onO go
  obtain ⟨ob', ho, go⟩ := Go.onO go1
  clear go1
  obtain ⟨rfl, h1⟩ := thing_eq hp
  clear hp
  obtain ⟨a, rfl, ha, rob⟩ := loc_at rs rd h1
  cases ob <;> simp only [setO, reduceCtorEq] at ho
  · rename_i ds
    cases k <;> simp only [reduceCtorEq] at ho
    rename_i j
    cases hj : ixI ds.length j with
    | none => rw [hj] at ho; cases ho
    | some jj =>
      rw [hj] at ho; cases ho
      obtain ⟨vs, e1, e2⟩ := rob
      simp only [Rep] at rk
      subst rk
      refine set_list pins s σ0 H _ _ v ov iv u Qh I ro ri rv ⟨a, vs, j, jj, rfl, rfl, e1, by rw [← e2.length, ← ixI_eq]; exact hj, ?_⟩
      have kp := (ext_set (Fz := Fz) (x := .lst (ds.set jj z)) (u := .lst (vs.set jj v)) (H := H) h1 (by simp) ha).keep rs
      exact go Fz μ _ (ext_set h1 (by simp) ha) (reps_set rs h1 (by simp) ha ⟨_, upd_same, Reps.keep kp _ _ (e2.set jj rz)⟩)
  · rename_i t ks ws
    split at ho
    · rename_i hc
      cases ho
      simp only [Bool.and_eq_true, decide_eq_true_eq] at hc
      cases ro
      obtain ⟨vs, e2, hh⟩ := rob
      rcases hh with ⟨rfl, kk, h3, h4, e1⟩ | ⟨⟨rfl, hxt⟩, kk, h3, h4, e1⟩
      · obtain ⟨x, hx, hv⟩ := kK_ok (G := G) (Fz := Fz) (μ := μ) (H := H) hc.1
        obtain ⟨kk', vs', q1, q2, q3, q4⟩ := put_rep kK (fun a b x y => kK_inj) hx rz h3 e2 h4
        obtain rfl := hv _ rk
        refine d_setItem hu I (DPut.k e1 (by rw [List.length_zip, ← h4, Nat.min_self, allOf_length h3]; exact hc.2)) ri rv fun s2 I2 => ⟨_, I2, ?_⟩
        rw [q4]
        have kp := (ext_set (Fz := Fz) (x := .dic false (put k z ks ws).1 (put k z ks ws).2) (u := .dK (kk'.zip vs')) (H := H) h1 (by simp) ha).keep rs
        exact go Fz μ _ (ext_set h1 (by simp) ha) (reps_set rs h1 (by simp) ha ⟨vs', Reps.keep kp _ _ q2, .inl ⟨rfl, kk', q1, q3, upd_same⟩⟩)
      · obtain ⟨x, hx, hv⟩ := kT_ok (G := G) (Fz := Fz) (μ := μ) (H := H) hkt hxt hc.1
        obtain ⟨kk', vs', q1, q2, q3, q4⟩ := put_rep kT (fun a b x y => kT_inj) hx rz h3 e2 h4
        obtain ⟨b, rfl, eb⟩ := hv _ rk
        refine d_setItem hu I (DPut.t e1 eb (by rw [List.length_zip, ← h4, Nat.min_self, allOf_length h3]; exact hc.2)) ri rv fun s2 I2 => ⟨_, I2, ?_⟩
        rw [q4]
        have kp := (ext_set (Fz := Fz) (x := .dic true (put k z ks ws).1 (put k z ks ws).2) (u := .dT (kk'.zip vs')) (H := H) h1 (by simp) ha).keep rs
        exact go Fz μ _ (ext_set h1 (by simp) ha) (reps_set rs h1 (by simp) ha ⟨vs', Reps.keep kp _ _ q2, .inr ⟨⟨rfl, hxt⟩, kk', q1, q3, upd_same⟩⟩)
    · cases ho
theorem s_sub {o i e : Expr} {eo ei ee : Ex} {pos' pos : Pos} (hkt : ∀ d ∈ G.kt, keyOk true d = false) (hu : X.A.units + 1 < cLine) (ho : PE X o (TD G (wE E) P cf eo)) (hi : PE X i (TD G (wE E) P cf ei)) (he : PE X e (TD G (wE E) P cf ee))
    (ha : ∀ v, assign (.Subscript o i pos') X.env v = (do
      let ov ← holding [v] (eval o X.env)
      let iv ← holding [v, ov] (eval i X.env)
      standAt pos'
      holding [v, ov, iv] (setItem ov iv v)
      release [v, ov, iv] [])) (hs : swapsWithSole [.Subscript o i pos'] e pos.line X.env = pure false) (hw : swappedStores [.Subscript o i pos'] e X.env = pure none) : PS X (.Assign [.Subscript o i pos'] e pos) (TSt G E P cf (.sub eo ei ee)) :=
  PS.imp (ps_asg he (pg_sub ho hi (set_any hkt hu) ha) hs hw) fun Dn σ H ⟨Fz, μ, ρ, S, rs, re, go⟩ => by
    rw [evS] at go
    refine At.weak (Go.b1 rs re go) fun x H1 ⟨F1, μ1, S1, z, r1, e1, k1, rz, go1⟩ => ?_
    refine At.weak (Go.b1 r1 e1 go1) fun y H2 ⟨F2, μ2, S2, d, r2, e2, k2, rd, go2⟩ => ?_
    refine At.weak (Go.b1 r2 e2 go2) fun w H3 ⟨F3, μ3, S3, k, r3, e3, k3, rk, go3⟩ => ?_
    exact ⟨wE E, σ, F3, μ3, S3, d, k, z, r3, Rep.keep k3 _ _ rd, rk, Rep.keep k3 _ _ (Rep.keep k2 _ _ rz), go3.bind fun _ S' F' μ' H' ex r' g => g.now r' σ (e3.keep (ex.keep r3))⟩
end QF
end

section
set_option maxHeartbeats 2000000
/-! QF19: several names at once; calls of defs; what a def promises. -/
namespace QF
open PySem L2
variable {G : Gi} {X : Cx} {P : Prg} {cf : Nat → List D → Sto → Res D} {E : XK}

theorem s_par2 {i j : Nat} {x y : Str} {a b : Expr} {ea eb : Ex} {px py pt pos : Pos} {kt k2 : Nat} {pt2 : Pos} (hc : X.calm = true) (hN : X.N.Nodup) (hi : X.N[i]? = some x) (hj : X.N[j]? = some y) (hij : i ≠ j)
    (hx : X.env.scope.names.lookup x = some .local) (hy : X.env.scope.names.lookup y = some .local) (ha : PA X [a, b] (TDs G (wE E) P cf (.cons ea (.cons eb .nil))))
    (hw : swappedStores [.Tuple [.Name x px, .Name y py] kt pt] (.Tuple [a, b] k2 pt2) X.env = pure (some [x, y])) (hs : swapsWithSole [.Tuple [.Name x px, .Name y py] kt pt] (.Tuple [a, b] k2 pt2) pos.line X.env = pure false) :
    PS X (.Assign [.Tuple [.Name x px, .Name y py] kt pt] (.Tuple [a, b] k2 pt2) pos) (TSt G E P cf (.par [i, j] (.cons ea (.cons eb .nil)))) :=
  PS.imp (ps_par hc hN hi hj hij hx hy ha hw hs) fun Dn σ H ⟨Fz, μ, ρ, S, rs, re, go⟩ => by
    rw [evS] at go
    refine At.weakL (Go.bs rs re go) fun vs H1 ⟨F1, μ1, S1, ds, r1, e1, k1, rds, go1⟩ => ?_
    obtain ⟨ρ', ha, g⟩ := Go.onO go1
    match ds, ha with
    | [d, e], ha =>
      obtain ⟨v, w, rfl, rv, rw'⟩ := reps_two rds
      simp only [setAll] at ha
      split at ha
      · split at ha
        · cases ha
          exact ⟨v, w, rfl, g.now r1 _ ((e1.set i rv).set j rw')⟩
        · cases ha
      · cases ha
    | [], ha => simp [setAll] at ha
    | [d], ha => simp [setAll] at ha
    | d :: e :: f :: ds, ha => simp [setAll] at ha
theorem reps_three {Fz : Addr → Prop} {μ : List Addr} {H : Hp} {d e f : D} {xs : List V} (h : Reps G Fz μ H [d, e, f] xs) : ∃ x y z, xs = [x, y, z] ∧ Rep G Fz μ H d x ∧ Rep G Fz μ H e y ∧ Rep G Fz μ H f z := by
  simp only [Reps] at h
  obtain ⟨x, r, rfl, h1, y, r2, rfl, h2, z, r3, rfl, h3, rfl⟩ := h
  exact ⟨x, y, z, rfl, h1, h2, h3⟩
theorem s_par3 {i j l : Nat} {x y z : Str} {a b c : Expr} {ea eb ec : Ex} {px py pz pt pos : Pos} {kt k2 : Nat} {pt2 : Pos} (hc : X.calm = true) (hN : X.N.Nodup) (hi : X.N[i]? = some x) (hj : X.N[j]? = some y) (hl : X.N[l]? = some z) (hij : i ≠ j) (hil : i ≠ l) (hjl : j ≠ l)
    (hx : X.env.scope.names.lookup x = some .local) (hy : X.env.scope.names.lookup y = some .local) (hz : X.env.scope.names.lookup z = some .local) (ha : PA X [a, b, c] (TDs G (wE E) P cf (.cons ea (.cons eb (.cons ec .nil)))))
    (hw : swappedStores [.Tuple [.Name x px, .Name y py, .Name z pz] kt pt] (.Tuple [a, b, c] k2 pt2) X.env = pure (some [x, y, z])) (hs : swapsWithSole [.Tuple [.Name x px, .Name y py, .Name z pz] kt pt] (.Tuple [a, b, c] k2 pt2) pos.line X.env = pure false) :
    PS X (.Assign [.Tuple [.Name x px, .Name y py, .Name z pz] kt pt] (.Tuple [a, b, c] k2 pt2) pos) (TSt G E P cf (.par [i, j, l] (.cons ea (.cons eb (.cons ec .nil))))) :=
  PS.imp (ps_par3 hc hN hi hj hl hij hil hjl hx hy hz ha hw hs) fun Dn σ H ⟨Fz, μ, ρ, S, rs, re, go⟩ => by
    rw [evS] at go
    refine At.weakL (Go.bs rs re go) fun vs H1 ⟨F1, μ1, S1, ds, r1, e1, k1, rds, go1⟩ => ?_
    obtain ⟨ρ', ha, g⟩ := Go.onO go1
    match ds, ha with
    | [d, e, f], ha =>
      obtain ⟨u, v, w, rfl, ru, rv, rw'⟩ := reps_three rds
      simp only [setAll] at ha
      split at ha
      · split at ha
        · split at ha
          · cases ha
            exact ⟨u, v, w, rfl, g.now r1 _ (((e1.set i ru).set j rv).set l rw')⟩
          · cases ha
        · cases ha
      · cases ha
    | [], ha => simp [setAll] at ha
    | [d], ha => simp [setAll] at ha
    | [d, e], ha => simp [setAll] at ha
    | d :: e :: f :: g :: ds, ha => simp [setAll] at ha

/-! ### values without things of the store; with things below n only -/
mutual
theorem Rep.flat {Fz : Addr → Prop} {μ ν : List Addr} {H : Hp} : ∀ (d : D) (v : V), d.flat = true → Rep G Fz μ H d v → Rep G Fz ν H d v
  | .non, v, _, h => by simp only [Rep] at h ⊢; exact h
  | .bl _, v, _, h => by simp only [Rep] at h ⊢; exact h
  | .int _, v, _, h => by simp only [Rep] at h ⊢; exact h
  | .str _, v, _, h => by simp only [Rep] at h ⊢; exact h
  | .tup ds, v, f, h => by
    simp only [Rep] at h ⊢
    simp only [D.flat] at f
    obtain ⟨a, vs, e, s, r⟩ := h
    exact ⟨a, vs, e, s, Reps.flat ds vs f r⟩
  | .pr ds, v, f, h => by
    simp only [Rep] at h ⊢
    simp only [D.flat] at f
    obtain ⟨a, vs, e, s, r⟩ := h
    exact ⟨a, vs, e, s, Reps.flat ds vs f r⟩
  | .lst ds, v, f, h => by
    simp only [Rep] at h ⊢
    simp only [D.flat] at f
    obtain ⟨a, vs, e, g, s, r⟩ := h
    exact ⟨a, vs, e, g, s, Reps.flat ds vs f r⟩
  | .dic t ks ws, v, f, h => by
    simp only [Rep] at h ⊢
    simp only [D.flat, Bool.and_eq_true] at f
    obtain ⟨a, vs, e, g, r, s⟩ := h
    exact ⟨a, vs, e, g, Reps.flat ws vs f.2 r, s⟩
  | .loc n, v, f, h => by simp [D.flat] at f
  | .fn _, v, _, h => by simp only [Rep] at h ⊢; exact h
  | .scr _, v, _, h => by simp only [Rep] at h ⊢; exact h
  | .exc _ _, v, _, h => by simp only [Rep] at h
theorem Reps.flat {Fz : Addr → Prop} {μ ν : List Addr} {H : Hp} : ∀ (ds : List D) (vs : List V), D.flats ds = true → Reps G Fz μ H ds vs → Reps G Fz ν H ds vs
  | [], vs, _, h => by simp only [Reps] at h ⊢; exact h
  | d :: ds, vs, f, h => by
    simp only [Reps] at h ⊢
    simp only [D.flats, Bool.and_eq_true] at f
    obtain ⟨v, r, e, h1, h2⟩ := h
    exact ⟨v, r, e, Rep.flat d v f.1 h1, Reps.flat ds r f.2 h2⟩
end
mutual
theorem Rep.under {Fz : Addr → Prop} {μ : List Addr} {H : Hp} (n : Nat) : ∀ (d : D) (v : V), d.under n = true → Rep G Fz μ H d v → Rep G Fz (μ.take n) H d v
  | .non, v, _, h => by simp only [Rep] at h ⊢; exact h
  | .bl _, v, _, h => by simp only [Rep] at h ⊢; exact h
  | .int _, v, _, h => by simp only [Rep] at h ⊢; exact h
  | .str _, v, _, h => by simp only [Rep] at h ⊢; exact h
  | .tup ds, v, f, h => by
    simp only [Rep] at h ⊢
    simp only [D.under] at f
    obtain ⟨a, vs, e, s, r⟩ := h
    exact ⟨a, vs, e, s, Reps.under n ds vs f r⟩
  | .pr ds, v, f, h => by
    simp only [Rep] at h ⊢
    simp only [D.under] at f
    obtain ⟨a, vs, e, s, r⟩ := h
    exact ⟨a, vs, e, s, Reps.under n ds vs f r⟩
  | .lst ds, v, f, h => by
    simp only [Rep] at h ⊢
    simp only [D.under] at f
    obtain ⟨a, vs, e, g, s, r⟩ := h
    exact ⟨a, vs, e, g, s, Reps.under n ds vs f r⟩
  | .dic t ks ws, v, f, h => by
    simp only [Rep] at h ⊢
    simp only [D.under, Bool.and_eq_true] at f
    obtain ⟨a, vs, e, g, r, s⟩ := h
    exact ⟨a, vs, e, g, Reps.under n ws vs f.2 r, s⟩
  | .loc m, v, f, h => by
    simp only [Rep] at h ⊢
    simp only [D.under, decide_eq_true_eq] at f
    obtain ⟨a, e, hm⟩ := h
    exact ⟨a, e, by rw [List.getElem?_take_of_lt f]; exact hm⟩
  | .fn _, v, _, h => by simp only [Rep] at h ⊢; exact h
  | .scr _, v, _, h => by simp only [Rep] at h ⊢; exact h
  | .exc _ _, v, _, h => by simp only [Rep] at h
theorem Reps.under {Fz : Addr → Prop} {μ : List Addr} {H : Hp} (n : Nat) : ∀ (ds : List D) (vs : List V), D.unders n ds = true → Reps G Fz μ H ds vs → Reps G Fz (μ.take n) H ds vs
  | [], vs, _, h => by simp only [Reps] at h ⊢; exact h
  | d :: ds, vs, f, h => by
    simp only [Reps] at h ⊢
    simp only [D.unders, Bool.and_eq_true] at f
    obtain ⟨v, r, e, h1, h2⟩ := h
    exact ⟨v, r, e, Rep.under n d v f.1 h1, Reps.under n ds r f.2 h2⟩
end
theorem RepO.under {Fz : Addr → Prop} {μ : List Addr} {H : Hp} {a : Addr} (n : Nat) : ∀ (o : O), O.under n o = true → RepO G Fz μ H a o → RepO G Fz (μ.take n) H a o
  | .dead, _, _ => trivial
  | .lst ds, f, ⟨vs, e, r⟩ => ⟨vs, e, Reps.under n ds vs (by simpa [O.under] using f) r⟩
  | .dic t ks ws, f, ⟨vs, r, s⟩ => ⟨vs, Reps.under n ws vs (by simp only [O.under, Bool.and_eq_true] at f; exact f.2) r, s⟩
  | .ins _ _, _, h => h.elim
theorem live_take {S : Sto} {μ : List Addr} {n : Nat} {a : Addr} (h : Live (S.take n) (μ.take n) a) : Live S μ a := by
  obtain ⟨m, o, h1, h2, h3⟩ := h
  have hm : m < n := by
    by_cases q : m < n
    · exact q
    · have := (List.getElem?_eq_some_iff.mp h1).1; simp at this; omega
  rw [List.getElem?_take_of_lt hm] at h1 h3
  exact ⟨m, o, h1, h2, h3⟩
theorem reps_take {Fz : Addr → Prop} {μ : List Addr} {S : Sto} {H : Hp} (rs : RepS G Fz μ H S) (n : Nat) (h : (S.take n).all (O.under n) = true) : RepS G Fz (μ.take n) H (S.take n) where
  len := by simp [rs.len]
  obj := fun m o a h1 h3 => by
    have hm : m < n := by
      by_cases q : m < n
      · exact q
      · have := (List.getElem?_eq_some_iff.mp h1).1; simp at this; omega
    have hu : O.under n o = true := List.all_eq_true.mp h o (List.mem_of_getElem? h1)
    rw [List.getElem?_take_of_lt hm] at h1 h3
    exact RepO.under n o hu (rs.obj m o a h1 h3)
  uniq := fun m k a o o' h1 h2 h3 h4 h5 h6 => by
    have hm : m < n := by
      by_cases q : m < n
      · exact q
      · have := (List.getElem?_eq_some_iff.mp h3).1; simp at this; omega
    have hk : k < n := by
      by_cases q : k < n
      · exact q
      · have := (List.getElem?_eq_some_iff.mp h5).1; simp at this; omega
    rw [List.getElem?_take_of_lt hm] at h1 h3
    rw [List.getElem?_take_of_lt hk] at h2 h5
    exact rs.uniq m k a o o' h1 h2 h3 h4 h5 h6
  nfz := fun a l => rs.nfz a (live_take l)
  fzt := rs.fzt
theorem ext_take {Fz Fz' : Addr → Prop} {μ μ' : List Addr} {S S' : Sto} {H H' : Hp} (rs : RepS G Fz μ H S) (e : Ext Fz μ S H Fz' μ' S' H') : Ext Fz μ S H Fz' (μ'.take S.length) (S'.take S.length) H' where
  fz := e.fz
  newfz := e.newfz
  chg := e.chg
  newlive := fun a l => e.newlive a (live_take l)
  mu := fun n a h => by
    have hn : n < S.length := by rw [← rs.len]; exact (List.getElem?_eq_some_iff.mp h).1
    rw [List.getElem?_take_of_lt hn]; exact e.mu n a h
  there := e.there
theorem env_start {Fz : Addr → Prop} {μ : List Addr} {H : Hp} {ds : List D} {vs : List V} {N : List Str} {nl : Nat} (r : Reps G Fz μ H ds vs) (hn : N.length = nl) : RepE G Fz μ H (envOf nl ds) (start N vs) := by
  have hl := r.length
  refine ⟨by simp [envOf, L2.start, hl, hn], fun i d h => ?_⟩
  unfold envOf at h
  by_cases hi : i < ds.length
  · rw [List.getElem?_append_left (by simpa using hi), List.getElem?_map] at h
    cases e : ds[i]? with
    | none => rw [e] at h; cases h
    | some d' =>
      rw [e] at h; cases h
      obtain ⟨v, hv, rv⟩ := r.get e
      exact ⟨v, by unfold L2.start; rw [List.getElem?_append_left (by rw [List.length_map, ← hl]; exact hi), List.getElem?_map, hv]; rfl, rv⟩
  · rw [List.getElem?_append_right (by simpa using hi)] at h
    have := List.mem_of_getElem? h
    rw [List.mem_replicate] at this
    cases this.2
/-- what a def promises -/
def spF (G : Gi) (P : Prg) (n f : Nat) : Sp := fun vs H Q E => ∃ Fz μ S σ ds, RepS G Fz μ H S ∧ Reps G Fz μ H ds vs ∧ Go G (wE E) σ (qV G Q) Fz μ S H (evF P n f ds S)
theorem spF_len {n f : Nat} {fd : FnDef} (hf : P.fns[f]? = some fd) {vs : List V} {H : Hp} {Q : VK} (h : spF G P n f vs H Q E) : vs.length = fd.np := by
  obtain ⟨Fz, μ, S, σ, ds, rs, rd, go⟩ := h
  rw [← rd.length]
  cases n with
  | zero => exact go.elim
  | succ n =>
    rw [evF, hf] at go
    dsimp only at go
    by_cases hl : ds.length = fd.np
    · exact hl
    · rw [if_neg hl] at go; exact go.elim
theorem fn_zero {PR : Program} {w : World} {K : PySem.W.Frag} {mg : Str → Option Value} {base : Heap} {a : Addr} {f k : Nat} {fdat : FuncData} {ps : List Str} : FnOk PR w K mg base (L2.CX PR w) k a fdat ps (spF G P 0 f) where
  len := fun vs H Q E h => by obtain ⟨_, _, _, _, _, _, _, go⟩ := h; exact go.elim
  run := fun A outer s H args us vs Q E _ _ _ _ h => by obtain ⟨_, _, _, _, _, _, _, go⟩ := h; exact go.elim
/-- the end of a body -/
def dEnd (Q : VK) : Ends := { nx := fun _ H' => Q .non H', rt := Q }
theorem ret_qF {σ : L2.St} {Fz : Addr → Prop} {μ : List Addr} {S : Sto} {H : Hp} {Q : VK} {r : Res Fl} (go : Go G (wE E) σ (qV G Q) Fz μ S H (retOf r)) : Go G (wE E) σ (qF G (dEnd Q)) Fz μ S H r :=
  Go.bind (k := fun f S => match f with
    | .rt d => .ok d S
    | .nx _ => .ok .non S
    | _ => .stk) go fun f S' F' μ' H' e r' g => by
    cases f with
    | nx ρ => exact fun σ' _ => g.now r' .non (by simp only [Rep])
    | rt d => exact fun v rv => g.now r' v rv
    | bk ρ => exact g.elim
    | ct ρ => exact g.elim
theorem body_reads {n f : Nat} {fd : FnDef} (hf : P.fns[f]? = some fd) {N : List Str} (hN : N.length = fd.nl) {vs : List V} {H : Hp} {Q : VK} (h : spF G P (n + 1) f vs H Q E) : TSs G E P (evF P n) fd.body (dEnd Q) (start N vs) H := by
  obtain ⟨Fz, μ, S, σ, ds, rs, rd, go⟩ := h
  rw [evF, hf] at go
  dsimp only at go
  by_cases hl : ds.length = fd.np
  · rw [if_pos hl] at go
    split at go
    · -- pure
      by_cases hfl : D.flats ds = true
      · rw [if_pos hfl] at go
        refine ⟨Fz, [], envOf fd.nl ds, [], ⟨rfl, fun n o a h => by simp at h, fun n m a o o' h => by simp at h, fun a ⟨_, _, h, _⟩ => by simp at h, rs.fzt⟩, env_start (Reps.flat ds vs hfl rd) hN, ?_⟩
        have nol : ∀ a, ¬ Live [] [] a := fun a ⟨_, _, h, _⟩ => by simp at h
        have back : ∀ F' μ' S' H', Ext Fz [] [] H F' μ' S' H' → RepS G F' μ' H' S' → Ext Fz μ S H F' μ S H' ∧ RepS G F' μ H' S := fun F' μ' S' H' e r' => by
          have kp : Keep Fz F' μ μ H H' := ⟨e.fz, fun _ _ z => z, fun a o z _ => e.chg a o z (nol a)⟩
          refine ⟨⟨e.fz, fun a z => (e.newfz a z).elim .inl fun z => .inr (z.elim (fun l => (nol a l).elim) .inr), fun a o z _ => e.chg a o z (nol a), fun a l => .inl l, fun _ _ z => z, e.there⟩, ⟨rs.len, fun n o a h1 h2 => ?_, rs.uniq, fun a l z => ?_, r'.fzt⟩⟩
          · by_cases hd : o = .dead
            · subst hd; trivial
            · obtain ⟨x, hx, _⟩ := rs.there ⟨n, o, h1, hd, h2⟩
              exact RepO.keep kp ((e.chg a x hx (nol a)).trans hx.symm) o (rs.obj n o a h1 h2)
          · rcases e.newfz a z with z | z | z
            · exact rs.nfz a l z
            · exact nol a z
            · obtain ⟨x, hx, _⟩ := rs.there l
              rw [hx] at z; cases z
        refine Go.sigE (σ := σ) (ret_qF ?_)
        cases hr : retOf (evSs P (evF P n) fd.body (envOf fd.nl ds) []) with
        | ok d S' =>
          rw [hr] at go
          dsimp only at go
          obtain ⟨hd, g⟩ := go.if
          intro F' μ' H' e r' v rv
          obtain ⟨e2, r2⟩ := back F' μ' S' H' e r'
          exact g F' μ H' e2 r2 v (Rep.flat d v hd rv)
        | exc c fs S' =>
          rw [hr] at go
          dsimp only at go
          obtain ⟨hd, g⟩ := go.if
          intro F' μ' H' cls dx e r' hx
          obtain ⟨e2, r2⟩ := back F' μ' S' H' e r'
          exact g F' μ H' cls dx e2 r2 hx
        | stk => rw [hr] at go; exact go.elim
      · rw [if_neg hfl] at go; exact go.elim
    · -- its own things dropped
      refine ⟨Fz, μ, envOf fd.nl ds, S, rs, env_start rd hN, Go.sigE (σ := σ) (ret_qF ?_)⟩
      cases hr : retOf (evSs P (evF P n) fd.body (envOf fd.nl ds) S) with
      | ok d S' =>
        rw [hr] at go
        dsimp only at go
        obtain ⟨hd, g⟩ := go.if
        simp only [Bool.and_eq_true] at hd
        intro F' μ' H' e r' v rv
        exact g F' _ H' (ext_take rs e) (reps_take r' _ hd.2) v (Rep.under _ d v hd.1 rv)
      | exc c fs S' =>
        rw [hr] at go
        dsimp only at go
        obtain ⟨hd, g⟩ := go.if
        simp only [Bool.and_eq_true] at hd
        intro F' μ' H' cls dx e r' hx
        exact g F' _ H' cls dx (ext_take rs e) (reps_take r' _ hd.2) hx
      | stk => rw [hr] at go; exact go.elim
    · exact ⟨Fz, μ, envOf fd.nl ds, S, rs, env_start rd hN, Go.sigE (σ := σ) (ret_qF go)⟩
  · rw [if_neg hl] at go; exact go.elim
theorem fn_step {PR : Program} {w : World} {K : PySem.W.Frag} {mg : Str → Option Value} {base : Heap} {n f : Nat} {fd : FnDef} (hf : P.fns[f]? = some fd) {x qual : Str} {st : Stmt} {fdat : FuncData} {N ps : List Str} (Fn : L2.Fun K x qual st (G.fa f) fdat) (Sc : FnScope N ps (defScope st)) (hps : ps.length = fd.np) (hN : N.length = fd.nl)
    (hbody : ∀ (cdv : Value) (A : Around) (outer : List PySem.Env) (s : Shared) (H : Hp) (E : XK), Room n (A.deeper (PyProof.Rows.envOfC qual (defScope st) s.heap.objs.size (G.fa f) cdv)) → PSs (cxOf (L2.CX PR w) PR w K mg base N qual (defScope st) (G.fa f) cdv A outer s H E) (defBody st) (TSs G E P (evF P n) fd.body)) :
    FnOk PR w K mg base (L2.CX PR w) (n + 1) (G.fa f) fdat ps (spF G P (n + 1) f) :=
  Fn.okX Sc (fun vs H Q E h => (spF_len hf h).trans hps.symm) fun cdv A outer s H vs Q E hr hsp => ⟨_, hbody cdv A outer s H E hr, body_reads hf hN hsp⟩
/-- a call of a def -/
theorem d_call {n f : Nat} {fdat : FuncData} {ps : List Str} {x : Str} {e : Expr} {es : List Expr} {ees : Es} {p pos : Pos} (F : FnOk X.prog X.w X.K X.mg X.base (L2.CX X.prog X.w) n (G.fa f) fdat ps (spF G P n f)) (hr : Room n X.A) (hg : Gl X x) (hm : X.mg x = some (.ref (G.fa f)))
    (hk : PySem.W.keepIn X.K (.ref (G.fa f)) = true) (hb : Binds X.K fdat ps []) (hx : Passes (L2.CX X.prog X.w) X E) (ha : PA X (e :: es) (TDs G (wE E) P (evF P n) ees)) (hdb : (x == ("__debug__" : Str)) = false) (he : starEach (e :: es) X.env = (false, eval e X.env) :: starEach es X.env)
    (hpl : (backTo pos (starEach es X.env)).any (·.1) = false) : PE X (.Call (.Name x p) (e :: es) [] pos) (TD G (wE E) P (evF P n) (.call f ees)) :=
  PE.imp (pe_call F hr hg hm hk hb .nil hx ha hdb he hpl) fun σ H Q ⟨Fz, μ, ρ, S, rs, re, go⟩ => by
    rw [evE] at go
    refine At.weakL (Go.bs rs re go) fun vs H1 ⟨F1, μ1, S1, ds, r1, e1, k1, rds, go1⟩ => ?_
    rw [List.append_nil]
    exact ⟨F1, μ1, S1, σ, ds, r1, rds, go1⟩
theorem d_call0 {n f : Nat} {fdat : FuncData} {ps : List Str} {x : Str} {p pos : Pos} (F : FnOk X.prog X.w X.K X.mg X.base (L2.CX X.prog X.w) n (G.fa f) fdat ps (spF G P n f)) (hr : Room n X.A) (hg : Gl X x) (hm : X.mg x = some (.ref (G.fa f)))
    (hk : PySem.W.keepIn X.K (.ref (G.fa f)) = true) (hb : Binds X.K fdat ps []) (hx : Passes (L2.CX X.prog X.w) X E) (hdb : (x == ("__debug__" : Str)) = false) : PE X (.Call (.Name x p) [] [] pos) (TD G (wE E) P (evF P n) (.call f .nil)) :=
  PE.imp (pe_call0 F hr hg hm hk hb .nil hx hdb) fun σ H Q ⟨Fz, μ, ρ, S, rs, re, go⟩ => by
    rw [evE, evEs] at go
    exact ⟨Fz, μ, S, σ, [], rs, by simp only [Reps, List.append_nil], go⟩
end QF
end

section
set_option maxHeartbeats 2000000
/-! QFA: sorted. -/
namespace QF
open PySem L2
theorem rising_asc : ∀ (x : Str) (r : List Str), PyProof.Rows.risingS x r = true → Asc ltS ((x :: r).map fun s => s.cps.toList)
  | x, [], _ => List.pairwise_singleton _ _
  | x, y :: r, h => by
    have h' : (!PySem.Spec.ltCps y.cps.toList x.cps.toList && PyProof.Rows.risingS y r) = true := h
    simp only [Bool.and_eq_true, Bool.not_eq_true'] at h'
    have ih := rising_asc y r h'.2
    have hxy : ltS y.cps.toList x.cps.toList = false := by rw [← h'.1, PyProof.Rows.ltCps_eq]; rfl
    simp only [List.map_cons] at ih ⊢
    obtain ⟨i1, i2⟩ := List.pairwise_cons.mp ih
    refine List.pairwise_cons.mpr ⟨fun z hz => ?_, ih⟩
    rcases List.mem_cons.mp hz with rfl | hz
    · exact hxy
    · exact totS.tr _ _ _ hxy (i1 z hz)
theorem txt_of (s : Str) : txt s.cps.toList = s := by cases s; simp [txt]
theorem sorted_strs {ys : List Str} {ss : List Cs} (p : ys.Perm (ss.map txt)) (h : PyProof.Rows.sortedS ys = true) : ys = (isort ltS ss).map txt := by
  have q : (ys.map fun s => s.cps.toList).Perm ss := by
    have := p.map fun s : Str => s.cps.toList
    rwa [List.map_map, show (fun s : Str => s.cps.toList) ∘ txt = id from by funext s; simp [txt], List.map_id] at this
  have a : Asc ltS (ys.map fun s => s.cps.toList) := by
    cases ys with
    | nil => exact .nil
    | cons x r => exact rising_asc x r h
  have e := asc_unique totS (q.trans (isort_perm totS ss).symm) a (isort_asc totS ss)
  rw [← e, List.map_map, show txt ∘ (fun s : Str => s.cps.toList) = id from by funext s; exact txt_of s, List.map_id]
theorem sorted_ints {ns ms : List Int} (p : ns.Perm ms) (h : ns.Pairwise (· ≤ ·)) : ns = isort ltI ms :=
  asc_unique totI (p.trans (isort_perm totI ms).symm) (h.imp fun {a b} q => by simp only [ltI, decide_eq_false_iff_not]; omega) (isort_asc totI ms)
theorem strs_of {G : Gi} {Fz : Addr → Prop} {μ : List Addr} {H : Hp} : ∀ {ds : List D} {ss : List Cs} {vs : List V}, allOf strOf ds = some ss → Reps G Fz μ H ds vs → vs = (ss.map txt).map V.str
  | [], ss, vs, h, r => by simp only [allOf] at h; cases h; simp only [Reps] at r; subst r; rfl
  | d :: ds, ss, vs, h, r => by
    simp only [allOf] at h
    cases ed : strOf d with
    | none => rw [ed] at h; cases h
    | some s =>
      rw [ed] at h
      cases er : allOf strOf ds with
      | none => rw [er] at h; cases h
      | some r' =>
        rw [er] at h; cases h
        simp only [Reps] at r
        obtain ⟨v, vr, rfl, h1, h2⟩ := r
        cases d <;> simp only [strOf, reduceCtorEq, Option.some.injEq] at ed
        subst ed
        simp only [Rep] at h1
        rw [h1, strs_of er h2]
        rfl
theorem reps_ints {G : Gi} {Fz : Addr → Prop} {μ : List Addr} {H : Hp} : ∀ (is : List Int), Reps G Fz μ H (is.map .int) (is.map V.int)
  | [] => by simp only [List.map_nil, Reps]
  | i :: is => by simp only [List.map_cons, Reps, Rep]; exact ⟨_, _, rfl, rfl, reps_ints is⟩
theorem reps_strs {G : Gi} {Fz : Addr → Prop} {μ : List Addr} {H : Hp} : ∀ (ss : List Cs), Reps G Fz μ H (ss.map .str) ((ss.map txt).map V.str)
  | [] => by simp only [List.map_nil, Reps]
  | i :: is => by simp only [List.map_cons, Reps, Rep]; exact ⟨_, _, rfl, rfl, reps_strs is⟩
theorem allOf_len {α β : Type} {f : α → Option β} {as : List α} {bs : List β} (h : allOf f as = some bs) : bs.length = as.length := allOf_length h
section
variable {G : Gi} {X : Cx}
theorem sorted_list (hK : X.K = G.K) {m : Bool} {W : WX} {σ' : L2.St} {Fz : Addr → Prop} {μ : List Addr} {S : Sto} {H : Hp} {Q : VK} {ds l : List D} {a : Addr} {vs : List V} {pins : List (Addr × Obj)} {s : Shared} {σ : L2.St} {us : List Value} (I : Inv X pins σ H s) (r : Vals [V.ref a] us)
    (rs : RepS G Fz μ H S) (ha : H a = some (.lst vs)) (ra : Reps G Fz μ H ds vs) (hl : sortD ds = some l) (go : Go G W σ' (qV G Q) Fz μ S H (newL m l S)) : wpAny (model X.prog X.w) X.A (call (.builtin "sorted") us) (EP X pins σ Q) X.xe s := by
  unfold sortD at hl
  cases hi : allOf intOf ds with
  | some is =>
    rw [hi] at hl
    cases hl
    obtain rfl := ints_of hi ra
    refine cr_sortedI pins s σ H _ us Q I r ⟨a, is, rfl, SqL.of ha, fun ns p h1 h2 hp => ?_⟩
    rw [sorted_ints h1 h2]
    exact Go.newL go rs (reps_ints _) hp
  | none =>
    rw [hi] at hl
    cases hs : allOf strOf ds with
    | none => rw [hs] at hl; cases hl
    | some ss =>
      rw [hs] at hl
      dsimp only at hl
      split at hl
      · rename_i h64
        cases hl
        obtain rfl := strs_of hs ra
        refine cr_sortedS pins s σ H _ us Q I r ⟨a, ss.map txt, rfl, SqL.of ha, by rw [List.length_map]; exact h64, fun ys p h1 h2 hp => ?_⟩
        rw [sorted_strs h1 h2]
        exact Go.newL go rs (reps_strs _) hp
      · cases hl
theorem keys_ints : ∀ {ks : List D} {is : List Int} {kk : List Key}, allOf intOf ks = some is → allOf kK ks = some kk → kk = is.map Sum.inl
  | [], is, kk, h, k => by simp only [allOf] at h k; cases h; cases k; rfl
  | d :: ks, is, kk, h, k => by
    simp only [allOf] at h k
    cases d <;> simp only [intOf, Option.bind_none, reduceCtorEq] at h
    rename_i i
    simp only [Option.bind_some] at h
    simp only [kK, Option.bind_some] at k
    cases e1 : allOf intOf ks with
    | none => rw [e1] at h; cases h
    | some r1 =>
      cases e2 : allOf kK ks with
      | none => rw [e2] at k; cases k
      | some r2 => rw [e1] at h; rw [e2] at k; cases h; cases k; rw [keys_ints e1 e2]; rfl
theorem keys_strs : ∀ {ks : List D} {ss : List Cs} {kk : List Key}, allOf strOf ks = some ss → allOf kK ks = some kk → kk = (ss.map txt).map Sum.inr
  | [], is, kk, h, k => by simp only [allOf] at h k; cases h; cases k; rfl
  | d :: ks, is, kk, h, k => by
    simp only [allOf] at h k
    cases d <;> simp only [strOf, Option.bind_none, reduceCtorEq] at h
    rename_i i
    simp only [Option.bind_some] at h
    simp only [kK, Option.bind_some] at k
    cases e1 : allOf strOf ks with
    | none => rw [e1] at h; cases h
    | some r1 =>
      cases e2 : allOf kK ks with
      | none => rw [e2] at k; cases k
      | some r2 => rw [e1] at h; rw [e2] at k; cases h; cases k; rw [keys_strs e1 e2]; rfl
theorem zip_fst {α β : Type} : ∀ {as : List α} {bs : List β}, as.length = bs.length → (as.zip bs).map (·.1) = as
  | [], _, _ => rfl
  | a :: as, [], h => by cases h
  | a :: as, b :: bs, h => by simp only [List.zip_cons_cons, List.map_cons, zip_fst (Nat.succ.inj h)]
theorem sorted_dict (hc : X.calm = true) {m : Bool} {W : WX} {σ' : L2.St} {Fz : Addr → Prop} {μ : List Addr} {S : Sto} {H : Hp} {Q : VK} {ks l : List D} {kk : List Key} {a : Addr} {vs : List V} {pins : List (Addr × Obj)} {s : Shared} {σ : L2.St} {us : List Value} (I : Inv X pins σ H s) (r : Vals [V.ref a] us)
    (rs : RepS G Fz μ H S) (ha : H a = some (.dK (kk.zip vs))) (hk : allOf kK ks = some kk) (hlen : kk.length = vs.length) (h64 : ks.length < 64) (hl : sortD ks = some l) (go : Go G W σ' (qV G Q) Fz μ S H (newL m l S)) : wpAny (model X.prog X.w) X.A (call (.builtin "sorted") us) (EP X pins σ Q) X.xe s := by
  unfold sortD at hl
  cases hi : allOf intOf ks with
  | some is =>
    rw [hi] at hl
    cases hl
    obtain rfl := keys_ints hi hk
    refine call_sortedDI hc pins s σ H _ us Q I r ⟨a, _, is, rfl, .inl ha, zip_fst hlen, by rw [allOf_length hi]; exact h64, fun ns p h1 h2 hp => ?_⟩
    rw [sorted_ints h1 h2]
    exact Go.newL go rs (reps_ints _) hp
  | none =>
    rw [hi] at hl
    cases hs : allOf strOf ks with
    | none => rw [hs] at hl; cases hl
    | some ss =>
      rw [hs] at hl
      dsimp only at hl
      split at hl
      · rename_i h64
        cases hl
        obtain rfl := keys_strs hs hk
        refine call_sortedD hc pins s σ H _ us Q I r ⟨a, _, ss.map txt, rfl, .inl ha, zip_fst hlen, by rw [List.length_map]; exact h64, fun ys p h1 h2 hp => ?_⟩
        rw [sorted_strs h1 h2]
        exact Go.newL go rs (reps_strs _) hp
      · cases hl
theorem cb_sorted (hK : X.K = G.K) (hc : X.calm = true) {m : Bool} : CallR X (.builtin "sorted") (rBi G .sorted m) := by
  intro pins s σ H xs us Q I r h
  obtain ⟨W, σ', Fz, μ, S, ds, rs, rd, go⟩ := h
  unfold evBi at go
  cases h1 : drfs S ds with
  | none => rw [h1] at go; exact go.elim
  | some as =>
    rw [h1] at go
    dsimp only at go
    cases h2 : biL .sorted as with
    | none => rw [h2] at go; exact go.elim
    | some l =>
      rw [h2] at go
      dsimp only at go
      have one : ∃ u, as = [u] := by
        cases as with
        | nil => simp [biL] at h2
        | cons u q => cases q with
          | nil => exact ⟨u, rfl⟩
          | cons v q => simp [biL] at h2
      obtain ⟨u, rfl⟩ := one
      obtain ⟨d, rfl, hd⟩ := drfs_one h1
      obtain ⟨x, rfl, rx⟩ := reps_one rd
      have v1 := vw_of rs rx hd
      cases u <;> simp only [biL, reduceCtorEq] at h2
      · obtain ⟨a, vs, rfl, ha, ra⟩ := v1
        exact sorted_list hK I r rs ha ra h2 go
      · rename_i t ks ws
        cases t with
        | true => simp only [reduceCtorEq] at h2
        | false =>
          dsimp only at h2
          split at h2
          · rename_i h64
            obtain ⟨a, vs, rfl, _, ⟨_, kk, h3, h4, ha⟩ | ⟨⟨q, _⟩, _⟩⟩ := v1
            · exact sorted_dict hc I r rs ha h3 h4 h64 h2 go
            · cases q
          · cases h2
end
end QF
end

section
set_option maxHeartbeats 2000000
/-! QFB: dict of pairs: the plain part (used by dict(list), dict(tuple)). -/
namespace QF
open PySem L2
variable {G : Gi} {Fz : Addr → Prop} {μ : List Addr} {H : Hp}
/-- a list of pairs as it lies -/
theorem pairs_rep {X : Cx} (hK : X.K = G.K) : ∀ {ds : List D} {ps : List (D × D)} {vs : List V}, allOf pairOf ds = some ps → keyOks (ps.map (·.1)) = true → Reps G Fz μ H ds vs →
    ∃ (as : List Addr) (kvs : List (Key × V)), vs = as.map V.ref ∧ Paired (fun p kv => SqT X.K H p [kV kv.1, kv.2]) as kvs ∧ allOf kK (ps.map (·.1)) = some (kvs.map (·.1)) ∧ Reps G Fz μ H (ps.map (·.2)) (kvs.map (·.2))
  | [], ps, vs, h, _, r => by
    simp only [allOf] at h; cases h
    simp only [Reps] at r; subst r
    exact ⟨[], [], rfl, .nil, rfl, by simp only [List.map_nil, Reps]⟩
  | d :: ds, ps, vs, h, hk, r => by
    simp only [allOf] at h
    cases e1 : pairOf d with
    | none => rw [e1] at h; cases h
    | some p =>
      cases e2 : allOf pairOf ds with
      | none => rw [e1, e2] at h; cases h
      | some q =>
        rw [e1, e2] at h; cases h
        simp only [List.map_cons, keyOks, Bool.and_eq_true] at hk
        simp only [Reps] at r
        obtain ⟨v, w, rfl, r1, r2⟩ := r
        obtain ⟨as, kvs, rfl, h1, h2, h3⟩ := pairs_rep hK e2 hk.2 r2
        obtain ⟨a, b⟩ := p
        have ed : d = .tup [a, b] := by
          unfold pairOf at e1
          split at e1
          · cases e1; rfl
          · cases e1
        subst ed
        simp only [Rep] at r1
        obtain ⟨ad, us, rfl, t, ru⟩ := r1
        obtain ⟨x, y, rfl, rx, ry⟩ := reps_two ru
        obtain ⟨k, e3, e4⟩ := kK_ok (G := G) (Fz := Fz) (μ := μ) (H := H) hk.1
        refine ⟨ad :: as, (k, y) :: kvs, rfl, .cons (by rw [hK, ← e4 x rx]; exact t.sqT) h1, ?_, ?_⟩
        · simp only [List.map_cons, allOf, e3, h2, Option.bind_some]
        · simp only [List.map_cons, Reps]
          exact ⟨y, _, rfl, ry, h3⟩
theorem merge_rep : ∀ {ps : List (D × D)} {kvs : List (Key × V)} {ks ws : List D} {kk : List Key} {vs : List V}, allOf kK (ps.map (·.1)) = some (kvs.map (·.1)) → Reps G Fz μ H (ps.map (·.2)) (kvs.map (·.2)) → allOf kK ks = some kk → Reps G Fz μ H ws vs → kk.length = vs.length →
    ∃ kk' vs', allOf kK (ps.foldl (fun acc p => put p.1 p.2 acc.1 acc.2) (ks, ws)).1 = some kk' ∧ Reps G Fz μ H (ps.foldl (fun acc p => put p.1 p.2 acc.1 acc.2) (ks, ws)).2 vs' ∧ kk'.length = vs'.length ∧ mergeK (kk.zip vs) kvs = kk'.zip vs'
  | [], [], ks, ws, kk, vs, _, _, h, r, hl => ⟨kk, vs, h, r, hl, rfl⟩
  | [], kv :: kvs, ks, ws, kk, vs, h0, _, _, _, _ => by simp [allOf] at h0
  | p :: ps, [], ks, ws, kk, vs, h0, r0, _, _, _ => by simp [Reps] at r0
  | p :: ps, kv :: kvs, ks, ws, kk, vs, h0, r0, h, r, hl => by
    simp only [List.map_cons, allOf] at h0
    cases e1 : kK p.1 with
    | none => rw [e1] at h0; cases h0
    | some k =>
      cases e2 : allOf kK (ps.map (·.1)) with
      | none => rw [e1, e2] at h0; cases h0
      | some q =>
        rw [e1, e2] at h0
        simp only [Option.bind_some, Option.some.injEq, List.cons.injEq] at h0
        obtain ⟨rfl, rfl⟩ := h0
        simp only [List.map_cons, Reps] at r0
        obtain ⟨v, w, e3, r1, r2⟩ := r0
        simp only [List.cons.injEq] at e3
        obtain ⟨rfl, rfl⟩ := e3
        obtain ⟨kk1, vs1, q1, q2, q3, q4⟩ := put_rep kK (fun a b x y => kK_inj) e1 r1 h r hl
        obtain ⟨kk2, vs2, p1, p2, p3, p4⟩ := merge_rep e2 r2 q1 q2 q3
        refine ⟨kk2, vs2, p1, p2, p3, ?_⟩
        rw [← p4, ← q4]
        rfl
/-- dict(pairs) -/
theorem cb_dict {X : Cx} (hK : X.K = G.K) (hc : X.calm = true) {m : Bool} : CallR X (.type "dict") (rBi G .dict m) := by
  intro pins s σ H xs us Q I r h
  obtain ⟨W, σ', Fz, μ, S, ds, rs, rd, go⟩ := h
  unfold evBi at go
  cases h1 : drfs S ds with
  | none => rw [h1] at go; exact go.elim
  | some as =>
    rw [h1] at go
    dsimp only at go
    cases h2 : biDic .dict as with
    | none => rw [h2] at go; exact go.elim
    | some kv =>
      rw [h2] at go
      dsimp only at go
      have one : ∃ u, as = [u] := by
        cases as with
        | nil => simp [biDic] at h2
        | cons u q => cases q with
          | nil => exact ⟨u, rfl⟩
          | cons v q => simp [biDic] at h2
      obtain ⟨u, rfl⟩ := one
      obtain ⟨d, rfl, hd⟩ := drfs_one h1
      obtain ⟨x, rfl, rx⟩ := reps_one rd
      have v1 := vw_of rs rx hd
      cases u <;> simp only [biDic, reduceCtorEq] at h2
      rename_i l
      cases h3 : allOf pairOf l with
      | none => rw [h3] at h2; cases h2
      | some ps =>
        rw [h3] at h2
        simp only [Option.bind_some] at h2
        split at h2
        · rename_i hk
          cases h2
          obtain ⟨a, vs, rfl, ha, ra⟩ := v1
          obtain ⟨as', kvs, rfl, q1, q2, q3⟩ := pairs_rep hK h3 hk ra
          refine call_dictP hc pins s σ H _ us Q I r ⟨a, as', kvs, rfl, SqL.of ha, q1, fun p hp => ?_⟩
          obtain ⟨kk, ws, e1, e2, e3, e4⟩ := merge_rep (ks := []) (ws := []) (kk := []) (vs := []) q2 q3 rfl (by simp only [Reps]) rfl
          have e4' : mergeK [] kvs = kk.zip ws := e4
          rw [e4']
          have go' : Gv G Q Fz μ S H (.loc S.length) (S ++ [.dic false (putAll ps).1 (putAll ps).2]) := go
          have k : Keep Fz Fz μ (μ ++ [p]) H (upd H p (.dK (kk.zip ws))) := ⟨fun _ h => h, (ext_loc (x := .dic false (putAll ps).1 (putAll ps).2) (o := .dK (kk.zip ws)) rs hp).mu, (keep_upd (μ := μ) hp).ob⟩
          refine go' Fz (μ ++ [p]) _ (ext_loc rs hp) (reps_loc rs hp ⟨ws, Reps.keep k _ _ e2, .inl ⟨rfl, kk, e1, e3, upd_same⟩⟩) _ ?_
          simp only [Rep]
          exact ⟨p, rfl, by rw [← rs.len]; simp⟩
        · cases h2
end QF
end

section
set_option maxHeartbeats 2000000
/-! QFC: dict of a tuple of pairs; d.update(d2). -/
namespace QF
open PySem L2
variable {G : Gi} {X : Cx} {Fz : Addr → Prop} {μ : List Addr} {H : Hp}
/-- a tuple as it lies, with no dict of its own -/
theorem tup_bare {pins : List (Addr × Obj)} {σ : L2.St} {s : Shared} (I : Inv X pins σ H s) (hK : X.K = G.K) (hx : G.xt = true) {a : Addr} {ds : List D} {vs : List V} (t : TupAt G H a ds vs) :
    ∃ (its : List Value), Vals vs its ∧ PySem.PlainSeq "tuple" s.heap a its.toArray ∧ vs.length ≤ sizeLine := by
  obtain ⟨its, r, ⟨o, ho, hc, n, hd⟩, hz⟩ := I.tuple (hK ▸ t.sqT)
  refine ⟨its, r, ⟨o, n, ho, hc, ?_, hd⟩, hz⟩
  rcases t with ⟨e, _⟩ | ⟨_, o', e, _, hn⟩ | ⟨⟨o', its', n', e, _, hn, _⟩, _⟩
  · rw [hx] at e; cases e
  · obtain ⟨e1, _⟩ := (show s.heap.get? a = some o' ∧ _ from I.hok a _ e)
    rw [ho] at e1; cases e1; exact hn
  · have e1 := I.kIn a o' (hK ▸ e)
    rw [ho] at e1; cases e1; exact hn
/-- the pairs as values -/
theorem pairs_vals {pins : List (Addr × Obj)} {σ : L2.St} {s : Shared} (I : Inv X pins σ H s) : ∀ {as : List Addr} {kvs : List (Key × V)}, Paired (fun p kv => SqT X.K H p [kV kv.1, kv.2]) as kvs →
    ∃ (prs : List (Key × Value)) (ps : List (Value × Value)), KV kvs prs ∧ prs.length = as.length ∧ ps.length = as.length ∧
      ∀ (j : Nat) (k v : Value), ps[j]? = some (k, v) → ∃ b, as[j]? = some b ∧ PySem.PairAt s.heap b k v ∧ ∃ key, prs[j]? = some (key, v) ∧ keyIs key k = true
  | _, _, .nil => ⟨[], [], .nil, rfl, rfl, fun j k v e => by simp at e⟩
  | _, _, .cons (a := p) (b := kv) h t => by
    obtain ⟨prs, ps, r, hl, hm, hp⟩ := pairs_vals I t
    obtain ⟨its, rv, ht, _⟩ := I.tuple h
    obtain ⟨u, y, ei, ru, ry⟩ := vals2 rv
    subst ei
    obtain ⟨o, ho, hc, n, hd⟩ := ht
    refine ⟨(kv.1, y) :: prs, (u, y) :: ps, .cons ⟨rfl, ry⟩ r, by simp [hl], by simp [hm], fun j k v e => ?_⟩
    cases j with
    | zero =>
      simp only [List.getElem?_cons_zero, Option.some.injEq, Prod.mk.injEq] at e
      obtain ⟨rfl, rfl⟩ := e
      exact ⟨p, rfl, .inl ⟨o, ho, hc, n, hd⟩, kv.1, rfl, kV_is (P := X.prog) (w := X.w) ru⟩
    | succ j =>
      obtain ⟨b, e1, e2, e3⟩ := hp j k v (by simpa using e)
      exact ⟨b, by simpa using e1, e2, by simpa using e3⟩
/-- dict(t), t a tuple of pairs -/
theorem cb_dictT (hK : X.K = G.K) (hx : G.xt = true) (hcm : X.calm = true) {m : Bool} : CallR X (.type "dict") (rBi G .dictT m) := by
  intro pins s σ H xs us Q I r h
  obtain ⟨W, σ', Fz, μ, S, ds, rs, rd, go⟩ := h
  unfold evBi at go
  cases h1 : drfs S ds with
  | none => rw [h1] at go; exact go.elim
  | some as =>
    rw [h1] at go
    dsimp only at go
    cases h2 : biDic .dictT as with
    | none => rw [h2] at go; exact go.elim
    | some kv =>
      rw [h2] at go
      dsimp only at go
      have one : ∃ u, as = [u] := by
        cases as with
        | nil => simp [biDic] at h2
        | cons u q => cases q with
          | nil => exact ⟨u, rfl⟩
          | cons v q => simp [biDic] at h2
      obtain ⟨u, rfl⟩ := one
      obtain ⟨d, rfl, hd⟩ := drfs_one h1
      obtain ⟨x, rfl, rx⟩ := reps_one rd
      have v1 := vw_of rs rx hd
      cases u <;> simp only [biDic, reduceCtorEq] at h2
      rename_i l
      cases h3 : allOf pairOf l with
      | none => rw [h3] at h2; cases h2
      | some ps =>
        rw [h3] at h2
        simp only [Option.bind_some] at h2
        split at h2
        · rename_i hk
          cases h2
          simp only [Vw, Rep] at v1
          obtain ⟨a, vs, rfl, ha, ra⟩ := v1
          obtain ⟨as', kvs, rfl, q1, q2, q3⟩ := pairs_rep hK h3 hk ra
          obtain ⟨uv, euv, ruv⟩ := vals1 r
          subst euv
          cases ruv
          obtain ⟨its, rv, pl, hz⟩ := tup_bare I hK hx ha
          obtain ⟨prs, pps, rel, hl, hm, hp⟩ := pairs_vals I q1
          have ei := refs_at rv
          subst ei
          rw [List.length_map] at hz
          have hS : (s.heap.objs.size == sysModules) = false := beq_eq_false_iff_ne.mpr (Nat.ne_of_gt I.big)
          refine PySem.call_dict_pairs (knd := mixKind X.prog X.w) (kvs := prs) (PairArg.tuple a (as'.map Value.ref).toArray (fun j => as'.getD j 0) pps) (I.ok.hd hcm) ⟨pl, ?_, fun j k v e => ?_⟩ ⟨?_, fun i key v e => ?_⟩ (by rw [hm]; exact hz) fun h' tk hd' kp => ?_
          · simp [hm]
          · obtain ⟨b, e1, e2, _⟩ := hp j k v e
            have e0 : as'.getD j 0 = b := by simp [List.getD, e1]
            exact ⟨by simp [e1, e0], by show PySem.PairAt s.heap (as'.getD j 0) k v; rw [e0]; exact e2⟩
          · rw [hl, hm]
          · obtain ⟨b, _, _, key', e3, e4⟩ := hp i key v e
            exact ⟨key', e3, e4⟩
          · have hlen : (mergeK [] kvs).length ≤ sizeLine := by
              refine Nat.le_trans (length_mergeK kvs []) ?_
              rw [List.length_nil, Nat.zero_add, rel.length, hl]
              exact hz
            have hf := I.hok.fresh (Nat.le_refl s.heap.objs.size)
            refine ⟨.ref s.heap.objs.size, upd H s.heap.objs.size (.dK (mergeK [] kvs)), I.laid (t' := tk) (fun b o e => kp b o (by simp) e) (Nat.le_refl _) (show ObjOk X.prog X.w _ _ _ (.dK (mergeK [] kvs)) from ⟨hlen, hS, merged [] prs, KV.merge rel .nil, hd'⟩), rfl, ?_⟩
            obtain ⟨kk, ws, e1, e2, e3, e4⟩ := merge_rep (ks := []) (ws := []) (kk := []) (vs := []) q2 q3 rfl (by simp only [Reps]) rfl
            have e4' : mergeK [] kvs = kk.zip ws := e4
            rw [e4']
            have go' : Gv G Q Fz μ S H (.loc S.length) (S ++ [.dic false (putAll ps).1 (putAll ps).2]) := go
            have k : Keep Fz Fz μ (μ ++ [s.heap.objs.size]) H (upd H s.heap.objs.size (.dK (kk.zip ws))) := ⟨fun _ h => h, (ext_loc (x := .dic false (putAll ps).1 (putAll ps).2) (o := .dK (kk.zip ws)) rs hf).mu, (keep_upd (μ := μ) hf).ob⟩
            refine go' Fz (μ ++ [s.heap.objs.size]) _ (ext_loc rs hf) (reps_loc rs hf ⟨ws, Reps.keep k _ _ e2, .inl ⟨rfl, kk, e1, e3, upd_same⟩⟩) _ ?_
            simp only [Rep]
            exact ⟨s.heap.objs.size, rfl, by rw [← rs.len]; simp⟩
        · cases h2
theorem zip_snd {α β : Type} : ∀ {as : List α} {bs : List β}, as.length = bs.length → (as.zip bs).map (·.2) = bs
  | [], [], _ => rfl
  | [], b :: bs, h => by cases h
  | a :: as, [], h => by cases h
  | a :: as, b :: bs, h => by simp only [List.zip_cons_cons, List.map_cons, zip_snd (Nat.succ.inj h)]
theorem mtO_upd {o : O} {as : List D} {q : D × O} (h : mtO .update o as = some q) : ∃ ks ws ks2 ws2, o = .dic false ks ws ∧ as = [.dic false ks2 ws2] ∧ ks.length + ks2.length ≤ SL ∧
    q = (.non, .dic false ((ks2.zip ws2).foldl (fun acc p => put p.1 p.2 acc.1 acc.2) (ks, ws)).1 ((ks2.zip ws2).foldl (fun acc p => put p.1 p.2 acc.1 acc.2) (ks, ws)).2) := by
  cases o with
  | dic t ks ws =>
    cases t with
    | true => simp [mtO] at h
    | false =>
      cases as with
      | nil => simp [mtO] at h
      | cons a r =>
        cases r with
        | cons b r => simp [mtO] at h
        | nil =>
          cases a with
          | dic u ks2 ws2 =>
            cases u with
            | true => simp [mtO] at h
            | false =>
              simp only [mtO] at h
              split at h
              · rename_i hl
                cases h
                exact ⟨ks, ws, ks2, ws2, rfl, rfl, hl, rfl⟩
              · cases h
          | _ => simp [mtO] at h
  | _ => simp [mtO] at h
/-- d.update(d2) -/
theorem mt_upd : MtR X "dict.update" (rMt G .update) := by
  intro pins s σ H x xs v us Q I rx r h
  obtain ⟨W, σ', Fz, μ, S, d, ds, rs, rd, rds, go⟩ := h
  rw [evMt, show Mt.update.ro = false from rfl, show Mt.update.dr = true from rfl] at go
  simp only [Bool.false_eq_true, if_false, if_true, evMtO] at go
  split at go
  · exact go.elim
  · rename_i hsm
    obtain ⟨as, h0, go1⟩ := Go.onO go
    obtain ⟨p, h1, go2⟩ := Go.onO go1
    obtain ⟨q, h2, go3⟩ := Go.onO go2
    clear go go1 go2
    obtain ⟨n, o⟩ := p
    obtain ⟨rfl, h4⟩ := thing_eq h1
    obtain ⟨a, rfl, ha, ro⟩ := loc_at rs rd h4
    obtain ⟨ks, ws, ks2, ws2, rfl, rfl, hlen, rfl⟩ := mtO_upd h2
    obtain ⟨e, rfl, he⟩ := drfs_one h0
    obtain ⟨y, rfl, ry⟩ := reps_one rds
    obtain ⟨a2, vs2, rfl, rv2, hh2⟩ := vw_of rs ry he
    have hh2 : ∃ kk2, allOf kK ks2 = some kk2 ∧ kk2.length = vs2.length ∧ H a2 = some (.dK (kk2.zip vs2)) := by
      rcases hh2 with ⟨_, kk, e1, e2, e3⟩ | ⟨⟨q, _⟩, _⟩
      · exact ⟨kk, e1, e2, e3⟩
      · cases q
    obtain ⟨kk2, f1, f2, f3⟩ := hh2
    obtain ⟨vs, rv, hh⟩ := ro
    have hh : ∃ kk, allOf kK ks = some kk ∧ kk.length = vs.length ∧ H a = some (.dK (kk.zip vs)) := by
      rcases hh with ⟨_, kk, e1, e2, e3⟩ | ⟨⟨q, _⟩, _⟩
      · exact ⟨kk, e1, e2, e3⟩
      · cases q
    obtain ⟨kk, g1, g2, g3⟩ := hh
    have hne : a ≠ a2 := by
      rintro rfl
      cases e <;> simp only [drf, reduceCtorEq, Option.some.injEq] at he
      · rename_i t k2 w2
        simp only [Rep] at ry
        obtain ⟨b, _, eb, fb, _⟩ := ry
        cases eb
        exact rs.nfz a ⟨n, _, h4, by simp, ha⟩ fb
      · rename_i m
        simp only [Rep] at ry
        obtain ⟨b, eb, mb⟩ := ry
        cases eb
        have hm : ∃ o', S[m]? = some o' ∧ o' ≠ .dead := by
          cases hq : S[m]? with
          | none => rw [hq] at he; cases he
          | some o' =>
            rw [hq] at he
            cases o' with
            | dead => cases he
            | lst _ => exact ⟨_, rfl, by simp⟩
            | dic _ _ _ => exact ⟨_, rfl, by simp⟩
            | ins _ _ => cases he
        obtain ⟨o', q1, q2⟩ := hm
        have := rs.uniq n m a _ o' ha mb h4 (by simp) q1 q2
        subst this
        simp [D.same] at hsm
    obtain ⟨z1, hd1, prs, rel, dd⟩ := dk_of I.hok g3
    obtain ⟨z2, hd2, prs2, rel2, dd2⟩ := dk_of I.hok f3
    obtain ⟨u, rfl, ru⟩ := vals1 r
    cases ru
    cases (show v = Value.ref a from rx)
    have l1 : ks.length = kk.length := (allOf_length g1).symm
    have l2 : ks2.length = kk2.length := (allOf_length f1).symm
    have l3 : ws2.length = vs2.length := rv2.length
    have l4 : ks2.length = ws2.length := by rw [l2, l3, f2]
    obtain ⟨kk', vs', e1, e2, e3, e4⟩ := merge_rep (ps := ks2.zip ws2) (kvs := kk2.zip vs2) (ks := ks) (ws := ws) (kk := kk) (vs := vs) (by rw [zip_fst l4, zip_fst f2]; exact f1) (by rw [zip_snd l4, zip_snd f2]; exact rv2) g1 rv g2
    have hml : (mergeK (kk.zip vs) (kk2.zip vs2)).length ≤ sizeLine := by
      refine Nat.le_trans (length_mergeK _ _) ?_
      rw [List.length_zip, List.length_zip, g2, f2, Nat.min_self, Nat.min_self, ← g2, ← f2, ← l1, ← l2]
      exact hlen
    refine call_meetsIn PySem.F.slot_dict_update dd.typeIs PySem.F.entry_dict_update (PySem.F.args_dict_update_2 _ _) (meets_dict_update (mixKind X.prog X.w) a a2 hne hd2) ⟨prs, prs2, dd, dd2, ?_, fun h' dd' _ hs => ?_⟩
    · rw [← rel.length, ← rel2.length, List.length_zip, List.length_zip, g2, f2, Nat.min_self, Nat.min_self, ← g2, ← f2, ← l1, ← l2]
      exact hlen
    · have hx : ∃ q, h'.get? a = some q := let ⟨q, _, _, hq, _⟩ := dd'; ⟨q, hq⟩
      refine ⟨.non, upd H a (.dK (mergeK (kk.zip vs) (kk2.zip vs2))), d_write (t' := s.toks) I (by rw [g3]; exact True.intro) hs hx (dk_new hml hd1 (KV.merge rel2 rel) dd'), rfl, ?_⟩
      rw [e4]
      have go' : Gv G Q Fz μ S H .non _ := go3
      have k := (ext_set (Fz := Fz) (x := .dic false ((ks2.zip ws2).foldl (fun acc p => put p.1 p.2 acc.1 acc.2) (ks, ws)).1 ((ks2.zip ws2).foldl (fun acc p => put p.1 p.2 acc.1 acc.2) (ks, ws)).2) (u := .dK (kk'.zip vs')) (H := H) h4 (by simp) ha).keep rs
      exact go' Fz μ _ (ext_set h4 (by simp) ha) (reps_set rs h4 (by simp) ha ⟨vs', Reps.keep k _ _ e2, .inl ⟨rfl, kk', e1, e3, upd_same⟩⟩) _ (by simp only [Rep])
theorem d_update {W : WX} {P : Prg} {cf : Nat → List D → Sto → Res D} {o e : Expr} {eo ee : Ex} {apos cpos : Pos} (hbase : attributeBase o "update" X.env (eval o X.env) = eval o X.env)
    (hfew : ((backTo cpos (starEach [e] X.env)).all (fun x => !x.1) && (backToKw cpos (keywordEach [] X.env)).all (fun x => x.1.isSome) && decide (([e] : List Expr).length + ([] : List Keyword).length + (if ([] : List Keyword).isEmpty then 0 else 1) < 30)) = true)
    (hline : (apos.endLine == cpos.line) = true) (hs : starEach [e] X.env = (false, eval e X.env) :: starEach [] X.env) (ho : PE X o (TD G W P cf eo)) (he : PA X [e] (TDs G W P cf (.cons ee .nil))) :
    PE X (.Call (.Attribute o "update" apos) [e] [] cpos) (TD G W P cf (.meth .update eo (.cons ee .nil))) :=
  PE.imp (pe_bm PySem.F.plainAttrs_dict PySem.F.slot_dict_update PySem.F.type_dict_update (mt_upd (G := G)) ho he hbase hfew hline hs) fun σ H Q ⟨Fz, μ, ρ, S, rs, re, go⟩ => by
    rw [evE] at go
    refine At.weak (Go.b1 rs re go) fun x H1 ⟨F1, μ1, S1, d, r1, e1, k1, rd, go1⟩ => ?_
    obtain ⟨hr, go1⟩ := go1.if
    obtain ⟨n, t, ks, ws, rfl, hS⟩ := kdO_dic hr
    obtain ⟨a, rfl, ha, vs, _, hh⟩ := loc_at r1 rd hS
    have ty : tyV X.K "dict" (.ref a) H1 := by
      rcases hh with ⟨_, kk, _, _, e3⟩ | ⟨_, kk, _, _, e3⟩
      · exact .inr (.inr (.inl ⟨rfl, .inl ⟨_, e3⟩⟩))
      · exact .inr (.inr (.inl ⟨rfl, .inr ⟨_, e3⟩⟩))
    refine ⟨ty, ?_⟩
    exact At.weakL (Go.bs r1 e1 go1) fun xs H2 ⟨F2, μ2, S2, ds, r2, e2, k2, rds, go2⟩ => ⟨W, σ, F2, μ2, S2, .loc n, ds, r2, Rep.keep k2 (.loc n) _ rd, rds, go2⟩
end QF
end

section
set_option maxHeartbeats 4000000
/-! QFS: sets of unlike texts: set(xs), sorted(set(xs)), len(set(xs)). -/
namespace QF
open PySem PySem.Spec PyProof.Rows L2 PySem.Froz
/-- the payload may be walked -/
def SetZ (w : World) (D : SD) : Prop := Ris D.2.2.place.toList ∧ (w.params.followText "set-order" = true ∨ D.2.2.led = true)
theorem SetZ.add {w : World} {D : SD} (z : SetZ w D) (h : Int) (v : Value) : SetZ w (addTx h v D) := by
  obtain ⟨es, ep, t⟩ := D
  obtain ⟨z1, z2⟩ := z
  have r1 := layNew_ris t es h v z1
  have l1 := layNew_led t es h v
  have q : ∀ t2 : SetTable, Ris t2.place.toList → t2.led = t.led → ∀ (es1 : Array (Int × Value)) (b : Bool), SetZ w (tailTx ep es1 t2 b) := fun t2 a1 a2 es1 b => by
    have z3 : w.params.followText "set-order" = true ∨ t2.led = true := z2.imp id fun e => a2.trans e
    unfold tailTx
    by_cases c : (!b && t2.tooFull) = true
    · rw [if_pos c]
      exact ⟨relayAll_ris _ _ _, z3.imp id fun e => (relayAll_led _ _ _).trans e⟩
    · rw [if_neg c]; exact ⟨a1, z3⟩
  refine q _ ?_ ?_ _ _
  · show Ris (SetTable.place (if _ then _ else _)).toList
    split <;> exact r1
  · show SetTable.led (if _ then _ else _) = _
    split <;> exact l1
section
variable {P : Program} {w : World} {A : Around} {E : Value → Shared → Prop}
/-- the texts of a list, all unlike, put in one by one -/
theorem fill_set {R : Result → Shared → Prop} {a I l : Addr} {items : Array Value} {xs : List Str} (hh : A.handled = none) (haI : a ≠ I) (hal : a ≠ l) (hlI : l ≠ I) (hx : StrsAre items.toList xs) (hnd : xs.Nodup) (hb : xs.length + 1 < scanBound) :
    ∀ (k i : Nat) (D : SD) (s : Shared), xs.length - i = k → i ≤ xs.length → s.heap.get? a = some (sObj "set" D) → s.heap.IsListIter I l i → s.heap.IsList l items → TxOk P w D (xs.take i).reverse → SetZ w D →
      (∀ h' tk D', h'.get? a = some (sObj "set" D') → TxOk P w D' xs.reverse → SetZ w D' → (∀ b o, b ≠ a → b ≠ I → s.heap.get? b = some o → h'.get? b = some o) → R (.ok (.ret .none)) { s with heap := h', toks := tk }) →
      codeAny (model P w) A (.builtin "set.update.loop" ⟨[.ref a, .ref I], []⟩) R s := by
  have hsz : items.size = xs.length := by rw [← Array.length_toList]; exact StrsAre.len_eq hx
  intro k
  induction k with
  | zero =>
    intro i D s hk hi ha hit hl F Z hR
    obtain rfl : i = xs.length := by omega
    refine codeAny_builtin PyProof.Rows.F.entry_set_update_loop ?_; rw [Around.under_plainId PyProof.Rows.F.plain_set_update_loop _]; show wpAny _ A.in1 (pyNext (.ref I) >>= _) _ _ s
    refine wpAny_bind (wpAny_pyNext_list_end (A := A.in1) hh hit hl (Array.getElem?_eq_none (Nat.le_of_eq hsz)) fun h' he => ?_)
    rw [List.take_length] at F
    show wpAny _ A.in1 (ret Value.none) _ _ _
    exact wpAny_pure (hR h' s.toks D (he a _ haI ha) F Z fun b o _ h2 e => he b o h2 e)
  | succ k ih =>
    intro i D s hk hi ha hit hl F Z hR
    have hlt : i < xs.length := by omega
    obtain ⟨v, hv⟩ : ∃ v, items[i]? = some v := ⟨_, Array.getElem?_eq_getElem (by omega)⟩
    obtain ⟨t, rfl⟩ := SS.strs_at hx i v (by rw [Array.getElem?_toList]; exact hv)
    have hg : xs.getD i Str.empty = xs[i] := by simp [List.getD, hlt]
    rw [hg] at hv
    refine codeAny_builtin PyProof.Rows.F.entry_set_update_loop ?_; rw [Around.under_plainId PyProof.Rows.F.plain_set_update_loop _]; show wpAny _ A.in1 (pyNext (.ref I) >>= _) _ _ s
    refine wpAny_bind (wpAny_pyNext_list_item hit hl hv fun h1 hit1 hs1 => ?_)
    have hk1 : ∀ b o, b ≠ I → s.heap.get? b = some o → h1.get? b = some o := fun b o hbI e => hs1.extBut b o hbI e
    have hnot : xs[i] ∉ (xs.take i).reverse := fun hm => by
      obtain ⟨j, hj, e⟩ := List.getElem_of_mem (List.mem_reverse.mp hm)
      rw [List.getElem_take] at e
      have hj' : j < i := by rw [List.length_take] at hj; omega
      exact List.pairwise_iff_getElem.mp hnd j i (by omega) hlt hj' e
    show wpAny _ A.in1 (holding [Value.str xs[i] t] (setAdd a (.str xs[i] t)) >>= _) _ _ _
    refine wpAny_bind (wpAny_holding ?_)
    unfold setAdd
    refine wpAny_holding (wpAny_bind ((strKind P w).pyHash (k := xs[i]) (is_str _ _) ?_))
    have ha1 := hk1 a _ haI ha
    refine add_x (l := (xs.take i).reverse) (D := D) ha1 F hnot (by rw [List.length_reverse, List.length_take]; omega) ?_
    have ha2 : (h1.update a (fun _ => sObj "set" (addTx (hashStr w xs[i]) (.str xs[i] t) D))).get? a = some (sObj "set" (addTx (hashStr w xs[i]) (.str xs[i] t) D)) := get_upd _ ha1 rfl
    have hk2 : ∀ b o, b ≠ a → h1.get? b = some o → (h1.update a (fun _ => sObj "set" (addTx (hashStr w xs[i]) (.str xs[i] t) D))).get? b = some o := fun b o hba e => (Heap.get?_update_other _ _ (Ne.symm hba)).trans e
    have F2 := add_ok (k := xs[i]) t F
    have e9 : xs[i] :: (xs.take i).reverse = (xs.take (i + 1)).reverse := by
      rw [List.take_add_one, List.getElem?_eq_getElem hlt, List.reverse_append]
      rfl
    rw [e9] at F2
    refine wpAny_pure ⟨plainId_quiet PyProof.Rows.F.plain_set_update_loop _, ih (i + 1) _ _ (by omega) hlt ha2 (hit1.at fun o e => hk2 I o (Ne.symm haI) e) ((hl.at fun o e => hk1 l o hlI e).at fun o e => hk2 l o (Ne.symm hal) e) F2 (Z.add _ _) fun h' tk D' b1 b2 b3 b4 => ?_⟩
    exact hR h' tk D' b1 b2 b3 fun b o n1 n2 e => b4 b o n1 n2 (hk2 b o n1 (hk1 b o n2 e))
/-- a call of a type: its __new__, the look at what its __init__ is given, its __init__ -/
theorem type_call {T nid iid : String} {Bi : Builtin} {as : List Value} {s : Shared} {Q Qn : Value → Shared → Prop} (tc : TypeCalled T nid iid) (ck : checkTypeCall T ⟨as, []⟩ = pure ()) (en : entryFor table iid = some Bi)
    (nw : codeAny (model P w) A.in1 (.call (.builtin nid) ⟨.type T :: as, []⟩) (wants Qn E) s)
    (nx : ∀ ob s1, Qn ob s1 → s1.TypeIs ob T ∧ (∀ (M : Model) (B : Around) (q : Unit → Shared → Prop) (e : Value → Shared → Prop), q () s1 → wpAny M B (checkBuiltinCall iid ⟨ob :: as, []⟩) q e s1) ∧
      wpAny (model P w) A.in1.in1 (Bi ⟨ob :: as, []⟩) (fun fin s' => match fin with | .done f => wants (fun r s2 => r = .none ∧ Q ob s2) E (.ok f) s' | .again c' => c'.quiet = true ∧ codeAny (model P w) A.in1 c' (wants (fun r s2 => r = .none ∧ Q ob s2) E) s')
        (fun e s' => wants (fun r s2 => r = .none ∧ Q ob s2) E (.error e) s') s1) : wpAny (model P w) A (call (.type T) as) Q E s := by
  obtain ⟨mc, mt, m0⟩ := tc.mro
  have m1 := tc.made; have m2 := tc.sub
  refine wpAny_call (codeAny_of_tree ?_); show wpAny _ _ (callAny (.type T) _) _ _ _
  refine wpAny_pure ⟨Code.quiet_builtin _ (by decide +kernel), codeAny_builtin PySem.F.entry_type_call ?_⟩; rw [Around.under_plain (weight_type_call_type T as []) rfl]
  have m3 := tc.notType; have m4 := tc.canCreate
  repeat (any_goals (first | assumption | wp_step))
  refine codeAny_mono nw fun rs s1 hrs => ?_
  cases rs with
  | error x => exact hrs
  | ok fl =>
    cases fl with
    | ret ob =>
      obtain ⟨hty, hck, hin⟩ := nx _ _ hrs
      have m5 := tc.init.lookup; have m6 := tc.init.bind ob
      repeat (any_goals (first | assumption | wp_step))
      refine codeAny_mono (codeAny_call_builtin tc.init.plain en (hck _ _ _ _ hin)) fun r2 s2 hr2 => ?_
      cases r2 with
      | error x => exact hr2
      | ok f2 =>
        cases f2 with
        | ret r =>
          obtain ⟨rfl, hq⟩ := hr2
          repeat (any_goals (first | assumption | wp_step))
        | _ => exact hr2.elim
    | _ => exact hrs.elim
/-- set(xs) -/
theorem set_of_texts {s : Shared} {l : Addr} {items : Array Value} {xs : List Str} {Q : Value → Shared → Prop} (hh : A.handled = none) (hl : s.heap.IsList l items) (hx : StrsAre items.toList xs) (hnd : xs.Nodup) (hb : xs.length + 1 < scanBound)
    (h : ∀ h' tk D, h'.get? s.heap.objs.size = some (sObj "set" D) → TxOk P w D xs.reverse → SetZ w D → (∀ b o, s.heap.get? b = some o → h'.get? b = some o) → Q (.ref s.heap.objs.size) { s with heap := h', toks := tk }) :
    wpAny (model P w) A (call (.type "set") [.ref l]) Q E s := by
  refine type_call (Qn := fun obj s₁ => obj = .ref s.heap.objs.size ∧ s₁ = { s with heap := s.heap.push { cls := .type "set", dict := none, data := .set #[] 0 (.fresh 0 0 (!w.params.followText "set-order")) } }) F.called_set (F.typeCall_set_1 (.ref l)) F.entry_set_init (code_set_led1 (.ref l) ⟨rfl, rfl⟩) ?_
  rintro obj s₁ ⟨rfl, rfl⟩
  have hnew : (s.heap.push { cls := .type "set", dict := none, data := .set #[] 0 (.fresh 0 0 (!w.params.followText "set-order")) }).get? s.heap.objs.size = some { cls := .type "set", dict := none, data := .set #[] 0 (.fresh 0 0 (!w.params.followText "set-order")) } := Heap.get?_push_size _ rfl
  have hT : Shared.TypeIs { s with heap := s.heap.push { cls := .type "set", dict := none, data := .set #[] 0 (.fresh 0 0 (!w.params.followText "set-order")) } } (.ref s.heap.objs.size) "set" := ⟨_, hnew, rfl⟩
  refine ⟨hT, fun M B q e hq => check_set_init_1 hT hq, ?_⟩
  obtain ⟨⟨c0, d0, dat, sl⟩, hol, hc0, n0, hdat⟩ := hl
  simp only at hc0 hdat
  subst hc0 hdat
  have hol2 : (s.heap.push { cls := .type "set", dict := none, data := .set #[] 0 (.fresh 0 0 (!w.params.followText "set-order")) }).get? l = some { cls := .type "list", dict := d0, data := .seq items n0, slots := sl } := Heap.get?_push_of_some _ hol
  have f1 := F.sub_list_set
  have f2 := F.sub_list_frozenset
  have f3 : (Value.type "list" == Value.type "dict") = false := by decide
  have hl2 : (s.heap.push { cls := .type "set", dict := none, data := .set #[] 0 (.fresh 0 0 (!w.params.followText "set-order")) }).IsList l items := ⟨_, hol2, rfl, n0, rfl⟩
  unfold Builtin.«set.__init__» noKeywords Builtin.Frozenset.updateFrom
  generalize hq : pyIter = qq
  wp_walk
  subst hq
  refine wpAny_pyIter_list hl2 (wpAny_bind (wpAny_runValue ?_))
  have hlS : l < s.heap.objs.size := Heap.lt_size hol
  have hz : (s.heap.push { cls := .type "set", dict := none, data := .set #[] 0 (.fresh 0 0 (!w.params.followText "set-order")) }).objs.size = s.heap.objs.size + 1 := Heap.size_push ..
  refine fill_set (a := s.heap.objs.size) (l := l) (items := items) (xs := xs) (by simp [hh]) (by rw [hz]; exact Nat.ne_of_lt (Nat.lt_succ_self _)) (Nat.ne_of_gt hlS) (by rw [hz]; exact Nat.ne_of_lt (Nat.lt_succ_of_lt hlS)) hx hnd hb xs.length 0 (#[], 0, .fresh 0 0 (!w.params.followText "set-order")) _ rfl (Nat.zero_le _) (Heap.get?_push_of_some _ hnew) ⟨_, Heap.get?_push_size _ rfl, rfl, rfl⟩ (hl2.push _) (TxOk.nil rfl) ⟨List.Pairwise.nil, ?_⟩ fun h' tk D' b1 b2 b3 b4 => ?_
  · show _ ∨ (!w.params.followText "set-order") = true
    cases w.params.followText "set-order"
    · exact .inr rfl
    · exact .inl rfl
  · show wpAny _ _ _ _ _ _
    refine wpAny_pure ?_
    show wpAny _ _ (ret Value.none) _ _ _
    refine wpAny_pure ⟨rfl, h h' tk D' b1 b2 b3 fun b o e => b4 b o (Nat.ne_of_lt (Heap.lt_size e)) ?_ (Heap.get?_push_of_some _ (Heap.get?_push_of_some _ e))⟩
    rw [hz]
    exact Nat.ne_of_lt (Nat.lt_succ_of_lt (Heap.lt_size e))
/-- the texts of the set, in some order -/
theorem txs_of : ∀ {vs : List Value}, (∀ v ∈ vs, ∃ k t, v = Value.str k t) → ∃ ks, StrsAre vs ks
  | [], _ => ⟨[], .nil⟩
  | v :: vs, h => by
    obtain ⟨k, t, rfl⟩ := h v List.mem_cons_self
    obtain ⟨ks, r⟩ := txs_of fun u hu => h u (List.mem_cons_of_mem _ hu)
    exact ⟨k :: ks, .cons k t r⟩
theorem txs_mem : ∀ {vs : List Value} {ks : List Str}, StrsAre vs ks → ∀ k, k ∈ ks ↔ ∃ v ∈ vs, (strKind P w).is k v = true
  | _, _, .nil, k => by simp
  | _, _, .cons (ys := ks) x t r, k => by
    have e : (strKind P w).is k (.str x t) = true ↔ x = k := by
      show ((x == k) = true) ↔ _
      exact beq_iff_eq
    rw [List.mem_cons, txs_mem r k]
    constructor
    · rintro (rfl | ⟨v, hv, q⟩)
      · exact ⟨_, List.mem_cons_self, e.mpr rfl⟩
      · exact ⟨v, List.mem_cons_of_mem _ hv, q⟩
    · rintro ⟨v, hv, q⟩
      rcases List.mem_cons.mp hv with rfl | hv
      · exact .inl (e.mp q).symm
      · exact .inr ⟨v, hv, q⟩
/-- as many, the same members, one of them with no two alike -/
theorem perm_of {α : Type} [DecidableEq α] : ∀ {xs ys : List α}, xs.Nodup → (∀ x, x ∈ ys ↔ x ∈ xs) → ys.length = xs.length → ys.Perm xs
  | [], ys, _, h, _ => by
    have : ys = [] := List.eq_nil_iff_forall_not_mem.mpr fun a ha => by simpa using (h a).mp ha
    subst this; exact .refl _
  | x :: xs, ys, hn, h, hl => by
    obtain ⟨h1, h2⟩ := List.nodup_cons.mp hn
    have hx : x ∈ ys := (h x).mpr List.mem_cons_self
    have p := List.perm_cons_erase hx
    have le := List.length_erase_of_mem hx
    have lp := List.length_pos_of_mem hx
    simp only [List.length_cons] at hl
    by_cases c : x ∈ ys.erase x
    · exfalso
      have key : ∀ (zs : List α) (us : List α), zs.Nodup → (∀ z ∈ zs, z ∈ us) → zs.length ≤ us.length := fun zs => by
        induction zs with
        | nil => intro us _ _; simp
        | cons z zs ih =>
          intro us hz hs
          obtain ⟨z1, z2⟩ := List.nodup_cons.mp hz
          have q := ih (us.erase z) z2 fun y hy => (List.mem_erase_of_ne (fun e => by subst e; exact z1 hy)).mpr (hs y (List.mem_cons_of_mem _ hy))
          have q2 := List.length_erase_of_mem (hs z List.mem_cons_self)
          have q3 := List.length_pos_of_mem (hs z List.mem_cons_self)
          simp only [List.length_cons]; omega
      have a1 := key (x :: xs) ((ys.erase x)) hn fun z hz => by
        by_cases e : z = x
        · subst e; exact c
        · exact (List.mem_erase_of_ne e).mpr ((h z).mpr hz)
      simp only [List.length_cons] at a1
      omega
    · refine p.trans (List.Perm.cons x (perm_of h2 (fun z => ?_) (by omega)))
      constructor
      · intro hz
        have hz2 := (h z).mp (List.mem_of_mem_erase hz)
        rcases List.mem_cons.mp hz2 with rfl | hz2
        · exact absurd hz c
        · exact hz2
      · intro hz
        exact (List.mem_erase_of_ne (fun e => by subst e; exact h1 hz)).mpr ((h z).mpr (List.mem_cons_of_mem _ hz))
/-- sorted(s), s a set of fewer than 64 texts -/
theorem sorted_texts {s : Shared} {a : Addr} {D : SD} {xs : List Str} {Q : Value → Shared → Prop} (ha : s.heap.get? a = some (sObj "set" D)) (F : TxOk P w D xs.reverse) (Z : SetZ w D) (hnd : xs.Nodup) (hh : A.handled = none) (h64 : xs.length < 64)
    (hQ : ∀ (h' : Heap) (t' : Tok) (d' : _) p (out : Array Value) (c : Nat) (ys : List Str), (∀ b o, s.heap.get? b = some o → h'.get? b = some o) → s.heap.objs.size ≤ p → h'.get? p = some (seqObj "list" out c) → StrsAre out.toList ys → ys.Perm xs → sortedS ys = true →
      Q (.ref p) { heap := h', gens := s.gens, drawn := d', toks := t', os := s.os }) : wpAny (model P w) A (call (.builtin "sorted") [.ref a]) Q E s := by
  obtain ⟨es, ep, t⟩ := D
  have hsz : es.size = xs.length := by have := F.sz; simpa using this
  have hb : es.size < scanBound := by rw [hsz]; unfold scanBound; omega
  refine Calls.call_function_entry kind_sorted plain_sorted entry_sorted (args_sorted1 _) ?_
  unfold Builtin.«sorted»
  refine wpAny_bind (m := checkCount "sorted" 1 1 _) (wpAny_pure ?_)
  refine wpAny_bind (collect_set (A := A.in1) (a := a) (es := es) (ep := ep) (t := t) hh ⟨_, ha, rfl, rfl⟩ F.fit hb Z.1 Z.2 fun s1 vs k1 hz g1 o1 pm => ?_)
  have all : ∀ v ∈ vs, ∃ k t, v = Value.str k t := fun v hv => by
    obtain ⟨e, he, rfl⟩ := List.mem_map.mp (pm.mem_iff.mp hv)
    obtain ⟨⟨k, q, _⟩, _⟩ := F.el e he
    obtain ⟨t, q⟩ := Value.isStrOf_shape (x := k) (v := e.2) q
    exact ⟨k, t, q⟩
  obtain ⟨ks, hS⟩ := txs_of all
  have hvl : vs.length = xs.length := by rw [pm.length_eq, List.length_map, Array.length_toList]; exact hsz
  have hkl : ks.length = xs.length := by rw [← hvl]; exact (StrsAre.len_eq hS).symm
  have hp0 : ks.Perm xs := perm_of hnd (fun k => by
    rw [txs_mem (P := P) (w := w) hS k]
    have q := F.mem k
    rw [List.mem_reverse] at q
    rw [q]
    constructor
    · rintro ⟨v, hv, e⟩
      obtain ⟨p, hp, rfl⟩ := List.mem_map.mp (pm.mem_iff.mp hv)
      exact ⟨p, hp, e⟩
    · rintro ⟨p, hp, e⟩
      exact ⟨p.2, pm.mem_iff.mpr (List.mem_map.mpr ⟨p, hp, rfl⟩), e⟩) hkl
  refine wpAny_bind (wpAny_newList ?_ (by rw [hvl, sizeLine_eq]; omega))
  have hoL : (s1.heap.push (seqObj "list" vs.toArray 0)).get? s1.heap.objs.size = some (seqObj "list" vs.toArray 0) := Heap.get?_push_size _ rfl
  refine wpAny_bind (wpAny_holding (wpAny_call_entry slot_list_sort ⟨_, hoL, rfl⟩ entry_list_sort (list_sort_treeK strKind_oneLt hoL hS.keysOf (fun v₁ v₂ rest e => keyKind_strs (by rw [← e]; exact hS)) (by rw [hvl]; exact h64) fun st' hp hs => ⟨_, rfl, ?_⟩) (args_list_sort _)))
  obtain ⟨ys, q1, q2, q3⟩ := sorted_out_str hS hp hs
  obtain ⟨c, hc⟩ := sortedHeap_at (vs := vs) (out := (arrOf st').map (·.2)) hoL
  obtain ⟨h1, g1', d1, t1, o1'⟩ := s1
  cases g1
  cases o1
  refine wpAny_pure ⟨_, rfl, hQ _ _ _ _ _ c ys (fun b u e => ?_) hz hc q1 (q2.trans hp0) q3⟩
  have q := k1 b u e
  have hlt := Heap.lt_size q
  show (sortedHeap (h1.push (seqObj "list" vs.toArray 0)) h1.objs.size vs _).get? b = some u
  rw [sortedHeap_old (Nat.ne_of_lt hlt) (by rw [size_push']; exact Nat.lt_succ_of_lt hlt)]
  exact Heap.get?_push_of_some _ q
end
end QF
end

section
set_option maxHeartbeats 4000000
/-! QFT: sorted(set(xs)), len(set(xs)). -/
namespace QF
open PySem PySem.Spec PyProof.Rows L2 PySem.Froz
variable {G : Gi} {W : WX} {X : Cx} {P : Prg} {cf : Nat → List D → Sto → Res D}
/-- a built-in of the set of a value -/
def tSet (G : Gi) (b : Bi) (m : Bool) (ta : TE) : TE := fun σ H Q => ta σ H fun x H1 => ∃ W σ' Fz μ S d, RepS G Fz μ H1 S ∧ Rep G Fz μ H1 d x ∧ Go G W σ' (qV G Q) Fz μ S H1 (evBi b m [d] S)
/-- a list of unlike texts -/
theorem set_shape {Fz : Addr → Prop} {μ : List Addr} {S : Sto} {H : Hp} {x : V} {d : D} {ds : List D} {ss : List Cs} (rs : RepS G Fz μ H S) (rx : Rep G Fz μ H d x) (hd : drf S d = some (.lst ds)) (h : allOf strOf ds = some ss) : ∃ a, x = .ref a ∧ H a = some (.lst ((ss.map txt).map V.str)) := by
  have v1 := vw_of rs rx hd
  obtain ⟨a, vs, rfl, ha, ra⟩ := v1
  obtain rfl := strs_of h ra
  exact ⟨a, rfl, ha⟩
theorem txt_nodup {ss : List Cs} (h : ss.Nodup) : (ss.map txt).Nodup := by
  refine List.Pairwise.map _ (fun a b hab e => hab ?_) h
  have := congrArg (fun s : Str => s.cps.toList) e
  simpa [txt] using this
theorem pe_sset {a : Expr} {ta : TE} {m : Bool} {p p2 q pos : Pos} (hc : X.calm = true) (hg : Gl X "sorted") (hm : X.mg "sorted" = none) (hg2 : Gl X "set") (hm2 : X.mg "set" = none) (ha : PE X a ta)
    (na : starEach [a] X.env = (false, eval a X.env) :: starEach [] X.env) : PE X (.Call (.Name "sorted" p) [.Call (.Name "set" p2) [a] [] q] [] pos) (tSet G .sortedSet m ta) := by
  refine ⟨fun pins s σ H Q I h => ?_⟩
  refine Call_ (ld_blt I hg hm (show bootBuiltins ("sorted" : Str) = some (.builtin "sorted") by decide +kernel) ?_)
  refine PyProof.Rows.callWith_builtin1 (PyProof.Rows.args_cons ?_ rfl) rfl rfl
  refine Call_ (ld_blt I hg2 hm2 boot_set ?_)
  refine PyProof.Rows.callWith_type1 (PyProof.Rows.args_cons (thn (ha.run pins s σ H _ I h) fun v s1 ⟨x, H1, I1, r1, q1⟩ => PyProof.Rows.args_nil ?_) na) na rfl
  obtain ⟨W, σ', Fz, μ, S, d, rs, rd, go⟩ := q1
  unfold evBi at go
  cases h1 : drfs S [d] with
  | none => rw [h1] at go; exact go.elim
  | some as =>
    rw [h1] at go
    dsimp only at go
    cases h2 : biL .sortedSet as with
    | none => rw [h2] at go; exact go.elim
    | some l =>
      rw [h2] at go
      dsimp only at go
      have sh : ∃ ds ss, as = [.lst ds] ∧ allOf strOf ds = some ss ∧ ss.length < 64 ∧ ss.Nodup ∧ l = (isort ltS ss).map .str := by
        cases as with
        | nil => simp [biL] at h2
        | cons u r => cases r with
          | cons u2 r => simp [biL] at h2
          | nil =>
            cases u <;> simp only [biL, reduceCtorEq] at h2
            rename_i ds
            cases e : allOf strOf ds with
            | none => rw [e] at h2; cases h2
            | some ss =>
              rw [e] at h2
              simp only [Option.bind_some] at h2
              split at h2
              · rename_i hh; cases h2; exact ⟨ds, ss, rfl, e, hh.1, hh.2, rfl⟩
              · cases h2
      obtain ⟨ds, ss, rfl, hss, h64, hnd, rfl⟩ := sh
      obtain ⟨d', e', hd⟩ := drfs_one h1
      cases e'
      obtain ⟨b, rfl, hb⟩ := set_shape rs rd hd hss
      cases r1
      obtain ⟨its, rv, pl, hz⟩ := I1.list (SqL.of hb)
      have hl64 : (ss.map txt).length < 64 := by rw [List.length_map]; exact h64
      refine set_of_texts (I1.ok.hd hc) pl.isList (xs := ss.map txt) (by simpa using rv.strs) (txt_nodup hnd) (by unfold scanBound; omega) fun h' tk Dd b1 b2 b3 b4 => ?_
      refine PyProof.Rows.args_nil ?_
      refine sorted_texts (s := { s1 with heap := h', toks := tk }) b1 b2 b3 (txt_nodup hnd) (I1.ok.hd hc) hl64 fun h3 t3 d3 pp out c ys k3 hp3 hg3 hx3 hp4 hs3 => ?_
      have hk3 : ∀ b o, s1.heap.get? b = some o → h3.get? b = some o := fun b o e => k3 b o (b4 b o e)
      have hp5 : s1.heap.objs.size ≤ pp := Nat.le_trans (Nat.le_of_lt (Heap.lt_size b1)) hp3
      have hn : H1 pp = none := I1.hok.fresh hp5
      have hlen : (ys.map V.str).length ≤ sizeLine := by rw [List.length_map, hp4.length_eq, sizeLine_eq]; omega
      have J : Inv X pins σ (upd H1 pp (.lst (ys.map V.str))) { heap := h3, gens := s1.gens, drawn := d3, toks := t3, os := s1.os } :=
        I1.call (ch := []) (Un.laid hk3 hp5 hn) (I1.hok.laid hk3 hp5 ⟨hlen, out.toList, c, vals_of_strs hx3, hg3⟩) I1.bare (fun _ z => nomatch z)
      refine ⟨.ref pp, _, J, rfl, ?_⟩
      rw [sorted_strs hp4 hs3]
      exact Go.newL go rs (reps_strs _) hn
theorem pe_lset {a : Expr} {ta : TE} {m : Bool} {p p2 q pos : Pos} (hc : X.calm = true) (hg : Gl X "len") (hm : X.mg "len" = none) (hg2 : Gl X "set") (hm2 : X.mg "set" = none) (ha : PE X a ta)
    (na : starEach [a] X.env = (false, eval a X.env) :: starEach [] X.env) : PE X (.Call (.Name "len" p) [.Call (.Name "set" p2) [a] [] q] [] pos) (tSet G .lenSet m ta) := by
  refine ⟨fun pins s σ H Q I h => ?_⟩
  refine Call_ (ld_blt I hg hm boot_len ?_)
  refine PyProof.Rows.callWith_builtin1 (PyProof.Rows.args_cons ?_ rfl) rfl rfl
  refine Call_ (ld_blt I hg2 hm2 boot_set ?_)
  refine PyProof.Rows.callWith_type1 (PyProof.Rows.args_cons (thn (ha.run pins s σ H _ I h) fun v s1 ⟨x, H1, I1, r1, q1⟩ => PyProof.Rows.args_nil ?_) na) na rfl
  obtain ⟨W, σ', Fz, μ, S, d, rs, rd, go⟩ := q1
  obtain ⟨as, z, h1, h2, g⟩ := bi_val (by simp) go
  have sh : ∃ ds ss, as = [.lst ds] ∧ allOf strOf ds = some ss ∧ ss.length < 64 ∧ ss.Nodup ∧ z = .int ds.length := by
    cases as with
    | nil => simp [biD] at h2
    | cons u r => cases r with
      | cons u2 r => simp [biD] at h2
      | nil =>
        cases u <;> simp only [biD, reduceCtorEq] at h2
        rename_i ds
        cases e : allOf strOf ds with
        | none => rw [e] at h2; cases h2
        | some ss =>
          rw [e] at h2
          simp only [Option.bind_some] at h2
          split at h2
          · rename_i hh; cases h2; exact ⟨ds, ss, rfl, e, hh.1, hh.2, rfl⟩
          · cases h2
  obtain ⟨ds, ss, rfl, hss, h64, hnd, rfl⟩ := sh
  obtain ⟨d', e', hd⟩ := drfs_one h1
  cases e'
  obtain ⟨b, rfl, hb⟩ := set_shape rs rd hd hss
  cases r1
  obtain ⟨its, rv, pl, hz⟩ := I1.list (SqL.of hb)
  have hl64 : (ss.map txt).length < 64 := by rw [List.length_map]; exact h64
  refine set_of_texts (I1.ok.hd hc) pl.isList (xs := ss.map txt) (by simpa using rv.strs) (txt_nodup hnd) (by unfold scanBound; omega) fun h' tk Dd b1 b2 b3 b4 => ?_
  refine PyProof.Rows.args_nil ?_
  obtain ⟨es, ep, t⟩ := Dd
  have hsz : es.size = ds.length := by
    have q1 := b2.sz
    rw [List.length_reverse, List.length_map] at q1
    rw [← allOf_length hss]; exact q1
  have I2 : Inv X pins σ H1 { s1 with heap := h', toks := tk } := I1.kept b4
  refine call_len_set b1 ⟨rfl, rfl, rfl⟩ rfl b2.fit (by rw [hsz, ← allOf_length hss]; omega) ⟨.int ds.length, H1, I2.tok _, ⟨_, by rw [hsz]⟩, g.int rs⟩
theorem d_sset {a : Expr} {ea : Ex} {m : Bool} {p p2 q pos : Pos} (hc : X.calm = true) (hg : Gl X "sorted") (hm : X.mg "sorted" = none) (hg2 : Gl X "set") (hm2 : X.mg "set" = none) (na : starEach [a] X.env = (false, eval a X.env) :: starEach [] X.env) (ha : PE X a (TD G W P cf ea)) :
    PE X (.Call (.Name "sorted" p) [.Call (.Name "set" p2) [a] [] q] [] pos) (TD G W P cf (.bi .sortedSet m (.cons ea .nil))) :=
  PE.imp (pe_sset (G := G) (m := m) hc hg hm hg2 hm2 ha na) fun σ H Q ⟨Fz, μ, ρ, S, rs, re, go⟩ => by
    simp only [evE, evEs] at go
    have go' : Go G W σ (qV G Q) Fz μ S H ((evE P cf ea ρ S).bind fun d S => evBi .sortedSet m [d] S) := by
      cases h1 : evE P cf ea ρ S with
      | ok d S' => rw [h1] at go; exact go
      | exc c fs S' => rw [h1] at go; exact go
      | stk => rw [h1] at go; exact go
    exact At.weak (Go.b1 rs re go') fun x H1 ⟨F1, μ1, S1, d, r1, e1, k1, rd, go1⟩ => ⟨W, σ, F1, μ1, S1, d, r1, rd, go1⟩
theorem d_lset {a : Expr} {ea : Ex} {m : Bool} {p p2 q pos : Pos} (hc : X.calm = true) (hg : Gl X "len") (hm : X.mg "len" = none) (hg2 : Gl X "set") (hm2 : X.mg "set" = none) (na : starEach [a] X.env = (false, eval a X.env) :: starEach [] X.env) (ha : PE X a (TD G W P cf ea)) :
    PE X (.Call (.Name "len" p) [.Call (.Name "set" p2) [a] [] q] [] pos) (TD G W P cf (.bi .lenSet m (.cons ea .nil))) :=
  PE.imp (pe_lset (G := G) (m := m) hc hg hm hg2 hm2 ha na) fun σ H Q ⟨Fz, μ, ρ, S, rs, re, go⟩ => by
    simp only [evE, evEs] at go
    have go' : Go G W σ (qV G Q) Fz μ S H ((evE P cf ea ρ S).bind fun d S => evBi .lenSet m [d] S) := by
      cases h1 : evE P cf ea ρ S with
      | ok d S' => rw [h1] at go; exact go
      | exc c fs S' => rw [h1] at go; exact go
      | stk => rw [h1] at go; exact go
    exact At.weak (Go.b1 rs re go') fun x H1 ⟨F1, μ1, S1, d, r1, e1, k1, rd, go1⟩ => ⟨W, σ, F1, μ1, S1, d, r1, rd, go1⟩
end QF
end

section
set_option maxHeartbeats 4000000
/-! QFZ: list(zip(a, b)). -/
namespace QF
open PySem PySem.Spec PyProof.Rows L2
section
variable {prog : Program} {w : World} {A : Around} {E : Value → Shared → Prop} {s : Shared} {z TI TO i1 i2 T : Addr} {fp1 fp2 : List Addr} {n1 n2 i : Nat} {P1 P2 : Nat → Value → Prop} {St1 St2 : Nat → Heap → Prop} {f : Bool} {oT : Obj}
/-- zip's next turn while the last pair is kept by someone: a new pair -/
theorem zk_item {Q : Value → Shared → Prop} (S : ZipSep2 z TI TO i1 i2 fp1 fp2) (D1 : Draws prog w A i1 fp1 n1 P1 St1) (D2 : Draws prog w A i2 fp2 n2 P2 St2) (hz : IsZipHeld s.heap z TI TO T f) (hT : s.heap.get? T = some oT) (hTI : IsTupOf2 s.heap TI (.ref i1) (.ref i2))
    (st1 : St1 i s.heap) (st2 : St2 i s.heap) (l1 : i < n1) (l2 : i < n2)
    (hQ : ∀ x1 x2 h' tk, P1 i x1 → P2 i x2 → IsZipHeld h' z TI TO T true → St1 (i + 1) h' → St2 (i + 1) h' → IsTupOf2 h' s.heap.objs.size x1 x2 → h'.objs.size = s.heap.objs.size + 1 →
      (∀ c o, c ≠ z → c ≠ i1 → c ≠ i2 → s.heap.get? c = some o → h'.get? c = some o) → Q (.ref s.heap.objs.size) { s with heap := h', toks := tk }) :
    wpAny (model prog w) A (Builtin.«zip.__next__» ⟨[.ref z], []⟩) (fun fin s' => ∃ v, fin = .done (.ret v) ∧ Q v s') E s := by
  obtain ⟨hp, gg, dd, t0, os⟩ := s
  show wpAny _ _ (field (.ref z) 2 >>= _) _ _ ⟨hp, gg, dd, t0, os⟩; refine wpAny_bind (wpAny_field hz rfl (x := .bool false) rfl ?_)
  show wpAny _ _ (field (.ref z) 3 >>= _) _ _ ⟨hp, gg, dd, t0, os⟩; refine wpAny_bind (wpAny_field hz rfl (x := .ref TI) rfl (wpAny_bind (wpAny_seqItems hTI rfl ?_)))
  show wpAny _ _ (Builtin.SmallTypes.ownedTupleIsFree (.ref z) >>= _) _ _ ⟨hp, gg, dd, t0, os⟩; refine wpAny_bind (wpAny_tupleHeld_zip hz hT fun h1 hz1 hs1 => ?_)
  replace hz1 : IsZipHeld h1 z TI TO T true := hz1
  replace hs1 : Heap.SameBut z hp h1 := hs1
  simp only [Bool.false_eq_true, if_false]
  refine wpAny_bind ?_
  rw [← Array.forIn_toList]; simp only [List.forIn_cons, List.forIn_nil]
  refine wpAny_bind (wpAny_bind (wpAny_holding ?_))
  show wpAny _ _ (Builtin.SmallTypes.nextOf (.ref i1) >>= _) _ _ ⟨h1, gg, dd, t0, os⟩
  refine wpAny_bind (D1.item i _ _ _ l1 (D1.over st1 hs1 S.zf1) fun x1 p1 k1 y1 u1 hp1 => wpAny_pure (wpAny_pure ?_))
  replace hp1 : Heap.SameBut i1 h1 p1 := hp1
  refine wpAny_bind (wpAny_bind (wpAny_holding ?_))
  show wpAny _ _ (Builtin.SmallTypes.nextOf (.ref i2) >>= _) _ _ ⟨p1, gg, dd, k1, os⟩
  refine wpAny_bind (D2.item i _ _ _ l2 (D2.over (D2.over st2 hs1 S.zf2) hp1 S.sep1_2) fun x2 p2 k2 y2 u2 hp2 => wpAny_pure (wpAny_pure (wpAny_pure ?_)))
  replace hp2 : Heap.SameBut i2 p1 p2 := hp2
  show wpAny _ _ (newTuple [x1, x2] >>= _) _ _ ⟨p2, gg, dd, k2, os⟩
  refine wpAny_bind (wpAny_newTuple ?_)
  have hsz : p2.objs.size = hp.objs.size := by rw [hp2.1, hp1.1, hs1.1]
  have e1 : ∀ c o, p2.get? c = some o → (p2.push { cls := .type "tuple", data := .seq #[x1, x2] }).get? c = some o := fun c o e => Heap.get?_push_of_some _ e
  have e2 : IsTupOf2 (p2.push { cls := .type "tuple", data := .seq #[x1, x2] }) p2.objs.size x1 x2 := Heap.get?_push_size _ rfl
  have e3 : (p2.push { cls := .type "tuple", data := .seq #[x1, x2] }).objs.size = p2.objs.size + 1 := Heap.size_push ..
  refine wpAny_pure ⟨_, rfl, ?_⟩
  show Q (.ref p2.objs.size) ⟨p2.push { cls := .type "tuple", data := .seq #[x1, x2] }, gg, dd, k2, os⟩
  rw [hsz] at e2 e3 ⊢
  exact hQ x1 x2 _ k2 y1 y2 (e1 _ _ (hp2.extBut _ _ S.zi2 (hp1.extBut _ _ S.zi1 hz1))) (D1.frame _ _ _ (D1.over u1 hp2 S.sep2_1) fun b _ o e => e1 b o e) (D2.frame _ _ _ u2 fun b _ o e => e1 b o e) e2 e3
    fun c o c1 c2 c3 e => e1 c o (hp2.extBut _ _ c3 (hp1.extBut _ _ c2 (hs1.extBut _ _ c1 e)))
/-- .. and its end -/
theorem zk_end {Q : Fin → Shared → Prop} (S : ZipSep2 z TI TO i1 i2 fp1 fp2) (D1 : Draws prog w A i1 fp1 n1 P1 St1) (D2 : Draws prog w A i2 fp2 n2 P2 St2) (hz : IsZipHeld s.heap z TI TO T f) (hT : s.heap.get? T = some oT) (hTI : IsTupOf2 s.heap TI (.ref i1) (.ref i2))
    (st1 : St1 i s.heap) (st2 : St2 i s.heap) (l1 : i ≤ n1) (l2 : i ≤ n2) (hend : i = n1 ∨ i = n2)
    (hE : ∀ h' tk e, (∀ c o, c ≠ z → c ≠ i1 → c ≠ i2 → s.heap.get? c = some o → h'.get? c = some o) → (∃ o, h'.get? e = some o ∧ o.cls = .type "StopIteration") → E (.ref e) { s with heap := h', toks := tk }) :
    wpAny (model prog w) A (Builtin.«zip.__next__» ⟨[.ref z], []⟩) Q E s := by
  obtain ⟨hp, gg, dd, t0, os⟩ := s
  show wpAny _ _ (field (.ref z) 2 >>= _) _ _ ⟨hp, gg, dd, t0, os⟩; refine wpAny_bind (wpAny_field hz rfl (x := .bool false) rfl ?_)
  show wpAny _ _ (field (.ref z) 3 >>= _) _ _ ⟨hp, gg, dd, t0, os⟩; refine wpAny_bind (wpAny_field hz rfl (x := .ref TI) rfl (wpAny_bind (wpAny_seqItems hTI rfl ?_)))
  show wpAny _ _ (Builtin.SmallTypes.ownedTupleIsFree (.ref z) >>= _) _ _ ⟨hp, gg, dd, t0, os⟩; refine wpAny_bind (wpAny_tupleHeld_zip hz hT fun h1 hz1 hs1 => ?_)
  replace hs1 : Heap.SameBut z hp h1 := hs1
  simp only [Bool.false_eq_true, if_false]
  refine wpAny_bind ?_
  rw [← Array.forIn_toList]; simp only [List.forIn_cons, List.forIn_nil]
  refine wpAny_bind (wpAny_bind (wpAny_holding ?_))
  show wpAny _ _ (Builtin.SmallTypes.nextOf (.ref i1) >>= _) _ _ ⟨h1, gg, dd, t0, os⟩
  by_cases q1 : i < n1
  · refine wpAny_bind (D1.item i _ _ _ q1 (D1.over st1 hs1 S.zf1) fun x1 p1 k1 y1 u1 hp1 => wpAny_pure (wpAny_pure ?_))
    replace hp1 : Heap.SameBut i1 h1 p1 := hp1
    have hi2 : i = n2 := by omega
    refine wpAny_bind (wpAny_bind (wpAny_holding ?_))
    show wpAny _ _ (Builtin.SmallTypes.nextOf (.ref i2) >>= _) _ _ ⟨p1, gg, dd, k1, os⟩
    refine wpAny_bind (D2.done ⟨p1, gg, dd, k1, os⟩ _ _ (by rw [← hi2]; exact D2.over (D2.over st2 hs1 S.zf2) hp1 S.sep1_2) fun q e hq he => ?_)
    replace hq : Heap.ExtBut i2 p1 q := hq
    exact hE q k1 e (fun c o c1 c2 c3 x => hq _ _ c3 (hp1.extBut _ _ c2 (hs1.extBut _ _ c1 x))) he
  · have hi1 : i = n1 := by omega
    refine wpAny_bind (D1.done ⟨h1, gg, dd, t0, os⟩ _ _ (by rw [← hi1]; exact D1.over st1 hs1 S.zf1) fun q e hq he => ?_)
    replace hq : Heap.ExtBut i1 h1 q := hq
    exact hE q t0 e (fun c o c1 c2 c3 x => hq _ _ c2 (hs1.extBut _ _ c1 x)) he
/-- how the zip stands ahead of a turn: it has handed out nothing, or a pair that is kept -/
def ZSt (z TI TO i1 i2 S : Addr) (St1 St2 : Nat → Heap → Prop) (i : Nat) (h : Heap) : Prop :=
  IsTupOf2 h TI (.ref i1) (.ref i2) ∧ St1 i h ∧ St2 i h ∧ ((IsZip h z TI TO .none ∧ ∃ a b, IsTupOf2 h TO a b) ∨ ∃ T f oT, IsZipHeld h z TI TO T f ∧ h.get? T = some oT ∧ T ≠ z ∧ T ≠ i1 ∧ T ≠ i2 ∧ T ≠ S)
theorem ZSt.keep {S : Addr} (D1 : Draws prog w A i1 fp1 n1 P1 St1) (D2 : Draws prog w A i2 fp2 n2 P2 St2) {h h' : Heap} (x : ZSt z TI TO i1 i2 S St1 St2 i h) (hk : ∀ b o, b ≠ S → h.get? b = some o → h'.get? b = some o) (hS : S ≠ z ∧ S ≠ TI ∧ S ≠ TO) (hf : S ∉ fp1 ∧ S ∉ fp2) : ZSt z TI TO i1 i2 S St1 St2 i h' := by
  obtain ⟨a, b, c, d⟩ := x
  refine ⟨hk _ _ (Ne.symm hS.2.1) a, D1.frame _ _ _ b fun y hy o e => hk y o (fun q => hf.1 (q ▸ hy)) e, D2.frame _ _ _ c fun y hy o e => hk y o (fun q => hf.2 (q ▸ hy)) e, ?_⟩
  rcases d with ⟨d1, u, v, d2⟩ | ⟨T, f, oT, d1, d2, d3, d4, d5, d6⟩
  · exact .inl ⟨hk _ _ (Ne.symm hS.1) d1, u, v, hk _ _ (Ne.symm hS.2.2) d2⟩
  · exact .inr ⟨T, f, oT, hk _ _ (Ne.symm hS.1) d1, hk _ _ d6 d2, d3, d4, d5, d6⟩
/-- a turn -/
theorem zs_item {S : Addr} {Q : Option Value → Shared → Prop} (Z : ZipSep2 z TI TO i1 i2 fp1 fp2) (D1 : Draws prog w A.in1 i1 fp1 n1 P1 St1) (D2 : Draws prog w A.in1 i2 fp2 n2 P2 St2) (hS : S < s.heap.objs.size) (x : ZSt z TI TO i1 i2 S St1 St2 i s.heap) (l1 : i < n1) (l2 : i < n2)
    (hQ : ∀ x1 x2 h' tk, P1 i x1 → P2 i x2 → ZSt z TI TO i1 i2 S St1 St2 (i + 1) h' → IsTupOf2 h' s.heap.objs.size x1 x2 → (∀ c o, c ≠ z → c ≠ TO → c ≠ i1 → c ≠ i2 → s.heap.get? c = some o → h'.get? c = some o) → Q (some (.ref s.heap.objs.size)) { s with heap := h', toks := tk }) :
    wpAny (model prog w) A (pyNext (.ref z)) Q E s := by
  obtain ⟨a, b, c, d⟩ := x
  have far : ∀ {y o}, s.heap.get? y = some o → s.heap.objs.size ≠ y := fun e => Nat.ne_of_gt (Heap.lt_size e)
  have f1 : s.heap.objs.size ≠ i1 := let ⟨_, e⟩ := D1.live _ _ b; far e
  have f2 : s.heap.objs.size ≠ i2 := let ⟨_, e⟩ := D2.live _ _ c; far e
  rcases d with ⟨d1, u, v, d2⟩ | ⟨T, f, oT, d1, d2, d3, d4, d5, d6⟩
  · refine wpAny_pyNext_zipD2_item Z D1 D2 d1 a d2 b c l1 l2 fun x1 x2 h' tk y1 y2 b1 b2 e1 e2 b5 b6 b7 => ?_
    exact hQ x1 x2 h' tk y1 y2 ⟨b7 _ _ Z.TIz Z.TITO Z.TIi1 Z.TIi2 a, e1, e2, .inr ⟨s.heap.objs.size, false, _, b1, b5, far d1, f1, f2, Nat.ne_of_gt hS⟩⟩ b5 b7
  · have hT : s.TypeIs (.ref z) "zip" := ⟨_, d1, rfl⟩
    unfold pyNext
    refine wpAny_bind (wpAny_attempt (wpAny_callSpecial?_slot (name := Str.ofString "__next__") hT PySem.F.slot_zip_next (wpAny_call_entry PySem.F.slot_zip_next hT PySem.F.entry_zip_next
      (zk_item Z D1 D2 d1 d2 a b c l1 l2 fun x1 x2 h' tk y1 y2 b1 e1 e2 b5 b6 b7 => wpAny_pure ?_) (PySem.F.args_zip_next_1 _))))
    exact hQ x1 x2 h' tk y1 y2 ⟨b7 _ _ Z.TIz Z.TIi1 Z.TIi2 a, e1, e2, .inr ⟨T, true, oT, b1, b7 _ _ d3 d4 d5 d2, d3, d4, d5, d6⟩⟩ b5 fun q o q1 _ q2 q3 e => b7 q o q1 q2 q3 e
theorem zs_end {S : Addr} {Q : Option Value → Shared → Prop} (Z : ZipSep2 z TI TO i1 i2 fp1 fp2) (D1 : Draws prog w A.in1 i1 fp1 n1 P1 St1) (D2 : Draws prog w A.in1 i2 fp2 n2 P2 St2) (x : ZSt z TI TO i1 i2 S St1 St2 i s.heap) (l1 : i ≤ n1) (l2 : i ≤ n2) (hend : i = n1 ∨ i = n2)
    (hQ : ∀ h' tk, (∀ c o, c ≠ z → c ≠ TO → c ≠ i1 → c ≠ i2 → s.heap.get? c = some o → h'.get? c = some o) → Q none { s with heap := h', toks := tk }) : wpAny (model prog w) A (pyNext (.ref z)) Q E s := by
  obtain ⟨a, b, c, d⟩ := x
  rcases d with ⟨d1, u, v, d2⟩ | ⟨T, f, oT, d1, d2, d3, d4, d5, d6⟩
  · exact wpAny_pyNext_zipD2_end Z D1 D2 d1 a d2 b c l1 l2 hend hQ
  · have hT : s.TypeIs (.ref z) "zip" := ⟨_, d1, rfl⟩
    unfold pyNext
    refine wpAny_bind (wpAny_attempt (wpAny_callSpecial?_slot (name := Str.ofString "__next__") hT PySem.F.slot_zip_next (wpAny_call_entry PySem.F.slot_zip_next hT PySem.F.entry_zip_next (zk_end Z D1 D2 d1 d2 a b c l1 l2 hend fun h' tk e hk he => ?_) (PySem.F.args_zip_next_1 _))))
    obtain ⟨o, ho, hc⟩ := he
    refine wpAny_bind (wpAny_isInstance (T := "StopIteration") (b := true) ⟨o, ho, hc⟩ isSubtype_stop (wpAny_pure (hQ _ _ fun q o q1 _ q2 q3 e => hk q o q1 q2 q3 e)))
end
theorem zip_lenless : typeLookup (.type "zip") "__len__" = pure none := am_miss_of_fast (by decide +kernel)
theorem zip_hintless : typeLookup (.type "zip") "__length_hint__" = pure none := am_miss_of_fast (by decide +kernel)
section
variable {prog : Program} {w : World} {A : Around} {E : Value → Shared → Prop} {s : Shared} {z TI TO i1 i2 : Addr} {fp1 fp2 : List Addr} {n1 n2 : Nat} {P1 P2 : Nat → Value → Prop} {St1 St2 : Nat → Heap → Prop}
/-- the pairs that stand at the addresses, above a bound -/
structure Prs (P1 P2 : Nat → Value → Prop) (lo : Addr) (h : Heap) (as : List Addr) : Prop where
  rise : as.Pairwise (· < ·)
  low : ∀ a ∈ as, lo ≤ a
  at_ : ∀ (j : Nat) (a : Addr), as[j]? = some a → ∃ x1 x2, P1 j x1 ∧ P2 j x2 ∧ IsTupOf2 h a x1 x2
theorem Prs.up {lo : Addr} {h h' : Heap} {as : List Addr} (p : Prs P1 P2 lo h as) (k : ∀ b o, lo ≤ b → h.get? b = some o → h'.get? b = some o) : Prs P1 P2 lo h' as :=
  ⟨p.rise, p.low, fun j a e => let ⟨x1, x2, q1, q2, q3⟩ := p.at_ j a e; ⟨x1, x2, q1, q2, k a _ (p.low a (List.mem_of_getElem? e)) q3⟩⟩
/-- list(z), z a zip: the loop -/
theorem zl_loop {S lo : Addr} {res : Value} {h0 : Heap} {R : Result → Shared → Prop} (hh : A.handled = none) (Z : ZipSep2 z TI TO i1 i2 fp1 fp2) (D1 : Draws prog w A.in1.in1 i1 fp1 n1 P1 St1) (D2 : Draws prog w A.in1.in1 i2 fp2 n2 P2 St2) (hn : min n1 n2 ≤ sizeLine)
    (hS : S ≠ z ∧ S ≠ TI ∧ S ≠ TO) (hf : S ∉ fp1 ∧ S ∉ fp2) (hlo : S < lo ∧ z < lo ∧ TO < lo ∧ i1 < lo ∧ i2 < lo)
    (hR : ∀ h' tk acc c as, (∀ b o, b ≠ S → b ≠ z → b ≠ TO → b ≠ i1 → b ≠ i2 → h0.get? b = some o → h'.get? b = some o) → h'.get? S = some { cls := .type "list", dict := none, data := .seq acc c, slots := #[] } → acc.toList = as.map Value.ref → as.length = min n1 n2 → Prs P1 P2 lo h' as →
      R (.ok (.ret res)) { s with heap := h', toks := tk }) :
    ∀ (k i : Nat) (h : Heap) (tk c : Nat) (acc : Array Value) (as : List Addr), min n1 n2 - i = k → i ≤ min n1 n2 → ZSt z TI TO i1 i2 S St1 St2 i h → (∀ b o, b ≠ S → b ≠ z → b ≠ TO → b ≠ i1 → b ≠ i2 → h0.get? b = some o → h.get? b = some o) →
      h.get? S = some { cls := .type "list", dict := none, data := .seq acc c, slots := #[] } → acc.toList = as.map Value.ref → as.length = i → Prs P1 P2 lo h as → lo ≤ h.objs.size → (∀ a ∈ as, a < h.objs.size) →
      codeAny (model prog w) A (.builtin "list.extend.loop" ⟨[.ref S, .ref z, res], []⟩) R { s with heap := h, toks := tk } := by
  intro k
  induction k with
  | zero =>
    intro i h tk c acc as hk hi x hkp hL hacc hal hp hsz has
    refine codeAny_builtin PySem.F.entry_extend_loop ?_; rw [Around.under_plainId PySem.F.plain_extend_loop _]; show wpAny _ A.in1 (pyNext (.ref z) >>= _) _ _ _
    refine wpAny_bind (zs_end (s := { s with heap := h, toks := tk }) (A := A.in1) Z D1 D2 x (by omega) (by omega) (by omega) fun h' t' he => ?_)
    dsimp only at he
    have ne : ∀ b, lo ≤ b → b ≠ z ∧ b ≠ TO ∧ b ≠ i1 ∧ b ≠ i2 := fun b hb => ⟨Nat.ne_of_gt (Nat.lt_of_lt_of_le hlo.2.1 hb), Nat.ne_of_gt (Nat.lt_of_lt_of_le hlo.2.2.1 hb), Nat.ne_of_gt (Nat.lt_of_lt_of_le hlo.2.2.2.1 hb), Nat.ne_of_gt (Nat.lt_of_lt_of_le hlo.2.2.2.2 hb)⟩
    exact wpAny_pure (hR h' t' acc c as (fun b o q0 q1 q2 q3 q4 e => he b o q1 q2 q3 q4 (hkp b o q0 q1 q2 q3 q4 e)) (he S _ hS.1 hS.2.2 (fun q => hf.1 (q ▸ Z.mem1)) (fun q => hf.2 (q ▸ Z.mem2)) hL) hacc (by omega) (hp.up fun b o hb e => let ⟨a1, a2, a3, a4⟩ := ne b hb; he b o a1 a2 a3 a4 e))
  | succ k ih =>
    intro i h tk c acc as hk hi x hkp hL hacc hal hp hsz has
    have l0 : i < min n1 n2 := by omega
    have haz : acc.size = i := by rw [← Array.length_toList, hacc, List.length_map, hal]
    have hSh : S < h.objs.size := Heap.lt_size hL
    refine codeAny_builtin PySem.F.entry_extend_loop ?_; rw [Around.under_plainId PySem.F.plain_extend_loop _]; show wpAny _ A.in1 (pyNext (.ref z) >>= _) _ _ _
    refine wpAny_bind (zs_item (s := { s with heap := h, toks := tk }) (A := A.in1) (S := S) Z D1 D2 hSh x (by omega) (by omega) fun x1 x2 h' t' y1 y2 x' hT hk' => ?_)
    dsimp only at hT hk'
    have hL' := hk' S _ hS.1 hS.2.2 (fun q => hf.1 (q ▸ Z.mem1)) (fun q => hf.2 (q ▸ Z.mem2)) hL
    have ne : ∀ b, lo ≤ b → b ≠ z ∧ b ≠ TO ∧ b ≠ i1 ∧ b ≠ i2 := fun b hb => ⟨Nat.ne_of_gt (Nat.lt_of_lt_of_le hlo.2.1 hb), Nat.ne_of_gt (Nat.lt_of_lt_of_le hlo.2.2.1 hb), Nat.ne_of_gt (Nat.lt_of_lt_of_le hlo.2.2.2.1 hb), Nat.ne_of_gt (Nat.lt_of_lt_of_le hlo.2.2.2.2 hb)⟩
    have nS : ∀ b, lo ≤ b → b ≠ S := fun b hb => Nat.ne_of_gt (Nat.lt_of_lt_of_le hlo.1 hb)
    have up : ∀ b o, b ≠ S → h'.get? b = some o → (h'.update S (Obj.mapSeq (·.push (Value.ref h.objs.size)))).get? b = some o := fun b o hb e => (Heap.get?_update_other _ _ (Ne.symm hb)).trans e
    have hT2 := up _ _ (nS _ hsz) hT
    have hsz2 : h.objs.size < (h'.update S (Obj.mapSeq (·.push (Value.ref h.objs.size)))).objs.size := Heap.lt_size hT2
    show wpAny _ A.in1 (updateSeq S (·.push (Value.ref h.objs.size)) >>= _) _ _ _
    refine wpAny_bind ?_
    refine wpAny_updateSeq hL' rfl (wpAny_pure ⟨plainId_quiet PySem.F.plain_extend_loop _, ih (i + 1) _ t' _ (acc.push (Value.ref h.objs.size)) (as ++ [h.objs.size]) (by omega) (by omega) (x'.keep D1 D2 up hS hf)
      (fun b o q0 q1 q2 q3 q4 e => up b o q0 (hk' b o q1 q2 q3 q4 (hkp b o q0 q1 q2 q3 q4 e))) (Heap.get?_update_self _ hL' rfl) (by rw [Array.toList_push, hacc, List.map_append]; rfl) (by rw [List.length_append, hal]; rfl) ⟨?_, ?_, ?_⟩ (Nat.le_of_lt (Nat.lt_of_le_of_lt hsz hsz2)) ?_⟩) (by rw [haz]; omega) (by show (acc.push (Value.ref h.objs.size)).size ≤ sizeLine + 1; rw [Array.size_push, haz]; omega)
    · exact List.pairwise_append.mpr ⟨hp.rise, List.pairwise_singleton _ _, fun a ha b hb => by rw [List.mem_singleton.mp hb]; exact has a ha⟩
    · intro a ha
      rcases List.mem_append.mp ha with ha | ha
      · exact hp.low a ha
      · rw [List.mem_singleton.mp ha]; exact hsz
    · intro j a hj
      by_cases hj2 : j < as.length
      · rw [List.getElem?_append_left hj2] at hj
        obtain ⟨u1, u2, v1, v2, v3⟩ := hp.at_ j a hj
        have hb := hp.low a (List.mem_of_getElem? hj)
        obtain ⟨a1, a2, a3, a4⟩ := ne a hb
        exact ⟨u1, u2, v1, v2, up _ _ (nS a hb) (hk' a _ a1 a2 a3 a4 v3)⟩
      · rw [List.getElem?_append_right (by omega)] at hj
        have e0 : j - as.length = 0 := by
          have := (List.getElem?_eq_some_iff.mp hj).1
          simp at this; omega
        rw [e0] at hj
        simp only [List.getElem?_cons_zero, Option.some.injEq] at hj
        subst hj
        have ej : j = i := by omega
        subst ej
        exact ⟨x1, x2, y1, y2, hT2⟩
    · intro a ha
      rcases List.mem_append.mp ha with ha | ha
      · exact Nat.lt_trans (has a ha) hsz2
      · rw [List.mem_singleton.mp ha]; exact hsz2
/-- list(z) -/
theorem zl_call {Q : Value → Shared → Prop} (hh : A.handled = none) (Z : ZipSep2 z TI TO i1 i2 fp1 fp2) (D1 : Draws prog w A.in1.in1.in1 i1 fp1 n1 P1 St1) (D2 : Draws prog w A.in1.in1.in1 i2 fp2 n2 P2 St2) (hn : min n1 n2 ≤ sizeLine)
    (hz : IsZip s.heap z TI TO .none) (hTI : IsTupOf2 s.heap TI (.ref i1) (.ref i2)) (hTO : IsTupOf2 s.heap TO .none .none) (st1 : St1 0 s.heap) (st2 : St2 0 s.heap) (hb : ∀ b ∈ fp1 ++ fp2, b < s.heap.objs.size)
    (hQ : ∀ h' tk acc c as, (∀ b o, b ≠ z → b ≠ TO → b ≠ i1 → b ≠ i2 → s.heap.get? b = some o → h'.get? b = some o) → h'.get? s.heap.objs.size = some { cls := .type "list", dict := none, data := .seq acc c, slots := #[] } → acc.toList = as.map Value.ref → as.length = min n1 n2 → Prs P1 P2 (s.heap.objs.size + 1) h' as →
      Q (.ref s.heap.objs.size) { s with heap := h', toks := tk }) : wpAny (model prog w) A (call (.type "list") [.ref z]) Q E s := by
  refine callType_codes (Q₁ := fun ob s1 => ob = .ref s.heap.objs.size ∧ s1 = { s with heap := s.heap.push { cls := .type "list", data := .seq #[] } }) PySem.F.called_list (PySem.F.typeCall_list_1 _) PySem.F.entry_list_init (code_list_new _ ⟨rfl, rfl⟩) fun ob s1 e1 => ?_
  obtain ⟨rfl, rfl⟩ := e1
  have g0 : (s.heap.push { cls := .type "list", data := .seq #[] }).get? s.heap.objs.size = some { cls := .type "list", data := .seq #[] } := Heap.get?_push_size _ rfl
  have kp : ∀ b o, s.heap.get? b = some o → (s.heap.push { cls := .type "list", data := .seq #[] }).get? b = some o := fun b o e => Heap.get?_push_of_some _ e
  refine ⟨⟨_, g0, rfl⟩, PySem.F.args_list_init_2 _ _, ?_⟩
  have lz : z < s.heap.objs.size := Heap.lt_size hz
  have lO : TO < s.heap.objs.size := Heap.lt_size hTO
  have lI : TI < s.heap.objs.size := Heap.lt_size hTI
  have hSf : s.heap.objs.size ∉ fp1 ∧ s.heap.objs.size ∉ fp2 := ⟨fun m => Nat.lt_irrefl _ (hb _ (List.mem_append_left _ m)), fun m => Nat.lt_irrefl _ (hb _ (List.mem_append_right _ m))⟩
  have l1 : i1 < s.heap.objs.size := hb _ (List.mem_append_left _ Z.mem1)
  have l2 : i2 < s.heap.objs.size := hb _ (List.mem_append_right _ Z.mem2)
  have hS3 : s.heap.objs.size ≠ z ∧ s.heap.objs.size ≠ TI ∧ s.heap.objs.size ≠ TO := ⟨Nat.ne_of_gt lz, Nat.ne_of_gt lI, Nat.ne_of_gt lO⟩
  have x0 : ZSt z TI TO i1 i2 s.heap.objs.size St1 St2 0 (s.heap.push { cls := .type "list", data := .seq #[] }) := ⟨kp _ _ hTI, D1.frame _ _ _ st1 fun b _ o e => kp b o e, D2.frame _ _ _ st2 fun b _ o e => kp b o e, .inl ⟨kp _ _ hz, _, _, kp _ _ hTO⟩⟩
  have ov : ∀ (h : Heap) (f : Array Value → Array Value) (b : Addr) (o : Obj), b ≠ s.heap.objs.size → h.get? b = some o → (h.update s.heap.objs.size (Obj.mapSeq f)).get? b = some o := fun h f b o hb' e => (Heap.get?_update_other _ _ (Ne.symm hb')).trans e
  show wpAny _ _ (do let old ← Builtin.List.listItems (.ref s.heap.objs.size); Builtin.List.listUpdate (.ref s.heap.objs.size) (fun _ => #[]); letGo old.toList.reverse; Builtin.List.listExtendWith (.ref s.heap.objs.size) (.ref z) .none) _ _ _
  refine wpAny_bind ?_
  unfold Builtin.List.listItems
  refine wpAny_bind (wpAny_seqItems g0 rfl (wpAny_pure ?_))
  show wpAny _ _ (updateSeq s.heap.objs.size (fun _ => #[]) >>= fun _ => letGo (#[] : Array Value).toList.reverse >>= fun _ => Builtin.List.listExtendWith (.ref s.heap.objs.size) (.ref z) .none) _ _ _
  refine wpAny_bind (wpAny_updateSeq g0 rfl ?_)
  have g1 := Heap.get?_update_self (Obj.mapSeq (fun _ => (#[] : Array Value))) g0 rfl
  refine wpAny_bind (wpAny_letGo ?_)
  unfold Builtin.List.listExtendWith
  have z1 := ov _ (fun _ => (#[] : Array Value)) z _ (Ne.symm hS3.1) (kp _ _ hz)
  have tz : Shared.TypeIs { s with heap := (s.heap.push { cls := .type "list", data := .seq #[] }).update s.heap.objs.size (Obj.mapSeq fun _ => (#[] : Array Value)) } (.ref z) "zip" := ⟨_, z1, rfl⟩
  refine wpAny_bind (wpAny_typeOf tz ?_)
  have b1 : Builtin.List.listSameRef (.ref s.heap.objs.size) (.ref z) = false := by simp [Builtin.List.listSameRef, hS3.1]
  have b2 : (Value.type "zip" == Value.type "list") = false := by decide
  have b3 : (Value.type "zip" == Value.type "tuple") = false := by decide
  simp only [b1, b2, b3, Bool.or_false, Bool.false_eq_true, if_false]
  refine wpAny_bind (wpAny_pyIter_zip z1 (wpAny_bind (wpAny_holding ?_)))
  unfold Builtin.List.listLengthHint
  refine wpAny_bind (wpAny_specialOf tz zip_lenless ?_)
  show wpAny _ _ (specialOf (Value.ref z) (Str.ofString "__length_hint__") >>= _) _ _ _
  refine wpAny_bind (wpAny_specialOf tz zip_hintless (wpAny_pure ?_))
  show wpAny _ _ (rule "list.extend.makes-room" >>= fun _ => Builtin.List.listTouch (.ref s.heap.objs.size) >>= fun _ => again (.builtin "list.extend.loop" ⟨[.ref s.heap.objs.size, .ref z, .none], []⟩)) _ _ _
  refine wpAny_bind (wpAny_rule (wpAny_bind ?_))
  show wpAny _ _ (updateSeq s.heap.objs.size (·.push .none) >>= fun _ => updateSeq s.heap.objs.size (·.pop)) _ _ _
  refine wpAny_bind (wpAny_updateSeq g1 rfl ?_)
  have g2 := Heap.get?_update_self (Obj.mapSeq (·.push Value.none)) g1 rfl
  refine wpAny_updateSeq (hz := by seq_fits) g2 rfl ?_
  have g3 := Heap.get?_update_self (Obj.mapSeq (·.pop)) g2 rfl
  have k3 : ∀ b o, b ≠ s.heap.objs.size → (s.heap.push { cls := .type "list", data := .seq #[] }).get? b = some o → ((((s.heap.push { cls := .type "list", data := .seq #[] }).update s.heap.objs.size (Obj.mapSeq fun _ => (#[] : Array Value))).update s.heap.objs.size (Obj.mapSeq (·.push Value.none))).update s.heap.objs.size (Obj.mapSeq (·.pop))).get? b = some o :=
    fun b o hb' e => ov _ _ b o hb' (ov _ _ b o hb' (ov _ _ b o hb' e))
  have sz3 : (((((s.heap.push { cls := .type "list", data := .seq #[] }).update s.heap.objs.size (Obj.mapSeq fun _ => (#[] : Array Value))).update s.heap.objs.size (Obj.mapSeq (·.push Value.none))).update s.heap.objs.size (Obj.mapSeq (·.pop)))).objs.size = s.heap.objs.size + 1 := by
    simp only [Heap.size_update, Heap.size_push]
  refine wpAny_pure ⟨plainId_quiet PySem.F.plain_extend_loop _, zl_loop (h0 := s.heap) (lo := s.heap.objs.size + 1) (by exact hh) Z D1 D2 hn hS3 hSf ⟨Nat.lt_succ_self _, Nat.lt_succ_of_lt lz, Nat.lt_succ_of_lt lO, Nat.lt_succ_of_lt l1, Nat.lt_succ_of_lt l2⟩ (fun h' tk acc c as q1 q2 q3 q4 q5 => ?_)
    (min n1 n2) 0 _ _ _ #[] [] (Nat.sub_zero _) (Nat.zero_le _) (x0.keep D1 D2 k3 hS3 hSf) (fun b o q0 _ _ _ _ e => k3 b o q0 (kp b o e)) g3 rfl rfl ⟨.nil, (fun _ h => nomatch h), fun j a e => by simp at e⟩ (Nat.le_of_eq sz3.symm) (fun _ h => nomatch h)⟩
  exact ⟨rfl, hQ h' tk acc c as (fun b o a1 a2 a3 a4 e => q1 b o (Nat.ne_of_lt (Heap.lt_size e)) a1 a2 a3 a4 e) q2 q3 q4 q5⟩
end
end QF
end

section
set_option maxHeartbeats 4000000
/-! QFY: list(zip(a, b)) as an expression. -/
namespace QF
open PySem PySem.Spec PyProof.Rows L2
/-- a pair that lies in the heap -/
structure PR where
  a : Addr
  u : Value
  v : Value
  x : V
  y : V
theorem mkL {h : Heap} : ∀ {as : List Addr} {us vs : List Value} {xs ys : List V}, Vals xs us → Vals ys vs → as.length = min us.length vs.length → (∀ (j : Nat) (a : Addr), as[j]? = some a → ∃ u v, us[j]? = some u ∧ vs[j]? = some v ∧ IsTupOf2 h a u v) →
    ∃ L : List PR, L.map PR.a = as ∧ (L.map fun l => (l.x, l.y)) = xs.zip ys ∧ ∀ l ∈ L, RelV l.x l.u ∧ RelV l.y l.v ∧ IsTupOf2 h l.a l.u l.v
  | [], us, vs, xs, ys, r1, r2, hl, _ => by
    refine ⟨[], rfl, ?_, fun l h => nomatch h⟩
    cases r1 with
    | nil => rfl
    | cons _ _ => cases r2 with
      | nil => rfl
      | cons _ _ => simp at hl
  | a :: as, us, vs, xs, ys, r1, r2, hl, hp => by
    cases r1 with
    | nil => simp at hl
    | @cons x u0 _ _ q1 t1 =>
      cases r2 with
      | nil => simp at hl
      | @cons y v0 _ _ q2 t2 =>
        obtain ⟨u, v, e1, e2, e3⟩ := hp 0 a rfl
        simp only [List.getElem?_cons_zero, Option.some.injEq] at e1 e2
        subst e1 e2
        obtain ⟨L, h1, h2, h3⟩ := mkL (as := as) t1 t2 (by simp only [List.length_cons] at hl; omega) fun j b e => by
          obtain ⟨u', v', e1, e2, e3⟩ := hp (j + 1) b (by simpa using e)
          exact ⟨u', v', by simpa using e1, by simpa using e2, e3⟩
        refine ⟨⟨a, u0, v0, x, y⟩ :: L, by simp [h1], by simp only [List.map_cons, List.zip_cons_cons, h2], fun l hl => ?_⟩
        rcases List.mem_cons.mp hl with rfl | hl
        · exact ⟨q1, q2, e3⟩
        · exact h3 l hl
def tupHO (G : Gi) (l : PR) : HO := if G.xt = true then .frz { cls := .type "tuple", data := .seq #[l.u, l.v] } (.tup [l.x, l.y]) else .tup [l.x, l.y]
def layP (G : Gi) : Hp → List PR → Hp
  | H, [] => H
  | H, l :: L => layP G (upd H l.a (tupHO G l)) L
variable {G : Gi} {Fz : Addr → Prop} {μ : List Addr} {S : Sto}
theorem lay_ok {P : Program} {w : World} {h : Heap} {H' : Hp} {l : PR} (hx : RelV l.x l.u) (hy : RelV l.y l.v) (ht : IsTupOf2 h l.a l.u l.v) : ObjOk P w H' h l.a (tupHO G l) := by
  have z : ([l.x, l.y] : List V).length ≤ sizeLine := by show 2 ≤ sizeLine; decide
  have t : IsTup h l.a ([l.u, l.v] : List Value).toArray := ⟨_, ht, rfl, _, rfl⟩
  unfold tupHO
  split
  · exact ⟨ht, z, [l.u, l.v], .cons hx (.cons hy .nil), t⟩
  · exact ⟨z, [l.u, l.v], .cons hx (.cons hy .nil), t⟩
theorem lay_out : ∀ (L : List PR) (H : Hp) (b : Addr), b ∉ L.map PR.a → layP G H L b = H b
  | [], _, _, _ => rfl
  | l :: L, H, b, h => by
    simp only [List.map_cons, List.mem_cons, not_or] at h
    show layP G (upd H l.a (tupHO G l)) L b = _
    rw [lay_out L _ b h.2, upd_ne h.1]
theorem lay_in {P : Program} {w : World} {h : Heap} : ∀ (L : List PR) (H : Hp), (L.map PR.a).Nodup → (∀ l ∈ L, RelV l.x l.u ∧ RelV l.y l.v ∧ IsTupOf2 h l.a l.u l.v) → ∀ (H' : Hp) (b : Addr) (u : HO), layP G H L b = some u → H b = some u ∨ ObjOk P w H' h b u
  | [], _, _, _, _, _, _, e => .inl e
  | l :: L, H, nd, hr, H', b, u, e => by
    simp only [List.map_cons, List.nodup_cons] at nd
    rcases lay_in (P := P) (w := w) L (upd H l.a (tupHO G l)) nd.2 (fun k hk => hr k (List.mem_cons_of_mem _ hk)) H' b u e with q | q
    · by_cases hb : b = l.a
      · subst hb
        rw [upd_same] at q; cases q
        obtain ⟨a1, a2, a3⟩ := hr l List.mem_cons_self
        exact .inr (lay_ok a1 a2 a3)
      · rw [upd_ne hb] at q; exact .inl q
    · exact .inr q
/-- all of them are laid: the values that they are -/
theorem lay_rep : ∀ (L : List PR) (H : Hp) (ds1 ds2 : List D) (xs ys : List V), (L.map PR.a).Nodup → (∀ l ∈ L, H l.a = none) → (L.map fun l => (l.x, l.y)) = xs.zip ys → RepS G Fz μ H S → Reps G Fz μ H ds1 xs → Reps G Fz μ H ds2 ys →
    RepS G Fz μ (layP G H L) S ∧ Ext Fz μ S H Fz μ S (layP G H L) ∧ Reps G Fz μ (layP G H L) ((zipD ds1 ds2).map unpr) ((L.map PR.a).map V.ref)
  | [], H, ds1, ds2, xs, ys, _, _, hz, rs, r1, r2 => by
    refine ⟨rs, .refl, ?_⟩
    have : zipD ds1 ds2 = [] := by
      cases ds1 with
      | nil => rfl
      | cons d1 ds1 =>
        cases ds2 with
        | nil => rfl
        | cons d2 ds2 =>
          simp only [Reps] at r1 r2
          obtain ⟨v1, w1, rfl, _⟩ := r1
          obtain ⟨v2, w2, rfl, _⟩ := r2
          simp at hz
    rw [this]; simp only [List.map_nil, Reps]
  | l :: L, H, ds1, ds2, xs, ys, nd, hf, hz, rs, r1, r2 => by
    simp only [List.map_cons, List.nodup_cons] at nd
    cases ds1 with
    | nil => simp only [Reps] at r1; subst r1; simp at hz
    | cons d1 ds1 =>
      cases ds2 with
      | nil => simp only [Reps] at r2; subst r2; simp at hz
      | cons d2 ds2 =>
        simp only [Reps] at r1 r2
        obtain ⟨v1, w1, rfl, p1, q1⟩ := r1
        obtain ⟨v2, w2, rfl, p2, q2⟩ := r2
        simp only [List.map_cons, List.zip_cons_cons, List.cons.injEq, Prod.mk.injEq] at hz
        obtain ⟨⟨rfl, rfl⟩, hz⟩ := hz
        have hn := hf l List.mem_cons_self
        have k : Keep Fz Fz μ μ H (upd H l.a (tupHO G l)) := keep_upd hn
        obtain ⟨a1, a2, a3⟩ := lay_rep L (upd H l.a (tupHO G l)) ds1 ds2 w1 w2 nd.2 (fun m hm => by
          rw [upd_ne (fun e => nd.1 (by rw [← e]; exact List.mem_map_of_mem hm))]
          exact hf m (List.mem_cons_of_mem _ hm)) hz (reps_new rs hn) (Reps.keep k _ _ q1) (Reps.keep k _ _ q2)
        refine ⟨a1, (ext_new hn).trans a2, ?_⟩
        have k2 : Keep Fz Fz μ μ (upd H l.a (tupHO G l)) (layP G (upd H l.a (tupHO G l)) L) := a2.keep (reps_new rs hn)
        have ht : TupAt G (layP G (upd H l.a (tupHO G l)) L) l.a [d1, d2] [l.x, l.y] := by
          have e : layP G (upd H l.a (tupHO G l)) L l.a = some (tupHO G l) := by rw [lay_out _ _ _ nd.1, upd_same]
          cases hx : G.xt with
          | true => exact .inr (.inl ⟨hx, _, e.trans (congrArg some (show tupHO G l = _ by unfold tupHO; rw [if_pos hx])), rfl, rfl⟩)
          | false => exact .inl ⟨hx, e.trans (congrArg some (show tupHO G l = _ by unfold tupHO; rw [if_neg (by rw [hx]; simp)]))⟩
        simp only [zipD, unpr, List.map_cons, Reps, Rep]
        exact ⟨_, _, rfl, ⟨l.a, [l.x, l.y], rfl, ht, l.x, [l.y], rfl, Rep.keep k2 _ _ (Rep.keep k _ _ p1), l.y, [], rfl, Rep.keep k2 _ _ (Rep.keep k _ _ p2), rfl⟩, a3⟩
/-- many objects tracked at once -/
theorem lay_inv {X : Cx} {pins : List (Addr × Obj)} {σ : L2.St} {H H2 : Hp} {s : Shared} {h' : Heap} {t' : Tok} (I : Inv X pins σ H s) (k : ∀ b o, s.heap.get? b = some o → h'.get? b = some o) (ho : ∀ b u, H b = some u → H2 b = some u) (hl : ∀ b, b < s.heap.objs.size → H2 b = H b)
    (hn : ∀ b u, H2 b = some u → H b = some u ∨ ObjOk X.prog X.w H2 h' b u) : Inv X pins σ H2 { s with heap := h', toks := t' } := by
  have un : Un (frs X.stack) [] H H2 s.heap h' := {
    keep := fun b o e _ _ _ => k b o e
    slot := fun b o e _ _ _ => ⟨o.slots, k b o e⟩
    free := fun b o e n _ => (hl b (Heap.lt_size e)).trans n
    there := fun b o e _ => ⟨o, k b o e⟩
    tups := fun b xs e => ho b _ e
    frzs := fun b o u e => ho b _ e
    tbls := fun b ps e => ⟨#[], by rw [ho b _ e]; simp⟩ }
  exact I.call (ch := []) un (fun b u e => by
    rcases hn b u e with q | q
    · exact (I.hok b u q).stay (fun c v _ q => k c v q) (fun c q => ho c _ q) fun c xs q => ho c _ q
    · exact q) I.bare (fun _ z => nomatch z)
variable {W : WX} {X : Cx} {P : Prg} {cf : Nat → List D → Sto → Res D}
def tLZ (G : Gi) (K : PySem.W.Frag) (m : Bool) (ta : TA) : TE := fun σ H Q => ta σ H fun vs H1 => ∃ W σ' Fz μ S a b ds1 ds2 xs ys, vs = [V.ref a, V.ref b] ∧ RepS G Fz μ H1 S ∧ Reps G Fz μ H1 ds1 xs ∧ Reps G Fz μ H1 ds2 ys ∧
  ((SqT K H1 a xs ∧ SqT K H1 b ys) ∨ (SqL K H1 a xs ∧ SqL K H1 b ys)) ∧ Go G W σ' (qV G Q) Fz μ S H1 (newL m ((zipD ds1 ds2).map unpr) S)
theorem refs_vals : ∀ as : List Addr, Vals (as.map V.ref) (as.map Value.ref)
  | [] => .nil
  | a :: as => .cons rfl (refs_vals as)
theorem nlt {a N k : Nat} (h : a < N) : a < N + k := Nat.lt_of_lt_of_le h (Nat.le_add_right _ _)
theorem nne {a N k : Nat} (h : a < N) : a ≠ N + k := Nat.ne_of_lt (nlt h)
theorem nfar {a N m k : Nat} (h : N + m ≤ a) (hk : k < m) : a ≠ N + k := by omega
theorem nfar0 {a N m : Nat} (h : N + m ≤ a) (b : Nat) (hb : b < N) : b ≠ a := by omega
theorem nge {a N m : Nat} (h : N + m ≤ a) : N ≤ a := by omega
/-- the end of it, the two iterators drawn from -/
theorem lz_end {pins : List (Addr × Obj)} {σ σ' : L2.St} {H : Hp} {s1 : Shared} {Q : VK} {m : Bool} {a b : Addr} {o1 o2 : Obj} {c1 c2 : Heap → Prop} {its1 its2 : List Value} {xs ys : List V} {ds1 ds2 : List D} {St1 St2 : Nat → Heap → Prop} {fp1 fp2 : List Addr} (hc : X.calm = true) (I : Inv X pins σ H s1)
    (B1 : Begins (.ref a) o1 c1) (B2 : Begins (.ref b) o2 c2) (h1 : c1 s1.heap) (h2 : c2 s1.heap) (hf1 : ∀ y ∈ fp1, y < s1.heap.objs.size) (hf2 : ∀ y ∈ fp2, y < s1.heap.objs.size)
    (D1 : Draws X.prog X.w X.A.in1.in1.in1 s1.heap.objs.size (s1.heap.objs.size :: fp1) its1.toArray.size (fun i v => its1.toArray[i]? = some v) St1) (D2 : Draws X.prog X.w X.A.in1.in1.in1 (s1.heap.objs.size + 1) ((s1.heap.objs.size + 1) :: fp2) its2.toArray.size (fun i v => its2.toArray[i]? = some v) St2)
    (s1' : ∀ h', h'.get? s1.heap.objs.size = some o1 → (∀ y o, s1.heap.get? y = some o → h'.get? y = some o) → St1 0 h') (s2' : ∀ h', h'.get? (s1.heap.objs.size + 1) = some o2 → (∀ y o, s1.heap.get? y = some o → h'.get? y = some o) → St2 0 h')
    (v1 : Vals xs its1) (v2 : Vals ys its2) (hz : its1.length ≤ sizeLine) (rs : RepS G Fz μ H S) (r1 : Reps G Fz μ H ds1 xs) (r2 : Reps G Fz μ H ds2 ys) (go : Go G W σ' (qV G Q) Fz μ S H (newL m ((zipD ds1 ds2).map unpr) S))
    {A0 : Around} (hA : A0 = X.A) : wpAny (model X.prog X.w) X.A (call (.type "zip") [.ref a, .ref b]) (fun r s2 => wpAny (model X.prog X.w) X.A (call (.type "list") [r]) (EP X pins σ Q) X.xe s2) X.xe s1 := by
  refine zip_begins2 B1 B2 h1 h2 fun h' hz1 hT hO g1 g2 hs hk => ?_
  have Z := zip_sep2 (N := s1.heap.objs.size) hf1 hf2
  have hmin : min its1.toArray.size its2.toArray.size ≤ sizeLine := by
    have := Nat.min_le_left its1.toArray.size its2.toArray.size
    simp only [List.size_toArray] at this ⊢
    omega
  refine zl_call (s := { s1 with heap := h' }) (I.ok.hd hc) Z D1 D2 hmin hz1 hT hO (s1' h' g1 hk) (s2' h' g2 hk) (fun y hy => ?_) fun h3 tk acc c as k3 hL hacc hal hp => ?_
  · show y < h'.objs.size
    rw [hs]
    rcases List.mem_append.mp hy with hy | hy
    · rcases List.mem_cons.mp hy with rfl | hy
      · exact Nat.lt_add_of_pos_right (by decide)
      · exact nlt (hf1 y hy)
    · rcases List.mem_cons.mp hy with rfl | hy
      · exact Nat.add_lt_add_left (by decide) _
      · exact nlt (hf2 y hy)
  · dsimp only at k3 hL hp
    rw [hs] at hL hp
    have k4 : ∀ y o, s1.heap.get? y = some o → h3.get? y = some o := fun y o e => by
      have q := Heap.lt_size e
      exact k3 y o (nne q) (nne q) (Nat.ne_of_lt q) (nne q) (hk y o e)
    obtain ⟨L, e1, e2, e3⟩ := mkL (h := h3) (as := as) v1 v2 (by rw [hal]; simp) fun j y e => by
      obtain ⟨x1, x2, p1, p2, p3⟩ := hp.at_ j y e
      exact ⟨x1, x2, by simpa using p1, by simpa using p2, p3⟩
    have nd : (L.map PR.a).Nodup := by rw [e1]; exact hp.rise.imp fun h => Nat.ne_of_lt h
    have hlow : ∀ l ∈ L, s1.heap.objs.size + 6 ≤ l.a := fun l hl => hp.low l.a (by rw [← e1]; exact List.mem_map_of_mem hl)
    have hfree : ∀ l ∈ L, H l.a = none := fun l hl => I.hok.fresh (nge (hlow l hl))
    obtain ⟨q1, q2, q3⟩ := lay_rep L H ds1 ds2 xs ys nd hfree e2 rs r1 r2
    have hS : layP G H L (s1.heap.objs.size + 5) = none := by
      rw [lay_out L H _ fun hm => ?_]
      · exact I.hok.fresh (Nat.le_add_right _ _)
      · obtain ⟨l, hl, e⟩ := List.mem_map.mp hm
        exact nfar (hlow l hl) (by decide) e
    have hlen : ((L.map PR.a).map V.ref).length ≤ sizeLine := by rw [List.length_map, e1, hal]; exact hmin
    have J : Inv X pins σ (upd (layP G H L) (s1.heap.objs.size + 5) (.lst ((L.map PR.a).map V.ref))) { s1 with heap := h3, toks := tk } := by
      refine lay_inv I k4 (fun y u e => ?_) (fun y hy => ?_) fun y u e => ?_
      · have hy : y < s1.heap.objs.size := I.hok.lt e
        rw [upd_ne (nne hy), lay_out L H _ fun hm => ?_]
        · exact e
        · obtain ⟨l, hl, e⟩ := List.mem_map.mp hm
          exact nfar0 (hlow l hl) y hy e.symm
      · rw [upd_ne (nne hy), lay_out L H _ fun hm => ?_]
        obtain ⟨l, hl, e⟩ := List.mem_map.mp hm
        exact nfar0 (hlow l hl) y hy e.symm
      · by_cases hy : y = s1.heap.objs.size + 5
        · subst hy
          rw [upd_same] at e; cases e
          refine .inr ⟨hlen, acc.toList, c, ?_, by rw [Array.toArray_toList]; exact hL⟩
          rw [hacc, e1]
          exact refs_vals as
        · rw [upd_ne hy] at e
          exact lay_in L H nd e3 _ y u e
    refine ⟨.ref (s1.heap.objs.size + 5), _, ?_, ?_, Go.newL (go.ext q2) q1 q3 hS⟩
    · exact J
    · show (Value.ref h'.objs.size) = _
      rw [hs]
theorem pe_lzip {e f : Expr} {ta : TA} {m : Bool} {p p2 q pos : Pos} (hc : X.calm = true) (hg : Gl X "list") (hm : X.mg "list" = none) (hg2 : Gl X "zip") (hm2 : X.mg "zip" = none) (ha : PA X [e, f] ta)
    (hs : starEach [e, f] X.env = (false, eval e X.env) :: starEach [f] X.env) (hpl : (backTo q (starEach [f] X.env)).any (·.1) = false) : PE X (.Call (.Name "list" p) [.Call (.Name "zip" p2) [e, f] [] q] [] pos) (tLZ G X.K m ta) := by
  refine ⟨fun pins s σ H Q I h => ?_⟩
  refine Call_ (ld_blt I hg hm (show bootBuiltins ("list" : Str) = some (.type "list") by decide +kernel) ?_)
  refine PyProof.Rows.callWith_type1 (PyProof.Rows.args_cons ?_ rfl) rfl rfl
  refine Call_ (ld_blt I hg2 hm2 PyProof.Rows.boot_zip (PyProof.Rows.callWith_type1 (thn (ha.run q pins s σ H _ I h) fun us s1 ⟨vs, H1, I1, r1, q1⟩ => ?_) hs hpl))
  obtain ⟨W, σ', Fz, μ, S, a, b, ds1, ds2, xs, ys, rfl, rs, ra, rb, hq, go⟩ := q1
  cases r1 with
  | cons r rr =>
    cases rr with
    | cons r' rr =>
      cases rr
      cases r
      cases r'
      have hh : X.A.in1.in1.in1.handled = none := I1.ok.hd hc
      have fin : ∀ (r : Value) (s2 : Shared), wpAny (model X.prog X.w) X.A (call (.type "list") [r]) (EP X pins σ Q) X.xe s2 → wpAny (model X.prog X.w) X.A (spliced (backTo pos (starEach [] X.env))) (fun us s3 => wpAny (model X.prog X.w) X.A (call (.type "list") (r :: us)) (EP X pins σ Q) X.xe s3) X.xe s2 := fun r s2 h2 => PyProof.Rows.args_nil h2
      refine thn ?_ fin
      rcases hq with ⟨hx, hy⟩ | ⟨hx, hy⟩
      · obtain ⟨its1, v1, p1, z1⟩ := I1.tuple hx
        obtain ⟨its2, v2, p2, _⟩ := I1.tuple hy
        have t1 : s1.heap.IsTuple a its1.toArray := p1
        have t2 : s1.heap.IsTuple b its2.toArray := p2
        have la : a < s1.heap.objs.size := let ⟨_, g, _⟩ := t1; Heap.lt_size g
        have lb : b < s1.heap.objs.size := let ⟨_, g, _⟩ := t2; Heap.lt_size g
        exact lz_end (fp1 := [a]) (fp2 := [b]) hc I1 (begins_tuple a its1.toArray) (begins_tuple b its2.toArray) t1 t2 (fun y hy => by rw [List.mem_singleton.mp hy]; exact la) (fun y hy => by rw [List.mem_singleton.mp hy]; exact lb)
          (Draws.tuple hh _ a (Nat.ne_of_lt la) _) (Draws.tuple hh _ b (Nat.ne_of_lt (nlt lb)) _) (fun h' g k => ⟨⟨_, g, rfl, rfl⟩, t1.at fun o e => k a o e⟩) (fun h' g k => ⟨⟨_, g, rfl, rfl⟩, t2.at fun o e => k b o e⟩)
          v1 v2 (by rw [← v1.length]; exact z1) rs ra rb go rfl
      · obtain ⟨its1, v1, p1, z1⟩ := I1.list hx
        obtain ⟨its2, v2, p2, _⟩ := I1.list hy
        have t1 : s1.heap.IsList a its1.toArray := p1.isList
        have t2 : s1.heap.IsList b its2.toArray := p2.isList
        have la : a < s1.heap.objs.size := let ⟨_, g, _⟩ := t1; Heap.lt_size g
        have lb : b < s1.heap.objs.size := let ⟨_, g, _⟩ := t2; Heap.lt_size g
        exact lz_end (fp1 := [a]) (fp2 := [b]) hc I1 (begins_list a its1.toArray) (begins_list b its2.toArray) t1 t2 (fun y hy => by rw [List.mem_singleton.mp hy]; exact la) (fun y hy => by rw [List.mem_singleton.mp hy]; exact lb)
          (Draws.list hh _ a (Nat.ne_of_lt la) _) (Draws.list hh _ b (Nat.ne_of_lt (nlt lb)) _) (fun h' g k => ⟨⟨_, g, rfl, rfl⟩, t1.at fun o e => k a o e⟩) (fun h' g k => ⟨⟨_, g, rfl, rfl⟩, t2.at fun o e => k b o e⟩)
          v1 v2 (by rw [← v1.length]; exact z1) rs ra rb go rfl
/-- what is walked in a list or a tuple -/
theorem src_seq {S : Sto} {d : D} {s : Src} {Fz : Addr → Prop} {μ : List Addr} {H : Hp} {x : V} (hK : X.K = G.K) (rs : RepS G Fz μ H S) (rx : Rep G Fz μ H d x) (h : srcOf S d = some s) (hk : (kdD (drf S d)).is .lst = true ∨ (kdD (drf S d)).is .tup = true) :
    ∃ a vs, x = .ref a ∧ Reps G Fz μ H s.items vs ∧ (((kdD (drf S d)).is .tup = true ∧ SqT X.K H a vs) ∨ ((kdD (drf S d)).is .lst = true ∧ SqL X.K H a vs)) := by
  cases d <;> simp only [srcOf, reduceCtorEq, Option.some.injEq] at h
  · exfalso
    rcases hk with hk | hk <;> exact absurd hk (by simp [drf, kdD, Kd.is])
  · subst h
    rename_i ds
    have v1 := vw_of rs rx (show drf S (.tup ds) = some (.tup ds) from rfl)
    simp only [Vw, Rep] at v1
    obtain ⟨a, vs, rfl, ha, ra⟩ := v1
    exact ⟨a, vs, rfl, ra, .inl ⟨rfl, hK ▸ ha.sqT⟩⟩
  · subst h
    rename_i ds
    have v1 := vw_of rs rx (show drf S (.lst ds) = some (.lst ds) from rfl)
    simp only [Vw] at v1
    obtain ⟨a, vs, rfl, ha, ra⟩ := v1
    exact ⟨a, vs, rfl, ra, .inr ⟨rfl, SqL.of ha⟩⟩
  · rename_i n
    cases e : S[n]? with
    | none => rw [e] at h; cases h
    | some o =>
      rw [e] at h
      cases o with
      | lst ds =>
        cases h
        have hd : drf S (.loc n) = some (.lst ds) := by simp only [drf, e]
        have v1 := vw_of rs rx hd
        simp only [Vw] at v1
        obtain ⟨a, vs, rfl, ha, ra⟩ := v1
        exact ⟨a, vs, rfl, ra, .inr ⟨by rw [hd]; rfl, SqL.of ha⟩⟩
      | _ => cases h
theorem d_lzip {e f : Expr} {ee ef : Ex} {m : Bool} {p p2 q pos : Pos} (hK : X.K = G.K) (hc : X.calm = true) (hg : Gl X "list") (hm : X.mg "list" = none) (hg2 : Gl X "zip") (hm2 : X.mg "zip" = none)
    (hs : starEach [e, f] X.env = (false, eval e X.env) :: starEach [f] X.env) (hs2 : starEach [f] X.env = (false, eval f X.env) :: starEach [] X.env) (hpl : (backTo q (starEach [f] X.env)).any (·.1) = false) (he : PE X e (TD G W P cf ee)) (hf : PE X f (TD G W P cf ef)) :
    PE X (.Call (.Name "list" p) [.Call (.Name "zip" p2) [e, f] [] q] [] pos) (TD G W P cf (.listIt m (.zip ee ef))) :=
  PE.imp (pe_lzip (G := G) (m := m) hc hg hm hg2 hm2 (pa_cons he (pa_cons hf pa_nil hs2) hs) hs hpl) fun σ H Q ⟨Fz, μ, ρ, S, rs, re, go⟩ => by
    rw [evE, evI] at go
    have go' : Go G W σ (qV G Q) Fz μ S H ((evE P cf ee ρ S).bind fun x S => (evE P cf ef ρ S).bind fun y S => (if zipK S x y then onO (srcOf S x) (fun s S => onO (srcOf S y) (fun t S => Res.ok (⟨zipD s.items t.items, s.chk ++ t.chk⟩ : Src) S) S) S else .stk).bind fun src S => newL m (src.items.map unpr) S) := by
      cases h1 : evE P cf ee ρ S with
      | ok d S' =>
        rw [h1] at go
        simp only [Res.bind] at go ⊢
        cases h2 : evE P cf ef ρ S' with
        | ok d2 S2 => rw [h2] at go; simp only [Res.bind] at go ⊢; exact go
        | exc c fs S2 => rw [h2] at go; exact go
        | stk => rw [h2] at go; exact go
      | exc c fs S' => rw [h1] at go; exact go
      | stk => rw [h1] at go; exact go
    refine At.weak (Go.b1 rs re go') fun x H1 ⟨F1, μ1, S1, d, r1, e1, k1, rd, go1⟩ => ?_
    refine At.weak (Go.b1 r1 e1 go1) fun y H2 ⟨F2, μ2, S2, d2, r2, e2, k2, rd2, go2⟩ => ?_
    have hz : zipK S2 d d2 = true := by
      cases hz : zipK S2 d d2 with
      | true => rfl
      | false => rw [hz] at go2; exact go2.elim
    rw [hz, if_pos rfl] at go2
    cases h1 : srcOf S2 d with
    | none => rw [h1] at go2; exact go2.elim
    | some s1 =>
      rw [h1] at go2
      simp only [onO] at go2
      cases h2 : srcOf S2 d2 with
      | none => rw [h2] at go2; exact go2.elim
      | some s2 =>
        rw [h2] at go2
        have rd' := Rep.keep k2 _ _ rd
        have hz' := hz
        simp only [zipK, Bool.or_eq_true, Bool.and_eq_true] at hz'
        obtain ⟨a, vs, rfl, ra, qa⟩ := src_seq hK r2 rd' h1 (hz'.imp And.left And.left)
        obtain ⟨b, ws, rfl, rb, qb⟩ := src_seq hK r2 rd2 h2 (hz'.imp And.right And.right)
        refine ⟨W, σ, F2, μ2, S2, a, b, s1.items, s2.items, vs, ws, rfl, r2, ra, rb, ?_, go2⟩
        rcases qa with ⟨ka, qa⟩ | ⟨ka, qa⟩
        · rcases qb with ⟨kb, qb⟩ | ⟨kb, qb⟩
          · exact .inl ⟨qa, qb⟩
          · exact (zipK_mix hz ka kb).elim
        · rcases qb with ⟨kb, qb⟩ | ⟨kb, qb⟩
          · exact (zipK_mix' hz ka kb).elim
          · exact .inr ⟨qa, qb⟩
end QF
end

section
set_option maxHeartbeats 2000000
/-! QF20: does an expression of the text fit one of ours; what follows from it. -/
namespace QF
open PySem L2

/-- what a fit goes by: the slots' names, the scope that runs, the written scope of a block, the defs, the globals, the built-ins -/
structure Mc where
  N : List Str
  sc : Scope
  cl : Option Scope
  fd : List Str
  gl : List Str
  bn : List Str
  xt : Bool
def glN (c : Mc) (x : Str) : Bool := decide (c.sc.names.lookup x = some .globalImplicit)
def bltN (c : Mc) (x : Str) : Bool := glN c x && decide (x ∈ c.bn)
def visK : Option NameKind → Bool
  | some .local => true
  | some .cell => true
  | some .free => true
  | _ => false
def locK : Option NameKind → Bool
  | some .local => true
  | some .cell => true
  | _ => false
def visN (c : Mc) (i : Nat) (x : Str) : Bool := decide (c.N[i]? = some x) && visK (c.sc.names.lookup x)
def clOk (c : Option Scope) (x : Str) : Bool := match c with
  | none => true
  | some s => s.names.lookup x == some .cell
def locN (c : Mc) (i : Nat) (x : Str) : Bool := decide (c.N[i]? = some x) && (locK (c.sc.names.lookup x) && (clOk c.cl x || decide (c.sc.names.lookup x = some .local)))
def noStar : Expr → Bool
  | .Starred _ _ => false
  | _ => true
def noSet : Expr → Bool
  | .Set _ _ _ => false
  | _ => true
def noSlice : Expr → Bool
  | .Slice _ _ _ _ => false
  | _ => true
def noCall : Expr → Bool
  | .Call _ _ _ _ => false
  | _ => true
def isTup : Expr → Bool
  | .Tuple _ _ _ => true
  | _ => false
/-- no comprehension, no written tuple -/
def flatE : Expr → Bool
  | .ListComp _ _ _ _ => false
  | .SetComp _ _ _ _ => false
  | .DictComp _ _ _ _ _ => false
  | _ => true
theorem star_cons {e : Expr} {es : List Expr} {env : PySem.Env} (h : noStar e = true) : starEach (e :: es) env = (false, eval e env) :: starEach es env := by
  cases e <;> first | rfl | cases h
theorem fold_no {e : Expr} {env : PySem.Env} (h : noSet e = true) (x : Value) : foldedSetIterable e env x = pure x := by
  cases e <;> first | rfl | cases h
theorem plain_ix {b : Expr} (h : noSlice b = true) : PlainIx b := by
  intro o i
  cases b <;> first | rfl | cases h
theorem base_no {o : Expr} {m : Str} {env : PySem.Env} {whole : Sem Value} (h : noCall o = true) : attributeBase o m env whole = whole := by
  cases o <;> first | rfl | cases h
theorem marks_no {o : CmpOp} {b : Expr} (h : noSet b = true) : behindInMarks o b = false := by
  cases b <;> first | rfl | cases h
theorem marks2_no {o o' : CmpOp} {b c : Expr} (h : noSet c = true) : lastMarks [o, o'] [b, c] = false := by
  show behindInMarks o' c = false
  exact marks_no h
theorem asg_cons {e : Expr} {es : List Expr} {env : PySem.Env} (h : noStar e = true) : assignEach (e :: es) env = (false, assign e env) :: assignEach es env := by
  cases e <;> first | rfl | cases h
/-- as a test: its value, asked for its truth -/
def plainT : Expr → Bool
  | .UnaryOp .Not _ _ => false
  | .BoolOp _ _ _ => false
  | .IfExp _ _ _ _ => false
  | .Compare _ _ _ _ => false
  | _ => true
theorem test_plain {e : Expr} (h : plainT e = true) (env : PySem.Env) (whole : Sem Value) : isTrue e env whole = (do let v ← whole; standAt e.pos; holding [v] (truthy v)) := by
  cases e <;> first | rfl | cases h | (rename_i op x p; cases op <;> first | rfl | cases h)

/-! ### targets -/
mutual
def mT (c : Mc) : Tn → Expr → Bool
  | .name i, e => (match e with
    | .Name x _ => locN c i x
    | _ => false)
  | .tup ts, e => (match e with
    | .Tuple es _ _ => mTs c ts es
    | _ => false)
def mTs (c : Mc) : List Tn → List Expr → Bool
  | [], es => es.isEmpty
  | t :: ts, es => (match es with
    | e :: es => noStar e && (mT c t e && mTs c ts es)
    | [] => false)
end
/-- a comprehension's block: its own names with their slots -/
def mBlk (c : Mc) (scope : Scope) (own : List Nat) : Bool :=
  decide (scope.kind = .function) && (scope.names.all fun y => decide (scope.names.lookup y.1 = some y.2)) &&
  (scope.names.all fun y => if y.2 = .free then decide (c.sc.names.lookup y.1 = some .cell) || decide (c.sc.names.lookup y.1 = some .free) else true) &&
  (scope.names.all fun y => if y.2 = .local ∨ y.2 = .cell then (own.any fun i => decide (c.N[i]? = some y.1)) || !decide (y.1 ∈ c.N) else true) && (own.all fun i => decide (i < c.N.length))
def inBlk (c : Mc) (scope : Scope) : Mc := { c with sc := relS scope c.sc, cl := some scope }
def ownOf (N : List Str) (own : List Nat) : List (Str × Nat) := own.map fun i => (N.getD i default, i)
theorem own_snd (N : List Str) (own : List Nat) : (ownOf N own).map (·.2) = own := by
  induction own with
  | nil => rfl
  | cons i r ih => simp only [ownOf, List.map_cons, List.cons.injEq, true_and]; exact ih
theorem blk_ok {c : Mc} {scope : Scope} {own : List Nat} (h : mBlk c scope own = true) : BlkOk c.N c.sc scope (ownOf c.N own) := by
  simp only [mBlk, Bool.and_eq_true, decide_eq_true_eq, List.all_eq_true] at h
  obtain ⟨⟨⟨⟨h1, h2⟩, h3⟩, h4⟩, h5⟩ := h
  refine ⟨h1, h2, fun p hp => ?_, fun y hy hf => ?_, fun y hy hk => ?_⟩
  · obtain ⟨i, hi, rfl⟩ := List.mem_map.mp hp
    have := h5 i hi
    simp [List.getD, this]
  · have := h3 y hy
    rw [if_pos hf] at this
    simpa using this
  · have := h4 y hy
    rw [if_pos hk] at this
    simp only [Bool.or_eq_true, List.any_eq_true, decide_eq_true_eq, Bool.not_eq_true', decide_eq_false_iff_not] at this
    rcases this with ⟨i, hi, e⟩ | e
    · refine .inl (List.mem_map.mpr ⟨_, List.mem_map.mpr ⟨i, hi, rfl⟩, ?_⟩)
      simp [List.getD, e]
    · exact .inr e
/-! ### expressions -/
def biNm : Bi → Str
  | .len => "len"
  | .abs => "abs"
  | .int => "int"
  | .str => "str"
  | .tuple => "tuple"
  | .list => "list"
  | .sum => "sum"
  | .max => "max"
  | .min => "min"
  | .max2 => "max"
  | .min2 => "min"
  | .any => "any"
  | .all => "all"
  | .sorted => "sorted"
  | .sortedSet => "sorted"
  | .lenSet => "len"
  | .dict => "dict"
  | .dictT => "dict"
def biOk (xt : Bool) : Bi → Bool
  | .sortedSet => false
  | .lenSet => false
  | .dictT => xt
  | _ => true
def biSet : Bi → Bool
  | .sortedSet => true
  | .lenSet => true
  | _ => false
def tyOk : Ty → Bool
  | .cls _ => false
  | _ => true
mutual
/-- may stand as a test -/
def tk : Ex → Bool
  | .freeze _ => false
  | .boolop _ es => tks es
  | .ife _ a b => tk a && tk b
  | _ => true
def tks : Es → Bool
  | .nil => true
  | .cons e es => tk e && tks es
end
mutual
def mE (c : Mc) : Ex → Expr → Bool
  | .var i, e => (match e with
    | .Name x _ => visN c i x
    | _ => false)
  | .non, e => (match e with
    | .Constant .none _ _ => true
    | _ => false)
  | .bl b, e => (match e with
    | .Constant (.bool b') _ _ => b == b'
    | _ => false)
  | .int i, e => (match e with
    | .Constant (.int j) _ _ => decide (i = j)
    | _ => false)
  | .str s, e => (match e with
    | .Constant (.str x) _ _ => decide (x = txt s)
    | _ => false)
  | .glob g, e => (match e with
    | .Name x _ => glN c x && decide (c.gl[g]? = some x)
    | _ => false)
  | .fnv _, _ => false
  | .tup es, e => (match e with
    | .Tuple xs _ _ => mEs c es xs
    | _ => false)
  | .lst _ es, e => (match e with
    | .List xs _ => mEs c es xs
    | _ => false)
  | .dict0 t, e => (match e with
    | .Dict [] [] _ => !t || !c.xt
    | _ => false)
  | .bin o a b, e => (match e with
    | .BinOp x op y _ => decide (op = opOf o) && (mE c a x && mE c b y)
    | _ => false)
  | .neg a, e => (match e with
    | .UnaryOp .USub x _ => mE c a x
    | _ => false)
  | .not a, e => (match e with
    | .UnaryOp .Not x _ => tk a && mE c a x
    | _ => false)
  | .cmp o a b, e => (match e with
    | .Compare x [op] [y] _ => decide (op = cmOf o) && (noSet y && (mE c a x && mE c b y))
    | _ => false)
  | .chain o o' a b d, e => (match e with
    | .Compare x [op, op'] [y, z] _ => decide (op = cmOf o) && (decide (op' = cmOf o') && (noSet z && (mE c a x && (mE c b y && mE c d z))))
    | _ => false)
  | .boolop i es, e => (match e with
    | .BoolOp op xs _ => decide (op = boOf i) && (!xs.isEmpty && mEs c es xs)
    | _ => false)
  | .ife t a b, e => (match e with
    | .IfExp x y z _ => tk t && (mE c t x && (mE c a y && mE c b z))
    | _ => false)
  | .call f es, e => (match e with
    | .Call (.Name x _) xs [] _ => glN c x && (decide (c.fd[f]? = some x) && mEs c es xs)
    | _ => false)
  | .bi b _ es, e => if biSet b then (match e with
    | .Call (.Name x _) [.Call (.Name y _) [z] [] _] [] _ => decide (x = biNm b) && (bltN c x && (decide (y = ("set" : Str)) && (bltN c y && mEs c es [z])))
    | _ => false) else (match e with
    | .Call (.Name x _) xs [] _ => biOk c.xt b && (decide (x = biNm b) && (bltN c x && (!xs.isEmpty && mEs c es xs)))
    | _ => false)
  | .isi a t, e => (match e with
    | .Call (.Name x _) [y, .Name z _] [] _ => tyOk t && (decide (x = ("isinstance" : Str)) && (bltN c x && (decide (z = (t.name : Str)) && (bltN c z && (noStar y && mE c a y)))))
    | _ => false)
  | .idx a b, e => (match e with
    | .Subscript x y _ => noSlice y && (mE c a x && mE c b y)
    | _ => false)
  | .slice _ a lo hi, e => (match e with
    | .Subscript x (.Slice l h none _) _ => mE c a x && (mO c lo l && mO c hi h)
    | _ => false)
  | .rev _ a, e => (match e with
    | .Subscript x (.Slice none none (some (.UnaryOp .USub (.Constant (.int 1) _ _) _)) _) _ => mE c a x
    | _ => false)
  | .meth b a es, e => (match e with
    | .Call (.Attribute o m apos) xs [] cpos => (apos.endLine == cpos.line) && (noCall o && (mE c a o && (mEs c es xs && (match b with
      | .append => decide (m = ("append" : Str)) && decide (xs.length = 1)
      | .pop0 => decide (m = ("pop" : Str)) && decide (xs.length = 0)
      | .get2 => decide (m = ("get" : Str)) && decide (xs.length = 2)
      | .update => decide (m = ("update" : Str)) && decide (xs.length = 1)
      | _ => false))))
    | _ => false)
  | .comp _ own tg it cond elt, e => (match e with
    | .ListComp x [⟨t, i, ifs, 0⟩] scope _ => mBlk c scope own && ((tnIx tg).all (fun j => decide (j ∈ own)) && (noSet i && (mI c it t i && (mT (inBlk c scope) tg t && (mC (inBlk c scope) cond ifs && mE (inBlk c scope) elt x)))))
    | _ => false)
  | .comp2 _ own tg it tg1 it1 cond elt, e => (match e with
    | .ListComp x [⟨t, i, [], 0⟩, ⟨t1, i1, ifs, 0⟩] scope _ => mBlk c scope own && ((tnIx tg).all (fun j => decide (j ∈ own)) && ((tnIx tg1).all (fun j => decide (j ∈ own)) && (noSet i && (noSet i1 && (mI c it t i && (mT (inBlk c scope) tg t &&
      (mI (inBlk c scope) it1 t1 i1 && (mT (inBlk c scope) tg1 t1 && (mC (inBlk c scope) cond ifs && mE (inBlk c scope) elt x)))))))))
    | _ => false)
  | .listIt _ (.zip a b), e => (match e with
    | .Call (.Name x _) [.Call (.Name y _) [u, v] [] _] [] _ => decide (x = ("list" : Str)) && (bltN c x && (decide (y = ("zip" : Str)) && (bltN c y && (noStar u && (noStar v && (mE c a u && mE c b v))))))
    | _ => false)
  | .listIt _ _, _ => false
  | .freeze a, e => mE c a e
def mEs (c : Mc) : Es → List Expr → Bool
  | .nil, xs => xs.isEmpty
  | .cons e es, xs => (match xs with
    | x :: r => noStar x && (mE c e x && mEs c es r)
    | [] => false)
def mO (c : Mc) : Oe → Option Expr → Bool
  | .no, o => o.isNone
  | .yes e, o => (match o with
    | some x => mE c e x
    | none => false)
def mC (c : Mc) : Oe → List Expr → Bool
  | .no, xs => xs.isEmpty
  | .yes e, xs => (match xs with
    | [x] => tk e && mE c e x
    | _ => false)
/-- what is walked, by its target -/
def mI (c : Mc) : It → Expr → Expr → Bool
  | .of e, _, x => mE c e x
  | .rng1 a, _, x => (match x with
    | .Call (.Name r _) [y] [] _ => decide (r = ("range" : Str)) && (bltN c r && (noStar y && mE c a y))
    | _ => false)
  | .rng2 a b, _, x => (match x with
    | .Call (.Name r _) [y, z] [] _ => decide (r = ("range" : Str)) && (bltN c r && (noStar y && (noStar z && (mE c a y && mE c b z))))
    | _ => false)
  | .enum a, t, x => (match x with
    | .Call (.Name r _) [y] [] _ => isTup t && (decide (r = ("enumerate" : Str)) && (bltN c r && (noStar y && mE c a y)))
    | _ => false)
  | .zip a b, t, x => (match x with
    | .Call (.Name r _) [y, z] [] _ => isTup t && (decide (r = ("zip" : Str)) && (bltN c r && (noStar y && (noStar z && (mE c a y && mE c b z)))))
    | _ => false)
end
end QF
end

section
set_option maxHeartbeats 4000000
/-! QF21: a fit gives the rules' terms. -/
namespace QF
open PySem L2
variable {G : Gi} {P : Prg} {n : Nat}

/-- what is known where an expression stands -/
structure Cok (G : Gi) (P : Prg) (n : Nat) (c : Mc) (X : Cx) (E : XK) : Prop where
  K : X.K = G.K
  kt : ∀ d ∈ G.kt, keyOk true d = false
  xt : G.xt = c.xt
  calm : X.calm = true
  N : X.N = c.N
  nd : c.N.Nodup
  nn : ∀ x ∈ c.N, (x == ("__debug__" : Str)) = false ∧ (x == ("__classdict__" : Str)) = false
  sc : X.env.scope = c.sc
  cl : ∀ x, clOk c.cl x = true → X.fn x = true
  room : Room n X.A
  pass : Passes (L2.CX X.prog X.w) X E
  fns : ∀ (f : Nat) (x : Str), c.fd[f]? = some x → ∃ fdat ps, FnOk X.prog X.w X.K X.mg X.base (L2.CX X.prog X.w) n (G.fa f) fdat ps (spF G P n f) ∧ Binds X.K fdat ps [] ∧ PySem.W.keepIn X.K (.ref (G.fa f)) = true ∧ X.mg x = some (.ref (G.fa f)) ∧ (x == ("__debug__" : Str)) = false
  glo : ∀ (g : Nat) (x : Str), c.gl[g]? = some x → ∃ u v d, X.mg x = some u ∧ RelV v u ∧ P.glo[g]? = some d ∧ (∀ Fz μ H, Rep G Fz μ H d v) ∧ (x == ("__debug__" : Str)) = false
  blt : ∀ x ∈ c.bn, X.mg x = none
section
variable {c : Mc} {X : Cx} {E : XK}
theorem Cok.roomC (k : Cok G P n c X E) : RoomC X := by have := k.room.un; show X.A.units + 198 < cLine; omega
theorem Cok.u1 (k : Cok G P n c X E) : X.A.units + 1 < cLine := by have := k.room.un; omega
theorem Cok.gl (k : Cok G P n c X E) {x : Str} (h : glN c x = true) : Gl X x := by
  show X.env.scope.names.lookup x = _
  rw [k.sc]
  exact of_decide_eq_true h
theorem Cok.bn (k : Cok G P n c X E) {x : Str} (h : bltN c x = true) : Gl X x ∧ X.mg x = none := by
  simp only [bltN, Bool.and_eq_true, decide_eq_true_eq] at h
  exact ⟨k.gl h.1, k.blt x h.2⟩
theorem vis_of {sc : Scope} {x : Str} (h : visK (sc.names.lookup x) = true) : Vis sc x := by
  cases e : sc.names.lookup x with
  | none => rw [e] at h; cases h
  | some q =>
    rw [e] at h
    cases q with
    | «local» => exact .inl e
    | cell => exact .inr (.inl e)
    | free => exact .inr (.inr e)
    | globalExplicit => cases h
    | globalImplicit => cases h
theorem loc_of {sc : Scope} {x : Str} (h : locK (sc.names.lookup x) = true) : Loc sc x := by
  cases e : sc.names.lookup x with
  | none => rw [e] at h; cases h
  | some q =>
    rw [e] at h
    cases q with
    | «local» => exact .inl e
    | cell => exact .inr e
    | free => cases h
    | globalExplicit => cases h
    | globalImplicit => cases h
theorem Cok.loc (k : Cok G P n c X E) {i : Nat} {x : Str} (h : locN c i x = true) : X.N[i]? = some x ∧ Loc X.env.scope x ∧ (X.fn x = true ∨ X.env.scope.names.lookup x = some .local) := by
  simp only [locN, Bool.and_eq_true, decide_eq_true_eq, Bool.or_eq_true] at h
  rw [k.N, k.sc]
  exact ⟨h.1, loc_of h.2.1, h.2.2.imp (k.cl x) id⟩
/-- the context of a comprehension's block -/
theorem Cok.blk (k : Cok G P n c X E) (s : Shared) (H : Hp) (scope : Scope) (cl : List (Str × Addr)) (C : Addr) (fp : List Addr) : Cok G P n (inBlk c scope) (X.blk s H scope (compEnvC scope cl C X.env) fp) E0 where
  K := k.K
  kt := k.kt
  xt := k.xt
  calm := k.calm
  N := k.N
  nd := k.nd
  nn := k.nn
  sc := by show relabel scope X.env = relS scope c.sc; rw [← k.sc]; rfl
  cl := fun x h => h
  room := k.room
  pass := passL
  fns := k.fns
  glo := k.glo
  blt := k.blt
mutual
theorem sT (k : Cok G P n c X E) : ∀ (t : Tn) (e : Expr), mT c t e = true → PG X e (gT G t)
  | .name i, e, h => by
    cases e <;> simp only [mT, reduceCtorEq, Bool.false_eq_true] at h
    obtain ⟨h1, h2, h3⟩ := k.loc h
    exact dg_name (k.N ▸ k.nd) h1 h2 h3
  | .tup ts, e, h => by
    cases e <;> simp only [mT, reduceCtorEq, Bool.false_eq_true] at h
    obtain ⟨h1, h2, h3⟩ := sTs k ts _ h
    exact dg_tup k.K k.calm h1 h2 h3
theorem sTs (k : Cok G P n c X E) : ∀ (ts : List Tn) (es : List Expr), mTs c ts es = true → PGs X es (gTs G ts) ∧ (assignEach es X.env).length = ts.length ∧ (assignEach es X.env).findIdx? (·.1) = none
  | [], es, h => by
    cases es with
    | nil => exact ⟨dgs_nil, rfl, rfl⟩
    | cons e es => simp [mTs] at h
  | t :: ts, es, h => by
    cases es with
    | nil => simp [mTs] at h
    | cons e es =>
      simp only [mTs, Bool.and_eq_true] at h
      obtain ⟨h0, h1, h2⟩ := h
      obtain ⟨q1, q2, q3⟩ := sTs k ts es h2
      refine ⟨dgs_cons (sT k t e h1) q1 (by rw [asg_cons h0] <;> rfl), by rw [asg_cons h0]; simp [q2], by rw [asg_cons h0]; simp [List.findIdx?_cons, q3]⟩
end
/-- the expressions of a list, one by one -/
def PEs (G : Gi) (P : Prg) (n : Nat) (X : Cx) (E : XK) : Es → List Expr → Prop
  | .nil, xs => xs = []
  | .cons e es, xs => ∃ x r, xs = x :: r ∧ noStar x = true ∧ PE X x (TD G (wE E) P (evF P n) e) ∧ (tk e = true → PT X x (TT' G (wE E) P (evF P n) e)) ∧ PEs G P n X E es r
theorem pa_of : ∀ {es : Es} {xs : List Expr}, PEs G P n X E es xs → PA X xs (TDs G (wE E) P (evF P n) es)
  | .nil, xs, h => by simp only [PEs] at h; subst h; exact da_nil
  | .cons e es, xs, h => by
    simp only [PEs] at h
    obtain ⟨x, r, rfl, h1, h2, _, h4⟩ := h
    exact da_cons h2 (pa_of h4) (star_cons h1)
theorem plain_back : ∀ {es : Es} {xs : List Expr} (pos : Pos), PEs G P n X E es xs → (backTo pos (starEach xs X.env)).any (·.1) = false
  | .nil, xs, pos, h => by simp only [PEs] at h; subst h; rfl
  | .cons e es, xs, pos, h => by
    simp only [PEs] at h
    obtain ⟨x, r, rfl, h1, h2, _, h4⟩ := h
    rw [star_cons h1]
    have ih := plain_back pos h4
    unfold backTo at ih ⊢
    simp only [List.map_cons, List.any_cons, Bool.false_or]
    exact ih
theorem bo_of : ∀ {es : Es} {xs : List Expr} (i : Bool) (pos : Pos), PEs G P n X E es xs → xs ≠ [] → PE X (.BoolOp (boOf i) xs pos) (tD G (wE E) (evBo P (evF P n) i es))
  | .nil, xs, i, pos, h, hn => by simp only [PEs] at h; exact absurd h hn
  | .cons e .nil, xs, i, pos, h, _ => by
    simp only [PEs] at h
    obtain ⟨x, r, rfl, h1, h2, _, rfl⟩ := h
    exact d_bo1 i h2
  | .cons e (.cons f es), xs, i, pos, h, _ => by
    rw [PEs] at h
    obtain ⟨x, r, rfl, h1, h2, _, h4⟩ := h
    have h4' := h4
    rw [PEs] at h4
    obtain ⟨y, r', rfl, _, _, _, _⟩ := h4
    exact d_bo2 i h2 (bo_of i pos h4' (by simp))
theorem bot_of : ∀ {es : Es} {xs : List Expr} (i : Bool) (pos : Pos), PEs G P n X E es xs → xs ≠ [] → tks es = true → PW X (.BoolOp (boOf i) xs pos) (tT G (wE E) (evBo P (evF P n) i es))
  | .nil, xs, i, pos, h, hn, _ => by simp only [PEs] at h; exact absurd h hn
  | .cons e .nil, xs, i, pos, h, _, ht => by
    simp only [PEs] at h
    simp only [tks, Bool.and_eq_true] at ht
    obtain ⟨x, r, rfl, h1, h2, h3, rfl⟩ := h
    exact t_bo1 i (h3 ht.1)
  | .cons e (.cons f es), xs, i, pos, h, _, ht => by
    rw [PEs] at h
    rw [tks, Bool.and_eq_true] at ht
    obtain ⟨x, r, rfl, h1, h2, h3, h4⟩ := h
    have h4' := h4
    rw [PEs] at h4
    obtain ⟨y, r', rfl, _, _, _, _⟩ := h4
    exact t_bo2 i (h3 ht.1) (bot_of i pos h4' (by simp) ht.2)
/-- a call of a built-in -/
theorem bi_of (k : Cok G P n c X E) {b : Bi} {m : Bool} {es : Es} {x : Str} {xs : List Expr} {p pos : Pos} (hb : biOk c.xt b = true) (hx : x = biNm b) (hn : bltN c x = true) (he : xs ≠ []) (h : PEs G P n X E es xs) : PE X (.Call (.Name x p) xs [] pos) (TD G (wE E) P (evF P n) (.bi b m es)) := by
  obtain ⟨hg, hm⟩ := k.bn hn
  have ha := pa_of h
  have hp := plain_back pos h
  cases xs with
  | nil => exact absurd rfl he
  | cons e r =>
    have hs : noStar e = true := by
      cases es with
      | nil => simp [PEs] at h
      | cons a as => simp only [PEs] at h; obtain ⟨y, r', e1, h1, _⟩ := h; cases e1; exact h1
    have hp2 : (backTo pos (starEach r X.env)).any (·.1) = false := by
      rw [star_cons hs] at hp
      unfold backTo at hp ⊢
      simpa using hp
    subst hx
    cases b with
    | len => exact d_callB (cb_len k.K) hg hm (by decide +kernel) (by decide) (by decide) (star_cons hs) hp2 ha
    | abs => exact d_callB cb_abs hg hm (by decide +kernel) (by decide) (by decide) (star_cons hs) hp2 ha
    | int => exact d_callTy cb_int hg hm (by decide +kernel) (by decide) (by decide) (star_cons hs) hp2 ha
    | str => exact d_callTy cb_str hg hm (by decide +kernel) (by decide) (by decide) (star_cons hs) hp2 ha
    | tuple => exact d_callTy (cb_tuple k.K) hg hm (by decide +kernel) (by decide) (by decide) (star_cons hs) hp2 ha
    | list => exact d_callTy (cb_list k.K k.calm) hg hm (by decide +kernel) (by decide) (by decide) (star_cons hs) hp2 ha
    | sum => exact d_callB (cb_sum k.K k.calm) hg hm (by decide +kernel) (by decide) (by decide) (star_cons hs) hp2 ha
    | max => exact d_callB (cb_max k.calm) hg hm (by decide +kernel) (by decide) (by decide) (star_cons hs) hp2 ha
    | min => exact d_callB (cb_min k.calm) hg hm (by decide +kernel) (by decide) (by decide) (star_cons hs) hp2 ha
    | max2 => exact d_callB (cb_max2 k.calm) hg hm (by decide +kernel) (by decide) (by decide) (star_cons hs) hp2 ha
    | min2 => exact d_callB (cb_min2 k.calm) hg hm (by decide +kernel) (by decide) (by decide) (star_cons hs) hp2 ha
    | any => exact d_callB (cb_any k.calm) hg hm (by decide +kernel) (by decide) (by decide) (star_cons hs) hp2 ha
    | all => exact d_callB (cb_all k.calm) hg hm (by decide +kernel) (by decide) (by decide) (star_cons hs) hp2 ha
    | sorted => exact d_callB (cb_sorted k.K k.calm) hg hm (by decide +kernel) (by decide) (by decide) (star_cons hs) hp2 ha
    | sortedSet => cases hb
    | lenSet => cases hb
    | dictT => exact d_callTy (cb_dictT k.K (k.xt.trans hb) k.calm) hg hm (by decide +kernel) (by decide) (by decide) (star_cons hs) hp2 ha
    | dict => exact d_callTy (cb_dict k.K k.calm) hg hm (by decide +kernel) (by decide) (by decide) (star_cons hs) hp2 ha
end
end QF
end

section
set_option maxHeartbeats 8000000
/-! QF22: every expression that fits. -/
namespace QF
open PySem L2
variable {G : Gi} {P : Prg} {n : Nat}

section
variable {X : Cx} {E : XK}
theorem d_comp {m : Bool} {elt tg iter : Expr} {ifs : List Expr} {scope : Scope} {own : List (Str × Nat)} {vs : List Nat} {pos : Pos} {it : QF.It} {tn : Tn} {cond : Oe} {ee : Ex} (hc : X.calm = true) (hN : X.N.Nodup) (hi : PI X tg iter (tI G (wE E) (evI P (evF P n) it))) (ok : BlkOk X.N X.env.scope scope own) (hv : own.map (·.2) = vs) (hvs : ∀ i ∈ tnIx tn, i ∈ vs)
    (hg : ∀ (s : Shared) (H : Hp) (C : Addr) (cl : List (Str × Addr)) (fp : List Addr), PG (X.blk s H scope (compEnvC scope cl C X.env) fp) tg (gT G tn)) (ht : ∀ (s : Shared) (H : Hp) (C : Addr) (cl : List (Str × Addr)) (fp : List Addr), PTs (X.blk s H scope (compEnvC scope cl C X.env) fp) ifs (tCo G WF (evC P (evF P n) cond)))
    (he : ∀ (s : Shared) (H : Hp) (C : Addr) (cl : List (Str × Addr)) (fp : List Addr), PE (X.blk s H scope (compEnvC scope cl C X.env) fp) elt (TD G WF P (evF P n) ee)) (hs : ∀ x, foldedSetIterable iter X.env x = pure x) :
    PE X (.ListComp elt [⟨tg, iter, ifs, 0⟩] scope pos) (TD G (wE E) P (evF P n) (.comp m vs tn it cond ee)) :=
  PE.imp (pe_lc hc hN hi ok hg ht he hs) fun σ H Q h => by rw [hv]; exact comp_reads hvs h
theorem d_comp2 {m : Bool} {elt tg iter tg1 iter1 : Expr} {ifs : List Expr} {scope : Scope} {own : List (Str × Nat)} {vs : List Nat} {pos : Pos} {it it1 : QF.It} {tn tn1 : Tn} {cond : Oe} {ee : Ex} (hc : X.calm = true) (hN : X.N.Nodup) (hi : PI X tg iter (tI G (wE E) (evI P (evF P n) it))) (ok : BlkOk X.N X.env.scope scope own) (hv : own.map (·.2) = vs) (hvs : ∀ i ∈ tnIx tn, i ∈ vs) (hvs1 : ∀ i ∈ tnIx tn1, i ∈ vs)
    (hg : ∀ (s : Shared) (H : Hp) (C : Addr) (cl : List (Str × Addr)) (fp : List Addr), PG (X.blk s H scope (compEnvC scope cl C X.env) fp) tg (gT G tn)) (hi1 : ∀ (s : Shared) (H : Hp) (C : Addr) (cl : List (Str × Addr)) (fp : List Addr), PI (X.blk s H scope (compEnvC scope cl C X.env) fp) tg1 iter1 (tI G WF (evI P (evF P n) it1)))
    (hg1 : ∀ (s : Shared) (H : Hp) (C : Addr) (cl : List (Str × Addr)) (fp : List Addr), PG (X.blk s H scope (compEnvC scope cl C X.env) fp) tg1 (gT G tn1)) (ht : ∀ (s : Shared) (H : Hp) (C : Addr) (cl : List (Str × Addr)) (fp : List Addr), PTs (X.blk s H scope (compEnvC scope cl C X.env) fp) ifs (tCo G WF (evC P (evF P n) cond)))
    (he : ∀ (s : Shared) (H : Hp) (C : Addr) (cl : List (Str × Addr)) (fp : List Addr), PE (X.blk s H scope (compEnvC scope cl C X.env) fp) elt (TD G WF P (evF P n) ee)) (hs : ∀ x, foldedSetIterable iter X.env x = pure x) (hs1 : ∀ env x, foldedSetIterable iter1 env x = pure x) :
    PE X (.ListComp elt [⟨tg, iter, [], 0⟩, ⟨tg1, iter1, ifs, 0⟩] scope pos) (TD G (wE E) P (evF P n) (.comp2 m vs tn it tn1 it1 cond ee)) :=
  PE.imp (pe_lc2 hc hN hi ok (by rw [hv]; exact hvs1) hg (fun _ _ _ _ _ => pts_nil) hi1 hg1 ht he hs hs1) fun σ H Q h => by rw [hv]; exact comp2_reads hvs h
end
theorem both {X : Cx} {E : XK} {e : Expr} {ee : Ex} (hp : plainT e = true) (d : PE X e (TD G (wE E) P (evF P n) ee)) : PE X e (TD G (wE E) P (evF P n) ee) ∧ (tk ee = true → PT X e (TT' G (wE E) P (evF P n) ee)) := ⟨d, fun _ => t_val d (test_plain hp X.env)⟩
theorem few1 {x : Expr} {env : PySem.Env} {cpos : Pos} (h : noStar x = true) : ((backTo cpos (starEach [x] env)).all (fun x => !x.1) && (backToKw cpos (keywordEach [] env)).all (fun x => x.1.isSome) && decide (([x] : List Expr).length + ([] : List Keyword).length + (if ([] : List Keyword).isEmpty then 0 else 1) < 30)) = true := by
  rw [star_cons h]; rfl
theorem m2_of {X : Cx} {o e f : Expr} {m : Str} {apos cpos : Pos} (hl : (apos.endLine == cpos.line) = true) (ho : noCall o = true) (he : noStar e = true) (hf : noStar f = true) : M2 X o m apos e f cpos where
  base := base_no ho
  few := by rw [star_cons he, star_cons hf]; rfl
  line := hl
  trees := by rw [star_cons he, star_cons hf]; rfl
section
variable {c : Mc} {X : Cx} {E : XK}
theorem evE_bo {cf : Nat → List D → Sto → Res D} {i : Bool} {es : Es} : evE P cf (.boolop i es) = evBo P cf i es := by funext ρ S; simp only [evE]
theorem bo_rd {i : Bool} {es : Es} {σ : L2.St} {H : Hp} {Q : VK} (h : TD G (wE E) P (evF P n) (.boolop i es) σ H Q) : tD G (wE E) (evBo P (evF P n) i es) σ H Q := by
  unfold TD at h
  rw [evE_bo] at h
  exact h
theorem bo_rdT {i : Bool} {es : Es} {σ : L2.St} {H : Hp} {Q : Bool → Hp → Prop} (h : TT' G (wE E) P (evF P n) (.boolop i es) σ H Q) : tT G (wE E) (evBo P (evF P n) i es) σ H Q := by
  unfold TT' at h
  rw [evE_bo] at h
  exact h
theorem call_of (k : Cok G P n c X E) {x : Str} {f : Nat} {es : Es} {xs : List Expr} {p pos : Pos} (h0 : glN c x = true) (h1 : c.fd[f]? = some x) (q : PEs G P n X E es xs) : PE X (.Call (.Name x p) xs [] pos) (TD G (wE E) P (evF P n) (.call f es)) := by
  obtain ⟨fdat, ps, F, hb, hk, hm, hd⟩ := k.fns _ _ h1
  cases xs with
  | nil =>
    cases es with
    | nil => exact d_call0 F k.room (k.gl h0) hm hk hb k.pass hd
    | cons a as => simp [PEs] at q
  | cons y ys =>
    have hs : noStar y = true := by
      cases es with
      | nil => simp [PEs] at q
      | cons a as => simp only [PEs] at q; obtain ⟨y', r', e1, h1, _⟩ := q; cases e1; exact h1
    have hp := plain_back pos q
    rw [star_cons hs] at hp
    exact d_call F k.room (k.gl h0) hm hk hb k.pass (pa_of q) hd (star_cons hs) (by unfold backTo at hp ⊢; simpa using hp)
theorem meth_of (k : Cok G P n c X E) {b : Mt} {a : Ex} {es : Es} {o : Expr} {m : Str} {apos cpos : Pos} {xs : List Expr} (h0 : (apos.endLine == cpos.line) = true) (h1 : noCall o = true) (qa : PE X o (TD G (wE E) P (evF P n) a)) (q : PEs G P n X E es xs)
    (h4 : (match b with
      | .append => decide (m = ("append" : Str)) && decide (xs.length = 1)
      | .pop0 => decide (m = ("pop" : Str)) && decide (xs.length = 0)
      | .get2 => decide (m = ("get" : Str)) && decide (xs.length = 2)
      | .update => decide (m = ("update" : Str)) && decide (xs.length = 1)
      | _ => false) = true) : PE X (.Call (.Attribute o m apos) xs [] cpos) (TD G (wE E) P (evF P n) (.meth b a es)) := by
  cases b <;> simp only [Bool.and_eq_true, decide_eq_true_eq, Bool.false_eq_true] at h4
  · obtain ⟨rfl, h5⟩ := h4
    match xs, h5 with
    | [x], _ =>
      match es, q with
      | .cons ee .nil, q =>
        have qp := pa_of q
        simp only [PEs] at q
        obtain ⟨y, r, e1, s1, _⟩ := q
        cases e1
        exact d_append (base_no h1) (few1 s1) h0 (star_cons s1) qa qp
      | .nil, q => simp [PEs] at q
      | .cons ee (.cons f r), q => simp only [PEs] at q; obtain ⟨y, r, e1, _, _, _, y2, r2, e2, _⟩ := q; cases e1; cases e2
  · obtain ⟨rfl, h5⟩ := h4
    match xs, h5 with
    | [], _ =>
      match es, q with
      | .nil, q => exact d_pop0 (base_no h1) h0 qa
      | .cons ee r, q => simp only [PEs] at q; obtain ⟨y, r, e1, _⟩ := q; cases e1
  · obtain ⟨rfl, h5⟩ := h4
    match xs, h5 with
    | [x, y], _ =>
      match es, q with
      | .cons e1 (.cons e2 .nil), q =>
        simp only [PEs] at q
        obtain ⟨u, r, z1, s1, p1, _, u2, r2, z2, s2, p2, _, _⟩ := q
        cases z1
        cases z2
        exact d_get2 k.kt k.u1 (m2_of h0 h1 s1 s2) qa p1 p2
      | .nil, q => simp [PEs] at q
      | .cons e1 .nil, q => simp only [PEs] at q; obtain ⟨u, r, z1, _, _, _, z2⟩ := q; cases z1; cases z2
      | .cons e1 (.cons e2 (.cons e3 r)), q => simp only [PEs] at q; obtain ⟨u, r, z1, _, _, _, u2, r2, z2, _, _, _, u3, r3, z3, _⟩ := q; cases z1; cases z2; cases z3
  · obtain ⟨rfl, h5⟩ := h4
    match xs, h5 with
    | [x], _ =>
      match es, q with
      | .cons ee .nil, q =>
        have qp := pa_of q
        simp only [PEs] at q
        obtain ⟨y, r, e1, s1, _⟩ := q
        cases e1
        exact d_update (base_no h1) (few1 s1) h0 (star_cons s1) qa qp
      | .nil, q => simp [PEs] at q
      | .cons ee (.cons f r), q => simp only [PEs] at q; obtain ⟨y, r, e1, _, _, _, y2, r2, e2, _⟩ := q; cases e1; cases e2
theorem set_of (k : Cok G P n c X E) {b : Bi} {m : Bool} {es : Es} {x : Str} {z : Expr} {p p2 q pos : Pos} (hb : biSet b = true) (hx : x = biNm b) (g1 : Gl X x) (m1 : X.mg x = none) (g2 : Gl X "set") (m2 : X.mg "set" = none) (h : PEs G P n X E es [z]) :
    PE X (.Call (.Name x p) [.Call (.Name "set" p2) [z] [] q] [] pos) (TD G (wE E) P (evF P n) (.bi b m es)) := by
  match es, h with
  | .nil, h => simp [PEs] at h
  | .cons ee (.cons f r), h => simp only [PEs] at h; obtain ⟨y, r, e1, _, _, _, y2, r2, e2, _⟩ := h; cases e1; cases e2
  | .cons ee .nil, h =>
    simp only [PEs] at h
    obtain ⟨y, r, e1, s1, p1, _⟩ := h
    cases e1
    subst hx
    cases b <;> first | cases hb | skip
    · exact d_sset k.calm g1 m1 g2 m2 (star_cons s1) p1
    · exact d_lset k.calm g1 m1 g2 m2 (star_cons s1) p1
end
mutual
theorem sE : ∀ (ee : Ex) {c : Mc} {X : Cx} {E : XK} (k : Cok G P n c X E) (e : Expr), mE c ee e = true → PE X e (TD G (wE E) P (evF P n) ee) ∧ (tk ee = true → PT X e (TT' G (wE E) P (evF P n) ee))
  | .var i, c, X, E, k, e, h => by
    cases e <;> simp only [mE, reduceCtorEq, Bool.false_eq_true] at h
    simp only [visN, Bool.and_eq_true, decide_eq_true_eq] at h
    obtain ⟨q1, q2⟩ := k.nn _ (List.mem_of_getElem? h.1)
    exact both rfl (d_var (by rw [k.N]; exact h.1) (by rw [k.sc]; exact vis_of h.2) q1 q2)
  | .non, c, X, E, k, e, h => by
    cases e <;> simp only [mE, reduceCtorEq, Bool.false_eq_true] at h
    rename_i v _ _
    cases v <;> simp only [reduceCtorEq, Bool.false_eq_true] at h
    exact both rfl (d_val (d := .non) pe_non (fun ρ S => by simp only [evE]) (fun _ _ _ => by simp only [Rep]))
  | .bl b, c, X, E, k, e, h => by
    cases e <;> simp only [mE, reduceCtorEq, Bool.false_eq_true] at h
    rename_i v _ _
    cases v <;> simp only [reduceCtorEq, Bool.false_eq_true, beq_iff_eq] at h
    subst h
    exact both rfl (d_val (d := .bl b) pe_bl (fun ρ S => by simp only [evE]) (fun _ _ _ => by simp only [Rep]))
  | .int i, c, X, E, k, e, h => by
    cases e <;> simp only [mE, reduceCtorEq, Bool.false_eq_true] at h
    rename_i v _ _
    cases v <;> simp only [reduceCtorEq, Bool.false_eq_true, decide_eq_true_eq] at h
    subst h
    exact both rfl (d_val (d := .int i) pe_int (fun ρ S => by simp only [evE]) (fun _ _ _ => by simp only [Rep]))
  | .str s, c, X, E, k, e, h => by
    cases e <;> simp only [mE, reduceCtorEq, Bool.false_eq_true] at h
    rename_i v _ _
    cases v <;> simp only [reduceCtorEq, Bool.false_eq_true, decide_eq_true_eq] at h
    subst h
    exact both rfl (d_val (d := .str s) pe_str (fun ρ S => by simp only [evE]) (fun _ _ _ => by simp only [Rep]))
  | .glob g, c, X, E, k, e, h => by
    cases e <;> simp only [mE, reduceCtorEq, Bool.false_eq_true] at h
    simp only [Bool.and_eq_true, decide_eq_true_eq] at h
    obtain ⟨u, v, d0, h1, h2, h3, h4, h5⟩ := k.glo _ _ h.2
    exact both rfl (d_val (d := d0) (pe_glob (k.gl h.1) h1 h2 h5) (fun ρ S => by simp only [evE, h3, opt]) h4)
  | .fnv f, c, X, E, k, e, h => by simp [mE] at h
  | .tup es, c, X, E, k, e, h => by
    cases e <;> simp only [mE, reduceCtorEq, Bool.false_eq_true] at h
    exact both rfl (d_tup (pa_of (sEs es k _ h)))
  | .lst m es, c, X, E, k, e, h => by
    cases e <;> simp only [mE, reduceCtorEq, Bool.false_eq_true] at h
    exact both rfl (d_lst (m := m) (pa_of (sEs es k _ h)))
  | .dict0 t, c, X, E, k, e, h => by
    cases e <;> simp only [mE, reduceCtorEq, Bool.false_eq_true] at h
    split at h
    · rename_i e1
      cases e1
      exact both rfl (d_dict0 (G := G) (W := wE E) (X := X) (P := P) (cf := evF P n) (t := t) (fun z => by rw [k.xt]; subst z; simpa using h))
    · cases h
  | .bin o a b, c, X, E, k, e, h => by
    cases e <;> simp only [mE, reduceCtorEq, Bool.false_eq_true] at h
    simp only [Bool.and_eq_true, decide_eq_true_eq] at h
    obtain ⟨rfl, h1, h2⟩ := h
    exact both rfl (d_bin k.K o (sE a k _ h1).1 (sE b k _ h2).1)
  | .neg a, c, X, E, k, e, h => by
    cases e <;> simp only [mE, reduceCtorEq, Bool.false_eq_true] at h
    split at h
    · rename_i e1
      cases e1
      exact both rfl (d_neg (sE a k _ h).1)
    · cases h
  | .not a, c, X, E, k, e, h => by
    cases e <;> simp only [mE, reduceCtorEq, Bool.false_eq_true] at h
    split at h
    · rename_i e1
      cases e1
      simp only [Bool.and_eq_true] at h
      obtain ⟨q1, q2⟩ := sE a k _ h.2
      exact ⟨d_not q1, fun _ => t_not (q2 h.1)⟩
    · cases h
  | .cmp o a b, c, X, E, k, e, h => by
    cases e <;> simp only [mE, reduceCtorEq, Bool.false_eq_true] at h
    split at h
    · rename_i e1
      cases e1
      simp only [Bool.and_eq_true, decide_eq_true_eq] at h
      obtain ⟨rfl, h0, h1, h2⟩ := h
      exact ⟨d_cmp k.K k.kt k.roomC o (marks_no h0) (sE a k _ h1).1 (sE b k _ h2).1, fun _ => t_cmp k.K k.kt k.roomC o (marks_no h0) (sE a k _ h1).1 (sE b k _ h2).1⟩
    · cases h
  | .chain o o' a b d, c, X, E, k, e, h => by
    cases e <;> simp only [mE, reduceCtorEq, Bool.false_eq_true] at h
    split at h
    · rename_i e1
      cases e1
      simp only [Bool.and_eq_true, decide_eq_true_eq] at h
      obtain ⟨rfl, rfl, h0, h1, h2, h3⟩ := h
      exact ⟨d_chain k.K k.kt k.roomC o o' (marks2_no h0) (sE a k _ h1).1 (sE b k _ h2).1 (sE d k _ h3).1, fun _ => t_chain k.K k.kt k.roomC o o' (marks2_no h0) (sE a k _ h1).1 (sE b k _ h2).1 (sE d k _ h3).1⟩
    · cases h
  | .boolop i es, c, X, E, k, e, h => by
    cases e <;> simp only [mE, reduceCtorEq, Bool.false_eq_true] at h
    simp only [Bool.and_eq_true, decide_eq_true_eq, Bool.not_eq_true', List.isEmpty_eq_false_iff] at h
    obtain ⟨rfl, h1, h2⟩ := h
    have q := sEs es k _ h2
    exact ⟨PE.imp (bo_of i _ q h1) fun σ H Q h => bo_rd h, fun ht => PT.imp (bot_of i _ q h1 (by simpa [tk] using ht)).pt fun σ H Q h => bo_rdT h⟩
  | .ife t a b, c, X, E, k, e, h => by
    cases e <;> simp only [mE, reduceCtorEq, Bool.false_eq_true] at h
    simp only [Bool.and_eq_true] at h
    obtain ⟨h0, h1, h2, h3⟩ := h
    have qt := (sE t k _ h1).2 h0
    refine ⟨d_ife qt (sE a k _ h2).1 (sE b k _ h3).1, fun ht => ?_⟩
    simp only [tk, Bool.and_eq_true] at ht
    exact t_ife qt ((sE a k _ h2).2 ht.1) ((sE b k _ h3).2 ht.2)
  | .call f es, c, X, E, k, e, h => by
    cases e <;> simp only [mE, reduceCtorEq, Bool.false_eq_true] at h
    split at h
    · rename_i e1
      cases e1
      simp only [Bool.and_eq_true, decide_eq_true_eq] at h
      exact both rfl (call_of k h.1 h.2.1 (sEs es k _ h.2.2))
    · cases h
  | .bi b m es, c, X, E, k, e, h => by
    cases hb : biSet b with
    | true =>
      cases e <;> simp only [mE, hb, if_true, reduceCtorEq, Bool.false_eq_true] at h
      split at h
      · rename_i e1
        cases e1
        simp only [Bool.and_eq_true, decide_eq_true_eq] at h
        obtain ⟨h1, h2, h3, h4, h5⟩ := h
        subst h3
        obtain ⟨g2, m2⟩ := k.bn h4
        obtain ⟨g1, m1⟩ := k.bn h2
        exact both rfl (set_of k hb h1 g1 m1 g2 m2 (sEs es k _ h5))
      · cases h
    | false =>
    cases e <;> simp only [mE, hb, if_false, reduceCtorEq, Bool.false_eq_true] at h
    split at h
    · rename_i e1
      cases e1
      simp only [Bool.and_eq_true, decide_eq_true_eq, Bool.not_eq_true', List.isEmpty_eq_false_iff] at h
      obtain ⟨h0, h1, h2, h3, h4⟩ := h
      exact both rfl (bi_of k h0 h1 h2 h3 (sEs es k _ h4))
    · cases h
  | .isi a t, c, X, E, k, e, h => by
    cases e <;> simp only [mE, reduceCtorEq, Bool.false_eq_true] at h
    split at h
    · rename_i e1 e2
      cases e1
      cases e2
      simp only [Bool.and_eq_true, decide_eq_true_eq] at h
      obtain ⟨h0, rfl, h2, rfl, h4, h5, h6⟩ := h
      obtain ⟨g1, m1⟩ := k.bn h2
      obtain ⟨g2, m2⟩ := k.bn h4
      exact both rfl (d_isi k.K (fun c e => by subst e; cases h0) g1 m1 g2 m2 (star_cons h5) (sE a k _ h6).1)
    · cases h
  | .idx a b, c, X, E, k, e, h => by
    cases e <;> simp only [mE, reduceCtorEq, Bool.false_eq_true] at h
    simp only [Bool.and_eq_true] at h
    obtain ⟨h0, h1, h2⟩ := h
    exact both rfl (d_idx k.K k.kt k.u1 (plain_ix h0) (sE a k _ h1).1 (sE b k _ h2).1)
  | .slice m a lo hi, c, X, E, k, e, h => by
    cases e <;> simp only [mE, reduceCtorEq, Bool.false_eq_true] at h
    split at h
    · rename_i e1
      cases e1
      simp only [Bool.and_eq_true] at h
      obtain ⟨h0, h1, h2⟩ := h
      exact both rfl (d_slice k.K (sE a k _ h0).1 (sO lo k _ h1) (sO hi k _ h2))
    · cases h
  | .rev m a, c, X, E, k, e, h => by
    cases e <;> simp only [mE, reduceCtorEq, Bool.false_eq_true] at h
    split at h
    · rename_i e1
      cases e1
      exact both rfl (d_rev k.K (sE a k _ h).1)
    · cases h
  | .meth b a es, c, X, E, k, e, h => by
    cases e <;> simp only [mE, reduceCtorEq, Bool.false_eq_true] at h
    split at h
    · rename_i e1
      cases e1
      simp only [Bool.and_eq_true] at h
      obtain ⟨h0, h1, h2, h3, h4⟩ := h
      exact both rfl (meth_of k h0 h1 (sE a k _ h2).1 (sEs es k _ h3) h4)
    · cases h
  | .comp m own tg it cond elt, c, X, E, k, e, h => by
    cases e <;> simp only [mE, reduceCtorEq, Bool.false_eq_true] at h
    split at h
    · rename_i t i ifs scope pos e1
      cases e1
      simp only [Bool.and_eq_true, List.all_eq_true, decide_eq_true_eq] at h
      obtain ⟨h0, h1, h2, h3, h4, h5, h6⟩ := h
      have ok := blk_ok h0
      rw [← k.N, ← k.sc] at ok
      exact both rfl (d_comp (m := m) k.calm (k.N ▸ k.nd) (sI it k _ _ h3) ok (own_snd _ own) h1 (fun s H C cl fp => sT (k.blk s H _ cl C fp) tg _ h4) (fun s H C cl fp => sC cond (k.blk s H _ cl C fp) _ h5) (fun s H C cl fp => (sE elt (k.blk s H _ cl C fp) _ h6).1) (fold_no h2))
    · cases h
  | .comp2 m own tg it tg1 it1 cond elt, c, X, E, k, e, h => by
    cases e <;> simp only [mE, reduceCtorEq, Bool.false_eq_true] at h
    split at h
    · rename_i e1
      cases e1
      simp only [Bool.and_eq_true, List.all_eq_true, decide_eq_true_eq] at h
      obtain ⟨h0, h1, h1', h2, h2', h3, h4, h3', h4', h5, h6⟩ := h
      have ok := blk_ok h0
      rw [← k.N, ← k.sc] at ok
      exact both rfl (d_comp2 (m := m) k.calm (k.N ▸ k.nd) (sI it k _ _ h3) ok (own_snd _ own) h1 h1' (fun s H C cl fp => sT (k.blk s H _ cl C fp) tg _ h4) (fun s H C cl fp => sI it1 (k.blk s H _ cl C fp) _ _ h3') (fun s H C cl fp => sT (k.blk s H _ cl C fp) tg1 _ h4')
        (fun s H C cl fp => sC cond (k.blk s H _ cl C fp) _ h5) (fun s H C cl fp => (sE elt (k.blk s H _ cl C fp) _ h6).1) (fold_no h2) (fun env => fold_no h2'))
    · cases h
  | .listIt m (.zip a b), c, X, E, k, e, h => by
    cases e <;> simp only [mE, reduceCtorEq, Bool.false_eq_true] at h
    split at h
    · rename_i e1
      cases e1
      simp only [Bool.and_eq_true, decide_eq_true_eq] at h
      obtain ⟨h1, h2, h3, h4, h5, h6, h7, h8⟩ := h
      subst h1 h3
      obtain ⟨g1, m1⟩ := k.bn h2
      obtain ⟨g2, m2⟩ := k.bn h4
      exact both rfl (d_lzip (m := m) k.K k.calm g1 m1 g2 m2 (star_cons h5) (star_cons h6) (by rw [star_cons h6]; rfl) (sE a k _ h7).1 (sE b k _ h8).1)
    · cases h
  | .listIt m (.of _), c, X, E, k, e, h => by simp [mE] at h
  | .listIt m (.rng1 _), c, X, E, k, e, h => by simp [mE] at h
  | .listIt m (.rng2 _ _), c, X, E, k, e, h => by simp [mE] at h
  | .listIt m (.enum _), c, X, E, k, e, h => by simp [mE] at h
  | .freeze a, c, X, E, k, e, h => by
    simp only [mE] at h
    exact ⟨d_freeze (sE a k e h).1, fun z => by cases z⟩
theorem sEs : ∀ (es : Es) {c : Mc} {X : Cx} {E : XK} (k : Cok G P n c X E) (xs : List Expr), mEs c es xs = true → PEs G P n X E es xs
  | .nil, c, X, E, k, xs, h => by
    simp only [mEs, List.isEmpty_iff] at h
    simp only [PEs]; exact h
  | .cons e es, c, X, E, k, xs, h => by
    cases xs with
    | nil => simp [mEs] at h
    | cons x r =>
      simp only [mEs, Bool.and_eq_true] at h
      obtain ⟨q1, q2⟩ := sE e k x h.2.1
      simp only [PEs]
      exact ⟨x, r, rfl, h.1, q1, q2, sEs es k r h.2.2⟩
theorem sO : ∀ (o : Oe) {c : Mc} {X : Cx} {E : XK} (k : Cok G P n c X E) (x : Option Expr), mO c o x = true → PO X x (tOI G (wE E) P (evF P n) o)
  | .no, c, X, E, k, x, h => by
    cases x with
    | none => exact do_no
    | some x => simp [mO] at h
  | .yes e, c, X, E, k, x, h => by
    cases x with
    | none => simp [mO] at h
    | some x => simp only [mO] at h; exact do_yes (sE e k x h).1
theorem sC : ∀ (o : Oe) {c : Mc} {X : Cx} {E : XK} (k : Cok G P n c X E) (xs : List Expr), mC c o xs = true → PTs X xs (tCo G (wE E) (evC P (evF P n) o))
  | .no, c, X, E, k, xs, h => by
    cases xs with
    | nil => exact dc_no
    | cons x r => simp [mC] at h
  | .yes e, c, X, E, k, xs, h => by
    match xs, h with
    | [x], h =>
      simp only [mC, Bool.and_eq_true] at h
      exact dc_yes ((sE e k x h.2).2 h.1)
    | [], h => simp [mC] at h
    | x :: y :: r, h => simp [mC] at h
theorem sI : ∀ (it : QF.It) {c : Mc} {X : Cx} {E : XK} (k : Cok G P n c X E) (t x : Expr), mI c it t x = true → PI X t x (tI G (wE E) (evI P (evF P n) it))
  | .of e, c, X, E, k, t, x, h => by
    simp only [mI] at h
    exact di_of k.K (sE e k x h).1
  | .rng1 a, c, X, E, k, t, x, h => by
    simp only [mI] at h
    split at h
    · simp only [Bool.and_eq_true, decide_eq_true_eq] at h
      obtain ⟨rfl, h1, h2, h3⟩ := h
      obtain ⟨g, m⟩ := k.bn h1
      exact di_rng1 g m (sE a k _ h3).1 (star_cons h2)
    · cases h
  | .rng2 a b, c, X, E, k, t, x, h => by
    simp only [mI] at h
    split at h
    · simp only [Bool.and_eq_true, decide_eq_true_eq] at h
      obtain ⟨rfl, h1, h2, h2', h3, h4⟩ := h
      obtain ⟨g, m⟩ := k.bn h1
      exact di_rng2 g m (sE a k _ h3).1 (sE b k _ h4).1 (star_cons h2) (star_cons h2')
    · cases h
  | .enum a, c, X, E, k, t, x, h => by
    simp only [mI] at h
    split at h
    · simp only [Bool.and_eq_true, decide_eq_true_eq] at h
      obtain ⟨h0, rfl, h1, h2, h3⟩ := h
      obtain ⟨g, m⟩ := k.bn h1
      cases t <;> simp only [isTup, Bool.false_eq_true] at h0
      exact di_enum k.K g m (sE a k _ h3).1 (star_cons h2)
    · cases h
  | .zip a b, c, X, E, k, t, x, h => by
    simp only [mI] at h
    split at h
    · simp only [Bool.and_eq_true, decide_eq_true_eq] at h
      obtain ⟨h0, rfl, h1, h2, h2', h3, h4⟩ := h
      obtain ⟨g, m⟩ := k.bn h1
      cases t <;> simp only [isTup, Bool.false_eq_true] at h0
      exact di_zip k.K g m (sE a k _ h3).1 (sE b k _ h4).1 (star_cons h2) (star_cons h2') (by rw [star_cons h2']; rfl)
    · cases h
end
end QF
end

section
set_option maxHeartbeats 8000000
/-! QF23: statements that fit. -/
namespace QF
open PySem L2
variable {G : Gi} {P : Prg} {n : Nat}

/-- the order in which several names are set, as the compiler has it -/
def swp (sc : Scope) (ts vs : List Expr) : Option (Option (List Str)) :=
  if (!(ts.length == 2 || ts.length == 3) || vs.length != ts.length) = true then some none
  else if (vs.any fun | .Starred .. => true | _ => false) = true then some none
  else
    let line := (ts.head?.map (·.pos.line)).getD 0
    let names := ts.filterMap fun
      | .Name id pos => if sc.names.lookup id == some .local && pos.line == line then some id else none
      | _ => none
    if (names.length != ts.length || names.eraseDups.length != names.length) = true then some none
    else if vs.all (foldedForSure 8) = true then some none
    else if vs.all (constantsAlone 8) = true then none
    else some (some names)
theorem swp_eq {env : PySem.Env} {ts vs : List Expr} {kt k2 : Nat} {pt p2 : Pos} {r : Option (List Str)} (hk : env.scope.kind = .function) (h : swp env.scope ts vs = some r) : swappedStores [.Tuple ts kt pt] (.Tuple vs k2 p2) env = pure r := by
  have hb : env.blockKind = .function := by unfold Env.blockKind; rw [hk]; rfl
  unfold swp at h
  unfold swappedStores
  simp only [hb]
  split at h
  · rename_i q
    cases h
    simp only [q, Bool.true_or, if_true]
  · rename_i q
    have q' : (!(ts.length == 2 || ts.length == 3) || vs.length != ts.length) = false := by simpa using q
    simp only [q', Bool.false_or]
    rw [if_neg (by decide)]
    split at h
    · rename_i q2
      cases h
      split
      · rfl
      · rename_i z; exact absurd q2 z
    · rename_i q2
      split
      · rename_i z; exact absurd z q2
      · dsimp only at h
        split at h
        · rename_i q3
          cases h
          split
          · rfl
          · rename_i z; exact absurd q3 z
        · rename_i q3
          split
          · rename_i z; exact absurd z q3
          · split at h
            · rename_i q4
              cases h
              rw [if_pos q4]
            · rename_i q4
              rw [if_neg q4]
              split at h
              · cases h
              · rename_i q5
                cases h
                rw [if_neg q5]
                rfl
end QF
end

section
set_option maxHeartbeats 8000000
/-! QF24: does a statement of the text fit one of ours; what follows from it. -/
namespace QF
open PySem L2
variable {G : Gi} {P : Prg} {n : Nat}

/-- a comprehension stored where it is made -/
def swC (c : Mc) (x : Str) (px : Pos) : Expr → Bool
  | .ListComp _ _ s p => decide (c.sc.names.lookup x = some .local) && ((px.line == p.line) && !(s.names.any fun (n, k) => n == x && (k == .local || k == .cell)))
  | _ => false
/-- no comprehension but a list's -/
def lcE : Expr → Bool
  | .SetComp _ _ _ _ => false
  | .DictComp _ _ _ _ _ => false
  | _ => true
def nmE : Expr → Bool
  | .Name _ _ => true
  | _ => false
/-- the plain road of target = value -/
def asgK (c : Mc) (tg v : Expr) : Bool := match tg with
  | .Name x px => lcE v && !swC c x px v
  | .Tuple ts _ _ => (match v with
    | .Tuple vs _ _ => swp c.sc ts vs == some none
    | _ => lcE v)
  | _ => false
/-- the road of a comprehension stored at once -/
def lcK (c : Mc) (v : Expr) (tg : Expr) : Bool := match tg with
  | .Name x px => swC c x px v
  | _ => false
/-- several names at once -/
def parK (c : Mc) (is : List Nat) (es : Es) (tg v : Expr) : Bool := match tg, v, is with
  | .Tuple [.Name x px, .Name y py] kt pt, .Tuple [a, b] _ _, [i, j] => (swp c.sc [.Name x px, .Name y py] [a, b] == some (some [x, y])) && (decide (c.N[i]? = some x) && (decide (c.N[j]? = some y) && (decide (i ≠ j) && (decide (c.sc.names.lookup x = some .local) && (decide (c.sc.names.lookup y = some .local) && mEs c es [a, b])))))
  | .Tuple [.Name x px, .Name y py, .Name z pz] kt pt, .Tuple [a, b, d] _ _, [i, j, l] => (swp c.sc [.Name x px, .Name y py, .Name z pz] [a, b, d] == some (some [x, y, z])) && (decide (c.N[i]? = some x) && (decide (c.N[j]? = some y) && (decide (c.N[l]? = some z) && (decide (i ≠ j) && (decide (i ≠ l) && (decide (j ≠ l) &&
    (decide (c.sc.names.lookup x = some .local) && (decide (c.sc.names.lookup y = some .local) && (decide (c.sc.names.lookup z = some .local) && mEs c es [a, b, d])))))))))
  | _, _, _ => false
/-- a comprehension of ours -/
def isComp : Ex → Bool
  | .comp _ _ _ _ _ _ => true
  | .comp2 _ _ _ _ _ _ _ _ => true
  | _ => false
mutual
def mS (c : Mc) : QF.St → Stmt → Bool
  | .asg tn e, s => (match s with
    | .Assign [tg] v _ => noStar tg && (mT c tn tg && (mE c e v && (asgK c tg v || (lcK c v tg && isComp e))))
    | _ => false)
  | .par is es, s => (match s with
    | .Assign [tg] v _ => parK c is es tg v
    | _ => false)
  | .aug i o e, s => (match s with
    | .AugAssign (.Name x _) op v _ => decide (op = opOf o) && (locN c i x && mE c e v)
    | _ => false)
  | .sub o i e, s => (match s with
    | .Assign [.Subscript a b _] v _ => noSlice b && (lcE v && (mE c o a && (mE c i b && mE c e v)))
    | _ => false)
  | .augSub _ _ _ _, _ => false
  | .expr e, s => (match s with
    | .Expr v _ => flatE v && mE c e v
    | _ => false)
  | .ret e, s => (match s with
    | .Return (some v) _ => mE c e v
    | _ => false)
  | .retN, s => (match s with
    | .Return none _ => true
    | _ => false)
  | .pass, s => (match s with
    | .Pass _ => true
    | _ => false)
  | .ifs t a b, s => (match s with
    | .If x p q _ => tk t && (mE c t x && (mSs c a p && mSs c b q))
    | _ => false)
  | .for_ tg it body, s => (match s with
    | .For t i b [] _ => noSet i && (mI c it t i && (mT c tg t && mSs c body b))
    | _ => false)
  | .while_ t body, s => (match s with
    | .While x b [] _ => tk t && (mE c t x && mSs c body b)
    | _ => false)
  | .brk, s => (match s with
    | .Break _ => true
    | _ => false)
  | .cont, s => (match s with
    | .Continue _ => true
    | _ => false)
  | .raise_ _ _, _ => false
  | .never, _ => true
def mSs (c : Mc) : List QF.St → List Stmt → Bool
  | [], ss => ss.isEmpty
  | s :: r, ss => (match ss with
    | x :: xs => mS c s x && mSs c r xs
    | [] => false)
end
/-- what is known where a statement stands -/
structure Sok (G : Gi) (P : Prg) (n : Nat) (c : Mc) (X : Cx) (E : XK) : Prop extends Cok G P n c X E where
  kind : c.sc.kind = .function
  own : PassesOwn (model X.prog X.w) X.A X.env X.xe
theorem sole {tg v : Expr} {l : Nat} {env : PySem.Env} : swapsWithSole [tg] v l env = swapsWith v (some tg) l env := rfl
theorem sw_flat {v : Expr} {tg : Option Expr} {l : Nat} {env : PySem.Env} (h : flatE v = true) : swapsWith v tg l env = pure false := by
  cases v <;> first | rfl | cases h
theorem sw_name {c : Mc} {env : PySem.Env} {x : Str} {px : Pos} {v : Expr} {l : Nat} (hs : env.scope = c.sc) (h1 : lcE v = true) (h : swC c x px v = false) : swapsWith v (some (.Name x px)) l env = pure false := by
  cases v with
  | ListComp elt gs s p =>
    show (pure (env.blockKind == .function && env.kindOf x == some .local && px.line == p.line && !(s.names.any fun (n, k) => n == x && (k == .local || k == .cell))) : Sem Bool) = pure false
    have e : (env.kindOf x == some .local && (px.line == p.line && !(s.names.any fun (n, k) => n == x && (k == .local || k == .cell)))) = false := by
      simp only [swC] at h
      rw [← h, Env.kindOf, hs]
      congr 1
      exact Bool.beq_eq_decide_eq _ _
    rw [show (env.blockKind == .function && env.kindOf x == some .local && px.line == p.line && !(s.names.any fun (n, k) => n == x && (k == .local || k == .cell))) = (env.blockKind == .function && (env.kindOf x == some .local && (px.line == p.line && !(s.names.any fun (n, k) => n == x && (k == .local || k == .cell))))) by simp only [Bool.and_assoc], e, Bool.and_false]
  | SetComp _ _ _ _ => cases h1
  | DictComp _ _ _ _ _ => cases h1
  | _ => rfl
theorem sw_tup {ts : List Expr} {k : Nat} {p : Pos} {v : Expr} {l : Nat} {env : PySem.Env} (h1 : lcE v = true) : swapsWith v (some (.Tuple ts k p)) l env = pure false := by
  cases v <;> first | rfl | cases h1
theorem sw_sub {a b : Expr} {p : Pos} {v : Expr} {l : Nat} {env : PySem.Env} (h1 : lcE v = true) : swapsWith v (some (.Subscript a b p)) l env = pure false := by
  cases v <;> first | rfl | cases h1
theorem asg_sub {a b : Expr} {p : Pos} {env : PySem.Env} (h : noSlice b = true) (v : Value) : assign (.Subscript a b p) env v = (do
      let ov ← holding [v] (eval a env)
      let iv ← holding [v, ov] (eval b env)
      standAt p
      holding [v, ov, iv] (setItem ov iv v)
      release [v, ov, iv] []) := by
  cases b <;> first | rfl | cases h
theorem ss_name {x : Str} {px : Pos} {v : Expr} {env : PySem.Env} : swappedStores [.Name x px] v env = pure none := by
  cases v <;> rfl
theorem ss_sub {a b : Expr} {p : Pos} {v : Expr} {env : PySem.Env} : swappedStores [.Subscript a b p] v env = pure none := by
  cases v <;> rfl
theorem ss_tup {ts : List Expr} {k : Nat} {p : Pos} {v : Expr} {env : PySem.Env} (h : isTup v = false) : swappedStores [.Tuple ts k p] v env = pure none := by
  cases v <;> first | rfl | cases h
section
variable {c : Mc} {X : Cx} {E : XK}
theorem asg_of (k : Sok G P n c X E) {tn : Tn} {e : Ex} {tg v : Expr} {pos : Pos} (h0 : noStar tg = true) (h1 : mT c tn tg = true) (h2 : mE c e v = true) (h3 : asgK c tg v = true) : PS X (.Assign [tg] v pos) (TSt G E P (evF P n) (.asg tn e)) := by
  have he := (sE e k.toCok v h2).1
  have hg := sT k.toCok tn tg h1
  have ha : (assignEach [tg] X.env).map (·.2) = [assign tg X.env] := by rw [asg_cons h0]; rfl
  have hk : X.env.scope.kind = .function := by rw [k.sc]; exact k.kind
  cases tg <;> simp only [asgK, Bool.false_eq_true] at h3
  · simp only [Bool.and_eq_true, Bool.not_eq_true'] at h3
    exact s_asg he hg (sole.trans (sw_name k.sc h3.1 h3.2)) ss_name ha
  · split at h3
    · rename_i vs _ _
      have h3' := eq_of_beq h3
      exact s_asg he hg (sole.trans (sw_tup rfl)) (swp_eq hk (by rw [k.sc]; exact h3')) ha
    · rename_i q
      refine s_asg he hg (sole.trans (sw_tup h3)) (ss_tup ?_) ha
      cases v <;> first | rfl | exact absurd rfl (q _ _ _)
theorem lc_of (k : Sok G P n c X E) {tn : Tn} {e : Ex} {tg v : Expr} {pos : Pos} (h1 : mT c tn tg = true) (h2 : mE c e v = true) (h3 : lcK c v tg = true) (h4 : isComp e = true) : PS X (.Assign [tg] v pos) (TSt G E P (evF P n) (.asg tn e)) := by
  have hk : X.env.scope.kind = .function := by rw [k.sc]; exact k.kind
  cases tg <;> simp only [lcK, Bool.false_eq_true] at h3
  rename_i x px
  cases v <;> simp only [swC, Bool.false_eq_true] at h3
  rename_i elt gs s p
  simp only [Bool.and_eq_true, decide_eq_true_eq, Bool.not_eq_true'] at h3
  obtain ⟨q1, q2, q3⟩ := h3
  cases tn with
  | tup ts => simp [mT] at h1
  | name i =>
    simp only [mT, locN, Bool.and_eq_true, decide_eq_true_eq] at h1
    have hy : X.N[i]? = some x := by rw [k.N]; exact h1.1
    have hyl : X.env.scope.names.lookup x = some .local := by rw [k.sc]; exact q1
    have hsw : ∀ l, swapsWith (.ListComp elt gs s p) (some (.Name x px)) l X.env = pure true := fun l => sw_true hk hyl q2 q3
    have fin : ∀ (Dn : Ends) (σ : L2.St) (H : Hp) {t : TE}, (∀ Q, TD G (wE E) P (evF P n) e σ H Q → t σ H Q) → TSt G E P (evF P n) (.asg (.name i) e) Dn σ H → tAsg t (gName i) Dn σ H := fun Dn σ H t w h => by
      obtain ⟨Fz, μ, ρ, S, rs, re, go⟩ := h
      rw [evS] at go
      refine w _ (At.weak (Go.b1 rs re go) fun z H1 ⟨F1, μ1, S1, d, r1, e1, k1, rd, go1⟩ => ?_)
      obtain ⟨ρ', ha, g⟩ := Go.onO go1
      obtain rfl := asgT_name ha
      exact g.now r1 _ (e1.set i rd)
    have nd : X.N.Nodup := k.N ▸ k.nd
    cases e <;> simp only [isComp, Bool.false_eq_true] at h4
    · rename_i m own tg it cond ee
      simp only [mE] at h2
      split at h2
      · rename_i e1
        cases e1
        simp only [Bool.and_eq_true, List.all_eq_true, decide_eq_true_eq] at h2
        obtain ⟨g0, g1, g2, g3, g4, g5, g6⟩ := h2
        have ok := blk_ok g0
        rw [← k.N, ← k.sc] at ok
        refine PS.imp (ps_setLc k.calm nd hy hyl (hsw _) (sI it k.toCok _ _ g3) ok (fun s H C cl fp => sT (k.toCok.blk s H _ cl C fp) tg _ g4) (fun s H C cl fp => sC cond (k.toCok.blk s H _ cl C fp) _ g5) (fun s H C cl fp => (sE ee (k.toCok.blk s H _ cl C fp) _ g6).1) (fold_no g2)) fun Dn σ H h => fin Dn σ H (fun Q hh => ?_) h
        rw [own_snd]; exact comp_reads g1 hh
      · cases h2
    · rename_i m own tg it tg1 it1 cond ee
      simp only [mE] at h2
      split at h2
      · rename_i e1
        cases e1
        simp only [Bool.and_eq_true, List.all_eq_true, decide_eq_true_eq] at h2
        obtain ⟨g0, g1, g1', g2, g2', g3, g4, g3', g4', g5, g6⟩ := h2
        have ok := blk_ok g0
        rw [← k.N, ← k.sc] at ok
        refine PS.imp (ps_setLc2 k.calm nd hy hyl (hsw _) (sI it k.toCok _ _ g3) ok (by rw [own_snd]; exact g1') (fun s H C cl fp => sT (k.toCok.blk s H _ cl C fp) tg _ g4) (fun _ _ _ _ _ => pts_nil) (fun s H C cl fp => sI it1 (k.toCok.blk s H _ cl C fp) _ _ g3') (fun s H C cl fp => sT (k.toCok.blk s H _ cl C fp) tg1 _ g4')
          (fun s H C cl fp => sC cond (k.toCok.blk s H _ cl C fp) _ g5) (fun s H C cl fp => (sE ee (k.toCok.blk s H _ cl C fp) _ g6).1) (fold_no g2) (fun env => fold_no g2')) fun Dn σ H h => fin Dn σ H (fun Q hh => ?_) h
        rw [own_snd]; exact comp2_reads g1 hh
      · cases h2
theorem par_of (k : Sok G P n c X E) {is : List Nat} {es : Es} {tg v : Expr} {pos : Pos} (h : parK c is es tg v = true) : PS X (.Assign [tg] v pos) (TSt G E P (evF P n) (.par is es)) := by
  have hk : X.env.scope.kind = .function := by rw [k.sc]; exact k.kind
  have nd : X.N.Nodup := k.N ▸ k.nd
  unfold parK at h
  split at h
  · simp only [Bool.and_eq_true, decide_eq_true_eq] at h
    obtain ⟨h0, h1, h2, h3, h4, h5, h6⟩ := h
    have hw := swp_eq (k2 := ‹Nat›) (p2 := ‹Pos›) (kt := ‹Nat›) (pt := ‹Pos›) hk (by rw [k.sc]; exact eq_of_beq h0)
    have q := sEs es k.toCok _ h6
    have qp := pa_of q
    match es, q, qp with
    | .cons ea (.cons eb .nil), q, qp => exact s_par2 k.calm nd (by rw [k.N]; exact h1) (by rw [k.N]; exact h2) h3 (by rw [k.sc]; exact h4) (by rw [k.sc]; exact h5) qp (swp_eq hk (by rw [k.sc]; exact eq_of_beq h0)) (sole.trans (sw_tup rfl))
    | .nil, q, _ => simp [PEs] at q
    | .cons e1 .nil, q, _ => simp only [PEs] at q; obtain ⟨u, r, z1, _, _, _, z2⟩ := q; cases z1; cases z2
    | .cons e1 (.cons e2 (.cons e3 r)), q, _ => simp only [PEs] at q; obtain ⟨u, r, z1, _, _, _, u2, r2, z2, _, _, _, u3, r3, z3, _⟩ := q; cases z1; cases z2; cases z3
  · simp only [Bool.and_eq_true, decide_eq_true_eq] at h
    obtain ⟨h0, h1, h2, h3, h4, h5, h6, h7, h8, h9, h10⟩ := h
    have q := sEs es k.toCok _ h10
    have qp := pa_of q
    match es, q, qp with
    | .cons ea (.cons eb (.cons ed .nil)), q, qp => exact s_par3 k.calm nd (by rw [k.N]; exact h1) (by rw [k.N]; exact h2) (by rw [k.N]; exact h3) h4 h5 h6 (by rw [k.sc]; exact h7) (by rw [k.sc]; exact h8) (by rw [k.sc]; exact h9) qp (swp_eq hk (by rw [k.sc]; exact eq_of_beq h0)) (sole.trans (sw_tup rfl))
    | .nil, q, _ => simp [PEs] at q
    | .cons e1 .nil, q, _ => simp only [PEs] at q; obtain ⟨u, r, z1, _, _, _, z2⟩ := q; cases z1; cases z2
    | .cons e1 (.cons e2 .nil), q, _ => simp only [PEs] at q; obtain ⟨u, r, z1, _, _, _, u2, r2, z2, _, _, _, z3⟩ := q; cases z1; cases z2; cases z3
    | .cons e1 (.cons e2 (.cons e3 (.cons e4 r))), q, _ => simp only [PEs] at q; obtain ⟨u, r, z1, _, _, _, u2, r2, z2, _, _, _, u3, r3, z3, _, _, _, u4, r4, z4, _⟩ := q; cases z1; cases z2; cases z3; cases z4
  · cases h
end
theorem s_never {X : Cx} {E : XK} {st : Stmt} : PS X st (TSt G E P (evF P n) .never) :=
  PS.imp ps_never fun Dn σ H ⟨Fz, μ, ρ, S, rs, re, go⟩ => by
    rw [evS] at go
    exact go
mutual
theorem sS : ∀ (s : QF.St) {c : Mc} {X : Cx} {E : XK} (k : Sok G P n c X E) (st : Stmt), mS c s st = true → PS X st (TSt G E P (evF P n) s)
  | .asg tn e, c, X, E, k, st, h => by
    cases st <;> simp only [mS, reduceCtorEq, Bool.false_eq_true] at h
    split at h
    · rename_i e1
      cases e1
      simp only [Bool.and_eq_true, Bool.or_eq_true] at h
      obtain ⟨h0, h1, h2, h3⟩ := h
      rcases h3 with h3 | h3
      · exact asg_of k h0 h1 h2 h3
      · exact lc_of k h1 h2 h3.1 h3.2
    · cases h
  | .par is es, c, X, E, k, st, h => by
    cases st <;> simp only [mS, reduceCtorEq, Bool.false_eq_true] at h
    split at h
    · rename_i e1
      cases e1
      exact par_of k h
    · cases h
  | .aug i o e, c, X, E, k, st, h => by
    cases st <;> simp only [mS, reduceCtorEq, Bool.false_eq_true] at h
    split at h
    · rename_i e1
      cases e1
      simp only [Bool.and_eq_true, decide_eq_true_eq] at h
      obtain ⟨rfl, h1, h2⟩ := h
      obtain ⟨q1, q2, q3⟩ := k.toCok.loc h1
      exact s_aug k.K (k.N ▸ k.nd) q1 q2 q3 (sE e k.toCok _ h2).1
    · cases h
  | .sub o i e, c, X, E, k, st, h => by
    cases st <;> simp only [mS, reduceCtorEq, Bool.false_eq_true] at h
    split at h
    · rename_i e1
      cases e1
      simp only [Bool.and_eq_true] at h
      obtain ⟨h0, h1, h2, h3, h4⟩ := h
      refine s_sub k.kt k.toCok.u1 (sE o k.toCok _ h2).1 (sE i k.toCok _ h3).1 (sE e k.toCok _ h4).1 (asg_sub h0) (sole.trans (sw_sub h1)) ss_sub
    · cases h
  | .augSub _ _ _ _, c, X, E, k, st, h => by simp [mS] at h
  | .expr e, c, X, E, k, st, h => by
    cases st <;> simp only [mS, reduceCtorEq, Bool.false_eq_true] at h
    simp only [Bool.and_eq_true] at h
    exact s_expr (sE e k.toCok _ h.2).1 (sw_flat h.1)
  | .ret e, c, X, E, k, st, h => by
    cases st <;> simp only [mS, reduceCtorEq, Bool.false_eq_true] at h
    split at h
    · rename_i e1
      cases e1
      exact s_ret (sE e k.toCok _ h).1
    · cases h
  | .retN, c, X, E, k, st, h => by
    cases st <;> simp only [mS, reduceCtorEq, Bool.false_eq_true] at h
    split at h
    · rename_i e1
      cases e1
      exact s_retN
    · cases h
  | .pass, c, X, E, k, st, h => by
    cases st <;> simp only [mS, reduceCtorEq, Bool.false_eq_true] at h
    exact s_pass
  | .ifs t a b, c, X, E, k, st, h => by
    cases st <;> simp only [mS, reduceCtorEq, Bool.false_eq_true] at h
    simp only [Bool.and_eq_true] at h
    obtain ⟨h0, h1, h2, h3⟩ := h
    exact s_if ((sE t k.toCok _ h1).2 h0) (sSs a k _ h2) (sSs b k _ h3)
  | .for_ tg it body, c, X, E, k, st, h => by
    cases st <;> simp only [mS, reduceCtorEq, Bool.false_eq_true] at h
    split at h
    · rename_i e1
      cases e1
      simp only [Bool.and_eq_true] at h
      obtain ⟨h0, h1, h2, h3⟩ := h
      exact s_for k.own k.calm (sI it k.toCok _ _ h1) (sT k.toCok tg _ h2) (sSs body k _ h3) (fold_no h0)
    · cases h
  | .while_ t body, c, X, E, k, st, h => by
    cases st <;> simp only [mS, reduceCtorEq, Bool.false_eq_true] at h
    split at h
    · rename_i e1
      cases e1
      simp only [Bool.and_eq_true] at h
      obtain ⟨h0, h1, h2⟩ := h
      exact s_while k.own ((sE t k.toCok _ h1).2 h0) (sSs body k _ h2)
    · cases h
  | .brk, c, X, E, k, st, h => by
    cases st <;> simp only [mS, reduceCtorEq, Bool.false_eq_true] at h
    exact s_brk
  | .cont, c, X, E, k, st, h => by
    cases st <;> simp only [mS, reduceCtorEq, Bool.false_eq_true] at h
    exact s_cont
  | .raise_ _ _, c, X, E, k, st, h => by simp [mS] at h
  | .never, c, X, E, k, st, h => s_never
theorem sSs : ∀ (ss : List QF.St) {c : Mc} {X : Cx} {E : XK} (k : Sok G P n c X E) (sts : List Stmt), mSs c ss sts = true → PSs X sts (TSs G E P (evF P n) ss)
  | [], c, X, E, k, sts, h => by
    cases sts with
    | nil => exact s_nil
    | cons s r => simp [mSs] at h
  | s :: r, c, X, E, k, sts, h => by
    cases sts with
    | nil => simp [mSs] at h
    | cons x xs =>
      simp only [mSs, Bool.and_eq_true] at h
      exact s_cons (sS s k x h.1) (sSs r k xs h.2)
end
end QF
end

section
set_option maxHeartbeats 8000000
/-! QF25: a whole text: every def keeps its promise; the law's answer. -/
namespace QF
open PySem L2
variable {G : Gi} {P : Prg}

/-- the parameters' names -/
def psOf (d : He.DefD) : List Str := d.params.args.map (·.arg)
/-- a def of the text fits one of ours -/
def fitF (xt : Bool) (fdn gln bnn : List Str) (d : He.DefD) (fd : FnDef) (N : List Str) : Bool :=
  decide (d.scope.kind = .function) && (!d.scope.isCoroutine && (!d.scope.isGenerator && (decide N.Nodup && (decide (N.take (psOf d).length = psOf d) &&
  (((psOf d).all fun x => decide (d.scope.names.lookup x = some .local) || decide (d.scope.names.lookup x = some .cell)) && ((d.scope.names.all fun y => decide (y.2 ≠ .free)) && ((N.all fun x => !(x == ("__debug__" : Str)) && !(x == ("__classdict__" : Str))) &&
  (decide ((psOf d).length = fd.np) && (decide (N.length = fd.nl) && mSs ⟨N, d.scope, none, fdn, gln, bnn, xt⟩ fd.body d.body)))))))))
/-- a whole text: our program, its defs as they stand behind the top -/
structure Txt (PR : Program) (w : World) (K : PySem.W.Frag) (mg : Str → Option Value) (base : Heap) (G : Gi) (P : Prg) (D : List He.DefD) (Ns : List (List Str)) (gln bnn : List Str) : Prop where
  hK : G.K = K
  kt : ∀ d ∈ G.kt, keyOk true d = false
  fit : ∀ (i : Nat) (d : He.DefD) (fd : FnDef) (N : List Str), D[i]? = some d → P.fns[i]? = some fd → Ns[i]? = some N → fitF G.xt (D.map (·.name)) gln bnn d fd N = true
  lenP : P.fns.length = D.length
  lenN : Ns.length = D.length
  fns : ∀ (i : Nat) (d : He.DefD), D[i]? = some d → ∃ fdat, FunD K d.name d.qual d.params d.body d.scope [] [] (G.fa i) fdat ∧ Binds K fdat (psOf d) [] ∧ mg d.name = some (.ref (G.fa i)) ∧ (d.name == ("__debug__" : Str)) = false
  glo : ∀ (g : Nat) (x : Str), gln[g]? = some x → ∃ u v d, mg x = some u ∧ RelV v u ∧ P.glo[g]? = some d ∧ (∀ Fz μ H, Rep G Fz μ H d v) ∧ (x == ("__debug__" : Str)) = false
  blt : ∀ x ∈ bnn, mg x = none
theorem fn_stepD {PR : Program} {w : World} {K : PySem.W.Frag} {mg : Str → Option Value} {base : Heap} {n f : Nat} {fd : FnDef} (hf : P.fns[f]? = some fd) {x qual : Str} {params : Arguments} {body : List Stmt} {scope : Scope} {fdat : FuncData} {N ps : List Str}
    (Fn : FunD K x qual params body scope [] [] (G.fa f) fdat) (Sc : FnScope N ps scope) (hps : ps.length = fd.np) (hN : N.length = fd.nl)
    (hbody : ∀ (cdv : Value) (A : Around) (outer : List PySem.Env) (s : Shared) (H : Hp) (E : XK), Room n (A.deeper (PyProof.Rows.envOfC qual scope s.heap.objs.size (G.fa f) cdv)) → PSs (cxOf (L2.CX PR w) PR w K mg base N qual scope (G.fa f) cdv A outer s H E) body (TSs G E P (evF P n) fd.body)) :
    FnOk PR w K mg base (L2.CX PR w) (n + 1) (G.fa f) fdat ps (spF G P (n + 1) f) :=
  Fn.ok Sc (fun vs H Q E h => (spF_len hf h).trans hps.symm) fun cdv A outer s H vs Q E hr hsp => ⟨_, hbody cdv A outer s H E hr, body_reads hf hN hsp⟩
theorem all_fns {PR : Program} {w : World} {K : PySem.W.Frag} {mg : Str → Option Value} {base : Heap} {D : List He.DefD} {Ns : List (List Str)} {gln bnn : List Str} (T : Txt PR w K mg base G P D Ns gln bnn) :
    ∀ (n i : Nat) (d : He.DefD) (fdat : FuncData), D[i]? = some d → FunD K d.name d.qual d.params d.body d.scope [] [] (G.fa i) fdat → FnOk PR w K mg base (L2.CX PR w) n (G.fa i) fdat (psOf d) (spF G P n i)
  | 0, i, d, fdat, _, _ => fn_zero
  | n + 1, i, d, fdat, hd, F => by
    have hi := (List.getElem?_eq_some_iff.mp hd).1
    obtain ⟨fd, hf⟩ : ∃ fd, P.fns[i]? = some fd := ⟨_, List.getElem?_eq_getElem (by rw [T.lenP]; exact hi)⟩
    obtain ⟨N, hN⟩ : ∃ N, Ns[i]? = some N := ⟨_, List.getElem?_eq_getElem (by rw [T.lenN]; exact hi)⟩
    have h := T.fit i d _ _ hd hf hN
    simp only [fitF, Bool.and_eq_true, decide_eq_true_eq, Bool.not_eq_true', List.all_eq_true, Bool.or_eq_true] at h
    obtain ⟨h1, h2, h3, h4, h5, h6, h7, h8, h9, h10, h11⟩ := h
    refine fn_stepD (N := N) hf F ⟨h1, h2, h3, h4, h5, h6, h7⟩ h9 h10 fun cdv A outer s H E hr => ?_
    refine sSs fd.body (c := ⟨N, d.scope, none, D.map (·.name), gln, bnn, G.xt⟩) ?_ d.body h11
    exact {
      K := T.hK.symm
      kt := T.kt
      xt := rfl
      calm := rfl
      N := rfl
      nd := h4
      nn := fun x hx => h8 x hx
      sc := rfl
      cl := fun x _ => rfl
      room := hr
      pass := passes_call (takes_of rfl rfl rfl rfl) (fun _ _ _ _ h => h)
      fns := fun f x hx => by
        have hx' : (D.map (·.name))[f]? = some x := hx
        rw [List.getElem?_map] at hx'
        cases e : D[f]? with
        | none => rw [e] at hx'; cases hx'
        | some d' =>
          rw [e] at hx'; cases hx'
          obtain ⟨fd', F', hb, hm, hg⟩ := T.fns f d' e
          exact ⟨fd', psOf d', all_fns T n f d' fd' e F', hb, F'.kp, hm, hg⟩
      glo := T.glo
      blt := T.blt
      kind := h1
      own := passes_of rfl }
/-- the law's promise -/
theorem law_sp {n f : Nat} {H : Hp} {a : Addr} {ns : List Int} (hO : Only H) (hS : SqL G.K H a (ns.map V.int)) (h : evF P n f [.scr ns] [] = .ok (.bl true) []) : spF G P n f [.ref a] H (fun v _ => v = .bl true) (fun _ _ _ => False) := by
  refine ⟨fun _ => False, [], [], [], [.scr ns], ⟨rfl, fun _ _ _ h => by simp at h, fun _ _ _ _ _ h => by simp at h, fun _ _ h => h, fun _ h => h.elim⟩, ?_, ?_⟩
  · simp only [Reps, Rep]
    refine ⟨_, _, rfl, ⟨a, rfl, ?_⟩, rfl⟩
    rcases hS with (h | h) | h
    · rcases hO a with q | ⟨o, xs, q⟩
      · rw [q] at h; cases h
      · rw [q] at h; cases h
    · exact .inl h
    · exact .inr (.inr h)
  · rw [h]
    intro F' μ' H' _ _ v rv
    simpa only [Rep] using rv
end QF
end

section
/-! QP: the evaluator's steps as rewriting rows. -/
namespace QF
section
variable {α β : Type} {P : Prg} {cf : Nat → List D → Sto → Res D} {ρ : Env} {S : Sto}
@[simp] theorem bind_ok (a : α) (S : Sto) (f : α → Sto → Res β) : (Res.ok a S).bind f = f a S := Eq.trans rfl rfl
@[simp] theorem bind_stk (f : α → Sto → Res β) : (Res.stk : Res α).bind f = .stk := Eq.trans rfl rfl
@[simp] theorem onO_some (b : β) (k : β → Sto → Res α) : onO (some b) k S = k b S := Eq.trans rfl rfl
@[simp] theorem opt_some (a : α) : opt (some a) S = .ok a S := Eq.trans rfl rfl
@[simp] theorem onB_true (f g : Sto → Res α) : onB f g (.bl true) S = f S := Eq.trans rfl rfl
@[simp] theorem onB_false (f g : Sto → Res α) : onB f g (.bl false) S = g S := Eq.trans rfl rfl
theorem onB_bl (f g : Sto → Res α) (b : Bool) : onB f g (.bl b) S = if b then f S else g S := by cases b <;> rfl
@[simp] theorem onI_int (k : Int → Sto → Res α) (i : Int) : onI k (.int i) S = k i S := Eq.trans rfl rfl
@[simp] theorem noExc_ok (a : α) : noExc (.ok a S) = .ok a S := Eq.trans rfl rfl
@[simp] theorem someB_true (k : Sto → Res D) : someB true k S = (k S).bind fun d S => .ok (some d) S := Eq.trans rfl rfl
@[simp] theorem someB_false (k : Sto → Res D) : someB false k S = .ok none S := Eq.trans rfl rfl
@[simp] theorem retOf_rt (d : D) : retOf (.ok (.rt d) S) = .ok d S := Eq.trans rfl rfl
@[simp] theorem retOf_nx (ρ : Env) : retOf (.ok (.nx ρ) S) = .ok .non S := Eq.trans rfl rfl
@[simp] theorem nextB_nx (k : Env → Sto → Res Fl) : nextB k (.nx ρ) S = k ρ S := Eq.trans rfl rfl
@[simp] theorem nextB_rt (k : Env → Sto → Res Fl) (d : D) : nextB k (.rt d) S = .ok (.rt d) S := Eq.trans rfl rfl
@[simp] theorem nextB_bk (k : Env → Sto → Res Fl) : nextB k (.bk ρ) S = .ok (.bk ρ) S := Eq.trans rfl rfl
@[simp] theorem nextB_ct (k : Env → Sto → Res Fl) : nextB k (.ct ρ) S = .ok (.ct ρ) S := Eq.trans rfl rfl
@[simp] theorem turnF_nx (k : Env → Sto → Res Fl) : turnF k (.nx ρ) S = k ρ S := Eq.trans rfl rfl
@[simp] theorem turnF_ct (k : Env → Sto → Res Fl) : turnF k (.ct ρ) S = k ρ S := Eq.trans rfl rfl
@[simp] theorem turnF_bk (k : Env → Sto → Res Fl) : turnF k (.bk ρ) S = .ok (.nx ρ) S := Eq.trans rfl rfl
@[simp] theorem turnF_rt (k : Env → Sto → Res Fl) (d : D) : turnF k (.rt d) S = .ok (.rt d) S := Eq.trans rfl rfl
@[simp] theorem chk_nil : chkOk [] S = true := Eq.trans rfl rfl
/-! expressions -/
theorem e_var {i : Nat} {d : D} (h : ρ[i]? = some (some d)) : evE P cf (.var i) ρ S = .ok d S := by simp only [evE, h]
@[simp] theorem e_non : evE P cf .non ρ S = .ok .non S := by simp only [evE]
@[simp] theorem e_bl (b : Bool) : evE P cf (.bl b) ρ S = .ok (.bl b) S := by simp only [evE]
@[simp] theorem e_int (i : Int) : evE P cf (.int i) ρ S = .ok (.int i) S := by simp only [evE]
@[simp] theorem e_str (s : Cs) : evE P cf (.str s) ρ S = .ok (.str s) S := by simp only [evE]
@[simp] theorem e_glob (g : Nat) : evE P cf (.glob g) ρ S = opt (P.glo[g]?) S := by simp only [evE]
@[simp] theorem e_tup (es : Es) : evE P cf (.tup es) ρ S = (evEs P cf es ρ S).bind fun ds S => fewB ds (.ok (.tup ds) S) := by simp only [evE]
@[simp] theorem e_lst (m : Bool) (es : Es) : evE P cf (.lst m es) ρ S = (evEs P cf es ρ S).bind fun ds S => fewB ds (newL m ds S) := by simp only [evE]
@[simp] theorem e_dict0 (t : Bool) : evE P cf (.dict0 t) ρ S = newD t ([], []) S := by simp only [evE]
@[simp] theorem e_bin (o : Op) (a b : Ex) : evE P cf (.bin o a b) ρ S = (evE P cf a ρ S).bind fun x S => (evE P cf b ρ S).bind fun y S => op2 (binOp o) x y S := by simp only [evE]
@[simp] theorem e_neg (a : Ex) : evE P cf (.neg a) ρ S = (evE P cf a ρ S).bind fun x S => onI (fun i S => .ok (.int (-i)) S) x S := by simp only [evE]
@[simp] theorem e_not (a : Ex) : evE P cf (.not a) ρ S = (evE P cf a ρ S).bind fun x S => onB (fun S => .ok (.bl false) S) (fun S => .ok (.bl true) S) x S := by simp only [evE]
@[simp] theorem e_cmp (o : Cm) (a b : Ex) : evE P cf (.cmp o a b) ρ S = (evE P cf a ρ S).bind fun x S => (evE P cf b ρ S).bind fun y S => op2 (cmp2 o) x y S := by simp only [evE]
@[simp] theorem e_chain (o o' : Cm) (a b c : Ex) : evE P cf (.chain o o' a b c) ρ S = (evE P cf a ρ S).bind fun x S => (evE P cf b ρ S).bind fun y S => chainB o x y (fun S => (evE P cf c ρ S).bind fun z S => op2 (cmp2 o') y z S) S := by simp only [evE]
@[simp] theorem e_boolop (i : Bool) (es : Es) : evE P cf (.boolop i es) ρ S = evBo P cf i es ρ S := by simp only [evE]
@[simp] theorem e_ife (t a b : Ex) : evE P cf (.ife t a b) ρ S = (evE P cf t ρ S).bind fun x S => onB (fun S => evE P cf a ρ S) (fun S => evE P cf b ρ S) x S := by simp only [evE]
@[simp] theorem e_call (f : Nat) (es : Es) : evE P cf (.call f es) ρ S = (evEs P cf es ρ S).bind fun ds S => cf f ds S := by simp only [evE]
@[simp] theorem e_bi (b : Bi) (m : Bool) (es : Es) : evE P cf (.bi b m es) ρ S = (evEs P cf es ρ S).bind fun ds S => evBi b m ds S := by simp only [evE]
@[simp] theorem e_isi (a : Ex) (t : Ty) : evE P cf (.isi a t) ρ S = (evE P cf a ρ S).bind fun x S => opt ((isTy P.sup t x).map .bl) S := by simp only [evE]
@[simp] theorem e_idx (a b : Ex) : evE P cf (.idx a b) ρ S = (evE P cf a ρ S).bind fun x S => (evE P cf b ρ S).bind fun y S => idx2 x y S := by simp only [evE]
@[simp] theorem e_slice (m : Bool) (a : Ex) (lo hi : Oe) : evE P cf (.slice m a lo hi) ρ S = (evE P cf a ρ S).bind fun x S => (evO P cf lo ρ S).bind fun l S => (evO P cf hi ρ S).bind fun h S => sliceK m l h x S := by simp only [evE]
@[simp] theorem e_rev (m : Bool) (a : Ex) : evE P cf (.rev m a) ρ S = (evE P cf a ρ S).bind fun x S => revK m x S := by simp only [evE]
@[simp] theorem e_meth (b : Mt) (a : Ex) (es : Es) : evE P cf (.meth b a es) ρ S = (evE P cf a ρ S).bind fun x S => if recvOk b x S then (evEs P cf es ρ S).bind fun ds S => evMt b x ds S else .stk := by simp only [evE]
@[simp] theorem e_listIt (m : Bool) (it : It) : evE P cf (.listIt m it) ρ S = (evI P cf it ρ S).bind fun src S => newL m (src.items.map unpr) S := by simp only [evE]
@[simp] theorem e_freeze (a : Ex) : evE P cf (.freeze a) ρ S = (evE P cf a ρ S).bind fun d S => freezeD d S := by simp only [evE]
@[simp] theorem es_nil : evEs P cf .nil ρ S = .ok [] S := by simp only [evEs]
@[simp] theorem es_cons (e : Ex) (es : Es) : evEs P cf (.cons e es) ρ S = (evE P cf e ρ S).bind fun d S => (evEs P cf es ρ S).bind fun ds S => .ok (d :: ds) S := by simp only [evEs]
@[simp] theorem bo_one (i : Bool) (e : Ex) : evBo P cf i (.cons e .nil) ρ S = evE P cf e ρ S := by simp only [evBo]
@[simp] theorem bo_two (i : Bool) (e f : Ex) (es : Es) : evBo P cf i (.cons e (.cons f es)) ρ S = (evE P cf e ρ S).bind fun x S => boB i (fun S => evBo P cf i (.cons f es) ρ S) x S := by simp only [evBo]
@[simp] theorem boB_tt (k : Sto → Res D) : boB true k (.bl true) S = k S := Eq.trans rfl rfl
@[simp] theorem boB_tf (k : Sto → Res D) : boB true k (.bl false) S = .ok (.bl false) S := Eq.trans rfl rfl
@[simp] theorem boB_ft (k : Sto → Res D) : boB false k (.bl true) S = .ok (.bl true) S := Eq.trans rfl rfl
@[simp] theorem boB_ff (k : Sto → Res D) : boB false k (.bl false) S = k S := Eq.trans rfl rfl
@[simp] theorem o_no : evO P cf .no ρ S = .ok none S := by simp only [evO]
@[simp] theorem o_yes (e : Ex) : evO P cf (.yes e) ρ S = (evE P cf e ρ S).bind fun x S => onI (fun i S => .ok (some i) S) x S := by simp only [evO]
@[simp] theorem c_no : evC P cf .no ρ S = .ok true S := by simp only [evC]
@[simp] theorem c_yes (e : Ex) : evC P cf (.yes e) ρ S = (evE P cf e ρ S).bind fun x S => onB (fun S => .ok true S) (fun S => .ok false S) x S := by simp only [evC]
@[simp] theorem i_of (e : Ex) : evI P cf (.of e) ρ S = (evE P cf e ρ S).bind fun x S => opt (srcOf S x) S := by simp only [evI]
theorem i_rng1 (a : Ex) : evI P cf (.rng1 a) ρ S = (evE P cf a ρ S).bind fun x S => onI (fun j S => if rngOk j then .ok ⟨rngD 0 j.toNat, []⟩ S else .stk) x S := by simp only [evI]
theorem i_rng2 (a b : Ex) : evI P cf (.rng2 a b) ρ S = (evE P cf a ρ S).bind fun x S => (evE P cf b ρ S).bind fun y S => onI (fun i S => onI (fun j S => if rngOk i && rngOk j then .ok ⟨rngD i (j - i).toNat, []⟩ S else .stk) y S) x S := by simp only [evI]
@[simp] theorem i_enum (a : Ex) : evI P cf (.enum a) ρ S = (evE P cf a ρ S).bind fun x S => if seqK S x then onO (srcOf S x) (fun s S => .ok ⟨enumD 0 s.items, s.chk⟩ S) S else .stk := by simp only [evI]
@[simp] theorem i_zip (a b : Ex) : evI P cf (.zip a b) ρ S = (evE P cf a ρ S).bind fun x S => (evE P cf b ρ S).bind fun y S => if zipK S x y then onO (srcOf S x) (fun s S => onO (srcOf S y) (fun t S => .ok ⟨zipD s.items t.items, s.chk ++ t.chk⟩ S) S) S else .stk := by simp only [evI]
/-! statements -/
@[simp] theorem zs_asg (tg : Tn) (e : Ex) : evS P cf (.asg tg e) ρ S = (evE P cf e ρ S).bind fun d S => onO (asgT tg d ρ) (fun ρ' S => .ok (.nx ρ') S) S := by simp only [evS]
@[simp] theorem s_par (is : List Nat) (es : Es) : evS P cf (.par is es) ρ S = (evEs P cf es ρ S).bind fun ds S => onO (setAll is ds ρ) (fun ρ' S => .ok (.nx ρ') S) S := by simp only [evS]
@[simp] theorem zs_aug (i : Nat) (o : Op) (e : Ex) : evS P cf (.aug i o e) ρ S = (evE P cf (.var i) ρ S).bind fun x S => (evE P cf e ρ S).bind fun y S => (augD o x y S).bind fun d S => onO (asgT (.name i) d ρ) (fun ρ' S => .ok (.nx ρ') S) S := by simp only [evS]
@[simp] theorem zs_sub (o i e : Ex) : evS P cf (.sub o i e) ρ S = (evE P cf e ρ S).bind fun v S => (evE P cf o ρ S).bind fun x S => (evE P cf i ρ S).bind fun k S => (setD x k v S).bind fun _ S => .ok (.nx ρ) S := by simp only [evS]
@[simp] theorem s_augSub (o i : Ex) (op : Op) (e : Ex) : evS P cf (.augSub o i op e) ρ S = (evE P cf o ρ S).bind fun x S => (evE P cf i ρ S).bind fun k S => (idx2 x k S).bind fun a S => (evE P cf e ρ S).bind fun b S => (augD op a b S).bind fun d S => (setD x k d S).bind fun _ S => .ok (.nx ρ) S := by simp only [evS]
@[simp] theorem zs_expr (e : Ex) : evS P cf (.expr e) ρ S = (evE P cf e ρ S).bind fun _ S => .ok (.nx ρ) S := by simp only [evS]
@[simp] theorem zs_ret (e : Ex) : evS P cf (.ret e) ρ S = (evE P cf e ρ S).bind fun d S => .ok (.rt d) S := by simp only [evS]
@[simp] theorem zs_retN : evS P cf .retN ρ S = .ok (.rt .non) S := by simp only [evS]
@[simp] theorem zs_pass : evS P cf .pass ρ S = .ok (.nx ρ) S := by simp only [evS]
@[simp] theorem zs_brk : evS P cf .brk ρ S = .ok (.bk ρ) S := by simp only [evS]
@[simp] theorem zs_cont : evS P cf .cont ρ S = .ok (.ct ρ) S := by simp only [evS]
@[simp] theorem s_ifs (t : Ex) (a b : List St) : evS P cf (.ifs t a b) ρ S = (evE P cf t ρ S).bind fun x S => onB (fun S => evSs P cf a ρ S) (fun S => evSs P cf b ρ S) x S := by simp only [evS]
@[simp] theorem zs_for (tg : Tn) (it : It) (body : List St) : evS P cf (.for_ tg it body) ρ S = (evI P cf it ρ S).bind fun src S => forGo src.chk tg (fun ρ S => evSs P cf body ρ S) src.items ρ S := by simp only [evS]
@[simp] theorem zs_while (t : Ex) (body : List St) : evS P cf (.while_ t body) ρ S = whileGo (fun ρ S => evE P cf t ρ S) (fun ρ S => evSs P cf body ρ S) P.lf ρ S := by simp only [evS]
@[simp] theorem ss_nil : evSs P cf [] ρ S = .ok (.nx ρ) S := by simp only [evSs]
@[simp] theorem ss_cons (s : St) (ss : List St) : evSs P cf (s :: ss) ρ S = (evS P cf s ρ S).bind fun f S => nextB (evSs P cf ss) f S := by simp only [evSs]
/-! values -/
@[simp] theorem drf_int (i : Int) : drf S (.int i) = some (.int i) := Eq.trans rfl rfl
@[simp] theorem drf_str (i : Cs) : drf S (.str i) = some (.str i) := Eq.trans rfl rfl
@[simp] theorem drf_bl (i : Bool) : drf S (.bl i) = some (.bl i) := Eq.trans rfl rfl
@[simp] theorem drf_non : drf S .non = some .non := Eq.trans rfl rfl
@[simp] theorem drf_tup (i : List D) : drf S (.tup i) = some (.tup i) := Eq.trans rfl rfl
@[simp] theorem drf_lst (i : List D) : drf S (.lst i) = some (.lst i) := Eq.trans rfl rfl
@[simp] theorem drf_dic (t : Bool) (k v : List D) : drf S (.dic t k v) = some (.dic t k v) := Eq.trans rfl rfl
@[simp] theorem drf_scr (i : List Int) : drf S (.scr i) = some (.scr i) := Eq.trans rfl rfl
theorem drf_loc {n : Nat} {ds : List D} (h : S[n]? = some (.lst ds)) : drf S (.loc n) = some (.lst ds) := by simp only [drf, h]
theorem drf_locD {n : Nat} {t : Bool} {k v : List D} (h : S[n]? = some (.dic t k v)) : drf S (.loc n) = some (.dic t k v) := by simp only [drf, h]
@[simp] theorem drfs_nil : drfs S [] = some [] := Eq.trans rfl rfl
@[simp] theorem drfs_cons (d : D) (ds : List D) : drfs S (d :: ds) = (drf S d).bind fun a => (drfs S ds).bind fun as => some (a :: as) := Eq.trans rfl rfl
@[simp] theorem newL_f (ds : List D) : newL false ds S = .ok (.lst ds) S := Eq.trans rfl rfl
@[simp] theorem newL_t (ds : List D) : newL true ds S = .ok (.loc S.length) (S ++ [.lst ds]) := Eq.trans rfl rfl
theorem few_ok {ds : List D} {r : Res D} (h : ds.length ≤ SL) : fewB ds r = r := by unfold fewB; rw [if_pos h]
theorem SL_big : 16777216 ≤ SL := by decide +kernel
@[simp] theorem few0 (r : Res D) : fewB [] r = r := few_ok (Nat.zero_le _)
@[simp] theorem zfew1 (a : D) (r : Res D) : fewB [a] r = r := few_ok (by have := SL_big; simp; omega)
@[simp] theorem few2 (a b : D) (r : Res D) : fewB [a, b] r = r := few_ok (by have := SL_big; simp; omega)
@[simp] theorem few3 (a b c : D) (r : Res D) : fewB [a, b, c] r = r := few_ok (by have := SL_big; simp; omega)
@[simp] theorem few4 (a b c d : D) (r : Res D) : fewB [a, b, c, d] r = r := few_ok (by have := SL_big; simp; omega)
/-! a comprehension over encoded items -/
theorem compGo_enc {f : D → Sto → Res (Option D)} (enc : α → D) (g : α → Option D) : ∀ (xs : List α) (acc : List D), (∀ a ∈ xs, f (enc a) S = .ok (g a) S) → acc.length + xs.length ≤ SL → compGo [] f (xs.map enc) acc S = .ok (acc ++ xs.filterMap g) S
  | [], acc, _, _ => by simp [compGo]
  | a :: xs, acc, h, hl => by
    simp only [List.map_cons, compGo, chk_nil, if_true, h a List.mem_cons_self]
    have hx : ∀ b ∈ xs, f (enc b) S = .ok (g b) S := fun b hb => h b (List.mem_cons_of_mem _ hb)
    simp only [List.length_cons] at hl
    cases e : g a with
    | none =>
      simp only
      rw [compGo_enc enc g xs acc hx (by omega), List.filterMap_cons_none e]
    | some d =>
      simp only
      rw [if_pos (by omega), compGo_enc enc g xs (acc ++ [d]) hx (by simp; omega), List.filterMap_cons_some e]
      simp
theorem ev_comp {m : Bool} {own : List Nat} {tg : Tn} {it : It} {cond : Oe} {elt : Ex} (xs : List α) (enc : α → D) (g : α → Option D) (hI : evI P cf it ρ S = .ok ⟨xs.map enc, []⟩ S) (hl : xs.length ≤ SL)
    (h : ∀ a ∈ xs, (onO (asgT tg (enc a) (wipeE ρ own)) (fun ρ' S => (evC P cf cond ρ' S).bind fun b S => someB b (fun S => evE P cf elt ρ' S) S) S) = .ok (g a) S) : evE P cf (.comp m own tg it cond elt) ρ S = newL m (xs.filterMap g) S := by
  simp only [evE, hI, bind_ok]
  rw [compGo_enc enc g xs [] h (by simpa using hl)]
  rfl
/-- a comprehension without a test -/
theorem ev_compM {m : Bool} {own : List Nat} {tg : Tn} {it : It} {elt : Ex} (xs : List α) (enc g : α → D) (hI : evI P cf it ρ S = .ok ⟨xs.map enc, []⟩ S) (hl : xs.length ≤ SL)
    (h : ∀ a ∈ xs, (onO (asgT tg (enc a) (wipeE ρ own)) (fun ρ' S => evE P cf elt ρ' S) S) = .ok (g a) S) : evE P cf (.comp m own tg it .no elt) ρ S = newL m (xs.map g) S := by
  have e0 : xs.filterMap (fun a => some (g a)) = xs.map g := by induction xs <;> simp_all
  rw [ev_comp xs enc (fun a => some (g a)) hI hl, e0]
  intro a ha
  have := h a ha
  cases e : asgT tg (enc a) (wipeE ρ own) with
  | none => rw [e] at this; cases this
  | some ρ' =>
    rw [e] at this
    simp only [onO_some] at this
    simp only [onO_some, c_no, bind_ok, someB_true, this]
theorem compGo_some {f : D → Sto → Res (Option D)} (enc : α → D) (g : α → List D) (k : D → List D → Sto → Res (List D)) : ∀ (xs : List α) (acc : List D), (∀ a ∈ xs, ∀ acc, acc.length + (g a).length ≤ SL → k (enc a) acc S = .ok (acc ++ g a) S) → acc.length + (xs.flatMap g).length ≤ SL → compGo2 [] k (xs.map enc) acc S = .ok (acc ++ xs.flatMap g) S
  | [], acc, _, _ => by simp [compGo2]
  | a :: xs, acc, h, hl => by
    simp only [List.flatMap_cons, List.length_append] at hl
    simp only [List.map_cons, compGo2, chk_nil, if_true, h a List.mem_cons_self acc (by omega)]
    rw [compGo_some (f := f) enc g k xs (acc ++ g a) (fun b hb => h b (List.mem_cons_of_mem _ hb)) (by rw [List.length_append]; omega)]
    simp
/-- two clauses, no test -/
theorem ev_comp2 {m : Bool} {own : List Nat} {tg tg1 : Tn} {it it1 : It} {elt : Ex} (xs : List α) (enc : α → D) (ys : α → List β) (enc1 : α → β → D) (g : α → β → D) (hI : evI P cf it ρ S = .ok ⟨xs.map enc, []⟩ S)
    (hl : (xs.flatMap fun a => (ys a).map (g a)).length ≤ SL)
    (h : ∀ a ∈ xs, ∃ ρ', asgT tg (enc a) (wipeE ρ own) = some ρ' ∧ evI P cf it1 ρ' S = .ok ⟨(ys a).map (enc1 a), []⟩ S ∧
      ∀ b ∈ ys a, (onO (asgT tg1 (enc1 a b) (wipeE ρ' (tnIx tg1))) (fun ρ'' S => evE P cf elt ρ'' S) S) = .ok (g a b) S) : evE P cf (.comp2 m own tg it tg1 it1 .no elt) ρ S = newL m (xs.flatMap fun a => (ys a).map (g a)) S := by
  simp only [evE, hI, bind_ok]
  rw [compGo_some (f := fun _ _ => .stk) enc (fun a => (ys a).map (g a)) _ xs [] ?_ (by simpa using hl)]
  · rfl
  · intro a ha acc hacc
    obtain ⟨ρ', e1, e2, e3⟩ := h a ha
    simp only [e1, onO_some, e2, noExc_ok, bind_ok]
    have e0 : (ys a).filterMap (fun b => some (g a b)) = (ys a).map (g a) := by induction (ys a) <;> simp_all
    rw [compGo_enc (enc1 a) (fun b => some (g a b)) (ys a) acc ?_ (by simpa using hacc), e0]
    intro b hb
    have := e3 b hb
    cases e : asgT tg1 (enc1 a b) (wipeE ρ' (tnIx tg1)) with
    | none => rw [e] at this; cases this
    | some ρ'' =>
      rw [e] at this
      simp only [onO_some] at this
      simp only [onO_some, evC, bind_ok, someB_true, this]
/-- a for whose body never leaves -/
theorem for_inv {tg : Tn} {body : Env → Sto → Res Fl} (enc : α → D) (Inv : List α → Env → Sto → Prop) {xs : List α} :
    ∀ (post pre : List α) (ρ : Env) (S : Sto), xs = pre ++ post → Inv pre ρ S →
    (∀ pre a post ρ S, xs = pre ++ a :: post → Inv pre ρ S → ∃ ρ1 ρ2 S2, asgT tg (enc a) ρ = some ρ1 ∧ body ρ1 S = .ok (.nx ρ2) S2 ∧ Inv (pre ++ [a]) ρ2 S2) →
    ∃ ρ' S', forGo [] tg body (post.map enc) ρ S = .ok (.nx ρ') S' ∧ Inv xs ρ' S'
  | [], pre, ρ, S, e, I, _ => ⟨ρ, S, by simp [forGo], by rw [e, List.append_nil]; exact I⟩
  | a :: post, pre, ρ, S, e, I, h => by
    obtain ⟨ρ1, ρ2, S2, h1, h2, h3⟩ := h pre a post ρ S e I
    obtain ⟨ρ', S', h4, h5⟩ := for_inv enc Inv post (pre ++ [a]) ρ2 S2 (by rw [e]; simp) h3 h
    exact ⟨ρ', S', by simp only [List.map_cons, forGo, chk_nil, if_true, h1, onO_some, h2, bind_ok, turnF_nx, h4], h5⟩
/-- a for that one of its turns leaves -/
theorem ev_for {tg : Tn} {it : It} {body : List St} (enc : α → D) (xs : List α) (Inv : List α → Env → Sto → Prop) (hI : evI P cf it ρ S = .ok ⟨xs.map enc, []⟩ S) (h0 : Inv [] ρ S)
    (h : ∀ pre a post ρ S, xs = pre ++ a :: post → Inv pre ρ S → ∃ ρ1 ρ2 S2, asgT tg (enc a) ρ = some ρ1 ∧ evSs P cf body ρ1 S = .ok (.nx ρ2) S2 ∧ Inv (pre ++ [a]) ρ2 S2) :
    ∃ ρ' S', evS P cf (.for_ tg it body) ρ S = .ok (.nx ρ') S' ∧ Inv xs ρ' S' := by
  simp only [evS, hI, bind_ok]
  exact for_inv enc Inv xs [] ρ S rfl h0 h
theorem flats_map {f : α → D} {xs : List α} (h : ∀ a ∈ xs, (f a).flat = true) : D.flats (xs.map f) = true := by
  induction xs with
  | nil => rfl
  | cons a xs ih => simp only [List.map_cons, D.flats, Bool.and_eq_true]; exact ⟨h a List.mem_cons_self, ih fun b hb => h b (List.mem_cons_of_mem _ hb)⟩
/-- a call of a pure def -/
theorem evF_pure {n f np nl : Nat} {body : List St} {ds : List D} {d : D} {S' : Sto} (h : P.fns[f]? = some ⟨np, nl, 0, body⟩) (hl : ds.length = np) (hf : D.flats ds = true) (hd : d.flat = true) (hb : retOf (evSs P (evF P n) body (envOf nl ds) []) = .ok d S') : evF P (n + 1) f ds S = .ok d S := by
  simp only [evF, h, hl, if_true, hf, hb, hd]
/-- a call of a def with things of its own -/
theorem evF_own {n f np nl : Nat} {body : List St} {ds : List D} {d : D} {S' : Sto} (h : P.fns[f]? = some ⟨np, nl, 1, body⟩) (hl : ds.length = np) (hb : retOf (evSs P (evF P n) body (envOf nl ds) S) = .ok d S') (hd : d.under S.length = true) (hS : (S'.take S.length).all (O.under S.length) = true) : evF P (n + 1) f ds S = .ok d (S'.take S.length) := by
  simp only [evF, h, hl, if_true, hb, hd, hS, Bool.and_self]
theorem evF_raw {n f np nl : Nat} {body : List St} {ds : List D} {r : Res D} (h : P.fns[f]? = some ⟨np, nl, 2, body⟩) (hl : ds.length = np) (hb : retOf (evSs P (evF P n) body (envOf nl ds) S) = r) : evF P (n + 1) f ds S = r := by
  simp only [evF, h, hl, if_true, hb]
/-! targets, types -/
@[simp] theorem asg_name {i : Nat} {d : D} (h : i < ρ.length) : asgT (.name i) d ρ = some (ρ.set i (some d)) := by simp only [asgT]; rw [if_pos h]
@[simp] theorem asg_tup (ts : List Tn) (ds : List D) : asgT (.tup ts) (.tup ds) ρ = asgTs ts ds ρ := by simp only [asgT]
@[simp] theorem asg_pr (ts : List Tn) (ds : List D) : asgT (.tup ts) (.pr ds) ρ = asgTs ts ds ρ := by simp only [asgT]
@[simp] theorem asgs_nil : asgTs [] [] ρ = some ρ := by simp only [asgTs]
@[simp] theorem asgs_cons (t : Tn) (ts : List Tn) (d : D) (ds : List D) : asgTs (t :: ts) (d :: ds) ρ = (asgT t d ρ).bind fun ρ' => asgTs ts ds ρ' := by simp only [asgTs]
@[simp] theorem ty_non_int {u : List (List Nat)} : isTy u .int (.non) = some false := Eq.trans rfl rfl
@[simp] theorem ty_non_bool {u : List (List Nat)} : isTy u .bool (.non) = some false := Eq.trans rfl rfl
@[simp] theorem ty_non_str {u : List (List Nat)} : isTy u .str (.non) = some false := Eq.trans rfl rfl
@[simp] theorem ty_non_tuple {u : List (List Nat)} : isTy u .tuple (.non) = some false := Eq.trans rfl rfl
@[simp] theorem ty_non_list {u : List (List Nat)} : isTy u .list (.non) = some false := Eq.trans rfl rfl
@[simp] theorem ty_bl_int {u : List (List Nat)} (b : Bool) : isTy u .int (.bl b) = some true := Eq.trans rfl rfl
@[simp] theorem ty_bl_bool {u : List (List Nat)} (b : Bool) : isTy u .bool (.bl b) = some true := Eq.trans rfl rfl
@[simp] theorem ty_bl_str {u : List (List Nat)} (b : Bool) : isTy u .str (.bl b) = some false := Eq.trans rfl rfl
@[simp] theorem ty_bl_tuple {u : List (List Nat)} (b : Bool) : isTy u .tuple (.bl b) = some false := Eq.trans rfl rfl
@[simp] theorem ty_bl_list {u : List (List Nat)} (b : Bool) : isTy u .list (.bl b) = some false := Eq.trans rfl rfl
@[simp] theorem ty_int_int {u : List (List Nat)} (i : Int) : isTy u .int (.int i) = some true := Eq.trans rfl rfl
@[simp] theorem ty_int_bool {u : List (List Nat)} (i : Int) : isTy u .bool (.int i) = some false := Eq.trans rfl rfl
@[simp] theorem ty_int_str {u : List (List Nat)} (i : Int) : isTy u .str (.int i) = some false := Eq.trans rfl rfl
@[simp] theorem ty_int_tuple {u : List (List Nat)} (i : Int) : isTy u .tuple (.int i) = some false := Eq.trans rfl rfl
@[simp] theorem ty_int_list {u : List (List Nat)} (i : Int) : isTy u .list (.int i) = some false := Eq.trans rfl rfl
@[simp] theorem ty_str_int {u : List (List Nat)} (s : Cs) : isTy u .int (.str s) = some false := Eq.trans rfl rfl
@[simp] theorem ty_str_bool {u : List (List Nat)} (s : Cs) : isTy u .bool (.str s) = some false := Eq.trans rfl rfl
@[simp] theorem ty_str_str {u : List (List Nat)} (s : Cs) : isTy u .str (.str s) = some true := Eq.trans rfl rfl
@[simp] theorem ty_str_tuple {u : List (List Nat)} (s : Cs) : isTy u .tuple (.str s) = some false := Eq.trans rfl rfl
@[simp] theorem ty_str_list {u : List (List Nat)} (s : Cs) : isTy u .list (.str s) = some false := Eq.trans rfl rfl
@[simp] theorem ty_tup_int {u : List (List Nat)} (ds : List D) : isTy u .int (.tup ds) = some false := Eq.trans rfl rfl
@[simp] theorem ty_tup_bool {u : List (List Nat)} (ds : List D) : isTy u .bool (.tup ds) = some false := Eq.trans rfl rfl
@[simp] theorem ty_tup_str {u : List (List Nat)} (ds : List D) : isTy u .str (.tup ds) = some false := Eq.trans rfl rfl
@[simp] theorem ty_tup_tuple {u : List (List Nat)} (ds : List D) : isTy u .tuple (.tup ds) = some true := Eq.trans rfl rfl
@[simp] theorem ty_tup_list {u : List (List Nat)} (ds : List D) : isTy u .list (.tup ds) = some false := Eq.trans rfl rfl
@[simp] theorem ty_lst_int {u : List (List Nat)} (ds : List D) : isTy u .int (.lst ds) = some false := Eq.trans rfl rfl
@[simp] theorem ty_lst_bool {u : List (List Nat)} (ds : List D) : isTy u .bool (.lst ds) = some false := Eq.trans rfl rfl
@[simp] theorem ty_lst_str {u : List (List Nat)} (ds : List D) : isTy u .str (.lst ds) = some false := Eq.trans rfl rfl
@[simp] theorem ty_lst_tuple {u : List (List Nat)} (ds : List D) : isTy u .tuple (.lst ds) = some false := Eq.trans rfl rfl
@[simp] theorem ty_lst_list {u : List (List Nat)} (ds : List D) : isTy u .list (.lst ds) = some true := Eq.trans rfl rfl
/-! comparisons -/
@[simp] theorem cm_lt_ii (i j : Int) : op2 (cmp2 .lt) (.int i) (.int j) S = .ok (.bl (decide (i < j))) S := Eq.trans rfl rfl
@[simp] theorem cm_le_ii (i j : Int) : op2 (cmp2 .le) (.int i) (.int j) S = .ok (.bl (decide (i ≤ j))) S := Eq.trans rfl rfl
@[simp] theorem cm_gt_ii (i j : Int) : op2 (cmp2 .gt) (.int i) (.int j) S = .ok (.bl (decide (j < i))) S := Eq.trans rfl rfl
@[simp] theorem cm_ge_ii (i j : Int) : op2 (cmp2 .ge) (.int i) (.int j) S = .ok (.bl (decide (j ≤ i))) S := Eq.trans rfl rfl
@[simp] theorem cm_eq_ii (i j : Int) : op2 (cmp2 .eq) (.int i) (.int j) S = .ok (.bl (i == j)) S := Eq.trans rfl rfl
@[simp] theorem cm_ne_ii (i j : Int) : op2 (cmp2 .ne) (.int i) (.int j) S = .ok (.bl (!(i == j))) S := Eq.trans rfl rfl
@[simp] theorem cm_eq_ss (i j : Cs) : op2 (cmp2 .eq) (.str i) (.str j) S = .ok (.bl (i == j)) S := Eq.trans rfl rfl
@[simp] theorem cm_ne_ss (i j : Cs) : op2 (cmp2 .ne) (.str i) (.str j) S = .ok (.bl (!(i == j))) S := Eq.trans rfl rfl
@[simp] theorem cm_lt_ss (i j : Cs) : op2 (cmp2 .lt) (.str i) (.str j) S = .ok (.bl (decide (i < j))) S := Eq.trans rfl rfl
@[simp] theorem cm_in_cs (c : Nat) (s : Cs) : op2 (cmp2 .isIn) (.str [c]) (.str s) S = .ok (.bl (decide (c ∈ s))) S := Eq.trans rfl rfl
@[simp] theorem cm_isNon_non : op2 (cmp2 .isNon) .non .non S = .ok (.bl true) S := Eq.trans rfl rfl
@[simp] theorem cm_isNon_bl (b : Bool) : op2 (cmp2 .isNon) (.bl b) .non S = .ok (.bl false) S := Eq.trans rfl rfl
@[simp] theorem cm_notNon_bl (b : Bool) : op2 (cmp2 .notNon) (.bl b) .non S = .ok (.bl true) S := Eq.trans rfl rfl
@[simp] theorem cm_isNon_int (i : Int) : op2 (cmp2 .isNon) (.int i) .non S = .ok (.bl false) S := Eq.trans rfl rfl
@[simp] theorem cm_notNon_int (i : Int) : op2 (cmp2 .notNon) (.int i) .non S = .ok (.bl true) S := Eq.trans rfl rfl
@[simp] theorem cm_isNon_str (s : Cs) : op2 (cmp2 .isNon) (.str s) .non S = .ok (.bl false) S := Eq.trans rfl rfl
@[simp] theorem cm_notNon_str (s : Cs) : op2 (cmp2 .notNon) (.str s) .non S = .ok (.bl true) S := Eq.trans rfl rfl
@[simp] theorem cm_isNon_tup (ds : List D) : op2 (cmp2 .isNon) (.tup ds) .non S = .ok (.bl false) S := Eq.trans rfl rfl
@[simp] theorem cm_notNon_tup (ds : List D) : op2 (cmp2 .notNon) (.tup ds) .non S = .ok (.bl true) S := Eq.trans rfl rfl
@[simp] theorem cm_isNon_lst (ds : List D) : op2 (cmp2 .isNon) (.lst ds) .non S = .ok (.bl false) S := Eq.trans rfl rfl
@[simp] theorem cm_notNon_lst (ds : List D) : op2 (cmp2 .notNon) (.lst ds) .non S = .ok (.bl true) S := Eq.trans rfl rfl
@[simp] theorem cm_notNon_non : op2 (cmp2 .notNon) .non .non S = .ok (.bl false) S := Eq.trans rfl rfl
@[simp] theorem cm_isTrue (a b : Bool) : op2 (cmp2 .isTrue) (.bl a) (.bl b) S = .ok (.bl (a == b)) S := Eq.trans rfl rfl
@[simp] theorem cm_notTrue (a b : Bool) : op2 (cmp2 .notTrue) (.bl a) (.bl b) S = .ok (.bl (a != b)) S := Eq.trans rfl rfl
theorem op_chain {o : Cm} {x y : D} {k : Sto → Res D} {b : Bool} (h : op2 (cmp2 o) x y S = .ok (.bl b) S) : chainB o x y k S = if b then k S else .ok (.bl false) S := by unfold chainB; rw [h]; cases b <;> rfl
@[simp] theorem ch_lt (i j : Int) (k : Sto → Res D) : chainB .lt (.int i) (.int j) k S = if decide (i < j) then k S else .ok (.bl false) S := op_chain rfl
@[simp] theorem ch_le (i j : Int) (k : Sto → Res D) : chainB .le (.int i) (.int j) k S = if decide (i ≤ j) then k S else .ok (.bl false) S := op_chain rfl
/-! operations -/
@[simp] theorem op_add (i j : Int) : op2 (binOp .add) (.int i) (.int j) S = .ok (.int (i + j)) S := Eq.trans rfl rfl
@[simp] theorem op_sub (i j : Int) : op2 (binOp .sub) (.int i) (.int j) S = .ok (.int (i - j)) S := Eq.trans rfl rfl
theorem op_mul {i j : Int} (h : mulOk i j = true) : op2 (binOp .mul) (.int i) (.int j) S = .ok (.int (i * j)) S := by simp only [op2, drf_int, binOp, h, if_true, opt_some]
theorem op_fdiv {i j : Int} (h : 0 < j ∧ j < 1073741824) : op2 (binOp .fdiv) (.int i) (.int j) S = .ok (.int (i / j)) S := by simp only [op2, drf_int, binOp, if_pos h, opt_some]
theorem op_mod {i j : Int} (h : 0 < j) : op2 (binOp .mod) (.int i) (.int j) S = .ok (.int (i % j)) S := by simp only [op2, drf_int, binOp, if_pos h, opt_some]
theorem op_addL {a b : List D} (h : a.length + b.length ≤ SL) : op2 (binOp .add) (.lst a) (.lst b) S = .ok (.lst (a ++ b)) S := by simp only [op2, drf_lst, binOp, cat, if_pos h, Option.map_some, opt_some]
theorem op_addT {a b : List D} (h : a.length + b.length ≤ SL) : op2 (binOp .add) (.tup a) (.tup b) S = .ok (.tup (a ++ b)) S := by simp only [op2, drf_tup, binOp, cat, if_pos h, Option.map_some, opt_some]
theorem op_addS {a b : Cs} (h : a.length + b.length ≤ SL) : op2 (binOp .add) (.str a) (.str b) S = .ok (.str (a ++ b)) S := by simp only [op2, drf_str, binOp, cat, if_pos h, Option.map_some, opt_some]
/-! places -/
theorem at_nat {ds : List α} {k : Nat} {d : α} (h : ds[k]? = some d) : atD ds (k : Int) = some d := by
  have hl := (List.getElem?_eq_some_iff.mp h).1
  unfold atD ixI
  rw [if_pos (by omega), if_pos (by omega)]
  simpa using h
theorem at_last {ds : List α} {d : α} (h : ds.getLast? = some d) : atD ds (-1) = some d := by
  cases ds with
  | nil => simp at h
  | cons a r =>
    unfold atD ixI
    rw [if_neg (by omega), if_pos (by simp; omega)]
    rw [List.getLast?_eq_getElem?] at h
    have : ((-1 : Int) + ((a :: r).length : Nat)).toNat = (a :: r).length - 1 := by simp; omega
    rw [this]
    simpa using h
theorem ix_tup {ds : List D} {i : Int} {d : D} (h : atD ds i = some d) : idx2 (.tup ds) (.int i) S = .ok d S := by simp only [idx2, op1, drf_tup, idxD, h, opt_some]
theorem ix_lst {ds : List D} {i : Int} {d : D} (h : atD ds i = some d) : idx2 (.lst ds) (.int i) S = .ok d S := by simp only [idx2, op1, drf_lst, idxD, h, opt_some]
theorem ix_loc {n : Nat} {ds : List D} {i : Int} {d : D} (hn : S[n]? = some (.lst ds)) (h : atD ds i = some d) : idx2 (.loc n) (.int i) S = .ok d S := by simp only [idx2, op1, drf_loc hn, idxD, h, opt_some]
@[simp] theorem ix_t0 (a : D) (r : List D) : idx2 (.tup (a :: r)) (.int 0) S = .ok a S := ix_tup (at_nat (k := 0) rfl)
@[simp] theorem ix_t1 (a b : D) (r : List D) : idx2 (.tup (a :: b :: r)) (.int 1) S = .ok b S := ix_tup (at_nat (k := 1) rfl)
@[simp] theorem ix_t2 (a b c : D) (r : List D) : idx2 (.tup (a :: b :: c :: r)) (.int 2) S = .ok c S := ix_tup (at_nat (k := 2) rfl)
@[simp] theorem ix_l0 (a : D) (r : List D) : idx2 (.lst (a :: r)) (.int 0) S = .ok a S := ix_lst (at_nat (k := 0) rfl)
theorem ix_s0 {c : Nat} {r : Cs} (h : (c :: r).length ≤ SL) : idx2 (.str (c :: r)) (.int 0) S = .ok (.str [c]) S := by
  have : atD (c :: r) 0 = some c := at_nat (k := 0) rfl
  simp only [idx2, op1, drf_str, idxD, if_pos h, this, Option.map_some, opt_some]
/-! built-ins -/
theorem bi_len_s {m : Bool} {s : Cs} (h : s.length ≤ SL) : evBi .len m [.str s] S = .ok (.int s.length) S := by simp [evBi, biD, lenD, h]
@[simp] theorem bi_len_t {m : Bool} (ds : List D) : evBi .len m [.tup ds] S = .ok (.int ds.length) S := Eq.trans rfl rfl
@[simp] theorem bi_len_l {m : Bool} (ds : List D) : evBi .len m [.lst ds] S = .ok (.int ds.length) S := Eq.trans rfl rfl
theorem bi_len_loc {m : Bool} {n : Nat} {ds : List D} (h : S[n]? = some (.lst ds)) : evBi .len m [.loc n] S = .ok (.int ds.length) S := by simp [evBi, drf_loc h, biD, lenD]
@[simp] theorem bi_tuple_l {m : Bool} (ds : List D) : evBi .tuple m [.lst ds] S = .ok (.tup ds) S := Eq.trans rfl rfl
@[simp] theorem bi_tuple_t {m : Bool} (ds : List D) : evBi .tuple m [.tup ds] S = .ok (.tup ds) S := Eq.trans rfl rfl
theorem bi_tuple_loc {m : Bool} {n : Nat} {ds : List D} (h : S[n]? = some (.lst ds)) : evBi .tuple m [.loc n] S = .ok (.tup ds) S := by simp [evBi, drf_loc h, biD]
@[simp] theorem bi_list_l {m : Bool} (ds : List D) : evBi .list m [.lst ds] S = newL m ds S := Eq.trans rfl rfl
@[simp] theorem bi_list_t {m : Bool} (ds : List D) : evBi .list m [.tup ds] S = newL m ds S := Eq.trans rfl rfl
@[simp] theorem bi_int {m : Bool} (i : Int) : evBi .int m [.int i] S = .ok (.int i) S := Eq.trans rfl rfl
@[simp] theorem bi_max2 {m : Bool} (i j : Int) : evBi .max2 m [.int i, .int j] S = .ok (.int (if j > i then j else i)) S := Eq.trans rfl rfl
@[simp] theorem bi_min2 {m : Bool} (i j : Int) : evBi .min2 m [.int i, .int j] S = .ok (.int (if j < i then j else i)) S := Eq.trans rfl rfl
@[simp] theorem src_t (ds : List D) : srcOf S (.tup ds) = some ⟨ds, []⟩ := Eq.trans rfl rfl
@[simp] theorem src_l (ds : List D) : srcOf S (.lst ds) = some ⟨ds, []⟩ := Eq.trans rfl rfl
@[simp] theorem src_s (s : Cs) : srcOf S (.str s) = some ⟨chars s, []⟩ := Eq.trans rfl rfl
theorem allOf_map {γ : Type} {f : γ → Option β} {e : α → γ} {g : α → β} (h : ∀ a, f (e a) = some (g a)) : ∀ xs : List α, allOf f (xs.map e) = some (xs.map g)
  | [] => rfl
  | a :: xs => by simp only [List.map_cons, allOf, h, allOf_map h xs, Option.bind_some]
theorem bi_all {m : Bool} (bs : List Bool) : evBi .all m [.lst (bs.map .bl)] S = .ok (.bl (bs.all id)) S := by
  have := allOf_map (f := boolOf) (e := D.bl) (g := id) (fun a => rfl) bs
  simp [evBi, biD, this]
theorem bi_any {m : Bool} (bs : List Bool) : evBi .any m [.lst (bs.map .bl)] S = .ok (.bl (bs.any id)) S := by
  have := allOf_map (f := boolOf) (e := D.bl) (g := id) (fun a => rfl) bs
  simp [evBi, biD, this]
theorem bi_all_m {m : Bool} (xs : List α) (p : α → Bool) : evBi .all m [.lst (xs.map fun a => .bl (p a))] S = .ok (.bl (xs.all p)) S := by
  have := bi_all (S := S) (m := m) (xs.map p)
  rw [List.map_map] at this
  rw [show (fun a => D.bl (p a)) = D.bl ∘ p from rfl, this]
  congr 2
  induction xs <;> simp_all
theorem bi_any_m {m : Bool} (xs : List α) (p : α → Bool) : evBi .any m [.lst (xs.map fun a => .bl (p a))] S = .ok (.bl (xs.any p)) S := by
  have := bi_any (S := S) (m := m) (xs.map p)
  rw [List.map_map] at this
  rw [show (fun a => D.bl (p a)) = D.bl ∘ p from rfl, this]
  congr 2
  induction xs <;> simp_all
theorem bi_sum_m {m : Bool} (xs : List α) (p : α → Int) : evBi .sum m [.lst (xs.map fun a => .int (p a))] S = .ok (.int (xs.map p).sum) S := by
  have := allOf_map (f := intOf) (e := fun a => D.int (p a)) (g := p) (fun a => rfl) xs
  simp [evBi, biD, itemsOf, this]
@[simp] theorem bi_all_tt {m : Bool} (xs : List α) : evBi .all m [.lst (xs.map fun _ => .bl true)] S = .ok (.bl true) S := by
  rw [bi_all_m xs fun _ => true]; simp
/-! ranges -/
theorem rngOk_int {i : Int} (h : -1000000 ≤ i) (h2 : i ≤ 1000000) : rngOk i = true := by
  unfold rngOk
  rw [Bool.and_eq_true, decide_eq_true_eq, decide_eq_true_eq]
  constructor
  · exact Int.le_trans (by decide) h
  · exact Int.lt_of_le_of_lt h2 (by decide)
theorem rng0 (m : Nat) : rngD 0 m = (List.range m).map fun (k : Nat) => D.int (k : Int) := by
  unfold rngD
  refine List.map_congr_left fun k _ => ?_
  rw [Int.zero_add]
theorem ev_rng1 {a : Ex} {k : Nat} {S' : Sto} (h : evE P cf a ρ S = .ok (.int k) S') (hk : k ≤ 1000000) : evI P cf (.rng1 a) ρ S = .ok ⟨(List.range k).map fun (j : Nat) => .int (j : Int), []⟩ S' := by
  rw [i_rng1, h, bind_ok, onI_int, if_pos (rngOk_int (by omega) (by omega)), Int.toNat_natCast, rng0]
theorem ev_rng2 {a b : Ex} {i j : Int} {S' S2 : Sto} (h : evE P cf a ρ S = .ok (.int i) S') (h2 : evE P cf b ρ S' = .ok (.int j) S2) (hi : -1000000 ≤ i ∧ i ≤ 1000000) (hj : -1000000 ≤ j ∧ j ≤ 1000000) :
    evI P cf (.rng2 a b) ρ S = .ok ⟨(List.range (j - i).toNat).map fun (k : Nat) => .int (i + k), []⟩ S2 := by
  rw [i_rng2, h, bind_ok, h2, bind_ok, onI_int, onI_int, if_pos (by rw [rngOk_int hi.1 hi.2, rngOk_int hj.1 hj.2] <;> rfl)]
  rfl
end
end QF
end

section
namespace QF
namespace K99
/-- fits_name(value): 0 value 1 sign -/
def c_fits_name_1 : Ex := .comp false [1] (.name 1) (.of (.var 0)) .no (.cmp .isIn (.var 1) (.glob 1))
def b_fits_name : List St := [.ifs (.boolop false (.cons (.not (.isi (.var 0) .str)) (.cons (.not (.chain .le .le (.int 1) (.bi .len false (.cons (.var 0) .nil)) (.glob 2))) .nil))) [.ret (.bl false)] [],
  .ret (.boolop true (.cons (.cmp .isIn (.idx (.var 0) (.int 0)) (.glob 0)) (.cons (.bi .all false (.cons c_fits_name_1 .nil)) .nil)))]
/-- is_whole(value): 0 value -/
def b_is_whole : List St := [.ret (.boolop true (.cons (.isi (.var 0) .int) (.cons (.not (.isi (.var 0) .bool)) .nil)))]
/-- fits_whole(value, low, high): 0 value 1 low 2 high -/
def b_fits_whole : List St := [.ret (.boolop true (.cons (.call 1 (.cons (.var 0) .nil)) (.cons (.chain .le .le (.var 1) (.var 0) (.var 2)) .nil)))]
/-- is_tuple_of(value, least, most): 0 value 1 least 2 most -/
def b_is_tuple_of : List St := [.ret (.boolop true (.cons (.isi (.var 0) .tuple) (.cons (.chain .le .le (.var 1) (.bi .len false (.cons (.var 0) .nil)) (.var 2)) .nil)))]
/-- is_rising(values): 0 values 1 one 2 other -/
def c_is_rising_1 : Ex := .comp false [1, 2] (.tup [(.name 1), (.name 2)]) (.zip (.var 0) (.slice false (.var 0) (.yes (.int 1)) .no)) .no (.cmp .lt (.var 1) (.var 2))
def b_is_rising : List St := [.ret (.bi .all false (.cons c_is_rising_1 .nil))]
/-- fits_witnesses(value): 0 value 1 one -/
def c_fits_witnesses_1 : Ex := .comp false [1] (.name 1) (.of (.var 0)) .no (.call 0 (.cons (.var 1) .nil))
def b_fits_witnesses : List St := [.ret (.boolop true (.cons (.call 3 (.cons (.var 0) (.cons (.int 1) (.cons (.glob 3) .nil)))) (.cons (.bi .all false (.cons c_fits_witnesses_1 .nil)) (.cons (.call 4 (.cons (.var 0) .nil)) .nil))))]
/-- fits_base(value): 0 value 1 one -/
def c_fits_base_1 : Ex := .comp false [1] (.name 1) (.of (.var 0)) .no (.call 0 (.cons (.var 1) .nil))
def b_fits_base : List St := [.ret (.boolop true (.cons (.call 3 (.cons (.var 0) (.cons (.int 1) (.cons (.glob 4) .nil)))) (.cons (.bi .all false (.cons c_fits_base_1 .nil)) .nil)))]
/-- need_base(value): 0 value -/
def b_need_base : List St := [.ifs (.not (.call 6 (.cons (.var 0) .nil))) [.never] []]
/-- fits_reading(value): 0 value -/
def b_fits_reading : List St := [.ret (.boolop true (.cons (.isi (.var 0) .str) (.cons (.boolop false (.cons (.cmp .eq (.var 0) (.str [])) (.cons (.call 0 (.cons (.var 0) .nil)) .nil))) .nil)))]
/-- fits_texts(base, value): 0 base 1 value 2 one 3 word -/
def c_fits_texts_1 : Ex := .comp false [2] (.name 2) (.of (.var 1)) .no (.call 3 (.cons (.var 2) (.cons (.int 2) (.cons (.int 2) .nil))))
def c_fits_texts_2 : Ex := .comp false [2] (.name 2) (.of (.var 1)) .no (.boolop true (.cons (.call 0 (.cons (.idx (.var 2) (.int 0)) .nil)) (.cons (.call 3 (.cons (.idx (.var 2) (.int 1)) (.cons (.bi .len false (.cons (.var 0) .nil)) (.cons (.bi .len false (.cons (.var 0) .nil)) .nil)))) .nil)))
def c_fits_texts_3 : Ex := .comp false [2] (.name 2) (.of (.var 1)) .no (.idx (.var 2) (.int 0))
def c_fits_texts_4 : Ex := .comp2 false [2, 3] (.name 2) (.of (.var 1)) (.name 3) (.of (.idx (.var 2) (.int 1))) .no (.call 8 (.cons (.var 3) .nil))
def b_fits_texts : List St := [.ifs (.boolop false (.cons (.not (.call 3 (.cons (.var 1) (.cons (.int 1) (.cons (.glob 5) .nil))))) (.cons (.not (.bi .all false (.cons c_fits_texts_1 .nil))) .nil))) [.ret (.bl false)] [],
  .ifs (.not (.bi .all false (.cons c_fits_texts_2 .nil))) [.ret (.bl false)] [],
  .ret (.boolop true (.cons (.call 4 (.cons c_fits_texts_3 .nil)) (.cons (.bi .all false (.cons c_fits_texts_4 .nil)) .nil)))]
/-- need_texts(base, value): 0 base 1 value -/
def b_need_texts : List St := [.ifs (.not (.call 9 (.cons (.var 0) (.cons (.var 1) .nil)))) [.never] []]
/-- need_few(value): 0 value -/
def b_need_few : List St := [.ifs (.boolop false (.cons (.not (.call 5 (.cons (.var 0) .nil))) (.cons (.cmp .gt (.bi .len false (.cons (.var 0) .nil)) (.glob 5)) .nil))) [.never] []]
/-- fits_part(witnesses, value): 0 witnesses 1 value 2 one -/
def c_fits_part_1 : Ex := .comp false [2] (.name 2) (.of (.var 1)) (.yes (.isi (.var 2) .str)) (.var 2)
def c_fits_part_2 : Ex := .comp false [2] (.name 2) (.of (.var 1)) .no (.boolop true (.cons (.isi (.var 2) .str) (.cons (.cmp .isIn (.var 2) (.var 0)) .nil)))
def b_fits_part : List St := [.ifs (.boolop false (.cons (.not (.call 3 (.cons (.var 1) (.cons (.int 1) (.cons (.bi .len false (.cons (.var 0) .nil)) .nil))))) (.cons (.not (.call 4 (.cons c_fits_part_1 .nil))) .nil))) [.ret (.bl false)] [],
  .ret (.bi .all false (.cons c_fits_part_2 .nil))]
/-- fits_groups(witnesses, value): 0 witnesses 1 value 2 one 3 sign 4 some -/
def c_fits_groups_1 : Ex := .comp false [2] (.name 2) (.of (.var 1)) .no (.boolop true (.cons (.call 3 (.cons (.var 2) (.cons (.int 2) (.cons (.int 2) .nil)))) (.cons (.call 0 (.cons (.idx (.var 2) (.int 0)) .nil)) .nil)))
def c_fits_groups_2 : Ex := .comp false [2] (.name 2) (.of (.var 1)) .no (.idx (.var 2) (.int 0))
def c_fits_groups_3 : Ex := .comp false [2] (.name 2) (.of (.var 1)) .no (.cmp .isIn (.idx (.var 2) (.int 0)) (.var 0))
def c_fits_groups_4 : Ex := .comp false [3, 4] (.tup [(.name 3), (.name 4)]) (.of (.var 1)) .no (.call 12 (.cons (.var 0) (.cons (.var 4) .nil)))
def b_fits_groups : List St := [.ifs (.boolop false (.cons (.not (.call 3 (.cons (.var 1) (.cons (.int 0) (.cons (.glob 6) .nil))))) (.cons (.not (.bi .all false (.cons c_fits_groups_1 .nil))) .nil))) [.ret (.bl false)] [],
  .ifs (.boolop false (.cons (.not (.call 4 (.cons c_fits_groups_2 .nil))) (.cons (.bi .any false (.cons c_fits_groups_3 .nil)) .nil))) [.ret (.bl false)] [],
  .ret (.bi .all false (.cons c_fits_groups_4 .nil))]
/-- need_groups(witnesses, value): 0 witnesses 1 value -/
def b_need_groups : List St := [.ifs (.not (.call 13 (.cons (.var 0) (.cons (.var 1) .nil)))) [.never] []]
/-- names_of(texts): 0 texts 1 name 2 words -/
def c_names_of_1 : Ex := .comp false [1, 2] (.tup [(.name 1), (.name 2)]) (.of (.var 0)) .no (.var 1)
def b_names_of : List St := [.ret (.bi .tuple false (.cons c_names_of_1 .nil))]
/-- rows_at(texts, place): 0 texts 1 place 2 found 3 name 4 words -/
def w_rows_at_1 : List St := [.sub (.var 2) (.idx (.var 4) (.var 1)) (.bin .add (.meth .get2 (.var 2) (.cons (.idx (.var 4) (.var 1)) (.cons (.lst false .nil) .nil))) (.lst false (.cons (.var 3) .nil)))]
def b_rows_at : List St := [.asg (.name 2) (.dict0 false),
  .for_ (.tup [(.name 3), (.name 4)]) (.of (.var 0)) w_rows_at_1,
  .ret (.freeze (.var 2))]
/-- meant(groups, signs): 0 groups 1 signs 2 table 3 sign 4 name -/
def c_meant_1 : Ex := .comp2 false [3, 4] (.name 3) (.of (.var 1)) (.name 4) (.of (.meth .get2 (.var 2) (.cons (.var 3) (.cons (.tup (.cons (.var 3) .nil)) .nil)))) .no (.var 4)
def b_meant : List St := [.asg (.name 2) (.bi .dictT false (.cons (.var 0) .nil)),
  .ret (.bi .sortedSet false (.cons c_meant_1 .nil))]
/-- fits_note(base, witnesses, groups, value): 0 base 1 witnesses 2 groups 3 value 4 sign 5 some 6 signs 7 one -/
def c_fits_note_1 : Ex := .comp false [4, 5] (.tup [(.name 4), (.name 5)]) (.of (.var 2)) .no (.var 4)
def c_fits_note_2 : Ex := .comp false [7] (.name 7) (.of (.idx (.var 3) (.int 2))) .no (.isi (.var 7) .str)
def c_fits_note_3 : Ex := .comp false [7] (.name 7) (.of (.idx (.var 3) (.int 2))) .no (.boolop false (.cons (.cmp .isIn (.var 7) (.var 1)) (.cons (.cmp .isIn (.var 7) (.var 6)) .nil)))
def b_fits_note : List St := [.ifs (.boolop false (.cons (.not (.call 3 (.cons (.var 3) (.cons (.int 3) (.cons (.int 3) .nil))))) (.cons (.not (.call 2 (.cons (.idx (.var 3) (.int 0)) (.cons (.int 0) (.cons (.bin .sub (.bi .len false (.cons (.var 0) .nil)) (.int 1)) .nil))))) (.cons (.not (.call 8 (.cons (.idx (.var 3) (.int 1)) .nil))) .nil)))) [.ret (.bl false)] [],
  .asg (.name 6) c_fits_note_1,
  .ifs (.boolop false (.cons (.not (.isi (.idx (.var 3) (.int 2)) .tuple)) (.cons (.not (.bi .all false (.cons c_fits_note_2 .nil))) .nil))) [.ret (.bl false)] [],
  .ret (.boolop true (.cons (.bi .all false (.cons c_fits_note_3 .nil)) (.cons (.call 4 (.cons (.idx (.var 3) (.int 2)) .nil)) .nil)))]
/-- fits_notes(base, witnesses, groups, value): 0 base 1 witnesses 2 groups 3 value 4 one 5 place 6 rows 7 signs 8 name 9 names -/
def c_fits_notes_1 : Ex := .comp false [4] (.name 4) (.of (.var 3)) .no (.call 18 (.cons (.var 0) (.cons (.var 1) (.cons (.var 2) (.cons (.var 4) .nil)))))
def c_fits_notes_2 : Ex := .comp false [4] (.name 4) (.of (.var 3)) .no (.slice false (.var 4) .no (.yes (.int 2)))
def c_fits_notes_3 : Ex := .comp false [4] (.name 4) (.of (.var 3)) (.yes (.cmp .eq (.idx (.var 4) (.int 0)) (.var 5))) (.idx (.var 4) (.int 2))
def c_fits_notes_4 : Ex := .comp2 false [7, 8] (.name 7) (.of (.var 6)) (.name 8) (.of (.call 17 (.cons (.var 2) (.cons (.var 7) .nil)))) .no (.var 8)
def c_fits_notes_5 : Ex := .comp false [7] (.name 7) (.of (.var 6)) (.yes (.cmp .eq (.var 7) (.tup .nil))) (.int 1)
def w_fits_notes_1 : List St := [.asg (.name 6) c_fits_notes_3, .asg (.name 9) c_fits_notes_4, .ifs (.boolop false (.cons (.cmp .ne (.bi .lenSet false (.cons (.var 9) .nil)) (.bi .len false (.cons (.var 9) .nil))) (.cons (.cmp .gt (.bi .len false (.cons c_fits_notes_5 .nil)) (.int 1)) .nil))) [.ret (.bl false)] []]
def b_fits_notes : List St := [.ifs (.boolop false (.cons (.not (.isi (.var 3) .tuple)) (.cons (.not (.bi .all false (.cons c_fits_notes_1 .nil))) .nil))) [.ret (.bl false)] [],
  .ifs (.not (.call 4 (.cons c_fits_notes_2 .nil))) [.ret (.bl false)] [],
  .for_ (.name 5) (.rng1 (.bi .len false (.cons (.var 0) .nil))) w_fits_notes_1,
  .ret (.bl true)]
/-- text_by(base, groups, notes, witness): 0 base 1 groups 2 notes 3 witness 4 found 5 place 6 word 7 one 8 rows 9 own 10 rest -/
def c_text_by_1 : Ex := .comp false [7] (.name 7) (.of (.var 2)) (.yes (.cmp .eq (.idx (.var 7) (.int 0)) (.var 5))) (.var 7)
def c_text_by_2 : Ex := .comp false [7] (.name 7) (.of (.var 8)) (.yes (.cmp .isIn (.var 3) (.call 17 (.cons (.var 1) (.cons (.idx (.var 7) (.int 2)) .nil))))) (.idx (.var 7) (.int 1))
def c_text_by_3 : Ex := .comp false [7] (.name 7) (.of (.var 8)) (.yes (.cmp .eq (.idx (.var 7) (.int 2)) (.tup .nil))) (.idx (.var 7) (.int 1))
def w_text_by_1 : List St := [.asg (.name 8) c_text_by_1, .asg (.name 9) c_text_by_2, .asg (.name 10) c_text_by_3, .expr (.meth .append (.var 4) (.cons (.idx (.bin .add (.bin .add (.var 9) (.var 10)) (.lst false (.cons (.var 6) .nil))) (.int 0)) .nil))]
def b_text_by : List St := [.asg (.name 4) (.lst true .nil),
  .for_ (.tup [(.name 5), (.name 6)]) (.enum (.var 0)) w_text_by_1,
  .ret (.bi .tuple false (.cons (.var 4) .nil))]
/-- size_of(notes): 0 notes 1 place 2 reading 3 signs -/
def c_size_of_1 : Ex := .comp false [1, 2, 3] (.tup [(.name 1), (.name 2), (.name 3)]) (.of (.var 0)) .no (.bi .max2 false (.cons (.int 1) (.cons (.bi .len false (.cons (.var 3) .nil)) .nil)))
def b_size_of : List St := [.ret (.bi .sum false (.cons c_size_of_1 .nil))]
/-- plain_notes(base, texts): 0 base 1 texts 2 found 3 place 4 word 5 rows 6 reading -/
def c_plain_notes_1 : Ex := .comp false [6] (.name 6) (.of (.bi .sorted false (.cons (.var 5) .nil))) (.yes (.cmp .ne (.var 6) (.var 4))) (.tup (.cons (.var 3) (.cons (.var 6) (.cons (.bi .tuple false (.cons (.idx (.var 5) (.var 6)) .nil)) .nil))))
def w_plain_notes_1 : List St := [.asg (.name 5) (.call 16 (.cons (.var 1) (.cons (.var 3) .nil))), .aug 2 .add c_plain_notes_1]
def b_plain_notes : List St := [.expr (.call 7 (.cons (.var 0) .nil)),
  .expr (.call 10 (.cons (.var 0) (.cons (.var 1) .nil))),
  .asg (.name 2) (.lst true .nil),
  .for_ (.tup [(.name 3), (.name 4)]) (.enum (.var 0)) w_plain_notes_1,
  .ret (.bi .tuple false (.cons (.var 2) .nil))]
/-- full_notes(base, texts): 0 base 1 texts 2 found 3 place 4 word 5 rows 6 reading -/
def c_full_notes_1 : Ex := .comp false [6] (.name 6) (.of (.bi .sorted false (.cons (.var 5) .nil))) .no (.tup (.cons (.var 3) (.cons (.var 6) (.cons (.bi .tuple false (.cons (.idx (.var 5) (.var 6)) .nil)) .nil))))
def w_full_notes_1 : List St := [.asg (.name 5) (.call 16 (.cons (.var 1) (.cons (.var 3) .nil))), .ifs (.cmp .ne (.bi .list false (.cons (.var 5) .nil)) (.lst false (.cons (.var 4) .nil))) [.aug 2 .add c_full_notes_1] []]
def b_full_notes : List St := [.expr (.call 7 (.cons (.var 0) .nil)),
  .expr (.call 10 (.cons (.var 0) (.cons (.var 1) .nil))),
  .asg (.name 2) (.lst true .nil),
  .for_ (.tup [(.name 3), (.name 4)]) (.enum (.var 0)) w_full_notes_1,
  .ret (.bi .tuple false (.cons (.var 2) .nil))]
/-- are_notes(base, witnesses, groups, value): 0 base 1 witnesses 2 groups 3 value -/
def b_are_notes : List St := [.expr (.call 7 (.cons (.var 0) .nil)),
  .expr (.call 11 (.cons (.var 1) .nil)),
  .expr (.call 14 (.cons (.var 1) (.cons (.var 2) .nil))),
  .ret (.call 19 (.cons (.var 0) (.cons (.var 1) (.cons (.var 2) (.cons (.var 3) .nil)))))]
/-- texts_by(base, witnesses, groups, notes): 0 base 1 witnesses 2 groups 3 notes 4 name -/
def c_texts_by_1 : Ex := .comp false [4] (.name 4) (.of (.var 1)) .no (.tup (.cons (.var 4) (.cons (.call 20 (.cons (.var 0) (.cons (.var 2) (.cons (.var 3) (.cons (.var 4) .nil))))) .nil)))
def b_texts_by : List St := [.expr (.call 7 (.cons (.var 0) .nil)),
  .expr (.call 11 (.cons (.var 1) .nil)),
  .expr (.call 14 (.cons (.var 1) (.cons (.var 2) .nil))),
  .ifs (.not (.call 19 (.cons (.var 0) (.cons (.var 1) (.cons (.var 2) (.cons (.var 3) .nil)))))) [.never] [],
  .ret (.bi .tuple false (.cons c_texts_by_1 .nil))]
/-- notes_size(base, witnesses, groups, notes): 0 base 1 witnesses 2 groups 3 notes -/
def b_notes_size : List St := [.expr (.call 7 (.cons (.var 0) .nil)),
  .expr (.call 11 (.cons (.var 1) .nil)),
  .expr (.call 14 (.cons (.var 1) (.cons (.var 2) .nil))),
  .ifs (.not (.call 19 (.cons (.var 0) (.cons (.var 1) (.cons (.var 2) (.cons (.var 3) .nil)))))) [.never] [],
  .ret (.call 21 (.cons (.var 3) .nil))]
/-- tell_texts(base, texts, groups, value): 0 base 1 texts 2 groups 3 value 4 name 5 words -/
def c_tell_texts_1 : Ex := .comp false [4, 5] (.tup [(.name 4), (.name 5)]) (.of (.var 1)) .no (.cmp .eq (.call 20 (.cons (.var 0) (.cons (.var 2) (.cons (.var 3) (.cons (.var 4) .nil))))) (.var 5))
def b_tell_texts : List St := [.expr (.call 7 (.cons (.var 0) .nil)),
  .expr (.call 10 (.cons (.var 0) (.cons (.var 1) .nil))),
  .expr (.call 14 (.cons (.call 15 (.cons (.var 1) .nil)) (.cons (.var 2) .nil))),
  .ifs (.not (.call 19 (.cons (.var 0) (.cons (.call 15 (.cons (.var 1) .nil)) (.cons (.var 2) (.cons (.var 3) .nil)))))) [.ret (.bl false)] [],
  .ret (.bi .all false (.cons c_tell_texts_1 .nil))]
/-- unlike_places(base, texts, one, other): 0 base 1 texts 2 one 3 other 4 name 5 table 6 place -/
def w_unlike_places_1 : List St := [.ifs (.boolop false (.cons (.not (.isi (.var 4) .str)) (.cons (.cmp .notIn (.var 4) (.call 15 (.cons (.var 1) .nil))) .nil))) [.never] []]
def c_unlike_places_1 : Ex := .comp false [6] (.name 6) (.rng1 (.bi .len false (.cons (.var 0) .nil))) (.yes (.cmp .ne (.idx (.idx (.var 5) (.var 2)) (.var 6)) (.idx (.idx (.var 5) (.var 3)) (.var 6)))) (.var 6)
def b_unlike_places : List St := [.expr (.call 7 (.cons (.var 0) .nil)),
  .expr (.call 10 (.cons (.var 0) (.cons (.var 1) .nil))),
  .for_ (.name 4) (.of (.tup (.cons (.var 2) (.cons (.var 3) .nil)))) w_unlike_places_1,
  .asg (.name 5) (.bi .dictT false (.cons (.var 1) .nil)),
  .ret (.bi .tuple false (.cons c_unlike_places_1 .nil))]
/-- fits_page(value): 0 value 1 one 2 trait 3 form -/
def c_fits_page_1 : Ex := .comp false [1] (.name 1) (.of (.var 0)) .no (.call 3 (.cons (.var 1) (.cons (.int 2) (.cons (.int 2) .nil))))
def c_fits_page_2 : Ex := .comp false [2, 3] (.tup [(.name 2), (.name 3)]) (.of (.var 0)) .no (.boolop true (.cons (.call 0 (.cons (.var 2) .nil)) (.cons (.call 0 (.cons (.var 3) .nil)) .nil)))
def c_fits_page_3 : Ex := .comp false [2, 3] (.tup [(.name 2), (.name 3)]) (.of (.var 0)) .no (.var 2)
def b_fits_page : List St := [.ifs (.boolop false (.cons (.not (.call 3 (.cons (.var 0) (.cons (.int 0) (.cons (.glob 8) .nil))))) (.cons (.not (.bi .all false (.cons c_fits_page_1 .nil))) .nil))) [.ret (.bl false)] [],
  .ifs (.not (.bi .all false (.cons c_fits_page_2 .nil))) [.ret (.bl false)] [],
  .ret (.call 4 (.cons c_fits_page_3 .nil))]
/-- fits_pages(value): 0 value 1 one -/
def c_fits_pages_1 : Ex := .comp false [1] (.name 1) (.of (.var 0)) .no (.call 29 (.cons (.var 1) .nil))
def b_fits_pages : List St := [.ret (.boolop true (.cons (.call 3 (.cons (.var 0) (.cons (.int 1) (.cons (.glob 7) .nil)))) (.cons (.bi .all false (.cons c_fits_pages_1 .nil)) .nil)))]
/-- need_pages(value): 0 value -/
def b_need_pages : List St := [.ifs (.not (.call 30 (.cons (.var 0) .nil))) [.never] []]
/-- do_quarrel(one, other): 0 one 1 other 2 table 3 trait 4 form -/
def c_do_quarrel_1 : Ex := .comp false [3, 4] (.tup [(.name 3), (.name 4)]) (.of (.var 1)) .no (.cmp .ne (.meth .get2 (.var 2) (.cons (.var 3) (.cons (.var 4) .nil))) (.var 4))
def b_do_quarrel : List St := [.asg (.name 2) (.bi .dictT false (.cons (.var 0) .nil)),
  .ret (.bi .any false (.cons c_do_quarrel_1 .nil))]
/-- one_hand(pages, start, stop): 0 pages 1 start 2 stop 3 table 4 page 5 trait 6 form -/
def c_one_hand_1 : Ex := .comp false [5, 6] (.tup [(.name 5), (.name 6)]) (.of (.var 4)) .no (.cmp .ne (.meth .get2 (.var 3) (.cons (.var 5) (.cons (.var 6) .nil))) (.var 6))
def w_one_hand_1 : List St := [.ifs (.bi .any false (.cons c_one_hand_1 .nil)) [.ret (.bl false)] [], .expr (.meth .update (.var 3) (.cons (.bi .dictT false (.cons (.var 4) .nil)) .nil))]
def b_one_hand : List St := [.asg (.name 3) (.dict0 false),
  .for_ (.name 4) (.of (.slice false (.var 0) (.yes (.var 1)) (.yes (.var 2)))) w_one_hand_1,
  .ret (.bl true)]
/-- late_starts(pages): 0 pages 1 found 2 at -/
def w_late_starts_1 : List St := [.ifs (.not (.call 33 (.cons (.var 0) (.cons (.idx (.var 1) (.neg (.int 1))) (.cons (.bin .add (.var 2) (.int 1)) .nil))))) [.expr (.meth .append (.var 1) (.cons (.var 2) .nil))] []]
def b_late_starts : List St := [.asg (.name 1) (.lst true (.cons (.int 0) .nil)),
  .for_ (.name 2) (.rng2 (.int 1) (.bi .len false (.cons (.var 0) .nil))) w_late_starts_1,
  .ret (.freeze (.var 1))]
/-- fits_starts(many, value): 0 many 1 value 2 one -/
def c_fits_starts_1 : Ex := .comp false [2] (.name 2) (.of (.var 1)) .no (.call 2 (.cons (.var 2) (.cons (.int 0) (.cons (.bin .sub (.var 0) (.int 1)) .nil))))
def b_fits_starts : List St := [.ifs (.boolop false (.cons (.not (.call 3 (.cons (.var 1) (.cons (.int 1) (.cons (.var 0) .nil))))) (.cons (.not (.bi .all false (.cons c_fits_starts_1 .nil))) .nil))) [.ret (.bl false)] [],
  .ret (.boolop true (.cons (.call 4 (.cons (.var 1) .nil)) (.cons (.cmp .eq (.idx (.var 1) (.int 0)) (.int 0)) .nil)))]
/-- spans_of(starts, many): 0 starts 1 many -/
def b_spans_of : List St := [.ret (.listIt false (.zip (.var 0) (.bin .add (.slice false (.var 0) (.yes (.int 1)) .no) (.tup (.cons (.var 1) .nil)))))]
/-- quarrels_in(pages): 0 pages 1 starts 2 found 3 ahead 4 start 5 at 6 rows -/
def c_quarrels_in_1 : Ex := .comp false [5] (.name 5) (.rng2 (.var 3) (.var 4)) (.yes (.call 32 (.cons (.idx (.var 0) (.var 5)) (.cons (.idx (.var 0) (.var 4)) .nil)))) (.var 5)
def w_quarrels_in_1 : List St := [.asg (.name 6) c_quarrels_in_1, .expr (.meth .append (.var 2) (.cons (.tup (.cons (.idx (.var 6) (.neg (.int 1))) (.cons (.var 4) .nil))) .nil))]
def b_quarrels_in : List St := [.par [1, 2] (.cons (.call 34 (.cons (.var 0) .nil)) (.cons (.lst true .nil) .nil)),
  .for_ (.tup [(.name 3), (.name 4)]) (.zip (.var 1) (.slice false (.var 1) (.yes (.int 1)) .no)) w_quarrels_in_1,
  .ret (.freeze (.var 2))]
/-- fewest_hands(pages): 0 pages -/
def b_fewest_hands : List St := [.expr (.call 31 (.cons (.var 0) .nil)),
  .ret (.bi .len false (.cons (.call 34 (.cons (.var 0) .nil)) .nil))]
/-- is_hands(pages, value): 0 pages 1 value 2 start 3 stop -/
def c_is_hands_1 : Ex := .comp false [2, 3] (.tup [(.name 2), (.name 3)]) (.of (.call 36 (.cons (.var 1) (.cons (.bi .len false (.cons (.var 0) .nil)) .nil)))) .no (.call 33 (.cons (.var 0) (.cons (.var 2) (.cons (.var 3) .nil))))
def b_is_hands : List St := [.expr (.call 31 (.cons (.var 0) .nil)),
  .ifs (.not (.call 35 (.cons (.bi .len false (.cons (.var 0) .nil)) (.cons (.var 1) .nil)))) [.ret (.bl false)] [],
  .ret (.bi .all false (.cons c_is_hands_1 .nil))]
/-- hand_paper(pages): 0 pages -/
def b_hand_paper : List St := [.expr (.call 31 (.cons (.var 0) .nil)),
  .ret (.bi .tuple false (.cons (.call 37 (.cons (.var 0) .nil)) .nil))]
/-- is_hand_paper(pages, value): 0 pages 1 value 2 many 3 one 4 at 5 other 6 ahead 7 behind -/
def c_is_hand_paper_1 : Ex := .comp false [3] (.name 3) (.of (.var 1)) .no (.call 3 (.cons (.var 3) (.cons (.int 2) (.cons (.int 2) .nil))))
def c_is_hand_paper_2 : Ex := .comp2 false [3, 4] (.name 3) (.of (.var 1)) (.name 4) (.of (.var 3)) .no (.call 2 (.cons (.var 4) (.cons (.int 0) (.cons (.bin .sub (.bi .len false (.cons (.var 0) .nil)) (.int 1)) .nil))))
def c_is_hand_paper_3 : Ex := .comp false [3, 5] (.tup [(.name 3), (.name 5)]) (.of (.var 1)) .no (.boolop true (.cons (.cmp .lt (.var 3) (.var 5)) (.cons (.call 32 (.cons (.idx (.var 0) (.var 3)) (.cons (.idx (.var 0) (.var 5)) .nil))) .nil)))
def c_is_hand_paper_4 : Ex := .comp false [6, 7] (.tup [(.name 6), (.name 7)]) (.zip (.var 1) (.slice false (.var 1) (.yes (.int 1)) .no)) .no (.cmp .le (.idx (.var 6) (.int 1)) (.idx (.var 7) (.int 0)))
def b_is_hand_paper : List St := [.expr (.call 31 (.cons (.var 0) .nil)),
  .asg (.name 2) (.bin .sub (.bi .len false (.cons (.call 34 (.cons (.var 0) .nil)) .nil)) (.int 1)),
  .ifs (.boolop false (.cons (.not (.call 3 (.cons (.var 1) (.cons (.var 2) (.cons (.var 2) .nil))))) (.cons (.not (.bi .all false (.cons c_is_hand_paper_1 .nil))) .nil))) [.ret (.bl false)] [],
  .ifs (.not (.bi .all false (.cons c_is_hand_paper_2 .nil))) [.ret (.bl false)] [],
  .ifs (.not (.bi .all false (.cons c_is_hand_paper_3 .nil))) [.ret (.bl false)] [],
  .ret (.bi .all false (.cons c_is_hand_paper_4 .nil))]
/-- _law_cup(script): 0 script 1 cell -/
def b_law_cup : List St := [.asg (.name 1) (.bi .abs false (.cons (.idx (.bin .add (.bi .list false (.cons (.var 0) .nil)) (.lst false (.cons (.int 0) .nil))) (.int 0)) .nil)),
  .ret (.lst true (.cons (.ife (.cmp .ge (.var 1) (.bin .pow (.int 10) (.int 18))) (.bin .fdiv (.var 1) (.int 263)) (.int 0)) (.cons (.bin .add (.bin .mod (.bi .int false (.cons (.bin .add (.bin .mul (.var 1) (.int 499)) (.int 4243)) .nil)) (.int 2077502839)) (.int 389)) .nil)))]
/-- _law_roll(cup, many): 0 cup 1 many 2 found 3 deep -/
def b_law_roll : List St := [.ifs (.cmp .gt (.idx (.var 0) (.int 0)) (.int 0)) [.asg (.name 2) (.bin .mod (.bi .int false (.cons (.idx (.var 0) (.int 0)) .nil)) (.var 1)), .sub (.var 0) (.int 0) (.bin .fdiv (.idx (.var 0) (.int 0)) (.var 1)), .ret (.var 2)] [],
  .sub (.var 0) (.int 1) (.bin .mod (.bi .int false (.cons (.bin .add (.bin .mul (.idx (.var 0) (.int 1)) (.int 31277)) (.int 8269)) .nil)) (.int 2147482937)),
  .asg (.name 3) (.bin .mod (.bi .int false (.cons (.bin .mul (.idx (.var 0) (.int 1)) (.bin .add (.idx (.var 0) (.int 1)) (.int 467))) .nil)) (.int 2147483059)),
  .ret (.bin .mod (.bi .int false (.cons (.bin .fdiv (.var 3) (.int 1019)) .nil)) (.var 1))]
/-- _law_some(cup, things): 0 cup 1 things -/
def b_law_some : List St := [.ret (.idx (.var 1) (.call 43 (.cons (.var 0) (.cons (.bi .len false (.cons (.var 1) .nil)) .nil))))]
/-- _law_same(told, due): 0 told 1 due 2 at -/
def c_law_same_1 : Ex := .comp false [2] (.name 2) (.rng1 (.bi .len false (.cons (.var 1) .nil))) .no (.call 45 (.cons (.idx (.var 0) (.var 2)) (.cons (.idx (.var 1) (.var 2)) .nil)))
def b_law_same : List St := [.ifs (.isi (.var 1) .tuple) [.ifs (.boolop false (.cons (.not (.isi (.var 0) .tuple)) (.cons (.cmp .ne (.bi .len false (.cons (.var 0) .nil)) (.bi .len false (.cons (.var 1) .nil))) .nil))) [.ret (.bl false)] [], .ret (.bi .all false (.cons c_law_same_1 .nil))] [],
  .ifs (.cmp .isNon (.var 1) .non) [.ret (.cmp .isNon (.var 0) .non)] [],
  .ifs (.isi (.var 1) .bool) [.ret (.ife (.var 1) (.cmp .isTrue (.var 0) (.bl true)) (.cmp .isTrue (.var 0) (.bl false)))] [],
  .ifs (.isi (.var 1) .int) [.ret (.boolop true (.cons (.isi (.var 0) .int) (.cons (.not (.isi (.var 0) .bool)) (.cons (.cmp .eq (.bi .int false (.cons (.var 0) .nil)) (.var 1)) .nil))))] [],
  .ret (.boolop true (.cons (.isi (.var 0) .str) (.cons (.cmp .eq (.bi .str false (.cons (.var 0) .nil)) (.var 1)) .nil)))]
/-- _law_names(cup, many): 0 cup 1 many 2 pool 3 found 4 turn 5 one -/
def c_law_names_1 : Ex := .comp false [5] (.name 5) (.of (.var 2)) (.yes (.cmp .ne (.var 5) (.idx (.var 3) (.neg (.int 1))))) (.var 5)
def w_law_names_1 : List St := [.expr (.meth .append (.var 3) (.cons (.call 44 (.cons (.var 0) (.cons (.var 2) .nil))) .nil)), .asg (.name 2) c_law_names_1]
def b_law_names : List St := [.asg (.name 2) (.lst false (.cons (.str [97]) (.cons (.str [97, 98]) (.cons (.str [98]) (.cons (.str [98, 49]) (.cons (.str [99]) (.cons (.str [100]) (.cons (.str [101]) (.cons (.str [101, 97, 114]) (.cons (.str [102]) (.cons (.str [103]) (.cons (.str [104, 57]) (.cons (.str [104]) (.cons (.str [105]) (.cons (.str [106]) (.cons (.str [107]) (.cons (.str [107, 50]) .nil))))))))))))))))),
  .asg (.name 2) (.bin .add (.var 2) (.lst false (.cons (.str [108]) (.cons (.str [109]) (.cons (.str [110]) (.cons (.str [111]) (.cons (.str [112]) (.cons (.str [113]) (.cons (.str [114]) (.cons (.str [115]) (.cons (.str [116]) (.cons (.str [117]) (.cons (.str [118]) (.cons (.str [119]) (.cons (.str [120]) (.cons (.str [122]) .nil)))))))))))))))),
  .asg (.name 3) (.lst true .nil),
  .for_ (.name 4) (.rng1 (.var 1)) w_law_names_1,
  .ret (.bi .sorted false (.cons (.var 3) .nil))]
/-- law(script): 0 script 1 cup 2 turn 3 size 4 names 5 place 6 base 7 name 8 texts 9 plain 10 full 11 table 12 one 13 other 14 due 15 own 16 word 17 pages 18 starts 19 paper -/
def c_law_1 : Ex := .comp false [5] (.name 5) (.rng1 (.var 3)) .no (.call 44 (.cons (.var 1) (.cons (.lst false (.cons (.str [105, 110]) (.cons (.str [116, 104, 101]) (.cons (.str [119, 111, 114, 100]) .nil)))) .nil)))
def c_law_2 : Ex := .comp false [5] (.name 5) (.rng1 (.var 3)) .no (.call 44 (.cons (.var 1) (.cons (.lst false (.cons (.idx (.var 6) (.var 5)) (.cons (.idx (.var 6) (.var 5)) (.cons (.str [97]) (.cons (.str [115, 111]) .nil))))) .nil)))
def c_law_3 : Ex := .comp false [7] (.name 7) (.of (.var 4)) .no (.tup (.cons (.var 7) (.cons (.bi .tuple false (.cons c_law_2 .nil)) .nil)))
def c_law_4 : Ex := .comp false [5] (.name 5) (.rng1 (.var 3)) (.yes (.cmp .ne (.idx (.idx (.var 11) (.var 12)) (.var 5)) (.idx (.idx (.var 11) (.var 13)) (.var 5)))) (.var 5)
def w_law_1 : List St := [.asg (.name 14) (.bi .tuple false (.cons c_law_4 .nil)), .ifs (.not (.call 45 (.cons (.call 28 (.cons (.var 6) (.cons (.var 8) (.cons (.var 12) (.cons (.var 13) .nil))))) (.cons (.var 14) .nil)))) [.ret (.bl false)] []]
def w_law_2 : List St := [.for_ (.name 13) (.of (.var 4)) w_law_1]
def c_law_5 : Ex := .comp false [16] (.name 16) (.of (.var 15)) .no (.tup (.cons (.tup (.cons (.str [114, 101, 97, 100, 105, 110, 103]) (.cons (.var 16) .nil))) .nil))
def c_law_6 : Ex := .comp false [5] (.name 5) (.rng2 (.int 1) (.var 3)) (.yes (.cmp .ne (.idx (.var 15) (.var 5)) (.idx (.var 15) (.bin .sub (.var 5) (.int 1))))) (.var 5)
def c_law_7 : Ex := .comp false [5] (.name 5) (.of (.slice false (.var 18) (.yes (.int 1)) .no)) .no (.tup (.cons (.bin .sub (.var 5) (.int 1)) (.cons (.var 5) .nil)))
def w_law_3 : List St := [.asg (.tup [(.name 3), (.name 4)]) (.tup (.cons (.bin .add (.int 1) (.call 43 (.cons (.var 1) (.cons (.int 6) .nil)))) (.cons (.call 46 (.cons (.var 1) (.cons (.bin .add (.int 1) (.call 43 (.cons (.var 1) (.cons (.int 4) .nil)))) .nil))) .nil))), .asg (.name 6) (.bi .tuple false (.cons c_law_1 .nil)), .asg (.name 8) (.bi .tuple false (.cons c_law_3 .nil)), .asg (.name 9) (.call 22 (.cons (.var 6) (.cons (.var 8) .nil))), .ifs (.boolop false (.cons (.cmp .notTrue (.call 24 (.cons (.var 6) (.cons (.bi .tuple false (.cons (.var 4) .nil)) (.cons (.tup .nil) (.cons (.var 9) .nil))))) (.bl true)) (.cons (.not (.call 45 (.cons (.call 25 (.cons (.var 6) (.cons (.bi .tuple false (.cons (.var 4) .nil)) (.cons (.tup .nil) (.cons (.var 9) .nil))))) (.cons (.var 8) .nil)))) .nil))) [.ret (.bl false)] [], .asg (.name 10) (.call 23 (.cons (.var 6) (.cons (.var 8) .nil))), .ifs (.boolop false (.cons (.cmp .notTrue (.call 27 (.cons (.var 6) (.cons (.var 8) (.cons (.tup .nil) (.cons (.var 9) .nil))))) (.bl true)) (.cons (.cmp .notTrue (.call 27 (.cons (.var 6) (.cons (.var 8) (.cons (.tup .nil) (.cons (.var 10) .nil))))) (.bl true)) .nil))) [.ret (.bl false)] [], .ifs (.cmp .gt (.call 26 (.cons (.var 6) (.cons (.bi .tuple false (.cons (.var 4) .nil)) (.cons (.tup .nil) (.cons (.var 9) .nil))))) (.call 26 (.cons (.var 6) (.cons (.bi .tuple false (.cons (.var 4) .nil)) (.cons (.tup .nil) (.cons (.var 10) .nil)))))) [.ret (.bl false)] [], .asg (.name 11) (.bi .dict false (.cons (.bi .list false (.cons (.var 8) .nil)) .nil)), .for_ (.name 12) (.of (.var 4)) w_law_2, .asg (.name 15) (.idx (.var 11) (.call 44 (.cons (.var 1) (.cons (.var 4) .nil)))), .asg (.name 17) (.bi .tuple false (.cons c_law_5 .nil)), .asg (.name 18) (.bin .add (.lst false (.cons (.int 0) .nil)) c_law_6), .ifs (.not (.call 45 (.cons (.tup (.cons (.call 38 (.cons (.var 17) .nil)) (.cons (.call 39 (.cons (.var 17) (.cons (.bi .tuple false (.cons (.var 18) .nil)) .nil))) .nil))) (.cons (.tup (.cons (.bi .len false (.cons (.var 18) .nil)) (.cons (.bl true) .nil))) .nil)))) [.ret (.bl false)] [], .asg (.name 19) (.call 40 (.cons (.var 17) .nil)), .ifs (.boolop false (.cons (.cmp .ne (.bi .len false (.cons (.var 19) .nil)) (.bin .sub (.bi .len false (.cons (.var 18) .nil)) (.int 1))) (.cons (.cmp .notTrue (.call 41 (.cons (.var 17) (.cons (.var 19) .nil))) (.bl true)) .nil))) [.ret (.bl false)] [], .ifs (.cmp .notTrue (.call 41 (.cons (.var 17) (.cons (.bi .tuple false (.cons c_law_7 .nil)) .nil))) (.bl true)) [.ret (.bl false)] []]
def b_law : List St := [.asg (.name 1) (.call 42 (.cons (.var 0) .nil)),
  .for_ (.name 2) (.rng1 (.int 3)) w_law_3,
  .ret (.bl true)]
def prg : Prg := ⟨[⟨1, 2, 0, b_fits_name⟩, ⟨1, 1, 0, b_is_whole⟩, ⟨3, 3, 0, b_fits_whole⟩, ⟨3, 3, 0, b_is_tuple_of⟩, ⟨1, 3, 0, b_is_rising⟩, ⟨1, 2, 0, b_fits_witnesses⟩, ⟨1, 2, 0, b_fits_base⟩, ⟨1, 1, 0, b_need_base⟩, ⟨1, 1, 0, b_fits_reading⟩, ⟨2, 4, 0, b_fits_texts⟩, ⟨2, 2, 0, b_need_texts⟩, ⟨1, 1, 0, b_need_few⟩, ⟨2, 3, 0, b_fits_part⟩, ⟨2, 5, 0, b_fits_groups⟩, ⟨2, 2, 0, b_need_groups⟩, ⟨1, 3, 0, b_names_of⟩, ⟨2, 5, 0, b_rows_at⟩, ⟨2, 5, 0, b_meant⟩, ⟨4, 8, 0, b_fits_note⟩, ⟨4, 10, 0, b_fits_notes⟩, ⟨4, 11, 0, b_text_by⟩, ⟨1, 4, 0, b_size_of⟩, ⟨2, 7, 0, b_plain_notes⟩, ⟨2, 7, 0, b_full_notes⟩, ⟨4, 4, 0, b_are_notes⟩, ⟨4, 5, 0, b_texts_by⟩, ⟨4, 4, 0, b_notes_size⟩, ⟨4, 6, 0, b_tell_texts⟩, ⟨4, 7, 0, b_unlike_places⟩, ⟨1, 4, 0, b_fits_page⟩, ⟨1, 2, 0, b_fits_pages⟩, ⟨1, 1, 0, b_need_pages⟩, ⟨2, 5, 0, b_do_quarrel⟩, ⟨3, 7, 0, b_one_hand⟩, ⟨1, 3, 0, b_late_starts⟩, ⟨2, 3, 0, b_fits_starts⟩, ⟨2, 2, 0, b_spans_of⟩, ⟨1, 7, 0, b_quarrels_in⟩, ⟨1, 1, 0, b_fewest_hands⟩, ⟨2, 4, 0, b_is_hands⟩, ⟨1, 1, 0, b_hand_paper⟩, ⟨2, 8, 0, b_is_hand_paper⟩, ⟨1, 2, 2, b_law_cup⟩, ⟨2, 4, 1, b_law_roll⟩, ⟨2, 2, 1, b_law_some⟩, ⟨2, 3, 0, b_law_same⟩, ⟨2, 6, 1, b_law_names⟩, ⟨1, 20, 1, b_law⟩], [.str [97, 98, 99, 100, 101, 102, 103, 104, 105, 106, 107, 108, 109, 110, 111, 112, 113, 114, 115, 116, 117, 118, 119, 120, 121, 122], .str [97, 98, 99, 100, 101, 102, 103, 104, 105, 106, 107, 108, 109, 110, 111, 112, 113, 114, 115, 116, 117, 118, 119, 120, 121, 122, 48, 49, 50, 51, 52, 53, 54, 55, 56, 57], .int 12, .int 24, .int 40, .int 16, .int 8, .int 60, .int 6], [], 100000⟩
def slots : List (List PySem.Str) := [[("value" : PySem.Str), ("sign" : PySem.Str)],
  [("value" : PySem.Str)],
  [("value" : PySem.Str), ("low" : PySem.Str), ("high" : PySem.Str)],
  [("value" : PySem.Str), ("least" : PySem.Str), ("most" : PySem.Str)],
  [("values" : PySem.Str), ("one" : PySem.Str), ("other" : PySem.Str)],
  [("value" : PySem.Str), ("one" : PySem.Str)],
  [("value" : PySem.Str), ("one" : PySem.Str)],
  [("value" : PySem.Str)],
  [("value" : PySem.Str)],
  [("base" : PySem.Str), ("value" : PySem.Str), ("one" : PySem.Str), ("word" : PySem.Str)],
  [("base" : PySem.Str), ("value" : PySem.Str)],
  [("value" : PySem.Str)],
  [("witnesses" : PySem.Str), ("value" : PySem.Str), ("one" : PySem.Str)],
  [("witnesses" : PySem.Str), ("value" : PySem.Str), ("one" : PySem.Str), ("sign" : PySem.Str), ("some" : PySem.Str)],
  [("witnesses" : PySem.Str), ("value" : PySem.Str)],
  [("texts" : PySem.Str), ("name" : PySem.Str), ("words" : PySem.Str)],
  [("texts" : PySem.Str), ("place" : PySem.Str), ("found" : PySem.Str), ("name" : PySem.Str), ("words" : PySem.Str)],
  [("groups" : PySem.Str), ("signs" : PySem.Str), ("table" : PySem.Str), ("sign" : PySem.Str), ("name" : PySem.Str)],
  [("base" : PySem.Str), ("witnesses" : PySem.Str), ("groups" : PySem.Str), ("value" : PySem.Str), ("sign" : PySem.Str), ("some" : PySem.Str), ("signs" : PySem.Str), ("one" : PySem.Str)],
  [("base" : PySem.Str), ("witnesses" : PySem.Str), ("groups" : PySem.Str), ("value" : PySem.Str), ("one" : PySem.Str), ("place" : PySem.Str), ("rows" : PySem.Str), ("signs" : PySem.Str), ("name" : PySem.Str), ("names" : PySem.Str)],
  [("base" : PySem.Str), ("groups" : PySem.Str), ("notes" : PySem.Str), ("witness" : PySem.Str), ("found" : PySem.Str), ("place" : PySem.Str), ("word" : PySem.Str), ("one" : PySem.Str), ("rows" : PySem.Str), ("own" : PySem.Str), ("rest" : PySem.Str)],
  [("notes" : PySem.Str), ("place" : PySem.Str), ("reading" : PySem.Str), ("signs" : PySem.Str)],
  [("base" : PySem.Str), ("texts" : PySem.Str), ("found" : PySem.Str), ("place" : PySem.Str), ("word" : PySem.Str), ("rows" : PySem.Str), ("reading" : PySem.Str)],
  [("base" : PySem.Str), ("texts" : PySem.Str), ("found" : PySem.Str), ("place" : PySem.Str), ("word" : PySem.Str), ("rows" : PySem.Str), ("reading" : PySem.Str)],
  [("base" : PySem.Str), ("witnesses" : PySem.Str), ("groups" : PySem.Str), ("value" : PySem.Str)],
  [("base" : PySem.Str), ("witnesses" : PySem.Str), ("groups" : PySem.Str), ("notes" : PySem.Str), ("name" : PySem.Str)],
  [("base" : PySem.Str), ("witnesses" : PySem.Str), ("groups" : PySem.Str), ("notes" : PySem.Str)],
  [("base" : PySem.Str), ("texts" : PySem.Str), ("groups" : PySem.Str), ("value" : PySem.Str), ("name" : PySem.Str), ("words" : PySem.Str)],
  [("base" : PySem.Str), ("texts" : PySem.Str), ("one" : PySem.Str), ("other" : PySem.Str), ("name" : PySem.Str), ("table" : PySem.Str), ("place" : PySem.Str)],
  [("value" : PySem.Str), ("one" : PySem.Str), ("trait" : PySem.Str), ("form" : PySem.Str)],
  [("value" : PySem.Str), ("one" : PySem.Str)],
  [("value" : PySem.Str)],
  [("one" : PySem.Str), ("other" : PySem.Str), ("table" : PySem.Str), ("trait" : PySem.Str), ("form" : PySem.Str)],
  [("pages" : PySem.Str), ("start" : PySem.Str), ("stop" : PySem.Str), ("table" : PySem.Str), ("page" : PySem.Str), ("trait" : PySem.Str), ("form" : PySem.Str)],
  [("pages" : PySem.Str), ("found" : PySem.Str), ("at" : PySem.Str)],
  [("many" : PySem.Str), ("value" : PySem.Str), ("one" : PySem.Str)],
  [("starts" : PySem.Str), ("many" : PySem.Str)],
  [("pages" : PySem.Str), ("starts" : PySem.Str), ("found" : PySem.Str), ("ahead" : PySem.Str), ("start" : PySem.Str), ("at" : PySem.Str), ("rows" : PySem.Str)],
  [("pages" : PySem.Str)],
  [("pages" : PySem.Str), ("value" : PySem.Str), ("start" : PySem.Str), ("stop" : PySem.Str)],
  [("pages" : PySem.Str)],
  [("pages" : PySem.Str), ("value" : PySem.Str), ("many" : PySem.Str), ("one" : PySem.Str), ("at" : PySem.Str), ("other" : PySem.Str), ("ahead" : PySem.Str), ("behind" : PySem.Str)],
  [("script" : PySem.Str), ("cell" : PySem.Str)],
  [("cup" : PySem.Str), ("many" : PySem.Str), ("found" : PySem.Str), ("deep" : PySem.Str)],
  [("cup" : PySem.Str), ("things" : PySem.Str)],
  [("told" : PySem.Str), ("due" : PySem.Str), ("at" : PySem.Str)],
  [("cup" : PySem.Str), ("many" : PySem.Str), ("pool" : PySem.Str), ("found" : PySem.Str), ("turn" : PySem.Str), ("one" : PySem.Str)],
  [("script" : PySem.Str), ("cup" : PySem.Str), ("turn" : PySem.Str), ("size" : PySem.Str), ("names" : PySem.Str), ("place" : PySem.Str), ("base" : PySem.Str), ("name" : PySem.Str), ("texts" : PySem.Str), ("plain" : PySem.Str), ("full" : PySem.Str), ("table" : PySem.Str), ("one" : PySem.Str), ("other" : PySem.Str), ("due" : PySem.Str), ("own" : PySem.Str), ("word" : PySem.Str), ("pages" : PySem.Str), ("starts" : PySem.Str), ("paper" : PySem.Str)]]
def gln : List PySem.Str := ["LETTERS", "SIGNS", "LONGEST", "MANY", "WORDS", "WITNESSES", "GROUPS", "PAGES", "TRAITS"]

end K99
end QF
end

section
namespace QF
namespace K99
def LET : Cs := [97, 98, 99, 100, 101, 102, 103, 104, 105, 106, 107, 108, 109, 110, 111, 112, 113, 114, 115, 116, 117, 118, 119, 120, 121, 122]
def SIG : Cs := LET ++ [48, 49, 50, 51, 52, 53, 54, 55, 56, 57]
/-- a name -/
def nmB (s : Cs) : Bool := decide (s.length ≤ 12) && (match s with
  | [] => false
  | c :: _ => decide (c ∈ LET)) && s.all fun c => decide (c ∈ SIG)
def eS (xs : List Cs) : D := .tup (xs.map .str)
def eT (ts : List (Cs × List Cs)) : D := .tup (ts.map fun p => .tup [.str p.1, eS p.2])
def eN (ns : List (Nat × Cs × List Cs)) : D := .tup (ns.map fun p => .tup [.int p.1, .str p.2.1, eS p.2.2])
@[simp] theorem flat_str (s : Cs) : (D.str s).flat = true := rfl
@[simp] theorem flat_int (s : Int) : (D.int s).flat = true := rfl
@[simp] theorem flat_bl (s : Bool) : (D.bl s).flat = true := rfl
@[simp] theorem flat_non : D.non.flat = true := rfl
@[simp] theorem flat_tup (ds : List D) : (D.tup ds).flat = D.flats ds := by simp only [D.flat]
@[simp] theorem flat_lst (ds : List D) : (D.lst ds).flat = D.flats ds := by simp only [D.flat]
@[simp] theorem flats_nil : D.flats [] = true := rfl
@[simp] theorem flats_cons (d : D) (ds : List D) : D.flats (d :: ds) = (d.flat && D.flats ds) := by simp only [D.flats]
@[simp] theorem flat_eS (xs : List Cs) : (eS xs).flat = true := by
  unfold eS; rw [flat_tup]; exact flats_map fun _ _ => rfl
@[simp] theorem flat_eT (xs : List (Cs × List Cs)) : (eT xs).flat = true := by
  unfold eT; rw [flat_tup]; exact flats_map fun a _ => by simp
@[simp] theorem flat_eN (xs : List (Nat × Cs × List Cs)) : (eN xs).flat = true := by
  unfold eN; rw [flat_tup]; exact flats_map fun a _ => by simp
variable {S : Sto} {n : Nat}

/-! fits_name -/
theorem c_name1 {cf : Nat → List D → Sto → Res D} {s : Cs} {o : Option D} (hl : s.length ≤ SL) : evE prg cf c_fits_name_1 [some (.str s), o] S = .ok (.lst (s.map fun c => .bl (decide (c ∈ SIG)))) S := by
  have g : prg.glo[1]? = some (.str SIG) := rfl
  refine ev_compM s (fun c => .str [c]) _ ?_ hl fun c hc => ?_
  · rw [i_of, e_var (d := .str s) rfl]; rfl
  · simp [wipeE, e_var, g]
theorem ev_name (s : Cs) (h : nmB s = true) : evF prg (n + 1) 0 [.str s] S = .ok (.bl true) S := by
  simp only [nmB, Bool.and_eq_true, decide_eq_true_eq, List.all_eq_true] at h
  obtain ⟨⟨h1, h2⟩, h3⟩ := h
  have hSL := SL_big
  refine evF_pure (np := 1) (nl := 2) (body := b_fits_name) rfl rfl rfl rfl (S' := []) ?_
  cases s with
  | nil => cases h2
  | cons c r =>
    have h2 : c ∈ LET := of_decide_eq_true h2
    have g0 : prg.glo[0]? = some (.str LET) := rfl
    have g2 : prg.glo[2]? = some (.int 12) := rfl
    have l1 : ((c :: r).length ≤ SL) := by omega
    have l2 : (1 : Int) ≤ (c :: r).length := by simp only [List.length_cons]; omega
    have l3 : ((c :: r).length : Int) ≤ 12 := by omega
    have a3 : (c :: r).all (fun c => decide (c ∈ SIG)) = true := by simpa using h3
    simp only [b_fits_name, envOf, List.map_cons, List.map_nil, List.length_cons, List.length_nil, List.replicate, List.cons_append, List.nil_append]
    simp only [ss_cons, s_ifs, e_boolop, bo_two, bo_one, e_not, e_isi, bind_ok, ty_str_str, Option.map_some, opt_some, e_chain, e_int, e_bi, es_cons, es_nil, e_var (show ([some (D.str (c :: r)), none] : Env)[0]? = some (some (D.str (c :: r))) from rfl), bi_len_s l1, onB_true, boB_ff, ch_le, l2, decide_true, if_true, e_glob, g2, cm_le_ii, l3, onB_false, ss_nil, nextB_nx, zs_ret, e_cmp, e_idx, ix_s0 l1, g0, cm_in_cs, h2, boB_tt, c_name1 l1, bi_all_m, a3, nextB_rt, retOf_rt]
end K99
end QF
end

section
namespace QF
namespace K99
variable {S : Sto} {n : Nat}
theorem ev_whole (v : Int) : evF prg (n + 1) 1 [.int v] S = .ok (.bl true) S := by
  refine evF_pure (np := 1) (nl := 1) (body := b_is_whole) rfl rfl rfl rfl (S' := []) ?_
  simp [b_is_whole, envOf, e_var]
theorem ev_fwhole (v lo hi : Int) : evF prg (n + 2) 2 [.int v, .int lo, .int hi] S = .ok (.bl (decide (lo ≤ v) && decide (v ≤ hi))) S := by
  refine evF_pure (np := 3) (nl := 3) (body := b_fits_whole) rfl rfl rfl rfl (S' := []) ?_
  simp [b_fits_whole, envOf, e_var, ev_whole]
  by_cases h : lo ≤ v <;> simp [h]
theorem ev_istup (ds : List D) (lo hi : Int) (h : D.flats ds = true) : evF prg (n + 1) 3 [.tup ds, .int lo, .int hi] S = .ok (.bl (decide (lo ≤ ds.length) && decide (ds.length ≤ hi))) S := by
  refine evF_pure (np := 3) (nl := 3) (body := b_is_tuple_of) rfl rfl (by simp [h]) rfl (S' := []) ?_
  simp [b_is_tuple_of, envOf, e_var]
  by_cases h : lo ≤ (ds.length : Int) <;> simp [h]
/-- each behind the one ahead -/
def Ris (ds : List D) : Prop := ∀ p ∈ ds.zip (ds.drop 1), cmpD .lt p.1 p.2 = some true
theorem zipD_eq : ∀ (xs ys : List D), zipD xs ys = (xs.zip ys).map fun p => .pr [p.1, p.2]
  | [], _ => rfl
  | _ :: _, [] => rfl
  | x :: xs, y :: ys => by simp only [zipD, List.zip_cons_cons, List.map_cons, zipD_eq xs ys]
theorem cut1 (ds : List D) : cut ds (some 1) none = ds.drop 1 := by
  unfold cut sIx
  cases ds with
  | nil => rfl
  | cons a r => simp; try (rw [show min 1 (r.length + 1) = 1 by omega]; simp)
/-- < of things that are read as they are -/
theorem rising_t {ds : List D} (hl : ds.length ≤ SL) (h : Ris ds) (hdr : ∀ x ∈ ds, ∀ S, drf S x = some x) : retOf (evSs prg (evF prg n) b_is_rising (envOf 3 [.tup ds]) []) = .ok (.bl true) [] := by
  have hc : evE prg (evF prg n) c_is_rising_1 (envOf 3 [.tup ds]) [] = .ok (.lst ((ds.zip (ds.drop 1)).map fun p => .bl true)) [] := by
    refine ev_compM (ds.zip (ds.drop 1)) (fun p => .pr [p.1, p.2]) _ ?_ (by simp; omega) fun p hp => ?_
    · simp [envOf, e_var, sliceK, cut1, zipK, kdD, Kd.is, zipD_eq]
    · have h1 := List.of_mem_zip hp
      simp [envOf, wipeE, e_var, op2, hdr _ h1.1, hdr _ (List.mem_of_mem_drop h1.2), cmp2, h p hp]
  simp only [List.drop_one] at hc
  simp [b_is_rising, hc]
theorem rising_l {ds : List D} (hl : ds.length ≤ SL) (h : Ris ds) (hdr : ∀ x ∈ ds, ∀ S, drf S x = some x) : retOf (evSs prg (evF prg n) b_is_rising (envOf 3 [.lst ds]) []) = .ok (.bl true) [] := by
  have hc : evE prg (evF prg n) c_is_rising_1 (envOf 3 [.lst ds]) [] = .ok (.lst ((ds.zip (ds.drop 1)).map fun p => .bl true)) [] := by
    refine ev_compM (ds.zip (ds.drop 1)) (fun p => .pr [p.1, p.2]) _ ?_ (by simp; omega) fun p hp => ?_
    · simp [envOf, e_var, sliceK, cut1, zipK, kdD, Kd.is, zipD_eq]
    · have h1 := List.of_mem_zip hp
      simp [envOf, wipeE, e_var, op2, hdr _ h1.1, hdr _ (List.mem_of_mem_drop h1.2), cmp2, h p hp]
  simp only [List.drop_one] at hc
  simp [b_is_rising, hc]
theorem ev_ris_t {ds : List D} (hl : ds.length ≤ SL) (h : Ris ds) (hf : D.flats ds = true) (hdr : ∀ x ∈ ds, ∀ S, drf S x = some x) : evF prg (n + 1) 4 [.tup ds] S = .ok (.bl true) S :=
  evF_pure (np := 1) (nl := 3) (body := b_is_rising) rfl rfl (by simp [hf]) rfl (rising_t hl h hdr)
theorem ev_ris_l {ds : List D} (hl : ds.length ≤ SL) (h : Ris ds) (hf : D.flats ds = true) (hdr : ∀ x ∈ ds, ∀ S, drf S x = some x) : evF prg (n + 1) 4 [.lst ds] S = .ok (.bl true) S :=
  evF_pure (np := 1) (nl := 3) (body := b_is_rising) rfl rfl (by simp [hf]) rfl (rising_l hl h hdr)
/-- strictly ascending -/
def Up : List Cs → Prop := List.Pairwise (· < ·)
theorem zip_next {α : Type} {R : α → α → Prop} : ∀ {xs : List α}, xs.Pairwise R → ∀ p ∈ xs.zip (xs.drop 1), R p.1 p.2
  | [], _, p, h => by simp at h
  | [a], _, p, h => by simp at h
  | a :: b :: r, hp, p, h => by
    obtain ⟨h1, h2⟩ := List.pairwise_cons.mp hp
    simp only [List.drop_succ_cons, List.drop_zero, List.zip_cons_cons, List.mem_cons] at h
    rcases h with rfl | h
    · exact h1 b List.mem_cons_self
    · exact zip_next h2 p (by simpa using h)
theorem ris_enc {α : Type} {R : α → α → Prop} {enc : α → D} {xs : List α} (h : xs.Pairwise R) (he : ∀ a b, R a b → cmpD .lt (enc a) (enc b) = some true) : Ris (xs.map enc) := by
  intro p hp
  rw [← List.map_drop, List.zip_map] at hp
  obtain ⟨q, hq, rfl⟩ := List.mem_map.mp hp
  exact he _ _ (zip_next h q hq)
theorem ris_strs {xs : List Cs} (h : Up xs) : Ris (xs.map .str) := ris_enc h fun a b hab => by
  have hab : a < b := hab
  simp [cmpD, hab]
theorem ris_ints {xs : List Int} (h : xs.Pairwise (· < ·)) : Ris (xs.map .int) := ris_enc h fun a b hab => by
  have hab : a < b := hab
  simp [cmpD, hab]
theorem drf_strs {xs : List Cs} : ∀ x ∈ xs.map D.str, ∀ S, drf S x = some x := fun x hx S => by
  obtain ⟨a, _, rfl⟩ := List.mem_map.mp hx; rfl
theorem drf_ints {xs : List Int} : ∀ x ∈ xs.map D.int, ∀ S, drf S x = some x := fun x hx S => by
  obtain ⟨a, _, rfl⟩ := List.mem_map.mp hx; rfl
theorem flats_strs (xs : List Cs) : D.flats (xs.map .str) = true := flats_map fun _ _ => rfl
theorem flats_ints (xs : List Int) : D.flats (xs.map .int) = true := flats_map fun _ _ => rfl
theorem all_of {α : Type} {xs : List α} {p : α → Bool} (h : ∀ a ∈ xs, p a = true) : xs.all p = true := by simpa using h
/-- all of a list are names -/
def Nms (xs : List Cs) : Prop := ∀ s ∈ xs, nmB s = true
theorem c_wit1 {xs : List Cs} {o : Option D} (hl : xs.length ≤ SL) (h : Nms xs) : evE prg (evF prg (n + 1)) c_fits_witnesses_1 [some (eS xs), o] S = .ok (.lst (xs.map fun _ => .bl true)) S :=
  ev_compM xs .str _ (by simp [e_var, eS]) hl fun s hs => by simp [wipeE, e_var, ev_name _ (h s hs)]
theorem ev_wit {xs : List Cs} (h0 : xs ≠ []) (hl : xs.length ≤ 24) (h : Nms xs) (hu : Up xs) : evF prg (n + 2) 5 [eS xs] S = .ok (.bl true) S := by
  have hSL := SL_big
  have hp : 0 < xs.length := List.length_pos_iff.mpr h0
  refine evF_pure (np := 1) (nl := 2) (body := b_fits_witnesses) rfl rfl (by simp) rfl (S' := []) ?_
  have g : prg.glo[3]? = some (.int 24) := rfl
  have h1 := fun S => ev_istup (S := S) (n := n) (xs.map .str) 1 24 (flats_strs xs)
  have h2 := fun S => ev_ris_t (S := S) (n := n) (ds := xs.map .str) (by simp; omega) (ris_strs hu) (flats_strs xs) drf_strs
  have h3 := fun S => c_wit1 (S := S) (n := n) (o := none) (by omega) h
  have l1 : (1 : Int) ≤ xs.length := by omega
  have l2 : (xs.length : Int) ≤ 24 := by omega
  rw [show eS xs = .tup (xs.map .str) from rfl] at *
  simp [b_fits_witnesses, envOf, e_var, g, h1, h2, h3, l1, l2]
end K99
end QF
end

section
namespace QF
namespace K99
variable {S : Sto} {n : Nat}
structure Tx (base : List Cs) (texts : List (Cs × List Cs)) : Prop where
  b0 : base ≠ []
  bl : base.length ≤ 40
  bn : Nms base
  t0 : texts ≠ []
  tl : texts.length ≤ 16
  tn : ∀ p ∈ texts, nmB p.1 = true
  tw : ∀ p ∈ texts, p.2.length = base.length
  tr : ∀ p ∈ texts, Nms p.2
  tu : Up (texts.map (·.1))
theorem c_base1 {xs : List Cs} {o : Option D} (hl : xs.length ≤ SL) (h : Nms xs) : evE prg (evF prg (n + 1)) c_fits_base_1 [some (eS xs), o] S = .ok (.lst (xs.map fun _ => .bl true)) S :=
  ev_compM xs .str _ (by simp [e_var, eS]) hl fun s hs => by simp [wipeE, e_var, ev_name _ (h s hs)]
theorem ev_base {xs : List Cs} (h0 : xs ≠ []) (hl : xs.length ≤ 40) (h : Nms xs) : evF prg (n + 2) 6 [eS xs] S = .ok (.bl true) S := by
  have hSL := SL_big
  have hp : 0 < xs.length := List.length_pos_iff.mpr h0
  refine evF_pure (np := 1) (nl := 2) (body := b_fits_base) rfl rfl (by simp) rfl (S' := []) ?_
  have g : prg.glo[4]? = some (.int 40) := rfl
  have h1 := fun S => ev_istup (S := S) (n := n) (xs.map .str) 1 40 (flats_strs xs)
  have h3 := fun S => c_base1 (S := S) (n := n) (o := none) (by omega) h
  have l1 : (1 : Int) ≤ xs.length := by omega
  have l2 : (xs.length : Int) ≤ 40 := by omega
  rw [show eS xs = .tup (xs.map .str) from rfl] at *
  simp [b_fits_base, envOf, e_var, g, h1, h3, l1, l2]
theorem need_base {xs : List Cs} (h0 : xs ≠ []) (hl : xs.length ≤ 40) (h : Nms xs) : evF prg (n + 3) 7 [eS xs] S = .ok .non S := by
  refine evF_pure (np := 1) (nl := 1) (body := b_need_base) rfl rfl (by simp) rfl (S' := []) ?_
  simp [b_need_base, envOf, e_var, ev_base h0 hl h]
theorem nm_ne {s : Cs} (h : nmB s = true) : s ≠ [] := by
  rintro rfl; simp [nmB] at h
theorem ev_reading (s : Cs) (h : nmB s = true) : evF prg (n + 2) 8 [.str s] S = .ok (.bl true) S := by
  refine evF_pure (np := 1) (nl := 1) (body := b_fits_reading) rfl rfl rfl rfl (S' := []) ?_
  have : (s == []) = false := by simpa using nm_ne h
  simp [b_fits_reading, envOf, e_var, this, ev_name s h]
theorem drop_map {α β : Type} {f : α → β} {xs : List α} : (xs.map f).length = xs.length := by simp
theorem ev_texts {base : List Cs} {texts : List (Cs × List Cs)} (T : Tx base texts) : evF prg (n + 3) 9 [eS base, eT texts] S = .ok (.bl true) S := by
  have hSL := SL_big
  have hp : 0 < texts.length := List.length_pos_iff.mpr T.t0
  have hl := T.tl
  refine evF_pure (np := 2) (nl := 4) (body := b_fits_texts) rfl rfl (by simp) rfl (S' := []) ?_
  have g : prg.glo[5]? = some (.int 16) := rfl
  have ft : D.flats (texts.map fun p => D.tup [.str p.1, eS p.2]) = true := by have := flat_eT texts; simpa [eT] using this
  have l1 : (1 : Int) ≤ texts.length := by omega
  have l2 : (texts.length : Int) ≤ 16 := by omega
  have h1 : ∀ S, evF prg (n + 2) 3 [eT texts, .int 1, .int 16] S = .ok (.bl true) S := fun S => by
    have := ev_istup (S := S) (n := n + 1) (texts.map fun p => .tup [.str p.1, eS p.2]) 1 16 ft
    rw [show eT texts = .tup (texts.map fun p => .tup [.str p.1, eS p.2]) from rfl, this]
    simp [l1, l2]
  have c1 : ∀ o o2, evE prg (evF prg (n + 2)) c_fits_texts_1 [some (eS base), some (eT texts), o, o2] [] = .ok (.lst (texts.map fun _ => .bl true)) [] := fun o o2 =>
    ev_compM texts (fun p => .tup [.str p.1, eS p.2]) _ (by simp [e_var, eT]) (by omega) fun p hp => by
      have := ev_istup (S := []) (n := n + 1) [.str p.1, eS p.2] 2 2 (by simp)
      simp [wipeE, e_var, this]
  have c2 : ∀ o o2, evE prg (evF prg (n + 2)) c_fits_texts_2 [some (eS base), some (eT texts), o, o2] [] = .ok (.lst (texts.map fun _ => .bl true)) [] := fun o o2 =>
    ev_compM texts (fun p => .tup [.str p.1, eS p.2]) _ (by simp [e_var, eT]) (by omega) fun p hp => by
      have h := ev_istup (S := []) (n := n + 1) (p.2.map .str) base.length base.length (flats_strs _)
      have e := T.tw p hp
      simp [wipeE, e_var, ev_name _ (T.tn p hp), eS, h, e]
  have c3 : ∀ o o2, evE prg (evF prg (n + 2)) c_fits_texts_3 [some (eS base), some (eT texts), o, o2] [] = .ok (.lst (texts.map fun p => .str p.1)) [] := fun o o2 =>
    ev_compM texts (fun p => .tup [.str p.1, eS p.2]) _ (by simp [e_var, eT]) (by omega) fun p hp => by
      simp [wipeE, e_var]
  have hb := T.bl
  have hfl : ∀ (m : Nat) (ts : List (Cs × List Cs)), (∀ p ∈ ts, p.2.length = base.length) → ts.length = m → (ts.flatMap fun p => p.2.map fun _ => D.bl true).length = m * base.length := fun m ts h e => by
    subst e
    induction ts with
    | nil => simp
    | cons a ts ih =>
      simp only [List.flatMap_cons, List.length_append, List.length_map, List.length_cons, ih fun p hp => h p (List.mem_cons_of_mem _ hp), h a List.mem_cons_self]
      rw [Nat.add_mul]; omega
  have c4 : ∀ o o2, evE prg (evF prg (n + 2)) c_fits_texts_4 [some (eS base), some (eT texts), o, o2] [] = .ok (.lst (texts.flatMap fun p => p.2.map fun _ => .bl true)) [] := fun o o2 => by
    refine ev_comp2 texts (fun p => .tup [.str p.1, eS p.2]) (fun p => p.2) (fun _ w => .str w) (fun _ _ => .bl true) (by simp [e_var, eT]) ?_ fun p hp => ?_
    · rw [hfl _ texts T.tw rfl]
      have : texts.length * base.length ≤ 16 * 40 := Nat.mul_le_mul hl hb
      omega
    · refine ⟨_, by simp [wipeE]; rfl, by simp [e_var, eS], fun w hw => ?_⟩
      simp [wipeE, tnIx, e_var, ev_reading w (T.tr p hp w hw)]
  have h4 : ∀ S, evBi .all false [.lst (texts.flatMap fun p => p.2.map fun _ => D.bl true)] S = .ok (.bl true) S := fun S => by
    have : (texts.flatMap fun p => p.2.map fun _ => D.bl true) = (texts.flatMap fun p => p.2.map fun _ => true).map D.bl := by
      rw [List.map_flatMap]; simp only [List.map_map]; rfl
    rw [this, bi_all]
    congr 2
    simp
  have h2 := fun S => ev_ris_l (S := S) (n := n + 1) (ds := (texts.map (·.1)).map .str) (by simp; omega) (ris_strs T.tu) (flats_strs _) drf_strs
  simp only [List.map_map] at h2
  rw [show (D.str ∘ fun (x : Cs × List Cs) => x.1) = fun p => D.str p.1 from rfl] at h2
  simp [b_fits_texts, envOf, e_var, g, h1, c1, c2, c3, c4, h4, h2]
theorem need_texts {base : List Cs} {texts : List (Cs × List Cs)} (T : Tx base texts) : evF prg (n + 4) 10 [eS base, eT texts] S = .ok .non S := by
  refine evF_pure (np := 2) (nl := 2) (body := b_need_texts) rfl rfl (by simp) rfl (S' := []) ?_
  simp [b_need_texts, envOf, e_var, ev_texts T]
theorem need_few {xs : List Cs} (h0 : xs ≠ []) (hl : xs.length ≤ 16) (h : Nms xs) (hu : Up xs) : evF prg (n + 3) 11 [eS xs] S = .ok .non S := by
  refine evF_pure (np := 1) (nl := 1) (body := b_need_few) rfl rfl (by simp) rfl (S' := []) ?_
  have g : prg.glo[5]? = some (.int 16) := rfl
  have h1 := fun S => ev_wit (S := S) (n := n) h0 (by omega) h hu
  have l2 : ¬ (16 : Int) < xs.length := by omega
  have h2 : ∀ S, evBi .len false [eS xs] S = .ok (.int xs.length) S := fun S => by simp [eS]
  simp [b_need_few, envOf, e_var, g, h1, h2, l2]
theorem ev_groups {xs : List Cs} : evF prg (n + 2) 13 [eS xs, .tup []] S = .ok (.bl true) S := by
  refine evF_pure (np := 2) (nl := 5) (body := b_fits_groups) rfl rfl (by simp) rfl (S' := []) ?_
  have g : prg.glo[6]? = some (.int 8) := rfl
  have h1 := fun S => ev_istup (S := S) (n := n) [] 0 8 rfl
  have c1 : ∀ o1 o2 o3, evE prg (evF prg (n + 1)) c_fits_groups_1 [some (eS xs), some (.tup []), o1, o2, o3] [] = .ok (.lst []) [] := fun _ _ _ =>
    ev_comp (α := Unit) [] (fun _ => .non) (fun _ => none) (by simp [e_var]) (by simp) (by simp)
  have c2 : ∀ o1 o2 o3, evE prg (evF prg (n + 1)) c_fits_groups_2 [some (eS xs), some (.tup []), o1, o2, o3] [] = .ok (.lst []) [] := fun _ _ _ =>
    ev_comp (α := Unit) [] (fun _ => .non) (fun _ => none) (by simp [e_var]) (by simp) (by simp)
  have c3 : ∀ o1 o2 o3, evE prg (evF prg (n + 1)) c_fits_groups_3 [some (eS xs), some (.tup []), o1, o2, o3] [] = .ok (.lst []) [] := fun _ _ _ =>
    ev_comp (α := Unit) [] (fun _ => .non) (fun _ => none) (by simp [e_var]) (by simp) (by simp)
  have c4 : ∀ o1 o2 o3, evE prg (evF prg (n + 1)) c_fits_groups_4 [some (eS xs), some (.tup []), o1, o2, o3] [] = .ok (.lst []) [] := fun _ _ _ =>
    ev_comp (α := Unit) [] (fun _ => .non) (fun _ => none) (by simp [e_var]) (by simp) (by simp)
  have h2 := fun S => ev_ris_l (S := S) (n := n) (ds := []) (by simp) (fun p hp => by simp at hp) rfl (fun x hx => by simp at hx)
  have ha := fun S => bi_all_tt (S := S) (m := false) ([] : List Unit)
  have hb := fun S => bi_any_m (S := S) (m := false) ([] : List Unit) fun _ => true
  simp at ha hb
  simp [b_fits_groups, envOf, e_var, g, h1, c1, c2, c3, c4, h2, ha, hb]
theorem need_groups {xs : List Cs} : evF prg (n + 3) 14 [eS xs, .tup []] S = .ok .non S := by
  refine evF_pure (np := 2) (nl := 2) (body := b_need_groups) rfl rfl (by simp) rfl (S' := []) ?_
  simp [b_need_groups, envOf, e_var, ev_groups]
theorem ev_names {texts : List (Cs × List Cs)} (hl : texts.length ≤ 16) : evF prg (n + 1) 15 [eT texts] S = .ok (eS (texts.map (·.1))) S := by
  have hSL := SL_big
  refine evF_pure (np := 1) (nl := 3) (body := b_names_of) rfl rfl (by simp) (by simp) (S' := []) ?_
  have c1 : ∀ o o2, evE prg (evF prg n) c_names_of_1 [some (eT texts), o, o2] [] = .ok (.lst (texts.map fun p => .str p.1)) [] := fun o o2 =>
    ev_compM texts (fun p => .tup [.str p.1, eS p.2]) _ (by simp [e_var, eT]) (by omega) fun p hp => by
      simp [wipeE, e_var]
  simp [b_names_of, envOf, e_var, c1, eS]
end K99
end QF
end

section
namespace QF
namespace K99
variable {S : Sto} {n : Nat}
@[simp] theorem eqv_ss (a b : Cs) : eqv (.str a) (.str b) = (a == b) := by simp only [eqv]
/-! a dict with texts as keys -/
theorem any_strs (k : Cs) (ks : List Cs) : (ks.map D.str).any (fun x => eqv x (.str k)) = decide (k ∈ ks) := by
  induction ks with
  | nil => rfl
  | cons a r ih =>
    simp only [List.map_cons, List.any_cons, ih, eqv_ss, List.mem_cons]
    by_cases h : a = k
    · subst h; simp
    · have : ¬ k = a := fun e => h e.symm
      simp [h, this]
theorem look_strs (f : Cs → D) (k : Cs) (ks : List Cs) : look (.str k) (ks.map .str) (ks.map f) = if k ∈ ks then some (f k) else none := by
  induction ks with
  | nil => rfl
  | cons a r ih =>
    simp only [List.map_cons, look, ih, eqv_ss, List.mem_cons]
    by_cases h : a = k
    · subst h; simp
    · have : ¬ k = a := fun e => h e.symm
      simp [h, this]
theorem putM_strs (f : Cs → D) (k : Cs) (v : D) (ks : List Cs) : putM (.str k) v (ks.map .str) (ks.map f) = ks.map fun r => if r = k then v else f r := by
  induction ks with
  | nil => rfl
  | cons a r ih => simp only [List.map_cons, putM, ih, eqv_ss, beq_iff_eq]
theorem put_strs (f : Cs → D) (k : Cs) (v : D) (ks : List Cs) : put (.str k) v (ks.map .str) (ks.map f) = if k ∈ ks then (ks.map .str, ks.map fun r => if r = k then v else f r) else ((ks ++ [k]).map .str, ks.map f ++ [v]) := by
  unfold put
  rw [any_strs, putM_strs]
  by_cases h : k ∈ ks <;> simp [h]
/-- the unlike ones, by where they first stand -/
def heads (xs : List Cs) : List Cs := xs.foldl (fun acc x => if x ∈ acc then acc else acc ++ [x]) []
theorem rev_ind {α : Type} {P : List α → Prop} (h0 : P []) (hs : ∀ xs x, P xs → P (xs ++ [x])) (xs : List α) : P xs := by
  have : ∀ ys : List α, P ys.reverse := fun ys => by
    induction ys with
    | nil => exact h0
    | cons y ys ih => rw [List.reverse_cons]; exact hs _ _ ih
  have := this xs.reverse
  rwa [List.reverse_reverse] at this
theorem heads_snoc (xs : List Cs) (x : Cs) : heads (xs ++ [x]) = if x ∈ heads xs then heads xs else heads xs ++ [x] := by
  unfold heads
  rw [List.foldl_append]
  rfl
theorem heads_mem (xs : List Cs) (r : Cs) : r ∈ heads xs ↔ r ∈ xs := by
  induction xs using rev_ind with
  | h0 => simp [heads]
  | hs xs x ih =>
    rw [heads_snoc, List.mem_append, List.mem_singleton]
    split
    · rename_i h
      rw [ih]
      exact ⟨.inl, fun h1 => h1.elim id fun e => by subst e; exact ih.mp h⟩
    · rw [List.mem_append, List.mem_singleton, ih]
theorem heads_nodup (xs : List Cs) : (heads xs).Nodup := by
  induction xs using rev_ind with
  | h0 => exact .nil
  | hs xs x ih =>
    rw [heads_snoc]
    split
    · exact ih
    · rename_i h
      rw [List.nodup_append]
      exact ⟨ih, by simp, fun a ha b hb => by simp only [List.mem_singleton] at hb; subst hb; rintro rfl; exact h ha⟩
theorem heads_len (xs : List Cs) : (heads xs).length ≤ xs.length := by
  induction xs using rev_ind with
  | h0 => simp [heads]
  | hs xs x ih =>
    rw [heads_snoc]
    split <;> simp <;> omega
/-- a witness's word -/
def wd (p : Nat) (q : Cs × List Cs) : Cs := q.2.getD p []
def col (p : Nat) (ts : List (Cs × List Cs)) : List Cs := ts.map (wd p)
/-- who has the word -/
def grp (p : Nat) (ts : List (Cs × List Cs)) (r : Cs) : List Cs := (ts.filter fun q => decide (wd p q = r)).map (·.1)
def rowD (p : Nat) (ts : List (Cs × List Cs)) (r : Cs) : D := .lst ((grp p ts r).map .str)
theorem grp_snoc (p : Nat) (ts : List (Cs × List Cs)) (q : Cs × List Cs) (r : Cs) : grp p (ts ++ [q]) r = if wd p q = r then grp p ts r ++ [q.1] else grp p ts r := by
  unfold grp
  rw [List.filter_append, List.map_append]
  by_cases h : wd p q = r <;> simp [h]
theorem grp_none {p : Nat} {ts : List (Cs × List Cs)} {r : Cs} (h : r ∉ col p ts) : grp p ts r = [] := by
  unfold grp
  rw [List.map_eq_nil_iff, List.filter_eq_nil_iff]
  intro q hq e
  exact h (List.mem_map.mpr ⟨q, hq, of_decide_eq_true e⟩)
def rowsD (p : Nat) (ts : List (Cs × List Cs)) : D := .dic false ((heads (col p ts)).map .str) ((heads (col p ts)).map (rowD p ts))
theorem wd_at {p : Nat} {q : Cs × List Cs} (h : p < q.2.length) : idx2 (eS q.2) (.int p) S = .ok (.str (wd p q)) S := by
  refine ix_tup (at_nat ?_)
  rw [List.getElem?_map, List.getElem?_eq_getElem h]
  simp [wd, List.getD, h]
theorem recv_g {ks vs : List D} : recvOk .get2 (.loc 0) [.dic false ks vs] = true := rfl
/-- one turn: the name goes to its word's row -/
theorem row_put (p : Nat) (ts : List (Cs × List Cs)) (q : Cs × List Cs) : put (.str (wd p q)) (.lst ((grp p ts (wd p q) ++ [q.1]).map .str)) ((heads (col p ts)).map .str) ((heads (col p ts)).map (rowD p ts)) =
    ((heads (col p (ts ++ [q]))).map .str, (heads (col p (ts ++ [q]))).map (rowD p (ts ++ [q]))) := by
  rw [put_strs]
  have ec : col p (ts ++ [q]) = col p ts ++ [wd p q] := by simp [col]
  rw [ec, heads_snoc]
  have er : ∀ r, rowD p (ts ++ [q]) r = if r = wd p q then .lst ((grp p ts (wd p q) ++ [q.1]).map .str) else rowD p ts r := fun r => by
    unfold rowD
    rw [grp_snoc]
    by_cases h : wd p q = r
    · subst h; simp
    · have : ¬ r = wd p q := fun e => h e.symm
      simp [h, this]
  by_cases h : wd p q ∈ heads (col p ts)
  · simp only [h, if_true]
    congr 1
    exact List.map_congr_left fun r _ => (er r).symm
  · simp only [h, if_false]
    congr 1
    rw [List.map_append (f := rowD p (ts ++ [q])), List.map_cons, List.map_nil, er, if_pos rfl]
    congr 1
    refine List.map_congr_left fun r hr => ?_
    rw [er, if_neg fun e => h (by rw [← e]; exact hr)]
theorem ev_rows {texts : List (Cs × List Cs)} {p : Nat} (hl : texts.length ≤ 16) (hp : ∀ q ∈ texts, p < q.2.length) : evF prg (n + 1) 16 [eT texts, .int p] S = .ok (rowsD p texts) S := by
  have hSL := SL_big
  have key : ∀ pre (q : Cs × List Cs) post ρ S, texts = pre ++ q :: post → (∃ o1 o2, ρ = [some (eT texts), some (.int p), some (.loc 0), o1, o2] ∧ S = [.dic false ((heads (col p pre)).map .str) ((heads (col p pre)).map (rowD p pre))]) →
      ∃ ρ1 ρ2 S2, asgT (.tup [(.name 3), (.name 4)]) (.tup [.str q.1, eS q.2]) ρ = some ρ1 ∧ evSs prg (evF prg n) w_rows_at_1 ρ1 S = .ok (.nx ρ2) S2 ∧ (∃ o1 o2, ρ2 = [some (eT texts), some (.int p), some (.loc 0), o1, o2] ∧ S2 = [.dic false ((heads (col p (pre ++ [q]))).map .str) ((heads (col p (pre ++ [q]))).map (rowD p (pre ++ [q])))]) := by
    rintro pre q post ρ S e ⟨o1, o2, rfl, rfl⟩
    have hq : p < q.2.length := hp q (by rw [e]; simp)
    refine ⟨_, _, _, by simp; rfl, ?_, ⟨some (.str q.1), some (eS q.2), rfl, rfl⟩⟩
    have hlk := look_strs (rowD p pre) (wd p q) (heads (col p pre))
    have hg : ∀ S, op2 (binOp .add) ((look (.str (wd p q)) ((heads (col p pre)).map .str) ((heads (col p pre)).map (rowD p pre))).getD (.lst [])) (.lst [.str q.1]) S = .ok (.lst ((grp p pre (wd p q) ++ [q.1]).map .str)) S := fun S => by
      rw [hlk]
      have hgl : (grp p pre (wd p q)).length ≤ 16 := by
        have h1 : (grp p pre (wd p q)).length ≤ pre.length := by unfold grp; rw [List.length_map]; exact List.length_filter_le _ _
        have h2 : pre.length ≤ texts.length := by rw [e]; simp
        omega
      by_cases h : wd p q ∈ heads (col p pre)
      · simp only [h, if_true, Option.getD_some, rowD]
        rw [op_addL (by simp; omega)]
        simp
      · have := grp_none (p := p) (ts := pre) (r := wd p q) fun h' => h ((heads_mem _ _).mpr h')
        simp only [h, if_false, Option.getD_none, this]
        rw [op_addL (by simp; omega)]
        simp
    have hk : (heads (col p pre)).length < SL := by
      have h1 := heads_len (col p pre)
      have h2 : pre.length ≤ texts.length := by rw [e]; simp
      simp only [col, List.length_map] at h1
      unfold col
      omega
    have hput := row_put p pre q
    simp only [w_rows_at_1, ss_cons, ss_nil, zs_sub, e_bin, e_meth, e_idx, e_var (show ([some (eT texts), some (.int p), some (.loc 0), some (.str q.1), some (eS q.2)] : Env)[2]? = some (some (.loc 0)) from rfl),
      e_var (show ([some (eT texts), some (.int p), some (.loc 0), some (.str q.1), some (eS q.2)] : Env)[4]? = some (some (eS q.2)) from rfl), e_var (show ([some (eT texts), some (.int p), some (.loc 0), some (.str q.1), some (eS q.2)] : Env)[1]? = some (some (.int p)) from rfl),
      e_var (show ([some (eT texts), some (.int p), some (.loc 0), some (.str q.1), some (eS q.2)] : Env)[3]? = some (some (.str q.1)) from rfl), bind_ok, recv_g, if_true, es_cons, es_nil, wd_at hq, e_lst, few0, zfew1, newL_f, evMt, Mt.ro, drf_locD (show ([.dic false ((heads (col p pre)).map .str) ((heads (col p pre)).map (rowD p pre))] : Sto)[0]? = some _ from rfl),
      onO_some, mtD, keyOk, opt_some, hg, setD, thing, List.getElem?_cons_zero, Option.map_some, setO, Bool.true_and, List.length_map, hk, decide_true, hput, List.set_cons_zero, nextB_nx]
  obtain ⟨ρ', S', e, I⟩ := ev_for (P := prg) (cf := evF prg n) (ρ := [some (eT texts), some (.int p), some (.loc 0), none, none]) (S := [.dic false [] []]) (tg := .tup [(.name 3), (.name 4)]) (it := .of (.var 0)) (body := w_rows_at_1)
    (fun q : Cs × List Cs => .tup [.str q.1, eS q.2]) texts
    (fun pre ρ S => ∃ o1 o2, ρ = [some (eT texts), some (.int p), some (.loc 0), o1, o2] ∧ S = [.dic false ((heads (col p pre)).map .str) ((heads (col p pre)).map (rowD p pre))])
    (by simp [e_var, eT]) ⟨none, none, rfl, rfl⟩ key
  obtain ⟨o1, o2, rfl, rfl⟩ := I
  refine evF_pure (np := 2) (nl := 5) (body := b_rows_at) rfl rfl (by simp) ?_ (S' := [.dead]) ?_
  · simp only [rowsD, D.flat, Bool.and_eq_true]
    exact ⟨flats_strs _, flats_map fun r _ => by simp [rowD, flats_strs]⟩
  · simp [b_rows_at, envOf, newD, e, e_var, freezeD, rowsD]
end K99
end QF
end

section
namespace QF
namespace K99
variable {S : Sto} {n : Nat}
theorem up_asc {xs : List Cs} (h : Up xs) : Asc ltS xs := h.imp fun {a b} hab => by
  have hab : a < b := hab
  simp only [ltS, decide_eq_false_iff_not]
  exact fun h2 => List.lt_irrefl a (List.lt_trans hab h2)
theorem isort_up {xs : List Cs} (h : Up xs) : isort ltS xs = xs := asc_unique totS (isort_perm totS xs) (isort_asc totS xs) (up_asc h)
theorem up_nodup {xs : List Cs} (h : Up xs) : xs.Nodup := h.imp fun {a b} hab e => by
  have hab : a < b := hab
  subst e; exact List.lt_irrefl a hab
theorem zstrs_of (xs : List Cs) : allOf strOf (xs.map .str) = some xs := by
  have := allOf_map (f := strOf) (e := D.str) (g := id) (fun a => rfl) xs
  simpa using this
theorem ints_none (x : Cs) (xs : List Cs) : allOf intOf ((x :: xs).map .str) = none := rfl
theorem sortD_strs {xs : List Cs} (h : xs.length < 64) : sortD (xs.map .str) = some ((isort ltS xs).map .str) := by
  cases xs with
  | nil => rfl
  | cons x r =>
    unfold sortD
    rw [ints_none, zstrs_of]
    simp only
    rw [if_pos h]
theorem bi_sset {m : Bool} {xs : List Cs} (h : xs.length < 64) (hu : xs.Nodup) : evBi .sortedSet m [.lst (xs.map .str)] S = newL m ((isort ltS xs).map .str) S := by
  simp only [evBi, drfs_cons, drfs_nil, drf_lst, Option.bind_some, biL, zstrs_of, h, hu, and_self, if_true]
theorem bi_lset {m : Bool} {xs : List Cs} (h : xs.length < 64) (hu : xs.Nodup) : evBi .lenSet m [.lst (xs.map .str)] S = .ok (.int xs.length) S := by
  simp only [evBi, drfs_cons, drfs_nil, drf_lst, Option.bind_some, biD, zstrs_of, h, hu, and_self, if_true, opt_some, List.length_map]
theorem fm1 {α β : Type} (f : α → β) (xs : List α) : (xs.flatMap fun x => [f x]) = xs.map f := by
  induction xs <;> simp_all
theorem ev_meant {xs : List Cs} (hl : xs.length < 64) (hu : Up xs) : evF prg (n + 1) 17 [.tup [], eS xs] S = .ok (.lst (xs.map .str)) S := by
  have hSL := SL_big
  have c1 : ∀ o3 o4, evE prg (evF prg n) c_meant_1 [some (.tup []), some (eS xs), some (.loc 0), o3, o4] [.dic false [] []] = .ok (.lst (xs.map .str)) [.dic false [] []] := fun o3 o4 => by
    have := ev_comp2 (P := prg) (cf := evF prg n) (ρ := [some (.tup []), some (eS xs), some (.loc 0), o3, o4]) (S := [.dic false [] []]) (m := false) (own := [3, 4]) (tg := .name 3) (tg1 := .name 4) (it := .of (.var 1)) (it1 := .of (.meth .get2 (.var 2) (.cons (.var 3) (.cons (.tup (.cons (.var 3) .nil)) .nil)))) (elt := .var 4)
      xs .str (fun x => [x]) (fun _ x => .str x) (fun _ x => .str x) (by simp [e_var, eS]) (by simp only [List.map_cons, List.map_nil, fm1, List.length_map]; omega) fun x hx => ⟨_, by simp [wipeE]; rfl, by
        simp [e_var, evMt, Mt.ro, drf, mtD, keyOk, look, recv_g], fun y hy => by
        simp [wipeE, tnIx, e_var]⟩
    simp only [List.map_cons, List.map_nil, fm1, newL_f] at this
    exact this
  refine evF_pure (np := 2) (nl := 5) (body := b_meant) rfl rfl (by simp) (by simp [flats_strs]) (S' := [.dic false [] []]) ?_
  have hd : ∀ S, evBi .dictT false [.tup []] S = .ok (.loc S.length) (S ++ [.dic false [] []]) := fun S => rfl
  simp [b_meant, envOf, e_var, hd, c1, bi_sset hl (up_nodup hu), isort_up hu]
structure Nt (base names : List Cs) (ns : List (Nat × Cs × List Cs)) : Prop where
  len : ns.length ≤ 1000
  pl : ∀ a ∈ ns, a.1 < base.length
  rd : ∀ a ∈ ns, nmB a.2.1 = true
  s0 : ∀ a ∈ ns, a.2.2 ≠ []
  su : ∀ a ∈ ns, Up a.2.2
  sg : ∀ a ∈ ns, ∀ s ∈ a.2.2, s ∈ names
  up : ns.Pairwise fun a b => a.1 < b.1 ∨ (a.1 = b.1 ∧ a.2.1 < b.2.1)
  nd : ∀ p, ((ns.filter fun a => decide (a.1 = p)).flatMap fun a => a.2.2).Nodup
theorem in_strs (x : Cs) (xs : List Cs) : op2 (cmp2 .isIn) (.str x) (.tup (xs.map .str)) S = .ok (.bl (decide (x ∈ xs))) S := by
  have h : (xs.map D.str).all D.flt = true := by simp [D.flt]
  simp only [op2, drf_str, drf_tup, cmp2, cmpD, inD, h, D.flt, Bool.and_self, Bool.true_or, if_true, any_strs, Option.map_some, opt_some]
theorem in_strsL (x : Cs) (xs : List Cs) : op2 (cmp2 .isIn) (.str x) (.lst (xs.map .str)) S = .ok (.bl (decide (x ∈ xs))) S := by
  have h : (xs.map D.str).all D.flt = true := by simp [D.flt]
  simp only [op2, drf_str, drf_lst, cmp2, cmpD, inD, h, D.flt, Bool.and_self, Bool.true_or, if_true, any_strs, Option.map_some, opt_some]
theorem sub_len {xs ys : List Cs} (hn : xs.Nodup) (h : ∀ x ∈ xs, x ∈ ys) : xs.length ≤ ys.length := by
  induction xs generalizing ys with
  | nil => simp
  | cons a r ih =>
    obtain ⟨h1, h2⟩ := List.nodup_cons.mp hn
    have ha := h a List.mem_cons_self
    have := ih (ys := ys.erase a) h2 fun x hx => (List.mem_erase_of_ne (fun e => by subst e; exact h1 hx)).mpr (h x (List.mem_cons_of_mem _ hx))
    have hp := List.length_erase_of_mem ha
    have hq := List.length_pos_of_mem ha
    simp only [List.length_cons]
    omega
theorem ev_note {base names : List Cs} {a : Nat × Cs × List Cs} (hb : base.length ≤ 40) (hn : names.length ≤ 16) (h1 : a.1 < base.length) (h2 : nmB a.2.1 = true) (h3 : Up a.2.2) (h4 : ∀ s ∈ a.2.2, s ∈ names) :
    evF prg (n + 3) 18 [eS base, eS names, .tup [], .tup [.int a.1, .str a.2.1, eS a.2.2]] S = .ok (.bl true) S := by
  have hSL := SL_big
  have hsl : a.2.2.length ≤ 16 := Nat.le_trans (sub_len (up_nodup h3) h4) hn
  refine evF_pure (np := 4) (nl := 8) (body := b_fits_note) rfl rfl (by simp) rfl (S' := []) ?_
  have e1 := fun S => ev_istup (S := S) (n := n + 1) [.int a.1, .str a.2.1, eS a.2.2] 3 3 (by simp)
  have e2 := fun S => ev_fwhole (S := S) (n := n) (a.1 : Int) 0 (base.length - 1)
  have e3 := fun S => ev_reading (S := S) (n := n) _ h2
  have e4 := fun S => ev_ris_t (S := S) (n := n + 1) (ds := a.2.2.map .str) (by simp; omega) (ris_strs h3) (flats_strs _) drf_strs
  have l2 : (a.1 : Int) ≤ base.length - 1 := by omega
  have l3 : (0 : Int) ≤ a.1 := by omega
  have hlen : ∀ S, evBi .len false [eS base] S = .ok (.int base.length) S := fun S => by simp [eS]
  have c1 : ∀ o1 o2 o3 o4, evE prg (evF prg (n + 2)) c_fits_note_1 [some (eS base), some (eS names), some (.tup []), some (.tup [.int a.1, .str a.2.1, eS a.2.2]), o1, o2, o3, o4] [] = .ok (.lst []) [] := fun _ _ _ _ =>
    ev_comp (α := Unit) [] (fun _ => .non) (fun _ => none) (by simp [e_var]) (by simp) (by simp)
  have c2 : ∀ o1 o2 o3 o4, evE prg (evF prg (n + 2)) c_fits_note_2 [some (eS base), some (eS names), some (.tup []), some (.tup [.int a.1, .str a.2.1, eS a.2.2]), o1, o2, o3, o4] [] = .ok (.lst (a.2.2.map fun _ => .bl true)) [] := fun _ _ _ _ =>
    ev_compM a.2.2 .str _ (by simp [e_var, eS]) (by omega) fun s hs => by simp [wipeE, e_var]
  have c3 : ∀ o1 o2 o3 o4, evE prg (evF prg (n + 2)) c_fits_note_3 [some (eS base), some (eS names), some (.tup []), some (.tup [.int a.1, .str a.2.1, eS a.2.2]), o1, o2, o3, o4] [] = .ok (.lst (a.2.2.map fun _ => .bl true)) [] := fun _ _ _ _ =>
    ev_compM a.2.2 .str _ (by simp [e_var, eS]) (by omega) fun s hs => by
      have hi := in_strs (S := []) s names
      rw [show D.tup (names.map .str) = eS names from rfl] at hi
      simp [wipeE, e_var, hi, h4 s hs]
  have e5 : ∀ o : List D → D, True := fun _ => trivial
  have ty : ∀ u, isTy u .tuple (eS a.2.2) = some true := fun u => rfl
  rw [show D.tup (a.2.2.map .str) = eS a.2.2 from rfl] at e4
  simp [b_fits_note, envOf, e_var, e1, e2, e3, e4, l2, l3, hlen, c1, c2, c3, ty]
end K99
end QF
end

section
namespace QF
namespace K99
variable {S : Sto} {n : Nat}
theorem okS_nm {s : Cs} (h : nmB s = true) : okS s = true := by
  simp only [nmB, Bool.and_eq_true, List.all_eq_true, decide_eq_true_eq] at h
  simp only [okS, List.all_eq_true, decide_eq_true_eq]
  intro c hc
  have : ∀ c ∈ SIG, c < 1114112 := by decide
  exact this c (h.2 c hc)
theorem lt_pairs {p q : Nat} {r t : Cs} (hr : nmB r = true) (ht : nmB t = true) (h : p < q ∨ (p = q ∧ r < t)) : cmpD .lt (.tup [.int p, .str r]) (.tup [.int q, .str t]) = some true := by
  have h1 : D.plns [.int p, .str r] = true := by simp [D.pls, D.pl, okS_nm hr]
  have h2 : D.plns [.int q, .str t] = true := by simp [D.pls, D.pl, okS_nm ht]
  simp only [cmpD, h1, h2, Bool.and_self, if_true, ltDs, eqv]
  rcases h with h | ⟨rfl, h⟩
  · have e : ((p : Int) == (q : Int)) = false := by simp; omega
    have l : (p : Int) < q := by omega
    simp [e, ltD, l]
  · have e : (r == t) = false := by
      simp only [beq_eq_false_iff_ne]
      rintro rfl; exact List.lt_irrefl _ h
    simp [e, ltD, h]
def eNs (ns : List (Nat × Cs × List Cs)) : List D := ns.map fun p => .tup [.int p.1, .str p.2.1, eS p.2.2]
theorem eN_eq (ns : List (Nat × Cs × List Cs)) : eN ns = .tup (eNs ns) := rfl
/-- the notes of a place -/
def at_ (p : Nat) (ns : List (Nat × Cs × List Cs)) : List (Nat × Cs × List Cs) := ns.filter fun a => decide (a.1 = p)
theorem filt_enc {α : Type} (p : α → Bool) (g : α → D) : ∀ xs : List α, (xs.filterMap fun a => if p a then some (g a) else none) = (xs.filter p).map g
  | [] => rfl
  | a :: xs => by
    cases h : p a
    · rw [List.filterMap_cons_none (by simp [h]), filt_enc p g xs, List.filter_cons_of_neg (by simp [h])]
    · rw [List.filterMap_cons_some (b := g a) (by simp [h]), filt_enc p g xs, List.filter_cons_of_pos h, List.map_cons]
theorem cut02 (a b : D) (r : List D) : cut (a :: b :: r) none (some 2) = [a, b] := by
  unfold cut sIx
  simp
theorem eq_empty {xs : List Cs} (hn : Nms xs) (h0 : xs ≠ []) : op2 (cmp2 .eq) (eS xs) (.tup []) S = .ok (.bl false) S := by
  have h1 : ∀ ys : List Cs, Nms ys → ∀ m, D.pls m (ys.map D.str) = true := fun ys hy m => by
    induction ys with
    | nil => simp [D.pls]
    | cons a r ih => simp [D.pls, D.pl, okS_nm (hy a List.mem_cons_self), ih fun s hs => hy s (List.mem_cons_of_mem _ hs)]
  have h2 : (eS xs).pln = true := by simp [eS, D.pl, h1 xs hn]
  have h3 : (D.tup []).pln = true := by simp [D.pl, D.pls]
  have h4 : eqv (eS xs) (.tup []) = false := by
    cases xs with
    | nil => exact absurd rfl h0
    | cons a r => simp [eS, eqv, eqvs]
  have hd : drf S (eS xs) = some (eS xs) := rfl
  simp only [op2, hd, drf_tup, cmp2, cmpD, eqOk, h2, h3, Bool.and_self, Bool.or_true, if_true, h4, Option.map_some, opt_some]
theorem nms_sub {names xs : List Cs} (hn : Nms names) (h : ∀ s ∈ xs, s ∈ names) : Nms xs := fun s hs => hn s (h s hs)
theorem flat_le {names : List Cs} {ns : List (Nat × Cs × List Cs)} (hd : (ns.flatMap fun a => a.2.2).Nodup) (h : ∀ a ∈ ns, ∀ s ∈ a.2.2, s ∈ names) : (ns.flatMap fun a => a.2.2).length ≤ names.length :=
  sub_len hd fun x hx => by
    obtain ⟨a, ha, hs⟩ := List.mem_flatMap.mp hx
    exact h a ha x hs
theorem ev_notes {base names : List Cs} {ns : List (Nat × Cs × List Cs)} (hb : base.length ≤ 40) (hn : names.length ≤ 16) (hm : Nms names) (N : Nt base names ns) :
    evF prg (n + 4) 19 [eS base, eS names, .tup [], eN ns] S = .ok (.bl true) S := by
  have hSL := SL_big
  have hl := N.len
  have c1 : ∀ o4 o5 o6 o7 o8 o9, evE prg (evF prg (n + 3)) c_fits_notes_1 [some (eS base), some (eS names), some (.tup []), some (eN ns), o4, o5, o6, o7, o8, o9] [] = .ok (.lst (ns.map fun _ => .bl true)) [] := fun o4 o5 o6 o7 o8 o9 =>
    ev_compM ns (fun p => .tup [.int p.1, .str p.2.1, eS p.2.2]) _ (by simp [e_var, eN]) (by omega) fun a ha => by
      have := ev_note (S := []) (n := n) hb hn (N.pl a ha) (N.rd a ha) (N.su a ha) (N.sg a ha)
      simp [wipeE, e_var, this]
  have c2 : ∀ o4 o5 o6 o7 o8 o9, evE prg (evF prg (n + 3)) c_fits_notes_2 [some (eS base), some (eS names), some (.tup []), some (eN ns), o4, o5, o6, o7, o8, o9] [] = .ok (.lst (ns.map fun a => .tup [.int a.1, .str a.2.1])) [] := fun o4 o5 o6 o7 o8 o9 =>
    ev_compM ns (fun p => .tup [.int p.1, .str p.2.1, eS p.2.2]) _ (by simp [e_var, eN]) (by omega) fun a ha => by
      simp [wipeE, e_var, sliceK, cut02]
  have hris : ∀ S, evF prg (n + 3) 4 [.lst (ns.map fun a => .tup [.int a.1, .str a.2.1])] S = .ok (.bl true) S := fun S => by
    refine ev_ris_l (n := n + 2) (by simp; omega) ?_ (flats_map fun a _ => by simp) fun x hx S => by
      obtain ⟨a, _, rfl⟩ := List.mem_map.mp hx; rfl
    intro p hp
    rw [← List.map_drop, List.zip_map] at hp
    obtain ⟨q, hq, rfl⟩ := List.mem_map.mp hp
    have hq2 := List.of_mem_zip hq
    exact lt_pairs (N.rd _ hq2.1) (N.rd _ (List.mem_of_mem_drop hq2.2)) (zip_next N.up q hq)
  have c3 : ∀ (p : Nat) o4 o6 o7 o8 o9, evE prg (evF prg (n + 3)) c_fits_notes_3 [some (eS base), some (eS names), some (.tup []), some (eN ns), o4, some (.int p), o6, o7, o8, o9] [] = .ok (.lst ((at_ p ns).map fun a => eS a.2.2)) [] := fun p o4 o6 o7 o8 o9 => by
    have := ev_comp (P := prg) (cf := evF prg (n + 3)) (ρ := [some (eS base), some (eS names), some (.tup []), some (eN ns), o4, some (.int p), o6, o7, o8, o9]) (S := []) (m := false) (own := [4]) (tg := .name 4) (it := .of (.var 3)) (cond := .yes (.cmp .eq (.idx (.var 4) (.int 0)) (.var 5))) (elt := .idx (.var 4) (.int 2))
      ns (fun p => .tup [.int p.1, .str p.2.1, eS p.2.2]) (fun a => if decide (a.1 = p) then some (eS a.2.2) else none) (by simp [e_var, eN]) (by omega) fun a ha => by
        by_cases h : a.1 = p
        · subst h; simp [wipeE, e_var]
        · have h' : ((a.1 : Int) == (p : Int)) = false := by simp; omega
          simp [wipeE, e_var, h, h']
    rw [filt_enc] at this
    exact this
  have hat : ∀ p, ∀ a ∈ at_ p ns, a ∈ ns := fun p a ha => (List.mem_filter.mp ha).1
  have hfl : ∀ p, ((at_ p ns).flatMap fun a => a.2.2).length ≤ 16 := fun p => Nat.le_trans (flat_le (N.nd p) fun a ha => N.sg a (hat p a ha)) hn
  have c4 : ∀ (p : Nat) o4 o7 o8 o9, evE prg (evF prg (n + 3)) c_fits_notes_4 [some (eS base), some (eS names), some (.tup []), some (eN ns), o4, some (.int p), some (.lst ((at_ p ns).map fun a => eS a.2.2)), o7, o8, o9] [] = .ok (.lst (((at_ p ns).flatMap fun a => a.2.2).map .str)) [] := fun p o4 o7 o8 o9 => by
    have := ev_comp2 (P := prg) (cf := evF prg (n + 3)) (ρ := [some (eS base), some (eS names), some (.tup []), some (eN ns), o4, some (.int p), some (.lst ((at_ p ns).map fun a => eS a.2.2)), o7, o8, o9]) (S := []) (m := false) (own := [7, 8]) (tg := .name 7) (tg1 := .name 8) (it := .of (.var 6)) (it1 := .of (.call 17 (.cons (.var 2) (.cons (.var 7) .nil)))) (elt := .var 8)
      (at_ p ns) (fun a => eS a.2.2) (fun a => a.2.2) (fun _ x => .str x) (fun _ x => .str x) (by simp [e_var]) (by have := hfl p; rw [← List.map_flatMap, List.length_map]; omega) fun a ha => ⟨_, by simp [wipeE]; rfl, by
        have hs : a.2.2.length ≤ 16 := Nat.le_trans (sub_len (up_nodup (N.su a (hat p a ha))) (N.sg a (hat p a ha))) hn
        have := ev_meant (S := []) (n := n + 2) (xs := a.2.2) (by omega) (N.su a (hat p a ha))
        simp [e_var, this], fun y hy => by
        simp [wipeE, tnIx, e_var]⟩
    rw [← List.map_flatMap] at this
    exact this
  have c5 : ∀ (p : Nat) o4 o7 o8 o9, evE prg (evF prg (n + 3)) c_fits_notes_5 [some (eS base), some (eS names), some (.tup []), some (eN ns), o4, some (.int p), some (.lst ((at_ p ns).map fun a => eS a.2.2)), o7, o8, o9] [] = .ok (.lst []) [] := fun p o4 o7 o8 o9 => by
    have := ev_comp (P := prg) (cf := evF prg (n + 3)) (ρ := [some (eS base), some (eS names), some (.tup []), some (eN ns), o4, some (.int p), some (.lst ((at_ p ns).map fun a => eS a.2.2)), o7, o8, o9]) (S := []) (m := false) (own := [7]) (tg := .name 7) (it := .of (.var 6)) (cond := .yes (.cmp .eq (.var 7) (.tup .nil))) (elt := .int 1)
      (at_ p ns) (fun a => eS a.2.2) (fun a => none) (by simp [e_var]) (by have := List.length_filter_le (fun a => decide (a.1 = p)) ns; unfold at_; omega) fun a ha => by
        have := eq_empty (S := []) (nms_sub hm (N.sg a (hat p a ha))) (N.s0 a (hat p a ha))
        simp [wipeE, e_var, this]
    simp only [newL_f] at this
    rw [show ((at_ p ns).filterMap fun _ => (none : Option D)) = [] from by simp] at this
    exact this
  have hbl : ∀ S, evBi .len false [eS base] S = .ok (.int base.length) S := fun S => by simp [eS]
  have key : ∀ pre (p : Nat) post ρ S, List.range base.length = pre ++ p :: post → (∃ o4 o5 o6 o7 o8 o9, ρ = [some (eS base), some (eS names), some (.tup []), some (eN ns), o4, o5, o6, o7, o8, o9] ∧ S = ([] : Sto)) →
      ∃ ρ1 ρ2 S2, asgT (.name 5) (.int (p : Int)) ρ = some ρ1 ∧ evSs prg (evF prg (n + 3)) w_fits_notes_1 ρ1 S = .ok (.nx ρ2) S2 ∧ (∃ o4 o5 o6 o7 o8 o9, ρ2 = [some (eS base), some (eS names), some (.tup []), some (eN ns), o4, o5, o6, o7, o8, o9] ∧ S2 = ([] : Sto)) := by
    rintro pre p post ρ S e ⟨o4, o5, o6, o7, o8, o9, rfl, rfl⟩
    refine ⟨_, _, _, by simp; rfl, ?_, ⟨o4, some (.int p), some (.lst ((at_ p ns).map fun a => eS a.2.2)), o7, o8, some (.lst (((at_ p ns).flatMap fun a => a.2.2).map .str)), rfl, rfl⟩⟩
    have h1 := bi_lset (S := []) (m := false) (xs := (at_ p ns).flatMap fun a => a.2.2) (by have := hfl p; omega) (N.nd p)
    simp [w_fits_notes_1, c3, c4, c5, e_var, h1]
  obtain ⟨ρ', S', e, o4, o5, o6, o7, o8, o9, rfl, rfl⟩ := ev_for (P := prg) (cf := evF prg (n + 3)) (ρ := [some (eS base), some (eS names), some (.tup []), some (eN ns), none, none, none, none, none, none]) (S := []) (tg := .name 5) (it := .rng1 (.bi .len false (.cons (.var 0) .nil))) (body := w_fits_notes_1)
    (fun k : Nat => .int (k : Int)) (List.range base.length) (fun _ ρ S => ∃ o4 o5 o6 o7 o8 o9, ρ = [some (eS base), some (eS names), some (.tup []), some (eN ns), o4, o5, o6, o7, o8, o9] ∧ S = ([] : Sto))
    (ev_rng1 (by simp [e_var, hbl]) (by omega)) ⟨_, _, _, _, _, _, rfl, rfl⟩ key
  refine evF_pure (np := 4) (nl := 10) (body := b_fits_notes) rfl rfl (by simp) rfl (S' := []) ?_
  have ty : ∀ u, isTy u .tuple (eN ns) = some true := fun u => rfl
  simp [b_fits_notes, envOf, e_var, ty, c1, c2, hris, e]
end K99
end QF
end

section
namespace QF
namespace K99
variable {S : Sto} {n : Nat}
/-- the word that the notes give at a place -/
def tb1 (ns : List (Nat × Cs × List Cs)) (w : Cs) (p : Nat) (word : Cs) : Cs :=
  (((at_ p ns).filter fun a => decide (w ∈ a.2.2)).map (fun a => a.2.1) ++ [word]).headD []
def enumN {α : Type} : Nat → List α → List (Nat × α)
  | _, [] => []
  | i, a :: as => (i, a) :: enumN (i + 1) as
theorem enum_strs : ∀ (i : Nat) (xs : List Cs), enumD i (xs.map .str) = (enumN i xs).map fun q => .pr [.int q.1, .str q.2]
  | _, [] => rfl
  | i, x :: xs => by simp only [List.map_cons, enumD, enumN, enum_strs (i + 1) xs]
theorem enumN_len {α : Type} : ∀ (i : Nat) (xs : List α), (enumN i xs).length = xs.length
  | _, [] => rfl
  | i, x :: xs => by simp only [enumN, List.length_cons, enumN_len (i + 1) xs]
theorem evi_enum {cf : Nat → List D → Sto → Res D} {P : Prg} {ρ : Env} {a : Ex} {xs : List Cs} (h : evE P cf a ρ S = .ok (eS xs) S) : evI P cf (.enum a) ρ S = .ok ⟨(enumN 0 xs).map fun q => .pr [.int q.1, .str q.2], []⟩ S := by
  have e1 : ∀ S, seqK S (eS xs) = true := fun S => rfl
  have e2 : ∀ S, srcOf S (eS xs) = some ⟨xs.map .str, []⟩ := fun S => rfl
  rw [i_enum, h, bind_ok, e1, if_pos rfl, e2, onO_some, ← enum_strs]
theorem ev_textby {base names : List Cs} {ns : List (Nat × Cs × List Cs)} {w : Cs} (hb : base.length ≤ 40) (hn : names.length ≤ 16) (hm : Nms names) (N : Nt base names ns) :
    evF prg (n + 2) 20 [eS base, .tup [], eN ns, .str w] S = .ok (eS ((enumN 0 base).map fun q => tb1 ns w q.1 q.2)) S := by
  have hSL := SL_big
  have hl := N.len
  have hat : ∀ p, ∀ a ∈ at_ p ns, a ∈ ns := fun p a ha => (List.mem_filter.mp ha).1
  have hal : ∀ p, (at_ p ns).length ≤ 1000 := fun p => by have := List.length_filter_le (fun a => decide (a.1 = p)) ns; unfold at_; omega
  have c1 : ∀ (p : Nat) (word : Cs) o7 o8 o9 o10 S, evE prg (evF prg (n + 1)) c_text_by_1 [some (eS base), some (.tup []), some (eN ns), some (.str w), some (.loc 0), some (.int p), some (.str word), o7, o8, o9, o10] S = .ok (.lst (eNs (at_ p ns))) S := fun p word o7 o8 o9 o10 S => by
    have := ev_comp (P := prg) (cf := evF prg (n + 1)) (ρ := [some (eS base), some (.tup []), some (eN ns), some (.str w), some (.loc 0), some (.int p), some (.str word), o7, o8, o9, o10]) (S := S) (m := false) (own := [7]) (tg := .name 7) (it := .of (.var 2)) (cond := .yes (.cmp .eq (.idx (.var 7) (.int 0)) (.var 5))) (elt := .var 7)
      ns (fun p => .tup [.int p.1, .str p.2.1, eS p.2.2]) (fun a => if decide (a.1 = p) then some (.tup [.int a.1, .str a.2.1, eS a.2.2]) else none) (by simp [e_var, eN]) (by omega) fun a ha => by
        by_cases h : a.1 = p
        · subst h; simp [wipeE, e_var]
        · have h' : ((a.1 : Int) == (p : Int)) = false := by simp; omega
          simp [wipeE, e_var, h, h']
    rw [filt_enc] at this
    exact this
  have c2 : ∀ (p : Nat) (word : Cs) o7 o9 o10 S, evE prg (evF prg (n + 1)) c_text_by_2 [some (eS base), some (.tup []), some (eN ns), some (.str w), some (.loc 0), some (.int p), some (.str word), o7, some (.lst (eNs (at_ p ns))), o9, o10] S = .ok (.lst (((at_ p ns).filter fun a => decide (w ∈ a.2.2)).map fun a => .str a.2.1)) S := fun p word o7 o9 o10 S => by
    have := ev_comp (P := prg) (cf := evF prg (n + 1)) (ρ := [some (eS base), some (.tup []), some (eN ns), some (.str w), some (.loc 0), some (.int p), some (.str word), o7, some (.lst (eNs (at_ p ns))), o9, o10]) (S := S) (m := false) (own := [7]) (tg := .name 7) (it := .of (.var 8)) (cond := .yes (.cmp .isIn (.var 3) (.call 17 (.cons (.var 1) (.cons (.idx (.var 7) (.int 2)) .nil))))) (elt := .idx (.var 7) (.int 1))
      (at_ p ns) (fun p => .tup [.int p.1, .str p.2.1, eS p.2.2]) (fun a => if decide (w ∈ a.2.2) then some (.str a.2.1) else none) (by simp [e_var, eNs]) (by have := hal p; omega) fun a ha => by
        have hs : a.2.2.length ≤ 16 := Nat.le_trans (sub_len (up_nodup (N.su a (hat p a ha))) (N.sg a (hat p a ha))) hn
        have hme := ev_meant (S := S) (n := n) (xs := a.2.2) (by omega) (N.su a (hat p a ha))
        have hi := in_strsL (S := S) w a.2.2
        by_cases h : w ∈ a.2.2
        · simp [wipeE, e_var, hme, hi, h]
        · simp [wipeE, e_var, hme, hi, h]
    rw [filt_enc] at this
    exact this
  have c3 : ∀ (p : Nat) (word : Cs) o7 o9 o10 S, evE prg (evF prg (n + 1)) c_text_by_3 [some (eS base), some (.tup []), some (eN ns), some (.str w), some (.loc 0), some (.int p), some (.str word), o7, some (.lst (eNs (at_ p ns))), o9, o10] S = .ok (.lst []) S := fun p word o7 o9 o10 S => by
    have := ev_comp (P := prg) (cf := evF prg (n + 1)) (ρ := [some (eS base), some (.tup []), some (eN ns), some (.str w), some (.loc 0), some (.int p), some (.str word), o7, some (.lst (eNs (at_ p ns))), o9, o10]) (S := S) (m := false) (own := [7]) (tg := .name 7) (it := .of (.var 8)) (cond := .yes (.cmp .eq (.idx (.var 7) (.int 2)) (.tup .nil))) (elt := .idx (.var 7) (.int 1))
      (at_ p ns) (fun p => .tup [.int p.1, .str p.2.1, eS p.2.2]) (fun a => none) (by simp [e_var, eNs]) (by have := hal p; omega) fun a ha => by
        have := eq_empty (S := S) (nms_sub hm (N.sg a (hat p a ha))) (N.s0 a (hat p a ha))
        simp [wipeE, e_var, this]
    simp only [newL_f] at this
    rw [show ((at_ p ns).filterMap fun _ => (none : Option D)) = [] from by simp] at this
    exact this
  have key : ∀ pre (q : Nat × Cs) post ρ S, enumN 0 base = pre ++ q :: post → (∃ o5 o6 o7 o8 o9 o10, ρ = [some (eS base), some (.tup []), some (eN ns), some (.str w), some (.loc 0), o5, o6, o7, o8, o9, o10] ∧ S = [.lst ((pre.map fun q => tb1 ns w q.1 q.2).map .str)]) →
      ∃ ρ1 ρ2 S2, asgT (.tup [(.name 5), (.name 6)]) (.pr [.int q.1, .str q.2]) ρ = some ρ1 ∧ evSs prg (evF prg (n + 1)) w_text_by_1 ρ1 S = .ok (.nx ρ2) S2 ∧ (∃ o5 o6 o7 o8 o9 o10, ρ2 = [some (eS base), some (.tup []), some (eN ns), some (.str w), some (.loc 0), o5, o6, o7, o8, o9, o10] ∧ S2 = [.lst (((pre ++ [q]).map fun q => tb1 ns w q.1 q.2).map .str)]) := by
    rintro pre ⟨p, word⟩ post ρ S e ⟨o5, o6, o7, o8, o9, o10, rfl, rfl⟩
    refine ⟨_, _, _, by simp; rfl, ?_, ⟨some (.int p), some (.str word), o7, some (.lst (eNs (at_ p ns))), some (.lst (((at_ p ns).filter fun a => decide (w ∈ a.2.2)).map fun a => .str a.2.1)), some (.lst []), rfl, rfl⟩⟩
    have hpre : pre.length ≤ 40 := by
      have := congrArg List.length e
      rw [enumN_len] at this
      simp at this
      omega
    have hfl : ((at_ p ns).filter fun a => decide (w ∈ a.2.2)).length ≤ 1000 := by
      have := List.length_filter_le (fun a : Nat × Cs × List Cs => decide (w ∈ a.2.2)) (at_ p ns)
      have := hal p; omega
    have a1 : ∀ S, op2 (binOp .add) (.lst (((at_ p ns).filter fun a => decide (w ∈ a.2.2)).map fun a => D.str a.2.1)) (.lst []) S = .ok (.lst (((at_ p ns).filter fun a => decide (w ∈ a.2.2)).map fun a => D.str a.2.1)) S := fun S => by
      rw [op_addL (by simp; omega), List.append_nil]
    have a2 : ∀ S, op2 (binOp .add) (.lst (((at_ p ns).filter fun a => decide (w ∈ a.2.2)).map fun a => D.str a.2.1)) (.lst [.str word]) S = .ok (.lst ((((at_ p ns).filter fun a => decide (w ∈ a.2.2)).map fun a => D.str a.2.1) ++ [.str word])) S := fun S => op_addL (by simp; omega)
    have a3 : ∀ S, idx2 (.lst ((((at_ p ns).filter fun a => decide (w ∈ a.2.2)).map fun a => D.str a.2.1) ++ [.str word])) (.int 0) S = .ok (.str (tb1 ns w p word)) S := fun S => by
      unfold tb1
      cases hf : (at_ p ns).filter fun a => decide (w ∈ a.2.2) with
      | nil => simp
      | cons a r => simp
    have a4 : ((pre.map fun q => tb1 ns w q.1 q.2).map D.str).length < SL := by simp; omega
    have r1 : recvOk .append (.loc 0) [.lst ((pre.map fun q => tb1 ns w q.1 q.2).map .str)] = true := rfl
    have m1 : evMt .append (.loc 0) [.str (tb1 ns w p word)] [.lst ((pre.map fun q => tb1 ns w q.1 q.2).map .str)] = .ok .non [.lst ((pre.map fun q => tb1 ns w q.1 q.2).map .str ++ [.str (tb1 ns w p word)])] := by
      simp only [evMt, Mt.ro, Mt.dr, evMtO, thing, List.getElem?_cons_zero, Option.map_some, onO_some, mtO, a4, if_true, List.set_cons_zero, Bool.false_eq_true, if_false]
    simp only [List.map_map] at m1 r1
    simp [w_text_by_1, c1, c2, c3, e_var, a1, a2, a3, r1, m1]
  obtain ⟨ρ', S', e, o5, o6, o7, o8, o9, o10, rfl, rfl⟩ := ev_for (P := prg) (cf := evF prg (n + 1)) (ρ := [some (eS base), some (.tup []), some (eN ns), some (.str w), some (.loc 0), none, none, none, none, none, none]) (S := [.lst []]) (tg := .tup [(.name 5), (.name 6)]) (it := .enum (.var 0)) (body := w_text_by_1)
    (fun q : Nat × Cs => .pr [.int q.1, .str q.2]) (enumN 0 base) (fun pre ρ S => ∃ o5 o6 o7 o8 o9 o10, ρ = [some (eS base), some (.tup []), some (eN ns), some (.str w), some (.loc 0), o5, o6, o7, o8, o9, o10] ∧ S = [.lst ((pre.map fun q => tb1 ns w q.1 q.2).map .str)])
    (evi_enum (e_var rfl)) ⟨_, _, _, _, _, _, rfl, rfl⟩ key
  refine evF_pure (np := 4) (nl := 11) (body := b_text_by) rfl rfl (by simp) (by simp) (S' := [.lst (((enumN 0 base).map fun q => tb1 ns w q.1 q.2).map .str)]) ?_
  have ht : ∀ xs : List Cs, evBi .tuple false [.loc 0] [.lst (xs.map .str)] = .ok (eS xs) [.lst (xs.map .str)] := fun xs => bi_tuple_loc rfl
  have ht2 := ht ((enumN 0 base).map fun q => tb1 ns w q.1 q.2)
  simp only [List.map_map] at ht2 e
  simp [b_text_by, envOf, e_var, e, ht2]
end K99
end QF
end

section
namespace QF
namespace K99
variable {S : Sto} {n : Nat}
/-- what is read at a place, ascending -/
def rd (p : Nat) (ts : List (Cs × List Cs)) : List Cs := isort ltS (heads (col p ts))
def nt (p : Nat) (ts : List (Cs × List Cs)) (r : Cs) : Nat × Cs × List Cs := (p, r, grp p ts r)
def pl1 (ts : List (Cs × List Cs)) (p : Nat) (word : Cs) : List (Nat × Cs × List Cs) := ((rd p ts).filter fun r => !(r == word)).map (nt p ts)
def fl1 (ts : List (Cs × List Cs)) (p : Nat) (word : Cs) : List (Nat × Cs × List Cs) := if heads (col p ts) = [word] then [] else (rd p ts).map (nt p ts)
def plainN (base : List Cs) (ts : List (Cs × List Cs)) : List (Nat × Cs × List Cs) := (enumN 0 base).flatMap fun q => pl1 ts q.1 q.2
def fullN (base : List Cs) (ts : List (Cs × List Cs)) : List (Nat × Cs × List Cs) := (enumN 0 base).flatMap fun q => fl1 ts q.1 q.2
theorem rd_mem (p : Nat) (ts : List (Cs × List Cs)) (r : Cs) : r ∈ rd p ts ↔ r ∈ col p ts := by
  unfold rd; rw [(isort_perm totS _).mem_iff, heads_mem]
theorem rd_len (p : Nat) (ts : List (Cs × List Cs)) : (rd p ts).length ≤ ts.length := by
  unfold rd; rw [(isort_perm totS _).length_eq]
  have := heads_len (col p ts)
  simpa [col] using this
theorem enc_nt (a : Nat × Cs × List Cs) : True := trivial
def eA (a : Nat × Cs × List Cs) : D := .tup [.int a.1, .str a.2.1, eS a.2.2]
theorem eNs_eq (ns : List (Nat × Cs × List Cs)) : eNs ns = ns.map eA := rfl
theorem bi_sorted_rows {m : Bool} {p : Nat} {ts : List (Cs × List Cs)} (hl : ts.length ≤ 16) : evBi .sorted m [rowsD p ts] S = newL m ((rd p ts).map .str) S := by
  have h := heads_len (col p ts)
  simp only [col, List.length_map] at h
  have h1 : (heads (col p ts)).length < 64 := by unfold col; omega
  simp only [evBi, drfs_cons, drfs_nil, rowsD, drf_dic, Option.bind_some, biL, List.length_map, h1, if_true, sortD_strs h1]
  rfl
theorem ix_rows {p : Nat} {ts : List (Cs × List Cs)} {r : Cs} (h : r ∈ rd p ts) : idx2 (rowsD p ts) (.str r) S = .ok (rowD p ts r) S := by
  have h2 : r ∈ heads (col p ts) := (heads_mem _ _).mpr ((rd_mem p ts r).mp h)
  simp only [idx2, op1, rowsD, drf_dic, idxD, keyOk, if_true, look_strs, h2, opt_some]
theorem app_to {xs ds : List D} (h : xs.length + ds.length ≤ SL) : augD .add (.loc 0) (.lst ds) [.lst xs] = .ok (.loc 0) [.lst (xs ++ ds)] := by
  simp only [augD, thing, List.getElem?_cons_zero, Option.map_some, onO_some, drf_lst, h, decide_true, if_true, List.set_cons_zero]
theorem fmap_len {α β : Type} {f : α → List β} {k : Nat} : ∀ {xs : List α}, (∀ a ∈ xs, (f a).length ≤ k) → (xs.flatMap f).length ≤ xs.length * k
  | [], _ => by simp
  | a :: xs, h => by
    have h1 := h a List.mem_cons_self
    have h2 := fmap_len (xs := xs) fun b hb => h b (List.mem_cons_of_mem _ hb)
    simp only [List.flatMap_cons, List.length_append, List.length_cons]
    rw [Nat.add_mul]; omega
theorem enum_mem {α : Type} : ∀ {xs : List α} {i : Nat} {q : Nat × α}, q ∈ enumN i xs → i ≤ q.1 ∧ q.1 < i + xs.length ∧ xs[q.1 - i]? = some q.2
  | [], i, q, h => by simp [enumN] at h
  | x :: xs, i, q, h => by
    simp only [enumN, List.mem_cons] at h
    rcases h with rfl | h
    · simp
    · obtain ⟨h1, h2, h3⟩ := enum_mem h
      refine ⟨by omega, by simp only [List.length_cons]; omega, ?_⟩
      have e : q.1 - i = (q.1 - (i + 1)) + 1 := by omega
      rw [e, List.getElem?_cons_succ]; exact h3
theorem pls_nms {xs : List Cs} (h : Nms xs) (m : Nat) : D.pls m (xs.map D.str) = true := by
  induction xs with
  | nil => simp [D.pls]
  | cons a r ih => simp [D.pls, D.pl, okS_nm (h a List.mem_cons_self), ih fun s hs => h s (List.mem_cons_of_mem _ hs)]
theorem eqvs_strs : ∀ (xs ys : List Cs), eqvs (xs.map .str) (ys.map .str) = decide (xs = ys)
  | [], [] => rfl
  | [], y :: ys => rfl
  | x :: xs, [] => rfl
  | x :: xs, y :: ys => by
    simp only [List.map_cons, eqvs, eqv_ss, eqvs_strs xs ys, List.cons.injEq]
    by_cases h : x = y <;> simp [h]
theorem ne_strsL {xs ys : List Cs} (hx : Nms xs) (hy : Nms ys) : op2 (cmp2 .ne) (.lst (xs.map .str)) (.lst (ys.map .str)) S = .ok (.bl (!decide (xs = ys))) S := by
  have h2 : (D.lst (xs.map .str)).pln = true := by simp [D.pl, pls_nms hx]
  have h3 : (D.lst (ys.map .str)).pln = true := by simp [D.pl, pls_nms hy]
  simp only [op2, drf_lst, cmp2, cmpD, eqOk, h2, h3, Bool.and_self, Bool.or_true, if_true, eqv, eqvs_strs, Option.map_some, opt_some]
theorem eq_strsT {xs ys : List Cs} (hx : Nms xs) (hy : Nms ys) : op2 (cmp2 .eq) (eS xs) (eS ys) S = .ok (.bl (decide (xs = ys))) S := by
  have h2 : (D.tup (xs.map .str)).pln = true := by simp [D.pl, pls_nms hx]
  have h3 : (D.tup (ys.map .str)).pln = true := by simp [D.pl, pls_nms hy]
  simp only [eS, op2, drf_tup, cmp2, cmpD, eqOk, h2, h3, Bool.and_self, Bool.or_true, if_true, eqv, eqvs_strs, Option.map_some, opt_some]
theorem Tx.wdn {base : List Cs} {texts : List (Cs × List Cs)} (T : Tx base texts) {p : Nat} (hp : p < base.length) {q : Cs × List Cs} (hq : q ∈ texts) : nmB (wd p q) = true := by
  have h : p < q.2.length := by rw [T.tw q hq]; exact hp
  have : wd p q = q.2[p] := by simp [wd, List.getD, h]
  rw [this]
  exact T.tr q hq _ (List.getElem_mem h)
theorem Tx.coln {base : List Cs} {texts : List (Cs × List Cs)} (T : Tx base texts) {p : Nat} (hp : p < base.length) : Nms (col p texts) := fun s hs => by
  obtain ⟨q, hq, rfl⟩ := List.mem_map.mp hs
  exact T.wdn hp hq
theorem ev_plain {base : List Cs} {texts : List (Cs × List Cs)} (T : Tx base texts) : evF prg (n + 5) 22 [eS base, eT texts] S = .ok (eN (plainN base texts)) S := by
  have hSL := SL_big
  have hl := T.tl
  have hb := T.bl
  have hpl : ∀ q : Nat × Cs, (pl1 texts q.1 q.2).length ≤ 16 := fun q => by
    have h1 := rd_len q.1 texts
    have h2 := List.length_filter_le (fun r => !(r == q.2)) (rd q.1 texts)
    simp only [pl1, List.length_map]; omega
  have c1 : ∀ (p : Nat) (word : Cs) o6 S, evE prg (evF prg (n + 4)) c_plain_notes_1 [some (eS base), some (eT texts), some (.loc 0), some (.int p), some (.str word), some (rowsD p texts), o6] S = .ok (.lst ((pl1 texts p word).map eA)) S := fun p word o6 S => by
    have := ev_comp (P := prg) (cf := evF prg (n + 4)) (ρ := [some (eS base), some (eT texts), some (.loc 0), some (.int p), some (.str word), some (rowsD p texts), o6]) (S := S) (m := false) (own := [6]) (tg := .name 6) (it := .of (.bi .sorted false (.cons (.var 5) .nil))) (cond := .yes (.cmp .ne (.var 6) (.var 4))) (elt := .tup (.cons (.var 3) (.cons (.var 6) (.cons (.bi .tuple false (.cons (.idx (.var 5) (.var 6)) .nil)) .nil))))
      (rd p texts) .str (fun r => if !(r == word) then some (eA (nt p texts r)) else none) (by simp [e_var, bi_sorted_rows hl]) (by have := rd_len p texts; omega) fun r hr => by
        have hi := ix_rows (S := S) hr
        by_cases h : r = word
        · subst h; simp [wipeE, e_var]
        · have h' : (r == word) = false := by simpa using h
          simp [wipeE, e_var, h', hi, rowD, eA, nt, eS]
    rw [filt_enc] at this
    simp only [pl1, List.map_map]
    exact this
  have key : ∀ pre (q : Nat × Cs) post ρ S, enumN 0 base = pre ++ q :: post → (∃ o3 o4 o5 o6, ρ = [some (eS base), some (eT texts), some (.loc 0), o3, o4, o5, o6] ∧ S = [.lst ((pre.flatMap fun q => pl1 texts q.1 q.2).map eA)]) →
      ∃ ρ1 ρ2 S2, asgT (.tup [(.name 3), (.name 4)]) (.pr [.int q.1, .str q.2]) ρ = some ρ1 ∧ evSs prg (evF prg (n + 4)) w_plain_notes_1 ρ1 S = .ok (.nx ρ2) S2 ∧ (∃ o3 o4 o5 o6, ρ2 = [some (eS base), some (eT texts), some (.loc 0), o3, o4, o5, o6] ∧ S2 = [.lst (((pre ++ [q]).flatMap fun q => pl1 texts q.1 q.2).map eA)]) := by
    rintro pre ⟨p, word⟩ post ρ S e ⟨o3, o4, o5, o6, rfl, rfl⟩
    refine ⟨_, _, _, by simp; rfl, ?_, ⟨some (.int p), some (.str word), some (rowsD p texts), o6, rfl, rfl⟩⟩
    have hpre : pre.length ≤ 40 := by
      have := congrArg List.length e
      rw [enumN_len] at this
      simp at this
      omega
    have hp : p < base.length := by
      have := enum_mem (q := (p, word)) (xs := base) (i := 0) (by rw [e]; simp)
      simpa using this.2.1
    have hrows := fun S => ev_rows (S := S) (n := n + 3) (p := p) hl fun q hq => by rw [T.tw q hq]; exact hp
    have a1 := app_to (xs := (pre.flatMap fun q => pl1 texts q.1 q.2).map eA) (ds := (pl1 texts p word).map eA) (by
      have h1 := fmap_len (xs := pre) (k := 16) fun q _ => hpl q
      have h2 : (pl1 texts p word).length ≤ 16 := hpl (p, word)
      have h3 : pre.length * 16 ≤ 40 * 16 := Nat.mul_le_mul_right _ hpre
      simp only [List.length_map]
      omega)
    simp [w_plain_notes_1, e_var, hrows, c1, a1]
  obtain ⟨ρ', S', e, o3, o4, o5, o6, rfl, rfl⟩ := ev_for (P := prg) (cf := evF prg (n + 4)) (ρ := [some (eS base), some (eT texts), some (.loc 0), none, none, none, none]) (S := [.lst []]) (tg := .tup [(.name 3), (.name 4)]) (it := .enum (.var 0)) (body := w_plain_notes_1)
    (fun q : Nat × Cs => .pr [.int q.1, .str q.2]) (enumN 0 base) (fun pre ρ S => ∃ o3 o4 o5 o6, ρ = [some (eS base), some (eT texts), some (.loc 0), o3, o4, o5, o6] ∧ S = [.lst ((pre.flatMap fun q => pl1 texts q.1 q.2).map eA)])
    (evi_enum (e_var rfl)) ⟨_, _, _, _, rfl, rfl⟩ key
  refine evF_pure (np := 2) (nl := 7) (body := b_plain_notes) rfl rfl (by simp) (by simp) (S' := [.lst ((plainN base texts).map eA)]) ?_
  have ht : ∀ S, S = [O.lst ((plainN base texts).map eA)] → evBi .tuple false [.loc 0] S = .ok (eN (plainN base texts)) S := fun S h => by subst h; exact bi_tuple_loc rfl
  have ht := ht _ rfl
  have n1 := fun S => need_base (S := S) (n := n + 1) T.b0 T.bl T.bn
  have n2 := fun S => need_texts (S := S) (n := n) T
  change _ = Res.ok _ [O.lst ((plainN base texts).map eA)] at e
  simp [b_plain_notes, envOf, e_var, n1, n2, e, ht]
theorem ev_full {base : List Cs} {texts : List (Cs × List Cs)} (T : Tx base texts) : evF prg (n + 5) 23 [eS base, eT texts] S = .ok (eN (fullN base texts)) S := by
  have hSL := SL_big
  have hl := T.tl
  have hb := T.bl
  have hpl : ∀ q : Nat × Cs, (fl1 texts q.1 q.2).length ≤ 16 := fun q => by
    have h1 := rd_len q.1 texts
    unfold fl1
    split <;> simp <;> omega
  have c1 : ∀ (p : Nat) (word : Cs) o6 S, evE prg (evF prg (n + 4)) c_full_notes_1 [some (eS base), some (eT texts), some (.loc 0), some (.int p), some (.str word), some (rowsD p texts), o6] S = .ok (.lst (((rd p texts).map (nt p texts)).map eA)) S := fun p word o6 S => by
    have := ev_compM (P := prg) (cf := evF prg (n + 4)) (ρ := [some (eS base), some (eT texts), some (.loc 0), some (.int p), some (.str word), some (rowsD p texts), o6]) (S := S) (m := false) (own := [6]) (tg := .name 6) (it := .of (.bi .sorted false (.cons (.var 5) .nil))) (elt := .tup (.cons (.var 3) (.cons (.var 6) (.cons (.bi .tuple false (.cons (.idx (.var 5) (.var 6)) .nil)) .nil))))
      (rd p texts) .str (fun r => eA (nt p texts r)) (by simp [e_var, bi_sorted_rows hl]) (by have := rd_len p texts; omega) fun r hr => by
        have hi := ix_rows (S := S) hr
        simp [wipeE, e_var, hi, rowD, eA, nt, eS]
    rw [List.map_map]
    exact this
  have key : ∀ pre (q : Nat × Cs) post ρ S, enumN 0 base = pre ++ q :: post → (∃ o3 o4 o5 o6, ρ = [some (eS base), some (eT texts), some (.loc 0), o3, o4, o5, o6] ∧ S = [.lst ((pre.flatMap fun q => fl1 texts q.1 q.2).map eA)]) →
      ∃ ρ1 ρ2 S2, asgT (.tup [(.name 3), (.name 4)]) (.pr [.int q.1, .str q.2]) ρ = some ρ1 ∧ evSs prg (evF prg (n + 4)) w_full_notes_1 ρ1 S = .ok (.nx ρ2) S2 ∧ (∃ o3 o4 o5 o6, ρ2 = [some (eS base), some (eT texts), some (.loc 0), o3, o4, o5, o6] ∧ S2 = [.lst (((pre ++ [q]).flatMap fun q => fl1 texts q.1 q.2).map eA)]) := by
    rintro pre ⟨p, word⟩ post ρ S e ⟨o3, o4, o5, o6, rfl, rfl⟩
    refine ⟨_, _, _, by simp; rfl, ?_, ⟨some (.int p), some (.str word), some (rowsD p texts), o6, rfl, rfl⟩⟩
    have hpre : pre.length ≤ 40 := by
      have := congrArg List.length e
      rw [enumN_len] at this
      simp at this
      omega
    have hp : p < base.length := by
      have := enum_mem (q := (p, word)) (xs := base) (i := 0) (by rw [e]; simp)
      simpa using this.2.1
    have hrows := fun S => ev_rows (S := S) (n := n + 3) (p := p) hl fun q hq => by rw [T.tw q hq]; exact hp
    have a1 := app_to (xs := (pre.flatMap fun q => fl1 texts q.1 q.2).map eA) (ds := (fl1 texts p word).map eA) (by
      have h1 := fmap_len (xs := pre) (k := 16) fun q _ => hpl q
      have h2 : (fl1 texts p word).length ≤ 16 := hpl (p, word)
      have h3 : pre.length * 16 ≤ 40 * 16 := Nat.mul_le_mul_right _ hpre
      simp only [List.length_map]
      omega)
    have hls : ∀ S, evBi .list false [rowsD p texts] S = .ok (.lst ((heads (col p texts)).map .str)) S := fun S => rfl
    have hbw : nmB word = true := by
      have := enum_mem (q := (p, word)) (xs := base) (i := 0) (by rw [e]; simp)
      exact T.bn word (List.mem_of_getElem? this.2.2)
    have hne := fun S => ne_strsL (S := S) (xs := heads (col p texts)) (ys := [word]) (fun s hs => T.coln hp s ((heads_mem _ _).mp hs)) (fun s hs => by simp only [List.mem_singleton] at hs; subst hs; exact hbw)
    simp only [List.map_cons, List.map_nil] at hne
    by_cases h : heads (col p texts) = [word]
    · have h2 : fl1 texts p word = [] := by unfold fl1; rw [if_pos h]
      have hd : decide (heads (col p texts) = [word]) = true := decide_eq_true h
      rw [hd] at hne
      simp [w_full_notes_1, e_var, hrows, hls, hne, h2]
    · have h2 : fl1 texts p word = (rd p texts).map (nt p texts) := by unfold fl1; rw [if_neg h]
      have hd : decide (heads (col p texts) = [word]) = false := decide_eq_false h
      rw [hd] at hne
      rw [h2] at a1
      simp only [List.map_map] at a1 c1
      simp [w_full_notes_1, e_var, hrows, hls, hne, h2, c1, a1]
  obtain ⟨ρ', S', e, o3, o4, o5, o6, rfl, rfl⟩ := ev_for (P := prg) (cf := evF prg (n + 4)) (ρ := [some (eS base), some (eT texts), some (.loc 0), none, none, none, none]) (S := [.lst []]) (tg := .tup [(.name 3), (.name 4)]) (it := .enum (.var 0)) (body := w_full_notes_1)
    (fun q : Nat × Cs => .pr [.int q.1, .str q.2]) (enumN 0 base) (fun pre ρ S => ∃ o3 o4 o5 o6, ρ = [some (eS base), some (eT texts), some (.loc 0), o3, o4, o5, o6] ∧ S = [.lst ((pre.flatMap fun q => fl1 texts q.1 q.2).map eA)])
    (evi_enum (e_var rfl)) ⟨_, _, _, _, rfl, rfl⟩ key
  refine evF_pure (np := 2) (nl := 7) (body := b_full_notes) rfl rfl (by simp) (by simp) (S' := [.lst ((fullN base texts).map eA)]) ?_
  have ht : ∀ S, S = [O.lst ((fullN base texts).map eA)] → evBi .tuple false [.loc 0] S = .ok (eN (fullN base texts)) S := fun S h => by subst h; exact bi_tuple_loc rfl
  have ht := ht _ rfl
  have n1 := fun S => need_base (S := S) (n := n + 1) T.b0 T.bl T.bn
  have n2 := fun S => need_texts (S := S) (n := n) T
  change _ = Res.ok _ [O.lst ((fullN base texts).map eA)] at e
  simp [b_full_notes, envOf, e_var, n1, n2, e, ht]
end K99
end QF
end

section
namespace QF
namespace K99
variable {S : Sto} {n : Nat}
/-- the witnesses' names -/
def nms (ts : List (Cs × List Cs)) : List Cs := ts.map (·.1)
theorem Tx.nn {base : List Cs} {texts : List (Cs × List Cs)} (T : Tx base texts) : Nms (nms texts) := fun s hs => by
  obtain ⟨q, hq, rfl⟩ := List.mem_map.mp hs; exact T.tn q hq
theorem Tx.n0 {base : List Cs} {texts : List (Cs × List Cs)} (T : Tx base texts) : nms texts ≠ [] := by
  have := T.t0; simpa [nms] using this
theorem Tx.nl {base : List Cs} {texts : List (Cs × List Cs)} (T : Tx base texts) : (nms texts).length ≤ 16 := by
  have := T.tl; simpa [nms] using this
theorem ev_are {base : List Cs} {texts : List (Cs × List Cs)} {ns : List (Nat × Cs × List Cs)} (T : Tx base texts) (N : Nt base (nms texts) ns) : evF prg (n + 5) 24 [eS base, eS (nms texts), .tup [], eN ns] S = .ok (.bl true) S := by
  refine evF_pure (np := 4) (nl := 4) (body := b_are_notes) rfl rfl (by simp) rfl (S' := []) ?_
  have n1 := fun S => need_base (S := S) (n := n + 1) T.b0 T.bl T.bn
  have n2 := fun S => need_few (S := S) (n := n + 1) T.n0 T.nl T.nn T.tu
  have n3 := fun S => need_groups (S := S) (n := n + 1) (xs := nms texts)
  have n4 := fun S => ev_notes (S := S) (n := n) T.bl T.nl T.nn N
  simp [b_are_notes, envOf, e_var, n1, n2, n3, n4]
theorem ev_textsby {base : List Cs} {texts : List (Cs × List Cs)} {ns : List (Nat × Cs × List Cs)} (T : Tx base texts) (N : Nt base (nms texts) ns) : evF prg (n + 5) 25 [eS base, eS (nms texts), .tup [], eN ns] S =
    .ok (eT ((nms texts).map fun w => (w, (enumN 0 base).map fun q => tb1 ns w q.1 q.2))) S := by
  have hSL := SL_big
  refine evF_pure (np := 4) (nl := 5) (body := b_texts_by) rfl rfl (by simp) (by simp) (S' := []) ?_
  have n1 := fun S => need_base (S := S) (n := n + 1) T.b0 T.bl T.bn
  have n2 := fun S => need_few (S := S) (n := n + 1) T.n0 T.nl T.nn T.tu
  have n3 := fun S => need_groups (S := S) (n := n + 1) (xs := nms texts)
  have n4 := fun S => ev_notes (S := S) (n := n) T.bl T.nl T.nn N
  have c1 : ∀ o4, evE prg (evF prg (n + 4)) c_texts_by_1 [some (eS base), some (eS (nms texts)), some (.tup []), some (eN ns), o4] [] = .ok (.lst ((nms texts).map fun w => .tup [.str w, eS ((enumN 0 base).map fun q => tb1 ns w q.1 q.2)])) [] := fun o4 =>
    ev_compM (nms texts) .str _ (by simp [e_var, eS]) (by have := T.nl; omega) fun w hw => by
      have := ev_textby (S := []) (n := n + 2) (w := w) T.bl T.nl T.nn N
      simp [wipeE, e_var, this]
  simp [b_texts_by, envOf, e_var, n1, n2, n3, n4, c1, eT]
def sizeN (ns : List (Nat × Cs × List Cs)) : Int := (ns.map fun a => max (1 : Int) (a.2.2.length : Nat)).sum
theorem ev_size {ns : List (Nat × Cs × List Cs)} (hl : ns.length ≤ 1000) : evF prg (n + 1) 21 [eN ns] S = .ok (.int (sizeN ns)) S := by
  have hSL := SL_big
  refine evF_pure (np := 1) (nl := 4) (body := b_size_of) rfl rfl (by simp) rfl (S' := []) ?_
  have c1 : ∀ o1 o2 o3, evE prg (evF prg n) c_size_of_1 [some (eN ns), o1, o2, o3] [] = .ok (.lst (ns.map fun a => .int (max (1 : Int) (a.2.2.length : Nat)))) [] := fun o1 o2 o3 =>
    ev_compM ns (fun p => .tup [.int p.1, .str p.2.1, eS p.2.2]) _ (by simp [e_var, eN]) (by omega) fun a ha => by
      have h : ∀ S, evBi .len false [eS a.2.2] S = .ok (.int a.2.2.length) S := fun S => by simp [eS]
      have h2 : (if (1 : Int) < (a.2.2.length : Int) then (a.2.2.length : Int) else 1) = max (1 : Int) (a.2.2.length : Nat) := by
        split <;> omega
      simp [wipeE, e_var, h, h2]
  have h := bi_sum_m (S := []) (m := false) ns fun a => max (1 : Int) (a.2.2.length : Nat)
  simp [b_size_of, envOf, e_var, c1, h, sizeN]
theorem ev_nsize {base : List Cs} {texts : List (Cs × List Cs)} {ns : List (Nat × Cs × List Cs)} (T : Tx base texts) (N : Nt base (nms texts) ns) : evF prg (n + 5) 26 [eS base, eS (nms texts), .tup [], eN ns] S = .ok (.int (sizeN ns)) S := by
  refine evF_pure (np := 4) (nl := 4) (body := b_notes_size) rfl rfl (by simp) rfl (S' := []) ?_
  have n1 := fun S => need_base (S := S) (n := n + 1) T.b0 T.bl T.bn
  have n2 := fun S => need_few (S := S) (n := n + 1) T.n0 T.nl T.nn T.tu
  have n3 := fun S => need_groups (S := S) (n := n + 1) (xs := nms texts)
  have n4 := fun S => ev_notes (S := S) (n := n) T.bl T.nl T.nn N
  have n5 := fun S => ev_size (S := S) (n := n + 3) N.len
  simp [b_notes_size, envOf, e_var, n1, n2, n3, n4, n5]
theorem ev_tell {base : List Cs} {texts : List (Cs × List Cs)} {ns : List (Nat × Cs × List Cs)} (T : Tx base texts) (N : Nt base (nms texts) ns) (hw : ∀ q ∈ texts, ((enumN 0 base).map fun p => tb1 ns q.1 p.1 p.2) = q.2) :
    evF prg (n + 5) 27 [eS base, eT texts, .tup [], eN ns] S = .ok (.bl true) S := by
  have hSL := SL_big
  refine evF_pure (np := 4) (nl := 6) (body := b_tell_texts) rfl rfl (by simp) rfl (S' := []) ?_
  have n1 := fun S => need_base (S := S) (n := n + 1) T.b0 T.bl T.bn
  have n2 := fun S => need_texts (S := S) (n := n) T
  have n3 := fun S => need_groups (S := S) (n := n + 1) (xs := nms texts)
  have n4 := fun S => ev_notes (S := S) (n := n) T.bl T.nl T.nn N
  have n5 : ∀ S, evF prg (n + 4) 15 [eT texts] S = .ok (eS (nms texts)) S := fun S => ev_names (S := S) (n := n + 3) T.tl
  have c1 : ∀ o4 o5, evE prg (evF prg (n + 4)) c_tell_texts_1 [some (eS base), some (eT texts), some (.tup []), some (eN ns), o4, o5] [] = .ok (.lst (texts.map fun _ => .bl true)) [] := fun o4 o5 =>
    ev_compM texts (fun p => .tup [.str p.1, eS p.2]) _ (by simp [e_var, eT]) (by have := T.tl; omega) fun q hq => by
      have h1 := ev_textby (S := []) (n := n + 2) (w := q.1) T.bl T.nl T.nn N
      rw [hw q hq] at h1
      have h2 := eq_strsT (S := []) (T.tr q hq) (T.tr q hq)
      simp [wipeE, e_var, h1, h2]
  simp [b_tell_texts, envOf, e_var, n1, n2, n3, n4, n5, c1]
end K99
end QF
end

section
namespace QF
namespace K99
variable {S : Sto} {n : Nat}
theorem put_new (ts : List (Cs × List Cs)) (q : Cs × List Cs) (h : q.1 ∉ nms ts) : put (.str q.1) (eS q.2) (ts.map fun q => .str q.1) (ts.map fun q => eS q.2) = ((ts ++ [q]).map (fun q => .str q.1), (ts ++ [q]).map fun q => eS q.2) := by
  unfold put
  have : ((ts.map fun q => D.str q.1).any fun x => eqv x (.str q.1)) = false := by
    rw [show (ts.map fun q => D.str q.1) = (nms ts).map .str by simp [nms], any_strs]
    exact decide_eq_false h
  rw [this]
  simp
theorem putAll_aux : ∀ (ts pre : List (Cs × List Cs)), (nms (pre ++ ts)).Nodup → (ts.map fun q => (D.str q.1, eS q.2)).foldl (fun acc p => put p.1 p.2 acc.1 acc.2) (pre.map (fun q => D.str q.1), pre.map fun q => eS q.2) = ((pre ++ ts).map (fun q => D.str q.1), (pre ++ ts).map fun q => eS q.2)
  | [], pre, _ => by simp
  | q :: ts, pre, h => by
    have hq : q.1 ∉ nms pre := fun hm => by
      simp only [nms, List.map_append, List.nodup_append] at h
      exact h.2.2 _ hm _ (by simp) rfl
    simp only [List.map_cons, List.foldl_cons, put_new pre q hq]
    have := putAll_aux ts (pre ++ [q]) (by simpa using h)
    rw [this]
    simp
theorem putAll_texts {ts : List (Cs × List Cs)} (h : (nms ts).Nodup) : putAll (ts.map fun q => (D.str q.1, eS q.2)) = (ts.map (fun q => D.str q.1), ts.map fun q => eS q.2) := by
  have := putAll_aux ts [] (by simpa using h)
  simpa [putAll] using this
theorem keyOks_strs (xs : List Cs) : keyOks (xs.map .str) = true := by
  induction xs with
  | nil => rfl
  | cons a r ih => simp [keyOks, keyOk, ih]
theorem pairs_texts (ts : List (Cs × List Cs)) : allOf pairOf (ts.map fun q => D.tup [.str q.1, eS q.2]) = some (ts.map fun q => (D.str q.1, eS q.2)) := allOf_map (f := pairOf) (e := fun q : Cs × List Cs => D.tup [.str q.1, eS q.2]) (g := fun q => (D.str q.1, eS q.2)) (fun _ => rfl) ts
def tabO (ts : List (Cs × List Cs)) : O := .dic false (ts.map fun q => .str q.1) (ts.map fun q => eS q.2)
theorem bi_dictT {m : Bool} {ts : List (Cs × List Cs)} (h : (nms ts).Nodup) : evBi .dictT m [eT ts] S = .ok (.loc S.length) (S ++ [tabO ts]) := by
  have hk : keyOks ((ts.map fun q => (D.str q.1, eS q.2)).map (·.1)) = true := by
    have := keyOks_strs (nms ts)
    simpa [nms, Function.comp_def] using this
  simp only [evBi, eT, drfs_cons, drfs_nil, drf_tup, Option.bind_some, biDic, pairs_texts, hk, if_true, putAll_texts h]
  rfl
theorem bi_dictL {m : Bool} {ts : List (Cs × List Cs)} (h : (nms ts).Nodup) : evBi .dict m [.lst (ts.map fun q => .tup [.str q.1, eS q.2])] S = .ok (.loc S.length) (S ++ [tabO ts]) := by
  have hk : keyOks ((ts.map fun q => (D.str q.1, eS q.2)).map (·.1)) = true := by
    have := keyOks_strs (nms ts)
    simpa [nms, Function.comp_def] using this
  simp only [evBi, drfs_cons, drfs_nil, drf_lst, Option.bind_some, biDic, pairs_texts, hk, if_true, putAll_texts h]
  rfl
theorem look_texts : ∀ {ts : List (Cs × List Cs)} {q : Cs × List Cs}, (nms ts).Nodup → q ∈ ts → look (.str q.1) (ts.map fun q => .str q.1) (ts.map fun q => eS q.2) = some (eS q.2)
  | [], q, _, h => by simp at h
  | a :: ts, q, hn, h => by
    simp only [nms, List.map_cons, List.nodup_cons] at hn
    simp only [List.map_cons, look, eqv_ss]
    rcases List.mem_cons.mp h with rfl | h
    · simp
    · have : (a.1 == q.1) = false := by
        simp only [beq_eq_false_iff_ne]
        exact fun e => hn.1 (by rw [e]; exact List.mem_map_of_mem h)
      rw [this]
      exact look_texts hn.2 h
theorem ix_tab {ts : List (Cs × List Cs)} {q : Cs × List Cs} {k : Nat} (hS : S[k]? = some (tabO ts)) (hn : (nms ts).Nodup) (h : q ∈ ts) : idx2 (.loc k) (.str q.1) S = .ok (eS q.2) S := by
  simp only [idx2, op1, drf_locD hS, idxD, keyOk, if_true, look_texts hn h, opt_some]
theorem ne_ss' (i j : Cs) : op2 (cmp2 .ne) (.str i) (.str j) S = .ok (.bl (!(i == j))) S := cm_ne_ss i j
/-- the places where two part -/
def parts (m : Nat) (q r : Cs × List Cs) : List Nat := (List.range m).filter fun p => !(wd p q == wd p r)
def eI (xs : List Nat) : D := .tup (xs.map fun (x : Nat) => .int (x : Int))
@[simp] theorem flat_eI (xs : List Nat) : (eI xs).flat = true := by unfold eI; rw [flat_tup]; exact flats_map fun _ _ => rfl
theorem notin_strs (x : Cs) (xs : List Cs) : op2 (cmp2 .notIn) (.str x) (eS xs) S = .ok (.bl (!decide (x ∈ xs))) S := by
  have h : (xs.map D.str).all D.flt = true := by simp [D.flt]
  simp only [eS, op2, drf_str, drf_tup, cmp2, cmpD, inD, h, D.flt, Bool.and_self, Bool.true_or, if_true, any_strs, Option.map_some, opt_some]
theorem ev_unlike {base : List Cs} {texts : List (Cs × List Cs)} {q r : Cs × List Cs} (T : Tx base texts) (hq : q ∈ texts) (hr : r ∈ texts) : evF prg (n + 5) 28 [eS base, eT texts, .str q.1, .str r.1] S = .ok (eI (parts base.length q r)) S := by
  have hSL := SL_big
  have hb := T.bl
  have n1 := fun S => need_base (S := S) (n := n + 1) T.b0 T.bl T.bn
  have n2 := fun S => need_texts (S := S) (n := n) T
  have n5 : ∀ S, evF prg (n + 4) 15 [eT texts] S = .ok (eS (nms texts)) S := fun S => ev_names (S := S) (n := n + 3) T.tl
  have hqn : q.1 ∈ nms texts := List.mem_map_of_mem hq
  have hrn : r.1 ∈ nms texts := List.mem_map_of_mem hr
  have key : ∀ pre (s : Cs) post ρ S, [q.1, r.1] = pre ++ s :: post → (∃ o4 o5 o6, ρ = [some (eS base), some (eT texts), some (.str q.1), some (.str r.1), o4, o5, o6] ∧ S = ([] : Sto)) →
      ∃ ρ1 ρ2 S2, asgT (.name 4) (.str s) ρ = some ρ1 ∧ evSs prg (evF prg (n + 4)) w_unlike_places_1 ρ1 S = .ok (.nx ρ2) S2 ∧ (∃ o4 o5 o6, ρ2 = [some (eS base), some (eT texts), some (.str q.1), some (.str r.1), o4, o5, o6] ∧ S2 = ([] : Sto)) := by
    rintro pre s post ρ S e ⟨o4, o5, o6, rfl, rfl⟩
    have hs : s ∈ nms texts := by
      have : s ∈ [q.1, r.1] := by rw [e]; simp
      simp only [List.mem_cons, List.not_mem_nil, or_false] at this
      rcases this with rfl | rfl
      · exact hqn
      · exact hrn
    refine ⟨_, _, _, by simp; rfl, ?_, ⟨some (.str s), o5, o6, rfl, rfl⟩⟩
    simp [w_unlike_places_1, e_var, n5, notin_strs, hs]
  obtain ⟨ρ', S', e, o4, o5, o6, rfl, rfl⟩ := ev_for (P := prg) (cf := evF prg (n + 4)) (ρ := [some (eS base), some (eT texts), some (.str q.1), some (.str r.1), none, none, none]) (S := []) (tg := .name 4) (it := .of (.tup (.cons (.var 2) (.cons (.var 3) .nil)))) (body := w_unlike_places_1)
    D.str [q.1, r.1] (fun pre ρ S => ∃ o4 o5 o6, ρ = [some (eS base), some (eT texts), some (.str q.1), some (.str r.1), o4, o5, o6] ∧ S = ([] : Sto))
    (by simp [e_var]) ⟨_, _, _, rfl, rfl⟩ key
  have hnd : (nms texts).Nodup := up_nodup T.tu
  have hdict := bi_dictT (S := []) (m := false) hnd
  have hlen : ∀ S, evBi .len false [eS base] S = .ok (.int base.length) S := fun S => by simp [eS]
  have c1 : ∀ o4 o6, evE prg (evF prg (n + 4)) c_unlike_places_1 [some (eS base), some (eT texts), some (.str q.1), some (.str r.1), o4, some (.loc 0), o6] [tabO texts] = .ok (.lst ((parts base.length q r).map fun (p : Nat) => .int (p : Int))) [tabO texts] := fun o4 o6 => by
    have := ev_comp (P := prg) (cf := evF prg (n + 4)) (ρ := [some (eS base), some (eT texts), some (.str q.1), some (.str r.1), o4, some (.loc 0), o6]) (S := [tabO texts]) (m := false) (own := [6]) (tg := .name 6) (it := .rng1 (.bi .len false (.cons (.var 0) .nil))) (cond := .yes (.cmp .ne (.idx (.idx (.var 5) (.var 2)) (.var 6)) (.idx (.idx (.var 5) (.var 3)) (.var 6)))) (elt := .var 6)
      (List.range base.length) (fun p : Nat => .int (p : Int)) (fun p => if !(wd p q == wd p r) then some (.int (p : Int)) else none) (ev_rng1 (by simp [e_var, hlen]) (by omega)) (by simp; omega) fun p hp => by
        have hp := List.mem_range.mp hp
        have h1 := ix_tab (S := [tabO texts]) (k := 0) rfl hnd hq
        have h2 := ix_tab (S := [tabO texts]) (k := 0) rfl hnd hr
        have h3 := wd_at (S := [tabO texts]) (p := p) (q := q) (by rw [T.tw q hq]; exact hp)
        have h4 := wd_at (S := [tabO texts]) (p := p) (q := r) (by rw [T.tw r hr]; exact hp)
        by_cases h : wd p q = wd p r
        · simp [wipeE, e_var, h1, h2, h3, h4, h]
        · have h' : (wd p q == wd p r) = false := by simpa using h
          simp [wipeE, e_var, h1, h2, h3, h4, h']
    rw [filt_enc] at this
    exact this
  refine evF_pure (np := 4) (nl := 7) (body := b_unlike_places) rfl rfl (by simp) (by simp) (S' := [tabO texts]) ?_
  simp only [List.length_nil, List.nil_append] at hdict
  simp [b_unlike_places, envOf, e_var, n1, n2, e, hdict, c1, eI]
end K99
end QF
end

section
namespace QF
namespace K99
variable {S : Sto} {n : Nat}
def rdg : Cs := [114, 101, 97, 100, 105, 110, 103]
theorem nm_rdg : nmB rdg = true := by decide +kernel
/-- a page: one trait, a word as its form -/
def pg (w : Cs) : D := .tup [.tup [.str rdg, .str w]]
def eP (ws : List Cs) : D := .tup (ws.map pg)
@[simp] theorem flat_pg (w : Cs) : (pg w).flat = true := by simp [pg]
theorem flats_pg (ws : List Cs) : D.flats (ws.map pg) = true := flats_map fun _ _ => flat_pg _
@[simp] theorem flat_eP (ws : List Cs) : (eP ws).flat = true := by unfold eP; rw [flat_tup]; exact flats_pg ws
theorem ris_one (a : D) : Ris [a] := fun p hp => by simp at hp
theorem ev_page {w : Cs} (h : nmB w = true) : evF prg (n + 2) 29 [pg w] S = .ok (.bl true) S := by
  refine evF_pure (np := 1) (nl := 4) (body := b_fits_page) rfl rfl (by simp) rfl (S' := []) ?_
  have g : prg.glo[8]? = some (.int 6) := rfl
  have h1 := fun S => ev_istup (S := S) (n := n) [.tup [.str rdg, .str w]] 0 6 (by simp)
  have h2 := fun S => ev_istup (S := S) (n := n) [.str rdg, .str w] 2 2 (by simp)
  have c1 : ∀ o1 o2 o3, evE prg (evF prg (n + 1)) c_fits_page_1 [some (pg w), o1, o2, o3] [] = .ok (.lst ([w].map fun _ => .bl true)) [] := fun o1 o2 o3 =>
    ev_compM [w] (fun w => .tup [.str rdg, .str w]) _ (by simp [e_var, pg]) (by have := SL_big; simp; omega) fun v hv => by
      simp only [List.mem_singleton] at hv; subst hv
      simp [wipeE, e_var, h2]
  have c2 : ∀ o1 o2 o3, evE prg (evF prg (n + 1)) c_fits_page_2 [some (pg w), o1, o2, o3] [] = .ok (.lst ([w].map fun _ => .bl true)) [] := fun o1 o2 o3 =>
    ev_compM [w] (fun w => .tup [.str rdg, .str w]) _ (by simp [e_var, pg]) (by have := SL_big; simp; omega) fun v hv => by
      simp only [List.mem_singleton] at hv; subst hv
      simp [wipeE, e_var, ev_name _ h, ev_name _ nm_rdg]
  have c3 : ∀ o1 o2 o3, evE prg (evF prg (n + 1)) c_fits_page_3 [some (pg w), o1, o2, o3] [] = .ok (.lst ([w].map fun _ => .str rdg)) [] := fun o1 o2 o3 =>
    ev_compM [w] (fun w => .tup [.str rdg, .str w]) _ (by simp [e_var, pg]) (by have := SL_big; simp; omega) fun v hv => by
      simp [wipeE, e_var]
  have h3 := fun S => ev_ris_l (S := S) (n := n) (ds := [.str rdg]) (by have := SL_big; simp; omega) (ris_one _) rfl (fun x hx S => by simp only [List.mem_singleton] at hx; subst hx; rfl)
  have ha := bi_all_tt (S := []) (m := false) [w]
  have e1 : pg w = .tup [.tup [.str rdg, .str w]] := rfl
  rw [← e1] at h1
  simp only [List.map_cons, List.map_nil] at c1 c2 c3 ha
  simp [b_fits_page, envOf, e_var, g, h1, c1, c2, c3, h3, ha]
structure Pgs (ws : List Cs) : Prop where
  p0 : ws ≠ []
  pl : ws.length ≤ 60
  pn : Nms ws
theorem ev_pages {ws : List Cs} (P : Pgs ws) : evF prg (n + 3) 30 [eP ws] S = .ok (.bl true) S := by
  have hSL := SL_big
  have hl := P.pl
  have hp : 0 < ws.length := List.length_pos_iff.mpr P.p0
  refine evF_pure (np := 1) (nl := 2) (body := b_fits_pages) rfl rfl (by simp) rfl (S' := []) ?_
  have g : prg.glo[7]? = some (.int 60) := rfl
  have l1 : (1 : Int) ≤ ws.length := by omega
  have l2 : (ws.length : Int) ≤ 60 := by omega
  have h1 : ∀ S, evF prg (n + 2) 3 [eP ws, .int 1, .int 60] S = .ok (.bl true) S := fun S => by
    have := ev_istup (S := S) (n := n + 1) (ws.map pg) 1 60 (flats_pg ws)
    rw [show eP ws = .tup (ws.map pg) from rfl, this]
    simp [l1, l2]
  have c1 : ∀ o1, evE prg (evF prg (n + 2)) c_fits_pages_1 [some (eP ws), o1] [] = .ok (.lst (ws.map fun _ => .bl true)) [] := fun o1 =>
    ev_compM ws pg _ (by simp [e_var, eP]) (by omega) fun w hw => by
      have := ev_page (S := []) (n := n) (P.pn w hw)
      simp [wipeE, e_var, this]
  simp [b_fits_pages, envOf, e_var, g, h1, c1]
theorem need_pages {ws : List Cs} (P : Pgs ws) : evF prg (n + 4) 31 [eP ws] S = .ok .non S := by
  refine evF_pure (np := 1) (nl := 1) (body := b_need_pages) rfl rfl (by simp) rfl (S' := []) ?_
  simp [b_need_pages, envOf, e_var, ev_pages P]
theorem bi_dict_pg {m : Bool} {w : Cs} : evBi .dictT m [pg w] S = .ok (.loc S.length) (S ++ [.dic false [.str rdg] [.str w]]) := by
  simp [evBi, pg, biDic, allOf, pairOf, keyOks, keyOk, putAll, put, newD]
theorem ev_quarrel (a b : Cs) : evF prg (n + 1) 32 [pg a, pg b] S = .ok (.bl (!(a == b))) S := by
  refine evF_pure (np := 2) (nl := 5) (body := b_do_quarrel) rfl rfl (by simp) rfl (S' := [.dic false [.str rdg] [.str a]]) ?_
  have c1 : ∀ o3 o4, evE prg (evF prg n) c_do_quarrel_1 [some (pg a), some (pg b), some (.loc 0), o3, o4] [.dic false [.str rdg] [.str a]] = .ok (.lst ([b].map fun b => .bl (!(a == b)))) [.dic false [.str rdg] [.str a]] := fun o3 o4 =>
    ev_compM [b] (fun w => .tup [.str rdg, .str w]) _ (by simp [e_var, pg]) (by have := SL_big; simp; omega) fun v hv => by
      simp [wipeE, e_var, recv_g, evMt, Mt.ro, drf, mtD, keyOk, look]
  have hd := bi_dict_pg (S := []) (m := false) (w := a)
  have ha := bi_any_m (S := [.dic false [.str rdg] [.str a]]) (m := false) [b] fun b => !(a == b)
  simp only [List.map_cons, List.map_nil, List.length_nil, List.nil_append] at c1 ha hd
  simp [b_do_quarrel, envOf, e_var, hd, c1, ha]
/-- all of one word -/
def one (xs : List Cs) : Bool := match xs with
  | [] => true
  | x :: r => r.all fun y => x == y
theorem oh_any {cf : Nat → List D → Sto → Res D} {ws : List Cs} {i j : Int} {w : Cs} {ks vs : List D} {J : Sto} {o5 o6 : Option D} (z : Cs) (hg : (look (.str rdg) ks vs).getD (.str w) = .str z) : evE prg cf c_one_hand_1 [some (eP ws), some (.int i), some (.int j), some (.loc 0), some (pg w), o5, o6] (.dic false ks vs :: J) = .ok (.lst [.bl (!(z == w))]) (.dic false ks vs :: J) := by
  have := ev_compM (P := prg) (cf := cf) (ρ := [some (eP ws), some (.int i), some (.int j), some (.loc 0), some (pg w), o5, o6]) (S := .dic false ks vs :: J) (m := false) (own := [5, 6]) (tg := .tup [(.name 5), (.name 6)]) (it := .of (.var 4)) (elt := .cmp .ne (.meth .get2 (.var 3) (.cons (.var 5) (.cons (.var 6) .nil))) (.var 6))
    [w] (fun w => .tup [.str rdg, .str w]) (fun v => .bl (!(z == v))) (by simp [e_var, pg]) (by have := SL_big; simp; omega) fun v hv => by
      simp only [List.mem_singleton] at hv; subst hv
      have hr : recvOk .get2 (.loc 0) (.dic false ks vs :: J) = true := rfl
      have hm : evMt .get2 (.loc 0) [.str rdg, .str v] (.dic false ks vs :: J) = .ok (.str z) (.dic false ks vs :: J) := by
        simp only [evMt, Mt.ro, if_true, drf, List.getElem?_cons_zero, onO_some, mtD, keyOk, hg, opt_some]
      simp [wipeE, e_var, hr, hm]
  simp only [List.map_cons, List.map_nil, newL_f] at this
  exact this
theorem upd_tab {ks vs : List D} {J : Sto} {w : Cs} {k : Nat} (hk : (O.dic false ks vs :: J)[k + 1]? = some (.dic false [.str rdg] [.str w])) (hl : ks.length + 1 ≤ SL) :
    evMt .update (.loc 0) [.loc (k + 1)] (.dic false ks vs :: J) = .ok .non (.dic false (put (.str rdg) (.str w) ks vs).1 (put (.str rdg) (.str w) ks vs).2 :: J) := by
  have h0 : drf (O.dic false ks vs :: J) (.loc (k + 1)) = some (.dic false [.str rdg] [.str w]) := drf_locD hk
  simp [evMt, Mt.ro, Mt.dr, D.same, h0, evMtO, thing, mtO, hl]
/-- a turn that goes on -/
theorem oh_turn {cf : Nat → List D → Sto → Res D} {ws : List Cs} {i j : Int} {w : Cs} {ks vs : List D} {J : Sto} {o5 o6 : Option D} (hg : (look (.str rdg) ks vs).getD (.str w) = .str w) (hl : ks.length + 1 ≤ SL) :
    evSs prg cf w_one_hand_1 [some (eP ws), some (.int i), some (.int j), some (.loc 0), some (pg w), o5, o6] (.dic false ks vs :: J) =
      .ok (.nx [some (eP ws), some (.int i), some (.int j), some (.loc 0), some (pg w), o5, o6]) (.dic false (put (.str rdg) (.str w) ks vs).1 (put (.str rdg) (.str w) ks vs).2 :: (J ++ [.dic false [.str rdg] [.str w]])) := by
  have c1 := oh_any (cf := cf) (ws := ws) (i := i) (j := j) (J := J) (o5 := o5) (o6 := o6) w hg
  have ha := bi_any_m (S := .dic false ks vs :: J) (m := false) [w] fun y => !(w == y)
  have hd := bi_dict_pg (S := .dic false ks vs :: J) (m := false) (w := w)
  have hr : ∀ J, recvOk .update (.loc 0) (.dic false ks vs :: J) = true := fun J => rfl
  have hu := upd_tab (ks := ks) (vs := vs) (J := J ++ [.dic false [.str rdg] [.str w]]) (w := w) (k := J.length) (by simp) hl
  simp only [List.map_cons, List.map_nil, List.length_cons, List.cons_append] at c1 ha hd
  simp at ha c1
  simp [w_one_hand_1, e_var, c1, ha, hr, hd, hu]
theorem oh_stop {cf : Nat → List D → Sto → Res D} {ws : List Cs} {i j : Int} {w z : Cs} {ks vs : List D} {J : Sto} {o5 o6 : Option D} (hg : (look (.str rdg) ks vs).getD (.str w) = .str z) (hz : z ≠ w) :
    evSs prg cf w_one_hand_1 [some (eP ws), some (.int i), some (.int j), some (.loc 0), some (pg w), o5, o6] (.dic false ks vs :: J) = .ok (.rt (.bl false)) (.dic false ks vs :: J) := by
  have c1 := oh_any (cf := cf) (ws := ws) (i := i) (j := j) (J := J) (o5 := o5) (o6 := o6) z hg
  have ha := bi_any_m (S := .dic false ks vs :: J) (m := false) [w] fun y => !(z == y)
  have hz' : (z == w) = false := by simpa using hz
  simp only [List.map_cons, List.map_nil] at ha
  simp [hz'] at ha c1
  simp [w_one_hand_1, e_var, c1, ha]
/-- the loop from a word on -/
theorem oh_loop {cf : Nat → List D → Sto → Res D} {ws : List Cs} {i j : Int} {z : Cs} : ∀ (xs : List Cs) (o4 o5 o6 : Option D) (J : Sto),
    ((xs.all fun y => z == y) = true → ∃ o4' J', forGo [] (.name 4) (fun ρ S => evSs prg cf w_one_hand_1 ρ S) (xs.map pg) [some (eP ws), some (.int i), some (.int j), some (.loc 0), o4, o5, o6] (.dic false [.str rdg] [.str z] :: J) = .ok (.nx [some (eP ws), some (.int i), some (.int j), some (.loc 0), o4', o5, o6]) J') ∧
    ((xs.all fun y => z == y) = false → ∃ J', forGo [] (.name 4) (fun ρ S => evSs prg cf w_one_hand_1 ρ S) (xs.map pg) [some (eP ws), some (.int i), some (.int j), some (.loc 0), o4, o5, o6] (.dic false [.str rdg] [.str z] :: J) = .ok (.rt (.bl false)) J')
  | [], o4, o5, o6, J => ⟨fun _ => ⟨o4, .dic false [.str rdg] [.str z] :: J, by simp [forGo]⟩, fun h => by simp at h⟩
  | w :: xs, o4, o5, o6, J => by
    have hSL := SL_big
    have hg : (look (.str rdg) [.str rdg] [.str z]).getD (.str w) = .str z := by simp [look]
    have asg : asgT (.name 4) (pg w) [some (eP ws), some (.int i), some (.int j), some (.loc 0), o4, o5, o6] = some [some (eP ws), some (.int i), some (.int j), some (.loc 0), some (pg w), o5, o6] := by simp
    by_cases h : z = w
    · subst h
      have t := oh_turn (cf := cf) (ws := ws) (i := i) (j := j) (ks := [.str rdg]) (vs := [.str z]) (J := J) (o5 := o5) (o6 := o6) hg (by simp; omega)
      have hp : put (.str rdg) (.str z) [.str rdg] [.str z] = ([.str rdg], [.str z]) := by simp [put, putM]
      rw [hp] at t
      obtain ⟨i1, i2⟩ := oh_loop (cf := cf) (ws := ws) (i := i) (j := j) (z := z) xs (some (pg z)) o5 o6 (J ++ [.dic false [.str rdg] [.str z]])
      simp only [List.map_cons, forGo, chk_nil, if_true, asg, onO_some, t, bind_ok, turnF_nx, List.all_cons, beq_self_eq_true, Bool.true_and]
      exact ⟨i1, i2⟩
    · have h' : (z == w) = false := by simpa using h
      have t := oh_stop (cf := cf) (ws := ws) (i := i) (j := j) (ks := [.str rdg]) (vs := [.str z]) (J := J) (o5 := o5) (o6 := o6) hg h
      simp only [List.map_cons, forGo, chk_nil, if_true, asg, onO_some, t, bind_ok, turnF_rt, List.all_cons, h', Bool.false_and]
      exact ⟨fun h => by simp at h, fun _ => ⟨_, rfl⟩⟩
/-- the pages from one to ahead of another -/
def sl (ws : List Cs) (i j : Nat) : List Cs := (ws.drop i).take (j - i)
theorem cut_sl {ws : List Cs} {i j : Nat} (hj : j ≤ ws.length) (hij : i ≤ j) : cut (ws.map pg) (some (i : Int)) (some (j : Int)) = (sl ws i j).map pg := by
  have hs : ∀ (m k d : Nat), k ≤ m → sIx m d (some (k : Int)) = k := fun m k d h => by
    unfold sIx
    simp only
    rw [if_neg (by omega), Int.toNat_natCast]
    exact Nat.min_eq_left h
  unfold cut sl
  rw [hs _ _ _ (by simp; omega), hs _ _ _ (by simp; omega), List.map_take, List.map_drop]
theorem ev_one {ws : List Cs} {i j : Nat} (hj : j ≤ ws.length) (hij : i ≤ j) : evF prg (n + 1) 33 [eP ws, .int i, .int j] S = .ok (.bl (one (sl ws i j))) S := by
  have hSL := SL_big
  have hI : ∀ S, evI prg (evF prg n) (.of (.slice false (.var 0) (.yes (.var 1)) (.yes (.var 2)))) [some (eP ws), some (.int i), some (.int j), some (.loc 0), none, none, none] S = .ok ⟨(sl ws i j).map pg, []⟩ S := fun S => by
    have := cut_sl hj hij
    simp [e_var, sliceK, eP, this]
  have e1 : ∀ f S', evS prg (evF prg n) (.for_ (.name 4) (.of (.slice false (.var 0) (.yes (.var 1)) (.yes (.var 2)))) w_one_hand_1) [some (eP ws), some (.int i), some (.int j), some (.loc 0), none, none, none] [.dic false [] []] = .ok f S' → retOf ((nextB (evSs prg (evF prg n) [.ret (.bl true)]) f S')) = .ok (.bl (one (sl ws i j))) S' → evF prg (n + 1) 33 [eP ws, .int i, .int j] S = .ok (.bl (one (sl ws i j))) S := fun f S' he hr => by
    refine evF_pure (np := 3) (nl := 7) (body := b_one_hand) rfl rfl (by simp) rfl (S' := S') ?_
    simp [b_one_hand, envOf, newD, he, hr]
  simp only [zs_for, hI, bind_ok] at e1
  cases hx : sl ws i j with
  | nil =>
    rw [hx] at e1
    exact e1 (.nx [some (eP ws), some (.int i), some (.int j), some (.loc 0), none, none, none]) [.dic false [] []] (by simp [forGo]) (by simp [one])
  | cons z xs =>
    rw [hx] at e1
    have asg : asgT (.name 4) (pg z) [some (eP ws), some (.int i), some (.int j), some (.loc 0), none, none, none] = some [some (eP ws), some (.int i), some (.int j), some (.loc 0), some (pg z), none, none] := by simp
    have t := oh_turn (cf := evF prg n) (ws := ws) (i := i) (j := j) (w := z) (ks := []) (vs := []) (J := []) (o5 := none) (o6 := none) rfl (by simp; omega)
    have hp : put (.str rdg) (.str z) [] [] = ([.str rdg], [.str z]) := by simp [put]
    rw [hp] at t
    obtain ⟨i1, i2⟩ := oh_loop (cf := evF prg n) (ws := ws) (i := i) (j := j) (z := z) xs (some (pg z)) none none [.dic false [.str rdg] [.str z]]
    simp only [List.map_cons, forGo, chk_nil, if_true, asg, onO_some, t, bind_ok, turnF_nx, List.nil_append] at e1
    cases hb : xs.all fun y => z == y with
    | true =>
      obtain ⟨o4', J', h⟩ := i1 hb
      refine e1 _ _ h ?_
      simp [one, hb]
    | false =>
      obtain ⟨J', h⟩ := i2 hb
      refine e1 _ _ h ?_
      simp [one, hb]
end K99
end QF
end

section
namespace QF
namespace K99
variable {S : Sto} {n : Nat}
/-- a word by its place -/
def gw (ws : List Cs) (p : Nat) : Cs := ws.getD p []
/-- another word than ahead -/
def brk (ws : List Cs) (p : Nat) : Bool := !(gw ws p == gw ws (p - 1))
def st (ws : List Cs) : Nat → List Nat
  | 0 => [0]
  | k + 1 => if brk ws (k + 1) then st ws k ++ [k + 1] else st ws k
def ls (ws : List Cs) : Nat → Nat
  | 0 => 0
  | k + 1 => if brk ws (k + 1) then k + 1 else ls ws k
theorem st_last (ws : List Cs) : ∀ k, (st ws k).getLast? = some (ls ws k)
  | 0 => rfl
  | k + 1 => by
    unfold st ls
    split
    · simp
    · exact st_last ws k
theorem st_ne (ws : List Cs) (k : Nat) : st ws k ≠ [] := fun h => by have := st_last ws k; rw [h] at this; cases this
theorem ls_le (ws : List Cs) : ∀ k, ls ws k ≤ k
  | 0 => Nat.le_refl _
  | k + 1 => by
    unfold ls
    split
    · exact Nat.le_refl _
    · exact Nat.le_succ_of_le (ls_le ws k)
theorem ls_run (ws : List Cs) : ∀ k p, ls ws k ≤ p → p ≤ k → gw ws p = gw ws k
  | 0, p, _, h => by rw [Nat.le_zero.mp h]
  | k + 1, p, h1, h2 => by
    unfold ls at h1
    split at h1
    · rw [Nat.le_antisymm h2 h1]
    · rename_i hb
      by_cases e : p = k + 1
      · rw [e]
      · rw [ls_run ws k p h1 (by omega)]
        simp only [brk, Bool.not_eq_true', beq_eq_false_iff_ne, ne_eq, Decidable.not_not] at hb
        simpa using hb.symm
theorem st_mem (ws : List Cs) : ∀ k, ∀ p ∈ st ws k, p ≤ k
  | 0, p, h => by simp only [st, List.mem_singleton] at h; omega
  | k + 1, p, h => by
    unfold st at h
    split at h
    · rcases List.mem_append.mp h with h | h
      · exact Nat.le_succ_of_le (st_mem ws k p h)
      · simp only [List.mem_singleton] at h; omega
    · exact Nat.le_succ_of_le (st_mem ws k p h)
theorem st_up (ws : List Cs) : ∀ k, (st ws k).Pairwise (· < ·)
  | 0 => List.pairwise_singleton _ _
  | k + 1 => by
    unfold st
    split
    · rw [List.pairwise_append]
      exact ⟨st_up ws k, List.pairwise_singleton _ _, fun a ha b hb => by simp only [List.mem_singleton] at hb; have := st_mem ws k a ha; omega⟩
    · exact st_up ws k
theorem st_head (ws : List Cs) : ∀ k, ∃ r, st ws k = 0 :: r
  | 0 => ⟨[], rfl⟩
  | k + 1 => by
    obtain ⟨r, h⟩ := st_head ws k
    unfold st
    split
    · exact ⟨r ++ [k + 1], by rw [h]; rfl⟩
    · exact ⟨r, h⟩
theorem st_len (ws : List Cs) : ∀ k, (st ws k).length ≤ k + 1
  | 0 => Nat.le_refl _
  | k + 1 => by
    have := st_len ws k
    unfold st
    split <;> simp <;> omega
theorem st_eq (ws : List Cs) : ∀ k, st ws k = 0 :: ((List.range k).filter fun p => brk ws (p + 1)).map (· + 1)
  | 0 => rfl
  | k + 1 => by
    rw [List.range_succ, List.filter_append, List.map_append, ← List.cons_append, ← st_eq ws k]
    show (if brk ws (k + 1) = true then st ws k ++ [k + 1] else st ws k) = _
    by_cases h : brk ws (k + 1) = true
    · simp [h]
    · simp [h]
theorem zip_snoc {α : Type} {x y : α} : ∀ {xs : List α}, xs.getLast? = some x → (xs ++ [y]).zip ((xs ++ [y]).drop 1) = xs.zip (xs.drop 1) ++ [(x, y)]
  | [], h => by simp at h
  | [a], h => by simp at h; subst h; rfl
  | a :: b :: r, h => by
    have ih := zip_snoc (x := x) (y := y) (xs := b :: r) (by simpa using h)
    simp only [List.cons_append, List.drop_succ_cons, List.drop_zero, List.zip_cons_cons] at ih ⊢
    rw [ih]
/-- from a start to the next -/
structure Nx (ws : List Cs) (a b : Nat) : Prop where
  lt : a < b
  br : brk ws b = true
  run : ∀ p, a ≤ p → p < b → gw ws p = gw ws a
theorem st_next (ws : List Cs) : ∀ k, ∀ q ∈ (st ws k).zip ((st ws k).drop 1), Nx ws q.1 q.2
  | 0, q, h => by simp [st] at h
  | k + 1, q, h => by
    unfold st at h
    split at h
    · rename_i hb
      rw [zip_snoc (st_last ws k), List.mem_append] at h
      rcases h with h | h
      · exact st_next ws k q h
      · simp only [List.mem_singleton] at h
        subst h
        have hl := ls_le ws k
        exact ⟨by simp only; omega, hb, fun p h1 h2 => by rw [ls_run ws k p h1 (by simp only at h2; omega), ls_run ws k (ls ws k) (Nat.le_refl _) hl]⟩
    · exact st_next ws k q h
theorem gw_eq {ws : List Cs} {p : Nat} (h : p < ws.length) : gw ws p = ws[p] := by simp [gw, List.getD, h]
theorem one_sl {ws : List Cs} {i j : Nat} (hij : i < j) (hj : j ≤ ws.length) : one (sl ws i j) = true ↔ ∀ p, i ≤ p → p < j → gw ws p = gw ws i := by
  have hd : ws.drop i = ws[i]'(by omega) :: ws.drop (i + 1) := (List.drop_eq_getElem_cons (by omega))
  have e : sl ws i j = ws[i]'(by omega) :: (ws.drop (i + 1)).take (j - i - 1) := by
    unfold sl
    rw [hd, show j - i = (j - i - 1) + 1 by omega, List.take_succ_cons]
    simp
  rw [e]
  simp only [one, List.all_eq_true, beq_iff_eq]
  rw [gw_eq (show i < ws.length by omega)]
  constructor
  · intro h p h1 h2
    by_cases hp : p = i
    · subst hp; exact gw_eq (by omega)
    · rw [gw_eq (by omega)]
      refine (h _ ?_).symm
      rw [List.mem_iff_getElem?]
      refine ⟨p - (i + 1), ?_⟩
      rw [List.getElem?_take, if_pos (by omega), List.getElem?_drop, show i + 1 + (p - (i + 1)) = p by omega, List.getElem?_eq_getElem (by omega)]
  · intro h y hy
    obtain ⟨k, hk⟩ := List.mem_iff_getElem?.mp hy
    rw [List.getElem?_take] at hk
    split at hk
    · rename_i hk2
      rw [List.getElem?_drop] at hk
      have hlt : i + 1 + k < ws.length := (List.getElem?_eq_some_iff.mp hk).1
      have := h (i + 1 + k) (by omega) (by omega)
      rw [gw_eq hlt] at this
      rw [List.getElem?_eq_getElem hlt] at hk
      cases hk
      exact this.symm
    · cases hk
theorem one_ls {ws : List Cs} {k : Nat} (hk : k + 1 < ws.length) : one (sl ws (ls ws k) (k + 2)) = !brk ws (k + 1) := by
  have hl := ls_le ws k
  have h := one_sl (ws := ws) (i := ls ws k) (j := k + 2) (by omega) (by omega)
  have e : gw ws (ls ws k) = gw ws k := ls_run ws k _ (Nat.le_refl _) hl
  cases hb : brk ws (k + 1) with
  | false =>
    show _ = true
    rw [h]
    intro p h1 h2
    by_cases hp : p = k + 1
    · subst hp
      simp only [brk, Bool.not_eq_eq_eq_not, Bool.not_false, beq_iff_eq] at hb
      rw [hb, e]; rfl
    · rw [ls_run ws k p h1 (by omega), e]
  | true =>
    show _ = false
    rw [Bool.eq_false_iff]
    intro ho
    have := h.mp ho (k + 1) (by omega) (by omega)
    simp only [brk, Bool.not_eq_eq_eq_not, Bool.not_true, beq_eq_false_iff_ne, ne_eq] at hb
    exact hb (by rw [this, e]; rfl)
def eIs (xs : List Nat) : List D := xs.map fun (x : Nat) => .int (x : Int)
theorem app_one {xs ds : List D} {d : D} {S : Sto} {k : Nat} (hS : S[k]? = some (.lst xs)) (h : xs.length < SL) : evMt .append (.loc k) [d] S = .ok .non (S.set k (.lst (xs ++ [d]))) := by
  simp only [evMt, Mt.ro, Mt.dr, evMtO, thing, hS, Option.map_some, onO_some, mtO, h, if_true, Bool.false_eq_true, if_false]
theorem ev_late {ws : List Cs} (h0 : ws ≠ []) (hl : ws.length ≤ 60) : evF prg (n + 2) 34 [eP ws] S = .ok (.lst (eIs (st ws (ws.length - 1)))) S := by
  have hSL := SL_big
  have hp : 0 < ws.length := List.length_pos_iff.mpr h0
  have hlen : ∀ S, evBi .len false [eP ws] S = .ok (.int ws.length) S := fun S => by simp [eP]
  have key : ∀ pre (k : Nat) post ρ S, List.range (ws.length - 1) = pre ++ k :: post → (∃ o2, ρ = [some (eP ws), some (.loc 0), o2] ∧ S = [.lst (eIs (st ws pre.length))]) →
      ∃ ρ1 ρ2 S2, asgT (.name 2) (.int (1 + (k : Int))) ρ = some ρ1 ∧ evSs prg (evF prg (n + 1)) w_late_starts_1 ρ1 S = .ok (.nx ρ2) S2 ∧ (∃ o2, ρ2 = [some (eP ws), some (.loc 0), o2] ∧ S2 = [.lst (eIs (st ws (pre ++ [k]).length))]) := by
    rintro pre k post ρ S e ⟨o2, rfl, rfl⟩
    have ek : pre.length = k ∧ k < ws.length - 1 := by
      have h1 : (List.range (ws.length - 1))[pre.length]? = (pre ++ k :: post)[pre.length]? := by rw [e]
      rw [List.getElem?_append_right (Nat.le_refl _), Nat.sub_self, List.getElem?_cons_zero] at h1
      obtain ⟨h2, h3⟩ := List.getElem?_eq_some_iff.mp h1
      rw [List.getElem_range] at h3
      simp only [List.length_range] at h2
      exact ⟨h3, by omega⟩
    obtain ⟨rfl, hk⟩ := ek
    rw [List.length_append, List.length_singleton]
    refine ⟨_, _, _, by simp; rfl, ?_, ⟨some (.int (1 + (pre.length : Int))), rfl, rfl⟩⟩
    have hlast : ∀ S, S = [O.lst (eIs (st ws pre.length))] → idx2 (.loc 0) (.int (-1)) S = .ok (.int (ls ws pre.length : Nat)) S := fun S hS => by
      subst hS
      refine ix_loc rfl (at_last ?_)
      rw [eIs, List.getLast?_map, st_last]; rfl
    have hone : ∀ S, evF prg (n + 1) 33 [eP ws, .int (ls ws pre.length : Nat), .int (1 + (pre.length : Int) + 1)] S = .ok (.bl (!brk ws (pre.length + 1))) S := fun S => by
      have h1 := ev_one (S := S) (n := n) (ws := ws) (i := ls ws pre.length) (j := pre.length + 2) (by omega) (by have := ls_le ws pre.length; omega)
      rw [one_ls (by omega)] at h1
      rw [← h1]
      congr 5
      omega
    have hr : ∀ xs, recvOk .append (.loc 0) [O.lst xs] = true := fun xs => rfl
    have happ := app_one (S := [O.lst (eIs (st ws pre.length))]) (k := 0) (d := .int (1 + (pre.length : Int))) rfl (by have := st_len ws pre.length; simp [eIs]; omega) (ds := [])
    cases hb : brk ws (pre.length + 1) with
    | false =>
      have e2 : st ws (pre.length + 1) = st ws pre.length := by rw [st, hb]; rfl
      rw [hb] at hone
      simp [w_late_starts_1, e_var, hlast, hone, e2]
    | true =>
      have e2 : st ws (pre.length + 1) = st ws pre.length ++ [pre.length + 1] := by rw [st, hb]; rfl
      rw [hb] at hone
      have e3 : eIs (st ws (pre.length + 1)) = eIs (st ws pre.length) ++ [.int (1 + (pre.length : Int))] := by
        rw [e2]; simp only [eIs, List.map_append, List.map_cons, List.map_nil]
        congr 3
        omega
      rw [e3]
      simp [w_late_starts_1, e_var, hlast, hone, hr, happ]
  obtain ⟨ρ', S', e, o2, rfl, rfl⟩ := ev_for (P := prg) (cf := evF prg (n + 1)) (ρ := [some (eP ws), some (.loc 0), none]) (S := [.lst [.int 0]]) (tg := .name 2) (it := .rng2 (.int 1) (.bi .len false (.cons (.var 0) .nil))) (body := w_late_starts_1)
    (fun k : Nat => .int (1 + (k : Int))) (List.range (ws.length - 1)) (fun pre ρ S => ∃ o2, ρ = [some (eP ws), some (.loc 0), o2] ∧ S = [.lst (eIs (st ws pre.length))])
    (by
      rw [ev_rng2 (i := 1) (j := ws.length) (S' := [.lst [.int 0]]) (S2 := [.lst [.int 0]]) (by simp) (by simp [e_var, hlen]) (by omega) (by omega)]
      rw [show ((ws.length : Int) - 1).toNat = ws.length - 1 by omega]) ⟨none, rfl, rfl⟩ key
  rw [List.length_range] at e
  refine evF_pure (np := 1) (nl := 3) (body := b_late_starts) rfl rfl (by simp) (by simp [eIs]; exact flats_map fun _ _ => rfl) (S' := [.dead]) ?_
  simp [b_late_starts, envOf, e, e_var, freezeD]
end K99
end QF
end

section
namespace QF
namespace K99
variable {S : Sto} {n : Nat}
theorem flats_eIs (xs : List Nat) : D.flats (eIs xs) = true := flats_map fun _ _ => rfl
theorem ris_eIs {xs : List Nat} (h : xs.Pairwise (· < ·)) : Ris (eIs xs) := ris_enc h fun a b hab => by
  have hab : a < b := hab
  have : (a : Int) < b := by omega
  simp [cmpD, this]
theorem drf_eIs {xs : List Nat} : ∀ x ∈ eIs xs, ∀ S, drf S x = some x := fun x hx S => by
  obtain ⟨a, _, rfl⟩ := List.mem_map.mp hx; rfl
theorem ev_fstarts {ws : List Cs} (h0 : ws ≠ []) (hl : ws.length ≤ 60) : evF prg (n + 3) 35 [.int ws.length, eI (st ws (ws.length - 1))] S = .ok (.bl true) S := by
  have hSL := SL_big
  have hp : 0 < ws.length := List.length_pos_iff.mpr h0
  have hsl := st_len ws (ws.length - 1)
  have hsn : 0 < (st ws (ws.length - 1)).length := List.length_pos_iff.mpr (st_ne _ _)
  refine evF_pure (np := 2) (nl := 3) (body := b_fits_starts) rfl rfl (by simp) rfl (S' := []) ?_
  have l1 : (1 : Int) ≤ (st ws (ws.length - 1)).length := by omega
  have l2 : ((st ws (ws.length - 1)).length : Int) ≤ ws.length := by omega
  have h1 : ∀ S, evF prg (n + 2) 3 [eI (st ws (ws.length - 1)), .int 1, .int ws.length] S = .ok (.bl true) S := fun S => by
    have := ev_istup (S := S) (n := n + 1) (eIs (st ws (ws.length - 1))) 1 ws.length (flats_eIs _)
    rw [show eI (st ws (ws.length - 1)) = .tup (eIs (st ws (ws.length - 1))) from rfl, this]
    simp [eIs, l1, l2]
  have c1 : ∀ o2, evE prg (evF prg (n + 2)) c_fits_starts_1 [some (.int ws.length), some (eI (st ws (ws.length - 1))), o2] [] = .ok (.lst ((st ws (ws.length - 1)).map fun _ => .bl true)) [] := fun o2 =>
    ev_compM (st ws (ws.length - 1)) (fun (x : Nat) => .int (x : Int)) _ (by simp [e_var, eI]) (by omega) fun p hq => by
      have hm := st_mem ws _ p hq
      have := ev_fwhole (S := []) (n := n) (p : Int) 0 (ws.length - 1)
      have l3 : (p : Int) ≤ ws.length - 1 := by omega
      have l4 : (0 : Int) ≤ p := by omega
      simp [wipeE, e_var, this, l3, l4]
  have h4 : ∀ S, evF prg (n + 2) 4 [eI (st ws (ws.length - 1))] S = .ok (.bl true) S := fun S => ev_ris_t (n := n + 1) (ds := eIs (st ws (ws.length - 1))) (by simp [eIs]; omega) (ris_eIs (st_up _ _)) (flats_eIs _) drf_eIs
  have h5 : ∀ S, idx2 (eI (st ws (ws.length - 1))) (.int 0) S = .ok (.int 0) S := fun S => by
    obtain ⟨r, hr⟩ := st_head ws (ws.length - 1)
    rw [hr]; exact ix_t0 _ _
  simp [b_fits_starts, envOf, e_var, h1, c1, h4, h5]
/-- from each start to the next, to the end -/
def spans (ss : List Nat) (m : Nat) : List (Nat × Nat) := ss.zip (ss.drop 1 ++ [m])
theorem zipD_map {α β : Type} (f : α → D) (g : β → D) : ∀ (xs : List α) (ys : List β), zipD (xs.map f) (ys.map g) = (xs.zip ys).map fun q => .pr [f q.1, g q.2]
  | [], _ => rfl
  | _ :: _, [] => rfl
  | x :: xs, y :: ys => by simp only [List.map_cons, zipD, List.zip_cons_cons, zipD_map f g xs ys]
theorem ev_spans {ss : List Nat} {m : Nat} (hl : ss.length ≤ 1000) : evF prg (n + 1) 36 [eI ss, .int m] S = .ok (.lst ((spans ss m).map fun q => .tup [.int q.1, .int q.2])) S := by
  have hSL := SL_big
  refine evF_pure (np := 2) (nl := 2) (body := b_spans_of) rfl rfl (by simp) (by rw [flat_lst]; exact flats_map fun a _ => by simp) (S' := []) ?_
  have h1 : ∀ S, sliceK false (some 1) none (eI ss) S = .ok (.tup (eIs (ss.drop 1))) S := fun S => by
    have := cut1 (eIs ss)
    rw [show eI ss = .tup (eIs ss) from rfl]
    simp only [sliceK, drf_tup, this]
    simp only [eIs, List.map_drop]
  have h2 : ∀ S, op2 (binOp .add) (.tup (eIs (ss.drop 1))) (.tup [.int m]) S = .ok (.tup (eIs (ss.drop 1 ++ [m]))) S := fun S => by
    rw [op_addT (by simp [eIs]; omega)]
    simp [eIs]
  have h3 : ∀ S ys, zipK S (eI ss) (.tup ys) = true := fun S ys => rfl
  have h4 : ∀ S, srcOf S (eI ss) = some ⟨eIs ss, []⟩ := fun S => rfl
  have h5 : (zipD (eIs ss) (eIs (ss.drop 1 ++ [m]))).map unpr = (spans ss m).map fun q => D.tup [.int q.1, .int q.2] := by
    unfold eIs; rw [zipD_map, List.map_map]; rfl
  simp [b_spans_of, envOf, e_var, -List.drop_one, h1, h2, h3, h4, h5]
def eQ (b : Nat) : D := .tup [.int ((b : Int) - 1), .int b]
theorem idx_eP {ws : List Cs} {p : Nat} (h : p < ws.length) : idx2 (eP ws) (.int p) S = .ok (pg (gw ws p)) S := by
  refine ix_tup (at_nat ?_)
  rw [List.getElem?_map, List.getElem?_eq_getElem h, gw_eq h]
  rfl
theorem ev_quar {ws : List Cs} (h0 : ws ≠ []) (hl : ws.length ≤ 60) : evF prg (n + 3) 37 [eP ws] S = .ok (.lst (((st ws (ws.length - 1)).drop 1).map eQ)) S := by
  have hSL := SL_big
  have hp : 0 < ws.length := List.length_pos_iff.mpr h0
  have hlate := fun S => ev_late (S := S) (n := n) h0 hl
  have hsl := st_len ws (ws.length - 1)
  have hnx := st_next ws (ws.length - 1)
  have hmem := st_mem ws (ws.length - 1)
  revert hlate hsl hnx hmem
  generalize st ws (ws.length - 1) = ss
  intro hlate hsl hnx hmem
  have key : ∀ pre (q : Nat × Nat) post ρ S, ss.zip (ss.drop 1) = pre ++ q :: post → (∃ o3 o4 o5 o6, ρ = [some (eP ws), some (.lst (eIs ss)), some (.loc 0), o3, o4, o5, o6] ∧ S = [.lst ((pre.map (·.2)).map eQ)]) →
      ∃ ρ1 ρ2 S2, asgT (.tup [(.name 3), (.name 4)]) (.pr [.int q.1, .int q.2]) ρ = some ρ1 ∧ evSs prg (evF prg (n + 2)) w_quarrels_in_1 ρ1 S = .ok (.nx ρ2) S2 ∧ (∃ o3 o4 o5 o6, ρ2 = [some (eP ws), some (.lst (eIs ss)), some (.loc 0), o3, o4, o5, o6] ∧ S2 = [.lst (((pre ++ [q]).map (·.2)).map eQ)]) := by
    rintro pre ⟨a, b⟩ post ρ S e ⟨o3, o4, o5, o6, rfl, rfl⟩
    have hq : (a, b) ∈ ss.zip (ss.drop 1) := by rw [e]; simp
    have N := hnx _ hq
    have hb : b ≤ ws.length - 1 := hmem b (List.mem_of_mem_drop (List.of_mem_zip hq).2)
    have hab : a < b := N.lt
    refine ⟨_, _, _, by simp; rfl, ?_, ⟨some (.int a), some (.int b), o5, some (.lst ((List.range (b - a)).map fun k : Nat => .int ((a : Int) + k))), rfl, rfl⟩⟩
    have hqu : ∀ p, a ≤ p → p < b → (!(gw ws p == gw ws b)) = true := fun p h1 h2 => by
      have h3 := N.run p h1 h2
      have h4 := N.run (b - 1) (by omega) (by omega)
      have h5 := N.br
      simp only [brk, Bool.not_eq_eq_eq_not, Bool.not_true, beq_eq_false_iff_ne, ne_eq] at h5 ⊢
      intro h6
      exact h5 (by rw [h4, ← h3, h6])
    have c1 : ∀ S, evE prg (evF prg (n + 2)) c_quarrels_in_1 [some (eP ws), some (.lst (eIs ss)), some (.loc 0), some (.int a), some (.int b), o5, o6] S = .ok (.lst ((List.range (b - a)).map fun k : Nat => .int ((a : Int) + k))) S := fun S => by
      have := ev_comp (P := prg) (cf := evF prg (n + 2)) (ρ := [some (eP ws), some (.lst (eIs ss)), some (.loc 0), some (.int a), some (.int b), o5, o6]) (S := S) (m := false) (own := [5]) (tg := .name 5) (it := .rng2 (.var 3) (.var 4)) (cond := .yes (.call 32 (.cons (.idx (.var 0) (.var 5)) (.cons (.idx (.var 0) (.var 4)) .nil)))) (elt := .var 5)
        (List.range (b - a)) (fun k : Nat => .int ((a : Int) + k)) (fun k => if true = true then some (.int ((a : Int) + k)) else none) (by
          rw [ev_rng2 (i := a) (j := b) (S' := S) (S2 := S) (e_var rfl) (e_var rfl) (by omega) (by omega)]
          rw [show ((b : Int) - a).toNat = b - a by omega]) (by simp; omega) fun k hk => by
          have hk := List.mem_range.mp hk
          have i1 := idx_eP (S := S) (ws := ws) (p := a + k) (by omega)
          have i2 := idx_eP (S := S) (ws := ws) (p := b) (by omega)
          have hq := ev_quarrel (S := S) (n := n + 1) (gw ws (a + k)) (gw ws b)
          rw [hqu (a + k) (by omega) (by omega)] at hq
          rw [show ((a + k : Nat) : Int) = (a : Int) + k by omega] at i1
          simp [wipeE, e_var, i1, i2, hq]
      simp only [if_true] at this
      rw [show ((List.range (b - a)).filterMap fun k : Nat => some (D.int ((a : Int) + k))) = (List.range (b - a)).map fun k : Nat => D.int ((a : Int) + k) from by rw [← List.filterMap_eq_map]; rfl] at this
      exact this
    have hlast : ∀ S, idx2 (.lst ((List.range (b - a)).map fun k : Nat => .int ((a : Int) + k))) (.int (-1)) S = .ok (.int ((b : Int) - 1)) S := fun S => by
      refine ix_lst (at_last ?_)
      rw [List.getLast?_map, List.getLast?_range, if_neg (by omega)]
      simp only [Option.map_some, Option.some.injEq, D.int.injEq]
      omega
    have hr : ∀ xs, recvOk .append (.loc 0) [O.lst xs] = true := fun xs => rfl
    have hpre : pre.length ≤ 60 := by
      have := congrArg List.length e
      simp at this; omega
    have happ := app_one (S := [O.lst ((pre.map (·.2)).map eQ)]) (k := 0) (d := eQ b) rfl (by simp; omega) (ds := [])
    have happ2 : evMt .append (.loc 0) [.tup [.int ((b : Int) - 1), .int b]] [O.lst ((pre.map (·.2)).map eQ)] = _ := happ
    simp only [List.map_map] at happ2 hr
    simp [w_quarrels_in_1, e_var, c1, hlast, hr, happ2, eQ]
  have hI : ∀ S, evI prg (evF prg (n + 2)) (.zip (.var 1) (.slice false (.var 1) (.yes (.int 1)) .no)) [some (eP ws), some (.lst (eIs ss)), some (.loc 0), none, none, none, none] S = .ok ⟨(ss.zip (ss.drop 1)).map fun q => .pr [.int q.1, .int q.2], []⟩ S := fun S => by
    have h1 : ∀ S, sliceK false (some 1) none (.lst (eIs ss)) S = .ok (.lst (eIs (ss.drop 1))) S := fun S => by
      have := cut1 (eIs ss)
      simp only [sliceK, drf_lst, this, newL_f]
      simp only [eIs, List.map_drop]
    have h3 : ∀ S ys zs, zipK S (.lst ys) (.lst zs) = true := fun S ys zs => rfl
    have h5 : zipD (eIs ss) (eIs (ss.drop 1)) = (ss.zip (ss.drop 1)).map fun q => D.pr [.int q.1, .int q.2] := by
      unfold eIs; rw [zipD_map]
    simp [e_var, -List.drop_one, h1, h3, h5]
  obtain ⟨ρ', S', e, o3, o4, o5, o6, rfl, rfl⟩ := ev_for (P := prg) (cf := evF prg (n + 2)) (tg := .tup [(.name 3), (.name 4)]) (body := w_quarrels_in_1)
    (fun q : Nat × Nat => .pr [.int q.1, .int q.2]) (ss.zip (ss.drop 1)) (fun pre ρ S => ∃ o3 o4 o5 o6, ρ = [some (eP ws), some (.lst (eIs ss)), some (.loc 0), o3, o4, o5, o6] ∧ S = [.lst ((pre.map (·.2)).map eQ)])
    (hI [.lst []]) ⟨_, _, _, _, rfl, rfl⟩ key
  have hz : (ss.zip (ss.drop 1)).map (·.2) = ss.drop 1 := by
    have := List.map_snd_zip (l₁ := ss) (l₂ := ss.drop 1) (by simp)
    exact this
  rw [hz] at e
  refine evF_pure (np := 1) (nl := 7) (body := b_quarrels_in) rfl rfl (by simp) (by rw [flat_lst]; exact flats_map fun _ _ => by simp [eQ]) (S' := [.dead]) ?_
  simp [b_quarrels_in, envOf, e_var, hlate, setAll, -List.drop_one, e, freezeD]
end K99
end QF
end

section
namespace QF
namespace K99
variable {S : Sto} {n : Nat}
/-- the starts of a text's hands -/
def sts (ws : List Cs) : List Nat := st ws (ws.length - 1)
theorem ev_fewest {ws : List Cs} (P : Pgs ws) : evF prg (n + 5) 38 [eP ws] S = .ok (.int (sts ws).length) S := by
  refine evF_pure (np := 1) (nl := 1) (body := b_fewest_hands) rfl rfl (by simp) rfl (S' := []) ?_
  have h1 := fun S => need_pages (S := S) (n := n) P
  have h2 := fun S => ev_late (S := S) (n := n + 2) P.p0 P.pl
  simp [b_fewest_hands, envOf, e_var, h1, h2, eIs, sts]
theorem spans_ok {ws : List Cs} (h0 : ws ≠ []) : ∀ q ∈ spans (sts ws) ws.length, q.1 < q.2 ∧ q.2 ≤ ws.length ∧ one (sl ws q.1 q.2) = true := by
  have hp : 0 < ws.length := List.length_pos_iff.mpr h0
  have e : spans (sts ws) ws.length = (sts ws).zip ((sts ws).drop 1) ++ [(ls ws (ws.length - 1), ws.length)] := by
    have := zip_snoc (x := ls ws (ws.length - 1)) (y := ws.length) (st_last ws (ws.length - 1))
    unfold spans sts
    obtain ⟨r, hr⟩ := st_head ws (ws.length - 1)
    rw [hr] at this ⊢
    simp only [List.cons_append, List.drop_succ_cons, List.drop_zero] at this ⊢
    rw [← this]
    have hz : ∀ (xs ys : List Nat) (y : Nat), xs.length = ys.length → (xs ++ [y]).zip ys = xs.zip ys := fun xs => by
      induction xs with
      | nil => intro ys y h; cases ys with
        | nil => rfl
        | cons _ _ => simp at h
      | cons x xs ih => intro ys y h; cases ys with
        | nil => simp at h
        | cons b ys => simp only [List.cons_append, List.zip_cons_cons, ih ys y (by simpa using h)]
    exact (hz (0 :: r) (r ++ [ws.length]) ws.length (by simp)).symm
  intro q hq
  rw [e, List.mem_append] at hq
  rcases hq with hq | hq
  · have N := st_next ws (ws.length - 1) q hq
    have hb := st_mem ws (ws.length - 1) q.2 (List.mem_of_mem_drop (List.of_mem_zip hq).2)
    exact ⟨N.lt, by omega, (one_sl N.lt (by omega)).mpr N.run⟩
  · simp only [List.mem_singleton] at hq
    subst hq
    have hl := ls_le ws (ws.length - 1)
    have e2 := ls_run ws (ws.length - 1) _ (Nat.le_refl _) hl
    exact ⟨by simp only; omega, Nat.le_refl _, (one_sl (by omega) (Nat.le_refl _)).mpr fun p h1 h2 => by rw [ls_run ws _ p h1 (by omega), e2]⟩
theorem ev_ishands {ws : List Cs} (P : Pgs ws) : evF prg (n + 5) 39 [eP ws, eI (sts ws)] S = .ok (.bl true) S := by
  have hSL := SL_big
  have hl := P.pl
  have hsl := st_len ws (ws.length - 1)
  refine evF_pure (np := 2) (nl := 4) (body := b_is_hands) rfl rfl (by simp) rfl (S' := []) ?_
  have h1 := fun S => need_pages (S := S) (n := n) P
  have h2 := fun S => ev_fstarts (S := S) (n := n + 1) P.p0 P.pl
  have hlen : ∀ S, evBi .len false [eP ws] S = .ok (.int ws.length) S := fun S => by simp [eP]
  have h3 := fun S => ev_spans (S := S) (n := n + 3) (ss := sts ws) (m := ws.length) (by unfold sts; omega)
  have c1 : ∀ o2 o3, evE prg (evF prg (n + 4)) c_is_hands_1 [some (eP ws), some (eI (sts ws)), o2, o3] [] = .ok (.lst ((spans (sts ws) ws.length).map fun _ => .bl true)) [] := fun o2 o3 =>
    ev_compM (spans (sts ws) ws.length) (fun q : Nat × Nat => .tup [.int q.1, .int q.2]) _ (by simp [e_var, hlen, h3]) (by simp [spans, sts]; omega) fun q hq => by
      obtain ⟨a1, a2, a3⟩ := spans_ok P.p0 q hq
      have := ev_one (S := []) (n := n + 3) (ws := ws) (i := q.1) (j := q.2) a2 (Nat.le_of_lt a1)
      rw [a3] at this
      simp [wipeE, e_var, this]
  rw [show eI (st ws (ws.length - 1)) = eI (sts ws) from rfl] at h2
  simp [b_is_hands, envOf, e_var, h1, hlen, h2, c1]
/-- the quarrels: where a word parts from the one ahead -/
def ppr (ws : List Cs) : D := .tup (((sts ws).drop 1).map eQ)
theorem flats_eQ (xs : List Nat) : D.flats (xs.map eQ) = true := flats_map fun _ _ => by simp [eQ]
theorem ev_paper {ws : List Cs} (P : Pgs ws) : evF prg (n + 5) 40 [eP ws] S = .ok (ppr ws) S := by
  refine evF_pure (np := 1) (nl := 1) (body := b_hand_paper) rfl rfl (by simp) (by unfold ppr; rw [flat_tup]; exact flats_eQ _) (S' := []) ?_
  have h1 := fun S => need_pages (S := S) (n := n) P
  have h2 := fun S => ev_quar (S := S) (n := n + 1) P.p0 P.pl
  simp [b_hand_paper, envOf, e_var, h1, h2, ppr, sts]
theorem pair_next {ws : List Cs} {b : Nat} (h : b ∈ (sts ws).drop 1) : 1 ≤ b ∧ b ≤ ws.length - 1 ∧ brk ws b = true := by
  have hz : ∃ a, (a, b) ∈ (sts ws).zip ((sts ws).drop 1) := by
    have : b ∈ ((sts ws).zip ((sts ws).drop 1)).map (·.2) := by rw [List.map_snd_zip (by simp)]; exact h
    obtain ⟨⟨a, b'⟩, h1, h2⟩ := List.mem_map.mp this
    simp only at h2; subst h2
    exact ⟨a, h1⟩
  obtain ⟨a, ha⟩ := hz
  have N := st_next ws (ws.length - 1) _ ha
  have := N.lt
  exact ⟨by simp only at this; omega, st_mem ws _ b (List.mem_of_mem_drop h), N.br⟩
theorem ev_ispaper {ws : List Cs} (P : Pgs ws) : evF prg (n + 5) 41 [eP ws, ppr ws] S = .ok (.bl true) S := by
  have hSL := SL_big
  have hl := P.pl
  have hp : 0 < ws.length := List.length_pos_iff.mpr P.p0
  have hsl : (sts ws).length ≤ ws.length - 1 + 1 := st_len ws (ws.length - 1)
  have hsn : 0 < (sts ws).length := List.length_pos_iff.mpr (st_ne _ _)
  have hup : (sts ws).Pairwise (· < ·) := st_up ws _
  have hnx := fun b => pair_next (ws := ws) (b := b)
  have hlate : ∀ S, evF prg (n + 4) 34 [eP ws] S = .ok (.lst (eIs (sts ws))) S := fun S => ev_late (S := S) (n := n + 2) P.p0 P.pl
  refine evF_pure (np := 2) (nl := 8) (body := b_is_hand_paper) rfl rfl (by simp; unfold ppr; rw [flat_tup]; exact flats_eQ _) rfl (S' := []) ?_
  have hdl : ((sts ws).drop 1).length = (sts ws).length - 1 := by simp
  have hdup : ((sts ws).drop 1).Pairwise (· < ·) := hup.sublist (List.drop_sublist 1 _)
  have h1 := fun S => need_pages (S := S) (n := n) P
  have hlen : ∀ S, evBi .len false [eP ws] S = .ok (.int ws.length) S := fun S => by simp [eP]
  have hlen2 : ∀ S, evBi .len false [.lst (eIs (sts ws))] S = .ok (.int (sts ws).length) S := fun S => by simp [eIs]
  revert hnx hdl hdup
  unfold ppr
  generalize (sts ws).drop 1 = bs
  intro hnx hdl hdup
  have h3 : ∀ S, evF prg (n + 4) 3 [.tup (bs.map eQ), .int ((sts ws).length - 1), .int ((sts ws).length - 1)] S = .ok (.bl true) S := fun S => by
    have := ev_istup (S := S) (n := n + 3) (bs.map eQ) ((sts ws).length - 1) ((sts ws).length - 1) (flats_eQ bs)
    rw [this]
    have e : (((bs.map eQ).length : Nat) : Int) = ((sts ws).length : Int) - 1 := by rw [List.length_map, hdl]; omega
    rw [e]
    simp
  have c1 : ∀ o2 o3 o4 o5 o6 o7, evE prg (evF prg (n + 4)) c_is_hand_paper_1 [some (eP ws), some (.tup (bs.map eQ)), o2, o3, o4, o5, o6, o7] [] = .ok (.lst (bs.map fun _ => .bl true)) [] := fun _ _ _ _ _ _ =>
    ev_compM bs eQ _ (by simp [e_var]) (by omega) fun b hb => by
      have := ev_istup (S := []) (n := n + 3) [.int ((b : Int) - 1), .int b] 2 2 (by simp)
      simp [wipeE, e_var, eQ, this]
  have c2 : ∀ o2 o3 o4 o5 o6 o7, evE prg (evF prg (n + 4)) c_is_hand_paper_2 [some (eP ws), some (.tup (bs.map eQ)), o2, o3, o4, o5, o6, o7] [] = .ok (.lst (bs.flatMap fun (b : Nat) => [(b : Int) - 1, (b : Int)].map fun _ => D.bl true)) [] := fun _ _ _ _ _ _ => by
    refine ev_comp2 bs eQ (fun (b : Nat) => [(b : Int) - 1, (b : Int)]) (fun _ i => .int i) (fun _ _ => .bl true) (by simp [e_var]) ?_ fun b hb => ⟨_, by simp [wipeE]; rfl, by simp [e_var, eQ], fun i hi => ?_⟩
    · have := fmap_len (xs := bs) (f := fun b : Nat => [(b : Int) - 1, (b : Int)].map fun _ => D.bl true) (k := 2) fun _ _ => by simp
      omega
    · obtain ⟨b1, b2, _⟩ := hnx b hb
      have := ev_fwhole (S := []) (n := n + 2) i 0 (ws.length - 1)
      have l1 : (0 : Int) ≤ i := by
        simp only [List.mem_cons, List.not_mem_nil, or_false] at hi
        rcases hi with rfl | rfl <;> omega
      have l2 : i ≤ (ws.length : Int) - 1 := by
        simp only [List.mem_cons, List.not_mem_nil, or_false] at hi
        rcases hi with rfl | rfl <;> omega
      simp [wipeE, tnIx, e_var, hlen, this, l1, l2]
  have a2 : ∀ S, evBi .all false [.lst (bs.flatMap fun (b : Nat) => [(b : Int) - 1, (b : Int)].map fun _ => D.bl true)] S = .ok (.bl true) S := fun S => by
    have : (bs.flatMap fun (b : Nat) => [(b : Int) - 1, (b : Int)].map fun _ => D.bl true) = (bs.flatMap fun (b : Nat) => [(b : Int) - 1, (b : Int)].map fun _ => true).map D.bl := by
      rw [List.map_flatMap]; rfl
    rw [this, bi_all]
    congr 2
    simp
  have c3 : ∀ o2 o3 o4 o5 o6 o7, evE prg (evF prg (n + 4)) c_is_hand_paper_3 [some (eP ws), some (.tup (bs.map eQ)), o2, o3, o4, o5, o6, o7] [] = .ok (.lst (bs.map fun _ => .bl true)) [] := fun _ _ _ _ _ _ =>
    ev_compM bs eQ _ (by simp [e_var]) (by omega) fun b hb => by
      obtain ⟨b1, b2, b3⟩ := hnx b hb
      have i1 := idx_eP (S := []) (ws := ws) (p := b - 1) (by omega)
      have i2 := idx_eP (S := []) (ws := ws) (p := b) (by omega)
      rw [show ((b - 1 : Nat) : Int) = (b : Int) - 1 by omega] at i1
      have hq := ev_quarrel (S := []) (n := n + 3) (gw ws (b - 1)) (gw ws b)
      have hb3 : (!(gw ws (b - 1) == gw ws b)) = true := by
        simp only [brk, Bool.not_eq_eq_eq_not, Bool.not_true, beq_eq_false_iff_ne, ne_eq] at b3 ⊢
        exact fun e => b3 e.symm
      rw [hb3] at hq
      have l1 : (b : Int) - 1 < b := by omega
      simp [wipeE, e_var, eQ, l1, i1, i2, hq]
  have c4 : ∀ o2 o3 o4 o5 o6 o7, evE prg (evF prg (n + 4)) c_is_hand_paper_4 [some (eP ws), some (.tup (bs.map eQ)), o2, o3, o4, o5, o6, o7] [] = .ok (.lst ((bs.zip (bs.drop 1)).map fun _ => .bl true)) [] := fun _ _ _ _ _ _ =>
    ev_compM (bs.zip (bs.drop 1)) (fun q => .pr [eQ q.1, eQ q.2]) _ (by
      have h5 : ∀ S, sliceK false (some 1) none (.tup (bs.map eQ)) S = .ok (.tup ((bs.drop 1).map eQ)) S := fun S => by
        have := cut1 (bs.map eQ)
        simp only [sliceK, drf_tup, this]
        simp only [List.map_drop]
      have h6 : ∀ S ys zs, zipK S (.tup ys) (.tup zs) = true := fun S ys zs => rfl
      have h7 := zipD_map eQ eQ bs (bs.drop 1)
      simp [e_var, -List.drop_one, h5, h6]
      rw [← List.map_drop]
      exact h7) (by simp; omega) fun q hq => by
      have hlt := zip_next hdup q hq
      have l1 : (q.1 : Int) ≤ (q.2 : Int) - 1 := by omega
      simp [wipeE, e_var, eQ, l1]
  simp only [List.map_cons, List.map_nil] at c2 a2
  simp [b_is_hand_paper, envOf, e_var, h1, hlate, hlen2, h3, c1, c2, a2, c3, c4]
end K99
end QF
end

section
namespace QF
namespace K99
theorem asc_up {xs : List Cs} (h : Asc ltS xs) (hn : xs.Nodup) : Up xs := by
  refine List.Pairwise.imp₂ (fun {a b} (h1 : ltS b a = false) (h2 : a ≠ b) => ?_) h hn
  simp only [ltS, decide_eq_false_iff_not] at h1
  rcases Decidable.em (a < b) with h | h
  · exact h
  · exact absurd (List.le_antisymm (List.not_lt.mp h1) (List.not_lt.mp h)) h2
theorem rd_up (p : Nat) (ts : List (Cs × List Cs)) : Up (rd p ts) := asc_up (isort_asc totS _) ((isort_perm totS _).nodup_iff.mpr (heads_nodup _))
theorem grp_mem {p : Nat} {ts : List (Cs × List Cs)} {r s : Cs} : s ∈ grp p ts r ↔ ∃ q ∈ ts, wd p q = r ∧ q.1 = s := by
  simp only [grp, List.mem_map, List.mem_filter, decide_eq_true_eq]
  exact ⟨fun ⟨q, ⟨h1, h2⟩, h3⟩ => ⟨q, h1, h2, h3⟩, fun ⟨q, h1, h2, h3⟩ => ⟨q, ⟨h1, h2⟩, h3⟩⟩
theorem grp_up {p : Nat} {ts : List (Cs × List Cs)} (h : Up (nms ts)) (r : Cs) : Up (grp p ts r) := h.sublist (List.Sublist.map _ List.filter_sublist)
theorem nms_inj : ∀ {ts : List (Cs × List Cs)} {q r : Cs × List Cs}, (nms ts).Nodup → q ∈ ts → r ∈ ts → q.1 = r.1 → q = r
  | [], q, r, _, h, _, _ => by simp at h
  | a :: ts, q, r, hn, h1, h2, e => by
    simp only [nms, List.map_cons, List.nodup_cons] at hn
    rcases List.mem_cons.mp h1 with e1 | k1
    · rcases List.mem_cons.mp h2 with e2 | k2
      · rw [e1, e2]
      · exact absurd (show a.1 ∈ ts.map (·.1) from by rw [← e1, e]; exact List.mem_map_of_mem k2) hn.1
    · rcases List.mem_cons.mp h2 with e2 | k2
      · exact absurd (show a.1 ∈ ts.map (·.1) from by rw [← e2, ← e]; exact List.mem_map_of_mem k1) hn.1
      · exact nms_inj hn.2 k1 k2 e
theorem grp_iff {p : Nat} {ts : List (Cs × List Cs)} {q : Cs × List Cs} (hn : (nms ts).Nodup) (hq : q ∈ ts) (r : Cs) : q.1 ∈ grp p ts r ↔ wd p q = r := by
  rw [grp_mem]
  constructor
  · rintro ⟨q', h1, h2, h3⟩
    rw [← nms_inj hn h1 hq h3]; exact h2
  · exact fun h => ⟨q, hq, h, rfl⟩
theorem grps_nodup {p : Nat} {ts : List (Cs × List Cs)} (hn : Up (nms ts)) {rs : List Cs} (hr : rs.Nodup) : (rs.flatMap (grp p ts)).Nodup := by
  refine List.pairwise_flatMap.mpr ⟨fun r _ => up_nodup (grp_up hn r), hr.imp fun {a b} hab x hx y hy e => ?_⟩
  subst e
  obtain ⟨q1, h1, h2, h3⟩ := grp_mem.mp hx
  obtain ⟨q2, h4, h5, h6⟩ := grp_mem.mp hy
  have := nms_inj (up_nodup hn) h1 h4 (h3.trans h6.symm)
  subst this
  exact hab (h2.symm.trans h5)
/-- the notes of one place out of all -/
theorem at_flat {F : Nat → Cs → List (Nat × Cs × List Cs)} (hF : ∀ p w, ∀ a ∈ F p w, a.1 = p) : ∀ (xs : List Cs) (i p : Nat), at_ p ((enumN i xs).flatMap fun q => F q.1 q.2) = if h : i ≤ p ∧ p < i + xs.length then F p (xs[p - i]'(by omega)) else []
  | [], i, p => by
    rw [dif_neg (by simp)]; rfl
  | x :: xs, i, p => by
    have e : at_ p ((enumN i (x :: xs)).flatMap fun q => F q.1 q.2) = at_ p (F i x) ++ at_ p ((enumN (i + 1) xs).flatMap fun q => F q.1 q.2) := by
      simp only [enumN, List.flatMap_cons, at_, List.filter_append]
    rw [e, at_flat hF xs (i + 1) p]
    by_cases hp : p = i
    · subst hp
      have e1 : at_ p (F p x) = F p x := List.filter_eq_self.mpr fun a ha => by simpa using hF p x a ha
      rw [e1, dif_neg (by omega), dif_pos (by simp), List.append_nil]
      simp
    · have e1 : at_ p (F i x) = [] := List.filter_eq_nil_iff.mpr fun a ha => by
        have := hF i x a ha
        simp only [decide_eq_true_eq]
        omega
      rw [e1, List.nil_append]
      by_cases h : i ≤ p ∧ p < i + (x :: xs).length
      · simp only [List.length_cons] at h
        rw [dif_pos (by omega), dif_pos (by simp only [List.length_cons]; omega)]
        congr 1
        have e2 : p - i = (p - (i + 1)) + 1 := by omega
        simp only [e2, List.getElem_cons_succ]
      · simp only [List.length_cons] at h
        rw [dif_neg (by omega), dif_neg (by simp only [List.length_cons]; omega)]
theorem enum_up {α : Type} : ∀ (xs : List α) (i : Nat), (enumN i xs).Pairwise fun a b => a.1 < b.1
  | [], _ => .nil
  | x :: xs, i => List.pairwise_cons.mpr ⟨fun q hq => by have := (enum_mem hq).1; simp only; omega, enum_up xs (i + 1)⟩
/-- notes made place by place, some of the readings at each -/
theorem nt_of {base : List Cs} {texts : List (Cs × List Cs)} (T : Tx base texts) {F : Nat → Cs → List (Nat × Cs × List Cs)} (R : Nat → Cs → List Cs) (hF : ∀ p w, F p w = (R p w).map (nt p texts)) (hR : ∀ p w, (R p w).Sublist (rd p texts)) :
    Nt base (nms texts) ((enumN 0 base).flatMap fun q => F q.1 q.2) := by
  have hb := T.bl
  have hl := T.tl
  have hRu : ∀ p w, Up (R p w) := fun p w => (rd_up p texts).sublist (hR p w)
  have hRm : ∀ p w, ∀ r ∈ R p w, r ∈ col p texts := fun p w r hr => (rd_mem p texts r).mp ((hR p w).mem hr)
  have mem : ∀ a ∈ (enumN 0 base).flatMap (fun q => F q.1 q.2), ∃ p w r, p < base.length ∧ r ∈ R p w ∧ a = nt p texts r := fun a ha => by
    obtain ⟨q, hq, h⟩ := List.mem_flatMap.mp ha
    rw [hF] at h
    obtain ⟨r, hr, rfl⟩ := List.mem_map.mp h
    have := (enum_mem hq).2.1
    exact ⟨q.1, q.2, r, by omega, hr, rfl⟩
  have hF1 : ∀ p w, ∀ a ∈ F p w, a.1 = p := fun p w a ha => by
    rw [hF] at ha
    obtain ⟨r, _, rfl⟩ := List.mem_map.mp ha; rfl
  refine ⟨?_, ?_, ?_, ?_, ?_, ?_, ?_, ?_⟩
  · have h1 := fmap_len (xs := enumN 0 base) (f := fun q => F q.1 q.2) (k := 16) fun q _ => by
      rw [hF, List.length_map]
      have h2 := (hR q.1 q.2).length_le
      have h3 := rd_len q.1 texts
      omega
    rw [enumN_len] at h1
    omega
  · intro a ha
    obtain ⟨p, w, r, h1, h2, rfl⟩ := mem a ha
    exact h1
  · intro a ha
    obtain ⟨p, w, r, h1, h2, rfl⟩ := mem a ha
    exact T.coln h1 r (hRm p w r h2)
  · intro a ha
    obtain ⟨p, w, r, h1, h2, rfl⟩ := mem a ha
    obtain ⟨q, hq, e⟩ := List.mem_map.mp (hRm p w r h2)
    have : q.1 ∈ grp p texts r := grp_mem.mpr ⟨q, hq, e, rfl⟩
    intro h
    have h' : grp p texts r = [] := h
    rw [h'] at this; cases this
  · intro a ha
    obtain ⟨p, w, r, h1, h2, rfl⟩ := mem a ha
    exact grp_up T.tu r
  · intro a ha s hs
    obtain ⟨p, w, r, h1, h2, rfl⟩ := mem a ha
    obtain ⟨q, hq, _, rfl⟩ := grp_mem.mp hs
    exact List.mem_map_of_mem hq
  · refine List.pairwise_flatMap.mpr ⟨fun q _ => ?_, (enum_up base 0).imp fun {a b} hab x hx y hy => ?_⟩
    · rw [hF, List.pairwise_map]
      exact (hRu q.1 q.2).imp fun {a b} hab => .inr ⟨rfl, hab⟩
    · rw [hF1 _ _ x hx, hF1 _ _ y hy]
      exact .inl hab
  · intro p
    show ((at_ p _).flatMap fun a => a.2.2).Nodup
    rw [at_flat hF1 base 0 p]
    split
    · rw [hF, List.flatMap_map]
      exact grps_nodup T.tu (up_nodup (hRu p _))
    · exact .nil
def Rp (texts : List (Cs × List Cs)) (p : Nat) (w : Cs) : List Cs := (rd p texts).filter fun r => !(r == w)
def Rf (texts : List (Cs × List Cs)) (p : Nat) (w : Cs) : List Cs := if heads (col p texts) = [w] then [] else rd p texts
theorem fl1_eq (texts : List (Cs × List Cs)) (p : Nat) (w : Cs) : fl1 texts p w = (Rf texts p w).map (nt p texts) := by
  unfold fl1 Rf; split <;> simp
theorem nt_plain {base : List Cs} {texts : List (Cs × List Cs)} (T : Tx base texts) : Nt base (nms texts) (plainN base texts) := nt_of T (Rp texts) (fun _ _ => rfl) fun _ _ => List.filter_sublist
theorem nt_full {base : List Cs} {texts : List (Cs × List Cs)} (T : Tx base texts) : Nt base (nms texts) (fullN base texts) := nt_of T (Rf texts) (fl1_eq texts) fun p w => by
  unfold Rf; split
  · exact List.nil_sublist _
  · exact List.Sublist.refl _
theorem head_of {α : Type} {P : α → Bool} {f : α → Cs} {xs : List α} {v w : Cs} (h : ∀ a ∈ xs, P a = true → f a = v) (h2 : (∃ a ∈ xs, P a = true) ∨ w = v) : ((xs.filter P).map f ++ [w]).headD [] = v := by
  cases e : xs.filter P with
  | nil =>
    rcases h2 with ⟨a, ha, hp⟩ | rfl
    · have : a ∈ xs.filter P := List.mem_filter.mpr ⟨ha, hp⟩
      rw [e] at this; cases this
    · rfl
  | cons a r =>
    have : a ∈ xs.filter P := by rw [e]; exact List.mem_cons_self
    obtain ⟨h3, h4⟩ := List.mem_filter.mp this
    simpa using h a h3 h4
theorem words_eq {base : List Cs} {q : Cs × List Cs} (h : q.2.length = base.length) {g : Nat → Cs → Cs} (hg : ∀ p (hp : p < base.length), g p base[p] = wd p q) : ((enumN 0 base).map fun e => g e.1 e.2) = q.2 := by
  have key : ∀ (xs ys : List Cs) (i : Nat), xs.length = ys.length → (∀ p (hp : p < xs.length) (hq : p < ys.length), g (i + p) xs[p] = ys[p]) → ((enumN i xs).map fun e => g e.1 e.2) = ys := fun xs => by
    induction xs with
    | nil => intro ys i h _; cases ys with
      | nil => rfl
      | cons _ _ => cases h
    | cons x xs ih =>
      intro ys i h hg
      cases ys with
      | nil => cases h
      | cons y ys =>
        simp only [enumN, List.map_cons, List.cons.injEq]
        refine ⟨hg 0 (by simp) (by simp), ih ys (i + 1) (by simpa using h) fun p hp hq => ?_⟩
        have := hg (p + 1) (by simp only [List.length_cons]; omega) (by simp only [List.length_cons]; omega)
        simpa [Nat.add_assoc, Nat.add_comm 1 p] using this
  refine key base q.2 0 h.symm fun p hp hq => ?_
  rw [Nat.zero_add, hg p hp]
  simp [wd, List.getD, hq]
theorem tb_of {base : List Cs} {texts : List (Cs × List Cs)} (T : Tx base texts) {F : Nat → Cs → List (Nat × Cs × List Cs)} (R : Nat → Cs → List Cs) (hF : ∀ p w, F p w = (R p w).map (nt p texts)) {q : Cs × List Cs} (hq : q ∈ texts)
    (hR : ∀ p w, wd p q ∈ R p w ∨ w = wd p q) : ((enumN 0 base).map fun e => tb1 ((enumN 0 base).flatMap fun q => F q.1 q.2) q.1 e.1 e.2) = q.2 := by
  have hF1 : ∀ p w, ∀ a ∈ F p w, a.1 = p := fun p w a ha => by
    rw [hF] at ha
    obtain ⟨r, _, rfl⟩ := List.mem_map.mp ha; rfl
  have hn := up_nodup T.tu
  refine words_eq (T.tw q hq) (g := fun p w => tb1 _ q.1 p w) fun p hp => ?_
  unfold tb1
  rw [at_flat hF1 base 0 p, dif_pos ⟨Nat.zero_le _, by omega⟩]
  simp only [Nat.sub_zero]
  rw [hF]
  refine head_of (fun a ha h => ?_) ?_
  · obtain ⟨r, hr, rfl⟩ := List.mem_map.mp ha
    have : q.1 ∈ grp p texts r := of_decide_eq_true h
    exact ((grp_iff hn hq r).mp this).symm
  · rcases hR p base[p] with h | h
    · exact .inl ⟨nt p texts (wd p q), List.mem_map_of_mem h, decide_eq_true ((grp_iff hn hq _).mpr rfl)⟩
    · exact .inr h
theorem wd_col {p : Nat} {texts : List (Cs × List Cs)} {q : Cs × List Cs} (hq : q ∈ texts) : wd p q ∈ col p texts := List.mem_map_of_mem hq
theorem tb_plain {base : List Cs} {texts : List (Cs × List Cs)} (T : Tx base texts) {q : Cs × List Cs} (hq : q ∈ texts) : ((enumN 0 base).map fun e => tb1 (plainN base texts) q.1 e.1 e.2) = q.2 :=
  tb_of T (Rp texts) (fun _ _ => rfl) hq fun p w => by
    by_cases h : w = wd p q
    · exact .inr h
    · exact .inl (List.mem_filter.mpr ⟨(rd_mem _ _ _).mpr (wd_col hq), by simpa using fun e => h e.symm⟩)
theorem tb_full {base : List Cs} {texts : List (Cs × List Cs)} (T : Tx base texts) {q : Cs × List Cs} (hq : q ∈ texts) : ((enumN 0 base).map fun e => tb1 (fullN base texts) q.1 e.1 e.2) = q.2 :=
  tb_of T (Rf texts) (fl1_eq texts) hq fun p w => by
    unfold Rf
    by_cases h : heads (col p texts) = [w]
    · have := (heads_mem _ _).mpr (wd_col (p := p) hq)
      rw [h] at this
      exact .inr (List.mem_singleton.mp this).symm
    · rw [if_neg h]
      exact .inl ((rd_mem _ _ _).mpr (wd_col hq))
theorem sizeN_app (xs ys : List (Nat × Cs × List Cs)) : sizeN (xs ++ ys) = sizeN xs + sizeN ys := by simp [sizeN]
theorem sizeN_cons (x : Nat × Cs × List Cs) (ys : List (Nat × Cs × List Cs)) : sizeN (x :: ys) = max (1 : Int) (x.2.2.length : Nat) + sizeN ys := by simp [sizeN]
theorem sizeN_filter (f : Cs → Nat × Cs × List Cs) (P : Cs → Bool) : ∀ rs : List Cs, sizeN ((rs.filter P).map f) ≤ sizeN (rs.map f)
  | [] => Int.le_refl _
  | r :: rs => by
    have ih := sizeN_filter f P rs
    cases h : P r
    · rw [List.filter_cons_of_neg (by simp [h]), List.map_cons, sizeN_cons]
      omega
    · rw [List.filter_cons_of_pos h, List.map_cons, List.map_cons, sizeN_cons, sizeN_cons]
      omega
theorem sizeN_le {α : Type} {F G : α → List (Nat × Cs × List Cs)} : ∀ {xs : List α}, (∀ a ∈ xs, sizeN (F a) ≤ sizeN (G a)) → sizeN (xs.flatMap F) ≤ sizeN (xs.flatMap G)
  | [], _ => Int.le_refl _
  | a :: xs, h => by
    have h1 := h a List.mem_cons_self
    have h2 := sizeN_le (xs := xs) fun b hb => h b (List.mem_cons_of_mem _ hb)
    simp only [List.flatMap_cons, sizeN_app]
    omega
theorem size_le (base : List Cs) (texts : List (Cs × List Cs)) : sizeN (plainN base texts) ≤ sizeN (fullN base texts) := sizeN_le fun q _ => by
  unfold fl1
  split
  · rename_i h
    have e : rd q.1 texts = [q.2] := by unfold rd; rw [h]; rfl
    unfold pl1
    rw [e]
    simp
  · exact sizeN_filter _ _ _
end K99
end QF
end

section
namespace QF
mutual
theorem flat_under (n : Nat) : ∀ d : D, d.flat = true → d.under n = true
  | .tup ds, h => by simp only [D.flat] at h; simp only [D.under]; exact flats_unders n ds h
  | .pr ds, h => by simp only [D.flat] at h; simp only [D.under]; exact flats_unders n ds h
  | .lst ds, h => by simp only [D.flat] at h; simp only [D.under]; exact flats_unders n ds h
  | .dic t ks vs, h => by simp only [D.flat, Bool.and_eq_true] at h; simp only [D.under, Bool.and_eq_true]; exact ⟨flats_unders n ks h.1, flats_unders n vs h.2⟩
  | .exc c fs, h => by simp only [D.flat] at h; simp only [D.under]; exact flats_unders n fs h
  | .loc m, h => by simp [D.flat] at h
  | .non, h => by simp only [D.under]
  | .bl _, h => by simp only [D.under]
  | .int _, h => by simp only [D.under]
  | .str _, h => by simp only [D.under]
  | .fn _, h => by simp only [D.under]
  | .scr _, h => by simp only [D.under]
theorem flats_unders (n : Nat) : ∀ ds : List D, D.flats ds = true → D.unders n ds = true
  | [], _ => by simp only [D.unders]
  | d :: ds, h => by
    simp only [D.flats, Bool.and_eq_true] at h
    simp only [D.unders, Bool.and_eq_true]
    exact ⟨flat_under n d h.1, flats_unders n ds h.2⟩
end
mutual
theorem under_le {n m : Nat} (h : n ≤ m) : ∀ d : D, d.under n = true → d.under m = true
  | .tup ds, k => by simp only [D.under] at k ⊢; exact unders_le h ds k
  | .pr ds, k => by simp only [D.under] at k ⊢; exact unders_le h ds k
  | .lst ds, k => by simp only [D.under] at k ⊢; exact unders_le h ds k
  | .dic t ks vs, k => by simp only [D.under, Bool.and_eq_true] at k ⊢; exact ⟨unders_le h ks k.1, unders_le h vs k.2⟩
  | .exc c fs, k => by simp only [D.under] at k ⊢; exact unders_le h fs k
  | .loc i, k => by simp only [D.under, decide_eq_true_eq] at k ⊢; omega
  | .non, k => by simp only [D.under]
  | .bl _, k => by simp only [D.under]
  | .int _, k => by simp only [D.under]
  | .str _, k => by simp only [D.under]
  | .fn _, k => by simp only [D.under]
  | .scr _, k => by simp only [D.under]
theorem unders_le {n m : Nat} (h : n ≤ m) : ∀ ds : List D, D.unders n ds = true → D.unders m ds = true
  | [], _ => by simp only [D.unders]
  | d :: ds, k => by
    simp only [D.unders, Bool.and_eq_true] at k ⊢
    exact ⟨under_le h d k.1, unders_le h ds k.2⟩
end
theorem Ounder_le {n m : Nat} (h : n ≤ m) (o : O) (k : o.under n = true) : o.under m = true := by
  cases o with
  | dead => rfl
  | lst ds => exact unders_le h ds k
  | dic t ks vs =>
    simp only [O.under, Bool.and_eq_true] at k ⊢
    exact ⟨unders_le h ks k.1, unders_le h vs k.2⟩
  | ins c fs =>
    simp only [O.under, List.all_eq_true] at k ⊢
    exact fun p hp => under_le h p.2 (k p hp)
/-- a comprehension whose turns change the store -/
theorem comp_inv {α : Type} {f : D → Sto → Res (Option D)} (enc : α → D) (Inv : List α → List D → Sto → Prop) {xs : List α} :
    ∀ (post pre : List α) (acc : List D) (S : Sto), xs = pre ++ post → acc.length = pre.length → xs.length ≤ SL → Inv pre acc S →
    (∀ pre a post acc S, xs = pre ++ a :: post → Inv pre acc S → ∃ d S2, f (enc a) S = .ok (some d) S2 ∧ Inv (pre ++ [a]) (acc ++ [d]) S2) →
    ∃ acc' S', compGo [] f (post.map enc) acc S = .ok acc' S' ∧ Inv xs acc' S'
  | [], pre, acc, S, e, hl, _, I, _ => ⟨acc, S, by simp [compGo], by rw [e, List.append_nil]; exact I⟩
  | a :: post, pre, acc, S, e, hl, hz, I, h => by
    obtain ⟨d, S2, h1, h2⟩ := h pre a post acc S e I
    obtain ⟨acc', S', h3, h4⟩ := comp_inv enc Inv post (pre ++ [a]) (acc ++ [d]) S2 (by rw [e]; simp) (by simp [hl]) hz h2 h
    have hlt : acc.length < SL := by
      have := congrArg List.length e
      simp only [List.length_append, List.length_cons] at this
      omega
    refine ⟨acc', S', ?_, h4⟩
    simp only [List.map_cons, compGo, chk_nil, if_true, h1, hlt, h3]
theorem ev_compS {α : Type} {P : Prg} {cf : Nat → List D → Sto → Res D} {ρ : Env} {S : Sto} {m : Bool} {own : List Nat} {tg : Tn} {it : It} {elt : Ex} (xs : List α) (enc : α → D) (Inv : List α → List D → Sto → Prop) (hI : evI P cf it ρ S = .ok ⟨xs.map enc, []⟩ S) (hl : xs.length ≤ SL) (h0 : Inv [] [] S)
    (h : ∀ pre a post acc S, xs = pre ++ a :: post → Inv pre acc S → ∃ ρ' d S2, asgT tg (enc a) (wipeE ρ own) = some ρ' ∧ evE P cf elt ρ' S = .ok d S2 ∧ Inv (pre ++ [a]) (acc ++ [d]) S2) :
    ∃ ds S', evE P cf (.comp m own tg it .no elt) ρ S = newL m ds S' ∧ Inv xs ds S' := by
  obtain ⟨ds, S', h1, h2⟩ := comp_inv (f := fun x S => onO (asgT tg x (wipeE ρ own)) (fun ρ' S => (evC P cf .no ρ' S).bind fun b S => someB b (fun S => evE P cf elt ρ' S) S) S) enc Inv xs [] [] S rfl rfl hl h0 fun pre a post acc S e I => by
    obtain ⟨ρ', d, S2, e1, e2, e3⟩ := h pre a post acc S e I
    exact ⟨d, S2, by simp only [e1, onO_some, c_no, bind_ok, someB_true, e2], e3⟩
  refine ⟨ds, S', ?_, h2⟩
  simp only [evE, hI, bind_ok, h1]
namespace K99
variable {S : Sto} {n : Nat}
structure CupS (S : Sto) : Prop where
  cup : ∃ a b : Int, S[0]? = some (.lst [.int a, .int b]) ∧ 0 ≤ a ∧ 0 ≤ b ∧ b < 4294967296
  und : S.all (O.under S.length) = true
def Rest (S S' : Sto) : Prop := S'.length = S.length ∧ ∀ k, k ≠ 0 → S'[k]? = S[k]?
theorem Rest.refl : Rest S S := ⟨rfl, fun _ _ => rfl⟩
theorem Rest.trans {A B C : Sto} (h : Rest A B) (k : Rest B C) : Rest A C := ⟨k.1.trans h.1, fun i hi => (k.2 i hi).trans (h.2 i hi)⟩
theorem CupS.set {S : Sto} (c : CupS S) {a b : Int} (ha : 0 ≤ a) (hb : 0 ≤ b) (hb2 : b < 4294967296) : CupS (S.set 0 (.lst [.int a, .int b])) ∧ Rest S (S.set 0 (.lst [.int a, .int b])) := by
  obtain ⟨x, y, hc, _⟩ := c.cup
  have hl : 0 < S.length := (List.getElem?_eq_some_iff.mp hc).1
  refine ⟨⟨⟨a, b, by rw [List.getElem?_set_self hl], ha, hb, hb2⟩, ?_⟩, by simp, fun k hk => by rw [List.getElem?_set_ne (Ne.symm hk)]⟩
  rw [List.length_set, List.all_eq_true]
  intro o ho
  rcases List.mem_or_eq_of_mem_set ho with h | rfl
  · exact List.all_eq_true.mp c.und o h
  · rfl
theorem CupS.push {S : Sto} (c : CupS S) {o : O} (h : o.under (S.length + 1) = true) : CupS (S ++ [o]) := by
  obtain ⟨x, y, hc, r⟩ := c.cup
  have hl : 0 < S.length := (List.getElem?_eq_some_iff.mp hc).1
  refine ⟨⟨x, y, by rw [List.getElem?_append_left hl]; exact hc, r⟩, ?_⟩
  rw [List.all_eq_true]
  intro p hp
  rw [List.length_append, List.length_singleton]
  rcases List.mem_append.mp hp with hp | hp
  · exact Ounder_le (Nat.le_succ _) p (List.all_eq_true.mp c.und p hp)
  · rw [List.mem_singleton.mp hp]; exact h
theorem mulOk_l {i j : Int} (h : -(2 ^ 64) < i) (h2 : i < 2 ^ 64) : mulOk i j = true := by
  unfold mulOk
  rw [decide_eq_true h, decide_eq_true h2]; rfl
theorem mulOk_r {i j : Int} (h : -(2 ^ 64) < j) (h2 : j < 2 ^ 64) : mulOk i j = true := by
  unfold mulOk
  rw [decide_eq_true h, decide_eq_true h2]; simp
theorem ev_roll {m : Int} (c : CupS S) (h0 : 0 < m) (h1 : m < 1000) : ∃ r S', 0 ≤ r ∧ r < m ∧ evF prg (n + 1) 43 [.loc 0, .int m] S = .ok (.int r) S' ∧ CupS S' ∧ Rest S S' := by
  obtain ⟨a, b, hc, ha, hb, hb2⟩ := c.cup
  have hl : 0 < S.length := (List.getElem?_eq_some_iff.mp hc).1
  have fin : ∀ (r : Int) (S' : Sto), retOf (evSs prg (evF prg n) b_law_roll [some (.loc 0), some (.int m), none, none] S) = .ok (.int r) S' → CupS S' → Rest S S' → evF prg (n + 1) 43 [.loc 0, .int m] S = .ok (.int r) S' := fun r S' e c' k => by
    have ht : S'.take S.length = S' := by rw [← k.1]; exact List.take_length
    have := evF_own (P := prg) (n := n) (f := 43) (np := 2) (nl := 4) (body := b_law_roll) (ds := [.loc 0, .int m]) (d := .int r) (S := S) (S' := S') rfl rfl e rfl (by rw [ht, ← k.1]; exact c'.und)
    rw [this, ht]
  have i0 : idx2 (.loc 0) (.int 0) S = .ok (.int a) S := ix_loc hc (at_nat (k := 0) rfl)
  by_cases hp : 0 < a
  · have q := c.set (a := a / m) (b := b) (Int.ediv_nonneg ha (by omega)) hb hb2
    refine ⟨a % m, S.set 0 (.lst [.int (a / m), .int b]), Int.emod_nonneg _ (by omega), Int.emod_lt_of_pos _ h0, fin _ _ ?_ q.1 q.2, q.1, q.2⟩
    have s0 : ∀ v, setD (.loc 0) (.int 0) v S = .ok () (S.set 0 (.lst [v, .int b])) := fun v => by
      simp only [setD, thing, hc, Option.map_some, onO_some, setO]
      rfl
    have d1 := op_fdiv (S := S) (i := a) (j := m) ⟨h0, by omega⟩
    have d2 := op_mod (S := S) (i := a) (j := m) h0
    simp [b_law_roll, e_var, i0, hp, d1, d2, s0]
  · have a0 : a = 0 := by omega
    subst a0
    have i1 : idx2 (.loc 0) (.int 1) S = .ok (.int b) S := ix_loc hc (at_nat (k := 1) rfl)
    let b' : Int := (b * 31277 + 8269) % 2147482937
    have hb' : 0 ≤ b' ∧ b' < 2147482937 := ⟨Int.emod_nonneg _ (by omega), Int.emod_lt_of_pos _ (by omega)⟩
    have q := c.set (a := 0) (b := b') (Int.le_refl _) hb'.1 (by omega)
    have s1 : ∀ v, setD (.loc 0) (.int 1) v S = .ok () (S.set 0 (.lst [.int 0, v])) := fun v => by
      simp only [setD, thing, hc, Option.map_some, onO_some, setO]
      rfl
    have j1 : idx2 (.loc 0) (.int 1) (S.set 0 (.lst [.int 0, .int b'])) = .ok (.int b') (S.set 0 (.lst [.int 0, .int b'])) := ix_loc (by rw [List.getElem?_set_self hl]) (at_nat (k := 1) rfl)
    have m1 := op_mul (S := S) (i := b) (j := 31277) (mulOk_r (by decide) (by decide))
    have m2 := op_mul (S := S.set 0 (.lst [.int 0, .int b'])) (i := b') (j := b' + 467) (mulOk_l (Int.lt_of_lt_of_le (by decide) hb'.1) (Int.lt_trans hb'.2 (by decide)))
    have e1 := op_mod (S := S) (i := b * 31277 + 8269) (j := 2147482937) (by omega)
    have e2 := op_mod (S := S.set 0 (.lst [.int 0, .int b'])) (i := b' * (b' + 467)) (j := 2147483059) (by omega)
    have e3 := op_fdiv (S := S.set 0 (.lst [.int 0, .int b'])) (i := b' * (b' + 467) % 2147483059) (j := 1019) ⟨by omega, by omega⟩
    have e4 := op_mod (S := S.set 0 (.lst [.int 0, .int b'])) (i := b' * (b' + 467) % 2147483059 / 1019) (j := m) h0
    refine ⟨b' * (b' + 467) % 2147483059 / 1019 % m, S.set 0 (.lst [.int 0, .int b']), Int.emod_nonneg _ (by omega), Int.emod_lt_of_pos _ h0, fin _ _ ?_ q.1 q.2, q.1, q.2⟩
    simp [b_law_roll, e_var, i0, i1, m1, e1, s1]
    simp [b'] at j1 m2 e2 e3 e4 ⊢
    simp [j1, m2, e2, e3, e4, e_var]
theorem ev_some {ds : List D} (c : CupS S) (h0 : ds ≠ []) (h1 : ds.length < 1000) (hf : D.flats ds = true) : ∃ d ∈ ds, ∃ S', evF prg (n + 2) 44 [.loc 0, .lst ds] S = .ok d S' ∧ CupS S' ∧ Rest S S' := by
  have hp : 0 < ds.length := List.length_pos_iff.mpr h0
  obtain ⟨r, S', hr0, hr1, e, c', k⟩ := ev_roll (n := n) c (m := ds.length) (by omega) (by omega)
  obtain ⟨j, rfl⟩ := Int.eq_ofNat_of_zero_le hr0
  have hj : j < ds.length := by omega
  refine ⟨ds[j], List.getElem_mem hj, S', ?_, c', k⟩
  have hfl : (ds[j]).flat = true := by
    have : ∀ (xs : List D), D.flats xs = true → ∀ d ∈ xs, d.flat = true := fun xs => by
      induction xs with
      | nil => intro _ d h; cases h
      | cons x xs ih =>
        intro h d hd
        simp only [D.flats, Bool.and_eq_true] at h
        rcases List.mem_cons.mp hd with rfl | hd
        · exact h.1
        · exact ih h.2 d hd
    exact this ds hf _ (List.getElem_mem hj)
  have ht : S'.take S.length = S' := by rw [← k.1]; exact List.take_length
  have hix : idx2 (.lst ds) (.int (j : Nat)) S' = .ok ds[j] S' := ix_lst (at_nat (List.getElem?_eq_getElem hj))
  have := evF_own (P := prg) (n := n + 1) (f := 44) (np := 2) (nl := 2) (body := b_law_some) (ds := [.loc 0, .lst ds]) (d := ds[j]) (S := S) (S' := S') rfl rfl (by
    simp [b_law_some, envOf, e_var, e, hix]) (flat_under _ _ hfl) (by rw [ht, ← k.1]; exact c'.und)
  rw [this, ht]
end K99
end QF
end

section
namespace QF
namespace K99
variable {S : Sto} {n : Nat}
theorem bi_str_s {m : Bool} (s : Cs) : evBi .str m [.str s] S = .ok (.str s) S := Eq.trans rfl rfl
theorem same_str (s : Cs) : evF prg (n + 1) 45 [.str s, .str s] S = .ok (.bl true) S := by
  refine evF_pure (np := 2) (nl := 3) (body := b_law_same) rfl rfl rfl rfl (S' := []) ?_
  simp [b_law_same, envOf, e_var, bi_str_s]
theorem same_int (i : Int) : evF prg (n + 1) 45 [.int i, .int i] S = .ok (.bl true) S := by
  refine evF_pure (np := 2) (nl := 3) (body := b_law_same) rfl rfl rfl rfl (S' := []) ?_
  simp [b_law_same, envOf, e_var]
theorem same_true : evF prg (n + 1) 45 [.bl true, .bl true] S = .ok (.bl true) S := by
  refine evF_pure (np := 2) (nl := 3) (body := b_law_same) rfl rfl rfl rfl (S' := []) ?_
  simp [b_law_same, envOf, e_var]
theorem same_tup {ds : List D} (hl : ds.length ≤ 1000) (hf : D.flats ds = true) (h : ∀ d ∈ ds, ∀ S, evF prg (n + 1) 45 [d, d] S = .ok (.bl true) S) : evF prg (n + 2) 45 [.tup ds, .tup ds] S = .ok (.bl true) S := by
  have hSL := SL_big
  refine evF_pure (np := 2) (nl := 3) (body := b_law_same) rfl rfl (by simp [hf]) rfl (S' := []) ?_
  have c1 : ∀ o2, evE prg (evF prg (n + 1)) c_law_same_1 [some (.tup ds), some (.tup ds), o2] [] = .ok (.lst ((List.range ds.length).map fun _ => .bl true)) [] := fun o2 =>
    ev_compM (List.range ds.length) (fun (k : Nat) => .int (k : Int)) _ (ev_rng1 (by simp [e_var]) (by omega)) (by simp; omega) fun p hp => by
      have hp : p < ds.length := by simpa using hp
      have h1 : ∀ S, idx2 (.tup ds) (.int (p : Nat)) S = .ok ds[p] S := fun S => ix_tup (at_nat (List.getElem?_eq_getElem hp))
      simp [wipeE, e_var, h1, h _ (List.getElem_mem hp)]
  have ha := fun S => bi_all_tt (S := S) (m := false) (List.range ds.length)
  simp [b_law_same, envOf, e_var, c1, ha]
theorem same_eS {xs : List Cs} (hl : xs.length ≤ 1000) : evF prg (n + 2) 45 [eS xs, eS xs] S = .ok (.bl true) S :=
  same_tup (by simpa using hl) (flats_strs xs) fun d hd S => by obtain ⟨a, _, rfl⟩ := List.mem_map.mp hd; exact same_str a
theorem same_eI {xs : List Nat} (hl : xs.length ≤ 1000) : evF prg (n + 2) 45 [eI xs, eI xs] S = .ok (.bl true) S :=
  same_tup (by simpa using hl) (flats_map fun _ _ => rfl) fun d hd S => by obtain ⟨a, _, rfl⟩ := List.mem_map.mp hd; exact same_int _
theorem same_eT {ts : List (Cs × List Cs)} (hl : ts.length ≤ 1000) (h : ∀ q ∈ ts, q.2.length ≤ 1000) : evF prg (n + 4) 45 [eT ts, eT ts] S = .ok (.bl true) S :=
  same_tup (by simpa using hl) (by have := flat_eT ts; simpa [eT] using this) fun d hd S => by
    obtain ⟨q, hq, rfl⟩ := List.mem_map.mp hd
    refine same_tup (by simp) (by simp) fun d hd S => ?_
    simp only [List.mem_cons, List.not_mem_nil, or_false] at hd
    rcases hd with rfl | rfl
    · exact same_str _
    · exact same_eS (h q hq)
theorem same_ib (i : Int) : evF prg (n + 2) 45 [.tup [.int i, .bl true], .tup [.int i, .bl true]] S = .ok (.bl true) S :=
  same_tup (by simp) (by simp) fun d hd S => by
    simp only [List.mem_cons, List.not_mem_nil, or_false] at hd
    rcases hd with rfl | rfl
    · exact same_int _
    · exact same_true

/-! law_names -/
def pool1 : List Cs := [[97], [97, 98], [98], [98, 49], [99], [100], [101], [101, 97, 114], [102], [103], [104, 57], [104], [105], [106], [107], [107, 50]]
def pool2 : List Cs := [[108], [109], [110], [111], [112], [113], [114], [115], [116], [117], [118], [119], [120], [122]]
def pool0 : List Cs := pool1 ++ pool2
theorem pool_nd : pool0.Nodup := by decide +kernel
theorem pool_nm : Nms pool0 := by
  have : pool0.all nmB = true := by decide +kernel
  exact fun s hs => List.all_eq_true.mp this s hs
theorem take_cup {S2 : Sto} (c : CupS S) (c2 : CupS S2) (hl : S.length ≤ S2.length) (h : ∀ k, k ≠ 0 → k < S.length → S2[k]? = S[k]?) : CupS (S2.take S.length) ∧ Rest S (S2.take S.length) := by
  obtain ⟨x, y, hc, hx⟩ := c2.cup
  obtain ⟨_, _, hc0, _⟩ := c.cup
  have h0 : 0 < S.length := (List.getElem?_eq_some_iff.mp hc0).1
  have hlen : (S2.take S.length).length = S.length := by rw [List.length_take]; omega
  have g0 : (S2.take S.length)[0]? = some (.lst [.int x, .int y]) := by rw [List.getElem?_take_of_lt h0]; exact hc
  refine ⟨⟨⟨x, y, g0, hx⟩, ?_⟩, hlen, fun k hk => ?_⟩
  · rw [List.all_eq_true, hlen]
    intro o ho
    obtain ⟨k, hk, rfl⟩ := List.mem_iff_getElem.mp ho
    rw [hlen] at hk
    by_cases e : k = 0
    · subst e
      have := List.getElem?_eq_getElem (l := S2.take S.length) (i := 0) (by omega)
      rw [g0] at this
      rw [← Option.some.inj this]
      rfl
    · have e1 := h k e hk
      have e2 : (S2.take S.length)[k]? = S[k]? := by rw [List.getElem?_take_of_lt hk]; exact e1
      rw [List.getElem?_eq_getElem (by omega), List.getElem?_eq_getElem hk] at e2
      rw [Option.some.inj e2]
      exact List.all_eq_true.mp c.und _ (List.getElem_mem hk)
  · by_cases hlt : k < S.length
    · rw [List.getElem?_take_of_lt hlt]; exact h k hk hlt
    · rw [List.getElem?_eq_none (by omega), List.getElem?_eq_none (by omega)]
structure NmI (S St : Sto) (m k : Nat) (ρ : Env) (ps fs : List Cs) : Prop where
  env : ∃ o4 o5, ρ = [some (.loc 0), some (.int m), some (.lst (ps.map .str)), some (.loc S.length), o4, o5]
  ne : S.length ≠ 0
  cup : CupS St
  len : St.length = S.length + 1
  own : St[S.length]? = some (.lst (fs.map .str))
  rest : ∀ k, k ≠ 0 → k < S.length → St[k]? = S[k]?
  fl : fs.length = k
  pl : ps.length + k = 30
  fn : fs.Nodup
  pn : ps.Nodup
  fo : ∀ f ∈ fs, f ∈ pool0 ∧ f ∉ ps
  po : ∀ p ∈ ps, p ∈ pool0
theorem filt_len {ps : List Cs} {w : Cs} (h : ps.Nodup) (hw : w ∈ ps) : (ps.filter fun p => !(p == w)).length + 1 = ps.length := by
  have e : ps.erase w = ps.filter fun p => !(p == w) := by rw [h.erase_eq_filter]; rfl
  have := List.length_erase_of_mem hw
  have h1 := List.length_pos_of_mem hw
  rw [← e]; omega
theorem names_turn {St : Sto} {m k : Nat} {ρ : Env} {ps fs : List Cs} (I : NmI S St m k ρ ps fs) (hk : k < 20) :
    ∃ ρ1 ρ2 S2 ps' fs', asgT (.name 4) (.int k) ρ = some ρ1 ∧ evSs prg (evF prg (n + 2)) w_law_names_1 ρ1 St = .ok (.nx ρ2) S2 ∧ NmI S S2 m (k + 1) ρ2 ps' fs' := by
  have hSL := SL_big
  obtain ⟨o4, o5, rfl⟩ := I.env
  have hpl := I.pl
  have hfl := I.fl
  obtain ⟨d, hd, S', e, c', r⟩ := ev_some (n := n) (ds := ps.map .str) I.cup (by intro h; rw [List.map_eq_nil_iff] at h; subst h; simp at hpl; omega) (by simp; omega) (flats_strs ps)
  obtain ⟨w, hw, rfl⟩ := List.mem_map.mp hd
  have hL : S.length ≠ 0 := I.ne
  have own' : S'[S.length]? = some (.lst (fs.map .str)) := by rw [r.2 _ hL]; exact I.own
  have app := app_one (ds := []) (d := .str w) own' (by simp; omega)
  let S2 := S'.set S.length (.lst (fs.map .str ++ [.str w]))
  have lt : S.length < S'.length := (List.getElem?_eq_some_iff.mp own').1
  have rc : recvOk .append (.loc S.length) St = true := by simp [recvOk, I.own, thing, kdO]; rfl
  have ix : idx2 (.loc S.length) (.int (-1)) S2 = .ok (.str w) S2 := ix_loc (ds := fs.map .str ++ [.str w]) (by simp only [S2]; rw [List.getElem?_set_self lt]) (at_last (by simp))
  have cc : evE prg (evF prg (n + 2)) c_law_names_1 [some (.loc 0), some (.int m), some (.lst (ps.map .str)), some (.loc S.length), some (.int k), o5] S2 = .ok (.lst ((ps.filter fun p => !(p == w)).map .str)) S2 := by
    rw [c_law_names_1, ev_comp ps .str (fun p => if (!(p == w)) then some (.str p) else none) (by simp [e_var]) (by omega) fun p hp => ?_, filt_enc]
    · rfl
    · simp [wipeE, e_var, ix]
      by_cases hpw : p = w
      · subst hpw; simp
      · have hb : (p == w) = false := by simpa using hpw
        rw [hb]; simp [hpw]
  refine ⟨[some (.loc 0), some (.int m), some (.lst (ps.map .str)), some (.loc S.length), some (.int k), o5], [some (.loc 0), some (.int m), some (.lst ((ps.filter fun p => !(p == w)).map .str)), some (.loc S.length), some (.int k), o5], S2, ps.filter fun p => !(p == w), fs ++ [w], by simp, ?_, ?_⟩
  · simp [w_law_names_1, e_var, rc, e, app]
    simp [S2] at cc
    simp [cc, S2]
  · have hS2 : S2[S.length]? = some (.lst ((fs ++ [w]).map .str)) := by simp only [S2]; rw [List.getElem?_set_self lt]; simp
    obtain ⟨x, y, hc, hx⟩ := c'.cup
    refine ⟨⟨_, _, rfl⟩, hL, ⟨⟨x, y, by simp only [S2]; rw [List.getElem?_set_ne hL]; exact hc, hx⟩, ?_⟩, by simp only [S2]; rw [List.length_set, r.1]; exact I.len, hS2, fun j hj hjl => ?_, by simp [hfl], ?_, ?_, I.pn.filter _, ?_, fun p hp => I.po p (List.mem_filter.mp hp).1⟩
    · simp only [S2]
      rw [List.length_set, List.all_eq_true]
      intro o ho
      rcases List.mem_or_eq_of_mem_set ho with h | rfl
      · exact List.all_eq_true.mp c'.und o h
      · have : D.flats (fs.map D.str ++ [.str w]) = true := by have := flats_strs (fs ++ [w]); simpa using this
        simp only [O.under]
        exact flats_unders _ _ this
    · simp only [S2]
      rw [List.getElem?_set_ne (by omega), r.2 _ hj]
      exact I.rest j hj hjl
    · have := filt_len I.pn hw; omega
    · rw [List.nodup_append]
      refine ⟨I.fn, by simp, fun a ha b hb => ?_⟩
      rw [List.mem_singleton] at hb
      rintro rfl
      subst hb
      exact (I.fo _ ha).2 hw
    · intro f hf
      rcases List.mem_append.mp hf with hf | hf
      · exact ⟨(I.fo f hf).1, fun h => (I.fo f hf).2 (List.mem_filter.mp h).1⟩
      · rw [List.mem_singleton] at hf
        subst hf
        exact ⟨I.po _ hw, fun h => by have := (List.mem_filter.mp h).2; simp at this⟩
theorem bi_sorted_loc {m : Bool} {k : Nat} {fs : List Cs} (h : S[k]? = some (.lst (fs.map .str))) (hl : fs.length < 64) : evBi .sorted m [.loc k] S = newL m ((isort ltS fs).map .str) S := by
  simp [evBi, drf_loc h, biL, sortD_strs hl]
theorem ev_lnames {m : Nat} (c : CupS S) (h1 : 1 ≤ m) (h4 : m ≤ 20) : ∃ xs S', evF prg (n + 3) 46 [.loc 0, .int m] S = .ok (.lst (xs.map .str)) S' ∧ xs.length = m ∧ Up xs ∧ Nms xs ∧ CupS S' ∧ Rest S S' := by
  have hSL := SL_big
  obtain ⟨x, y, hc, _⟩ := c.cup
  have h0 : S.length ≠ 0 := by have := (List.getElem?_eq_some_iff.mp hc).1; omega
  have c1 := c.push (o := .lst []) (by simp only [O.under, D.unders])
  obtain ⟨ρ', S', e, J⟩ := ev_for (P := prg) (cf := evF prg (n + 2)) (ρ := [some (.loc 0), some (.int m), some (.lst (pool0.map .str)), some (.loc S.length), none, none]) (S := S ++ [.lst []]) (tg := .name 4) (it := .rng1 (.var 1)) (body := w_law_names_1) (fun (k : Nat) => .int (k : Int)) (List.range m)
    (fun pre ρ St => ∃ ps fs, NmI S St m pre.length ρ ps fs) (ev_rng1 (by simp [e_var]) (by omega))
    ⟨pool0, [], ⟨_, _, rfl⟩, h0, c1, by simp, by simp, fun k hk hl => by rw [List.getElem?_append_left hl], rfl, rfl, by simp, pool_nd, by simp, fun _ h => h⟩
    fun pre a post ρ St hx ⟨ps, fs, I⟩ => by
      have hl := congrArg List.length hx
      simp only [List.length_range, List.length_append, List.length_cons] at hl
      have ha : a = pre.length := by
        have := congrArg (fun l => l[pre.length]?) hx
        simp only [List.getElem?_append_right (Nat.le_refl _), Nat.sub_self, List.getElem?_cons_zero] at this
        rw [List.getElem?_range (by omega)] at this
        exact (Option.some.inj this).symm
      subst ha
      obtain ⟨ρ1, ρ2, S2, ps', fs', q1, q2, q3⟩ := names_turn (n := n) I (by omega)
      exact ⟨ρ1, ρ2, S2, q1, q2, ps', fs', by simpa using q3⟩
  obtain ⟨ps, fs, I⟩ := J
  obtain ⟨o4, o5, rfl⟩ := I.env
  have hfl : fs.length = m := by have := I.fl; simpa using this
  have srt := bi_sorted_loc (m := false) I.own (by omega)
  have T := take_cup c I.cup (by rw [I.len]; omega) I.rest
  refine ⟨isort ltS fs, S'.take S.length, ?_, by rw [(isort_perm totS fs).length_eq]; exact hfl, asc_up (isort_asc totS fs) ((isort_perm totS fs).nodup_iff.mpr I.fn), fun s hs => pool_nm s (I.fo s ((isort_perm totS fs).mem_iff.mp hs)).1, T.1, T.2⟩
  refine evF_own (np := 2) (nl := 6) (body := b_law_names) rfl rfl ?_ (flat_under _ _ (by rw [flat_lst]; exact flats_strs _)) (by have := T.1.und; rwa [T.2.1] at this)
  have a1 : ∀ S, evE prg (evF prg (n + 2)) (.lst false (.cons (.str [97]) (.cons (.str [97, 98]) (.cons (.str [98]) (.cons (.str [98, 49]) (.cons (.str [99]) (.cons (.str [100]) (.cons (.str [101]) (.cons (.str [101, 97, 114]) (.cons (.str [102]) (.cons (.str [103]) (.cons (.str [104, 57]) (.cons (.str [104]) (.cons (.str [105]) (.cons (.str [106]) (.cons (.str [107]) (.cons (.str [107, 50]) .nil))))))))))))))))) [some (.loc 0), some (.int m), none, none, none, none] S = .ok (.lst (pool1.map .str)) S := fun S => by
    simp only [e_lst, es_cons, es_nil, e_str, bind_ok]
    rw [few_ok (by simp; omega)]; rfl
  have a2 : ∀ S, evE prg (evF prg (n + 2)) (.lst false (.cons (.str [108]) (.cons (.str [109]) (.cons (.str [110]) (.cons (.str [111]) (.cons (.str [112]) (.cons (.str [113]) (.cons (.str [114]) (.cons (.str [115]) (.cons (.str [116]) (.cons (.str [117]) (.cons (.str [118]) (.cons (.str [119]) (.cons (.str [120]) (.cons (.str [122]) .nil))))))))))))))) [some (.loc 0), some (.int m), some (.lst (pool1.map .str)), none, none, none] S = .ok (.lst (pool2.map .str)) S := fun S => by
    simp only [e_lst, es_cons, es_nil, e_str, bind_ok]
    rw [few_ok (by simp; omega)]; rfl
  have a3 : ∀ S, op2 (binOp .add) (.lst (pool1.map .str)) (.lst (pool2.map .str)) S = .ok (.lst (pool0.map .str)) S := fun S => by
    rw [op_addL (by simp [pool1, pool2]; omega), pool0, List.map_append]
  simp only [b_law_names, envOf, List.map_cons, List.map_nil, List.length_cons, List.length_nil, List.replicate, List.cons_append, List.nil_append, ss_cons, zs_asg, a1, bind_ok]
  simp [a2, a3, e_var, -e_lst]
  simp [e_lst, e, e_var, srt, -zs_for]
/-! law_cup -/
theorem ev_cup (is : List Int) (hl : is.length ≤ 63) : ∃ a b : Int, (∀ n, evF prg (n + 1) 42 [.scr is] [] = .ok (.loc 0) [.lst [.int a, .int b]]) ∧ 0 ≤ a ∧ 0 ≤ b ∧ b < 4294967296 := by
  have hSL := SL_big
  obtain ⟨v, r, hv⟩ : ∃ (v : Int) (r : List Int), is ++ [0] = v :: r := by
    cases is with
    | nil => exact ⟨0, [], rfl⟩
    | cons v r => exact ⟨v, r ++ [0], rfl⟩
  let c : Int := if v < 0 then -v else v
  have hc : 0 ≤ c := by simp only [c]; split <;> omega
  have h2 : 0 ≤ (c * 499 + 4243) % 2077502839 ∧ (c * 499 + 4243) % 2077502839 < 2077502839 := ⟨Int.emod_nonneg _ (by omega), Int.emod_lt_of_pos _ (by omega)⟩
  refine ⟨if 1000000000000000000 ≤ c then c / 263 else 0, (c * 499 + 4243) % 2077502839 + 389, fun n => ?_, by split <;> omega, by omega, by omega⟩
  refine evF_raw (np := 1) (nl := 2) (body := b_law_cup) rfl rfl ?_
  have l1 : ∀ S, evBi .list false [.scr is] S = .ok (.lst (is.map .int)) S := fun S => Eq.trans rfl rfl
  have l2 : ∀ S, op2 (binOp .add) (.lst (is.map .int)) (.lst [.int 0]) S = .ok (.lst (.int v :: r.map .int)) S := fun S => by
    rw [op_addL (by simp; omega)]
    have : is.map D.int ++ [.int 0] = (is ++ [0]).map D.int := by simp
    rw [this, hv]; rfl
  have l3 : ∀ S, evBi .abs false [.int v] S = .ok (.int c) S := fun S => Eq.trans rfl rfl
  have p : ∀ S, op2 (binOp .pow) (.int 10) (.int 18) S = .ok (.int 1000000000000000000) S := fun S => Eq.trans rfl rfl
  have d1 := fun S => op_fdiv (S := S) (i := c) (j := 263) ⟨by omega, by omega⟩
  have d2 := fun S => op_mod (S := S) (i := c * 499 + 4243) (j := 2077502839) (by omega)
  have d3 := fun S => op_mul (S := S) (i := c) (j := 499) (mulOk_r (by decide) (by decide))
  by_cases h : 1000000000000000000 ≤ c <;> simp [b_law_cup, envOf, e_var, l1, l2, l3, p, d1, d2, d3, h]
end K99
end QF
end

section
namespace QF
namespace K99
def t1 : St := .asg (.tup [(.name 3), (.name 4)]) (.tup (.cons (.bin .add (.int 1) (.call 43 (.cons (.var 1) (.cons (.int 6) .nil)))) (.cons (.call 46 (.cons (.var 1) (.cons (.bin .add (.int 1) (.call 43 (.cons (.var 1) (.cons (.int 4) .nil)))) .nil))) .nil)))
def t2 : St := .asg (.name 6) (.bi .tuple false (.cons c_law_1 .nil))
def t3 : St := .asg (.name 8) (.bi .tuple false (.cons c_law_3 .nil))
def t4 : St := .asg (.name 9) (.call 22 (.cons (.var 6) (.cons (.var 8) .nil)))
def t5 : St := .ifs (.boolop false (.cons (.cmp .notTrue (.call 24 (.cons (.var 6) (.cons (.bi .tuple false (.cons (.var 4) .nil)) (.cons (.tup .nil) (.cons (.var 9) .nil))))) (.bl true)) (.cons (.not (.call 45 (.cons (.call 25 (.cons (.var 6) (.cons (.bi .tuple false (.cons (.var 4) .nil)) (.cons (.tup .nil) (.cons (.var 9) .nil))))) (.cons (.var 8) .nil)))) .nil))) [.ret (.bl false)] []
def t6 : St := .asg (.name 10) (.call 23 (.cons (.var 6) (.cons (.var 8) .nil)))
def t7 : St := .ifs (.boolop false (.cons (.cmp .notTrue (.call 27 (.cons (.var 6) (.cons (.var 8) (.cons (.tup .nil) (.cons (.var 9) .nil))))) (.bl true)) (.cons (.cmp .notTrue (.call 27 (.cons (.var 6) (.cons (.var 8) (.cons (.tup .nil) (.cons (.var 10) .nil))))) (.bl true)) .nil))) [.ret (.bl false)] []
def t8 : St := .ifs (.cmp .gt (.call 26 (.cons (.var 6) (.cons (.bi .tuple false (.cons (.var 4) .nil)) (.cons (.tup .nil) (.cons (.var 9) .nil))))) (.call 26 (.cons (.var 6) (.cons (.bi .tuple false (.cons (.var 4) .nil)) (.cons (.tup .nil) (.cons (.var 10) .nil)))))) [.ret (.bl false)] []
def t9 : St := .asg (.name 11) (.bi .dict false (.cons (.bi .list false (.cons (.var 8) .nil)) .nil))
def t10 : St := .for_ (.name 12) (.of (.var 4)) w_law_2
def t11 : St := .asg (.name 15) (.idx (.var 11) (.call 44 (.cons (.var 1) (.cons (.var 4) .nil))))
def t12 : St := .asg (.name 17) (.bi .tuple false (.cons c_law_5 .nil))
def t13 : St := .asg (.name 18) (.bin .add (.lst false (.cons (.int 0) .nil)) c_law_6)
def t14 : St := .ifs (.not (.call 45 (.cons (.tup (.cons (.call 38 (.cons (.var 17) .nil)) (.cons (.call 39 (.cons (.var 17) (.cons (.bi .tuple false (.cons (.var 18) .nil)) .nil))) .nil))) (.cons (.tup (.cons (.bi .len false (.cons (.var 18) .nil)) (.cons (.bl true) .nil))) .nil)))) [.ret (.bl false)] []
def t15 : St := .asg (.name 19) (.call 40 (.cons (.var 17) .nil))
def t16 : St := .ifs (.boolop false (.cons (.cmp .ne (.bi .len false (.cons (.var 19) .nil)) (.bin .sub (.bi .len false (.cons (.var 18) .nil)) (.int 1))) (.cons (.cmp .notTrue (.call 41 (.cons (.var 17) (.cons (.var 19) .nil))) (.bl true)) .nil))) [.ret (.bl false)] []
def t17 : St := .ifs (.cmp .notTrue (.call 41 (.cons (.var 17) (.cons (.bi .tuple false (.cons c_law_7 .nil)) .nil))) (.bl true)) [.ret (.bl false)] []
theorem turn_eq : w_law_3 = [t1, t2, t3, t4, t5, t6, t7, t8, t9, t10, t11, t12, t13, t14, t15, t16, t17] := rfl
end K99
end QF
end

section
namespace QF
namespace K99
variable {S : Sto} {n : Nat}
/-- size and names -/
theorem st_t1 (c : CupS S) (o0 o2 o3 o4 o5 o6 o7 o8 o9 o10 o11 o12 o13 o14 o15 o16 o17 o18 o19 : Option D) : ∃ (m : Nat) (xs : List Cs) (S' : Sto), 1 ≤ m ∧ m ≤ 6 ∧ 1 ≤ xs.length ∧ xs.length ≤ 4 ∧ Up xs ∧ Nms xs ∧ CupS S' ∧ Rest S S' ∧
    evS prg (evF prg (n + 5)) t1 [o0, some (.loc 0), o2, o3, o4, o5, o6, o7, o8, o9, o10, o11, o12, o13, o14, o15, o16, o17, o18, o19] S = .ok (.nx [o0, some (.loc 0), o2, some (.int m), some (.lst (xs.map .str)), o5, o6, o7, o8, o9, o10, o11, o12, o13, o14, o15, o16, o17, o18, o19]) S' := by
  obtain ⟨r, S1, h1, h2, e1, c1, k1⟩ := ev_roll (n := n + 4) c (m := 6) (by omega) (by omega)
  obtain ⟨r', S2, h3, h4, e2, c2, k2⟩ := ev_roll (n := n + 4) c1 (m := 4) (by omega) (by omega)
  obtain ⟨m, hm⟩ : ∃ m : Nat, 1 + r = (m : Int) := ⟨(1 + r).toNat, by omega⟩
  obtain ⟨j, hj⟩ : ∃ j : Nat, 1 + r' = (j : Int) := ⟨(1 + r').toNat, by omega⟩
  obtain ⟨xs, S3, e3, q1, q2, q3, c3, k3⟩ := ev_lnames (n := n + 2) c2 (m := j) (by omega) (by omega)
  refine ⟨m, xs, S3, by omega, by omega, by omega, by omega, q2, q3, c3, k1.trans (k2.trans k3), ?_⟩
  simp [t1, e_var, e1, hm, e2, hj, e3]
def w3 : List Cs := [[105, 110], [116, 104, 101], [119, 111, 114, 100]]
theorem w3n : Nms w3 := by
  have : w3.all nmB = true := by decide +kernel
  exact fun s hs => List.all_eq_true.mp this s hs
/-- the base -/
theorem st_t2 {m : Nat} (c : CupS S) (h1 : 1 ≤ m) (h6 : m ≤ 6) (o0 o2 o4 o5 o6 o7 o8 o9 o10 o11 o12 o13 o14 o15 o16 o17 o18 o19 : Option D) : ∃ (bs : List Cs) (S' : Sto), bs.length = m ∧ Nms bs ∧ CupS S' ∧ Rest S S' ∧
    evS prg (evF prg (n + 5)) t2 [o0, some (.loc 0), o2, some (.int m), o4, o5, o6, o7, o8, o9, o10, o11, o12, o13, o14, o15, o16, o17, o18, o19] S = .ok (.nx [o0, some (.loc 0), o2, some (.int m), o4, o5, some (eS bs), o7, o8, o9, o10, o11, o12, o13, o14, o15, o16, o17, o18, o19]) S' := by
  have hSL := SL_big
  have key := ev_compS (P := prg) (cf := evF prg (n + 5)) (ρ := [o0, some (.loc 0), o2, some (.int m), o4, o5, o6, o7, o8, o9, o10, o11, o12, o13, o14, o15, o16, o17, o18, o19]) (S := S) (m := false) (own := [5]) (tg := .name 5) (it := .rng1 (.var 3)) (elt := .call 44 (.cons (.var 1) (.cons (.lst false (.cons (.str [105, 110]) (.cons (.str [116, 104, 101]) (.cons (.str [119, 111, 114, 100]) .nil)))) .nil)))
    (List.range m) (fun (k : Nat) => .int (k : Int)) (fun pre acc St => CupS St ∧ Rest S St ∧ ∃ ws : List Cs, acc = ws.map .str ∧ ws.length = pre.length ∧ Nms ws) (ev_rng1 (by simp [e_var]) (by omega)) (by simp; omega) ⟨c, Rest.refl, [], rfl, rfl, fun _ h => by simp at h⟩
    fun pre a post acc St hx ⟨c', r', ws, hacc, hwl, hwn⟩ => by
      obtain ⟨d, hd, S2, e2, c2, k2⟩ := ev_some (n := n + 3) (ds := w3.map .str) c' (by simp [w3]) (by simp [w3]) (flats_strs _)
      obtain ⟨w, hw, rfl⟩ := List.mem_map.mp hd
      simp only [w3, List.map_cons, List.map_nil] at e2
      refine ⟨_, .str w, S2, by simp [wipeE]; rfl, by simp [e_var, e2], c2, r'.trans k2, ws ++ [w], by simp [hacc], by simp [hwl], fun s hs => ?_⟩
      rcases List.mem_append.mp hs with hs | hs
      · exact hwn s hs
      · rw [List.mem_singleton.mp hs]; exact w3n w hw
  obtain ⟨ds, S', e, c', r', ws, rfl, hl, hn⟩ := key
  refine ⟨ws, S', by simpa using hl, hn, c', r', ?_⟩
  have e' : evE prg (evF prg (n + 5)) c_law_1 [o0, some (.loc 0), o2, some (.int m), o4, o5, o6, o7, o8, o9, o10, o11, o12, o13, o14, o15, o16, o17, o18, o19] S = .ok (.lst (ws.map .str)) S' := e
  simp [t2, e', eS]
theorem nm_a : nmB [97] = true := by decide +kernel
theorem nm_so : nmB [115, 111] = true := by decide +kernel
/-- a witness's words -/
theorem c_l2 {m : Nat} {bs : List Cs} (c : CupS S) (h1 : 1 ≤ m) (h6 : m ≤ 6) (hb : bs.length = m) (hn : Nms bs) (o0 o2 o4 o5 o7 o8 o9 o10 o11 o12 o13 o14 o15 o16 o17 o18 o19 : Option D) : ∃ (ws : List Cs) (S' : Sto), ws.length = m ∧ Nms ws ∧ CupS S' ∧ Rest S S' ∧
    evE prg (evF prg (n + 5)) c_law_2 [o0, some (.loc 0), o2, some (.int m), o4, o5, some (eS bs), o7, o8, o9, o10, o11, o12, o13, o14, o15, o16, o17, o18, o19] S = .ok (.lst (ws.map .str)) S' := by
  have hSL := SL_big
  have key := ev_compS (P := prg) (cf := evF prg (n + 5)) (ρ := [o0, some (.loc 0), o2, some (.int m), o4, o5, some (eS bs), o7, o8, o9, o10, o11, o12, o13, o14, o15, o16, o17, o18, o19]) (S := S) (m := false) (own := [5]) (tg := .name 5) (it := .rng1 (.var 3)) (elt := .call 44 (.cons (.var 1) (.cons (.lst false (.cons (.idx (.var 6) (.var 5)) (.cons (.idx (.var 6) (.var 5)) (.cons (.str [97]) (.cons (.str [115, 111]) .nil))))) .nil)))
    (List.range m) (fun (k : Nat) => .int (k : Int)) (fun pre acc St => CupS St ∧ Rest S St ∧ ∃ ws : List Cs, acc = ws.map .str ∧ ws.length = pre.length ∧ Nms ws) (ev_rng1 (by simp [e_var]) (by omega)) (by simp; omega) ⟨c, Rest.refl, [], rfl, rfl, fun _ h => by simp at h⟩
    fun pre a post acc St hx ⟨c', r', ws, hacc, hwl, hwn⟩ => by
      have ha : a < bs.length := by
        have : a ∈ List.range m := by rw [hx]; simp
        rw [hb]; exact List.mem_range.mp this
      obtain ⟨d, hd, S2, e2, c2, k2⟩ := ev_some (n := n + 3) (ds := [bs[a], bs[a], [97], [115, 111]].map .str) c' (by simp) (by simp) (flats_strs _)
      obtain ⟨w, hw, rfl⟩ := List.mem_map.mp hd
      simp only [List.map_cons, List.map_nil] at e2
      have ix : ∀ S, idx2 (eS bs) (.int (a : Nat)) S = .ok (.str bs[a]) S := fun S => ix_tup (at_nat (by rw [List.getElem?_map, List.getElem?_eq_getElem ha]; rfl))
      refine ⟨_, .str w, S2, by simp [wipeE]; rfl, by simp [e_var, ix, e2], c2, r'.trans k2, ws ++ [w], by simp [hacc], by simp [hwl], fun s hs => ?_⟩
      rcases List.mem_append.mp hs with hs | hs
      · exact hwn s hs
      · rw [List.mem_singleton.mp hs]
        simp only [List.mem_cons, List.not_mem_nil, or_false] at hw
        rcases hw with rfl | rfl | rfl | rfl
        · exact hn _ (List.getElem_mem ha)
        · exact hn _ (List.getElem_mem ha)
        · exact nm_a
        · exact nm_so
  obtain ⟨ds, S', e, c', r', ws, rfl, hl, hn⟩ := key
  exact ⟨ws, S', by simpa using hl, hn, c', r', e⟩
/-- the texts -/
theorem st_t3 {m : Nat} {bs xs : List Cs} (c : CupS S) (h1 : 1 ≤ m) (h6 : m ≤ 6) (hb : bs.length = m) (hn : Nms bs) (hx0 : 1 ≤ xs.length) (hx : xs.length ≤ 4) (hu : Up xs) (hxn : Nms xs) (o0 o2 o5 o7 o8 o9 o10 o11 o12 o13 o14 o15 o16 o17 o18 o19 : Option D) : ∃ (ts : List (Cs × List Cs)) (S' : Sto), Tx bs ts ∧ nms ts = xs ∧ CupS S' ∧ Rest S S' ∧
    evS prg (evF prg (n + 5)) t3 [o0, some (.loc 0), o2, some (.int m), some (.lst (xs.map .str)), o5, some (eS bs), o7, o8, o9, o10, o11, o12, o13, o14, o15, o16, o17, o18, o19] S = .ok (.nx [o0, some (.loc 0), o2, some (.int m), some (.lst (xs.map .str)), o5, some (eS bs), o7, some (eT ts), o9, o10, o11, o12, o13, o14, o15, o16, o17, o18, o19]) S' := by
  have hSL := SL_big
  have key := ev_compS (P := prg) (cf := evF prg (n + 5)) (ρ := [o0, some (.loc 0), o2, some (.int m), some (.lst (xs.map .str)), o5, some (eS bs), o7, o8, o9, o10, o11, o12, o13, o14, o15, o16, o17, o18, o19]) (S := S) (m := false) (own := [7]) (tg := .name 7) (it := .of (.var 4)) (elt := .tup (.cons (.var 7) (.cons (.bi .tuple false (.cons c_law_2 .nil)) .nil)))
    xs .str (fun pre acc St => CupS St ∧ Rest S St ∧ ∃ ts : List (Cs × List Cs), acc = ts.map (fun q => .tup [.str q.1, eS q.2]) ∧ nms ts = pre ∧ ∀ q ∈ ts, q.2.length = m ∧ Nms q.2) (by simp [e_var]) (by omega) ⟨c, Rest.refl, [], rfl, rfl, fun _ h => by simp at h⟩
    fun pre a post acc St hx ⟨c', r', ts, hacc, hwl, hwn⟩ => by
      obtain ⟨ws, S2, hl, hwn2, c2, k2, e2⟩ := c_l2 (n := n) c' h1 h6 hb hn o0 o2 (some (.lst (xs.map .str))) o5 (some (.str a)) o8 o9 o10 o11 o12 o13 o14 o15 o16 o17 o18 o19
      refine ⟨_, .tup [.str a, eS ws], S2, by simp [wipeE]; rfl, by simp [e_var, e2]; rfl, c2, r'.trans k2, ts ++ [(a, ws)], by simp [hacc], by simp [nms] at hwl ⊢; exact hwl, fun q hq => ?_⟩
      rcases List.mem_append.mp hq with hq | hq
      · exact hwn q hq
      · rw [List.mem_singleton.mp hq]; exact ⟨hl, hwn2⟩
  obtain ⟨ds, S', e, c', r', ts, rfl, hl, hn2⟩ := key
  have htl : ts.length = xs.length := by rw [← hl]; simp [nms]
  refine ⟨ts, S', ⟨fun h => by subst h; simp at hb; omega, by omega, hn, fun h => by subst h; simp at htl; omega, by omega, fun q hq => hxn _ (by rw [← hl]; exact List.mem_map_of_mem hq), fun q hq => by rw [(hn2 q hq).1, hb], fun q hq => (hn2 q hq).2, by show Up (nms ts); rw [hl]; exact hu⟩, hl, c', r', ?_⟩
  have e' : evE prg (evF prg (n + 5)) c_law_3 [o0, some (.loc 0), o2, some (.int m), some (.lst (xs.map .str)), o5, some (eS bs), o7, o8, o9, o10, o11, o12, o13, o14, o15, o16, o17, o18, o19] S = .ok (.lst (ts.map fun q => .tup [.str q.1, eS q.2])) S' := e
  simp [t3, e', eT]
end K99
end QF
end

section
namespace QF
namespace K99
variable {S : Sto} {n : Nat}
theorem by_id {base : List Cs} {texts : List (Cs × List Cs)} {ns : List (Nat × Cs × List Cs)} (h : ∀ q ∈ texts, ((enumN 0 base).map fun e => tb1 ns q.1 e.1 e.2) = q.2) : ((nms texts).map fun w => (w, (enumN 0 base).map fun q => tb1 ns w q.1 q.2)) = texts := by
  rw [nms, List.map_map]
  have : ∀ q ∈ texts, ((fun w => (w, (enumN 0 base).map fun q => tb1 ns w q.1 q.2)) ∘ fun (x : Cs × List Cs) => x.1) q = id q := fun q hq => by
    show (q.1, _) = q
    rw [h q hq]
  rw [List.map_congr_left this, List.map_id]
/-- the checks on notes -/
theorem st_t48 {bs : List Cs} {ts : List (Cs × List Cs)} (T : Tx bs ts) (o0 o1 o2 o3 o5 o7 o9 o10 o11 o12 o13 o14 o15 o16 o17 o18 o19 : Option D) :
    evSs prg (evF prg (n + 5)) [t4, t5, t6, t7, t8] [o0, o1, o2, o3, some (.lst ((nms ts).map .str)), o5, some (eS bs), o7, some (eT ts), o9, o10, o11, o12, o13, o14, o15, o16, o17, o18, o19] S = .ok (.nx [o0, o1, o2, o3, some (.lst ((nms ts).map .str)), o5, some (eS bs), o7, some (eT ts), some (eN (plainN bs ts)), some (eN (fullN bs ts)), o11, o12, o13, o14, o15, o16, o17, o18, o19]) S := by
  have N := nt_plain T
  have M := nt_full T
  have n1 := fun S => ev_plain (S := S) (n := n) T
  have n2 := fun S => ev_full (S := S) (n := n) T
  have a1 : ∀ S, evF prg (n + 5) 24 [eS bs, .tup ((nms ts).map .str), .tup [], eN (plainN bs ts)] S = .ok (.bl true) S := fun S => ev_are T N
  have a2 : ∀ S, evF prg (n + 5) 25 [eS bs, .tup ((nms ts).map .str), .tup [], eN (plainN bs ts)] S = .ok (eT ts) S := fun S => by
    have := ev_textsby (S := S) (n := n) T N
    rw [by_id fun q hq => tb_plain T hq] at this
    exact this
  have a3 : ∀ S, evF prg (n + 5) 45 [eT ts, eT ts] S = .ok (.bl true) S := fun S => same_eT (n := n + 1) (by have := T.tl; omega) fun q hq => by
    have := T.tw q hq
    have := T.bl
    omega
  have a4 := fun S => ev_tell (S := S) (n := n) T N fun q hq => tb_plain T hq
  have a5 := fun S => ev_tell (S := S) (n := n) T M fun q hq => tb_full T hq
  have a6 : ∀ S, evF prg (n + 5) 26 [eS bs, .tup ((nms ts).map .str), .tup [], eN (plainN bs ts)] S = .ok (.int (sizeN (plainN bs ts))) S := fun S => ev_nsize T N
  have a7 : ∀ S, evF prg (n + 5) 26 [eS bs, .tup ((nms ts).map .str), .tup [], eN (fullN bs ts)] S = .ok (.int (sizeN (fullN bs ts))) S := fun S => ev_nsize T M
  have a8 : ¬ sizeN (fullN bs ts) < sizeN (plainN bs ts) := by have := size_le bs ts; omega
  simp [t4, t5, t6, t7, t8, e_var, n1, n2, a1, a2, a3, a4, a5, a6, a7, a8]
/-- the table -/
theorem st_t9 {bs : List Cs} {ts : List (Cs × List Cs)} (T : Tx bs ts) (o0 o1 o2 o3 o4 o5 o6 o7 o9 o10 o11 o12 o13 o14 o15 o16 o17 o18 o19 : Option D) :
    evS prg (evF prg (n + 5)) t9 [o0, o1, o2, o3, o4, o5, o6, o7, some (eT ts), o9, o10, o11, o12, o13, o14, o15, o16, o17, o18, o19] S = .ok (.nx [o0, o1, o2, o3, o4, o5, o6, o7, some (eT ts), o9, o10, some (.loc S.length), o12, o13, o14, o15, o16, o17, o18, o19]) (S ++ [tabO ts]) := by
  have l : ∀ S, evBi .list false [eT ts] S = .ok (.lst (ts.map fun q => .tup [.str q.1, eS q.2])) S := fun S => Eq.trans rfl rfl
  have d := bi_dictL (S := S) (m := false) (up_nodup T.tu : (nms ts).Nodup)
  simp [t9, e_var, l, d]
/-- one pair of witnesses -/
theorem st_pair {bs : List Cs} {ts : List (Cs × List Cs)} {L : Nat} (T : Tx bs ts) (hS : S[L]? = some (tabO ts)) {q r : Cs × List Cs} (hq : q ∈ ts) (hr : r ∈ ts) (hm : bs.length ≤ 1000) (o0 o1 o2 o4 o5 o7 o9 o10 o14 o15 o16 o17 o18 o19 : Option D) :
    evSs prg (evF prg (n + 5)) w_law_1 [o0, o1, o2, some (.int bs.length), o4, o5, some (eS bs), o7, some (eT ts), o9, o10, some (.loc L), some (.str q.1), some (.str r.1), o14, o15, o16, o17, o18, o19] S = .ok (.nx [o0, o1, o2, some (.int bs.length), o4, o5, some (eS bs), o7, some (eT ts), o9, o10, some (.loc L), some (.str q.1), some (.str r.1), some (eI (parts bs.length q r)), o15, o16, o17, o18, o19]) S := by
  have hSL := SL_big
  have hnd : (nms ts).Nodup := up_nodup T.tu
  have n1 := fun S => ev_unlike (S := S) (n := n) T hq hr
  have n2 : ∀ S, evF prg (n + 5) 45 [eI (parts bs.length q r), eI (parts bs.length q r)] S = .ok (.bl true) S := fun S => same_eI (n := n + 3) (by
    have : (parts bs.length q r).length ≤ (List.range bs.length).length := List.length_filter_le _ _
    rw [List.length_range] at this
    omega)
  have c1 : evE prg (evF prg (n + 5)) c_law_4 [o0, o1, o2, some (.int bs.length), o4, o5, some (eS bs), o7, some (eT ts), o9, o10, some (.loc L), some (.str q.1), some (.str r.1), o14, o15, o16, o17, o18, o19] S = .ok (.lst ((parts bs.length q r).map fun (p : Nat) => .int (p : Int))) S := by
    have := ev_comp (P := prg) (cf := evF prg (n + 5)) (ρ := [o0, o1, o2, some (.int bs.length), o4, o5, some (eS bs), o7, some (eT ts), o9, o10, some (.loc L), some (.str q.1), some (.str r.1), o14, o15, o16, o17, o18, o19]) (S := S) (m := false) (own := [5]) (tg := .name 5) (it := .rng1 (.var 3)) (cond := .yes (.cmp .ne (.idx (.idx (.var 11) (.var 12)) (.var 5)) (.idx (.idx (.var 11) (.var 13)) (.var 5)))) (elt := .var 5)
      (List.range bs.length) (fun p : Nat => .int (p : Int)) (fun p => if !(wd p q == wd p r) then some (.int (p : Int)) else none) (ev_rng1 (by simp [e_var]) (by omega)) (by simp; omega) fun p hp => by
        have hp := List.mem_range.mp hp
        have h1 := ix_tab hS hnd hq
        have h2 := ix_tab hS hnd hr
        have h3 := wd_at (S := S) (p := p) (q := q) (by rw [T.tw q hq]; exact hp)
        have h4 := wd_at (S := S) (p := p) (q := r) (by rw [T.tw r hr]; exact hp)
        by_cases h : wd p q = wd p r
        · simp [wipeE, e_var, h1, h2, h3, h4, h]
        · have h' : (wd p q == wd p r) = false := by simpa using h
          simp [wipeE, e_var, h1, h2, h3, h4, h']
    rw [filt_enc] at this
    exact this
  have n3 : ∀ S, evF prg (n + 5) 45 [eI (parts bs.length q r), .tup ((parts bs.length q r).map fun (p : Nat) => .int (p : Int))] S = .ok (.bl true) S := n2
  simp [w_law_1, e_var, c1, n1, n3]
  rfl
/-- all pairs -/
theorem st_t10 {bs : List Cs} {ts : List (Cs × List Cs)} {L : Nat} (T : Tx bs ts) (hS : S[L]? = some (tabO ts)) (hm : bs.length ≤ 1000) (o0 o1 o2 o5 o7 o9 o10 o12 o13 o14 o15 o16 o17 o18 o19 : Option D) :
    ∃ p12 p13 p14, evS prg (evF prg (n + 5)) t10 [o0, o1, o2, some (.int bs.length), some (.lst ((nms ts).map .str)), o5, some (eS bs), o7, some (eT ts), o9, o10, some (.loc L), o12, o13, o14, o15, o16, o17, o18, o19] S = .ok (.nx [o0, o1, o2, some (.int bs.length), some (.lst ((nms ts).map .str)), o5, some (eS bs), o7, some (eT ts), o9, o10, some (.loc L), p12, p13, p14, o15, o16, o17, o18, o19]) S := by
  have inner : ∀ (q : Cs × List Cs) (hq : q ∈ ts) (p13 p14 : Option D), ∃ r13 r14, evSs prg (evF prg (n + 5)) w_law_2 [o0, o1, o2, some (.int bs.length), some (.lst ((nms ts).map .str)), o5, some (eS bs), o7, some (eT ts), o9, o10, some (.loc L), some (.str q.1), p13, p14, o15, o16, o17, o18, o19] S = .ok (.nx [o0, o1, o2, some (.int bs.length), some (.lst ((nms ts).map .str)), o5, some (eS bs), o7, some (eT ts), o9, o10, some (.loc L), some (.str q.1), r13, r14, o15, o16, o17, o18, o19]) S := fun q hq p13 p14 => by
    obtain ⟨ρ', S', e, r13, r14, rfl, rfl⟩ := ev_for (P := prg) (cf := evF prg (n + 5)) (ρ := [o0, o1, o2, some (.int bs.length), some (.lst ((nms ts).map .str)), o5, some (eS bs), o7, some (eT ts), o9, o10, some (.loc L), some (.str q.1), p13, p14, o15, o16, o17, o18, o19]) (S := S) (tg := .name 13) (it := .of (.var 4)) (body := w_law_1) D.str (nms ts)
      (fun _ ρ S' => ∃ r13 r14, ρ = [o0, o1, o2, some (.int bs.length), some (.lst ((nms ts).map .str)), o5, some (eS bs), o7, some (eT ts), o9, o10, some (.loc L), some (.str q.1), r13, r14, o15, o16, o17, o18, o19] ∧ S' = S) (by simp [e_var]) ⟨_, _, rfl, rfl⟩
      fun pre a post ρ S' hx ⟨r13, r14, e1, e2⟩ => by
        subst e1; subst e2
        have ha : a ∈ nms ts := by rw [hx]; simp
        obtain ⟨r, hr, rfl⟩ := List.mem_map.mp ha
        exact ⟨_, _, _, by simp; rfl, st_pair T hS hq hr hm _ _ _ _ _ _ _ _ _ _ _ _ _ _, _, _, rfl, rfl⟩
    refine ⟨r13, r14, ?_⟩
    rw [w_law_2, ss_cons, e]
    simp
  obtain ⟨ρ', S', e, r12, r13, r14, rfl, rfl⟩ := ev_for (P := prg) (cf := evF prg (n + 5)) (ρ := [o0, o1, o2, some (.int bs.length), some (.lst ((nms ts).map .str)), o5, some (eS bs), o7, some (eT ts), o9, o10, some (.loc L), o12, o13, o14, o15, o16, o17, o18, o19]) (S := S) (tg := .name 12) (it := .of (.var 4)) (body := w_law_2) D.str (nms ts)
    (fun _ ρ S' => ∃ r12 r13 r14, ρ = [o0, o1, o2, some (.int bs.length), some (.lst ((nms ts).map .str)), o5, some (eS bs), o7, some (eT ts), o9, o10, some (.loc L), r12, r13, r14, o15, o16, o17, o18, o19] ∧ S' = S) (by simp [e_var]) ⟨_, _, _, rfl, rfl⟩
    fun pre a post ρ S' hx ⟨r12, r13, r14, e1, e2⟩ => by
      subst e1; subst e2
      have ha : a ∈ nms ts := by rw [hx]; simp
      obtain ⟨r, hr, rfl⟩ := List.mem_map.mp ha
      obtain ⟨s13, s14, e⟩ := inner r hr r13 r14
      exact ⟨_, _, _, by simp, e, _, _, _, rfl, rfl⟩
  exact ⟨r12, r13, r14, e⟩
end K99
end QF
end

section
namespace QF
namespace K99
variable {S : Sto} {n : Nat}
theorem eIs_len (xs : List Nat) : (eIs xs).length = xs.length := by simp [eIs]
/-- pages and starts -/
theorem c_l5 {ws : List Cs} (hl : ws.length ≤ 1000) (o0 o1 o2 o3 o4 o5 o6 o7 o8 o9 o10 o11 o12 o13 o14 o16 o17 o18 o19 : Option D) : evE prg (evF prg (n + 5)) c_law_5 [o0, o1, o2, o3, o4, o5, o6, o7, o8, o9, o10, o11, o12, o13, o14, some (eS ws), o16, o17, o18, o19] S = .ok (.lst (ws.map pg)) S := by
  have hSL := SL_big
  exact ev_compM ws .str _ (by simp [e_var, eS]) (by omega) fun w hw => by simp [wipeE, e_var]; rfl
theorem idx_eS {ws : List Cs} {p : Nat} (h : p < ws.length) : idx2 (eS ws) (.int p) S = .ok (.str (gw ws p)) S := by
  refine ix_tup (at_nat ?_)
  rw [List.getElem?_map, List.getElem?_eq_getElem h, gw_eq h]
  rfl
theorem c_l6 {ws : List Cs} (h1 : 1 ≤ ws.length) (hl : ws.length ≤ 1000) (o0 o1 o2 o4 o5 o6 o7 o8 o9 o10 o11 o12 o13 o14 o16 o17 o18 o19 : Option D) : evE prg (evF prg (n + 5)) c_law_6 [o0, o1, o2, some (.int ws.length), o4, o5, o6, o7, o8, o9, o10, o11, o12, o13, o14, some (eS ws), o16, o17, o18, o19] S = .ok (.lst (eIs ((sts ws).drop 1))) S := by
  have hSL := SL_big
  have := ev_comp (P := prg) (cf := evF prg (n + 5)) (ρ := [o0, o1, o2, some (.int ws.length), o4, o5, o6, o7, o8, o9, o10, o11, o12, o13, o14, some (eS ws), o16, o17, o18, o19]) (S := S) (m := false) (own := [5]) (tg := .name 5) (it := .rng2 (.int 1) (.var 3)) (cond := .yes (.cmp .ne (.idx (.var 15) (.var 5)) (.idx (.var 15) (.bin .sub (.var 5) (.int 1))))) (elt := .var 5)
    (List.range (ws.length - 1)) (fun k : Nat => .int ((1 : Int) + k)) (fun k => if brk ws (k + 1) then some (.int ((1 : Int) + k)) else none) (by
      rw [ev_rng2 (i := 1) (j := ws.length) (S' := S) (S2 := S) (by simp) (e_var rfl) (by omega) (by omega)]
      rw [show ((ws.length : Int) - 1).toNat = ws.length - 1 by omega]) (by simp; omega) fun k hk => by
      have hk := List.mem_range.mp hk
      have i1 := idx_eS (S := S) (ws := ws) (p := k + 1) (by omega)
      have i2 := idx_eS (S := S) (ws := ws) (p := k) (by omega)
      rw [show ((k + 1 : Nat) : Int) = (1 : Int) + k by omega] at i1
      rw [show (k : Int) = (1 : Int) + k - 1 by omega] at i2
      have hb : brk ws (k + 1) = !(gw ws (k + 1) == gw ws k) := rfl
      rw [hb]
      by_cases h : gw ws (k + 1) = gw ws k
      · simp only [wipeE, List.map_cons, List.foldl_cons, List.foldl_nil]
        simp [wipeE, e_var, i1, i2, h, -Int.add_sub_cancel]
      · have h' : (gw ws (k + 1) == gw ws k) = false := by simpa using h
        simp [wipeE, e_var, i1, i2, h', -Int.add_sub_cancel]
  rw [filt_enc (fun k => brk ws (k + 1)) (fun k : Nat => D.int ((1 : Int) + k))] at this
  rw [sts, st_eq, List.drop_succ_cons, List.drop_zero, eIs, List.map_map]
  have ef : (fun x : Nat => D.int (x : Int)) ∘ (fun x : Nat => x + 1) = fun k : Nat => D.int ((1 : Int) + k) := funext fun k => by
    show D.int ((k + 1 : Nat) : Int) = _
    rw [show ((k + 1 : Nat) : Int) = (1 : Int) + k by omega]
  rw [ef]
  exact this
theorem c_l7 {ws : List Cs} (h1 : 1 ≤ ws.length) (hl : ws.length ≤ 1000) (o0 o1 o2 o3 o4 o5 o6 o7 o8 o9 o10 o11 o12 o13 o14 o15 o16 o17 o19 : Option D) : evE prg (evF prg (n + 5)) c_law_7 [o0, o1, o2, o3, o4, o5, o6, o7, o8, o9, o10, o11, o12, o13, o14, o15, o16, o17, some (.lst (eIs (sts ws))), o19] S = .ok (.lst (((sts ws).drop 1).map eQ)) S := by
  have hSL := SL_big
  have hsl := st_len ws (ws.length - 1)
  exact ev_compM ((sts ws).drop 1) (fun b : Nat => .int (b : Int)) eQ (by simp [e_var, sliceK, cut1, eIs, -List.drop_one]) (by simp [sts]; omega) fun b hb => by
    simp [wipeE, e_var, eQ]
/-- the checks on hands -/
theorem st_t1217 {ws : List Cs} (P : Pgs ws) (o0 o1 o2 o4 o5 o6 o7 o8 o9 o10 o11 o12 o13 o14 o16 o17 o18 o19 : Option D) :
    evSs prg (evF prg (n + 5)) [t12, t13, t14, t15, t16, t17] [o0, o1, o2, some (.int ws.length), o4, o5, o6, o7, o8, o9, o10, o11, o12, o13, o14, some (eS ws), o16, o17, o18, o19] S = .ok (.nx [o0, o1, o2, some (.int ws.length), o4, o5, o6, o7, o8, o9, o10, o11, o12, o13, o14, some (eS ws), o16, some (eP ws), some (.lst (eIs (sts ws))), some (ppr ws)]) S := by
  have hSL := SL_big
  have h1 : 1 ≤ ws.length := List.length_pos_iff.mpr P.p0
  have hl : ws.length ≤ 1000 := by have := P.pl; omega
  have hsl := st_len ws (ws.length - 1)
  obtain ⟨r, hr⟩ := st_head ws (ws.length - 1)
  have hs : sts ws = 0 :: (sts ws).drop 1 := by rw [sts, hr]; rfl
  have hsl2 : (sts ws).length = ((sts ws).drop 1).length + 1 := by rw [sts, hr]; rfl
  have hsl3 : (sts ws).length ≤ 1000 := by rw [sts]; omega
  have n1 := fun S => ev_fewest (S := S) (n := n) P
  have n2 : ∀ S, evF prg (n + 5) 39 [eP ws, .tup (eIs (sts ws))] S = .ok (.bl true) S := fun S => ev_ishands P
  have n3 : ∀ S, evF prg (n + 5) 40 [eP ws] S = .ok (ppr ws) S := fun S => ev_paper P
  have n4 := fun S => ev_ispaper (S := S) (n := n) P
  have n5 : ∀ S, evF prg (n + 5) 41 [eP ws, .tup (((sts ws).drop 1).map eQ)] S = .ok (.bl true) S := fun S => ev_ispaper P
  have n6 := fun S (i : Int) => same_ib (S := S) (n := n + 3) i
  have b1 : ∀ S, evBi .tuple false [.lst (ws.map pg)] S = .ok (eP ws) S := fun S => Eq.trans rfl rfl
  have b2 : ∀ S, op2 (binOp .add) (.lst [.int 0]) (.lst (eIs ((sts ws).drop 1))) S = .ok (.lst (eIs (sts ws))) S := fun S => by
    rw [op_addL (by rw [eIs_len]; simp only [List.length_cons, List.length_nil]; omega)]
    conv => rhs; rw [hs]
    rfl
  have b3 : ∀ S, evBi .len false [ppr ws] S = .ok (.int ((sts ws).length - 1)) S := fun S => by
    have : evBi .len false [ppr ws] S = .ok (.int (((sts ws).drop 1).map eQ).length) S := Eq.trans rfl rfl
    rw [this, List.length_map]
    congr 2
    omega
  have b4 : ∀ S, evBi .len false [.lst (eIs (sts ws))] S = .ok (.int (sts ws).length) S := fun S => by
    have : evBi .len false [.lst (eIs (sts ws))] S = .ok (.int (eIs (sts ws)).length) S := Eq.trans rfl rfl
    rw [this, eIs_len]
  have s12 : evS prg (evF prg (n + 5)) t12 [o0, o1, o2, some (.int ws.length), o4, o5, o6, o7, o8, o9, o10, o11, o12, o13, o14, some (eS ws), o16, o17, o18, o19] S = .ok (.nx [o0, o1, o2, some (.int ws.length), o4, o5, o6, o7, o8, o9, o10, o11, o12, o13, o14, some (eS ws), o16, some (eP ws), o18, o19]) S := by
    have c := c_l5 (n := n) (S := S) hl o0 o1 o2 (some (.int ws.length)) o4 o5 o6 o7 o8 o9 o10 o11 o12 o13 o14 o16 o17 o18 o19
    simp only [t12, zs_asg, e_bi, es_cons, es_nil, c, bind_ok, b1]
    simp
  have s13 : evS prg (evF prg (n + 5)) t13 [o0, o1, o2, some (.int ws.length), o4, o5, o6, o7, o8, o9, o10, o11, o12, o13, o14, some (eS ws), o16, some (eP ws), o18, o19] S = .ok (.nx [o0, o1, o2, some (.int ws.length), o4, o5, o6, o7, o8, o9, o10, o11, o12, o13, o14, some (eS ws), o16, some (eP ws), some (.lst (eIs (sts ws))), o19]) S := by
    have c := c_l6 (n := n) (S := S) h1 hl o0 o1 o2 o4 o5 o6 o7 o8 o9 o10 o11 o12 o13 o14 o16 (some (eP ws)) o18 o19
    simp only [t13, zs_asg, e_bin, e_lst, e_int, es_cons, es_nil, c, bind_ok, zfew1, newL_f, b2]
    simp
  have s14 : evS prg (evF prg (n + 5)) t14 [o0, o1, o2, some (.int ws.length), o4, o5, o6, o7, o8, o9, o10, o11, o12, o13, o14, some (eS ws), o16, some (eP ws), some (.lst (eIs (sts ws))), o19] S = .ok (.nx [o0, o1, o2, some (.int ws.length), o4, o5, o6, o7, o8, o9, o10, o11, o12, o13, o14, some (eS ws), o16, some (eP ws), some (.lst (eIs (sts ws))), o19]) S := by
    simp [t14, e_var, n1, n2, b4, n6, -bi_len_l]
  have s15 : evS prg (evF prg (n + 5)) t15 [o0, o1, o2, some (.int ws.length), o4, o5, o6, o7, o8, o9, o10, o11, o12, o13, o14, some (eS ws), o16, some (eP ws), some (.lst (eIs (sts ws))), o19] S = .ok (.nx [o0, o1, o2, some (.int ws.length), o4, o5, o6, o7, o8, o9, o10, o11, o12, o13, o14, some (eS ws), o16, some (eP ws), some (.lst (eIs (sts ws))), some (ppr ws)]) S := by
    simp [t15, e_var, n3]
  have s16 : evS prg (evF prg (n + 5)) t16 [o0, o1, o2, some (.int ws.length), o4, o5, o6, o7, o8, o9, o10, o11, o12, o13, o14, some (eS ws), o16, some (eP ws), some (.lst (eIs (sts ws))), some (ppr ws)] S = .ok (.nx [o0, o1, o2, some (.int ws.length), o4, o5, o6, o7, o8, o9, o10, o11, o12, o13, o14, some (eS ws), o16, some (eP ws), some (.lst (eIs (sts ws))), some (ppr ws)]) S := by
    simp [t16, e_var, n4, b3, b4, -bi_len_l]
  have s17 : evS prg (evF prg (n + 5)) t17 [o0, o1, o2, some (.int ws.length), o4, o5, o6, o7, o8, o9, o10, o11, o12, o13, o14, some (eS ws), o16, some (eP ws), some (.lst (eIs (sts ws))), some (ppr ws)] S = .ok (.nx [o0, o1, o2, some (.int ws.length), o4, o5, o6, o7, o8, o9, o10, o11, o12, o13, o14, some (eS ws), o16, some (eP ws), some (.lst (eIs (sts ws))), some (ppr ws)]) S := by
    have c := c_l7 (n := n) (S := S) h1 hl o0 o1 o2 (some (.int ws.length)) o4 o5 o6 o7 o8 o9 o10 o11 o12 o13 o14 (some (eS ws)) o16 (some (eP ws)) (some (ppr ws))
    simp [t17, e_var, c, n5, -List.drop_one, -List.map_drop]
  simp only [ss_cons, ss_nil, s12, s13, s14, s15, s16, s17, bind_ok, nextB_nx]
end K99
end QF
end

section
namespace QF
namespace K99
variable {S : Sto} {n : Nat}
theorem tabO_under (k : Nat) (ts : List (Cs × List Cs)) : (tabO ts).under k = true := by
  simp only [tabO, O.under, Bool.and_eq_true]
  exact ⟨flats_unders _ _ (flats_map fun _ _ => rfl), flats_unders _ _ (flats_map fun _ _ => flat_eS _)⟩
theorem law_turn (c : CupS S) (is : List Int) (o2 o3 o4 o5 o6 o7 o8 o9 o10 o11 o12 o13 o14 o15 o16 o17 o18 o19 : Option D) : ∃ (p3 p4 p5 p6 p7 p8 p9 p10 p11 p12 p13 p14 p15 p16 p17 p18 p19 : Option D) (S' : Sto), CupS S' ∧ evSs prg (evF prg (n + 5)) w_law_3 [some (.scr is), some (.loc 0), o2, o3, o4, o5, o6, o7, o8, o9, o10, o11, o12, o13, o14, o15, o16, o17, o18, o19] S = .ok (.nx [some (.scr is), some (.loc 0), o2, p3, p4, p5, p6, p7, p8, p9, p10, p11, p12, p13, p14, p15, p16, p17, p18, p19]) S' := by
  obtain ⟨m, xs, S1, m1, m6, x1, x4, xu, xn, c1, _, e1⟩ := st_t1 (n := n) c (some (.scr is)) o2 o3 o4 o5 o6 o7 o8 o9 o10 o11 o12 o13 o14 o15 o16 o17 o18 o19
  obtain ⟨bs, S2, hb, bn, c2, _, e2⟩ := st_t2 (n := n) c1 m1 m6 (some (.scr is)) o2 (some (.lst (xs.map .str))) o5 o6 o7 o8 o9 o10 o11 o12 o13 o14 o15 o16 o17 o18 o19
  obtain ⟨ts, S3, T, hx, c3, _, e3⟩ := st_t3 (n := n) c2 m1 m6 hb bn x1 x4 xu xn (some (.scr is)) o2 o5 o7 o8 o9 o10 o11 o12 o13 o14 o15 o16 o17 o18 o19
  subst hb; subst hx
  have hL : S3.length ≠ 0 := by
    obtain ⟨x, y, hc, _⟩ := c3.cup
    have := (List.getElem?_eq_some_iff.mp hc).1; omega
  have e4 := st_t48 (S := S3) (n := n) T (some (.scr is)) (some (.loc 0)) o2 (some (.int bs.length)) o5 o7 o9 o10 o11 o12 o13 o14 o15 o16 o17 o18 o19
  have e9 := st_t9 (S := S3) (n := n) T (some (.scr is)) (some (.loc 0)) o2 (some (.int bs.length)) (some (.lst ((nms ts).map .str))) o5 (some (eS bs)) o7 (some (eN (plainN bs ts))) (some (eN (fullN bs ts))) o11 o12 o13 o14 o15 o16 o17 o18 o19
  have c4 := c3.push (tabO_under _ ts)
  have hS : (S3 ++ [tabO ts])[S3.length]? = some (tabO ts) := by simp
  obtain ⟨p12, p13, p14, e10⟩ := st_t10 (n := n) T hS (by omega) (some (.scr is)) (some (.loc 0)) o2 o5 o7 (some (eN (plainN bs ts))) (some (eN (fullN bs ts))) o12 o13 o14 o15 o16 o17 o18 o19
  obtain ⟨d, hd, S5, e11, c5, k5⟩ := ev_some (n := n + 3) (ds := (nms ts).map .str) c4 (by intro h; rw [List.map_eq_nil_iff] at h; rw [h] at x1; simp at x1) (by rw [List.length_map]; omega) (flats_strs _)
  obtain ⟨w, hw, rfl⟩ := List.mem_map.mp hd
  obtain ⟨q, hq, rfl⟩ := List.mem_map.mp hw
  have hS5 : S5[S3.length]? = some (tabO ts) := by rw [k5.2 _ hL]; exact hS
  have ix := ix_tab hS5 (up_nodup T.tu : (nms ts).Nodup) hq
  have hql := T.tw q hq
  have P : Pgs q.2 := ⟨fun h => by rw [h] at hql; simp at hql; omega, by omega, T.tr q hq⟩
  have e11' : evS prg (evF prg (n + 5)) t11 [some (.scr is), some (.loc 0), o2, some (.int bs.length), some (.lst ((nms ts).map .str)), o5, some (eS bs), o7, some (eT ts), some (eN (plainN bs ts)), some (eN (fullN bs ts)), some (.loc S3.length), p12, p13, p14, o15, o16, o17, o18, o19] (S3 ++ [tabO ts]) = .ok (.nx [some (.scr is), some (.loc 0), o2, some (.int bs.length), some (.lst ((nms ts).map .str)), o5, some (eS bs), o7, some (eT ts), some (eN (plainN bs ts)), some (eN (fullN bs ts)), some (.loc S3.length), p12, p13, p14, some (eS q.2), o16, o17, o18, o19]) S5 := by
    simp [t11, e_var, e11, ix]
  have e12 := st_t1217 (S := S5) (n := n) P (some (.scr is)) (some (.loc 0)) o2 (some (.lst ((nms ts).map .str))) o5 (some (eS bs)) o7 (some (eT ts)) (some (eN (plainN bs ts))) (some (eN (fullN bs ts))) (some (.loc S3.length)) p12 p13 p14 o16 o17 o18 o19
  rw [hql] at e12
  refine ⟨some (.int bs.length), some (.lst ((nms ts).map .str)), o5, some (eS bs), o7, some (eT ts), some (eN (plainN bs ts)), some (eN (fullN bs ts)), some (.loc S3.length), p12, p13, p14, some (eS q.2), o16, some (eP q.2), some (.lst (eIs (sts q.2))), some (ppr q.2), S5, c5, ?_⟩
  rw [turn_eq]
  simp only [ss_cons, e1, e2, e3, bind_ok, nextB_nx]
  simp only [ss_cons] at e4
  have app : ∀ (a b : List St) (ρ ρ' : Env) (S S' : Sto), evSs prg (evF prg (n + 5)) a ρ S = .ok (.nx ρ') S' → evSs prg (evF prg (n + 5)) (a ++ b) ρ S = evSs prg (evF prg (n + 5)) b ρ' S' := fun a => by
    induction a with
    | nil => intro b ρ ρ' S S' h; rw [ss_nil] at h; cases h; rfl
    | cons s a ih =>
      intro b ρ ρ' S S' h
      rw [ss_cons] at h
      rw [List.cons_append, ss_cons]
      cases hs : evS prg (evF prg (n + 5)) s ρ S with
      | stk => rw [hs] at h; cases h
      | exc c fs S2 => rw [hs] at h; cases h
      | ok f S2 =>
        rw [hs] at h
        cases f with
        | nx ρ2 =>
          rw [bind_ok, nextB_nx] at h ⊢
          exact ih b ρ2 ρ' S2 S' h
        | rt d => rw [bind_ok, nextB_rt] at h; cases h
        | bk d => rw [bind_ok, nextB_bk] at h; cases h
        | ct d => rw [bind_ok, nextB_ct] at h; cases h
  have e4' := st_t48 (S := S3) (n := n) T (some (.scr is)) (some (.loc 0)) o2 (some (.int bs.length)) o5 o7 o9 o10 o11 o12 o13 o14 o15 o16 o17 o18 o19
  have a4 := app _ [t9, t10, t11, t12, t13, t14, t15, t16, t17] _ _ _ _ e4'
  simp only [List.cons_append, List.nil_append, ss_cons] at a4
  rw [a4, e9, bind_ok, nextB_nx, ss_cons, e10, bind_ok, nextB_nx, ss_cons, e11', bind_ok, nextB_nx]
  exact e12
theorem law_plain (is : List Int) (hl : is.length ≤ 63) : evF prg (n + 6) 47 [.scr is] [] = .ok (.bl true) [] := by
  have hSL := SL_big
  obtain ⟨a, b, h0, ha, hb, hb2⟩ := ev_cup is hl
  have c0 : CupS [.lst [.int a, .int b]] := ⟨⟨a, b, rfl, ha, hb, hb2⟩, rfl⟩
  obtain ⟨ρ', S', e, J⟩ := ev_for (P := prg) (cf := evF prg (n + 5)) (ρ := [some (.scr is), some (.loc 0), none, none, none, none, none, none, none, none, none, none, none, none, none, none, none, none, none, none]) (S := [.lst [.int a, .int b]]) (tg := .name 2) (it := .rng1 (.int 3)) (body := w_law_3) (fun (k : Nat) => .int (k : Int)) (List.range 3)
    (fun _ ρ St => CupS St ∧ ∃ o2 o3 o4 o5 o6 o7 o8 o9 o10 o11 o12 o13 o14 o15 o16 o17 o18 o19, ρ = [some (.scr is), some (.loc 0), o2, o3, o4, o5, o6, o7, o8, o9, o10, o11, o12, o13, o14, o15, o16, o17, o18, o19]) (ev_rng1 (k := 3) (by simp) (by omega)) ⟨c0, _, _, _, _, _, _, _, _, _, _, _, _, _, _, _, _, _, _, rfl⟩
    fun pre a post ρ St hx ⟨cc, o2, o3, o4, o5, o6, o7, o8, o9, o10, o11, o12, o13, o14, o15, o16, o17, o18, o19, e⟩ => by
      subst e
      obtain ⟨p3, p4, p5, p6, p7, p8, p9, p10, p11, p12, p13, p14, p15, p16, p17, p18, p19, S2, c2, e2⟩ := law_turn (n := n) cc is (some (.int (a : Int))) o3 o4 o5 o6 o7 o8 o9 o10 o11 o12 o13 o14 o15 o16 o17 o18 o19
      exact ⟨_, _, S2, by simp, e2, c2, _, _, _, _, _, _, _, _, _, _, _, _, _, _, _, _, _, _, rfl⟩
  have := evF_own (P := prg) (n := n + 5) (f := 47) (np := 1) (nl := 20) (body := b_law) (ds := [.scr is]) (d := .bl true) (S := []) (S' := S') rfl rfl (by
    have h1 : evF prg (n + 5) 42 [.scr is] [] = .ok (.loc 0) [.lst [.int a, .int b]] := h0 (n + 4)
    simp only [b_law, envOf, List.map_cons, List.map_nil, List.length_cons, List.length_nil, List.replicate, List.cons_append, List.nil_append, ss_cons, zs_asg]
    simp [e_var, h1, e, -zs_for]) rfl rfl
  rw [this]
  rfl
end K99
end QF
end

set_option maxHeartbeats 0
namespace QF
namespace K99
open PySem PySem.Spec PyProof.Rows L2
def topS (i : Nat) : Stmt := PySem.Challenge.pw_quires_k99_whole_notes_and_hands.main.body.getD i (.Pass ⟨0, 0, 0, 0⟩)
def dfD (x : Str) (i : Nat) : He.DefD := ⟨(x, none), x, x, L2.defArgs (topS i), L2.defBody (topS i), L2.defScope (topS i), [], []⟩
def fnL : List He.DefD := [dfD "fits_name" 12, dfD "is_whole" 13, dfD "fits_whole" 14, dfD "is_tuple_of" 15, dfD "is_rising" 16, dfD "fits_witnesses" 17, dfD "fits_base" 22, dfD "need_base" 23, dfD "fits_reading" 24, dfD "fits_texts" 25, dfD "need_texts" 26, dfD "need_few" 27, dfD "fits_part" 28, dfD "fits_groups" 29, dfD "need_groups" 30, dfD "names_of" 31, dfD "rows_at" 32, dfD "meant" 33, dfD "fits_note" 34, dfD "fits_notes" 35, dfD "text_by" 36, dfD "size_of" 37, dfD "plain_notes" 38, dfD "full_notes" 39, dfD "are_notes" 40, dfD "texts_by" 41, dfD "notes_size" 42, dfD "tell_texts" 43, dfD "unlike_places" 44, dfD "fits_page" 48, dfD "fits_pages" 49, dfD "need_pages" 50, dfD "do_quarrel" 51, dfD "one_hand" 52, dfD "late_starts" 53, dfD "fits_starts" 54, dfD "spans_of" 55, dfD "quarrels_in" 56, dfD "fewest_hands" 57, dfD "is_hands" 58, dfD "hand_paper" 59, dfD "is_hand_paper" 60, dfD "_law_cup" 62, dfD "_law_roll" 63, dfD "_law_some" 64, dfD "_law_same" 65, dfD "_law_names" 66, dfD "law" 67]
def bnL : List Str := ["len", "abs", "int", "str", "tuple", "list", "sum", "max", "min", "any", "all", "sorted", "dict", "isinstance", "bool", "range", "enumerate", "zip", "set"]
def gfL : List He.Fa := [.str "LETTERS" (txt [97, 98, 99, 100, 101, 102, 103, 104, 105, 106, 107, 108, 109, 110, 111, 112, 113, 114, 115, 116, 117, 118, 119, 120, 121, 122]), .str "SIGNS" (txt [97, 98, 99, 100, 101, 102, 103, 104, 105, 106, 107, 108, 109, 110, 111, 112, 113, 114, 115, 116, 117, 118, 119, 120, 121, 122, 48, 49, 50, 51, 52, 53, 54, 55, 56, 57]), .int "LONGEST" 12, .int "MANY" 24, .int "WORDS" 40, .int "WITNESSES" 16, .int "GROUPS" 8, .int "PAGES" 60, .int "TRAITS" 6]
def faL : List He.Fa := (fnL.map fun d => He.Fa.glo d.name) ++ (bnL.map He.Fa.free ++ gfL)
abbrev RW : PySem.W.OpenRow := PySem.W.OpenLaw.row PySem.Challenge.rw_quires_k99_whole_notes_and_hands
abbrev hkL : PySem.W.Hook := He.hookD 4 faL fnL
def obL (s : PySem.W.SharedT) : He.AlD := He.obsDG 4 faL fnL (HandSHeadRun.getT s)
theorem obL_eq (s : PySem.W.SharedT) : obL s = hkL.obs s.abs := He.obsDG_eq (HandSHeadRun.getT_eq s)
def looseL : List PySem.Str := [("StemmaError" : PySem.Str), ("InvalidWitnesses" : PySem.Str), ("InvalidReadings" : PySem.Str), ("InvalidCosts" : PySem.Str), ("InvalidPaper" : PySem.Str), ("InvalidText" : PySem.Str), ("LETTERS" : PySem.Str), ("SIGNS" : PySem.Str), ("LONGEST" : PySem.Str), ("MANY" : PySem.Str), ("fits_name" : PySem.Str), ("is_whole" : PySem.Str), ("fits_whole" : PySem.Str), ("is_tuple_of" : PySem.Str), ("is_rising" : PySem.Str), ("fits_witnesses" : PySem.Str), ("WORDS" : PySem.Str), ("WITNESSES" : PySem.Str), ("GROUPS" : PySem.Str), ("fits_base" : PySem.Str), ("need_base" : PySem.Str), ("fits_reading" : PySem.Str), ("fits_texts" : PySem.Str), ("need_texts" : PySem.Str), ("need_few" : PySem.Str), ("fits_part" : PySem.Str), ("fits_groups" : PySem.Str), ("need_groups" : PySem.Str), ("names_of" : PySem.Str), ("rows_at" : PySem.Str)] ++ [("meant" : PySem.Str), ("fits_note" : PySem.Str), ("fits_notes" : PySem.Str), ("text_by" : PySem.Str), ("size_of" : PySem.Str), ("plain_notes" : PySem.Str), ("full_notes" : PySem.Str), ("are_notes" : PySem.Str), ("texts_by" : PySem.Str), ("notes_size" : PySem.Str), ("tell_texts" : PySem.Str), ("unlike_places" : PySem.Str), ("PAGES" : PySem.Str), ("TRAITS" : PySem.Str), ("fits_page" : PySem.Str), ("fits_pages" : PySem.Str), ("need_pages" : PySem.Str), ("do_quarrel" : PySem.Str), ("one_hand" : PySem.Str), ("late_starts" : PySem.Str), ("fits_starts" : PySem.Str), ("spans_of" : PySem.Str), ("quarrels_in" : PySem.Str), ("fewest_hands" : PySem.Str), ("is_hands" : PySem.Str), ("hand_paper" : PySem.Str), ("is_hand_paper" : PySem.Str), ("_law_cup" : PySem.Str), ("_law_roll" : PySem.Str), ("_law_some" : PySem.Str)] ++ [("_law_same" : PySem.Str), ("_law_names" : PySem.Str)]
theorem runL (w : World) : HandSHeadRun.RunEq RW (PySem.W.view RW.prog [67]) hkL obL 6000 looseL w := by
  intro os
  kernel_rfl
/-! the defs' own facts -/
def BD (d : He.DefD) : Prop := ∀ (kV doc pm : Value) (an : Option Addr) (cdv ct : Value) (us : List Value), us.length = (psOf d).length → bindArgs (PySem.W.fnOf d.name d.qual d.params d.body d.scope .none kV doc pm an cdv ct) ⟨us, []⟩ = pure ((psOf d).zip us)
def PD (d : He.DefD) : Prop := d.dfl = [] ∧ d.kwd = [] ∧ d.at_ = (d.name, none)
theorem al_n {α : Type} {Q : α → Prop} : ∀ x ∈ ([] : List α), Q x := fun _ h => by cases h
theorem al_c {α : Type} {Q : α → Prop} {a : α} {l : List α} (h : Q a) (t : ∀ x ∈ l, Q x) : ∀ x ∈ a :: l, Q x := fun x hx => by
  rcases List.mem_cons.mp hx with rfl | hx
  · exact h
  · exact t x hx
theorem bd_0 : BD (dfD "fits_name" 12) := fun kV doc pm an cdv ct us hl => match us, hl with | [_], _ => rfl
theorem bd_1 : BD (dfD "is_whole" 13) := fun kV doc pm an cdv ct us hl => match us, hl with | [_], _ => rfl
theorem bd_2 : BD (dfD "fits_whole" 14) := fun kV doc pm an cdv ct us hl => match us, hl with | [_, _, _], _ => rfl
theorem bd_3 : BD (dfD "is_tuple_of" 15) := fun kV doc pm an cdv ct us hl => match us, hl with | [_, _, _], _ => rfl
theorem bd_4 : BD (dfD "is_rising" 16) := fun kV doc pm an cdv ct us hl => match us, hl with | [_], _ => rfl
theorem bd_5 : BD (dfD "fits_witnesses" 17) := fun kV doc pm an cdv ct us hl => match us, hl with | [_], _ => rfl
theorem bd_6 : BD (dfD "fits_base" 22) := fun kV doc pm an cdv ct us hl => match us, hl with | [_], _ => rfl
theorem bd_7 : BD (dfD "need_base" 23) := fun kV doc pm an cdv ct us hl => match us, hl with | [_], _ => rfl
theorem bd_8 : BD (dfD "fits_reading" 24) := fun kV doc pm an cdv ct us hl => match us, hl with | [_], _ => rfl
theorem bd_9 : BD (dfD "fits_texts" 25) := fun kV doc pm an cdv ct us hl => match us, hl with | [_, _], _ => rfl
theorem bd_10 : BD (dfD "need_texts" 26) := fun kV doc pm an cdv ct us hl => match us, hl with | [_, _], _ => rfl
theorem bd_11 : BD (dfD "need_few" 27) := fun kV doc pm an cdv ct us hl => match us, hl with | [_], _ => rfl
theorem bd_12 : BD (dfD "fits_part" 28) := fun kV doc pm an cdv ct us hl => match us, hl with | [_, _], _ => rfl
theorem bd_13 : BD (dfD "fits_groups" 29) := fun kV doc pm an cdv ct us hl => match us, hl with | [_, _], _ => rfl
theorem bd_14 : BD (dfD "need_groups" 30) := fun kV doc pm an cdv ct us hl => match us, hl with | [_, _], _ => rfl
theorem bd_15 : BD (dfD "names_of" 31) := fun kV doc pm an cdv ct us hl => match us, hl with | [_], _ => rfl
theorem bd_16 : BD (dfD "rows_at" 32) := fun kV doc pm an cdv ct us hl => match us, hl with | [_, _], _ => rfl
theorem bd_17 : BD (dfD "meant" 33) := fun kV doc pm an cdv ct us hl => match us, hl with | [_, _], _ => rfl
theorem bd_18 : BD (dfD "fits_note" 34) := fun kV doc pm an cdv ct us hl => match us, hl with | [_, _, _, _], _ => rfl
theorem bd_19 : BD (dfD "fits_notes" 35) := fun kV doc pm an cdv ct us hl => match us, hl with | [_, _, _, _], _ => rfl
theorem bd_20 : BD (dfD "text_by" 36) := fun kV doc pm an cdv ct us hl => match us, hl with | [_, _, _, _], _ => rfl
theorem bd_21 : BD (dfD "size_of" 37) := fun kV doc pm an cdv ct us hl => match us, hl with | [_], _ => rfl
theorem bd_22 : BD (dfD "plain_notes" 38) := fun kV doc pm an cdv ct us hl => match us, hl with | [_, _], _ => rfl
theorem bd_23 : BD (dfD "full_notes" 39) := fun kV doc pm an cdv ct us hl => match us, hl with | [_, _], _ => rfl
theorem bd_24 : BD (dfD "are_notes" 40) := fun kV doc pm an cdv ct us hl => match us, hl with | [_, _, _, _], _ => rfl
theorem bd_25 : BD (dfD "texts_by" 41) := fun kV doc pm an cdv ct us hl => match us, hl with | [_, _, _, _], _ => rfl
theorem bd_26 : BD (dfD "notes_size" 42) := fun kV doc pm an cdv ct us hl => match us, hl with | [_, _, _, _], _ => rfl
theorem bd_27 : BD (dfD "tell_texts" 43) := fun kV doc pm an cdv ct us hl => match us, hl with | [_, _, _, _], _ => rfl
theorem bd_28 : BD (dfD "unlike_places" 44) := fun kV doc pm an cdv ct us hl => match us, hl with | [_, _, _, _], _ => rfl
theorem bd_29 : BD (dfD "fits_page" 48) := fun kV doc pm an cdv ct us hl => match us, hl with | [_], _ => rfl
theorem bd_30 : BD (dfD "fits_pages" 49) := fun kV doc pm an cdv ct us hl => match us, hl with | [_], _ => rfl
theorem bd_31 : BD (dfD "need_pages" 50) := fun kV doc pm an cdv ct us hl => match us, hl with | [_], _ => rfl
theorem bd_32 : BD (dfD "do_quarrel" 51) := fun kV doc pm an cdv ct us hl => match us, hl with | [_, _], _ => rfl
theorem bd_33 : BD (dfD "one_hand" 52) := fun kV doc pm an cdv ct us hl => match us, hl with | [_, _, _], _ => rfl
theorem bd_34 : BD (dfD "late_starts" 53) := fun kV doc pm an cdv ct us hl => match us, hl with | [_], _ => rfl
theorem bd_35 : BD (dfD "fits_starts" 54) := fun kV doc pm an cdv ct us hl => match us, hl with | [_, _], _ => rfl
theorem bd_36 : BD (dfD "spans_of" 55) := fun kV doc pm an cdv ct us hl => match us, hl with | [_, _], _ => rfl
theorem bd_37 : BD (dfD "quarrels_in" 56) := fun kV doc pm an cdv ct us hl => match us, hl with | [_], _ => rfl
theorem bd_38 : BD (dfD "fewest_hands" 57) := fun kV doc pm an cdv ct us hl => match us, hl with | [_], _ => rfl
theorem bd_39 : BD (dfD "is_hands" 58) := fun kV doc pm an cdv ct us hl => match us, hl with | [_, _], _ => rfl
theorem bd_40 : BD (dfD "hand_paper" 59) := fun kV doc pm an cdv ct us hl => match us, hl with | [_], _ => rfl
theorem bd_41 : BD (dfD "is_hand_paper" 60) := fun kV doc pm an cdv ct us hl => match us, hl with | [_, _], _ => rfl
theorem bd_42 : BD (dfD "_law_cup" 62) := fun kV doc pm an cdv ct us hl => match us, hl with | [_], _ => rfl
theorem bd_43 : BD (dfD "_law_roll" 63) := fun kV doc pm an cdv ct us hl => match us, hl with | [_, _], _ => rfl
theorem bd_44 : BD (dfD "_law_some" 64) := fun kV doc pm an cdv ct us hl => match us, hl with | [_, _], _ => rfl
theorem bd_45 : BD (dfD "_law_same" 65) := fun kV doc pm an cdv ct us hl => match us, hl with | [_, _], _ => rfl
theorem bd_46 : BD (dfD "_law_names" 66) := fun kV doc pm an cdv ct us hl => match us, hl with | [_, _], _ => rfl
theorem bd_47 : BD (dfD "law" 67) := fun kV doc pm an cdv ct us hl => match us, hl with | [_], _ => rfl
theorem bd_all : ∀ d ∈ fnL, BD d := al_c bd_0 (al_c bd_1 (al_c bd_2 (al_c bd_3 (al_c bd_4 (al_c bd_5 (al_c bd_6 (al_c bd_7 (al_c bd_8 (al_c bd_9 (al_c bd_10 (al_c bd_11 (al_c bd_12 (al_c bd_13 (al_c bd_14 (al_c bd_15 (al_c bd_16 (al_c bd_17 (al_c bd_18 (al_c bd_19 (al_c bd_20 (al_c bd_21 (al_c bd_22 (al_c bd_23 (al_c bd_24 (al_c bd_25 (al_c bd_26 (al_c bd_27 (al_c bd_28 (al_c bd_29 (al_c bd_30 (al_c bd_31 (al_c bd_32 (al_c bd_33 (al_c bd_34 (al_c bd_35 (al_c bd_36 (al_c bd_37 (al_c bd_38 (al_c bd_39 (al_c bd_40 (al_c bd_41 (al_c bd_42 (al_c bd_43 (al_c bd_44 (al_c bd_45 (al_c bd_46 (al_c bd_47 (al_n))))))))))))))))))))))))))))))))))))))))))))))))
theorem pd_all : ∀ d ∈ fnL, PD d := al_c ⟨rfl, rfl, rfl⟩ (al_c ⟨rfl, rfl, rfl⟩ (al_c ⟨rfl, rfl, rfl⟩ (al_c ⟨rfl, rfl, rfl⟩ (al_c ⟨rfl, rfl, rfl⟩ (al_c ⟨rfl, rfl, rfl⟩ (al_c ⟨rfl, rfl, rfl⟩ (al_c ⟨rfl, rfl, rfl⟩ (al_c ⟨rfl, rfl, rfl⟩ (al_c ⟨rfl, rfl, rfl⟩ (al_c ⟨rfl, rfl, rfl⟩ (al_c ⟨rfl, rfl, rfl⟩ (al_c ⟨rfl, rfl, rfl⟩ (al_c ⟨rfl, rfl, rfl⟩ (al_c ⟨rfl, rfl, rfl⟩ (al_c ⟨rfl, rfl, rfl⟩ (al_c ⟨rfl, rfl, rfl⟩ (al_c ⟨rfl, rfl, rfl⟩ (al_c ⟨rfl, rfl, rfl⟩ (al_c ⟨rfl, rfl, rfl⟩ (al_c ⟨rfl, rfl, rfl⟩ (al_c ⟨rfl, rfl, rfl⟩ (al_c ⟨rfl, rfl, rfl⟩ (al_c ⟨rfl, rfl, rfl⟩ (al_c ⟨rfl, rfl, rfl⟩ (al_c ⟨rfl, rfl, rfl⟩ (al_c ⟨rfl, rfl, rfl⟩ (al_c ⟨rfl, rfl, rfl⟩ (al_c ⟨rfl, rfl, rfl⟩ (al_c ⟨rfl, rfl, rfl⟩ (al_c ⟨rfl, rfl, rfl⟩ (al_c ⟨rfl, rfl, rfl⟩ (al_c ⟨rfl, rfl, rfl⟩ (al_c ⟨rfl, rfl, rfl⟩ (al_c ⟨rfl, rfl, rfl⟩ (al_c ⟨rfl, rfl, rfl⟩ (al_c ⟨rfl, rfl, rfl⟩ (al_c ⟨rfl, rfl, rfl⟩ (al_c ⟨rfl, rfl, rfl⟩ (al_c ⟨rfl, rfl, rfl⟩ (al_c ⟨rfl, rfl, rfl⟩ (al_c ⟨rfl, rfl, rfl⟩ (al_c ⟨rfl, rfl, rfl⟩ (al_c ⟨rfl, rfl, rfl⟩ (al_c ⟨rfl, rfl, rfl⟩ (al_c ⟨rfl, rfl, rfl⟩ (al_c ⟨rfl, rfl, rfl⟩ (al_c ⟨rfl, rfl, rfl⟩ (al_n))))))))))))))))))))))))))))))))))))))))))))))))
theorem db_all : fnL.all (fun d => !(d.name == ("__debug__" : Str))) = true := by decide +kernel
def fitAll (xt : Bool) (fdn gln bnn : List Str) : List He.DefD → List FnDef → List (List Str) → Bool
  | d :: ds, f :: fs, n :: ns => fitF xt fdn gln bnn d f n && fitAll xt fdn gln bnn ds fs ns
  | _, _, _ => true
theorem fitAll_ok {xt : Bool} {fdn gln bnn : List Str} : ∀ {ds : List He.DefD} {fs : List FnDef} {ns : List (List Str)}, fitAll xt fdn gln bnn ds fs ns = true → ∀ (i : Nat) (d : He.DefD) (f : FnDef) (n : List Str), ds[i]? = some d → fs[i]? = some f → ns[i]? = some n → fitF xt fdn gln bnn d f n = true
  | [], _, _, _, i, d, f, n, h1, _, _ => by simp at h1
  | _ :: _, [], _, _, i, d, f, n, _, h2, _ => by simp at h2
  | _ :: _, _ :: _, [], _, i, d, f, n, _, _, h3 => by simp at h3
  | a :: ds, b :: fs, c :: ns, h, i, d, f, n, h1, h2, h3 => by
    simp only [fitAll, Bool.and_eq_true] at h
    cases i with
    | zero =>
      simp only [List.getElem?_cons_zero, Option.some.injEq] at h1 h2 h3
      subst h1; subst h2; subst h3
      exact h.1
    | succ i =>
      simp only [List.getElem?_cons_succ] at h1 h2 h3
      exact fitAll_ok h.2 i d f n h1 h2 h3
theorem fit_all : fitAll true (fnL.map (·.name)) gln bnL fnL prg.fns slots = true := by decide +kernel
/-! the text behind the top -/
def gi (K : PySem.W.Frag) : Gi := { K := K, fa := fun i => (match fnL[i]? with | some d => He.fAd K d.at_ | none => 0), ca := fun _ => 0, kt := [], xt := true }
section
variable {PR : Program} {w : World} {K : PySem.W.Frag} {h : Heap} {mg : Str → Option Value} {base : Heap}
theorem sfact (c : He.SaysD faL fnL K) {f : He.Fa} (m : f ∈ faL) : f.ok K = true := by
  obtain ⟨i, e⟩ := List.mem_iff_getElem?.mp m
  exact c.fact i e
theorem fns_of (X : K.In h) (g : h.Ns mainGlobals mg) (c : He.SaysD faL fnL K) (i : Nat) (d : He.DefD) (hd : fnL[i]? = some d) : ∃ fdat, FunD K d.name d.qual d.params d.body d.scope [] [] ((gi K).fa i) fdat ∧ Binds K fdat (psOf d) [] ∧ mg d.name = some (.ref ((gi K).fa i)) ∧ (d.name == ("__debug__" : Str)) = false ∧ ∀ (s : Shared) (us : List Value), us.length = (psOf d).length → BindsTo s fdat ⟨us, []⟩ ((psOf d).zip us) := by
  have hm := List.mem_of_getElem? hd
  obtain ⟨fdat, F⟩ := c.def_ i hd
  obtain ⟨p1, p2, p3⟩ := pd_all d hm
  have e1 : d.dvs K = [] := by unfold He.DefD.dvs; rw [p1]; rfl
  have e2 : d.kws K = [] := by unfold He.DefD.kws; rw [p2]; rfl
  have e3 : (gi K).fa i = He.fAd K d.at_ := by simp only [gi, hd]
  rw [e1, e2] at F
  have b := bd_all d hm
  have m : mg d.name = some (.ref (He.ga K d.name)) := He.glo_ok X g (sfact c (List.mem_append_left _ (List.mem_map_of_mem (f := fun d : He.DefD => He.Fa.glo d.name) hm)))
  have e4 : He.fAd K d.at_ = He.ga K d.name := by rw [p3]; rfl
  have db := List.all_eq_true.mp db_all d hm
  refine ⟨fdat, by rw [e3]; exact F, FunD.bindsN F b, by rw [e3, e4]; exact m, by simpa using db, FunD.bindsA F b⟩
theorem glo_of (X : K.In h) (g : h.Ns mainGlobals mg) (c : He.SaysD faL fnL K) (i : Nat) (x : Str) (hx : gln[i]? = some x) : ∃ u v d, mg x = some u ∧ RelV v u ∧ prg.glo[i]? = some d ∧ (∀ Fz μ H, Rep (gi K) Fz μ H d v) ∧ (x == ("__debug__" : Str)) = false :=
  match i, hx with
  | 0, hx => by
    obtain rfl : ("LETTERS" : Str) = x := Option.some.inj hx
    obtain ⟨t, e⟩ := He.str_ok X g (sfact c (f := .str "LETTERS" (txt [97, 98, 99, 100, 101, 102, 103, 104, 105, 106, 107, 108, 109, 110, 111, 112, 113, 114, 115, 116, 117, 118, 119, 120, 121, 122])) (List.mem_append_right _ (List.mem_append_right _ (List.mem_of_getElem? (i := 0) rfl))))
    exact ⟨_, .str (txt [97, 98, 99, 100, 101, 102, 103, 104, 105, 106, 107, 108, 109, 110, 111, 112, 113, 114, 115, 116, 117, 118, 119, 120, 121, 122]), .str [97, 98, 99, 100, 101, 102, 103, 104, 105, 106, 107, 108, 109, 110, 111, 112, 113, 114, 115, 116, 117, 118, 119, 120, 121, 122], e, ⟨t, rfl⟩, rfl, fun _ _ _ => by simp only [Rep], by decide +kernel⟩
  | 1, hx => by
    obtain rfl : ("SIGNS" : Str) = x := Option.some.inj hx
    obtain ⟨t, e⟩ := He.str_ok X g (sfact c (f := .str "SIGNS" (txt [97, 98, 99, 100, 101, 102, 103, 104, 105, 106, 107, 108, 109, 110, 111, 112, 113, 114, 115, 116, 117, 118, 119, 120, 121, 122, 48, 49, 50, 51, 52, 53, 54, 55, 56, 57])) (List.mem_append_right _ (List.mem_append_right _ (List.mem_of_getElem? (i := 1) rfl))))
    exact ⟨_, .str (txt [97, 98, 99, 100, 101, 102, 103, 104, 105, 106, 107, 108, 109, 110, 111, 112, 113, 114, 115, 116, 117, 118, 119, 120, 121, 122, 48, 49, 50, 51, 52, 53, 54, 55, 56, 57]), .str [97, 98, 99, 100, 101, 102, 103, 104, 105, 106, 107, 108, 109, 110, 111, 112, 113, 114, 115, 116, 117, 118, 119, 120, 121, 122, 48, 49, 50, 51, 52, 53, 54, 55, 56, 57], e, ⟨t, rfl⟩, rfl, fun _ _ _ => by simp only [Rep], by decide +kernel⟩
  | 2, hx => by
    obtain rfl : ("LONGEST" : Str) = x := Option.some.inj hx
    obtain ⟨t, e⟩ := He.int_ok X g (sfact c (f := .int "LONGEST" 12) (List.mem_append_right _ (List.mem_append_right _ (List.mem_of_getElem? (i := 2) rfl))))
    exact ⟨_, .int 12, .int 12, e, ⟨t, rfl⟩, rfl, fun _ _ _ => by simp only [Rep], by decide +kernel⟩
  | 3, hx => by
    obtain rfl : ("MANY" : Str) = x := Option.some.inj hx
    obtain ⟨t, e⟩ := He.int_ok X g (sfact c (f := .int "MANY" 24) (List.mem_append_right _ (List.mem_append_right _ (List.mem_of_getElem? (i := 3) rfl))))
    exact ⟨_, .int 24, .int 24, e, ⟨t, rfl⟩, rfl, fun _ _ _ => by simp only [Rep], by decide +kernel⟩
  | 4, hx => by
    obtain rfl : ("WORDS" : Str) = x := Option.some.inj hx
    obtain ⟨t, e⟩ := He.int_ok X g (sfact c (f := .int "WORDS" 40) (List.mem_append_right _ (List.mem_append_right _ (List.mem_of_getElem? (i := 4) rfl))))
    exact ⟨_, .int 40, .int 40, e, ⟨t, rfl⟩, rfl, fun _ _ _ => by simp only [Rep], by decide +kernel⟩
  | 5, hx => by
    obtain rfl : ("WITNESSES" : Str) = x := Option.some.inj hx
    obtain ⟨t, e⟩ := He.int_ok X g (sfact c (f := .int "WITNESSES" 16) (List.mem_append_right _ (List.mem_append_right _ (List.mem_of_getElem? (i := 5) rfl))))
    exact ⟨_, .int 16, .int 16, e, ⟨t, rfl⟩, rfl, fun _ _ _ => by simp only [Rep], by decide +kernel⟩
  | 6, hx => by
    obtain rfl : ("GROUPS" : Str) = x := Option.some.inj hx
    obtain ⟨t, e⟩ := He.int_ok X g (sfact c (f := .int "GROUPS" 8) (List.mem_append_right _ (List.mem_append_right _ (List.mem_of_getElem? (i := 6) rfl))))
    exact ⟨_, .int 8, .int 8, e, ⟨t, rfl⟩, rfl, fun _ _ _ => by simp only [Rep], by decide +kernel⟩
  | 7, hx => by
    obtain rfl : ("PAGES" : Str) = x := Option.some.inj hx
    obtain ⟨t, e⟩ := He.int_ok X g (sfact c (f := .int "PAGES" 60) (List.mem_append_right _ (List.mem_append_right _ (List.mem_of_getElem? (i := 7) rfl))))
    exact ⟨_, .int 60, .int 60, e, ⟨t, rfl⟩, rfl, fun _ _ _ => by simp only [Rep], by decide +kernel⟩
  | 8, hx => by
    obtain rfl : ("TRAITS" : Str) = x := Option.some.inj hx
    obtain ⟨t, e⟩ := He.int_ok X g (sfact c (f := .int "TRAITS" 6) (List.mem_append_right _ (List.mem_append_right _ (List.mem_of_getElem? (i := 8) rfl))))
    exact ⟨_, .int 6, .int 6, e, ⟨t, rfl⟩, rfl, fun _ _ _ => by simp only [Rep], by decide +kernel⟩
  | i + 9, hx => by
    have hx : (none : Option Str) = some x := hx
    cases hx
theorem txt_of (X : K.In h) (g : h.Ns mainGlobals mg) (c : He.SaysD faL fnL K) : Txt PR w K mg base (gi K) prg fnL slots gln bnL where
  hK := rfl
  kt := fun _ hd => by cases hd
  fit := fitAll_ok fit_all
  lenP := by decide +kernel
  lenN := by decide +kernel
  fns := fun i d hd => by
    obtain ⟨fd, h1, h2, h3, h4, _⟩ := fns_of X g c i d hd
    exact ⟨fd, h1, h2, h3, h4⟩
  glo := glo_of X g c
  blt := fun x hx => He.free_ok X g (sfact c (List.mem_append_right _ (List.mem_append_left _ (List.mem_map_of_mem hx))))
end
theorem nm_law : (HandSHeadRun.topDef RW.prog 67).name = ("law" : Str) := by kernel_rfl
theorem law_end : PySem.W.WalkO (PySem.W.view RW.prog [67]) looseL (PySem.W.XL (PySem.W.view RW.prog [67]) []) hkL.says RW.toRowW (HandSHeadRun.topDef RW.prog 67) [] (fun f vs => PySem.call f vs) := by
  refine Att.attach_call (l := PySem.Challenge.rw_quires_k99_whole_notes_and_hands) (n := 63) rfl (by kernel_rfl) fun w s₀ s₁ mg mb fa o pm cd doc a vs ns Gr Y ho hdt hcd hmg hobj hints hlen hg => ?_
  obtain ⟨K, KX, c⟩ := Y
  have hd : fnL[47]? = some (dfD "law" 67) := rfl
  obtain ⟨fd, h1, h2, h3, h4, h5⟩ := fns_of KX Gr.T.g c 47 _ hd
  have hfa : fa = (gi K).fa 47 := by
    rw [nm_law] at hmg
    have q : (some (.ref fa) : Option Value) = some (.ref ((gi K).fa 47)) := hmg.symm.trans h3
    cases q
    rfl
  subst hfa
  have hps : psOf (dfD "law" 67) = ([("script" : Str)] : List Str) := by kernel_rfl
  have hz : 63 ≤ sizeLine := by decide
  refine L2.law_call (P := PySem.Challenge.rw_quires_k99_whole_notes_and_hands.prog) (CX := L2.CX PySem.Challenge.rw_quires_k99_whole_notes_and_hands.prog w) (k := 6) (fd := fd) (x := "script") (sp := spF (gi K) prg 6 47) KX Gr.T.g Gr.T.b Gr.T.builtins Gr.T.nolimit hg hobj hints (Nat.le_trans hlen hz) ⟨rfl, by decide, by decide⟩ (fun base _ _ => ?_) (fun s u => ?_) (fun H hO hS => law_sp hO hS (law_plain (n := 0) ns hlen)) fun H e s' hC => ?_
  · have := all_fns (txt_of (PR := PySem.Challenge.rw_quires_k99_whole_notes_and_hands.prog) (w := w) (base := base) KX Gr.T.g c) 6 47 _ fd hd h1
    rw [hps] at this
    exact this
  · have := h5 s [u] (by rw [hps]; rfl)
    rw [hps] at this
    exact this
  · obtain ⟨_, _, _, _, _, _, _, _, _, _, _, _, q⟩ := hC
    exact q
end K99
end QF
open PySem PySem.W PySem.Calls PyProof.Rows
theorem PySem.Challenge.cw_quires_k99_whole_notes_and_hands_holds : PySem.Challenge.rw_quires_k99_whole_notes_and_hands.Holds := by
  w_on; o_law
  refine HandSHeadRun.head_any (r := QF.K99.RW) (q := view QF.K99.RW.prog [67]) (H := QF.K99.hkL) (ob := QF.K99.obL) (M := 6000) (loose := QF.K99.looseL) (d := HandSHeadRun.topDef QF.K99.RW.prog 67) (kwd := []) QF.K99.obL_eq
    (by kernel_rfl) (fun s => by kernel_rfl) QF.K99.runL (by kernel_rfl) (by kernel_rfl) (by kernel_rfl) (by rfl) (by first | assumption | decide +kernel) (by decide +kernel) ⟨rfl, rfl, rfl, rfl, rfl, by decide +kernel⟩ ?hw QF.K99.law_end
  case hw => w_witness2
