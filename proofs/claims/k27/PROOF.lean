import PyProof.Rows.All
import Wide.All
import OpenK.AllK
import Wide.FinOn
import HandS.List
import HandS.Dict
import HandS.ForMost
import HandS.ForExc
import HandS.Defaults
import HandS.CallSlots
import HandS.Flow
import HandS.TryMany
import HandS.ExcInit
import HandS.ExcSuper
import HandS.ExcField
import HandS.Wide
import HandS.TupAny
import HandS.TupMul
import HandS.SortInts
import HandS.IsInst
import HandS.Deep
import HandS.FStr
import HandS.Zip
import HandS.Walk
import HandS.NoneIn
import HandS.Style
import KE.SortData
import PyProof.TupleOfSeq
import HandS.SetFor
import HandS.Strs
import HandS.TupLen
import HandS.Conv
import HandS.WideBits
import KE.GoesNew
import HandS.Small
import KE.KExcSuper
import HandS.Nested
import HandS.Codes
import PyProof.FitsInt
import HandS.Head0
import HandS.Head1
import HandS.Head2
import HandS.HeadEnd
import HandS.HeadHook1
import HandS.HeadHook2
import PySem.Challenge.RW_designproof_k27_whole_tables_of_pairs
section
set_option Elab.async false
set_option linter.all false
set_option maxRecDepth 100000
/-! MP: a small language of one's own with plain values; its meaning as total functions. -/
namespace MP
open PySem
/-- frozen data -/
inductive A where
  | non | bl (b : Bool) | int (i : Int) | str (s : Str)
  | tup (xs : List A) | lst (xs : List A) | ob (c : Nat) (xs : List A) | scr (xs : List Int)
  deriving Inhabited
/-- a value: data, a mutable object of the small heap, a frozen list of such -/
inductive D where
  | a (x : A) | ref (n : Nat) | nst (ns : List Nat)
  deriving Inhabited
/-- a key of a dict -/
abbrev Key := Sum Int Str
/-- a mutable object -/
inductive MO where
  | lst (xs : List A) | dk (kvs : List (Key × A)) | dt (kvs : List (List Key × A)) | ins (c : Nat) (fs : List D) | gone
  deriving Inhabited
abbrev Mem := List MO
abbrev Env := List (Option D)
/-- what an expression comes to -/
inductive R (α : Type) where
  | ok (a : α) (h : Mem) | exc (c : Nat) (x : A) (h : Mem) | err
def R.bind {α β : Type} (r : R α) (f : α → Mem → R β) : R β := match r with
  | .ok a h => f a h
  | .exc c x h => .exc c x h
  | .err => .err
/-- built-in functions -/
inductive Bi where
  | len | abs | min2 | max2 | minL | maxL | sum | sorted | toList | toTuple | int1 | all | any | lenSet | sortedSet | str1
  deriving DecidableEq, Inhabited
/-- methods of built-in types -/
inductive Bm where
  | append | extend | pop | popAt | index | count | remove | get1 | get2 | bits
  deriving DecidableEq, Inhabited
/-- a class that isinstance asks -/
inductive Ty where
  | int | bool | str | list | tuple | own (c : Nat)
  deriving DecidableEq, Inhabited
/-- targets of a store -/
inductive Tg where
  | nm (i : Nat) | tp (is : List Nat)
  deriving DecidableEq, Inhabited
mutual
inductive E where
  | cst (x : A) | var (i : Nat) | glb (x : Str) (v : A)
  | bin (m : Bool) (o : Operator) (a b : E) | neg (a : E) | not (a : E) | and (a b : E) | or (a b : E)
  | cmp (o : CmpOp) (a b : E) | chn (a : E) (ops : List CmpOp) (es : List E)
  | ite (c a b : E) | idx (a i : E) | slc (m : Bool) (a : E) (lo hi : Option E) | rev (m : Bool) (a : E)
  | tup (es : List E) | lst (m : Bool) (es : List E) | dnew (t : Bool)
  | lc (m : Bool) (elt : E) (t : Tg) (it : It) (ifs : Option E) (own : List Nat)
  | lc2 (elt : E) (t : Tg) (it : It) (ifs : Option E) (t1 : Tg) (it1 : It) (ifs1 : Option E) (own own1 : List Nat)
  | call (f : Nat) (es : List E) | new (c : Nat) (es : List E) | meth (m : Str) (o : E) (es : List E)
  | fld (f : Str) (o : E) | bi (m : Bool) (b : Bi) (es : List E) | bm (b : Bm) (o : E) (es : List E)
  | isi (e : E) (ts : List Ty) | lrg1 (m t : Bool) (a : E) | lrg2 (m t : Bool) (a b : E)
inductive It where
  | seq (e : E) | rng1 (a : E) | rng2 (a b : E) | rng3 (a b c : E) | enu (e : E) | zip (a b : E)
end
inductive S where
  | skip | seq (a b : S) | asg (t : Tg) (e : E) | par (is : List Nat) (es : List E) | setIx (o i e : E) | setFld (o : E) (f : Str) (e : E) | expr (e : E)
  | ite (c : E) (a b : S) | for_ (t : Tg) (it : It) (b : S) (rst : List Nat) | while_ (c : E) (b : S) (rst : List Nat)
  | ret (e : E) | retN | raise (c : Nat) (e : E) | try_ (b : S) (hs : List (List Bool × Option Nat × S)) | brk | cnt | frz (is : List Nat)
instance : Inhabited E := ⟨.cst .non⟩
instance : Inhabited It := ⟨.seq (.cst .non)⟩
instance : Inhabited S := ⟨.skip⟩
/-! ### operations on data -/
mutual
/-- as the library's own data, where there are no instances -/
def A.toP : A → Option PyData
  | .non => some .none
  | .bl b => some (.bool b)
  | .int i => some (.int i)
  | .str s => some (.str s)
  | .tup xs => (A.toPs xs).map .tuple
  | .lst xs => (A.toPs xs).map .list
  | .ob _ _ => none
  | .scr _ => none
def A.toPs : List A → Option (List PyData)
  | [] => some []
  | x :: xs => match A.toP x, A.toPs xs with
    | some d, some ds => some (d :: ds)
    | _, _ => none
end
mutual
/-- == of Python -/
def A.eqv : A → A → Bool
  | .non, .non => true
  | .bl a, .bl b => a == b
  | .int a, .int b => decide (a = b)
  | .bl a, .int b => decide ((if a then 1 else 0 : Int) = b)
  | .int a, .bl b => decide (a = (if b then 1 else 0 : Int))
  | .str a, .str b => decide (a = b)
  | .tup xs, .tup ys => A.eqvs xs ys
  | .lst xs, .lst ys => A.eqvs xs ys
  | _, _ => false
def A.eqvs : List A → List A → Bool
  | [], [] => true
  | x :: xs, y :: ys => A.eqv x y && A.eqvs xs ys
  | _, _ => false
end
mutual
/-- nested at most so deep -/
def A.low : A → Nat → Bool
  | .tup xs, n => match n with
    | 0 => false
    | m + 1 => A.lows xs m
  | .lst xs, n => match n with
    | 0 => false
    | m + 1 => A.lows xs m
  | .ob _ _, _ => false
  | .scr _, _ => false
  | _, _ => true
def A.lows : List A → Nat → Bool
  | [], _ => true
  | x :: xs, n => A.low x n && A.lows xs n
end
def A.lowB (x : A) : Bool := A.low x 50
/-- the content of a list that a value stands for -/
def D.rd (h : Mem) : D → Option A
  | .a x => some x
  | .ref n => match h[n]? with
    | some (.lst xs) => some (.lst xs)
    | _ => none
  | .nst _ => none
/-- the items of a list or tuple -/
def A.items : A → Option (List A)
  | .tup xs => some xs
  | .lst xs => some xs
  | .scr xs => some (xs.map .int)
  | _ => none
def D.items (h : Mem) (d : D) : Option (List A) := (d.rd h).bind A.items
/-- the items of a list -/
def D.litems (h : Mem) (d : D) : Option (List A) := (d.rd h).bind fun x => match x with
  | .lst xs => some xs
  | _ => none
/-- .. of a tuple -/
def D.titems (h : Mem) (d : D) : Option (List A) := (d.rd h).bind fun x => match x with
  | .tup xs => some xs
  | _ => none
/-- .. as values -/
def D.its (h : Mem) : D → Option (List D)
  | .nst ns => some (ns.map .ref)
  | d => (d.items h).map (·.map .a)
def D.toAs : List D → Option (List A)
  | [] => some []
  | .a x :: r => match D.toAs r with
    | some xs => some (x :: xs)
    | none => none
  | _ :: _ => none
def D.toNs : List D → Option (List Nat)
  | [] => some []
  | .ref n :: r => match D.toNs r with
    | some xs => some (n :: xs)
    | none => none
  | _ :: _ => none
/-- truth -/
def D.tru (h : Mem) (d : D) : Option Bool := match d with
  | .a .non => some false
  | .a (.bl b) => some b
  | .a (.int i) => some (decide (i ≠ 0))
  | .a (.str s) => some (decide (s.length ≠ 0))
  | .a (.tup xs) => some (!xs.isEmpty)
  | .a (.lst xs) => some (!xs.isEmpty)
  | .a (.ob _ _) => none
  | .a (.scr _) => none
  | .ref n => match h[n]? with
    | some (.lst xs) => some (!xs.isEmpty)
    | some (.dk kvs) => some (!kvs.isEmpty)
    | _ => none
  | .nst ns => some (!ns.isEmpty)
def mulOk (i j : Int) : Bool := (decide (-18446744073709551616 < i) && decide (i < 18446744073709551616)) || (decide (-18446744073709551616 < j) && decide (j < 18446744073709551616)) || decide (i.natAbs.log2 + j.natAbs.log2 < 1000000)
def bin (o : Operator) (x y : A) : Option A := match o, x, y with
  | .Add, .int i, .int j => some (.int (i + j))
  | .Sub, .int i, .int j => some (.int (i - j))
  | .Mult, .int i, .int j => if mulOk i j then some (.int (i * j)) else none
  | .FloorDiv, .int i, .int j => if 0 < j && decide (j < 1073741824) then some (.int (i / j)) else if j != 0 && decide (j.natAbs < 1073741824) then some (.int (i.fdiv j)) else none
  | .Mod, .int i, .int j => if 0 < j then some (.int (i % j)) else if j != 0 then some (.int (i.fmod j)) else none
  | .Pow, .int i, .int j => if decide (0 ≤ j) && decide (j ≤ 1000000) && decide (i.natAbs < 18446744073709551616) then some (.int (i ^ j.toNat)) else none
  | .Add, .str s, .str t => if s.length + t.length ≤ sizeLine then some (.str (s ++ t)) else none
  | .Add, .lst xs, .lst ys => if xs.length + ys.length ≤ sizeLine then some (.lst (xs ++ ys)) else none
  | .Add, .tup xs, .tup ys => if xs.length + ys.length ≤ sizeLine then some (.tup (xs ++ ys)) else none
  | .Mult, .lst xs, .int k => if decide (-9223372036854775808 ≤ k) && decide (k < 9223372036854775808) && decide (xs.length * k.toNat ≤ sizeLine) then some (.lst (List.replicate k.toNat xs).flatten) else none
  | .Mult, .tup xs, .int k => if (decide (k = 1) || xs.isEmpty) && decide (-9223372036854775808 ≤ k) && decide (k < 9223372036854775808) then some (.tup xs) else if decide (2 ≤ k) && decide (k ≤ 1000) && decide (xs.length ≤ 1000) && !xs.isEmpty then some (.tup (List.replicate k.toNat xs).flatten) else none
  | _, _, _ => none
/-- not an operation on lists: == of Python's data -/
def eqA (x y : A) : Option Bool := if A.lowB x && A.lowB y then some (A.eqv x y) else none
def key? : A → Option Key
  | .int i => some (.inl i)
  | .str s => some (.inr s)
  | _ => none
def keys? : List A → Option (List Key)
  | [] => some []
  | x :: xs => match key? x, keys? xs with
    | some k, some ks => some (k :: ks)
    | _, _ => none
def tkey? : A → Option (List Key)
  | .tup xs => keys? xs
  | _ => none
section
variable {κ β : Type} [DecidableEq κ]
def dget (kvs : List (κ × β)) (k : κ) : Option β := (kvs.find? fun kv => decide (kv.1 = k)).map (·.2)
def dput (kvs : List (κ × β)) (k : κ) (v : β) : List (κ × β) := if (kvs.any fun kv => decide (kv.1 = k)) = true then kvs.map (fun kv => if kv.1 = k then (kv.1, v) else kv) else kvs ++ [(k, v)]
end
def inA (x : A) : List A → Bool
  | [] => false
  | y :: ys => A.eqv y x || inA x ys
def inD (h : Mem) (x : D) (y : D) : Option Bool := match x with
  | .a x => (match y with
    | .ref n => (match h[n]? with
      | some (.lst ys) => if A.lowB x && A.lows ys 50 then some (inA x ys) else none
      | some (.dk kvs) => (key? x).map fun k => (dget kvs k).isSome
      | some (.dt kvs) => (tkey? x).map fun k => (dget kvs k).isSome
      | _ => none)
    | .a (.lst ys) => if A.lowB x && A.lows ys 50 then some (inA x ys) else none
    | .a (.tup ys) => if A.lowB x && A.lows ys 50 then some (inA x ys) else none
    | _ => none)
  | _ => none
def cmp (o : CmpOp) (h : Mem) (x y : D) : Option Bool := match o with
  | .Eq => (x.rd h).bind fun a => (y.rd h).bind fun b => eqA a b
  | .NotEq => (x.rd h).bind fun a => (y.rd h).bind fun b => (eqA a b).map (!·)
  | .Lt => match x, y with
    | .a (.int i), .a (.int j) => some (decide (i < j))
    | _, _ => none
  | .LtE => match x, y with
    | .a (.int i), .a (.int j) => some (decide (i ≤ j))
    | _, _ => none
  | .Gt => match x, y with
    | .a (.int i), .a (.int j) => some (decide (j < i))
    | _, _ => none
  | .GtE => match x, y with
    | .a (.int i), .a (.int j) => some (decide (j ≤ i))
    | _, _ => none
  | .Is => match x, y with
    | .a .non, .a .non => some true
    | _, .a .non => some false
    | _, _ => none
  | .IsNot => match x, y with
    | .a .non, .a .non => some false
    | _, .a .non => some true
    | _, _ => none
  | .In => inD h x y
  | .NotIn => (inD h x y).map (!·)
def idxN (n : Nat) (i : Int) : Option Nat := L2.ixN n i
def idx (h : Mem) (x i : D) : Option D := match x, i with
  | .a (.tup xs), .a (.int i) => (idxN xs.length i).bind fun j => (xs[j]?).map .a
  | .a (.lst xs), .a (.int i) => (idxN xs.length i).bind fun j => (xs[j]?).map .a
  | .nst ns, .a (.int i) => (idxN ns.length i).bind fun j => (ns[j]?).map .ref
  | .ref n, .a i => match h[n]? with
    | some (.lst xs) => (match i with
      | .int i => (idxN xs.length i).bind fun j => (xs[j]?).map .a
      | _ => none)
    | some (.dk kvs) => (key? i).bind fun k => (dget kvs k).map .a
    | some (.dt kvs) => (tkey? i).bind fun k => (dget kvs k).map .a
    | _ => none
  | _, _ => none
def cut {α : Type} (xs : List α) (lo hi : Option Int) : List α := (xs.drop (HT.sIx xs.length 0 lo)).take (HT.sIx xs.length xs.length hi - HT.sIx xs.length 0 lo)
def slc (h : Mem) (x : D) (lo hi : Option Int) : Option A := (x.rd h).bind fun a => match a with
  | .tup xs => some (.tup (cut xs lo hi))
  | .lst xs => some (.lst (cut xs lo hi))
  | _ => none
/-- insertion into an ascending list -/
def insI (i : Int) : List Int → List Int
  | [] => [i]
  | j :: r => if i ≤ j then i :: j :: r else j :: insI i r
def sortI : List Int → List Int
  | [] => []
  | i :: r => insI i (sortI r)
mutual
/-- < of data that are alike -/
def A.lt : A → A → Bool
  | .int i, .int j => decide (i < j)
  | .bl a, .bl b => !a && b
  | .str s, .str t => decide (s.cps.toList < t.cps.toList)
  | .tup xs, .tup ys => A.lts xs ys
  | .lst xs, .lst ys => A.lts xs ys
  | _, _ => false
def A.lts : List A → List A → Bool
  | [], ys => !ys.isEmpty
  | x :: xs, ys => match ys with
    | [] => false
    | y :: ys => if A.eqv x y then A.lts xs ys else A.lt x y
end
mutual
/-- may be compared, place by place -/
def A.alike : A → A → Bool
  | .non, .non => true
  | .bl _, .bl _ => true
  | .int _, .int _ => true
  | .str _, .str _ => true
  | .tup xs, .tup ys => A.alikes xs ys
  | .lst xs, .lst ys => A.alikes xs ys
  | _, _ => false
def A.alikes : List A → List A → Bool
  | [], _ => true
  | x :: xs, ys => match ys with
    | [] => true
    | y :: ys => A.alike x y && A.alikes xs ys
end
def insA (x : A) : List A → List A
  | [] => [x]
  | y :: r => if A.lt y x then y :: insA x r else x :: y :: r
def sortA : List A → List A
  | [] => []
  | x :: r => insA x (sortA r)
def A.isTup1 : A → Bool
  | .tup (_ :: _) => true
  | _ => false
def A.noTup : A → Bool
  | .tup _ => false
  | .non => false
  | _ => true
def sortOk (xs : List A) : Bool := (xs.all fun x => xs.all fun y => A.alike x y) && A.lows xs 50 && (xs.all A.isTup1 || xs.all A.noTup)
def ints? : List A → Option (List Int)
  | [] => some []
  | .int i :: r => match ints? r with
    | some is => some (i :: is)
    | none => none
  | _ :: _ => none
def bools? : List A → Option (List Bool)
  | [] => some []
  | .bl i :: r => match bools? r with
    | some is => some (i :: is)
    | none => none
  | _ :: _ => none
def dedI : List Int → List Int
  | [] => []
  | i :: r => if r.contains i then dedI r else i :: dedI r
def listMin : List Int → Option Int
  | [] => none
  | i :: r => some (r.foldl (fun a b => if b < a then b else a) i)
def listMax : List Int → Option Int
  | [] => none
  | i :: r => some (r.foldl (fun a b => if b > a then b else a) i)
def bi (b : Bi) (h : Mem) (ds : List D) : Option A := match b, ds with
  | .len, [.ref n] => (match h[n]? with
    | some (.lst xs) => some (.int xs.length)
    | some (.dk kvs) => some (.int kvs.length)
    | some (.dt kvs) => some (.int kvs.length)
    | _ => none)
  | .len, [.a (.str s)] => if s.length ≤ sizeLine then some (.int s.length) else none
  | .len, [.nst ns] => some (.int ns.length)
  | .len, [d] => (d.items h).map fun xs => .int xs.length
  | .abs, [.a (.int i)] => some (.int (if i < 0 then -i else i))
  | .min2, [.a (.int i), .a (.int j)] => some (.int (if j < i then j else i))
  | .max2, [.a (.int i), .a (.int j)] => some (.int (if j > i then j else i))
  | .minL, [d] => (d.litems h).bind fun xs => (ints? xs).bind fun is => (listMin is).map .int
  | .maxL, [d] => (d.litems h).bind fun xs => (ints? xs).bind fun is => (listMax is).map .int
  | .sum, [d] => (d.items h).bind fun xs => (ints? xs).map fun is => .int is.sum
  | .sorted, [d] => (d.items h).bind fun xs => match ints? xs with
    | some is => some (.lst ((sortI is).map .int))
    | none => if sortOk xs then some (.lst (sortA xs)) else none
  | .toList, [d] => (d.items h).map .lst
  | .toTuple, [d] => (d.items h).map .tup
  | .int1, [.a (.int i)] => some (.int i)
  | .int1, [.a (.bl b)] => some (.int (if b then 1 else 0))
  | .all, [d] => (d.litems h).bind fun xs => (bools? xs).map fun bs => .bl (bs.all id)
  | .any, [d] => (d.litems h).bind fun xs => (bools? xs).map fun bs => .bl (bs.any id)
  | .lenSet, [d] => (d.items h).bind fun xs => (ints? xs).bind fun is => if is.length < 4000 then some (.int (dedI is).length) else none
  | .sortedSet, [d] => (d.titems h).bind fun xs => (ints? xs).bind fun is => if is.length < 64 then some (.lst ((sortI (dedI is)).map .int)) else none
  | _, _ => none
/-- is an instance -/
def tyOf : Ty → A → Bool
  | .int, .int _ => true
  | .int, .bl _ => true
  | .bool, .bl _ => true
  | .str, .str _ => true
  | .list, .lst _ => true
  | .tuple, .tup _ => true
  | .own c, .ob c' _ => decide (c = c')
  | _, _ => false
def isi (h : Mem) (d : D) (ts : List Ty) : Option Bool := (d.rd h).bind fun x => match x with
  | .ob _ _ => none
  | .scr _ => none
  | x => some (ts.any fun t => tyOf t x)
/-! ### the meaning -/
/-- behind a statement -/
inductive X where
  | nx (e : Env) (h : Mem) | ret (d : D) (h : Mem) | brk (e : Env) (h : Mem) | cnt (e : Env) (h : Mem) | exc (c : Nat) (x : A) (e : Env) (h : Mem) | err
structure FnI where
  ns : Nat
  np : Nat
  body : S
  deriving Inhabited
structure ClI where
  init : Nat
  frz : Bool
  fields : List Str
  meths : List (Str × Nat)
  deriving Inhabited
structure Prg where
  fns : List FnI
  cls : List ClI
  deriving Inhabited
/-- what a body calls -/
structure Ctx where
  G : Prg
  run : Nat → List D → Mem → Nat → X
def fin (n : Nat) : X → R D
  | .nx _ h => .ok (.a .non) (h.take n)
  | .ret (.a x) h => .ok (.a x) (h.take n)
  | .ret d h => .ok d h
  | .exc c x _ h => .exc c x (h.take n)
  | _ => .err
def Ctx.call (C : Ctx) (f : Nat) (ds : List D) (h : Mem) : R D := fin h.length (C.run f ds h h.length)
def finN (n c : Nat) (frz : Bool) : X → R D
  | .nx _ h => if frz then (match h[n]? with
      | some (.ins _ fs) => (match D.toAs fs with
        | some xs => .ok (.a (.ob c xs)) (h.take n)
        | none => .err)
      | _ => .err) else .ok (.ref n) h
  | .exc c x _ h => .exc c x (h.take n)
  | _ => .err
def Ctx.new (C : Ctx) (c : Nat) (ds : List D) (h : Mem) : R D := match C.G.cls[c]? with
  | some ci => finN h.length c ci.frz (C.run ci.init (.ref h.length :: ds) (h ++ [.ins c []]) h.length)
  | none => .err
def Prg.field (G : Prg) (c : Nat) (f : Str) : Option Nat := match G.cls[c]? with
  | some ci => ci.fields.findIdx? fun g => decide (g = f)
  | none => none
def Prg.methd (G : Prg) (c : Nat) (m : Str) : Option Nat := match G.cls[c]? with
  | some ci => (ci.meths.find? fun g => decide (g.1 = m)).map (·.2)
  | none => none
/-- the class of an instance -/
def D.clsOf (h : Mem) : D → Option Nat
  | .a (.ob c _) => some c
  | .ref n => (match h[n]? with
    | some (.ins c _) => some c
    | _ => none)
  | _ => none
def fld (G : Prg) (f : Str) (h : Mem) : D → Option D
  | .a (.ob c xs) => (G.field c f).bind fun k => (xs[k]?).map .a
  | .ref n => (match h[n]? with
    | some (.ins c fs) => (G.field c f).bind fun k => fs[k]?
    | _ => none)
  | _ => none
def ofO {α : Type} (o : Option α) (h : Mem) : R α := match o with
  | some a => .ok a h
  | none => .err
def setTg : Tg → D → Mem → Env → Option Env
  | .nm i, d, _, env => some (env.set i (some d))
  | .tp is, d, h, env => (d.items h).bind fun xs => if xs.length = is.length then some ((is.zip xs).foldl (fun e p => e.set p.1 (some (.a p.2))) env) else none
def rstE (rst : List Nat) (env : Env) : Env := rst.foldl (fun e i => e.set i none) env
def rngL (lo : Int) (n : Nat) : List D := (List.range n).map fun (k : Nat) => .a (.int (lo + k))
def rngC (lo c : Int) (n : Nat) : List D := (List.range n).map fun (k : Nat) => .a (.int (lo + k * c))
def rngOk (i : Int) : Bool := decide (-4611686018427387904 ≤ i) && decide (i < 4611686018427387904)
/-- no exception may come -/
def R.calm {α : Type} : R α → R α
  | .exc _ _ _ => .err
  | r => r
/-- a comprehension's items, the element first to last -/
def lcD (step : D → Mem → R (List D)) : List D → Mem → R (List D)
  | [], h => .ok [] h
  | x :: xs, h => (step x h).bind fun d h => (lcD step xs h).bind fun ds h => .ok (d ++ ds) h
/-- a new list -/
def mkL (m : Bool) (ds : List D) (h : Mem) : R D := if ds.length ≤ sizeLine then (match D.toAs ds with
    | some xs => if m then .ok (.ref h.length) (h ++ [.lst xs]) else .ok (.a (.lst xs)) h
    | none => if m then .err else (match D.toNs ds with
      | some ns => .ok (.nst ns) h
      | none => .err)) else .err
/-- the items of a frozen list or tuple -/
def D.fzn : D → Option (List A)
  | .a (.lst xs) => some xs
  | .a (.tup xs) => some xs
  | _ => none
/-- the receiver is of the method's type -/
def bmPre (b : Bm) (h : Mem) (o : D) : Bool := match b with
  | .append => (match o with
    | .ref n => (match h[n]? with
      | some (.lst _) => true
      | _ => false)
    | _ => false)
  | .extend => (match o with
    | .ref n => (match h[n]? with
      | some (.lst _) => true
      | _ => false)
    | _ => false)
  | .index => o.fzn.isSome
  | .count => o.fzn.isSome
  | .bits => (match o with
    | .a (.int _) => true
    | _ => false)
  | _ => true
def bm (b : Bm) (h : Mem) (o : D) (ds : List D) : R D := match b, o, ds with
  | .append, .ref n, [.a x] => (match h[n]? with
    | some (.lst xs) => if xs.length < sizeLine then .ok (.a .non) (h.set n (.lst (xs ++ [x]))) else .err
    | _ => .err)
  | .extend, .ref n, [d] => (match h[n]? with
    | some (.lst xs) => (match d.litems h with
      | some ys => if xs.length + ys.length ≤ sizeLine then .ok (.a .non) (h.set n (.lst (xs ++ ys))) else .err
      | none => .err)
    | _ => .err)
  | .pop, .ref n, [] => (match h[n]? with
    | some (.lst xs) => (match xs.getLast? with
      | some x => .ok (.a x) (h.set n (.lst xs.dropLast))
      | none => .err)
    | _ => .err)
  | .index, d, [.a x] => (match d.fzn with
    | some xs => if A.lowB x && A.lows xs 50 then (match xs.findIdx? fun y => A.eqv y x with
      | some k => .ok (.a (.int k)) h
      | none => .err) else .err
    | none => .err)
  | .count, d, [.a x] => (match d.fzn with
    | some xs => if A.lowB x && A.lows xs 50 then .ok (.a (.int (xs.filter fun y => A.eqv y x).length)) h else .err
    | none => .err)
  | .bits, .a (.int i), [] => .ok (.a (.int (Builtin.Int.intBits i : Nat))) h
  | .get1, .ref n, [.a k] => (match h[n]? with
    | some (.dk kvs) => ofO ((key? k).map fun k => D.a ((dget kvs k).getD .non)) h
    | some (.dt kvs) => ofO ((tkey? k).map fun k => D.a ((dget kvs k).getD .non)) h
    | _ => .err)
  | .get2, .ref n, [.a k, .a z] => (match h[n]? with
    | some (.dk kvs) => ofO ((key? k).map fun k => D.a ((dget kvs k).getD z)) h
    | some (.dt kvs) => ofO ((tkey? k).map fun k => D.a ((dget kvs k).getD z)) h
    | _ => .err)
  | _, _, _ => .err
/-- a new list is one's own -/
def cel (m : Bool) (x : A) (h : Mem) : R D := if m then (match x with
    | .lst xs => .ok (.ref h.length) (h ++ [.lst xs])
    | _ => .err) else .ok (.a x) h
/-- o[i] = v -/
def setIx (h : Mem) (o i v : D) : Option Mem := match o, i, v with
  | .ref n, .a i, .a v => (match h[n]? with
    | some (.lst xs) => (match i with
      | .int i => (idxN xs.length i).map fun j => h.set n (.lst (xs.set j v))
      | _ => none)
    | some (.dk kvs) => (key? i).bind fun k => if kvs.length < sizeLine then some (h.set n (.dk (dput kvs k v))) else none
    | some (.dt kvs) => (tkey? i).bind fun k => if kvs.length < sizeLine then some (h.set n (.dt (dput kvs k v))) else none
    | _ => none)
  | _, _, _ => none
def refOk (base n : Nat) : D → Bool
  | .a _ => true
  | .ref m => decide (m < base) || decide (base ≤ n)
  | .nst _ => false
def setFld (G : Prg) (base : Nat) (h : Mem) (o : D) (f : Str) (v : D) : Option Mem := match o with
  | .ref n => (match h[n]? with
    | some (.ins c fs) => (G.field c f).bind fun k => if refOk base n v then (if k < fs.length then some (h.set n (.ins c (fs.set k v))) else if k = fs.length then some (h.set n (.ins c (fs ++ [v]))) else none) else none
    | _ => none)
  | _ => none
/-- truth of a result -/
def R.tru (r : R D) : R Bool := r.bind fun d h => ofO (D.tru h d) h
/-- list(range(i, j)), tuple(range(i, j)) -/
def lrg (m t : Bool) (i j : Int) (h : Mem) : R D := if rngOk i && rngOk j && decide ((j - i).toNat ≤ 16777216) then cel m (if t then .tup ((List.range (j - i).toNat).map fun (k : Nat) => .int (i + k)) else .lst ((List.range (j - i).toNat).map fun (k : Nat) => .int (i + k))) h else .err
mutual
def ev (C : Ctx) : E → Env → Mem → R D
  | .cst x, _, h => .ok (.a x) h
  | .var i, env, h => (match env[i]? with
    | some (some d) => .ok d h
    | _ => .err)
  | .glb _ v, _, h => .ok (.a v) h
  | .bin m o a b, env, h => (ev C a env h).bind fun x h => (ev C b env h).bind fun y h => match x.rd h, y.rd h with
    | some x, some y => (match bin o x y with
      | some z => cel m z h
      | none => .err)
    | _, _ => .err
  | .neg a, env, h => (ev C a env h).bind fun x h => match x with
    | .a (.int i) => .ok (.a (.int (-i))) h
    | _ => .err
  | .not a, env, h => (ev C a env h).tru.bind fun b h => .ok (.a (.bl (!b))) h
  | .and a b, env, h => (ev C a env h).bind fun x h => match D.tru h x with
    | some true => ev C b env h
    | some false => .ok x h
    | none => .err
  | .or a b, env, h => (ev C a env h).bind fun x h => match D.tru h x with
    | some false => ev C b env h
    | some true => .ok x h
    | none => .err
  | .cmp o a b, env, h => (ev C a env h).bind fun x h => (ev C b env h).bind fun y h => ofO ((cmp o h x y).map fun b => .a (.bl b)) h
  | .chn a os es, env, h => (ev C a env h).bind fun x h => evc C os es env x h
  | .ite c a b, env, h => (ev C c env h).tru.bind fun t h => if t then ev C a env h else ev C b env h
  | .idx a i, env, h => (ev C a env h).bind fun x h => (ev C i env h).bind fun i h => ofO (idx h x i) h
  | .slc m a lo hi, env, h => (ev C a env h).bind fun x h => (evo C lo env h).bind fun lo h => (evo C hi env h).bind fun hi h => match slc h x lo hi with
    | some z => cel m z h
    | none => .err
  | .rev m a, env, h => (ev C a env h).bind fun x h => match x.rd h with
    | some (.lst xs) => cel m (.lst xs.reverse) h
    | _ => .err
  | .tup es, env, h => (evs C es env h).bind fun ds h => if ds.length ≤ sizeLine then ofO ((D.toAs ds).map fun xs => .a (.tup xs)) h else .err
  | .lst m es, env, h => (evs C es env h).bind fun ds h => mkL m ds h
  | .dnew t, _, h => .ok (.ref h.length) (h ++ [if t then .dt [] else .dk []])
  | .lc m elt t it ifs own, env, h => (evIt C it env h).bind fun xs h => (lcD (fun x h => match setTg t x h (rstE own env) with
      | none => .err
      | some e => (evf C ifs e h).bind fun b h => if b then (ev C elt e h).bind fun d h => .ok [d] h else .ok [] h) xs h).calm.bind fun ds h => mkL m ds h
  | .lc2 elt t it ifs t1 it1 ifs1 own own1, env, h => (evIt C it env h).bind fun xs h => (lcD (fun x h => match setTg t x h (rstE own env) with
      | none => .err
      | some e => (evf C ifs e h).bind fun b h => if b then (evIt C it1 e h).bind fun ys h => lcD (fun y h => match setTg t1 y h (rstE own1 e) with
          | none => .err
          | some e => (evf C ifs1 e h).bind fun b h => if b then (ev C elt e h).bind fun d h => .ok [d] h else .ok [] h) ys h else .ok [] h) xs h).calm.bind fun ds h => mkL false ds h
  | .call f es, env, h => (evs C es env h).bind fun ds h => C.call f ds h
  | .new c es, env, h => (evs C es env h).bind fun ds h => C.new c ds h
  | .meth m o es, env, h => (ev C o env h).bind fun x h => match x.clsOf h with
    | none => .err
    | some c => (evs C es env h).bind fun ds h => match C.G.methd c m with
      | some f => C.call f (x :: ds) h
      | none => .err
  | .fld f o, env, h => (ev C o env h).bind fun x h => ofO (fld C.G f h x) h
  | .bi m b es, env, h => (evs C es env h).bind fun ds h => match bi b h ds with
    | some z => cel m z h
    | none => .err
  | .bm b o es, env, h => (ev C o env h).bind fun x h => if bmPre b h x then (evs C es env h).bind fun ds h => bm b h x ds else .err
  | .lrg1 m t a, env, h => (ev C a env h).bind fun x h => match x with
    | .a (.int j) => lrg m t 0 j h
    | _ => .err
  | .lrg2 m t a b, env, h => (ev C a env h).bind fun x h => (ev C b env h).bind fun y h => match x, y with
    | .a (.int i), .a (.int j) => lrg m t i j h
    | _, _ => .err
  | .isi e ts, env, h => (ev C e env h).bind fun x h => ofO ((isi h x ts).map fun b => .a (.bl b)) h
def evf (C : Ctx) : Option E → Env → Mem → R Bool
  | none, _, h => .ok true h
  | some c, env, h => (ev C c env h).tru
def evo (C : Ctx) : Option E → Env → Mem → R (Option Int)
  | none, _, h => .ok none h
  | some c, env, h => (ev C c env h).bind fun x h => match x with
    | .a (.int i) => .ok (some i) h
    | _ => .err
def evs (C : Ctx) : List E → Env → Mem → R (List D)
  | [], _, h => .ok [] h
  | e :: es, env, h => (ev C e env h).bind fun x h => (evs C es env h).bind fun xs h => .ok (x :: xs) h
/-- the rest of a chain -/
def evc (C : Ctx) (os : List CmpOp) : List E → Env → D → Mem → R D
  | [], _, _, h => .ok (.a (.bl true)) h
  | e :: es, env, x, h => match os with
    | [] => .err
    | o :: os => (ev C e env h).bind fun y h => match cmp o h x y with
      | some true => evc C os es env y h
      | some false => .ok (.a (.bl false)) h
      | none => .err
def evIt (C : Ctx) : It → Env → Mem → R (List D)
  | .seq e, env, h => (ev C e env h).bind fun x h => match x with
    | .ref _ => .err
    | x => ofO (x.its h) h
  | .rng1 a, env, h => (ev C a env h).bind fun x h => match x with
    | .a (.int n) => if rngOk n then .ok (rngL 0 n.toNat) h else .err
    | _ => .err
  | .rng2 a b, env, h => (ev C a env h).bind fun x h => (ev C b env h).bind fun y h => match x, y with
    | .a (.int i), .a (.int j) => if rngOk i && rngOk j then .ok (rngL i (j - i).toNat) h else .err
    | _, _ => .err
  | .rng3 a b c, env, h => (ev C a env h).bind fun x h => (ev C b env h).bind fun y h => (ev C c env h).bind fun z h => match x, y, z with
    | .a (.int i), .a (.int j), .a (.int c) => if c != 0 && decide (c.natAbs < 1073741824) && Builtin.Range.small i j c then .ok (rngC i c (Builtin.Range.rangeSize i j c).toNat) h else .err
    | _, _, _ => .err
  | .enu e, env, h => (ev C e env h).bind fun x h => match x with
    | .ref _ => .err
    | x => ofO ((x.items h).map fun xs => xs.zipIdx.map fun p => .a (.tup [.int p.2, p.1])) h
  | .zip a b, env, h => (ev C a env h).bind fun x h => (ev C b env h).bind fun y h => match x, y with
    | .ref _, _ => .err
    | _, .ref _ => .err
    | x, y => ofO ((x.items h).bind fun xs => (y.items h).map fun ys => (xs.zip ys).map fun p => .a (.tup [p.1, p.2])) h
end
/-! ### statements -/
def ofM (o : Option Mem) (env : Env) : X := match o with
  | some h => .nx env h
  | none => .err
/-- behind an expression -/
def R.thn {α : Type} (r : R α) (env : Env) (f : α → Mem → X) : X := match r with
  | .ok a h => f a h
  | .exc c x h => .exc c x env h
  | .err => .err
/-- one turn's end: on with the loop, or out -/
def X.turn (x : X) (rst : List Nat) (go : Env → Mem → X) : X := match x with
  | .nx e h => go (rstE rst e) h
  | .cnt e h => go (rstE rst e) h
  | .brk e h => .nx (rstE rst e) h
  | .ret d h => .ret d h
  | .exc c x e h => .exc c x e h
  | .err => .err
def forL (t : Tg) (rst : List Nat) (body : Env → Mem → X) : List D → Env → Mem → X
  | [], env, h => .nx env h
  | x :: xs, env, h => match setTg t x h env with
    | none => .err
    | some e => (body e h).turn rst (forL t rst body xs)
def whL (rst : List Nat) (cond : Env → Mem → R Bool) (body : Env → Mem → X) : Nat → Env → Mem → X
  | 0, _, _ => .err
  | f + 1, env, h => (cond env h).thn env fun b h => if b then (body env h).turn rst (whL rst cond body f) else .nx env h
/-- cells become frozen data, one after another -/
def frzN : List Nat → Mem → Option (List A × Mem)
  | [], h => some ([], h)
  | n :: r, h => match h[n]? with
    | some (.lst xs) => (match frzN r (h.set n .gone) with
      | some (ys, h) => some (.lst xs :: ys, h)
      | none => none)
    | _ => none
/-- a list of one's own becomes frozen data -/
def frz1 (i : Nat) (env : Env) (h : Mem) : X := match env[i]? with
  | some (some (.ref n)) => (match h[n]? with
    | some (.lst xs) => .nx (env.set i (some (.a (.lst xs)))) (h.set n .gone)
    | _ => .err)
  | some (some (.nst ns)) => (match frzN ns h with
    | some (ys, h) => .nx (env.set i (some (.a (.lst ys)))) h
    | none => .err)
  | some (some (.a x)) => .nx env h
  | _ => .err
/-- several stores, from the right -/
def parE : List Nat → List D → Env → Option Env
  | [], [], env => some env
  | i :: is, d :: ds, env => (parE is ds env).map fun e => e.set i (some d)
  | _, _, _ => none
def frzAll : List Nat → Env → Mem → X
  | [], env, h => .nx env h
  | i :: r, env, h => match frz1 i env h with
    | .nx env h => frzAll r env h
    | x => x
/-- the clause that takes an exception -/
def hnd (c : Nat) (x : A) (env : Env) (h : Mem) : List (List Bool × Option Nat × (Env → Mem → X)) → X
  | [] => .exc c x env h
  | (cs, i, b) :: r => match cs[c]? with
    | none => .err
    | some false => hnd c x env h r
    | some true => (match i with
      | some i => (match b (env.set i (some (.a x))) h with
        | .nx e h => .nx (e.set i none) h
        | .brk e h => .brk (e.set i none) h
        | .cnt e h => .cnt (e.set i none) h
        | .exc _ _ _ _ => .err
        | y => y)
      | none => (match b env h with
        | .exc _ _ _ _ => .err
        | y => y))
def excOk : A → Bool
  | .str s => decide (s.length ≤ 1000)
  | .int i => decide (i.natAbs.log2 < 1920)
  | _ => false
def whFuel : Nat := 1099511627776
mutual
def exec (C : Ctx) (base : Nat) : S → Env → Mem → X
  | .skip, env, h => .nx env h
  | .seq a b, env, h => match exec C base a env h with
    | .nx env h => exec C base b env h
    | x => x
  | .asg t e, env, h => (ev C e env h).thn env fun d h => match setTg t d h env with
    | some env => .nx env h
    | none => .err
  | .par is es, env, h => (evs C es env h).thn env fun ds h => match parE is ds env with
    | some env => .nx env h
    | none => .err
  | .setIx o i e, env, h => (ev C e env h).thn env fun v h => (ev C o env h).thn env fun o h => (ev C i env h).thn env fun i h => ofM (setIx h o i v) env
  | .setFld o f e, env, h => (ev C e env h).thn env fun v h => (ev C o env h).thn env fun o h => ofM (setFld C.G base h o f v) env
  | .expr e, env, h => (ev C e env h).thn env fun _ h => .nx env h
  | .ite c a b, env, h => (ev C c env h).tru.thn env fun t h => if t then exec C base a env h else exec C base b env h
  | .for_ t it b rst, env, h => (evIt C it env h).thn env fun xs h => forL t rst (fun env h => exec C base b env h) xs env h
  | .while_ c b rst, env, h => whL rst (fun env h => (ev C c env h).tru) (fun env h => exec C base b env h) whFuel env h
  | .ret e, env, h => (ev C e env h).thn env fun d h => .ret d h
  | .retN, _, h => .ret (.a .non) h
  | .raise c e, env, h => (ev C e env h).thn env fun d h => match d with
    | .a x => if excOk x then .exc c x env h else .err
    | _ => .err
  | .try_ b hs, env, h => match exec C base b env h with
    | .exc c x env h => hnd c x env h (exeh C base hs)
    | x => x
  | .brk, env, h => .brk env h
  | .cnt, env, h => .cnt env h
  | .frz is, env, h => frzAll is env h
def exeh (C : Ctx) (base : Nat) : List (List Bool × Option Nat × S) → List (List Bool × Option Nat × (Env → Mem → X))
  | [] => []
  | p :: r => exeh1 C base p :: exeh C base r
def exeh1 (C : Ctx) (base : Nat) : List Bool × Option Nat × S → List Bool × Option Nat × (Env → Mem → X)
  | (cs, p) => (cs, exeh2 C base p)
def exeh2 (C : Ctx) (base : Nat) : Option Nat × S → Option Nat × (Env → Mem → X)
  | (i, s) => (i, fun env h => exec C base s env h)
end
/-- a function's run, to a depth of calls -/
def runF (G : Prg) : Nat → Nat → List D → Mem → Nat → X
  | 0, _, _, _, _ => .err
  | k + 1, f, ds, h, base => match G.fns[f]? with
    | some fi => if ds.length = fi.np then exec ⟨G, runF G k⟩ base fi.body (ds.map some ++ List.replicate (fi.ns - fi.np) none) h else .err
    | none => .err
def callF (G : Prg) (k f : Nat) (ds : List D) (h : Mem) : R D := fin h.length (runF G k f ds h h.length)
end MP
end
section
set_option Elab.async false
set_option linter.all false
set_option maxRecDepth 100000
set_option maxHeartbeats 4000000
/-! MP: the laws' draw. -/
namespace MP
open PySem
def drawI : FnI := ⟨4, 2, (.seq (.ite (.and (.cmp .LtE (.idx (.var 0) (.cst (.int 2))) (.cst (.int 0))) (.and (.cmp .LtE (.idx (.var 0) (.cst (.int 4))) (.cst (.int 0))) (.cmp .Lt (.idx (.var 0) (.cst (.int 1))) (.bi false .len [(.idx (.var 0) (.cst (.int 0)))])))) (.seq (.asg (.nm 2) (.idx (.idx (.var 0) (.cst (.int 0))) (.idx (.var 0) (.cst (.int 1))))) (.seq (.setIx (.var 0) (.cst (.int 1)) (.bin false .Add (.idx (.var 0) (.cst (.int 1))) (.cst (.int 1)))) (.seq (.setIx (.var 0) (.cst (.int 3)) (.bin false .Mod (.bi false .int1 [(.bin false .Add (.bin false .Mult (.idx (.var 0) (.cst (.int 3))) (.cst (.int 31))) (.var 2))]) (.cst (.int 2147483647)))) (.seq (.setIx (.var 0) (.cst (.int 4)) (.cst (.int 7))) (.seq (.ite (.cmp .GtE (.var 2) (.bin false .Pow (.cst (.int 10)) (.cst (.int 18)))) (.seq (.setIx (.var 0) (.cst (.int 2)) (.var 2)) .skip) .skip) .skip))))) .skip) (.seq (.ite (.cmp .Gt (.idx (.var 0) (.cst (.int 2))) (.cst (.int 0))) (.seq (.asg (.nm 3) (.bin false .Mod (.bi false .int1 [(.idx (.var 0) (.cst (.int 2)))]) (.var 1))) (.seq (.setIx (.var 0) (.cst (.int 2)) (.bin false .FloorDiv (.idx (.var 0) (.cst (.int 2))) (.var 1))) (.seq (.setIx (.var 0) (.cst (.int 4)) (.cst (.int 0))) (.seq (.ret (.var 3)) .skip)))) .skip) (.seq (.setIx (.var 0) (.cst (.int 4)) (.bin false .Sub (.idx (.var 0) (.cst (.int 4))) (.cst (.int 1)))) (.seq (.setIx (.var 0) (.cst (.int 3)) (.bin false .Mod (.bi false .int1 [(.bin false .Add (.bin false .Mult (.idx (.var 0) (.cst (.int 3))) (.cst (.int 48271))) (.cst (.int 12345)))]) (.cst (.int 2147483647)))) (.seq (.ret (.bin false .Mod (.bin false .Mod (.bi false .int1 [(.bin false .Add (.bin false .Mult (.idx (.var 0) (.cst (.int 3))) (.cst (.int 69621))) (.cst (.int 7919)))]) (.cst (.int 2147483647))) (.var 1))) .skip)))))⟩
/-- the pool's list -/
def poolM (ns : List Int) (p v s l b : Int) : MO := .lst [.lst (ns.map .int), .int p, .int v, .int s, .int l, .int b]
/-- some pool -/
def IsPool (m : MO) : Prop := ∃ ns p v s l b, 0 ≤ p ∧ m = poolM ns p v s l b
theorem ix6 : idxN 6 0 = some 0 ∧ idxN 6 1 = some 1 ∧ idxN 6 2 = some 2 ∧ idxN 6 3 = some 3 ∧ idxN 6 4 = some 4 := ⟨rfl, rfl, rfl, rfl, rfl⟩
theorem mul_small (i j : Int) (h1 : 0 ≤ j) (h2 : j < 1000000) : mulOk i j = true := by
  unfold mulOk
  have a : decide (-18446744073709551616 < j) = true := decide_eq_true (by omega)
  have b : decide (j < 18446744073709551616) = true := decide_eq_true (by omega)
  rw [a, b]
  simp
section
variable {G : Prg} {k base n : Nat} {h : Mem} {ns : List Int} {p v s l b z : Int} {e2 e3 : Option D}
/-- reading and writing the pool -/
theorem pool_idx {j : Nat} {i : Int} {x : A} (hp : h[n]? = some (poolM ns p v s l b)) (hi : idxN 6 i = some j) (hx : [A.lst (ns.map .int), .int p, .int v, .int s, .int l, .int b][j]? = some x) : idx h (.ref n) (.a (.int i)) = some (.a x) := by
  show (match h[n]? with
    | some (.lst xs) => _
    | some (.dk kvs) => _
    | some (.dt kvs) => _
    | _ => none) = _
  rw [hp]
  show (idxN 6 i).bind _ = _
  rw [hi]
  show (([A.lst (ns.map .int), .int p, .int v, .int s, .int l, .int b] : List A)[j]?).map D.a = _
  rw [hx] <;> rfl
theorem pool_set {j : Nat} {i : Int} {y : A} (hp : h[n]? = some (poolM ns p v s l b)) (hi : idxN 6 i = some j) : setIx h (.ref n) (.a (.int i)) (.a y) = some (h.set n (.lst ([A.lst (ns.map .int), .int p, .int v, .int s, .int l, .int b].set j y))) := by
  show (match h[n]? with
    | some (.lst xs) => _
    | some (.dk kvs) => _
    | some (.dt kvs) => _
    | _ => none) = _
  rw [hp]
  show (idxN 6 i).map _ = _
  rw [hi] <;> rfl
theorem pool_s1 {y : Int} (hp : h[n]? = some (poolM ns p v s l b)) : setIx h (.ref n) (.a (.int 1)) (.a (.int y)) = some (h.set n (poolM ns y v s l b)) := pool_set (j := 1) hp rfl
theorem pool_s2 {y : Int} (hp : h[n]? = some (poolM ns p v s l b)) : setIx h (.ref n) (.a (.int 2)) (.a (.int y)) = some (h.set n (poolM ns p y s l b)) := pool_set (j := 2) hp rfl
theorem pool_s3 {y : Int} (hp : h[n]? = some (poolM ns p v s l b)) : setIx h (.ref n) (.a (.int 3)) (.a (.int y)) = some (h.set n (poolM ns p v y l b)) := pool_set (j := 3) hp rfl
theorem pool_s4 {y : Int} (hp : h[n]? = some (poolM ns p v s l b)) : setIx h (.ref n) (.a (.int 4)) (.a (.int y)) = some (h.set n (poolM ns p v s y b)) := pool_set (j := 4) hp rfl
theorem pool_g0 (hp : h[n]? = some (poolM ns p v s l b)) : idx h (.ref n) (.a (.int 0)) = some (.a (.lst (ns.map .int))) := pool_idx (j := 0) hp rfl rfl
theorem pool_g1 (hp : h[n]? = some (poolM ns p v s l b)) : idx h (.ref n) (.a (.int 1)) = some (.a (.int p)) := pool_idx (j := 1) hp rfl rfl
theorem pool_g2 (hp : h[n]? = some (poolM ns p v s l b)) : idx h (.ref n) (.a (.int 2)) = some (.a (.int v)) := pool_idx (j := 2) hp rfl rfl
theorem pool_g3 (hp : h[n]? = some (poolM ns p v s l b)) : idx h (.ref n) (.a (.int 3)) = some (.a (.int s)) := pool_idx (j := 3) hp rfl rfl
theorem pool_g4 (hp : h[n]? = some (poolM ns p v s l b)) : idx h (.ref n) (.a (.int 4)) = some (.a (.int l)) := pool_idx (j := 4) hp rfl rfl
theorem pool_at {p' v' s' l' b' : Int} (hp : h[n]? = some (poolM ns p v s l b)) : (h.set n (poolM ns p' v' s' l' b'))[n]? = some (poolM ns p' v' s' l' b') := by
  rw [List.getElem?_set_self]
  exact (List.getElem?_eq_some_iff.mp hp).1
theorem bin_mod {i : Int} (hz : 0 < z) : bin .Mod (.int i) (.int z) = some (.int (i % z)) := if_pos hz
theorem bin_div {i : Int} (hz : 0 < z) (h2 : z < 1073741824) : bin .FloorDiv (.int i) (.int z) = some (.int (i / z)) := by
  have e : (decide (0 < z) && decide (z < 1073741824)) = true := by rw [decide_eq_true hz, decide_eq_true h2] <;> rfl
  exact if_pos e
theorem bin_mul {i : Int} (h1 : 0 ≤ z) (h2 : z < 1000000) : bin .Mult (.int i) (.int z) = some (.int (i * z)) := if_pos (mul_small _ _ h1 h2)
theorem bin_add {i j : Int} : bin .Add (.int i) (.int j) = some (.int (i + j)) := rfl
theorem bin_sub {i j : Int} : bin .Sub (.int i) (.int j) = some (.int (i - j)) := rfl
theorem bin_pow : bin .Pow (.int 10) (.int 18) = some (.int (10 ^ 18)) := rfl
theorem pool_in (hn : n < h.length) {m : MO} : (h.set n m)[n]? = some m := by rw [List.getElem?_set_self hn]
/-- the second half: a value is there or not -/
theorem draw_end {C : Ctx} (hn : n < h.length) (hz : 0 < z) (hz2 : z < 1073741824) :
    ∃ u v' s' l', 0 ≤ u ∧ u < z ∧ exec C base (match drawI.body with | .seq _ r => r | x => x) [some (.ref n), some (.a (.int z)), e2, e3] (h.set n (poolM ns p v s l b)) = .ret (.a (.int u)) (h.set n (poolM ns p v' s' l' b)) := by
  by_cases hv : 0 < v
  · refine ⟨v % z, v / z, s, 0, Int.emod_nonneg _ (by omega), Int.emod_lt_of_pos _ hz, ?_⟩
    simp only [Bool.false_eq_true, ↓reduceIte, drawI, exec, ev, evs, List.getElem?_cons_zero, List.getElem?_cons_succ, R.bind, R.thn, R.tru, pool_g2 (pool_in hn), pool_s2 (pool_in hn), pool_s4 (pool_in hn), ofO, cmp, hv, Option.map, D.tru, decide_true, if_true, D.rd, bin_mod hz, bin_div hz hz2, cel, bi, setTg, ofM, List.set_set, List.set_cons_succ, List.set_cons_zero]
  · refine ⟨((s * 48271 + 12345) % 2147483647 * 69621 + 7919) % 2147483647 % z, v, (s * 48271 + 12345) % 2147483647, l - 1, Int.emod_nonneg _ (by omega), Int.emod_lt_of_pos _ hz, ?_⟩
    simp only [Bool.false_eq_true, ↓reduceIte, drawI, exec, ev, evs, List.getElem?_cons_zero, List.getElem?_cons_succ, R.bind, R.thn, R.tru, pool_g2 (pool_in hn), pool_g4 (pool_in hn), pool_g3 (pool_in hn), pool_s3 (pool_in hn), pool_s4 (pool_in hn), ofO, cmp, hv, Option.map, D.tru, decide_false, if_false, D.rd, bin_mod hz, bin_mod (z := 2147483647) (by decide), bin_mul (z := 48271) (by decide) (by decide), bin_mul (z := 69621) (by decide) (by decide), cel, bi, setTg, ofM, List.set_set, bin_add, bin_sub]
theorem draw_beg {C : Ctx} (hn : n < h.length) (h0 : 0 ≤ p) :
    ∃ e p' v' s' l', 0 ≤ p' ∧ exec C base (match drawI.body with | .seq a _ => a | x => x) [some (.ref n), some (.a (.int z)), e2, e3] (h.set n (poolM ns p v s l b)) = .nx [some (.ref n), some (.a (.int z)), e, e3] (h.set n (poolM ns p' v' s' l' b)) := by
  by_cases c1 : v ≤ 0
  · by_cases c2 : l ≤ 0
    · by_cases c3 : p < ns.length
      · have hl : p.toNat < ns.length := by omega
        have ex : idxN (ns.map A.int).length p = some p.toNat := by
          rw [List.length_map]
          unfold idxN L2.ixN
          rw [if_pos h0, if_pos c3]
        have eg : idx (h.set n (poolM ns p v s l b)) (.a (.lst (ns.map .int))) (.a (.int p)) = some (.a (.int ns[p.toNat])) := by
          show (idxN (ns.map A.int).length p).bind _ = _
          rw [ex]
          show ((ns.map A.int)[p.toNat]?).map D.a = _
          rw [List.getElem?_map, List.getElem?_eq_getElem hl] <;> rfl
        by_cases c4 : (10 : Int) ^ 18 ≤ ns[p.toNat]
        · refine ⟨some (.a (.int ns[p.toNat])), p + 1, ns[p.toNat], (s * 31 + ns[p.toNat]) % 2147483647, 7, by omega, ?_⟩
          simp only [Bool.false_eq_true, ↓reduceIte, drawI, exec, ev, evs, List.getElem?_cons_zero, List.getElem?_cons_succ, R.bind, R.thn, R.tru, pool_g2 (pool_in hn), pool_g0 (pool_in hn), pool_g1 (pool_in hn), pool_g4 (pool_in hn), pool_g3 (pool_in hn), pool_s1 (pool_in hn), pool_s3 (pool_in hn), pool_s4 (pool_in hn), ofO, cmp, c1, c2, c3, c4, bin_pow, pool_s2 (pool_in hn), Option.map, D.tru, decide_false, decide_true, if_true, if_false, D.rd, bin_mod (z := 2147483647) (by decide), bin_mul (z := 31) (by decide) (by decide), cel, bi, setTg, ofM, List.set_set, bin_add, bin_sub, D.items, A.items, Option.bind, List.length_map, eg, List.set_cons_succ, List.set_cons_zero]
        · refine ⟨some (.a (.int ns[p.toNat])), p + 1, v, (s * 31 + ns[p.toNat]) % 2147483647, 7, by omega, ?_⟩
          simp only [Bool.false_eq_true, ↓reduceIte, drawI, exec, ev, evs, List.getElem?_cons_zero, List.getElem?_cons_succ, R.bind, R.thn, R.tru, pool_g2 (pool_in hn), pool_g0 (pool_in hn), pool_g1 (pool_in hn), pool_g4 (pool_in hn), pool_g3 (pool_in hn), pool_s1 (pool_in hn), pool_s3 (pool_in hn), pool_s4 (pool_in hn), ofO, cmp, c1, c2, c3, c4, bin_pow, pool_s2 (pool_in hn), Option.map, D.tru, decide_false, decide_true, if_true, if_false, D.rd, bin_mod (z := 2147483647) (by decide), bin_mul (z := 31) (by decide) (by decide), cel, bi, setTg, ofM, List.set_set, bin_add, bin_sub, D.items, A.items, Option.bind, List.length_map, eg, List.set_cons_succ, List.set_cons_zero]
      · refine ⟨e2, p, v, s, l, h0, ?_⟩
        simp only [Bool.false_eq_true, ↓reduceIte, drawI, exec, ev, evs, List.getElem?_cons_zero, List.getElem?_cons_succ, R.bind, R.thn, R.tru, pool_g2 (pool_in hn), pool_g0 (pool_in hn), pool_g1 (pool_in hn), pool_g4 (pool_in hn), ofO, cmp, c1, c2, c3, Option.map, D.tru, decide_false, decide_true, if_true, if_false, D.rd, bi, D.items, A.items, Option.bind, List.length_map, cel]
    · refine ⟨e2, p, v, s, l, h0, ?_⟩
      simp only [Bool.false_eq_true, ↓reduceIte, drawI, exec, ev, evs, List.getElem?_cons_zero, List.getElem?_cons_succ, R.bind, R.thn, R.tru, pool_g2 (pool_in hn), pool_g4 (pool_in hn), ofO, cmp, c1, c2, Option.map, D.tru, decide_false, decide_true, if_true, if_false, D.rd]
  · refine ⟨e2, p, v, s, l, h0, ?_⟩
    simp only [Bool.false_eq_true, ↓reduceIte, drawI, exec, ev, evs, List.getElem?_cons_zero, List.getElem?_cons_succ, R.bind, R.thn, R.tru, pool_g2 (pool_in hn), ofO, cmp, c1, Option.map, D.tru, decide_false, if_false, D.rd]
/-- THE DRAW: some number below the size; the pool stays a pool -/
theorem draw_ok {i : Nat} {m : MO} (hi : G.fns[i]? = some drawI) (hp : h[n]? = some m) (hm : IsPool m) (hz : 0 < z) (hz2 : z < 1073741824) :
    ∃ u m', 0 ≤ u ∧ u < z ∧ IsPool m' ∧ callF G (k + 1) i [.ref n, .a (.int z)] h = .ok (.a (.int u)) (h.set n m') := by
  obtain ⟨ns, p, v, s, l, b, h0, rfl⟩ := hm
  have hn : n < h.length := (List.getElem?_eq_some_iff.mp hp).1
  have eh : h.set n (poolM ns p v s l b) = h := by
    apply List.ext_getElem?
    intro j
    by_cases e : n = j
    · subst e
      rw [pool_in hn, hp]
    · rw [List.getElem?_set_ne e]
  obtain ⟨e, p', v', s', l', h1, x1⟩ := draw_beg (C := ⟨G, runF G k⟩) (base := h.length) (e2 := none) (e3 := none) (ns := ns) (v := v) (s := s) (l := l) (b := b) (z := z) hn h0
  obtain ⟨u, v2, s2, l2, u1, u2, x2⟩ := draw_end (C := ⟨G, runF G k⟩) (base := h.length) (e2 := e) (e3 := none) (ns := ns) (p := p') (v := v') (s := s') (l := l') (b := b) hn hz hz2
  refine ⟨u, poolM ns p' v2 s2 l2 b, u1, u2, ⟨ns, p', v2, s2, l2, b, h1, rfl⟩, ?_⟩
  rw [eh] at x1
  unfold callF runF
  rw [hi]
  show fin h.length (exec ⟨G, runF G k⟩ h.length drawI.body [some (.ref n), some (.a (.int z)), none, none] h) = _
  have e3 : exec ⟨G, runF G k⟩ h.length drawI.body [some (.ref n), some (.a (.int z)), none, none] h = .ret (.a (.int u)) (h.set n (poolM ns p' v2 s2 l2 b)) := by
    show (match exec ⟨G, runF G k⟩ h.length (match drawI.body with | .seq a _ => a | x => x) [some (.ref n), some (.a (.int z)), none, none] h with
      | .nx env h' => exec ⟨G, runF G k⟩ h.length (match drawI.body with | .seq _ r => r | x => x) env h'
      | x => x) = _
    rw [x1]
    exact x2
  rw [e3]
  show R.ok _ ((h.set n _).take h.length) = _
  rw [List.take_of_length_le (by rw [List.length_set]; exact Nat.le_refl _)]
end
end MP
end
section
set_option Elab.async false
set_option linter.all false
set_option maxRecDepth 100000
set_option maxHeartbeats 4000000
/-! MP: running a program by rewriting. Each construct has an equation whose parts are run in order; congruences keep the rewriting out of what comes later. -/
namespace MP
open PySem
theorem nr {α : Sort _} {a b : α} (e : a = b) : a = b := e
theorem ok_bind {α β : Type} {a : α} {h : Mem} {f : α → Mem → R β} : (R.ok a h).bind f = f a h := nr rfl
theorem exc_bind {α β : Type} {c : Nat} {x : A} {h : Mem} {f : α → Mem → R β} : (R.exc c x h : R α).bind f = .exc c x h := nr rfl
theorem ok_thn {α : Type} {a : α} {h : Mem} {env : Env} {f : α → Mem → X} : (R.ok a h).thn env f = f a h := nr rfl
theorem exc_thn {α : Type} {c : Nat} {x : A} {h : Mem} {env : Env} {f : α → Mem → X} : (R.exc c x h : R α).thn env f = .exc c x env h := nr rfl
theorem ok_calm {α : Type} {a : α} {h : Mem} : (R.ok a h).calm = .ok a h := nr rfl
/-- behind a statement -/
def X.and (x : X) (f : Env → Mem → X) : X := match x with
  | .nx e h => f e h
  | x => x
theorem nx_and {e : Env} {h : Mem} {f : Env → Mem → X} : (X.nx e h).and f = f e h := nr rfl
theorem ret_and {d : D} {h : Mem} {f : Env → Mem → X} : (X.ret d h).and f = .ret d h := nr rfl
theorem brk_and {e : Env} {h : Mem} {f : Env → Mem → X} : (X.brk e h).and f = .brk e h := nr rfl
theorem cnt_and {e : Env} {h : Mem} {f : Env → Mem → X} : (X.cnt e h).and f = .cnt e h := nr rfl
theorem exc_and {c : Nat} {x : A} {e : Env} {h : Mem} {f : Env → Mem → X} : (X.exc c x e h).and f = .exc c x e h := nr rfl
section
variable {G : Prg} {C : Ctx} {k base f : Nat} {h : Mem} {env : Env}
/-! ### primitives -/
def varK (o : Option (Option D)) (h : Mem) : R D := match o with
  | some (some d) => .ok d h
  | _ => .err
def binK (m : Bool) (o : Operator) (x y : D) (h : Mem) : R D := match x.rd h, y.rd h with
  | some x, some y => (match bin o x y with
    | some z => cel m z h
    | none => .err)
  | _, _ => .err
def negK (x : D) (h : Mem) : R D := match x with
  | .a (.int i) => .ok (.a (.int (-i))) h
  | _ => .err
def cmpK (o : CmpOp) (x y : D) (h : Mem) : R D := ofO ((cmp o h x y).map fun b => .a (.bl b)) h
def idxK (x i : D) (h : Mem) : R D := ofO (idx h x i) h
def slcK (m : Bool) (x : D) (lo hi : Option Int) (h : Mem) : R D := match slc h x lo hi with
  | some z => cel m z h
  | none => .err
def tupK (ds : List D) (h : Mem) : R D := if ds.length ≤ sizeLine then ofO ((D.toAs ds).map fun xs => .a (.tup xs)) h else .err
def biK (m : Bool) (b : Bi) (ds : List D) (h : Mem) : R D := match bi b h ds with
  | some z => cel m z h
  | none => .err
def bmK (b : Bm) (x : D) (h : Mem) (f : Mem → R (List D)) : R D := if bmPre b h x then (f h).bind fun ds h => bm b h x ds else .err
def isiK (x : D) (ts : List Ty) (h : Mem) : R D := ofO ((isi h x ts).map fun b => .a (.bl b)) h
def lcQ (C : Ctx) (elt : E) (t : Tg) (ifs : Option E) (own : List Nat) (env : Env) : D → Mem → R (List D) := fun x h => match setTg t x h (rstE own env) with
  | none => .err
  | some e => (evf C ifs e h).bind fun b h => if b then (ev C elt e h).bind fun d h => .ok [d] h else .ok [] h
def lcK1 (C : Ctx) (elt : E) (t : Tg) (ifs : Option E) (e : Env) : D → Mem → R (List D) := fun y h => match setTg t y h e with
  | none => .err
  | some e => (evf C ifs e h).bind fun b h => if b then (ev C elt e h).bind fun d h => .ok [d] h else .ok [] h
def lcK2 (C : Ctx) (elt : E) (t : Tg) (ifs : Option E) (t1 : Tg) (it1 : It) (ifs1 : Option E) (own own1 : List Nat) (env : Env) : D → Mem → R (List D) := fun x h => match setTg t x h (rstE own env) with
  | none => .err
  | some e => (evf C ifs e h).bind fun b h => if b then (evIt C it1 e h).bind fun ys h => lcD (lcK1 C elt t1 ifs1 (rstE own1 e)) ys h else .ok [] h
def seqK (x : D) (h : Mem) : R (List D) := match x with
  | .ref _ => .err
  | x => ofO (x.its h) h
def rng1K (x : D) (h : Mem) : R (List D) := match x with
  | .a (.int n) => if rngOk n then .ok (rngL 0 n.toNat) h else .err
  | _ => .err
def rng2K (x y : D) (h : Mem) : R (List D) := match x, y with
  | .a (.int i), .a (.int j) => if rngOk i && rngOk j then .ok (rngL i (j - i).toNat) h else .err
  | _, _ => .err
def enuK (x : D) (h : Mem) : R (List D) := match x with
  | .ref _ => .err
  | x => ofO ((x.items h).map fun xs => xs.zipIdx.map fun p => .a (.tup [.int p.2, p.1])) h
def zipK (x y : D) (h : Mem) : R (List D) := match x, y with
  | .ref _, _ => .err
  | _, .ref _ => .err
  | x, y => ofO ((x.items h).bind fun xs => (y.items h).map fun ys => (xs.zip ys).map fun p => .a (.tup [p.1, p.2])) h
def lrg1K (m t : Bool) (x : D) (h : Mem) : R D := match x with
  | .a (.int j) => lrg m t 0 j h
  | _ => .err
def lrg2K (m t : Bool) (x y : D) (h : Mem) : R D := match x, y with
  | .a (.int i), .a (.int j) => lrg m t i j h
  | _, _ => .err
def asgK (t : Tg) (d : D) (h : Mem) (env : Env) : X := match setTg t d h env with
  | some env => .nx env h
  | none => .err
def parK (is : List Nat) (ds : List D) (env : Env) (h : Mem) : X := match parE is ds env with
  | some env => .nx env h
  | none => .err
def forK (C : Ctx) (base : Nat) (t : Tg) (rst : List Nat) (b : S) (xs : List D) (env : Env) (h : Mem) : X := forL t rst (fun env h => MP.exec C base b env h) xs env h
def whK (C : Ctx) (base : Nat) (c : E) (rst : List Nat) (b : S) (n : Nat) (env : Env) (h : Mem) : X := whL rst (fun env h => (ev C c env h).tru) (fun env h => MP.exec C base b env h) n env h
def raiseK (c : Nat) (d : D) (env : Env) (h : Mem) : X := match d with
  | .a x => if excOk x then .exc c x env h else .err
  | _ => .err
def tryK (C : Ctx) (base : Nat) (hs : List (List Bool × Option Nat × S)) (x : X) : X := match x with
  | .exc c x env h => hnd c x env h (exeh C base hs)
  | x => x
/-! ### equations: what comes later is a name, so that rewriting does not enter it -/
theorem ev_cst {x : A} : ev C (.cst x) env h = .ok (.a x) h := by simp only [ev]
theorem ev_var {i : Nat} : ev C (.var i) env h = varK env[i]? h := by
  simp only [ev, varK] <;> rfl
theorem ev_glb {x : Str} {v : A} : ev C (.glb x v) env h = .ok (.a v) h := by simp only [ev]
def kBin (C : Ctx) (m : Bool) (o : Operator) (b : E) (env : Env) : D → Mem → R D := fun x h => (ev C b env h).bind (binK m o x)
theorem kBin_eq {m : Bool} {o : Operator} {b : E} {x : D} : kBin C m o b env x h = (ev C b env h).bind (binK m o x) := nr rfl
theorem ev_bin {m : Bool} {o : Operator} {a b : E} : ev C (.bin m o a b) env h = (ev C a env h).bind (kBin C m o b env) := by simp only [ev] <;> rfl
theorem ev_neg {a : E} : ev C (.neg a) env h = (ev C a env h).bind negK := by simp only [ev] <;> rfl
def kNot : Bool → Mem → R D := fun b h => .ok (.a (.bl (!b))) h
theorem kNot_eq {b : Bool} : kNot b h = .ok (.a (.bl (!b))) h := nr rfl
theorem ev_not {a : E} : ev C (.not a) env h = (ev C a env h).tru.bind kNot := by simp only [ev] <;> rfl
/-- and, or -/
def kAnd (C : Ctx) (b : E) (env : Env) : D → Mem → R D := fun x h => match D.tru h x with
  | some true => ev C b env h
  | some false => .ok x h
  | none => .err
def kOr (C : Ctx) (b : E) (env : Env) : D → Mem → R D := fun x h => match D.tru h x with
  | some false => ev C b env h
  | some true => .ok x h
  | none => .err
theorem ev_and {a b : E} : ev C (.and a b) env h = (ev C a env h).bind (kAnd C b env) := by simp only [ev] <;> rfl
theorem ev_or {a b : E} : ev C (.or a b) env h = (ev C a env h).bind (kOr C b env) := by simp only [ev] <;> rfl
theorem kAnd_t {b : E} : kAnd C b env (.a (.bl true)) h = ev C b env h := nr rfl
theorem kAnd_f {b : E} : kAnd C b env (.a (.bl false)) h = .ok (.a (.bl false)) h := nr rfl
theorem kOr_t {b : E} : kOr C b env (.a (.bl true)) h = .ok (.a (.bl true)) h := nr rfl
theorem kOr_f {b : E} : kOr C b env (.a (.bl false)) h = ev C b env h := nr rfl
/-- a second part that is plain -/
theorem kAnd_b {a b : Bool} {e : E} (q : ev C e env h = .ok (.a (.bl b)) h) : kAnd C e env (.a (.bl a)) h = .ok (.a (.bl (a && b))) h := by
  cases a
  · exact kAnd_f
  · rw [kAnd_t, q, Bool.true_and]
theorem kOr_b {a b : Bool} {e : E} (q : ev C e env h = .ok (.a (.bl b)) h) : kOr C e env (.a (.bl a)) h = .ok (.a (.bl (a || b))) h := by
  cases a
  · rw [kOr_f, q, Bool.false_or]
  · exact kOr_t
def kCmp (C : Ctx) (o : CmpOp) (b : E) (env : Env) : D → Mem → R D := fun x h => (ev C b env h).bind (cmpK o x)
theorem kCmp_eq {o : CmpOp} {b : E} {x : D} : kCmp C o b env x h = (ev C b env h).bind (cmpK o x) := nr rfl
theorem ev_cmp {o : CmpOp} {a b : E} : ev C (.cmp o a b) env h = (ev C a env h).bind (kCmp C o b env) := by simp only [ev] <;> rfl
def kChn (C : Ctx) (os : List CmpOp) (es : List E) (env : Env) : D → Mem → R D := fun x h => evc C os es env x h
theorem ev_chn {a : E} {os : List CmpOp} {es : List E} : ev C (.chn a os es) env h = (ev C a env h).bind (kChn C os es env) := by simp only [ev] <;> rfl
def chnK (o : Option Bool) (C : Ctx) (os : List CmpOp) (es : List E) (env : Env) (y : D) (h : Mem) : R D := match o with
  | some true => kChn C os es env y h
  | some false => .ok (.a (.bl false)) h
  | none => .err
theorem chnK_t {os : List CmpOp} {es : List E} {y : D} : chnK (some true) C os es env y h = kChn C os es env y h := nr rfl
theorem chnK_f {os : List CmpOp} {es : List E} {y : D} : chnK (some false) C os es env y h = .ok (.a (.bl false)) h := nr rfl
def kChn1 (C : Ctx) (o : CmpOp) (os : List CmpOp) (es : List E) (env : Env) (x : D) : D → Mem → R D := fun y h => chnK (cmp o h x y) C os es env y h
theorem kChn1_eq {o : CmpOp} {os : List CmpOp} {es : List E} {x y : D} : kChn1 C o os es env x y h = chnK (cmp o h x y) C os es env y h := nr rfl
theorem kChn_nil {os : List CmpOp} {x : D} : kChn C os [] env x h = .ok (.a (.bl true)) h := by
  unfold kChn
  simp only [evc]
theorem kChn_cons {o : CmpOp} {os : List CmpOp} {e : E} {es : List E} {x : D} : kChn C (o :: os) (e :: es) env x h = (ev C e env h).bind (kChn1 C o os es env x) := by
  unfold kChn
  simp only [evc] <;> rfl
def kIfE (C : Ctx) (a b : E) (env : Env) : Bool → Mem → R D := fun t h => if t = true then ev C a env h else ev C b env h
theorem kIfE_t {a b : E} : kIfE C a b env true h = ev C a env h := nr rfl
theorem kIfE_f {a b : E} : kIfE C a b env false h = ev C b env h := nr rfl
theorem ev_ite {c a b : E} : ev C (.ite c a b) env h = (ev C c env h).tru.bind (kIfE C a b env) := by simp only [ev] <;> rfl
def kIdx (C : Ctx) (i : E) (env : Env) : D → Mem → R D := fun x h => (ev C i env h).bind (idxK x)
theorem kIdx_eq {i : E} {x : D} : kIdx C i env x h = (ev C i env h).bind (idxK x) := nr rfl
theorem ev_idx {a i : E} : ev C (.idx a i) env h = (ev C a env h).bind (kIdx C i env) := by simp only [ev] <;> rfl
def kSlc2 (C : Ctx) (m : Bool) (hi : Option E) (env : Env) (x : D) : Option Int → Mem → R D := fun lo h => (evo C hi env h).bind (slcK m x lo)
def kSlc (C : Ctx) (m : Bool) (lo hi : Option E) (env : Env) : D → Mem → R D := fun x h => (evo C lo env h).bind (kSlc2 C m hi env x)
theorem kSlc2_eq {m : Bool} {hi : Option E} {x : D} {lo : Option Int} : kSlc2 C m hi env x lo h = (evo C hi env h).bind (slcK m x lo) := nr rfl
theorem kSlc_eq {m : Bool} {lo hi : Option E} {x : D} : kSlc C m lo hi env x h = (evo C lo env h).bind (kSlc2 C m hi env x) := nr rfl
theorem ev_slc {m : Bool} {a : E} {lo hi : Option E} : ev C (.slc m a lo hi) env h = (ev C a env h).bind (kSlc C m lo hi env) := by simp only [ev] <;> rfl
theorem ev_tup {es : List E} : ev C (.tup es) env h = (evs C es env h).bind tupK := by simp only [ev] <;> rfl
theorem ev_lst {m : Bool} {es : List E} : ev C (.lst m es) env h = (evs C es env h).bind (mkL m) := by simp only [ev]
theorem ev_dnew {t : Bool} : ev C (.dnew t) env h = .ok (.ref h.length) (h ++ [if t then .dt [] else .dk []]) := by simp only [ev]
def kLc (C : Ctx) (m : Bool) (elt : E) (t : Tg) (ifs : Option E) (own : List Nat) (env : Env) : List D → Mem → R D := fun xs h => (lcD (lcQ C elt t ifs own env) xs h).calm.bind (mkL m)
theorem kLc_eq {m : Bool} {elt : E} {t : Tg} {ifs : Option E} {own : List Nat} {xs : List D} : kLc C m elt t ifs own env xs h = (lcD (lcQ C elt t ifs own env) xs h).calm.bind (mkL m) := nr rfl
theorem ev_lc {m : Bool} {elt : E} {t : Tg} {it : It} {ifs : Option E} {own : List Nat} : ev C (.lc m elt t it ifs own) env h = (evIt C it env h).bind (kLc C m elt t ifs own env) := by simp only [ev] <;> rfl
def kLc2 (C : Ctx) (elt : E) (t : Tg) (ifs : Option E) (t1 : Tg) (it1 : It) (ifs1 : Option E) (own own1 : List Nat) (env : Env) : List D → Mem → R D := fun xs h => (lcD (lcK2 C elt t ifs t1 it1 ifs1 own own1 env) xs h).calm.bind (mkL false)
theorem kLc2_eq {elt : E} {t : Tg} {ifs : Option E} {t1 : Tg} {it1 : It} {ifs1 : Option E} {own own1 : List Nat} {xs : List D} : kLc2 C elt t ifs t1 it1 ifs1 own own1 env xs h = (lcD (lcK2 C elt t ifs t1 it1 ifs1 own own1 env) xs h).calm.bind (mkL false) := nr rfl
theorem ev_lc2 {elt : E} {t : Tg} {it : It} {ifs : Option E} {t1 : Tg} {it1 : It} {ifs1 : Option E} {own own1 : List Nat} : ev C (.lc2 elt t it ifs t1 it1 ifs1 own own1) env h = (evIt C it env h).bind (kLc2 C elt t ifs t1 it1 ifs1 own own1 env) := by simp only [ev] <;> rfl
theorem ev_call {f : Nat} {es : List E} : ev ⟨G, runF G k⟩ (.call f es) env h = (evs ⟨G, runF G k⟩ es env h).bind (callF G k f) := by simp only [ev] <;> rfl
theorem ev_bi {m : Bool} {b : Bi} {es : List E} : ev C (.bi m b es) env h = (evs C es env h).bind (biK m b) := by simp only [ev] <;> rfl
def kBm (C : Ctx) (b : Bm) (es : List E) (env : Env) : D → Mem → R D := fun x h => bmK b x h (evs C es env)
theorem kBm_eq {b : Bm} {es : List E} {x : D} : kBm C b es env x h = bmK b x h (evs C es env) := nr rfl
theorem ev_bm {b : Bm} {o : E} {es : List E} : ev C (.bm b o es) env h = (ev C o env h).bind (kBm C b es env) := by simp only [ev] <;> rfl
def kIsi (ts : List Ty) : D → Mem → R D := fun x h => isiK x ts h
theorem kIsi_eq {ts : List Ty} {x : D} : kIsi ts x h = isiK x ts h := nr rfl
theorem ev_isi {e : E} {ts : List Ty} : ev C (.isi e ts) env h = (ev C e env h).bind (kIsi ts) := by simp only [ev] <;> rfl
theorem ev_lrg1 {m t : Bool} {a : E} : ev C (.lrg1 m t a) env h = (ev C a env h).bind (lrg1K m t) := by simp only [ev] <;> rfl
def kLrg2 (C : Ctx) (m t : Bool) (b : E) (env : Env) : D → Mem → R D := fun x h => (ev C b env h).bind (lrg2K m t x)
theorem kLrg2_eq {m t : Bool} {b : E} {x : D} : kLrg2 C m t b env x h = (ev C b env h).bind (lrg2K m t x) := nr rfl
theorem ev_lrg2 {m t : Bool} {a b : E} : ev C (.lrg2 m t a b) env h = (ev C a env h).bind (kLrg2 C m t b env) := by simp only [ev] <;> rfl
theorem evf_none : evf C none env h = .ok true h := by simp only [evf]
theorem evf_some {c : E} : evf C (some c) env h = (ev C c env h).tru := by simp only [evf]
def oiK (x : D) (h : Mem) : R (Option Int) := match x with
  | .a (.int i) => .ok (some i) h
  | _ => .err
theorem oiK_int {i : Int} : oiK (.a (.int i)) h = .ok (some i) h := nr rfl
theorem evo_none : evo C none env h = .ok none h := by simp only [evo]
theorem evo_some {c : E} : evo C (some c) env h = (ev C c env h).bind oiK := by simp only [evo] <;> rfl
theorem evs_nil : evs C [] env h = .ok [] h := by simp only [evs]
def kCons (x : D) : List D → Mem → R (List D) := fun xs h => .ok (x :: xs) h
theorem kCons_eq {x : D} {xs : List D} : kCons x xs h = .ok (x :: xs) h := nr rfl
def kEvs (C : Ctx) (es : List E) (env : Env) : D → Mem → R (List D) := fun x h => (evs C es env h).bind (kCons x)
theorem kEvs_eq {es : List E} {x : D} : kEvs C es env x h = (evs C es env h).bind (kCons x) := nr rfl
theorem evs_cons {e : E} {es : List E} : evs C (e :: es) env h = (ev C e env h).bind (kEvs C es env) := by simp only [evs] <;> rfl
theorem evIt_seq {e : E} : evIt C (.seq e) env h = (ev C e env h).bind seqK := by simp only [evIt] <;> rfl
theorem evIt_rng1 {a : E} : evIt C (.rng1 a) env h = (ev C a env h).bind rng1K := by simp only [evIt] <;> rfl
def kRng2 (C : Ctx) (b : E) (env : Env) : D → Mem → R (List D) := fun x h => (ev C b env h).bind (rng2K x)
theorem kRng2_eq {b : E} {x : D} : kRng2 C b env x h = (ev C b env h).bind (rng2K x) := nr rfl
theorem evIt_rng2 {a b : E} : evIt C (.rng2 a b) env h = (ev C a env h).bind (kRng2 C b env) := by simp only [evIt] <;> rfl
def rng3K (x y z : D) (h : Mem) : R (List D) := match x, y, z with
  | .a (.int i), .a (.int j), .a (.int c) => if c != 0 && decide (c.natAbs < 1073741824) && Builtin.Range.small i j c then .ok (rngC i c (Builtin.Range.rangeSize i j c).toNat) h else .err
  | _, _, _ => .err
def kRng3b (C : Ctx) (c : E) (env : Env) (x : D) : D → Mem → R (List D) := fun y h => (ev C c env h).bind (rng3K x y)
def kRng3 (C : Ctx) (b c : E) (env : Env) : D → Mem → R (List D) := fun x h => (ev C b env h).bind (kRng3b C c env x)
theorem kRng3b_eq {c : E} {x y : D} : kRng3b C c env x y h = (ev C c env h).bind (rng3K x y) := nr rfl
theorem kRng3_eq {b c : E} {x : D} : kRng3 C b c env x h = (ev C b env h).bind (kRng3b C c env x) := nr rfl
theorem evIt_rng3 {a b c : E} : evIt C (.rng3 a b c) env h = (ev C a env h).bind (kRng3 C b c env) := by simp only [evIt] <;> rfl
theorem evIt_enu {a : E} : evIt C (.enu a) env h = (ev C a env h).bind enuK := by simp only [evIt] <;> rfl
def kZip (C : Ctx) (b : E) (env : Env) : D → Mem → R (List D) := fun x h => (ev C b env h).bind (zipK x)
theorem kZip_eq {b : E} {x : D} : kZip C b env x h = (ev C b env h).bind (zipK x) := nr rfl
theorem evIt_zip {a b : E} : evIt C (.zip a b) env h = (ev C a env h).bind (kZip C b env) := by simp only [evIt] <;> rfl
theorem ex_skip : MP.exec C base .skip env h = .nx env h := by simp only [MP.exec]
def kSeq (C : Ctx) (base : Nat) (b : S) : Env → Mem → X := fun e h => MP.exec C base b e h
theorem kSeq_eq {b : S} : kSeq C base b env h = MP.exec C base b env h := nr rfl
theorem ex_seq {a b : S} : MP.exec C base (.seq a b) env h = (MP.exec C base a env h).and (kSeq C base b) := by
  simp only [MP.exec] <;> cases MP.exec C base a env h <;> rfl
def kAsg (t : Tg) (env : Env) : D → Mem → X := fun d h => asgK t d h env
theorem kAsg_eq {t : Tg} {d : D} : kAsg t env d h = asgK t d h env := nr rfl
theorem ex_asg {t : Tg} {e : E} : MP.exec C base (.asg t e) env h = (ev C e env h).thn env (kAsg t env) := by simp only [MP.exec] <;> rfl
def kPar (is : List Nat) (env : Env) : List D → Mem → X := fun ds h => parK is ds env h
theorem kPar_eq {is : List Nat} {ds : List D} : kPar is env ds h = parK is ds env h := nr rfl
theorem ex_par {is : List Nat} {es : List E} : MP.exec C base (.par is es) env h = (evs C es env h).thn env (kPar is env) := by simp only [MP.exec] <;> rfl
def setIxK (v o i : D) (env : Env) (h : Mem) : X := ofM (setIx h o i v) env
def kSI3 (env : Env) (v o : D) : D → Mem → X := fun i h => setIxK v o i env h
def kSI2 (C : Ctx) (i : E) (env : Env) (v : D) : D → Mem → X := fun o h => (ev C i env h).thn env (kSI3 env v o)
def kSI1 (C : Ctx) (o i : E) (env : Env) : D → Mem → X := fun v h => (ev C o env h).thn env (kSI2 C i env v)
theorem kSI3_eq {v o i : D} : kSI3 env v o i h = setIxK v o i env h := nr rfl
theorem kSI2_eq {i : E} {v o : D} : kSI2 C i env v o h = (ev C i env h).thn env (kSI3 env v o) := nr rfl
theorem kSI1_eq {o i : E} {v : D} : kSI1 C o i env v h = (ev C o env h).thn env (kSI2 C i env v) := nr rfl
theorem ex_setIx {o i e : E} : MP.exec C base (.setIx o i e) env h = (ev C e env h).thn env (kSI1 C o i env) := by simp only [MP.exec] <;> rfl
def kNx (env : Env) : D → Mem → X := fun _ h => .nx env h
theorem kNx_eq {d : D} : kNx env d h = .nx env h := nr rfl
theorem ex_expr {e : E} : MP.exec C base (.expr e) env h = (ev C e env h).thn env (kNx env) := by simp only [MP.exec] <;> rfl
def kIfS (C : Ctx) (base : Nat) (a b : S) (env : Env) : Bool → Mem → X := fun t h => if t = true then MP.exec C base a env h else MP.exec C base b env h
theorem kIfS_t {a b : S} : kIfS C base a b env true h = MP.exec C base a env h := nr rfl
theorem kIfS_f {a b : S} : kIfS C base a b env false h = MP.exec C base b env h := nr rfl
theorem ex_ite {c : E} {a b : S} : MP.exec C base (.ite c a b) env h = (ev C c env h).tru.thn env (kIfS C base a b env) := by simp only [MP.exec] <;> rfl
def kFor (C : Ctx) (base : Nat) (t : Tg) (rst : List Nat) (b : S) (env : Env) : List D → Mem → X := fun xs h => forK C base t rst b xs env h
theorem kFor_eq {t : Tg} {rst : List Nat} {b : S} {xs : List D} : kFor C base t rst b env xs h = forK C base t rst b xs env h := nr rfl
theorem ex_for {t : Tg} {it : It} {b : S} {rst : List Nat} : MP.exec C base (.for_ t it b rst) env h = (evIt C it env h).thn env (kFor C base t rst b env) := by simp only [MP.exec] <;> rfl
theorem ex_while {c : E} {b : S} {rst : List Nat} : MP.exec C base (.while_ c b rst) env h = whK C base c rst b whFuel env h := by simp only [MP.exec] <;> rfl
def kRet : D → Mem → X := fun d h => .ret d h
theorem kRet_eq {d : D} : kRet d h = .ret d h := nr rfl
theorem ex_ret {e : E} : MP.exec C base (.ret e) env h = (ev C e env h).thn env kRet := by simp only [MP.exec] <;> rfl
theorem ex_retN : MP.exec C base .retN env h = .ret (.a .non) h := by simp only [MP.exec]
def kRaise (c : Nat) (env : Env) : D → Mem → X := fun d h => raiseK c d env h
theorem kRaise_eq {c : Nat} {d : D} : kRaise c env d h = raiseK c d env h := nr rfl
theorem ex_raise {c : Nat} {e : E} : MP.exec C base (.raise c e) env h = (ev C e env h).thn env (kRaise c env) := by simp only [MP.exec] <;> rfl
theorem ex_try {b : S} {hs : List (List Bool × Option Nat × S)} : MP.exec C base (.try_ b hs) env h = tryK C base hs (MP.exec C base b env h) := by simp only [MP.exec] <;> rfl
theorem ex_brk : MP.exec C base .brk env h = .brk env h := by simp only [MP.exec]
theorem ex_cnt : MP.exec C base .cnt env h = .cnt env h := by simp only [MP.exec]
theorem ex_frz {is : List Nat} : MP.exec C base (.frz is) env h = frzAll is env h := by simp only [MP.exec]
theorem tryK_nx {hs : List (List Bool × Option Nat × S)} : tryK C base hs (.nx env h) = .nx env h := nr rfl
theorem tryK_ret {hs : List (List Bool × Option Nat × S)} {d : D} : tryK C base hs (.ret d h) = .ret d h := nr rfl
def hndK (C : Ctx) (base : Nat) (c : Nat) (x : A) (env : Env) (h : Mem) (hs : List (List Bool × Option Nat × S)) : X := hnd c x env h (exeh C base hs)
theorem tryK_exc {hs : List (List Bool × Option Nat × S)} {c : Nat} {x : A} : tryK C base hs (.exc c x env h) = hndK C base c x env h hs := nr rfl
def hndK1 (t : Option Bool) (C : Ctx) (base : Nat) (c : Nat) (x : A) (env : Env) (h : Mem) (i : Option Nat) (s : S) (r : List (List Bool × Option Nat × S)) : X := match t with
  | none => .err
  | some false => hndK C base c x env h r
  | some true => (match i with
      | some i => (match MP.exec C base s (env.set i (some (.a x))) h with
        | .nx e h => .nx (e.set i none) h
        | .brk e h => .brk (e.set i none) h
        | .cnt e h => .cnt (e.set i none) h
        | .exc _ _ _ _ => .err
        | y => y)
      | none => (match MP.exec C base s env h with
        | .exc _ _ _ _ => .err
        | y => y))
theorem hndK_nil {c : Nat} {x : A} : hndK C base c x env h [] = .exc c x env h := by
  unfold hndK
  simp only [exeh, hnd]
theorem hndK_cons {c : Nat} {x : A} {cs : List Bool} {i : Option Nat} {s : S} {r : List (List Bool × Option Nat × S)} : hndK C base c x env h ((cs, i, s) :: r) = hndK1 cs[c]? C base c x env h i s r := by
  unfold hndK hndK1
  simp only [exeh, exeh1, exeh2, hnd] <;> rfl
theorem hndK1_f {c : Nat} {x : A} {i : Option Nat} {s : S} {r : List (List Bool × Option Nat × S)} : hndK1 (some false) C base c x env h i s r = hndK C base c x env h r := nr rfl
def unbK (i : Nat) (x : X) : X := match x with
  | .nx e h => .nx (e.set i none) h
  | .brk e h => .brk (e.set i none) h
  | .cnt e h => .cnt (e.set i none) h
  | .exc _ _ _ _ => .err
  | y => y
def unb0 (x : X) : X := match x with
  | .exc _ _ _ _ => .err
  | y => y
theorem hndK1_ti {c : Nat} {x : A} {i : Nat} {s : S} {r : List (List Bool × Option Nat × S)} : hndK1 (some true) C base c x env h (some i) s r = unbK i (MP.exec C base s (env.set i (some (.a x))) h) := by
  show (match MP.exec C base s (env.set i (some (.a x))) h with
        | .nx e h => X.nx (e.set i none) h
        | .brk e h => .brk (e.set i none) h
        | .cnt e h => .cnt (e.set i none) h
        | .exc _ _ _ _ => .err
        | y => y) = _
  cases MP.exec C base s (env.set i (some (.a x))) h <;> rfl
theorem hndK1_tn {c : Nat} {x : A} {s : S} {r : List (List Bool × Option Nat × S)} : hndK1 (some true) C base c x env h none s r = unb0 (MP.exec C base s env h) := by
  show (match MP.exec C base s env h with
        | .exc _ _ _ _ => X.err
        | y => y) = _
  cases MP.exec C base s env h <;> rfl
theorem unbK_ret {i : Nat} {d : D} : unbK i (.ret d h) = .ret d h := nr rfl
theorem unbK_nx {i : Nat} : unbK i (.nx env h) = .nx (env.set i none) h := nr rfl
theorem unb0_ret {d : D} : unb0 (.ret d h) = .ret d h := nr rfl
theorem unb0_nx : unb0 (.nx env h) = .nx env h := nr rfl
/-! ### results of primitives -/
theorem varK_ok {d : D} : varK (some (some d)) h = .ok d h := nr rfl
theorem tru_bl {b : Bool} : (R.ok (D.a (.bl b)) h).tru = .ok b h := nr rfl
theorem tru_int {i : Int} : (R.ok (D.a (.int i)) h).tru = .ok (decide (i ≠ 0)) h := nr rfl
theorem tru_tup {xs : List A} : (R.ok (D.a (.tup xs)) h).tru = .ok (!xs.isEmpty) h := nr rfl
theorem tru_lst {xs : List A} : (R.ok (D.a (.lst xs)) h).tru = .ok (!xs.isEmpty) h := nr rfl
theorem tru_non : (R.ok (D.a .non) h).tru = .ok false h := nr rfl
theorem tru_exc {c : Nat} {x : A} : (R.exc c x h : R D).tru = .exc c x h := nr rfl
theorem bin_addK {i j : Int} : binK false .Add (.a (.int i)) (.a (.int j)) h = .ok (.a (.int (i + j))) h := nr rfl
theorem bin_subK {i j : Int} : binK false .Sub (.a (.int i)) (.a (.int j)) h = .ok (.a (.int (i - j))) h := nr rfl
theorem bin_mulK {i j : Int} (e : mulOk i j = true) : binK false .Mult (.a (.int i)) (.a (.int j)) h = .ok (.a (.int (i * j))) h := by
  show (match bin .Mult (.int i) (.int j) with
    | some z => cel false z h
    | none => .err) = _
  rw [show bin .Mult (.int i) (.int j) = some (.int (i * j)) from if_pos e]
  rfl
theorem bin_modK {i j : Int} (e : 0 < j) : binK false .Mod (.a (.int i)) (.a (.int j)) h = .ok (.a (.int (i % j))) h := by
  show (match bin .Mod (.int i) (.int j) with
    | some z => cel false z h
    | none => .err) = _
  rw [show bin .Mod (.int i) (.int j) = some (.int (i % j)) from if_pos e]
  rfl
theorem bin_divK {i j : Int} (e : 0 < j) (e2 : j < 1073741824) : binK false .FloorDiv (.a (.int i)) (.a (.int j)) h = .ok (.a (.int (i / j))) h := by
  show (match bin .FloorDiv (.int i) (.int j) with
    | some z => cel false z h
    | none => .err) = _
  rw [show bin .FloorDiv (.int i) (.int j) = some (.int (i / j)) from if_pos (by rw [decide_eq_true e, decide_eq_true e2]; rfl)]
  rfl
theorem bin_add_tup {xs ys : List A} (e : xs.length + ys.length ≤ sizeLine) : binK false .Add (.a (.tup xs)) (.a (.tup ys)) h = .ok (.a (.tup (xs ++ ys))) h := by
  show (match bin .Add (.tup xs) (.tup ys) with
    | some z => cel false z h
    | none => .err) = _
  rw [show bin .Add (.tup xs) (.tup ys) = some (.tup (xs ++ ys)) from if_pos e]
  rfl
theorem bin_add_lst {xs ys : List A} (e : xs.length + ys.length ≤ sizeLine) : binK false .Add (.a (.lst xs)) (.a (.lst ys)) h = .ok (.a (.lst (xs ++ ys))) h := by
  show (match bin .Add (.lst xs) (.lst ys) with
    | some z => cel false z h
    | none => .err) = _
  rw [show bin .Add (.lst xs) (.lst ys) = some (.lst (xs ++ ys)) from if_pos e]
  rfl
theorem neg_int {i : Int} : negK (.a (.int i)) h = .ok (.a (.int (-i))) h := nr rfl
theorem c_lt {i j : Int} : cmpK .Lt (.a (.int i)) (.a (.int j)) h = .ok (.a (.bl (decide (i < j)))) h := nr rfl
theorem c_le {i j : Int} : cmpK .LtE (.a (.int i)) (.a (.int j)) h = .ok (.a (.bl (decide (i ≤ j)))) h := nr rfl
theorem c_gt {i j : Int} : cmpK .Gt (.a (.int i)) (.a (.int j)) h = .ok (.a (.bl (decide (j < i)))) h := nr rfl
theorem c_ge {i j : Int} : cmpK .GtE (.a (.int i)) (.a (.int j)) h = .ok (.a (.bl (decide (j ≤ i)))) h := nr rfl
theorem c_eq {i j : Int} : cmpK .Eq (.a (.int i)) (.a (.int j)) h = .ok (.a (.bl (decide (i = j)))) h := nr rfl
theorem c_ne {i j : Int} : cmpK .NotEq (.a (.int i)) (.a (.int j)) h = .ok (.a (.bl (!decide (i = j)))) h := nr rfl
theorem c_eqb {i j : Bool} : cmpK .Eq (.a (.bl i)) (.a (.bl j)) h = .ok (.a (.bl (i == j))) h := nr rfl
theorem c_neb {i j : Bool} : cmpK .NotEq (.a (.bl i)) (.a (.bl j)) h = .ok (.a (.bl (!(i == j)))) h := nr rfl
theorem m_lt {i j : Int} : cmp .Lt h (.a (.int i)) (.a (.int j)) = some (decide (i < j)) := nr rfl
theorem m_le {i j : Int} : cmp .LtE h (.a (.int i)) (.a (.int j)) = some (decide (i ≤ j)) := nr rfl
theorem m_gt {i j : Int} : cmp .Gt h (.a (.int i)) (.a (.int j)) = some (decide (j < i)) := nr rfl
theorem m_ge {i j : Int} : cmp .GtE h (.a (.int i)) (.a (.int j)) = some (decide (j ≤ i)) := nr rfl
theorem cmpK_of {o : CmpOp} {x y : D} {b : Bool} (e : cmp o h x y = some b) : cmpK o x y h = .ok (.a (.bl b)) h := by
  unfold cmpK
  rw [e]
  rfl
theorem idxK_of {x i d : D} (e : idx h x i = some d) : idxK x i h = .ok d h := by
  unfold idxK
  rw [e]
  rfl
theorem slcK_of {x : D} {lo hi : Option Int} {z : A} (e : slc h x lo hi = some z) : slcK false x lo hi h = .ok (.a z) h := by
  unfold slcK
  rw [e]
  rfl
theorem biK_of {b : Bi} {ds : List D} {z : A} (e : bi b h ds = some z) : biK false b ds h = .ok (.a z) h := by
  unfold biK
  rw [e]
  rfl
theorem isiK_of {x : D} {ts : List Ty} {b : Bool} (e : isi h x ts = some b) : isiK x ts h = .ok (.a (.bl b)) h := by
  unfold isiK
  rw [e]
  rfl
theorem seq_tup {xs : List A} : seqK (.a (.tup xs)) h = .ok (xs.map .a) h := nr rfl
theorem seq_lst {xs : List A} : seqK (.a (.lst xs)) h = .ok (xs.map .a) h := nr rfl
theorem rng1_int {n : Int} (e : rngOk n = true) : rng1K (.a (.int n)) h = .ok (rngL 0 n.toNat) h := if_pos e
theorem rng2_int {i j : Int} (e : (rngOk i && rngOk j) = true) : rng2K (.a (.int i)) (.a (.int j)) h = .ok (rngL i (j - i).toNat) h := if_pos e
theorem len_tup {xs : List A} : biK false .len [.a (.tup xs)] h = .ok (.a (.int xs.length)) h := nr rfl
theorem len_lst {xs : List A} : biK false .len [.a (.lst xs)] h = .ok (.a (.int xs.length)) h := nr rfl
theorem toList_tup {xs : List A} : biK false .toList [.a (.tup xs)] h = .ok (.a (.lst xs)) h := nr rfl
theorem toList_lst {xs : List A} : biK false .toList [.a (.lst xs)] h = .ok (.a (.lst xs)) h := nr rfl
theorem toTup_tup {xs : List A} : biK false .toTuple [.a (.tup xs)] h = .ok (.a (.tup xs)) h := nr rfl
theorem toTup_lst {xs : List A} : biK false .toTuple [.a (.lst xs)] h = .ok (.a (.tup xs)) h := nr rfl
theorem int1_int {i : Int} : biK false .int1 [.a (.int i)] h = .ok (.a (.int i)) h := nr rfl
theorem int1_bl {b : Bool} : biK false .int1 [.a (.bl b)] h = .ok (.a (.int (if b then 1 else 0))) h := nr rfl
theorem min2_int {i j : Int} : biK false .min2 [.a (.int i), .a (.int j)] h = .ok (.a (.int (if j < i then j else i))) h := nr rfl
theorem max2_int {i j : Int} : biK false .max2 [.a (.int i), .a (.int j)] h = .ok (.a (.int (if j > i then j else i))) h := nr rfl
theorem abs_int {i : Int} : biK false .abs [.a (.int i)] h = .ok (.a (.int (if i < 0 then -i else i))) h := nr rfl
theorem asg_nm {i : Nat} {d : D} : asgK (.nm i) d h env = .nx (env.set i (some d)) h := nr rfl
theorem tup1 {a : A} : tupK [.a a] h = .ok (.a (.tup [a])) h := nr rfl
theorem tup0 : tupK [] h = .ok (.a (.tup [])) h := nr rfl
theorem tup2 {a b : A} : tupK [.a a, .a b] h = .ok (.a (.tup [a, b])) h := nr rfl
theorem tup3 {a b c : A} : tupK [.a a, .a b, .a c] h = .ok (.a (.tup [a, b, c])) h := nr rfl
theorem tup4 {a b c d : A} : tupK [.a a, .a b, .a c, .a d] h = .ok (.a (.tup [a, b, c, d])) h := nr rfl
def lcE (C : Ctx) (elt : E) (ifs : Option E) (e : Env) (h : Mem) : R (List D) := (evf C ifs e h).bind fun b h => if b = true then (ev C elt e h).bind fun d h => .ok [d] h else .ok [] h
def kOne : D → Mem → R (List D) := fun d h => .ok [d] h
theorem kOne_eq {d : D} : kOne d h = .ok [d] h := nr rfl
def kLcE (C : Ctx) (elt : E) (e : Env) : Bool → Mem → R (List D) := fun b h => if b = true then (ev C elt e h).bind kOne else .ok [] h
theorem kLcE_t {elt : E} {e : Env} : kLcE C elt e true h = (ev C elt e h).bind kOne := nr rfl
theorem kLcE_f {elt : E} {e : Env} : kLcE C elt e false h = .ok [] h := nr rfl
theorem lcE_eq {elt : E} {ifs : Option E} {e : Env} : lcE C elt ifs e h = (evf C ifs e h).bind (kLcE C elt e) := nr rfl
theorem lcQ_nm {elt : E} {i : Nat} {ifs : Option E} {own : List Nat} {x : D} : lcQ C elt (.nm i) ifs own env x h = lcE C elt ifs ((rstE own env).set i (some x)) h := nr rfl
theorem lcQ_tp2 {elt : E} {i j : Nat} {ifs : Option E} {own : List Nat} {a b : A} : lcQ C elt (.tp [i, j]) ifs own env (.a (.tup [a, b])) h = lcE C elt ifs (((rstE own env).set i (some (.a a))).set j (some (.a b))) h := nr rfl
theorem lcQ_tp3 {elt : E} {i j k : Nat} {ifs : Option E} {own : List Nat} {a b c : A} : lcQ C elt (.tp [i, j, k]) ifs own env (.a (.tup [a, b, c])) h = lcE C elt ifs ((((rstE own env).set i (some (.a a))).set j (some (.a b))).set k (some (.a c))) h := nr rfl
theorem lcK1_nm {elt : E} {i : Nat} {ifs : Option E} {x : D} : lcK1 C elt (.nm i) ifs env x h = lcE C elt ifs (env.set i (some x)) h := nr rfl
theorem lcK1_tp2 {elt : E} {i j : Nat} {ifs : Option E} {a b : A} : lcK1 C elt (.tp [i, j]) ifs env (.a (.tup [a, b])) h = lcE C elt ifs ((env.set i (some (.a a))).set j (some (.a b))) h := nr rfl
def lcE2 (C : Ctx) (elt : E) (ifs : Option E) (t1 : Tg) (it1 : It) (ifs1 : Option E) (own1 : List Nat) (e : Env) (h : Mem) : R (List D) := (evf C ifs e h).bind fun b h => if b = true then (evIt C it1 e h).bind fun ys h => lcD (lcK1 C elt t1 ifs1 (rstE own1 e)) ys h else .ok [] h
def kLcE3 (C : Ctx) (elt : E) (t1 : Tg) (ifs1 : Option E) (own1 : List Nat) (e : Env) : List D → Mem → R (List D) := fun ys h => lcD (lcK1 C elt t1 ifs1 (rstE own1 e)) ys h
theorem kLcE3_eq {elt : E} {t1 : Tg} {ifs1 : Option E} {own1 : List Nat} {e : Env} {ys : List D} : kLcE3 C elt t1 ifs1 own1 e ys h = lcD (lcK1 C elt t1 ifs1 (rstE own1 e)) ys h := nr rfl
def kLcE2 (C : Ctx) (elt : E) (t1 : Tg) (it1 : It) (ifs1 : Option E) (own1 : List Nat) (e : Env) : Bool → Mem → R (List D) := fun b h => if b = true then (evIt C it1 e h).bind (kLcE3 C elt t1 ifs1 own1 e) else .ok [] h
theorem kLcE2_t {elt : E} {t1 : Tg} {it1 : It} {ifs1 : Option E} {own1 : List Nat} {e : Env} : kLcE2 C elt t1 it1 ifs1 own1 e true h = (evIt C it1 e h).bind (kLcE3 C elt t1 ifs1 own1 e) := nr rfl
theorem kLcE2_f {elt : E} {t1 : Tg} {it1 : It} {ifs1 : Option E} {own1 : List Nat} {e : Env} : kLcE2 C elt t1 it1 ifs1 own1 e false h = .ok [] h := nr rfl
theorem lcE2_eq {elt : E} {ifs : Option E} {t1 : Tg} {it1 : It} {ifs1 : Option E} {own1 : List Nat} {e : Env} : lcE2 C elt ifs t1 it1 ifs1 own1 e h = (evf C ifs e h).bind (kLcE2 C elt t1 it1 ifs1 own1 e) := nr rfl
theorem lcK2_nm {elt : E} {i : Nat} {ifs : Option E} {t1 : Tg} {it1 : It} {ifs1 : Option E} {own own1 : List Nat} {x : D} : lcK2 C elt (.nm i) ifs t1 it1 ifs1 own own1 env x h = lcE2 C elt ifs t1 it1 ifs1 own1 ((rstE own env).set i (some x)) h := nr rfl
theorem lcK2_tp2 {elt : E} {i j : Nat} {ifs : Option E} {t1 : Tg} {it1 : It} {ifs1 : Option E} {own own1 : List Nat} {a b : A} : lcK2 C elt (.tp [i, j]) ifs t1 it1 ifs1 own own1 env (.a (.tup [a, b])) h = lcE2 C elt ifs t1 it1 ifs1 own1 (((rstE own env).set i (some (.a a))).set j (some (.a b))) h := nr rfl
theorem rstE_nil : rstE [] env = env := nr rfl
theorem rstE_cons {i : Nat} {r : List Nat} : rstE (i :: r) env = rstE r (env.set i none) := nr rfl
theorem asg_tp2 {i j : Nat} {a b : A} : asgK (.tp [i, j]) (.a (.tup [a, b])) h env = .nx ((env.set i (some (.a a))).set j (some (.a b))) h := nr rfl
theorem asg_tp3 {i j k : Nat} {a b c : A} : asgK (.tp [i, j, k]) (.a (.tup [a, b, c])) h env = .nx (((env.set i (some (.a a))).set j (some (.a b))).set k (some (.a c))) h := nr rfl
theorem asg_tp4 {i j k l : Nat} {a b c d : A} : asgK (.tp [i, j, k, l]) (.a (.tup [a, b, c, d])) h env = .nx ((((env.set i (some (.a a))).set j (some (.a b))).set k (some (.a c))).set l (some (.a d))) h := nr rfl
theorem forK_nil {t : Tg} {rst : List Nat} {b : S} : forK C base t rst b [] env h = .nx env h := nr rfl
theorem par1 {i : Nat} {a : D} : parK [i] [a] env h = .nx (env.set i (some a)) h := nr rfl
theorem par2 {i j : Nat} {a b : D} : parK [i, j] [a, b] env h = .nx ((env.set j (some b)).set i (some a)) h := nr rfl
theorem par3 {i j k : Nat} {a b c : D} : parK [i, j, k] [a, b, c] env h = .nx (((env.set k (some c)).set j (some b)).set i (some a)) h := nr rfl
end
end MP
end
section
set_option Elab.async false
set_option linter.all false
set_option maxRecDepth 100000
set_option maxHeartbeats 4000000
/-! MP: running programs by hand: calls, sequences, loops, comprehensions. -/
namespace MP
open PySem
section
variable {G : Prg} {C : Ctx} {k base f : Nat} {h : Mem} {env : Env}
theorem callF_run {fi : FnI} {ds : List D} (hf : G.fns[f]? = some fi) (hl : ds.length = fi.np) :
    callF G (k + 1) f ds h = fin h.length (exec ⟨G, runF G k⟩ h.length fi.body (ds.map some ++ List.replicate (fi.ns - fi.np) none) h) := by
  unfold callF runF
  rw [hf]
  show fin h.length (if ds.length = fi.np then _ else _) = _
  rw [if_pos hl]
theorem call_eq {ds : List D} : Ctx.call ⟨G, runF G k⟩ f ds h = callF G k f ds h := rfl
theorem exec_seq (a b : S) : exec C base (.seq a b) env h = match exec C base a env h with
    | .nx env h => exec C base b env h
    | x => x := by
  simp only [exec] <;> cases exec C base a env h <;> rfl
theorem exec_seq_nx {a b : S} {env' : Env} {h' : Mem} (e : exec C base a env h = .nx env' h') : exec C base (.seq a b) env h = exec C base b env' h' := by
  rw [exec_seq, e]
theorem exec_seq_ret {a b : S} {d : D} {h' : Mem} (e : exec C base a env h = .ret d h') : exec C base (.seq a b) env h = .ret d h' := by
  rw [exec_seq, e]
theorem fin_ret {n : Nat} {x : A} : fin n (.ret (.a x) h) = .ok (.a x) (h.take n) := rfl
theorem take_self : h.take h.length = h := List.take_length
/-- statement number n, and what follows -/
def S.at : S → Nat → S
  | .seq a _, 0 => a
  | .seq _ b, n + 1 => b.at n
  | _, _ => .skip
def S.from : S → Nat → S
  | s, 0 => s
  | .seq _ b, n + 1 => b.from n
  | _, _ + 1 => .skip
/-- the first n statements -/
def S.til : S → Nat → S
  | _, 0 => .skip
  | .seq a b, n + 1 => .seq a (b.til n)
  | _, _ + 1 => .brk
theorem exec_til {n : Nat} : ∀ {s : S} {env' : Env} {h' : Mem} {env : Env} {h : Mem}, exec C base (s.til n) env h = .nx env' h' → exec C base s env h = exec C base (s.from n) env' h' := by
  induction n with
  | zero =>
    intro s env' h' env h e
    simp only [S.til, exec] at e
    cases e
    cases s <;> rfl
  | succ n ih =>
    intro s env' h' env h e
    cases s with
    | seq a b =>
      simp only [S.til, exec_seq] at e
      rw [exec_seq]
      cases ha : exec C base a env h <;> rw [ha] at e <;> try cases e
      exact ih e
    | _ =>
      simp only [S.til, exec] at e
      cases e
/-- a loop, by what holds ahead of each turn -/
theorem forL_q {t : Tg} {rst : List Nat} {body : Env → Mem → X} (P : List D → Env → Mem → Prop) (Q : X → Prop)
    (hs : ∀ x xs env h, P (x :: xs) env h → ∃ e, setTg t x h env = some e ∧ (match body e h with
      | .nx e h => P xs (rstE rst e) h
      | .cnt e h => P xs (rstE rst e) h
      | .brk e h => Q (.nx (rstE rst e) h)
      | .ret d h => Q (.ret d h)
      | .exc c x e h => Q (.exc c x e h)
      | .err => False)) (he : ∀ env h, P [] env h → Q (.nx env h)) :
    ∀ xs env h, P xs env h → Q (forL t rst body xs env h) := by
  intro xs
  induction xs with
  | nil => exact he
  | cons x xs ih =>
    intro env h hp
    obtain ⟨e, h1, h2⟩ := hs x xs env h hp
    unfold forL
    rw [h1]
    show Q ((body e h).turn rst (forL t rst body xs))
    cases hb : body e h <;> rw [hb] at h2
    · exact ih _ _ h2
    · exact h2
    · exact h2
    · exact ih _ _ h2
    · exact h2
    · exact h2.elim
/-- a loop that goes to its end -/
theorem forL_nx {t : Tg} {rst : List Nat} {body : Env → Mem → X} (P : List D → Env → Mem → Prop)
    (hs : ∀ x xs env h, P (x :: xs) env h → ∃ e e' h', setTg t x h env = some e ∧ body e h = .nx e' h' ∧ P xs (rstE rst e') h')
    {xs : List D} {env : Env} {h : Mem} (hp : P xs env h) : ∃ e' h', forL t rst body xs env h = .nx e' h' ∧ P [] e' h' := by
  refine forL_q P (fun x => ∃ e' h', x = .nx e' h' ∧ P [] e' h') ?_ (fun e h hp => ⟨e, h, rfl, hp⟩) xs env h hp
  intro x xs env h hp
  obtain ⟨e, e', h', h1, h2, h3⟩ := hs x xs env h hp
  refine ⟨e, h1, ?_⟩
  rw [h2]
  exact h3
/-- comprehensions of plain elements -/
theorem lcD_pure {step : D → Mem → R (List D)} (g : D → List D) {h : Mem} : ∀ {xs : List D}, (∀ x ∈ xs, step x h = .ok (g x) h) → lcD step xs h = .ok (xs.flatMap g) h
  | [], _ => rfl
  | x :: xs, hs => by
    unfold lcD
    rw [hs x List.mem_cons_self]
    show (lcD step xs h).bind _ = _
    rw [lcD_pure g fun y hy => hs y (List.mem_cons_of_mem _ hy)]
    rfl
theorem toAs_mapA (xs : List A) : D.toAs (xs.map D.a) = some xs := by
  induction xs with
  | nil => rfl
  | cons x xs ih =>
    show (match D.toAs (xs.map D.a) with
      | some xs => some (x :: xs)
      | none => none) = _
    rw [ih]
theorem mkL_f {xs : List A} (hl : xs.length ≤ sizeLine) : mkL false (xs.map D.a) h = .ok (.a (.lst xs)) h := by
  unfold mkL
  rw [List.length_map, if_pos hl, toAs_mapA]
  rfl
theorem mkL_t {xs : List A} (hl : xs.length ≤ sizeLine) : mkL true (xs.map D.a) h = .ok (.ref h.length) (h ++ [.lst xs]) := by
  unfold mkL
  rw [List.length_map, if_pos hl, toAs_mapA]
  rfl
theorem lows_int (n : Nat) (xs : List Int) : A.lows (xs.map .int) n = true := by
  induction xs with
  | nil => rfl
  | cons x xs ih =>
    show (A.low (.int x) n && A.lows (xs.map .int) n) = true
    rw [ih]
    rfl
theorem inA_int (i : Int) (xs : List Int) : inA (.int i) (xs.map .int) = decide (i ∈ xs) := by
  induction xs with
  | nil => rfl
  | cons x xs ih =>
    show (decide (x = i) || inA (.int i) (xs.map .int)) = _
    rw [ih, Bool.eq_iff_iff, Bool.or_eq_true, decide_eq_true_iff, decide_eq_true_iff, decide_eq_true_iff, List.mem_cons]
    exact ⟨fun h => h.imp_left Eq.symm, fun h => h.imp_left Eq.symm⟩
theorem cmp_in_tup (i : Int) (xs : List Int) : cmp .In h (.a (.int i)) (.a (.tup (xs.map .int))) = some (decide (i ∈ xs)) := by
  show (if (A.lowB (.int i) && A.lows (xs.map .int) 50) = true then some (inA (.int i) (xs.map .int)) else none) = _
  rw [lows_int, inA_int]
  rfl
theorem cmp_in_lst (i : Int) (xs : List Int) : cmp .In h (.a (.int i)) (.a (.lst (xs.map .int))) = some (decide (i ∈ xs)) := by
  show (if (A.lowB (.int i) && A.lows (xs.map .int) 50) = true then some (inA (.int i) (xs.map .int)) else none) = _
  rw [lows_int, inA_int]
  rfl
theorem cmp_eq_bl (a b : Bool) : cmp .Eq h (.a (.bl a)) (.a (.bl b)) = some (a == b) := rfl
theorem cmp_ne_bl (a b : Bool) : cmp .NotEq h (.a (.bl a)) (.a (.bl b)) = some (!(a == b)) := rfl
theorem cmp_eq_int (a b : Int) : cmp .Eq h (.a (.int a)) (.a (.int b)) = some (decide (a = b)) := rfl
theorem cmp_ne_int (a b : Int) : cmp .NotEq h (.a (.int a)) (.a (.int b)) = some (!decide (a = b)) := rfl
theorem ints_map (xs : List Int) : ints? (xs.map .int) = some xs := by
  induction xs with
  | nil => rfl
  | cons x xs ih =>
    show (match ints? (xs.map A.int) with
      | some is => some (x :: is)
      | none => none) = _
    rw [ih]
theorem bools_map (xs : List Bool) : bools? (xs.map .bl) = some xs := by
  induction xs with
  | nil => rfl
  | cons x xs ih =>
    show (match bools? (xs.map A.bl) with
      | some is => some (x :: is)
      | none => none) = _
    rw [ih]
theorem idxN_nat {n k : Nat} (hk : k < n) : idxN n (k : Int) = some k := by
  unfold idxN L2.ixN
  rw [if_pos (by omega), if_pos (by omega)]
  rfl
theorem idx_lst {xs : List A} {k : Nat} (hk : k < xs.length) : idx h (.a (.lst xs)) (.a (.int k)) = some (.a xs[k]) := by
  show (idxN xs.length (k : Int)).bind _ = _
  rw [idxN_nat hk]
  show (xs[k]?).map D.a = _
  rw [List.getElem?_eq_getElem hk]
  rfl
theorem idx_tup {xs : List A} {k : Nat} (hk : k < xs.length) : idx h (.a (.tup xs)) (.a (.int k)) = some (.a xs[k]) := by
  show (idxN xs.length (k : Int)).bind _ = _
  rw [idxN_nat hk]
  show (xs[k]?).map D.a = _
  rw [List.getElem?_eq_getElem hk]
  rfl
theorem filter_flat {α β : Type} (p : α → Bool) (b : β) : ∀ xs : List α, (xs.flatMap fun i => if p i = true then [b] else []) = (xs.filter p).map fun _ => b
  | [] => rfl
  | x :: xs => by
    rw [List.flatMap_cons, filter_flat p b xs, List.filter_cons]
    cases p x <;> rfl
/-- a comprehension that counts -/
theorem lc_count {step : D → Mem → R (List D)} {xs : List D} (p : D → Bool) (hs : ∀ x ∈ xs, step x h = .ok (if p x = true then [.a (.int 1)] else []) h) :
    lcD step xs h = .ok (((xs.filter p).map fun _ => A.int 1).map D.a) h := by
  rw [lcD_pure (fun x => if p x = true then [.a (.int 1)] else []) hs, filter_flat, List.map_map]
  rfl
theorem filter_rng (p : D → Bool) (n : Nat) : ((rngL 0 n).filter p).length = ((List.range n).filter fun i : Nat => p (.a (.int i))).length := by
  unfold rngL
  rw [List.filter_map, List.length_map]
  congr 1
  congr 1
  funext i
  show p (.a (.int (0 + i))) = _
  rw [Int.zero_add]
theorem rngL_mem {n : Nat} {x : D} (hx : x ∈ rngL 0 n) : ∃ i, i < n ∧ x = .a (.int (i : Nat)) := by
  obtain ⟨i, hi, rfl⟩ := List.mem_map.mp hx
  refine ⟨i, List.mem_range.mp hi, ?_⟩
  rw [Int.zero_add]
theorem rngOk_nat {n : Nat} (h : n ≤ 1000000) : rngOk (n : Int) = true := by
  unfold rngOk
  rw [decide_eq_true (by omega), decide_eq_true (by omega)]
  rfl
theorem forK_aux {t : Tg} {rst : List Nat} {b : S} (P : Nat → Env → Mem → Prop) : ∀ (xs : List D) (j : Nat) (env : Env) (h : Mem),
    (∀ i (hi : i < xs.length) env h, P (j + i) env h → ∃ e e' h', setTg t xs[i] h env = some e ∧ MP.exec C base b e h = .nx e' h' ∧ P (j + i + 1) (rstE rst e') h') → P j env h →
    ∃ e' h', forK C base t rst b xs env h = .nx e' h' ∧ P (j + xs.length) e' h'
  | [], j, env, h, _, hp => ⟨env, h, rfl, hp⟩
  | x :: xs, j, env, h, hs, hp => by
    obtain ⟨e, e', h', h1, h2, h3⟩ := hs 0 (Nat.zero_lt_succ _) env h hp
    have h1 : setTg t x h env = some e := h1
    unfold forK forL
    rw [h1]
    show ∃ e'' h'', (MP.exec C base b e h).turn rst (forL t rst _ xs) = .nx e'' h'' ∧ _
    rw [h2]
    have := forK_aux P xs (j + 1) (rstE rst e') h' (fun i hi env h hp => by
      have := hs (i + 1) (by rw [List.length_cons]; omega) env h (by rw [show j + (i + 1) = j + 1 + i from by omega]; exact hp)
      obtain ⟨e, e', h', a, b, c⟩ := this
      exact ⟨e, e', h', a, b, by rw [show j + 1 + i + 1 = j + (i + 1) + 1 from by omega]; exact c⟩) h3
    obtain ⟨e2, h2, a, b⟩ := this
    refine ⟨e2, h2, a, ?_⟩
    rw [List.length_cons, Nat.add_comm xs.length 1, ← Nat.add_assoc]
    exact b
/-- a loop through a list, by what holds ahead of turn j -/
theorem forK_ix {t : Tg} {rst : List Nat} {b : S} (P : Nat → Env → Mem → Prop) {xs : List D} (h0 : P 0 env h)
    (hs : ∀ j (hj : j < xs.length) env h, P j env h → ∃ e e' h', setTg t xs[j] h env = some e ∧ MP.exec C base b e h = .nx e' h' ∧ P (j + 1) (rstE rst e') h') :
    ∃ e' h', forK C base t rst b xs env h = .nx e' h' ∧ P xs.length e' h' := by
  have := forK_aux (C := C) (base := base) (t := t) (rst := rst) (b := b) P xs 0 env h (fun i hi env h hp => by
    rw [Nat.zero_add] at hp ⊢
    exact hs i hi env h hp) h0
  rw [Nat.zero_add] at this
  exact this
theorem rngL_len {lo : Int} {n : Nat} : (rngL lo n).length = n := by
  unfold rngL
  rw [List.length_map, List.length_range]
theorem rngL_at {lo : Int} {n j : Nat} (hj : j < (rngL lo n).length) : (rngL lo n)[j] = .a (.int (lo + j)) := by
  have e : rngL lo n = (List.range n).map fun (k : Nat) => D.a (.int (lo + k)) := rfl
  have hj' : j < ((List.range n).map fun (k : Nat) => D.a (.int (lo + k))).length := hj
  show ((List.range n).map fun (k : Nat) => D.a (.int (lo + k)))[j]'hj' = _
  rw [List.getElem_map, List.getElem_range]
/-- a loop through range -/
theorem forK_rng {t : Tg} {rst : List Nat} {b : S} (P : Nat → Env → Mem → Prop) {lo : Int} {n : Nat} (h0 : P 0 env h)
    (hs : ∀ j, j < n → ∀ env h, P j env h → ∃ e e' h', setTg t (.a (.int (lo + j))) h env = some e ∧ MP.exec C base b e h = .nx e' h' ∧ P (j + 1) (rstE rst e') h') :
    ∃ e' h', forK C base t rst b (rngL lo n) env h = .nx e' h' ∧ P n e' h' := by
  have := forK_ix (C := C) (base := base) (t := t) (rst := rst) (b := b) (xs := rngL lo n) P h0 (fun j hj env h hp => by
    rw [rngL_at hj]
    exact hs j (by rw [rngL_len] at hj; exact hj) env h hp)
  rw [rngL_len] at this
  exact this
/-- a loop through range whose turns follow a function -/
theorem forK_fn {t : Tg} {rst : List Nat} {b : S} {lo : Int} {n : Nat} (E : Nat → Option D → Env) {v : Option D} (h0 : env = E 0 v)
    (hs : ∀ j, j < n → ∀ v, ∃ e e' v', setTg t (.a (.int (lo + j))) h (E j v) = some e ∧ MP.exec C base b e h = .nx e' h ∧ rstE rst e' = E (j + 1) v') :
    ∃ v, forK C base t rst b (rngL lo n) env h = .nx (E n v) h := by
  obtain ⟨e', h', a, ⟨v, b⟩, c⟩ := forK_rng (C := C) (base := base) (t := t) (rst := rst) (b := b) (lo := lo) (n := n) (env := env) (h := h) (fun j e h' => (∃ v, e = E j v) ∧ h' = h) ⟨⟨v, h0⟩, rfl⟩ (by
    rintro j hj env h' ⟨⟨v, rfl⟩, rfl⟩
    obtain ⟨e, e', v', a, b, c⟩ := hs j hj v
    exact ⟨e, e', h', a, b, ⟨v', c⟩, rfl⟩)
  subst b
  subst c
  exact ⟨v, a⟩
theorem cut_from {α : Type} (xs : List α) (n : Nat) : cut xs (some (n : Int)) none = xs.drop n := by
  unfold cut
  rw [show HT.sIx xs.length 0 (some (n : Int)) = min n xs.length from HT.sIx_nat _ _ _, show HT.sIx xs.length xs.length none = xs.length from rfl]
  rcases Nat.le_total n xs.length with c | c
  · rw [Nat.min_eq_left c, List.take_of_length_le]
    rw [List.length_drop]; exact Nat.le_refl _
  · rw [Nat.min_eq_right c, List.drop_length, List.drop_of_length_le c, List.take_nil]
theorem cut_til {α : Type} (xs : List α) (n : Nat) : cut xs none (some (n : Int)) = xs.take n := by
  unfold cut
  rw [show HT.sIx xs.length xs.length (some (n : Int)) = min n xs.length from HT.sIx_nat _ _ _, show HT.sIx xs.length 0 none = 0 from rfl, List.drop_zero, Nat.sub_zero]
  rcases Nat.le_total n xs.length with c | c
  · rw [Nat.min_eq_left c]
  · rw [Nat.min_eq_right c, List.take_length, List.take_of_length_le c]
theorem slc_lst {xs : List A} {lo hi : Option Int} : slcK false (.a (.lst xs)) lo hi h = .ok (.a (.lst (cut xs lo hi))) h := rfl
theorem slc_tup {xs : List A} {lo hi : Option Int} : slcK false (.a (.tup xs)) lo hi h = .ok (.a (.tup (cut xs lo hi))) h := rfl
theorem zip_lst {xs ys : List A} : zipK (.a (.lst xs)) (.a (.lst ys)) h = .ok ((xs.zip ys).map fun p => .a (.tup [p.1, p.2])) h := rfl
theorem zip_tl {xs ys : List A} : zipK (.a (.tup xs)) (.a (.lst ys)) h = .ok ((xs.zip ys).map fun p => .a (.tup [p.1, p.2])) h := rfl
theorem zip_tt {xs ys : List A} : zipK (.a (.tup xs)) (.a (.tup ys)) h = .ok ((xs.zip ys).map fun p => .a (.tup [p.1, p.2])) h := rfl
theorem dedI_id : ∀ {xs : List Int}, xs.Nodup → dedI xs = xs
  | [], _ => rfl
  | x :: xs, n => by
    have n' := List.nodup_cons.mp n
    unfold dedI
    rw [if_neg (by rw [List.contains_iff_mem]; exact n'.1), dedI_id n'.2]
theorem lenSet_lst {xs : List Int} (n : xs.Nodup) (hl : xs.length < 4000) : biK false .lenSet [.a (.lst (xs.map .int))] h = .ok (.a (.int xs.length)) h := by
  refine biK_of ?_
  show ((some (xs.map A.int)).bind fun xs => (ints? xs).bind fun is => if is.length < 4000 then some (A.int (dedI is).length) else none) = _
  show ((ints? (xs.map A.int)).bind fun is => if is.length < 4000 then some (A.int (dedI is).length) else none) = _
  rw [ints_map]
  show (if xs.length < 4000 then some (A.int (dedI xs).length) else none) = _
  rw [if_pos hl, dedI_id n]
theorem all_lst {bs : List Bool} : biK false .all [.a (.lst (bs.map .bl))] h = .ok (.a (.bl (bs.all id))) h := by
  refine biK_of ?_
  show ((bools? (bs.map A.bl)).map fun bs => A.bl (bs.all id)) = _
  rw [bools_map]
  rfl
theorem any_lst {bs : List Bool} : biK false .any [.a (.lst (bs.map .bl))] h = .ok (.a (.bl (bs.any id))) h := by
  refine biK_of ?_
  show ((bools? (bs.map A.bl)).map fun bs => A.bl (bs.any id)) = _
  rw [bools_map]
  rfl
/-- a comprehension of plain elements, one for each -/
theorem lc_map {α : Type} {step : D → Mem → R (List D)} (enc : α → D) (g : α → A) {xs : List α} (hs : ∀ x ∈ xs, step (enc x) h = .ok [.a (g x)] h) :
    lcD step (xs.map enc) h = .ok ((xs.map g).map D.a) h := by
  induction xs with
  | nil => rfl
  | cons x xs ih =>
    show (step (enc x) h).bind _ = _
    rw [hs x List.mem_cons_self]
    show (lcD step (xs.map enc) h).bind _ = _
    rw [ih fun y hy => hs y (List.mem_cons_of_mem _ hy)]
    rfl
/-- a loop through a list whose turns follow a function, up to what is forgotten -/
theorem forK_fnl {σ : Type} {t : Tg} {rst : List Nat} {b : S} {xs : List D} (E : Nat → σ → Env) {v : σ} (h0 : env = E 0 v)
    (hs : ∀ j (hj : j < xs.length) v, ∃ e e' v', setTg t xs[j] h (E j v) = some e ∧ MP.exec C base b e h = .nx e' h ∧ rstE rst e' = E (j + 1) v') :
    ∃ v, forK C base t rst b xs env h = .nx (E xs.length v) h := by
  obtain ⟨e', h', a, ⟨v, b⟩, c⟩ := forK_ix (C := C) (base := base) (t := t) (rst := rst) (b := b) (xs := xs) (env := env) (h := h) (fun j e h' => (∃ v, e = E j v) ∧ h' = h) ⟨⟨v, h0⟩, rfl⟩ (by
    rintro j hj env h' ⟨⟨v, rfl⟩, rfl⟩
    obtain ⟨e, e', v', a, b, c⟩ := hs j hj v
    exact ⟨e, e', h', a, b, ⟨v', c⟩, rfl⟩)
  subst b
  subst c
  exact ⟨v, a⟩
theorem bmK_app {n : Nat} {xs ys : List A} {x : A} {f : Mem → R (List D)} {h' : Mem} (e1 : h[n]? = some (.lst xs)) (e2 : f h = .ok [.a x] h') (e3 : h'[n]? = some (.lst ys)) (hl : ys.length < sizeLine) :
    bmK .append (.ref n) h f = .ok (.a .non) (h'.set n (.lst (ys ++ [x]))) := by
  unfold bmK
  have p : bmPre .append h (.ref n) = true := by
    show (match h[n]? with
      | some (.lst _) => true
      | _ => false) = true
    rw [e1]
  rw [if_pos p, e2]
  show bm .append h' (.ref n) [.a x] = _
  show (match h'[n]? with
    | some (.lst xs) => if xs.length < sizeLine then R.ok (D.a .non) (h'.set n (.lst (xs ++ [x]))) else .err
    | _ => .err) = _
  rw [e3]
  show (if ys.length < sizeLine then R.ok (D.a .non) (h'.set n (.lst (ys ++ [x]))) else .err) = _
  rw [if_pos hl]
/-- a while by a number that falls -/
theorem whK_m {c : E} {rst : List Nat} {b : S} (I : Nat → Env → Mem → Prop) (Q : Env → Mem → Prop)
    (step : ∀ n env h, I n env h → (∃ e' h' n', (ev C c env h).tru = .ok true h ∧ MP.exec C base b env h = .nx e' h' ∧ n' < n ∧ I n' (rstE rst e') h') ∨ ((ev C c env h).tru = .ok false h ∧ Q env h)) :
    ∀ fuel n env h, I n env h → n < fuel → ∃ e' h', whK C base c rst b fuel env h = .nx e' h' ∧ Q e' h' := by
  intro fuel
  induction fuel with
  | zero => intro n env h _ hn; exact absurd hn (Nat.not_lt_zero _)
  | succ fuel ih =>
    intro n env h hi hn
    rcases step n env h hi with ⟨e', h', n', q1, q2, q3, q4⟩ | ⟨q1, q2⟩
    · obtain ⟨e2, h2, a, d⟩ := ih n' (rstE rst e') h' q4 (by omega)
      refine ⟨e2, h2, ?_, d⟩
      show R.thn (ev C c env h).tru env (fun b1 h => if b1 then (MP.exec C base b env h).turn rst (whL rst _ _ fuel) else .nx env h) = _
      rw [q1]
      show (MP.exec C base b env h).turn rst (whL rst _ _ fuel) = _
      rw [q2]
      exact a
    · refine ⟨env, h, ?_, q2⟩
      show R.thn (ev C c env h).tru env (fun b1 h => if b1 then (MP.exec C base b env h).turn rst (whL rst _ _ fuel) else .nx env h) = _
      rw [q1]
      rfl
end
end MP
end
section
set_option Elab.async false
set_option linter.all false
set_option maxRecDepth 100000
set_option maxHeartbeats 4000000
/-! MP: what the laws share: the comparison, the change of one number in a claim. -/
namespace MP
open PySem
def sameI (i : Nat) : FnI := ⟨3, 2, (.seq (.ite (.or (.isi (.var 1) [.tuple]) (.isi (.var 1) [.list])) (.seq (.ite (.or (.cmp .NotEq (.isi (.var 1) [.tuple]) (.isi (.var 0) [.tuple])) (.cmp .NotEq (.isi (.var 1) [.list]) (.isi (.var 0) [.list]))) (.seq (.ret (.cst (.bl false))) .skip) .skip) (.seq (.ite (.cmp .NotEq (.bi false .len [(.var 0)]) (.bi false .len [(.var 1)])) (.seq (.ret (.cst (.bl false))) .skip) .skip) (.seq (.for_ (.nm 2) (.rng1 (.bi false .len [(.var 1)])) (.seq (.ite (.not (.call i [(.idx (.var 0) (.var 2)), (.idx (.var 1) (.var 2))])) (.seq (.ret (.cst (.bl false))) .skip) .skip) .skip) [2]) (.seq (.ret (.cst (.bl true))) .skip)))) .skip) (.seq (.ite (.or (.cmp .Is (.var 1) (.cst .non)) (.isi (.var 1) [.bool])) (.seq (.ret (.and (.cmp .Eq (.cmp .Is (.var 0) (.cst .non)) (.cmp .Is (.var 1) (.cst .non))) (.and (.or (.cmp .Is (.var 1) (.cst .non)) (.isi (.var 0) [.bool])) (.cmp .Eq (.var 0) (.var 1))))) .skip) .skip) (.seq (.ite (.isi (.var 1) [.int]) (.seq (.ret (.and (.isi (.var 0) [.int]) (.and (.not (.isi (.var 0) [.bool])) (.cmp .Eq (.var 0) (.var 1))))) .skip) .skip) (.seq (.ret (.and (.isi (.var 0) [.str]) (.cmp .Eq (.var 0) (.var 1)))) .skip))))⟩
def touchI (i j : Nat) : FnI := ⟨3, 2, (.seq (.ite (.and (.isi (.var 1) [.tuple]) (.cmp .Gt (.bi false .len [(.var 1)]) (.cst (.int 0)))) (.seq (.asg (.nm 2) (.call j [(.var 0), (.bi false .len [(.var 1)])])) (.seq (.ret (.bin false .Add (.bin false .Add (.slc false (.var 1) none (some (.var 2))) (.tup [(.call i [(.var 0), (.idx (.var 1) (.var 2))])])) (.slc false (.var 1) (some (.bin false .Add (.var 2) (.cst (.int 1)))) none))) .skip)) .skip) (.seq (.ite (.isi (.var 1) [.int]) (.seq (.ret (.bin false .Add (.var 1) (.idx (.tup [(.cst (.int 1)), (.bin false .Sub (.cst (.int 0)) (.cst (.int 1))), (.cst (.int 2)), (.bin false .Sub (.cst (.int 0)) (.var 1)), (.var 1), (.bin false .Sub (.cst (.int 0)) (.bin false .Mult (.cst (.int 2)) (.var 1))), (.bin false .Pow (.cst (.int 10)) (.cst (.int 12)))]) (.call j [(.var 0), (.cst (.int 7))])))) .skip) .skip) (.seq (.ret (.var 1)) .skip)))⟩
/-- nothing but words, numbers, tuples, None -/
inductive Pl : A → Prop
  | int (i : Int) : Pl (.int i)
  | str (s : Str) : Pl (.str s)
  | non : Pl .non
  | tup (xs : List A) : (∀ x ∈ xs, Pl x) → Pl (.tup xs)
theorem lows_all {n : Nat} : ∀ {xs : List A}, A.lows xs n = true → ∀ x ∈ xs, A.low x n = true
  | [], _, x, h => absurd h List.not_mem_nil
  | y :: ys, e, x, h => by
    unfold A.lows at e
    rw [Bool.and_eq_true] at e
    rcases List.mem_cons.mp h with rfl | h
    · exact e.1
    · exact lows_all e.2 x h
theorem lows_of {n : Nat} : ∀ {xs : List A}, (∀ x ∈ xs, A.low x n = true) → A.lows xs n = true
  | [], _ => rfl
  | y :: ys, h => by
    unfold A.lows
    rw [h y List.mem_cons_self, lows_of fun x hx => h x (List.mem_cons_of_mem _ hx)]
    rfl
mutual
theorem eqv_refl : ∀ {x : A} {n : Nat}, A.low x n = true → A.eqv x x = true
  | .non, _, _ => rfl
  | .bl b, _, _ => by
    show (b == b) = true
    exact beq_self_eq_true b
  | .int i, _, _ => decide_eq_true rfl
  | .str s, _, _ => decide_eq_true rfl
  | .tup xs, n, h => by
    cases n with
    | zero => exact absurd h (by unfold A.low; exact Bool.false_ne_true)
    | succ n => exact eqvs_refl (xs := xs) (n := n) h
  | .lst xs, n, h => by
    cases n with
    | zero => exact absurd h (by unfold A.low; exact Bool.false_ne_true)
    | succ n => exact eqvs_refl (xs := xs) (n := n) h
  | .ob _ _, _, h => absurd h (by unfold A.low; exact Bool.false_ne_true)
  | .scr _, _, h => absurd h (by unfold A.low; exact Bool.false_ne_true)
theorem eqvs_refl : ∀ {xs : List A} {n : Nat}, A.lows xs n = true → A.eqvs xs xs = true
  | [], _, _ => rfl
  | x :: xs, n, h => by
    unfold A.lows at h
    rw [Bool.and_eq_true] at h
    show (A.eqv x x && A.eqvs xs xs) = true
    rw [eqv_refl h.1, eqvs_refl h.2]
    rfl
end
section
variable {G : Prg} {C : Ctx} {k base f : Nat} {h : Mem} {env : Env}
theorem ty_of {x : A} {ts : List Ty} {b : Bool} (e1 : ∀ c xs, x ≠ .ob c xs) (e2 : ∀ xs, x ≠ .scr xs) (e : (ts.any fun t => tyOf t x) = b) : isiK (.a x) ts h = .ok (.a (.bl b)) h := by
  refine isiK_of ?_
  cases x <;> first | exact congrArg some e | exact absurd rfl (e1 _ _) | exact absurd rfl (e2 _)
theorem is_non {x : A} : cmpK .Is (.a x) (.a .non) h = .ok (.a (.bl (match x with | .non => true | _ => false))) h := by
  cases x <;> exact cmpK_of rfl
theorem isnot_non {x : A} : cmpK .IsNot (.a x) (.a .non) h = .ok (.a (.bl (match x with | .non => false | _ => true))) h := by
  cases x <;> exact cmpK_of rfl
/-- words, numbers, None, truth, lists and tuples of such, so deep -/
inductive Gd : Nat → A → Prop
  | int (d : Nat) (i : Int) : Gd d (.int i)
  | str (d : Nat) (s : Str) : Gd d (.str s)
  | non (d : Nat) : Gd d .non
  | bl (d : Nat) (b : Bool) : Gd d (.bl b)
  | tup (d : Nat) (xs : List A) : xs.length ≤ 1000000 → (∀ x ∈ xs, Gd d x) → Gd (d + 1) (.tup xs)
  | lst (d : Nat) (xs : List A) : xs.length ≤ 1000000 → (∀ x ∈ xs, Gd d x) → Gd (d + 1) (.lst xs)
theorem Gd.low {d : Nat} {x : A} (g : Gd d x) : A.low x d = true := by
  induction g with
  | int => rfl
  | str => rfl
  | non => rfl
  | bl => rfl
  | tup d xs _ _ ih => exact lows_of ih
  | lst d xs _ _ ih => exact lows_of ih
theorem Gd.up {d : Nat} {x : A} (g : Gd d x) : Gd (d + 1) x := by
  induction g with
  | int d i => exact .int _ i
  | str d s => exact .str _ s
  | non d => exact .non _
  | bl d b => exact .bl _ b
  | tup d xs a _ ih => exact .tup _ xs a ih
  | lst d xs a _ ih => exact .lst _ xs a ih
theorem same_atom {i : Nat} (hi : G.fns[i]? = some (sameI i)) (k : Nat) (x : A) (g : Gd 0 x) : callF G (k + 1) i [.a x, .a x] h = .ok (.a (.bl true)) h := by
    rw [callF_run hi rfl]
    simp only [sameI, List.map_cons, List.map_nil, List.replicate, List.cons_append, List.nil_append]
    cases g with
    | int _ i => simp only [ok_bind, exc_bind, ok_thn, exc_thn, ok_calm, nx_and, ret_and, brk_and, cnt_and, exc_and, ev_cst, ev_var, ev_glb, kBin_eq, ev_bin, ev_neg, kNot_eq, ev_not, ev_and, ev_or, kAnd_t, kAnd_f, kOr_t, kOr_f, kCmp_eq, ev_cmp, ev_chn, chnK_t, chnK_f, kChn1_eq, kChn_nil, kChn_cons, kIfE_t, kIfE_f, ev_ite, kIdx_eq, ev_idx, kSlc2_eq, kSlc_eq, ev_slc, ev_tup, ev_lst, ev_dnew, kLc_eq, ev_lc, kLc2_eq, ev_lc2, ev_call, ev_bi, kBm_eq, ev_bm, kIsi_eq, ev_isi, ev_lrg1, kLrg2_eq, ev_lrg2, evf_none, evf_some, oiK_int, evo_none, evo_some, evs_nil, kCons_eq, kEvs_eq, evs_cons, evIt_seq, evIt_rng1, kRng2_eq, evIt_rng2, kRng3b_eq, kRng3_eq, evIt_rng3, evIt_enu, kZip_eq, evIt_zip, ex_skip, kSeq_eq, ex_seq, kAsg_eq, ex_asg, kPar_eq, ex_par, kSI3_eq, kSI2_eq, kSI1_eq, ex_setIx, kNx_eq, ex_expr, kIfS_t, kIfS_f, ex_ite, kFor_eq, ex_for, ex_while, kRet_eq, ex_ret, ex_retN, kRaise_eq, ex_raise, ex_try, ex_brk, ex_cnt, ex_frz, tryK_nx, tryK_ret, tryK_exc, hndK_nil, hndK_cons, hndK1_f, hndK1_ti, hndK1_tn, unbK_ret, unbK_nx, unb0_ret, unb0_nx, varK_ok, tru_bl, tru_int, tru_tup, tru_lst, tru_non, tru_exc, bin_addK, bin_subK, MP.neg_int, c_lt, c_le, c_gt, c_ge, c_eq, c_ne, c_eqb, c_neb, m_lt, m_le, m_gt, m_ge, seq_tup, seq_lst, len_tup, len_lst, toList_tup, toList_lst, toTup_tup, toTup_lst, int1_int, int1_bl, min2_int, max2_int, abs_int, asg_nm, tup0, tup1, tup2, tup3, tup4, List.set_cons_zero, List.set_cons_succ, List.getElem?_cons_zero, List.getElem?_cons_succ, Bool.false_eq_true, ↓reduceIte, fin_ret, decide_true, decide_false, Bool.not_true, Bool.not_false, kOne_eq, kLcE_t, kLcE_f, lcE_eq, lcQ_nm, lcQ_tp2, lcQ_tp3, lcK1_nm, lcK1_tp2, kLcE3_eq, kLcE2_t, kLcE2_f, lcE2_eq, lcK2_nm, lcK2_tp2, rstE_nil, rstE_cons, asg_tp2, asg_tp3, asg_tp4, forK_nil, par1, par2, par3, ty_of (x := .int i) (fun _ _ => A.noConfusion) (fun _ => A.noConfusion) rfl, List.any_cons, List.any_nil, tyOf, Bool.or_false, is_non, take_self]
    | str _ s => 
      have e1 : cmpK .Eq (.a (.str s)) (.a (.str s)) h = .ok (.a (.bl true)) h := cmpK_of (by show some (decide (s = s)) = _; rw [decide_eq_true rfl])
      simp only [ok_bind, exc_bind, ok_thn, exc_thn, ok_calm, nx_and, ret_and, brk_and, cnt_and, exc_and, ev_cst, ev_var, ev_glb, kBin_eq, ev_bin, ev_neg, kNot_eq, ev_not, ev_and, ev_or, kAnd_t, kAnd_f, kOr_t, kOr_f, kCmp_eq, ev_cmp, ev_chn, chnK_t, chnK_f, kChn1_eq, kChn_nil, kChn_cons, kIfE_t, kIfE_f, ev_ite, kIdx_eq, ev_idx, kSlc2_eq, kSlc_eq, ev_slc, ev_tup, ev_lst, ev_dnew, kLc_eq, ev_lc, kLc2_eq, ev_lc2, ev_call, ev_bi, kBm_eq, ev_bm, kIsi_eq, ev_isi, ev_lrg1, kLrg2_eq, ev_lrg2, evf_none, evf_some, oiK_int, evo_none, evo_some, evs_nil, kCons_eq, kEvs_eq, evs_cons, evIt_seq, evIt_rng1, kRng2_eq, evIt_rng2, kRng3b_eq, kRng3_eq, evIt_rng3, evIt_enu, kZip_eq, evIt_zip, ex_skip, kSeq_eq, ex_seq, kAsg_eq, ex_asg, kPar_eq, ex_par, kSI3_eq, kSI2_eq, kSI1_eq, ex_setIx, kNx_eq, ex_expr, kIfS_t, kIfS_f, ex_ite, kFor_eq, ex_for, ex_while, kRet_eq, ex_ret, ex_retN, kRaise_eq, ex_raise, ex_try, ex_brk, ex_cnt, ex_frz, tryK_nx, tryK_ret, tryK_exc, hndK_nil, hndK_cons, hndK1_f, hndK1_ti, hndK1_tn, unbK_ret, unbK_nx, unb0_ret, unb0_nx, varK_ok, tru_bl, tru_int, tru_tup, tru_lst, tru_non, tru_exc, bin_addK, bin_subK, MP.neg_int, c_lt, c_le, c_gt, c_ge, c_eq, c_ne, c_eqb, c_neb, m_lt, m_le, m_gt, m_ge, seq_tup, seq_lst, len_tup, len_lst, toList_tup, toList_lst, toTup_tup, toTup_lst, int1_int, int1_bl, min2_int, max2_int, abs_int, asg_nm, tup0, tup1, tup2, tup3, tup4, List.set_cons_zero, List.set_cons_succ, List.getElem?_cons_zero, List.getElem?_cons_succ, Bool.false_eq_true, ↓reduceIte, fin_ret, decide_true, decide_false, Bool.not_true, Bool.not_false, kOne_eq, kLcE_t, kLcE_f, lcE_eq, lcQ_nm, lcQ_tp2, lcQ_tp3, lcK1_nm, lcK1_tp2, kLcE3_eq, kLcE2_t, kLcE2_f, lcE2_eq, lcK2_nm, lcK2_tp2, rstE_nil, rstE_cons, asg_tp2, asg_tp3, asg_tp4, forK_nil, par1, par2, par3, ty_of (x := .str s) (fun _ _ => A.noConfusion) (fun _ => A.noConfusion) rfl, List.any_cons, List.any_nil, tyOf, Bool.or_false, is_non, take_self, e1]
    | non => 
      have e1 : cmpK .Eq (.a .non) (.a .non) h = .ok (.a (.bl true)) h := cmpK_of rfl
      simp only [ok_bind, exc_bind, ok_thn, exc_thn, ok_calm, nx_and, ret_and, brk_and, cnt_and, exc_and, ev_cst, ev_var, ev_glb, kBin_eq, ev_bin, ev_neg, kNot_eq, ev_not, ev_and, ev_or, kAnd_t, kAnd_f, kOr_t, kOr_f, kCmp_eq, ev_cmp, ev_chn, chnK_t, chnK_f, kChn1_eq, kChn_nil, kChn_cons, kIfE_t, kIfE_f, ev_ite, kIdx_eq, ev_idx, kSlc2_eq, kSlc_eq, ev_slc, ev_tup, ev_lst, ev_dnew, kLc_eq, ev_lc, kLc2_eq, ev_lc2, ev_call, ev_bi, kBm_eq, ev_bm, kIsi_eq, ev_isi, ev_lrg1, kLrg2_eq, ev_lrg2, evf_none, evf_some, oiK_int, evo_none, evo_some, evs_nil, kCons_eq, kEvs_eq, evs_cons, evIt_seq, evIt_rng1, kRng2_eq, evIt_rng2, kRng3b_eq, kRng3_eq, evIt_rng3, evIt_enu, kZip_eq, evIt_zip, ex_skip, kSeq_eq, ex_seq, kAsg_eq, ex_asg, kPar_eq, ex_par, kSI3_eq, kSI2_eq, kSI1_eq, ex_setIx, kNx_eq, ex_expr, kIfS_t, kIfS_f, ex_ite, kFor_eq, ex_for, ex_while, kRet_eq, ex_ret, ex_retN, kRaise_eq, ex_raise, ex_try, ex_brk, ex_cnt, ex_frz, tryK_nx, tryK_ret, tryK_exc, hndK_nil, hndK_cons, hndK1_f, hndK1_ti, hndK1_tn, unbK_ret, unbK_nx, unb0_ret, unb0_nx, varK_ok, tru_bl, tru_int, tru_tup, tru_lst, tru_non, tru_exc, bin_addK, bin_subK, MP.neg_int, c_lt, c_le, c_gt, c_ge, c_eq, c_ne, c_eqb, c_neb, m_lt, m_le, m_gt, m_ge, seq_tup, seq_lst, len_tup, len_lst, toList_tup, toList_lst, toTup_tup, toTup_lst, int1_int, int1_bl, min2_int, max2_int, abs_int, asg_nm, tup0, tup1, tup2, tup3, tup4, List.set_cons_zero, List.set_cons_succ, List.getElem?_cons_zero, List.getElem?_cons_succ, Bool.false_eq_true, ↓reduceIte, fin_ret, decide_true, decide_false, Bool.not_true, Bool.not_false, kOne_eq, kLcE_t, kLcE_f, lcE_eq, lcQ_nm, lcQ_tp2, lcQ_tp3, lcK1_nm, lcK1_tp2, kLcE3_eq, kLcE2_t, kLcE2_f, lcE2_eq, lcK2_nm, lcK2_tp2, rstE_nil, rstE_cons, asg_tp2, asg_tp3, asg_tp4, forK_nil, par1, par2, par3, ty_of (x := .non) (fun _ _ => A.noConfusion) (fun _ => A.noConfusion) rfl, List.any_cons, List.any_nil, tyOf, Bool.or_false, is_non, take_self, e1, beq_self_eq_true]
    | bl _ b => simp only [ok_bind, exc_bind, ok_thn, exc_thn, ok_calm, nx_and, ret_and, brk_and, cnt_and, exc_and, ev_cst, ev_var, ev_glb, kBin_eq, ev_bin, ev_neg, kNot_eq, ev_not, ev_and, ev_or, kAnd_t, kAnd_f, kOr_t, kOr_f, kCmp_eq, ev_cmp, ev_chn, chnK_t, chnK_f, kChn1_eq, kChn_nil, kChn_cons, kIfE_t, kIfE_f, ev_ite, kIdx_eq, ev_idx, kSlc2_eq, kSlc_eq, ev_slc, ev_tup, ev_lst, ev_dnew, kLc_eq, ev_lc, kLc2_eq, ev_lc2, ev_call, ev_bi, kBm_eq, ev_bm, kIsi_eq, ev_isi, ev_lrg1, kLrg2_eq, ev_lrg2, evf_none, evf_some, oiK_int, evo_none, evo_some, evs_nil, kCons_eq, kEvs_eq, evs_cons, evIt_seq, evIt_rng1, kRng2_eq, evIt_rng2, kRng3b_eq, kRng3_eq, evIt_rng3, evIt_enu, kZip_eq, evIt_zip, ex_skip, kSeq_eq, ex_seq, kAsg_eq, ex_asg, kPar_eq, ex_par, kSI3_eq, kSI2_eq, kSI1_eq, ex_setIx, kNx_eq, ex_expr, kIfS_t, kIfS_f, ex_ite, kFor_eq, ex_for, ex_while, kRet_eq, ex_ret, ex_retN, kRaise_eq, ex_raise, ex_try, ex_brk, ex_cnt, ex_frz, tryK_nx, tryK_ret, tryK_exc, hndK_nil, hndK_cons, hndK1_f, hndK1_ti, hndK1_tn, unbK_ret, unbK_nx, unb0_ret, unb0_nx, varK_ok, tru_bl, tru_int, tru_tup, tru_lst, tru_non, tru_exc, bin_addK, bin_subK, MP.neg_int, c_lt, c_le, c_gt, c_ge, c_eq, c_ne, c_eqb, c_neb, m_lt, m_le, m_gt, m_ge, seq_tup, seq_lst, len_tup, len_lst, toList_tup, toList_lst, toTup_tup, toTup_lst, int1_int, int1_bl, min2_int, max2_int, abs_int, asg_nm, tup0, tup1, tup2, tup3, tup4, List.set_cons_zero, List.set_cons_succ, List.getElem?_cons_zero, List.getElem?_cons_succ, Bool.false_eq_true, ↓reduceIte, fin_ret, decide_true, decide_false, Bool.not_true, Bool.not_false, kOne_eq, kLcE_t, kLcE_f, lcE_eq, lcQ_nm, lcQ_tp2, lcQ_tp3, lcK1_nm, lcK1_tp2, kLcE3_eq, kLcE2_t, kLcE2_f, lcE2_eq, lcK2_nm, lcK2_tp2, rstE_nil, rstE_cons, asg_tp2, asg_tp3, asg_tp4, forK_nil, par1, par2, par3, ty_of (x := .bl b) (fun _ _ => A.noConfusion) (fun _ => A.noConfusion) rfl, List.any_cons, List.any_nil, tyOf, Bool.or_false, is_non, take_self, beq_self_eq_true]
/-- the comparison of a thing with itself -/
theorem same_refl {i : Nat} (hi : G.fns[i]? = some (sameI i)) : ∀ (d k : Nat) (x : A), Gd d x → callF G (d + 1 + k) i [.a x, .a x] h = .ok (.a (.bl true)) h := by
  have loop : ∀ (d k : Nat) (xs : List A) (x : A), (x = .tup xs ∨ x = .lst xs) → (∀ x ∈ xs, callF G (d + 1 + k) i [.a x, .a x] h = .ok (.a (.bl true)) h) →
      ∃ v, forK ⟨G, runF G (d + 1 + k)⟩ h.length (.nm 2) [2] (.seq (.ite (.not (.call i [(.idx (.var 0) (.var 2)), (.idx (.var 1) (.var 2))])) (.seq (.ret (.cst (.bl false))) .skip) .skip) .skip) (rngL 0 xs.length) [some (.a x), some (.a x), none] h = .nx [some (.a x), some (.a x), v] h := by
    intro d k xs x hx ih
    have key := forK_fn (C := ⟨G, runF G (d + 1 + k)⟩) (base := h.length) (t := .nm 2) (rst := [2]) (b := .seq (.ite (.not (.call i [(.idx (.var 0) (.var 2)), (.idx (.var 1) (.var 2))])) (.seq (.ret (.cst (.bl false))) .skip) .skip) .skip) (lo := 0) (n := xs.length) (h := h) (env := [some (.a x), some (.a x), none]) (v := none) (fun _ v => [some (.a x), some (.a x), v]) rfl ?_
    · exact key
    · intro j hj v
      have e1 : idxK (.a x) (.a (.int (0 + (j : Int)))) h = .ok (.a xs[j]) h := by
        rw [Int.zero_add]
        rcases hx with rfl | rfl
        · exact idxK_of (idx_tup hj)
        · exact idxK_of (idx_lst hj)
      refine ⟨_, [some (.a x), some (.a x), some (.a (.int (0 + (j : Int))))], none, rfl, ?_, rfl⟩
      simp only [ok_bind, exc_bind, ok_thn, exc_thn, ok_calm, nx_and, ret_and, brk_and, cnt_and, exc_and, ev_cst, ev_var, ev_glb, kBin_eq, ev_bin, ev_neg, kNot_eq, ev_not, ev_and, ev_or, kAnd_t, kAnd_f, kOr_t, kOr_f, kCmp_eq, ev_cmp, ev_chn, chnK_t, chnK_f, kChn1_eq, kChn_nil, kChn_cons, kIfE_t, kIfE_f, ev_ite, kIdx_eq, ev_idx, kSlc2_eq, kSlc_eq, ev_slc, ev_tup, ev_lst, ev_dnew, kLc_eq, ev_lc, kLc2_eq, ev_lc2, ev_call, ev_bi, kBm_eq, ev_bm, kIsi_eq, ev_isi, ev_lrg1, kLrg2_eq, ev_lrg2, evf_none, evf_some, oiK_int, evo_none, evo_some, evs_nil, kCons_eq, kEvs_eq, evs_cons, evIt_seq, evIt_rng1, kRng2_eq, evIt_rng2, kRng3b_eq, kRng3_eq, evIt_rng3, evIt_enu, kZip_eq, evIt_zip, ex_skip, kSeq_eq, ex_seq, kAsg_eq, ex_asg, kPar_eq, ex_par, kSI3_eq, kSI2_eq, kSI1_eq, ex_setIx, kNx_eq, ex_expr, kIfS_t, kIfS_f, ex_ite, kFor_eq, ex_for, ex_while, kRet_eq, ex_ret, ex_retN, kRaise_eq, ex_raise, ex_try, ex_brk, ex_cnt, ex_frz, tryK_nx, tryK_ret, tryK_exc, hndK_nil, hndK_cons, hndK1_f, hndK1_ti, hndK1_tn, unbK_ret, unbK_nx, unb0_ret, unb0_nx, varK_ok, tru_bl, tru_int, tru_tup, tru_lst, tru_non, tru_exc, bin_addK, bin_subK, MP.neg_int, c_lt, c_le, c_gt, c_ge, c_eq, c_ne, c_eqb, c_neb, m_lt, m_le, m_gt, m_ge, seq_tup, seq_lst, len_tup, len_lst, toList_tup, toList_lst, toTup_tup, toTup_lst, int1_int, int1_bl, min2_int, max2_int, abs_int, asg_nm, tup0, tup1, tup2, tup3, tup4, List.set_cons_zero, List.set_cons_succ, List.getElem?_cons_zero, List.getElem?_cons_succ, Bool.false_eq_true, ↓reduceIte, fin_ret, decide_true, decide_false, Bool.not_true, Bool.not_false, kOne_eq, kLcE_t, kLcE_f, lcE_eq, lcQ_nm, lcQ_tp2, lcQ_tp3, lcK1_nm, lcK1_tp2, kLcE3_eq, kLcE2_t, kLcE2_f, lcE2_eq, lcK2_nm, lcK2_tp2, rstE_nil, rstE_cons, asg_tp2, asg_tp3, asg_tp4, forK_nil, par1, par2, par3, e1, ih _ (List.getElem_mem hj)]
  intro d
  induction d with
  | zero =>
    intro k x g
    rw [show 0 + 1 + k = k + 1 from by omega]
    exact same_atom hi k x g
  | succ d ih =>
    intro k x g
    have hs : ∀ xs : List A, xs.length ≤ 1000000 → rng1K (.a (.int xs.length)) h = .ok (rngL 0 xs.length) h := fun xs hl => by
      rw [rng1_int (rngOk_nat hl)]
      rfl
    cases g with
    | tup _ xs hl g =>
      obtain ⟨v, e⟩ := loop d k xs (.tup xs) (Or.inl rfl) fun x hx => ih k x (g x hx)
      rw [show d + 1 + 1 + k = (d + 1 + k) + 1 from by omega, callF_run hi rfl]
      simp only [sameI, List.map_cons, List.map_nil, List.replicate, List.cons_append, List.nil_append]
      simp only [ok_bind, exc_bind, ok_thn, exc_thn, ok_calm, nx_and, ret_and, brk_and, cnt_and, exc_and, ev_cst, ev_var, ev_glb, kBin_eq, ev_bin, ev_neg, kNot_eq, ev_not, ev_and, ev_or, kAnd_t, kAnd_f, kOr_t, kOr_f, kCmp_eq, ev_cmp, ev_chn, chnK_t, chnK_f, kChn1_eq, kChn_nil, kChn_cons, kIfE_t, kIfE_f, ev_ite, kIdx_eq, ev_idx, kSlc2_eq, kSlc_eq, ev_slc, ev_tup, ev_lst, ev_dnew, kLc_eq, ev_lc, kLc2_eq, ev_lc2, ev_call, ev_bi, kBm_eq, ev_bm, kIsi_eq, ev_isi, ev_lrg1, kLrg2_eq, ev_lrg2, evf_none, evf_some, oiK_int, evo_none, evo_some, evs_nil, kCons_eq, kEvs_eq, evs_cons, evIt_seq, evIt_rng1, kRng2_eq, evIt_rng2, kRng3b_eq, kRng3_eq, evIt_rng3, evIt_enu, kZip_eq, evIt_zip, ex_skip, kSeq_eq, ex_seq, kAsg_eq, ex_asg, kPar_eq, ex_par, kSI3_eq, kSI2_eq, kSI1_eq, ex_setIx, kNx_eq, ex_expr, kIfS_t, kIfS_f, ex_ite, kFor_eq, ex_for, ex_while, kRet_eq, ex_ret, ex_retN, kRaise_eq, ex_raise, ex_try, ex_brk, ex_cnt, ex_frz, tryK_nx, tryK_ret, tryK_exc, hndK_nil, hndK_cons, hndK1_f, hndK1_ti, hndK1_tn, unbK_ret, unbK_nx, unb0_ret, unb0_nx, varK_ok, tru_bl, tru_int, tru_tup, tru_lst, tru_non, tru_exc, bin_addK, bin_subK, MP.neg_int, c_lt, c_le, c_gt, c_ge, c_eq, c_ne, c_eqb, c_neb, m_lt, m_le, m_gt, m_ge, seq_tup, seq_lst, len_tup, len_lst, toList_tup, toList_lst, toTup_tup, toTup_lst, int1_int, int1_bl, min2_int, max2_int, abs_int, asg_nm, tup0, tup1, tup2, tup3, tup4, List.set_cons_zero, List.set_cons_succ, List.getElem?_cons_zero, List.getElem?_cons_succ, Bool.false_eq_true, ↓reduceIte, fin_ret, decide_true, decide_false, Bool.not_true, Bool.not_false, kOne_eq, kLcE_t, kLcE_f, lcE_eq, lcQ_nm, lcQ_tp2, lcQ_tp3, lcK1_nm, lcK1_tp2, kLcE3_eq, kLcE2_t, kLcE2_f, lcE2_eq, lcK2_nm, lcK2_tp2, rstE_nil, rstE_cons, asg_tp2, asg_tp3, asg_tp4, forK_nil, par1, par2, par3, ty_of (x := .tup xs) (fun _ _ => A.noConfusion) (fun _ => A.noConfusion) rfl, List.any_cons, List.any_nil, tyOf, Bool.or_false, take_self, hs xs hl, e, beq_self_eq_true]
    | lst _ xs hl g =>
      obtain ⟨v, e⟩ := loop d k xs (.lst xs) (Or.inr rfl) fun x hx => ih k x (g x hx)
      rw [show d + 1 + 1 + k = (d + 1 + k) + 1 from by omega, callF_run hi rfl]
      simp only [sameI, List.map_cons, List.map_nil, List.replicate, List.cons_append, List.nil_append]
      simp only [ok_bind, exc_bind, ok_thn, exc_thn, ok_calm, nx_and, ret_and, brk_and, cnt_and, exc_and, ev_cst, ev_var, ev_glb, kBin_eq, ev_bin, ev_neg, kNot_eq, ev_not, ev_and, ev_or, kAnd_t, kAnd_f, kOr_t, kOr_f, kCmp_eq, ev_cmp, ev_chn, chnK_t, chnK_f, kChn1_eq, kChn_nil, kChn_cons, kIfE_t, kIfE_f, ev_ite, kIdx_eq, ev_idx, kSlc2_eq, kSlc_eq, ev_slc, ev_tup, ev_lst, ev_dnew, kLc_eq, ev_lc, kLc2_eq, ev_lc2, ev_call, ev_bi, kBm_eq, ev_bm, kIsi_eq, ev_isi, ev_lrg1, kLrg2_eq, ev_lrg2, evf_none, evf_some, oiK_int, evo_none, evo_some, evs_nil, kCons_eq, kEvs_eq, evs_cons, evIt_seq, evIt_rng1, kRng2_eq, evIt_rng2, kRng3b_eq, kRng3_eq, evIt_rng3, evIt_enu, kZip_eq, evIt_zip, ex_skip, kSeq_eq, ex_seq, kAsg_eq, ex_asg, kPar_eq, ex_par, kSI3_eq, kSI2_eq, kSI1_eq, ex_setIx, kNx_eq, ex_expr, kIfS_t, kIfS_f, ex_ite, kFor_eq, ex_for, ex_while, kRet_eq, ex_ret, ex_retN, kRaise_eq, ex_raise, ex_try, ex_brk, ex_cnt, ex_frz, tryK_nx, tryK_ret, tryK_exc, hndK_nil, hndK_cons, hndK1_f, hndK1_ti, hndK1_tn, unbK_ret, unbK_nx, unb0_ret, unb0_nx, varK_ok, tru_bl, tru_int, tru_tup, tru_lst, tru_non, tru_exc, bin_addK, bin_subK, MP.neg_int, c_lt, c_le, c_gt, c_ge, c_eq, c_ne, c_eqb, c_neb, m_lt, m_le, m_gt, m_ge, seq_tup, seq_lst, len_tup, len_lst, toList_tup, toList_lst, toTup_tup, toTup_lst, int1_int, int1_bl, min2_int, max2_int, abs_int, asg_nm, tup0, tup1, tup2, tup3, tup4, List.set_cons_zero, List.set_cons_succ, List.getElem?_cons_zero, List.getElem?_cons_succ, Bool.false_eq_true, ↓reduceIte, fin_ret, decide_true, decide_false, Bool.not_true, Bool.not_false, kOne_eq, kLcE_t, kLcE_f, lcE_eq, lcQ_nm, lcQ_tp2, lcQ_tp3, lcK1_nm, lcK1_tp2, kLcE3_eq, kLcE2_t, kLcE2_f, lcE2_eq, lcK2_nm, lcK2_tp2, rstE_nil, rstE_cons, asg_tp2, asg_tp3, asg_tp4, forK_nil, par1, par2, par3, ty_of (x := .lst xs) (fun _ _ => A.noConfusion) (fun _ => A.noConfusion) rfl, List.any_cons, List.any_nil, tyOf, Bool.or_false, take_self, hs xs hl, e, beq_self_eq_true]
    | int _ i => rw [show d + 1 + 1 + k = (d + 1 + k) + 1 from by omega]; exact same_atom hi _ _ (.int 0 i)
    | str _ i => rw [show d + 1 + 1 + k = (d + 1 + k) + 1 from by omega]; exact same_atom hi _ _ (.str 0 i)
    | non => rw [show d + 1 + 1 + k = (d + 1 + k) + 1 from by omega]; exact same_atom hi _ _ (.non 0)
    | bl _ i => rw [show d + 1 + 1 + k = (d + 1 + k) + 1 from by omega]; exact same_atom hi _ _ (.bl 0 i)
/-- words, numbers, None, tuples of such, so deep -/
inductive Gp : Nat → A → Prop
  | int (d : Nat) (i : Int) : Gp d (.int i)
  | str (d : Nat) (s : Str) : Gp d (.str s)
  | non (d : Nat) : Gp d .non
  | tup (d : Nat) (xs : List A) : xs.length ≤ 1000000 → (∀ x ∈ xs, Gp d x) → Gp (d + 1) (.tup xs)
/-- one number in it is another one -/
inductive Tch : A → A → Prop
  | int (i j : Int) : Tch (.int i) (.int j)
  | str (s : Str) : Tch (.str s) (.str s)
  | non : Tch .non .non
  | nil : Tch (.tup []) (.tup [])
  | tup (xs : List A) (p : Nat) (hp : p < xs.length) (y : A) : Tch xs[p] y → Tch (.tup xs) (.tup (xs.set p y))
theorem seven {a0 a1 a2 a3 a4 a5 a6 u : Int} (u0 : 0 ≤ u) (u1 : u < 7) : ∃ z, ∀ h : Mem, idxK (.a (.tup [.int a0, .int a1, .int a2, .int a3, .int a4, .int a5, .int a6])) (.a (.int u)) h = .ok (.a (.int z)) h := by
  have hu : u = 0 ∨ u = 1 ∨ u = 2 ∨ u = 3 ∨ u = 4 ∨ u = 5 ∨ u = 6 := by omega
  rcases hu with rfl | rfl | rfl | rfl | rfl | rfl | rfl
  · exact ⟨a0, fun _ => idxK_of rfl⟩
  · exact ⟨a1, fun _ => idxK_of rfl⟩
  · exact ⟨a2, fun _ => idxK_of rfl⟩
  · exact ⟨a3, fun _ => idxK_of rfl⟩
  · exact ⟨a4, fun _ => idxK_of rfl⟩
  · exact ⟨a5, fun _ => idxK_of rfl⟩
  · exact ⟨a6, fun _ => idxK_of rfl⟩
theorem tup7 {a b c d e f g : A} : tupK [.a a, .a b, .a c, .a d, .a e, .a f, .a g] h = .ok (.a (.tup [a, b, c, d, e, f, g])) h := rfl
theorem set_eq {α : Type} (xs : List α) (p : Nat) (hp : p < xs.length) (y : α) : xs.take p ++ [y] ++ xs.drop (p + 1) = xs.set p y := by
  rw [List.set_eq_take_append_cons_drop, if_pos hp, List.append_assoc]
  rfl
theorem take_set {n : Nat} {m : MO} : (h.set n m).take h.length = h.set n m := by
  rw [List.take_of_length_le]
  rw [List.length_set]
  exact Nat.le_refl _
/-- the draw, with the pool anywhere -/
theorem draw_at {j n k : Nat} {m : MO} {z : Int} (hj : G.fns[j]? = some drawI) (hp : h[n]? = some m) (hm : IsPool m) (hz : 0 < z) (hz2 : z < 1073741824) :
    ∃ (u : Nat) (m' : MO), (u : Int) < z ∧ IsPool m' ∧ callF G (k + 1) j [.ref n, .a (.int z)] h = .ok (.a (.int u)) (h.set n m') := by
  obtain ⟨u, m', u0, u1, hm', q⟩ := draw_ok (G := G) (k := k) hj hp hm hz hz2
  refine ⟨u.toNat, m', by omega, hm', ?_⟩
  rw [q, show ((u.toNat : Nat) : Int) = u from by omega]
theorem touch_ok {i j n : Nat} (hi : G.fns[i]? = some (touchI i j)) (hj : G.fns[j]? = some drawI) : ∀ (d k : Nat) (x : A) (h : Mem) (m : MO), Gp d x → h[n]? = some m → IsPool m →
    ∃ (y : A) (m' : MO), IsPool m' ∧ Tch x y ∧ callF G (d + 2 + k) i [.ref n, .a x] h = .ok (.a y) (h.set n m') := by
  have atom : ∀ (k : Nat) (x : A) (h : Mem) (m : MO), Gp 0 x → h[n]? = some m → IsPool m → ∃ (y : A) (m' : MO), IsPool m' ∧ Tch x y ∧ callF G (k + 2) i [.ref n, .a x] h = .ok (.a y) (h.set n m') := by
    intro k x h m g hp hm
    have hn : n < h.length := (List.getElem?_eq_some_iff.mp hp).1
    have hs : h.set n m = h := by
      rw [← List.getElem?_eq_some_iff.mp hp |>.2, List.set_getElem_self]
    cases g with
    | int _ z =>
      obtain ⟨u, m', u1, hm', q⟩ := draw_at (k := k) (z := 7) hj hp hm (by decide) (by decide)
      obtain ⟨w, e⟩ := seven (a0 := 1) (a1 := 0 - 1) (a2 := 2) (a3 := 0 - z) (a4 := z) (a5 := 0 - 2 * z) (a6 := 10 ^ 12) (u := u) (by omega) u1
      refine ⟨.int (z + w), m', hm', .int _ _, ?_⟩
      have mo : mulOk 2 z = true := rfl
      have pw : binK false .Pow (.a (.int 10)) (.a (.int 12)) h = .ok (.a (.int (10 ^ 12))) h := rfl
      rw [callF_run hi rfl]
      simp only [touchI, List.map_cons, List.map_nil, List.replicate, List.cons_append, List.nil_append]
      simp only [ok_bind, exc_bind, ok_thn, exc_thn, ok_calm, nx_and, ret_and, brk_and, cnt_and, exc_and, ev_cst, ev_var, ev_glb, kBin_eq, ev_bin, ev_neg, kNot_eq, ev_not, ev_and, ev_or, kAnd_t, kAnd_f, kOr_t, kOr_f, kCmp_eq, ev_cmp, ev_chn, chnK_t, chnK_f, kChn1_eq, kChn_nil, kChn_cons, kIfE_t, kIfE_f, ev_ite, kIdx_eq, ev_idx, kSlc2_eq, kSlc_eq, ev_slc, ev_tup, ev_lst, ev_dnew, kLc_eq, ev_lc, kLc2_eq, ev_lc2, ev_call, ev_bi, kBm_eq, ev_bm, kIsi_eq, ev_isi, ev_lrg1, kLrg2_eq, ev_lrg2, evf_none, evf_some, oiK_int, evo_none, evo_some, evs_nil, kCons_eq, kEvs_eq, evs_cons, evIt_seq, evIt_rng1, kRng2_eq, evIt_rng2, kRng3b_eq, kRng3_eq, evIt_rng3, evIt_enu, kZip_eq, evIt_zip, ex_skip, kSeq_eq, ex_seq, kAsg_eq, ex_asg, kPar_eq, ex_par, kSI3_eq, kSI2_eq, kSI1_eq, ex_setIx, kNx_eq, ex_expr, kIfS_t, kIfS_f, ex_ite, kFor_eq, ex_for, ex_while, kRet_eq, ex_ret, ex_retN, kRaise_eq, ex_raise, ex_try, ex_brk, ex_cnt, ex_frz, tryK_nx, tryK_ret, tryK_exc, hndK_nil, hndK_cons, hndK1_f, hndK1_ti, hndK1_tn, unbK_ret, unbK_nx, unb0_ret, unb0_nx, varK_ok, tru_bl, tru_int, tru_tup, tru_lst, tru_non, tru_exc, bin_addK, bin_subK, MP.neg_int, c_lt, c_le, c_gt, c_ge, c_eq, c_ne, c_eqb, c_neb, m_lt, m_le, m_gt, m_ge, seq_tup, seq_lst, len_tup, len_lst, toList_tup, toList_lst, toTup_tup, toTup_lst, int1_int, int1_bl, min2_int, max2_int, abs_int, asg_nm, tup0, tup1, tup2, tup3, tup4, List.set_cons_zero, List.set_cons_succ, List.getElem?_cons_zero, List.getElem?_cons_succ, Bool.false_eq_true, ↓reduceIte, fin_ret, decide_true, decide_false, Bool.not_true, Bool.not_false, kOne_eq, kLcE_t, kLcE_f, lcE_eq, lcQ_nm, lcQ_tp2, lcQ_tp3, lcK1_nm, lcK1_tp2, kLcE3_eq, kLcE2_t, kLcE2_f, lcE2_eq, lcK2_nm, lcK2_tp2, rstE_nil, rstE_cons, asg_tp2, asg_tp3, asg_tp4, forK_nil, par1, par2, par3, ty_of (x := .int z) (fun _ _ => A.noConfusion) (fun _ => A.noConfusion) rfl, List.any_cons, List.any_nil, tyOf, Bool.or_false, take_set, bin_mulK mo, pw, tup7, q, e]
    | str _ s =>
      refine ⟨.str s, m, hm, .str s, ?_⟩
      rw [callF_run hi rfl, hs]
      simp only [touchI, List.map_cons, List.map_nil, List.replicate, List.cons_append, List.nil_append]
      simp only [ok_bind, exc_bind, ok_thn, exc_thn, ok_calm, nx_and, ret_and, brk_and, cnt_and, exc_and, ev_cst, ev_var, ev_glb, kBin_eq, ev_bin, ev_neg, kNot_eq, ev_not, ev_and, ev_or, kAnd_t, kAnd_f, kOr_t, kOr_f, kCmp_eq, ev_cmp, ev_chn, chnK_t, chnK_f, kChn1_eq, kChn_nil, kChn_cons, kIfE_t, kIfE_f, ev_ite, kIdx_eq, ev_idx, kSlc2_eq, kSlc_eq, ev_slc, ev_tup, ev_lst, ev_dnew, kLc_eq, ev_lc, kLc2_eq, ev_lc2, ev_call, ev_bi, kBm_eq, ev_bm, kIsi_eq, ev_isi, ev_lrg1, kLrg2_eq, ev_lrg2, evf_none, evf_some, oiK_int, evo_none, evo_some, evs_nil, kCons_eq, kEvs_eq, evs_cons, evIt_seq, evIt_rng1, kRng2_eq, evIt_rng2, kRng3b_eq, kRng3_eq, evIt_rng3, evIt_enu, kZip_eq, evIt_zip, ex_skip, kSeq_eq, ex_seq, kAsg_eq, ex_asg, kPar_eq, ex_par, kSI3_eq, kSI2_eq, kSI1_eq, ex_setIx, kNx_eq, ex_expr, kIfS_t, kIfS_f, ex_ite, kFor_eq, ex_for, ex_while, kRet_eq, ex_ret, ex_retN, kRaise_eq, ex_raise, ex_try, ex_brk, ex_cnt, ex_frz, tryK_nx, tryK_ret, tryK_exc, hndK_nil, hndK_cons, hndK1_f, hndK1_ti, hndK1_tn, unbK_ret, unbK_nx, unb0_ret, unb0_nx, varK_ok, tru_bl, tru_int, tru_tup, tru_lst, tru_non, tru_exc, bin_addK, bin_subK, MP.neg_int, c_lt, c_le, c_gt, c_ge, c_eq, c_ne, c_eqb, c_neb, m_lt, m_le, m_gt, m_ge, seq_tup, seq_lst, len_tup, len_lst, toList_tup, toList_lst, toTup_tup, toTup_lst, int1_int, int1_bl, min2_int, max2_int, abs_int, asg_nm, tup0, tup1, tup2, tup3, tup4, List.set_cons_zero, List.set_cons_succ, List.getElem?_cons_zero, List.getElem?_cons_succ, Bool.false_eq_true, ↓reduceIte, fin_ret, decide_true, decide_false, Bool.not_true, Bool.not_false, kOne_eq, kLcE_t, kLcE_f, lcE_eq, lcQ_nm, lcQ_tp2, lcQ_tp3, lcK1_nm, lcK1_tp2, kLcE3_eq, kLcE2_t, kLcE2_f, lcE2_eq, lcK2_nm, lcK2_tp2, rstE_nil, rstE_cons, asg_tp2, asg_tp3, asg_tp4, forK_nil, par1, par2, par3, ty_of (x := .str s) (fun _ _ => A.noConfusion) (fun _ => A.noConfusion) rfl, List.any_cons, List.any_nil, tyOf, Bool.or_false, take_self]
    | non =>
      refine ⟨.non, m, hm, .non, ?_⟩
      rw [callF_run hi rfl, hs]
      simp only [touchI, List.map_cons, List.map_nil, List.replicate, List.cons_append, List.nil_append]
      simp only [ok_bind, exc_bind, ok_thn, exc_thn, ok_calm, nx_and, ret_and, brk_and, cnt_and, exc_and, ev_cst, ev_var, ev_glb, kBin_eq, ev_bin, ev_neg, kNot_eq, ev_not, ev_and, ev_or, kAnd_t, kAnd_f, kOr_t, kOr_f, kCmp_eq, ev_cmp, ev_chn, chnK_t, chnK_f, kChn1_eq, kChn_nil, kChn_cons, kIfE_t, kIfE_f, ev_ite, kIdx_eq, ev_idx, kSlc2_eq, kSlc_eq, ev_slc, ev_tup, ev_lst, ev_dnew, kLc_eq, ev_lc, kLc2_eq, ev_lc2, ev_call, ev_bi, kBm_eq, ev_bm, kIsi_eq, ev_isi, ev_lrg1, kLrg2_eq, ev_lrg2, evf_none, evf_some, oiK_int, evo_none, evo_some, evs_nil, kCons_eq, kEvs_eq, evs_cons, evIt_seq, evIt_rng1, kRng2_eq, evIt_rng2, kRng3b_eq, kRng3_eq, evIt_rng3, evIt_enu, kZip_eq, evIt_zip, ex_skip, kSeq_eq, ex_seq, kAsg_eq, ex_asg, kPar_eq, ex_par, kSI3_eq, kSI2_eq, kSI1_eq, ex_setIx, kNx_eq, ex_expr, kIfS_t, kIfS_f, ex_ite, kFor_eq, ex_for, ex_while, kRet_eq, ex_ret, ex_retN, kRaise_eq, ex_raise, ex_try, ex_brk, ex_cnt, ex_frz, tryK_nx, tryK_ret, tryK_exc, hndK_nil, hndK_cons, hndK1_f, hndK1_ti, hndK1_tn, unbK_ret, unbK_nx, unb0_ret, unb0_nx, varK_ok, tru_bl, tru_int, tru_tup, tru_lst, tru_non, tru_exc, bin_addK, bin_subK, MP.neg_int, c_lt, c_le, c_gt, c_ge, c_eq, c_ne, c_eqb, c_neb, m_lt, m_le, m_gt, m_ge, seq_tup, seq_lst, len_tup, len_lst, toList_tup, toList_lst, toTup_tup, toTup_lst, int1_int, int1_bl, min2_int, max2_int, abs_int, asg_nm, tup0, tup1, tup2, tup3, tup4, List.set_cons_zero, List.set_cons_succ, List.getElem?_cons_zero, List.getElem?_cons_succ, Bool.false_eq_true, ↓reduceIte, fin_ret, decide_true, decide_false, Bool.not_true, Bool.not_false, kOne_eq, kLcE_t, kLcE_f, lcE_eq, lcQ_nm, lcQ_tp2, lcQ_tp3, lcK1_nm, lcK1_tp2, kLcE3_eq, kLcE2_t, kLcE2_f, lcE2_eq, lcK2_nm, lcK2_tp2, rstE_nil, rstE_cons, asg_tp2, asg_tp3, asg_tp4, forK_nil, par1, par2, par3, ty_of (x := .non) (fun _ _ => A.noConfusion) (fun _ => A.noConfusion) rfl, List.any_cons, List.any_nil, tyOf, Bool.or_false, take_self]
  intro d
  induction d with
  | zero =>
    intro k x h m g hp hm
    rw [show 0 + 2 + k = k + 2 from by omega]
    exact atom k x h m g hp hm
  | succ d ih =>
    intro k x h m g hp hm
    have ek : d + 1 + 2 + k = (d + 2 + k) + 1 := by omega
    cases g with
    | int _ z => rw [show d + 1 + 2 + k = (d + 1 + k) + 2 from by omega]; exact atom _ _ _ _ (.int 0 z) hp hm
    | str _ z => rw [show d + 1 + 2 + k = (d + 1 + k) + 2 from by omega]; exact atom _ _ _ _ (.str 0 z) hp hm
    | non => rw [show d + 1 + 2 + k = (d + 1 + k) + 2 from by omega]; exact atom _ _ _ _ (.non 0) hp hm
    | tup _ xs hl g =>
      have hn : n < h.length := (List.getElem?_eq_some_iff.mp hp).1
      by_cases hx : xs = []
      · subst hx
        have hs : h.set n m = h := by
          rw [← List.getElem?_eq_some_iff.mp hp |>.2, List.set_getElem_self]
        refine ⟨.tup [], m, hm, .nil, ?_⟩
        rw [ek, callF_run hi rfl, hs]
        simp only [touchI, List.map_cons, List.map_nil, List.replicate, List.cons_append, List.nil_append]
        simp only [ok_bind, exc_bind, ok_thn, exc_thn, ok_calm, nx_and, ret_and, brk_and, cnt_and, exc_and, ev_cst, ev_var, ev_glb, kBin_eq, ev_bin, ev_neg, kNot_eq, ev_not, ev_and, ev_or, kAnd_t, kAnd_f, kOr_t, kOr_f, kCmp_eq, ev_cmp, ev_chn, chnK_t, chnK_f, kChn1_eq, kChn_nil, kChn_cons, kIfE_t, kIfE_f, ev_ite, kIdx_eq, ev_idx, kSlc2_eq, kSlc_eq, ev_slc, ev_tup, ev_lst, ev_dnew, kLc_eq, ev_lc, kLc2_eq, ev_lc2, ev_call, ev_bi, kBm_eq, ev_bm, kIsi_eq, ev_isi, ev_lrg1, kLrg2_eq, ev_lrg2, evf_none, evf_some, oiK_int, evo_none, evo_some, evs_nil, kCons_eq, kEvs_eq, evs_cons, evIt_seq, evIt_rng1, kRng2_eq, evIt_rng2, kRng3b_eq, kRng3_eq, evIt_rng3, evIt_enu, kZip_eq, evIt_zip, ex_skip, kSeq_eq, ex_seq, kAsg_eq, ex_asg, kPar_eq, ex_par, kSI3_eq, kSI2_eq, kSI1_eq, ex_setIx, kNx_eq, ex_expr, kIfS_t, kIfS_f, ex_ite, kFor_eq, ex_for, ex_while, kRet_eq, ex_ret, ex_retN, kRaise_eq, ex_raise, ex_try, ex_brk, ex_cnt, ex_frz, tryK_nx, tryK_ret, tryK_exc, hndK_nil, hndK_cons, hndK1_f, hndK1_ti, hndK1_tn, unbK_ret, unbK_nx, unb0_ret, unb0_nx, varK_ok, tru_bl, tru_int, tru_tup, tru_lst, tru_non, tru_exc, bin_addK, bin_subK, MP.neg_int, c_lt, c_le, c_gt, c_ge, c_eq, c_ne, c_eqb, c_neb, m_lt, m_le, m_gt, m_ge, seq_tup, seq_lst, len_tup, len_lst, toList_tup, toList_lst, toTup_tup, toTup_lst, int1_int, int1_bl, min2_int, max2_int, abs_int, asg_nm, tup0, tup1, tup2, tup3, tup4, List.set_cons_zero, List.set_cons_succ, List.getElem?_cons_zero, List.getElem?_cons_succ, Bool.false_eq_true, ↓reduceIte, fin_ret, decide_true, decide_false, Bool.not_true, Bool.not_false, kOne_eq, kLcE_t, kLcE_f, lcE_eq, lcQ_nm, lcQ_tp2, lcQ_tp3, lcK1_nm, lcK1_tp2, kLcE3_eq, kLcE2_t, kLcE2_f, lcE2_eq, lcK2_nm, lcK2_tp2, rstE_nil, rstE_cons, asg_tp2, asg_tp3, asg_tp4, forK_nil, par1, par2, par3, ty_of (x := .tup []) (fun _ _ => A.noConfusion) (fun _ => A.noConfusion) rfl, List.any_cons, List.any_nil, tyOf, Bool.or_false, take_self, List.length_nil, Int.natCast_zero, show ¬ ((0 : Int) < 0) from by decide]
      · have hpos : 0 < xs.length := List.length_pos_iff.mpr hx
        obtain ⟨u, m1, u1, hm1, q⟩ := draw_at (k := d + 1 + k) (z := xs.length) hj hp hm (by omega) (by omega)
        have hu : u < xs.length := by omega
        have hp1 : (h.set n m1)[n]? = some m1 := by rw [List.getElem?_set_self hn]
        obtain ⟨y, m2, hm2, tc, q2⟩ := ih k xs[u] (h.set n m1) m1 (g _ (List.getElem_mem hu)) hp1 hm1
        refine ⟨.tup (xs.set u y), m2, hm2, .tup xs u hu y tc, ?_⟩
        rw [show d + 1 + k + 1 = d + 2 + k from by omega] at q
        have c1 : cut xs (some ((u : Int) + 1)) none = xs.drop (u + 1) := cut_from xs (u + 1)
        have i1 : ∀ {h : Mem}, idxK (.a (.tup xs)) (.a (.int u)) h = .ok (.a xs[u]) h := fun {h} => idxK_of (idx_tup hu)
        have s1 : (List.take u xs).length + [y].length ≤ sizeLine := by
          rw [List.length_take, Nat.min_eq_left (Nat.le_of_lt hu)]
          show u + 1 ≤ 2 ^ 24
          omega
        have s2 : (List.take u xs ++ [y]).length + (xs.drop (u + 1)).length ≤ sizeLine := by
          rw [List.length_append, List.length_take, Nat.min_eq_left (Nat.le_of_lt hu), List.length_drop]
          show u + 1 + (xs.length - (u + 1)) ≤ 2 ^ 24
          omega
        have lt : ((0 : Int) < (xs.length : Int)) := by omega
        rw [ek, callF_run hi rfl]
        simp only [touchI, List.map_cons, List.map_nil, List.replicate, List.cons_append, List.nil_append]
        simp only [ok_bind, exc_bind, ok_thn, exc_thn, ok_calm, nx_and, ret_and, brk_and, cnt_and, exc_and, ev_cst, ev_var, ev_glb, kBin_eq, ev_bin, ev_neg, kNot_eq, ev_not, ev_and, ev_or, kAnd_t, kAnd_f, kOr_t, kOr_f, kCmp_eq, ev_cmp, ev_chn, chnK_t, chnK_f, kChn1_eq, kChn_nil, kChn_cons, kIfE_t, kIfE_f, ev_ite, kIdx_eq, ev_idx, kSlc2_eq, kSlc_eq, ev_slc, ev_tup, ev_lst, ev_dnew, kLc_eq, ev_lc, kLc2_eq, ev_lc2, ev_call, ev_bi, kBm_eq, ev_bm, kIsi_eq, ev_isi, ev_lrg1, kLrg2_eq, ev_lrg2, evf_none, evf_some, oiK_int, evo_none, evo_some, evs_nil, kCons_eq, kEvs_eq, evs_cons, evIt_seq, evIt_rng1, kRng2_eq, evIt_rng2, kRng3b_eq, kRng3_eq, evIt_rng3, evIt_enu, kZip_eq, evIt_zip, ex_skip, kSeq_eq, ex_seq, kAsg_eq, ex_asg, kPar_eq, ex_par, kSI3_eq, kSI2_eq, kSI1_eq, ex_setIx, kNx_eq, ex_expr, kIfS_t, kIfS_f, ex_ite, kFor_eq, ex_for, ex_while, kRet_eq, ex_ret, ex_retN, kRaise_eq, ex_raise, ex_try, ex_brk, ex_cnt, ex_frz, tryK_nx, tryK_ret, tryK_exc, hndK_nil, hndK_cons, hndK1_f, hndK1_ti, hndK1_tn, unbK_ret, unbK_nx, unb0_ret, unb0_nx, varK_ok, tru_bl, tru_int, tru_tup, tru_lst, tru_non, tru_exc, bin_addK, bin_subK, MP.neg_int, c_lt, c_le, c_gt, c_ge, c_eq, c_ne, c_eqb, c_neb, m_lt, m_le, m_gt, m_ge, seq_tup, seq_lst, len_tup, len_lst, toList_tup, toList_lst, toTup_tup, toTup_lst, int1_int, int1_bl, min2_int, max2_int, abs_int, asg_nm, tup0, tup1, tup2, tup3, tup4, List.set_cons_zero, List.set_cons_succ, List.getElem?_cons_zero, List.getElem?_cons_succ, Bool.false_eq_true, ↓reduceIte, fin_ret, decide_true, decide_false, Bool.not_true, Bool.not_false, kOne_eq, kLcE_t, kLcE_f, lcE_eq, lcQ_nm, lcQ_tp2, lcQ_tp3, lcK1_nm, lcK1_tp2, kLcE3_eq, kLcE2_t, kLcE2_f, lcE2_eq, lcK2_nm, lcK2_tp2, rstE_nil, rstE_cons, asg_tp2, asg_tp3, asg_tp4, forK_nil, par1, par2, par3, ty_of (x := .tup xs) (fun _ _ => A.noConfusion) (fun _ => A.noConfusion) rfl, List.any_cons, List.any_nil, tyOf, Bool.or_false, lt, q, slc_tup, cut_til, i1, q2, bin_add_tup s1, c1, bin_add_tup s2, set_eq xs u hu y, List.set_set, take_set]
end
end MP
end
section
set_option Elab.async false
set_option linter.all false
set_option maxRecDepth 100000
set_option maxHeartbeats 4000000
/-! MP: lists of ints, pairs; comprehensions with a condition. -/
namespace MP
open PySem
abbrev encI (i : Int) : A := .int i
abbrev encQ (p : Int × Int) : A := .tup [.int p.1, .int p.2]
abbrev encQL (p : Int × Int) : A := .lst [.int p.1, .int p.2]
def rngI (i j : Int) : List Int := (List.range (j - i).toNat).map fun (k : Nat) => i + k
theorem eqvs_int : ∀ (xs ys : List Int), A.eqvs (xs.map .int) (ys.map .int) = decide (xs = ys)
  | [], [] => rfl
  | [], _ :: _ => rfl
  | _ :: _, [] => rfl
  | x :: xs, y :: ys => by
    show (decide (x = y) && A.eqvs (xs.map .int) (ys.map .int)) = _
    rw [eqvs_int xs ys, Bool.eq_iff_iff, Bool.and_eq_true, decide_eq_true_iff, decide_eq_true_iff, decide_eq_true_iff, List.cons.injEq]
section
variable {G : Prg} {C : Ctx} {k base f : Nat} {h : Mem} {env : Env}
theorem c_eqA {x y : A} (hx : A.lowB x = true) (hy : A.lowB y = true) : cmpK .Eq (.a x) (.a y) h = .ok (.a (.bl (A.eqv x y))) h := by
  refine cmpK_of ?_
  show (if (A.lowB x && A.lowB y) = true then some (A.eqv x y) else none) = _
  rw [hx, hy]
  rfl
theorem c_neA {x y : A} (hx : A.lowB x = true) (hy : A.lowB y = true) : cmpK .NotEq (.a x) (.a y) h = .ok (.a (.bl (!A.eqv x y))) h := by
  refine cmpK_of ?_
  show (if (A.lowB x && A.lowB y) = true then some (A.eqv x y) else none).map _ = _
  rw [hx, hy]
  rfl
theorem low_ints (xs : List Int) : A.lowB (.lst (xs.map .int)) = true := lows_int 49 xs
theorem low_intsT (xs : List Int) : A.lowB (.tup (xs.map .int)) = true := lows_int 49 xs
theorem c_eqL {xs ys : List Int} : cmpK .Eq (.a (.lst (xs.map .int))) (.a (.lst (ys.map .int))) h = .ok (.a (.bl (decide (xs = ys)))) h := by
  rw [c_eqA (low_ints _) (low_ints _)]
  show R.ok (D.a (.bl (A.eqvs _ _))) h = _
  rw [eqvs_int]
theorem c_neL {xs ys : List Int} : cmpK .NotEq (.a (.lst (xs.map .int))) (.a (.lst (ys.map .int))) h = .ok (.a (.bl (!decide (xs = ys)))) h := by
  rw [c_neA (low_ints _) (low_ints _)]
  show R.ok (D.a (.bl (!A.eqvs _ _))) h = _
  rw [eqvs_int]
theorem c_str {s t : Str} : cmpK .Eq (.a (.str s)) (.a (.str t)) h = .ok (.a (.bl (decide (s = t)))) h := cmpK_of rfl
theorem c_strn {s t : Str} : cmpK .NotEq (.a (.str s)) (.a (.str t)) h = .ok (.a (.bl (!decide (s = t)))) h := cmpK_of rfl
theorem c_inL {i : Int} {xs : List Int} : cmpK .In (.a (.int i)) (.a (.lst (xs.map .int))) h = .ok (.a (.bl (decide (i ∈ xs)))) h := cmpK_of (cmp_in_lst _ _)
theorem c_inT {i : Int} {xs : List Int} : cmpK .In (.a (.int i)) (.a (.tup (xs.map .int))) h = .ok (.a (.bl (decide (i ∈ xs)))) h := cmpK_of (cmp_in_tup _ _)
theorem c_ninL {i : Int} {xs : List Int} : cmpK .NotIn (.a (.int i)) (.a (.lst (xs.map .int))) h = .ok (.a (.bl (!decide (i ∈ xs)))) h := by
  refine cmpK_of ?_
  show (cmp .In h (.a (.int i)) (.a (.lst (xs.map .int)))).map (!·) = _
  rw [cmp_in_lst]
  rfl
theorem c_ninT {i : Int} {xs : List Int} : cmpK .NotIn (.a (.int i)) (.a (.tup (xs.map .int))) h = .ok (.a (.bl (!decide (i ∈ xs)))) h := by
  refine cmpK_of ?_
  show (cmp .In h (.a (.int i)) (.a (.tup (xs.map .int)))).map (!·) = _
  rw [cmp_in_tup]
  rfl
theorem c_ninR {i : Int} {n : Nat} {xs : List Int} (e : h[n]? = some (.lst (xs.map .int))) : cmpK .NotIn (.a (.int i)) (.ref n) h = .ok (.a (.bl (!decide (i ∈ xs)))) h := by
  refine cmpK_of ?_
  show (match h[n]? with
      | some (.lst ys) => if A.lowB (.int i) && A.lows ys 50 then some (inA (.int i) ys) else none
      | some (.dk kvs) => (key? (.int i)).map fun k => (dget kvs k).isSome
      | some (.dt kvs) => (tkey? (.int i)).map fun k => (dget kvs k).isSome
      | _ => none).map (!·) = _
  rw [e]
  show (if (A.lowB (.int i) && A.lows (xs.map .int) 50) = true then some (inA (.int i) (xs.map .int)) else none).map _ = _
  rw [lows_int, inA_int]
  rfl
theorem lrg2_ff {i j : Int} (h1 : -1000000 ≤ i) (h2 : i ≤ 1000000) (h3 : -1000000 ≤ j) (h4 : j ≤ 1000000) : lrg2K false false (.a (.int i)) (.a (.int j)) h = .ok (.a (.lst ((rngI i j).map .int))) h := by
  show (if (rngOk i && rngOk j && decide ((j - i).toNat ≤ 16777216)) = true then _ else _) = _
  rw [if_pos (by
    unfold rngOk
    simp only [Bool.and_eq_true, decide_eq_true_eq]
    refine ⟨⟨⟨?_, ?_⟩, ?_, ?_⟩, ?_⟩ <;> omega)]
  unfold rngI
  rw [List.map_map]
  rfl
theorem rng2_I {i j : Int} (h1 : -1000000 ≤ i) (h2 : i ≤ 1000000) (h3 : -1000000 ≤ j) (h4 : j ≤ 1000000) : rng2K (.a (.int i)) (.a (.int j)) h = .ok (((rngI i j).map A.int).map D.a) h := by
  rw [rng2_int (by
    unfold rngOk
    simp only [Bool.and_eq_true, decide_eq_true_eq]
    refine ⟨⟨?_, ?_⟩, ?_, ?_⟩ <;> omega)]
  unfold rngI rngL
  rw [List.map_map, List.map_map]
  rfl
theorem sorted_L {xs : List Int} : biK false .sorted [.a (.lst (xs.map .int))] h = .ok (.a (.lst ((sortI xs).map .int))) h := by
  refine biK_of ?_
  show (match ints? (xs.map A.int) with
    | some is => some (A.lst ((sortI is).map .int))
    | none => if sortOk (xs.map A.int) then some (.lst (sortA (xs.map A.int))) else none) = _
  rw [ints_map]
theorem sum2 {a b : Int} : biK false .sum [.a (.tup [.int a, .int b])] h = .ok (.a (.int (a + b))) h := by
  show R.ok (D.a (.int (a + (b + 0)))) h = _
  rw [Int.add_zero]
/-- comprehensions: some elements for each -/
theorem lc_flat {α : Type} {step : D → Mem → R (List D)} (enc : α → D) (g : α → List A) {xs : List α} (hs : ∀ x ∈ xs, step (enc x) h = .ok ((g x).map D.a) h) :
    lcD step (xs.map enc) h = .ok ((xs.flatMap g).map D.a) h := by
  induction xs with
  | nil => rfl
  | cons x xs ih =>
    show (step (enc x) h).bind _ = _
    rw [hs x List.mem_cons_self]
    show (lcD step (xs.map enc) h).bind _ = _
    rw [ih fun y hy => hs y (List.mem_cons_of_mem _ hy), List.flatMap_cons, List.map_append]
    rfl
theorem lc_filter {α : Type} {step : D → Mem → R (List D)} (enc : α → D) (p : α → Bool) (g : α → A) {xs : List α} (hs : ∀ x ∈ xs, step (enc x) h = .ok (if p x = true then [.a (g x)] else []) h) :
    lcD step (xs.map enc) h = .ok (((xs.filter p).map g).map D.a) h := by
  induction xs with
  | nil => rfl
  | cons x xs ih =>
    show (step (enc x) h).bind _ = _
    rw [hs x List.mem_cons_self]
    show (lcD step (xs.map enc) h).bind _ = _
    rw [ih fun y hy => hs y (List.mem_cons_of_mem _ hy), List.filter_cons]
    cases p x <;> rfl
/-- a comprehension as an expression -/
theorem lc_done {r : R (List D)} {xs : List A} (e : r = .ok (xs.map D.a) h) (hl : xs.length ≤ 1000000) : r.calm.bind (mkL false) = .ok (.a (.lst xs)) h := by
  rw [e, ok_calm, ok_bind, mkL_f (Nat.le_trans hl (by show 1000000 ≤ 2 ^ 24; omega))]
theorem lc_mapA {α : Type} {step : D → Mem → R (List D)} (e : α → A) (g : α → A) {xs : List α} (hs : ∀ x ∈ xs, step (.a (e x)) h = .ok [.a (g x)] h) :
    lcD step ((xs.map e).map D.a) h = .ok ((xs.map g).map D.a) h := by
  rw [List.map_map]
  exact lc_map (D.a ∘ e) g hs
theorem lc_flatA {α : Type} {step : D → Mem → R (List D)} (e : α → A) (g : α → List A) {xs : List α} (hs : ∀ x ∈ xs, step (.a (e x)) h = .ok ((g x).map D.a) h) :
    lcD step ((xs.map e).map D.a) h = .ok ((xs.flatMap g).map D.a) h := by
  rw [List.map_map]
  exact lc_flat (D.a ∘ e) g hs
theorem lc_filterA {α : Type} {step : D → Mem → R (List D)} (e : α → A) (p : α → Bool) (g : α → A) {xs : List α} (hs : ∀ x ∈ xs, step (.a (e x)) h = .ok (if p x = true then [.a (g x)] else []) h) :
    lcD step ((xs.map e).map D.a) h = .ok (((xs.filter p).map g).map D.a) h := by
  rw [List.map_map]
  exact lc_filter (D.a ∘ e) p g hs
theorem lenSet_I {xs : List Int} (hl : xs.length < 4000) : biK false .lenSet [.a (.lst (xs.map .int))] h = .ok (.a (.int (dedI xs).length)) h := by
  refine biK_of ?_
  show ((ints? (xs.map A.int)).bind fun is => if is.length < 4000 then some (A.int (dedI is).length) else none) = _
  rw [ints_map]
  show (if xs.length < 4000 then some (A.int (dedI xs).length) else none) = _
  rw [if_pos hl]
theorem forK_qaux {t : Tg} {rst : List Nat} {b : S} (P : Nat → Env → Mem → Prop) (Q : X → Prop) : ∀ (xs : List D) (j : Nat) (env : Env) (h : Mem),
    (∀ i (hi : i < xs.length) env h, P (j + i) env h → ∃ e, setTg t xs[i] h env = some e ∧ ((∃ e' h', MP.exec C base b e h = .nx e' h' ∧ P (j + i + 1) (rstE rst e') h') ∨ (∃ d h', MP.exec C base b e h = .ret d h' ∧ Q (.ret d h')) ∨ (∃ e' h', MP.exec C base b e h = .brk e' h' ∧ Q (.nx (rstE rst e') h')))) →
    (∀ env h, P (j + xs.length) env h → Q (.nx env h)) → P j env h → Q (forK C base t rst b xs env h)
  | [], j, env, h, _, he, hp => he env h hp
  | x :: xs, j, env, h, hs, he, hp => by
    obtain ⟨e, h1, h2⟩ := hs 0 (Nat.zero_lt_succ _) env h hp
    have h1 : setTg t x h env = some e := h1
    unfold forK forL
    rw [h1]
    show Q ((MP.exec C base b e h).turn rst (forL t rst _ xs))
    rcases h2 with ⟨e', h', h2, h3⟩ | ⟨d, h', h2, h3⟩ | ⟨e', h', h2, h3⟩
    · rw [h2]
      refine forK_qaux P Q xs (j + 1) (rstE rst e') h' (fun i hi env h hp => ?_) (fun env h hp => ?_) h3
      · have := hs (i + 1) (by rw [List.length_cons]; omega) env h (by rw [show j + (i + 1) = j + 1 + i from by omega]; exact hp)
        rw [show j + (i + 1) + 1 = j + 1 + i + 1 from by omega] at this
        exact this
      · exact he env h (by rw [List.length_cons, show j + (xs.length + 1) = j + 1 + xs.length from by omega]; exact hp)
    · rw [h2]
      exact h3
    · rw [h2]
      exact h3
/-- a loop through a list that may be left early -/
theorem forK_q {t : Tg} {rst : List Nat} {b : S} (P : Nat → Env → Mem → Prop) (Q : X → Prop) {xs : List D} (h0 : P 0 env h)
    (hs : ∀ j (hj : j < xs.length) env h, P j env h → ∃ e, setTg t xs[j] h env = some e ∧ ((∃ e' h', MP.exec C base b e h = .nx e' h' ∧ P (j + 1) (rstE rst e') h') ∨ (∃ d h', MP.exec C base b e h = .ret d h' ∧ Q (.ret d h')) ∨ (∃ e' h', MP.exec C base b e h = .brk e' h' ∧ Q (.nx (rstE rst e') h'))))
    (he : ∀ env h, P xs.length env h → Q (.nx env h)) : Q (forK C base t rst b xs env h) := by
  refine forK_qaux P Q xs 0 env h (fun i hi env h hp => ?_) (fun env h hp => ?_) h0
  · rw [Nat.zero_add] at hp ⊢
    exact hs i hi env h hp
  · rw [Nat.zero_add] at hp
    exact he env h hp
end
theorem frz_one {i n : Nat} {env : Env} {h : Mem} {xs : List A} (e1 : env[i]? = some (some (.ref n))) (e2 : h[n]? = some (.lst xs)) : frzAll [i] env h = .nx (env.set i (some (.a (.lst xs)))) (h.set n .gone) := by
  have e : frz1 i env h = .nx (env.set i (some (.a (.lst xs)))) (h.set n .gone) := by
    unfold frz1
    rw [e1]
    dsimp only
    rw [e2]
  unfold frzAll
  rw [e]
  rfl
theorem dedI_le : ∀ xs : List Int, (dedI xs).length ≤ xs.length
  | [] => Nat.le_refl _
  | x :: xs => by
    have := dedI_le xs
    unfold dedI
    split
    · rw [List.length_cons]; omega
    · rw [List.length_cons, List.length_cons]; omega
theorem dedI_nd : ∀ {xs : List Int}, (dedI xs).length = xs.length → xs.Nodup
  | [], _ => List.nodup_nil
  | x :: xs, e => by
    have l := dedI_le xs
    unfold dedI at e
    split at e
    · rw [List.length_cons] at e; omega
    · rename_i c
      rw [List.length_cons, List.length_cons] at e
      exact List.nodup_cons.mpr ⟨fun m => c (List.contains_iff_mem.mpr m), dedI_nd (by omega)⟩
def plainI (i : Nat) : FnI := ⟨3, 1, (.seq (.ite (.isi (.var 0) [.tuple]) (.seq (.ret (.cmp .NotIn (.cst (.bl false)) (.lc false (.call i [(.var 2)]) (.nm 2) (.seq (.var 0)) none [1, 2]))) .skip) .skip) (.seq (.ret (.or (.isi (.var 0) [.str]) (.and (.isi (.var 0) [.int]) (.not (.isi (.var 0) [.bool]))))) .skip))⟩
/-- words, numbers, tuples of such, so deep -/
inductive Gw : Nat → A → Prop
  | int (d : Nat) (i : Int) : Gw d (.int i)
  | str (d : Nat) (s : Str) : Gw d (.str s)
  | tup (d : Nat) (xs : List A) : xs.length ≤ 1000000 → (∀ x ∈ xs, Gw d x) → Gw (d + 1) (.tup xs)
theorem inA_true (n : Nat) : inA (.bl false) (List.replicate n (.bl true)) = false := by
  induction n with
  | zero => rfl
  | succ n ih =>
    show (A.eqv (.bl true) (.bl false) || inA (.bl false) (List.replicate n (.bl true))) = false
    rw [ih]
    rfl
theorem lows_true (n m : Nat) : A.lows (List.replicate n (.bl true)) m = true := by
  induction n with
  | zero => rfl
  | succ n ih =>
    show (A.low (.bl true) m && A.lows (List.replicate n (.bl true)) m) = true
    rw [ih]
    rfl
theorem map_true {α : Type} (xs : List α) : xs.map (fun _ => A.bl true) = List.replicate xs.length (.bl true) := by
  induction xs with
  | nil => rfl
  | cons x xs ih => rw [List.map_cons, ih]; rfl
/-- what has nothing but words, numbers and tuples is plain -/
theorem plain_ok {G : Prg} {h : Mem} {i : Nat} (hi : G.fns[i]? = some (plainI i)) : ∀ (d k : Nat) (x : A), Gw d x → callF G (d + 1 + k) i [.a x] h = .ok (.a (.bl true)) h := by
  have atom : ∀ (k : Nat) (x : A), Gw 0 x → callF G (k + 1) i [.a x] h = .ok (.a (.bl true)) h := by
    intro k x g
    rw [callF_run hi rfl]
    simp only [plainI, List.map_cons, List.map_nil, List.replicate, List.cons_append, List.nil_append]
    cases g with
    | int _ z => simp only [ok_bind, exc_bind, ok_thn, exc_thn, ok_calm, nx_and, ret_and, brk_and, cnt_and, exc_and, ev_cst, ev_var, ev_glb, kBin_eq, ev_bin, ev_neg, kNot_eq, ev_not, ev_and, ev_or, kAnd_t, kAnd_f, kOr_t, kOr_f, kCmp_eq, ev_cmp, ev_chn, chnK_t, chnK_f, kChn1_eq, kChn_nil, kChn_cons, kIfE_t, kIfE_f, ev_ite, kIdx_eq, ev_idx, kSlc2_eq, kSlc_eq, ev_slc, ev_tup, ev_lst, ev_dnew, kLc_eq, ev_lc, kLc2_eq, ev_lc2, ev_call, ev_bi, kBm_eq, ev_bm, kIsi_eq, ev_isi, ev_lrg1, kLrg2_eq, ev_lrg2, evf_none, evf_some, oiK_int, evo_none, evo_some, evs_nil, kCons_eq, kEvs_eq, evs_cons, evIt_seq, evIt_rng1, kRng2_eq, evIt_rng2, kRng3b_eq, kRng3_eq, evIt_rng3, evIt_enu, kZip_eq, evIt_zip, ex_skip, kSeq_eq, ex_seq, kAsg_eq, ex_asg, kPar_eq, ex_par, kSI3_eq, kSI2_eq, kSI1_eq, ex_setIx, kNx_eq, ex_expr, kIfS_t, kIfS_f, ex_ite, kFor_eq, ex_for, ex_while, kRet_eq, ex_ret, ex_retN, kRaise_eq, ex_raise, ex_try, ex_brk, ex_cnt, ex_frz, tryK_nx, tryK_ret, tryK_exc, hndK_nil, hndK_cons, hndK1_f, hndK1_ti, hndK1_tn, unbK_ret, unbK_nx, unb0_ret, unb0_nx, varK_ok, tru_bl, tru_int, tru_tup, tru_lst, tru_non, tru_exc, bin_addK, bin_subK, MP.neg_int, c_lt, c_le, c_gt, c_ge, c_eq, c_ne, c_eqb, c_neb, m_lt, m_le, m_gt, m_ge, seq_tup, seq_lst, len_tup, len_lst, toList_tup, toList_lst, toTup_tup, toTup_lst, int1_int, int1_bl, min2_int, max2_int, abs_int, asg_nm, tup0, tup1, tup2, tup3, tup4, List.set_cons_zero, List.set_cons_succ, List.getElem?_cons_zero, List.getElem?_cons_succ, Bool.false_eq_true, ↓reduceIte, fin_ret, decide_true, decide_false, Bool.not_true, Bool.not_false, kOne_eq, kLcE_t, kLcE_f, lcE_eq, lcQ_nm, lcQ_tp2, lcQ_tp3, lcK1_nm, lcK1_tp2, kLcE3_eq, kLcE2_t, kLcE2_f, lcE2_eq, lcK2_nm, lcK2_tp2, rstE_nil, rstE_cons, asg_tp2, asg_tp3, asg_tp4, forK_nil, par1, par2, par3, ty_of (x := .int z) (fun _ _ => A.noConfusion) (fun _ => A.noConfusion) rfl, List.any_cons, List.any_nil, tyOf, Bool.or_false, take_self]
    | str _ z => simp only [ok_bind, exc_bind, ok_thn, exc_thn, ok_calm, nx_and, ret_and, brk_and, cnt_and, exc_and, ev_cst, ev_var, ev_glb, kBin_eq, ev_bin, ev_neg, kNot_eq, ev_not, ev_and, ev_or, kAnd_t, kAnd_f, kOr_t, kOr_f, kCmp_eq, ev_cmp, ev_chn, chnK_t, chnK_f, kChn1_eq, kChn_nil, kChn_cons, kIfE_t, kIfE_f, ev_ite, kIdx_eq, ev_idx, kSlc2_eq, kSlc_eq, ev_slc, ev_tup, ev_lst, ev_dnew, kLc_eq, ev_lc, kLc2_eq, ev_lc2, ev_call, ev_bi, kBm_eq, ev_bm, kIsi_eq, ev_isi, ev_lrg1, kLrg2_eq, ev_lrg2, evf_none, evf_some, oiK_int, evo_none, evo_some, evs_nil, kCons_eq, kEvs_eq, evs_cons, evIt_seq, evIt_rng1, kRng2_eq, evIt_rng2, kRng3b_eq, kRng3_eq, evIt_rng3, evIt_enu, kZip_eq, evIt_zip, ex_skip, kSeq_eq, ex_seq, kAsg_eq, ex_asg, kPar_eq, ex_par, kSI3_eq, kSI2_eq, kSI1_eq, ex_setIx, kNx_eq, ex_expr, kIfS_t, kIfS_f, ex_ite, kFor_eq, ex_for, ex_while, kRet_eq, ex_ret, ex_retN, kRaise_eq, ex_raise, ex_try, ex_brk, ex_cnt, ex_frz, tryK_nx, tryK_ret, tryK_exc, hndK_nil, hndK_cons, hndK1_f, hndK1_ti, hndK1_tn, unbK_ret, unbK_nx, unb0_ret, unb0_nx, varK_ok, tru_bl, tru_int, tru_tup, tru_lst, tru_non, tru_exc, bin_addK, bin_subK, MP.neg_int, c_lt, c_le, c_gt, c_ge, c_eq, c_ne, c_eqb, c_neb, m_lt, m_le, m_gt, m_ge, seq_tup, seq_lst, len_tup, len_lst, toList_tup, toList_lst, toTup_tup, toTup_lst, int1_int, int1_bl, min2_int, max2_int, abs_int, asg_nm, tup0, tup1, tup2, tup3, tup4, List.set_cons_zero, List.set_cons_succ, List.getElem?_cons_zero, List.getElem?_cons_succ, Bool.false_eq_true, ↓reduceIte, fin_ret, decide_true, decide_false, Bool.not_true, Bool.not_false, kOne_eq, kLcE_t, kLcE_f, lcE_eq, lcQ_nm, lcQ_tp2, lcQ_tp3, lcK1_nm, lcK1_tp2, kLcE3_eq, kLcE2_t, kLcE2_f, lcE2_eq, lcK2_nm, lcK2_tp2, rstE_nil, rstE_cons, asg_tp2, asg_tp3, asg_tp4, forK_nil, par1, par2, par3, ty_of (x := .str z) (fun _ _ => A.noConfusion) (fun _ => A.noConfusion) rfl, List.any_cons, List.any_nil, tyOf, Bool.or_false, take_self]
  intro d
  induction d with
  | zero =>
    intro k x g
    rw [show 0 + 1 + k = k + 1 from by omega]
    exact atom k x g
  | succ d ih =>
    intro k x g
    rw [show d + 1 + 1 + k = (d + 1 + k) + 1 from by omega]
    cases g with
    | int _ z => exact atom _ _ (.int 0 z)
    | str _ z => exact atom _ _ (.str 0 z)
    | tup _ xs hl g =>
      have l1 := lc_mapA (h := h) (step := lcQ ⟨G, runF G (d + 1 + k)⟩ (.call i [(.var 2)]) (.nm 2) none [1, 2] [some (.a (.tup xs)), none, none]) id (fun _ => .bl true) (xs := xs) (by
        intro x hx
        simp only [ok_bind, exc_bind, ok_thn, exc_thn, ok_calm, nx_and, ret_and, brk_and, cnt_and, exc_and, ev_cst, ev_var, ev_glb, kBin_eq, ev_bin, ev_neg, kNot_eq, ev_not, ev_and, ev_or, kAnd_t, kAnd_f, kOr_t, kOr_f, kCmp_eq, ev_cmp, ev_chn, chnK_t, chnK_f, kChn1_eq, kChn_nil, kChn_cons, kIfE_t, kIfE_f, ev_ite, kIdx_eq, ev_idx, kSlc2_eq, kSlc_eq, ev_slc, ev_tup, ev_lst, ev_dnew, kLc_eq, ev_lc, kLc2_eq, ev_lc2, ev_call, ev_bi, kBm_eq, ev_bm, kIsi_eq, ev_isi, ev_lrg1, kLrg2_eq, ev_lrg2, evf_none, evf_some, oiK_int, evo_none, evo_some, evs_nil, kCons_eq, kEvs_eq, evs_cons, evIt_seq, evIt_rng1, kRng2_eq, evIt_rng2, kRng3b_eq, kRng3_eq, evIt_rng3, evIt_enu, kZip_eq, evIt_zip, ex_skip, kSeq_eq, ex_seq, kAsg_eq, ex_asg, kPar_eq, ex_par, kSI3_eq, kSI2_eq, kSI1_eq, ex_setIx, kNx_eq, ex_expr, kIfS_t, kIfS_f, ex_ite, kFor_eq, ex_for, ex_while, kRet_eq, ex_ret, ex_retN, kRaise_eq, ex_raise, ex_try, ex_brk, ex_cnt, ex_frz, tryK_nx, tryK_ret, tryK_exc, hndK_nil, hndK_cons, hndK1_f, hndK1_ti, hndK1_tn, unbK_ret, unbK_nx, unb0_ret, unb0_nx, varK_ok, tru_bl, tru_int, tru_tup, tru_lst, tru_non, tru_exc, bin_addK, bin_subK, MP.neg_int, c_lt, c_le, c_gt, c_ge, c_eq, c_ne, c_eqb, c_neb, m_lt, m_le, m_gt, m_ge, seq_tup, seq_lst, len_tup, len_lst, toList_tup, toList_lst, toTup_tup, toTup_lst, int1_int, int1_bl, min2_int, max2_int, abs_int, asg_nm, tup0, tup1, tup2, tup3, tup4, List.set_cons_zero, List.set_cons_succ, List.getElem?_cons_zero, List.getElem?_cons_succ, Bool.false_eq_true, ↓reduceIte, fin_ret, decide_true, decide_false, Bool.not_true, Bool.not_false, kOne_eq, kLcE_t, kLcE_f, lcE_eq, lcQ_nm, lcQ_tp2, lcQ_tp3, lcK1_nm, lcK1_tp2, kLcE3_eq, kLcE2_t, kLcE2_f, lcE2_eq, lcK2_nm, lcK2_tp2, rstE_nil, rstE_cons, asg_tp2, asg_tp3, asg_tp4, forK_nil, par1, par2, par3, id_eq, ih k x (g x hx)])
      rw [List.map_id] at l1
      have l1' := lc_done l1 (by rw [List.length_map]; exact hl)
      have nin : cmpK .NotIn (.a (.bl false)) (.a (.lst (xs.map fun _ => A.bl true))) h = .ok (.a (.bl true)) h := by
        refine cmpK_of ?_
        show (if (A.lowB (.bl false) && A.lows (xs.map fun _ => A.bl true) 50) = true then some (inA (.bl false) (xs.map fun _ => A.bl true)) else none).map (!·) = _
        rw [map_true, lows_true, inA_true]
        rfl
      rw [callF_run hi rfl]
      simp only [plainI, List.map_cons, List.map_nil, List.replicate, List.cons_append, List.nil_append]
      simp only [ok_bind, exc_bind, ok_thn, exc_thn, ok_calm, nx_and, ret_and, brk_and, cnt_and, exc_and, ev_cst, ev_var, ev_glb, kBin_eq, ev_bin, ev_neg, kNot_eq, ev_not, ev_and, ev_or, kAnd_t, kAnd_f, kOr_t, kOr_f, kCmp_eq, ev_cmp, ev_chn, chnK_t, chnK_f, kChn1_eq, kChn_nil, kChn_cons, kIfE_t, kIfE_f, ev_ite, kIdx_eq, ev_idx, kSlc2_eq, kSlc_eq, ev_slc, ev_tup, ev_lst, ev_dnew, kLc_eq, ev_lc, kLc2_eq, ev_lc2, ev_call, ev_bi, kBm_eq, ev_bm, kIsi_eq, ev_isi, ev_lrg1, kLrg2_eq, ev_lrg2, evf_none, evf_some, oiK_int, evo_none, evo_some, evs_nil, kCons_eq, kEvs_eq, evs_cons, evIt_seq, evIt_rng1, kRng2_eq, evIt_rng2, kRng3b_eq, kRng3_eq, evIt_rng3, evIt_enu, kZip_eq, evIt_zip, ex_skip, kSeq_eq, ex_seq, kAsg_eq, ex_asg, kPar_eq, ex_par, kSI3_eq, kSI2_eq, kSI1_eq, ex_setIx, kNx_eq, ex_expr, kIfS_t, kIfS_f, ex_ite, kFor_eq, ex_for, ex_while, kRet_eq, ex_ret, ex_retN, kRaise_eq, ex_raise, ex_try, ex_brk, ex_cnt, ex_frz, tryK_nx, tryK_ret, tryK_exc, hndK_nil, hndK_cons, hndK1_f, hndK1_ti, hndK1_tn, unbK_ret, unbK_nx, unb0_ret, unb0_nx, varK_ok, tru_bl, tru_int, tru_tup, tru_lst, tru_non, tru_exc, bin_addK, bin_subK, MP.neg_int, c_lt, c_le, c_gt, c_ge, c_eq, c_ne, c_eqb, c_neb, m_lt, m_le, m_gt, m_ge, seq_tup, seq_lst, len_tup, len_lst, toList_tup, toList_lst, toTup_tup, toTup_lst, int1_int, int1_bl, min2_int, max2_int, abs_int, asg_nm, tup0, tup1, tup2, tup3, tup4, List.set_cons_zero, List.set_cons_succ, List.getElem?_cons_zero, List.getElem?_cons_succ, Bool.false_eq_true, ↓reduceIte, fin_ret, decide_true, decide_false, Bool.not_true, Bool.not_false, kOne_eq, kLcE_t, kLcE_f, lcE_eq, lcQ_nm, lcQ_tp2, lcQ_tp3, lcK1_nm, lcK1_tp2, kLcE3_eq, kLcE2_t, kLcE2_f, lcE2_eq, lcK2_nm, lcK2_tp2, rstE_nil, rstE_cons, asg_tp2, asg_tp3, asg_tp4, forK_nil, par1, par2, par3, ty_of (x := .tup xs) (fun _ _ => A.noConfusion) (fun _ => A.noConfusion) rfl, List.any_cons, List.any_nil, tyOf, Bool.or_false, take_self, l1', nin]
end MP
end
section
set_option Elab.async false
set_option linter.all false
set_option maxRecDepth 100000
set_option maxHeartbeats 4000000
/-! MP: loops that look for something, empty lists. -/
namespace MP
open PySem
section
variable {G : Prg} {C : Ctx} {k base f : Nat} {h : Mem} {env : Env}
/-- a loop that leaves at the first hit -/
theorem forK_find {t : Tg} {rst : List Nat} {b : S} {α : Type} (e : α → A) (f : α → Option D) : ∀ {xs : List α},
    (∀ x ∈ xs, ∃ e1, setTg t (.a (e x)) h env = some e1 ∧ (match f x with
      | none => ∃ e2, MP.exec C base b e1 h = .nx e2 h ∧ rstE rst e2 = env
      | some d => MP.exec C base b e1 h = .ret d h)) →
    forK C base t rst b ((xs.map e).map D.a) env h = match xs.findSome? f with
      | none => .nx env h
      | some d => .ret d h
  | [], _ => rfl
  | x :: xs, hs => by
    obtain ⟨e1, h1, h2⟩ := hs x List.mem_cons_self
    rw [List.map_cons, List.map_cons]
    unfold forK forL
    rw [h1]
    show (MP.exec C base b e1 h).turn rst (forL t rst _ ((xs.map e).map D.a)) = _
    rw [List.findSome?_cons]
    cases q : f x with
    | none =>
      rw [q] at h2
      obtain ⟨e2, h3, h4⟩ := h2
      rw [h3]
      show forL t rst _ ((xs.map e).map D.a) (rstE rst e2) h = _
      rw [h4]
      exact forK_find e f fun y hy => hs y (List.mem_cons_of_mem _ hy)
    | some d =>
      rw [q] at h2
      rw [h2]
      rfl
theorem ne_nilL {xs : List A} (hl : A.lows xs 49 = true) : cmpK .NotEq (.a (.lst xs)) (.a (.lst [])) h = .ok (.a (.bl (!xs.isEmpty))) h := by
  rw [c_neA (show A.lowB (.lst xs) = true from hl) rfl]
  cases xs <;> rfl
theorem eq_nilL {xs : List A} (hl : A.lows xs 49 = true) : cmpK .Eq (.a (.lst xs)) (.a (.lst [])) h = .ok (.a (.bl xs.isEmpty)) h := by
  rw [c_eqA (show A.lowB (.lst xs) = true from hl) rfl]
  cases xs <;> rfl
theorem lrg1_ff {j : Int} (h3 : 0 ≤ j) (h4 : j ≤ 1000000) : lrg1K false false (.a (.int j)) h = .ok (.a (.lst ((rngI 0 j).map .int))) h := by
  show (if (rngOk 0 && rngOk j && decide ((j - 0).toNat ≤ 16777216)) = true then _ else _) = _
  rw [if_pos (by
    unfold rngOk
    simp only [Bool.and_eq_true, decide_eq_true_eq]
    refine ⟨⟨⟨?_, ?_⟩, ?_, ?_⟩, ?_⟩ <;> omega)]
  unfold rngI
  rw [List.map_map]
  rfl
theorem rng1_I {j : Int} (h3 : 0 ≤ j) (h4 : j ≤ 1000000) : rng1K (.a (.int j)) h = .ok (((rngI 0 j).map A.int).map D.a) h := by
  rw [rng1_int (by
    unfold rngOk
    simp only [Bool.and_eq_true, decide_eq_true_eq]
    refine ⟨?_, ?_⟩ <;> omega)]
  unfold rngI rngL
  rw [List.map_map, List.map_map, Int.sub_zero]
  rfl
end
theorem findSome_if {α β : Type} (p : α → Bool) (g : α → β) : ∀ xs : List α, (xs.findSome? fun x => if p x = true then none else some (g x)) = ((xs.filter fun x => !p x).map g).head?
  | [] => rfl
  | x :: xs => by
    rw [List.findSome?_cons, List.filter_cons]
    cases p x
    · rfl
    · exact findSome_if p g xs
theorem all_none {α β : Type} (p : α → Bool) (b : β) : ∀ xs : List α, (xs.findSome? fun x => if p x = true then none else some b) = if xs.all p = true then none else some b
  | [] => rfl
  | x :: xs => by
    rw [List.findSome?_cons, List.all_cons]
    cases p x
    · rfl
    · exact all_none p b xs
theorem filter_empty {α β : Type} (p : α → Bool) (g : α → β) (xs : List α) : ((xs.filter fun x => !p x).map g).isEmpty = xs.all p := by
  induction xs with
  | nil => rfl
  | cons x xs ih =>
    rw [List.filter_cons, List.all_cons]
    cases p x
    · rfl
    · rw [← ih]
      rfl
end MP
end
section
set_option Elab.async false
set_option linter.all false
set_option maxRecDepth 100000
set_option maxHeartbeats 2000000
/-! MP: what a value of the small language stands for in the layer's heap. -/
namespace MP
open PySem PySem.Spec PyProof.Rows L2
/-- addresses of the classes, the names of their fields; of the exceptions, the name of their field -/
structure Ad where
  K : PySem.W.Frag
  cad : Nat → Addr
  nam : Nat → List Str
  xad : Nat → Addr
  xf : Nat → Str
def OkS (s : Str) : Prop := (s.cps.all fun c => decide (c < 1114112)) = true ∧ s.length ≤ sizeLine
mutual
inductive VA (Z : Ad) (F : Hp) : A → V → Prop
  | non : VA Z F .non .non
  | bl (b : Bool) : VA Z F (.bl b) (.bl b)
  | int (i : Int) : VA Z F (.int i) (.int i)
  | str (s : Str) : OkS s → VA Z F (.str s) (.str s)
  | tup {xs : List A} {a : Addr} {vs : List V} : F a = some (.tup vs) → VAs Z F xs vs → VA Z F (.tup xs) (.ref a)
  | lst {xs : List A} {a : Addr} {vs : List V} : F a = some (.lst vs) → VAs Z F xs vs → VA Z F (.lst xs) (.ref a)
  | scr {xs : List Int} {a : Addr} : SqL Z.K F a (xs.map V.int) → VA Z F (.scr xs) (.ref a)
  | ob {c : Nat} {xs : List A} {a dx : Addr} {fs : List (Str × V)} : F a = some (.ins (Z.cad c) dx fs) → fs.map (·.1) = (Z.nam c).take fs.length → VAs Z F xs (fs.map (·.2)) → VA Z F (.ob c xs) (.ref a)
inductive VAs (Z : Ad) (F : Hp) : List A → List V → Prop
  | nil : VAs Z F [] []
  | cons {x : A} {v : V} {xs : List A} {vs : List V} : VA Z F x v → VAs Z F xs vs → VAs Z F (x :: xs) (v :: vs)
end
def Le (F F' : Hp) : Prop := ∀ a o, F a = some o → F' a = some o
theorem Le.refl {F : Hp} : Le F F := fun _ _ e => e
theorem Le.trans {F F' F'' : Hp} (h : Le F F') (h' : Le F' F'') : Le F F'' := fun a o e => h' a o (h a o e)
theorem Rd.le {F F' : Hp} (h : Le F F') {a : Addr} {u : HO} (r : Rd F a u) : Rd F' a u := by
  rcases r with r | ⟨o, r⟩
  · exact .inl (h _ _ r)
  · exact .inr ⟨o, h _ _ r⟩
theorem SqL.le {K : PySem.W.Frag} {F F' : Hp} (h : Le F F') {a : Addr} {vs : List V} (r : SqL K F a vs) : SqL K F' a vs := by
  rcases r with r | r
  · exact .inl (Rd.le h r)
  · exact .inr r
theorem SqT.le {K : PySem.W.Frag} {F F' : Hp} (h : Le F F') {a : Addr} {vs : List V} (r : SqT K F a vs) : SqT K F' a vs := by
  rcases r with r | r
  · exact .inl (Rd.le h r)
  · exact .inr r
section
variable {Z : Ad} {F F' : Hp}
mutual
theorem VA.le (h : Le F F') : ∀ {x : A} {v : V}, VA Z F x v → VA Z F' x v
  | _, _, .non => .non
  | _, _, .bl b => .bl b
  | _, _, .int i => .int i
  | _, _, .str s o => .str s o
  | _, _, .tup s t => .tup (h _ _ s) (VAs.le h t)
  | _, _, .lst s t => .lst (h _ _ s) (VAs.le h t)
  | _, _, .scr s => .scr (SqL.le h s)
  | _, _, .ob s n t => .ob (h _ _ s) n (VAs.le h t)
theorem VAs.le (h : Le F F') : ∀ {xs : List A} {vs : List V}, VAs Z F xs vs → VAs Z F' xs vs
  | _, _, .nil => .nil
  | _, _, .cons r t => .cons (VA.le h r) (VAs.le h t)
end
theorem VAs.length : ∀ {xs : List A} {vs : List V}, VAs Z F xs vs → xs.length = vs.length
  | _, _, .nil => rfl
  | _, _, .cons _ t => congrArg (· + 1) (VAs.length t)
theorem VAs.get : ∀ {xs : List A} {vs : List V} {i : Nat} {x : A}, VAs Z F xs vs → xs[i]? = some x → ∃ v, vs[i]? = some v ∧ VA Z F x v
  | _, _, _, _, .nil, e => by simp at e
  | _, _, 0, _, .cons r _, e => by simp at e; subst e; exact ⟨_, rfl, r⟩
  | _, _, i + 1, x, .cons _ t, e => by
    obtain ⟨v, h1, h2⟩ := VAs.get (i := i) (x := x) t (by simpa using e)
    exact ⟨v, by simpa using h1, h2⟩
theorem VAs.append : ∀ {xs ys : List A} {vs us : List V}, VAs Z F xs vs → VAs Z F ys us → VAs Z F (xs ++ ys) (vs ++ us)
  | _, _, _, _, .nil, s => s
  | _, _, _, _, .cons r t, s => .cons r (VAs.append t s)
theorem VAs.set {x : A} {v : V} (r : VA Z F x v) : ∀ {xs : List A} {vs : List V} (i : Nat), VAs Z F xs vs → VAs Z F (xs.set i x) (vs.set i v)
  | _, _, _, .nil => .nil
  | _, _, 0, .cons _ t => .cons r t
  | _, _, i + 1, .cons q t => .cons q (VAs.set r i t)
theorem VAs.take : ∀ {xs : List A} {vs : List V} (n : Nat), VAs Z F xs vs → VAs Z F (xs.take n) (vs.take n)
  | _, _, 0, _ => .nil
  | _, _, _ + 1, .nil => .nil
  | _, _, n + 1, .cons r t => .cons r (VAs.take n t)
theorem VAs.drop : ∀ {xs : List A} {vs : List V} (n : Nat), VAs Z F xs vs → VAs Z F (xs.drop n) (vs.drop n)
  | _, _, 0, r => r
  | _, _, _ + 1, .nil => .nil
  | _, _, n + 1, .cons _ t => VAs.drop n t
theorem VAs.reverse : ∀ {xs : List A} {vs : List V}, VAs Z F xs vs → VAs Z F xs.reverse vs.reverse
  | _, _, .nil => .nil
  | _, _, .cons r t => by
    rw [List.reverse_cons, List.reverse_cons]
    exact VAs.append (VAs.reverse t) (.cons r .nil)
end
/-- a value -/
def VD (Z : Ad) (r : List Addr) (F : Hp) : D → V → Prop
  | .a x, v => VA Z F x v
  | .ref n, v => ∃ a, v = .ref a ∧ r[n]? = some a
  | .nst ns, v => ∃ (a : Addr) (as : List Addr), v = .ref a ∧ F a = some (.lst (as.map V.ref)) ∧ ns.map (fun n => r[n]?) = as.map some
inductive VDs (Z : Ad) (r : List Addr) (F : Hp) : List D → List V → Prop
  | nil : VDs Z r F [] []
  | cons {x : D} {v : V} {xs : List D} {vs : List V} : VD Z r F x v → VDs Z r F xs vs → VDs Z r F (x :: xs) (v :: vs)
inductive KVA (Z : Ad) (F : Hp) {κ : Type} : List (κ × A) → List (κ × V) → Prop
  | nil : KVA Z F [] []
  | cons {k : κ} {x : A} {v : V} {xs : List (κ × A)} {vs : List (κ × V)} : VA Z F x v → KVA Z F xs vs → KVA Z F ((k, x) :: xs) ((k, v) :: vs)
/-- what stands at a cell -/
def CellR (Z : Ad) (r : List Addr) (F : Hp) : MO → HO → Prop
  | .lst xs, o => ∃ vs, o = .lst vs ∧ VAs Z F xs vs
  | .dk kvs, o => ∃ vs, o = .dK vs ∧ KVA Z F kvs vs
  | .dt kvs, o => ∃ vs, o = .dT vs ∧ KVA Z F kvs vs
  | .ins c fs, o => ∃ dx gs, o = .ins (Z.cad c) dx gs ∧ gs.map (·.1) = (Z.nam c).take gs.length ∧ VDs Z r F fs (gs.map (·.2))
  | .gone, _ => True
/-- a state: the cells' addresses, what is frozen, the cells, the layer's heap -/
structure Sa where
  r : List Addr
  F : Hp
  h : Mem
  H : Hp
/-- no cell below n names one from n on -/
def refsD : D → List Nat
  | .ref m => [m]
  | .nst ns => ns
  | .a _ => []
def Bd (n : Nat) (h : Mem) : Prop := ∀ k c fs, k < n → h[k]? = some (.ins c fs) → ∀ d ∈ fs, ∀ m ∈ refsD d, m < n
structure Sa.Ok (Z : Ad) (S : Sa) : Prop where
  le : Le S.F S.H
  len : S.r.length = S.h.length
  nd : S.r.Nodup
  cell : ∀ (n : Nat) (m : MO) (a : Addr), S.h[n]? = some m → S.r[n]? = some a → ∃ o, S.H a = some o ∧ CellR Z S.r S.F m o ∧ (m = .gone ∨ S.F a = none)
/-- on from a state; what stood is there, and nothing but cells has changed -/
structure Nx (Z : Ad) (n : Nat) (S S' : Sa) : Prop where
  ext : ∃ t, S'.r = S.r ++ t
  le : Le S.F S'.F
  fr : ∀ a o, S.H a = some o → a ∉ S.r → S'.H a = some o
  new : ∀ a, a ∈ S'.r → a ∉ S.r → S.H a = none
  fz : ∀ a o, S.H a = some o → a ∉ S.r → S.F a = none → S'.F a = none
  bd : ∀ b, b ≤ n → Bd b S.h → Bd b S'.h
  ok : S'.Ok Z
section
variable {Z : Ad} {n : Nat} {S S' S'' : Sa}
theorem Nx.refl (h : S.Ok Z) : Nx Z n S S := ⟨⟨[], by simp⟩, Le.refl, fun _ _ e _ => e, fun _ h1 h2 => absurd h1 h2, fun _ _ _ _ z => z, fun _ _ x => x, h⟩
theorem Nx.sub (x : Nx Z n S S') {a : Addr} (h : a ∈ S.r) : a ∈ S'.r := by
  obtain ⟨t, e⟩ := x.ext
  rw [e]
  exact List.mem_append_left _ h
theorem Nx.trans {m : Nat} (x : Nx Z n S S') (y : Nx Z m S' S'') (hm : n ≤ m) : Nx Z n S S'' where
  ext := by
    obtain ⟨t, e⟩ := x.ext
    obtain ⟨u, e'⟩ := y.ext
    exact ⟨t ++ u, by rw [e', e, List.append_assoc]⟩
  le := Le.trans x.le y.le
  fr := fun a o e hn => by
    refine y.fr a o (x.fr a o e hn) fun h' => ?_
    have := x.new a h' hn
    rw [e] at this
    cases this
  new := fun a h1 h2 => by
    by_cases h3 : a ∈ S'.r
    · exact x.new a h3 h2
    · have e := y.new a h1 h3
      cases q : S.H a with
      | none => rfl
      | some o =>
        rw [x.fr a o q h2] at e
        cases e
  fz := fun a o e hn hf => y.fz a o (x.fr a o e hn) (fun h' => by rw [x.new a h' hn] at e; cases e) (x.fz a o e hn hf)
  bd := fun b hb h => y.bd b (Nat.le_trans hb hm) (x.bd b hb h)
  ok := y.ok
theorem Nx.mono {m : Nat} (x : Nx Z n S S') (h : m ≤ n) : Nx Z m S S' := ⟨x.ext, x.le, x.fr, x.new, x.fz, fun b hb => x.bd b (Nat.le_trans hb h), x.ok⟩
theorem Nx.len (x : Nx Z n S S') (ok : S.Ok Z) : S.h.length ≤ S'.h.length := by
  obtain ⟨t, e⟩ := x.ext
  rw [← ok.len, ← x.ok.len, e, List.length_append]
  omega
theorem get_ext {r t : List Addr} {n : Nat} {a : Addr} (e : r[n]? = some a) : (r ++ t)[n]? = some a := by
  obtain ⟨h1, h2⟩ := List.getElem?_eq_some_iff.mp e
  rw [List.getElem?_append_left h1]
  exact e
theorem map_ext {r t : List Addr} : ∀ {ns : List Nat} {as : List Addr}, ns.map (fun n => r[n]?) = as.map some → ns.map (fun n => (r ++ t)[n]?) = as.map some
  | [], [], _ => rfl
  | [], _ :: _, e => by simp at e
  | _ :: _, [], e => by simp at e
  | n :: ns, a :: as, e => by
    simp only [List.map_cons, List.cons.injEq] at e ⊢
    exact ⟨get_ext e.1, map_ext e.2⟩
theorem VD.le {r t : List Addr} {F F' : Hp} (h : Le F F') {d : D} {v : V} (x : VD Z r F d v) : VD Z (r ++ t) F' d v := by
  cases d with
  | a y => exact VA.le h x
  | ref m =>
    obtain ⟨a, e, q⟩ := x
    exact ⟨a, e, get_ext q⟩
  | nst ns =>
    obtain ⟨a, as, e, q, m⟩ := x
    exact ⟨a, as, e, h _ _ q, map_ext m⟩
/-- all that a value needs to go on -/
structure Ex (Z : Ad) (S S' : Sa) : Prop where
  ext : ∃ t, S'.r = S.r ++ t
  le : Le S.F S'.F
  ok : S'.Ok Z
theorem Nx.ex (x : Nx Z n S S') : Ex Z S S' := ⟨x.ext, x.le, x.ok⟩
theorem Ex.trans (x : Ex Z S S') (y : Ex Z S' S'') : Ex Z S S'' := ⟨by
  obtain ⟨t, e⟩ := x.ext
  obtain ⟨u, e'⟩ := y.ext
  exact ⟨t ++ u, by rw [e', e, List.append_assoc]⟩, Le.trans x.le y.le, y.ok⟩
theorem VD.ex (x : Ex Z S S') {d : D} {v : V} (y : VD Z S.r S.F d v) : VD Z S'.r S'.F d v := by
  obtain ⟨t, e⟩ := x.ext
  rw [e]
  exact VD.le x.le y
theorem VD.nx (x : Nx Z n S S') {d : D} {v : V} (y : VD Z S.r S.F d v) : VD Z S'.r S'.F d v := by
  obtain ⟨t, e⟩ := x.ext
  rw [e]
  exact VD.le x.le y
theorem VDs.le {r t : List Addr} {F F' : Hp} (h : Le F F') : ∀ {ds : List D} {vs : List V}, VDs Z r F ds vs → VDs Z (r ++ t) F' ds vs
  | _, _, .nil => .nil
  | _, _, .cons a b => .cons (VD.le h a) (VDs.le h b)
theorem VDs.nx (x : Nx Z n S S') {d : List D} {v : List V} (y : VDs Z S.r S.F d v) : VDs Z S'.r S'.F d v := by
  obtain ⟨t, e⟩ := x.ext
  rw [e]
  exact VDs.le x.le y
theorem VDs.ex (x : Ex Z S S') {d : List D} {v : List V} (y : VDs Z S.r S.F d v) : VDs Z S'.r S'.F d v := by
  obtain ⟨t, e⟩ := x.ext
  rw [e]
  exact VDs.le x.le y
theorem VDs.length {r : List Addr} {F : Hp} : ∀ {xs : List D} {vs : List V}, VDs Z r F xs vs → xs.length = vs.length
  | _, _, .nil => rfl
  | _, _, .cons _ t => congrArg (· + 1) (VDs.length t)
theorem VDs.get {r : List Addr} {F : Hp} : ∀ {xs : List D} {vs : List V} {i : Nat} {x : D}, VDs Z r F xs vs → xs[i]? = some x → ∃ v, vs[i]? = some v ∧ VD Z r F x v
  | _, _, _, _, .nil, e => by simp at e
  | _, _, 0, _, .cons r _, e => by simp at e; subst e; exact ⟨_, rfl, r⟩
  | _, _, i + 1, x, .cons _ t, e => by
    obtain ⟨v, h1, h2⟩ := VDs.get (i := i) (x := x) t (by simpa using e)
    exact ⟨v, by simpa using h1, h2⟩
theorem VDs.append {r : List Addr} {F : Hp} : ∀ {xs ys : List D} {vs us : List V}, VDs Z r F xs vs → VDs Z r F ys us → VDs Z r F (xs ++ ys) (vs ++ us)
  | _, _, _, _, .nil, s => s
  | _, _, _, _, .cons r t, s => .cons r (VDs.append t s)
theorem VDs.set {r : List Addr} {F : Hp} {x : D} {v : V} (q : VD Z r F x v) : ∀ {xs : List D} {vs : List V} (i : Nat), VDs Z r F xs vs → VDs Z r F (xs.set i x) (vs.set i v)
  | _, _, _, .nil => .nil
  | _, _, 0, .cons _ t => .cons q t
  | _, _, i + 1, .cons q' t => .cons q' (VDs.set q i t)
theorem VDs.ofA {r : List Addr} {F : Hp} : ∀ {ds : List D} {vs : List V} {xs : List A}, VDs Z r F ds vs → D.toAs ds = some xs → VAs Z F xs vs
  | _, _, xs, .nil, e => by
    simp only [D.toAs, Option.some.injEq] at e
    subst e
    exact .nil
  | .a x :: ds, _, xs, .cons a b, e => by
    simp only [D.toAs] at e
    split at e
    · rename_i ys q
      cases e
      exact .cons a (VDs.ofA b q)
    · cases e
  | .ref _ :: _, _, xs, .cons a b, e => by simp [D.toAs] at e
  | .nst _ :: _, _, xs, .cons a b, e => by simp [D.toAs] at e
theorem VAs.toD {r : List Addr} {F : Hp} : ∀ {xs : List A} {vs : List V}, VAs Z F xs vs → VDs Z r F (xs.map .a) vs
  | _, _, .nil => .nil
  | _, _, .cons a b => .cons a (VAs.toD b)
theorem KVA.le {F F' : Hp} (h : Le F F') {κ : Type} : ∀ {xs : List (κ × A)} {vs : List (κ × V)}, KVA Z F xs vs → KVA Z F' xs vs
  | _, _, .nil => .nil
  | _, _, .cons a b => .cons (VA.le h a) (KVA.le h b)
theorem CellR.le {r t : List Addr} {F F' : Hp} (h : Le F F') {m : MO} {o : HO} (x : CellR Z r F m o) : CellR Z (r ++ t) F' m o := by
  cases m with
  | lst xs => obtain ⟨vs, e, q⟩ := x; exact ⟨vs, e, VAs.le h q⟩
  | dk xs => obtain ⟨vs, e, q⟩ := x; exact ⟨vs, e, KVA.le h q⟩
  | dt xs => obtain ⟨vs, e, q⟩ := x; exact ⟨vs, e, KVA.le h q⟩
  | ins c fs => obtain ⟨dx, gs, e, q, w⟩ := x; exact ⟨dx, gs, e, q, VDs.le h w⟩
  | gone => trivial
/-- a cell -/
theorem Sa.Ok.at (ok : S.Ok Z) {k : Nat} {m : MO} (e : S.h[k]? = some m) : ∃ a o, S.r[k]? = some a ∧ S.H a = some o ∧ CellR Z S.r S.F m o ∧ (m = .gone ∨ S.F a = none) := by
  have h1 : k < S.r.length := by
    rw [ok.len]
    exact (List.getElem?_eq_some_iff.mp e).1
  obtain ⟨o, h2⟩ := ok.cell k m S.r[k] e (List.getElem?_eq_getElem h1)
  exact ⟨_, o, List.getElem?_eq_getElem h1, h2⟩
theorem Sa.Ok.mem (ok : S.Ok Z) {a : Addr} (h : a ∈ S.r) : ∃ o, S.H a = some o := by
  obtain ⟨k, hk, e⟩ := List.getElem_of_mem h
  obtain ⟨b, o, h1, h2, _⟩ := ok.at (k := k) (List.getElem?_eq_getElem (by rw [← ok.len]; exact hk))
  rw [List.getElem?_eq_getElem hk, e] at h1
  cases h1
  exact ⟨o, h2⟩
theorem Sa.Ok.at' (ok : S.Ok Z) {k : Nat} {m : MO} {a : Addr} (e : S.h[k]? = some m) (q : S.r[k]? = some a) : ∃ o, S.H a = some o ∧ CellR Z S.r S.F m o ∧ (m = .gone ∨ S.F a = none) := ok.cell k m a e q
/-! ### steps of the state -/
/-- frozen data are laid at a free place -/
theorem Sa.Ok.lay (ok : S.Ok Z) {p : Addr} (hp : S.H p = none) (o : HO) : Nx Z n S ⟨S.r, upd S.F p o, S.h, upd S.H p o⟩ := by
  have hF : S.F p = none := by
    cases e : S.F p with
    | none => rfl
    | some u => rw [ok.le p u e] at hp; cases hp
  have le : Le S.F (upd S.F p o) := fun a u e => by
    rw [upd_ne (ne_of_none e hF)]
    exact e
  refine ⟨⟨[], by simp⟩, le, fun a u e _ => ?_, fun a h1 h2 => absurd h1 h2, fun a u e _ hf => by show upd S.F p o a = none; rw [upd_ne (ne_of_none e hp)]; exact hf, fun _ _ x => x, ⟨fun a u e => ?_, ok.len, ok.nd, fun k m a e1 e2 => ?_⟩⟩
  · show upd S.H p o a = some u
    rw [upd_ne (ne_of_none e hp)]
    exact e
  · show upd S.H p o a = some u
    have e' : upd S.F p o a = some u := e
    unfold upd at e' ⊢
    split
    · rename_i h
      rw [if_pos h] at e'
      exact e'
    · rename_i h
      rw [if_neg h] at e'
      exact ok.le a u e'
  · obtain ⟨u, h1, h2, h3⟩ := ok.cell k m a e1 e2
    have ne : a ≠ p := ne_of_none h1 hp
    refine ⟨u, by show upd S.H p o a = _; rw [upd_ne ne]; exact h1, ?_, ?_⟩
    · have := CellR.le (t := []) le h2
      rw [List.append_nil] at this
      exact this
    · rcases h3 with h3 | h3
      · exact .inl h3
      · exact .inr (by show upd S.F p o a = none; rw [upd_ne ne]; exact h3)
/-- a cell is laid at a free place -/
theorem Sa.Ok.cel (ok : S.Ok Z) {p : Addr} (hp : S.H p = none) {o : HO} {m : MO} (c : CellR Z S.r S.F m o) (hb : ∀ c fs, m = .ins c fs → fs = []) : Nx Z n S ⟨S.r ++ [p], S.F, S.h ++ [m], upd S.H p o⟩ := by
  have hF : S.F p = none := by
    cases e : S.F p with
    | none => rfl
    | some u => rw [ok.le p u e] at hp; cases hp
  have hr : p ∉ S.r := fun h => by
    obtain ⟨u, e⟩ := ok.mem h
    rw [hp] at e
    cases e
  refine ⟨⟨[p], rfl⟩, Le.refl, fun a u e _ => ?_, fun a h1 h2 => ?_, fun _ _ _ _ z => z, fun b hb' x k c fs hk e d' hd' m' hm => ?_, ⟨fun a u e => ?_, ?_, ?_, fun k m' a e1 e2 => ?_⟩⟩
  · show upd S.H p o a = some u
    rw [upd_ne (ne_of_none e hp)]
    exact e
  · have h1' : a ∈ S.r ++ [p] := h1
    rcases List.mem_append.mp h1' with h | h
    · exact absurd h h2
    · rw [List.mem_singleton.mp h]
      exact hp
  · have e' : (S.h ++ [m])[k]? = some (.ins c fs) := e
    by_cases hl : k < S.h.length
    · rw [List.getElem?_append_left hl] at e'
      exact x k c fs hk e' d' hd' m' hm
    · rw [List.getElem?_append_right (by omega)] at e'
      cases hd : k - S.h.length with
      | zero =>
        rw [hd] at e'
        simp only [List.getElem?_cons_zero, Option.some.injEq] at e'
        rw [hb c fs e'] at hd'
        cases hd'
      | succ j =>
        rw [hd] at e'
        simp at e'
  · show upd S.H p o a = some u
    rw [upd_ne (ne_of_none (ok.le a u e) hp)]
    exact ok.le a u e
  · show (S.r ++ [p]).length = (S.h ++ [m]).length
    rw [List.length_append, List.length_append, ok.len]
    rfl
  · show (S.r ++ [p]).Nodup
    rw [List.nodup_append]
    refine ⟨ok.nd, by simp, fun a ha b hb => ?_⟩
    rw [List.mem_singleton.mp hb]
    intro q
    exact hr (q ▸ ha)
  · have e1' : (S.h ++ [m])[k]? = some m' := e1
    have e2' : (S.r ++ [p])[k]? = some a := e2
    by_cases hl : k < S.h.length
    · rw [List.getElem?_append_left hl] at e1'
      rw [List.getElem?_append_left (by rw [ok.len]; exact hl)] at e2'
      obtain ⟨u, h1, h2, h3⟩ := ok.cell k m' a e1' e2'
      exact ⟨u, by show upd S.H p o a = _; rw [upd_ne (ne_of_none h1 hp)]; exact h1, CellR.le Le.refl h2, h3⟩
    · have hk : k = S.h.length := by
        have := (List.getElem?_eq_some_iff.mp e1').1
        rw [List.length_append] at this
        simp at this
        omega
      subst hk
      rw [List.getElem?_append_right (by omega)] at e1'
      rw [List.getElem?_append_right (by rw [ok.len]; omega)] at e2'
      rw [Nat.sub_self] at e1'
      rw [ok.len, Nat.sub_self] at e2'
      simp only [List.getElem?_cons_zero, Option.some.injEq] at e1' e2'
      subst e1' e2'
      exact ⟨o, upd_same, CellR.le Le.refl c, .inr hF⟩
/-- a cell is written -/
theorem Sa.Ok.put (ok : S.Ok Z) {k : Nat} {a : Addr} (ea : S.r[k]? = some a) {m0 : MO} (e0 : S.h[k]? = some m0) (hm0 : m0 ≠ .gone) {o : HO} {m : MO} (c : CellR Z S.r S.F m o)
    (hb : ∀ b, b ≤ n → Bd b S.h → Bd b (S.h.set k m)) : Nx Z n S ⟨S.r, S.F, S.h.set k m, upd S.H a o⟩ := by
  obtain ⟨o0, h1, _, h3⟩ := ok.cell k m0 a e0 ea
  have hF : S.F a = none := h3.resolve_left hm0
  have hl : k < S.h.length := (List.getElem?_eq_some_iff.mp e0).1
  refine ⟨⟨[], by simp⟩, Le.refl, fun b u e hn => ?_, fun b h1 h2 => absurd h1 h2, fun _ _ _ _ z => z, hb, ⟨fun b u e => ?_, ?_, ok.nd, fun j m' b e1 e2 => ?_⟩⟩
  · show upd S.H a o b = some u
    rw [upd_ne (fun (q : b = a) => hn (by rw [q]; exact List.mem_of_getElem? ea))]
    exact e
  · show upd S.H a o b = some u
    rw [upd_ne fun q => by rw [q, hF] at e; cases e]
    exact ok.le b u e
  · show S.r.length = (S.h.set k m).length
    rw [List.length_set]
    exact ok.len
  · have e1' : (S.h.set k m)[j]? = some m' := e1
    by_cases hj : j = k
    · subst hj
      rw [List.getElem?_set_self hl] at e1'
      cases e1'
      rw [ea] at e2
      cases e2
      exact ⟨o, upd_same, c, .inr hF⟩
    · rw [List.getElem?_set_ne (Ne.symm hj)] at e1'
      obtain ⟨u, q1, q2, q3⟩ := ok.cell j m' b e1' e2
      have ne : b ≠ a := fun q => by
        subst q
        obtain ⟨l1, g1⟩ := List.getElem?_eq_some_iff.mp e2
        obtain ⟨l2, g2⟩ := List.getElem?_eq_some_iff.mp ea
        exact hj ((List.getElem_inj ok.nd).mp (g1.trans g2.symm))
      exact ⟨u, by show upd S.H a o b = _; rw [upd_ne ne]; exact q1, q2, q3⟩
/-- something that is neither frozen nor a cell is laid, is taken away -/
theorem Sa.Ok.raw (ok : S.Ok Z) {p : Addr} (hp : S.H p = none) (o : HO) : Nx Z n S ⟨S.r, S.F, S.h, upd S.H p o⟩ := by
  refine ⟨⟨[], by simp⟩, Le.refl, fun a u e _ => ?_, fun a h1 h2 => absurd h1 h2, fun _ _ _ _ z => z, fun _ _ x => x, ⟨fun a u e => ?_, ok.len, ok.nd, fun k m a e1 e2 => ?_⟩⟩
  · show upd S.H p o a = some u
    rw [upd_ne (ne_of_none e hp)]
    exact e
  · show upd S.H p o a = some u
    rw [upd_ne (ne_of_none (ok.le a u e) hp)]
    exact ok.le a u e
  · obtain ⟨u, h1, h2, h3⟩ := ok.cell k m a e1 e2
    exact ⟨u, by show upd S.H p o a = _; rw [upd_ne (ne_of_none h1 hp)]; exact h1, h2, h3⟩
def del (H : Hp) (p : Addr) : Hp := fun a => if a = p then none else H a
theorem del_ne {H : Hp} {p a : Addr} (h : a ≠ p) : del H p a = H a := if_neg h
theorem del_same {H : Hp} {p : Addr} : del H p p = none := if_pos rfl
theorem upd_del {H : Hp} {p : Addr} {o : HO} : upd (del H p) p o = upd H p o := by
  funext a
  unfold upd del
  split <;> rfl
theorem upd_upd {H : Hp} {p : Addr} {o o' : HO} : upd (upd H p o) p o' = upd H p o' := by
  funext a
  unfold upd
  split <;> rfl
theorem upd_back {H : Hp} {p : Addr} {o : HO} (h : H p = some o) : upd H p o = H := by
  funext a
  unfold upd
  split
  · rename_i e
    rw [e, h]
  · rfl
theorem del_upd {H : Hp} {p : Addr} {o : HO} (h : H p = none) : del (upd H p o) p = H := by
  funext a
  unfold upd del
  by_cases e : a = p
  · rw [if_pos e, e, h]
  · rw [if_neg e]
    show (if a = p then some o else H a) = H a
    rw [if_neg e]
theorem Nx.del (x : Nx Z n S S') {p : Addr} (hp : S.H p = none) (hF : S'.F p = none) (hr : p ∉ S'.r) : Nx Z n S ⟨S'.r, S'.F, S'.h, MP.del S'.H p⟩ := by
  refine ⟨x.ext, x.le, fun a u e hn => ?_, x.new, x.fz, x.bd, ⟨fun a u e => ?_, x.ok.len, x.ok.nd, fun k m a e1 e2 => ?_⟩⟩
  · show MP.del S'.H p a = some u
    rw [del_ne (ne_of_none e hp)]
    exact x.fr a u e hn
  · show MP.del S'.H p a = some u
    rw [del_ne (fun q => by rw [q, hF] at e; cases e)]
    exact x.ok.le a u e
  · obtain ⟨u, h1, h2, h3⟩ := x.ok.cell k m a e1 e2
    have ne : a ≠ p := fun q => hr (by rw [← q]; exact List.mem_of_getElem? e2)
    exact ⟨u, by show MP.del S'.H p a = _; rw [del_ne ne]; exact h1, h2, h3⟩
theorem Bd.set {b k : Nat} {h : Mem} {m : MO} (x : Bd b h) (hm : ∀ c fs, m = .ins c fs → k < b → ∀ d ∈ fs, ∀ j ∈ refsD d, j < b) : Bd b (h.set k m) := fun i c fs hi e d hd j hj => by
  by_cases hk : i = k
  · subst hk
    by_cases hl : i < h.length
    · rw [List.getElem?_set_self hl] at e
      cases e
      exact hm c fs rfl hi d hd j hj
    · rw [List.getElem?_eq_none (by rw [List.length_set]; omega)] at e
      cases e
  · rw [List.getElem?_set_ne (Ne.symm hk)] at e
    exact x i c fs hi e d hd j hj
end
end MP
end
section
set_option Elab.async false
set_option linter.all false
set_option maxRecDepth 100000
set_option maxHeartbeats 2000000
/-! MP: expressions keep what their meaning says. -/
namespace MP
open PySem PySem.Spec L2
open PyProof.Rows hiding St
/-- the exception at hand: its slot, its object, its dict, its field -/
structure Xo where
  i : Nat
  a : Addr
  dx : Addr
  f : Str
def EnvR (Z : Ad) (xo : Option Xo) (S : Sa) (env : Env) (σ : St) : Prop := ∀ (i : Nat) (d : D), env[i]? = some (some d) → match xo with
  | none => ∃ v, σ[i]? = some (some v) ∧ VD Z S.r S.F d v
  | some o => if i = o.i then σ[i]? = some (some (.ref o.a)) ∧ ∃ x v, d = .a x ∧ S.F o.dx = some (.xd [(o.f, v)]) ∧ VA Z S.F x v else ∃ v, σ[i]? = some (some v) ∧ VD Z S.r S.F d v
structure In (Z : Ad) (xo : Option Xo) (n : Nat) (S : Sa) (env : Env) (σ : St) : Prop where
  ok : S.Ok Z
  le : n ≤ S.h.length
  len : env.length ≤ σ.length
  env : EnvR Z xo S env σ
section
variable {Z : Ad} {xo : Option Xo} {n : Nat} {S S' S'' : Sa} {env : Env} {σ : St} {W : WX}
theorem In.ex (i : In Z xo n S env σ) (x : Ex Z S S') (hl : n ≤ S'.h.length) : In Z xo n S' env σ := ⟨x.ok, hl, i.len, fun k d e => by
  have := i.env k d e
  cases xo with
  | none =>
    obtain ⟨v, e1, e2⟩ := this
    exact ⟨v, e1, e2.ex x⟩
  | some o =>
    simp only at this ⊢
    split
    · rename_i h
      rw [if_pos h] at this
      obtain ⟨e1, y, v, e2, e3, e4⟩ := this
      exact ⟨e1, y, v, e2, x.le _ _ e3, e4.le x.le⟩
    · rename_i h
      rw [if_neg h] at this
      obtain ⟨v, e1, e2⟩ := this
      exact ⟨v, e1, e2.ex x⟩⟩
theorem In.nx (i : In Z xo n S env σ) {m : Nat} (x : Nx Z m S S') : In Z xo n S' env σ := i.ex x.ex (Nat.le_trans i.le (x.len i.ok))
/-- a result is reached: whatever comes, what is wanted holds -/
def Go (Z : Ad) (W : WX) (n : Nat) (σ : St) {α β : Type} (Rel : Sa → α → β → Prop) (S : Sa) (r : R α) (Q : β → Hp → Prop) : Prop := match r with
  | .ok d h => ∀ S' v, Nx Z n S S' → S'.h = h → Rel S' d v → Q v S'.H
  | .exc c x h => ∀ S' dx v, Nx Z n S S' → S'.h = h → S'.F dx = some (.xd [(Z.xf c, v)]) → VA Z S'.F x v → W (.ref (Z.xad c)) (some dx) σ S'.H
  | .err => False
theorem Go.mono {α β : Type} {Rel : Sa → α → β → Prop} {r : R α} {Q Q' : β → Hp → Prop} (g : Go Z W n σ Rel S r Q) (h : ∀ v H, Q v H → Q' v H) : Go Z W n σ Rel S r Q' := by
  cases r with
  | ok d h' => exact fun S' v x e q => h _ _ (g S' v x e q)
  | exc c x h' => exact g
  | err => exact g
theorem Go.from {α β : Type} {Rel : Sa → α → β → Prop} {r : R α} {Q : β → Hp → Prop} {m : Nat} (x : Nx Z m S S') (hm : n ≤ m) (g : Go Z W n σ Rel S r Q) : Go Z W n σ Rel S' r Q := by
  cases r with
  | ok d h' => exact fun S'' v y e q => g S'' v ((x.mono hm).trans y (Nat.le_refl _)) e q
  | exc c z h' => exact fun S'' dx v y e q q' => g S'' dx v ((x.mono hm).trans y (Nat.le_refl _)) e q q'
  | err => exact g
/-- from a step to what follows it -/
theorem Go.bind {α β γ δ : Type} {Rel : Sa → α → β → Prop} {Rel' : Sa → γ → δ → Prop} {r : R α} {k : α → Mem → R γ} {Q : δ → Hp → Prop} (g : Go Z W n σ Rel' S (r.bind k) Q) :
    Go Z W n σ Rel S r fun v H1 => ∃ d S1, Nx Z n S S1 ∧ S1.H = H1 ∧ Rel S1 d v ∧ Go Z W n σ Rel' S1 (k d S1.h) Q := by
  cases r with
  | ok d h' =>
    intro S1 v x e q
    refine ⟨d, S1, x, rfl, q, ?_⟩
    rw [e]
    exact Go.from x (Nat.le_refl _) g
  | exc c z h' => exact g
  | err => exact g
def relD (Z : Ad) : Sa → D → V → Prop := fun S d v => VD Z S.r S.F d v
def relDs (Z : Ad) : Sa → List D → List V → Prop := fun S d v => VDs Z S.r S.F d v
def relB : Sa → Bool → Bool → Prop := fun _ b c => b = c
def relO : Sa → Option Int → Option Int → Prop := fun _ b c => b = c
/-- a reading by a meaning -/
def tG (Z : Ad) (xo : Option Xo) (W : WX) (n : Nat) {α β : Type} (Rel : Sa → α → β → Prop) (f : Env → Mem → R α) : St → Hp → (β → Hp → Prop) → Prop := fun σ H Q =>
  ∃ S env, S.H = H ∧ In Z xo n S env σ ∧ Go Z W n σ Rel S (f env S.h) Q
abbrev tI (Z : Ad) (xo : Option Xo) (W : WX) (n : Nat) (f : Env → Mem → R D) : TE := tG Z xo W n (relD Z) f
theorem PE.imp {X : Cx} {e : Expr} {t t' : TE} (h : PE X e t) (k : ∀ σ H Q, t' σ H Q → t σ H Q) : PE X e t' := ⟨fun pins s σ H Q I w => h.run pins s σ H Q I (k σ H Q w)⟩
theorem PT.imp {X : Cx} {e : Expr} {t t' : TT} (h : PT X e t) (k : ∀ σ H Q, t' σ H Q → t σ H Q) : PT X e t' := ⟨fun pins s σ H Q I w => h.run pins s σ H Q I (k σ H Q w)⟩
theorem PA.imp {X : Cx} {e : List Expr} {t t' : TA} (h : PA X e t) (k : ∀ σ H Q, t' σ H Q → t σ H Q) : PA X e t' := ⟨fun pos pins s σ H Q I w => h.run pos pins s σ H Q I (k σ H Q w)⟩
/-! ### ends -/
theorem Go.val {α β : Type} {Rel : Sa → α → β → Prop} {d : α} {Q : β → Hp → Prop} (g : Go Z W n σ Rel S (.ok d S.h) Q) (ok : S.Ok Z) {v : β} (r : Rel S d v) : Q v S.H := g S v (Nx.refl ok) rfl r
theorem Go.ofO {α β : Type} {Rel : Sa → α → β → Prop} {o : Option α} {Q : β → Hp → Prop} (g : Go Z W n σ Rel S (ofO o S.h) Q) : ∃ d, o = some d ∧ Go Z W n σ Rel S (.ok d S.h) Q := by
  cases o with
  | none => exact g.elim
  | some d => exact ⟨d, rfl, g⟩
/-- a new frozen list -/
theorem Go.layL {xs : List A} {vs : List V} {Q : VK} (g : Go Z W n σ (relD Z) S (.ok (.a (.lst xs)) S.h) Q) (ok : S.Ok Z) (r : VAs Z S.F xs vs) : ∀ p, S.H p = none → Q (.ref p) (upd S.H p (.lst vs)) := fun p hp => by
  have x : Nx Z n S _ := ok.lay hp (.lst vs)
  exact g ⟨S.r, upd S.F p (.lst vs), S.h, upd S.H p (.lst vs)⟩ (.ref p) x rfl (.lst (show upd S.F p (.lst vs) p = _ from upd_same) (r.le x.le))
theorem Go.layT {xs : List A} {vs : List V} {Q : VK} (g : Go Z W n σ (relD Z) S (.ok (.a (.tup xs)) S.h) Q) (ok : S.Ok Z) (r : VAs Z S.F xs vs) : ∀ p, S.H p = none → Q (.ref p) (upd S.H p (.tup vs)) := fun p hp => by
  have x : Nx Z n S _ := ok.lay hp (.tup vs)
  exact g ⟨S.r, upd S.F p (.tup vs), S.h, upd S.H p (.tup vs)⟩ (.ref p) x rfl (.tup (show upd S.F p (.tup vs) p = _ from upd_same) (r.le x.le))
/-- a new cell -/
theorem Go.celM {m : MO} {o : HO} {Q : VK} (g : Go Z W n σ (relD Z) S (.ok (.ref S.h.length) (S.h ++ [m])) Q) (ok : S.Ok Z) (c : CellR Z S.r S.F m o) (hb : ∀ c fs, m = .ins c fs → fs = []) : ∀ p, S.H p = none → Q (.ref p) (upd S.H p o) := fun p hp => by
  have x : Nx Z n S _ := ok.cel hp c hb
  refine g ⟨S.r ++ [p], S.F, S.h ++ [m], upd S.H p o⟩ (.ref p) x rfl ⟨p, rfl, ?_⟩
  show (S.r ++ [p])[S.h.length]? = some p
  rw [List.getElem?_append_right (by rw [ok.len]; exact Nat.le_refl _), ok.len, Nat.sub_self]
  rfl
theorem Go.celL {m : Bool} {xs : List A} {vs : List V} {Q : VK} (g : Go Z W n σ (relD Z) S (cel m (.lst xs) S.h) Q) (ok : S.Ok Z) (r : VAs Z S.F xs vs) : ∀ p, S.H p = none → Q (.ref p) (upd S.H p (.lst vs)) := by
  cases m with
  | false => exact Go.layL g ok r
  | true => exact Go.celM g ok ⟨vs, rfl, r⟩ (fun _ _ e => nomatch e)
/-- a value that is no new list -/
theorem Go.celA {m : Bool} {x : A} {v : V} {Q : VK} (g : Go Z W n σ (relD Z) S (cel m x S.h) Q) (ok : S.Ok Z) (hx : ∀ xs, x ≠ .lst xs) (r : VA Z S.F x v) : Q v S.H := by
  cases m with
  | false => exact Go.val g ok r
  | true =>
    cases x with
    | lst xs => exact absurd rfl (hx xs)
    | _ => exact g.elim
theorem Go.celT {m : Bool} {xs : List A} {vs : List V} {Q : VK} (g : Go Z W n σ (relD Z) S (cel m (.tup xs) S.h) Q) (ok : S.Ok Z) (r : VAs Z S.F xs vs) : ∀ p, S.H p = none → Q (.ref p) (upd S.H p (.tup vs)) := by
  cases m with
  | false => exact Go.layT g ok r
  | true => exact g.elim
end
section
variable {X : Cx} {Z : Ad} {xo : Option Xo} {n : Nat} {W : WX} {a b c : Expr} {f g k : Env → Mem → R D} {pos : Pos}
/-! ### names, constants -/
theorem e_cst {x : A} {v : V} (h : PE X a (tC v)) (r : ∀ F, VA Z F x v) : PE X a (tI Z xo W n fun _ h => .ok (.a x) h) := PE.imp h fun σ H Q ⟨S, env, e, i, q⟩ => by
  subst e
  exact Go.val q i.ok (r _)
theorem e_var {i : Nat} (h : PE X a (tVar i)) (hx : ∀ o, xo = some o → i ≠ o.i) : PE X a (tI Z xo W n fun env h => match env[i]? with
    | some (some d) => .ok d h
    | _ => .err) := PE.imp h fun σ H Q ⟨S, env, e, j, q⟩ => by
  subst e
  dsimp only at q
  split at q
  · rename_i d e
    have := j.env i d e
    cases xo with
    | none =>
      obtain ⟨v, e1, e2⟩ := this
      exact ⟨v, e1, Go.val q j.ok e2⟩
    | some o =>
      simp only [if_neg (hx o rfl)] at this
      obtain ⟨v, e1, e2⟩ := this
      exact ⟨v, e1, Go.val q j.ok e2⟩
  · exact q.elim
/-! ### two parts, one part -/
/-- what a two-place operation must do -/
def OpK (Z : Ad) (W : WX) (n : Nat) (r : R2) (k : D → D → Mem → R D) : Prop := ∀ (S : Sa) (σ : St) (d1 d2 : D) (v1 v2 : V) (Q : VK), S.Ok Z → n ≤ S.h.length → VD Z S.r S.F d1 v1 → VD Z S.r S.F d2 v2 → Go Z W n σ (relD Z) S (k d1 d2 S.h) Q → r v1 v2 S.H Q
theorem e_op {r : R2} {k : D → D → Mem → R D} (hk : OpK Z W n r k) (he : PE X c (tOp r (tI Z xo W n f) (tI Z xo W n g))) :
    PE X c (tI Z xo W n fun env h => (f env h).bind fun x h => (g env h).bind fun y h => k x y h) := PE.imp he fun σ H Q ⟨S, env, e, i, q⟩ => by
  subst e
  refine ⟨S, env, rfl, i, (Go.bind (Rel := relD Z) q).mono fun v H1 ⟨d, S1, x, e, r1, q1⟩ => ?_⟩
  subst e
  refine ⟨S1, env, rfl, i.nx x, (Go.bind (Rel := relD Z) q1).mono fun v2 H2 ⟨d2, S2, x2, e, r2, q2⟩ => ?_⟩
  subst e
  exact hk S2 σ d d2 v v2 Q x2.ok ((i.nx x).nx x2).le (VD.nx x2 r1) r2 q2
/-- a one-place operation -/
theorem e_un {r : V → Hp → VK → Prop} {k : D → Mem → R D} (hk : ∀ (S : Sa) (σ : St) (d : D) (v : V) (Q : VK), S.Ok Z → n ≤ S.h.length → VD Z S.r S.F d v → Go Z W n σ (relD Z) S (k d S.h) Q → r v S.H Q) (he : PE X c (tUn r (tI Z xo W n f))) :
    PE X c (tI Z xo W n fun env h => (f env h).bind fun x h => k x h) := PE.imp he fun σ H Q ⟨S, env, e, i, q⟩ => by
  subst e
  refine ⟨S, env, rfl, i, (Go.bind (Rel := relD Z) q).mono fun v H1 ⟨d, S1, x, e, r1, q1⟩ => ?_⟩
  subst e
  exact hk S1 σ d v Q x.ok (i.nx x).le r1 q1
/-- from values to something -/
theorem e_un' {r : V → Hp → VK → Prop} {k : D → Mem → R D} (hk : ∀ (S : Sa) (σ : St) (d : D) (v : V) (Q : VK), S.Ok Z → n ≤ S.h.length → VD Z S.r S.F d v → Go Z W n σ (relD Z) S (k d S.h) Q → r v S.H Q) (he : PE X c (fun σ H Q => tI Z xo W n f σ H fun x H1 => r x H1 Q)) :
    PE X c (tI Z xo W n fun env h => (f env h).bind fun x h => k x h) := e_un hk he
/-! ### argument lists -/
theorem a_nil : PA X [] (tG Z xo W n (relDs Z) fun _ h => .ok [] h) := PA.imp pa_nil fun σ H Q ⟨S, env, e, i, q⟩ => by
  subst e
  exact Go.val q i.ok VDs.nil
theorem a_cons {es : List Expr} {fs : Env → Mem → R (List D)} (ha : PE X a (tI Z xo W n f)) (hs : PA X es (tG Z xo W n (relDs Z) fs)) (hst : starEach (a :: es) X.env = (false, eval a X.env) :: starEach es X.env) :
    PA X (a :: es) (tG Z xo W n (relDs Z) fun env h => (f env h).bind fun x h => (fs env h).bind fun xs h => .ok (x :: xs) h) := PA.imp (pa_cons ha hs hst) fun σ H Q ⟨S, env, e, i, q⟩ => by
  subst e
  refine ⟨S, env, rfl, i, (Go.bind (Rel := relD Z) q).mono fun v H1 ⟨d, S1, x, e, r1, q1⟩ => ?_⟩
  subst e
  refine ⟨S1, env, rfl, i.nx x, (Go.bind (Rel := relDs Z) q1).mono fun v2 H2 ⟨d2, S2, x2, e, r2, q2⟩ => ?_⟩
  subst e
  exact Go.val q2 x2.ok (VDs.cons (VD.nx x2 r1) r2)
/-- an operation on the arguments' values -/
theorem e_args {r : List V → Hp → VK → Prop} {k : List D → Mem → R D} {fs : Env → Mem → R (List D)} (hk : ∀ (S : Sa) (σ : St) (d : List D) (v : List V) (Q : VK), S.Ok Z → n ≤ S.h.length → VDs Z S.r S.F d v → Go Z W n σ (relD Z) S (k d S.h) Q → r v S.H Q)
    (he : PE X c (fun σ H Q => tG Z xo W n (relDs Z) fs σ H fun vs H1 => r vs H1 Q)) : PE X c (tI Z xo W n fun env h => (fs env h).bind fun x h => k x h) := PE.imp he fun σ H Q ⟨S, env, e, i, q⟩ => by
  subst e
  refine ⟨S, env, rfl, i, (Go.bind (Rel := relDs Z) q).mono fun v H1 ⟨d, S1, x, e, r1, q1⟩ => ?_⟩
  subst e
  exact hk S1 σ d v Q x.ok (i.nx x).le r1 q1
/-! ### displays -/
theorem e_tup {es : List Expr} {k1 : Nat} {fs : Env → Mem → R (List D)} (h : PA X es (tG Z xo W n (relDs Z) fs)) : PE X (.Tuple es k1 pos) (tI Z xo W n fun env h => (fs env h).bind fun ds h => if ds.length ≤ sizeLine then ofO ((D.toAs ds).map fun xs => .a (.tup xs)) h else .err) :=
  e_args (r := fun vs H Q => vs.length ≤ sizeLine ∧ ∀ p, H p = none → Q (.ref p) (upd H p (.tup vs))) (fun S σ ds vs Q ok _ r q => by
    split at q
    · rename_i hl
      obtain ⟨d, e, q⟩ := q.ofO
      cases ea : D.toAs ds with
      | none => rw [ea] at e; cases e
      | some xs =>
        rw [ea] at e
        cases e
        exact ⟨by rw [← r.length]; exact hl, Go.layT q ok (r.ofA ea)⟩
    · exact q.elim) (pe_tup h)
theorem VDs.ofN {r : List Addr} {F : Hp} : ∀ {ds : List D} {vs : List V} {ns : List Nat}, VDs Z r F ds vs → D.toNs ds = some ns → ∃ as : List Addr, vs = as.map V.ref ∧ ns.map (fun n => r[n]?) = as.map some
  | _, _, ns, .nil, e => by
    simp only [D.toNs, Option.some.injEq] at e
    subst e
    exact ⟨[], rfl, rfl⟩
  | .ref m :: ds, _, ns, .cons h t, e => by
    simp only [D.toNs] at e
    split at e
    · rename_i ys q
      cases e
      obtain ⟨as, e1, e2⟩ := VDs.ofN t q
      obtain ⟨b, e3, e4⟩ := h
      exact ⟨b :: as, by rw [e1, e3]; rfl, by simp only [List.map_cons, e2, e4]⟩
    · cases e
  | .a _ :: _, _, ns, .cons h t, e => by simp [D.toNs] at e
  | .nst _ :: _, _, ns, .cons h t, e => by simp [D.toNs] at e
/-- a list that has just been made -/
theorem Go.mkL {S : Sa} {σ : St} {m : Bool} {ds : List D} {vs : List V} {Q : VK} (q : Go Z W n σ (relD Z) S (mkL m ds S.h) Q) (ok : S.Ok Z) (r : VDs Z S.r S.F ds vs) : vs.length ≤ sizeLine ∧ ∀ p, S.H p = none → Q (.ref p) (upd S.H p (.lst vs)) := by
  unfold MP.mkL at q
  split at q
  · rename_i hl
    refine ⟨by rw [← r.length]; exact hl, ?_⟩
    split at q
    · rename_i xs ea
      split at q
      · exact Go.celM q ok ⟨vs, rfl, r.ofA ea⟩ (fun _ _ e => nomatch e)
      · exact Go.layL q ok (r.ofA ea)
    · split at q
      · exact q.elim
      · split at q
        · rename_i ns en
          intro p hp
          obtain ⟨as, e1, e2⟩ := r.ofN en
          have x : Nx Z n S _ := ok.lay hp (.lst vs)
          exact q ⟨S.r, upd S.F p (.lst vs), S.h, upd S.H p (.lst vs)⟩ (.ref p) x rfl ⟨p, as, rfl, by show upd S.F p _ p = _; rw [upd_same, e1], e2⟩
        · exact q.elim
  · exact q.elim
theorem e_lst {es : List Expr} {m : Bool} {fs : Env → Mem → R (List D)} (h : PA X es (tG Z xo W n (relDs Z) fs)) : PE X (.List es pos) (tI Z xo W n fun env h => (fs env h).bind fun ds h => mkL m ds h) :=
  e_args (r := fun vs H Q => vs.length ≤ sizeLine ∧ ∀ p, H p = none → Q (.ref p) (upd H p (.lst vs))) (fun S σ ds vs Q ok _ r q => Go.mkL q ok r) (pe_lst h)
theorem e_dnew {t : Bool} : PE X (.Dict [] [] pos) (tI Z xo W n fun _ h => .ok (.ref h.length) (h ++ [if t then .dt [] else .dk []])) := by
  have h0 : PE X (.Dict [] [] pos) (tI Z xo W n fun _ h => .ok (.ref h.length) (h ++ [.dk []])) := PE.imp pe_dnewK fun σ H Q ⟨S, env, e, i, q⟩ => by
    subst e
    exact Go.celM q i.ok ⟨[], rfl, .nil⟩ (fun _ _ e => nomatch e)
  have h1 : PE X (.Dict [] [] pos) (tI Z xo W n fun _ h => .ok (.ref h.length) (h ++ [.dt []])) := PE.imp pe_dnewT fun σ H Q ⟨S, env, e, i, q⟩ => by
    subst e
    exact Go.celM q i.ok ⟨[], rfl, .nil⟩ (fun _ _ e => nomatch e)
  cases t with
  | false => exact h0
  | true => exact h1
end
end MP
end
section
set_option Elab.async false
set_option linter.all false
set_option maxRecDepth 100000
set_option maxHeartbeats 2000000
/-! MP: operators. -/
namespace MP
open PySem PySem.Spec L2
open PyProof.Rows hiding St
section
variable {Z : Ad} {S : Sa}
/-- what a value is read as -/
def VW (Z : Ad) (S : Sa) (x : A) (v : V) : Prop := VA Z S.F x v ∨ ∃ (xs : List A) (a : Addr) (vs : List V), x = .lst xs ∧ v = .ref a ∧ S.H a = some (.lst vs) ∧ VAs Z S.F xs vs
theorem rd_view (ok : S.Ok Z) {d : D} {v : V} {x : A} (r : VD Z S.r S.F d v) (e : d.rd S.h = some x) : VW Z S x v := by
  cases d with
  | a y =>
    simp only [D.rd, Option.some.injEq] at e
    subst e
    exact .inl r
  | ref n =>
    simp only [D.rd] at e
    split at e
    · rename_i xs q
      cases e
      obtain ⟨a, e1, e2⟩ := r
      obtain ⟨o, h1, h2, _⟩ := ok.at' q e2
      obtain ⟨vs, e3, h3⟩ := h2
      subst e3
      exact .inr ⟨xs, a, vs, rfl, e1, h1, h3⟩
    · cases e
  | nst ns => simp [D.rd] at e
theorem VW.lst (ok : S.Ok Z) {xs : List A} {v : V} (h : VW Z S (.lst xs) v) : ∃ (a : Addr) (vs : List V), v = .ref a ∧ S.H a = some (.lst vs) ∧ VAs Z S.F xs vs := by
  rcases h with h | ⟨ys, a, vs, e, h1, h2, h3⟩
  · cases h with
    | lst h1 h2 => exact ⟨_, _, rfl, ok.le _ _ h1, h2⟩
  · cases e
    exact ⟨a, vs, h1, h2, h3⟩
theorem VW.int {i : Int} {v : V} (h : VW Z S (.int i) v) : v = .int i := by
  rcases h with h | ⟨ys, a, vs, e, h1, h2, h3⟩
  · cases h; rfl
  · cases e
theorem VW.bl {i : Bool} {v : V} (h : VW Z S (.bl i) v) : v = .bl i := by
  rcases h with h | ⟨ys, a, vs, e, h1, h2, h3⟩
  · cases h; rfl
  · cases e
theorem VW.non {v : V} (h : VW Z S .non v) : v = .non := by
  rcases h with h | ⟨ys, a, vs, e, h1, h2, h3⟩
  · cases h; rfl
  · cases e
theorem VW.str {s : Str} {v : V} (h : VW Z S (.str s) v) : v = .str s ∧ OkS s := by
  rcases h with h | ⟨ys, a, vs, e, h1, h2, h3⟩
  · cases h with
    | str _ o => exact ⟨rfl, o⟩
  · cases e
theorem VW.tup {xs : List A} {v : V} (h : VW Z S (.tup xs) v) : ∃ (a : Addr) (vs : List V), v = .ref a ∧ S.F a = some (.tup vs) ∧ VAs Z S.F xs vs := by
  rcases h with h | ⟨ys, a, vs, e, h1, h2, h3⟩
  · cases h with
    | tup h1 h2 => exact ⟨_, _, rfl, h1, h2⟩
  · cases e
theorem VW.scr {xs : List Int} {v : V} (h : VW Z S (.scr xs) v) : ∃ (a : Addr), v = .ref a ∧ SqL Z.K S.F a (xs.map V.int) := by
  rcases h with h | ⟨ys, a, vs, e, h1, h2, h3⟩
  · cases h with
    | scr h1 => exact ⟨_, rfl, h1⟩
  · cases e
theorem VAs.ints {F : Hp} : ∀ (is : List Int), VAs Z F (is.map .int) (is.map .int)
  | [] => .nil
  | i :: is => .cons (.int i) (VAs.ints is)
theorem VAs.of_ints {F : Hp} : ∀ {is : List Int} {vs : List V}, VAs Z F (is.map .int) vs → vs = is.map .int
  | [], _, .nil => rfl
  | i :: is, _, .cons h t => by
    cases h
    rw [VAs.of_ints t]
    rfl
theorem ints?_eq : ∀ {xs : List A} {is : List Int}, ints? xs = some is → xs = is.map .int
  | [], is, e => by
    simp only [ints?, Option.some.injEq] at e
    subst e
    rfl
  | .int i :: r, is, e => by
    simp only [ints?] at e
    split at e
    · rename_i js q
      cases e
      rw [ints?_eq q]
      rfl
    · cases e
  | .non :: _, _, e => by simp [ints?] at e
  | .bl _ :: _, _, e => by simp [ints?] at e
  | .str _ :: _, _, e => by simp [ints?] at e
  | .tup _ :: _, _, e => by simp [ints?] at e
  | .lst _ :: _, _, e => by simp [ints?] at e
  | .ob _ _ :: _, _, e => by simp [ints?] at e
  | .scr _ :: _, _, e => by simp [ints?] at e
/-- the items of a list or a tuple -/
theorem items_view (ok : S.Ok Z) {d : D} {v : V} {xs : List A} (r : VD Z S.r S.F d v) (e : d.items S.h = some xs) : ∃ (a : Addr) (vs : List V), v = .ref a ∧ (SqL Z.K S.H a vs ∨ SqT Z.K S.H a vs) ∧ VAs Z S.F xs vs := by
  unfold D.items at e
  cases q : d.rd S.h with
  | none => rw [q] at e; cases e
  | some x =>
    rw [q] at e
    have w := rd_view ok r q
    have e' : A.items x = some xs := e
    cases x with
    | tup ys =>
      cases e'
      obtain ⟨a, vs, h1, h2, h3⟩ := w.tup
      exact ⟨a, vs, h1, .inr (SqT.of (ok.le _ _ h2)), h3⟩
    | lst ys =>
      cases e'
      obtain ⟨a, vs, h1, h2, h3⟩ := w.lst ok
      exact ⟨a, vs, h1, .inl (SqL.of h2), h3⟩
    | scr ys =>
      cases e'
      obtain ⟨a, h1, h2⟩ := w.scr
      exact ⟨a, _, h1, .inl (SqL.le ok.le h2), VAs.ints ys⟩
    | _ => cases e'
theorem OkS.append {s t : Str} (a : OkS s) (b : OkS t) (h : s.length + t.length ≤ sizeLine) : OkS (s ++ t) := by
  have e : (s ++ t).cps = s.cps ++ t.cps := rfl
  refine ⟨?_, ?_⟩
  · rw [e, Array.all_append, a.1, b.1]
    rfl
  · show (s ++ t).cps.size ≤ sizeLine
    rw [e, Array.size_append]
    exact h
theorem VAs.flat {F : Hp} {xs : List A} {vs : List V} (r : VAs Z F xs vs) : ∀ n : Nat, VAs Z F (List.replicate n xs).flatten (List.replicate n vs).flatten
  | 0 => .nil
  | n + 1 => by
    rw [List.replicate_succ, List.replicate_succ, List.flatten_cons, List.flatten_cons]
    exact VAs.append r (VAs.flat r n)
end
section
variable {X : Cx} {Z : Ad} {xo : Option Xo} {n : Nat} {W : WX} {a b c : Expr} {f g : Env → Mem → R D} {pos : Pos}
theorem op_true {f : Value → Value → Sem Value} : OpR X f (fun _ _ _ _ => False) := fun _ _ _ _ _ _ _ _ _ _ _ _ h => h.elim
/-- * of ints -/
def CMulZ (i j : Int) : Prop := CMul i j ∨ CMulW i j
theorem CMulZ.ok {i j : Int} (h : CMulZ i j) : IntMulOk i j := by
  rcases h with h | h
  · exact CMul.ok h
  · exact CMulW.ok h
theorem op_mulZ : OpR X (binaryOp .Mult) (rI CMulZ fun i j => .int (i * j)) := opI fun _ _ _ _ _ _ _ hc q => mul_int q hc.ok
theorem mulOk_ok {i j : Int} (h : mulOk i j = true) : CMulZ i j := by
  unfold mulOk at h
  simp only [Bool.or_eq_true, Bool.and_eq_true, decide_eq_true_eq] at h
  rcases h with (h | h) | h
  · exact .inl (.inl ⟨by omega, by omega⟩)
  · exact .inl (.inr ⟨by omega, by omega⟩)
  · exact .inr h
/-- a tuple times one, or an empty tuple, is the same object -/
theorem tuple_mul1 (l : Addr) (items : Array Value) (n : Nat) (dd : Option Addr) (sl : Array (Option Value)) (x : Int) (u : Tok) (c0 : (decide (x < -(2 ^ 63)) || decide (x ≥ 2 ^ 63)) = false) (c1 : (items.isEmpty || x == 1) = true) :
    Meets (Builtin.«tuple.__mul__» ⟨[.ref l, .int x u], []⟩) (fun _ R s => s.heap.get? l = some { cls := .type "tuple", dict := dd, data := .seq items n, slots := sl } ∧ R (.ok (.ret (Value.ref l))) s) :=
  .of_wp fun prog w A R s h => by
    obtain ⟨hp, g, d, tk, os⟩ := s
    obtain ⟨hl, h⟩ := h
    have f1 := AutoSeq1.idx_int
    wp_walk using wpAny_loadPart' hl
    refine wpAny_ite_false (decide_eq_false (by rw [c0]; exact Bool.false_ne_true)) ?_
    wp_walk using wpAny_loadPart' hl
    exact ⟨_, rfl, h⟩
def rRepT1 (K : PySem.W.Frag) : R2 := fun x y H Q => ∃ l k xs, x = .ref l ∧ y = .int k ∧ SqT K H l xs ∧ (xs = [] ∨ k = 1) ∧ -9223372036854775808 ≤ k ∧ k < 9223372036854775808 ∧ Q (.ref l) H
theorem op_repT1 : OpR X (binaryOp .Mult) (rRepT1 X.K) := by
  intro pins s σ H x y v u Q I rx ry h
  obtain ⟨l, k, xs, rfl, rfl, hT, hne, h1, h2, q⟩ := h
  cases rx
  obtain ⟨t, rfl⟩ := ry
  obtain ⟨its, r, ⟨⟨cls, dd, data, sl⟩, ho, hc, n, hd⟩, hs⟩ := I.tuple hT
  simp only at hc hd
  subst hc hd
  have hle : its.length = xs.length := r.length.symm
  have c0 : (decide (k < -(2 ^ 63)) || decide (k ≥ 2 ^ 63)) = false := by
    rw [decide_eq_false (by omega), decide_eq_false (by omega)] <;> rfl
  have c1 : (its.toArray.isEmpty || k == 1) = true := by
    rcases hne with rfl | rfl
    · rw [List.length_nil] at hle
      rw [List.eq_nil_of_length_eq_zero hle]
      rfl
    · exact Bool.or_true _
  refine wpAny_binaryOp_repeat_ref (T := "tuple") (U := "int") (by decide) ⟨_, ho, rfl⟩ (fun s' => typeIs_int s' k t) noFill_tuple_mul F.fills_int_mul F.slot_int_rmul repeat_tuple F.slot_int_index.lookup
    (call_meets F.slot_int_rmul (typeIs_int s k t) F.entry_int_rmul (F.args_int_rmul_2 _ _) (int_rmul_tuple k t l its.toArray n dd sl)
      ⟨ho, rfl, ⟨_, ho, rfl⟩, call_meets F.slot_tuple_mul ⟨_, ho, rfl⟩ F.entry_tuple_mul (F.args_tuple_mul_2 _ _) (tuple_mul1 l its.toArray n dd sl k t c0 c1) ⟨ho, ?_⟩⟩)
  exact ⟨.ref l, _, I, rfl, q⟩
/-- the readings of the operators -/
def rBin (K : PySem.W.Frag) : Operator → R2
  | .Add => fun x y H Q => rI0 (fun i j => .int (i + j)) x y H Q ∨ (∃ i j, x = .str i ∧ y = .str j ∧ i.length + j.length ≤ sizeLine ∧ Q (.str (i ++ j)) H) ∨ rCat x y H Q ∨ rCatA K x y H Q
  | .Sub => rI0 fun i j => .int (i - j)
  | .Mult => fun x y H Q => rI CMulZ (fun i j => .int (i * j)) x y H Q ∨ rRep x y H Q ∨ rRepT K x y H Q ∨ rRepT1 K x y H Q
  | .FloorDiv => fun x y H Q => rI CDiv (fun i j => .int (i / j)) x y H Q ∨ rI CDivN (fun i j => .int (i.fdiv j)) x y H Q
  | .Mod => fun x y H Q => rI (fun _ j => 0 < j) (fun i j => .int (i % j)) x y H Q ∨ rI (fun _ j => j ≠ 0) (fun i j => .int (i.fmod j)) x y H Q
  | .Pow => rI CPow fun i j => .int (i ^ j.toNat)
  | _ => fun _ _ _ _ => False
theorem op_bin (o : Operator) : OpR X (binaryOp o) (rBin X.K o) := by
  cases o with
  | Add => exact op_add.or (op_add_str.or (op_cat.or op_catA))
  | Sub => exact op_sub
  | Mult => exact op_mulZ.or (op_rep.or (op_repT.or op_repT1))
  | FloorDiv => exact op_fdiv.or op_fdivN
  | Mod => exact op_mod.or op_modN
  | Pow => exact op_pow
  | _ => exact op_true
theorem VAs.ne_nil {F : Hp} {xs : List A} {vs : List V} (r : VAs Z F xs vs) (h : vs = []) : xs = [] := by
  subst h
  cases r
  rfl
theorem VAs.ne_nil' {F : Hp} {xs : List A} {vs : List V} (r : VAs Z F xs vs) (h : xs = []) : vs = [] := by
  subst h
  cases r
  rfl
theorem bin_ok (m : Bool) (o : Operator) : OpK Z W n (rBin Z.K o) fun x y h => match x.rd h, y.rd h with
    | some x, some y => (match bin o x y with
      | some z => cel m z h
      | none => .err)
    | _, _ => .err := by
  intro S σ d1 d2 v1 v2 Q ok hn r1 r2 q
  dsimp only at q
  cases e1 : d1.rd S.h with
  | none => rw [e1] at q; exact q.elim
  | some x =>
    cases e2 : d2.rd S.h with
    | none => rw [e1, e2] at q; exact q.elim
    | some y =>
      rw [e1, e2] at q
      dsimp only at q
      have w1 := rd_view ok r1 e1
      have w2 := rd_view ok r2 e2
      cases eb : bin o x y with
      | none => rw [eb] at q; exact q.elim
      | some z =>
        rw [eb] at q
        dsimp only at q
        unfold bin at eb
        split at eb
        · cases eb
          rw [w1.int, w2.int]
          exact .inl ⟨_, _, rfl, rfl, Go.celA q ok (fun _ e => nomatch e) (.int _)⟩
        · cases eb
          rw [w1.int, w2.int]
          exact ⟨_, _, rfl, rfl, Go.celA q ok (fun _ e => nomatch e) (.int _)⟩
        · split at eb
          · rename_i hm
            cases eb
            rw [w1.int, w2.int]
            exact .inl ⟨_, _, rfl, rfl, mulOk_ok hm, Go.celA q ok (fun _ e => nomatch e) (.int _)⟩
          · cases eb
        · split at eb
          · rename_i hm
            cases eb
            rw [w1.int, w2.int]
            simp only [Bool.and_eq_true, decide_eq_true_eq] at hm
            exact .inl ⟨_, _, rfl, rfl, hm, Go.celA q ok (fun _ e => nomatch e) (.int _)⟩
          · split at eb
            · rename_i hm
              cases eb
              rw [w1.int, w2.int]
              simp only [Bool.and_eq_true, bne_iff_ne, decide_eq_true_eq] at hm
              exact .inr ⟨_, _, rfl, rfl, hm, Go.celA q ok (fun _ e => nomatch e) (.int _)⟩
            · cases eb
        · split at eb
          · rename_i hm
            cases eb
            rw [w1.int, w2.int]
            exact .inl ⟨_, _, rfl, rfl, hm, Go.celA q ok (fun _ e => nomatch e) (.int _)⟩
          · split at eb
            · rename_i hm
              cases eb
              rw [w1.int, w2.int]
              exact .inr ⟨_, _, rfl, rfl, bne_iff_ne.mp hm, Go.celA q ok (fun _ e => nomatch e) (.int _)⟩
            · cases eb
        · split at eb
          · rename_i hm
            cases eb
            rw [w1.int, w2.int]
            simp only [Bool.and_eq_true, decide_eq_true_eq] at hm
            exact ⟨_, _, rfl, rfl, ⟨hm.1.1, hm.1.2, hm.2⟩, Go.celA q ok (fun _ e => nomatch e) (.int _)⟩
          · cases eb
        · split at eb
          · rename_i hm
            cases eb
            obtain ⟨e3, o1⟩ := w1.str
            obtain ⟨e4, o2⟩ := w2.str
            subst e3 e4
            exact .inr (.inl ⟨_, _, rfl, rfl, hm, Go.celA q ok (fun _ e => nomatch e) (.str _ (o1.append o2 hm))⟩)
          · cases eb
        · split at eb
          · rename_i hm
            cases eb
            obtain ⟨p, vs, e3, h3, l3⟩ := w1.lst ok
            obtain ⟨p', us, e4, h4, l4⟩ := w2.lst ok
            subst e3 e4
            exact .inr (.inr (.inl ⟨p, p', vs, us, rfl, rfl, h3, h4, by rw [← l3.length, ← l4.length]; exact hm, Go.celL q ok (l3.append l4)⟩))
          · cases eb
        · split at eb
          · rename_i hm
            cases eb
            obtain ⟨p, vs, e3, h3, l3⟩ := w1.tup
            obtain ⟨p', us, e4, h4, l4⟩ := w2.tup
            subst e3 e4
            refine .inr (.inr (.inr ⟨p, p', vs, us, rfl, rfl, SqT.of (ok.le _ _ h3), SqT.of (ok.le _ _ h4), by rw [← l3.length, ← l4.length]; exact hm, fun h => ?_, fun h h' => ?_, fun _ _ => Go.celT q ok (l3.append l4)⟩))
            · exact Go.celA q ok (fun _ e => nomatch e) (by rw [l3.ne_nil h, List.nil_append]; exact .tup h4 l4)
            · exact Go.celA q ok (fun _ e => nomatch e) (by rw [l4.ne_nil h', List.append_nil]; exact .tup h3 l3)
          · cases eb
        · split at eb
          · rename_i hm
            cases eb
            obtain ⟨p, vs, e3, h3, l3⟩ := w1.lst ok
            subst e3
            rw [w2.int]
            simp only [Bool.and_eq_true, decide_eq_true_eq] at hm
            exact .inr (.inl ⟨p, _, vs, rfl, rfl, h3, by omega, by omega, by rw [← l3.length]; exact hm.2, Go.celL q ok (l3.flat _)⟩)
          · cases eb
        · split at eb
          · rename_i hm
            cases eb
            obtain ⟨p, vs, e3, h3, l3⟩ := w1.tup
            subst e3
            rw [w2.int]
            simp only [Bool.and_eq_true, Bool.or_eq_true, decide_eq_true_eq, List.isEmpty_iff] at hm
            exact .inr (.inr (.inr ⟨p, _, vs, rfl, rfl, SqT.of (ok.le _ _ h3), hm.1.1.elim .inr fun h => .inl (l3.ne_nil' h), hm.1.2, hm.2, Go.celA q ok (fun _ e => nomatch e) (.tup h3 l3)⟩))
          · split at eb
            · rename_i hm
              cases eb
              obtain ⟨p, vs, e3, h3, l3⟩ := w1.tup
              subst e3
              rw [w2.int]
              simp only [Bool.and_eq_true, decide_eq_true_eq, Bool.not_eq_true', List.isEmpty_eq_false_iff] at hm
              exact .inr (.inr (.inl ⟨p, _, vs, rfl, rfl, SqT.of (ok.le _ _ h3), fun h => hm.2 (l3.ne_nil h), hm.1.1.1, hm.1.1.2, by rw [← l3.length]; exact hm.1.2, Go.celT q ok (l3.flat _)⟩))
            · cases eb
        · cases eb
theorem e_bin {m : Bool} {o : Operator} (hZ : X.K = Z.K) (ha : PE X a (tI Z xo W n f)) (hb : PE X b (tI Z xo W n g)) :
    PE X (.BinOp a o b pos) (tI Z xo W n fun env h => (f env h).bind fun x h => (g env h).bind fun y h => match x.rd h, y.rd h with
      | some x, some y => (match bin o x y with
        | some z => cel m z h
        | none => .err)
      | _, _ => .err) := e_op (bin_ok m o) (by rw [← hZ]; exact pe_op (op_bin o) ha hb)
theorem e_neg (ha : PE X a (tI Z xo W n f)) : PE X (.UnaryOp .USub a pos) (tI Z xo W n fun env h => (f env h).bind fun x h => match x with
    | .a (.int i) => .ok (.a (.int (-i))) h
    | _ => .err) := e_un (r := rU fun i => .int (-i)) (fun S σ d v Q ok _ r q => by
  cases d with
  | a x =>
    cases x with
    | int i =>
      cases r
      exact ⟨i, rfl, Go.val q ok (.int _)⟩
    | _ => exact q.elim
  | _ => exact q.elim) (pe_un un_neg ha)
/-! ### truth -/
theorem tru_ok (hK : X.K = Z.K) {S : Sa} (ok : S.Ok Z) {d : D} {v : V} {k : Bool} (r : VD Z S.r S.F d v) (e : D.tru S.h d = some k) : TruV X.K v S.H k := by
  rw [hK]
  cases d with
  | a x =>
    cases x with
    | non => cases r; cases e; rfl
    | bl b => cases r; cases e; rfl
    | int i =>
      cases r
      cases e
      show decide (i ≠ 0) = (i != 0)
      simp [bne, Bool.beq_eq_decide_eq]
    | str s =>
      cases r with
      | str _ o =>
      cases e
      refine ⟨o.2, ?_⟩
      show decide (s.length ≠ 0) = ((s.length : Int) != 0)
      by_cases h : s.length = 0
      · simp [h]
      · have : (s.length : Int) ≠ 0 := by omega
        simp [h, this]
    | tup xs =>
      cases e
      cases r with
      | tup h1 h2 =>
        refine .inr (.inl ⟨_, SqT.of (ok.le _ _ h1), ?_⟩)
        cases h2 <;> rfl
    | lst xs =>
      cases e
      cases r with
      | lst h1 h2 =>
        refine .inl ⟨_, SqL.of (ok.le _ _ h1), ?_⟩
        cases h2 <;> rfl
    | ob _ _ => cases e
    | scr _ => cases e
  | ref m =>
    obtain ⟨p, e1, e2⟩ := r
    subst e1
    simp only [D.tru] at e
    split at e
    · rename_i xs q
      cases e
      obtain ⟨o, h1, ⟨vs, h2, h3⟩, _⟩ := ok.at' q e2
      subst h2
      refine .inl ⟨vs, SqL.of h1, ?_⟩
      cases h3 <;> rfl
    · rename_i xs q
      cases e
      obtain ⟨o, h1, ⟨vs, h2, h3⟩, _⟩ := ok.at' q e2
      subst h2
      refine .inr (.inr ⟨vs, h1, ?_⟩)
      cases h3 <;> rfl
    · cases e
  | nst ns =>
    cases e
    obtain ⟨p, as, e1, e2, e3⟩ := r
    subst e1
    refine .inl ⟨_, SqL.of (ok.le _ _ e2), ?_⟩
    have hl : ns.length = as.length := by
      have := congrArg List.length e3
      simpa using this
    cases ns <;> cases as <;> simp_all
end
end MP
end
section
set_option Elab.async false
set_option linter.all false
set_option maxRecDepth 100000
set_option maxHeartbeats 2000000
/-! MP: comparisons. -/
namespace MP
open PySem PySem.Spec L2
open PyProof.Rows hiding St
mutual
/-- as the library's data (instances have none) -/
def A.pd : A → PyData
  | .non => .none
  | .bl b => .bool b
  | .int i => .int i
  | .str s => .str s
  | .tup xs => .tuple (A.pds xs)
  | .lst xs => .list (A.pds xs)
  | .ob _ _ => .none
  | .scr _ => .none
def A.pds : List A → List PyData
  | [] => []
  | x :: xs => A.pd x :: A.pds xs
end
mutual
theorem low_ok {Z : Ad} {F : Hp} : ∀ {x : A} {v : V} {n : Nat}, A.low x n = true → VA Z F x v → Dp Z.K F v (A.pd x) ∧ (A.pd x).canLay0 = true ∧ (A.pd x).depth ≤ n
  | .non, _, _, _, .non => ⟨.non, rfl, Nat.zero_le _⟩
  | .bl _, _, _, _, .bl b => ⟨.bl b, rfl, Nat.zero_le _⟩
  | .int _, _, _, _, .int i => ⟨.int i, rfl, Nat.zero_le _⟩
  | .str _, _, _, _, .str s o => ⟨.str s, o.1, Nat.zero_le _⟩
  | .tup xs, _, 0, h, .tup h1 h2 => by simp [A.low] at h
  | .tup xs, _, n + 1, h, .tup h1 h2 => by
    have h' : A.lows xs n = true := by simpa [A.low] using h
    obtain ⟨q1, q2, q3⟩ := lows_ok h' h2
    exact ⟨.tup (SqT.of h1) q1, by simpa [A.pd, PyData.canLay0] using q2, by simpa [A.pd, PyData.depth] using q3⟩
  | .lst xs, _, 0, h, .lst h1 h2 => by simp [A.low] at h
  | .lst xs, _, n + 1, h, .lst h1 h2 => by
    have h' : A.lows xs n = true := by simpa [A.low] using h
    obtain ⟨q1, q2, q3⟩ := lows_ok h' h2
    exact ⟨.lst (SqL.of h1) q1, by simpa [A.pd, PyData.canLay0] using q2, by simpa [A.pd, PyData.depth] using q3⟩
  | .ob _ _, _, _, h, _ => by simp [A.low] at h
  | .scr _, _, _, h, _ => by simp [A.low] at h
theorem lows_ok {Z : Ad} {F : Hp} : ∀ {xs : List A} {vs : List V} {n : Nat}, A.lows xs n = true → VAs Z F xs vs → DpAll Z.K F vs (A.pds xs) ∧ PyData.canLayAll0 (A.pds xs) = true ∧ PyData.depthAll (A.pds xs) ≤ n
  | [], _, _, _, .nil => ⟨.nil, rfl, Nat.zero_le _⟩
  | x :: xs, _, n, h, .cons h1 h2 => by
    have h' : A.low x n = true ∧ A.lows xs n = true := by simpa [A.lows] using h
    obtain ⟨p1, p2, p3⟩ := low_ok h'.1 h1
    obtain ⟨q1, q2, q3⟩ := lows_ok h'.2 h2
    refine ⟨.cons p1 q1, by simp [A.pds, PyData.canLayAll0, p2, q2], ?_⟩
    simp only [A.pds, PyData.depthAll]
    omega
end
theorem Dp.le {K : PySem.W.Frag} {F F' : Hp} (h : Le F F') : ∀ {d : PyData} {v : V}, Dp K F v d → Dp K F' v d := by
  intro d v x
  exact Dp.rec (motive_1 := fun v d _ => Dp K F' v d) (motive_2 := fun vs ds _ => DpAll K F' vs ds) .non (fun b => .bl b) (fun i => .int i) (fun s => .str s)
    (fun a _ ih => .lst (SqL.le h a) ih) (fun a _ ih => .tup (SqT.le h a) ih) .nil (fun _ _ a b => .cons a b) x
theorem DpAll.le {K : PySem.W.Frag} {F F' : Hp} (h : Le F F') : ∀ {ds : List PyData} {vs : List V}, DpAll K F vs ds → DpAll K F' vs ds := by
  intro d v x
  exact DpAll.rec (motive_1 := fun v d _ => Dp K F' v d) (motive_2 := fun vs ds _ => DpAll K F' vs ds) .non (fun b => .bl b) (fun i => .int i) (fun s => .str s)
    (fun a _ ih => .lst (SqL.le h a) ih) (fun a _ ih => .tup (SqT.le h a) ih) .nil (fun _ _ a b => .cons a b) x
mutual
theorem eqv_ok : ∀ (x y : A) (n m : Nat), A.low x n = true → A.low y m = true → PyData.eqv (A.pd x) (A.pd y) = A.eqv x y
  | .non, y, _, _, _, h => by cases y <;> simp_all [A.pd, PyData.eqv, A.eqv, A.low]
  | .bl a, y, _, _, _, h => by
    cases y <;> simp_all [A.pd, PyData.eqv, A.eqv, A.low, Bool.beq_eq_decide_eq]
  | .int a, y, _, _, _, h => by
    cases y <;> simp_all [A.pd, PyData.eqv, A.eqv, A.low, Bool.beq_eq_decide_eq]
  | .str a, y, _, _, _, h => by
    cases y <;> simp_all [A.pd, PyData.eqv, A.eqv, A.low, Bool.beq_eq_decide_eq]
  | .tup xs, y, n, m, h0, h => by
    cases n with
    | zero => simp [A.low] at h0
    | succ n =>
      cases y with
      | tup ys =>
        cases m with
        | zero => simp [A.low] at h
        | succ m =>
          simp only [A.pd, PyData.eqv, A.eqv]
          exact eqvs_ok xs ys n m (by simpa [A.low] using h0) (by simpa [A.low] using h)
      | _ => simp_all [A.pd, PyData.eqv, A.eqv, A.low]
  | .lst xs, y, n, m, h0, h => by
    cases n with
    | zero => simp [A.low] at h0
    | succ n =>
      cases y with
      | lst ys =>
        cases m with
        | zero => simp [A.low] at h
        | succ m =>
          simp only [A.pd, PyData.eqv, A.eqv]
          exact eqvs_ok xs ys n m (by simpa [A.low] using h0) (by simpa [A.low] using h)
      | _ => simp_all [A.pd, PyData.eqv, A.eqv, A.low]
  | .ob _ _, y, _, _, h, _ => by simp [A.low] at h
  | .scr _, y, _, _, h, _ => by simp [A.low] at h
theorem eqvs_ok : ∀ (xs ys : List A) (n m : Nat), A.lows xs n = true → A.lows ys m = true → PyData.eqvAll (A.pds xs) (A.pds ys) = A.eqvs xs ys
  | [], [], _, _, _, _ => rfl
  | [], _ :: _, _, _, _, _ => rfl
  | _ :: _, [], _, _, _, _ => rfl
  | x :: xs, y :: ys, n, m, h, h' => by
    have a : A.low x n = true ∧ A.lows xs n = true := by simpa [A.lows] using h
    have b : A.low y m = true ∧ A.lows ys m = true := by simpa [A.lows] using h'
    simp only [A.pds, PyData.eqvAll, A.eqvs]
    rw [eqv_ok x y n m a.1 b.1, eqvs_ok xs ys n m a.2 b.2]
end
theorem any_ok {x : A} {n m : Nat} (hx : A.low x n = true) : ∀ (ys : List A), A.lows ys m = true → ((A.pds ys).any fun z => PyData.eqv z (A.pd x)) = inA x ys
  | [], _ => rfl
  | y :: ys, h => by
    have b : A.low y m = true ∧ A.lows ys m = true := by simpa [A.lows] using h
    simp only [A.pds, List.any_cons, inA]
    rw [eqv_ok y x m n b.1 hx, any_ok hx ys b.2]
section
variable {Z : Ad} {S : Sa}
theorem shaped_of {d : PyData} (h1 : d.canLay0 = true) (h2 : d.depth ≤ 50) : SeqAt.shaped d = true := by
  unfold SeqAt.shaped
  rw [h1, Bool.true_and]
  exact decide_eq_true (by omega)
/-- data read at a value -/
theorem VW.dp (ok : S.Ok Z) {x : A} {v : V} (w : VW Z S x v) (h : A.lowB x = true) : Dp Z.K S.H v (A.pd x) ∧ SeqAt.shaped (A.pd x) = true := by
  rcases w with w | ⟨ys, a, vs, e, h1, h2, h3⟩
  · obtain ⟨q1, q2, q3⟩ := low_ok h w
    exact ⟨Dp.le ok.le q1, shaped_of q2 q3⟩
  · subst e h1
    have h' : A.lows ys 49 = true := by simpa [A.lowB, A.low] using h
    obtain ⟨q1, q2, q3⟩ := lows_ok h' h3
    refine ⟨Dp.lst (SqL.of h2) (DpAll.le ok.le q1), shaped_of (by simpa [A.pd, PyData.canLay0] using q2) ?_⟩
    simp only [A.pd, PyData.depth]
    omega
theorem keyV {x : A} {v : V} {k : Key} (h : key? x = some k) (r : VA Z F x v) : v = kV k := by
  cases x with
  | int i => cases h; cases r; rfl
  | str s =>
    cases h
    cases r
    rfl
  | _ => cases h
theorem keysV {F : Hp} : ∀ {xs : List A} {vs : List V} {ks : List Key}, keys? xs = some ks → VAs Z F xs vs → vs = ks.map kV
  | [], _, ks, h, .nil => by
    simp only [keys?, Option.some.injEq] at h
    subst h
    rfl
  | x :: xs, _, ks, h, .cons a b => by
    simp only [keys?] at h
    split at h
    · rename_i k ks' h1 h2
      cases h
      rw [keyV h1 a, keysV h2 b]
      rfl
    · cases h
theorem tkeyV (ok : S.Ok Z) {x : A} {v : V} {k : List Key} (h : tkey? x = some k) (r : VA Z S.F x v) : ∃ b, v = .ref b ∧ S.H b = some (.tup (k.map kV)) := by
  cases x with
  | tup xs =>
    cases r with
    | tup h1 h2 =>
      refine ⟨_, rfl, ?_⟩
      rw [← keysV (show keys? xs = some k from h) h2]
      exact ok.le _ _ h1
  | _ => cases h
theorem KVA.get {F : Hp} {κ : Type} [DecidableEq κ] (k : κ) : ∀ {xs : List (κ × A)} {vs : List (κ × V)}, KVA Z F xs vs → (match dget xs k with
    | some x => ∃ v, valV vs k = some v ∧ VA Z F x v
    | none => valV vs k = none)
  | _, _, .nil => rfl
  | _, _, .cons (k := j) (x := x) (v := v) (xs := xs) (vs := vs) a b => by
    have ih := KVA.get k b
    by_cases e : j = k
    · have e1 : dget ((j, x) :: xs) k = some x := by simp [dget, List.find?_cons, e]
      rw [e1]
      exact ⟨v, valV_pos e, a⟩
    · have e1 : dget ((j, x) :: xs) k = dget xs k := by simp [dget, List.find?_cons, e]
      rw [e1, valV_neg (p := (j, v)) (r := vs) e]
      exact ih
end
end MP
end
section
set_option Elab.async false
set_option linter.all false
set_option maxRecDepth 100000
set_option maxHeartbeats 2000000
/-! MP: comparisons as expressions and tests. -/
namespace MP
open PySem PySem.Spec L2
open PyProof.Rows hiding St
section
variable {X : Cx}
theorem PE.or {e : Expr} {t1 t2 t : TE} (h1 : PE X e t1) (h2 : PE X e t2) (h : ∀ σ H Q, t σ H Q → t1 σ H Q ∨ t2 σ H Q) : PE X e t := ⟨fun pins s σ H Q I w => (h σ H Q w).elim (h1.run pins s σ H Q I) (h2.run pins s σ H Q I)⟩
theorem PT.or {e : Expr} {t1 t2 t : TT} (h1 : PT X e t1) (h2 : PT X e t2) (h : ∀ σ H Q, t σ H Q → t1 σ H Q ∨ t2 σ H Q) : PT X e t := ⟨fun pins s σ H Q I w => (h σ H Q w).elim (h1.run pins s σ H Q I) (h2.run pins s σ H Q I)⟩
/-- in a list or a tuple of data -/
def rInA (K : PySem.W.Frag) (neg : Bool) : R2 := fun x y H Q => ∃ d ds, Dp K H x d ∧ (Dp K H y (.list ds) ∨ Dp K H y (.tuple ds)) ∧ SeqAt.shaped d = true ∧ PyData.canLayAll0 ds = true ∧ Q (.bl (if neg then !ds.any fun z => PyData.eqv z d else ds.any fun z => PyData.eqv z d)) H
theorem op_inA (hu : X.A.units + 65 < cLine) : OpR X (compareOp .In) (rInA X.K false) := by
  intro pins s σ H x y v u Q I rx ry h
  obtain ⟨d, ds, hd, he, sd, se, q⟩ := h
  obtain ⟨as, r1⟩ := Dp.reads I d x v hd rx
  have rm : X.A.units + 1 + min (PyData.depthAll ds) d.depth < cLine := room_in_shaped sd hu
  rcases he with he | he
  · obtain ⟨bs, r2⟩ := Dp.reads I (.list ds) y u he ry
    exact SeqAt.in_list_reads r2 r1 se (SeqAt.canLay_of_shaped sd) rm ⟨.bl _, H, I, rfl, q⟩
  · obtain ⟨bs, r2⟩ := Dp.reads I (.tuple ds) y u he ry
    exact SeqAt.in_tuple_reads r2 r1 se (SeqAt.canLay_of_shaped sd) rm ⟨.bl _, H, I, rfl, q⟩
theorem op_notInA (hu : X.A.units + 65 < cLine) : OpR X (compareOp .NotIn) (rInA X.K true) := by
  intro pins s σ H x y v u Q I rx ry h
  obtain ⟨d, ds, hd, he, sd, se, q⟩ := h
  obtain ⟨as, r1⟩ := Dp.reads I d x v hd rx
  have rm : X.A.units + 1 + min (PyData.depthAll ds) d.depth < cLine := room_in_shaped sd hu
  rcases he with he | he
  · obtain ⟨bs, r2⟩ := Dp.reads I (.list ds) y u he ry
    exact SeqAt.notIn_list_reads r2 r1 se (SeqAt.canLay_of_shaped sd) rm ⟨.bl _, H, I, rfl, q⟩
  · obtain ⟨bs, r2⟩ := Dp.reads I (.tuple ds) y u he ry
    exact SeqAt.notIn_tuple_reads r2 r1 se (SeqAt.canLay_of_shaped sd) rm ⟨.bl _, H, I, rfl, q⟩
def rInDic (neg : Bool) : R2 := fun x y H Q => ∃ a o, y = .ref a ∧ DGet H a x o ∧ Q (.bl (if neg then !o.isSome else o.isSome)) H
theorem op_inDic (hu : X.A.units + 1 < cLine) : OpR X (compareOp .In) (rInDic false) := by
  intro pins s σ H x y v u Q I rx ry h
  obtain ⟨a, o, e, hd, q⟩ := h
  subst e
  cases ry
  exact d_in hu I hd rx fun s' I' => ⟨.bl _, H, I', rfl, q⟩
theorem op_notInDic (hu : X.A.units + 1 < cLine) : OpR X (compareOp .NotIn) (rInDic true) := by
  intro pins s σ H x y v u Q I rx ry h
  obtain ⟨a, o, e, hd, q⟩ := h
  subst e
  cases ry
  exact d_notIn hu I hd rx fun s' I' => ⟨.bl _, H, I', rfl, q⟩
end
/-! ### comparisons -/
section
variable {X : Cx} {Z : Ad} {xo : Option Xo} {n : Nat} {W : WX}
def rCmp (K : PySem.W.Frag) : CmpOp → R2
  | .Eq => rEqD K
  | .NotEq => rNeD K
  | .Lt => rI0 fun i j => .bl (decide (i < j))
  | .LtE => rI0 fun i j => .bl (decide (i ≤ j))
  | .Gt => rI0 fun i j => .bl (decide (j < i))
  | .GtE => rI0 fun i j => .bl (decide (j ≤ i))
  | .Is => fun x y H Q => y = .non ∧ Q (.bl (decide (x = .non))) H
  | .IsNot => fun x y H Q => y = .non ∧ Q (.bl (!decide (x = .non))) H
  | .In => fun x y H Q => rInA K false x y H Q ∨ rInDic false x y H Q
  | .NotIn => fun x y H Q => rInA K true x y H Q ∨ rInDic true x y H Q
theorem op_cmp (hu : X.A.units + 65 < cLine) (o : CmpOp) : OpR X (compareOp o) (rCmp X.K o) := by
  cases o with
  | Eq => exact op_eqD (by omega)
  | NotEq => exact op_neD (by omega)
  | Lt => exact op_lt
  | LtE => exact op_le
  | Gt => exact op_gt
  | GtE => exact op_ge
  | Is => exact op_isN
  | IsNot => exact op_notN
  | In => exact (op_inA hu).or (op_inDic (by omega))
  | NotIn => exact (op_notInA hu).or (op_notInDic (by omega))
theorem VD.non_iff {S : Sa} {d : D} {v : V} (r : VD Z S.r S.F d v) : (v = .non) = (d = .a .non) := by
  cases d with
  | a x =>
    cases r <;> simp
  | ref m =>
    obtain ⟨a, e, _⟩ := r
    subst e
    simp
  | nst ns =>
    obtain ⟨a, _, e, _⟩ := r
    subst e
    simp
theorem inD_ok {S : Sa} (ok : S.Ok Z) {d1 d2 : D} {v1 v2 : V} {b : Bool} (neg : Bool) (r1 : VD Z S.r S.F d1 v1) (r2 : VD Z S.r S.F d2 v2) (e : inD S.h d1 d2 = some b) {Q : VK} (q : Q (.bl (if neg then !b else b)) S.H) :
    rInA Z.K neg v1 v2 S.H Q ∨ rInDic neg v1 v2 S.H Q := by
  cases d1 with
  | a x =>
    have lo : ∀ {ys : List A} {vs : List V}, (A.lowB x && A.lows ys 50) = true → VAs Z S.F ys vs → (Dp Z.K S.H v1 (A.pd x) ∧ SeqAt.shaped (A.pd x) = true) ∧ (DpAll Z.K S.H vs (A.pds ys) ∧ PyData.canLayAll0 (A.pds ys) = true) ∧ ((A.pds ys).any fun z => PyData.eqv z (A.pd x)) = inA x ys := fun {ys vs} h r => by
      rw [Bool.and_eq_true] at h
      obtain ⟨p1, p2, p3⟩ := low_ok h.1 r1
      obtain ⟨q1, q2, q3⟩ := lows_ok h.2 r
      exact ⟨⟨Dp.le ok.le p1, shaped_of p2 p3⟩, ⟨DpAll.le ok.le q1, q2⟩, any_ok h.1 ys h.2⟩
    cases d2 with
    | a y =>
      cases y with
      | lst ys =>
        simp only [inD] at e
        split at e
        · rename_i hl
          cases e
          cases r2 with
          | lst h1 h2 =>
            obtain ⟨⟨a1, a2⟩, ⟨b1, b2⟩, c⟩ := lo hl h2
            exact .inl ⟨_, _, a1, .inl (.lst (SqL.of (ok.le _ _ h1)) b1), a2, b2, by rw [c]; exact q⟩
        · cases e
      | tup ys =>
        simp only [inD] at e
        split at e
        · rename_i hl
          cases e
          cases r2 with
          | tup h1 h2 =>
            obtain ⟨⟨a1, a2⟩, ⟨b1, b2⟩, c⟩ := lo hl h2
            exact .inl ⟨_, _, a1, .inr (.tup (SqT.of (ok.le _ _ h1)) b1), a2, b2, by rw [c]; exact q⟩
        · cases e
      | _ => simp [inD] at e
    | ref m =>
      obtain ⟨p, e1, e2⟩ := r2
      subst e1
      simp only [inD] at e
      split at e
      · rename_i ys hm
        split at e
        · rename_i hl
          cases e
          obtain ⟨o, h1, ⟨vs, h2, h3⟩, _⟩ := ok.at' hm e2
          subst h2
          obtain ⟨⟨a1, a2⟩, ⟨b1, b2⟩, c⟩ := lo hl h3
          exact .inl ⟨_, _, a1, .inl (.lst (SqL.of h1) b1), a2, b2, by rw [c]; exact q⟩
        · cases e
      · rename_i kvs hm
        obtain ⟨o, h1, ⟨vs, h2, h3⟩, _⟩ := ok.at' hm e2
        subst h2
        cases hk : key? x with
        | none => rw [hk] at e; cases e
        | some k =>
          rw [hk] at e
          cases e
          have g := KVA.get k h3
          refine .inr ⟨p, valV vs k, rfl, ?_, ?_⟩
          · rw [keyV hk r1]
            exact DGet.k h1
          · split at g
            · rename_i z hz
              obtain ⟨v, g1, _⟩ := g
              rw [g1]
              dsimp only at q
              rw [hz] at q
              exact q
            · rename_i hz
              rw [g]
              dsimp only at q
              rw [hz] at q
              exact q
      · rename_i kvs hm
        obtain ⟨o, h1, ⟨vs, h2, h3⟩, _⟩ := ok.at' hm e2
        subst h2
        cases hk : tkey? x with
        | none => rw [hk] at e; cases e
        | some k =>
          rw [hk] at e
          cases e
          have g := KVA.get k h3
          obtain ⟨b, eb, hb⟩ := tkeyV ok hk r1
          refine .inr ⟨p, valV vs k, rfl, ?_, ?_⟩
          · rw [eb]
            exact DGet.t h1 hb
          · split at g
            · rename_i z hz
              obtain ⟨v, g1, _⟩ := g
              rw [g1]
              dsimp only at q
              rw [hz] at q
              exact q
            · rename_i hz
              rw [g]
              dsimp only at q
              rw [hz] at q
              exact q
      · cases e
    | nst ns => simp [inD] at e
  | ref m => simp [inD] at e
  | nst ns => simp [inD] at e
theorem cmp_ok {S : Sa} (ok : S.Ok Z) {o : CmpOp} {d1 d2 : D} {v1 v2 : V} {b : Bool} (r1 : VD Z S.r S.F d1 v1) (r2 : VD Z S.r S.F d2 v2) (e : cmp o S.h d1 d2 = some b) {Q : VK} (q : Q (.bl b) S.H) : rCmp Z.K o v1 v2 S.H Q := by
  have eq : ∀ {c : Bool}, ((d1.rd S.h).bind fun a => (d2.rd S.h).bind fun b => eqA a b) = some c → ∃ d e, Dp Z.K S.H v1 d ∧ Dp Z.K S.H v2 e ∧ SeqAt.shaped d = true ∧ SeqAt.shaped e = true ∧ PyData.eqv d e = c := fun {c} h => by
    cases e1 : d1.rd S.h with
    | none => rw [e1] at h; cases h
    | some x =>
      cases e2 : d2.rd S.h with
      | none => rw [e1, e2] at h; cases h
      | some y =>
        rw [e1, e2] at h
        have h' : (if A.lowB x && A.lowB y then some (A.eqv x y) else none) = some c := h
        split at h'
        · rename_i hl
          rw [Bool.and_eq_true] at hl
          cases h'
          obtain ⟨p1, p2⟩ := (rd_view ok r1 e1).dp ok hl.1
          obtain ⟨q1, q2⟩ := (rd_view ok r2 e2).dp ok hl.2
          exact ⟨_, _, p1, q1, p2, q2, eqv_ok x y 50 50 hl.1 hl.2⟩
        · cases h'
  cases o with
  | Eq =>
    obtain ⟨d, e', h1, h2, h3, h4, h5⟩ := eq e
    exact ⟨d, e', h1, h2, h3, h4, by rw [h5]; exact q⟩
  | NotEq =>
    have e0 : ((d1.rd S.h).bind fun a => (d2.rd S.h).bind fun b => (eqA a b).map (!·)) = some b := e
    have e0' : ((d1.rd S.h).bind fun a => (d2.rd S.h).bind fun b => eqA a b) = some (!b) := by
      cases e1 : d1.rd S.h with
      | none => rw [e1] at e0; cases e0
      | some x =>
        cases e2 : d2.rd S.h with
        | none => rw [e1, e2] at e0; cases e0
        | some y =>
          rw [e1, e2] at e0
          have e0'' : (eqA x y).map (!·) = some b := e0
          cases h : eqA x y with
          | none => rw [h] at e0''; cases e0''
          | some c =>
            rw [h] at e0''
            cases e0''
            show eqA x y = some (!!c)
            rw [h, Bool.not_not]
    obtain ⟨d, e', h1, h2, h3, h4, h5⟩ := eq e0'
    exact ⟨d, e', h1, h2, h3, h4, by rw [h5, Bool.not_not]; exact q⟩
  | Lt =>
    simp only [cmp] at e
    split at e
    · cases e
      cases r1
      cases r2
      exact ⟨_, _, rfl, rfl, q⟩
    · cases e
  | LtE =>
    simp only [cmp] at e
    split at e
    · cases e
      cases r1
      cases r2
      exact ⟨_, _, rfl, rfl, q⟩
    · cases e
  | Gt =>
    simp only [cmp] at e
    split at e
    · cases e
      cases r1
      cases r2
      exact ⟨_, _, rfl, rfl, q⟩
    · cases e
  | GtE =>
    simp only [cmp] at e
    split at e
    · cases e
      cases r1
      cases r2
      exact ⟨_, _, rfl, rfl, q⟩
    · cases e
  | Is =>
    simp only [cmp] at e
    split at e
    · cases e
      cases r1
      cases r2
      exact ⟨rfl, q⟩
    · rename_i hne
      cases e
      cases r2
      refine ⟨rfl, ?_⟩
      rw [decide_eq_false (by rw [VD.non_iff r1]; exact hne)]
      exact q
    · cases e
  | IsNot =>
    simp only [cmp] at e
    split at e
    · cases e
      cases r1
      cases r2
      exact ⟨rfl, q⟩
    · rename_i hne
      cases e
      cases r2
      refine ⟨rfl, ?_⟩
      rw [decide_eq_false (by rw [VD.non_iff r1]; exact hne)]
      exact q
    · cases e
  | In => exact inD_ok ok false r1 r2 e q
  | NotIn =>
    have e0 : (inD S.h d1 d2).map (!·) = some b := e
    cases h : inD S.h d1 d2 with
    | none => rw [h] at e0; cases e0
    | some c =>
      rw [h] at e0
      cases e0
      exact inD_ok ok true r1 r2 h q
end
/-! ### expressions, as values and as tests -/
abbrev tT (Z : Ad) (xo : Option Xo) (W : WX) (n : Nat) (f : Env → Mem → R D) : TT := tG Z xo W n relB fun env h => (f env h).tru
structure EOk (X : Cx) (Z : Ad) (xo : Option Xo) (W : WX) (n : Nat) (e : Expr) (f : Env → Mem → R D) : Prop where
  pe : PE X e (tI Z xo W n f)
  pt : PT X e (tT Z xo W n f)
section
variable {X : Cx} {Z : Ad} {xo : Option Xo} {n : Nat} {W : WX} {a b c e : Expr} {f g k : Env → Mem → R D} {pos : Pos}
/-- the value's truth -/
theorem Go.tru {S : Sa} {σ : St} {d : D} {v : V} {Q : Bool → Hp → Prop} (hK : X.K = Z.K) (ok : S.Ok Z) (r : VD Z S.r S.F d v) (q : Go Z W n σ relB S (MP.ofO (D.tru S.h d) S.h) Q) : ∃ k, TruV X.K v S.H k ∧ Q k S.H := by
  obtain ⟨k, e, q⟩ := q.ofO
  exact ⟨k, tru_ok hK ok r e, Go.val q ok rfl⟩
theorem EOk.of (hK : X.K = Z.K) (h : PE X a (tI Z xo W n f)) (he : ∀ whole, isTrue a X.env whole = (do let v ← whole; standAt a.pos; holding [v] (truthy v))) : EOk X Z xo W n a f := ⟨h, PT.imp (pt_truth h he) fun σ H Q ⟨S, env, e, i, q⟩ => by
  subst e
  refine ⟨S, env, rfl, i, (Go.bind (Rel := relD Z) q).mono fun v H1 ⟨d, S1, x, e, r1, q1⟩ => ?_⟩
  subst e
  exact Go.tru hK x.ok r1 q1⟩
/-- a comparison -/
theorem EOk.cmp {o : CmpOp} (hK : X.K = Z.K) (hu : X.A.units + 65 < cLine) (ha : EOk X Z xo W n a f) (hb : EOk X Z xo W n b g) (hm : behindInMarks o b = false) :
    EOk X Z xo W n (.Compare a [o] [b] pos) (fun env h => (f env h).bind fun x h => (g env h).bind fun y h => ofO ((cmp o h x y).map fun b => .a (.bl b)) h) := by
  refine ⟨e_op (r := rCmp Z.K o) (fun S σ d1 d2 v1 v2 Q ok hn r1 r2 q => ?_) (by rw [← hK]; exact pe_cmpR (op_cmp hu o) ha.pe hb.pe hm), ?_⟩
  · obtain ⟨d, e, q⟩ := q.ofO
    cases h : MP.cmp o S.h d1 d2 with
    | none => rw [h] at e; cases e
    | some c =>
      rw [h] at e
      cases e
      exact cmp_ok ok r1 r2 h (Go.val q ok (.bl _))
  · refine PT.imp (pt_cmpR (op_cmp hu o) ha.pe hb.pe hm) fun σ H Q ⟨S, env, e, i, q⟩ => ?_
    subst e
    have q' : Go Z W n σ relB S ((f env S.h).bind fun x h => ((g env h).bind fun y h => ofO ((MP.cmp o h x y).map fun b => D.a (.bl b)) h).tru) Q := by
      cases h1 : f env S.h with
      | ok d h => dsimp only at q ⊢; rw [h1] at q; exact q
      | exc c x h => dsimp only at q ⊢; rw [h1] at q; exact q
      | err => dsimp only at q ⊢; rw [h1] at q; exact q
    refine ⟨S, env, rfl, i, (Go.bind (Rel := relD Z) q').mono fun v H1 ⟨d, S1, x, e, r1, q1⟩ => ?_⟩
    subst e
    have q1' : Go Z W n σ relB S1 ((g env S1.h).bind fun y h => (ofO ((MP.cmp o h d y).map fun b => D.a (.bl b)) h).tru) Q := by
      cases h1 : g env S1.h with
      | ok d h => rw [h1] at q1; exact q1
      | exc c x h => rw [h1] at q1; exact q1
      | err => rw [h1] at q1; exact q1
    refine ⟨S1, env, rfl, i.nx x, (Go.bind (Rel := relD Z) q1').mono fun v2 H2 ⟨d2, S2, x2, e, r2, q2⟩ => ?_⟩
    subst e
    rw [hK]
    cases h : MP.cmp o S2.h d d2 with
    | none => rw [h] at q2; exact q2.elim
    | some c =>
      rw [h] at q2
      exact cmp_ok x2.ok (VD.nx x2 r1) r2 h ⟨c, rfl, Go.val (Rel := relB) q2 x2.ok rfl⟩
theorem R.tru_bind {α : Type} (r : R α) (k : α → Mem → R D) : (r.bind k).tru = r.bind fun a h => (k a h).tru := by cases r <;> rfl
/-- not -/
theorem EOk.not (hK : X.K = Z.K) (ha : EOk X Z xo W n a f) : EOk X Z xo W n (.UnaryOp .Not a pos) (fun env h => (f env h).tru.bind fun b h => .ok (.a (.bl (!b))) h) := by
  refine ⟨PE.imp (pe_notT ha.pe) fun σ H Q ⟨S, env, e, i, q⟩ => ?_, PT.imp (pt_not ha.pt) fun σ H Q ⟨S, env, e, i, q⟩ => ?_⟩
  · subst e
    have q' : Go Z W n σ (relD Z) S ((f env S.h).bind fun d h => (ofO (D.tru h d) h).bind fun b h => .ok (.a (.bl (!b))) h) Q := by
      cases h1 : f env S.h <;> (dsimp only at q ⊢; rw [h1] at q; exact q)
    refine ⟨S, env, rfl, i, (Go.bind (Rel := relD Z) q').mono fun v H1 ⟨d, S1, x, e, r1, q1⟩ => ?_⟩
    subst e
    cases h : D.tru S1.h d with
    | none => rw [h] at q1; exact q1.elim
    | some c =>
      rw [h] at q1
      exact ⟨c, tru_ok hK x.ok r1 h, Go.val (Rel := relD Z) q1 x.ok (.bl _)⟩
  · subst e
    dsimp only at q
    rw [R.tru_bind] at q
    refine ⟨S, env, rfl, i, (Go.bind (Rel := relB) q).mono fun v H1 ⟨d, S1, x, e, r1, q1⟩ => ?_⟩
    subst e
    cases r1
    exact Go.val (Rel := relB) q1 x.ok rfl
/-- if-else -/
theorem EOk.ite (hc : EOk X Z xo W n c k) (ha : EOk X Z xo W n a f) (hb : EOk X Z xo W n b g) : EOk X Z xo W n (.IfExp c a b pos) (fun env h => (k env h).tru.bind fun t h => if t then f env h else g env h) := by
  refine ⟨PE.imp (pe_ifExp hc.pt ha.pe hb.pe) fun σ H Q ⟨S, env, e, i, q⟩ => ?_, ⟨fun pins s σ H Q I ⟨S, env, e, i, q⟩ => ?_⟩⟩
  · subst e
    refine ⟨S, env, rfl, i, (Go.bind (Rel := relB) q).mono fun v H1 ⟨d, S1, x, e, r1, q1⟩ => ?_⟩
    subst e
    cases r1
    cases v with
    | true => exact ⟨S1, env, rfl, i.nx x, q1⟩
    | false => exact ⟨S1, env, rfl, i.nx x, q1⟩
  · subst e
    dsimp only at q
    rw [R.tru_bind] at q
    refine isTrue_IfExp (thn (hc.pt.run pins s σ S.H (fun t H1 => if t then tT Z xo W n f σ H1 Q else tT Z xo W n g σ H1 Q) I ⟨S, env, rfl, i, (Go.bind (Rel := relB) q).mono fun v H1 ⟨d, S1, x, e, r1, q1⟩ => ?_⟩) fun t s1 ⟨H1, I1, q1⟩ => ?_)
    · subst e
      cases r1
      cases v with
      | true => exact ⟨S1, env, rfl, i.nx x, q1⟩
      | false => exact ⟨S1, env, rfl, i.nx x, q1⟩
    · cases t with
      | true => exact ha.pt.run pins s1 σ H1 Q I1 q1
      | false => exact hb.pt.run pins s1 σ H1 Q I1 q1
/-- the parts of and, or -/
structure BOk (X : Cx) (Z : Ad) (xo : Option Xo) (W : WX) (n : Nat) (e : Expr) (f : Env → Mem → R D) : Prop where
  pe : PE X e (tI Z xo W n f)
  pt : PW X e (tT Z xo W n f)
theorem BOk.eok (h : BOk X Z xo W n a f) : EOk X Z xo W n a f := ⟨h.pe, h.pt.pt⟩
theorem BOk.one {o : BoolOp} (h : EOk X Z xo W n a f) : BOk X Z xo W n (.BoolOp o [a] pos) f := by
  cases o with
  | And => exact ⟨pe_one h.pe, pw_and1 h.pt⟩
  | Or => exact ⟨pe_one h.pe, pw_or1 h.pt⟩
theorem BOk.and {r : List Expr} (hK : X.K = Z.K) (ha : EOk X Z xo W n a f) (hb : BOk X Z xo W n (.BoolOp .And (b :: r) pos) g) :
    BOk X Z xo W n (.BoolOp .And (a :: b :: r) pos) (fun env h => (f env h).bind fun x h => match D.tru h x with
    | some true => g env h
    | some false => .ok x h
    | none => .err) := by
  refine ⟨PE.imp (pe_andT ha.pe hb.pe) fun σ H Q ⟨S, env, e, i, q⟩ => ?_, ⟨fun whole pins s σ H Q I w => (pw_and ha.pt hb.pt).run whole pins s σ H Q I ?_⟩⟩
  · subst e
    refine ⟨S, env, rfl, i, (Go.bind (Rel := relD Z) q).mono fun v H1 ⟨d, S1, x, e, r1, q1⟩ => ?_⟩
    subst e
    cases h : D.tru S1.h d with
    | none => rw [h] at q1; exact q1.elim
    | some c =>
      rw [h] at q1
      refine ⟨c, tru_ok hK x.ok r1 h, ?_⟩
      cases c with
      | true => exact ⟨S1, env, rfl, i.nx x, q1⟩
      | false => exact Go.val (Rel := relD Z) q1 x.ok r1
  · obtain ⟨S, env, e, i, q⟩ := w
    subst e
    have q' : Go Z W n σ relB S ((f env S.h).tru.bind fun t h => if t then (g env h).tru else .ok false h) Q := by
      dsimp only at q ⊢
      cases h1 : f env S.h with
      | ok d h =>
        rw [h1] at q
        have q2 : Go Z W n σ relB S (R.tru (match D.tru h d with
          | some true => g env h
          | some false => .ok d h
          | none => .err)) Q := q
        show Go Z W n σ relB S ((ofO (D.tru h d) h).bind fun t h => if t then (g env h).tru else .ok false h) Q
        cases h2 : D.tru h d with
        | none => rw [h2] at q2; exact q2
        | some c =>
          rw [h2] at q2
          cases c with
          | true => exact q2
          | false =>
            have q3 : Go Z W n σ relB S (ofO (D.tru h d) h) Q := q2
            rw [h2] at q3
            exact q3
      | exc c x h => rw [h1] at q; exact q
      | err => rw [h1] at q; exact q
    refine ⟨S, env, rfl, i, (Go.bind (Rel := relB) q').mono fun v H1 ⟨d, S1, x, e, r1, q1⟩ => ?_⟩
    subst e
    cases r1
    cases v with
    | true => exact ⟨S1, env, rfl, i.nx x, q1⟩
    | false => exact Go.val (Rel := relB) q1 x.ok rfl
theorem BOk.or {r : List Expr} (hK : X.K = Z.K) (ha : EOk X Z xo W n a f) (hb : BOk X Z xo W n (.BoolOp .Or (b :: r) pos) g) :
    BOk X Z xo W n (.BoolOp .Or (a :: b :: r) pos) (fun env h => (f env h).bind fun x h => match D.tru h x with
    | some false => g env h
    | some true => .ok x h
    | none => .err) := by
  refine ⟨PE.imp (pe_orT ha.pe hb.pe) fun σ H Q ⟨S, env, e, i, q⟩ => ?_, ⟨fun whole pins s σ H Q I w => (pw_or ha.pt hb.pt).run whole pins s σ H Q I ?_⟩⟩
  · subst e
    refine ⟨S, env, rfl, i, (Go.bind (Rel := relD Z) q).mono fun v H1 ⟨d, S1, x, e, r1, q1⟩ => ?_⟩
    subst e
    cases h : D.tru S1.h d with
    | none => rw [h] at q1; exact q1.elim
    | some c =>
      rw [h] at q1
      refine ⟨c, tru_ok hK x.ok r1 h, ?_⟩
      cases c with
      | false => exact ⟨S1, env, rfl, i.nx x, q1⟩
      | true => exact Go.val (Rel := relD Z) q1 x.ok r1
  · obtain ⟨S, env, e, i, q⟩ := w
    subst e
    have q' : Go Z W n σ relB S ((f env S.h).tru.bind fun t h => if t then .ok true h else (g env h).tru) Q := by
      dsimp only at q ⊢
      cases h1 : f env S.h with
      | ok d h =>
        rw [h1] at q
        have q2 : Go Z W n σ relB S (R.tru (match D.tru h d with
          | some false => g env h
          | some true => .ok d h
          | none => .err)) Q := q
        show Go Z W n σ relB S ((ofO (D.tru h d) h).bind fun t h => if t then .ok true h else (g env h).tru) Q
        cases h2 : D.tru h d with
        | none => rw [h2] at q2; exact q2
        | some c =>
          rw [h2] at q2
          cases c with
          | false => exact q2
          | true =>
            have q3 : Go Z W n σ relB S (ofO (D.tru h d) h) Q := q2
            rw [h2] at q3
            exact q3
      | exc c x h => rw [h1] at q; exact q
      | err => rw [h1] at q; exact q
    refine ⟨S, env, rfl, i, (Go.bind (Rel := relB) q').mono fun v H1 ⟨d, S1, x, e, r1, q1⟩ => ?_⟩
    subst e
    cases r1
    cases v with
    | false => exact ⟨S1, env, rfl, i.nx x, q1⟩
    | true => exact Go.val (Rel := relB) q1 x.ok rfl
/-! ### chains of comparisons -/
/-- the rest of a chain behind a value -/
structure ChOk (X : Cx) (Z : Ad) (xo : Option Xo) (W : WX) (n : Nat) (os : List CmpOp) (es : List Expr) (f : Env → D → Mem → R D) : Prop where
  ch : ∀ (pos : Pos) (pins : List (Addr × Obj)) (s : Shared) (σ : L2.St) (H : Hp) (Q : VK) (v : V) (u : Value), L2.Inv X pins σ H s → RelV v u → (∃ S env d, S.H = H ∧ In Z xo n S env σ ∧ VD Z S.r S.F d v ∧ Go Z W n σ (relD Z) S (f env d S.h) Q) →
    wpAny (model X.prog X.w) X.A (compareChain pos u os (evalEach es X.env)) (EP X pins σ Q) X.xe s
  te : ∀ (pos : Pos) (pins : List (Addr × Obj)) (s : Shared) (σ : L2.St) (H : Hp) (Q : Bool → Hp → Prop) (v : V) (u : Value), L2.Inv X pins σ H s → RelV v u → (∃ S env d, S.H = H ∧ In Z xo n S env σ ∧ VD Z S.r S.F d v ∧ Go Z W n σ relB S (f env d S.h).tru Q) →
    wpAny (model X.prog X.w) X.A (testChain pos u os (evalEach es X.env)) (TP X pins σ Q) X.xe s
/-- one comparison of a chain -/
def chk (o : CmpOp) (f : Env → Mem → R D) (k : Env → D → Mem → R D) : Env → D → Mem → R D := fun env x h => (f env h).bind fun y h => match cmp o h x y with
  | some true => k env y h
  | some false => .ok (.a (.bl false)) h
  | none => .err
theorem ChOk.one {o : CmpOp} (hK : X.K = Z.K) (hu : X.A.units + 65 < cLine) (ha : EOk X Z xo W n a f) : ChOk X Z xo W n [o] [a] (chk o f fun _ _ h => .ok (.a (.bl true)) h) := by
  refine ⟨fun pos pins s σ H Q v u I r ⟨S, env, d, e, i, rd, q⟩ => ?_, fun pos pins s σ H Q v u I r ⟨S, env, d, e, i, rd, q⟩ => ?_⟩
  · subst e
    refine chain_last (thn (ha.pe.run pins s σ S.H (fun y H2 => rCmp X.K o v y H2 Q) I ⟨S, env, rfl, i, (Go.bind (Rel := relD Z) q).mono fun v2 H2 ⟨d2, S2, x2, e, r2, q2⟩ => ?_⟩) fun u2 s2 ⟨y, H2, I2, ry, q2⟩ => op_cmp hu o pins s2 σ H2 v y u u2 Q I2 r ry q2)
    subst e
    rw [hK]
    cases h : MP.cmp o S2.h d d2 with
    | none => rw [h] at q2; exact q2.elim
    | some c =>
      rw [h] at q2
      refine cmp_ok x2.ok (VD.nx x2 rd) r2 h ?_
      cases c with
      | true => exact Go.val (Rel := relD Z) q2 x2.ok (.bl _)
      | false => exact Go.val (Rel := relD Z) q2 x2.ok (.bl _)
  · subst e
    have q' : Go Z W n σ relB S ((f env S.h).bind fun y h => ofO (MP.cmp o h d y) h) Q := by
      unfold chk at q
      cases h1 : f env S.h with
      | ok y h =>
        rw [h1] at q
        have q2 : Go Z W n σ relB S (R.tru (match MP.cmp o h d y with
          | some true => .ok (.a (.bl true)) h
          | some false => .ok (.a (.bl false)) h
          | none => .err)) Q := q
        show Go Z W n σ relB S (MP.ofO (MP.cmp o h d y) h) Q
        cases h2 : MP.cmp o h d y with
        | none => rw [h2] at q2; exact q2
        | some c =>
          rw [h2] at q2
          cases c <;> exact q2
      | exc c x h => rw [h1] at q; exact q
      | err => rw [h1] at q; exact q
    refine test_last (thn (ha.pe.run pins s σ S.H (fun y H2 => rCmp X.K o v y H2 fun z H3 => ∃ k, z = .bl k ∧ Q k H3) I ⟨S, env, rfl, i, (Go.bind (Rel := relD Z) q').mono fun v2 H2 ⟨d2, S2, x2, e, r2, q2⟩ => ?_⟩) fun u2 s2 ⟨y, H2, I2, ry, q2⟩ =>
      thn (op_cmp hu o pins s2 σ H2 v y u u2 _ I2 r ry q2) fun z s3 ⟨z', H3, I3, rz, k, ek, q3⟩ => ?_)
    · subst e
      rw [hK]
      cases h : MP.cmp o S2.h d d2 with
      | none => rw [h] at q2; exact q2.elim
      | some c =>
        rw [h] at q2
        exact cmp_ok x2.ok (VD.nx x2 rd) r2 h ⟨c, rfl, Go.val (Rel := relB) q2 x2.ok rfl⟩
    · subst ek
      cases rz
      exact wpAny_truthy_bool ⟨H3, I3, q3⟩
theorem ChOk.more {o o' : CmpOp} {os : List CmpOp} {es : List Expr} {k : Env → D → Mem → R D} (hK : X.K = Z.K) (hu : X.A.units + 65 < cLine) (ha : EOk X Z xo W n a f) (hb : ChOk X Z xo W n (o' :: os) (b :: es) k) : ChOk X Z xo W n (o :: o' :: os) (a :: b :: es) (chk o f k) := by
  refine ⟨fun pos pins s σ H Q v u I r ⟨S, env, d, e, i, rd, q⟩ => ?_, fun pos pins s σ H Q v u I r ⟨S, env, d, e, i, rd, q⟩ => ?_⟩
  · subst e
    refine chain_link (thn (ha.pe.run pins s σ S.H (fun y H2 => rCmp X.K o v y H2 fun z H3 => ∃ t, z = .bl t ∧ if t = true then (∃ S' env' d', S'.H = H3 ∧ In Z xo n S' env' σ ∧ VD Z S'.r S'.F d' y ∧ Go Z W n σ (relD Z) S' (k env' d' S'.h) Q) else Q (.bl false) H3) I ⟨S, env, rfl, i, (Go.bind (Rel := relD Z) q).mono fun v2 H2 ⟨d2, S2, x2, e, r2, q2⟩ => ?_⟩) fun u2 s2 ⟨y, H2, I2, ry, q2⟩ =>
      thn (op_cmp hu o pins s2 σ H2 v y u u2 _ I2 r ry q2) fun z s3 ⟨z', H3, I3, rz, t, et, q3⟩ => ?_)
    · subst e
      rw [hK]
      cases h : MP.cmp o S2.h d d2 with
      | none => rw [h] at q2; exact q2.elim
      | some c =>
        rw [h] at q2
        refine cmp_ok x2.ok (VD.nx x2 rd) r2 h ⟨c, rfl, ?_⟩
        cases c with
        | true => exact ⟨S2, env, d2, rfl, i.nx x2, r2, q2⟩
        | false => exact Go.val (Rel := relD Z) q2 x2.ok (.bl _)
    · subst et
      cases rz
      refine wpAny_truthy_bool ?_
      cases t with
      | true => exact hb.ch pos pins s3 σ H3 Q y u2 I3 ry q3
      | false => exact ⟨.bl false, H3, I3, rfl, q3⟩
  · subst e
    have q' : Go Z W n σ relB S ((f env S.h).bind fun y h => (ofO (MP.cmp o h d y) h).bind fun t h => if t then (k env y h).tru else .ok false h) Q := by
      unfold chk at q
      cases h1 : f env S.h with
      | ok y h =>
        rw [h1] at q
        have q2 : Go Z W n σ relB S (R.tru (match MP.cmp o h d y with
          | some true => k env y h
          | some false => .ok (.a (.bl false)) h
          | none => .err)) Q := q
        show Go Z W n σ relB S ((MP.ofO (MP.cmp o h d y) h).bind fun t h => if t then (k env y h).tru else .ok false h) Q
        cases h2 : MP.cmp o h d y with
        | none => rw [h2] at q2; exact q2
        | some c =>
          rw [h2] at q2
          cases c <;> exact q2
      | exc c x h => rw [h1] at q; exact q
      | err => rw [h1] at q; exact q
    refine test_link (thn (ha.pe.run pins s σ S.H (fun y H2 => rCmp X.K o v y H2 fun z H3 => ∃ t, z = .bl t ∧ if t = true then (∃ S' env' d', S'.H = H3 ∧ In Z xo n S' env' σ ∧ VD Z S'.r S'.F d' y ∧ Go Z W n σ relB S' (k env' d' S'.h).tru Q) else Q false H3) I ⟨S, env, rfl, i, (Go.bind (Rel := relD Z) q').mono fun v2 H2 ⟨d2, S2, x2, e, r2, q2⟩ => ?_⟩) fun u2 s2 ⟨y, H2, I2, ry, q2⟩ =>
      thn (op_cmp hu o pins s2 σ H2 v y u u2 _ I2 r ry q2) fun z s3 ⟨z', H3, I3, rz, t, et, q3⟩ => ?_)
    · subst e
      rw [hK]
      cases h : MP.cmp o S2.h d d2 with
      | none => rw [h] at q2; exact q2.elim
      | some c =>
        rw [h] at q2
        refine cmp_ok x2.ok (VD.nx x2 rd) r2 h ⟨c, rfl, ?_⟩
        cases c with
        | true => exact ⟨S2, env, d2, rfl, i.nx x2, r2, q2⟩
        | false => exact Go.val (Rel := relB) q2 x2.ok rfl
    · subst et
      cases rz
      refine wpAny_truthy_bool ?_
      cases t with
      | true => exact hb.te pos pins s3 σ H3 Q y u2 I3 ry q3
      | false => exact ⟨H3, I3, q3⟩
theorem EOk.chn {o o' : CmpOp} {os : List CmpOp} {es : List Expr} {k : Env → D → Mem → R D} (ha : EOk X Z xo W n a f) (hb : ChOk X Z xo W n (o :: o' :: os) (b :: c :: es) k) (hm : lastMarks (o :: o' :: os) (b :: c :: es) = false) :
    EOk X Z xo W n (.Compare a (o :: o' :: os) (b :: c :: es) pos) (fun env h => (f env h).bind fun x h => k env x h) := by
  refine ⟨⟨fun pins s σ H Q I ⟨S, env, e, i, q⟩ => ?_⟩, ⟨fun pins s σ H Q I ⟨S, env, e, i, q⟩ => ?_⟩⟩
  · subst e
    refine Compare_chain (thn (ha.pe.run pins s σ S.H (fun v H1 => ∃ S' env' d', S'.H = H1 ∧ In Z xo n S' env' σ ∧ VD Z S'.r S'.F d' v ∧ Go Z W n σ (relD Z) S' (k env' d' S'.h) Q) I ⟨S, env, rfl, i, (Go.bind (Rel := relD Z) q).mono fun v H1 ⟨d, S1, x, e, r1, q1⟩ => ?_⟩) fun u s1 ⟨y, H1, I1, ry, q1⟩ => hb.ch pos pins s1 σ H1 Q y u I1 ry q1) hm
    subst e
    exact ⟨S1, env, d, rfl, i.nx x, r1, q1⟩
  · subst e
    dsimp only at q
    rw [R.tru_bind] at q
    refine isTrue_chain (thn (ha.pe.run pins s σ S.H (fun v H1 => ∃ S' env' d', S'.H = H1 ∧ In Z xo n S' env' σ ∧ VD Z S'.r S'.F d' v ∧ Go Z W n σ relB S' (k env' d' S'.h).tru Q) I ⟨S, env, rfl, i, (Go.bind (Rel := relD Z) q).mono fun v H1 ⟨d, S1, x, e, r1, q1⟩ => ?_⟩) fun u s1 ⟨y, H1, I1, ry, q1⟩ => hb.te pos pins s1 σ H1 Q y u I1 ry q1) hm
    subst e
    exact ⟨S1, env, d, rfl, i.nx x, r1, q1⟩
end
end MP
end
section
set_option Elab.async false
set_option linter.all false
set_option maxRecDepth 100000
set_option maxHeartbeats 2000000
/-! MP: subscripts, slices. -/
namespace MP
open PySem PySem.Spec L2
open PyProof.Rows hiding St
section
variable {X : Cx}
theorem ix_dic (hu : X.A.units + 1 < cLine) : IxR X (fun x y H Q => ∃ a v, x = .ref a ∧ DGet H a y (some v) ∧ Q v H) := by
  intro value slice pins s σ H x y v u Q I rx ry h hs
  obtain ⟨a, w', e, g, q⟩ := h
  subst e
  obtain rfl : v = Value.ref a := rx
  exact tail_any (dict_typeIs I g) PySem.F.slot_dict_getitem.lookup (d_getItem hu I g ry fun w2 s2 I2 r2 => ⟨w', H, I2, r2, q⟩) hs
end
section
variable {X : Cx} {Z : Ad} {xo : Option Xo} {n : Nat} {W : WX} {a b c e : Expr} {f g k : Env → Mem → R D} {pos : Pos}
theorem VAs.atI {F : Hp} {xs : List A} {vs : List V} {i : Int} {j : Nat} {x : A} (r : VAs Z F xs vs) (h : idxN xs.length i = some j) (e : xs[j]? = some x) : ∃ v, L2.atI vs i = some v ∧ VA Z F x v := by
  obtain ⟨v, h1, h2⟩ := r.get e
  refine ⟨v, ?_, h2⟩
  show (L2.ixN vs.length i).bind _ = _
  rw [← r.length]
  rw [show L2.ixN xs.length i = some j from h]
  exact h1
theorem plain_of {b : Expr} (h : ∀ l h p, b ≠ .Slice l h none p) : PlainIx b := by
  intro o i
  cases b with
  | Slice l u st p =>
    cases st with
    | none => exact absurd rfl (h l u p)
    | some st => rfl
  | _ => rfl
def rIdx (K : PySem.W.Frag) : R2 := fun x y H Q => (rIxL K x y H Q ∨ rIxT K x y H Q) ∨ ∃ a v, x = .ref a ∧ DGet H a y (some v) ∧ Q v H
theorem idx_ok {S : Sa} (ok : S.Ok Z) {d1 d2 d : D} {v1 v2 : V} (r1 : VD Z S.r S.F d1 v1) (r2 : VD Z S.r S.F d2 v2) (e : idx S.h d1 d2 = some d) {Q : VK} (q : ∀ v, VD Z S.r S.F d v → Q v S.H) : rIdx Z.K v1 v2 S.H Q := by
  have at_ : ∀ {xs : List A} {vs : List V} {i : Int}, VAs Z S.F xs vs → ((idxN xs.length i).bind fun j => (xs[j]?).map D.a) = some d → ∃ v, L2.atI vs i = some v ∧ VD Z S.r S.F d v := fun {xs vs i} r h => by
    cases h1 : idxN xs.length i with
    | none => rw [h1] at h; cases h
    | some j =>
      rw [h1] at h
      have h' : (xs[j]?).map D.a = some d := h
      cases h2 : xs[j]? with
      | none => rw [h2] at h'; cases h'
      | some x =>
        rw [h2] at h'
        cases h'
        exact r.atI h1 h2
  unfold idx at e
  split at e
  · cases r2
    cases r1 with
    | tup h1 h2 =>
      obtain ⟨v, g1, g2⟩ := at_ h2 e
      exact .inl (.inr ⟨_, _, _, v, rfl, rfl, SqT.of (ok.le _ _ h1), g1, q v g2⟩)
  · cases r2
    cases r1 with
    | lst h1 h2 =>
      obtain ⟨v, g1, g2⟩ := at_ h2 e
      exact .inl (.inl ⟨_, _, _, v, rfl, rfl, SqL.of (ok.le _ _ h1), g1, q v g2⟩)
  · rename_i ns i
    cases r2
    obtain ⟨p, as, e1, e2, e3⟩ := r1
    subst e1
    cases h1 : idxN ns.length i with
    | none => rw [h1] at e; cases e
    | some j =>
      rw [h1] at e
      have e' : (ns[j]?).map D.ref = some d := e
      cases h2 : ns[j]? with
      | none => rw [h2] at e'; cases e'
      | some m =>
        rw [h2] at e'
        cases e'
        have hl : ns.length = as.length := by
          have := congrArg List.length e3
          simpa using this
        have h3 : (ns.map fun n => S.r[n]?)[j]? = some (S.r[m]?) := by rw [List.getElem?_map, h2]; rfl
        rw [e3, List.getElem?_map] at h3
        cases h4 : as[j]? with
        | none => rw [h4] at h3; cases h3
        | some p' =>
          rw [h4] at h3
          have h5 : S.r[m]? = some p' := (Option.some.inj h3).symm
          refine .inl (.inl ⟨p, as.map V.ref, i, .ref p', rfl, rfl, SqL.of (ok.le _ _ e2), ?_, q _ ⟨p', rfl, h5⟩⟩)
          show (L2.ixN (as.map V.ref).length i).bind _ = _
          rw [List.length_map, ← hl, show L2.ixN ns.length i = some j from h1]
          show (as.map V.ref)[j]? = _
          rw [List.getElem?_map, h4]
          rfl
  · rename_i m i
    obtain ⟨p, e1, e2⟩ := r1
    subst e1
    split at e
    · rename_i xs hm
      split at e
      · cases r2
        obtain ⟨o, h1, ⟨vs, h2, h3⟩, _⟩ := ok.at' hm e2
        subst h2
        obtain ⟨v, g1, g2⟩ := at_ h3 e
        exact .inl (.inl ⟨_, _, _, v, rfl, rfl, SqL.of h1, g1, q v g2⟩)
      · cases e
    · rename_i kvs hm
      obtain ⟨o, h1, ⟨vs, h2, h3⟩, _⟩ := ok.at' hm e2
      subst h2
      cases hk : key? i with
      | none => rw [hk] at e; cases e
      | some k =>
        rw [hk] at e
        have e' : (dget kvs k).map D.a = some d := e
        have gg := KVA.get k h3
        cases hd : dget kvs k with
        | none => rw [hd] at e'; cases e'
        | some z =>
          rw [hd] at e' gg
          cases e'
          obtain ⟨v, g1, g2⟩ := gg
          refine .inr ⟨p, v, rfl, ?_, q v g2⟩
          rw [keyV hk r2, ← g1]
          exact DGet.k h1
    · rename_i kvs hm
      obtain ⟨o, h1, ⟨vs, h2, h3⟩, _⟩ := ok.at' hm e2
      subst h2
      cases hk : tkey? i with
      | none => rw [hk] at e; cases e
      | some k =>
        rw [hk] at e
        have e' : (dget kvs k).map D.a = some d := e
        have gg := KVA.get k h3
        cases hd : dget kvs k with
        | none => rw [hd] at e'; cases e'
        | some z =>
          rw [hd] at e' gg
          cases e'
          obtain ⟨v, g1, g2⟩ := gg
          obtain ⟨b, eb, hb⟩ := tkeyV ok hk r2
          refine .inr ⟨p, v, rfl, ?_, q v g2⟩
          rw [eb, ← g1]
          exact DGet.t h1 hb
    · cases e
  · cases e
/-- o[i] -/
theorem EOk.idx (hK : X.K = Z.K) (hu : X.A.units + 65 < cLine) (ha : EOk X Z xo W n a f) (hb : EOk X Z xo W n b g) (hp : ∀ l h p, b ≠ .Slice l h none p) :
    EOk X Z xo W n (.Subscript a b pos) (fun env h => (f env h).bind fun x h => (g env h).bind fun i h => ofO (idx h x i) h) := by
  refine EOk.of hK (e_op (r := rIdx X.K) (fun S σ d1 d2 v1 v2 Q ok hn r1 r2 q => ?_) (pe_ix ((ix_list.or ix_tup).or (ix_dic (by omega))) ha.pe hb.pe (plain_of hp))) (fun _ => rfl)
  obtain ⟨d, e, q⟩ := q.ofO
  rw [hK]
  exact idx_ok ok r1 r2 e fun v r => Go.val q ok r
/-- a slice's bound -/
structure POk (X : Cx) (Z : Ad) (xo : Option Xo) (W : WX) (n : Nat) (e : Option Expr) (f : Env → Mem → R (Option Int)) : Prop where
  po : PO X e (tG Z xo W n relO f)
theorem PO.imp {e : Option Expr} {t t' : St → Hp → (Option Int → Hp → Prop) → Prop} (h : PO X e t) (k : ∀ σ H Q, t' σ H Q → t σ H Q) : PO X e t' := ⟨fun pins s σ H Q I w => h.run pins s σ H Q I (k σ H Q w)⟩
theorem POk.none : POk X Z xo W n none (fun _ h => .ok none h) := ⟨PO.imp po_none fun σ H Q ⟨S, env, e, i, q⟩ => by
  subst e
  exact Go.val q i.ok rfl⟩
theorem POk.some (ha : EOk X Z xo W n a f) : POk X Z xo W n (some a) (fun env h => (f env h).bind fun x h => match x with
    | .a (.int i) => .ok (some i) h
    | _ => .err) := ⟨PO.imp (po_some ha.pe) fun σ H Q ⟨S, env, e, i, q⟩ => by
  subst e
  refine ⟨S, env, rfl, i, (Go.bind (Rel := relD Z) q).mono fun v H1 ⟨d, S1, x, e, r1, q1⟩ => ?_⟩
  subst e
  cases d with
  | a y =>
    cases y with
    | int i =>
      cases r1
      exact ⟨i, rfl, Go.val q1 x.ok rfl⟩
    | _ => exact q1.elim
  | _ => exact q1.elim⟩
def rSlc (K : PySem.W.Frag) : V → Option Int → Option Int → Hp → VK → Prop := fun x lo hi H Q => rSlL K x lo hi H Q ∨ rSlA K x lo hi H Q
theorem VAs.cut {F : Hp} {xs : List A} {vs : List V} (r : VAs Z F xs vs) (lo hi : Option Int) : VAs Z F (MP.cut xs lo hi) (L2.cutV vs lo hi) := by
  unfold MP.cut L2.cutV
  rw [← r.length]
  exact (r.drop _).take _
theorem EOk.slc {m : Bool} {lo hi : Option Expr} {fl fh : Env → Mem → R (Option Int)} {p2 : Pos} (hK : X.K = Z.K) (ha : EOk X Z xo W n a f) (hl : POk X Z xo W n lo fl) (hh : POk X Z xo W n hi fh) :
    EOk X Z xo W n (.Subscript a (.Slice lo hi none p2) pos) (fun env h => (f env h).bind fun x h => (fl env h).bind fun lo h => (fh env h).bind fun hi h => match slc h x lo hi with
      | some z => cel m z h
      | none => .err) := by
  refine EOk.of hK (PE.imp (pe_slice (sl_list.or sl_tupA) ha.pe hl.po hh.po) fun σ H Q ⟨S, env, e, i, q⟩ => ?_) (fun _ => rfl)
  subst e
  refine ⟨S, env, rfl, i, (Go.bind (Rel := relD Z) q).mono fun v H1 ⟨d, S1, x, e, r1, q1⟩ => ?_⟩
  subst e
  refine ⟨S1, env, rfl, i.nx x, (Go.bind (Rel := relO) q1).mono fun v2 H2 ⟨d2, S2, x2, e, r2, q2⟩ => ?_⟩
  subst e
  cases r2
  refine ⟨S2, env, rfl, (i.nx x).nx x2, (Go.bind (Rel := relO) q2).mono fun v3 H3 ⟨d3, S3, x3, e, r3, q3⟩ => ?_⟩
  subst e
  cases r3
  have rd := VD.nx x3 (VD.nx x2 r1)
  rw [hK]
  unfold MP.slc at q3
  cases e1 : d.rd S3.h with
  | none => rw [e1] at q3; exact q3.elim
  | some y =>
    rw [e1] at q3
    have w := rd_view x3.ok rd e1
    cases y with
    | tup xs =>
      obtain ⟨p, vs, ev, h1, h2⟩ := w.tup
      subst ev
      refine .inr ⟨p, vs, rfl, SqT.of (x3.ok.le _ _ h1), fun hw => ?_, fun hw => Go.celT q3 x3.ok (h2.cut _ _)⟩
      have ew : MP.cut xs v2 v3 = xs := by
        unfold MP.cut
        rw [← h2.length] at hw
        rw [hw.1, hw.2]
        simp
      have q4 : Go Z W n σ (relD Z) S3 (cel m (.tup (MP.cut xs v2 v3)) S3.h) Q := q3
      rw [ew] at q4
      exact Go.celA q4 x3.ok (fun _ e => nomatch e) (.tup h1 h2)
    | lst xs =>
      obtain ⟨p, vs, ev, h1, h2⟩ := w.lst x3.ok
      subst ev
      exact .inl ⟨p, vs, rfl, SqL.of h1, Go.celL q3 x3.ok (h2.cut _ _)⟩
    | _ => exact q3.elim
end
end MP
end
section
set_option Elab.async false
set_option linter.all false
set_option maxRecDepth 100000
set_option maxHeartbeats 2000000
/-! MP: sorted. -/
namespace MP
open PySem PySem.Spec L2
open PySem.W (EachIs AllAlike Sortable SortsAt dataKind sortVals dataLe dataLt alike alikeAll TotalLe sameRank)
open PyProof.Rows hiding St
/-! ### one sorted list -/
section
variable {α : Type} (le : α → α → Bool)
def insB (x : α) : List α → List α
  | [] => [x]
  | y :: r => if le x y then x :: y :: r else y :: insB x r
def sortB : List α → List α
  | [] => []
  | x :: r => insB le x (sortB r)
variable {le : α → α → Bool}
theorem insB_mem {x z : α} : ∀ {l : List α}, z ∈ insB le x l ↔ z = x ∨ z ∈ l
  | [] => by simp [insB]
  | y :: r => by
    unfold insB
    split
    · simp
    · simp only [List.mem_cons, insB_mem (l := r)]
      constructor
      · rintro (h | h | h) <;> simp [h]
      · rintro (h | h | h) <;> simp [h]
theorem sortB_mem {z : α} : ∀ {l : List α}, z ∈ sortB le l ↔ z ∈ l
  | [] => by simp [sortB]
  | x :: r => by simp [sortB, insB_mem, sortB_mem (l := r)]
theorem insB_sorted (h : TotalLe le) (x : α) : ∀ {l : List α}, l.Pairwise (fun a b => le a b = true) → (insB le x l).Pairwise (fun a b => le a b = true)
  | [], _ => by simp [insB]
  | y :: r, p => by
    unfold insB
    rw [List.pairwise_cons] at p
    split
    · rename_i hxy
      refine List.pairwise_cons.mpr ⟨fun z hz => ?_, List.pairwise_cons.mpr p⟩
      rcases List.mem_cons.mp hz with e | hz
      · rw [e]; exact hxy
      · exact h.trans _ _ _ hxy (p.1 z hz)
    · rename_i hxy
      have hyx : le y x = true := (h.total x y).resolve_left hxy
      refine List.pairwise_cons.mpr ⟨fun z hz => ?_, insB_sorted h x p.2⟩
      rcases insB_mem.mp hz with e | hz
      · rw [e]; exact hyx
      · exact p.1 z hz
theorem sortB_sorted (h : TotalLe le) : ∀ (l : List α), (sortB le l).Pairwise (fun a b => le a b = true)
  | [] => by simp [sortB]
  | x :: r => insB_sorted h x (sortB_sorted h r)
theorem insB_filter (h : TotalLe le) (c x : α) : ∀ {l : List α}, (insB le x l).filter (sameRank le c) = (x :: l).filter (sameRank le c)
  | [] => rfl
  | y :: r => by
    unfold insB
    split
    · rfl
    · rename_i hxy
      have ih := insB_filter h c x (l := r)
      simp only [List.filter_cons] at ih ⊢
      rw [ih]
      by_cases h1 : sameRank le c x = true
      · by_cases h2 : sameRank le c y = true
        · exfalso
          unfold sameRank at h1 h2
          rw [Bool.and_eq_true] at h1 h2
          exact hxy (h.trans _ _ _ h1.2 h2.1)
        · simp [h1, h2]
      · by_cases h2 : sameRank le c y = true
        · simp [h1, h2]
        · simp [h1, h2]
theorem sortB_filter (h : TotalLe le) (c : α) : ∀ (l : List α), (sortB le l).filter (sameRank le c) = l.filter (sameRank le c)
  | [] => rfl
  | x :: r => by
    unfold sortB
    rw [insB_filter h, List.filter_cons, List.filter_cons, sortB_filter h c r]
theorem sortB_eq (h : TotalLe le) (l : List α) : sortB le l = l.mergeSort le := PySem.W.sort_unique h (sortB_sorted h l) fun c => sortB_filter h c l
theorem insB_congr {r s : α → α → Bool} (x : α) : ∀ {l : List α}, (∀ b ∈ l, r x b = s x b) → insB r x l = insB s x l
  | [], _ => rfl
  | y :: t, h => by
    unfold insB
    rw [h y List.mem_cons_self, insB_congr x fun b hb => h b (List.mem_cons_of_mem _ hb)]
theorem sortB_congr {r s : α → α → Bool} : ∀ {l : List α}, (∀ a ∈ l, ∀ b ∈ l, r a b = s a b) → sortB r l = sortB s l
  | [], _ => rfl
  | x :: t, h => by
    unfold sortB
    rw [sortB_congr fun a ha b hb => h a (List.mem_cons_of_mem _ ha) b (List.mem_cons_of_mem _ hb)]
    exact insB_congr x fun b hb => h x List.mem_cons_self b (List.mem_cons_of_mem _ (sortB_mem.mp hb))
end
theorem sortA_eq : ∀ l : List A, sortA l = sortB (fun x y => !A.lt y x) l
  | [] => rfl
  | x :: r => by
    unfold sortA sortB
    rw [sortA_eq r]
    generalize sortB _ r = m
    induction m with
    | nil => rfl
    | cons y t ih =>
      unfold insA insB
      rw [ih]
      cases A.lt y x <;> rfl
/-! ### the order of data -/
mutual
theorem alike_ok : ∀ (x y : A) (n m : Nat), A.low x n = true → A.low y m = true → alike (A.pd x) (A.pd y) = A.alike x y
  | .non, y, _, _, _, h => by cases y <;> simp_all [A.pd, alike, A.alike, A.low]
  | .bl a, y, _, _, _, h => by cases y <;> simp_all [A.pd, alike, A.alike, A.low]
  | .int a, y, _, _, _, h => by cases y <;> simp_all [A.pd, alike, A.alike, A.low]
  | .str a, y, _, _, _, h => by cases y <;> simp_all [A.pd, alike, A.alike, A.low]
  | .tup xs, y, n, m, h0, h => by
    cases n with
    | zero => simp [A.low] at h0
    | succ n =>
      cases y with
      | tup ys =>
        cases m with
        | zero => simp [A.low] at h
        | succ m =>
          simp only [A.pd, alike, A.alike]
          exact alikes_ok xs ys n m (by simpa [A.low] using h0) (by simpa [A.low] using h)
      | _ => simp_all [A.pd, alike, A.alike, A.low]
  | .lst xs, y, n, m, h0, h => by
    cases n with
    | zero => simp [A.low] at h0
    | succ n =>
      cases y with
      | lst ys =>
        cases m with
        | zero => simp [A.low] at h
        | succ m =>
          simp only [A.pd, alike, A.alike]
          exact alikes_ok xs ys n m (by simpa [A.low] using h0) (by simpa [A.low] using h)
      | _ => simp_all [A.pd, alike, A.alike, A.low]
  | .ob _ _, y, _, _, h, _ => by simp [A.low] at h
  | .scr _, y, _, _, h, _ => by simp [A.low] at h
theorem alikes_ok : ∀ (xs ys : List A) (n m : Nat), A.lows xs n = true → A.lows ys m = true → alikeAll (A.pds xs) (A.pds ys) = A.alikes xs ys
  | [], ys, _, _, _, _ => by cases ys <;> simp [A.pds, alikeAll, A.alikes]
  | _ :: _, [], _, _, _, _ => by simp [A.pds, alikeAll, A.alikes]
  | x :: xs, y :: ys, n, m, h, h' => by
    have a : A.low x n = true ∧ A.lows xs n = true := by simpa [A.lows] using h
    have b : A.low y m = true ∧ A.lows ys m = true := by simpa [A.lows] using h'
    simp only [A.pds, alikeAll, A.alikes]
    rw [alike_ok x y n m a.1 b.1, alikes_ok xs ys n m a.2 b.2]
end
mutual
theorem lt_ok : ∀ (x y : A) (n m : Nat), A.low x n = true → A.low y m = true → A.alike x y = true → dataLt (A.pd x) (A.pd y) = A.lt x y
  | .non, y, _, _, _, h, q => by
    cases y <;> simp_all [A.alike]
    rfl
  | .bl a, y, _, _, _, h, q => by
    cases y <;> simp_all [A.alike, A.pd, A.lt]
    rename_i b
    rw [PySem.W.dataLt_bool]
    cases a <;> cases b <;> decide
  | .int a, y, _, _, _, h, q => by
    cases y <;> simp_all [A.alike, A.pd, A.lt]
    exact PySem.W.dataLt_int _ _
  | .str a, y, _, _, _, h, q => by
    cases y with
    | str b => exact PySem.W.dataLt_str a b
    | _ => simp [A.alike] at q
  | .tup xs, y, n, m, h0, h, q => by
    cases n with
    | zero => simp [A.low] at h0
    | succ n =>
      cases y with
      | tup ys =>
        cases m with
        | zero => simp [A.low] at h
        | succ m =>
          simp only [A.pd, A.lt]
          rw [PySem.W.dataLt_tuple]
          exact lts_ok xs ys n m (by simpa [A.low] using h0) (by simpa [A.low] using h) (by simpa [A.alike] using q)
      | _ => simp_all [A.alike]
  | .lst xs, y, n, m, h0, h, q => by
    cases n with
    | zero => simp [A.low] at h0
    | succ n =>
      cases y with
      | lst ys =>
        cases m with
        | zero => simp [A.low] at h
        | succ m =>
          simp only [A.pd, A.lt]
          rw [PySem.W.dataLt_list]
          exact lts_ok xs ys n m (by simpa [A.low] using h0) (by simpa [A.low] using h) (by simpa [A.alike] using q)
      | _ => simp_all [A.alike]
  | .ob _ _, y, _, _, h, _, _ => by simp [A.low] at h
  | .scr _, y, _, _, h, _, _ => by simp [A.low] at h
theorem lts_ok : ∀ (xs ys : List A) (n m : Nat), A.lows xs n = true → A.lows ys m = true → A.alikes xs ys = true → PyProof.Rows.lexLt itemOrd (PySem.W.keyToksAll (A.pds xs)) (PySem.W.keyToksAll (A.pds ys)) = A.lts xs ys
  | [], [], _, _, _, _, _ => by decide
  | [], y :: ys, _, _, _, _, _ => by
    simp only [A.pds, A.lts, PySem.W.keyToksAll]
    rw [PySem.W.lex_atom (by decide)]
    rfl
  | x :: xs, [], _, _, _, _, _ => by
    simp only [A.pds, A.lts, PySem.W.keyToksAll]
    rw [PySem.W.lex_atom (by decide)]
    rfl
  | x :: xs, y :: ys, n, m, h, h', q => by
    have a : A.low x n = true ∧ A.lows xs n = true := by simpa [A.lows] using h
    have b : A.low y m = true ∧ A.lows ys m = true := by simpa [A.lows] using h'
    have c : A.alike x y = true ∧ A.alikes xs ys = true := by simpa [A.alikes] using q
    have hal : alike (A.pd x) (A.pd y) = true := by rw [alike_ok x y n m a.1 b.1]; exact c.1
    have he := eqv_ok x y n m a.1 b.1
    simp only [A.pds, A.lts]
    cases e : A.eqv x y with
    | true =>
      rw [e] at he
      rw [PySem.W.dataLt_all_yes hal he]
      exact lts_ok xs ys n m a.2 b.2 c.2
    | false =>
      rw [e] at he
      rw [PySem.W.dataLt_all_no hal he]
      exact lt_ok x y n m a.1 b.1 c.1
end
/-! ### sorted of a list or a tuple -/
theorem dataLe_eq' {β : Type} (k : β → PyData) (a b : β) : dataLe false k a b = !dataLt (k b) (k a) := rfl
theorem dataLe_total {β : Type} (k : β → PyData) : TotalLe (dataLe false k) := PySem.W.sortLe_total _ _ _
section
variable {prog : Program} {w : World} {A : Around} {E : Value → Shared → Prop} {s : Shared} {β : Type}
theorem sorted_seq {l : Addr} {T : String} {o : Obj} {vs : List Value} {m : Nat} {bs : List β} {R : Value → β → Prop} {enc : β → PyData} {Q : Value → Shared → Prop} (hT : T = "list" ∨ T = "tuple") (ho : s.heap.get? l = some o) (hc : o.cls = .type T) (hd : o.data = .seq vs.toArray m)
    (e : EachIs R vs bs) (er : EachIs (fun v b => ∃ as, Reads s.heap v (enc b) as) vs bs) (hal : AllAlike (bs.map enc)) (hk : Sortable (bs.map enc)) (hL : vs.length ≤ sizeLine)
    (hu : ∀ b, b ∈ bs → A.units + 2 + (enc b).depth < cLine)
    (h : ∀ (out : List Value) (h1 h' : Heap) (a : Addr) (n : Nat), out.length = vs.length → EachIs R out (bs.mergeSort (dataLe false enc)) → (∀ b u, s.heap.get? b = some u → h1.get? b = some u) → (∀ b u, h1.get? b = some u → h'.get? b = some u) → h1.objs.size ≤ a → h'.get? a = some (seqObj "list" (List.toArray out) n) → Q (.ref a) { s with heap := h' }) :
    wpAny (model prog w) A (call (.builtin "sorted") [.ref l]) Q E s := by
  have items : vs.toArray.toList = vs := by simp
  refine call_function_entry_kw kind_sorted plain_sorted entry_sorted (args_sorted1 _) ?_
  unfold Builtin.«sorted»
  refine wpAny_bind (m := checkCount "sorted" 1 1 _) (wpAny_pure ?_)
  refine wpAny_bind (wpAny_collect_seq l hT ho hc hd (fun h1 k1 => ?_) (by simpa using hL))
  rw [items]
  refine wpAny_bind (wpAny_newList ?_ hL)
  have at1 : (h1.push (seqObj "list" vs.toArray 0)).get? h1.objs.size = some (seqObj "list" vs.toArray 0) := Heap.get?_push_size _ rfl
  have ne1 : ∀ {b : Addr} {u : Obj}, s.heap.get? b = some u → b ≠ h1.objs.size := fun q => Nat.ne_of_lt (Heap.lt_size (k1 _ _ q))
  have old1 : ∀ b u, s.heap.get? b = some u → (h1.push (seqObj "list" vs.toArray 0)).get? b = some u := fun b u q => Heap.get?_push_of_some _ (k1 b u q)
  refine wpAny_bind (wpAny_holding (wpAny_call_entry_kw slot_list_sort ⟨_, at1, rfl⟩ entry_list_sort ?body (args_list_sort _)))
  have er1 : EachIs (fun v b => ∃ as, Reads (PySem.W.sortingHeap (h1.push (seqObj "list" vs.toArray 0)) h1.objs.size vs) v (enc b) as) vs bs := er.mono fun _ _ ⟨as, r⟩ => ⟨as, PyProof.Rows.Reads.keeps (fun b u q => PySem.W.sortingHeap_old (ne1 q) (old1 b u q)) r⟩
  refine PySem.W.list_sort_vals (s := { s with heap := h1.push (seqObj "list" vs.toArray 0) }) at1 (SortsAt.data (s := { s with heap := PySem.W.sortingHeap (h1.push (seqObj "list" vs.toArray 0)) h1.objs.size vs }) (PySem.W.each_map (R := fun v d => ∃ as, Reads _ v d as) enc er1) hal hk (PySem.W.bound_map hu)) hL ?_
  obtain ⟨n', hat⟩ := sortedHeap_at (vs := vs) (out := (sortVals (dataKind (PySem.W.sortingHeap (h1.push (seqObj "list" vs.toArray 0)) h1.objs.size vs) (bs.map enc)) false vs vs).toArray) at1
  refine ⟨_, rfl, wpAny_pure ⟨_, rfl, h _ h1 _ h1.objs.size n' (PySem.W.sortVals_length false rfl) (PySem.W.sortVals_data false e er1 hal) k1 (fun b u q => ?_) (Nat.le_refl _) hat⟩⟩
  rw [sortedHeap_old (Nat.ne_of_lt (Heap.lt_size q)) (by rw [size_push']; exact Nat.lt_succ_of_lt (Heap.lt_size q))]
  exact Heap.get?_push_of_some _ q
end
end MP
end
section
set_option Elab.async false
set_option linter.all false
set_option maxRecDepth 100000
set_option maxHeartbeats 2000000
/-! MP: built-in functions. -/
namespace MP
open PySem PySem.Spec L2
open PySem.W (EachIs AllAlike Sortable SortsAt dataKind sortVals dataLe dataLt alike alikeAll TotalLe sameRank)
open PyProof.Rows hiding St
section
variable {X : Cx}
/-- pairs of data and values -/
def prs (xs : List A) (vs : List V) : List (A × V) := xs.zip vs
def encP (p : A × V) : PyData := A.pd p.1
def rSortA (K : PySem.W.Frag) : List V → Hp → VK → Prop := fun us H Q => ∃ (a : Addr) (xs : List A) (vs : List V), us = [.ref a] ∧ (SqL K H a vs ∨ SqT K H a vs) ∧ DpAll K H vs (A.pds xs) ∧ xs.length = vs.length ∧ AllAlike ((prs xs vs).map encP) ∧ Sortable ((prs xs vs).map encP) ∧ (∀ x ∈ xs, (A.pd x).depth ≤ 50) ∧
  ∀ (p : Addr), H p = none → Q (.ref p) (upd H p (.lst (((prs xs vs).mergeSort (dataLe false encP)).map (·.2))))
theorem each_prs {H : Hp} {h : Heap} : ∀ {xs : List A} {vs : List V} {its : List Value}, xs.length = vs.length → Vals vs its → EachIs (fun (v : Value) (b : A × V) => RelV b.2 v) its (prs xs vs)
  | [], [], _, _, .nil => .nil
  | [], _ :: _, _, e, _ => by simp at e
  | _ :: _, [], _, e, _ => by simp at e
  | x :: xs, v :: vs, _, e, .cons r t => .cons r (each_prs (H := H) (h := h) (by simpa using e) t)
theorem each_reads {h : Heap} : ∀ {xs : List A} {vs : List V} {its : List Value} {as : List Addr}, xs.length = vs.length → Vals vs its → ReadsAll h its (A.pds xs) as → EachIs (fun v b => ∃ as, Reads h v (encP b) as) its (prs xs vs)
  | [], [], _, _, _, .nil, _ => .nil
  | [], _ :: _, _, _, e, _, _ => by simp at e
  | _ :: _, [], _, _, e, _, _ => by simp at e
  | x :: xs, v :: vs, u :: us, _, e, .cons r t, q => by
    simp only [A.pds] at q
    cases q with
    | cons q1 q2 => exact .cons ⟨_, q1⟩ (each_reads (by simpa using e) t q2)
theorem each_vals {its : List Value} : ∀ {zs : List (A × V)}, EachIs (fun (v : Value) (b : A × V) => RelV b.2 v) its zs → Vals (zs.map (·.2)) its := by
  induction its with
  | nil => intro zs h; cases h; exact .nil
  | cons v vs ih => intro zs h; cases h with
    | cons a b => exact .cons a (ih b)
theorem prs_len (xs : List A) (vs : List V) (e : xs.length = vs.length) : (prs xs vs).length = vs.length := by
  unfold prs
  rw [List.length_zip, e, Nat.min_self]
theorem cr_sortA (hu : X.A.units + 65 < cLine) : CallR X (.builtin "sorted") (rSortA X.K) := by
  intro pins s σ H us ws Q I r h
  obtain ⟨a, xs, vs, e, hs, hd, hl, hal, hk, hdp, q⟩ := h
  subst e
  obtain ⟨u, eu, rx⟩ := vals1 r
  subst eu
  cases rx
  have main : ∀ (T : String) (o : Obj) (its : List Value) (m : Nat), T = "list" ∨ T = "tuple" → s.heap.get? a = some o → o.cls = .type T → o.data = .seq its.toArray m → Vals vs its → vs.length ≤ sizeLine → wpAny (model X.prog X.w) X.A (call (.builtin "sorted") [.ref a]) (EP X pins σ Q) X.xe s := by
    intro T o its m hT ho hc hdt rv hz
    obtain ⟨as, ra⟩ := Dp.readsAll I (A.pds xs) vs its hd rv
    refine sorted_seq (R := fun (v : Value) (b : A × V) => RelV b.2 v) (enc := encP) hT ho hc hdt (each_prs (H := H) (h := s.heap) hl rv) (each_reads hl rv ra) hal hk (by rw [← rv.length]; exact hz) (fun b hb => ?_) fun out h1 h' p n hlen he k1 k2 hp hat => ?_
    · have hb1 : b.1 ∈ xs := (List.of_mem_zip (show (b.1, b.2) ∈ xs.zip vs from hb)).1
      have := hdp _ hb1
      show X.A.units + 2 + (A.pd b.1).depth < cLine
      omega
    · have rv' := each_vals he
      have I1 : Inv X pins σ H { s with heap := h1 } := I.kept (t' := s.toks) k1
      refine ⟨.ref p, _, I1.laid (t' := s.toks) k2 hp (show ObjOk X.prog X.w _ h' p (.lst _) from ⟨?_, out, n, rv', hat⟩), rfl, q p (I1.hok.fresh hp)⟩
      rw [rv'.length, hlen, ← rv.length]
      exact hz
  rcases hs with hs | hs
  · obtain ⟨its, rv, pl, hz⟩ := I.list hs
    obtain ⟨o, ho, hc, m, hdt⟩ := pl.isList
    exact main "list" o its m (.inl rfl) ho hc hdt rv hz
  · obtain ⟨its, rv, pl, hz⟩ := I.tuple hs
    obtain ⟨o, ho, hc, m, hdt⟩ := pl
    exact main "tuple" o its m (.inr rfl) ho hc hdt rv hz
end
/-! ### the sorted list, as data -/
section
variable {Z : Ad} {F : Hp}
theorem VAs.prs {xs : List A} {vs : List V} (r : VAs Z F xs vs) : ∀ p ∈ MP.prs xs vs, VA Z F p.1 p.2 := by
  intro p hp
  obtain ⟨i, hi, e⟩ := List.getElem_of_mem hp
  have e' : (xs.zip vs)[i]? = some p := by
    rw [← e]
    exact List.getElem?_eq_getElem hi
  rw [List.getElem?_zip_eq_some] at e'
  obtain ⟨v, h1, h2⟩ := r.get e'.1
  rw [e'.2] at h1
  cases h1
  exact h2
theorem VAs.of_prs : ∀ {zs : List (A × V)}, (∀ p ∈ zs, VA Z F p.1 p.2) → VAs Z F (zs.map (·.1)) (zs.map (·.2))
  | [], _ => .nil
  | z :: zs, h => .cons (h z List.mem_cons_self) (VAs.of_prs fun p hp => h p (List.mem_cons_of_mem _ hp))
theorem prs_fst {xs : List A} {vs : List V} (e : xs.length = vs.length) : (MP.prs xs vs).map (·.1) = xs := by
  unfold MP.prs
  rw [show (fun p : A × V => p.1) = Prod.fst from rfl, List.map_fst_zip (by omega)]
theorem low_mem {n : Nat} : ∀ {xs : List A}, A.lows xs n = true → ∀ x ∈ xs, A.low x n = true
  | [], _, x, hx => by cases hx
  | y :: ys, h, x, hx => by
    have b : A.low y n = true ∧ A.lows ys n = true := by simpa [A.lows] using h
    rcases List.mem_cons.mp hx with e | hx
    · rw [e]; exact b.1
    · exact low_mem b.2 x hx
theorem pd_map {xs : List A} {vs : List V} (e : xs.length = vs.length) : (MP.prs xs vs).map encP = xs.map A.pd := by
  have : (MP.prs xs vs).map encP = ((MP.prs xs vs).map (·.1)).map A.pd := by rw [List.map_map]; rfl
  rw [this, prs_fst e]
theorem sortOk_ok {xs : List A} (h : sortOk xs = true) : AllAlike (xs.map A.pd) ∧ Sortable (xs.map A.pd) ∧ A.lows xs 50 = true ∧ ∀ x ∈ xs, ∀ y ∈ xs, A.alike x y = true := by
  unfold sortOk at h
  simp only [Bool.and_eq_true, List.all_eq_true] at h
  obtain ⟨⟨h1, h2⟩, h3⟩ := h
  refine ⟨fun d hd d' hd' => ?_, ?_, h2, h1⟩
  · obtain ⟨x, hx, e⟩ := List.mem_map.mp hd
    obtain ⟨y, hy, e'⟩ := List.mem_map.mp hd'
    rw [← e, ← e', alike_ok x y 50 50 (low_mem h2 x hx) (low_mem h2 y hy)]
    exact h1 x hx y hy
  · rcases Bool.or_eq_true_iff.mp h3 with h3 | h3
    · refine .inl fun d hd => ?_
      obtain ⟨x, hx, e⟩ := List.mem_map.mp hd
      have := List.all_eq_true.mp h3 x hx
      cases x with
      | tup ys =>
        cases ys with
        | nil => simp [A.isTup1] at this
        | cons y ys => exact ⟨A.pd y, A.pds ys, by rw [← e]; simp [A.pd, A.pds]⟩
      | _ => simp [A.isTup1] at this
    · refine .inr fun d hd => ?_
      obtain ⟨x, hx, e⟩ := List.mem_map.mp hd
      have := List.all_eq_true.mp h3 x hx
      have hl := low_mem h2 x hx
      rw [← e]
      cases x with
      | tup _ => simp [A.noTup] at this
      | non => simp [A.noTup] at this
      | ob _ _ => simp [A.low] at hl
      | scr _ => simp [A.low] at hl
      | _ => exact ⟨nofun, fun _ => nofun⟩
theorem sorted_data_eq {xs : List A} {vs : List V} (e : xs.length = vs.length) (h : sortOk xs = true) : ((MP.prs xs vs).mergeSort (dataLe false encP)).map (·.1) = sortA xs := by
  obtain ⟨_, _, hl, hal⟩ := sortOk_ok h
  have m := PySem.W.sort_maps (r := dataLe false encP) (s := dataLe false A.pd) (fun p : A × V => p.1) (l := MP.prs xs vs) (fun a _ b _ => rfl)
  rw [m, prs_fst e, sortA_eq, ← sortB_eq (dataLe_total _)]
  refine sortB_congr fun a ha b hb => ?_
  rw [dataLe_eq', lt_ok b a 50 50 (low_mem hl b hb) (low_mem hl a ha) (hal b hb a ha)]
theorem lows_ints (is : List Int) : A.lows (is.map .int) 50 = true := by
  induction is with
  | nil => rfl
  | cons i is ih => simp [A.lows, A.low, ih]
theorem sortOk_ints (is : List Int) : sortOk (is.map .int) = true := by
  unfold sortOk
  rw [lows_ints]
  simp [A.alike, A.noTup]
theorem insA_int (i : Int) : ∀ is : List Int, insA (.int i) (is.map .int) = (insI i is).map .int
  | [] => rfl
  | j :: r => by
    simp only [List.map_cons, insA, insI, A.lt, insA_int i r]
    by_cases h : i ≤ j
    · simp [h, show ¬ j < i by omega]
    · simp [h, show j < i by omega]
theorem sortA_int : ∀ is : List Int, sortA (is.map .int) = (sortI is).map .int
  | [] => rfl
  | i :: r => by
    simp only [List.map_cons, sortA, sortI, sortA_int r, insA_int]
end
end MP
end
section
set_option Elab.async false
set_option linter.all false
set_option maxRecDepth 100000
set_option maxHeartbeats 2000000
/-! MP: len(set(..)), sorted(set(..)). -/
namespace MP
open PySem PySem.Spec L2
open PyProof.Rows hiding St
/-! ### the members, once each -/
theorem dedI_mem {x : Int} : ∀ {l : List Int}, x ∈ dedI l ↔ x ∈ l
  | [] => by simp [dedI]
  | i :: r => by
    unfold dedI
    split
    · rename_i h
      rw [dedI_mem (l := r)]
      constructor
      · intro h'; exact List.mem_cons_of_mem _ h'
      · intro h'
        rcases List.mem_cons.mp h' with e | h'
        · rw [e]; exact List.contains_iff_mem.mp h
        · exact h'
    · rw [List.mem_cons, List.mem_cons, dedI_mem (l := r)]
theorem dedI_nodup : ∀ (l : List Int), (dedI l).Nodup
  | [] => by simp [dedI]
  | i :: r => by
    unfold dedI
    split
    · exact dedI_nodup r
    · rename_i h
      refine List.nodup_cons.mpr ⟨fun h' => h (List.contains_iff_mem.mpr (dedI_mem.mp h')), dedI_nodup r⟩
theorem len_of_same {l m : List Int} (h1 : l.Nodup) (h2 : m.Nodup) (h : ∀ x, x ∈ l ↔ x ∈ m) : l.length = m.length := ((List.perm_ext_iff_of_nodup h1 h2).mpr h).length_eq
theorem step_mem {l : List Int} {x y : Int} : y ∈ step_dedup l x ↔ y ∈ l ∨ y = x := by
  unfold step_dedup
  split
  · rename_i h
    constructor
    · exact .inl
    · rintro (h' | h')
      · exact h'
      · rw [h']; simpa using h
  · simp
theorem step_nodup {l : List Int} {x : Int} (h : l.Nodup) : (step_dedup l x).Nodup := by
  unfold step_dedup
  split
  · exact h
  · rename_i h'
    rw [List.nodup_append]
    refine ⟨h, by simp, fun a ha b hb => ?_⟩
    rw [List.mem_singleton.mp hb]
    intro e
    rw [e] at ha
    exact h' (by simpa using ha)
theorem fold_ded : ∀ (ns l : List Int), l.Nodup → (ns.foldl step_dedup l).Nodup ∧ ∀ x, x ∈ ns.foldl step_dedup l ↔ x ∈ l ∨ x ∈ ns
  | [], l, h => ⟨h, fun x => by simp⟩
  | n :: ns, l, h => by
    obtain ⟨h1, h2⟩ := fold_ded ns (step_dedup l n) (step_nodup h)
    refine ⟨h1, fun x => ?_⟩
    rw [List.foldl_cons, h2 x, step_mem, List.mem_cons, or_assoc]
theorem firstMet_len (ns : List Int) : (firstMet (fun i => ns.getD i 0) ns.length).length = (dedI ns).length := by
  have e : (List.range ns.length).map (fun i => ns.getD i 0) = ns := by
    apply List.ext_getElem
    · simp
    · intro i h1 h2
      simp [List.getD_eq_getElem?_getD, List.getElem?_eq_getElem h2]
  unfold firstMet
  rw [e]
  obtain ⟨h1, h2⟩ := fold_ded ns [] List.nodup_nil
  exact len_of_same h1 (dedI_nodup ns) fun x => by rw [h2 x, dedI_mem]; simp
theorem insI_mem {x i : Int} : ∀ {l : List Int}, x ∈ insI i l ↔ x = i ∨ x ∈ l
  | [] => by simp [insI]
  | j :: r => by
    unfold insI
    split
    · simp
    · simp only [List.mem_cons, insI_mem (l := r)]
      constructor
      · rintro (h | h | h) <;> simp [h]
      · rintro (h | h | h) <;> simp [h]
theorem sortI_mem {x : Int} : ∀ {l : List Int}, x ∈ sortI l ↔ x ∈ l
  | [] => by simp [sortI]
  | i :: r => by simp [sortI, insI_mem, sortI_mem (l := r)]
theorem insI_up {i : Int} : ∀ {l : List Int}, l.Pairwise (· < ·) → i ∉ l → (insI i l).Pairwise (· < ·)
  | [], _, _ => by simp [insI]
  | j :: r, h, hn => by
    unfold insI
    rw [List.pairwise_cons] at h
    rw [List.mem_cons, not_or] at hn
    split
    · rename_i hij
      refine List.pairwise_cons.mpr ⟨fun z hz => ?_, List.pairwise_cons.mpr h⟩
      rcases List.mem_cons.mp hz with e | hz
      · rw [e]; have := hn.1; omega
      · have := h.1 z hz; omega
    · rename_i hij
      refine List.pairwise_cons.mpr ⟨fun z hz => ?_, insI_up h.2 hn.2⟩
      rcases insI_mem.mp hz with e | hz
      · rw [e]; omega
      · exact h.1 z hz
theorem sortI_up : ∀ {l : List Int}, l.Nodup → (sortI l).Pairwise (· < ·)
  | [], _ => by simp [sortI]
  | i :: r, h => by
    rw [List.nodup_cons] at h
    exact insI_up (sortI_up h.2) fun h' => h.1 (sortI_mem.mp h')
theorem up_unique : ∀ {l m : List Int}, l.Pairwise (· < ·) → m.Pairwise (· < ·) → (∀ x, x ∈ l ↔ x ∈ m) → l = m
  | [], [], _, _, _ => rfl
  | [], y :: m, _, _, h => by have := (h y).mpr List.mem_cons_self; cases this
  | x :: l, [], _, _, h => by have := (h x).mp List.mem_cons_self; cases this
  | x :: l, y :: m, hl, hm, h => by
    rw [List.pairwise_cons] at hl hm
    have exy : x = y := by
      rcases List.mem_cons.mp ((h x).mp List.mem_cons_self) with e | hx
      · exact e
      · rcases List.mem_cons.mp ((h y).mpr List.mem_cons_self) with e | hy
        · exact e.symm
        · have a := hm.1 x hx
          have b := hl.1 y hy
          omega
    subst exy
    rw [up_unique hl.2 hm.2 fun z => ?_]
    constructor
    · intro hz
      rcases List.mem_cons.mp ((h z).mp (List.mem_cons_of_mem _ hz)) with e | hz'
      · have := hl.1 z hz; omega
      · exact hz'
    · intro hz
      rcases List.mem_cons.mp ((h z).mpr (List.mem_cons_of_mem _ hz)) with e | hz'
      · have := hm.1 z hz; omega
      · exact hz'
/-! ### rules -/
section
variable {X : Cx} {a : Expr} {ta : TE} {p p2 q pos : Pos}
def tLenS (K : PySem.W.Frag) (ta : TE) : TE := fun σ H Q => ta σ H fun x H1 => ∃ (l : Addr) (ns : List Int), x = V.ref l ∧ (SqL K H1 l (ns.map V.int) ∨ SqT K H1 l (ns.map V.int)) ∧ ns.length < 4000 ∧ Q (.int (dedI ns).length) H1
theorem pe_lenS (hg : Gl X "len") (hm : X.mg "len" = none) (hg2 : Gl X "set") (hm2 : X.mg "set" = none) (ha : PE X a ta) (hc : X.calm = true) (na : starEach [a] X.env = (false, eval a X.env) :: starEach [] X.env) :
    PE X (.Call (.Name "len" p) [.Call (.Name "set" p2) [a] [] q] [] pos) (tLenS X.K ta) := by
  refine ⟨fun pins s σ H Q I h => ?_⟩
  refine Call_ (ld_blt I hg hm boot_len ?_)
  refine callWith_builtin1 (args_cons ?_ rfl) rfl rfl
  refine Call_ (ld_blt I hg2 hm2 boot_set ?_)
  refine callWith_type1 (args_cons (thn (ha.run pins s σ H _ I h) fun v s1 ⟨x, H1, I1, r1, q1⟩ => args_nil ?_) na) na rfl
  obtain ⟨l, ns, e, hq, hl, q1⟩ := q1
  subst e
  cases r1
  rcases hq with hq | hq
  · obtain ⟨its, r, pl, hz⟩ := I1.list hq
    have hlen : its.toArray.size = ns.length := by rw [List.size_toArray, ← r.length, List.length_map]
    refine call_set_list (I1.ok.hd hc) pl.isList (by simpa using intsAre_of r) (by rw [hlen]; unfold scanBound; omega) fun h' tk hS hk => ?_
    refine args_nil ?_
    rw [hlen, firstMet_len] at hS
    obtain ⟨o, es, ep, t, ho, hex, hd, _, _, _, hf, hn⟩ := hS
    have I2 : Inv X pins σ H1 { s1 with heap := h', toks := tk } := I1.kept fun b o e => hk b o (Heap.lt_size e) e
    have hle : (dedI ns).length ≤ ns.length := by
      have := (List.Nodup.length_le_of_subset (dedI_nodup ns) fun x hx => dedI_mem.mp hx)
      exact this
    exact call_len_set ho hex hd hf (by rw [hn]; omega) ⟨.int (dedI ns).length, H1, I2.tok _, ⟨_, by rw [hn]⟩, q1⟩
  · obtain ⟨its, r, pl, hz⟩ := I1.tuple hq
    refine call_set_tupI ns (I1.ok.hd hc) pl (by simpa using intsAre_of r) (by unfold scanBound; omega) fun h' tk c hS hc' hk => ?_
    refine args_nil ?_
    obtain ⟨o, es, ep, t, ho, hex, hd, _, hnd, hmem, hb, hf, hn, _⟩ := hS
    have I2 : Inv X pins σ H1 { s1 with heap := h', toks := tk } := I1.kept fun b o e => hk b o e
    have hcl : c = (dedI ns).length := by
      rw [← hn, ← Array.length_toList, ← List.length_map (f := L2.keyOf)]
      refine len_of_same hnd (dedI_nodup ns) fun x => ?_
      rw [← hmem x, dedI_mem]
      simp
    exact call_len_set ho hex hd hf (by rw [hn]; unfold scanBound at hb; omega) ⟨.int (dedI ns).length, H1, I2.tok _, ⟨_, by rw [hn, hcl]⟩, q1⟩
/-- set(t), t a tuple of ints -/
def rSetT (K : PySem.W.Frag) (w : World) : List V → Hp → VK → Prop := fun xs H Q => ∃ (l : Addr) (ns : List Int), xs = [V.ref l] ∧ SqT K H l (ns.map V.int) ∧ ns.length < 4000 ∧ ∀ r c, H r = none → c ≤ ns.length → Q (.ref r) (upd H r (SetO w r (fun j => decide (j ∈ ns)) c))
theorem cr_setT (hc : X.calm = true) : CallR X (.type "set") (rSetT X.K X.w) := by
  intro pins s σ H xs us Q I r h
  obtain ⟨l, ns, e, hq, hl, q⟩ := h
  subst e
  obtain ⟨u, eu, rx⟩ := vals1 r
  subst eu
  cases rx
  obtain ⟨its, r', pl, hz⟩ := I.tuple hq
  refine call_set_tupI ns (I.ok.hd hc) pl (by simpa using intsAre_of r') (by unfold scanBound; omega) fun h' tk c hS hc' hk => ?_
  exact ⟨.ref s.heap.objs.size, _, I.laid (t' := tk) hk (Nat.le_refl _) (setO_new hS), rfl, q _ c (I.hok.fresh (Nat.le_refl _)) hc'⟩
end
end MP
end
section
set_option Elab.async false
set_option linter.all false
set_option maxRecDepth 100000
set_option maxHeartbeats 2000000
/-! MP: calls of built-in functions. -/
namespace MP
open PySem PySem.Spec L2
open PyProof.Rows hiding St
section
variable {X : Cx} {Z : Ad} {xo : Option Xo} {n : Nat} {W : WX} {a b c e : Expr} {f g k : Env → Mem → R D} {pos : Pos}
theorem litems_view {S : Sa} (ok : S.Ok Z) {d : D} {v : V} {xs : List A} (r : VD Z S.r S.F d v) (e : d.litems S.h = some xs) : ∃ (a : Addr) (vs : List V), v = .ref a ∧ S.H a = some (.lst vs) ∧ VAs Z S.F xs vs := by
  unfold D.litems at e
  cases q : d.rd S.h with
  | none => rw [q] at e; cases e
  | some x =>
    rw [q] at e
    have w := rd_view ok r q
    cases x with
    | lst ys => cases e; exact w.lst ok
    | _ => cases e
theorem titems_view {S : Sa} (ok : S.Ok Z) {d : D} {v : V} {xs : List A} (r : VD Z S.r S.F d v) (e : d.titems S.h = some xs) : ∃ (a : Addr) (vs : List V), v = .ref a ∧ S.F a = some (.tup vs) ∧ VAs Z S.F xs vs := by
  unfold D.titems at e
  cases q : d.rd S.h with
  | none => rw [q] at e; cases e
  | some x =>
    rw [q] at e
    have w := rd_view ok r q
    cases x with
    | tup ys => cases e; exact w.tup
    | _ => cases e
theorem VAs.of_bools {F : Hp} : ∀ {is : List Bool} {vs : List V}, VAs Z F (is.map .bl) vs → vs = is.map .bl
  | [], _, .nil => rfl
  | i :: is, _, .cons h t => by
    cases h
    rw [VAs.of_bools t]
    rfl
theorem bools?_eq : ∀ {xs : List A} {is : List Bool}, bools? xs = some is → xs = is.map .bl
  | [], is, e => by
    simp only [bools?, Option.some.injEq] at e
    subst e
    rfl
  | .bl i :: r, is, e => by
    simp only [bools?] at e
    split at e
    · rename_i js q
      cases e
      rw [bools?_eq q]
      rfl
    · cases e
  | .non :: _, _, e => by simp [bools?] at e
  | .int _ :: _, _, e => by simp [bools?] at e
  | .str _ :: _, _, e => by simp [bools?] at e
  | .tup _ :: _, _, e => by simp [bools?] at e
  | .lst _ :: _, _, e => by simp [bools?] at e
  | .ob _ _ :: _, _, e => by simp [bools?] at e
  | .scr _ :: _, _, e => by simp [bools?] at e
theorem KVA.length {F : Hp} {κ : Type} : ∀ {xs : List (κ × A)} {vs : List (κ × V)}, KVA Z F xs vs → xs.length = vs.length
  | _, _, .nil => rfl
  | _, _, .cons _ t => congrArg (· + 1) (KVA.length t)
theorem VDs.one {S : Sa} {d : D} {vs : List V} (r : VDs Z S.r S.F [d] vs) : ∃ v, vs = [v] ∧ VD Z S.r S.F d v := by
  cases r with
  | cons a b => cases b; exact ⟨_, rfl, a⟩
theorem VDs.two {S : Sa} {d d' : D} {vs : List V} (r : VDs Z S.r S.F [d, d'] vs) : ∃ v v', vs = [v, v'] ∧ VD Z S.r S.F d v ∧ VD Z S.r S.F d' v' := by
  cases r with
  | cons a b => cases b with
    | cons b c => cases c; exact ⟨_, _, rfl, a, b⟩
theorem foldMin_mem : ∀ (r : List Int) (i : Int), (r.foldl (fun a b => if b < a then b else a) i = i ∨ r.foldl (fun a b => if b < a then b else a) i ∈ r) ∧ r.foldl (fun a b => if b < a then b else a) i ≤ i ∧ ∀ y ∈ r, r.foldl (fun a b => if b < a then b else a) i ≤ y
  | [], i => ⟨.inl rfl, Int.le_refl _, fun _ h => nomatch h⟩
  | j :: r, i => by
    obtain ⟨h1, h2, h3⟩ := foldMin_mem r (if j < i then j else i)
    have e : (if j < i then j else i) ≤ i ∧ (if j < i then j else i) ≤ j ∧ ((if j < i then j else i) = i ∨ (if j < i then j else i) = j) := by split <;> omega
    simp only [List.foldl_cons]
    refine ⟨?_, by omega, fun y hy => ?_⟩
    · rcases h1 with h1 | h1
      · rcases e.2.2 with e' | e'
        · exact .inl (by rw [h1, e'])
        · exact .inr (by rw [h1, e']; exact List.mem_cons_self)
      · exact .inr (List.mem_cons_of_mem _ h1)
    · rcases List.mem_cons.mp hy with e' | hy
      · rw [e']; omega
      · exact h3 y hy
theorem foldMax_mem : ∀ (r : List Int) (i : Int), (r.foldl (fun a b => if b > a then b else a) i = i ∨ r.foldl (fun a b => if b > a then b else a) i ∈ r) ∧ i ≤ r.foldl (fun a b => if b > a then b else a) i ∧ ∀ y ∈ r, y ≤ r.foldl (fun a b => if b > a then b else a) i
  | [], i => ⟨.inl rfl, Int.le_refl _, fun _ h => nomatch h⟩
  | j :: r, i => by
    obtain ⟨h1, h2, h3⟩ := foldMax_mem r (if j > i then j else i)
    have e : i ≤ (if j > i then j else i) ∧ j ≤ (if j > i then j else i) ∧ ((if j > i then j else i) = i ∨ (if j > i then j else i) = j) := by split <;> omega
    simp only [List.foldl_cons]
    refine ⟨?_, by omega, fun y hy => ?_⟩
    · rcases h1 with h1 | h1
      · rcases e.2.2 with e' | e'
        · exact .inl (by rw [h1, e'])
        · exact .inr (by rw [h1, e']; exact List.mem_cons_self)
      · exact .inr (List.mem_cons_of_mem _ h1)
    · rcases List.mem_cons.mp hy with e' | hy
      · rw [e']; omega
      · exact h3 y hy
/-- sum of a list or a tuple of ints -/
def rSumA (K : PySem.W.Frag) : List V → Hp → VK → Prop := fun vs H Q => ∃ (a : Addr) (ns : List Int), vs = [V.ref a] ∧ (SqL K H a (ns.map V.int) ∨ SqT K H a (ns.map V.int)) ∧ Q (.int ns.sum) H
/-- the readings of the built-in functions -/
def rBi (K : PySem.W.Frag) : Bi → List V → Hp → VK → Prop
  | .len => fun xs H Q => (∃ x n, xs = [x] ∧ LenV K x H n ∧ Q (.int n) H) ∨ (∃ a kvs, xs = [V.ref a] ∧ H a = some (.dK kvs) ∧ Q (.int kvs.length) H) ∨ rLenT xs H Q
  | .abs => fun xs H Q => ∃ i, xs = [.int i] ∧ Q (.int (if i < 0 then -i else i)) H
  | .min2 => fun xs H Q => ∃ i j, xs = [.int i, .int j] ∧ Q (.int (if j < i then j else i)) H
  | .max2 => fun xs H Q => ∃ i j, xs = [.int i, .int j] ∧ Q (.int (if j > i then j else i)) H
  | .minL => rMin K
  | .maxL => rMax K
  | .sum => rSumA K
  | .sorted => rSortA K
  | .toList => fun xs H Q => ∃ p ys, xs = [.ref p] ∧ (SqL K H p ys ∨ SqT K H p ys) ∧ ∀ l, H l = none → Q (.ref l) (upd H l (.lst ys))
  | .toTuple => fun xs H Q => ∃ p ys, xs = [.ref p] ∧ ((SqL K H p ys ∧ ∀ l, H l = none → Q (.ref l) (upd H l (.tup ys))) ∨ (SqT K H p ys ∧ Q (.ref p) H))
  | .int1 => fun xs H Q => (∃ i, xs = [.int i] ∧ Q (.int i) H) ∨ ∃ k, xs = [.bl k] ∧ Q (.int (if k then 1 else 0)) H
  | .all => rAll K
  | .any => rAny K
  | _ => fun _ _ _ => False
theorem bi_ok {m : Bool} {b : Bi} (hb : b ≠ .lenSet ∧ b ≠ .sortedSet) : ∀ (S : Sa) (σ : L2.St) (ds : List D) (vs : List V) (Q : VK), S.Ok Z → n ≤ S.h.length → VDs Z S.r S.F ds vs → Go Z W n σ (relD Z) S (match bi b S.h ds with
    | some z => cel m z S.h
    | none => .err) Q → rBi Z.K b vs S.H Q := by
  intro S σ ds vs Q ok hn r q
  cases e : bi b S.h ds with
  | none => rw [e] at q; exact q.elim
  | some z =>
  rw [e] at q
  dsimp only at q
  unfold bi at e
  split at e
  · -- len of a cell
    obtain ⟨v, ev, rd⟩ := r.one
    subst ev
    obtain ⟨p, e1, e2⟩ := rd
    subst e1
    split at e
    · rename_i xs hm
      cases e
      obtain ⟨o, h1, ⟨us, h2, h3⟩, _⟩ := ok.at' hm e2
      subst h2
      exact .inl ⟨_, _, rfl, .inl ⟨us, SqL.of h1, rfl⟩, by rw [← h3.length]; exact Go.celA q ok (fun _ e => nomatch e) (.int _)⟩
    · rename_i xs hm
      cases e
      obtain ⟨o, h1, ⟨us, h2, h3⟩, _⟩ := ok.at' hm e2
      subst h2
      have hl : xs.length = us.length := h3.length
      exact .inr (.inl ⟨_, us, rfl, h1, by rw [← hl]; exact Go.celA q ok (fun _ e => nomatch e) (.int _)⟩)
    · rename_i xs hm
      cases e
      obtain ⟨o, h1, ⟨us, h2, h3⟩, _⟩ := ok.at' hm e2
      subst h2
      have hl : xs.length = us.length := h3.length
      exact .inr (.inr ⟨_, us, rfl, h1, by rw [← hl]; exact Go.celA q ok (fun _ e => nomatch e) (.int _)⟩)
    · cases e
  · obtain ⟨v, ev, rd⟩ := r.one
    subst ev
    split at e
    · rename_i hl
      cases e
      cases rd
      exact .inl ⟨_, _, rfl, ⟨hl, rfl⟩, Go.celA q ok (fun _ e => nomatch e) (.int _)⟩
    · cases e
  · rename_i ns
    obtain ⟨v, ev, rd⟩ := r.one
    subst ev
    cases e
    obtain ⟨p, as, e1, e2, e3⟩ := rd
    subst e1
    have hl : ns.length = as.length := by
      have := congrArg List.length e3
      simpa using this
    exact .inl ⟨_, _, rfl, .inl ⟨_, SqL.of (ok.le _ _ e2), rfl⟩, by rw [List.length_map, ← hl]; exact Go.celA q ok (fun _ e => nomatch e) (.int _)⟩
  · rename_i d _ _ _
    obtain ⟨v, ev, rd⟩ := r.one
    subst ev
    cases hi : d.items S.h with
    | none => rw [hi] at e; cases e
    | some xs =>
      rw [hi] at e
      cases e
      obtain ⟨p, us, e1, e2, e3⟩ := items_view ok rd hi
      subst e1
      refine .inl ⟨_, us.length, rfl, ?_, by rw [← e3.length]; exact Go.celA q ok (fun _ e => nomatch e) (.int _)⟩
      rcases e2 with e2 | e2
      · exact .inl ⟨us, e2, rfl⟩
      · exact .inr ⟨us, e2, rfl⟩
  · obtain ⟨v, ev, rd⟩ := r.one
    subst ev
    cases e
    cases rd
    exact ⟨_, rfl, Go.celA q ok (fun _ e => nomatch e) (.int _)⟩
  · obtain ⟨v, v', ev, rd, rd'⟩ := r.two
    subst ev
    cases e
    cases rd
    cases rd'
    exact ⟨_, _, rfl, Go.celA q ok (fun _ e => nomatch e) (.int _)⟩
  · obtain ⟨v, v', ev, rd, rd'⟩ := r.two
    subst ev
    cases e
    cases rd
    cases rd'
    exact ⟨_, _, rfl, Go.celA q ok (fun _ e => nomatch e) (.int _)⟩
  · -- min
    rename_i d
    obtain ⟨v, ev, rd⟩ := r.one
    subst ev
    cases hi : d.litems S.h with
    | none => rw [hi] at e; cases e
    | some xs =>
      rw [hi] at e
      have e' : (ints? xs).bind (fun is => (listMin is).map A.int) = some z := e
      cases hj : ints? xs with
      | none => rw [hj] at e'; cases e'
      | some is =>
        rw [hj] at e'
        obtain ⟨p, us, e1, e2, e3⟩ := litems_view ok rd hi
        subst e1
        rw [ints?_eq hj] at e3
        rw [e3.of_ints] at e2
        cases is with
        | nil => cases e'
        | cons i is =>
          cases e'
          obtain ⟨h1, h2, h3⟩ := foldMin_mem is i
          refine ⟨p, i :: is, rfl, SqL.of e2, Nat.succ_pos _, fun w hw hmin => ?_⟩
          have : w = is.foldl (fun a b => if b < a then b else a) i := by
            have a1 : w ≤ is.foldl (fun a b => if b < a then b else a) i := by
              rcases h1 with h1 | h1
              · rw [h1]; exact hmin i List.mem_cons_self
              · exact hmin _ (List.mem_cons_of_mem _ h1)
            have a2 : is.foldl (fun a b => if b < a then b else a) i ≤ w := by
              rcases List.mem_cons.mp hw with e | hw
              · rw [e]; exact h2
              · exact h3 w hw
            omega
          rw [this]
          exact Go.celA q ok (fun _ e => nomatch e) (.int _)
  · -- max
    rename_i d
    obtain ⟨v, ev, rd⟩ := r.one
    subst ev
    cases hi : d.litems S.h with
    | none => rw [hi] at e; cases e
    | some xs =>
      rw [hi] at e
      have e' : (ints? xs).bind (fun is => (listMax is).map A.int) = some z := e
      cases hj : ints? xs with
      | none => rw [hj] at e'; cases e'
      | some is =>
        rw [hj] at e'
        obtain ⟨p, us, e1, e2, e3⟩ := litems_view ok rd hi
        subst e1
        rw [ints?_eq hj] at e3
        rw [e3.of_ints] at e2
        cases is with
        | nil => cases e'
        | cons i is =>
          cases e'
          obtain ⟨h1, h2, h3⟩ := foldMax_mem is i
          refine ⟨p, i :: is, rfl, SqL.of e2, Nat.succ_pos _, fun w hw hmin => ?_⟩
          have : w = is.foldl (fun a b => if b > a then b else a) i := by
            have a1 : is.foldl (fun a b => if b > a then b else a) i ≤ w := by
              rcases h1 with h1 | h1
              · rw [h1]; exact hmin i List.mem_cons_self
              · exact hmin _ (List.mem_cons_of_mem _ h1)
            have a2 : w ≤ is.foldl (fun a b => if b > a then b else a) i := by
              rcases List.mem_cons.mp hw with e | hw
              · rw [e]; exact h2
              · exact h3 w hw
            omega
          rw [this]
          exact Go.celA q ok (fun _ e => nomatch e) (.int _)
  · -- sum
    rename_i d
    obtain ⟨v, ev, rd⟩ := r.one
    subst ev
    cases hi : d.items S.h with
    | none => rw [hi] at e; cases e
    | some xs =>
      rw [hi] at e
      have e' : (ints? xs).map (fun is => A.int is.sum) = some z := e
      cases hj : ints? xs with
      | none => rw [hj] at e'; cases e'
      | some is =>
        rw [hj] at e'
        obtain ⟨p, us, e1, e2, e3⟩ := items_view ok rd hi
        subst e1
        rw [ints?_eq hj] at e3
        rw [e3.of_ints] at e2
        cases e'
        exact ⟨p, is, rfl, e2, Go.celA q ok (fun _ e => nomatch e) (.int _)⟩
  · -- sorted
    rename_i d
    obtain ⟨v, ev, rd⟩ := r.one
    subst ev
    cases hi : d.items S.h with
    | none => rw [hi] at e; cases e
    | some xs =>
      rw [hi] at e
      obtain ⟨p, us, e1, e2, e3⟩ := items_view ok rd hi
      subst e1
      have main : sortOk xs = true → z = .lst (sortA xs) → rSortA Z.K [V.ref p] S.H Q := fun hs ez => by
        subst ez
        obtain ⟨s1, s2, s3, s4⟩ := sortOk_ok hs
        obtain ⟨t1, t2, t3⟩ := lows_ok s3 e3
        refine ⟨p, xs, us, rfl, e2, DpAll.le ok.le t1, e3.length, by rw [pd_map e3.length]; exact s1, by rw [pd_map e3.length]; exact s2, fun x hx => ?_, ?_⟩
        · obtain ⟨v, _, hv⟩ := e3.get (List.getElem?_eq_getElem (List.getElem_of_mem hx).choose_spec.choose)
          rw [(List.getElem_of_mem hx).choose_spec.choose_spec] at hv
          exact (low_ok (low_mem s3 x hx) hv).2.2
        · refine Go.celL q ok ?_
          rw [← sorted_data_eq (vs := us) e3.length hs]
          exact VAs.of_prs fun pr hpr => e3.prs pr ((List.mergeSort_perm _ _).mem_iff.mp hpr)
      cases hj : ints? xs with
      | none =>
        have e' : (if sortOk xs then some (A.lst (sortA xs)) else none) = some z := by
          have e0 : (match ints? xs with
            | some is => some (A.lst ((sortI is).map .int))
            | none => if sortOk xs then some (A.lst (sortA xs)) else none) = some z := e
          rw [hj] at e0
          exact e0
        split at e'
        · rename_i hs
          cases e'
          exact main hs rfl
        · cases e'
      | some is =>
        have e' : some (A.lst ((sortI is).map .int)) = some z := by
          have e0 : (match ints? xs with
            | some is => some (A.lst ((sortI is).map .int))
            | none => if sortOk xs then some (A.lst (sortA xs)) else none) = some z := e
          rw [hj] at e0
          exact e0
        cases e'
        have ex := ints?_eq hj
        exact main (by rw [ex]; exact sortOk_ints is) (by rw [ex, sortA_int])
  · -- list
    rename_i d
    obtain ⟨v, ev, rd⟩ := r.one
    subst ev
    cases hi : d.items S.h with
    | none => rw [hi] at e; cases e
    | some xs =>
      rw [hi] at e
      cases e
      obtain ⟨p, us, e1, e2, e3⟩ := items_view ok rd hi
      subst e1
      exact ⟨p, us, rfl, e2, Go.celL q ok e3⟩
  · -- tuple
    rename_i d
    obtain ⟨v, ev, rd⟩ := r.one
    subst ev
    unfold D.items at e
    cases hi : d.rd S.h with
    | none => rw [hi] at e; cases e
    | some y =>
      rw [hi] at e
      have w := rd_view ok rd hi
      cases y with
      | tup xs =>
        cases e
        obtain ⟨p, us, e1, e2, e3⟩ := w.tup
        subst e1
        exact ⟨p, us, rfl, .inr ⟨SqT.of (ok.le _ _ e2), Go.celA q ok (fun _ e => nomatch e) (.tup e2 e3)⟩⟩
      | lst xs =>
        cases e
        obtain ⟨p, us, e1, e2, e3⟩ := w.lst ok
        subst e1
        exact ⟨p, us, rfl, .inl ⟨SqL.of e2, Go.celT q ok e3⟩⟩
      | scr xs =>
        cases e
        obtain ⟨p, e1, e2⟩ := w.scr
        subst e1
        exact ⟨p, _, rfl, .inl ⟨SqL.le ok.le e2, Go.celT q ok (VAs.ints xs)⟩⟩
      | _ => cases e
  · obtain ⟨v, ev, rd⟩ := r.one
    subst ev
    cases e
    cases rd
    exact .inl ⟨_, rfl, Go.celA q ok (fun _ e => nomatch e) (.int _)⟩
  · obtain ⟨v, ev, rd⟩ := r.one
    subst ev
    cases e
    cases rd
    exact .inr ⟨_, rfl, Go.celA q ok (fun _ e => nomatch e) (.int _)⟩
  · -- all
    rename_i d
    obtain ⟨v, ev, rd⟩ := r.one
    subst ev
    cases hi : d.litems S.h with
    | none => rw [hi] at e; cases e
    | some xs =>
      rw [hi] at e
      have e' : (bools? xs).map (fun is => A.bl (is.all id)) = some z := e
      cases hj : bools? xs with
      | none => rw [hj] at e'; cases e'
      | some is =>
        rw [hj] at e'
        obtain ⟨p, us, e1, e2, e3⟩ := litems_view ok rd hi
        subst e1
        rw [bools?_eq hj] at e3
        rw [e3.of_bools] at e2
        cases e'
        exact ⟨p, is, rfl, SqL.of e2, Go.celA q ok (fun _ e => nomatch e) (.bl _)⟩
  · -- any
    rename_i d
    obtain ⟨v, ev, rd⟩ := r.one
    subst ev
    cases hi : d.litems S.h with
    | none => rw [hi] at e; cases e
    | some xs =>
      rw [hi] at e
      have e' : (bools? xs).map (fun is => A.bl (is.any id)) = some z := e
      cases hj : bools? xs with
      | none => rw [hj] at e'; cases e'
      | some is =>
        rw [hj] at e'
        obtain ⟨p, us, e1, e2, e3⟩ := litems_view ok rd hi
        subst e1
        rw [bools?_eq hj] at e3
        rw [e3.of_bools] at e2
        cases e'
        exact ⟨p, is, rfl, SqL.of e2, Go.celA q ok (fun _ e => nomatch e) (.bl _)⟩
  · exact absurd rfl hb.1
  · exact absurd rfl hb.2
  · cases e
end
end MP
end
section
set_option Elab.async false
set_option linter.all false
set_option maxRecDepth 100000
set_option maxHeartbeats 2000000
/-! MP: arguments, calls of built-in functions. -/
namespace MP
open PySem PySem.Spec L2
open PyProof.Rows hiding St
/-- no star among the arguments -/
def NoStar (es : List Expr) : Prop := ∀ e ∈ es, ∀ a p, e ≠ .Starred a p
theorem NoStar.head {e : Expr} {es : List Expr} (h : NoStar (e :: es)) (env : PySem.Env) : starEach (e :: es) env = (false, eval e env) :: starEach es env := by
  have := h e List.mem_cons_self
  cases e with
  | Starred a p => exact absurd rfl (this a p)
  | _ => rfl
theorem NoStar.tail {e : Expr} {es : List Expr} (h : NoStar (e :: es)) : NoStar es := fun x hx => h x (List.mem_cons_of_mem _ hx)
theorem NoStar.any : ∀ {es : List Expr}, NoStar es → ∀ (env : PySem.Env), (starEach es env).any (·.1) = false
  | [], _, _ => rfl
  | e :: es, h, env => by
    rw [h.head env, List.any_cons, NoStar.any h.tail env]
    rfl
theorem backTo_any {pos : Pos} {es : List Expr} (h : NoStar es) (env : PySem.Env) : (backTo pos (starEach es env)).any (·.1) = false := by
  unfold backTo
  rw [List.any_map]
  exact h.any env
/-- arguments -/
structure AOk (X : Cx) (Z : Ad) (xo : Option Xo) (W : WX) (n : Nat) (es : List Expr) (f : Env → Mem → R (List D)) : Prop where
  pa : PA X es (tG Z xo W n (relDs Z) f)
  ns : NoStar es
section
variable {X : Cx} {Z : Ad} {xo : Option Xo} {n : Nat} {W : WX} {a b c e : Expr} {f g k : Env → Mem → R D} {fs : Env → Mem → R (List D)} {es : List Expr} {pos p : Pos}
theorem AOk.nil : AOk X Z xo W n [] (fun _ h => .ok [] h) := ⟨a_nil, fun _ h => nomatch h⟩
theorem AOk.cons (ha : EOk X Z xo W n a f) (hs : AOk X Z xo W n es fs) (hn : ∀ b p, a ≠ .Starred b p) : AOk X Z xo W n (a :: es) (fun env h => (f env h).bind fun x h => (fs env h).bind fun xs h => .ok (x :: xs) h) := by
  have ns : NoStar (a :: es) := fun e he => by
    rcases List.mem_cons.mp he with e' | he
    · rw [e']; exact hn
    · exact hs.ns e he
  exact ⟨a_cons ha.pe hs.pa (ns.head _), ns⟩
theorem EOk.tup {k1 : Nat} (hK : X.K = Z.K) (hs : AOk X Z xo W n es fs) : EOk X Z xo W n (.Tuple es k1 pos) (fun env h => (fs env h).bind fun ds h => if ds.length ≤ sizeLine then ofO ((D.toAs ds).map fun xs => .a (.tup xs)) h else .err) := EOk.of hK (e_tup hs.pa) fun _ => rfl
theorem EOk.lst {m : Bool} (hK : X.K = Z.K) (hs : AOk X Z xo W n es fs) : EOk X Z xo W n (.List es pos) (fun env h => (fs env h).bind fun ds h => mkL m ds h) := EOk.of hK (e_lst hs.pa) fun _ => rfl
theorem sumT_raw {prog : Program} {w : World} {A : Around} {E : Value → Shared → Prop} {s : Shared} {l : Addr} {its : List Value} {ns : List Int} {Q : Value → Shared → Prop} (hh : A.handled = none) (hl : s.heap.IsTuple l its.toArray) (hi : IntsAre its ns)
    (h : ∀ h' tk t', (∀ b o, s.heap.get? b = some o → h'.get? b = some o) → Q (.int ns.sum t') { s with heap := h', toks := tk }) : wpAny (model prog w) A (call (.builtin "sum") [.ref l]) Q E s := by
  obtain ⟨xs, e⟩ := hi.allInts.items
  have hn : numsOf (intItems xs).toList = ns := by rw [← e]; exact hi.numsOf
  rw [nums_intItems] at hn
  rw [e] at hl
  have hlt : l < s.heap.objs.size := by
    obtain ⟨_, e, _⟩ := hl
    exact Heap.lt_size e
  refine call_sum_walkG (wpAny_pyIter_tuple hl ?_)
  refine ⟨s.heap.objs.size, _, _, _, _, _, numAt xs, rfl, Walks.tuple (A := A.in1) hh _ l (Nat.ne_of_lt hlt) (intItems xs), ?_, ?_, (fun _ _ => intItems_at), fun h' tk t' hk => ?_⟩
  · exact ⟨⟨_, Heap.get?_push_size _ rfl, rfl, rfl⟩, hl.push _⟩
  · intro b hb
    show b < (s.heap.push _).objs.size
    rw [Heap.size_push]
    rcases List.mem_cons.mp hb with rfl | hb
    · exact Nat.lt_succ_self _
    · rcases List.mem_cons.mp hb with rfl | hb
      · exact Nat.lt_succ_of_lt hlt
      · cases hb
  · have := h h' tk t' (fun b o e => hk b o (by
      simp only [List.mem_singleton]
      exact Nat.ne_of_lt (Heap.lt_size e)) (Heap.get?_push_of_some _ e))
    rw [preSum_eq, List.take_of_length_le (by simp [intItems]), hn]
    exact this
theorem cr_sumT {X : Cx} (hc : X.calm = true) : CallR X (.builtin "sum") (fun vs H Q => ∃ (a : Addr) (ns : List Int), vs = [V.ref a] ∧ SqT X.K H a (ns.map V.int) ∧ Q (.int ns.sum) H) := by
  intro pins s σ H vs us Q I r h
  obtain ⟨a, ns, rfl, hs, q⟩ := h
  obtain ⟨its, rv, hl, _⟩ := I.tuple hs
  rw [Vals.ref1 r]
  exact sumT_raw (I.ok.hd hc) hl rv.ints fun h' tk t' hk => ⟨.int _, H, I.kept hk, ⟨_, rfl⟩, q⟩
theorem cr_sumA {X : Cx} (hc : X.calm = true) : CallR X (.builtin "sum") (rSumA X.K) := by
  intro pins s σ H vs us Q I r h
  obtain ⟨a, ns, e, hs | hs, q⟩ := h
  · exact cr_sum hc pins s σ H vs us Q I r ⟨a, ns, e, hs, q⟩
  · exact cr_sumT hc pins s σ H vs us Q I r ⟨a, ns, e, hs, q⟩
def biTab : List (Str × Nat × Bi) := [("len", 1, .len), ("abs", 1, .abs), ("min", 2, .min2), ("max", 2, .max2), ("min", 1, .minL), ("max", 1, .maxL), ("sum", 1, .sum), ("sorted", 1, .sorted), ("list", 1, .toList), ("tuple", 1, .toTuple), ("int", 1, .int1), ("all", 1, .all), ("any", 1, .any)]
def biOf (x : Str) (n : Nat) : Option Bi := (biTab.find? fun p => decide (p.1 = x) && decide (p.2.1 = n)).map (·.2.2)
/-- which built-in object a name is -/
inductive BiId where
  | fn (id : String) | ty (T : String)
def biId : Bi → BiId
  | .len => .fn "len" | .abs => .fn "abs" | .min2 => .fn "min" | .minL => .fn "min" | .max2 => .fn "max" | .maxL => .fn "max" | .sum => .fn "sum" | .sorted => .fn "sorted" | .all => .fn "all" | .any => .fn "any"
  | .toList => .ty "list" | .toTuple => .ty "tuple" | .int1 => .ty "int" | _ => .fn "?"
def CallB (X : Cx) (i : BiId) (r : List V → Hp → VK → Prop) : Prop := match i with
  | .fn id => CallR X (.builtin id) r
  | .ty T => CallR X (.type T) r
theorem callB_ok (hc : X.calm = true) (hu : X.A.units + 65 < cLine) (b : Bi) : CallB X (biId b) (rBi X.K b) := by
  cases b with
  | len => exact call_len.or (call_lenD.or call_len_dT)
  | abs => exact call_abs
  | min2 => exact call_min2 hc
  | max2 => exact call_max2 hc
  | minL => exact cr_min hc
  | maxL => exact cr_max hc
  | sum => exact cr_sumA hc
  | sorted => exact cr_sortA hu
  | toList => exact call_list_of
  | toTuple => exact call_tuple_of
  | int1 => exact call_int1
  | all => exact cr_all hc
  | any => exact cr_any hc
  | _ => exact fun _ _ _ _ _ _ _ _ _ h => h.elim
def bootB (x : Str) (i : BiId) : Prop := match i with
  | .fn id => bootBuiltins x = some (.builtin id)
  | .ty T => bootBuiltins x = some (.type T)
theorem biOf_ok {x : Str} {m : Nat} {b : Bi} (h : biOf x m = some b) : bootB x (biId b) ∧ x ≠ "__name__" ∧ (x == ("__debug__" : Str)) = false ∧ b ≠ .lenSet ∧ b ≠ .sortedSet ∧ 1 ≤ m := by
  have all : ∀ p ∈ biTab, bootB p.1 (biId p.2.2) ∧ p.1 ≠ "__name__" ∧ (p.1 == ("__debug__" : Str)) = false ∧ p.2.2 ≠ .lenSet ∧ p.2.2 ≠ .sortedSet ∧ 1 ≤ p.2.1 := by
    unfold biTab
    simp only [List.forall_mem_cons, List.not_mem_nil, false_imp_iff, implies_true, and_true]
    refine ⟨?_, ?_, ?_, ?_, ?_, ?_, ?_, ?_, ?_, ?_, ?_, ?_, ?_⟩
    all_goals exact ⟨by unfold bootB biId; decide +kernel, by decide +kernel, by decide +kernel, by decide, by decide, by decide⟩
  unfold biOf at h
  cases q : biTab.find? fun p => decide (p.1 = x) && decide (p.2.1 = m) with
  | none => rw [q] at h; cases h
  | some p =>
    rw [q] at h
    cases h
    have h1 := List.find?_some q
    have h2 := List.mem_of_find?_eq_some q
    simp only [Bool.and_eq_true, decide_eq_true_eq] at h1
    have := all p h2
    rw [h1.1, h1.2] at this
    exact this
/-- a call of a built-in function -/
theorem EOk.bi {m : Bool} {x : Str} {b : Bi} (hK : X.K = Z.K) (hc : X.calm = true) (hu : X.A.units + 65 < cLine) (hb : biOf x es.length = some b) (hg : Gl X x) (hm : X.mg x = none) (hs : AOk X Z xo W n es fs) :
    EOk X Z xo W n (.Call (.Name x p) es [] pos) (fun env h => (fs env h).bind fun ds h => match bi b h ds with
      | some z => cel m z h
      | none => .err) := by
  obtain ⟨h1, h2, h3, h4, h5, h6⟩ := biOf_ok hb
  have hcb := callB_ok hc hu b
  cases es with
  | nil => simp at h6
  | cons e es =>
    refine EOk.of hK (e_args (r := rBi Z.K b) (bi_ok ⟨h4, h5⟩) ?_) (fun _ => rfl)
    rw [← hK]
    unfold CallB at hcb
    unfold bootB at h1
    split at hcb
    · rename_i id hid
      rw [hid] at h1
      exact pe_callB hcb hg hm h1 hs.pa h2 h3 (hs.ns.head _) (backTo_any hs.ns.tail _)
    · rename_i id hid
      rw [hid] at h1
      exact pe_callTy hcb hg hm h1 hs.pa h2 h3 (hs.ns.head _) (backTo_any hs.ns.tail _)
theorem NoStar.one (h : ∀ b p, a ≠ .Starred b p) : NoStar [a] := fun e he => by
  rw [List.mem_singleton.mp he]
  exact h
/-- len(set(..)) -/
theorem EOk.lenSet {m : Bool} {p2 q : Pos} (hK : X.K = Z.K) (hc : X.calm = true) (hg : Gl X "len") (hm : X.mg "len" = none) (hg2 : Gl X "set") (hm2 : X.mg "set" = none) (ha : EOk X Z xo W n a f) (hn : ∀ b p, a ≠ .Starred b p) :
    EOk X Z xo W n (.Call (.Name "len" p) [.Call (.Name "set" p2) [a] [] q] [] pos) (fun env h => ((f env h).bind fun x h => .ok [x] h).bind fun ds h => match MP.bi .lenSet h ds with
      | some z => cel m z h
      | none => .err) := by
  refine EOk.of hK (PE.imp (pe_lenS hg hm hg2 hm2 ha.pe hc ((NoStar.one hn).head _)) fun σ H Q ⟨S, env, e, i, w⟩ => ?_) (fun _ => rfl)
  subst e
  have w' : Go Z W n σ (relD Z) S ((f env S.h).bind fun x h => match MP.bi .lenSet h [x] with
      | some z => cel m z h
      | none => .err) Q := by
    cases h1 : f env S.h with
    | ok d h => dsimp only at w ⊢; rw [h1] at w; exact w
    | exc c x h => dsimp only at w ⊢; rw [h1] at w; exact w
    | err => dsimp only at w ⊢; rw [h1] at w; exact w
  refine ⟨S, env, rfl, i, (Go.bind (Rel := relD Z) w').mono fun v H1 ⟨d, S1, x, e, r1, q1⟩ => ?_⟩
  subst e
  cases e : MP.bi .lenSet S1.h [d] with
  | none => rw [e] at q1; exact q1.elim
  | some z =>
    rw [e] at q1
    dsimp only at q1
    have e' : (d.items S1.h).bind (fun xs => (ints? xs).bind fun is => if is.length < 4000 then some (A.int (dedI is).length) else none) = some z := by
      cases d with
      | ref k => exact e
      | a y => exact e
      | nst ns => exact e
    cases hi : d.items S1.h with
    | none => rw [hi] at e'; cases e'
    | some xs =>
      rw [hi] at e'
      have e2 : (ints? xs).bind (fun is => if is.length < 4000 then some (A.int (dedI is).length) else none) = some z := e'
      cases hj : ints? xs with
      | none => rw [hj] at e2; cases e2
      | some is =>
        rw [hj] at e2
        have e3 : (if is.length < 4000 then some (A.int (dedI is).length) else none) = some z := e2
        split at e3
        · rename_i hl
          cases e3
          obtain ⟨l, us, e4, e5, e6⟩ := items_view x.ok r1 hi
          subst e4
          rw [ints?_eq hj] at e6
          rw [e6.of_ints] at e5
          rw [hK]
          exact ⟨l, is, rfl, e5, hl, Go.celA q1 x.ok (fun _ e => nomatch e) (.int _)⟩
        · cases e3
/-- sorted(set(..)) -/
theorem EOk.sortedSet {m : Bool} {p2 q : Pos} (hK : X.K = Z.K) (hc : X.calm = true) (hg : Gl X "sorted") (hm : X.mg "sorted" = none) (hg2 : Gl X "set") (hm2 : X.mg "set" = none) (ha : EOk X Z xo W n a f) (hn : ∀ b p, a ≠ .Starred b p) :
    EOk X Z xo W n (.Call (.Name "sorted" p) [.Call (.Name "set" p2) [a] [] q] [] pos) (fun env h => ((f env h).bind fun x h => .ok [x] h).bind fun ds h => match MP.bi .sortedSet h ds with
      | some z => cel m z h
      | none => .err) := by
  have pset : PE X (.Call (.Name "set" p2) [a] [] q) (tCB (rSetT X.K X.w) (tCons (tI Z xo W n f) tNil)) := pe_callTy (cr_setT hc) hg2 hm2 boot_set (pa_cons ha.pe pa_nil ((NoStar.one hn).head _)) (by decide) (by decide) ((NoStar.one hn).head _) rfl
  refine EOk.of hK (PE.imp (pe_callB (cr_sortedSet hc) hg hm boot_sorted (pa_cons pset pa_nil rfl)) fun σ H Q ⟨S, env, e, i, w⟩ => ?_) (fun _ => rfl)
  subst e
  have w' : Go Z W n σ (relD Z) S ((f env S.h).bind fun x h => match MP.bi .sortedSet h [x] with
      | some z => cel m z h
      | none => .err) Q := by
    cases h1 : f env S.h with
    | ok d h => dsimp only at w ⊢; rw [h1] at w; exact w
    | exc c x h => dsimp only at w ⊢; rw [h1] at w; exact w
    | err => dsimp only at w ⊢; rw [h1] at w; exact w
  refine ⟨S, env, rfl, i, (Go.bind (Rel := relD Z) w').mono fun v H1 ⟨d, S1, x, e, r1, q1⟩ => ?_⟩
  subst e
  cases e : MP.bi .sortedSet S1.h [d] with
  | none => rw [e] at q1; exact q1.elim
  | some z =>
    rw [e] at q1
    dsimp only at q1
    have e' : (d.titems S1.h).bind (fun xs => (ints? xs).bind fun is => if is.length < 64 then some (A.lst ((sortI (dedI is)).map .int)) else none) = some z := by
      cases d with
      | ref k => exact e
      | a y => exact e
      | nst ns => exact e
    cases hi : d.titems S1.h with
    | none => rw [hi] at e'; cases e'
    | some xs =>
      rw [hi] at e'
      have e2 : (ints? xs).bind (fun is => if is.length < 64 then some (A.lst ((sortI (dedI is)).map .int)) else none) = some z := e'
      cases hj : ints? xs with
      | none => rw [hj] at e2; cases e2
      | some is =>
        rw [hj] at e2
        have e3 : (if is.length < 64 then some (A.lst ((sortI (dedI is)).map .int)) else none) = some z := e2
        split at e3
        · rename_i hl
          cases e3
          obtain ⟨l, us, e4, e5, e6⟩ := titems_view x.ok r1 hi
          subst e4
          rw [ints?_eq hj] at e6
          rw [e6.of_ints] at e5
          refine ⟨l, is, rfl, SqT.of (x.ok.le _ _ e5), by omega, fun r c hr hcl => ?_⟩
          refine ⟨r, _, c, rfl, upd_same, by omega, fun ns' p' h1 h2 h3 hp' => ?_⟩
          have en : ns' = sortI (dedI is) := up_unique h1 (sortI_up (dedI_nodup is)) fun y => by rw [h2 y, sortI_mem, dedI_mem]; simp
          rw [en]
          -- the set is forgotten
          have x1 : Nx Z n S1 ⟨S1.r, upd S1.F r (SetO X.w r (fun j => decide (j ∈ is)) c), S1.h, upd S1.H r (SetO X.w r (fun j => decide (j ∈ is)) c)⟩ := x.ok.lay hr _
          have q2 := Go.from x1 (Nat.le_refl _) q1
          exact Go.celL q2 x1.ok (VAs.ints _) p' hp'
        · cases e3
end
end MP
end
section
set_option Elab.async false
set_option linter.all false
set_option maxRecDepth 100000
set_option maxHeartbeats 2000000
/-! MP: methods of lists, isinstance. -/
namespace MP
open PySem PySem.Spec L2
open PyProof.Rows hiding St
section
variable {X : Cx} {Z : Ad} {xo : Option Xo} {n : Nat} {W : WX} {a b c e o : Expr} {f g k : Env → Mem → R D} {fs : Env → Mem → R (List D)} {es : List Expr} {pos p apos : Pos}
def isCall : Expr → Bool
  | .Call _ _ _ _ => true
  | _ => false
theorem base_of {m : Str} (h : isCall o = false) : attributeBase o m X.env (eval o X.env) = eval o X.env := by
  cases o <;> first | rfl | (simp [isCall] at h)
theorem few_of {cpos : Pos} : ∀ {es : List Expr}, NoStar es → ∀ env, (backTo cpos (starEach es env)).all (fun x => !x.1) = true
  | [], _, _ => rfl
  | e :: es, h, env => by
    have := few_of (cpos := cpos) h.tail env
    rw [h.head env]
    unfold backTo at this ⊢
    rw [List.map_cons, List.all_cons, this]
    rfl
/-- a list cell is there -/
theorem lst_cell {S : Sa} (ok : S.Ok Z) {m : Nat} {v : V} {xs : List A} (r : VD Z S.r S.F (.ref m) v) (e : S.h[m]? = some (.lst xs)) : ∃ (q : Addr) (vs : List V), v = .ref q ∧ S.r[m]? = some q ∧ S.H q = some (.lst vs) ∧ VAs Z S.F xs vs := by
  obtain ⟨q, e1, e2⟩ := r
  obtain ⟨o, h1, ⟨vs, h2, h3⟩, _⟩ := ok.at' e e2
  subst h2
  exact ⟨q, vs, e1, e2, h1, h3⟩
/-- a list cell is written -/
theorem Go.putL {S : Sa} {σ : L2.St} {m : Nat} {q : Addr} {xs ys : List A} {us : List V} {Q : VK} (g : Go Z W n σ (relD Z) S (.ok (.a .non) (S.h.set m (.lst ys))) Q) (ok : S.Ok Z) (e : S.h[m]? = some (.lst xs)) (er : S.r[m]? = some q) (r : VAs Z S.F ys us) :
    Q .non (upd S.H q (.lst us)) := by
  have x : Nx Z n S _ := ok.put er e (fun z => nomatch z) (m := .lst ys) (o := .lst us) ⟨us, rfl, r⟩ (fun b hb h => h.set fun _ _ z => nomatch z)
  exact g ⟨S.r, S.F, S.h.set m (.lst ys), upd S.H q (.lst us)⟩ .non x rfl .non
/-- xs.append(e) -/
theorem EOk.append (hK : X.K = Z.K) (ho : EOk X Z xo W n o f) (hs : AOk X Z xo W n [e] fs) (hb : isCall o = false) (hl : (apos.endLine == pos.line) = true) :
    EOk X Z xo W n (.Call (.Attribute o "append" apos) [e] [] pos) (fun env h => (f env h).bind fun x h => if bmPre .append h x then (fs env h).bind fun ds h => bm .append h x ds else .err) := by
  refine EOk.of hK (PE.imp (pe_bm PySem.F.plainAttrs_list PySem.F.slot_list_append PySem.F.type_list_append mt_append ho.pe hs.pa (base_of hb) (by rw [few_of hs.ns]; rfl) hl (hs.ns.head _) rfl) fun σ H Q ⟨S, env, e, i, q⟩ => ?_) (fun _ => rfl)
  subst e
  refine ⟨S, env, rfl, i, (Go.bind (Rel := relD Z) q).mono fun v H1 ⟨d, S1, x, e, r1, q1⟩ => ?_⟩
  subst e
  split at q1
  · rename_i hp
    cases d with
    | ref m =>
      cases hm : S1.h[m]? with
      | none => simp [bmPre, hm] at hp
      | some z =>
        cases z with
        | lst xs =>
          obtain ⟨qa, us, ev, er, eH, _⟩ := lst_cell x.ok r1 hm
          refine ⟨?_, S1, env, rfl, i.nx x, (Go.bind (Rel := relDs Z) q1).mono fun vs H2 ⟨ds, S2, x2, e, r2, q2⟩ => ?_⟩
          · rw [ev]
            exact .inl ⟨rfl, us, by rw [hK]; exact SqL.of eH⟩
          · subst e
            have r1' := VD.nx x2 r1
            cases ds with
            | nil => exact q2.elim
            | cons d' ds' =>
              cases ds' with
              | cons _ _ => cases d' <;> exact q2.elim
              | nil =>
                cases d' with
                | a y =>
                  have q3 : Go Z W n σ (relD Z) S2 (match S2.h[m]? with
                    | some (.lst xs) => if xs.length < sizeLine then .ok (.a .non) (S2.h.set m (.lst (xs ++ [y]))) else .err
                    | _ => .err) Q := q2
                  cases hm2 : S2.h[m]? with
                  | none => rw [hm2] at q3; exact q3.elim
                  | some z2 =>
                    rw [hm2] at q3
                    cases z2 with
                    | lst ys =>
                      dsimp only at q3
                      split at q3
                      · rename_i hlen
                        obtain ⟨w, ew, rw'⟩ := r2.one
                        subst ew
                        obtain ⟨qa2, us2, ev2, er2, eH2, rl⟩ := lst_cell x2.ok r1' hm2
                        exact ⟨qa2, us2, w, ev2, rfl, eH2, by rw [← rl.length]; exact hlen, Go.putL q3 x2.ok hm2 er2 (rl.append (.cons rw' .nil))⟩
                      · exact q3.elim
                    | _ => exact q3.elim
                | ref _ => exact q2.elim
                | nst _ => exact q2.elim
        | _ => simp [bmPre, hm] at hp
    | _ => simp [bmPre] at hp
  · exact q1.elim
/-- i.bit_length() -/
theorem EOk.bits (hK : X.K = Z.K) (ho : EOk X Z xo W n o f) (hb : isCall o = false) (hl : (apos.endLine == pos.line) = true) :
    EOk X Z xo W n (.Call (.Attribute o "bit_length" apos) [] [] pos) (fun env h => (f env h).bind fun x h => if bmPre .bits h x then bm .bits h x [] else .err) := by
  refine EOk.of hK (PE.imp (pe_bits ho.pe (base_of hb) hl) fun σ H Q ⟨S, env, e, i, q⟩ => ?_) (fun _ => rfl)
  subst e
  refine ⟨S, env, rfl, i, (Go.bind (Rel := relD Z) q).mono fun v H1 ⟨d, S1, x, e, r1, q1⟩ => ?_⟩
  subst e
  cases d with
  | a y =>
    cases y with
    | int j =>
      cases r1
      exact ⟨j, rfl, q1 S1 (.int _) (Nx.refl x.ok) rfl (.int _)⟩
    | _ => exact q1.elim
  | _ => exact q1.elim
/-- xs.extend(ys) -/
theorem EOk.extend (hK : X.K = Z.K) (ho : EOk X Z xo W n o f) (hs : AOk X Z xo W n [e] fs) (hb : isCall o = false) (hl : (apos.endLine == pos.line) = true) :
    EOk X Z xo W n (.Call (.Attribute o "extend" apos) [e] [] pos) (fun env h => (f env h).bind fun x h => if bmPre .extend h x then (fs env h).bind fun ds h => bm .extend h x ds else .err) := by
  refine EOk.of hK (PE.imp (pe_bm PySem.F.plainAttrs_list PySem.F.slot_list_extend PySem.F.type_list_extend mt_extend ho.pe hs.pa (base_of hb) (by rw [few_of hs.ns]; rfl) hl (hs.ns.head _) rfl) fun σ H Q ⟨S, env, e, i, q⟩ => ?_) (fun _ => rfl)
  subst e
  refine ⟨S, env, rfl, i, (Go.bind (Rel := relD Z) q).mono fun v H1 ⟨d, S1, x, e, r1, q1⟩ => ?_⟩
  subst e
  split at q1
  · rename_i hp
    cases d with
    | ref m =>
      cases hm : S1.h[m]? with
      | none => simp [bmPre, hm] at hp
      | some z =>
        cases z with
        | lst xs =>
          obtain ⟨qa, us, ev, er, eH, _⟩ := lst_cell x.ok r1 hm
          refine ⟨?_, S1, env, rfl, i.nx x, (Go.bind (Rel := relDs Z) q1).mono fun vs H2 ⟨ds, S2, x2, e, r2, q2⟩ => ?_⟩
          · rw [ev]
            exact .inl ⟨rfl, us, by rw [hK]; exact SqL.of eH⟩
          · subst e
            have r1' := VD.nx x2 r1
            cases ds with
            | nil => exact q2.elim
            | cons d' ds' =>
              cases ds' with
              | cons _ _ => exact q2.elim
              | nil =>
                have q3 : Go Z W n σ (relD Z) S2 (match S2.h[m]? with
                    | some (.lst xs) => (match d'.litems S2.h with
                      | some ys => if xs.length + ys.length ≤ sizeLine then .ok (.a .non) (S2.h.set m (.lst (xs ++ ys))) else .err
                      | none => .err)
                    | _ => .err) Q := q2
                cases hm2 : S2.h[m]? with
                | none => rw [hm2] at q3; exact q3.elim
                | some z2 =>
                  rw [hm2] at q3
                  cases z2 with
                  | lst ys =>
                    dsimp only at q3
                    cases hi : d'.litems S2.h with
                    | none => rw [hi] at q3; exact q3.elim
                    | some zs =>
                      rw [hi] at q3
                      dsimp only at q3
                      split at q3
                      · rename_i hlen
                        obtain ⟨w, ew, rw'⟩ := r2.one
                        subst ew
                        obtain ⟨qa2, us2, ev2, er2, eH2, rl⟩ := lst_cell x2.ok r1' hm2
                        obtain ⟨qb, ub, eb, eHb, rb⟩ := litems_view x2.ok rw' hi
                        subst eb
                        exact ⟨qa2, qb, us2, ub, ev2, rfl, eH2, eHb, by rw [← rl.length, ← rb.length]; exact hlen, Go.putL q3 x2.ok hm2 er2 (rl.append rb)⟩
                      · exact q3.elim
                  | _ => exact q3.elim
        | _ => simp [bmPre, hm] at hp
    | _ => simp [bmPre] at hp
  · exact q1.elim
/-! ### isinstance -/
def tyNm : Ty → String
  | .int => "int" | .bool => "bool" | .str => "str" | .list => "list" | .tuple => "tuple" | .own _ => "?"
def tyTab : List (Str × Ty) := [("int", .int), ("bool", .bool), ("str", .str), ("list", .list), ("tuple", .tuple)]
theorem isi_ok {S : Sa} (ok : S.Ok Z) {d : D} {v : V} {t : Ty} {k : Bool} (ht : ∀ c, t ≠ .own c) (r : VD Z S.r S.F d v) (e : isi S.h d [t] = some k) {Q : VK} (q : Q (.bl k) S.H) : rIsi Z.K [v, .ty (tyNm t)] S.H Q := by
  unfold isi at e
  cases h : d.rd S.h with
  | none => rw [h] at e; cases e
  | some x =>
    rw [h] at e
    have w := rd_view ok r h
    have kt : ∀ (nm : String), kitB nm (tyNm t) = some k → TyX Z.K S.H v (.type nm) → rIsi Z.K [v, .ty (tyNm t)] S.H Q := fun nm h1 h2 => ⟨v, _, .type nm, .type (tyNm t), k, rfl, .ty _, h2, kit_ty h1, q⟩
    cases x with
    | non => cases e; rw [w.non] at kt ⊢; exact kt "NoneType" (by cases t <;> first | exact (ht _ rfl).elim | (simp only [List.any_cons, List.any_nil, tyOf, Bool.or_false]; decide +kernel)) (.base .non)
    | bl b => cases e; rw [w.bl] at kt ⊢; exact kt "bool" (by cases t <;> first | exact (ht _ rfl).elim | (simp only [List.any_cons, List.any_nil, tyOf, Bool.or_false]; decide +kernel)) (.base (.bl _))
    | int b => cases e; rw [w.int] at kt ⊢; exact kt "int" (by cases t <;> first | exact (ht _ rfl).elim | (simp only [List.any_cons, List.any_nil, tyOf, Bool.or_false]; decide +kernel)) (.base (.int _))
    | str b => cases e; rw [w.str.1] at kt ⊢; exact kt "str" (by cases t <;> first | exact (ht _ rfl).elim | (simp only [List.any_cons, List.any_nil, tyOf, Bool.or_false]; decide +kernel)) (.base (.str _))
    | tup xs =>
      cases e
      obtain ⟨p, us, e1, e2, e3⟩ := w.tup
      rw [e1] at kt ⊢
      exact kt "tuple" (by cases t <;> first | exact (ht _ rfl).elim | (simp only [List.any_cons, List.any_nil, tyOf, Bool.or_false]; decide +kernel)) (.base (.tup (ok.le _ _ e2)))
    | lst xs =>
      cases e
      obtain ⟨p, us, e1, e2, e3⟩ := w.lst ok
      rw [e1] at kt ⊢
      exact kt "list" (by cases t <;> first | exact (ht _ rfl).elim | (simp only [List.any_cons, List.any_nil, tyOf, Bool.or_false]; decide +kernel)) (.base (.lst e2))
    | ob _ _ => cases e
    | scr _ => cases e
theorem EOk.isi {y : Str} {t : Ty} {p2 : Pos} (hK : X.K = Z.K) (hg : Gl X "isinstance") (hm : X.mg "isinstance" = none) (hg2 : Gl X y) (hm2 : X.mg y = none) (hy : (y, t) ∈ tyTab) (ha : EOk X Z xo W n a f) (hn : ∀ b p, a ≠ .Starred b p) :
    EOk X Z xo W n (.Call (.Name "isinstance" p) [a, .Name y p2] [] pos) (fun env h => (f env h).bind fun x h => ofO ((isi h x [t]).map fun b => .a (.bl b)) h) := by
  have ns : NoStar [a, .Name y p2] := fun e he => by
    rcases List.mem_cons.mp he with e' | he
    · rw [e']; exact hn
    · rw [List.mem_singleton.mp he]
      intro _ _ z
      cases z
  have all : ∀ p ∈ tyTab, bootBuiltins p.1 = some (.type (tyNm p.2)) ∧ p.1 ≠ "__name__" ∧ (p.1 == ("__debug__" : Str)) = false ∧ (∀ c, p.2 ≠ .own c) := by
    unfold tyTab
    simp only [List.forall_mem_cons, List.not_mem_nil, false_imp_iff, implies_true, and_true]
    refine ⟨?_, ?_, ?_, ?_, ?_⟩
    all_goals exact ⟨by decide +kernel, by decide +kernel, by decide +kernel, fun _ z => nomatch z⟩
  obtain ⟨h1, h2, h3, h4⟩ := all _ hy
  have pt : PE X (.Name y p2) (tC (.ty (tyNm t))) := pe_bltn hg2 hm2 h1 rfl h2 h3
  refine EOk.of hK (PE.imp (pe_callB call_isi hg hm (by decide +kernel) (pa_cons ha.pe (pa_cons pt pa_nil rfl) (ns.head _)) (by decide) (by decide) (ns.head _) (backTo_any ns.tail _)) fun σ H Q ⟨S, env, e, i, q⟩ => ?_) (fun _ => rfl)
  subst e
  refine ⟨S, env, rfl, i, (Go.bind (Rel := relD Z) q).mono fun v H1 ⟨d, S1, x, e, r1, q1⟩ => ?_⟩
  subst e
  obtain ⟨z, e, q2⟩ := q1.ofO
  cases h : MP.isi S1.h d [t] with
  | none => rw [h] at e; cases e
  | some k =>
    rw [h] at e
    cases e
    show rIsi X.K [v, .ty (tyNm t)] S1.H Q
    rw [hK]
    exact isi_ok x.ok h4 r1 h (Go.val q2 x.ok (.bl _))
/-! ### list(range(..)), tuple(range(..)) -/
theorem lrg_ok {S : Sa} {σ : L2.St} {m t : Bool} {i j : Int} {Q : VK} (ok : S.Ok Z) (q : Go Z W n σ (relD Z) S (lrg m t i j S.h) Q) : RgOk i j ∧ ∀ p, S.H p = none → Q (.ref p) (upd S.H p (if t then .tup (rgV i j) else .lst (rgV i j))) := by
  unfold lrg at q
  split at q
  · rename_i h
    simp only [Bool.and_eq_true, decide_eq_true_eq] at h
    have h1 := h.1.1
    have h2 := h.1.2
    unfold rngOk at h1 h2
    simp only [Bool.and_eq_true, decide_eq_true_eq] at h1 h2
    refine ⟨⟨by omega, by omega, by omega, by omega, by omega⟩, ?_⟩
    have r : VAs Z S.F ((List.range (j - i).toNat).map fun (k : Nat) => A.int (i + k)) (rgV i j) := by
      unfold rgV
      have : ∀ l : List Nat, VAs Z S.F (l.map fun (k : Nat) => A.int (i + k)) (l.map fun (k : Nat) => V.int (i + k)) := fun l => by
        induction l with
        | nil => exact .nil
        | cons x l ih => exact .cons (.int _) ih
      exact this _
    cases t with
    | true => exact Go.celT q ok r
    | false => exact Go.celL q ok r
  · exact q.elim
theorem EOk.lrg1 {m t : Bool} {x : Str} {p2 q : Pos} (hK : X.K = Z.K) (hc : X.calm = true) (hx : x = if t then "tuple" else "list") (hg : Gl X x) (hm : X.mg x = none) (hg2 : Gl X "range") (hm2 : X.mg "range" = none) (ha : EOk X Z xo W n a f) (hn : ∀ b p, a ≠ .Starred b p) :
    EOk X Z xo W n (.Call (.Name x p) [.Call (.Name "range" p2) [a] [] q] [] pos) (fun env h => (f env h).bind fun x h => match x with
      | .a (.int j) => MP.lrg m t 0 j h
      | _ => .err) := by
  have pr := prg_1 (p := p2) (pos := q) hg2 hm2 ha.pe ((NoStar.one hn).head _)
  have key : ∀ σ H Q, tI Z xo W n (fun env h => (f env h).bind fun x h => match x with
      | .a (.int j) => MP.lrg m t 0 j h
      | _ => .err) σ H Q → tRg1 (tI Z xo W n f) σ H fun a b H1 => RgOk a b ∧ ∀ q, H1 q = none → Q (.ref q) (upd H1 q (if t then .tup (rgV a b) else .lst (rgV a b))) := fun σ H Q ⟨S, env, e, i, w⟩ => by
    subst e
    refine ⟨S, env, rfl, i, (Go.bind (Rel := relD Z) w).mono fun v H1 ⟨d, S1, x, e, r1, q1⟩ => ?_⟩
    subst e
    cases d with
    | a y =>
      cases y with
      | int j =>
        cases r1
        exact ⟨j, rfl, lrg_ok x.ok q1⟩
      | _ => exact q1.elim
    | _ => exact q1.elim
  cases t with
  | true =>
    subst hx
    exact EOk.of hK (PE.imp (pe_tupRg hc hg hm pr) fun σ H Q w => key σ H Q w) fun _ => rfl
  | false =>
    subst hx
    exact EOk.of hK (PE.imp (pe_listRg hc hg hm pr) fun σ H Q w => key σ H Q w) fun _ => rfl
theorem EOk.lrg2 {m t : Bool} {x : Str} {p2 q : Pos} (hK : X.K = Z.K) (hc : X.calm = true) (hx : x = if t then "tuple" else "list") (hg : Gl X x) (hm : X.mg x = none) (hg2 : Gl X "range") (hm2 : X.mg "range" = none) (ha : EOk X Z xo W n a f) (hb : EOk X Z xo W n b g) (hn : ∀ b p, a ≠ .Starred b p) (hn2 : ∀ c p, b ≠ .Starred c p) :
    EOk X Z xo W n (.Call (.Name x p) [.Call (.Name "range" p2) [a, b] [] q] [] pos) (fun env h => (f env h).bind fun x h => (g env h).bind fun y h => match x, y with
      | .a (.int i), .a (.int j) => MP.lrg m t i j h
      | _, _ => .err) := by
  have ns : NoStar [a, b] := fun e he => by
    rcases List.mem_cons.mp he with e' | he
    · rw [e']; exact hn
    · rw [List.mem_singleton.mp he]; exact hn2
  have pr := prg_2 (p := p2) (pos := q) hg2 hm2 ha.pe hb.pe (ns.head _) (ns.tail.head _) (backTo_any ns.tail _)
  have key : ∀ σ H Q, tI Z xo W n (fun env h => (f env h).bind fun x h => (g env h).bind fun y h => match x, y with
      | .a (.int i), .a (.int j) => MP.lrg m t i j h
      | _, _ => .err) σ H Q → tRg2 (tI Z xo W n f) (tI Z xo W n g) σ H fun a b H1 => RgOk a b ∧ ∀ q, H1 q = none → Q (.ref q) (upd H1 q (if t then .tup (rgV a b) else .lst (rgV a b))) := fun σ H Q ⟨S, env, e, i, w⟩ => by
    subst e
    refine ⟨S, env, rfl, i, (Go.bind (Rel := relD Z) w).mono fun v H1 ⟨d, S1, x, e, r1, q1⟩ => ?_⟩
    subst e
    refine ⟨S1, env, rfl, i.nx x, (Go.bind (Rel := relD Z) q1).mono fun v2 H2 ⟨d2, S2, x2, e, r2, q2⟩ => ?_⟩
    subst e
    split at q2
    · cases r1
      cases r2
      exact ⟨_, _, rfl, rfl, lrg_ok x2.ok q2⟩
    · exact q2.elim
  cases t with
  | true =>
    subst hx
    exact EOk.of hK (PE.imp (pe_tupRg hc hg hm pr) fun σ H Q w => key σ H Q w) fun _ => rfl
  | false =>
    subst hx
    exact EOk.of hK (PE.imp (pe_listRg hc hg hm pr) fun σ H Q w => key σ H Q w) fun _ => rfl
end
end MP
end
section
set_option Elab.async false
set_option linter.all false
set_option maxRecDepth 100000
set_option maxHeartbeats 2000000
/-! MP: what one iterates over. -/
namespace MP
open PySem PySem.Spec L2
open PyProof.Rows hiding St
/-- an iterator gives these, while the states go on -/
def WalkD (Z : Ad) (J : L2.It) (xs : List D) (S : Sa) : Prop :=
  ∃ (G : Hp → Prop) (Y : Nat → Hp → V → Hp → Prop), Walk J xs.length G Y ∧ (∀ S', Ex Z S S' → G S'.H) ∧
    ∀ S' i x H', Ex Z S S' → i < xs.length → Y i S'.H x H' → ∃ S'' d, (∀ k, Nx Z k S' S'') ∧ S''.h = S'.h ∧ S''.H = H' ∧ xs[i]? = some d ∧ VD Z S''.r S''.F d x
def relW (Z : Ad) : Sa → List D → L2.It → Prop := fun S xs J => WalkD Z J xs S
structure IOk (X : Cx) (Z : Ad) (xo : Option Xo) (W : WX) (n : Nat) (tg iter : Expr) (f : MP.Env → Mem → R (List D)) : Prop where
  pi : PI X tg iter (tG Z xo W n (relW Z) f)
  fs : ∀ env x, foldedSetIterable iter env x = pure x
section
variable {X : Cx} {tg iter : Expr} {t1 t2 t : TI}
theorem PI.or (h1 : PI X tg iter t1) (h2 : PI X tg iter t2) (h : ∀ σ H Q, t σ H Q → t1 σ H Q ∨ t2 σ H Q) : PI X tg iter t := ⟨fun pins s σ H R I w => (h σ H R w).elim (h1.run pins s σ H R I) (h2.run pins s σ H R I)⟩
theorem PI.imp (h1 : PI X tg iter t1) (h : ∀ σ H Q, t σ H Q → t1 σ H Q) : PI X tg iter t := ⟨fun pins s σ H R I w => h1.run pins s σ H R I (h σ H R w)⟩
end
section
variable {X : Cx} {Z : Ad} {xo : Option Xo} {n : Nat} {W : WX} {S S' : Sa} {a b c e tg : Expr} {f g k : MP.Env → Mem → R D} {pos p : Pos}
theorem VDs.back {r : List Addr} {F : Hp} : ∀ {xs : List D} {vs : List V} {i : Nat} {v : V}, VDs Z r F xs vs → vs[i]? = some v → ∃ d, xs[i]? = some d ∧ VD Z r F d v
  | _, _, _, _, .nil, e => by simp at e
  | _, _, 0, _, .cons r _, e => by simp at e; subst e; exact ⟨_, rfl, r⟩
  | _, _, i + 1, x, .cons _ t, e => by
    obtain ⟨v, h1, h2⟩ := VDs.back (i := i) (v := x) t (by simpa using e)
    exact ⟨v, by simpa using h1, h2⟩
theorem VAs.back {F : Hp} : ∀ {xs : List A} {vs : List V} {i : Nat} {v : V}, VAs Z F xs vs → vs[i]? = some v → ∃ d, xs[i]? = some d ∧ VA Z F d v
  | _, _, _, _, .nil, e => by simp at e
  | _, _, 0, _, .cons r _, e => by simp at e; subst e; exact ⟨_, rfl, r⟩
  | _, _, i + 1, x, .cons _ t, e => by
    obtain ⟨v, h1, h2⟩ := VAs.back (i := i) (v := x) t (by simpa using e)
    exact ⟨v, by simpa using h1, h2⟩
theorem WalkD.list {a : Addr} {vs : List V} {xs : List D} (hq : SqL Z.K S.F a vs) (r : VDs Z S.r S.F xs vs) : WalkD Z (Itl Z.K a) xs S := by
  refine ⟨fun H => SqL Z.K H a vs, YAt vs, by rw [r.length]; exact walk_list, fun S' x => SqL.le (Le.trans x.le x.ok.le) hq, fun S' i x H' nx hi y => ?_⟩
  obtain ⟨e, y⟩ := y
  obtain ⟨d, h1, h2⟩ := (VDs.ex nx r).back y
  exact ⟨S', d, fun k => Nx.refl nx.ok, rfl, e.symm, h1, h2⟩
theorem WalkD.tup {a : Addr} {vs : List V} {xs : List D} (hq : SqT Z.K S.F a vs) (r : VDs Z S.r S.F xs vs) : WalkD Z (Itt Z.K a) xs S := by
  refine ⟨fun H => SqT Z.K H a vs, YAt vs, by rw [r.length]; exact walk_tup, fun S' x => SqT.le (Le.trans x.le x.ok.le) hq, fun S' i x H' nx hi y => ?_⟩
  obtain ⟨e, y⟩ := y
  obtain ⟨d, h1, h2⟩ := (VDs.ex nx r).back y
  exact ⟨S', d, fun k => Nx.refl nx.ok, rfl, e.symm, h1, h2⟩
theorem WalkD.rng {lo : Int} {m : Nat} : WalkD Z (Itr lo m) (rngL lo m) S := by
  have hl : (rngL lo m).length = m := by unfold rngL; simp
  refine ⟨_, _, by rw [hl]; exact walk_range, fun _ _ => trivial, fun S' i x H' nx hi y => ?_⟩
  obtain ⟨e, y⟩ := y
  rw [hl] at hi
  refine ⟨S', .a (.int (lo + i)), fun k => Nx.refl nx.ok, rfl, e.symm, ?_, by rw [y]; exact .int _⟩
  unfold rngL
  rw [List.getElem?_map, List.getElem?_range hi]
  rfl
theorem WalkD.rngC {lo c : Int} {m : Nat} : WalkD Z (Itc lo c m) (rngC lo c m) S := by
  have hl : (MP.rngC lo c m).length = m := by unfold MP.rngC; simp
  refine ⟨_, _, by rw [hl]; exact walk_rangeC, fun _ _ => trivial, fun S' i x H' nx hi y => ?_⟩
  obtain ⟨e, y⟩ := y
  rw [hl] at hi
  refine ⟨S', .a (.int (lo + i * c)), fun k => Nx.refl nx.ok, rfl, e.symm, ?_, by rw [y]; exact .int _⟩
  unfold MP.rngC
  rw [List.getElem?_map, List.getElem?_range hi]
  rfl
/-- new pairs -/
theorem WalkD.pairs {J : L2.It} {m : Nat} {G : Hp → Prop} {xf yf : Nat → Option V} {zs : List (A × A)} (w : Walk J m G (YPair xf yf)) (hl : zs.length = m) (hG : ∀ S', Ex Z S S' → G S'.H)
    (hx : ∀ i x, i < m → xf i = some x → ∃ p, zs[i]? = some p ∧ VA Z S.F p.1 x) (hy : ∀ i y, i < m → yf i = some y → ∃ p, zs[i]? = some p ∧ VA Z S.F p.2 y) :
    WalkD Z J (zs.map fun p => .a (.tup [p.1, p.2])) S := by
  refine ⟨G, _, by rw [List.length_map, hl]; exact w, hG, fun S' i v H' nx hi y => ?_⟩
  rw [List.length_map, hl] at hi
  obtain ⟨T, x, z, e1, e2, e3, e4, e5⟩ := y
  obtain ⟨p, h1, h2⟩ := hx i x hi e4
  obtain ⟨q, h3, h4⟩ := hy i z hi e5
  rw [h1] at h3
  cases h3
  have le1 : Le S'.F (upd S'.F T (.tup [x, z])) := (nx.ok.lay (n := 0) e2 _).le
  refine ⟨⟨S'.r, upd S'.F T (.tup [x, z]), S'.h, upd S'.H T (.tup [x, z])⟩, .a (.tup [p.1, p.2]), fun k => nx.ok.lay e2 _, rfl, e3.symm, by rw [List.getElem?_map, h1]; rfl, ?_⟩
  rw [e1]
  exact .tup (show upd S'.F T _ T = _ from upd_same) (.cons ((h2.le nx.le).le le1) (.cons ((h4.le nx.le).le le1) .nil))
/-! ### over a value -/
theorem IOk.seq (hK : X.K = Z.K) (ha : EOk X Z xo W n a f) (hs : ∀ env x, foldedSetIterable a env x = pure x) : IOk X Z xo W n tg a (fun env h => (f env h).bind fun x h => match x with
    | .ref _ => .err
    | x => ofO (x.its h) h) := by
  refine ⟨PI.or (pi_list ha.pe) (pi_tup ha.pe) fun σ H Q ⟨S, env, e, i, q⟩ => ?_, hs⟩
  subst e
  cases hf : f env S.h with
  | err =>
    dsimp only at q
    rw [hf] at q
    exact q.elim
  | exc c x h =>
    dsimp only at q
    rw [hf] at q
    refine .inl ⟨S, env, rfl, i, ?_⟩
    rw [hf]
    exact q
  | ok d h =>
    dsimp only at q
    rw [hf] at q
    have q1 : Go Z W n σ (relW Z) S ((fun (x : D) (h : Mem) => (match x with
      | .ref _ => (.err : R (List D))
      | x => ofO (x.its h) h)) d h) Q := q
    clear q
    -- the two roads
    have go : (∀ S' v, Nx Z n S S' → S'.h = h → VD Z S'.r S'.F d v → ∃ a, v = .ref a ∧ (∃ xs, SqL Z.K S'.H a xs) ∧ Q (Itl Z.K a) S'.H) ∨ (∀ S' v, Nx Z n S S' → S'.h = h → VD Z S'.r S'.F d v → ∃ a, v = .ref a ∧ (∃ xs, SqT Z.K S'.H a xs) ∧ Q (Itt Z.K a) S'.H) := by
      cases d with
      | ref m => exact q1.elim
      | nst ns =>
        refine .inl fun S' v nx eh r => ?_
        obtain ⟨p, as, e1, e2, e3⟩ := r
        have q2 : Go Z W n σ (relW Z) S (.ok (ns.map D.ref) h) Q := q1
        refine ⟨p, e1, ⟨_, SqL.of (nx.ok.le _ _ e2)⟩, q2 S' _ nx eh (WalkD.list (SqL.of e2) ?_)⟩
        have : ∀ {ns : List Nat} {as : List Addr}, ns.map (fun n => S'.r[n]?) = as.map some → VDs Z S'.r S'.F (ns.map D.ref) (as.map V.ref) := by
          intro ns
          induction ns with
          | nil => intro as h; cases as with
            | nil => exact .nil
            | cons _ _ => simp at h
          | cons m ns ih =>
            intro as h
            cases as with
            | nil => simp at h
            | cons b as =>
              simp only [List.map_cons, List.cons.injEq] at h
              exact .cons ⟨b, rfl, h.1⟩ (ih h.2)
        exact this e3
      | a y =>
        cases y with
        | tup xs =>
          refine .inr fun S' v nx eh r => ?_
          cases r with
          | tup h1 h2 =>
            have q2 : Go Z W n σ (relW Z) S (.ok (xs.map D.a) h) Q := q1
            exact ⟨_, rfl, ⟨_, SqT.of (nx.ok.le _ _ h1)⟩, q2 S' _ nx eh (WalkD.tup (SqT.of h1) h2.toD)⟩
        | lst xs =>
          refine .inl fun S' v nx eh r => ?_
          cases r with
          | lst h1 h2 =>
            have q2 : Go Z W n σ (relW Z) S (.ok (xs.map D.a) h) Q := q1
            exact ⟨_, rfl, ⟨_, SqL.of (nx.ok.le _ _ h1)⟩, q2 S' _ nx eh (WalkD.list (SqL.of h1) h2.toD)⟩
        | scr xs =>
          refine .inl fun S' v nx eh r => ?_
          cases r with
          | scr h1 =>
            have q2 : Go Z W n σ (relW Z) S (.ok ((xs.map A.int).map D.a) h) Q := q1
            exact ⟨_, rfl, ⟨_, SqL.le nx.ok.le h1⟩, q2 S' _ nx eh (WalkD.list h1 (VAs.ints xs).toD)⟩
        | _ => exact q1.elim
    rw [← hK] at go
    rcases go with go | go
    · refine .inl ⟨S, env, rfl, i, ?_⟩
      rw [hf]
      exact go
    · refine .inr ⟨S, env, rfl, i, ?_⟩
      rw [hf]
      exact go
/-! ### range -/
theorem rngOk_ok {i : Int} (h : rngOk i = true) : -(2 ^ 62) ≤ i ∧ i < 2 ^ 62 := by
  unfold rngOk at h
  simp only [Bool.and_eq_true, decide_eq_true_eq] at h
  exact ⟨by omega, by omega⟩
theorem IOk.rng1 {fs : MP.Env → Mem → R D} (hg : Gl X "range") (hm : X.mg "range" = none) (ha : EOk X Z xo W n a f) (hn : ∀ b p, a ≠ .Starred b p) : IOk X Z xo W n tg (.Call (.Name "range" p) [a] [] pos) (fun env h => (f env h).bind fun x h => match x with
    | .a (.int n) => if rngOk n then .ok (rngL 0 n.toNat) h else .err
    | _ => .err) := by
  refine ⟨PI.imp (pi_range1 hg hm (pa_cons ha.pe pa_nil ((NoStar.one hn).head _)) ((NoStar.one hn).head _)) fun σ H Q ⟨S, env, e, i, q⟩ => ?_, fun _ _ => rfl⟩
  subst e
  refine ⟨S, env, rfl, i, (Go.bind (Rel := relD Z) q).mono fun v H1 ⟨d, S1, x, e, r1, q1⟩ => ?_⟩
  subst e
  cases d with
  | a y =>
    cases y with
    | int j =>
      cases r1
      dsimp only at q1
      split at q1
      · rename_i hr
        obtain ⟨h1, h2⟩ := rngOk_ok hr
        exact ⟨j, rfl, h1, h2, Go.val q1 x.ok WalkD.rng⟩
      · exact q1.elim
    | _ => exact q1.elim
  | _ => exact q1.elim
theorem NoStar.two (h : ∀ b p, a ≠ .Starred b p) (h2 : ∀ c p, b ≠ .Starred c p) : NoStar [a, b] := fun e he => by
  rcases List.mem_cons.mp he with e' | he
  · rw [e']; exact h
  · rw [List.mem_singleton.mp he]; exact h2
theorem NoStar.three (h : ∀ b p, a ≠ .Starred b p) (h2 : ∀ c p, b ≠ .Starred c p) (h3 : ∀ b p, c ≠ .Starred b p) : NoStar [a, b, c] := fun e he => by
  rcases List.mem_cons.mp he with e' | he
  · rw [e']; exact h
  · exact NoStar.two h2 h3 e he
theorem IOk.rng2 (hg : Gl X "range") (hm : X.mg "range" = none) (ha : EOk X Z xo W n a f) (hb : EOk X Z xo W n b g) (hn : ∀ b p, a ≠ .Starred b p) (hn2 : ∀ c p, b ≠ .Starred c p) : IOk X Z xo W n tg (.Call (.Name "range" p) [a, b] [] pos) (fun env h => (f env h).bind fun x h => (g env h).bind fun y h => match x, y with
    | .a (.int i), .a (.int j) => if rngOk i && rngOk j then .ok (rngL i (j - i).toNat) h else .err
    | _, _ => .err) := by
  have ns : NoStar [a, b] := NoStar.two hn hn2
  refine ⟨PI.imp (pi_range2 hg hm (pa_cons ha.pe (pa_cons hb.pe pa_nil (ns.tail.head _)) (ns.head _)) (by rw [ns.head, ns.tail.head]; rfl) (ns.tail.head _)) fun σ H Q ⟨S, env, e, i, q⟩ => ?_, fun _ _ => rfl⟩
  subst e
  refine ⟨S, env, rfl, i, (Go.bind (Rel := relD Z) q).mono fun v H1 ⟨d, S1, x, e, r1, q1⟩ => ?_⟩
  subst e
  refine ⟨S1, env, rfl, i.nx x, (Go.bind (Rel := relD Z) q1).mono fun v2 H2 ⟨d2, S2, x2, e, r2, q2⟩ => ?_⟩
  subst e
  split at q2
  · cases r1
    cases r2
    split at q2
    · rename_i hr
      rw [Bool.and_eq_true] at hr
      obtain ⟨h1, h2⟩ := rngOk_ok hr.1
      obtain ⟨h3, h4⟩ := rngOk_ok hr.2
      exact ⟨_, _, rfl, ⟨h1, h2, h3, h4⟩, Go.val q2 x2.ok WalkD.rng⟩
    · exact q2.elim
  · exact q2.elim
end
end MP
end
section
set_option Elab.async false
set_option linter.all false
set_option maxRecDepth 100000
set_option maxHeartbeats 2000000
/-! MP: enumerate and zip over lists and tuples in any mix. -/
namespace MP
open PySem PySem.Spec L2
open PyProof.Rows hiding St
/-- a list (false), a tuple (true) -/
def SqOf (K : PySem.W.Frag) (t : Bool) (H : Hp) (a : Addr) (xs : List V) : Prop := match t with
  | true => SqT K H a xs
  | false => SqL K H a xs
def IterOf (t : Bool) (h : Heap) (it a : Addr) (i : Nat) : Prop := match t with
  | true => h.IsTupleIter it a i
  | false => h.IsListIter it a i
def SeqOf (t : Bool) (h : Heap) (a : Addr) (its : Array Value) : Prop := match t with
  | true => h.IsTuple a its
  | false => h.IsList a its
section
variable {X : Cx} {pins : List (Addr × Obj)} {σ : St} {H : Hp} {s : Shared} {t : Bool} {a it : Addr} {xs : List V} {h h' : Heap} {i : Nat} {its : Array Value}
theorem seq_of (I : Inv X pins σ H s) (q : SqOf X.K t H a xs) : ∃ its : List Value, Vals xs its ∧ SeqOf t s.heap a its.toArray ∧ ∀ ys, SqOf X.K t H a ys → ys = xs := by
  cases t with
  | true =>
    obtain ⟨its, rv, p, hz⟩ := I.tuple q
    exact ⟨its, rv, p, fun ys hy => I.tuple_inj hy q⟩
  | false =>
    obtain ⟨its, rv, p, hz⟩ := I.list q
    exact ⟨its, rv, p.isList, fun ys hy => I.list_inj hy q⟩
theorem IterOf.live (x : IterOf t h it a i) : ∃ o, h.get? it = some o ∧ (o.cls = .type "tuple_iterator" ∨ o.cls = .type "list_iterator") ∧ ∀ v, o.data ≠ .cell v := by
  cases t with
  | true =>
    obtain ⟨o, e, c, d⟩ := x
    exact ⟨o, e, .inl c, fun v z => by rw [d] at z; cases z⟩
  | false =>
    obtain ⟨o, e, c, d⟩ := x
    exact ⟨o, e, .inr c, fun v z => by rw [d] at z; cases z⟩
theorem SeqOf.live (x : SeqOf t h a its) : ∃ o, h.get? a = some o ∧ (o.cls = .type "tuple" ∨ o.cls = .type "list") := by
  cases t with
  | true =>
    obtain ⟨o, e, c, d⟩ := x
    exact ⟨o, e, .inl c⟩
  | false =>
    obtain ⟨o, e, c, d⟩ := x
    exact ⟨o, e, .inr c⟩
theorem iter_ne {t' : Bool} (x : IterOf t h it a i) {b : Addr} (y : SeqOf t' h b its) : b ≠ it := fun e => by
  obtain ⟨o, e1, c1, _⟩ := x.live
  obtain ⟨o', e2, c2⟩ := y.live
  rw [e, e1] at e2
  cases e2
  rcases c1 with c1 | c1 <;> rcases c2 with c2 | c2 <;> (rw [c1] at c2; simp at c2)
theorem IterOf.at (x : IterOf t h it a i) (k : ∀ o, h.get? it = some o → h'.get? it = some o) : IterOf t h' it a i := by
  cases t with
  | true => exact Heap.IsTupleIter.at x k
  | false => exact Heap.IsListIter.at x k
theorem SeqOf.at (x : SeqOf t h a its) (k : ∀ o, h.get? a = some o → h'.get? a = some o) : SeqOf t h' a its := by
  cases t with
  | true => exact Heap.IsTuple.at x k
  | false => exact Heap.IsList.at x k
theorem draws_of {prog : Program} {w : World} {A : Around} (hh : A.handled = none) (t : Bool) (it a : Addr) (hne : a ≠ it) (its : Array Value) :
    Draws prog w A it [it, a] its.size (fun i v => its[i]? = some v) (fun i h => IterOf t h it a i ∧ SeqOf t h a its) := by
  cases t with
  | true => exact Draws.tuple hh it a hne its
  | false => exact Draws.list hh it a hne its
def iterObj (t : Bool) (a : Addr) : Obj := match t with
  | true => { cls := .type "tuple_iterator", data := .fields #[.ref a, .int 0 0] }
  | false => { cls := .type "list_iterator", data := .fields #[.ref a, .int 0 0] }
theorem begins_of (t : Bool) (a : Addr) (its : Array Value) : Begins (.ref a) (iterObj t a) fun h => SeqOf t h a its := by
  cases t with
  | true => exact begins_tuple a its
  | false => exact begins_list a its
theorem iter_new (e : h.get? it = some (iterObj t a)) : IterOf t h it a 0 := by
  cases t with
  | true => exact ⟨_, e, rfl, rfl⟩
  | false => exact ⟨_, e, rfl, rfl⟩
end
/-! ### enumerate -/
def IteX (K : PySem.W.Frag) (t : Bool) (a : Addr) : L2.It :=
  ⟨fun i H => ∃ (xs : List V) (x : V), SqOf K t H a xs ∧ xs[i]? = some x, fun i H v H' => ∃ T x, v = .ref T ∧ H T = none ∧ H' = upd H T (.tup [.int (i : Nat), x]) ∧ ∀ xs, SqOf K t H a xs → xs[i]? = some x, fun i H => ∃ xs : List V, SqOf K t H a xs ∧ xs.length = i⟩
theorem turn_enumX {P : Program} {w : World} {K : PySem.W.Frag} {elts : List Expr} {kk : Nat} {tpos : Pos} (t : Bool) (a e it : Addr) :
    Turn P w K (.Tuple elts kk tpos) (IteX K t a) [e, it] e (fun i h => (∃ old, IsEnum h e it ((i : Nat) : Int) old) ∧ IterOf t h it a i ∧ e ≠ it) where
  mem := by simp
  obj := fun i h st b hb => by
    obtain ⟨⟨old, he⟩, hit, _⟩ := st
    obtain ⟨o, ho, hc, hd⟩ := hit.live
    have e' : b = e ∨ b = it := by simpa using hb
    rcases e' with z | z
    · rw [z]; exact ⟨_, he, fun v q => nomatch q⟩
    · rw [z]; exact ⟨o, ho, hd⟩
  keep := fun i h h' st k => let ⟨⟨old, he⟩, hi, hne⟩ := st; ⟨⟨old, k e (by simp) _ he⟩, hi.at fun o q => k it (by simp) o q, hne⟩
  item := by
    intro X hP hw hK hc i pins s σ H E I hf st hg
    subst hP hw hK
    obtain ⟨⟨old, he⟩, hit, hne⟩ := st
    obtain ⟨xs, x, hq, hx⟩ := hg
    obtain ⟨its, rv, p, hinj⟩ := seq_of I hq
    obtain ⟨u, hu, ru⟩ := rv.get hx
    have hel : e < s.heap.objs.size := Heap.lt_size he
    have hil : it < s.heap.objs.size := by obtain ⟨_, q, _⟩ := hit.live; exact Heap.lt_size q
    have hai : a ≠ it := iter_ne hit p
    have hea : e ≠ a := fun z => by
      obtain ⟨o, q, c⟩ := p.live
      rw [← z, he] at q
      cases q
      rcases c with c | c <;> simp at c
    have hii : i < its.toArray.size := by
      have := (List.getElem?_eq_some_iff.mp hu).1
      simpa using this
    refine wpAny_pyNext_enum_itemD (draws_of (A := X.A.in1) (show X.A.in1.handled = none from I.ok.hd hc) t it a hai its.toArray) he ⟨hit, p⟩ hii hne (by simp [hne, hea]) fun u' h' tk hP' ho hst' hT hsz hk => ?_
    obtain ⟨hit', _⟩ := hst'
    have eu : u' = u := by
      have h1 : its[i]? = some u' := by simpa using hP'
      rw [hu] at h1
      exact (Option.some.inj h1).symm
    subst eu
    refine ⟨_, rfl, wpAny_letOwnedTupleGo_enum (s := { s with heap := h', toks := tk + 1 }) ho fun h'' he' sb => ?_⟩
    have hT2 : h''.get? s.heap.objs.size = some { cls := .type "tuple", data := .seq #[.int i tk, u'] } := (sb.2 _ (Nat.ne_of_gt hel)).trans hT
    have new : ObjOk X.prog X.w (upd H s.heap.objs.size (.tup [.int (i : Nat), x])) h'' s.heap.objs.size (.tup [.int (i : Nat), x]) :=
      ⟨by show 2 ≤ sizeLine; decide, [.int i tk, u'], .cons ⟨_, rfl⟩ (.cons ru .nil), ⟨_, hT2, rfl, _, rfl⟩⟩
    have I1 : Inv X pins σ (upd H s.heap.objs.size (.tup [.int (i : Nat), x])) { s with heap := h'', toks := tk + 1 } :=
      I.turnedNew (ch := [e, it]) (fun b ob hb q => (sb.2 b (fun z => hb (by simp [z]))).trans (hk b ob (fun z => hb (by simp [z])) (fun z => hb (by simp [z])) q)) hf (Nat.le_refl _) new
    refine ⟨.ref s.heap.objs.size, _, I1, rfl, ⟨_, x, rfl, I.hok.fresh (Nat.le_refl _), rfl, fun ys hy => by rw [hinj ys hy]; exact hx⟩, ⟨⟨u', ?_⟩, hit'.at fun o q => (sb.2 it (Ne.symm hne)).trans q, hne⟩, fun b hb => ?_⟩
    · have e1 : ((i + 1 : Nat) : Int) = (i : Int) + 1 := by omega
      rw [e1]; exact he'
    · have hb' : b < s.heap.objs.size := by
        have e' : b = e ∨ b = it := by simpa using hb
        rcases e' with z | z
        · rw [z]; exact hel
        · rw [z]; exact hil
      rw [upd_ne (Nat.ne_of_lt hb')]
      exact (hf b hb).1
  done := by
    intro X hP hw hK hc i pins s σ H E I hf st hg
    subst hP hw hK
    obtain ⟨⟨old, he⟩, hit, hne⟩ := st
    obtain ⟨xs, hq, hx⟩ := hg
    obtain ⟨its, rv, p, hinj⟩ := seq_of I hq
    obtain ⟨f0, f1, f2, f3, f4, f5⟩ := hf it (by simp)
    have hl := rv.length
    have hai : a ≠ it := iter_ne hit p
    have ei : i = its.toArray.size := by simp; omega
    refine wpAny_pyNext_enum_endD (draws_of (A := X.A.in1) (show X.A.in1.handled = none from I.ok.hd hc) t it a hai its.toArray) he ?_ fun h' eb => ⟨rfl, I.turned (t' := s.toks) (fun b o hb q => eb b o hb q) f0 f1 f3 f4 f5⟩
    rw [← ei]
    exact ⟨hit, p⟩
  self := fun A i s Q E st h => let ⟨⟨_, he⟩, _⟩ := st; wpAny_pyIter_enum he h
theorem walk_enumX {K : PySem.W.Frag} {t : Bool} {a : Addr} {xs : List V} : Walk (IteX K t a) xs.length (fun H => SqOf K t H a xs) (YPair (fun i => some (.int (i : Nat))) (fun i => xs[i]?)) := by
  refine ⟨fun i _ hi q => ⟨xs, xs[i], q, by simp [hi]⟩, fun _ q => ⟨xs, q, rfl⟩, fun i H v H' _ q y => ?_⟩
  obtain ⟨T, x, h1, h2, h3, h4⟩ := y
  exact ⟨T, .int (i : Nat), x, h1, h2, h3, rfl, h4 xs q⟩
theorem meets_enumerate_newT {v : Value} {o : Obj} {H : Heap → Prop} (B : Begins v o H) :
    Meets (Builtin.«enumerate.__new__» ⟨[.type "enumerate", v], []⟩) (fun _ R s => H s.heap ∧
      R (.ok (.ret (.ref (s.heap.push o).objs.size))) { s with heap := (s.heap.push o).push { cls := .type "enumerate", data := .fields #[.none, .bool false, .ref s.heap.objs.size, rawInt 0, .none, .none] } }) :=
  .of_wp fun prog w A R s h => by
    obtain ⟨hp, g, d, tk, os⟩ := s
    obtain ⟨h1, h⟩ := h
    have hsub := sub_enumerate
    have q1 : ∀ {A' : Around} {E : Value → Shared → Prop} {Q : Value → Shared → Prop}, Q (.ref hp.objs.size) ⟨hp.push o, g, d, tk, os⟩ → wpAny (model prog w) A' (pyIter v) Q E ⟨hp, g, d, tk, os⟩ :=
      fun q => B.iter prog w _ _ ⟨hp, g, d, tk, os⟩ _ h1 q
    wp_walk using q1
    refine wpAny_stack_any fun st => wpAny_pure ?_
    split
    · rename_i c _ _ _ _ _
      cases (c == Value.type "enumerate")
      · wp_walk using q1
        exact ⟨_, rfl, h⟩
      · wp_walk using q1
        exact ⟨_, rfl, h⟩
    · wp_walk using q1
      exact ⟨_, rfl, h⟩
theorem enum_begins1 {prog : Program} {w : World} {A : Around} {E : Value → Shared → Prop} {s : Shared} {v : Value} {o : Obj} {H : Heap → Prop} {Q : Value → Shared → Prop} (B : Begins v o H) (h1 : H s.heap)
    (h : ∀ h', IsEnum h' (s.heap.objs.size + 1) s.heap.objs.size 0 .none → h'.get? s.heap.objs.size = some o → h'.objs.size = s.heap.objs.size + 2 →
      (∀ b o, s.heap.get? b = some o → h'.get? b = some o) → Q (.ref (s.heap.objs.size + 1)) { s with heap := h' }) :
    wpAny (model prog w) A (call (.type "enumerate") [v]) Q E s := by
  refine callType_new F.called_enumerate (by decide) (F.typeCall_enumerate_1 _) (F.newCall_enumerate_1 _) (fun obj => F.args_object_init_2 obj _) F.entry_enumerate_new
    (meets_enumerate_newT B) ⟨h1, ?_⟩
  have hz : (s.heap.push o).objs.size = s.heap.objs.size + 1 := Heap.size_push ..
  show _ ∧ _
  rw [hz]
  have he : IsEnum ((s.heap.push o).push { cls := .type "enumerate", data := .fields #[.none, .bool false, .ref s.heap.objs.size, rawInt 0, .none, .none] }) (s.heap.objs.size + 1) s.heap.objs.size 0 .none := by
    have := Heap.get?_push_size (s.heap.push o) (o := { cls := .type "enumerate", data := .fields #[.none, .bool false, .ref s.heap.objs.size, rawInt 0, .none, .none] }) rfl
    rw [hz] at this; exact this
  exact ⟨⟨_, he, rfl⟩, h _ he (Heap.get?_push_of_some _ (Heap.get?_push_size _ B.free)) (by rw [Heap.size_push, hz]) fun b o x => Heap.get?_push_of_some _ (Heap.get?_push_of_some _ x)⟩
def iEnumX (K : PySem.W.Frag) (ta : TA) : TI := fun σ H R => ta σ H fun vs H1 => ∃ t a xs, vs = [.ref a] ∧ SqOf K t H1 a xs ∧ R (IteX K t a) H1
theorem pi_enumX {X : Cx} {e : Expr} {ta : TA} {p pos tpos : Pos} {elts : List Expr} {kk : Nat} (hg : Gl X "enumerate") (hm : X.mg "enumerate" = none) (ha : PA X [e] ta) (hs : starEach [e] X.env = [(false, eval e X.env)] := by rfl) :
    PI X (.Tuple elts kk tpos) (.Call (.Name "enumerate" p) [e] [] pos) (iEnumX X.K ta) := by
  refine ⟨fun pins s σ H R I h => ?_⟩
  refine Call_ (ld_blt I hg hm boot_enumerate (PyProof.Rows.callWith_type1 (thn (ha.run pos pins s σ H _ I h) fun us s1 ⟨vs, H1, I1, r1, q1⟩ => ?_) hs rfl))
  obtain ⟨t, a, xs, ex, hq, q⟩ := q1
  subst ex
  cases r1 with
  | cons r rr =>
    cases rr
    cases r
    obtain ⟨its, rv, p', hinj⟩ := seq_of I1 hq
    refine enum_begins1 (begins_of t a its.toArray) p' fun h' he hit hsz hk => wpAny_pyIter_enum he ?_
    have I2 : Inv X pins σ H1 { s1 with heap := h' } := I1.kept (t' := s1.toks) hk
    refine ⟨s1.heap.objs.size + 1, [s1.heap.objs.size + 1, s1.heap.objs.size], _, _, H1, rfl, I2, turn_enumX t a (s1.heap.objs.size + 1) s1.heap.objs.size, ⟨⟨.none, he⟩, iter_new hit, Nat.succ_ne_self _⟩, fun b hb => ?_, q⟩
    have e' : b = s1.heap.objs.size + 1 ∨ b = s1.heap.objs.size := by simpa using hb
    have hle : s1.heap.objs.size ≤ b := by
      rcases e' with z | z
      · rw [z]; exact Nat.le_add_right _ _
      · rw [z]; exact Nat.le_refl _
    exact I1.fpOk hle (I1.hok.fresh hle)
end MP
namespace MP
open PySem PySem.Spec L2
open PyProof.Rows hiding St
/-! ### zip -/
def ItzX (K : PySem.W.Frag) (t1 t2 : Bool) (a b : Addr) : L2.It :=
  ⟨fun i H => ∃ (xs ys : List V) (x y : V), SqOf K t1 H a xs ∧ SqOf K t2 H b ys ∧ xs[i]? = some x ∧ ys[i]? = some y,
    fun i H v H' => ∃ T x y, v = .ref T ∧ H T = none ∧ H' = upd H T (.tup [x, y]) ∧ (∀ xs, SqOf K t1 H a xs → xs[i]? = some x) ∧ ∀ ys, SqOf K t2 H b ys → ys[i]? = some y,
    fun i H => ∃ xs ys : List V, SqOf K t1 H a xs ∧ SqOf K t2 H b ys ∧ i ≤ xs.length ∧ i ≤ ys.length ∧ (i = xs.length ∨ i = ys.length)⟩
theorem zip_sep {h : Heap} {t1 t2 : Bool} {a b z TI TO i1 i2 : Addr} {k : Nat} {its its2 : Array Value} (D : TI ≠ z ∧ TO ≠ z ∧ TI ≠ TO ∧ TI ≠ i1 ∧ TI ≠ i2 ∧ TO ≠ i1 ∧ TO ≠ i2 ∧ i1 ≠ z ∧ i2 ≠ z ∧ i1 ≠ i2) (hz : IsZip h z TI TO .none)
    (hTO : a ≠ TO ∧ b ≠ TO) (h1 : IterOf t1 h i1 a k) (h2 : IterOf t2 h i2 b k) (p1 : SeqOf t1 h a its) (p2 : SeqOf t2 h b its2) : ZipSep2 z TI TO i1 i2 [i1, a] [i2, b] := by
  obtain ⟨D1, D2, D3, D4, D5, D6, D7, D8, D9, D10⟩ := D
  have za : ∀ {t : Bool} {c : Addr} {its : Array Value}, SeqOf t h c its → z ≠ c := fun p q => by
    obtain ⟨o, e, c⟩ := p.live
    rw [← q, hz] at e
    cases e
    rcases c with c | c <;> simp at c
  have a2 : i2 ≠ a := fun q => iter_ne h2 p1 q.symm
  have b1 : i1 ≠ b := fun q => iter_ne h1 p2 q.symm
  exact ⟨D1, D2, D3, D4, by simp, by simp [za p1, Ne.symm D8], by simp [D6, Ne.symm hTO.1], D5, by simp, by simp [za p2, Ne.symm D9], by simp [D7, Ne.symm hTO.2], by simp [D10, b1], by simp [Ne.symm D10, a2]⟩
/-- the five new objects of a zip -/
structure ZipNew (z TI TO i1 i2 a b : Addr) : Prop where
  d : TI ≠ z ∧ TO ≠ z ∧ TI ≠ TO ∧ TI ≠ i1 ∧ TI ≠ i2 ∧ TO ≠ i1 ∧ TO ≠ i2 ∧ i1 ≠ z ∧ i2 ≠ z ∧ i1 ≠ i2
  t : a ≠ TO ∧ b ≠ TO
theorem turn_zipX {P : Program} {w : World} {K : PySem.W.Frag} {elts : List Expr} {kk : Nat} {tpos : Pos} {t1 t2 : Bool} {a b z TI TO i1 i2 : Addr} (D : ZipNew z TI TO i1 i2 a b) :
    Turn P w K (.Tuple elts kk tpos) (ItzX K t1 t2 a b) [z, TI, TO, i1, i2] z (fun i h => IsZip h z TI TO .none ∧ IsTupOf2 h TI (.ref i1) (.ref i2) ∧ (∃ x y, IsTupOf2 h TO x y) ∧ IterOf t1 h i1 a i ∧ IterOf t2 h i2 b i) where
  mem := by simp
  obj := fun i h st c hc => by
    obtain ⟨hz, hTI, ⟨x, y, hTO⟩, h1, h2⟩ := st
    obtain ⟨o1, e1, _, d1⟩ := h1.live
    obtain ⟨o2, e2, _, d2⟩ := h2.live
    have e' : c = z ∨ c = TI ∨ c = TO ∨ c = i1 ∨ c = i2 := by simpa using hc
    rcases e' with q | q | q | q | q
    · rw [q]; exact ⟨_, hz, fun v q => nomatch q⟩
    · rw [q]; exact ⟨_, hTI, fun v q => nomatch q⟩
    · rw [q]; exact ⟨_, hTO, fun v q => nomatch q⟩
    · rw [q]; exact ⟨o1, e1, d1⟩
    · rw [q]; exact ⟨o2, e2, d2⟩
  keep := fun i h h' st k => by
    obtain ⟨hz, hTI, ⟨x, y, hTO⟩, h1, h2⟩ := st
    exact ⟨k z (by simp) _ hz, k TI (by simp) _ hTI, ⟨x, y, k TO (by simp) _ hTO⟩, h1.at fun o q => k i1 (by simp) o q, h2.at fun o q => k i2 (by simp) o q⟩
  item := by
    intro X hP hw hK hc i pins s σ H E I hf st hg
    subst hP hw hK
    obtain ⟨hz, hTI, ⟨x0, y0, hTO⟩, h1, h2⟩ := st
    obtain ⟨xs, ys, x, y, hqx, hqy, hx, hy⟩ := hg
    obtain ⟨its, rv, p, inj1⟩ := seq_of I hqx
    obtain ⟨its2, rv2, p2, inj2⟩ := seq_of I hqy
    obtain ⟨u, hu, ru⟩ := rv.get hx
    obtain ⟨u2, hu2, ru2⟩ := rv2.get hy
    have hzl : z < s.heap.objs.size := Heap.lt_size hz
    have S := zip_sep D.d hz D.t h1 h2 p p2
    have hh : X.A.in1.handled = none := I.ok.hd hc
    have hi1 : i < its.toArray.size := by
      have := (List.getElem?_eq_some_iff.mp hu).1
      simpa using this
    have hi2 : i < its2.toArray.size := by
      have := (List.getElem?_eq_some_iff.mp hu2).1
      simpa using this
    refine wpAny_pyNext_zipD2_item S (draws_of hh t1 i1 a (iter_ne h1 p) its.toArray) (draws_of hh t2 i2 b (iter_ne h2 p2) its2.toArray) hz hTI hTO ⟨h1, p⟩ ⟨h2, p2⟩ hi1 hi2 fun v1 v2 h' tk g1 g2 z' TO' st1 st2 hT hsz hk => ?_
    obtain ⟨h1', _⟩ := st1
    obtain ⟨h2', _⟩ := st2
    have ev1 : v1 = u := by
      have q : its[i]? = some v1 := by simpa using g1
      rw [hu] at q
      exact (Option.some.inj q).symm
    have ev2 : v2 = u2 := by
      have q : its2[i]? = some v2 := by simpa using g2
      rw [hu2] at q
      exact (Option.some.inj q).symm
    subst ev1 ev2
    refine ⟨_, rfl, wpAny_letOwnedTupleGo_zip (s := { s with heap := h', toks := tk }) z' fun h'' z'' sb => ?_⟩
    have hT2 : h''.get? s.heap.objs.size = some { cls := .type "tuple", data := .seq #[v1, v2] } := (sb.2 _ (Nat.ne_of_gt hzl)).trans hT
    have new : ObjOk X.prog X.w (upd H s.heap.objs.size (.tup [x, y])) h'' s.heap.objs.size (.tup [x, y]) :=
      ⟨by show 2 ≤ sizeLine; decide, [v1, v2], .cons ru (.cons ru2 .nil), ⟨_, hT2, rfl, _, rfl⟩⟩
    have I1 : Inv X pins σ (upd H s.heap.objs.size (.tup [x, y])) { s with heap := h'', toks := tk } :=
      I.turnedNew (ch := [z, TI, TO, i1, i2]) (fun c o hb q => (sb.2 c (fun q' => hb (by simp [q']))).trans (hk c o (fun q' => hb (by simp [q'])) (fun q' => hb (by simp [q'])) (fun q' => hb (by simp [q'])) (fun q' => hb (by simp [q'])) q)) hf (Nat.le_refl _) new
    refine ⟨.ref s.heap.objs.size, _, I1, rfl, ⟨_, x, y, rfl, I.hok.fresh (Nat.le_refl _), rfl, fun l hl => by rw [inj1 l hl]; exact hx, fun l hl => by rw [inj2 l hl]; exact hy⟩, ⟨z'', ?_, ⟨v1, v2, ?_⟩, ?_, ?_⟩, fun c hcm => ?_⟩
    · exact (sb.2 _ S.TIz).trans (hk _ _ S.TIz S.TITO S.TIi1 S.TIi2 hTI)
    · exact (sb.2 _ S.TOz).trans TO'
    · exact h1'.at fun o q => (sb.2 _ S.zi1.symm).trans q
    · exact h2'.at fun o q => (sb.2 _ S.zi2.symm).trans q
    · have hlt : c < s.heap.objs.size := by
        have e' : c = z ∨ c = TI ∨ c = TO ∨ c = i1 ∨ c = i2 := by simpa using hcm
        rcases e' with q | q | q | q | q
        · rw [q]; exact hzl
        · rw [q]; exact Heap.lt_size hTI
        · rw [q]; exact Heap.lt_size hTO
        · rw [q]; obtain ⟨_, e1, _⟩ := h1.live; exact Heap.lt_size e1
        · rw [q]; obtain ⟨_, e2, _⟩ := h2.live; exact Heap.lt_size e2
      rw [upd_ne (Nat.ne_of_lt hlt)]
      exact (hf c hcm).1
  done := by
    intro X hP hw hK hc i pins s σ H E I hf st hg
    subst hP hw hK
    obtain ⟨hz, hTI, ⟨x0, y0, hTO⟩, h1, h2⟩ := st
    obtain ⟨xs, ys, hqx, hqy, l1, l2, hend⟩ := hg
    obtain ⟨its, rv, p, inj1⟩ := seq_of I hqx
    obtain ⟨its2, rv2, p2, inj2⟩ := seq_of I hqy
    have e1 := rv.length
    have e2 := rv2.length
    have S := zip_sep D.d hz D.t h1 h2 p p2
    have hh : X.A.in1.handled = none := I.ok.hd hc
    refine wpAny_pyNext_zipD2_end S (draws_of hh t1 i1 a (iter_ne h1 p) its.toArray) (draws_of hh t2 i2 b (iter_ne h2 p2) its2.toArray) hz hTI hTO ⟨h1, p⟩ ⟨h2, p2⟩ (by simp; omega) (by simp; omega) (by simp; omega) fun h' tk hk =>
      ⟨rfl, I.turnedL (ch := [z, TI, TO, i1, i2]) (fun c o hb q => hk c o (fun q' => hb (by simp [q'])) (fun q' => hb (by simp [q'])) (fun q' => hb (by simp [q'])) (fun q' => hb (by simp [q'])) q) hf⟩
  self := fun A i s Q E st h => wpAny_pyIter_zip st.1 h
theorem walk_zipX {K : PySem.W.Frag} {t1 t2 : Bool} {a b : Addr} {xs ys : List V} {n : Nat} (hn : n = min xs.length ys.length) : Walk (ItzX K t1 t2 a b) n (fun H => SqOf K t1 H a xs ∧ SqOf K t2 H b ys) (YPair (fun i => xs[i]?) (fun i => ys[i]?)) := by
  subst hn
  refine ⟨fun i _ hi q => ?_, fun _ q => ⟨xs, ys, q.1, q.2, by omega, by omega, by omega⟩, fun i H v H' _ q y => ?_⟩
  · have h1 : i < xs.length := by omega
    have h2 : i < ys.length := by omega
    exact ⟨xs, ys, xs[i], ys[i], q.1, q.2, by simp [h1], by simp [h2]⟩
  · obtain ⟨T, x, z, h1, h2, h3, h4, h5⟩ := y
    exact ⟨T, x, z, h1, h2, h3, h4 xs q.1, h5 ys q.2⟩
def iZipX (K : PySem.W.Frag) (ta : TA) : TI := fun σ H R => ta σ H fun vs H1 => ∃ t1 t2 a b xs ys, vs = [.ref a, .ref b] ∧ SqOf K t1 H1 a xs ∧ SqOf K t2 H1 b ys ∧ R (ItzX K t1 t2 a b) H1
theorem pi_zipX {X : Cx} {e e2 : Expr} {ta : TA} {p pos tpos : Pos} {elts : List Expr} {kk : Nat} (hg : Gl X "zip") (hm : X.mg "zip" = none) (ha : PA X [e, e2] ta)
    (hs : starEach [e, e2] X.env = (false, eval e X.env) :: starEach [e2] X.env := by rfl) (hpl : (backTo pos (starEach [e2] X.env)).any (·.1) = false := by rfl) :
    PI X (.Tuple elts kk tpos) (.Call (.Name "zip" p) [e, e2] [] pos) (iZipX X.K ta) := by
  refine ⟨fun pins s σ H R I h => ?_⟩
  refine Call_ (ld_blt I hg hm PyProof.Rows.boot_zip (PyProof.Rows.callWith_type1 (thn (ha.run pos pins s σ H _ I h) fun us s1 ⟨vs, H1, I1, r1, q1⟩ => ?_) hs hpl))
  obtain ⟨t1, t2, a, b, xs, ys, ex, hqx, hqy, q⟩ := q1
  subst ex
  cases r1 with
  | cons r rr =>
    cases rr with
    | cons r' rr =>
      cases rr
      cases r
      cases r'
      obtain ⟨its, rv, p1, _⟩ := seq_of I1 hqx
      obtain ⟨its2, rv2, p2, _⟩ := seq_of I1 hqy
      have la : a < s1.heap.objs.size := by obtain ⟨_, e, _⟩ := p1.live; exact Heap.lt_size e
      have lb : b < s1.heap.objs.size := by obtain ⟨_, e, _⟩ := p2.live; exact Heap.lt_size e
      refine zip_begins2 (begins_of t1 a its.toArray) (begins_of t2 b its2.toArray) p1 p2 fun h' hz hTI hTO h1 h2 hsz hk => wpAny_pyIter_zip hz ?_
      have I2 : Inv X pins σ H1 { s1 with heap := h' } := I1.kept (t' := s1.toks) hk
      refine ⟨s1.heap.objs.size + 4, [s1.heap.objs.size + 4, s1.heap.objs.size + 2, s1.heap.objs.size + 3, s1.heap.objs.size, s1.heap.objs.size + 1], _, _, H1, rfl, I2, turn_zipX (t1 := t1) (t2 := t2) (a := a) (b := b) ?_, ⟨hz, hTI, ⟨_, _, hTO⟩, iter_new h1, iter_new h2⟩, fun c hcm => ?_, q⟩
      · have D := PySem.W.ktu_apart s1.heap.objs.size a b la lb
        exact ⟨⟨D.TIz, D.TOz, D.TITO, D.TIi1, D.TIi2, D.TOi1, D.TOi2, D.i1z, D.i2z, D.i12⟩, ⟨D.l1TO, D.l2TO⟩⟩
      · have e' : c = s1.heap.objs.size + 4 ∨ c = s1.heap.objs.size + 2 ∨ c = s1.heap.objs.size + 3 ∨ c = s1.heap.objs.size ∨ c = s1.heap.objs.size + 1 := by simpa using hcm
        have hle : s1.heap.objs.size ≤ c := by
          rcases e' with z | z | z | z | z
          · rw [z]; exact Nat.le_add_right _ _
          · rw [z]; exact Nat.le_add_right _ _
          · rw [z]; exact Nat.le_add_right _ _
          · rw [z]; exact Nat.le_refl _
          · rw [z]; exact Nat.le_add_right _ _
        exact I1.fpOk hle (I1.hok.fresh hle)
end MP
end
section
set_option Elab.async false
set_option linter.all false
set_option maxRecDepth 100000
set_option maxHeartbeats 2000000
/-! MP: range with a step, enumerate, zip. -/
namespace MP
open PySem PySem.Spec L2
open PyProof.Rows hiding St
theorem rangeSize_nn (i j c : Int) : 0 ≤ Builtin.Range.rangeSize i j c := by
  unfold Builtin.Range.rangeSize
  split
  · split
    · have : 0 ≤ (j - i - 1) / c := Int.ediv_nonneg (by omega) (by omega)
      omega
    · omega
  · split
    · have : 0 ≤ (i - j - 1) / (-c) := Int.ediv_nonneg (by omega) (by omega)
      omega
    · omega
section
variable {X : Cx} {Z : Ad} {xo : Option Xo} {n : Nat} {W : WX} {S S' : Sa} {a b c e tg : Expr} {f g k : MP.Env → Mem → R D} {pos p tpos : Pos} {elts : List Expr} {kk : Nat}
theorem IOk.rng3 (hg : Gl X "range") (hm : X.mg "range" = none) (ha : EOk X Z xo W n a f) (hb : EOk X Z xo W n b g) (hc : EOk X Z xo W n c k) (hn : ∀ b p, a ≠ .Starred b p) (hn2 : ∀ c p, b ≠ .Starred c p) (hn3 : ∀ b p, c ≠ .Starred b p) :
    IOk X Z xo W n tg (.Call (.Name "range" p) [a, b, c] [] pos) (fun env h => (f env h).bind fun x h => (g env h).bind fun y h => (k env h).bind fun z h => match x, y, z with
    | .a (.int i), .a (.int j), .a (.int c) => if c != 0 && decide (c.natAbs < 1073741824) && Builtin.Range.small i j c then .ok (rngC i c (Builtin.Range.rangeSize i j c).toNat) h else .err
    | _, _, _ => .err) := by
  have ns : NoStar [a, b, c] := NoStar.three hn hn2 hn3
  refine ⟨PI.imp (pi_range3 hg hm (pa_cons ha.pe (pa_cons hb.pe (pa_cons hc.pe pa_nil (ns.tail.tail.head _)) (ns.tail.head _)) (ns.head _)) (ns.head _) (backTo_any ns.tail _)) fun σ H Q ⟨S, env, e, i, q⟩ => ?_, fun _ _ => rfl⟩
  subst e
  refine ⟨S, env, rfl, i, (Go.bind (Rel := relD Z) q).mono fun v H1 ⟨d, S1, x, e, r1, q1⟩ => ?_⟩
  subst e
  refine ⟨S1, env, rfl, i.nx x, (Go.bind (Rel := relD Z) q1).mono fun v2 H2 ⟨d2, S2, x2, e, r2, q2⟩ => ?_⟩
  subst e
  refine ⟨S2, env, rfl, (i.nx x).nx x2, (Go.bind (Rel := relD Z) q2).mono fun v3 H3 ⟨d3, S3, x3, e, r3, q3⟩ => ?_⟩
  subst e
  split at q3
  · cases r1
    cases r2
    cases r3
    split at q3
    · rename_i hr
      simp only [Bool.and_eq_true, bne_iff_ne, decide_eq_true_eq] at hr
      refine ⟨_, _, _, _, rfl, ⟨hr.1.1, hr.1.2, hr.2, ?_⟩, Go.val q3 x3.ok WalkD.rngC⟩
      exact (Int.toNat_of_nonneg (rangeSize_nn _ _ _)).symm
    · exact q3.elim
  · exact q3.elim
/-- a value's items as a walked source -/
theorem src_of {S : Sa} (ok : S.Ok Z) {d : D} {v : V} {xs : List A} (hd : ∀ m, d ≠ .ref m) (r : VD Z S.r S.F d v) (e : d.items S.h = some xs) : ∃ (t : Bool) (a : Addr) (vs : List V), v = .ref a ∧ SqOf Z.K t S.F a vs ∧ VAs Z S.F xs vs := by
  cases d with
  | ref m => exact absurd rfl (hd m)
  | nst ns => cases e
  | a y =>
    cases y with
    | tup ys =>
      cases e
      cases r with
      | tup h1 h2 => exact ⟨true, _, _, rfl, SqT.of h1, h2⟩
    | lst ys =>
      cases e
      cases r with
      | lst h1 h2 => exact ⟨false, _, _, rfl, SqL.of h1, h2⟩
    | scr ys =>
      cases e
      cases r with
      | scr h1 => exact ⟨false, _, _, rfl, h1, VAs.ints ys⟩
    | _ => cases e
theorem SqOf.le {K : PySem.W.Frag} {t : Bool} {F F' : Hp} (h : Le F F') {a : Addr} {vs : List V} (r : SqOf K t F a vs) : SqOf K t F' a vs := by
  cases t with
  | true => exact SqT.le h r
  | false => exact SqL.le h r
theorem WalkD.enu {t : Bool} {a : Addr} {vs : List V} {xs : List A} (hq : SqOf Z.K t S.F a vs) (r : VAs Z S.F xs vs) : WalkD Z (IteX Z.K t a) (xs.zipIdx.map fun p => .a (.tup [.int p.2, p.1])) S := by
  have w : WalkD Z (IteX Z.K t a) ((xs.zipIdx.map fun p => (A.int (p.2 : Nat), p.1)).map fun p => .a (.tup [p.1, p.2])) S := by
    refine WalkD.pairs (m := vs.length) walk_enumX (by simp [r.length]) (fun S' x => SqOf.le (Le.trans x.le x.ok.le) hq) (fun i x hi e => ?_) (fun i y hi e => ?_)
    · cases e
      have hi' : i < xs.length := by rw [r.length]; exact hi
      refine ⟨(.int (i : Nat), xs[i]), ?_, .int _⟩
      rw [List.getElem?_map, List.getElem?_zipIdx]
      simp [hi']
    · obtain ⟨d, h1, h2⟩ := r.back e
      refine ⟨(.int (i : Nat), d), ?_, h2⟩
      rw [List.getElem?_map, List.getElem?_zipIdx]
      simp [h1]
  rw [List.map_map] at w
  exact w
theorem WalkD.zipW {t1 t2 : Bool} {a b : Addr} {vs us : List V} {xs ys : List A} (hq : SqOf Z.K t1 S.F a vs) (hq2 : SqOf Z.K t2 S.F b us) (r : VAs Z S.F xs vs) (r2 : VAs Z S.F ys us) : WalkD Z (ItzX Z.K t1 t2 a b) ((xs.zip ys).map fun p => .a (.tup [p.1, p.2])) S := by
  refine WalkD.pairs (m := min vs.length us.length) (walk_zipX rfl) (by simp [r.length, r2.length]) (fun S' x => ⟨SqOf.le (Le.trans x.le x.ok.le) hq, SqOf.le (Le.trans x.le x.ok.le) hq2⟩) (fun i x hi e => ?_) (fun i y hi e => ?_)
  · obtain ⟨d, h1, h2⟩ := r.back e
    have hl : i < ys.length := by rw [r2.length]; omega
    exact ⟨(d, ys[i]), by rw [List.getElem?_zip_eq_some]; exact ⟨h1, by simp [hl]⟩, h2⟩
  · obtain ⟨d, h1, h2⟩ := r2.back e
    have hl : i < xs.length := by rw [r.length]; omega
    exact ⟨(xs[i], d), by rw [List.getElem?_zip_eq_some]; exact ⟨by simp [hl], h1⟩, h2⟩
theorem IOk.enu (hK : X.K = Z.K) (hg : Gl X "enumerate") (hm : X.mg "enumerate" = none) (ha : EOk X Z xo W n a f) (hn : ∀ b p, a ≠ .Starred b p) : IOk X Z xo W n (.Tuple elts kk tpos) (.Call (.Name "enumerate" p) [a] [] pos) (fun env h => (f env h).bind fun x h => match x with
    | .ref _ => .err
    | x => ofO ((x.items h).map fun xs => xs.zipIdx.map fun p => .a (.tup [.int p.2, p.1])) h) := by
  refine ⟨PI.imp (pi_enumX hg hm (pa_cons ha.pe pa_nil ((NoStar.one hn).head _)) ((NoStar.one hn).head _)) fun σ H Q ⟨S, env, e, i, q⟩ => ?_, fun _ _ => rfl⟩
  subst e
  refine ⟨S, env, rfl, i, (Go.bind (Rel := relD Z) q).mono fun v H1 ⟨d, S1, x, e, r1, q1⟩ => ?_⟩
  subst e
  have q2 : (∀ m, d ≠ .ref m) ∧ Go Z W n σ (relW Z) S1 (ofO ((d.items S1.h).map fun xs => xs.zipIdx.map fun p => .a (.tup [.int p.2, p.1])) S1.h) Q := by
    cases d with
    | ref m => exact q1.elim
    | _ => exact ⟨fun _ z => (nomatch z), q1⟩
  obtain ⟨hd, q2⟩ := q2
  obtain ⟨ds, e, q2⟩ := q2.ofO
  cases hi : d.items S1.h with
  | none => rw [hi] at e; cases e
  | some xs =>
    rw [hi] at e
    cases e
    obtain ⟨t, a', vs, ev, hq, hr⟩ := src_of x.ok hd r1 hi
    subst ev
    rw [hK]
    exact ⟨t, a', vs, rfl, SqOf.le x.ok.le hq, Go.val q2 x.ok (WalkD.enu hq hr)⟩
theorem IOk.zip (hK : X.K = Z.K) (hg : Gl X "zip") (hm : X.mg "zip" = none) (ha : EOk X Z xo W n a f) (hb : EOk X Z xo W n b g) (hn : ∀ b p, a ≠ .Starred b p) (hn2 : ∀ c p, b ≠ .Starred c p) : IOk X Z xo W n (.Tuple elts kk tpos) (.Call (.Name "zip" p) [a, b] [] pos) (fun env h => (f env h).bind fun x h => (g env h).bind fun y h => match x, y with
    | .ref _, _ => .err
    | _, .ref _ => .err
    | x, y => ofO ((x.items h).bind fun xs => (y.items h).map fun ys => (xs.zip ys).map fun p => .a (.tup [p.1, p.2])) h) := by
  have ns : NoStar [a, b] := NoStar.two hn hn2
  refine ⟨PI.imp (pi_zipX hg hm (pa_cons ha.pe (pa_cons hb.pe pa_nil (ns.tail.head _)) (ns.head _)) (ns.head _) (backTo_any ns.tail _)) fun σ H Q ⟨S, env, e, i, q⟩ => ?_, fun _ _ => rfl⟩
  subst e
  refine ⟨S, env, rfl, i, (Go.bind (Rel := relD Z) q).mono fun v H1 ⟨d, S1, x, e, r1, q1⟩ => ?_⟩
  subst e
  refine ⟨S1, env, rfl, i.nx x, (Go.bind (Rel := relD Z) q1).mono fun v2 H2 ⟨d2, S2, x2, e, r2, q2⟩ => ?_⟩
  subst e
  have q3 : (∀ m, d ≠ .ref m) ∧ (∀ m, d2 ≠ .ref m) ∧ Go Z W n σ (relW Z) S2 (ofO ((d.items S2.h).bind fun xs => (d2.items S2.h).map fun ys => (xs.zip ys).map fun p => .a (.tup [p.1, p.2])) S2.h) Q := by
    cases d with
    | ref m => exact q2.elim
    | _ => cases d2 with
      | ref m => exact q2.elim
      | _ => exact ⟨fun _ z => (nomatch z), fun _ z => (nomatch z), q2⟩
  obtain ⟨hd, hd2, q3⟩ := q3
  obtain ⟨ds, e, q3⟩ := q3.ofO
  cases hi : d.items S2.h with
  | none => rw [hi] at e; cases e
  | some xs =>
    cases hi2 : d2.items S2.h with
    | none => rw [hi, hi2] at e; cases e
    | some ys =>
      rw [hi, hi2] at e
      cases e
      obtain ⟨t, a', vs, ev, hq, hr⟩ := src_of x2.ok hd (VD.nx x2 r1) hi
      obtain ⟨t2, b', us, ev2, hq2, hr2⟩ := src_of x2.ok hd2 r2 hi2
      subst ev ev2
      rw [hK]
      exact ⟨t, t2, a', b', vs, us, rfl, SqOf.le x2.ok.le hq, SqOf.le x2.ok.le hq2, Go.val q3 x2.ok (WalkD.zipW hq hq2 hr hr2)⟩
end
end MP
end
section
set_option Elab.async false
set_option linter.all false
set_option maxRecDepth 100000
set_option maxHeartbeats 2000000
/-! MP: targets of stores. -/
namespace MP
open PySem PySem.Spec L2
open PyProof.Rows hiding St
def tgs : Tg → List Nat
  | .nm i => [i]
  | .tp is => is
section
variable {Z : Ad} {xo : Option Xo} {n : Nat} {S S' : Sa} {env : MP.Env} {σ : L2.St}
theorem In.set (i : In Z xo n S env σ) {d : D} {v : V} {k : Nat} (r : VD Z S.r S.F d v) (hx : ∀ o, xo = some o → o.i ≠ k) : In Z xo n S (env.set k (some d)) (σ.set k (some v)) := by
  refine ⟨i.ok, i.le, by rw [List.length_set, List.length_set]; exact i.len, fun j d' e => ?_⟩
  by_cases hj : j = k
  · subst hj
    have hl : j < env.length := by
      have := (List.getElem?_eq_some_iff.mp e).1
      rw [List.length_set] at this
      exact this
    rw [List.getElem?_set_self hl] at e
    cases e
    have es : (σ.set j (some v))[j]? = some (some v) := List.getElem?_set_self (Nat.lt_of_lt_of_le hl i.len)
    cases xo with
    | none => exact ⟨v, es, r⟩
    | some o =>
      simp only
      rw [if_neg (fun q => hx o rfl q.symm)]
      exact ⟨v, es, r⟩
  · rw [List.getElem?_set_ne (Ne.symm hj)] at e
    have := i.env j d' e
    cases xo with
    | none => rw [List.getElem?_set_ne (Ne.symm hj)]; exact this
    | some o =>
      simp only at this ⊢
      rw [List.getElem?_set_ne (Ne.symm hj)]
      exact this
theorem In.clr (i : In Z xo n S env σ) {k : Nat} {u : Option V} : In Z xo n S (env.set k none) (σ.set k u) := by
  refine ⟨i.ok, i.le, by rw [List.length_set, List.length_set]; exact i.len, fun j d' e => ?_⟩
  by_cases hj : j = k
  · subst hj
    have hl : j < env.length := by
      have := (List.getElem?_eq_some_iff.mp e).1
      rw [List.length_set] at this
      exact this
    rw [List.getElem?_set_self hl] at e
    cases e
  · rw [List.getElem?_set_ne (Ne.symm hj)] at e
    have := i.env j d' e
    cases xo with
    | none => rw [List.getElem?_set_ne (Ne.symm hj)]; exact this
    | some o =>
      simp only at this ⊢
      rw [List.getElem?_set_ne (Ne.symm hj)]
      exact this
theorem In.clr1 (i : In Z xo n S env σ) {k : Nat} : In Z xo n S (env.set k none) σ := by
  refine ⟨i.ok, i.le, by rw [List.length_set]; exact i.len, fun j d' e => ?_⟩
  by_cases hj : j = k
  · subst hj
    have hl : j < env.length := by
      have := (List.getElem?_eq_some_iff.mp e).1
      rw [List.length_set] at this
      exact this
    rw [List.getElem?_set_self hl] at e
    cases e
  · rw [List.getElem?_set_ne (Ne.symm hj)] at e
    exact i.env j d' e
theorem In.rst : ∀ {rst : List Nat} {env : MP.Env}, In Z xo n S env σ → In Z xo n S (rstE rst env) σ
  | [], _, i => i
  | k :: r, env, i => In.rst (rst := r) (env := env.set k none) i.clr1
/-- the readings of two states agree outside -/
theorem In.weak {σ' : L2.St} (i : In Z xo n S env σ) (hl : σ'.length = σ.length) (h : ∀ (j : Nat) (d : D), env[j]? = some (some d) → σ'[j]? = σ[j]?) : In Z xo n S env σ' := by
  refine ⟨i.ok, i.le, by rw [hl]; exact i.len, fun j d e => ?_⟩
  have := i.env j d e
  have hj := h j d e
  cases xo with
  | none => rw [hj]; exact this
  | some o =>
    simp only at this ⊢
    rw [hj]
    exact this
theorem set_none_not {j k : Nat} {env : MP.Env} {d : D} (e : (env.set k none)[j]? = some (some d)) : j ≠ k ∧ env[j]? = some (some d) := by
  by_cases hj : j = k
  · subst hj
    by_cases hl : j < env.length
    · rw [List.getElem?_set_self hl] at e
      cases e
    · rw [List.getElem?_eq_none (by rw [List.length_set]; omega)] at e
      cases e
  · rw [List.getElem?_set_ne (Ne.symm hj)] at e
    exact ⟨hj, e⟩
theorem rst_not : ∀ {rst : List Nat} {env : MP.Env} {j : Nat} {d : D}, (rstE rst env)[j]? = some (some d) → j ∉ rst ∧ env[j]? = some (some d)
  | [], _, _, _, e => ⟨by simp, e⟩
  | k :: r, env, j, d, e => by
    obtain ⟨h1, h2⟩ := rst_not (rst := r) (env := env.set k none) e
    obtain ⟨h3, h4⟩ := set_none_not h2
    exact ⟨by simp [h1, h3], h4⟩
theorem In.wipe {vs : List Nat} (i : In Z xo n S env σ) : In Z xo n S (rstE vs env) (L2.wipe σ vs) := i.rst.weak (wipe_length σ vs) fun j d e => wipe_out (rst_not e).1
theorem wipe_set {σ : L2.St} {u : Option V} {k : Nat} : ∀ {vs : List Nat}, k ∈ vs → L2.wipe (σ.set k u) vs = L2.wipe σ vs
  | [], h => by cases h
  | v :: vs, h => by
    show (L2.wipe (σ.set k u) vs).set v none = (L2.wipe σ vs).set v none
    by_cases hk : k ∈ vs
    · rw [wipe_set hk]
    · have e : k = v := by
        rcases List.mem_cons.mp h with h | h
        · exact h
        · exact absurd h hk
      subst e
      apply List.ext_getElem?
      intro j
      by_cases hj : k = j
      · subst hj
        by_cases hl : k < (L2.wipe (σ.set k u) vs).length
        · rw [List.getElem?_set_self hl, List.getElem?_set_self (by rw [wipe_length] at hl ⊢; rw [List.length_set] at hl; exact hl)]
        · rw [List.getElem?_eq_none (by rw [List.length_set]; omega), List.getElem?_eq_none (by rw [List.length_set, wipe_length]; rw [wipe_length, List.length_set] at hl; omega)]
      · rw [List.getElem?_set_ne hj, List.getElem?_set_ne hj]
        by_cases hjv : j ∈ vs
        · have : ∀ {τ : L2.St}, τ.length = σ.length → (L2.wipe τ vs)[j]? = if j < σ.length then some none else none := by
            intro τ hτ
            have hlt : (L2.wipe τ vs).length = σ.length := by rw [wipe_length, hτ]
            split
            · rename_i hl
              cases q : (L2.wipe τ vs)[j]? with
              | none => rw [List.getElem?_eq_none_iff] at q; omega
              | some o =>
                cases o with
                | none => rfl
                | some w => exact absurd hjv (wipe_some q).2
            · rename_i hl
              exact List.getElem?_eq_none (by omega)
          rw [this (by rw [List.length_set]), this rfl]
        · rw [wipe_out hjv, wipe_out hjv, List.getElem?_set_ne hj]
theorem wipe_idem {σ : L2.St} (vs : List Nat) : L2.wipe (L2.wipe σ vs) vs = L2.wipe σ vs := by
  have : ∀ {us : List Nat} {τ : L2.St}, (∀ u ∈ us, u ∈ vs) → L2.wipe (L2.wipe τ us) vs = L2.wipe τ vs := by
    intro us
    induction us with
    | nil => intro τ _; rfl
    | cons u us ih =>
      intro τ h
      show L2.wipe ((L2.wipe τ us).set u none) vs = _
      rw [wipe_set (h u List.mem_cons_self), ih fun x hx => h x (List.mem_cons_of_mem _ hx)]
  exact this fun _ h => h
/-- what a store leaves -/
structure Stored (vs : List Nat) (σ σ' : L2.St) : Prop where
  len : σ'.length = σ.length
  wipe : ∀ us : List Nat, (∀ v ∈ vs, v ∈ us) → L2.wipe σ' us = L2.wipe σ us
theorem Stored.one {k : Nat} {u : Option V} {σ : L2.St} : Stored [k] σ (σ.set k u) := ⟨List.length_set .., fun us h => wipe_set (h k (by simp))⟩
theorem Stored.cons {k : Nat} {ks : List Nat} {u : Option V} {σ σ' : L2.St} (h : Stored ks (σ.set k u) σ') : Stored (k :: ks) σ σ' :=
  ⟨h.len.trans (List.length_set ..), fun us hu => (h.wipe us fun v hv => hu v (List.mem_cons_of_mem _ hv)).trans (wipe_set (hu k List.mem_cons_self))⟩
end
/-- a store's reading -/
def tTg (Z : Ad) (xo : Option Xo) (n : Nat) (t : Tg) : TG := fun v σ H Q => ∃ S env d, S.H = H ∧ In Z xo n S env σ ∧ VD Z S.r S.F d v ∧ ∃ env', setTg t d S.h env = some env' ∧ ∀ σ', In Z xo n S env' σ' → Stored (tgs t) σ σ' → Q σ' H
section
variable {X : Cx} {Z : Ad} {xo : Option Xo} {n : Nat}
theorem PG.imp {tg : Expr} {t t' : TG} (h : PG X tg t) (k : ∀ v σ H Q, t' v σ H Q → t v σ H Q) : PG X tg t' := ⟨fun pins s σ H v u Q I r w => h.run pins s σ H v u Q I r (k v σ H Q w)⟩
theorem PG.or {tg : Expr} {t1 t2 t : TG} (h1 : PG X tg t1) (h2 : PG X tg t2) (h : ∀ v σ H Q, t v σ H Q → t1 v σ H Q ∨ t2 v σ H Q) : PG X tg t := ⟨fun pins s σ H v u Q I r w => (h v σ H Q w).elim (h1.run pins s σ H v u Q I r) (h2.run pins s σ H v u Q I r)⟩
theorem tg_nm {i : Nat} {x : Str} {pos : Pos} (hN : X.N.Nodup) (hi : X.N[i]? = some x) (hx : Loc X.env.scope x) (hf : X.fn x = true ∨ X.env.scope.names.lookup x = some .local) (ho : ∀ o, xo = some o → o.i ≠ i) : PG X (.Name x pos) (tTg Z xo n (.nm i)) :=
  PG.imp (pg_name hN hi hx hf) fun v σ H Q ⟨S, env, d, e, j, r, env', e', q⟩ => by
    subst e
    cases e'
    exact q _ (j.set r ho) Stored.one
/-- names stored one after another -/
inductive Nms (X : Cx) (xo : Option Xo) : List Expr → List Nat → Prop
  | nil : Nms X xo [] []
  | cons {i : Nat} {x : Str} {p : Pos} {es : List Expr} {is : List Nat} (hi : X.N[i]? = some x) (hx : Loc X.env.scope x) (hf : X.fn x = true ∨ X.env.scope.names.lookup x = some .local) (ho : ∀ o, xo = some o → o.i ≠ i) : Nms X xo es is → Nms X xo (.Name x p :: es) (i :: is)
def tNs : List Nat → TGs
  | [] => gNil
  | i :: r => gCons (gName i) (tNs r)
theorem Nms.pgs (hN : X.N.Nodup) : ∀ {es : List Expr} {is : List Nat}, Nms X xo es is → PGs X es (tNs is)
  | _, _, .nil => pgs_nil
  | _, _, .cons hi hx hf ho h => pgs_cons (pg_name hN hi hx hf) (Nms.pgs hN h)
theorem Nms.each : ∀ {es : List Expr} {is : List Nat}, Nms X xo es is → ∀ env, (assignEach es env).length = is.length ∧ (assignEach es env).findIdx? (·.1) = none
  | _, _, .nil, _ => ⟨rfl, rfl⟩
  | _, _, .cons hi hx hf ho h, env => by
    obtain ⟨h1, h2⟩ := Nms.each h env
    constructor
    · show (assignEach _ env).length + 1 = _
      rw [h1]
      rfl
    · show List.findIdx? (·.1) ((false, _) :: assignEach _ env) = none
      rw [List.findIdx?_cons, h2]
      rfl
theorem tNs_run {S : Sa} {H : Hp} {Q : L2.St → Hp → Prop} : ∀ {es : List Expr} {is : List Nat} {xs : List A} {vs : List V} {env : MP.Env} {σ : L2.St}, Nms X xo es is → In Z xo n S env σ → VAs Z S.F xs vs → xs.length = is.length →
    (∀ σ', In Z xo n S ((is.zip xs).foldl (fun e p => e.set p.1 (some (.a p.2))) env) σ' → Stored is σ σ' → Q σ' H) → tNs is vs σ H Q
  | _, _, [], _, env, σ, .nil, i, .nil, _, q => ⟨rfl, q σ i ⟨rfl, fun _ _ => rfl⟩⟩
  | _, _, x :: xs, _, env, σ, .cons (i := k) hi hx hf ho h, i, .cons r t, hl, q => by
    refine ⟨_, _, rfl, tNs_run h (i.set (d := .a x) (k := k) r ho) t (by simpa using hl) fun σ' j st => q σ' j (Stored.cons st)⟩
theorem tg_tp {es : List Expr} {is : List Nat} {kk : Nat} {pos : Pos} (hK : X.K = Z.K) (hc : X.calm = true) (hN : X.N.Nodup) (h : Nms X xo es is) : PG X (.Tuple es kk pos) (tTg Z xo n (.tp is)) := by
  obtain ⟨h1, h2⟩ := h.each X.env
  refine PG.or (pg_tup hc (h.pgs hN) h1 h2) (pg_unl hc (h.pgs hN) h1 h2) fun v σ H Q ⟨S, env, d, e, j, r, env', e', q⟩ => ?_
  subst e
  have e2 : (d.items S.h).bind (fun xs => if xs.length = is.length then some ((is.zip xs).foldl (fun e p => e.set p.1 (some (.a p.2))) env) else none) = some env' := e'
  cases hi : d.items S.h with
  | none => rw [hi] at e2; cases e2
  | some xs =>
    rw [hi] at e2
    have e3 : (if xs.length = is.length then some ((is.zip xs).foldl (fun e p => e.set p.1 (some (.a p.2))) env) else none) = some env' := e2
    split at e3
    · rename_i hl
      cases e3
      obtain ⟨a, vs, ev, hq, hr⟩ := items_view j.ok r hi
      subst ev
      rw [hK]
      have run := tNs_run (Q := Q) h j hr hl q
      rcases hq with hq | hq
      · exact .inr ⟨a, vs, rfl, hq, by rw [← hr.length]; exact hl, run⟩
      · exact .inl ⟨a, vs, rfl, hq, by rw [← hr.length]; exact hl, run⟩
    · cases e3
end
end MP
end
section
set_option Elab.async false
set_option linter.all false
set_option maxRecDepth 100000
set_option maxHeartbeats 2000000
/-! MP: comprehensions. -/
namespace MP
open PySem PySem.Spec L2
open PyProof.Rows hiding St
def W0 : WX := fun _ _ _ _ => False
section
variable {Z : Ad} {xo : Option Xo} {n : Nat} {S S' S1 S2 : Sa} {W : WX} {σ σ' : L2.St}
theorem Go.cut {α β γ δ : Type} {Rel : Sa → α → β → Prop} {Rel' : Sa → γ → δ → Prop} {r : R α} {k : α → Mem → R γ} {Q : δ → Hp → Prop} (g : Go Z W n σ Rel' S1 (r.calm.bind k) Q) :
    Go Z W0 n σ' Rel S2 r fun v H' => ∃ d S3, Nx Z n S2 S3 ∧ S3.H = H' ∧ Rel S3 d v ∧ Go Z W n σ Rel' S1 (k d S3.h) Q := by
  cases r with
  | ok d h =>
    intro S3 v x e q
    refine ⟨d, S3, x, rfl, q, ?_⟩
    rw [e]
    exact g
  | exc c x h => exact g.elim
  | err => exact g
/-- a comprehension's end, with what has been gathered -/
def lcK (m : Bool) (ds0 : List D) (r : R (List D)) : R D := r.calm.bind fun ds h => mkL m (ds0 ++ ds) h
theorem mkL_len {m : Bool} {ds : List D} {h : Mem} : mkL m ds h = .err ∨ ds.length ≤ sizeLine := by
  unfold mkL
  split
  · rename_i h
    exact .inr h
  · exact .inl rfl
theorem lcK_len {m : Bool} {ds0 : List D} {r : R (List D)} : lcK m ds0 r = .err ∨ ds0.length ≤ sizeLine := by
  unfold lcK
  cases r with
  | ok ds h =>
    rcases mkL_len (m := m) (ds := ds0 ++ ds) (h := h) with e | e
    · exact .inl e
    · rw [List.length_append] at e
      exact .inr (by omega)
  | exc c x h => exact .inl rfl
  | err => exact .inl rfl
theorem lcK_cons {m : Bool} {ds0 : List D} {step : D → Mem → R (List D)} {x : D} {xs : List D} {h : Mem} : lcK m ds0 (lcD step (x :: xs) h) = (step x h).calm.bind fun d h => lcK m (ds0 ++ d) (lcD step xs h) := by
  unfold lcK
  show R.bind (R.calm ((step x h).bind fun d h => (lcD step xs h).bind fun ds h => .ok (d ++ ds) h)) _ = _
  cases step x h with
  | ok d h' =>
    show R.bind (R.calm ((lcD step xs h').bind fun ds h => .ok (d ++ ds) h)) _ = R.bind (R.calm (lcD step xs h')) _
    cases lcD step xs h' with
    | ok ds h2 =>
      show mkL m (ds0 ++ (d ++ ds)) h2 = mkL m (ds0 ++ d ++ ds) h2
      rw [List.append_assoc]
    | exc c x h => rfl
    | err => rfl
  | exc c x h => rfl
  | err => rfl
/-- the list that grows lies at p, apart from the states -/
structure Gr (Z : Ad) (n : Nat) (S1 S : Sa) (p : Addr) (ds : List D) (H : Hp) : Prop where
  nx : Nx Z n S1 S
  fr : S.H p = none
  ex : ∃ acc, H = upd S.H p (.lst acc) ∧ VDs Z S.r S.F ds acc
theorem cells_not {S : Sa} (ok : S.Ok Z) {p : Addr} (h : S.H p = none) : p ∉ S.r := fun m => by
  obtain ⟨o, e⟩ := ok.mem m
  rw [h] at e
  cases e
theorem frz_not {S : Sa} (ok : S.Ok Z) {p : Addr} (h : S.H p = none) : S.F p = none := by
  cases e : S.F p with
  | none => rfl
  | some o => rw [ok.le _ _ e] at h; cases h
/-- with the list in sight -/
def Sa.wi (S : Sa) (H : Hp) : Sa := ⟨S.r, S.F, S.h, H⟩
theorem Gr.wi {p : Addr} {ds : List D} {H : Hp} (g : Gr Z n S1 S p ds H) : ∀ k, Nx Z k S (S.wi H) := fun k => by
  obtain ⟨acc, e, _⟩ := g.ex
  subst e
  exact g.nx.ok.raw g.fr _
/-- on to a later state -/
theorem Gr.on {p : Addr} {ds : List D} {H : Hp} (hp : S1.H p = none) (g : Gr Z n S1 S p ds H) (x : Nx Z n (S.wi H) S2) : ∃ S3 : Sa, S3.r = S2.r ∧ S3.F = S2.F ∧ S3.h = S2.h ∧ Ex Z S2 S3 ∧ Gr Z n S1 S3 p ds S2.H ∧
    ∃ acc, S2.H p = some (.lst acc) ∧ VDs Z S2.r S2.F ds acc ∧ ∀ acc' ds', VDs Z S2.r S2.F ds' acc' → Gr Z n S1 S3 p ds' (upd S2.H p (.lst acc')) := by
  have w := g.wi n
  obtain ⟨acc, e, r⟩ := g.ex
  subst e
  have hr : p ∉ S.r := cells_not g.nx.ok g.fr
  have hF : S.F p = none := frz_not g.nx.ok g.fr
  have e2 : S2.H p = some (.lst acc) := x.fr p _ (show upd S.H p (.lst acc) p = _ from upd_same) hr
  have hF2 : S2.F p = none := x.fz p (.lst acc) (show upd S.H p (.lst acc) p = _ from upd_same) hr hF
  have hr2 : p ∉ S2.r := fun m => by
    have := x.new p m hr
    rw [show (S.wi (upd S.H p (.lst acc))).H p = some (.lst acc) from upd_same] at this
    cases this
  have y : Nx Z n S1 S2 := (g.nx.trans w (Nat.le_refl _)).trans x (Nat.le_refl _)
  have nx3 := y.del hp hF2 hr2
  have r2 : VDs Z S2.r S2.F ds acc := VDs.ex (w.ex.trans x.ex) r
  refine ⟨⟨S2.r, S2.F, S2.h, MP.del S2.H p⟩, rfl, rfl, rfl, ⟨⟨[], by simp⟩, Le.refl, nx3.ok⟩, ⟨nx3, del_same, acc, ?_, r2⟩, acc, e2, r2, fun acc' ds' r' => ⟨nx3, del_same, acc', by show _ = upd (MP.del S2.H p) p _; rw [upd_del], r'⟩⟩
  show S2.H = upd (MP.del S2.H p) p (.lst acc)
  rw [upd_del, upd_back e2]
end
section
variable {X : Cx} {Z : Ad} {xo : Option Xo} {n : Nat} {W : WX} {elt tg iter tg1 iter1 : Expr} {pos : Pos} {fe : MP.Env → Mem → R D} {ff ff1 : MP.Env → Mem → R Bool} {fi fi1 : MP.Env → Mem → R (List D)} {t t1 : Tg}
/-- one turn -/
def lcStep (t : Tg) (own : List Nat) (env : MP.Env) (ff : MP.Env → Mem → R Bool) (k : MP.Env → Mem → R (List D)) : D → Mem → R (List D) := fun x h => match setTg t x h (rstE own env) with
  | none => .err
  | some e => (ff e h).bind fun b h => if b then k e h else .ok [] h
theorem lcStep_cut {m : Bool} {ds0 : List D} {own : List Nat} {env : MP.Env} {k : MP.Env → Mem → R (List D)} {x : D} {h : Mem} {r : D → Mem → R (List D)} {xs : List D} :
    lcK m ds0 (lcD (lcStep t own env ff k) (x :: xs) h) = match setTg t x h (rstE own env) with
      | none => .err
      | some e => (ff e h).calm.bind fun b h => if b then (k e h).calm.bind fun d h => lcK m (ds0 ++ d) (lcD (lcStep t own env ff k) xs h) else lcK m ds0 (lcD (lcStep t own env ff k) xs h) := by
  rw [lcK_cons]
  unfold lcStep
  cases setTg t x h (rstE own env) with
  | none => rfl
  | some e =>
    dsimp only
    cases ff e h with
    | ok b h' =>
      cases b with
      | true => rfl
      | false =>
        show lcK m (ds0 ++ []) _ = lcK m ds0 _
        rw [List.append_nil]
    | exc c x h => rfl
    | err => rfl
/-- the inner tests' reading -/
abbrev tBl (Z : Ad) (n : Nat) (ff : MP.Env → Mem → R Bool) : TT := tG Z none W0 n relB ff
theorem lc_run {S1 : Sa} {env : MP.Env} {σ : L2.St} {m : Bool} {own : List Nat} {xs : List D} {J : L2.It} {Q : VK} (i1 : In Z none n S1 env σ) (wk : WalkD Z J xs S1) (ho : ∀ j ∈ tgs t, j ∈ own)
    (g0 : Go Z W n σ (relD Z) S1 ((lcD (lcStep t own env ff fun e h => (fe e h).bind fun d h => .ok [d] h) xs S1.h).calm.bind fun ds h => mkL m ds h) Q) :
    ∀ p, S1.H p = none → ∃ Wm : Nat → Nat → Hp → Prop, (∃ m, Wm 0 m (upd S1.H p (.lst []))) ∧ ∀ i m H, Wm i m H →
      (J.stop i H ∧ Q (.ref p) H) ∨ (J.go i H ∧ ∃ Nx : Hp → Prop, (∀ H', Nx H' → ∃ m', m' < m ∧ Wm (i + 1) m' H') ∧ ∀ x H', J.yld i H x H' → tTg Z none n t x (wipe σ own) H' fun σ2 H2 => wipe σ2 own = wipe σ own ∧ tBl Z n ff σ2 H2 fun b H3 =>
        if b = true then tI Z none W0 n fe σ2 H3 fun y H4 => ∃ acc, H4 p = some (.lst acc) ∧ acc.length < sizeLine ∧ Nx (upd H4 p (.lst (acc ++ [y]))) else Nx H3) := by
  intro p hp
  obtain ⟨G, Y, wJ, hG, hY⟩ := wk
  refine lc_it wJ (fun k H => ∃ S ds, Gr Z n S1 S p ds H ∧ Go Z W n σ (relD Z) S1 (lcK m ds (lcD (lcStep t own env ff fun e h => (fe e h).bind fun d h => .ok [d] h) (xs.drop k) S.h)) Q) ?_ ?_ ?_ ?_
  · exact ⟨S1, [], ⟨Nx.refl i1.ok, hp, [], rfl, .nil⟩, g0⟩
  · rintro k H _ ⟨S, ds, gr, g⟩
    have := hG (S.wi H) (gr.nx.ex.trans (gr.wi 0).ex)
    exact this
  · rintro k x H H' hk ⟨S, ds, gr, g⟩ y
    have exS : Ex Z S1 (S.wi H) := gr.nx.ex.trans (gr.wi 0).ex
    obtain ⟨S2, d, nx2, eh2, eH2, ed, rd⟩ := hY (S.wi H) k x H' exS hk y
    have exd : xs.drop k = d :: xs.drop (k + 1) := by
      rw [List.drop_eq_getElem_cons hk]
      have : xs[k] = d := by
        rw [List.getElem?_eq_getElem hk] at ed
        exact Option.some.inj ed
      rw [this]
    rw [exd, lcStep_cut (r := fun _ _ => .err)] at g
    have hle2 : n ≤ S2.h.length := by
      rw [eh2]
      exact Nat.le_trans i1.le (gr.nx.len i1.ok)
    refine ⟨S2, rstE own env, d, eH2, (i1.ex (exS.trans (nx2 0).ex) hle2).wipe, rd, ?_⟩
    have eh2' : S2.h = S.h := eh2
    rw [eh2']
    cases es : setTg t d S.h (rstE own env) with
    | none => rw [es] at g; exact g.elim
    | some e =>
      rw [es] at g
      refine ⟨e, rfl, fun σ2 j2 st => ⟨(st.wipe own ho).trans (wipe_idem own), ?_⟩⟩
      have g : Go Z W n σ (relD Z) S1 ((ff e S.h).calm.bind fun b h => if b then ((fe e h).bind fun d h => R.ok [d] h).calm.bind fun d h => lcK m (ds ++ d) (lcD (lcStep t own env ff fun e h => (fe e h).bind fun d h => .ok [d] h) (xs.drop (k + 1)) h) else lcK m ds (lcD (lcStep t own env ff fun e h => (fe e h).bind fun d h => .ok [d] h) (xs.drop (k + 1)) h)) Q := g
      refine ⟨S2, e, eH2, j2, ?_⟩
      rw [eh2']
      refine (Go.cut (Rel := relB) g).mono fun b H3 ⟨b', S3, nx3, eH3, rb, g3⟩ => ?_
      have rb : b' = b := rb
      subst rb eH3
      have x3 : Nx Z n (S.wi H) S3 := (nx2 n).trans nx3 (Nat.le_refl _)
      cases b' with
      | false =>
        simp only [Bool.false_eq_true, if_false] at g3 ⊢
        obtain ⟨S4, e1, e2, e3, ex4, gr4, _⟩ := gr.on hp x3
        exact ⟨S4, ds, gr4, by rw [e3]; exact g3⟩
      | true =>
        simp only [if_true] at g3 ⊢
        have g3' : Go Z W n σ (relD Z) S1 ((fe e S3.h).calm.bind fun d h => lcK m (ds ++ [d]) (lcD (lcStep t own env ff fun e h => (fe e h).bind fun d h => .ok [d] h) (xs.drop (k + 1)) h)) Q := by
          cases h1 : fe e S3.h with
          | ok d h => rw [h1] at g3; exact g3
          | exc c x h => rw [h1] at g3; exact g3
          | err => rw [h1] at g3; exact g3
        refine ⟨S3, e, rfl, j2.nx nx3, (Go.cut (Rel := relD Z) g3').mono fun y H4 ⟨dy, S4, nx4, eH4, ry, g4⟩ => ?_⟩
        subst eH4
        have x4 : Nx Z n (S.wi H) S4 := x3.trans nx4 (Nat.le_refl _)
        obtain ⟨S5, e1, e2, e3, ex5, gr5, acc, ea, ra, more⟩ := gr.on hp x4
        refine ⟨acc, ea, ?_, S5, ds ++ [dy], more _ _ (ra.append (.cons ry .nil)), by rw [e3]; exact g4⟩
        rcases lcK_len (m := m) (ds0 := ds ++ [dy]) (r := lcD (lcStep t own env ff fun e h => (fe e h).bind fun d h => .ok [d] h) (xs.drop (k + 1)) S4.h) with q | q
        · rw [q] at g4; exact g4.elim
        · rw [List.length_append, ra.length] at q
          exact Nat.lt_of_succ_le q
  · rintro H ⟨S, ds, gr, g⟩
    rw [List.drop_length] at g
    have g' : Go Z W n σ (relD Z) S1 (mkL m (ds ++ []) S.h) Q := g
    rw [List.append_nil] at g'
    obtain ⟨acc, e, ra⟩ := gr.ex
    subst e
    exact ((Go.from gr.nx (Nat.le_refl _) g').mkL gr.nx.ok ra).2 p gr.fr
theorem e_lc {m : Bool} {ifs : List Expr} {scope : Scope} {own : List (Str × Nat)} (hc : X.calm = true) (hN : X.N.Nodup) (hi : IOk X Z none W n tg iter fi) (ok : BlkOk X.N X.env.scope scope own) (ho : ∀ j ∈ tgs t, j ∈ own.map (·.2))
    (hg : ∀ (s : Shared) (H : Hp) (C : Addr) (cl : List (Str × Addr)) (fp : List Addr), PG (X.blk s H scope (compEnvC scope cl C X.env) fp) tg (tTg Z none n t)) (ht : ∀ (s : Shared) (H : Hp) (C : Addr) (cl : List (Str × Addr)) (fp : List Addr), PTs (X.blk s H scope (compEnvC scope cl C X.env) fp) ifs (tBl Z n ff))
    (he : ∀ (s : Shared) (H : Hp) (C : Addr) (cl : List (Str × Addr)) (fp : List Addr), PE (X.blk s H scope (compEnvC scope cl C X.env) fp) elt (tI Z none W0 n fe)) :
    PE X (.ListComp elt [⟨tg, iter, ifs, 0⟩] scope pos) (tI Z none W n fun env h => (fi env h).bind fun xs h => (lcD (lcStep t (own.map (·.2)) env ff fun e h => (fe e h).bind fun d h => .ok [d] h) xs h).calm.bind fun ds h => mkL m ds h) := by
  refine PE.imp (pe_lc hc hN hi.pi ok hg ht he (hi.fs _)) fun σ H Q ⟨S, env, e, i, q⟩ => ?_
  subst e
  refine ⟨S, env, rfl, i, (Go.bind (Rel := relW Z) q).mono fun J H1 ⟨xs, S1, x, e, r1, q1⟩ => ?_⟩
  subst e
  exact lc_run (i.nx x) r1 ho q1
end
end MP
end
section
set_option Elab.async false
set_option linter.all false
set_option maxRecDepth 100000
set_option maxHeartbeats 2000000
/-! MP: comprehensions of two clauses; a comprehension that is stored. -/
namespace MP
open PySem PySem.Spec L2
open PyProof.Rows hiding St
/-- gathered, with more to come -/
def lcG (fin : List D → Mem → R D) (ds0 : List D) (r : R (List D)) : R D := r.calm.bind fun ds h => fin (ds0 ++ ds) h
theorem lcG_len {fin : List D → Mem → R D} (hf : ∀ ds h, fin ds h = .err ∨ ds.length ≤ sizeLine) {ds0 : List D} {r : R (List D)} : lcG fin ds0 r = .err ∨ ds0.length ≤ sizeLine := by
  unfold lcG
  cases r with
  | ok ds h =>
    rcases hf (ds0 ++ ds) h with e | e
    · exact .inl e
    · rw [List.length_append] at e
      exact .inr (by omega)
  | exc c x h => exact .inl rfl
  | err => exact .inl rfl
theorem lcG_cons {fin : List D → Mem → R D} {ds0 : List D} {step : D → Mem → R (List D)} {x : D} {xs : List D} {h : Mem} : lcG fin ds0 (lcD step (x :: xs) h) = (step x h).calm.bind fun d h => lcG fin (ds0 ++ d) (lcD step xs h) := by
  unfold lcG
  show R.bind (R.calm ((step x h).bind fun d h => (lcD step xs h).bind fun ds h => .ok (d ++ ds) h)) _ = _
  cases step x h with
  | ok d h' =>
    show R.bind (R.calm ((lcD step xs h').bind fun ds h => .ok (d ++ ds) h)) _ = R.bind (R.calm (lcD step xs h')) _
    cases lcD step xs h' with
    | ok ds h2 =>
      show fin (ds0 ++ (d ++ ds)) h2 = fin (ds0 ++ d ++ ds) h2
      rw [List.append_assoc]
    | exc c x h => rfl
    | err => rfl
  | exc c x h => rfl
  | err => rfl
theorem lcG_step {fin : List D → Mem → R D} {t : Tg} {ds0 : List D} {own : List Nat} {env : MP.Env} {ff : MP.Env → Mem → R Bool} {k : MP.Env → Mem → R (List D)} {x : D} {h : Mem} {xs : List D} :
    lcG fin ds0 (lcD (lcStep t own env ff k) (x :: xs) h) = match setTg t x h (rstE own env) with
      | none => .err
      | some e => (ff e h).calm.bind fun b h => if b then (k e h).calm.bind fun d h => lcG fin (ds0 ++ d) (lcD (lcStep t own env ff k) xs h) else lcG fin ds0 (lcD (lcStep t own env ff k) xs h) := by
  rw [lcG_cons]
  unfold lcStep
  cases setTg t x h (rstE own env) with
  | none => rfl
  | some e =>
    dsimp only
    cases ff e h with
    | ok b h' =>
      cases b with
      | true => rfl
      | false =>
        show lcG fin (ds0 ++ []) _ = lcG fin ds0 _
        rw [List.append_nil]
    | exc c x h => rfl
    | err => rfl
/-- a loop over a walk -/
theorem walk_it {J : L2.It} {n : Nat} {G : Hp → Prop} {Y : Nat → Hp → V → Hp → Prop} (w : Walk J n G Y) {H0 : Hp} {Qd : Hp → Prop} {T : V → Hp → (Hp → Prop) → Prop} (Pv : Nat → Hp → Prop) (h0 : Pv 0 H0) (hG : ∀ i H, i ≤ n → Pv i H → G H)
    (hs : ∀ i x H H', i < n → Pv i H → Y i H x H' → T x H' (Pv (i + 1))) (hd : ∀ H, Pv n H → Qd H) :
    ∃ W : Nat → Nat → Hp → Prop, (∃ m, W 0 m H0) ∧ ∀ i m H, W i m H →
      (J.stop i H ∧ Qd H) ∨ (J.go i H ∧ ∃ Nx : Hp → Prop, (∀ H', Nx H' → ∃ m', m' < m ∧ W (i + 1) m' H') ∧ ∀ x H', J.yld i H x H' → T x H' Nx) := by
  refine ⟨fun i m H => m = n - i ∧ i ≤ n ∧ Pv i H, ⟨n, by simp, Nat.zero_le _, h0⟩, ?_⟩
  rintro i m H ⟨rfl, hi, p⟩
  have q := hG i H hi p
  by_cases hlt : i < n
  · refine .inr ⟨w.goes i H hlt q, Pv (i + 1), fun H' p' => ⟨n - (i + 1), by omega, rfl, hlt, p'⟩, fun x H' y => hs i x H H' hlt p (w.yields i H x H' hlt q y)⟩
  · have e : i = n := by omega
    subst e
    exact .inl ⟨w.stops H q, hd H p⟩
section
variable {X : Cx} {Z : Ad} {xo : Option Xo} {n : Nat} {W : WX} {elt tg iter tg1 iter1 : Expr} {pos : Pos} {fe : MP.Env → Mem → R D} {ff ff1 : MP.Env → Mem → R Bool} {fi fi1 : MP.Env → Mem → R (List D)} {t t1 : Tg}
theorem Gr.go {S1 S : Sa} {p : Addr} {ds : List D} {H : Hp} (g : Gr Z n S1 S p ds H) : Ex Z S1 (S.wi H) := g.nx.ex.trans (g.wi 0).ex
/-- the inner loop -/
theorem lc_in {S1 S0 : Sa} {env : MP.Env} {σ σ2 : L2.St} {fin : List D → Mem → R D} {own : List Nat} {ys : List D} {J : L2.It} {Q : VK} {p : Addr} {ds0 : List D} {H0 : Hp} {NxP : Hp → Prop} (hp : S1.H p = none) (hf : ∀ ds h, fin ds h = .err ∨ ds.length ≤ sizeLine)
    (gr0 : Gr Z n S1 S0 p ds0 H0) (hn0 : n ≤ S1.h.length) (ok1 : S1.Ok Z) (i0 : In Z none n S0 env σ2) (wk : WalkD Z J ys S0) (ho : ∀ j ∈ tgs t, j ∈ own)
    (g0 : Go Z W n σ (relD Z) S1 (lcG fin ds0 (lcD (lcStep t own env ff fun e h => (fe e h).bind fun d h => .ok [d] h) ys S0.h)) Q) (hd : ∀ S ds H, Gr Z n S1 S p ds H → Go Z W n σ (relD Z) S1 (fin ds S.h) Q → NxP H) :
    ∃ Wm : Nat → Nat → Hp → Prop, (∃ m, Wm 0 m H0) ∧ ∀ i m H, Wm i m H →
      (J.stop i H ∧ NxP H) ∨ (J.go i H ∧ ∃ Nx : Hp → Prop, (∀ H', Nx H' → ∃ m', m' < m ∧ Wm (i + 1) m' H') ∧ ∀ x H', J.yld i H x H' → tTg Z none n t x (wipe σ2 own) H' fun σ3 H2 => wipe σ3 own = wipe σ2 own ∧ tBl Z n ff σ3 H2 fun b H3 =>
        if b = true then tI Z none W0 n fe σ3 H3 fun y H4 => ∃ acc, H4 p = some (.lst acc) ∧ acc.length < sizeLine ∧ Nx (upd H4 p (.lst (acc ++ [y]))) else Nx H3) := by
  obtain ⟨G, Y, wJ, hG, hY⟩ := wk
  refine walk_it (T := fun x H' Nx => tTg Z none n t x (wipe σ2 own) H' fun σ3 H2 => wipe σ3 own = wipe σ2 own ∧ tBl Z n ff σ3 H2 fun b H3 =>
        if b = true then tI Z none W0 n fe σ3 H3 fun y H4 => ∃ acc, H4 p = some (.lst acc) ∧ acc.length < sizeLine ∧ Nx (upd H4 p (.lst (acc ++ [y]))) else Nx H3) wJ
    (fun k H => ∃ S ds, Gr Z n S1 S p ds H ∧ Ex Z S0 S ∧ Go Z W n σ (relD Z) S1 (lcG fin ds (lcD (lcStep t own env ff fun e h => (fe e h).bind fun d h => .ok [d] h) (ys.drop k) S.h)) Q) ?_ ?_ ?_ ?_
  · exact ⟨S0, ds0, gr0, ⟨⟨[], by simp⟩, Le.refl, gr0.nx.ok⟩, g0⟩
  · rintro k H _ ⟨S, ds, gr, ex, g⟩
    exact hG (S.wi H) (ex.trans (gr.wi 0).ex)
  · rintro k x H H' hk ⟨S, ds, gr, ex, g⟩ y
    have exS : Ex Z S0 (S.wi H) := ex.trans (gr.wi 0).ex
    obtain ⟨S2, d, nx2, eh2, eH2, ed, rd⟩ := hY (S.wi H) k x H' exS hk y
    have exd : ys.drop k = d :: ys.drop (k + 1) := by
      rw [List.drop_eq_getElem_cons hk]
      have : ys[k] = d := by
        rw [List.getElem?_eq_getElem hk] at ed
        exact Option.some.inj ed
      rw [this]
    rw [exd, lcG_step] at g
    have hle2 : n ≤ S2.h.length := by
      rw [eh2]
      exact Nat.le_trans hn0 (gr.nx.len ok1)
    refine ⟨S2, rstE own env, d, eH2, (i0.ex (exS.trans (nx2 0).ex) hle2).wipe, rd, ?_⟩
    have eh2' : S2.h = S.h := eh2
    rw [eh2']
    cases es : setTg t d S.h (rstE own env) with
    | none => rw [es] at g; exact g.elim
    | some e =>
      rw [es] at g
      refine ⟨e, rfl, fun σ2 j2 st => ⟨(st.wipe own ho).trans (wipe_idem own), ?_⟩⟩
      have g : Go Z W n σ (relD Z) S1 ((ff e S.h).calm.bind fun b h => if b then ((fe e h).bind fun d h => R.ok [d] h).calm.bind fun d h => lcG fin (ds ++ d) (lcD (lcStep t own env ff fun e h => (fe e h).bind fun d h => .ok [d] h) (ys.drop (k + 1)) h) else lcG fin ds (lcD (lcStep t own env ff fun e h => (fe e h).bind fun d h => .ok [d] h) (ys.drop (k + 1)) h)) Q := g
      refine ⟨S2, e, eH2, j2, ?_⟩
      rw [eh2']
      refine (Go.cut (Rel := relB) g).mono fun b H3 ⟨b', S3, nx3, eH3, rb, g3⟩ => ?_
      have rb : b' = b := rb
      subst rb eH3
      have x3 : Nx Z n (S.wi H) S3 := (nx2 n).trans nx3 (Nat.le_refl _)
      cases b' with
      | false =>
        simp only [Bool.false_eq_true, if_false] at g3 ⊢
        obtain ⟨S4, e1, e2, e3, ex4, gr4, _⟩ := gr.on hp x3
        exact ⟨S4, ds, gr4, (exS.trans x3.ex).trans ex4, by rw [e3]; exact g3⟩
      | true =>
        simp only [if_true] at g3 ⊢
        have g3' : Go Z W n σ (relD Z) S1 ((fe e S3.h).calm.bind fun d h => lcG fin (ds ++ [d]) (lcD (lcStep t own env ff fun e h => (fe e h).bind fun d h => .ok [d] h) (ys.drop (k + 1)) h)) Q := by
          cases h1 : fe e S3.h with
          | ok d h => rw [h1] at g3; exact g3
          | exc c x h => rw [h1] at g3; exact g3
          | err => rw [h1] at g3; exact g3
        refine ⟨S3, e, rfl, j2.nx nx3, (Go.cut (Rel := relD Z) g3').mono fun y H4 ⟨dy, S4, nx4, eH4, ry, g4⟩ => ?_⟩
        subst eH4
        have x4 : Nx Z n (S.wi H) S4 := x3.trans nx4 (Nat.le_refl _)
        obtain ⟨S5, e1, e2, e3, ex5, gr5, acc, ea, ra, more⟩ := gr.on hp x4
        refine ⟨acc, ea, ?_, S5, ds ++ [dy], more _ _ (ra.append (.cons ry .nil)), (exS.trans x4.ex).trans ex5, by rw [e3]; exact g4⟩
        rcases lcG_len hf (ds0 := ds ++ [dy]) (r := lcD (lcStep t own env ff fun e h => (fe e h).bind fun d h => .ok [d] h) (ys.drop (k + 1)) S4.h) with q | q
        · rw [q] at g4; exact g4.elim
        · rw [List.length_append, ra.length] at q
          exact Nat.lt_of_succ_le q
  · rintro H ⟨S, ds, gr, ex, g⟩
    rw [List.drop_length] at g
    have g' : Go Z W n σ (relD Z) S1 (fin (ds ++ []) S.h) Q := g
    rw [List.append_nil] at g'
    exact hd S ds H gr g'
/-- the outer loop's turn, behind its tests -/
def lc2K (t1 : Tg) (own1 : List Nat) (fi1 : MP.Env → Mem → R (List D)) (ff1 : MP.Env → Mem → R Bool) (fe : MP.Env → Mem → R D) : MP.Env → Mem → R (List D) := fun e h => (fi1 e h).bind fun ys h => lcD (lcStep t1 own1 e ff1 fun e h => (fe e h).bind fun d h => .ok [d] h) ys h
theorem lc2_run {S1 : Sa} {env : MP.Env} {σ : L2.St} {m : Bool} {own own1 : List Nat} {xs : List D} {J : L2.It} {Q : VK} (i1 : In Z none n S1 env σ) (wk : WalkD Z J xs S1) (ho : ∀ j ∈ tgs t, j ∈ own) (ho1 : ∀ j ∈ tgs t1, j ∈ own1)
    (g0 : Go Z W n σ (relD Z) S1 ((lcD (lcStep t own env ff (lc2K t1 own1 fi1 ff1 fe)) xs S1.h).calm.bind fun ds h => mkL m ds h) Q) :
    ∀ p, S1.H p = none → ∃ Wm : Nat → Nat → Hp → Prop, (∃ m, Wm 0 m (upd S1.H p (.lst []))) ∧ ∀ i m H, Wm i m H →
      (J.stop i H ∧ Q (.ref p) H) ∨ (J.go i H ∧ ∃ Nx : Hp → Prop, (∀ H', Nx H' → ∃ m', m' < m ∧ Wm (i + 1) m' H') ∧ ∀ x H', J.yld i H x H' → tTg Z none n t x (wipe σ own) H' fun σ2 H2 => wipe σ2 own = wipe σ own ∧ tBl Z n ff σ2 H2 fun b H3 =>
        if b = true then tG Z none W0 n (relW Z) fi1 σ2 H3 fun J1 H4 => ∃ W1 : Nat → Nat → Hp → Prop, (∃ m, W1 0 m H4) ∧ ∀ j k H, W1 j k H →
          (J1.stop j H ∧ Nx H) ∨ (J1.go j H ∧ ∃ Nx1 : Hp → Prop, (∀ H', Nx1 H' → ∃ k', k' < k ∧ W1 (j + 1) k' H') ∧ ∀ x H', J1.yld j H x H' → tTg Z none n t1 x (wipe σ2 own1) H' fun σ3 H5 => wipe σ3 own1 = wipe σ2 own1 ∧ tBl Z n ff1 σ3 H5 fun b H6 =>
            if b = true then tI Z none W0 n fe σ3 H6 fun y H7 => ∃ acc, H7 p = some (.lst acc) ∧ acc.length < sizeLine ∧ Nx1 (upd H7 p (.lst (acc ++ [y]))) else Nx1 H6)
        else Nx H3) := by
  intro p hp
  obtain ⟨G, Y, wJ, hG, hY⟩ := wk
  refine walk_it (T := fun x H' Nx => tTg Z none n t x (wipe σ own) H' fun σ2 H2 => wipe σ2 own = wipe σ own ∧ tBl Z n ff σ2 H2 fun b H3 =>
        if b = true then tG Z none W0 n (relW Z) fi1 σ2 H3 fun J1 H4 => ∃ W1 : Nat → Nat → Hp → Prop, (∃ m, W1 0 m H4) ∧ ∀ j k H, W1 j k H →
          (J1.stop j H ∧ Nx H) ∨ (J1.go j H ∧ ∃ Nx1 : Hp → Prop, (∀ H', Nx1 H' → ∃ k', k' < k ∧ W1 (j + 1) k' H') ∧ ∀ x H', J1.yld j H x H' → tTg Z none n t1 x (wipe σ2 own1) H' fun σ3 H5 => wipe σ3 own1 = wipe σ2 own1 ∧ tBl Z n ff1 σ3 H5 fun b H6 =>
            if b = true then tI Z none W0 n fe σ3 H6 fun y H7 => ∃ acc, H7 p = some (.lst acc) ∧ acc.length < sizeLine ∧ Nx1 (upd H7 p (.lst (acc ++ [y]))) else Nx1 H6)
        else Nx H3) wJ (fun k H => ∃ S ds, Gr Z n S1 S p ds H ∧ Go Z W n σ (relD Z) S1 (lcG (mkL m) ds (lcD (lcStep t own env ff (lc2K t1 own1 fi1 ff1 fe)) (xs.drop k) S.h)) Q) ?_ ?_ ?_ ?_
  · exact ⟨S1, [], ⟨Nx.refl i1.ok, hp, [], rfl, .nil⟩, g0⟩
  · rintro k H _ ⟨S, ds, gr, g⟩
    exact hG (S.wi H) gr.go
  · rintro k x H H' hk ⟨S, ds, gr, g⟩ y
    have exS : Ex Z S1 (S.wi H) := gr.go
    obtain ⟨S2, d, nx2, eh2, eH2, ed, rd⟩ := hY (S.wi H) k x H' exS hk y
    have exd : xs.drop k = d :: xs.drop (k + 1) := by
      rw [List.drop_eq_getElem_cons hk]
      have : xs[k] = d := by
        rw [List.getElem?_eq_getElem hk] at ed
        exact Option.some.inj ed
      rw [this]
    rw [exd, lcG_step] at g
    have hle2 : n ≤ S2.h.length := by
      rw [eh2]
      exact Nat.le_trans i1.le (gr.nx.len i1.ok)
    refine ⟨S2, rstE own env, d, eH2, (i1.ex (exS.trans (nx2 0).ex) hle2).wipe, rd, ?_⟩
    have eh2' : S2.h = S.h := eh2
    rw [eh2']
    cases es : setTg t d S.h (rstE own env) with
    | none => rw [es] at g; exact g.elim
    | some e =>
      rw [es] at g
      refine ⟨e, rfl, fun σ2 j2 st => ⟨(st.wipe own ho).trans (wipe_idem own), ?_⟩⟩
      have g : Go Z W n σ (relD Z) S1 ((ff e S.h).calm.bind fun b h => if b then (lc2K t1 own1 fi1 ff1 fe e h).calm.bind fun d h => lcG (mkL m) (ds ++ d) (lcD (lcStep t own env ff (lc2K t1 own1 fi1 ff1 fe)) (xs.drop (k + 1)) h) else lcG (mkL m) ds (lcD (lcStep t own env ff (lc2K t1 own1 fi1 ff1 fe)) (xs.drop (k + 1)) h)) Q := g
      refine ⟨S2, e, eH2, j2, ?_⟩
      rw [eh2']
      refine (Go.cut (Rel := relB) g).mono fun b H3 ⟨b', S3, nx3, eH3, rb, g3⟩ => ?_
      have rb : b' = b := rb
      subst rb eH3
      have x3 : Nx Z n (S.wi H) S3 := (nx2 n).trans nx3 (Nat.le_refl _)
      cases b' with
      | false =>
        simp only [Bool.false_eq_true, if_false] at g3 ⊢
        obtain ⟨S4, e1, e2, e3, ex4, gr4, _⟩ := gr.on hp x3
        exact ⟨S4, ds, gr4, by rw [e3]; exact g3⟩
      | true =>
        simp only [if_true] at g3 ⊢
        have g3' : Go Z W n σ (relD Z) S1 ((fi1 e S3.h).calm.bind fun ys h => lcG (fun ds' h => lcG (mkL m) ds' (lcD (lcStep t own env ff (lc2K t1 own1 fi1 ff1 fe)) (xs.drop (k + 1)) h)) ds (lcD (lcStep t1 own1 e ff1 fun e h => (fe e h).bind fun d h => .ok [d] h) ys h)) Q := by
          unfold lc2K at g3
          cases h1 : fi1 e S3.h with
          | ok d h => rw [h1] at g3; exact g3
          | exc c x h => rw [h1] at g3; exact g3
          | err => rw [h1] at g3; exact g3
        refine ⟨S3, e, rfl, j2.nx nx3, (Go.cut (Rel := relW Z) g3').mono fun J1 H4 ⟨ys, S4, nx4, eH4, wk1, g4⟩ => ?_⟩
        subst eH4
        have x4 : Nx Z n (S.wi H) S4 := x3.trans nx4 (Nat.le_refl _)
        obtain ⟨S5, e1, e2, e3, ex5, gr5, acc, ea, ra, more⟩ := gr.on hp x4
        have i5 : In Z none n S5 e σ2 := ((j2.nx nx3).nx nx4).ex ex5 (by rw [e3]; exact Nat.le_trans i1.le (((gr.nx.trans (gr.wi n) (Nat.le_refl _)).trans x4 (Nat.le_refl _)).len i1.ok))
        have wk5 : WalkD Z J1 ys S5 := by
          obtain ⟨G1, Y1, w1, w2, w3⟩ := wk1
          exact ⟨G1, Y1, w1, fun S' x => w2 S' (ex5.trans x), fun S' i x H' x' => w3 S' i x H' (ex5.trans x')⟩
        refine lc_in hp (fun ds h => lcG_len fun ds h => mkL_len) gr5 i1.le i1.ok i5 wk5 ho1 (by rw [e3]; exact g4) fun S6 ds6 H6 gr6 g6 => ⟨S6, ds6, gr6, g6⟩
  · rintro H ⟨S, ds, gr, g⟩
    rw [List.drop_length] at g
    have g' : Go Z W n σ (relD Z) S1 (mkL m (ds ++ []) S.h) Q := g
    rw [List.append_nil] at g'
    obtain ⟨acc, e, ra⟩ := gr.ex
    subst e
    exact ((Go.from gr.nx (Nat.le_refl _) g').mkL gr.nx.ok ra).2 p gr.fr
/-- what a comprehension's parts must do -/
structure Lc1 (X : Cx) (Z : Ad) (n : Nat) (scope : Scope) (own : List (Str × Nat)) (tg elt : Expr) (ifs : List Expr) (t : Tg) (ff : MP.Env → Mem → R Bool) (fe : MP.Env → Mem → R D) : Prop where
  ok : BlkOk X.N X.env.scope scope own
  ho : ∀ j ∈ tgs t, j ∈ own.map (·.2)
  hg : ∀ (s : Shared) (H : Hp) (C : Addr) (cl : List (Str × Addr)) (fp : List Addr), PG (X.blk s H scope (compEnvC scope cl C X.env) fp) tg (tTg Z none n t)
  ht : ∀ (s : Shared) (H : Hp) (C : Addr) (cl : List (Str × Addr)) (fp : List Addr), PTs (X.blk s H scope (compEnvC scope cl C X.env) fp) ifs (tBl Z n ff)
  he : ∀ (s : Shared) (H : Hp) (C : Addr) (cl : List (Str × Addr)) (fp : List Addr), PE (X.blk s H scope (compEnvC scope cl C X.env) fp) elt (tI Z none W0 n fe)
structure Lc2 (X : Cx) (Z : Ad) (n : Nat) (scope : Scope) (own : List (Str × Nat)) (tg elt tg1 iter1 : Expr) (ifs ifs1 : List Expr) (t t1 : Tg) (ff ff1 : MP.Env → Mem → R Bool) (fi1 : MP.Env → Mem → R (List D)) (fe : MP.Env → Mem → R D) : Prop where
  a : Lc1 X Z n scope own tg elt ifs t ff fe
  hv : ∀ j ∈ tgs t1, j ∈ own.map (·.2)
  hg1 : ∀ (s : Shared) (H : Hp) (C : Addr) (cl : List (Str × Addr)) (fp : List Addr), PG (X.blk s H scope (compEnvC scope cl C X.env) fp) tg1 (tTg Z none n t1)
  ht1 : ∀ (s : Shared) (H : Hp) (C : Addr) (cl : List (Str × Addr)) (fp : List Addr), PTs (X.blk s H scope (compEnvC scope cl C X.env) fp) ifs1 (tBl Z n ff1)
  hi1 : ∀ (s : Shared) (H : Hp) (C : Addr) (cl : List (Str × Addr)) (fp : List Addr), PI (X.blk s H scope (compEnvC scope cl C X.env) fp) tg1 iter1 (tG Z none W0 n (relW Z) fi1)
  fs : ∀ env x, foldedSetIterable iter1 env x = pure x
def lcF (m : Bool) (t : Tg) (own : List Nat) (fi : MP.Env → Mem → R (List D)) (ff : MP.Env → Mem → R Bool) (fe : MP.Env → Mem → R D) : MP.Env → Mem → R D := fun env h => (fi env h).bind fun xs h => (lcD (lcStep t own env ff fun e h => (fe e h).bind fun d h => .ok [d] h) xs h).calm.bind fun ds h => mkL m ds h
def lc2F (m : Bool) (t t1 : Tg) (own own1 : List Nat) (fi fi1 : MP.Env → Mem → R (List D)) (ff ff1 : MP.Env → Mem → R Bool) (fe : MP.Env → Mem → R D) : MP.Env → Mem → R D := fun env h => (fi env h).bind fun xs h => (lcD (lcStep t own env ff (lc2K t1 own1 fi1 ff1 fe)) xs h).calm.bind fun ds h => mkL m ds h
theorem EOk.lc {m : Bool} {ifs : List Expr} {scope : Scope} {own : List (Str × Nat)} (hK : X.K = Z.K) (hc : X.calm = true) (hN : X.N.Nodup) (hi : IOk X Z none W n tg iter fi) (h : Lc1 X Z n scope own tg elt ifs t ff fe) :
    EOk X Z none W n (.ListComp elt [⟨tg, iter, ifs, 0⟩] scope pos) (lcF m t (own.map (·.2)) fi ff fe) := by
  refine EOk.of hK (PE.imp (pe_lc hc hN hi.pi h.ok h.hg h.ht h.he (hi.fs _)) fun σ H Q ⟨S, env, e, i, q⟩ => ?_) (fun _ => rfl)
  subst e
  refine ⟨S, env, rfl, i, (Go.bind (Rel := relW Z) q).mono fun J H1 ⟨xs, S1, x, e, r1, q1⟩ => ?_⟩
  subst e
  exact lc_run (i.nx x) r1 h.ho q1
theorem EOk.lc2 {m : Bool} {ifs ifs1 : List Expr} {scope : Scope} {own : List (Str × Nat)} (hK : X.K = Z.K) (hc : X.calm = true) (hN : X.N.Nodup) (hi : IOk X Z none W n tg iter fi) (h : Lc2 X Z n scope own tg elt tg1 iter1 ifs ifs1 t t1 ff ff1 fi1 fe) :
    EOk X Z none W n (.ListComp elt [⟨tg, iter, ifs, 0⟩, ⟨tg1, iter1, ifs1, 0⟩] scope pos) (lc2F m t t1 (own.map (·.2)) (tgs t1) fi fi1 ff ff1 fe) := by
  refine EOk.of hK (PE.imp (pe_lc2 hc hN hi.pi h.a.ok h.hv h.a.hg h.a.ht h.hi1 h.hg1 h.ht1 h.a.he (hi.fs _) h.fs) fun σ H Q ⟨S, env, e, i, q⟩ => ?_) (fun _ => rfl)
  subst e
  refine ⟨S, env, rfl, i, (Go.bind (Rel := relW Z) q).mono fun J H1 ⟨xs, S1, x, e, r1, q1⟩ => ?_⟩
  subst e
  exact lc2_run (i.nx x) r1 h.a.ho (fun _ h => h) q1
end
end MP
end
section
set_option Elab.async false
set_option linter.all false
set_option maxRecDepth 100000
set_option maxHeartbeats 2000000
/-! MP: statements. -/
namespace MP
open PySem PySem.Spec L2
open PyProof.Rows hiding St
/-- what a statement's meaning promises -/
def GoS (Z : Ad) (xo : Option Xo) (W : WX) (n : Nat) (S : Sa) (r : MP.X) (D : Ends) : Prop := match r with
  | .nx env h => ∀ S' σ', Nx Z n S S' → S'.h = h → In Z xo n S' env σ' → D.nx σ' S'.H
  | .brk env h => ∀ S' σ', Nx Z n S S' → S'.h = h → In Z xo n S' env σ' → D.bk σ' S'.H
  | .cnt env h => ∀ S' σ', Nx Z n S S' → S'.h = h → In Z xo n S' env σ' → D.ct σ' S'.H
  | .ret d h => ∀ S' v, Nx Z n S S' → S'.h = h → VD Z S'.r S'.F d v → D.rt v S'.H
  | .exc c x env h => ∀ S' σ' dx v, Nx Z n S S' → S'.h = h → In Z xo n S' env σ' → S'.F dx = some (.xd [(Z.xf c, v)]) → VA Z S'.F x v → W (.ref (Z.xad c)) (some dx) σ' S'.H
  | .err => False
def tS (Z : Ad) (xo : Option Xo) (W : WX) (n : Nat) (f : MP.Env → Mem → MP.X) : TS := fun D σ H => ∃ S env, S.H = H ∧ In Z xo n S env σ ∧ GoS Z xo W n S (f env S.h) D
section
variable {Z : Ad} {xo : Option Xo} {n : Nat} {S S' : Sa} {W : WX} {σ : L2.St} {env : MP.Env} {D D' : Ends}
theorem GoS.from {r : MP.X} {m : Nat} (x : Nx Z m S S') (hm : n ≤ m) (g : GoS Z xo W n S r D) : GoS Z xo W n S' r D := by
  cases r with
  | nx e h => exact fun S2 σ' y e => g S2 σ' ((x.mono hm).trans y (Nat.le_refl _)) e
  | brk e h => exact fun S2 σ' y e => g S2 σ' ((x.mono hm).trans y (Nat.le_refl _)) e
  | cnt e h => exact fun S2 σ' y e => g S2 σ' ((x.mono hm).trans y (Nat.le_refl _)) e
  | ret d h => exact fun S2 σ' y e => g S2 σ' ((x.mono hm).trans y (Nat.le_refl _)) e
  | exc c z e h => exact fun S2 σ' dx v y e => g S2 σ' dx v ((x.mono hm).trans y (Nat.le_refl _)) e
  | err => exact g
theorem GoS.thn {α β : Type} {Rel : Sa → α → β → Prop} {r : R α} {k : α → Mem → MP.X} (i : In Z xo n S env σ) (g : GoS Z xo W n S (r.thn env k) D) :
    Go Z W n σ Rel S r fun v H1 => ∃ d S1, Nx Z n S S1 ∧ S1.H = H1 ∧ Rel S1 d v ∧ GoS Z xo W n S1 (k d S1.h) D := by
  cases r with
  | ok d h' =>
    intro S1 v x e q
    refine ⟨d, S1, x, rfl, q, ?_⟩
    rw [e]
    exact GoS.from x (Nat.le_refl _) g
  | exc c z h' => exact fun S1 dx v x e q q' => g S1 σ dx v x e (i.nx x) q q'
  | err => exact g
theorem GoS.nxt (g : GoS Z xo W n S (.nx env S.h) D) (i : In Z xo n S env σ) : D.nx σ S.H := g S σ (Nx.refl i.ok) rfl i
theorem GoS.ofM {o : Option Mem} (g : GoS Z xo W n S (ofM o env) D) : ∃ h, o = some h ∧ GoS Z xo W n S (.nx env h) D := by
  cases o with
  | none => exact g.elim
  | some h => exact ⟨h, rfl, g⟩
end
section
variable {X : Cx} {Z : Ad} {xo : Option Xo} {n : Nat} {W : WX} {st : Stmt} {sts rest : List Stmt} {a b c e o : Expr} {f g k : MP.Env → Mem → R D} {F G : MP.Env → Mem → MP.X} {pos pos' : Pos}
theorem PS.imp {t t' : TS} (h : PS X st t) (k : ∀ D σ H, t' D σ H → t D σ H) : PS X st t' := ⟨fun pins s σ H D I w => h.run pins s σ H D I (k D σ H w)⟩
theorem PSs.imp {t t' : TS} (h : PSs X sts t) (k : ∀ D σ H, t' D σ H → t D σ H) : PSs X sts t' := ⟨fun pins s σ H D I w => h.run pins s σ H D I (k D σ H w)⟩
theorem s_nil : PSs X [] (tS Z xo W n fun env h => .nx env h) := PSs.imp pss_nil fun D σ H ⟨S, env, e, i, q⟩ => by
  subst e
  exact GoS.nxt q i
theorem s_cons (h1 : PS X st (tS Z xo W n F)) (h2 : PSs X rest (tS Z xo W n G)) : PSs X (st :: rest) (tS Z xo W n fun env h => match F env h with
    | .nx env h => G env h
    | x => x) := PSs.imp (pss_cons h1 h2) fun D σ H ⟨S, env, e, i, q⟩ => by
  subst e
  refine ⟨S, env, rfl, i, ?_⟩
  dsimp only at q
  cases hf : F env S.h with
  | nx e h =>
    rw [hf] at q
    intro S' σ' x eh i'
    refine ⟨S', e, rfl, i', ?_⟩
    rw [eh]
    exact GoS.from x (Nat.le_refl _) q
  | brk e h => rw [hf] at q; exact q
  | cnt e h => rw [hf] at q; exact q
  | ret d h => rw [hf] at q; exact q
  | exc c x e h => rw [hf] at q; exact q
  | err => rw [hf] at q; exact q
theorem s_pass : PS X (.Pass pos) (tS Z xo W n fun env h => .nx env h) := PS.imp ps_pass fun D σ H ⟨S, env, e, i, q⟩ => by
  subst e
  exact GoS.nxt q i
theorem s_doc {x j} : PS X (.Expr (.Constant (.str x) j pos) pos') (tS Z xo W n fun env h => .nx env h) := PS.imp ps_doc fun D σ H ⟨S, env, e, i, q⟩ => by
  subst e
  exact GoS.nxt q i
theorem s_brk : PS X (.Break pos) (tS Z xo W n fun env h => .brk env h) := PS.imp ps_break fun D σ H ⟨S, env, e, i, q⟩ => by
  subst e
  exact q S σ (Nx.refl i.ok) rfl i
theorem s_cnt : PS X (.Continue pos) (tS Z xo W n fun env h => .cnt env h) := PS.imp ps_continue fun D σ H ⟨S, env, e, i, q⟩ => by
  subst e
  exact q S σ (Nx.refl i.ok) rfl i
theorem s_ret (ha : EOk X Z xo W n a f) : PS X (.Return (some a) pos) (tS Z xo W n fun env h => (f env h).thn env fun d h => .ret d h) := PS.imp (ps_ret ha.pe) fun D σ H ⟨S, env, e, i, q⟩ => by
  subst e
  refine ⟨S, env, rfl, i, (GoS.thn (Rel := relD Z) i q).mono fun v H1 ⟨d, S1, x, e, r1, q1⟩ => ?_⟩
  subst e
  exact q1 S1 v (Nx.refl x.ok) rfl r1
theorem s_retN : PS X (.Return none pos) (tS Z xo W n fun env h => .ret (.a .non) h) := PS.imp ps_retN fun D σ H ⟨S, env, e, i, q⟩ => by
  subst e
  exact q S .non (Nx.refl i.ok) rfl .non
def isComp : Expr → Bool
  | .ListComp _ _ _ _ => true
  | .SetComp _ _ _ _ => true
  | .DictComp _ _ _ _ _ => true
  | _ => false
theorem sw_none {e : Expr} (h : isComp e = false) (tg : Option Expr) (l : Nat) (env : PySem.Env) : swapsWith e tg l env = pure false := by
  cases e <;> first | rfl | cases h
theorem s_expr (ha : EOk X Z xo W n a f) (hc : isComp a = false) : PS X (.Expr a pos) (tS Z xo W n fun env h => (f env h).thn env fun _ h => .nx env h) := PS.imp (ps_expr ha.pe (sw_none hc _ _ _)) fun D σ H ⟨S, env, e, i, q⟩ => by
  subst e
  refine ⟨S, env, rfl, i, (GoS.thn (Rel := relD Z) i q).mono fun v H1 ⟨d, S1, x, e, r1, q1⟩ => ?_⟩
  subst e
  exact GoS.nxt q1 (i.nx x)
/-- a test's reading in a statement -/
theorem s_ite {p q : List Stmt} (hc : EOk X Z xo W n c f) (ha : PSs X p (tS Z xo W n F)) (hb : PSs X q (tS Z xo W n G)) : PS X (.If c p q pos) (tS Z xo W n fun env h => (f env h).tru.thn env fun t h => if t then F env h else G env h) := PS.imp (ps_if hc.pt ha hb) fun D σ H ⟨S, env, e, i, q⟩ => by
  subst e
  refine ⟨S, env, rfl, i, (GoS.thn (Rel := relB) i q).mono fun v H1 ⟨d, S1, x, e, r1, q1⟩ => ?_⟩
  subst e
  have r1 : d = v := r1
  subst r1
  cases d with
  | true => exact ⟨S1, env, rfl, i.nx x, q1⟩
  | false => exact ⟨S1, env, rfl, i.nx x, q1⟩
/-! ### stores -/
theorem s_asgN {j : Nat} {x : Str} {p : Pos} (hN : X.N.Nodup) (hi : X.N[j]? = some x) (hx : Loc X.env.scope x) (hf : X.fn x = true ∨ X.env.scope.names.lookup x = some .local) (ho : ∀ o, xo = some o → o.i ≠ j) (ha : EOk X Z xo W n a f) (hs : swapsWith a (some (.Name x p)) pos.line X.env = pure false) :
    PS X (.Assign [.Name x p] a pos) (tS Z xo W n fun env h => (f env h).thn env fun d h => match setTg (.nm j) d h env with
      | some env => .nx env h
      | none => .err) := PS.imp (ps_set hN hi hx ha.pe hs hf) fun D σ H ⟨S, env, e, i, q⟩ => by
  subst e
  refine ⟨S, env, rfl, i, (GoS.thn (Rel := relD Z) i q).mono fun v H1 ⟨d, S1, x, e, r1, q1⟩ => ?_⟩
  subst e
  exact GoS.nxt q1 ((i.nx x).set r1 ho)
theorem s_asgT {es : List Expr} {is : List Nat} {kk : Nat} {p : Pos} (hK : X.K = Z.K) (hc : X.calm = true) (hN : X.N.Nodup) (h : Nms X xo es is) (ha : EOk X Z xo W n a f) (hw : swappedStores [.Tuple es kk p] a X.env = pure none) :
    PS X (.Assign [.Tuple es kk p] a pos) (tS Z xo W n fun env h => (f env h).thn env fun d h => match setTg (.tp is) d h env with
      | some env => .nx env h
      | none => .err) := PS.imp (ps_asg (tg := .Tuple es kk p) ha.pe (tg_tp hK hc hN h (n := n)) (by cases a <;> rfl) hw) fun D σ H ⟨S, env, e, i, q⟩ => by
  subst e
  refine ⟨S, env, rfl, i, (GoS.thn (Rel := relD Z) i q).mono fun v H1 ⟨d, S1, x, e, r1, q1⟩ => ?_⟩
  subst e
  refine ⟨S1, env, d, rfl, i.nx x, r1, ?_⟩
  cases es : setTg (.tp is) d S1.h env with
  | none => rw [es] at q1; exact q1.elim
  | some env' =>
    rw [es] at q1
    exact ⟨env', rfl, fun σ' j _ => GoS.nxt q1 j⟩
theorem PSet.or {t u : TSet} (h : PSet X t) (h' : PSet X u) : PSet X (fun o i v H Q => t o i v H Q ∨ u o i v H Q) := fun pins s σ H o i v ov iv w Q I r1 r2 r3 q => q.elim (h pins s σ H o i v ov iv w Q I r1 r2 r3) (h' pins s σ H o i v ov iv w Q I r1 r2 r3)
theorem KVA.putV {κ : Type} [DecidableEq κ] {F : Hp} {x : A} {v : V} (r : VA Z F x v) (k : κ) : ∀ {xs : List (κ × A)} {vs : List (κ × V)}, KVA Z F xs vs → KVA Z F (xs.map fun kv => if kv.1 = k then (kv.1, x) else kv) (vs.map fun kv => if kv.1 = k then (kv.1, v) else kv)
  | _, _, .nil => .nil
  | _, _, .cons (k := k') a t => by
    rw [List.map_cons, List.map_cons]
    by_cases h : k' = k
    · simp only [h, if_true]
      exact .cons r (KVA.putV r k t)
    · simp only [h, if_false]
      exact .cons a (KVA.putV r k t)
theorem KVA.anyK {κ : Type} [DecidableEq κ] {F : Hp} (k : κ) : ∀ {xs : List (κ × A)} {vs : List (κ × V)}, KVA Z F xs vs → (xs.any fun kv => decide (kv.1 = k)) = (vs.any fun kv => decide (kv.1 = k))
  | _, _, .nil => rfl
  | _, _, .cons (k := k') a t => by
    rw [List.any_cons, List.any_cons, KVA.anyK k t]
theorem KVA.snoc {κ : Type} {F : Hp} {x : A} {v : V} {k : κ} (r : VA Z F x v) : ∀ {xs : List (κ × A)} {vs : List (κ × V)}, KVA Z F xs vs → KVA Z F (xs ++ [(k, x)]) (vs ++ [(k, v)])
  | _, _, .nil => .cons r .nil
  | _, _, .cons a t => .cons a (KVA.snoc r t)
theorem KVA.put {κ : Type} [DecidableEq κ] {F : Hp} {x : A} {v : V} (r : VA Z F x v) (k : κ) {xs : List (κ × A)} {vs : List (κ × V)} (h : KVA Z F xs vs) : KVA Z F (dput xs k x) (L2.putK vs k v) := by
  unfold dput L2.putK
  rw [h.anyK k]
  split
  · exact h.putV r k
  · exact h.snoc r
/-- o[i] = v -/
theorem setIx_ok {S : Sa} (ok : S.Ok Z) {d1 d2 d3 : D} {v1 v2 v3 : V} {h' : Mem} (r1 : VD Z S.r S.F d1 v1) (r2 : VD Z S.r S.F d2 v2) (r3 : VD Z S.r S.F d3 v3) (e : setIx S.h d1 d2 d3 = some h') {Q : Hp → Prop} (q : ∀ S', Nx Z n S S' → S'.h = h' → Q S'.H) :
    rSetL v1 v2 v3 S.H Q ∨ rSetD v1 v2 v3 S.H Q := by
  unfold setIx at e
  split at e
  · rename_i m i v
    obtain ⟨p, e1, e2⟩ := r1
    subst e1
    split at e
    · rename_i xs hm
      split at e
      · cases r2
        obtain ⟨o, h1, ⟨vs, h2, h3⟩, _⟩ := ok.at' hm e2
        subst h2
        cases hj : idxN xs.length _ with
        | none => rw [hj] at e; cases e
        | some j =>
          rw [hj] at e
          cases e
          have x : Nx Z n S _ := ok.put e2 hm (fun z => nomatch z) (m := .lst (xs.set j v)) (o := .lst (vs.set j v3)) ⟨_, rfl, h3.set r3 j⟩ (fun b hb h => h.set fun _ _ z => nomatch z)
          exact .inl ⟨p, vs, _, j, rfl, rfl, h1, by rw [← h3.length]; exact hj, q ⟨S.r, S.F, S.h.set m (.lst (xs.set j v)), upd S.H p (.lst (vs.set j v3))⟩ x rfl⟩
      · cases e
    · rename_i kvs hm
      obtain ⟨o, h1, ⟨vs, h2, h3⟩, _⟩ := ok.at' hm e2
      subst h2
      cases hk : key? i with
      | none => rw [hk] at e; cases e
      | some k =>
        rw [hk] at e
        have e' : (if kvs.length < sizeLine then some (S.h.set m (.dk (dput kvs k v))) else none) = some h' := e
        split at e'
        · rename_i hl
          cases e'
          have x : Nx Z n S _ := ok.put e2 hm (fun z => nomatch z) (m := .dk (dput kvs k v)) (o := .dK (L2.putK vs k v3)) ⟨_, rfl, h3.put r3 k⟩ (fun b hb h => h.set fun _ _ z => nomatch z)
          refine .inr ⟨p, _, rfl, ?_, q ⟨S.r, S.F, S.h.set m (.dk (dput kvs k v)), upd S.H p (.dK (L2.putK vs k v3))⟩ x rfl⟩
          rw [keyV hk r2]
          exact DPut.k h1 (by rw [← h3.length]; exact hl)
        · cases e'
    · rename_i kvs hm
      obtain ⟨o, h1, ⟨vs, h2, h3⟩, _⟩ := ok.at' hm e2
      subst h2
      cases hk : tkey? i with
      | none => rw [hk] at e; cases e
      | some k =>
        rw [hk] at e
        have e' : (if kvs.length < sizeLine then some (S.h.set m (.dt (dput kvs k v))) else none) = some h' := e
        split at e'
        · rename_i hl
          cases e'
          obtain ⟨b, eb, hb⟩ := tkeyV ok hk r2
          have x : Nx Z n S _ := ok.put e2 hm (fun z => nomatch z) (m := .dt (dput kvs k v)) (o := .dT (L2.putK vs k v3)) ⟨_, rfl, h3.put r3 k⟩ (fun b hb h => h.set fun _ _ z => nomatch z)
          refine .inr ⟨p, _, rfl, ?_, q ⟨S.r, S.F, S.h.set m (.dt (dput kvs k v)), upd S.H p (.dT (L2.putK vs k v3))⟩ x rfl⟩
          rw [eb]
          exact DPut.t h1 hb (by rw [← h3.length]; exact hl)
        · cases e'
    · cases e
  · cases e
theorem assign_sub {o a : Expr} {p : Pos} {env : PySem.Env} (h : ∀ l u s q, a ≠ .Slice l u s q) (v : Value) : assign (.Subscript o a p) env v = (do
      let ov ← holding [v] (eval o env)
      let iv ← holding [v, ov] (eval a env)
      standAt p
      holding [v, ov, iv] (setItem ov iv v)
      release [v, ov, iv] []) := by
  cases a <;> first | rfl | exact absurd rfl (h _ _ _ _)
theorem s_setIx {p : Pos} (hu : X.A.units + 65 < cLine) (hp : ∀ l u s q, a ≠ .Slice l u s q) (hv : EOk X Z xo W n e f) (ho : EOk X Z xo W n o g) (hi : EOk X Z xo W n a k) :
    PS X (.Assign [.Subscript o a p] e pos) (tS Z xo W n fun env h => (f env h).thn env fun v h => (g env h).thn env fun o h => (k env h).thn env fun i h => ofM (setIx h o i v) env) := by
  refine PS.imp (ps_asg (tg := .Subscript o a p) hv.pe (pg_sub ho.pe hi.pe (PSet.or set_list (set_dict (by omega))) (fun v => assign_sub hp v)) (by cases e <;> rfl) (by cases e <;> rfl)) fun D σ H ⟨S, env, e, i, q⟩ => ?_
  subst e
  refine ⟨S, env, rfl, i, (GoS.thn (Rel := relD Z) i q).mono fun v H1 ⟨d, S1, x, e, r1, q1⟩ => ?_⟩
  subst e
  refine ⟨S1, env, rfl, i.nx x, (GoS.thn (Rel := relD Z) (i.nx x) q1).mono fun v2 H2 ⟨d2, S2, x2, e, r2, q2⟩ => ?_⟩
  subst e
  refine ⟨S2, env, rfl, (i.nx x).nx x2, (GoS.thn (Rel := relD Z) ((i.nx x).nx x2) q2).mono fun v3 H3 ⟨d3, S3, x3, e, r3, q3⟩ => ?_⟩
  subst e
  obtain ⟨h', e, q3⟩ := q3.ofM
  exact setIx_ok (n := n) x3.ok (VD.nx x3 r2) r3 (VD.nx x3 (VD.nx x2 r1)) e fun S' x' eh => q3 S' σ x' eh ((((i.nx x).nx x2).nx x3).nx x')
/-! ### loops -/
theorem s_while {body : List Stmt} {rst : List Nat} (hp : PassesOwn (model X.prog X.w) X.A X.env X.xe) (hc : EOk X Z xo W n c f) (hb : PSs X body (tS Z xo W n F)) : PS X (.While c body [] pos) (tS Z xo W n fun env h => whL rst (fun env h => (f env h).tru) F whFuel env h) := by
  refine PS.imp (ps_while hp hc.pt hb) fun D σ H ⟨S, env, e, i, q⟩ => ?_
  subst e
  refine ⟨fun m σ H => ∃ S env, S.H = H ∧ In Z xo n S env σ ∧ GoS Z xo W n S (whL rst (fun env h => (f env h).tru) F m env S.h) D, ⟨whFuel, S, env, rfl, i, q⟩, ?_⟩
  rintro m σ H ⟨S, env, rfl, i, q⟩
  cases m with
  | zero => exact q.elim
  | succ m =>
    have q : GoS Z xo W n S ((f env S.h).tru.thn env fun b h => if b then (F env h).turn rst (whL rst (fun env h => (f env h).tru) F m) else .nx env h) D := q
    refine ⟨S, env, rfl, i, (GoS.thn (Rel := relB) i q).mono fun v H1 ⟨d, S1, x, e, r1, q1⟩ => ?_⟩
    subst e
    have r1 : d = v := r1
    subst r1
    cases d with
    | false => exact GoS.nxt q1 (i.nx x)
    | true =>
      refine ⟨fun σ H => ∃ S env, S.H = H ∧ In Z xo n S env σ ∧ GoS Z xo W n S (whL rst (fun env h => (f env h).tru) F m env S.h) D, fun σ' H' w => ⟨m, Nat.lt_succ_self m, w⟩, S1, env, rfl, i.nx x, ?_⟩
      have q2 : GoS Z xo W n S1 ((F env S1.h).turn rst (whL rst (fun env h => (f env h).tru) F m)) D := q1
      cases hF : F env S1.h with
      | nx e h =>
        rw [hF] at q2
        intro S2 σ2 y eh i2
        exact ⟨S2, rstE rst e, rfl, i2.rst, by rw [eh]; exact GoS.from y (Nat.le_refl _) q2⟩
      | cnt e h =>
        rw [hF] at q2
        intro S2 σ2 y eh i2
        exact ⟨S2, rstE rst e, rfl, i2.rst, by rw [eh]; exact GoS.from y (Nat.le_refl _) q2⟩
      | brk e h =>
        rw [hF] at q2
        exact fun S2 σ2 y eh i2 => q2 S2 σ2 y eh i2.rst
      | ret d h => rw [hF] at q2; exact q2
      | exc c x e h => rw [hF] at q2; exact q2
      | err => rw [hF] at q2; exact q2
theorem s_for {body : List Stmt} {rst : List Nat} {t : Tg} {tg iter : Expr} {fi : MP.Env → Mem → R (List D)} (hp : PassesOwn (model X.prog X.w) X.A X.env X.xe) (hc : X.calm = true) (hi : IOk X Z xo W n tg iter fi) (hg : PG X tg (tTg Z xo n t)) (hb : PSs X body (tS Z xo W n F)) :
    PS X (.For tg iter body [] pos) (tS Z xo W n fun env h => (fi env h).thn env fun xs h => forL t rst F xs env h) := by
  refine PS.imp (ps_for hp hc hi.pi hg hb (hi.fs _)) fun D σ H ⟨S, env, e, i, q⟩ => ?_
  subst e
  refine ⟨S, env, rfl, i, (GoS.thn (Rel := relW Z) i q).mono fun J H1 ⟨xs, S1, x, e, wk, q1⟩ => ?_⟩
  subst e
  obtain ⟨G, Y, wJ, hG, hY⟩ := wk
  refine for_it wJ (fun k σ H => ∃ S env, S.H = H ∧ Ex Z S1 S ∧ In Z xo n S env σ ∧ GoS Z xo W n S (forL t rst F (xs.drop k) env S.h) D) ?_ ?_ ?_ ?_
  · exact ⟨S1, env, rfl, ⟨⟨[], by simp⟩, Le.refl, x.ok⟩, i.nx x, q1⟩
  · rintro k σ H _ ⟨S, env, rfl, ex, i, g⟩
    exact hG S ex
  · rintro k y σ H H' hk ⟨S, env, rfl, ex, i, g⟩ yy
    obtain ⟨S2, d, nx2, eh2, eH2, ed, rd⟩ := hY S k y H' ex hk yy
    have exd : xs.drop k = d :: xs.drop (k + 1) := by
      rw [List.drop_eq_getElem_cons hk]
      have : xs[k] = d := by
        rw [List.getElem?_eq_getElem hk] at ed
        exact Option.some.inj ed
      rw [this]
    rw [exd] at g
    have g : GoS Z xo W n S (match setTg t d S.h env with
      | none => .err
      | some e => (F e S.h).turn rst (forL t rst F (xs.drop (k + 1)))) D := g
    refine ⟨S2, env, d, eH2, i.nx (nx2 0), rd, ?_⟩
    rw [eh2]
    cases es : setTg t d S.h env with
    | none => rw [es] at g; exact g.elim
    | some e =>
      rw [es] at g
      have g : GoS Z xo W n S ((F e S.h).turn rst (forL t rst F (xs.drop (k + 1)))) D := g
      refine ⟨e, rfl, fun σ2 j2 st => ⟨S2, e, eH2, j2, ?_⟩⟩
      rw [eh2]
      have q2 := GoS.from (nx2 n) (Nat.le_refl _) g
      cases hF : F e S.h with
      | nx e h =>
        rw [hF] at q2
        intro S3 σ3 y eh i2
        exact ⟨S3, rstE rst e, rfl, (ex.trans (nx2 0).ex).trans y.ex, i2.rst, by rw [eh]; exact GoS.from y (Nat.le_refl _) q2⟩
      | cnt e h =>
        rw [hF] at q2
        intro S3 σ3 y eh i2
        exact ⟨S3, rstE rst e, rfl, (ex.trans (nx2 0).ex).trans y.ex, i2.rst, by rw [eh]; exact GoS.from y (Nat.le_refl _) q2⟩
      | brk e h =>
        rw [hF] at q2
        exact fun S3 σ3 y eh i2 => q2 S3 σ3 y eh i2.rst
      | ret d h => rw [hF] at q2; exact q2
      | exc c x e h => rw [hF] at q2; exact q2
      | err => rw [hF] at q2; exact q2
  · rintro σ H ⟨S, env, rfl, ex, i, g⟩
    rw [List.drop_length] at g
    exact GoS.nxt g i
/-! ### a list of one's own is frozen, behind the scenes -/
theorem frz_cell {S : Sa} (ok : S.Ok Z) {m : Nat} {p : Addr} {xs : List A} (hx : S.h[m]? = some (.lst xs)) (er : S.r[m]? = some p) : ∃ vs, S.H p = some (.lst vs) ∧ VAs Z S.F xs vs ∧ Nx Z n S ⟨S.r, upd S.F p (.lst vs), S.h.set m .gone, S.H⟩ := by
  obtain ⟨o, h1, ⟨vs, h2, h3⟩, h4⟩ := ok.at' hx er
  subst h2
  have hF : S.F p = none := h4.resolve_left fun z => nomatch z
  have le : Le S.F (upd S.F p (.lst vs)) := fun a u q => by rw [upd_ne (ne_of_none q hF)]; exact q
  have hml : m < S.h.length := (List.getElem?_eq_some_iff.mp hx).1
  refine ⟨vs, h1, h3, ⟨[], by simp⟩, le, fun _ _ q _ => q, fun a h1 h2 => absurd h1 h2, fun a u q hn hf => ?_, fun b hb z => z.set (fun _ _ w => nomatch w), ⟨fun a u q => ?_, by rw [List.length_set]; exact ok.len, ok.nd, fun k mo a e1 e2 => ?_⟩⟩
  · show upd S.F p _ a = none
    rw [upd_ne fun w => hn (by rw [w]; exact List.mem_of_getElem? er)]
    exact hf
  · by_cases ea : a = p
    · subst ea
      have q : upd S.F a (.lst vs) a = some u := q
      rw [upd_same] at q
      cases q
      exact h1
    · have q : upd S.F p (.lst vs) a = some u := q
      rw [upd_ne ea] at q
      exact ok.le a u q
  · have e1 : (S.h.set m .gone)[k]? = some mo := e1
    by_cases hk : k = m
    · subst hk
      rw [List.getElem?_set_self hml] at e1
      cases e1
      rw [er] at e2
      cases e2
      exact ⟨_, h1, trivial, .inl rfl⟩
    · rw [List.getElem?_set_ne (Ne.symm hk)] at e1
      obtain ⟨u, q1, q2, q3⟩ := ok.cell k mo a e1 e2
      refine ⟨u, q1, ?_, ?_⟩
      · have := CellR.le (t := []) le q2
        rw [List.append_nil] at this
        exact this
      · rcases q3 with q3 | q3
        · exact .inl q3
        · refine .inr ?_
          show upd S.F p _ a = none
          rw [upd_ne fun w => ?_]
          · exact q3
          · subst w
            obtain ⟨l1, g1⟩ := List.getElem?_eq_some_iff.mp e2
            obtain ⟨l2, g2⟩ := List.getElem?_eq_some_iff.mp er
            exact hk ((List.getElem_inj ok.nd).mp (g1.trans g2.symm))
theorem frz_cells : ∀ {ns : List Nat} {as : List Addr} {S : Sa} {ys : List A} {h' : Mem}, S.Ok Z → frzN ns S.h = some (ys, h') → ns.map (fun k => S.r[k]?) = as.map some → ∃ S', Nx Z n S S' ∧ S'.H = S.H ∧ S'.h = h' ∧ VAs Z S'.F ys (as.map V.ref)
  | [], as, S, ys, h', ok, e, em => by
    cases e
    cases as with
    | nil => exact ⟨S, Nx.refl ok, rfl, rfl, .nil⟩
    | cons _ _ => simp at em
  | k :: ns, as, S, ys, h', ok, e, em => by
    cases as with
    | nil => simp at em
    | cons p as =>
      simp only [List.map_cons, List.cons.injEq] at em
      unfold frzN at e
      split at e
      · rename_i xs hx
        obtain ⟨vs, h1, h3, x⟩ := frz_cell (n := n) ok hx em.1
        split at e
        · rename_i zs h2 er
          cases e
          obtain ⟨S2, y, eH, eh, r⟩ := frz_cells (ns := ns) (as := as) (S := ⟨S.r, upd S.F p (.lst vs), S.h.set k .gone, S.H⟩) x.ok er em.2
          refine ⟨S2, x.trans y (Nat.le_refl _), eH, eh, .cons (.lst (y.le _ _ (show upd S.F p _ p = _ from upd_same)) ((h3.le x.le).le y.le)) r⟩
        · cases e
      · cases e
theorem frz_ok {S : Sa} {env env' : MP.Env} {σ : L2.St} {j : Nat} {h' : Mem} (i : In Z xo n S env σ) (ho : ∀ o, xo = some o → o.i ≠ j) (e : frz1 j env S.h = .nx env' h') : ∃ S', Nx Z n S S' ∧ S'.H = S.H ∧ S'.h = h' ∧ In Z xo n S' env' σ := by
  have slot : ∀ {d : D}, env[j]? = some (some d) → ∃ v, σ[j]? = some (some v) ∧ VD Z S.r S.F d v := fun {d} hm => by
    have := i.env j _ hm
    cases xo with
    | none => exact this
    | some o =>
      simp only at this
      rw [if_neg (fun q => ho o rfl q.symm)] at this
      exact this
  have keep : ∀ {S' : Sa} {v : V} {x : A}, Nx Z n S S' → σ[j]? = some (some v) → VA Z S'.F x v → In Z xo n S' (env.set j (some (.a x))) σ := fun {S' v x} nx hv r => by
    have j2 := (i.nx nx).set (d := .a x) (v := v) (k := j) r ho
    refine j2.weak (by rw [List.length_set]) fun k d' _ => ?_
    by_cases hk : k = j
    · subst hk
      have hl : k < σ.length := (List.getElem?_eq_some_iff.mp hv).1
      rw [List.getElem?_set_self hl]
      exact hv
    · rw [List.getElem?_set_ne (Ne.symm hk)]
  unfold frz1 at e
  split at e
  · rename_i m hm
    split at e
    · rename_i xs hx
      cases e
      obtain ⟨v, hv, p, ev, er⟩ := slot hm
      subst ev
      obtain ⟨vs, h1, h3, nx⟩ := frz_cell (n := n) i.ok hx er
      exact ⟨_, nx, rfl, rfl, keep nx hv (.lst (show upd S.F p _ p = _ from upd_same) (h3.le nx.le))⟩
    · cases e
  · rename_i ns hm
    split at e
    · rename_i ys h2 hf
      cases e
      obtain ⟨v, hv, p, as, ev, eF, em⟩ := slot hm
      subst ev
      obtain ⟨S2, y, eH, eh, r⟩ := frz_cells (n := n) i.ok hf em
      exact ⟨S2, y, eH, eh, keep y hv (.lst (y.le _ _ eF) r)⟩
    · cases e
  · cases e
    exact ⟨S, Nx.refl i.ok, rfl, rfl, i⟩
  · cases e
theorem frzAll_ok : ∀ {is : List Nat} {S : Sa} {env : MP.Env} {σ : L2.St} {G : MP.Env → Mem → MP.X} {D : Ends}, (∀ j ∈ is, ∀ o, xo = some o → o.i ≠ j) → In Z xo n S env σ → GoS Z xo W n S (match frzAll is env S.h with
    | .nx env h => G env h
    | x => x) D → ∃ S' env', S'.H = S.H ∧ In Z xo n S' env' σ ∧ GoS Z xo W n S' (G env' S'.h) D
  | [], S, env, σ, G, D, _, i, q => ⟨S, env, rfl, i, q⟩
  | j :: is, S, env, σ, G, D, ho, i, q => by
    unfold frzAll at q
    cases hf : frz1 j env S.h with
    | nx env1 h1 =>
      rw [hf] at q
      obtain ⟨S1, x, eH, eh, i1⟩ := frz_ok i (ho j List.mem_cons_self) hf
      have q1 : GoS Z xo W n S1 (match frzAll is env1 S1.h with
        | .nx env h => G env h
        | x => x) D := by
        rw [eh]
        exact GoS.from x (Nat.le_refl _) q
      obtain ⟨S2, env2, e2, i2, q2⟩ := frzAll_ok (fun k hk => ho k (List.mem_cons_of_mem _ hk)) i1 q1
      exact ⟨S2, env2, e2.trans eH, i2, q2⟩
    | err =>
      rw [hf] at q
      exact q.elim
    | _ =>
      unfold frz1 at hf
      split at hf
      · split at hf <;> cases hf
      · split at hf <;> cases hf
      · cases hf
      · cases hf
/-- a step behind the scenes ahead of a statement -/
theorem s_frz {is : List Nat} (ho : ∀ j ∈ is, ∀ o, xo = some o → o.i ≠ j) (h : PS X st (tS Z xo W n G)) : PS X st (tS Z xo W n fun env h => match frzAll is env h with
    | .nx env h => G env h
    | x => x) := PS.imp h fun D σ H ⟨S, env, e, i, q⟩ => by
  subst e
  obtain ⟨S', env', e2, i2, q2⟩ := frzAll_ok ho i q
  exact ⟨S', env', e2, i2, q2⟩
/-! ### several names at once, stored from the right -/
/-- local names -/
inductive Lns (X : Cx) (xo : Option Xo) : List Expr → List Nat → List Str → Prop
  | nil : Lns X xo [] [] []
  | cons {i : Nat} {x : Str} {p : Pos} {es : List Expr} {is : List Nat} {ns : List Str} (hi : X.N[i]? = some x) (hx : X.env.scope.names.lookup x = some .local) (ho : ∀ o, xo = some o → o.i ≠ i) : Lns X xo es is ns → Lns X xo (.Name x p :: es) (i :: is) (x :: ns)
theorem Lns.len : ∀ {es : List Expr} {is : List Nat} {ns : List Str}, Lns X xo es is ns → es.length = ns.length ∧ is.length = ns.length
  | _, _, _, .nil => ⟨rfl, rfl⟩
  | _, _, _, .cons _ _ _ h => ⟨congrArg (· + 1) h.len.1, congrArg (· + 1) h.len.2⟩
def tParL (is : List Nat) (ta : TA) : TS := fun D σ H => ta σ H fun vs H1 => vs.length = is.length ∧ D.nx ((is.zip vs).foldr (fun p s => s.set p.1 (some p.2)) σ) H1
theorem ps_parL {es vs : List Expr} {is : List Nat} {ns : List Str} {kt k2 : Nat} {pt pt2 : Pos} {ta : TA} (hc : X.calm = true) (hN : X.N.Nodup) (h : Lns X xo es is ns) (hl : ns.length = 2 ∨ ns.length = 3) (ha : PA X vs ta) (hw : swappedStores [.Tuple es kt pt] (.Tuple vs k2 pt2) X.env = pure (some ns)) :
    PS X (.Assign [.Tuple es kt pt] (.Tuple vs k2 pt2) pos) (tParL is ta) := by
  refine ⟨fun pins s σ H D I h' => ?_⟩
  rw [exec_Assign_arm]
  refine wpAny_bind (wpAny_standAt ?_)
  rw [show swapsWithSole [.Tuple es kt pt] (.Tuple vs k2 pt2) pos.line X.env = pure false from rfl]
  refine wpAny_bind (wpAny_pure ?_)
  rw [if_neg (by decide)]
  refine wpAny_bind (Tuple_ (thn (ha.run _ pins s σ H _ I h') fun us s1 ⟨ws, H1, I1, r1, hln, q1⟩ => ?_))
  have hul : us.length = ns.length := by rw [← Paired.length r1, hln, h.len.2]
  refine wpAny_newObj_type ?_ (by
    have : us.length ≤ 3 := by omega
    have h2 : (3 : Nat) ≤ sizeLine := by decide
    first
      | (show us.length ≤ sizeLine; omega)
      | (simp; omega))
  have I2 : Inv X pins σ H1 { s1 with heap := s1.heap.push { cls := .type "tuple", data := .seq us.toArray } } := I1.kept (t' := s1.toks) fun b o e => Heap.get?_push_of_some _ e
  rw [hw]
  refine wpAny_bind (wpAny_pure ?_)
  show wpAny (model X.prog X.w) X.A (do rule "assign.swapped-stores"; let items ← unpackItems (.ref s1.heap.objs.size) ns.length none; assignInOrder (ns.reverse.map fun n => bindName X.env n) items.reverse; pure Flow.next) _ _ _
  refine wpAny_bind (wpAny_rule (wpAny_bind ?_))
  have un := unpackItems_tuple (prog := X.prog) (w := X.w) (A := X.A) (E := X.xe) (s := { s1 with heap := s1.heap.push { cls := .type "tuple", data := .seq us.toArray } }) (items := us.toArray) (t := s1.heap.objs.size) (Q := fun items s' => wpAny (model X.prog X.w) X.A (do assignInOrder (ns.reverse.map fun n => bindName X.env n) items.reverse; pure Flow.next) (SP X pins D) X.xe s') (I.ok.hd hc) (IsTup.new s1.heap _) fun h' hx' => ?_
  · have e0 : us.toArray.size = ns.length := by rw [← hul]; rfl
    rw [e0] at un
    exact un
  have I3 := I2.kept (h' := h') (t' := s1.toks) fun b o e => hx' b o (Nat.ne_of_lt (Heap.lt_size e)) e
  show wpAny _ _ (do assignInOrder (ns.reverse.map fun n => bindName X.env n) us.reverse; pure Flow.next) _ _ _
  refine wpAny_bind ?_
  cases h with
  | nil => simp at hl
  | cons hi1 hx1 ho1 h =>
    cases h with
    | nil => simp at hl
    | cons hi2 hx2 ho2 h =>
      cases r1 with
      | nil => simp at hul
      | cons ra r1 =>
        cases r1 with
        | nil => simp at hul
        | cons rb r1 =>
          cases h with
          | nil =>
            cases r1 with
            | cons _ _ => simp at hul
            | nil =>
              refine assignInOrder_cons (wpAny_bindName (store_ok I3 hN hi2 (.inl hx2) rb (fun s2 I4 => ?_) (.inr hx2)))
              refine assignInOrder_cons (wpAny_bindName (store_ok I4 hN hi1 (.inl hx1) ra (fun s3 I5 => assignInOrder_nil (wpAny_pure ?_)) (.inr hx1)))
              exact ⟨_, H1, I5, q1⟩
          | cons hi3 hx3 ho3 h =>
            cases h with
            | cons _ _ _ h => simp at hl
            | nil =>
              cases r1 with
              | nil => simp at hul
              | cons rc r1 =>
                cases r1 with
                | cons _ _ => simp at hul
                | nil =>
                  refine assignInOrder_cons (wpAny_bindName (store_ok I3 hN hi3 (.inl hx3) rc (fun s2 I4 => ?_) (.inr hx3)))
                  refine assignInOrder_cons (wpAny_bindName (store_ok I4 hN hi2 (.inl hx2) rb (fun s3 I5 => ?_) (.inr hx2)))
                  refine assignInOrder_cons (wpAny_bindName (store_ok I5 hN hi1 (.inl hx1) ra (fun s4 I6 => assignInOrder_nil (wpAny_pure ?_)) (.inr hx1)))
                  exact ⟨_, H1, I6, q1⟩
theorem Lns.par {es : List Expr} {is : List Nat} {ns : List Str} (h : Lns X xo es is ns) : ∀ {S : Sa} {ds : List D} {vs : List V} {env env' : MP.Env} {σ : L2.St}, In Z xo n S env σ → VDs Z S.r S.F ds vs → parE is ds env = some env' → vs.length = is.length ∧ In Z xo n S env' ((is.zip vs).foldr (fun p s => s.set p.1 (some p.2)) σ) := by
  induction h with
  | nil =>
    intro S ds vs env env' σ i r e
    cases r with
    | nil => cases e; exact ⟨rfl, i⟩
    | cons _ _ => cases e
  | cons hi hx ho h ih =>
    intro S ds vs env env' σ i r e
    cases r with
    | nil => cases e
    | cons r0 r =>
      unfold parE at e
      cases q : parE _ _ env with
      | none => rw [q] at e; cases e
      | some e1 =>
        rw [q] at e
        cases e
        obtain ⟨h1, h2⟩ := ih i r q
        exact ⟨congrArg (· + 1) h1, h2.set r0 ho⟩
theorem s_par {es vs : List Expr} {is : List Nat} {ns : List Str} {kt k2 : Nat} {pt pt2 : Pos} {fs : MP.Env → Mem → R (List D)} (hc : X.calm = true) (hN : X.N.Nodup) (h : Lns X xo es is ns) (hl : ns.length = 2 ∨ ns.length = 3) (ha : AOk X Z xo W n vs fs) (hw : swappedStores [.Tuple es kt pt] (.Tuple vs k2 pt2) X.env = pure (some ns)) :
    PS X (.Assign [.Tuple es kt pt] (.Tuple vs k2 pt2) pos) (tS Z xo W n fun env h => (fs env h).thn env fun ds h => match parE is ds env with
      | some env => .nx env h
      | none => .err) := PS.imp (ps_parL hc hN h hl ha.pa hw) fun D σ H ⟨S, env, e, i, q⟩ => by
  subst e
  refine ⟨S, env, rfl, i, (GoS.thn (Rel := relDs Z) i q).mono fun v H1 ⟨d, S1, x, e, r1, q1⟩ => ?_⟩
  subst e
  cases ep : parE is d env with
  | none => rw [ep] at q1; exact q1.elim
  | some env' =>
    rw [ep] at q1
    obtain ⟨h1, h2⟩ := h.par (i.nx x) r1 ep
    exact ⟨h1, GoS.nxt q1 h2⟩
/-- a, b = x, y by way of a tuple -/
theorem parE_swap {j : Nat} {d : D} : ∀ {is : List Nat} {ds : List D} {env env' : MP.Env}, j ∉ is → parE is ds env = some env' → parE is ds (env.set j (some d)) = some (env'.set j (some d))
  | [], [], env, env', _, e => by
    cases e
    rfl
  | [], _ :: _, _, _, _, e => by cases e
  | _ :: _, [], _, _, _, e => by cases e
  | i :: is, d0 :: ds, env, env', hj, e => by
    unfold parE at e ⊢
    cases q : parE is ds env with
    | none => rw [q] at e; cases e
    | some e1 =>
      rw [q] at e
      cases e
      rw [parE_swap (fun h => hj (List.mem_cons_of_mem _ h)) q]
      show some ((e1.set j (some d)).set i (some d0)) = some ((e1.set i (some d0)).set j (some d))
      rw [List.set_comm _ _ (fun h => hj (by rw [h]; exact List.mem_cons_self))]
theorem tNs_par {S : Sa} {H : Hp} {Q : L2.St → Hp → Prop} : ∀ {es : List Expr} {is : List Nat} {ds : List D} {vs : List V} {env env' : MP.Env} {σ : L2.St}, Nms X xo es is → is.Nodup → In Z xo n S env σ → VDs Z S.r S.F ds vs → parE is ds env = some env' →
    (∀ σ', In Z xo n S env' σ' → Q σ' H) → tNs is vs σ H Q
  | _, _, [], _, env, env', σ, .nil, _, i, .nil, e, q => by
    cases e
    exact ⟨rfl, q σ i⟩
  | _, _, d :: ds, _, env, env', σ, .cons (i := k) (is := is) hi hx hf ho h, nd, i, .cons r t, e, q => by
    have nd' := List.nodup_cons.mp nd
    unfold parE at e
    cases p : parE is ds env with
    | none => rw [p] at e; cases e
    | some e1 =>
      rw [p] at e
      cases e
      exact ⟨_, _, rfl, tNs_par h nd'.2 (i.set (d := d) (k := k) r ho) t (parE_swap nd'.1 p) q⟩
  | _, _, _ :: _, _, _, _, _, .nil, _, _, .cons _ _, e, _ => by cases e
  | _, _, [], _, _, _, _, .cons _ _ _ _ _, _, _, .nil, e, _ => by cases e
theorem parE_len : ∀ {is : List Nat} {ds : List D} {env env' : MP.Env}, parE is ds env = some env' → ds.length = is.length
  | [], [], _, _, _ => rfl
  | [], _ :: _, _, _, e => by cases e
  | _ :: _, [], _, _, e => by cases e
  | _ :: is, _ :: ds, env, env', e => by
    unfold parE at e
    cases q : parE is ds env with
    | none => rw [q] at e; cases e
    | some e1 => rw [List.length_cons, List.length_cons, parE_len q]
theorem s_asgP {es vs : List Expr} {is : List Nat} {kk k2 : Nat} {p p2 : Pos} {fs : MP.Env → Mem → R (List D)} (hK : X.K = Z.K) (hc : X.calm = true) (hN : X.N.Nodup) (h : Nms X xo es is) (nd : is.Nodup) (hl : is.length ≤ 1000) (ha : AOk X Z xo W n vs fs) (hw : swappedStores [.Tuple es kk p] (.Tuple vs k2 p2) X.env = pure none) :
    PS X (.Assign [.Tuple es kk p] (.Tuple vs k2 p2) pos) (tS Z xo W n fun env h => (fs env h).thn env fun ds h => match parE is ds env with
      | some env => .nx env h
      | none => .err) := by
  obtain ⟨h1, h2⟩ := h.each X.env
  refine PS.imp (ps_asg (tg := .Tuple es kk p) (pe_tup ha.pa) (pg_tup hc (h.pgs hN) h1 h2) rfl hw) fun D σ H ⟨S, env, e, i, q⟩ => ?_
  subst e
  refine ⟨S, env, rfl, i, (GoS.thn (Rel := relDs Z) i q).mono fun us H1 ⟨d, S1, x, e, r1, q1⟩ => ?_⟩
  subst e
  cases ep : parE is d env with
  | none => rw [ep] at q1; exact q1.elim
  | some env' =>
    rw [ep] at q1
    have el := parE_len ep
    refine ⟨by rw [← r1.length, el]; exact Nat.le_trans hl (by rw [sizeLine_eq]; decide), fun pa hp => ?_⟩
    have y : Nx Z n S1 _ := x.ok.raw hp (.tup us)
    refine ⟨pa, us, rfl, SqT.of upd_same, by rw [← r1.length, el], ?_⟩
    exact tNs_par (S := ⟨S1.r, S1.F, S1.h, upd S1.H pa (.tup us)⟩) h nd ((i.nx x).nx y) (VDs.nx y r1) ep fun σ' j => GoS.nxt (GoS.from y (Nat.le_refl _) q1) j
/-! ### name = [..] on one line -/
theorem lc_read {t : Tg} {m : Bool} {own : List (Str × Nat)} {fi : MP.Env → Mem → R (List D)} {ff : MP.Env → Mem → R Bool} {fe : MP.Env → Mem → R D} {σ : L2.St} {H : Hp} {Q : VK} (ho : ∀ j ∈ tgs t, j ∈ own.map (·.2)) (w : tI Z none W n (lcF m t (own.map (·.2)) fi ff fe) σ H Q) :
    tLc (tG Z none W n (relW Z) fi) (tTg Z none n t) (tBl Z n ff) (tI Z none W0 n fe) (own.map (·.2)) σ H Q := by
  obtain ⟨S, env, e, i, q⟩ := w
  subst e
  refine ⟨S, env, rfl, i, (Go.bind (Rel := relW Z) q).mono fun J H1 ⟨xs, S1, x, e, r1, q1⟩ => ?_⟩
  subst e
  exact lc_run (i.nx x) r1 ho q1
theorem lc2_read {t t1 : Tg} {m : Bool} {own : List (Str × Nat)} {fi fi1 : MP.Env → Mem → R (List D)} {ff ff1 : MP.Env → Mem → R Bool} {fe : MP.Env → Mem → R D} {σ : L2.St} {H : Hp} {Q : VK} (ho : ∀ j ∈ tgs t, j ∈ own.map (·.2)) (w : tI Z none W n (lc2F m t t1 (own.map (·.2)) (tgs t1) fi fi1 ff ff1 fe) σ H Q) :
    tLc2 (tG Z none W n (relW Z) fi) (tTg Z none n t) (tBl Z n ff) (tG Z none W0 n (relW Z) fi1) (tTg Z none n t1) (tBl Z n ff1) (tI Z none W0 n fe) (own.map (·.2)) (tgs t1) σ H Q := by
  obtain ⟨S, env, e, i, q⟩ := w
  subst e
  refine ⟨S, env, rfl, i, (Go.bind (Rel := relW Z) q).mono fun J H1 ⟨xs, S1, x, e, r1, q1⟩ => ?_⟩
  subst e
  exact lc2_run (i.nx x) r1 ho (fun _ h => h) q1
theorem set_read {j : Nat} {f : MP.Env → Mem → R D} {te : TE} (hte : ∀ σ H Q, tI Z none W n f σ H Q → te σ H Q) : ∀ D σ H, tS Z none W n (fun env h => (f env h).thn env fun d h => match setTg (.nm j) d h env with
      | some env => .nx env h
      | none => .err) D σ H → tAsg te (gName j) D σ H := fun D σ H ⟨S, env, e, i, q⟩ => by
  subst e
  refine hte _ _ _ ⟨S, env, rfl, i, (GoS.thn (Rel := relD Z) i q).mono fun v H1 ⟨d, S1, x, e, r1, q1⟩ => ?_⟩
  subst e
  exact GoS.nxt q1 ((i.nx x).set r1 (fun _ z => nomatch z))
theorem s_setLc {elt tg iter : Expr} {t : Tg} {m : Bool} {ifs : List Expr} {scope : Scope} {own : List (Str × Nat)} {fi : MP.Env → Mem → R (List D)} {ff : MP.Env → Mem → R Bool} {fe : MP.Env → Mem → R D} {j : Nat} {y : Str} {py lpos : Pos} (hc : X.calm = true) (hN : X.N.Nodup) (hy : X.N[j]? = some y) (hyl : X.env.scope.names.lookup y = some .local)
    (hsw : swapsWith (.ListComp elt [⟨tg, iter, ifs, 0⟩] scope lpos) (some (.Name y py)) pos.line X.env = pure true) (hi : IOk X Z none W n tg iter fi) (h : Lc1 X Z n scope own tg elt ifs t ff fe) :
    PS X (.Assign [.Name y py] (.ListComp elt [⟨tg, iter, ifs, 0⟩] scope lpos) pos) (tS Z none W n fun env h => (lcF m t (own.map (·.2)) fi ff fe env h).thn env fun d h => match setTg (.nm j) d h env with
      | some env => .nx env h
      | none => .err) :=
  PS.imp (ps_setLc hc hN hy hyl hsw hi.pi h.ok h.hg h.ht h.he (hi.fs _)) (set_read fun σ H Q w => lc_read h.ho w)
theorem s_setLc2 {elt tg iter tg1 iter1 : Expr} {t t1 : Tg} {m : Bool} {ifs ifs1 : List Expr} {scope : Scope} {own : List (Str × Nat)} {fi fi1 : MP.Env → Mem → R (List D)} {ff ff1 : MP.Env → Mem → R Bool} {fe : MP.Env → Mem → R D} {j : Nat} {y : Str} {py lpos : Pos} (hc : X.calm = true) (hN : X.N.Nodup) (hy : X.N[j]? = some y) (hyl : X.env.scope.names.lookup y = some .local)
    (hsw : swapsWith (.ListComp elt [⟨tg, iter, ifs, 0⟩, ⟨tg1, iter1, ifs1, 0⟩] scope lpos) (some (.Name y py)) pos.line X.env = pure true) (hi : IOk X Z none W n tg iter fi) (h : Lc2 X Z n scope own tg elt tg1 iter1 ifs ifs1 t t1 ff ff1 fi1 fe) :
    PS X (.Assign [.Name y py] (.ListComp elt [⟨tg, iter, ifs, 0⟩, ⟨tg1, iter1, ifs1, 0⟩] scope lpos) pos) (tS Z none W n fun env h => (lc2F m t t1 (own.map (·.2)) (tgs t1) fi fi1 ff ff1 fe env h).thn env fun d h => match setTg (.nm j) d h env with
      | some env => .nx env h
      | none => .err) :=
  PS.imp (ps_setLc2 hc hN hy hyl hsw hi.pi h.a.ok h.hv h.a.hg h.a.ht h.hi1 h.hg1 h.ht1 h.a.he (hi.fs _) h.fs) (set_read fun σ H Q w => lc2_read h.a.ho w)
end
end MP
end
section
set_option Elab.async false
set_option linter.all false
set_option maxRecDepth 100000
set_option maxHeartbeats 2000000
/-! MP: calls of own functions. -/
namespace MP
open PySem PySem.Spec L2
open PyProof.Rows hiding St
section
variable {Z : Ad} {xo : Option Xo} {n m : Nat} {S S' : Sa} {W : WX} {σ : L2.St}
/-- the cells from n on are forgotten -/
def Sa.cut (S : Sa) (n : Nat) : Sa := ⟨S.r.take n, S.F, S.h.take n, S.H⟩
theorem take_get {α : Type} {l : List α} {n k : Nat} {a : α} (e : (l.take n)[k]? = some a) : k < n ∧ l[k]? = some a := by
  by_cases h : k < n
  · rw [List.getElem?_take_of_lt h] at e
    exact ⟨h, e⟩
  · rw [List.getElem?_eq_none (by rw [List.length_take]; omega)] at e
    cases e
theorem map_cut {r : List Addr} : ∀ {ns : List Nat} {as : List Addr}, ns.map (fun n => r[n]?) = as.map some → (∀ m ∈ ns, m < n) → ns.map (fun k => (r.take n)[k]?) = as.map some
  | [], [], _, _ => rfl
  | [], _ :: _, e, _ => by simp at e
  | _ :: _, [], e, _ => by simp at e
  | k :: ns, a :: as, e, h => by
    simp only [List.map_cons, List.cons.injEq] at e ⊢
    exact ⟨by rw [List.getElem?_take_of_lt (h k List.mem_cons_self)]; exact e.1, map_cut e.2 fun m hm => h m (List.mem_cons_of_mem _ hm)⟩
theorem VD.cut {r : List Addr} {F : Hp} {d : D} {v : V} (x : VD Z r F d v) (h : ∀ k ∈ refsD d, k < n) : VD Z (r.take n) F d v := by
  cases d with
  | a y => exact x
  | ref k =>
    obtain ⟨a, e, q⟩ := x
    exact ⟨a, e, by rw [List.getElem?_take_of_lt (h k (by simp [refsD]))]; exact q⟩
  | nst ns =>
    obtain ⟨a, as, e, q, m⟩ := x
    exact ⟨a, as, e, q, map_cut m h⟩
theorem VDs.cut {r : List Addr} {F : Hp} : ∀ {ds : List D} {vs : List V}, VDs Z r F ds vs → (∀ d ∈ ds, ∀ k ∈ refsD d, k < n) → VDs Z (r.take n) F ds vs
  | _, _, .nil, _ => .nil
  | _, _, .cons x t, h => .cons (x.cut (h _ List.mem_cons_self)) (VDs.cut t fun d hd => h d (List.mem_cons_of_mem _ hd))
theorem map_bd {r : List Addr} : ∀ {ns : List Nat} {as : List Addr}, ns.map (fun n => r[n]?) = as.map some → ∀ m ∈ ns, m < r.length
  | [], _, _, _, h => by cases h
  | _ :: _, [], e, _, _ => by simp at e
  | k :: ns, a :: as, e, m, h => by
    simp only [List.map_cons, List.cons.injEq] at e
    rcases List.mem_cons.mp h with h | h
    · rw [h]
      exact (List.getElem?_eq_some_iff.mp e.1).1
    · exact map_bd e.2 m h
theorem VD.bd {r : List Addr} {F : Hp} {d : D} {v : V} (x : VD Z r F d v) : ∀ m ∈ refsD d, m < r.length := by
  cases d with
  | a y => intro m h; cases h
  | ref k =>
    obtain ⟨a, e, q⟩ := x
    intro m h
    rw [show m = k by simpa [refsD] using h]
    exact (List.getElem?_eq_some_iff.mp q).1
  | nst ns =>
    obtain ⟨a, as, e, q, m⟩ := x
    exact map_bd m
theorem VDs.bd {r : List Addr} {F : Hp} : ∀ {ds : List D} {vs : List V}, VDs Z r F ds vs → ∀ d ∈ ds, ∀ m ∈ refsD d, m < r.length
  | _, _, .nil, _, h, _, _ => by cases h
  | _, _, .cons x t, d, h, m, hm => by
    rcases List.mem_cons.mp h with h | h
    · rw [h] at hm
      exact x.bd m hm
    · exact VDs.bd t d h m hm
theorem Sa.Ok.bd (ok : S.Ok Z) : Bd S.h.length S.h := fun k c fs _ e d hd m hm => by
  obtain ⟨a, o, _, _, ⟨dx, gs, _, _, r⟩, _⟩ := ok.at e
  rw [← ok.len]
  exact r.bd d hd m hm
/-- at the end of a call: the callee's own cells are forgotten -/
theorem Nx.cut (ok : S.Ok Z) (x : Nx Z S.h.length S S') : Nx Z m S (S'.cut S.h.length) := by
  have bd : Bd S.h.length S'.h := x.bd _ (Nat.le_refl _) ok.bd
  obtain ⟨t, et⟩ := x.ext
  have er : S'.r.take S.h.length = S.r := by rw [et, ← ok.len, List.take_left]
  have hlen : S.h.length ≤ S'.h.length := x.len ok
  refine ⟨⟨[], by show S'.r.take S.h.length = _; rw [er, List.append_nil]⟩, x.le, fun a o e hn => x.fr a o e hn, fun a h1 h2 => ?_, x.fz, fun b hb z k c fs hk e d hd j hj => ?_, ⟨x.ok.le, ?_, ?_, fun k mo a e1 e2 => ?_⟩⟩
  · have h1 : a ∈ S'.r.take S.h.length := h1
    rw [er] at h1
    exact absurd h1 h2
  · have e : (S'.h.take S.h.length)[k]? = some (.ins c fs) := e
    obtain ⟨hk2, e'⟩ := take_get e
    by_cases hbn : b ≤ S.h.length
    · exact x.bd b hbn z k c fs hk e' d hd j hj
    · have := bd k c fs hk2 e' d hd j hj
      omega
  · show (S'.r.take S.h.length).length = (S'.h.take S.h.length).length
    rw [er, List.length_take, ok.len]
    omega
  · show (S'.r.take S.h.length).Nodup
    rw [er]
    exact ok.nd
  · have e1 : (S'.h.take S.h.length)[k]? = some mo := e1
    have e2 : (S'.r.take S.h.length)[k]? = some a := e2
    obtain ⟨hk, e1⟩ := take_get e1
    obtain ⟨_, e2⟩ := take_get e2
    obtain ⟨o, q1, q2, q3⟩ := x.ok.cell k mo a e1 e2
    refine ⟨o, q1, ?_, q3⟩
    show CellR Z (S'.r.take S.h.length) S'.F mo o
    cases mo with
    | lst xs => exact q2
    | dk xs => exact q2
    | dt xs => exact q2
    | gone => trivial
    | ins c fs =>
      obtain ⟨dx, gs, w1, w2, w3⟩ := q2
      exact ⟨dx, gs, w1, w2, w3.cut (bd k c fs hk e1)⟩
theorem Nx.up (x : Nx Z m S S') (h : n ≤ m) : Nx Z n S S' := x.mono h
/-- a callee's promise within -/
theorem Go.fin {E : XK} {r : MP.X} {Q : VK} {W' : WX} (hW : ∀ cls d σ H, E cls d H → W' cls d σ H) (ok : S.Ok Z) (g : Go Z (fun cls d _ H => E cls d H) S.h.length σ (relD Z) S (fin S.h.length r) Q) :
    GoS Z none W' S.h.length S r { nx := fun _ H' => Q .non H', rt := Q } := by
  cases r with
  | nx env h =>
    intro S' σ' x eh i
    exact g (S'.cut S.h.length) .non (x.cut ok) (by show S'.h.take _ = _; rw [eh]) .non
  | ret d h =>
    intro S' v x eh r
    cases d with
    | a y => exact g (S'.cut S.h.length) v (x.cut ok) (by show S'.h.take _ = _; rw [eh]) r
    | ref k => exact g S' v x eh r
    | nst ns => exact g S' v x eh r
  | exc c y env h =>
    intro S' σ' dx v x eh i q1 q2
    exact hW _ _ _ _ (g (S'.cut S.h.length) dx v (x.cut ok) (by show S'.h.take _ = _; rw [eh]) q1 q2)
  | brk env h => exact g.elim
  | cnt env h => exact g.elim
  | err => exact g.elim
/-- a function's promise -/
def spF (Z : Ad) (G : Prg) (k f np : Nat) : Sp := fun vs H Q E => vs.length = np ∧ ∃ S ds, S.H = H ∧ S.Ok Z ∧ VDs Z S.r S.F ds vs ∧ Go Z (fun cls d _ H => E cls d H) S.h.length [] (relD Z) S (callF G k f ds S.h) Q
theorem Go.side {α β : Type} {Rel : Sa → α → β → Prop} {r : R α} {Q : β → Hp → Prop} {σ' : L2.St} {W' : WX} (hnm : n ≤ m) (hW : ∀ c d H, W c d σ H → W' c d σ' H) (g : Go Z W n σ Rel S r Q) : Go Z W' m σ' Rel S r Q := by
  cases r with
  | ok d h => exact fun S' v x e q => g S' v (x.mono hnm) e q
  | exc c x h => exact fun S' dx v y e q q' => hW _ _ _ (g S' dx v (y.mono hnm) e q q')
  | err => exact g
end
section
variable {X : Cx} {Z : Ad} {xo : Option Xo} {n k fi : Nat} {W : WX} {G : Prg} {es : List Expr} {fs : MP.Env → Mem → R (List D)} {f : Addr} {fd : FuncData} {ps : List Str} {x : Str} {p pos : Pos} {ds : List Value} {dvs : List V}
theorem callF_len {G : Prg} {fi : Nat} {fI : FnI} (hf : G.fns[fi]? = some fI) {ds : List D} (h : ds.length ≠ fI.np) {k : Nat} {m : Mem} : callF G k fi ds m = .err := by
  unfold callF
  cases k with
  | zero => rfl
  | succ k =>
    unfold runF
    rw [hf]
    dsimp only
    rw [if_neg h]
    rfl
theorem EOk.call {j : Nat} (hK : X.K = Z.K) (F : FnOk X.prog X.w X.K X.mg X.base (L2.CX X.prog X.w) j f fd ps (spF Z G k fi ps.length)) (hr : Room j X.A) (hg : Gl X x) (hm : X.mg x = some (.ref f)) (hk : PySem.W.keepIn X.K (.ref f) = true) (hb : Binds X.K fd ps [])
    (tk : Takes X W) (hs : AOk X Z xo W n es fs) (hdb : (x == ("__debug__" : Str)) = false) (hne : es ≠ []) {fI : FnI} (hf : G.fns[fi]? = some fI) (hnp : fI.np = ps.length) : EOk X Z xo W n (.Call (.Name x p) es [] pos) (fun env h => (fs env h).bind fun ds h => callF G k fi ds h) := by
  cases es with
  | nil => exact absurd rfl hne
  | cons e es =>
    refine EOk.of hK (PE.imp (pe_callSD F hr hg hm hk hb .nil (E := WE W) (passAt tk) hs.pa hdb (hs.ns.head _) (backTo_any hs.ns.tail _)) fun σ H Q ⟨S, env, e, i, q⟩ => ?_) (fun _ => rfl)
    subst e
    refine ⟨S, env, rfl, i, (Go.bind (Rel := relDs Z) q).mono fun vs H1 ⟨d, S1, x, e, r1, q1⟩ => ?_⟩
    subst e
    rw [List.append_nil]
    by_cases hl : d.length = fI.np
    · exact ⟨by rw [← VDs.length r1, hl, hnp], S1, d, rfl, x.ok, r1, Go.side (i.nx x).le (fun c d H w => w) q1⟩
    · rw [callF_len hf hl] at q1
      exact q1.elim
theorem VDs.start {N : List Str} {ds : List D} {vs : List V} {S : Sa} (ok : S.Ok Z) (r : VDs Z S.r S.F ds vs) (ns : Nat) (hN : N.length = ns) : In Z none S.h.length S (ds.map some ++ List.replicate (ns - ds.length) none) (L2.start N vs) := by
  unfold L2.start
  refine ⟨ok, Nat.le_refl _, ?_, fun j d e => ?_⟩
  · rw [List.length_append, List.length_append, List.length_map, List.length_map, List.length_replicate, List.length_replicate, r.length, hN]
    exact Nat.le_refl _
  · by_cases hj : j < ds.length
    · rw [List.getElem?_append_left (by rw [List.length_map]; exact hj), List.getElem?_map] at e
      cases hd : ds[j]? with
      | none => rw [hd] at e; cases e
      | some d' =>
        rw [hd] at e
        cases e
        obtain ⟨v, h1, h2⟩ := r.get hd
        refine ⟨v, ?_, h2⟩
        rw [List.getElem?_append_left (by rw [List.length_map, ← r.length]; exact hj), List.getElem?_map, h1]
        rfl
    · rw [List.getElem?_append_right (by rw [List.length_map]; omega), List.getElem?_replicate] at e
      split at e <;> cases e
/-- a function by its body -/
theorem fn_run {j : Nat} {P : Program} {w : World} {mg : Str → Option Value} {base : Heap} {x qual : Str} {params : Arguments} {body : List Stmt} {scope : Scope} {kws : List (Str × V)} {N : List Str} {fI : FnI} (hf : G.fns[fi]? = some fI) (hnp : fI.np = ps.length) (hns : fI.ns = N.length)
    (F : FunD Z.K x qual params body scope [] kws f fd) (S : FnScope N ps scope)
    (hb : ∀ (X : Cx) (n : Nat), X.prog = P → X.w = w → X.K = Z.K → X.mg = mg → X.base = base → X.N = N → X.env.scope = scope → (X.fn = fun _ => true) → X.calm = true → X.stack = X.env :: X.outer → X.env.frame = some X.env.locals → X.ex = [] → Room j X.A →
      ∀ W, Takes X W → PassesOwn (model X.prog X.w) X.A X.env X.xe → PSs X body (tS Z none W n (exec ⟨G, runF G k⟩ n fI.body))) :
    FnOk P w Z.K mg base (L2.CX P w) (j + 1) f fd ps (spF Z G (k + 1) fi ps.length) := by
  refine F.ok S (fun vs H Q E h => h.1) fun cdv A outer s H vs Q E hr hsp => ?_
  obtain ⟨hl, S0, ds, rfl, ok, rd, g⟩ := hsp
  have hx := takes_of (X := cxOf (L2.CX P w) P w Z.K mg base N qual scope f cdv A outer s S0.H E) rfl rfl rfl rfl
  have hp := passes_of (X := cxOf (L2.CX P w) P w Z.K mg base N qual scope f cdv A outer s S0.H E) rfl
  refine ⟨_, hb (cxOf (L2.CX P w) P w Z.K mg base N qual scope f cdv A outer s S0.H E) S0.h.length rfl rfl rfl rfl rfl rfl rfl rfl rfl rfl rfl rfl hr _ hx hp, S0, ds.map some ++ List.replicate (fI.ns - fI.np) none, rfl, ?_, ?_⟩
  · have := VDs.start (N := N) ok rd fI.ns hns.symm
    rw [rd.length, hl, ← hnp] at this
    exact this
  · have g' : Go Z (fun cls d _ H => E cls d H) S0.h.length [] (relD Z) S0 (fin S0.h.length (runF G (k + 1) fi ds S0.h S0.h.length)) Q := g
    unfold runF at g'
    rw [hf] at g'
    have hd : ds.length = fI.np := by rw [rd.length, hl, hnp]
    dsimp only at g'
    rw [if_pos hd] at g'
    exact Go.fin (fun _ _ _ _ h => h) ok g'
theorem fn_zero {P : Program} {w : World} {mg : Str → Option Value} {base : Heap} : FnOk P w Z.K mg base (L2.CX P w) 0 f fd ps (spF Z G 0 fi ps.length) :=
  ⟨fun vs H Q E h => h.1, fun A outer s H args us vs Q E _ _ _ _ ⟨_, S, ds, _, _, _, g⟩ => g.elim⟩
end
end MP
end
section
set_option Elab.async false
set_option linter.all false
set_option maxRecDepth 100000
set_option maxHeartbeats 4000000
/-! MP: an own exception whose __init__ says super().__init__(..) and stores one field. -/
namespace MP
open PySem PySem.Spec L2
open PyProof.Rows hiding St
/-- what the written part says of the function __init__ of such a class -/
structure InitK (P : Program) (K : PySem.W.Frag) (mg : Str → Option Value) (C f cc cda : Addr) (qual : Str) (params : Arguments) (body : List Stmt) (scope : Scope) (fd : FuncData) : Prop where
  fn : ∃ (oc : Value) (od : Option Addr) (dV kV doc pm : Value) (an : Option Addr) (ct : Value) (osl : Array (Option Value)),
    fd = PySem.W.fnX "__init__" qual params body scope [("__class__", cc)] dV kV doc pm an (.ref cda) ct ∧ K.lookup f = some ⟨oc, od, .func fd, osl⟩
  code : PySem.W.codeIn K (.ref cda) qual = true
  file : ∃ (ccl : Value) (cdd : Option Addr) (vs : Array Value) (ccs : Array (Option Value)) (fl : Str) (tf : Tok), K.lookup cda = some ⟨ccl, cdd, .fields vs, ccs⟩ ∧ vs[2]? = some (.str fl tf) ∧ ((P.main.file : Str) == fl) = true
  cell : ∃ (cl : Value) (cld : Option Addr) (csl : Array (Option Value)), K.lookup cc = some ⟨cl, cld, .cell (some (.ref C)), csl⟩
  cls : OexC K C
  mro : ∃ cd bm, PySem.W.clsIn K C = some cd ∧ cd.mro = .ref C :: bm ∧ PySem.W.alongIn K "__init__" bm = some (some (.builtin "ValueError.__init__"))
  ve : PySem.W.subIn K (.ref C) (.type "ValueError") = some true
  own : PySem.W.mroIn K C (.ref C) = some true
  opq : PySem.W.nsIn K PySem.cStatics "thirdparty.any" = some none
  sup : mg "super" = none
  top : (P.main.scope.names.lookup ("super" : Str)).isSome = false
section
variable {X : Cx} {pins : List (Addr × Obj)} {σ : L2.St} {H : Hp} {s : Shared} {a C u : Addr}
/-- ValueError.__init__ bound to the exception, called -/
theorem bw_ok {us : List Value} {A : Around} {Q : Value → Shared → Prop} {E : Value → Shared → Prop} (T : OexC X.K C) (I : Inv X pins σ H s) (e : H a = some (exo a C none)) (hu : s.heap.get? u = some (PySem.W.kxs_mw "ValueError.__init__" a)) (hl : us.length ≤ sizeLine) (h : ∀ s', Inv X pins σ H s' → Q .none s') :
    wpAny (model X.prog X.w) A (call (.ref u) us) Q E s := by
  obtain ⟨nm, q, N, bs, bm, sn, sub, ab, col, dd, k0, k1, k2, k3, k5, hC, hbm⟩ := T.cls
  obtain ⟨t1, ho⟩ := exo_at I.hok e
  obtain ⟨hp, g, d, t, os⟩ := s
  refine wpAny_call (codeAny_of_tree ?_)
  show wpAny _ A.in1 (callAny (.ref u) ⟨us, []⟩) _ _ _
  simp only [callAny]
  refine wpAny_bind (wpAny_load hu ?_)
  simp only [PySem.W.kxs_mw, show (Value.type "method-wrapper" == Value.type "method" || Value.type "method-wrapper" == Value.type "builtin_function_or_method" || Value.type "method-wrapper" == Value.type "method-wrapper") = true by decide, if_true]
  refine PySem.W.KFB.if_so (by decide) ?_
  refine wpAny_bind (PySem.W.check_bound_init F.excBase_ValueError.toExcCallFacts (I.kIn _ _ hC) ho rfl ?_)
  refine wpAny_bind (wpAny_pure (wpAny_pure ?_))
  refine ⟨PySem.plainId_quiet F.excBase_ValueError.init.plain _, codeAny_builtin F.excBase_ValueError.initEntry ?_⟩
  refine PySem.W.exc_init_tree (cls := .ref C) (t0 := t1) (dv := none) (c2 := .none) (c3 := .none) (b4 := .bool false) ho hl fun h' k hx _ => ?_
  have J := I.write (t' := t) (x := a) (e := a) (o := exo a C none) (by rw [e]; exact True.intro) (.inl rfl) k ⟨_, hx⟩ (exo_ok hx)
  have eu : upd H a (exo a C none) = H := by
    funext b
    by_cases hb : b = a
    · rw [hb, upd_same, e]
    · rw [upd_ne hb]
  rw [eu] at J
  exact h _ J
end
theorem meth_eq {o : Expr} {name : Str} {apos pos : Pos} {args : List Expr} {env : PySem.Env} (hf : methodCallForm (args.length + ([] : List Keyword).length) (backTo pos (starEach args env)) (backToKw pos (keywordEach [] env)) = true) (hl : (apos.endLine == pos.line) = true) :
    eval (.Call (.Attribute o name apos) args [] pos) env = (do
      let ov ← attributeBase o name env (eval o env)
      standAt apos.atName
      let (f, first) ← holding [ov] (getMethod ov name (do return (← importBound o env).getD true))
      callWith pos f first (backTo pos (starEach args env)) []) := by
  have hpos : methodCallPos true o env apos pos = pure pos := by unfold methodCallPos; simp [hl]
  rw [arm_eval_Call]
  unfold methodCall
  rw [hf]
  simp only [hpos, pure_bind]
  rfl
/-- what such an exception's making promises -/
def spI (C : Addr) (f : Str) (fmt : V → Prop) : Sp := fun vs H Q _ => ∃ a y, vs = [.ref a, y] ∧ H a = some (exo a C none) ∧ fmt y ∧ ∀ dx, H dx = none → dx ≠ a → Q .non (upd (upd H dx (exd dx [(f, y)])) a (exo a C (some dx)))
section
variable {X : Cx} {σ : L2.St} {H : Hp} {s : Shared} {D : Ends} {C f cc cda a : Addr} {qual : Str} {params : Arguments} {body body0 : List Stmt} {scope : Scope} {fd : FuncData} {self arg fld : Str} {e : Expr} {p1 p2 p3 p4 p5 p6 p7 p8 p9 : Pos} {y : V} {te : TE}
theorem init_body (hI : InitK X.prog X.K X.mg C f cc cda qual params body0 scope fd) (hsa : params.posonlyargs = [] ∧ ∃ ar r, params.args = ar :: r ∧ ar.arg = self) (I : Inv X [] [some (.ref a), some y, none] H s) (hN : X.N = [self, arg, "__class__"]) (hsc : X.env.scope = scope) (hfu : X.env.func = some f) (hco : X.env.code = .ref cda)
    (hce : X.env.cells.lookup ("__class__" : Str) = some cc) (hks : scope.names.lookup ("super" : Str) = some .globalImplicit) (hkc : scope.names.lookup ("__class__" : Str) = some .free) (hself : scope.names.lookup self = some .local) (hargl : scope.names.lookup arg = some .local)
    (hsd : (self == ("__debug__" : Str)) = false) (had : (arg == ("__debug__" : Str)) = false) (hsd2 : (self == ("__classdict__" : Str)) = false) (had2 : (arg == ("__classdict__" : Str)) = false) (hln : (p3.endLine == p4.line) = true) (hfld : PySem.W.findIn X.K (.ref C) fld = some none) (hst : starEach [e] X.env = (false, eval e X.env) :: starEach [] X.env)
    (ea : H a = some (exo a C none)) (pte : PE X e te) (hte : ∀ Q, (∀ z, Q (.str z) H) → te [some (.ref a), some y, none] H Q)
    (hq : ∀ dx, H dx = none → dx ≠ a → D.nx [some (.ref a), some y, none] (upd (upd H dx (exd dx [(fld, y)])) a (exo a C (some dx)))) :
    PySem.wpAt (model X.prog X.w) X.A (.func body X.env) (execs [.Expr (.Call (.Attribute (.Call (.Name "super" p1) [] [] p2) "__init__" p3) [e] [] p4) p5, .Assign [.Attribute (.Name self p6) fld p7] (.Name arg p8) p9] X.env) (SP X [] D) X.xe s := by
  obtain ⟨⟨oc, od, dV, kV, doc, pm, an, ct, osl, efd, lk⟩, hcd, ⟨ccl, cdd, cvs, ccs, fl, tf, lcd, hvs, hfile⟩, ⟨ccl2, cld, csl, lcc⟩, T, ⟨cd, bm, hcls, hmro, halong⟩, hve, hown, hopq, hsup, htop⟩ := hI
  subst efd
  obtain ⟨ar, ar', hpar, harg⟩ := hsa.2
  have hpos := hsa.1
  subst hsc
  have K1 := I.kIn
  obtain ⟨mb, hb1, hb2⟩ := I.mod.blt
  obtain ⟨nmC, qC, NC, bsC, bmC, snC, subC, abC, colC, ddC, k0, k1, k2, k3, k5, hClk, _⟩ := T.cls
  obtain ⟨t1, ho1⟩ := exo_at I.hok ea
  obtain ⟨m, hns, hlk⟩ := id I.loc
  have hm0 : m self = some (.ref a) := by
    obtain ⟨u, ru, l⟩ := hlk 0 self (.ref a) (by rw [hN]; rfl) rfl (.inl hself)
    obtain rfl : u = Value.ref a := ru
    rcases l with ⟨_, h⟩ | ⟨h, _⟩
    · exact h
    · rcases h with h | h <;> (rw [show X.env.kindOf self = some .local from hself] at h; cases h)
  obtain ⟨h, g, d, t, os⟩ := s
  have J1 : PySem.W.InstAt h a _ C none := ⟨ho1, rfl, rfl, trivial⟩
  refine ks_wpAt_execs_cons (ks_wpAt_Expr_any (ks_wpAt_MethodCall ?_ (meth_eq (by show ((backTo p4 (starEach [e] X.env)).all (fun x => !x.1) && (backToKw p4 (keywordEach [] X.env)).all (fun x => x.1.isSome) && decide ([e].length + ([] : List Keyword).length + (if ([] : List Keyword).isEmpty then 0 else 1) < 30)) = true; rw [hst]; rfl) hln)) I.quiet rfl)
  refine ks_wpAt_super_base hks hkc (by decide) hfu (K1 _ _ lk) rfl (by show (params.posonlyargs ++ params.args).head? = some ar; rw [hpos, hpar]; rfl) hco (K1 _ _ lcd) rfl hvs hfile htop ?_
  refine PySem.W.ks_loadName_global I.ok.kind hks (Calls.loadGlobal_builtin (by rw [I.ok.glob]; exact I.mod.glob.keeps I.bk) hsup (by rw [I.ok.blt]; exact hb1.keeps I.bk) ((hb2 "super" (by decide)).trans (show bootBuiltins "super" = some (.type "super") by decide +kernel)) ⟨rfl, ?_⟩)
  refine wpAny_loadName_free I.ok.kind hkc hce ⟨_, K1 _ _ lcc, rfl⟩ ?_
  rw [harg]
  refine wpAny_loadName_local I.ok.kind hself hns hm0 ?_
  refine ks_wpAny_isType_cls (K1 _ _ hClk) rfl ⟨rfl, ?_⟩
  refine ks_wpAny_call_super (K1 _ _ hClk) rfl ho1 rfl (fun c z => by cases z) (PySem.W.looks_mroIn K1 hown) (fun h' e' k' => ?_)
  have K2 : X.K.In h' := K1.keeps k'
  have J2 : PySem.W.InstAt h' a _ C none := ⟨k' _ _ ho1, rfl, rfl, trivial⟩
  refine PySem.W.kxs_getMethod PySem.W.kxs_ValueError e' (PySem.W.looks_opaque K2 hopq) (l₀ := cd.mro) (fun A Q E s k q => wpAny_bind ((PySem.W.looks_clsIn K2 hcls) A _ E s k (wpAny_pure q))) (by rw [hmro]; exact PySem.ESX.drop_own C bm) K2 halong (J2.type.andThen (PySem.W.looks_subIn K2 hve)) (PySem.W.ks_ne K1 J1 hcls) (by decide) ?_
  have I2 : Inv X [] [some (.ref a), some y, none] H ⟨h', g, d, t, os⟩ := I.kept (t' := t) k'
  have I3 : Inv X [] [some (.ref a), some y, none] H ⟨h'.push (PySem.W.kxs_mw "ValueError.__init__" a), g, d, t + 1, os⟩ := I2.kept (t' := t + 1) fun b o z => Heap.get?_push_of_some _ z
  have hu3 : (h'.push (PySem.W.kxs_mw "ValueError.__init__" a)).get? h'.objs.size = some (PySem.W.kxs_mw "ValueError.__init__" a) := Heap.get?_push_size _ rfl
  have fp : FpOk X [] H h'.objs.size := I2.fpOk (Nat.le_refl _) (I2.hok.fresh (Nat.le_refl _))
  have I4 := I3.pinned (fp := [h'.objs.size]) (fun b hb => by rw [List.mem_singleton.mp hb]; exact fp) (fun b hb => by rw [List.mem_singleton.mp hb]; exact ⟨_, hu3, fun v z => by cases z⟩)
  rw [hst]
  refine PySem.W.kxs_callWith (i := "ValueError.__init__") (x := a) rfl (PySem.Calls.evalArgs_plain ?_)
  have hA := (pa_cons pte pa_nil hst).run p4 _ _ _ H (fun vs H2 => H2 = H ∧ ∃ z, vs = [.str z]) I4 (hte _ fun z => ⟨rfl, z, rfl⟩)
  rw [hst] at hA
  refine thn hA fun us s1 ⟨vs, H1, I5, rv, eH, z, ev⟩ => ?_
  subst eH ev
  have hu5 : s1.heap.get? h'.objs.size = some (PySem.W.kxs_mw "ValueError.__init__" a) := (I5.pin (h'.objs.size, PySem.W.kxs_mw "ValueError.__init__" a) (List.mem_append_right _ (List.mem_append_right _ (mem_pinsAt (List.mem_singleton_self _) hu3)))).1
  have hlus : us.length ≤ sizeLine := by
    rw [← Paired.length rv]
    show 1 ≤ sizeLine
    decide
  refine ⟨hu5, ?_⟩
  show wpAny _ _ (call (.ref h'.objs.size) us) _ _ _
  refine bw_ok T I5 ea hu5 hlus fun s2 I6 => ?_
  refine wpAt_of_wpAny ?_
  have psl : PS X (.Assign [.Attribute (.Name self p6) fld p7] (.Name arg p8) p9) (tOst X.K fld (tVar 0) (tVar 1)) :=
    ps_ost (pe_var (by rw [hN]; rfl) (.inl hself) hsd hsd2) (pe_var (by rw [hN]; rfl) (.inl hargl) had had2) (by rfl)
  refine (pss_one psl).run [] s2 [some (.ref a), some y, none] H1 D I6.unpinned ?_
  exact ⟨y, rfl, .ref a, rfl, a, C, rfl, T, hfld, .inl ⟨ea, fun dx hdx hne => hq dx hdx hne⟩⟩
theorem init_fn {P : Program} {w : World} {K : PySem.W.Frag} {mg : Str → Option Value} {base : Heap} {k : Nat} {fmt : V → Prop}
    (hI : InitK P K mg C f cc cda qual params [.Expr (.Call (.Attribute (.Call (.Name "super" p1) [] [] p2) "__init__" p3) [e] [] p4) p5, .Assign [.Attribute (.Name self p6) fld p7] (.Name arg p8) p9] scope fd)
    (S : NdefX.NScope [self, arg, "__class__"] [self, arg] ["__class__"] scope) (hks : scope.names.lookup ("super" : Str) = some .globalImplicit) (hsa : params.posonlyargs = [] ∧ ∃ ar r, params.args = ar :: r ∧ ar.arg = self)
    (hsd : (self == ("__debug__" : Str)) = false) (had : (arg == ("__debug__" : Str)) = false) (hsd2 : (self == ("__classdict__" : Str)) = false) (had2 : (arg == ("__classdict__" : Str)) = false) (hln : (p3.endLine == p4.line) = true) (hfld : PySem.W.findIn K (.ref C) fld = some none)
    (hst : ∀ env, starEach [e] env = (false, eval e env) :: starEach [] env)
    (he : ∀ X : Cx, X.N = [self, arg, "__class__"] → X.env.scope = scope → ∃ te, PE X e te ∧ ∀ a y H Q, fmt y → (∀ z, Q (.str z) H) → te [some (.ref a), some y, none] H Q) :
    FnOk P w K mg base (L2.CX P w) (k + 1) f fd [self, arg] (spI C fld fmt) := by
  obtain ⟨⟨oc, od, dV, kV, doc, pm, an, ct, osl, efd, lk⟩, hcd, hfl, ⟨ccl2, cld, csl, lcc⟩, T, hm, hve, hown, hopq, hsup, htop⟩ := id hI
  refine ⟨fun vs H Q E h => by obtain ⟨a, y, e1, _⟩ := h; rw [e1]; rfl, fun A outer s H args us vs Q E hr e0 hb r hsp => ?_⟩
  obtain ⟨a, y, ev, ea, hfmt, hq⟩ := hsp
  subst ev
  obtain ⟨u2, eus, r2⟩ : ∃ u2, us = [.ref a, u2] ∧ RelV y u2 := by
    cases r with
    | cons r1 r => cases r with
      | cons r2 r => cases r; cases r1; exact ⟨_, rfl, r2⟩
  subst eus
  have KX : K.In s.heap := e0.mod.kin.keeps fun b o e => (e0.bs b o e).1
  have lim : s.heap.NoLimit := e0.mod.nolimit.keeps fun b o e => (e0.bs b o e).1
  subst efd
  let Fn : NdefX.NF := ⟨"__init__", qual, params, [.Expr (.Call (.Attribute (.Call (.Name "super" p1) [] [] p2) "__init__" p3) [e] [] p4) p5, .Assign [.Attribute (.Name self p6) fld p7] (.Name arg p8) p9], scope, [("__class__", cc)], cda⟩
  have Cs : NdefX.CellsAt Fn.cl ["__class__"] [none] s.heap H := by
    have one : ∀ {y c}, Fn.cl.lookup y = some c → c = cc ∧ y = "__class__" := fun {y c} h => by
      have h : List.lookup y [(("__class__" : Str), cc)] = some c := h
      rw [List.lookup_cons] at h
      split at h
      · rename_i hy
        exact ⟨(Option.some.inj h).symm, by simpa using hy⟩
      · cases h
    have hb0 : base.get? cc = some ⟨ccl2, cld, .cell (some (.ref C)), csl⟩ := e0.mod.kin _ _ lcc
    refine ⟨rfl, fun y c h => ?_, fun y z c h1 h2 => (one h1).2.trans (one h2).2.symm, fun i y hi => ?_⟩
    · obtain ⟨rfl, _⟩ := one h
      exact ⟨(e0.bs _ _ hb0).2, some (.ref C), _, KX _ _ lcc, rfl⟩
    · cases i with
      | zero =>
        simp only [List.getElem?_cons_zero, Option.some.injEq] at hi
        subst hi
        exact ⟨cc, by show List.lookup _ [(("__class__" : Str), cc)] = _; simp, fun v hv => by simp at hv⟩
      | succ i => simp at hi
  have fin : ∀ {N : List Str} {σ' : L2.St} {H' : Hp} {s' : Shared} {v : V} {u : Value}, Inv (NdefX.ncx (L2.CX P w) P w K mg base N Fn f A outer s H E) [] σ' H' s' → RelV v u → Q v H' → CE outer P w H s Q u s' :=
    fun {N σ' H' s' v u} J rv q => ⟨v, H', J.os, J.bare, J.base, J.hok, rv, q⟩
  refine ks_codeAny_call_defAt (body := Fn.body) hr.depth (KX _ _ lk) rfl lim (PySem.W.codeRec_of KX hcd) rfl hb S.nocell (fun x hx => ?_) (fun h₁ hns kp => ?_) S.co S.gen S.kind
  · exact S.par x.1 (List.of_mem_zip (show (x.1, x.2) ∈ [self, arg].zip [Value.ref a, u2] from hx)).1
  have I : Inv (NdefX.ncx (L2.CX P w) P w K mg base [self, arg, "__class__"] Fn f A outer s H E) [] (NdefX.startF [self, arg, "__class__"] [.ref a, y] [none]) H { s with heap := h₁, toks := s.toks + ([self, arg].zip [Value.ref a, u2]).length } :=
    NdefX.inv_startN S hr.hd e0 rfl r Cs hns kp
  obtain ⟨te, pte, hte⟩ := he (NdefX.ncx (L2.CX P w) P w K mg base [self, arg, "__class__"] Fn f A outer s H E) rfl rfl
  refine ks_wpAt_mono (init_body (X := NdefX.ncx (L2.CX P w) P w K mg base [self, arg, "__class__"] Fn f A outer s H E) (body := Fn.body) (D := { nx := fun _ H' => Q .non H', rt := Q }) hI hsa I rfl rfl rfl rfl (by show List.lookup _ [(("__class__" : Str), cc)] = _; simp) hks (S.frk "__class__" (by simp)) (S.par self (by simp)) (S.par arg (by simp)) hsd had hsd2 had2 hln hfld (hst _) ea pte (fun Q' hz => hte a y H Q' hfmt hz) (fun dx h1 h2 => hq dx h1 h2)) (fun fl s' hs => ?_) fun e s' hs => hs
  cases fl with
  | ret u =>
    obtain ⟨v, σ', H', J, rv, q⟩ := hs
    exact fin J rv q
  | next =>
    obtain ⟨σ', H', J, q⟩ := hs
    exact fin (v := V.non) (u := Value.none) J rfl q
  | brk =>
    obtain ⟨_, _, _, q⟩ := hs
    exact False.elim q
  | cont =>
    obtain ⟨_, _, _, q⟩ := hs
    exact False.elim q
end
end MP
end
section
set_option Elab.async false
set_option linter.all false
set_option maxRecDepth 100000
set_option maxHeartbeats 4000000
/-! MP: try with several clauses, each with a name or without; raise. -/
namespace MP
open PySem PySem.Spec L2
open PyProof.Rows hiding St
abbrev Cls := Value × Option Nat × (Addr → Value → Option Addr → TS)
/-- what the clauses wish -/
def wK (K : PySem.W.Frag) (Wout : WX) (D : Ends) : List Cls → WX
  | [] => Wout
  | (c, i, ts) :: r => fun cls d σ H => ∃ b, PySem.W.exmOne K cls c = some b ∧ (b = true → ∀ a, H a = none → match i with
      | none => ts a cls d D σ H
      | some i => ts a cls d { nx := fun σ' H' => D.nx (σ'.set i none) H', rt := D.rt, bk := fun σ' H' => D.bk (σ'.set i none) H', ct := fun σ' H' => D.ct (σ'.set i none) H' } (σ.set i (some (.ref a))) H) ∧
    (b = false → wK K Wout D r cls d σ H)
inductive HdsK (X : Cx) : List ExceptHandler → List Cls → Prop
  | nil : HdsK X [] []
  | cons0 {x : Str} {c : Value} {ts : Addr → Value → Option Addr → TS} {b₀ : Stmt} {suite : List Stmt} {np pos' : Pos} {hds : List ExceptHandler} {l : List Cls} (hc : Names X x c)
      (hsu : ∀ (a : Addr) (oe : Obj) (cls : Value) (d : Option Addr) (pn : List (Addr × Obj)), Zc cls d oe → (∃ vs, oe.data = .fields vs) → PSs (X.suite a ((a, oe) :: pn)) (b₀ :: suite) (ts a cls d)) (r : HdsK X hds l) :
      HdsK X (.ExceptHandler (some (.Name x np)) none (b₀ :: suite) pos' :: hds) ((c, none, ts) :: l)
  | cons1 {x n : Str} {c : Value} {i : Nat} {ts : Addr → Value → Option Addr → TS} {b₀ : Stmt} {suite : List Stmt} {np pos' : Pos} {hds : List ExceptHandler} {l : List Cls} (hc : Names X x c) (hi : X.N[i]? = some n) (hln : X.env.kindOf n = some .local)
      (hsu : ∀ (a : Addr) (oe : Obj) (cls : Value) (d : Option Addr) (pn : List (Addr × Obj)), Zc cls d oe → (∃ vs, oe.data = .fields vs) → PSs (X.suite a ((a, oe) :: pn)) (b₀ :: suite) (ts a cls d)) (r : HdsK X hds l) :
      HdsK X (.ExceptHandler (some (.Name x np)) (some n) (b₀ :: suite) pos' :: hds) ((c, some i, ts) :: l)
section
variable {X : Cx} {body : List Stmt} {h₀ : ExceptHandler} {hds : List ExceptHandler} {l : List Cls} {pos : Pos} {tb : WX → TS} {Wout : WX}
theorem ps_tryK (hs : X.stack = X.env :: X.outer) (hf : X.env.frame = some X.env.locals) (hN : X.N.Nodup) (tk : Takes X Wout)
    (hb : ∀ (W : WX) (pn : List (Addr × Obj)) (xe : Value → Shared → Prop), Takes (X.tr pn xe) W → PassesOwn (model X.prog X.w) X.A X.env xe → PSs (X.tr pn xe) body (tb W))
    (hh : HdsK X (h₀ :: hds) l) : PS X (.Try body (h₀ :: hds) [] [] pos) (fun D σ H => tb (wK X.K Wout D l) D σ H) := by
  refine ⟨fun pins s σ H D I h => ?_⟩
  have ok := I.ok
  have hfr : X.A.frames = some (X.env :: X.outer) := by rw [ok.frames, hs]
  refine wpAny_Try_except ?_
  refine wpAny_mono ((hb (wK X.K Wout D l) (X.pn ++ pins) (fun e s₁ => wpAny (model X.prog X.w) X.A (noteFrame e X.env) (fun _ s₂ => wpAny (model X.prog X.w) X.A (setFlight e none) (fun _ s₃ =>
    wpAny (model X.prog X.w) X.A (handleBy e X.env (h₀ :: hds)) (SP X pins D) X.xe s₃) X.xe s₂) X.xe s₁) (fun u s' xx => ?_) PassesOwn.looking).run [] s σ H D (I.toTry _) h) (fun f s1 hsp => ?_) (fun e s1 he => he)
  · obtain ⟨a, B, sI, pins', σ', H', cls, d, rfl, J', nb, up, sky, na, os, ag, w⟩ := xx
    have J : Inv X pins σ' H' sI := J'.ofTry ok
    have sky' : Sky B (X.env :: X.outer) a (Zc cls d) X.env.locals s'.heap := by rw [← hs]; exact sky
    show wpAny (model X.prog X.w) X.A (noteFrame (.ref a) X.env) _ _ _
    refine Sky.land Zc.steady hfr hf sky' fun h3 fl3 up3 => ?_
    have J3 : Inv X pins σ' H' { s' with heap := h3 } := J.landed nb fl3.1 (up.trans up3) os ag
    obtain ⟨oe3, vs3, he3, hz3, hd3⟩ := fl3.there
    have notFr : ∀ {h : Heap} {o : Obj} {vs : Array Value}, h.FunFrames B (X.env :: X.outer) → h.get? a = some o → o.data = .fields vs → a ∉ frs (X.env :: X.outer) := fun {h o vs} ff e dd hm => by
      obtain ⟨_, o', e', hnf⟩ := ff.mem hm
      rw [e] at e'; cases e'
      exact hnf _ dd
    have nfr := notFr fl3.2.2.1 he3 hd3
    have nL : a ≠ X.env.locals := fun z => nfr (List.mem_filterMap.mpr ⟨X.env, List.mem_cons_self, by rw [hf, z]⟩)
    have nF : a ∉ X.fs := fun hm => by
      obtain ⟨e, he, q⟩ := List.mem_filterMap.mp hm
      exact nfr (List.mem_filterMap.mpr ⟨e, List.mem_cons_of_mem _ he, q⟩)
    have S3 := J3.suite he3 hd3 na nL nF
    have go : ∀ {hds' : List ExceptHandler} {l' : List Cls}, HdsK X hds' l' → wK X.K Wout D l' cls d σ' H' →
        wpAny (model X.prog X.w) X.A (handleBy (.ref a) X.env hds') (SP X pins D) X.xe { s' with heap := h3 } := by
      intro hds' l' hk
      induction hk with
      | nil =>
        intro w
        refine wpAny_handleBy_nil ?_
        obtain ⟨k1, k2, k3, oe, vs, T, oT, ts', he, hz, hd, h1, hr⟩ := id fl3
        unfold PySem.passOn
        refine wpAny_bind (wpAny_field he hd h1 ?_)
        rw [if_neg (show ¬ ((Value.ref T == Value.none) = true) from by simp)]
        have fin : wpAny (model X.prog X.w) X.A (setFlight (.ref a) X.env.frame) (fun _ s4 => wpAny (model X.prog X.w) X.A (throw (.ref a) : Sem Flow) (SP X pins D) X.xe s4) X.xe { s' with heap := h3 } := by
          rw [hf]
          refine HandSPX.setFlight_upZ fl3 fun h4 hh4 up4 => wpAny_throw (tk _ _ ?_)
          exact ⟨a, B, sI, pins, σ', H', cls, d, rfl, J, nb, (up.trans up3).trans up4, .inr (.inr (by rw [hs]; exact hh4)), na, os, ag, w⟩
        first
          | exact wpAny_bind (wpAny_pure (wpAny_bind fin))
          | exact wpAny_bind fin
      | @cons0 x c ts b₀ suite np pos' hds2 l2 hc hsu r ih =>
        intro w
        obtain ⟨b, hb1, hyes, hno⟩ := w
        refine wpAny_handleBy_cons (codeAny_handlers_test ?_) (by intro q; cases q)
        have LT : PySem.W.Looks (model X.prog X.w) h3 (typeOf (.ref a)) cls := fun A Q E s k q => wpAny_typeOf_ref (k _ _ he3) (by rw [hz3.1]; exact q)
        have LM := PySem.W.exm_one (M := model X.prog X.w) (J3.kIn) LT hb1
        have test : ∀ {Q : Value → Shared → Prop} {E : Value → Shared → Prop}, Q c { s' with heap := h3 } → wpAny (model X.prog X.w) (X.A.mark (some (.ref a))) (eval (.Name x np) X.env) Q E { s' with heap := h3 } := fun {Q E} q => by
          obtain ⟨hg, hdbg, hm | ⟨hm, hv, hnn⟩⟩ := hc
          · exact ld_glob (X := X.suite a ((a, oe3) :: (X.pn ++ pins))) S3 hg hm q hdbg
          · exact ld_blt (X := X.suite a ((a, oe3) :: (X.pn ++ pins))) S3 hg hm hv q hnn hdbg
        refine test (LM.here ?_)
        cases b with
        | true =>
          refine codeAny_handlers_suite ?_
          refine HandSPX.lands_againZ fl3 fun h4 fl4 up4 => ?_
          have J4 : Inv X pins σ' H' { s' with heap := h4 } := J.landed nb fl4.1 ((up.trans up3).trans up4) os ag
          obtain ⟨oe4, vs4, he4, hz4, hd4⟩ := fl4.there
          have S4 := J4.suite he4 hd4 na nL nF
          refine wpAny_mono ((hsu a oe4 cls d (X.pn ++ pins) hz4 ⟨_, hd4⟩).run [] _ _ H' _ S4 (hyes rfl a na)) (fun f s6 hsp => ?_) (fun _ _ z => False.elim z)
          cases f with
          | next =>
            obtain ⟨σ6, H6, S6, q6⟩ := hsp
            exact ⟨_, _, S6.unsuite ok, q6⟩
          | brk =>
            obtain ⟨σ6, H6, S6, q6⟩ := hsp
            exact ⟨_, _, S6.unsuite ok, q6⟩
          | cont =>
            obtain ⟨σ6, H6, S6, q6⟩ := hsp
            exact ⟨_, _, S6.unsuite ok, q6⟩
          | ret u =>
            obtain ⟨v6, σ6, H6, S6, r6, q6⟩ := hsp
            exact ⟨_, _, _, S6.unsuite ok, r6, q6⟩
        | false =>
          show wpAny _ X.A (handleBy (.ref a) X.env hds2) _ _ _
          exact ih (hno rfl)
      | @cons1 x n c i ts b₀ suite np pos' hds2 l2 hc hi hln hsu r ih =>
        intro w
        obtain ⟨b, hb1, hyes, hno⟩ := w
        have hloc : Loc X.env.scope n := .inl hln
        refine wpAny_handleBy_cons (codeAny_handlers_test ?_) (by intro q; cases q)
        have LT : PySem.W.Looks (model X.prog X.w) h3 (typeOf (.ref a)) cls := fun A Q E s k q => wpAny_typeOf_ref (k _ _ he3) (by rw [hz3.1]; exact q)
        have LM := PySem.W.exm_one (M := model X.prog X.w) (J3.kIn) LT hb1
        have test : ∀ {Q : Value → Shared → Prop} {E : Value → Shared → Prop}, Q c { s' with heap := h3 } → wpAny (model X.prog X.w) (X.A.mark (some (.ref a))) (eval (.Name x np) X.env) Q E { s' with heap := h3 } := fun {Q E} q => by
          obtain ⟨hg, hdbg, hm | ⟨hm, hv, hnn⟩⟩ := hc
          · exact ld_glob (X := X.suite a ((a, oe3) :: (X.pn ++ pins))) S3 hg hm q hdbg
          · exact ld_blt (X := X.suite a ((a, oe3) :: (X.pn ++ pins))) S3 hg hm hv q hnn hdbg
        refine test (LM.here ?_)
        cases b with
        | true =>
          refine codeAny_handlers_suite_as ?_
          refine HandSPX.lands_againZ fl3 fun h4 fl4 up4 => ?_
          have J4 : Inv X pins σ' H' { s' with heap := h4 } := J.landed nb fl4.1 ((up.trans up3).trans up4) os ag
          obtain ⟨oe4, vs4, he4, hz4, hd4⟩ := fl4.there
          have S4 := J4.suite he4 hd4 na nL nF
          refine store_ok (X := X.suite a ((a, oe4) :: (X.pn ++ pins))) (v := .ref a) S4 hN hi hloc rfl (fun s5 S5 => ?_) (.inr hln)
          refine wpAny_mono ((hsu a oe4 cls d (X.pn ++ pins) hz4 ⟨_, hd4⟩).run [] s5 _ H' _ S5 (hyes rfl a na)) (fun f s6 hsp => ?_) (fun _ _ z => False.elim z)
          have end_ : ∀ {σ6 : L2.St} {H6 : Hp} {Q : Shared → Prop}, Inv (X.suite a ((a, oe4) :: (X.pn ++ pins))) [] σ6 H6 s6 → (∀ s7, Inv X pins (σ6.set i none) H6 s7 → Q s7) →
              wpAny (model X.prog X.w) X.A (do bindName X.env n .none; unbindBehindTheSuite X.env n pos') (fun _ s7 => Q s7) X.xe s6 := fun {σ6 H6 Q} S6 hq => gone_ok (S6.unsuite ok) hN hi hln hq
          cases f with
          | next =>
            obtain ⟨σ6, H6, S6, q6⟩ := hsp
            exact end_ S6 fun s7 J7 => ⟨_, _, J7, q6⟩
          | brk =>
            obtain ⟨σ6, H6, S6, q6⟩ := hsp
            exact end_ S6 fun s7 J7 => ⟨_, _, J7, q6⟩
          | cont =>
            obtain ⟨σ6, H6, S6, q6⟩ := hsp
            exact end_ S6 fun s7 J7 => ⟨_, _, J7, q6⟩
          | ret u =>
            obtain ⟨v6, σ6, H6, S6, r6, q6⟩ := hsp
            exact end_ S6 fun s7 J7 => ⟨_, _, _, J7, r6, q6⟩
        | false =>
          show wpAny _ X.A (handleBy (.ref a) X.env hds2) _ _ _
          exact ih (hno rfl)
    exact go hh w
  · cases f with
    | next =>
      obtain ⟨σ', H', J', q⟩ := hsp
      exact wpAny_execs_nil ⟨σ', H', J'.ofTry ok, q⟩
    | brk =>
      obtain ⟨σ', H', J', q⟩ := hsp
      exact ⟨σ', H', J'.ofTry ok, q⟩
    | cont =>
      obtain ⟨σ', H', J', q⟩ := hsp
      exact ⟨σ', H', J'.ofTry ok, q⟩
    | ret u =>
      obtain ⟨v, σ', H', J', r, q⟩ := hsp
      exact ⟨v, σ', H', J'.ofTry ok, r, q⟩
end
end MP
end
section
set_option Elab.async false
set_option linter.all false
set_option maxRecDepth 100000
set_option maxHeartbeats 4000000
/-! MP: raise, try. -/
namespace MP
open PySem PySem.Spec L2
open PyProof.Rows hiding St
def fmtV (y : V) : Prop := (∃ z : Str, y = .str z ∧ z.length ≤ 1000) ∨ ∃ i : Int, y = .int i ∧ i.natAbs.log2 < 1920
/-- what must be known of an own exception class -/
structure XcOk (P : Program) (w : World) (K : PySem.W.Frag) (mg : Str → Option Value) (base : Heap) (Z : Ad) (c : Nat) (x : Str) : Prop where
  T : OexC K (Z.xad c)
  mgx : mg x = some (.ref (Z.xad c))
  init : ∃ (fI : Addr) (fd : FuncData) (ps : List Str), PySem.W.findIn K (.ref (Z.xad c)) "__init__" = some (some (.ref fI)) ∧ PySem.W.typeIn K (.ref fI) = some (.type "function") ∧ FnOk P w K mg base (L2.CX P w) 1 fI fd ps (spI (Z.xad c) (Z.xf c) fmtV) ∧ Binds K fd ps []
  xf : XfC K (Z.xad c)
  xn : PySem.W.findIn K (.ref (Z.xad c)) (Z.xf c) = some none
theorem passes_no {X : Cx} : Passes (L2.CX X.prog X.w) X (fun _ _ _ => False) := fun pins σ H s e s' I c => by
  obtain ⟨a, B, H', cls, d, _, _, _, _, _, _, _, h⟩ := c
  exact h.elim
section
variable {X : Cx} {Z : Ad} {xo : Option Xo} {n c : Nat} {W : WX} {a : Expr} {f : MP.Env → Mem → R D} {x : Str} {p pos pos' : Pos}
theorem s_raise (E : XcOk X.prog X.w X.K X.mg X.base Z c x) (hc : X.calm = true) (hr : Room 2 X.A) (hg : Gl X x) (tk : Takes X W) (ha : EOk X Z xo W n a f) (hn : ∀ b p, a ≠ .Starred b p) (hdb : (x == ("__debug__" : Str)) = false) :
    PS X (.Raise (some (.Call (.Name x p) [a] [] pos)) none pos') (tS Z xo W n fun env h => (f env h).thn env fun d h => match d with
      | .a x => if excOk x then .exc c x env h else .err
      | _ => .err) := by
  obtain ⟨T, mgx, ⟨fI, fd, ps, iC, tI, F1, hb⟩, _, _⟩ := E
  refine PS.imp (ps_raise hc tk (pmk_oex T iC tI F1 hr hb .nil passes_no hg mgx (pa_cons ha.pe pa_nil ((NoStar.one hn).head _)) hdb ((NoStar.one hn).head _) rfl)) fun D σ H ⟨S, env, e, i, q⟩ => ?_
  subst e
  refine ⟨S, env, rfl, i, (GoS.thn (Rel := relD Z) i q).mono fun v H1 ⟨d, S1, nx, e, r1, q1⟩ => ?_⟩
  subst e
  cases d with
  | a y =>
    have q1 : GoS Z xo W n S1 (if excOk y then .exc c y env S1.h else .err) D := q1
    split at q1
    · rename_i hx
      have hf : fmtV v := by
        cases y with
        | str s =>
          cases r1
          exact .inl ⟨s, rfl, by simpa [excOk] using hx⟩
        | int i =>
          cases r1
          exact .inr ⟨i, rfl, by simpa [excOk] using hx⟩
        | _ => exact absurd hx Bool.false_ne_true
      refine ⟨by show 1 ≤ 1000; omega, fun b hb0 => ⟨b, v, rfl, upd_same, hf, fun dx hdx hne => ⟨rfl, dx, [(Z.xf c, v)], upd_same, ?_, ?_, ?_⟩⟩⟩
      · rw [upd_ne hne]
        exact upd_same
      · rw [upd_ne hne] at hdx
        exact hdx
      · rw [upd_ne hne] at hdx
        have eq : upd (L2.del (upd (upd (upd S1.H b (exo b (Z.xad c) none)) dx (exd dx [(Z.xf c, v)])) b (exo b (Z.xad c) (some dx))) b) dx (.xd [(Z.xf c, v)]) = upd S1.H dx (.xd [(Z.xf c, v)]) := by
          funext z
          by_cases h1 : z = dx
          · rw [h1, upd_same, upd_same]
          · rw [upd_ne h1, upd_ne h1]
            by_cases h2 : z = b
            · rw [h2, L2.del_same, hb0]
            · rw [L2.del_ne h2, upd_ne h2, upd_ne h1, upd_ne h2]
        rw [eq]
        have x : Nx Z n S1 _ := nx.ok.lay hdx (.xd [(Z.xf c, v)])
        exact q1 ⟨S1.r, upd S1.F dx (.xd [(Z.xf c, v)]), S1.h, upd S1.H dx (.xd [(Z.xf c, v)])⟩ σ dx v x rfl ((i.nx nx).nx x) (show upd S1.F dx _ dx = _ from upd_same) (VA.le x.le (show VA Z S1.F y v from r1))
    · exact q1.elim
  | _ => exact q1.elim
end
section
variable {Z : Ad} {n : Nat} {S : Sa} {env : MP.Env} {σ : L2.St} {a dx : Addr} {f : Str} {i : Nat} {x : A} {v : V}
theorem In.hot (j : In Z none n S env σ) (h1 : S.F dx = some (.xd [(f, v)])) (h2 : VA Z S.F x v) : In Z (some ⟨i, a, dx, f⟩) n S (env.set i (some (.a x))) (σ.set i (some (.ref a))) := by
  refine ⟨j.ok, j.le, by rw [List.length_set, List.length_set]; exact j.len, fun k d e => ?_⟩
  simp only
  by_cases hk : k = i
  · subst hk
    have hl : k < env.length := by
      have := (List.getElem?_eq_some_iff.mp e).1
      rw [List.length_set] at this
      exact this
    rw [List.getElem?_set_self hl] at e
    cases e
    rw [if_pos rfl]
    exact ⟨List.getElem?_set_self (Nat.lt_of_lt_of_le hl j.len), x, v, rfl, h1, h2⟩
  · rw [if_neg hk]
    rw [List.getElem?_set_ne (Ne.symm hk)] at e ⊢
    exact j.env k d e
theorem In.cool {o : Xo} (j : In Z (some o) n S env σ) : In Z none n S (env.set o.i none) (σ.set o.i none) := by
  refine ⟨j.ok, j.le, by rw [List.length_set, List.length_set]; exact j.len, fun k d e => ?_⟩
  obtain ⟨hk, e⟩ := set_none_not e
  have := j.env k d e
  simp only at this
  rw [if_neg hk] at this
  rw [List.getElem?_set_ne (Ne.symm hk)]
  exact this
end
section
variable {X : Cx} {Z : Ad} {n c : Nat} {W : WX} {l : List Cls} {hds : List ExceptHandler} {body : List Stmt} {F : MP.Env → Mem → MP.X}
abbrev Hd := List Bool × Option Nat × (MP.Env → Mem → MP.X)
inductive HdsM (X : Cx) (Z : Ad) (n : Nat) : List ExceptHandler → List Hd → Prop
  | nil : HdsM X Z n [] []
  | cons0 {x : Str} {cv : Value} {cs : List Bool} {F : MP.Env → Mem → MP.X} {b₀ : Stmt} {suite : List Stmt} {np pos' : Pos} {hds : List ExceptHandler} {l : List Hd} (hc : Names X x cv) (hcs : ∀ k b, cs[k]? = some b → PySem.W.exmOne X.K (.ref (Z.xad k)) cv = some b)
      (hsu : ∀ (a : Addr) (oe : Obj) (pn : List (Addr × Obj)), (∃ vs, oe.data = .fields vs) → PSs (X.suite a ((a, oe) :: pn)) (b₀ :: suite) (tS Z none W0 n F)) (r : HdsM X Z n hds l) :
      HdsM X Z n (.ExceptHandler (some (.Name x np)) none (b₀ :: suite) pos' :: hds) ((cs, none, F) :: l)
  | cons1 {x m : Str} {cv : Value} {i : Nat} {cs : List Bool} {F : MP.Env → Mem → MP.X} {b₀ : Stmt} {suite : List Stmt} {np pos' : Pos} {hds : List ExceptHandler} {l : List Hd} (hc : Names X x cv) (hcs : ∀ k b, cs[k]? = some b → PySem.W.exmOne X.K (.ref (Z.xad k)) cv = some b) (hi : X.N[i]? = some m) (hln : X.env.kindOf m = some .local)
      (hsu : ∀ (a : Addr) (oe : Obj) (k : Nat) (dx : Addr) (pn : List (Addr × Obj)), cs[k]? = some true → Zc (.ref (Z.xad k)) (some dx) oe → (∃ vs, oe.data = .fields vs) → PSs (X.suite a ((a, oe) :: pn)) (b₀ :: suite) (tS Z (some ⟨i, a, dx, Z.xf k⟩) W0 n F)) (r : HdsM X Z n hds l) :
      HdsM X Z n (.ExceptHandler (some (.Name x np)) (some m) (b₀ :: suite) pos' :: hds) ((cs, some i, F) :: l)
theorem GoS.noexc {xo : Option Xo} {W' : WX} {S : Sa} {r : MP.X} {D : Ends} (g : GoS Z xo W n S (match r with
    | .exc _ _ _ _ => .err
    | y => y) D) : GoS Z xo W' n S r D := by
  cases r with
  | exc c x e h => exact g.elim
  | _ => exact g
theorem HdsM.ok (h : HdsM X Z n hds hs) : ∃ l, HdsK X hds l ∧ ∀ {W : WX} {S : Sa} {σ : L2.St} {env : MP.Env} {dx : Addr} {c : Nat} {x : A} {v : V} {D : Ends}, In Z none n S env σ → S.F dx = some (.xd [(Z.xf c, v)]) → VA Z S.F x v → GoS Z none W n S (hnd c x env S.h hs) D → wK X.K W D l (.ref (Z.xad c)) (some dx) σ S.H := by
  induction h with
  | nil => exact ⟨[], .nil, fun {W S σ env dx c x v D} i h1 h2 g => g S σ dx v (Nx.refl i.ok) rfl i h1 h2⟩
  | @cons0 x cv cs F b₀ suite np pos' hds l hc hcs hsu r ih =>
    obtain ⟨lk, hk, go⟩ := ih
    refine ⟨(cv, none, fun a cls d => tS Z none W0 n F) :: lk, .cons0 hc (fun a oe cls d pn hz hd => hsu a oe pn hd) hk, fun {W S σ env dx c x v D} i h1 h2 g => ?_⟩
    unfold hnd at g
    cases e : cs[c]? with
    | none => rw [e] at g; exact g.elim
    | some b =>
      rw [e] at g
      refine ⟨b, hcs c b e, fun hb a ha => ?_, fun hb => ?_⟩
      · subst hb
        exact ⟨S, env, rfl, i, GoS.noexc (W := W) g⟩
      · subst hb
        exact go i h1 h2 g
  | @cons1 x m cv i cs F b₀ suite np pos' hds l hc hcs hi hln hsu r ih =>
    obtain ⟨lk, hk, go⟩ := ih
    refine ⟨(cv, some i, fun a cls d => fun D σ H => ∃ k dx, cs[k]? = some true ∧ cls = .ref (Z.xad k) ∧ d = some dx ∧ tS Z (some ⟨i, a, dx, Z.xf k⟩) W0 n F D σ H) :: lk, .cons1 hc hi hln (fun a oe cls d pn hz hd => ⟨fun pins s σ H D I w => ?_⟩) hk, fun {W S σ env dx c x v D} j h1 h2 g => ?_⟩
    · obtain ⟨k, dx, h1, h2, h3, w⟩ := w
      subst h2 h3
      exact (hsu a oe k dx pn h1 hz hd).run pins s σ H D I w
    · unfold hnd at g
      cases e : cs[c]? with
      | none => rw [e] at g; exact g.elim
      | some b =>
        rw [e] at g
        refine ⟨b, hcs c b e, fun hb a ha => ?_, fun hb => ?_⟩
        · subst hb
          refine ⟨c, dx, e, rfl, rfl, S, _, rfl, j.hot h1 h2, ?_⟩
          dsimp only at g
          cases hF : F (env.set i (some (.a x))) S.h with
          | nx e h => rw [hF] at g; exact fun S' σ' y eh i' => g S' _ y eh i'.cool
          | brk e h => rw [hF] at g; exact fun S' σ' y eh i' => g S' _ y eh i'.cool
          | cnt e h => rw [hF] at g; exact fun S' σ' y eh i' => g S' _ y eh i'.cool
          | ret d h => rw [hF] at g; exact g
          | exc c x e h => rw [hF] at g; exact g.elim
          | err => rw [hF] at g; exact g.elim
        · subst hb
          exact go j h1 h2 g
theorem s_try {h₀ : ExceptHandler} {hs : List Hd} {pos : Pos} (hst : X.stack = X.env :: X.outer) (hfr : X.env.frame = some X.env.locals) (hN : X.N.Nodup) (tk : Takes X W)
    (hb : ∀ (W : WX) (pn : List (Addr × Obj)) (xe : Value → Shared → Prop), Takes (X.tr pn xe) W → PassesOwn (model X.prog X.w) X.A X.env xe → PSs (X.tr pn xe) body (tS Z none W n F)) (hh : HdsM X Z n (h₀ :: hds) hs) :
    PS X (.Try body (h₀ :: hds) [] [] pos) (tS Z none W n fun env h => match F env h with
      | .exc c x env h => hnd c x env h hs
      | x => x) := by
  obtain ⟨l, hk, go⟩ := hh.ok
  refine PS.imp (ps_tryK hst hfr hN tk hb hk) fun D σ H ⟨S, env, e, i, q⟩ => ?_
  subst e
  refine ⟨S, env, rfl, i, ?_⟩
  dsimp only at q
  cases hF : F env S.h with
  | exc c x e h =>
    rw [hF] at q
    intro S' σ' dx v y eh i' h1 h2
    refine go i' h1 h2 ?_
    rw [eh]
    exact GoS.from y (Nat.le_refl _) q
  | nx e h => rw [hF] at q; exact q
  | brk e h => rw [hF] at q; exact q
  | cnt e h => rw [hF] at q; exact q
  | ret d h => rw [hF] at q; exact q
  | err => rw [hF] at q; exact q.elim
/-- the field of the exception at hand -/
theorem EOk.fldX {o : Xo} {oe : Obj} {k : Nat} {pn : List (Addr × Obj)} {m fl : Str} {p pos : Pos} {W : WX} (hK : X.K = Z.K) (hx : XfC X.K (Z.xad k)) (hno : PySem.W.findIn X.K (.ref (Z.xad k)) fl = some none) (hof : o.f = fl) (hz : Zc (.ref (Z.xad k)) (some o.dx) oe) (hd : ∃ vs, oe.data = .fields vs)
    (hv : PE (X.suite o.a ((o.a, oe) :: pn)) (.Name m p) (tVar o.i)) : EOk (X.suite o.a ((o.a, oe) :: pn)) Z (some o) W n (.Attribute (.Name m p) fl pos) (fun env h => match env[o.i]? with
      | some (some d) => .ok d h
      | _ => .err) := by
  refine EOk.of hK (PE.imp (pe_xf hx hno hz hd hv) fun σ H Q ⟨S, env, e, i, q⟩ => ?_) (fun _ => rfl)
  subst e
  dsimp only at q
  split at q
  · rename_i d e
    have := i.env o.i d e
    simp only [if_true] at this
    obtain ⟨h1, x, v, h2, h3, h4⟩ := this
    subst h2
    exact ⟨.ref o.a, h1, rfl, rfl, o.dx, [(o.f, v)], v, rfl, i.ok.le _ _ h3, by rw [hof]; simp, Go.val q i.ok h4⟩
  · exact q.elim
end
end MP
end
section
set_option Elab.async false
set_option linter.all false
set_option maxRecDepth 100000
/-! MP: from the program's text. -/
namespace MP
open PySem
/-- what is known of the module's names; tables that the prover gives -/
structure CT where
  fn : List (Str × Nat)
  ex : List (Str × Nat)
  con : List (Str × A)
  /-- which exceptions a clause takes -/
  tk : List (Str × List Bool)
  /-- the exceptions' fields -/
  xf : List Str
  free : List Str
  muts : List (Nat × Nat)
  dts : List (Nat × Nat)
  frz : List ((Nat × Nat) × List Str)
  rst : List ((Nat × Nat) × List Str)
/-- the block that a text stands in: the names by slot, its scope's names, an exception at hand: its name, slot, field -/
structure CB where
  N : List Str
  sc : List (Str × NameKind)
  hot : Bool := false
  exo : Option (Str × Nat × Str) := none
def slot (N : List Str) (x : Str) : Option Nat := N.findIdx? fun y => decide (y = x)
def CB.see (B : CB) (x : Str) : Bool := match B.sc.lookup x with
  | some .local => true
  | some .cell => true
  | some .free => true
  | _ => false
def CB.loc (B : CB) (x : Str) : Bool := match B.sc.lookup x with
  | some .local => true
  | some .cell => true
  | _ => false
def CB.glo (B : CB) (x : Str) : Bool := match B.sc.lookup x with
  | some .globalImplicit => true
  | _ => false
def CB.isExo (B : CB) (x : Str) : Bool := match B.exo with
  | some p => decide (p.1 = x)
  | none => false
def oddName (x : Str) : Bool := (x == ("__debug__" : Str)) || (x == ("__classdict__" : Str)) || (x == ("__name__" : Str))
def strOkB (s : Str) : Bool := (s.cps.all fun c => decide (c < 1114112)) && decide (s.length ≤ 1000)
def CT.isMut (T : CT) (p : Pos) : Bool := T.muts.contains (p.line, p.col)
def CT.isDt (T : CT) (p : Pos) : Bool := T.dts.contains (p.line, p.col)
def CT.isFree (T : CT) (B : CB) (x : Str) : Bool := T.free.contains x && B.glo x
def slots (N : List Str) : List Str → Option (List Nat)
  | [] => some []
  | x :: r => (slot N x).bind fun i => (slots N r).bind fun is => some (i :: is)
/-- a block's own names -/
def ownOf (N : List Str) (sc : List (Str × NameKind)) : List (Str × Nat) := sc.filterMap fun p => match p.2 with
  | .local => (slot N p.1).map fun i => (p.1, i)
  | .cell => (slot N p.1).map fun i => (p.1, i)
  | _ => none
def isFn : ScopeKind → Bool
  | .function => true
  | _ => false
def blkOk (B : CB) (sc : Scope) (own : List (Str × Nat)) : Bool :=
  isFn sc.kind && (sc.names.all fun y => decide (sc.names.lookup y.1 = some y.2)) && (own.all fun p => decide (B.N[p.2]? = some p.1)) &&
  (sc.names.all fun y => match y.2 with
    | .free => (match B.sc.lookup y.1 with
      | some .cell => true
      | some .free => true
      | _ => false)
    | .local => decide (y.1 ∈ own.map (·.1)) || decide (y.1 ∉ B.N)
    | .cell => decide (y.1 ∈ own.map (·.1)) || decide (y.1 ∉ B.N)
    | _ => true)
/-- names that a target stores -/
def compNms (B : CB) : List Expr → Option (List Nat)
  | [] => some []
  | .Name x _ :: r => if B.loc x then (slot B.N x).bind fun i => (compNms B r).bind fun is => some (i :: is) else none
  | _ :: _ => none
def compTg (B : CB) : Expr → Option Tg
  | .Name x _ => if B.loc x then (slot B.N x).map .nm else none
  | .Tuple es _ _ => (compNms B es).map .tp
  | _ => none
def isTupE : Expr → Bool
  | .Tuple _ _ _ => true
  | _ => false
def opOk : Operator → Bool
  | .Add => true
  | .Sub => true
  | .Mult => true
  | .FloorDiv => true
  | .Mod => true
  | .Pow => true
  | _ => false
def noSlice : Expr → Bool
  | .Slice _ _ _ _ => false
  | _ => true
def noStar : Expr → Bool
  | .Starred _ _ => false
  | _ => true
def tgSub (own : List Nat) : Tg → Bool
  | .nm i => own.contains i
  | .tp is => is.all fun i => own.contains i
mutual
def compE (T : CT) (B : CB) : Nat → Expr → Option E
  | 0, _ => none
  | _ + 1, .Constant .none _ _ => some (.cst .non)
  | _ + 1, .Constant (.bool b) _ _ => some (.cst (.bl b))
  | _ + 1, .Constant (.int i) _ _ => some (.cst (.int i))
  | _ + 1, .Constant (.str s) _ _ => if strOkB s then some (.cst (.str s)) else none
  | _ + 1, .Name x _ => if oddName x || B.isExo x then none else if B.see x then (slot B.N x).map .var else if B.glo x then (T.con.lookup x).map (.glb x) else none
  | n + 1, .BinOp a o b p => if opOk o then (compE T B n a).bind fun a => (compE T B n b).bind fun b => some (.bin (T.isMut p) o a b) else none
  | n + 1, .UnaryOp .Not a _ => (compE T B n a).map .not
  | n + 1, .UnaryOp .USub a _ => (compE T B n a).map .neg
  | n + 1, .BoolOp o es _ => compB T B n o es
  | n + 1, .Compare a os es _ => (compE T B n a).bind fun a => compCh T B n a os es
  | n + 1, .IfExp c a b _ => (compE T B n c).bind fun c => (compE T B n a).bind fun a => (compE T B n b).bind fun b => some (.ite c a b)
  | n + 1, .Subscript a i p => compIx T B n a i p
  | n + 1, .Tuple es _ _ => (compEs T B n es).map .tup
  | n + 1, .List es p => (compEs T B n es).map (.lst (T.isMut p))
  | _ + 1, .Dict [] [] p => some (.dnew (T.isDt p))
  | n + 1, .ListComp elt gs sc p => if B.hot then none else compLc T B n elt gs sc p
  | n + 1, .Call f es [] p => if B.hot then none else compC T B n p f es
  | _ + 1, .Attribute (.Name x _) f _ => (match B.exo with
    | some (y, i, fl) => if y = x ∧ f = fl ∧ oddName x = false ∧ B.see x = true then some (.var i) else none
    | none => none)
  | _ + 1, _ => none
def compIx (T : CT) (B : CB) : Nat → Expr → Expr → Pos → Option E
  | 0, _, _, _ => none
  | n + 1, a, .Slice lo hi none _, p => (compE T B n a).bind fun a => (compO T B n lo).bind fun lo => (compO T B n hi).bind fun hi => some (.slc (T.isMut p) a lo hi)
  | n + 1, a, i, _ => (compE T B n a).bind fun a => (compE T B n i).bind fun i => some (.idx a i)
def compCh (T : CT) (B : CB) : Nat → E → List CmpOp → List Expr → Option E
  | 0, _, _, _ => none
  | n + 1, a, [o], [b] => if behindInMarks o b then none else (compE T B n b).bind fun b => some (.cmp o a b)
  | n + 1, a, o :: o' :: os, b :: b' :: es => if os.length = es.length ∧ lastMarks (o :: o' :: os) (b :: b' :: es) = false then (compEs T B n (b :: b' :: es)).bind fun es => some (.chn a (o :: o' :: os) es) else none
  | _ + 1, _, _, _ => none
def compLc (T : CT) (B : CB) : Nat → Expr → List Comprehension → Scope → Pos → Option E
  | 0, _, _, _, _ => none
  | n + 1, elt, [⟨tg, iter, ifs, as⟩], sc, p => if as = 0 ∧ blkOk B sc (ownOf B.N sc.names) = true then (compIt T B n (isTupE tg) iter).bind fun it =>
      (compTg { B with sc := sc.names } tg).bind fun t => (compIf T { B with sc := sc.names } n ifs).bind fun f => (compE T { B with sc := sc.names } n elt).bind fun elt =>
        if tgSub ((ownOf B.N sc.names).map (·.2)) t then some (.lc (T.isMut p) elt t it f ((ownOf B.N sc.names).map (·.2))) else none
    else none
  | n + 1, elt, [⟨tg, iter, ifs, as⟩, ⟨tg1, iter1, ifs1, as1⟩], sc, p => if as = 0 ∧ as1 = 0 ∧ blkOk B sc (ownOf B.N sc.names) = true ∧ T.isMut p = false then (compIt T B n (isTupE tg) iter).bind fun it =>
      (compTg { B with sc := sc.names } tg).bind fun t => (compIf T { B with sc := sc.names } n ifs).bind fun f => (compIt T { B with sc := sc.names } n (isTupE tg1) iter1).bind fun it1 => (compTg { B with sc := sc.names } tg1).bind fun t1 => (compIf T { B with sc := sc.names } n ifs1).bind fun f1 =>
        (compE T { B with sc := sc.names } n elt).bind fun elt => if tgSub ((ownOf B.N sc.names).map (·.2)) t && tgSub ((ownOf B.N sc.names).map (·.2)) t1 then some (.lc2 elt t it f t1 it1 f1 ((ownOf B.N sc.names).map (·.2)) (tgs t1)) else none
    else none
  | _ + 1, _, _, _, _ => none
/-- a call -/
def compC (T : CT) (B : CB) : Nat → Pos → Expr → List Expr → Option E
  | 0, _, _, _ => none
  | n + 1, p, .Name x _, es => if oddName x || !B.glo x then none else match T.fn.lookup x with
    | some f => if es.isEmpty then none else (compEs T B n es).map (.call f)
    | none => if !T.isFree B x then none else compC1 T B n p x es
  | n + 1, p, .Attribute o m q, [e] => if isCall o = false ∧ (q.endLine == p.line) = true then (if m = ("append" : Str) then (compE T B n o).bind fun o => (compEs T B n [e]).map (.bm .append o) else if m = ("extend" : Str) then (compE T B n o).bind fun o => (compEs T B n [e]).map (.bm .extend o) else none) else none
  | n + 1, p, .Attribute o m q, [] => if isCall o = false ∧ (q.endLine == p.line) = true then (if m = ("bit_length" : Str) then (compE T B n o).map fun o => .bm .bits o [] else none) else none
  | _ + 1, _, _, _ => none
def compC1 (T : CT) (B : CB) : Nat → Pos → Str → List Expr → Option E
  | 0, _, _, _ => none
  | n + 1, p, x, [.Call (.Name y py) [e] [] q] => if T.isFree B y ∧ y = ("set" : Str) ∧ x = ("len" : Str) ∧ noStar e then (compE T B n e).map fun e => .bi false .lenSet [e]
      else if T.isFree B y ∧ y = ("set" : Str) ∧ x = ("sorted" : Str) ∧ noStar e then (compE T B n e).map fun e => .bi (T.isMut p) .sortedSet [e]
      else if T.isFree B y ∧ y = ("range" : Str) ∧ (x = ("list" : Str) ∨ x = ("tuple" : Str)) ∧ noStar e then (compE T B n e).map fun e => .lrg1 (T.isMut p) (decide (x = ("tuple" : Str))) e
      else compC2 T B n p x [.Call (.Name y py) [e] [] q]
  | n + 1, p, x, [.Call (.Name y py) [e, e2] [] q] => if T.isFree B y ∧ y = ("range" : Str) ∧ (x = ("list" : Str) ∨ x = ("tuple" : Str)) ∧ noStar e ∧ noStar e2 then (compE T B n e).bind fun e => (compE T B n e2).map fun e2 => .lrg2 (T.isMut p) (decide (x = ("tuple" : Str))) e e2
      else compC2 T B n p x [.Call (.Name y py) [e, e2] [] q]
  | n + 1, p, x, [e, .Name y py] => if x = ("isinstance" : Str) ∧ T.isFree B y ∧ noStar e then (compE T B n e).bind fun e => (tyTab.lookup y).map fun t => .isi e [t]
      else compC2 T B n p x [e, .Name y py]
  | n + 1, p, x, es => compC2 T B n p x es
def compC2 (T : CT) (B : CB) : Nat → Pos → Str → List Expr → Option E
  | 0, _, _, _ => none
  | n + 1, p, x, es => (biOf x es.length).bind fun b => (compEs T B n es).map (.bi (T.isMut p) b)
def compB (T : CT) (B : CB) : Nat → BoolOp → List Expr → Option E
  | 0, _, _ => none
  | n + 1, _, [a] => compE T B n a
  | n + 1, .And, a :: b :: r => (compE T B n a).bind fun a => (compB T B n .And (b :: r)).map fun b => .and a b
  | n + 1, .Or, a :: b :: r => (compE T B n a).bind fun a => (compB T B n .Or (b :: r)).map fun b => .or a b
  | _ + 1, _, [] => none
def compO (T : CT) (B : CB) : Nat → Option Expr → Option (Option E)
  | 0, _ => none
  | _ + 1, none => some none
  | n + 1, some e => (compE T B n e).map some
def compIf (T : CT) (B : CB) : Nat → List Expr → Option (Option E)
  | 0, _ => none
  | _ + 1, [] => some none
  | n + 1, [e] => (compE T B n e).map some
  | _ + 1, _ => none
def compEs (T : CT) (B : CB) : Nat → List Expr → Option (List E)
  | 0, _ => none
  | _ + 1, [] => some []
  | n + 1, e :: r => if noStar e then (compE T B n e).bind fun e => (compEs T B n r).map fun r => e :: r else none
def compIt (T : CT) (B : CB) : Nat → Bool → Expr → Option It
  | 0, _, _ => none
  | n + 1, tp, .Call (.Name x p) es [] q => if T.isFree B x ∧ x = ("range" : Str) then compRg T B n es
      else if T.isFree B x ∧ x = ("enumerate" : Str) then compEn T B n tp es
      else if T.isFree B x ∧ x = ("zip" : Str) then compZp T B n tp es
      else (compE T B n (.Call (.Name x p) es [] q)).map .seq
  | n + 1, _, e => (compE T B n e).map .seq
def compRg (T : CT) (B : CB) : Nat → List Expr → Option It
  | 0, _ => none
  | n + 1, [a] => if noStar a then (compE T B n a).map .rng1 else none
  | n + 1, [a, b] => if noStar a && noStar b then (compE T B n a).bind fun a => (compE T B n b).map fun b => .rng2 a b else none
  | n + 1, [a, b, c] => if noStar a && noStar b && noStar c then (compE T B n a).bind fun a => (compE T B n b).bind fun b => (compE T B n c).map fun c => .rng3 a b c else none
  | _ + 1, _ => none
def compEn (T : CT) (B : CB) : Nat → Bool → List Expr → Option It
  | 0, _, _ => none
  | n + 1, tp, [a] => if tp && noStar a then (compE T B n a).map .enu else none
  | _ + 1, _, _ => none
def compZp (T : CT) (B : CB) : Nat → Bool → List Expr → Option It
  | 0, _, _ => none
  | n + 1, tp, [a, b] => if tp && noStar a && noStar b then (compE T B n a).bind fun a => (compE T B n b).map fun b => .zip a b else none
  | _ + 1, _, _ => none
end
end MP
end
section
set_option Elab.async false
set_option linter.all false
set_option maxRecDepth 100000
set_option maxHeartbeats 4000000
/-! MP: the compiled expressions keep their meaning. -/
namespace MP
open PySem PySem.Spec L2
open PyProof.Rows hiding St
/-- a program with its tables -/
structure Lang where
  P : Program
  w : World
  mg : Str → Option Value
  base : Heap
  Z : Ad
  T : CT
  G : Prg
structure LOk (L : Lang) : Prop where
  free : ∀ x, L.T.free.contains x = true → L.mg x = none
  con : ∀ x v, L.T.con.lookup x = some v → ∃ u vv, L.mg x = some u ∧ RelV vv u ∧ ∀ F, VA L.Z F v vv
  ex : ∀ x c, L.T.ex.lookup x = some c → XcOk L.P L.w L.Z.K L.mg L.base L.Z c x
  tk : ∀ x cs, L.T.tk.lookup x = some cs → ∃ cv, L.mg x = some cv ∧ ∀ k b, cs[k]? = some b → PySem.W.exmOne L.Z.K (.ref (L.Z.xad k)) cv = some b
  xf : ∀ k fl, L.T.xf[k]? = some fl → L.Z.xf k = fl ∧ XfC L.Z.K (L.Z.xad k) ∧ PySem.W.findIn L.Z.K (.ref (L.Z.xad k)) fl = some none
def FnsAt (L : Lang) (k : Nat) : Prop := ∀ x f, L.T.fn.lookup x = some f → ∃ (addr : Addr) (fd : FuncData) (ps : List Str) (fI : FnI), L.mg x = some (.ref addr) ∧ PySem.W.keepIn L.Z.K (.ref addr) = true ∧ Binds L.Z.K fd ps [] ∧ L.G.fns[f]? = some fI ∧ fI.np = ps.length ∧
  FnOk L.P L.w L.Z.K L.mg L.base (L2.CX L.P L.w) (k + 2) addr fd ps (spF L.Z L.G k f ps.length)
def Lang.C (L : Lang) (k : Nat) : Ctx := ⟨L.G, runF L.G k⟩
/-- the place of a text -/
structure CBOk (L : Lang) (k : Nat) (X : Cx) (W : WX) (xo : Option Xo) (B : CB) : Prop where
  prog : X.prog = L.P
  w : X.w = L.w
  K : X.K = L.Z.K
  mg : X.mg = L.mg
  base : X.base = L.base
  N : X.N = B.N
  nd : X.N.Nodup
  kind : X.env.scope.kind = .function
  sc : ∀ x kd, B.sc.lookup x = some kd → X.env.scope.names.lookup x = some kd ∨ (kd = .free ∧ X.env.scope.names.lookup x = some .cell)
  fn : ∀ x, B.sc.lookup x = some .cell → X.fn x = true
  calm : B.hot = false → X.calm = true
  room : B.hot = false → Room (k + 2) X.A
  un : X.A.units + 65 < cLine
  tk : B.hot = false → Takes X W
  cool : B.hot = false → xo = none
  exo : ∀ o, xo = some o → ∃ x fl, B.exo = some (x, o.i, fl) ∧ X.N[o.i]? = some x ∧ ∀ m p pos, oddName x = false → B.see x = true → EOk X L.Z xo W m (.Attribute (.Name x p) fl pos) (fun env h => match env[o.i]? with
    | some (some d) => .ok d h
    | _ => .err)
  exn : B.exo ≠ none → ∃ o, xo = some o
section
variable {L : Lang} {k : Nat} {X : Cx} {W : WX} {xo : Option Xo} {B : CB}
theorem slot_ok {N : List Str} {x : Str} {i : Nat} (h : slot N x = some i) : N[i]? = some x := by
  unfold slot at h
  rw [List.findIdx?_eq_some_iff_getElem] at h
  obtain ⟨hl, h1, _⟩ := h
  rw [List.getElem?_eq_getElem hl]
  exact congrArg some (by simpa using h1)
theorem see_ok (c : CBOk L k X W xo B) {x : Str} (h : B.see x = true) : Vis X.env.scope x := by
  unfold CB.see at h
  cases e : B.sc.lookup x with
  | none => rw [e] at h; cases h
  | some kd =>
    rw [e] at h
    rcases c.sc x kd e with q | ⟨q1, q2⟩
    · cases kd <;> first | exact .inl q | exact .inr (.inl q) | exact .inr (.inr q) | cases h
    · exact .inr (.inl q2)
theorem loc_ok (c : CBOk L k X W xo B) {x : Str} (h : B.loc x = true) : Loc X.env.scope x ∧ (X.fn x = true ∨ X.env.scope.names.lookup x = some .local) := by
  unfold CB.loc at h
  cases e : B.sc.lookup x with
  | none => rw [e] at h; cases h
  | some kd =>
    rw [e] at h
    rcases c.sc x kd e with q | ⟨q1, q2⟩
    · cases kd <;> first | exact ⟨.inl q, .inr q⟩ | exact ⟨.inr q, .inl (c.fn x e)⟩ | cases h
    · subst q1; cases h
theorem glo_ok (c : CBOk L k X W xo B) {x : Str} (h : B.glo x = true) : Gl X x := by
  unfold CB.glo at h
  cases e : B.sc.lookup x with
  | none => rw [e] at h; cases h
  | some kd =>
    rw [e] at h
    rcases c.sc x kd e with q | ⟨q1, q2⟩
    · cases kd <;> first | exact q | cases h
    · subst q1; cases h
theorem free_ok (l : LOk L) (c : CBOk L k X W xo B) {x : Str} (h : L.T.isFree B x = true) : Gl X x ∧ X.mg x = none := by
  unfold CT.isFree at h
  rw [Bool.and_eq_true] at h
  exact ⟨glo_ok c h.2, by rw [c.mg]; exact l.free x h.1⟩
theorem odd_ok {x : Str} (h : oddName x = false) : (x == ("__debug__" : Str)) = false ∧ (x == ("__classdict__" : Str)) = false ∧ x ≠ "__name__" := by
  unfold oddName at h
  simp only [Bool.or_eq_false_iff] at h
  exact ⟨h.1.1, h.1.2, by simpa using h.2⟩
theorem notExo (c : CBOk L k X W xo B) {x : Str} {i : Nat} (h : B.isExo x = false) (hs : slot B.N x = some i) : ∀ o, xo = some o → i ≠ o.i := fun o ho e => by
  obtain ⟨y, fl, h1, h2, _⟩ := c.exo o ho
  have h3 := slot_ok hs
  rw [← c.N, e, h2] at h3
  unfold CB.isExo at h
  rw [h1] at h
  simp at h
  exact h (Option.some.inj h3)
/-! ### a comprehension's block -/
theorem relS_free {sc : Scope} : ∀ {names : List (Str × NameKind)} {x : Str}, names.lookup x = some .free →
    (names.map fun (n, k) => if (k == NameKind.free && sc.kind == .function && sc.names.lookup n == some .cell) then (n, NameKind.cell) else (n, k)).lookup x = some .free ∨ (names.map fun (n, k) => if (k == NameKind.free && sc.kind == .function && sc.names.lookup n == some .cell) then (n, NameKind.cell) else (n, k)).lookup x = some .cell
  | [], _, h => by simp at h
  | (n, k₀) :: r, x, h => by
    have ih := @relS_free sc r x
    rw [List.map_cons]
    cases hx : x == n with
    | true =>
      simp only [List.lookup_cons, hx] at h
      cases h
      by_cases hc : (NameKind.free == NameKind.free && sc.kind == .function && sc.names.lookup n == some .cell) = true
      · right
        simp only [if_pos hc, List.lookup_cons, hx]
      · left
        simp only [if_neg hc, List.lookup_cons, hx]
    | false =>
      simp only [List.lookup_cons, hx] at h
      have nx : ∀ q : NameKind, List.lookup x ((if (k₀ == NameKind.free && sc.kind == .function && sc.names.lookup n == some .cell) = true then (n, NameKind.cell) else (n, k₀)) :: (r.map fun (n, k) => if (k == NameKind.free && sc.kind == .function && sc.names.lookup n == some .cell) then (n, NameKind.cell) else (n, k))) = some q ↔ List.lookup x (r.map fun (n, k) => if (k == NameKind.free && sc.kind == .function && sc.names.lookup n == some .cell) then (n, NameKind.cell) else (n, k)) = some q := fun q => by
        split <;> simp only [List.lookup_cons, hx]
      rcases ih h with q | q
      · exact .inl ((nx _).mpr q)
      · exact .inr ((nx _).mpr q)
theorem blk_ok (c : CBOk L k X W xo B) (hh : B.hot = false) {sc : Scope} (h : blkOk B sc (ownOf B.N sc.names) = true) : BlkOk X.N X.env.scope sc (ownOf B.N sc.names) ∧
    ∀ (s : Shared) (H : Hp) (C : Addr) (cl : List (Str × Addr)) (fp : List Addr), CBOk L k (X.blk s H sc (compEnvC sc cl C X.env) fp) W0 none { B with sc := sc.names } := by
  unfold blkOk at h
  simp only [Bool.and_eq_true, List.all_eq_true, decide_eq_true_eq] at h
  obtain ⟨⟨⟨h1, h2⟩, h3⟩, h4⟩ := h
  have hk : sc.kind = .function := by
    cases e : sc.kind <;> first | rfl | (rw [e] at h1; cases h1)
  refine ⟨⟨hk, h2, fun p hp => by rw [c.N]; exact h3 p hp, fun y hy e => ?_, fun y hy e => ?_⟩, fun s H C cl fp => ?_⟩
  · have q := h4 y hy
    simp only [e] at q
    cases e2 : B.sc.lookup y.1 with
    | none => rw [e2] at q; cases q
    | some kd =>
      rw [e2] at q
      rcases c.sc y.1 kd e2 with z | ⟨_, z⟩
      · cases kd <;> first | exact .inl z | exact .inr z | cases q
      · exact .inl z
  · have q := h4 y hy
    rw [c.N]
    rcases e with e | e <;> (simp only [e, Bool.or_eq_true, decide_eq_true_eq] at q; exact q)
  · refine ⟨c.prog, c.w, c.K, c.mg, c.base, c.N, c.nd, hk, fun x kd e => ?_, fun x e => ?_, fun _ => c.calm hh, fun _ => c.room hh, c.un, fun _ => ?_, fun _ => rfl, fun o z => (nomatch z), fun z => ?_⟩
    · show (relS sc X.env.scope).names.lookup x = some kd ∨ _
      by_cases hkd : kd = .free
      · subst hkd
        rcases relS_free (sc := X.env.scope) (names := sc.names) e with q | q
        · exact .inl q
        · exact .inr ⟨rfl, q⟩
      · exact .inl (lookup_relS_keep hkd e)
    · show (sc.names.lookup x == some .cell) = true
      rw [show sc.names.lookup x = some .cell from e]
      rfl
    · exact fun u s' ⟨_, _, _, _, _, _, _, _, _, _, _, _, _, _, _, _, w⟩ => w.elim
    · have := c.cool hh
      obtain ⟨o, ho⟩ := c.exn z
      rw [this] at ho
      cases ho
theorem nms_ok (c : CBOk L k X W xo B) (hx : xo = none) : ∀ {es : List Expr} {is : List Nat}, compNms B es = some is → Nms X none es is
  | [], is, h => by cases h; exact .nil
  | e :: es, is, h => by
    cases e with
    | Name x p =>
      simp only [compNms] at h
      split at h
      · rename_i hl
        obtain ⟨i, hi, h⟩ := Option.bind_eq_some_iff.mp h
        obtain ⟨js, hj, h⟩ := Option.bind_eq_some_iff.mp h
        cases h
        obtain ⟨q1, q2⟩ := loc_ok c hl
        exact .cons (by rw [c.N]; exact slot_ok hi) q1 q2 (fun _ z => nomatch z) (nms_ok c hx hj)
      · cases h
    | _ => simp [compNms] at h
theorem tg_ok (c : CBOk L k X W xo B) (hh : B.hot = false) {m : Nat} {tg : Expr} {t : Tg} (h : compTg B tg = some t) : PG X tg (tTg L.Z none m t) := by
  cases tg with
  | Name x p =>
    simp only [compTg] at h
    split at h
    · rename_i hl
      obtain ⟨i, hi, h⟩ := Option.map_eq_some_iff.mp h
      subst h
      obtain ⟨q1, q2⟩ := loc_ok c hl
      exact tg_nm c.nd (by rw [c.N]; exact slot_ok hi) q1 q2 (fun _ z => nomatch z)
    · cases h
  | Tuple es kk p =>
    simp only [compTg] at h
    obtain ⟨is, hi, h⟩ := Option.map_eq_some_iff.mp h
    subst h
    exact tg_tp c.K (c.calm hh) c.nd (nms_ok c (c.cool hh) hi)
  | _ => simp [compTg] at h
theorem PTs.imp {X : Cx} {ifs : List Expr} {t t' : TT} (h : PTs X ifs t) (k : ∀ σ H Q, t' σ H Q → t σ H Q) : PTs X ifs t' := ⟨fun pins s σ H Q I w => h.run pins s σ H Q I (k σ H Q w)⟩
theorem star_of {e : Expr} (h : noStar e = true) : ∀ b p, e ≠ .Starred b p := fun b p z => by subst z; cases h
/-- arguments, one by one -/
inductive EsR (L : Lang) (k : Nat) (X : Cx) (W : WX) (xo : Option Xo) (m : Nat) : List Expr → List E → Prop
  | nil : EsR L k X W xo m [] []
  | cons {e : Expr} {ir : E} {es : List Expr} {irs : List E} (h : EOk X L.Z xo W m e (ev (L.C k) ir)) (hs : noStar e = true) (r : EsR L k X W xo m es irs) : EsR L k X W xo m (e :: es) (ir :: irs)
theorem EsR.len {m : Nat} : ∀ {es : List Expr} {irs : List E}, EsR L k X W xo m es irs → es.length = irs.length
  | _, _, .nil => rfl
  | _, _, .cons _ _ r => congrArg (· + 1) r.len
theorem EsR.aok {m : Nat} : ∀ {es : List Expr} {irs : List E}, EsR L k X W xo m es irs → AOk X L.Z xo W m es (evs (L.C k) irs)
  | _, _, .nil => AOk.nil
  | _, _, .cons h hs r => AOk.cons h r.aok (star_of hs)
theorem EsR.chn {m : Nat} (c : CBOk L k X W xo B) : ∀ {es : List Expr} {irs : List E} {os : List CmpOp}, EsR L k X W xo m es irs → os.length = es.length → es ≠ [] → ChOk X L.Z xo W m os es (fun env x h => evc (L.C k) os irs env x h)
  | _, _, _, .nil, _, h => absurd rfl h
  | _, _, [], .cons _ _ _, hl, _ => by simp at hl
  | _, _, o :: os, .cons (irs := irs) h hs r, hl, _ => by
    cases r with
    | nil =>
      cases os with
      | nil => exact ChOk.one c.K c.un h
      | cons _ _ => simp at hl
    | cons h2 hs2 r2 =>
      cases os with
      | nil => simp at hl
      | cons o' os => exact ChOk.more c.K c.un h (EsR.chn c (.cons h2 hs2 r2) (by simpa using hl) (by simp))
theorem fs_of {n : Nat} {e : Expr} {ir : E} (h : compE L.T B n e = some ir) : ∀ env x, foldedSetIterable e env x = pure x := by
  intro env x
  cases e with
  | Set es kk p => cases n <;> simp [compE] at h
  | _ => rfl
theorem notStar {n : Nat} {e : Expr} {ir : E} (h : compE L.T B n e = some ir) : noStar e = true := by
  cases e with
  | Starred a p => cases n <;> simp [compE] at h
  | _ => rfl
theorem notSlice {n : Nat} {e : Expr} {ir : E} (h : compE L.T B n e = some ir) : ∀ l u s p, e ≠ .Slice l u s p := fun l u s p z => by
  subst z
  cases n <;> simp [compE] at h
theorem it_fs {n : Nat} {tp : Bool} {e : Expr} {ir : It} (h : compIt L.T B n tp e = some ir) : ∀ env x, foldedSetIterable e env x = pure x := by
  intro env x
  cases e with
  | Set es kk p =>
    cases n with
    | zero => simp [compIt] at h
    | succ n =>
      simp only [compIt] at h
      obtain ⟨y, hy, _⟩ := Option.map_eq_some_iff.mp h
      exact fs_of hy env x
  | _ => rfl
/-- what one fuel's texts promise -/
structure Snd (L : Lang) (k n : Nat) : Prop where
  e : ∀ {X W xo B m e ir}, CBOk L k X W xo B → compE L.T B n e = some ir → EOk X L.Z xo W m e (ev (L.C k) ir)
  ix : ∀ {X W xo B m a i p ir}, CBOk L k X W xo B → compIx L.T B n a i p = some ir → EOk X L.Z xo W m (.Subscript a i p) (ev (L.C k) ir)
  ch : ∀ {X W xo B m a ea os es p ir}, CBOk L k X W xo B → EOk X L.Z xo W m a (ev (L.C k) ea) → compCh L.T B n ea os es = some ir → EOk X L.Z xo W m (.Compare a os es p) (ev (L.C k) ir)
  lc : ∀ {X W xo B m elt gs sc p ir}, CBOk L k X W xo B → B.hot = false → compLc L.T B n elt gs sc p = some ir → EOk X L.Z xo W m (.ListComp elt gs sc p) (ev (L.C k) ir)
  c : ∀ {X W xo B m p f es ir}, CBOk L k X W xo B → B.hot = false → compC L.T B n p f es = some ir → EOk X L.Z xo W m (.Call f es [] p) (ev (L.C k) ir)
  c1 : ∀ {X W xo B m p x px es ir}, CBOk L k X W xo B → B.hot = false → L.T.isFree B x = true → compC1 L.T B n p x es = some ir → EOk X L.Z xo W m (.Call (.Name x px) es [] p) (ev (L.C k) ir)
  c2 : ∀ {X W xo B m p x px es ir}, CBOk L k X W xo B → B.hot = false → L.T.isFree B x = true → compC2 L.T B n p x es = some ir → EOk X L.Z xo W m (.Call (.Name x px) es [] p) (ev (L.C k) ir)
  b : ∀ {X W xo B m o es p ir}, CBOk L k X W xo B → compB L.T B n o es = some ir → BOk X L.Z xo W m (.BoolOp o es p) (ev (L.C k) ir)
  o : ∀ {X W xo B m e ir}, CBOk L k X W xo B → compO L.T B n e = some ir → POk X L.Z xo W m e (evo (L.C k) ir)
  f : ∀ {X W xo B m e ir}, CBOk L k X W xo B → compIf L.T B n e = some ir → PTs X e (tG L.Z xo W m relB (evf (L.C k) ir))
  es : ∀ {X W xo B m e ir}, CBOk L k X W xo B → compEs L.T B n e = some ir → EsR L k X W xo m e ir
  it : ∀ {X W xo B m e ir tp tg}, CBOk L k X W xo B → B.hot = false → (tp = true → isTupE tg = true) → compIt L.T B n tp e = some ir → IOk X L.Z xo W m tg e (evIt (L.C k) ir)
  rg : ∀ {X W xo B m es ir tg p q}, CBOk L k X W xo B → B.hot = false → L.T.isFree B "range" = true → compRg L.T B n es = some ir → IOk X L.Z xo W m tg (.Call (.Name "range" p) es [] q) (evIt (L.C k) ir)
  en : ∀ {X W xo B m es ir tp tg p q}, CBOk L k X W xo B → B.hot = false → (tp = true → isTupE tg = true) → L.T.isFree B "enumerate" = true → compEn L.T B n tp es = some ir → IOk X L.Z xo W m tg (.Call (.Name "enumerate" p) es [] q) (evIt (L.C k) ir)
  zp : ∀ {X W xo B m es ir tp tg p q}, CBOk L k X W xo B → B.hot = false → (tp = true → isTupE tg = true) → L.T.isFree B "zip" = true → compZp L.T B n tp es = some ir → IOk X L.Z xo W m tg (.Call (.Name "zip" p) es [] q) (evIt (L.C k) ir)
theorem strOk {s : Str} (h : strOkB s = true) : OkS s := by
  unfold strOkB at h
  simp only [Bool.and_eq_true, decide_eq_true_eq] at h
  have : (1000 : Nat) ≤ sizeLine := by decide
  exact ⟨h.1, by omega⟩
/-- the parts of a comprehension of one clause -/
theorem lc_parts {n m : Nat} {elt tg iter : Expr} {ifs : List Expr} {sc : Scope} {p : Pos} {ir : E} (S : Snd L k n) (c : CBOk L k X W none B) (hh : B.hot = false) {as : Int} (h : compLc L.T B (n + 1) elt [⟨tg, iter, ifs, as⟩] sc p = some ir) :
    as = 0 ∧ ∃ mm fi ff fe t, ev (L.C k) ir = lcF mm t ((ownOf B.N sc.names).map (·.2)) fi ff fe ∧ IOk X L.Z none W m tg iter fi ∧ Lc1 X L.Z m sc (ownOf B.N sc.names) tg elt ifs t ff fe := by
  simp only [compLc] at h
  split at h
  · rename_i hb
    obtain ⟨it, hi, h⟩ := Option.bind_eq_some_iff.mp h
    obtain ⟨t, ht, h⟩ := Option.bind_eq_some_iff.mp h
    obtain ⟨f, hf, h⟩ := Option.bind_eq_some_iff.mp h
    obtain ⟨el, he, h⟩ := Option.bind_eq_some_iff.mp h
    split at h
    · rename_i hs
      cases h
      obtain ⟨b1, b2⟩ := blk_ok c hh hb.2
      refine ⟨hb.1, L.T.isMut p, evIt (L.C k) it, evf (L.C k) f, ev (L.C k) el, t, rfl, S.it c hh (fun z => z) hi, ⟨b1, fun j hj => ?_, fun s H C cl fp => tg_ok (b2 s H C cl fp) hh ht, fun s H C cl fp => S.f (b2 s H C cl fp) hf, fun s H C cl fp => (S.e (b2 s H C cl fp) he).pe⟩⟩
      cases t with
      | nm i =>
        rw [List.mem_singleton.mp hj]
        simpa [tgSub] using hs
      | tp is =>
        have := (List.all_eq_true.mp hs) j hj
        simpa using this
    · cases h
  · cases h
theorem lc2_parts {n m : Nat} {elt tg iter tg1 iter1 : Expr} {ifs ifs1 : List Expr} {sc : Scope} {p : Pos} {ir : E} (S : Snd L k n) (c : CBOk L k X W none B) (hh : B.hot = false) {as as1 : Int} (h : compLc L.T B (n + 1) elt [⟨tg, iter, ifs, as⟩, ⟨tg1, iter1, ifs1, as1⟩] sc p = some ir) :
    as = 0 ∧ as1 = 0 ∧ ∃ fi ff fe t fi1 ff1 t1, ev (L.C k) ir = lc2F false t t1 ((ownOf B.N sc.names).map (·.2)) (tgs t1) fi fi1 ff ff1 fe ∧ IOk X L.Z none W m tg iter fi ∧ Lc2 X L.Z m sc (ownOf B.N sc.names) tg elt tg1 iter1 ifs ifs1 t t1 ff ff1 fi1 fe := by
  simp only [compLc] at h
  split at h
  · rename_i hb
    obtain ⟨it, hi, h⟩ := Option.bind_eq_some_iff.mp h
    obtain ⟨t, ht, h⟩ := Option.bind_eq_some_iff.mp h
    obtain ⟨f, hf, h⟩ := Option.bind_eq_some_iff.mp h
    obtain ⟨it1, hi1, h⟩ := Option.bind_eq_some_iff.mp h
    obtain ⟨t1, ht1, h⟩ := Option.bind_eq_some_iff.mp h
    obtain ⟨f1, hf1, h⟩ := Option.bind_eq_some_iff.mp h
    obtain ⟨el, he, h⟩ := Option.bind_eq_some_iff.mp h
    split at h
    · rename_i hs
      cases h
      rw [Bool.and_eq_true] at hs
      obtain ⟨b1, b2⟩ := blk_ok c hh hb.2.2.1
      have sub : ∀ {t : Tg}, tgSub ((ownOf B.N sc.names).map (·.2)) t = true → ∀ j ∈ tgs t, j ∈ (ownOf B.N sc.names).map (·.2) := fun {t} hs j hj => by
        cases t with
        | nm i =>
          rw [List.mem_singleton.mp hj]
          simpa [tgSub] using hs
        | tp is =>
          have := (List.all_eq_true.mp hs) j hj
          simpa using this
      refine ⟨hb.1, hb.2.1, evIt (L.C k) it, evf (L.C k) f, ev (L.C k) el, t, evIt (L.C k) it1, evf (L.C k) f1, t1, rfl, S.it c hh (fun z => z) hi, ⟨⟨b1, sub hs.1, fun s H C cl fp => tg_ok (b2 s H C cl fp) hh ht, fun s H C cl fp => S.f (b2 s H C cl fp) hf, fun s H C cl fp => (S.e (b2 s H C cl fp) he).pe⟩, sub hs.2, fun s H C cl fp => tg_ok (b2 s H C cl fp) hh ht1, fun s H C cl fp => S.f (b2 s H C cl fp) hf1, fun s H C cl fp => (S.it (b2 s H C cl fp) hh (fun z => z) hi1).pi, ?_⟩⟩
      exact it_fs hi1
    · cases h
  · cases h
theorem snd_zero : Snd L k 0 where
  e := fun _ h => by simp [compE] at h
  ix := fun _ h => by simp [compIx] at h
  ch := fun _ _ h => by simp [compCh] at h
  lc := fun _ _ h => by simp [compLc] at h
  c := fun _ _ h => by simp [compC] at h
  c1 := fun _ _ _ h => by simp [compC1] at h
  c2 := fun _ _ _ h => by simp [compC2] at h
  b := fun _ h => by simp [compB] at h
  o := fun _ h => by simp [compO] at h
  f := fun _ h => by simp [compIf] at h
  es := fun _ h => by simp [compEs] at h
  it := fun _ _ _ h => by simp [compIt] at h
  rg := fun _ _ _ h => by simp [compRg] at h
  en := fun _ _ _ _ h => by simp [compEn] at h
  zp := fun _ _ _ _ h => by simp [compZp] at h
theorem snd_e (l : LOk L) {n : Nat} (S : Snd L k n) : ∀ {X W xo B m e ir}, CBOk L k X W xo B → compE L.T B (n + 1) e = some ir → EOk X L.Z xo W m e (ev (L.C k) ir) := by
  intro X W xo B m e ir c h
  cases e with
  | Constant kk j p =>
    cases kk with
    | none =>
      simp only [compE] at h
      cases h
      exact EOk.of c.K (e_cst pe_non fun F => .non) fun _ => rfl
    | bool b =>
      simp only [compE] at h
      cases h
      exact EOk.of c.K (e_cst pe_bl fun F => .bl _) fun _ => rfl
    | int i =>
      simp only [compE] at h
      cases h
      exact EOk.of c.K (e_cst pe_int fun F => .int _) fun _ => rfl
    | str s =>
      simp only [compE] at h
      split at h
      · rename_i hs
        cases h
        exact EOk.of c.K (e_cst pe_str fun F => .str _ (strOk hs)) fun _ => rfl
      · cases h
    | _ => simp [compE] at h
  | Name x p =>
    simp only [compE] at h
    split at h
    · cases h
    · rename_i hx
      simp only [Bool.or_eq_true, not_or, Bool.not_eq_true] at hx
      obtain ⟨o1, o2, o3⟩ := odd_ok hx.1
      split at h
      · rename_i hs
        obtain ⟨i, hi, h⟩ := Option.map_eq_some_iff.mp h
        subst h
        exact EOk.of c.K (e_var (pe_var (by rw [c.N]; exact slot_ok hi) (see_ok c hs) o1 o2) (notExo c hx.2 hi)) fun _ => rfl
      · split at h
        · rename_i hg
          obtain ⟨v, hv, h⟩ := Option.map_eq_some_iff.mp h
          subst h
          obtain ⟨u, vv, h1, h2, h3⟩ := l.con _ _ hv
          exact EOk.of c.K (e_cst (pe_glob (glo_ok c hg) (by rw [c.mg]; exact h1) h2 o1) h3) fun _ => rfl
        · cases h
  | BinOp a o b p =>
    simp only [compE] at h
    split at h
    · obtain ⟨ia, ha, h⟩ := Option.bind_eq_some_iff.mp h
      obtain ⟨ib, hb, h⟩ := Option.bind_eq_some_iff.mp h
      cases h
      exact EOk.of c.K (e_bin c.K (S.e c ha).pe (S.e c hb).pe) fun _ => rfl
    · cases h
  | UnaryOp o a p =>
    cases o with
    | Not =>
      simp only [compE] at h
      obtain ⟨ia, ha, h⟩ := Option.map_eq_some_iff.mp h
      subst h
      exact EOk.not c.K (S.e c ha)
    | USub =>
      simp only [compE] at h
      obtain ⟨ia, ha, h⟩ := Option.map_eq_some_iff.mp h
      subst h
      exact EOk.of c.K (e_neg (S.e c ha).pe) fun _ => rfl
    | _ => simp [compE] at h
  | BoolOp o es p =>
    simp only [compE] at h
    exact (S.b c h).eok
  | Compare a os es p =>
    simp only [compE] at h
    obtain ⟨ia, ha, h⟩ := Option.bind_eq_some_iff.mp h
    exact S.ch c (S.e c ha) h
  | IfExp t a b p =>
    simp only [compE] at h
    obtain ⟨it, ht, h⟩ := Option.bind_eq_some_iff.mp h
    obtain ⟨ia, ha, h⟩ := Option.bind_eq_some_iff.mp h
    obtain ⟨ib, hb, h⟩ := Option.bind_eq_some_iff.mp h
    cases h
    exact EOk.ite (S.e c ht) (S.e c ha) (S.e c hb)
  | Subscript a i p =>
    simp only [compE] at h
    exact S.ix c h
  | Tuple es kk p =>
    simp only [compE] at h
    obtain ⟨is, hs, h⟩ := Option.map_eq_some_iff.mp h
    subst h
    exact EOk.tup c.K (S.es c hs).aok
  | List es p =>
    simp only [compE] at h
    obtain ⟨is, hs, h⟩ := Option.map_eq_some_iff.mp h
    subst h
    exact EOk.lst c.K (S.es c hs).aok
  | Dict ks vs p =>
    cases ks with
    | nil =>
      cases vs with
      | nil =>
        simp only [compE] at h
        cases h
        exact EOk.of c.K e_dnew fun _ => rfl
      | cons _ _ => simp [compE] at h
    | cons _ _ => simp [compE] at h
  | ListComp elt gs sc p =>
    simp only [compE] at h
    split at h
    · cases h
    · rename_i hh
      exact S.lc c (by simpa using hh) h
  | Call f es ks p =>
    cases ks with
    | cons _ _ => simp [compE] at h
    | nil =>
      simp only [compE] at h
      split at h
      · cases h
      · rename_i hh
        exact S.c c (by simpa using hh) h
  | Attribute o f p =>
    cases o with
    | Name x q =>
      simp only [compE] at h
      split at h
      · rename_i y i fl he
        split at h
        · rename_i hq
          obtain ⟨h1, h2, h3, h4⟩ := hq
          subst h1 h2
          cases h
          obtain ⟨o, ho⟩ := c.exn (by rw [he]; simp)
          obtain ⟨y', fl', e1, e2, e3⟩ := c.exo o ho
          rw [he] at e1
          cases e1
          exact e3 m q p h3 h4
        · cases h
      · cases h
    | _ => simp [compE] at h
  | _ => simp [compE] at h
theorem snd_ix (l : LOk L) {n : Nat} (S : Snd L k n) : ∀ {X W xo B m a i p ir}, CBOk L k X W xo B → compIx L.T B (n + 1) a i p = some ir → EOk X L.Z xo W m (.Subscript a i p) (ev (L.C k) ir) := by
  intro X W xo B m a i p ir c h
  have plain : ∀ {ir : E}, ((compE L.T B n a).bind fun a => (compE L.T B n i).bind fun i => some (.idx a i)) = some ir → EOk X L.Z xo W m (.Subscript a i p) (ev (L.C k) ir) := fun {ir} h => by
    obtain ⟨ia, ha, h⟩ := Option.bind_eq_some_iff.mp h
    obtain ⟨ii, hi, h⟩ := Option.bind_eq_some_iff.mp h
    cases h
    exact EOk.idx c.K c.un (S.e c ha) (S.e c hi) (fun l h p => notSlice hi l h none p)
  cases i with
  | Slice lo hi st q =>
    cases st with
    | some st => simp only [compIx] at h; exact plain h
    | none =>
      simp only [compIx] at h
      obtain ⟨ia, ha, h⟩ := Option.bind_eq_some_iff.mp h
      obtain ⟨il, hl, h⟩ := Option.bind_eq_some_iff.mp h
      obtain ⟨ih, hh, h⟩ := Option.bind_eq_some_iff.mp h
      cases h
      exact EOk.slc c.K (S.e c ha) (S.o c hl) (S.o c hh)
  | _ => simp only [compIx] at h; exact plain h
theorem snd_ch {n : Nat} (S : Snd L k n) : ∀ {X W xo B m a ea os es p ir}, CBOk L k X W xo B → EOk X L.Z xo W m a (ev (L.C k) ea) → compCh L.T B (n + 1) ea os es = some ir → EOk X L.Z xo W m (.Compare a os es p) (ev (L.C k) ir) := by
  intro X W xo B m a ea os es p ir c he h
  cases os with
  | nil => simp [compCh] at h
  | cons o os =>
    cases os with
    | nil =>
      cases es with
      | nil => simp [compCh] at h
      | cons b es =>
        cases es with
        | cons _ _ => simp [compCh] at h
        | nil =>
          simp only [compCh] at h
          split at h
          · cases h
          · rename_i hm
            obtain ⟨ib, hb, h⟩ := Option.bind_eq_some_iff.mp h
            cases h
            exact EOk.cmp c.K c.un he (S.e c hb) (by simpa using hm)
    | cons o' os =>
      cases es with
      | nil => simp [compCh] at h
      | cons b es =>
        cases es with
        | nil => simp [compCh] at h
        | cons b' es =>
          simp only [compCh] at h
          split at h
          · rename_i hm
            obtain ⟨is, hs, h⟩ := Option.bind_eq_some_iff.mp h
            cases h
            exact EOk.chn he (EsR.chn c (S.es c hs) (by simp [hm.1]) (by simp)) hm.2
          · cases h
theorem snd_lc {n : Nat} (S : Snd L k n) : ∀ {X W xo B m elt gs sc p ir}, CBOk L k X W xo B → B.hot = false → compLc L.T B (n + 1) elt gs sc p = some ir → EOk X L.Z xo W m (.ListComp elt gs sc p) (ev (L.C k) ir) := by
  intro X W xo B m elt gs sc p ir c hh h
  have hx := c.cool hh
  subst hx
  cases gs with
  | nil => simp [compLc] at h
  | cons g gs =>
    obtain ⟨tg, iter, ifs, as⟩ := g
    cases gs with
    | nil =>
      obtain ⟨e0, mm, fi, ff, fe, t, e1, e2, e3⟩ := lc_parts (m := m) S c hh h
      subst e0
      rw [e1]
      exact EOk.lc c.K (c.calm hh) c.nd e2 e3
    | cons g gs =>
      obtain ⟨tg1, iter1, ifs1, as1⟩ := g
      cases gs with
      | cons _ _ => simp [compLc] at h
      | nil =>
        obtain ⟨e0, e01, fi, ff, fe, t, fi1, ff1, t1, e1, e2, e3⟩ := lc2_parts (m := m) S c hh h
        subst e0 e01
        rw [e1]
        exact EOk.lc2 c.K (c.calm hh) c.nd e2 e3
theorem snd_c (l : LOk L) (F : FnsAt L k) {n : Nat} (S : Snd L k n) : ∀ {X W xo B m p f es ir}, CBOk L k X W xo B → B.hot = false → compC L.T B (n + 1) p f es = some ir → EOk X L.Z xo W m (.Call f es [] p) (ev (L.C k) ir) := by
  intro X W xo B m p f es ir c hh h
  cases f with
  | Name x px =>
    simp only [compC] at h
    split at h
    · cases h
    · rename_i hx
      simp only [Bool.or_eq_true, Bool.not_eq_true', not_or, Bool.not_eq_true, Bool.not_eq_false] at hx
      obtain ⟨o1, o2, o3⟩ := odd_ok hx.1
      split at h
      · rename_i fi hf
        split at h
        · cases h
        · rename_i hne
          obtain ⟨is, hs, h⟩ := Option.map_eq_some_iff.mp h
          subst h
          obtain ⟨addr, fd, ps, fI, h1, h2, h3, h4, h5, h6⟩ := F x fi hf
          have hP := c.prog; have hw := c.w; have hb := c.base; have hK := c.K; have hm := c.mg
          exact EOk.call hK (by rw [hP, hw, hK, hm, hb]; exact h6) (c.room hh) (glo_ok c hx.2) (by rw [hm]; exact h1) (by rw [hK]; exact h2) (by rw [hK]; exact h3) (c.tk hh) (S.es c hs).aok o1 (by intro z; rw [z] at hne; simp at hne) h4 h5
      · split at h
        · cases h
        · rename_i hfree
          exact S.c1 c hh (by simpa using hfree) h
  | Attribute o mm q =>
    cases es with
    | nil =>
      simp only [compC] at h
      split at h
      · rename_i hq
        split at h
        · rename_i hm
          subst hm
          obtain ⟨io, ho, h⟩ := Option.map_eq_some_iff.mp h
          subst h
          exact EOk.bits c.K (S.e c ho) hq.1 hq.2
        · cases h
      · cases h
    | cons e es =>
      cases es with
      | cons _ _ => simp [compC] at h
      | nil =>
        simp only [compC] at h
        split at h
        · rename_i hq
          split at h
          · rename_i hm
            subst hm
            obtain ⟨io, ho, h⟩ := Option.bind_eq_some_iff.mp h
            obtain ⟨is, hs, h⟩ := Option.map_eq_some_iff.mp h
            subst h
            exact EOk.append c.K (S.e c ho) (S.es c hs).aok hq.1 hq.2
          · split at h
            · rename_i hm
              subst hm
              obtain ⟨io, ho, h⟩ := Option.bind_eq_some_iff.mp h
              obtain ⟨is, hs, h⟩ := Option.map_eq_some_iff.mp h
              subst h
              exact EOk.extend c.K (S.e c ho) (S.es c hs).aok hq.1 hq.2
            · cases h
        · cases h
  | _ => simp [compC] at h
theorem snd_c2 (l : LOk L) {n : Nat} (S : Snd L k n) : ∀ {X W xo B m p x px es ir}, CBOk L k X W xo B → B.hot = false → L.T.isFree B x = true → compC2 L.T B (n + 1) p x es = some ir → EOk X L.Z xo W m (.Call (.Name x px) es [] p) (ev (L.C k) ir) := by
  intro X W xo B m p x px es ir c hh hx h
  simp only [compC2] at h
  obtain ⟨b, hb, h⟩ := Option.bind_eq_some_iff.mp h
  obtain ⟨is, hs, h⟩ := Option.map_eq_some_iff.mp h
  subst h
  obtain ⟨h1, h2⟩ := free_ok l c hx
  exact EOk.bi c.K (c.calm hh) c.un hb h1 h2 (S.es c hs).aok
theorem lt_of {x : Str} (h : x = ("list" : Str) ∨ x = ("tuple" : Str)) : x = if decide (x = ("tuple" : Str)) then "tuple" else "list" := by
  rcases h with h | h <;> (subst h; decide +kernel)
theorem snd_c1 (l : LOk L) {n : Nat} (S : Snd L k n) : ∀ {X W xo B m p x px es ir}, CBOk L k X W xo B → B.hot = false → L.T.isFree B x = true → compC1 L.T B (n + 1) p x es = some ir → EOk X L.Z xo W m (.Call (.Name x px) es [] p) (ev (L.C k) ir) := by
  intro X W xo B m p x px es ir c hh hx h
  obtain ⟨f1, f2⟩ := free_ok l c hx
  unfold compC1 at h
  split at h
  · cases h
  · rename_i n' y py e q heq
    cases heq
    split at h
    · rename_i hq
      obtain ⟨q1, q2, q3, q4⟩ := hq
      subst q2 q3
      obtain ⟨ie, he, h⟩ := Option.map_eq_some_iff.mp h
      subst h
      obtain ⟨g1, g2⟩ := free_ok l c q1
      exact EOk.lenSet c.K (c.calm hh) f1 f2 g1 g2 (S.e c he) (star_of q4)
    · split at h
      · rename_i hq
        obtain ⟨q1, q2, q3, q4⟩ := hq
        subst q2 q3
        obtain ⟨ie, he, h⟩ := Option.map_eq_some_iff.mp h
        subst h
        obtain ⟨g1, g2⟩ := free_ok l c q1
        exact EOk.sortedSet c.K (c.calm hh) f1 f2 g1 g2 (S.e c he) (star_of q4)
      · split at h
        · rename_i hq
          obtain ⟨q1, q2, q3, q4⟩ := hq
          subst q2
          obtain ⟨ie, he, h⟩ := Option.map_eq_some_iff.mp h
          subst h
          obtain ⟨g1, g2⟩ := free_ok l c q1
          exact EOk.lrg1 c.K (c.calm hh) (lt_of q3) f1 f2 g1 g2 (S.e c he) (star_of q4)
        · exact S.c2 c hh hx h
  · rename_i n' y py e e2 q heq
    cases heq
    split at h
    · rename_i hq
      obtain ⟨q1, q2, q3, q4, q5⟩ := hq
      subst q2
      obtain ⟨ie, he, h⟩ := Option.bind_eq_some_iff.mp h
      obtain ⟨ie2, he2, h⟩ := Option.map_eq_some_iff.mp h
      subst h
      obtain ⟨g1, g2⟩ := free_ok l c q1
      exact EOk.lrg2 c.K (c.calm hh) (lt_of q3) f1 f2 g1 g2 (S.e c he) (S.e c he2) (star_of q4) (star_of q5)
    · exact S.c2 c hh hx h
  · rename_i n' e y py heq
    cases heq
    split at h
    · rename_i hq
      obtain ⟨q1, q2, q3⟩ := hq
      subst q1
      obtain ⟨ie, he, h⟩ := Option.bind_eq_some_iff.mp h
      obtain ⟨t, ht, h⟩ := Option.map_eq_some_iff.mp h
      subst h
      obtain ⟨g1, g2⟩ := free_ok l c q2
      exact EOk.isi c.K f1 f2 g1 g2 (PySem.mem_of_lookup ht) (S.e c he) (star_of q3)
    · exact S.c2 c hh hx h
  · rename_i heq _ _ _
    cases heq
    exact S.c2 c hh hx h
theorem snd_b {n : Nat} (S : Snd L k n) : ∀ {X W xo B m o es p ir}, CBOk L k X W xo B → compB L.T B (n + 1) o es = some ir → BOk X L.Z xo W m (.BoolOp o es p) (ev (L.C k) ir) := by
  intro X W xo B m o es p ir c h
  cases es with
  | nil => cases o <;> simp [compB] at h
  | cons a es =>
    cases es with
    | nil =>
      have h : compE L.T B n a = some ir := by cases o <;> (simp only [compB] at h; exact h)
      exact BOk.one (S.e c h)
    | cons b es =>
      cases o with
      | And =>
        simp only [compB] at h
        obtain ⟨ia, ha, h⟩ := Option.bind_eq_some_iff.mp h
        obtain ⟨ib, hb, h⟩ := Option.map_eq_some_iff.mp h
        subst h
        exact BOk.and c.K (S.e c ha) (S.b c hb)
      | Or =>
        simp only [compB] at h
        obtain ⟨ia, ha, h⟩ := Option.bind_eq_some_iff.mp h
        obtain ⟨ib, hb, h⟩ := Option.map_eq_some_iff.mp h
        subst h
        exact BOk.or c.K (S.e c ha) (S.b c hb)
theorem snd_o {n : Nat} (S : Snd L k n) : ∀ {X W xo B m e ir}, CBOk L k X W xo B → compO L.T B (n + 1) e = some ir → POk X L.Z xo W m e (evo (L.C k) ir) := by
  intro X W xo B m e ir c h
  cases e with
  | none =>
    simp only [compO] at h
    cases h
    exact POk.none
  | some e =>
    simp only [compO] at h
    obtain ⟨ie, he, h⟩ := Option.map_eq_some_iff.mp h
    subst h
    exact POk.some (S.e c he)
theorem snd_f {n : Nat} (S : Snd L k n) : ∀ {X W xo B m e ir}, CBOk L k X W xo B → compIf L.T B (n + 1) e = some ir → PTs X e (tG L.Z xo W m relB (evf (L.C k) ir)) := by
  intro X W xo B m e ir c h
  cases e with
  | nil =>
    simp only [compIf] at h
    cases h
    exact PTs.imp pts_nil fun σ H Q ⟨S, env, e, i, q⟩ => by
      subst e
      exact Go.val q i.ok rfl
  | cons e es =>
    cases es with
    | cons _ _ => simp [compIf] at h
    | nil =>
      simp only [compIf] at h
      obtain ⟨ie, he, h⟩ := Option.map_eq_some_iff.mp h
      subst h
      exact pts_one (S.e c he).pt
theorem snd_es {n : Nat} (S : Snd L k n) : ∀ {X W xo B m e ir}, CBOk L k X W xo B → compEs L.T B (n + 1) e = some ir → EsR L k X W xo m e ir := by
  intro X W xo B m e ir c h
  cases e with
  | nil =>
    simp only [compEs] at h
    cases h
    exact .nil
  | cons e es =>
    simp only [compEs] at h
    split at h
    · rename_i hs
      obtain ⟨ie, he, h⟩ := Option.bind_eq_some_iff.mp h
      obtain ⟨is, hr, h⟩ := Option.map_eq_some_iff.mp h
      subst h
      exact .cons (S.e c he) hs (S.es c hr)
    · cases h
theorem snd_rg (l : LOk L) {n : Nat} (S : Snd L k n) : ∀ {X W xo B m es ir tg p q}, CBOk L k X W xo B → B.hot = false → L.T.isFree B "range" = true → compRg L.T B (n + 1) es = some ir → IOk X L.Z xo W m tg (.Call (.Name "range" p) es [] q) (evIt (L.C k) ir) := by
  intro X W xo B m es ir tg p q c hh hx h
  obtain ⟨f1, f2⟩ := free_ok l c hx
  rcases es with _ | ⟨a, _ | ⟨b, _ | ⟨d, _ | ⟨_, _⟩⟩⟩⟩
  · simp [compRg] at h
  · simp only [compRg] at h
    split at h
    · rename_i hs
      obtain ⟨ia, ha, h⟩ := Option.map_eq_some_iff.mp h
      subst h
      exact IOk.rng1 (fs := fun _ _ => .err) f1 f2 (S.e c ha) (star_of hs)
    · cases h
  · simp only [compRg] at h
    split at h
    · rename_i hs
      rw [Bool.and_eq_true] at hs
      obtain ⟨ia, ha, h⟩ := Option.bind_eq_some_iff.mp h
      obtain ⟨ib, hb, h⟩ := Option.map_eq_some_iff.mp h
      subst h
      exact IOk.rng2 f1 f2 (S.e c ha) (S.e c hb) (star_of hs.1) (star_of hs.2)
    · cases h
  · simp only [compRg] at h
    split at h
    · rename_i hs
      rw [Bool.and_eq_true, Bool.and_eq_true] at hs
      obtain ⟨ia, ha, h⟩ := Option.bind_eq_some_iff.mp h
      obtain ⟨ib, hb, h⟩ := Option.bind_eq_some_iff.mp h
      obtain ⟨ic, hc, h⟩ := Option.map_eq_some_iff.mp h
      subst h
      exact IOk.rng3 f1 f2 (S.e c ha) (S.e c hb) (S.e c hc) (star_of hs.1.1) (star_of hs.1.2) (star_of hs.2)
    · cases h
  · simp [compRg] at h
theorem tup_of {tp : Bool} {tg : Expr} (h : tp = true → isTupE tg = true) (ht : tp = true) : ∃ elts kk p, tg = .Tuple elts kk p := by
  have := h ht
  cases tg with
  | Tuple elts kk p => exact ⟨elts, kk, p, rfl⟩
  | _ => cases this
theorem snd_en (l : LOk L) {n : Nat} (S : Snd L k n) : ∀ {X W xo B m es ir tp tg p q}, CBOk L k X W xo B → B.hot = false → (tp = true → isTupE tg = true) → L.T.isFree B "enumerate" = true → compEn L.T B (n + 1) tp es = some ir → IOk X L.Z xo W m tg (.Call (.Name "enumerate" p) es [] q) (evIt (L.C k) ir) := by
  intro X W xo B m es ir tp tg p q c hh ht hx h
  obtain ⟨f1, f2⟩ := free_ok l c hx
  rcases es with _ | ⟨a, _ | ⟨_, _⟩⟩
  · simp [compEn] at h
  · simp only [compEn] at h
    split at h
    · rename_i hs
      rw [Bool.and_eq_true] at hs
      obtain ⟨ia, ha, h⟩ := Option.map_eq_some_iff.mp h
      subst h
      obtain ⟨elts, kk, pp, e⟩ := tup_of ht hs.1
      subst e
      exact IOk.enu c.K f1 f2 (S.e c ha) (star_of hs.2)
    · cases h
  · simp [compEn] at h
theorem snd_zp (l : LOk L) {n : Nat} (S : Snd L k n) : ∀ {X W xo B m es ir tp tg p q}, CBOk L k X W xo B → B.hot = false → (tp = true → isTupE tg = true) → L.T.isFree B "zip" = true → compZp L.T B (n + 1) tp es = some ir → IOk X L.Z xo W m tg (.Call (.Name "zip" p) es [] q) (evIt (L.C k) ir) := by
  intro X W xo B m es ir tp tg p q c hh ht hx h
  obtain ⟨f1, f2⟩ := free_ok l c hx
  rcases es with _ | ⟨a, _ | ⟨b, _ | ⟨_, _⟩⟩⟩
  · simp [compZp] at h
  · simp [compZp] at h
  · simp only [compZp] at h
    split at h
    · rename_i hs
      rw [Bool.and_eq_true, Bool.and_eq_true] at hs
      obtain ⟨ia, ha, h⟩ := Option.bind_eq_some_iff.mp h
      obtain ⟨ib, hb, h⟩ := Option.map_eq_some_iff.mp h
      subst h
      obtain ⟨elts, kk, pp, e⟩ := tup_of ht hs.1.1
      subst e
      exact IOk.zip c.K f1 f2 (S.e c ha) (S.e c hb) (star_of hs.1.2) (star_of hs.2)
    · cases h
  · simp [compZp] at h
theorem snd_it {n : Nat} (S : Snd L k n) : ∀ {X W xo B m e ir tp tg}, CBOk L k X W xo B → B.hot = false → (tp = true → isTupE tg = true) → compIt L.T B (n + 1) tp e = some ir → IOk X L.Z xo W m tg e (evIt (L.C k) ir) := by
  intro X W xo B m e ir tp tg c hh ht h
  have fs := it_fs h
  have plain : ∀ {ir : It}, (compE L.T B n e).map It.seq = some ir → IOk X L.Z xo W m tg e (evIt (L.C k) ir) := fun {ir} h => by
    obtain ⟨ie, he, h⟩ := Option.map_eq_some_iff.mp h
    subst h
    exact IOk.seq c.K (S.e c he) fs
  unfold compIt at h
  split at h
  · cases h
  · rename_i n' x p es q heq
    cases heq
    split at h
    · rename_i hq
      obtain ⟨q1, q2⟩ := hq
      subst q2
      exact S.rg c hh q1 h
    · split at h
      · rename_i hq
        obtain ⟨q1, q2⟩ := hq
        subst q2
        exact S.en c hh ht q1 h
      · split at h
        · rename_i hq
          obtain ⟨q1, q2⟩ := hq
          subst q2
          exact S.zp c hh ht q1 h
        · exact plain h
  · rename_i heq _
    cases heq
    exact plain h
theorem snd (l : LOk L) (F : FnsAt L k) : ∀ n, Snd L k n
  | 0 => snd_zero
  | n + 1 => have S := snd l F n
    ⟨snd_e l S, snd_ix l S, snd_ch S, snd_lc S, snd_c l F S, snd_c1 l S, snd_c2 l S, snd_b S, snd_o S, snd_f S, snd_es S, snd_it S, snd_rg l S, snd_en l S, snd_zp l S⟩
end
end MP
end
section
set_option Elab.async false
set_option linter.all false
set_option maxRecDepth 100000
/-! MP: statements from the program's text. -/
namespace MP
open PySem
def frzOf (T : CT) (B : CB) (p : Pos) : Option (List Nat) := match T.frz.lookup (p.line, p.col) with
  | none => some []
  | some xs => slots B.N xs
def rstOf (T : CT) (B : CB) (p : Pos) : List Nat := match T.rst.lookup (p.line, p.col) with
  | none => []
  | some xs => (slots B.N xs).getD []
/-- plain local names on one line -/
def lnsB (B : CB) (line : Nat) : List Expr → Option (List Nat × List Str)
  | [] => some ([], [])
  | .Name x p :: r => if B.sc.lookup x = some .local ∧ p.line = line then (slot B.N x).bind fun i => (lnsB B line r).map fun q => (i :: q.1, x :: q.2) else none
  | _ :: _ => none
def headLine (ts : List Expr) : Nat := (ts.head?.map (·.pos.line)).getD 0
def parB (B : CB) (ts vs : List Expr) : Option (List Nat × List Str) :=
  if (ts.length = 2 ∨ ts.length = 3) ∧ vs.length = ts.length ∧ (vs.all noStar = true) ∧ vs.all (foldedForSure 8) = false ∧ vs.all (constantsAlone 8) = false then (lnsB B (headLine ts) ts).bind fun q => if q.2.eraseDups.length = q.2.length then some q else none else none
def cellIn (B : CB) (ts : List Expr) : Bool := ts.any fun t => match t with
  | .Name x _ => decide (B.sc.lookup x = some .cell)
  | _ => true
def plainT (B : CB) (ts vs : List Expr) : Bool := !(ts.length == 2 || ts.length == 3) || vs.all (foldedForSure 8) || cellIn B ts
/-- the field of what a clause takes -/
def fldOf (T : CT) (cs : List Bool) : Option Str := match cs.findIdx? id with
  | some k => (T.xf[k]?).bind fun fl => if (cs.zipIdx.all fun p => !p.1 || decide (T.xf[p.2]? = some fl)) = true then some fl else none
  | none => none
mutual
def compSs (T : CT) (B : CB) : Nat → List Stmt → Option S
  | 0, _ => none
  | _ + 1, [] => some .skip
  | n + 1, st :: r => (compF T B n st).bind fun s => (compSs T B n r).map fun r => .seq s r
def compF (T : CT) (B : CB) : Nat → Stmt → Option S
  | 0, _ => none
  | n + 1, st => (frzOf T B st.pos).bind fun is => if is.isEmpty then compS T B n st else if B.hot then none else (compS T B n st).map fun s => .seq (.frz is) s
def compS (T : CT) (B : CB) : Nat → Stmt → Option S
  | 0, _ => none
  | _ + 1, .Pass _ => some .skip
  | n + 1, .Return none _ => some .retN
  | n + 1, .Return (some e) _ => (compE T B n e).map .ret
  | _ + 1, .Break _ => if B.hot then none else some .brk
  | _ + 1, .Continue _ => if B.hot then none else some .cnt
  | n + 1, .Expr e _ => if B.hot then none else compX T B n e
  | n + 1, .If c a b _ => if B.hot then none else (compE T B n c).bind fun c => (compSs T B n a).bind fun a => (compSs T B n b).map fun b => .ite c a b
  | n + 1, .While c b [] p => if B.hot then none else (compE T B n c).bind fun c => (compSs T B n b).map fun b => .while_ c b (rstOf T B p)
  | n + 1, .For tg it b [] p => if B.hot then none else (compIt T B n (isTupE tg) it).bind fun it => (compTg B tg).bind fun t => (compSs T B n b).map fun b => .for_ t it b (rstOf T B p)
  | n + 1, .Assign [t] e _ => if B.hot then none else compA T B n t e
  | n + 1, .Raise (some (.Call (.Name x _) [e] [] _)) none _ => if B.hot || oddName x || !B.glo x || !noStar e then none else (T.ex.lookup x).bind fun c => (compE T B n e).map fun e => .raise c e
  | n + 1, .Try b (h :: hs) [] [] _ => if B.hot then none else (compSs T B n b).bind fun b => (compHs T B n (h :: hs)).map fun hs => .try_ b hs
  | _ + 1, _ => none
def compX (T : CT) (B : CB) : Nat → Expr → Option S
  | 0, _ => none
  | _ + 1, .Constant (.str _) _ _ => some .skip
  | n + 1, e => if isComp e then none else (compE T B n e).map .expr
def compA (T : CT) (B : CB) : Nat → Expr → Expr → Option S
  | 0, _, _ => none
  | n + 1, .Name x _, e => if B.loc x then (slot B.N x).bind fun i => (compE T B n e).map fun e => .asg (.nm i) e else none
  | n + 1, .Tuple ts _ _, .Tuple vs k p => (match parB B ts vs with
    | some q => (compEs T B n vs).map fun vs => .par q.1 vs
    | none => if plainT B ts vs then if (vs.any fun v => T.isMut v.pos) = true then (compNms B ts).bind fun is => if is.Nodup ∧ is.length ≤ 1000 then (compEs T B n vs).map fun vs => .par is vs else none else (compNms B ts).bind fun is => (compE T B n (.Tuple vs k p)).map fun e => .asg (.tp is) e else none)
  | n + 1, .Tuple ts _ _, e => if isTupE e then none else (compNms B ts).bind fun is => (compE T B n e).map fun e => .asg (.tp is) e
  | n + 1, .Subscript o i _, e => if isComp e then none else (compE T B n e).bind fun e => (compE T B n o).bind fun o => (compE T B n i).map fun i => .setIx o i e
  | _ + 1, _, _ => none
def compHs (T : CT) (B : CB) : Nat → List ExceptHandler → Option (List (List Bool × Option Nat × S))
  | 0, _ => none
  | _ + 1, [] => some []
  | n + 1, h :: hs => (compH T B n h).bind fun h => (compHs T B n hs).map fun hs => h :: hs
def compH (T : CT) (B : CB) : Nat → ExceptHandler → Option (List Bool × Option Nat × S)
  | 0, _ => none
  | n + 1, .ExceptHandler (some (.Name x _)) none (b :: suite) _ => if oddName x || !B.glo x then none else (T.tk.lookup x).bind fun cs => (compSs T { B with hot := true, exo := none } n (b :: suite)).map fun s => (cs, none, s)
  | n + 1, .ExceptHandler (some (.Name x _)) (some m) (b :: suite) _ => if oddName x || !B.glo x || oddName m then none else (T.tk.lookup x).bind fun cs => (slot B.N m).bind fun i => (fldOf T cs).bind fun fl =>
      if B.sc.lookup m = some .local then (compSs T { B with hot := true, exo := some (m, i, fl) } n (b :: suite)).map fun s => (cs, some i, s) else none
  | _ + 1, _ => none
end
end MP
end
section
set_option Elab.async false
set_option linter.all false
set_option maxRecDepth 100000
set_option maxHeartbeats 4000000
/-! MP: the compiled statements keep their meaning. -/
namespace MP
open PySem PySem.Spec L2
open PyProof.Rows hiding St
structure SBk (X : Cx) (B : CB) : Prop where
  hp : B.hot = false → PassesOwn (model X.prog X.w) X.A X.env X.xe
  st : X.stack = X.env :: X.outer
  fr : X.env.frame = some X.env.locals
structure SndT (L : Lang) (k n : Nat) : Prop where
  ss : ∀ {X W xo B m sts ir}, CBOk L k X W xo B → SBk X B → compSs L.T B n sts = some ir → PSs X sts (tS L.Z xo W m (exec (L.C k) m ir))
  f : ∀ {X W xo B m st ir}, CBOk L k X W xo B → SBk X B → compF L.T B n st = some ir → PS X st (tS L.Z xo W m (exec (L.C k) m ir))
  s : ∀ {X W xo B m st ir}, CBOk L k X W xo B → SBk X B → compS L.T B n st = some ir → PS X st (tS L.Z xo W m (exec (L.C k) m ir))
  x : ∀ {X W xo B m e p ir}, CBOk L k X W xo B → compX L.T B n e = some ir → PS X (.Expr e p) (tS L.Z xo W m (exec (L.C k) m ir))
  a : ∀ {X W xo B m t e p ir}, CBOk L k X W xo B → B.hot = false → compA L.T B n t e = some ir → PS X (.Assign [t] e p) (tS L.Z xo W m (exec (L.C k) m ir))
  hs : ∀ {X W xo B m hs irs}, CBOk L k X W xo B → SBk X B → B.hot = false → compHs L.T B n hs = some irs → HdsM X L.Z m hs (exeh (L.C k) m irs)
  h : ∀ {X W xo B m h ir hs l}, CBOk L k X W xo B → SBk X B → B.hot = false → compH L.T B n h = some ir → HdsM X L.Z m hs l → HdsM X L.Z m (h :: hs) (exeh1 (L.C k) m ir :: l)
section
variable {L : Lang} {k : Nat} {X : Cx} {W : WX} {xo : Option Xo} {B : CB}
theorem sndT_zero : SndT L k 0 where
  ss := fun _ _ h => by simp [compSs] at h
  f := fun _ _ h => by simp [compF] at h
  s := fun _ _ h => by simp [compS] at h
  x := fun _ h => by simp [compX] at h
  a := fun _ _ h => by simp [compA] at h
  hs := fun _ _ _ h => by simp [compHs] at h
  h := fun _ _ _ h => by simp [compH] at h
theorem st_ss {n : Nat} (S : SndT L k n) : ∀ {X W xo B m sts ir}, CBOk L k X W xo B → SBk X B → compSs L.T B (n + 1) sts = some ir → PSs X sts (tS L.Z xo W m (exec (L.C k) m ir)) := by
  intro X W xo B m sts ir c b h
  cases sts with
  | nil =>
    simp only [compSs] at h
    cases h
    exact s_nil
  | cons st r =>
    simp only [compSs] at h
    obtain ⟨i1, h1, h⟩ := Option.bind_eq_some_iff.mp h
    obtain ⟨i2, h2, h⟩ := Option.map_eq_some_iff.mp h
    subst h
    exact s_cons (S.f c b h1) (S.ss c b h2)
theorem st_f {n : Nat} (S : SndT L k n) : ∀ {X W xo B m st ir}, CBOk L k X W xo B → SBk X B → compF L.T B (n + 1) st = some ir → PS X st (tS L.Z xo W m (exec (L.C k) m ir)) := by
  intro X W xo B m st ir c b h
  simp only [compF] at h
  obtain ⟨is, hi, h⟩ := Option.bind_eq_some_iff.mp h
  split at h
  · exact S.s c b h
  · split at h
    · cases h
    · rename_i hh
      obtain ⟨i1, h1, h⟩ := Option.map_eq_some_iff.mp h
      subst h
      have hx := c.cool (by simpa using hh)
      subst hx
      exact s_frz (fun _ _ _ z => nomatch z) (S.s c b h1)
theorem st_x (E0 : ∀ n, Snd L k n) {n : Nat} : ∀ {X W xo B m e p ir}, CBOk L k X W xo B → compX L.T B (n + 1) e = some ir → PS X (.Expr e p) (tS L.Z xo W m (exec (L.C k) m ir)) := by
  intro X W xo B m e p ir c h
  unfold compX at h
  split at h
  · cases h
  · rename_i heq
    cases h
    exact s_doc
  · rename_i heq _
    cases heq
    split at h
    · cases h
    · rename_i hc
      obtain ⟨i1, h1, h⟩ := Option.map_eq_some_iff.mp h
      subst h
      exact s_expr ((E0 n).e c h1) (by simpa using hc)
theorem sw_gen {elt : Expr} {gs : List Comprehension} {scope : Scope} {pos py : Pos} {y : Str} {l : Nat} {env : PySem.Env} (hk : env.scope.kind = .function) :
    swapsWith (.ListComp elt gs scope pos) (some (.Name y py)) l env = pure true ∧ env.scope.names.lookup y = some .local ∨ swapsWith (.ListComp elt gs scope pos) (some (.Name y py)) l env = pure false := by
  have hb : env.blockKind = .function := by unfold Env.blockKind; rw [hk]; rfl
  have e : swapsWith (.ListComp elt gs scope pos) (some (.Name y py)) l env = pure (env.blockKind == .function && env.kindOf y == some .local && py.line == pos.line && !(scope.names.any fun (n, k) => n == y && (k == .local || k == .cell))) := rfl
  rw [e]
  cases q : (env.blockKind == .function && env.kindOf y == some .local && py.line == pos.line && !(scope.names.any fun (n, k) => n == y && (k == .local || k == .cell))) with
  | false => exact .inr rfl
  | true =>
    simp only [Bool.and_eq_true] at q
    exact .inl ⟨rfl, by simpa [Env.kindOf] using q.1.1.2⟩
theorem lns_ok (c : CBOk L k X W xo B) {line : Nat} : ∀ {ts : List Expr} {q : List Nat × List Str}, lnsB B line ts = some q → Lns X none ts q.1 q.2 ∧ (ts.filterMap fun
    | .Name id pos => if X.env.kindOf id == some .local && pos.line == line then some id else none
    | _ => none) = q.2
  | [], q, h => by cases h; exact ⟨.nil, rfl⟩
  | e :: ts, q, h => by
    cases e with
    | Name x p =>
      simp only [lnsB] at h
      split at h
      · rename_i hl
        obtain ⟨i, hi, h⟩ := Option.bind_eq_some_iff.mp h
        obtain ⟨r, hr, h⟩ := Option.map_eq_some_iff.mp h
        subst h
        obtain ⟨r1, r2⟩ := lns_ok c hr
        have kx : X.env.scope.names.lookup x = some .local := by
          rcases c.sc x _ hl.1 with z | ⟨z, _⟩
          · exact z
          · cases z
        refine ⟨.cons (by rw [c.N]; exact slot_ok hi) kx (fun _ z => nomatch z) r1, ?_⟩
        rw [List.filterMap_cons]
        have : (X.env.kindOf x == some .local && p.line == line) = true := by
          rw [show X.env.kindOf x = some .local from kx, hl.2]
          simp
        simp only [this, if_true]
        exact congrArg (x :: ·) r2
      · cases h
    | _ => simp [lnsB] at h
theorem sws_par (c : CBOk L k X W xo B) {ts vs : List Expr} {q : List Nat × List Str} {kt k2 : Nat} {pt pt2 : Pos} (h : parB B ts vs = some q) : Lns X none ts q.1 q.2 ∧ (q.2.length = 2 ∨ q.2.length = 3) ∧ swappedStores [.Tuple ts kt pt] (.Tuple vs k2 pt2) X.env = pure (some q.2) := by
  unfold parB at h
  split at h
  · rename_i hq
    obtain ⟨h1, h2, h3, h4, h5⟩ := hq
    obtain ⟨q', hr, h⟩ := Option.bind_eq_some_iff.mp h
    split at h
    · rename_i hd
      cases h
      obtain ⟨r1, r2⟩ := lns_ok c hr
      have hl : q.2.length = ts.length := r1.len.1.symm
      have hb : X.env.blockKind = .function := by unfold Env.blockKind; rw [c.kind]; rfl
      refine ⟨r1, by rw [hl]; exact h1, ?_⟩
      unfold swappedStores
      have e1 : (!(ts.length == 2 || ts.length == 3) || vs.length != ts.length || X.env.blockKind != .function) = false := by
        rw [hb, h2]
        rcases h1 with h1 | h1 <;> simp [h1]
      have e2 : (vs.any fun | .Starred .. => true | _ => false) = false := by
        rw [List.any_eq_false]
        intro e he
        have := List.all_eq_true.mp h3 e he
        cases e <;> first | (simp; done) | cases this
      have e3 : (ts.filterMap fun
        | .Name id pos => if X.env.kindOf id == some .local && pos.line == (ts.head?.map (·.pos.line)).getD 0 then some id else none
        | _ => none) = q.2 := r2
      have e4 : (q.2.length != ts.length || q.2.eraseDups.length != q.2.length) = false := by
        rw [hl] at hd ⊢
        simp [hd]
      dsimp only
      refine (if_neg (by rw [e1]; exact Bool.false_ne_true)).trans ?_
      refine (if_neg (fun h => Bool.false_ne_true (e2.symm.trans h))).trans ?_
      refine (if_neg (fun h => ?_)).trans ?_
      · rw [← e3] at e4
        exact Bool.false_ne_true (e4.symm.trans h)
      refine (if_neg (by rw [h4]; exact Bool.false_ne_true)).trans ?_
      refine (if_neg (by rw [h5]; exact Bool.false_ne_true)).trans ?_
      exact congrArg (fun z => (pure (some z) : Sem (Option (List Str)))) e3
    · cases h
  · cases h
theorem fm_lt {α β : Type} {f : α → Option β} : ∀ {l : List α} {x : α}, x ∈ l → f x = none → (l.filterMap f).length < l.length
  | [], _, h, _ => by cases h
  | y :: l, x, h, e => by
    rw [List.filterMap_cons]
    rcases List.mem_cons.mp h with h | h
    · subst h
      rw [e]
      exact Nat.lt_succ_of_le (List.length_filterMap_le _ _)
    · have := fm_lt h e
      cases f y with
      | none => exact Nat.lt_succ_of_lt this
      | some z => exact Nat.succ_lt_succ this
theorem sws_none (c : CBOk L k X W xo B) {ts vs : List Expr} {kt k2 : Nat} {pt pt2 : Pos} (h : plainT B ts vs = true) : swappedStores [.Tuple ts kt pt] (.Tuple vs k2 pt2) X.env = pure none := by
  unfold plainT at h
  unfold swappedStores
  dsimp only
  rw [Bool.or_eq_true, Bool.or_eq_true] at h
  rcases h with (h | h) | h
  · rw [h]
    rfl
  · rw [h]
    repeat (first | rfl | split)
  · split
    · rfl
    · split
      · rfl
      · obtain ⟨t, ht, hp⟩ := List.any_eq_true.mp h
        have lt : ∀ line : Nat, (ts.filterMap fun
          | .Name id pos => if X.env.kindOf id == some .local && pos.line == line then some id else none
          | _ => none).length < ts.length := fun line => by
          refine fm_lt ht ?_
          cases t with
          | Name x p =>
            have hx : B.sc.lookup x = some .cell := by simpa using hp
            have hc : X.env.kindOf x = some .cell := by
              rcases c.sc x _ hx with z | ⟨z, _⟩
              · exact z
              · cases z
            simp only
            rw [hc]
            rfl
          | _ => rfl
        refine if_pos ?_
        rw [Bool.or_eq_true]
        refine .inl ?_
        rw [bne_iff_ne]
        exact Nat.ne_of_lt (lt _)
theorem sws_nt {ts : List Expr} {e : Expr} {kt : Nat} {pt : Pos} {env : PySem.Env} (h : isTupE e = false) : swappedStores [.Tuple ts kt pt] e env = pure none := by
  cases e <;> first | rfl | cases h
theorem s_asgAny (E0 : ∀ n, Snd L k n) {n m : Nat} {x : Str} {p pos : Pos} {e : Expr} {i : Nat} {ir : E} (c : CBOk L k X W none B) (hh : B.hot = false) (hl : B.loc x = true) (hi : slot B.N x = some i) (h : compE L.T B n e = some ir) :
    PS X (.Assign [.Name x p] e pos) (tS L.Z none W m fun env h => (ev (L.C k) ir env h).thn env fun d h => match setTg (.nm i) d h env with
      | some env => .nx env h
      | none => .err) := by
  obtain ⟨q1, q2⟩ := loc_ok c hl
  have hN : X.N[i]? = some x := by rw [c.N]; exact slot_ok hi
  by_cases hc : isComp e = false
  · exact s_asgN c.nd hN q1 q2 (fun _ z => nomatch z) ((E0 n).e c h) (sw_none hc _ _ _)
  · cases e with
    | ListComp elt gs sc lp =>
      rcases sw_gen (elt := elt) (gs := gs) (scope := sc) (pos := lp) (py := p) (y := x) (l := pos.line) (env := X.env) c.kind with ⟨sw, hy⟩ | sw
      · cases n with
        | zero => simp [compE] at h
        | succ n =>
          simp only [compE] at h
          rw [if_neg (by rw [hh]; exact Bool.false_ne_true)] at h
          cases n with
          | zero => simp [compLc] at h
          | succ n =>
            rcases gs with _ | ⟨⟨tg, iter, ifs, as⟩, _ | ⟨⟨tg1, iter1, ifs1, as1⟩, _ | ⟨_, _⟩⟩⟩
            · simp [compLc] at h
            · obtain ⟨e0, mm, fi, ff, fe, t, e1, e2, e3⟩ := lc_parts (m := m) (E0 n) c hh h
              subst e0
              rw [e1]
              exact s_setLc (c.calm hh) c.nd hN hy sw e2 e3
            · obtain ⟨e0, e01, fi, ff, fe, t, fi1, ff1, t1, e1, e2, e3⟩ := lc2_parts (m := m) (E0 n) c hh h
              subst e0 e01
              rw [e1]
              exact s_setLc2 (c.calm hh) c.nd hN hy sw e2 e3
            · simp [compLc] at h
      · exact s_asgN c.nd hN q1 q2 (fun _ z => nomatch z) ((E0 n).e c h) sw
    | SetComp _ _ _ _ => cases n <;> simp [compE] at h
    | DictComp _ _ _ _ _ => cases n <;> simp [compE] at h
    | _ => exact absurd rfl hc
theorem st_a (E0 : ∀ n, Snd L k n) {n : Nat} : ∀ {X W xo B m t e p ir}, CBOk L k X W xo B → B.hot = false → compA L.T B (n + 1) t e = some ir → PS X (.Assign [t] e p) (tS L.Z xo W m (exec (L.C k) m ir)) := by
  intro X W xo B m t e p ir c hh h
  have hx := c.cool hh
  subst hx
  unfold compA at h
  split at h
  · cases h
  · rename_i x px heq
    cases heq
    split at h
    · rename_i hl
      obtain ⟨i, hi, h⟩ := Option.bind_eq_some_iff.mp h
      obtain ⟨ie, he, h⟩ := Option.map_eq_some_iff.mp h
      subst h
      exact s_asgAny E0 c hh hl hi he
    · cases h
  · rename_i ts kt pt vs k2 pt2 heq
    cases heq
    split at h
    · rename_i q hq
      obtain ⟨is, hs, h⟩ := Option.map_eq_some_iff.mp h
      subst h
      obtain ⟨r1, r2, r3⟩ := sws_par c hq
      exact s_par (c.calm hh) c.nd r1 r2 ((E0 n).es c hs).aok r3
    · split at h
      · rename_i hp
        split at h
        · obtain ⟨is, hi, h⟩ := Option.bind_eq_some_iff.mp h
          split at h
          · rename_i hd
            obtain ⟨ivs, hv, h⟩ := Option.map_eq_some_iff.mp h
            subst h
            exact s_asgP c.K (c.calm hh) c.nd (nms_ok c rfl hi) hd.1 hd.2 ((E0 n).es c hv).aok (sws_none c hp)
          · cases h
        · obtain ⟨is, hi, h⟩ := Option.bind_eq_some_iff.mp h
          obtain ⟨ie, he, h⟩ := Option.map_eq_some_iff.mp h
          subst h
          exact s_asgT c.K (c.calm hh) c.nd (nms_ok c rfl hi) ((E0 n).e c he) (sws_none c hp)
      · cases h
  · rename_i ts kt pt heq _
    cases heq
    split at h
    · cases h
    · rename_i hp
      obtain ⟨is, hi, h⟩ := Option.bind_eq_some_iff.mp h
      obtain ⟨ie, he, h⟩ := Option.map_eq_some_iff.mp h
      subst h
      exact s_asgT c.K (c.calm hh) c.nd (nms_ok c rfl hi) ((E0 n).e c he) (sws_nt (by simpa using hp))
  · rename_i o i pt heq
    cases heq
    split at h
    · cases h
    · obtain ⟨ie, he, h⟩ := Option.bind_eq_some_iff.mp h
      obtain ⟨io, ho, h⟩ := Option.bind_eq_some_iff.mp h
      obtain ⟨ii, hi, h⟩ := Option.map_eq_some_iff.mp h
      subst h
      exact s_setIx c.un (notSlice hi) ((E0 n).e c he) ((E0 n).e c ho) ((E0 n).e c hi)
  · cases h
theorem fldOf_ok {T : CT} {cs : List Bool} {fl : Str} (h : fldOf T cs = some fl) {j : Nat} (hj : cs[j]? = some true) : T.xf[j]? = some fl := by
  unfold fldOf at h
  split at h
  · obtain ⟨f0, h1, h⟩ := Option.bind_eq_some_iff.mp h
    split at h
    · rename_i ha
      cases h
      have hm : (true, j) ∈ cs.zipIdx := by
        rw [List.mem_zipIdx_iff_getElem?]
        exact hj
      have := List.all_eq_true.mp ha (true, j) hm
      simpa using this
    · cases h
  · cases h
theorem suite_un {X : Cx} {a : Addr} {pn : List (Addr × Obj)} : (X.suite a pn).A.units = X.A.units := rfl
theorem st_h (l : LOk L) {n : Nat} (S : SndT L k n) : ∀ {X W xo B m h ir hs ls}, CBOk L k X W xo B → SBk X B → B.hot = false → compH L.T B (n + 1) h = some ir → HdsM X L.Z m hs ls → HdsM X L.Z m (h :: hs) (exeh1 (L.C k) m ir :: ls) := by
  intro X W xo B m h ir hs ls c b hh hc hr
  have sb : ∀ (a : Addr) (pn : List (Addr × Obj)) (e : Option (Str × Nat × Str)), SBk (X.suite a pn) { B with hot := true, exo := e } := fun a pn e => ⟨fun z => (nomatch z), b.st, b.fr⟩
  unfold compH at hc
  split at hc
  · cases hc
  · rename_i x np b0 suite p heq
    cases heq
    split at hc
    · cases hc
    · rename_i hx
      simp only [Bool.or_eq_true, Bool.not_eq_true', not_or, Bool.not_eq_true, Bool.not_eq_false] at hx
      obtain ⟨cs, h1, hc⟩ := Option.bind_eq_some_iff.mp hc
      obtain ⟨i1, h2, hc⟩ := Option.map_eq_some_iff.mp hc
      subst hc
      obtain ⟨cv, g1, g2⟩ := l.tk _ _ h1
      refine .cons0 (cv := cv) ⟨glo_ok c hx.2, (odd_ok hx.1).1, .inl (by rw [c.mg]; exact g1)⟩ (fun j bb hj => by rw [c.K]; exact g2 j bb hj) (fun a oe pn hd => ?_) hr
      refine S.ss ?_ (sb a _ none) h2
      exact ⟨c.prog, c.w, c.K, c.mg, c.base, c.N, c.nd, c.kind, c.sc, c.fn, fun z => (nomatch z), fun z => (nomatch z), c.un, fun z => (nomatch z), fun _ => rfl, fun o z => (nomatch z), fun z => absurd rfl z⟩
  · rename_i x np mm b0 suite p heq
    cases heq
    split at hc
    · cases hc
    · rename_i hx
      simp only [Bool.or_eq_true, Bool.not_eq_true', not_or, Bool.not_eq_true, Bool.not_eq_false] at hx
      obtain ⟨cs, h1, hc⟩ := Option.bind_eq_some_iff.mp hc
      obtain ⟨i, hi, hc⟩ := Option.bind_eq_some_iff.mp hc
      obtain ⟨fl, hf, hc⟩ := Option.bind_eq_some_iff.mp hc
      split at hc
      · rename_i hml
        obtain ⟨i1, h2, hc⟩ := Option.map_eq_some_iff.mp hc
        subst hc
        obtain ⟨cv, g1, g2⟩ := l.tk _ _ h1
        have hNi : X.N[i]? = some mm := by rw [c.N]; exact slot_ok hi
        have kl : X.env.scope.names.lookup mm = some .local := by
          rcases c.sc mm _ hml with z | ⟨z, _⟩
          · exact z
          · cases z
        refine .cons1 (cv := cv) ⟨glo_ok c hx.1.2, (odd_ok hx.1.1).1, .inl (by rw [c.mg]; exact g1)⟩ (fun j bb hj => by rw [c.K]; exact g2 j bb hj) hNi kl (fun a oe j dx pn hj hz hd => ?_) hr
        obtain ⟨x1, x2, x3⟩ := l.xf j fl (fldOf_ok hf hj)
        refine S.ss ?_ (sb a _ (some (mm, i, fl))) h2
        refine ⟨c.prog, c.w, c.K, c.mg, c.base, c.N, c.nd, c.kind, c.sc, c.fn, fun z => (nomatch z), fun z => (nomatch z), c.un, fun z => (nomatch z), fun z => (nomatch z), fun o ho => ?_, fun _ => ⟨_, rfl⟩⟩
        cases ho
        refine ⟨mm, fl, rfl, hNi, fun m2 p2 pos2 hodd hsee => ?_⟩
        exact EOk.fldX (X := X) (o := ⟨i, a, dx, L.Z.xf j⟩) c.K (by rw [c.K]; exact x2) (by rw [c.K]; exact x3) x1 hz hd (pe_var hNi (.inl kl) (odd_ok hodd).1 (odd_ok hodd).2.1)
      · cases hc
  · cases hc
theorem st_hs {n : Nat} (S : SndT L k n) : ∀ {X W xo B m hs irs}, CBOk L k X W xo B → SBk X B → B.hot = false → compHs L.T B (n + 1) hs = some irs → HdsM X L.Z m hs (exeh (L.C k) m irs) := by
  intro X W xo B m hs irs c b hh h
  cases hs with
  | nil =>
    simp only [compHs] at h
    cases h
    exact .nil
  | cons h0 hs =>
    simp only [compHs] at h
    obtain ⟨i1, h1, h⟩ := Option.bind_eq_some_iff.mp h
    obtain ⟨i2, h2, h⟩ := Option.map_eq_some_iff.mp h
    subst h
    exact S.h c b hh h1 (S.hs c b hh h2)
theorem st_s (l : LOk L) (E0 : ∀ n, Snd L k n) {n : Nat} (S : SndT L k n) : ∀ {X W xo B m st ir}, CBOk L k X W xo B → SBk X B → compS L.T B (n + 1) st = some ir → PS X st (tS L.Z xo W m (exec (L.C k) m ir)) := by
  intro X W xo B m st ir c b h
  unfold compS at h
  split at h
  · cases h
  · rename_i heq
    cases h
    exact s_pass
  · rename_i heq
    cases h
    exact s_retN
  · rename_i e p heq
    cases heq
    obtain ⟨i1, h1, h⟩ := Option.map_eq_some_iff.mp h
    subst h
    exact s_ret ((E0 n).e c h1)
  · split at h
    · cases h
    · cases h
      exact s_brk
  · split at h
    · cases h
    · cases h
      exact s_cnt
  · rename_i e p heq
    cases heq
    split at h
    · cases h
    · exact S.x c h
  · rename_i cc a bb p heq
    cases heq
    split at h
    · cases h
    · obtain ⟨i1, h1, h⟩ := Option.bind_eq_some_iff.mp h
      obtain ⟨i2, h2, h⟩ := Option.bind_eq_some_iff.mp h
      obtain ⟨i3, h3, h⟩ := Option.map_eq_some_iff.mp h
      subst h
      exact s_ite ((E0 n).e c h1) (S.ss c b h2) (S.ss c b h3)
  · rename_i cc bb p heq
    cases heq
    split at h
    · cases h
    · rename_i hh
      obtain ⟨i1, h1, h⟩ := Option.bind_eq_some_iff.mp h
      obtain ⟨i2, h2, h⟩ := Option.map_eq_some_iff.mp h
      subst h
      exact s_while (b.hp (by simpa using hh)) ((E0 n).e c h1) (S.ss c b h2)
  · rename_i tg it bb p heq
    cases heq
    split at h
    · cases h
    · rename_i hh
      have hh : B.hot = false := by simpa using hh
      have hx := c.cool hh
      subst hx
      obtain ⟨i1, h1, h⟩ := Option.bind_eq_some_iff.mp h
      obtain ⟨i2, h2, h⟩ := Option.bind_eq_some_iff.mp h
      obtain ⟨i3, h3, h⟩ := Option.map_eq_some_iff.mp h
      subst h
      exact s_for (b.hp hh) (c.calm hh) ((E0 n).it c hh (fun z => z) h1) (tg_ok c hh h2) (S.ss c b h3)
  · rename_i t e p heq
    cases heq
    split at h
    · cases h
    · rename_i hh
      exact S.a c (by simpa using hh) h
  · rename_i x px e pc pr heq
    cases heq
    split at h
    · cases h
    · rename_i hx
      simp only [Bool.or_eq_true, Bool.not_eq_true', not_or, Bool.not_eq_true, Bool.not_eq_false] at hx
      obtain ⟨⟨⟨hh, ho⟩, hg⟩, hs⟩ := hx
      obtain ⟨ci, h1, h⟩ := Option.bind_eq_some_iff.mp h
      obtain ⟨i2, h2, h⟩ := Option.map_eq_some_iff.mp h
      subst h
      have hP := c.prog; have hw := c.w; have hb := c.base; have hK := c.K; have hm := c.mg
      exact s_raise (by rw [hP, hw, hK, hm, hb]; exact l.ex _ _ h1) (c.calm hh) ((c.room hh).mono (by omega)) (glo_ok c hg) (c.tk hh) ((E0 n).e c h2) (star_of hs) (odd_ok ho).1
  · rename_i bb h0 hs p heq
    cases heq
    split at h
    · cases h
    · rename_i hh
      have hh : B.hot = false := by simpa using hh
      have hx := c.cool hh
      subst hx
      obtain ⟨i1, h1, h⟩ := Option.bind_eq_some_iff.mp h
      obtain ⟨i2, h2, h⟩ := Option.map_eq_some_iff.mp h
      subst h
      refine s_try b.st b.fr c.nd (c.tk hh) (fun W' pn xe tk' hp' => ?_) (S.hs c b hh h2)
      exact S.ss (X := X.tr pn xe) ⟨c.prog, c.w, c.K, c.mg, c.base, c.N, c.nd, c.kind, c.sc, c.fn, c.calm, c.room, c.un, fun _ => tk', c.cool, fun o z => (nomatch z), c.exn⟩ ⟨fun _ => hp', b.st, b.fr⟩ h1
  · cases h
theorem sndT (l : LOk L) (F : FnsAt L k) : ∀ n, SndT L k n
  | 0 => sndT_zero
  | n + 1 => have S := sndT l F n
    ⟨st_ss S, st_f S, st_s l (snd l F) S, st_x (snd l F), st_a (snd l F), st_hs S, st_h l S⟩
end
end MP
end
section
set_option Elab.async false
set_option linter.all false
set_option maxRecDepth 100000
set_option maxHeartbeats 4000000
/-! MP: all functions of a program, to any depth of calls. -/
namespace MP
open PySem PySem.Spec L2
open PyProof.Rows hiding St
/-- a function, as it is written; its slots -/
structure Fn where
  params : Arguments
  body : List Stmt
  scope : Scope
  N : List Str
  ps : List Str
def compFn (T : CT) (F : Fn) : Option FnI := if C8.scC F.N F.ps F.scope = true then (compSs T ⟨F.N, F.scope.names, false, none⟩ 400 F.body).map fun s => ⟨F.N.length, F.ps.length, s⟩ else none
/-- what the head tells of each function -/
structure FnFact (L : Lang) (x : Str) (f : Nat) (F : Fn) : Prop where
  at_ : ∃ (addr : Addr) (fd : FuncData) (qual nm : Str) (kws : List (Str × V)), L.mg x = some (.ref addr) ∧ PySem.W.keepIn L.Z.K (.ref addr) = true ∧ Binds L.Z.K fd F.ps [] ∧ FunD L.Z.K nm qual F.params F.body F.scope [] kws addr fd
  comp : compFn L.T F = L.G.fns[f]? ∧ (compFn L.T F).isSome = true
theorem fn_at {L : Lang} (l : LOk L) {k : Nat} (hk : FnsAt L k) {f : Nat} {F : Fn} {addr : Addr} {fd : FuncData} {qual nm : Str} {kws : List (Str × V)} (h4 : FunD L.Z.K nm qual F.params F.body F.scope [] kws addr fd) (h5 : compFn L.T F = L.G.fns[f]?) (h6 : (compFn L.T F).isSome = true) :
    ∃ fI, L.G.fns[f]? = some fI ∧ fI.np = F.ps.length ∧ FnOk L.P L.w L.Z.K L.mg L.base (L2.CX L.P L.w) (k + 1 + 2) addr fd F.ps (spF L.Z L.G (k + 1) f F.ps.length) := by
  obtain ⟨fI, e⟩ := Option.isSome_iff_exists.mp h6
  have hf : L.G.fns[f]? = some fI := by rw [← h5]; exact e
  unfold compFn at e
  split at e
  · rename_i hs
    obtain ⟨s, hc, e⟩ := Option.map_eq_some_iff.mp e
    have S := C8.fnScope_by hs
    have hnp : fI.np = F.ps.length := by rw [← e]
    have hns : fI.ns = F.N.length := by rw [← e]
    refine ⟨fI, hf, hnp, ?_⟩
    refine fn_run (j := k + 2) (N := F.N) hf hnp hns h4 S fun X n hP hw hK hm hb hN hsc hfn hcalm hst hfr hex hr W tk hp => ?_
    have hbody : fI.body = s := by rw [← e]
    rw [hbody]
    refine (sndT l hk 400).ss (X := X) (B := ⟨F.N, F.scope.names, false, none⟩) ⟨hP, hw, hK, hm, hb, hN, ?_, ?_, fun y kd hy => .inl (by rw [hsc]; exact hy), fun y _ => by rw [hfn], fun _ => hcalm, fun _ => hr, ?_, fun _ => tk, fun _ => rfl, fun o z => (nomatch z), fun z => absurd rfl z⟩ ⟨fun _ => hp, hst, hfr⟩ hc
    · rw [hN]; exact S.nd
    · rw [hsc]; exact S.kind
    · have := hr.un
      omega
  · cases e
theorem fns_ok {L : Lang} (l : LOk L) (h : ∀ x f, L.T.fn.lookup x = some f → ∃ F, FnFact L x f F) : ∀ k, FnsAt L k
  | 0 => fun x f hx => by
    obtain ⟨F, ⟨addr, fd, qual, nm, kws, h1, h2, h3, h4⟩, h5, h6⟩ := h x f hx
    obtain ⟨fI, e⟩ := Option.isSome_iff_exists.mp h6
    refine ⟨addr, fd, F.ps, fI, h1, h2, h3, by rw [← h5]; exact e, ?_, (fn_zero (G := L.G) (fi := f)).mono (by omega)⟩
    unfold compFn at e
    split at e
    · obtain ⟨s, _, e⟩ := Option.map_eq_some_iff.mp e
      rw [← e]
    · cases e
  | k + 1 => fun x f hx => by
    obtain ⟨F, ⟨addr, fd, qual, nm, kws, h1, h2, h3, h4⟩, h5, h6⟩ := h x f hx
    obtain ⟨fI, z1, z2, z3⟩ := fn_at l (fns_ok l h k) h4 h5 h6
    exact ⟨addr, fd, F.ps, fI, h1, h2, h3, z1, z2, z3⟩
/-! ### the law's own def -/
theorem law_ok {L : Lang} {k : Nat} {f : Nat} {fa : Addr} {fd : FuncData} {x : Str} (h : FnOk L.P L.w L.Z.K L.mg L.base (L2.CX L.P L.w) k fa fd [x] (spF L.Z L.G (k - 2) f 1)) {P : List Int → Prop} (hl : ∀ ns, P ns → ∃ h', callF L.G (k - 2) f [.a (.scr ns)] [] = .ok (.a (.bl true)) h') :
    FnOk L.P L.w L.Z.K L.mg L.base (L2.CX L.P L.w) k fa fd [x] (fun vs H Q _ => ∃ (a : Addr) (ns : List Int), vs = [.ref a] ∧ SqL L.Z.K H a (ns.map V.int) ∧ P ns ∧ ∀ H', Q (.bl true) H') := by
  refine h.imp fun vs H Q E ⟨a, ns, e1, e2, e3, e4⟩ => ?_
  subst e1
  refine ⟨rfl, ⟨[], H, [], H⟩, [.a (.scr ns)], rfl, ⟨Le.refl, rfl, List.nodup_nil, fun n m a e => by simp at e⟩, .cons (.scr e2) .nil, ?_⟩
  obtain ⟨h', e⟩ := hl ns e3
  show Go _ _ _ _ _ _ (callF L.G (k - 2) f [.a (.scr ns)] []) Q
  rw [e]
  intro S' v x eh r
  cases r
  exact e4 _
end MP
end
section
set_option Elab.async false
set_option linter.all false
set_option maxRecDepth 100000
set_option maxHeartbeats 4000000
/-! MP: what the head tells of exception classes. -/
namespace MP
open PySem PySem.Spec L2
open PyProof.Rows hiding St
/-- __init__ of such a class -/
structure Ini where
  self : Str
  arg : Str
  fld : Str
  parts : List Expr
  pj : Pos
  p1 : Pos
  p2 : Pos
  p3 : Pos
  p4 : Pos
  p5 : Pos
  p6 : Pos
  p7 : Pos
  p8 : Pos
  p9 : Pos
def Ini.body (i : Ini) : List Stmt := [.Expr (.Call (.Attribute (.Call (.Name "super" i.p1) [] [] i.p2) "__init__" i.p3) [.JoinedStr i.parts i.pj] [] i.p4) i.p5, .Assign [.Attribute (.Name i.self i.p6) i.fld i.p7] (.Name i.arg i.p8) i.p9]
def iniOf : List Stmt → Option Ini
  | [.Expr (.Call (.Attribute (.Call (.Name s p1) [] [] p2) m p3) [.JoinedStr parts pj] [] p4) p5, .Assign [.Attribute (.Name self p6) fld p7] (.Name arg p8) p9] => if s = ("super" : Str) ∧ m = ("__init__" : Str) then some ⟨self, arg, fld, parts, pj, p1, p2, p3, p4, p5, p6, p7, p8, p9⟩ else none
  | _ => none
theorem iniOf_ok {b : List Stmt} {i : Ini} (h : iniOf b = some i) : b = i.body := by
  unfold iniOf at h
  split at h
  · split at h
    · rename_i hq
      cases h
      rw [hq.1, hq.2]
      rfl
    · cases h
  · cases h
/-- a part of the text -/
def partB (arg : Str) : Expr → Bool
  | .Constant (.str s) _ _ => decide (s.length ≤ 1000)
  | .FormattedValue (.Name x _) c none _ => decide (x = arg) && decide (c = -1)
  | _ => false
theorem parts_ok {X : Cx} {self arg : Str} (hN : X.N = [self, arg, "__class__"]) (hv : Vis X.env.scope arg) (h1 : (arg == ("__debug__" : Str)) = false) (h2 : (arg == ("__classdict__" : Str)) = false) : ∀ {es : List Expr}, (es.all (partB arg)) = true →
    ∃ ts, PJ X es ts ∧ ∀ (a : Addr) (y : V) (H : Hp) (Q : VK) (acc : Str), fmtV y → (∀ z, Q (.str z) H) → acc.length + 3000 * es.length ≤ sizeLine → tJs ts acc [some (.ref a), some y, none] H fun out H' => Q (.str out) H'
  | [], _ => ⟨[], .nil, fun a y H Q acc _ hq _ => hq acc⟩
  | e :: es, h => by
    rw [List.all_cons, Bool.and_eq_true] at h
    obtain ⟨ts, r, go⟩ := parts_ok hN hv h1 h2 h.2
    have app : ∀ s t : Str, (s ++ t).length = s.length + t.length := fun s t => by
      show (s.cps ++ t.cps).size = _
      rw [Array.size_append]
      rfl
    have hp := h.1
    unfold partB at hp
    split at hp
    · rename_i s j p
      have hs : s.length ≤ 1000 := by simpa using hp
      refine ⟨tC (.str s) :: ts, .cons pe_str r, fun a y H Q acc hf hq hl => ?_⟩
      rw [List.length_cons] at hl
      exact ⟨s, rfl, by rw [app]; omega, go a y H Q _ hf hq (by rw [app]; omega)⟩
    · rename_i x p c q
      simp only [Bool.and_eq_true, decide_eq_true_eq] at hp
      obtain ⟨rfl, rfl⟩ := hp
      refine ⟨tFmt (tVar 1) :: ts, .cons (pe_fmt (pe_var (by rw [hN]; rfl) hv h1 h2)) r, fun a y H Q acc hf hq hl => ?_⟩
      rw [List.length_cons] at hl
      refine ⟨y, rfl, ?_⟩
      rcases hf with ⟨z, rfl, hz⟩ | ⟨i, rfl, hz⟩
      · exact .inl ⟨z, rfl, Nat.le_trans hz (by decide), z, rfl, by rw [app]; omega, go a _ H Q _ (.inl ⟨z, rfl, hz⟩) hq (by rw [app]; omega)⟩
      · have hl2 : (Str.ofString (toString i)).length ≤ 1921 := by
          have := int_text_length_le (k := 1920) (by decide) hz
          rw [PySem.ofString_length]
          omega
        exact .inr ⟨i, rfl, hz, _, rfl, by rw [app]; omega, go a _ H Q _ (.inr ⟨i, rfl, hz⟩) hq (by rw [app]; omega)⟩
    · cases hp
/-- an exception class as the text has it -/
structure ExD where
  name : Str
  fld : Str
  qual : Str
  params : Arguments
  body : List Stmt
  scope : Scope
def iniGood (d : ExD) : Bool := match iniOf d.body with
  | some i => decide (i.fld = d.fld) && NdefX.nscB [i.self, i.arg, "__class__"] [i.self, i.arg] ["__class__"] d.scope && decide (d.scope.names.lookup ("super" : Str) = some .globalImplicit) && d.params.posonlyargs.isEmpty && (match d.params.args with
      | ar :: _ => decide (ar.arg = i.self)
      | [] => false) && !oddName i.self && !oddName i.arg && (i.p3.endLine == i.p4.line) && (i.parts.all (partB i.arg)) && decide (i.parts.length ≤ 100) && decide (2 ≤ i.parts.length)
  | none => false
/-- of the function: what must be as written -/
abbrev InV : Type := Option (Str × Str × Arguments × FuncBody × Scope × Addr × List Str × Value × Addr)
def inObs (K : PySem.W.Frag) (x : Str) : InV := match K.lookup (He.ma K (He.ga K x) "__init__") with
  | some ⟨_, _, .func fd, _⟩ => some (fd.name, fd.qualname, fd.params, fd.body, fd.scope, fd.globals, fd.closure.map (·.1), fd.defaults, fd.builtins)
  | _ => none
def ExD.val (d : ExD) : InV := some ("__init__", d.qual, d.params, .stmts d.body, d.scope, mainGlobals, ["__class__"], .none, builtinsNs)
def oexB (K : PySem.W.Frag) (C : Addr) : Bool := (match K.lookup C with
    | some ⟨.type t, _, .cls cd, sl⟩ => decide (t = "type") && (match cd.mro, sl.toList with
      | .ref C' :: bm, [_, _, _, _, some (.builtin n), _] => decide (C' = C) && decide (n = "ValueError.__new__") && !cd.hasDel && cd.hasDict && PySem.HandSPX.refsVE bm && decide (PySem.W.alongIn K "__init__" bm = some (some (.builtin "ValueError.__init__")))
      | _, _ => false)
    | _ => false) && He.eqO (PySem.W.findIn K (.ref C) "__setattr__") (some (some (.builtin "object.__setattr__"))) && decide (PySem.W.subIn K (.ref C) (.type "BaseException") = some true) && decide (PySem.W.typeIn K (.ref C) = some (.type "type")) && PySem.W.keepIn K (.ref C)
theorem oexB_ok {K : PySem.W.Frag} {C : Addr} (h : oexB K C = true) : OexC K C ∧ ∃ cd bm, PySem.W.clsIn K C = some cd ∧ cd.mro = .ref C :: bm ∧ PySem.W.alongIn K "__init__" bm = some (some (.builtin "ValueError.__init__")) := by
  unfold oexB at h
  simp only [Bool.and_eq_true, decide_eq_true_eq] at h
  obtain ⟨⟨⟨⟨h0, h1⟩, h2⟩, h3⟩, h4⟩ := h
  split at h0
  · rename_i t dd cd sl hl
    rw [Bool.and_eq_true] at h0
    obtain ⟨ht, h0⟩ := h0
    have ht : t = "type" := of_decide_eq_true ht
    subst ht
    split at h0
    · rename_i C' bm k0 k1 k2 k3 nn k5 hm hs
      simp only [Bool.and_eq_true, decide_eq_true_eq, Bool.not_eq_true'] at h0
      obtain ⟨⟨⟨⟨⟨rfl, rfl⟩, hdel⟩, hhd⟩, hrv⟩, hal⟩ := h0
      have hsl : sl = #[k0, k1, k2, k3, some (.builtin "ValueError.__new__"), k5] := by
        have := congrArg List.toArray hs
        simpa using this
      obtain ⟨nm, bs, mro, ns, qn, hd, sn, sb, ab, col, del⟩ := cd
      dsimp only at hm hdel hhd
      subst hm hdel hhd hsl
      refine ⟨⟨⟨nm, qn, ns, bs, bm, sn, sb, ab, col, dd, k0, k1, k2, k3, k5, hl, hrv⟩, He.eqO_ok h1, h2, h3, h4⟩, ?_⟩
      refine ⟨⟨nm, bs, .ref C' :: bm, ns, qn, true, sn, sb, ab, col, false⟩, bm, ?_, rfl, hal⟩
      unfold PySem.W.clsIn
      rw [hl]
    · cases h0
  · cases h0
def codeB (K : PySem.W.Frag) (file : Str) (C : Addr) (q : Str) (a : Addr) : Bool := match K.lookup a with
  | some ⟨_, _, .func fd, _⟩ => (match fd.code, fd.closure with
    | .ref cda, [(_, cc)] => PySem.W.codeIn K (.ref cda) q && (match K.lookup cda with
        | some ⟨_, _, .fields vs, _⟩ => (match (vs[2]? : Option Value) with
          | some (.str fl _) => file == fl
          | _ => false)
        | _ => false) && (match K.lookup cc with
        | some ⟨_, _, .cell (some (.ref D)), _⟩ => decide (D = C)
        | _ => false)
    | _, _ => false)
  | _ => false
def excB (K : PySem.W.Frag) (file : Str) (d : ExD) : Bool :=
  He.eqO (PySem.W.nsIn K mainGlobals d.name) (some (some (.ref (He.ga K d.name)))) && oexB K (He.ga K d.name) && He.eqO (PySem.W.findIn K (.ref (He.ga K d.name)) "__init__") (some (some (.ref (He.ma K (He.ga K d.name) "__init__")))) &&
  decide (PySem.W.typeIn K (.ref (He.ma K (He.ga K d.name) "__init__")) = some (.type "function")) && codeB K file (He.ga K d.name) d.qual (He.ma K (He.ga K d.name) "__init__") &&
  decide (PySem.W.subIn K (.ref (He.ga K d.name)) (.type "ValueError") = some true) && decide (PySem.W.mroIn K (He.ga K d.name) (.ref (He.ga K d.name)) = some true) && He.eqO (PySem.W.nsIn K PySem.cStatics "thirdparty.any") (some none) &&
  xfB K (He.ga K d.name) && He.eqO (PySem.W.findIn K (.ref (He.ga K d.name)) d.fld) (some none)
theorem exc_ok {P : Program} {w : World} {K : PySem.W.Frag} {mg : Str → Option Value} {base : Heap} {Z : Ad} {c : Nat} {d : ExD} (hg : mg d.name = some (.ref (He.ga K d.name))) (hs : mg "super" = none) (hZ : Z.xad c = He.ga K d.name) (hf : Z.xf c = d.fld)
    (h : excB K P.main.file d = true) (ho : inObs K d.name = d.val) (hi : iniGood d = true) (htop : (P.main.scope.names.lookup ("super" : Str)).isSome = false) (hbind : ∀ (cl : List (Str × Addr)) (kV doc pm : Value) (an : Option Addr) (cdv ct : Value) (us : List Value), us.length = 2 → bindArgs (PySem.W.fnX "__init__" d.qual d.params d.body d.scope cl .none kV doc pm an cdv ct) ⟨us, []⟩ = pure ((d.params.args.map (·.arg)).zip us)) (hps : ∃ a b, d.params.args.map (·.arg) = [a, b] ∧ ∀ i, iniOf d.body = some i → a = i.self ∧ b = i.arg) :
    XcOk P w K mg base Z c d.name := by
  unfold excB at h
  simp only [Bool.and_eq_true, decide_eq_true_eq] at h
  obtain ⟨⟨⟨⟨⟨⟨⟨⟨⟨h1, h2⟩, h3⟩, h4⟩, h5⟩, h6⟩, h7⟩, h8⟩, h9⟩, h10⟩ := h
  obtain ⟨T, hm⟩ := oexB_ok h2
  unfold iniGood at hi
  cases hini : iniOf d.body with
  | none => rw [hini] at hi; cases hi
  | some i =>
    rw [hini] at hi
    simp only [Bool.and_eq_true, decide_eq_true_eq, Bool.not_eq_true'] at hi
    obtain ⟨⟨⟨⟨⟨⟨⟨⟨⟨⟨i1, i2⟩, i3⟩, i4⟩, i5⟩, i6⟩, i7⟩, i8⟩, i9⟩, i10⟩, i11⟩ := hi
    have hbody := iniOf_ok hini
    have S := NdefX.nscope_by i2
    -- the function
    unfold inObs at ho
    unfold codeB at h5
    cases q : K.lookup (He.ma K (He.ga K d.name) "__init__") with
    | none => rw [q] at ho; cases ho
    | some o =>
      obtain ⟨oc, od, dt, osl⟩ := o
      rw [q] at ho h5
      cases dt with
      | func fd =>
        obtain ⟨n1, n2, n3, n4, n5, n6, n7, n8, n9, n10, n11, n12, n13, n14, n15⟩ := fd
        have e2 : (some (n1, n2, n3, n4, n5, n6, n7.map (·.1), n8, n15) : InV) = d.val := ho
        unfold ExD.val at e2
        simp only [Option.some.injEq, Prod.mk.injEq] at e2
        obtain ⟨g1, g2, g3, g4, g5, g6, g7, g9, g8⟩ := e2
        subst g1 g2 g3 g4 g5 g6 g8 g9
        dsimp only at h5
        split at h5
        · rename_i x1 x2 cda ck cc
          rw [Bool.and_eq_true, Bool.and_eq_true] at h5
          obtain ⟨⟨hc1, hc2⟩, hc3⟩ := h5
          have hck : ck = "__class__" := by
            have g7 : [ck] = [("__class__" : Str)] := g7
            injection g7
          subst hck
          split at hc2
          · rename_i ccl cdd vs ccs hl
            split at hc2
            · rename_i fl tf hv
              split at hc3
              · rename_i cl cld D csl hl2
                have hD : D = He.ga K d.name := of_decide_eq_true hc3
                subst hD
                obtain ⟨pa, pb, hp1, hp2⟩ := hps
                obtain ⟨rfl, rfl⟩ := hp2 i hini
                rw [hbody] at q
                have hI : InitK P K mg (He.ga K d.name) (He.ma K (He.ga K d.name) "__init__") cc cda d.qual d.params i.body d.scope (PySem.W.fnX "__init__" d.qual d.params i.body d.scope [("__class__", cc)] .none n9 n10 n11 n12 (.ref cda) n14) :=
                  ⟨⟨oc, od, .none, n9, n10, n11, n12, n14, osl, rfl, q⟩, hc1, ⟨_, _, _, _, _, _, hl, hv, hc2⟩, ⟨_, _, _, hl2⟩, T, hm, h6, h7, He.eqO_ok h8, hs, htop⟩
                obtain ⟨j1, j2, j3⟩ := odd_ok i6
                obtain ⟨l1, l2, l3⟩ := odd_ok i7
                have hargs : d.params.posonlyargs = [] ∧ ∃ ar r, d.params.args = ar :: r ∧ ar.arg = i.self := by
                  refine ⟨List.isEmpty_iff.mp i4, ?_⟩
                  split at i5
                  · rename_i ar r e
                    exact ⟨ar, r, e, of_decide_eq_true i5⟩
                  · cases i5
                have hvis : d.scope.names.lookup i.arg = some .local := S.par _ (List.mem_cons_of_mem _ (List.mem_singleton_self _))
                refine ⟨by rw [hZ]; exact T, by rw [hZ]; exact hg, ⟨He.ma K (He.ga K d.name) "__init__", PySem.W.fnX "__init__" d.qual d.params i.body d.scope [("__class__", cc)] .none n9 n10 n11 n12 (.ref cda) n14, [i.self, i.arg], by rw [hZ]; exact He.eqO_ok h3, h4, ?_, ?_⟩, by rw [hZ]; exact xfB_ok h9, by rw [hZ, hf]; exact He.eqO_ok h10⟩
                · rw [hZ, hf, ← i1]
                  refine init_fn (k := 0) hI S i3 hargs j1 l1 j2 l2 i8 (by rw [i1]; exact He.eqO_ok h10) (fun _ => rfl) fun X hN hsc => ?_
                  obtain ⟨ts, hj, go⟩ := parts_ok (X := X) (self := i.self) (arg := i.arg) hN (.inl (by rw [hsc]; exact hvis)) l1 l2 i9
                  obtain ⟨v1, v2, rest, hes⟩ : ∃ v1 v2 rest, i.parts = v1 :: v2 :: rest := by
                    match hq : i.parts, i11 with
                    | v1 :: v2 :: rest, _ => exact ⟨v1, v2, rest, rfl⟩
                  rw [hes] at hj go i10 ⊢
                  refine ⟨_, pe_joined hj, fun a y H Q hy hQ => go a y H Q Str.empty hy hQ ?_⟩
                  have : (Str.empty).length = 0 := rfl
                  rw [this, Nat.zero_add]
                  exact Nat.le_trans (Nat.mul_le_mul (Nat.le_refl 3000) i10) (by decide)
                · refine Binds.all fun us hl => ?_
                  have z := hbind [("__class__", cc)] n9 n10 n11 n12 (.ref cda) n14 us hl
                  rw [hbody, hp1] at z
                  exact z
              · cases hc3
            · cases hc2
          · cases hc2
        · cases h5
      | _ => cases ho
/-! ### the Hook -/
def asX (g : Addr → Option Obj) : Nat → List Addr
  | 0 => [mainGlobals, PySem.cStatics]
  | n + 1 => He.growD g (asX g n)
abbrev AlX : Type := He.AlD × (Bool × List InV)
def obsX (fa : List He.Fa) (fn : List He.DefD) (xs : List ExD) (file : Str) (K : PySem.W.Frag) : AlX := (He.obsD fa fn K, (xs.all (excB K file), xs.map fun d => inObs K d.name))
def valX (fn : List He.DefD) (xs : List ExD) : AlX := (He.valD fn, (true, xs.map ExD.val))
def obsXG (n : Nat) (fa : List He.Fa) (fn : List He.DefD) (xs : List ExD) (file : Str) (g : Addr → Option Obj) : AlX := obsX fa fn xs file (He.frG g (asX g n))
def hookX (n : Nat) (fa : List He.Fa) (fn : List He.DefD) (xs : List ExD) (file : Str) : PySem.W.Hook where
  α := AlX
  obs := fun s => obsXG n fa fn xs file s.heap.get?
  val := fun _ => valX fn xs
  says := fun _ h => ∃ K : PySem.W.Frag, K.In h ∧ obsX fa fn xs file K = valX fn xs
  of := fun _ _ e => ⟨_, He.frG_in, e⟩
  keeps := fun _ _ _ ⟨K, hK, c⟩ k => ⟨K, PySem.W.Frag.In.keeps hK k, c⟩
theorem obsXG_eq {n : Nat} {fa : List He.Fa} {fn : List He.DefD} {xs : List ExD} {file : Str} {g : Addr → Option Obj} {s : Shared} (h : ∀ a, g a = s.heap.get? a) : obsXG n fa fn xs file g = (hookX n fa fn xs file).obs s := by
  have e : g = s.heap.get? := funext h
  rw [e] <;> rfl
end MP
end
section
set_option Elab.async false
set_option linter.all false
set_option maxRecDepth 100000
set_option maxHeartbeats 4000000
/-! MP: a module of functions, exceptions, numbers; from the head's facts to the law. -/
namespace MP
open PySem PySem.Spec L2
open PyProof.Rows hiding St
structure Mod where
  names : List Str
  fns : List Fn
  xs : List ExD
  con : List (Str × Int)
  tk : List (Str × List Bool)
  free : List Str
  muts : List (Nat × Nat)
  dts : List (Nat × Nat)
  frz : List ((Nat × Nat) × List Str)
  rst : List ((Nat × Nat) × List Str)
def Mod.T (M : Mod) : CT := ⟨M.names.zipIdx, (M.xs.map (·.name)).zipIdx, M.con.map fun p => (p.1, .int p.2), M.tk, M.xs.map (·.fld), M.free, M.muts, M.dts, M.frz, M.rst⟩
def Mod.dfs (M : Mod) : List He.DefD := (M.names.zip M.fns).map fun p => ⟨(p.1, none), p.1, p.1, p.2.params, p.2.body, p.2.scope, [], []⟩
def Mod.fa (M : Mod) : List He.Fa := M.names.map .glo ++ M.xs.map (fun d => .glo d.name) ++ M.tk.map (fun p => .glo p.1) ++ (("super" : Str) :: M.free).map .free ++ M.con.map (fun p => .int p.1 p.2) ++ M.tk.flatMap fun p => (M.xs.zip p.2).map fun q => .exm q.1.name p.1 q.2
def Mod.Z (M : Mod) (K : PySem.W.Frag) : Ad := ⟨K, fun _ => 0, fun _ => [], fun k => He.ga K ((M.xs[k]?.map (·.name)).getD Str.empty), fun k => (M.xs[k]?.map (·.fld)).getD Str.empty⟩
abbrev Mod.L (M : Mod) (P : Program) (w : World) (K : PySem.W.Frag) (mg : Str → Option Value) (base : Heap) (G : Prg) : Lang := ⟨P, w, mg, base, M.Z K, M.T, G⟩
def iniArgs (d : ExD) : Bool := match iniOf d.body, d.params.args with
  | some i, [a, b] => decide (a.arg = i.self) && decide (b.arg = i.arg)
  | _, _ => false
def Mod.good (M : Mod) : Bool := (M.xs.all fun d => iniGood d && iniArgs d) && (M.tk.all fun p => decide (p.2.length ≤ M.xs.length)) && decide (M.names.length = M.fns.length)
theorem mem_of_lookup {α β : Type} [BEq α] [LawfulBEq α] {x : α} {y : β} : ∀ {l : List (α × β)}, l.lookup x = some y → (x, y) ∈ l
  | [], h => by cases h
  | (a, b) :: r, h => by
    rw [List.lookup_cons] at h
    split at h
    · rename_i e
      rw [eq_of_beq e]
      cases h
      exact List.mem_cons_self
    · exact List.mem_cons_of_mem _ (mem_of_lookup h)
theorem idx_of_lookup {α : Type} [BEq α] [LawfulBEq α] {x : α} {f : Nat} {l : List α} (h : l.zipIdx.lookup x = some f) : l[f]? = some x := by
  have := mem_of_lookup h
  exact List.mem_zipIdx_iff_getElem?.mp this
section
variable {M : Mod} {P : Program} {w : World} {K : PySem.W.Frag} {mg : Str → Option Value} {base h : Heap} {G : Prg}
theorem Mod.lok (X : K.In h) (Gm : h.Ns mainGlobals mg) (c : obsX M.fa M.dfs M.xs P.main.file K = valX M.dfs M.xs) (hg : M.good = true) (htop : (P.main.scope.names.lookup ("super" : Str)).isSome = false)
    (hx : ∀ d ∈ M.xs, ∀ (cl : List (Str × Addr)) (kV doc pm : Value) (an : Option Addr) (cdv ct : Value) (us : List Value), us.length = 2 → bindArgs (PySem.W.fnX "__init__" d.qual d.params d.body d.scope cl .none kV doc pm an cdv ct) ⟨us, []⟩ = pure ((d.params.args.map (·.arg)).zip us)) :
    LOk (M.L P w K mg base G) := by
  have c1 : He.SaysD M.fa M.dfs K := congrArg (fun z : AlX => z.1) c
  have c2 : (M.xs.all (excB K P.main.file)) = true := congrArg (fun z : AlX => z.2.1) c
  have c3 : (M.xs.map fun d => inObs K d.name) = M.xs.map ExD.val := congrArg (fun z : AlX => z.2.2) c
  have fac : ∀ f ∈ M.fa, f.ok K = true := fun f hf => by
    obtain ⟨i, hi⟩ := List.getElem?_of_mem hf
    exact c1.fact i hi
  unfold Mod.good at hg
  simp only [Bool.and_eq_true, List.all_eq_true, decide_eq_true_eq] at hg
  obtain ⟨⟨g1, g2⟩, g3⟩ := hg
  have sup : mg "super" = none := He.free_ok X Gm (fac (.free "super") (by unfold Mod.fa; simp))
  have xat : ∀ {k : Nat} {d : ExD}, M.xs[k]? = some d → (M.Z K).xad k = He.ga K d.name ∧ (M.Z K).xf k = d.fld ∧ d ∈ M.xs := fun {k d} e => by
    refine ⟨?_, ?_, List.mem_of_getElem? e⟩
    · show He.ga K ((M.xs[k]?.map (·.name)).getD Str.empty) = _
      rw [e] <;> rfl
    · show (M.xs[k]?.map (·.fld)).getD Str.empty = _
      rw [e] <;> rfl
  refine ⟨fun x hx => ?_, fun x v hx => ?_, fun x k hk => ?_, fun x cs hk => ?_, fun k fl hk => ?_⟩
  · have hx : x ∈ M.free := by simpa [Mod.T] using hx
    exact He.free_ok X Gm (fac (.free x) (by unfold Mod.fa; simp [hx]))
  · have hm := mem_of_lookup hx
    obtain ⟨⟨y, i⟩, hm2, e⟩ := List.mem_map.mp (show (x, v) ∈ M.con.map fun p => (p.1, A.int p.2) from hm)
    cases e
    obtain ⟨t, ht⟩ := He.int_ok X Gm (fac (.int y i) (by
      unfold Mod.fa
      refine List.mem_append_left _ (List.mem_append_right _ ?_)
      exact List.mem_map.mpr ⟨(y, i), hm2, rfl⟩))
    exact ⟨_, .int i, ht, ⟨t, rfl⟩, fun F => .int i⟩
  · have e := idx_of_lookup (show (M.xs.map (·.name)).zipIdx.lookup x = some k from hk)
    rw [List.getElem?_map, Option.map_eq_some_iff] at e
    obtain ⟨d, e, rfl⟩ := e
    obtain ⟨z1, z2, z3⟩ := xat e
    have g := g1 d z3
    refine exc_ok (He.glo_ok X Gm (fac (.glo d.name) ?_)) sup z1 z2 (List.all_eq_true.mp c2 d z3) ?_ g.1 htop (hx d z3) ?_
    · unfold Mod.fa
      refine List.mem_append_left _ (List.mem_append_left _ (List.mem_append_left _ (List.mem_append_left _ (List.mem_append_right _ ?_))))
      exact List.mem_map.mpr ⟨d, z3, rfl⟩
    · have := congrArg (fun l => l[k]?) c3
      simp only [List.getElem?_map, e, Option.map_some, Option.some.injEq] at this
      exact this
    · have q := g.2
      unfold iniArgs at q
      split at q
      · rename_i i a b e1 e2
        rw [Bool.and_eq_true] at q
        refine ⟨a.arg, b.arg, by rw [e2] <;> rfl, fun i' h' => ?_⟩
        rw [e1] at h'
        cases h'
        exact ⟨of_decide_eq_true q.1, of_decide_eq_true q.2⟩
      · cases q
  · have hm := mem_of_lookup (show M.tk.lookup x = some cs from hk)
    refine ⟨_, He.glo_ok X Gm (fac (.glo x) ?_), fun k b hb => ?_⟩
    · unfold Mod.fa
      refine List.mem_append_left _ (List.mem_append_left _ (List.mem_append_left _ (List.mem_append_right _ ?_)))
      exact List.mem_map.mpr ⟨(x, cs), hm, rfl⟩
    · have hl : k < cs.length := (List.getElem?_eq_some_iff.mp hb).1
      have hl2 : k < M.xs.length := Nat.lt_of_lt_of_le hl (g2 _ hm)
      have e : M.xs[k]? = some M.xs[k] := List.getElem?_eq_getElem hl2
      obtain ⟨z1, z2, z3⟩ := xat e
      show PySem.W.exmOne K (.ref ((M.Z K).xad k)) _ = _
      rw [z1]
      refine He.exm_ok (fac (.exm _ x b) ?_)
      unfold Mod.fa
      refine List.mem_append_right _ (List.mem_flatMap.mpr ⟨(x, cs), hm, List.mem_map.mpr ⟨(M.xs[k], b), ?_, rfl⟩⟩)
      exact List.mem_of_getElem? (i := k) (by rw [List.getElem?_zip_eq_some]; exact ⟨e, hb⟩)
  · rw [show (M.L P w K mg base G).T.xf = M.xs.map (·.fld) from rfl, List.getElem?_map, Option.map_eq_some_iff] at hk
    obtain ⟨d, e, rfl⟩ := hk
    obtain ⟨z1, z2, z3⟩ := xat e
    have q := List.all_eq_true.mp c2 d z3
    unfold excB at q
    simp only [Bool.and_eq_true] at q
    exact ⟨z2, by show XfC K ((M.Z K).xad k); rw [z1]; exact xfB_ok q.1.2, by show PySem.W.findIn K (.ref ((M.Z K).xad k)) _ = _; rw [z1]; exact He.eqO_ok q.2⟩
theorem Mod.def_ (c : He.SaysD M.fa M.dfs K) (X : K.In h) (Gm : h.Ns mainGlobals mg) {f : Nat} {x : Str} {F : Fn} (e1 : M.names[f]? = some x) (e2 : M.fns[f]? = some F) :
    ∃ fd, mg x = some (.ref (He.ga K x)) ∧ PySem.W.keepIn K (.ref (He.ga K x)) = true ∧ FunD K x x F.params F.body F.scope [] [] (He.ga K x) fd := by
  obtain ⟨fd, hf⟩ := c.def_ f (d := ⟨(x, none), x, x, F.params, F.body, F.scope, [], []⟩) (by
    unfold Mod.dfs
    rw [List.getElem?_map, (List.getElem?_zip_eq_some (z := (x, F))).mpr ⟨e1, e2⟩] <;> rfl)
  refine ⟨fd, He.glo_ok X Gm ?_, hf.kp, hf⟩
  have hm : He.Fa.glo x ∈ M.fa := by
    unfold Mod.fa
    refine List.mem_append_left _ (List.mem_append_left _ (List.mem_append_left _ (List.mem_append_left _ (List.mem_append_left _ ?_))))
    exact List.mem_map.mpr ⟨x, List.mem_of_getElem? e1, rfl⟩
  obtain ⟨i, hi⟩ := List.getElem?_of_mem hm
  exact c.fact i hi
/-- parameters as they are written -/
def BindF (F : Fn) : Prop := ∀ (x : Str) (kV doc pm : Value) (an : Option Addr) (cdv ct : Value) (us : List Value), us.length = F.ps.length → bindArgs (PySem.W.fnOf x x F.params F.body F.scope .none kV doc pm an cdv ct) ⟨us, []⟩ = pure (F.ps.zip us)
theorem Mod.facts (c : He.SaysD M.fa M.dfs K) (X : K.In h) (Gm : h.Ns mainGlobals mg) (hl : M.names.length = M.fns.length) (hG : M.fns.map (compFn M.T) = G.fns.map some) (hb : ∀ F ∈ M.fns, BindF F) :
    ∀ x f, (M.L P w K mg base G).T.fn.lookup x = some f → ∃ F, FnFact (M.L P w K mg base G) x f F := fun x f hx => by
  have e1 := idx_of_lookup (show M.names.zipIdx.lookup x = some f from hx)
  have hlt : f < M.fns.length := by rw [← hl]; exact (List.getElem?_eq_some_iff.mp e1).1
  have e2 : M.fns[f]? = some M.fns[f] := List.getElem?_eq_getElem hlt
  obtain ⟨fd, h1, h2, h3⟩ := Mod.def_ c X Gm e1 e2
  refine ⟨M.fns[f], ⟨_, fd, x, x, [], h1, h2, h3.bindsN (hb _ (List.getElem_mem hlt) x), h3⟩, ?_⟩
  have := congrArg (fun l => l[f]?) hG
  simp only [List.getElem?_map, e2, Option.map_some] at this
  cases e : G.fns[f]? with
  | none => rw [e] at this; cases this
  | some g =>
    rw [e] at this
    have z : compFn M.T M.fns[f] = some g := Option.some.inj this
    exact ⟨z, congrArg Option.isSome z⟩
/-- the law -/
theorem Mod.law {n k f : Nat} {x nm : Str} {F : Fn} (X : K.In h) (Gm : h.Ns mainGlobals mg) (c : obsX M.fa M.dfs M.xs P.main.file K = valX M.dfs M.xs) (hg : M.good = true) (htop : (P.main.scope.names.lookup ("super" : Str)).isSome = false)
    (hx : ∀ d ∈ M.xs, ∀ (cl : List (Str × Addr)) (kV doc pm : Value) (an : Option Addr) (cdv ct : Value) (us : List Value), us.length = 2 → bindArgs (PySem.W.fnX "__init__" d.qual d.params d.body d.scope cl .none kV doc pm an cdv ct) ⟨us, []⟩ = pure ((d.params.args.map (·.arg)).zip us))
    (hG : M.fns.map (compFn M.T) = G.fns.map some) (hb : ∀ F ∈ M.fns, BindF F) (e1 : M.names[f]? = some nm) (e2 : M.fns[f]? = some F) (hps : F.ps = [x]) {fa : Addr} (hfa : mg nm = some (.ref fa))
    (hl : ∀ ns : List Int, ns.length ≤ n → ∃ h', callF G (k + 1) f [.a (.scr ns)] [] = .ok (.a (.bl true)) h') :
    ∃ (K : PySem.W.Frag) (fd : FuncData) (sp : Sp), K.In h ∧ (∀ (s : Shared) (u : Value), BindsTo s fd ⟨[u], []⟩ [(x, u)]) ∧
        (∀ (H : Hp) (a : Addr) (ns : List Int), ns.length ≤ n → Only H → SqL K H a (ns.map V.int) → sp [.ref a] H (fun v _ => v = .bl true) fun _ _ _ => False) ∧
        ∀ base : Heap, K.In base → base.Ns mainGlobals mg → FnOk P w K mg base (L2.CX P w) (k + 1 + 2) fa fd [x] sp := by
  have c1 : He.SaysD M.fa M.dfs K := congrArg (fun z : AlX => z.1) c
  obtain ⟨fd, h1, h2, h3⟩ := Mod.def_ c1 X Gm e1 e2
  have efa : fa = He.ga K nm := by
    rw [hfa] at h1
    cases h1
    rfl
  subst efa
  have hbF := hb F (List.mem_of_getElem? e2) nm
  have hlen : M.names.length = M.fns.length := by
    unfold Mod.good at hg
    simp only [Bool.and_eq_true, decide_eq_true_eq] at hg
    exact hg.2
  have hcomp : compFn M.T F = G.fns[f]? ∧ (compFn M.T F).isSome = true := by
    have := congrArg (fun l => l[f]?) hG
    simp only [List.getElem?_map, e2, Option.map_some] at this
    cases e : G.fns[f]? with
    | none => rw [e] at this; cases this
    | some g =>
      rw [e] at this
      have z : compFn M.T F = some g := Option.some.inj this
      exact ⟨z, congrArg Option.isSome z⟩
  refine ⟨K, fd, fun vs H Q _ => ∃ (a : Addr) (ns : List Int), vs = [.ref a] ∧ SqL K H a (ns.map V.int) ∧ ns.length ≤ n ∧ ∀ H', Q (.bl true) H', X, fun s u => ?_, fun H a ns hn _ hS => ⟨a, ns, rfl, hS, hn, fun _ => rfl⟩, fun base hb1 hb2 => ?_⟩
  · have := FunD.bindsA (ps := F.ps) h3 hbF s [u] (by rw [hps] <;> rfl)
    rw [hps] at this
    exact this
  · have l : LOk (M.L P w K mg base G) := Mod.lok X Gm c hg htop hx
    have hfns := fns_ok l (Mod.facts (P := P) (w := w) (base := base) c1 X Gm hlen hG hb) k
    obtain ⟨fI, z1, z2, z3⟩ := fn_at (L := M.L P w K mg base G) (f := f) l hfns h3 hcomp.1 hcomp.2
    rw [hps] at z3
    exact law_ok (L := M.L P w K mg base G) (k := k + 1 + 2) z3 hl
end
/-- the end of a law: what may fly out depends on the world -/
theorem endW {l : PySem.W.OpenLaw} {n k : Nat} {q : Program} {loose : List Str} {XP : (Str → Option Value) → Heap → Prop} {YP : World → Heap → Prop} {d : DefRec} {x : Str} (hmost : l.most = some n) (hsize : n ≤ sizeLine) (hdflt : d.params.defaults = []) (hroom : Room k callerA)
    (F : ∀ (w : World) (mg : Str → Option Value) (fa : Addr) (h : Heap), YP w h → h.Ns mainGlobals mg → mg d.name = some (.ref fa) → ∃ (K : PySem.W.Frag) (fd : FuncData) (sp : Sp), K.In h ∧ (∀ (s : Shared) (u : Value), BindsTo s fd ⟨[u], []⟩ [(x, u)]) ∧
        (∀ (H : Hp) (a : Addr) (ns : List Int), ns.length ≤ n → Only H → SqL K H a (ns.map V.int) → sp [.ref a] H (fun v _ => v = .bl true) fun _ _ _ => False) ∧ ∀ base : Heap, K.In base → base.Ns mainGlobals mg → FnOk l.prog w K mg base (L2.CX l.prog w) k fa fd [x] sp) :
    PySem.W.WalkO q loose XP YP l.row.toRowW d [] (fun f vs => PySem.call f vs) :=
  Att.attach_call hmost hdflt fun w _ s₁ mg mb fa o pm cd doc a vs ns G Y _ _ _ hmg hobj hints hlen hg => by
    obtain ⟨K, fd, sp, KX, hb, hsp, hF⟩ := F w mg fa _ Y G.T.g hmg
    refine law_call KX G.T.g G.T.b G.T.builtins G.T.nolimit hg hobj hints (Nat.le_trans hlen hsize) hroom hF hb (fun H hO hS => hsp H a ns hlen hO hS) fun H e s' c => ?_
    obtain ⟨_, _, _, _, _, _, _, _, _, _, _, _, z⟩ := c
    exact z
end MP
end
section
set_option Elab.async false
set_option linter.all false
set_option maxRecDepth 100000
set_option maxHeartbeats 0
namespace K27
open PySem PySem.Spec L2 MP
open PyProof.Rows hiding St
abbrev prog : Program := PySem.Challenge.pw_designproof_k27_whole_tables_of_pairs
abbrev R : PySem.W.OpenRow := PySem.W.OpenLaw.row PySem.Challenge.rw_designproof_k27_whole_tables_of_pairs
def defOf : Stmt → Option (Str × Arguments × List Stmt × Scope)
  | .FunctionDef n a b _ _ _ sc _ _ _ => some (n, a, b, sc)
  | _ => none
def fdefs := prog.main.body.filterMap defOf
def mkF (i : Nat) (N ps : List Str) : Fn := match fdefs[i]? with
  | some (_, a, b, sc) => ⟨a, b, sc, N, ps⟩
  | none => ⟨⟨[], [], none, [], [], none, []⟩, [], default, [], []⟩
def initOf (q : Str) : Stmt → Option ExD
  | .ClassDef n _ _ [.FunctionDef m a b _ _ _ sc _ _ _] .. => some ⟨n, "what", q, a, b, sc⟩
  | _ => none
def xD (i : Nat) (q : Str) : ExD := match prog.main.body[i]? with
  | some s => (initOf q s).getD ⟨"", "", "", ⟨[], [], none, [], [], none, []⟩, [], default⟩
  | none => ⟨"", "", "", ⟨[], [], none, [], [], none, []⟩, [], default⟩
def f0 : FnI := ⟨8, 2, (.seq (.ite (.or (.cmp .Lt (.var 0) (.cst (.int 3))) (.or (.cmp .Eq (.bin false .Mod (.var 0) (.cst (.int 2))) (.cst (.int 0))) (.or (.cmp .Gt (.var 0) (.glb "MOST_BY" (.int 21))) (.not (.bi false .all [(.lc false (.cmp .Eq (.bi false .len [(.var 4)]) (.cst (.int 2))) (.nm 4) (.seq (.var 1)) none [3, 4])]))))) (.seq (.ret (.cst (.bl false))) .skip) .skip) (.seq (.ite (.cmp .NotEq (.bi false .sorted [(.lc2 (.var 5) (.nm 4) (.seq (.var 1)) none (.nm 5) (.seq (.var 4)) none [3, 4, 5] [5])]) (.lrg2 false false (.cst (.int 1)) (.var 0))) (.seq (.ret (.cst (.bl false))) .skip) .skip) (.seq (.asg (.nm 2) (.bi false .sorted [(.lc false (.bi false .min2 [(.bin false .Mod (.bin false .Sub (.var 6) (.var 7)) (.var 0)), (.bin false .Mod (.bin false .Sub (.var 7) (.var 6)) (.var 0))]) (.tp [6, 7]) (.seq (.var 1)) none [3, 6, 7])])) (.seq (.ret (.cmp .Eq (.var 2) (.lrg2 false false (.cst (.int 1)) (.bin false .FloorDiv (.bin false .Add (.var 0) (.cst (.int 1))) (.cst (.int 2)))))) .skip))))⟩
def f1 : FnI := ⟨7, 2, (.seq (.asg (.nm 1) (.bi false .toTuple [(.lc false (.bi false .toTuple [(.var 2)]) (.nm 2) (.seq (.var 1)) none [6, 2])])) (.seq (.ite (.not (.call 0 [(.var 0), (.var 1)])) (.seq (.raise 0 (.cst (.str "starter"))) .skip) .skip) (.seq (.asg (.nm 3) (.dnew false)) (.seq (.for_ (.tp [4, 2]) (.enu (.var 1)) (.seq (.asg (.nm 5) (.bin false .Mod (.bi false .sum [(.var 2)]) (.var 0))) (.seq (.ite (.cmp .Eq (.var 5) (.cst (.int 0))) (.seq (.ret (.tup [(.cst (.str "weak")), (.var 0), (.var 1), (.var 4), (.var 4)])) .skip) .skip) (.seq (.ite (.cmp .In (.var 5) (.var 3)) (.seq (.ret (.tup [(.cst (.str "weak")), (.var 0), (.var 1), (.idx (.var 3) (.var 5)), (.var 4)])) .skip) .skip) (.seq (.setIx (.var 3) (.var 5) (.var 4)) .skip)))) [4, 2, 5]) (.seq (.ret (.tup [(.cst (.str "strong")), (.var 0), (.var 1)])) .skip)))))⟩
def f2 : FnI := ⟨2, 1, (.seq (.ite (.or (.cmp .Lt (.var 0) (.cst (.int 3))) (.cmp .Eq (.bin false .Mod (.var 0) (.cst (.int 2))) (.cst (.int 0)))) (.seq (.raise 0 (.cst (.str "by"))) .skip) .skip) (.seq (.ite (.cmp .Gt (.var 0) (.cst (.int 15))) (.seq (.raise 1 (.cst (.str "by"))) .skip) .skip) (.seq (.asg (.nm 1) (.call 3 [(.var 0), (.lst false []), (.lst false []), (.lst false [])])) (.seq (.ite (.cmp .Is (.var 1) (.cst .non)) (.seq (.ret (.tup [(.cst (.str "startless")), (.var 0)])) .skip) .skip) (.seq (.ret (.tup [(.cst (.str "starts")), (.var 0), (.bi false .toTuple [(.var 1)])])) .skip)))))⟩
def f3 : FnI := ⟨14, 4, (.seq (.asg (.nm 4) (.lc2 (.var 13) (.nm 12) (.seq (.var 1)) none (.nm 13) (.seq (.var 12)) none [11, 12, 13] [13])) (.seq (.asg (.nm 5) (.lc false (.var 13) (.nm 13) (.rng2 (.cst (.int 1)) (.var 0)) (some (.cmp .NotIn (.var 13) (.var 4))) [11, 13])) (.seq (.ite (.not (.var 5)) (.seq (.ret (.var 1)) .skip) .skip) (.seq (.asg (.nm 6) (.idx (.var 5) (.cst (.int 0)))) (.seq (.for_ (.nm 7) (.seq (.slc false (.var 5) (some (.cst (.int 1))) none)) (.seq (.asg (.nm 8) (.bi false .min2 [(.bin false .Sub (.var 7) (.var 6)), (.bin false .Add (.bin false .Sub (.var 0) (.var 7)) (.var 6))])) (.seq (.asg (.nm 9) (.bin false .Mod (.bin false .Add (.var 6) (.var 7)) (.var 0))) (.seq (.ite (.and (.cmp .NotIn (.var 8) (.var 2)) (.and (.cmp .NotEq (.var 9) (.cst (.int 0))) (.cmp .NotIn (.var 9) (.var 3)))) (.seq (.asg (.nm 10) (.call 3 [(.var 0), (.bin false .Add (.var 1) (.lst false [(.tup [(.var 6), (.var 7)])])), (.bin false .Add (.var 2) (.lst false [(.var 8)])), (.bin false .Add (.var 3) (.lst false [(.var 9)]))])) (.seq (.ite (.cmp .IsNot (.var 10) (.cst .non)) (.seq (.ret (.var 10)) .skip) .skip) .skip)) .skip) .skip))) [10, 8, 9, 7]) (.seq (.ret (.cst .non)) .skip))))))⟩
def f4 : FnI := ⟨12, 2, (.seq (.asg (.nm 2) (.call 1 [(.var 0), (.var 1)])) (.seq (.ite (.cmp .NotEq (.idx (.var 2) (.cst (.int 0))) (.cst (.str "strong"))) (.seq (.raise 0 (.cst (.str "starter"))) .skip) .skip) (.seq (.asg (.nm 3) (.lc false (.bin true .Mult (.lst true [(.tup [])]) (.var 0)) (.nm 10) (.rng1 (.var 0)) none [9, 10])) (.seq (.for_ (.nm 4) (.rng1 (.var 0)) (.seq (.asg (.nm 5) (.idx (.var 3) (.var 4))) (.seq (.setIx (.var 5) (.var 4) (.tup [(.var 4), (.var 0)])) (.seq (.for_ (.tp [6, 7]) (.seq (.idx (.var 2) (.cst (.int 2)))) (.seq (.asg (.nm 8) (.bi false .sorted [(.tup [(.bin false .Mod (.bin false .Add (.var 6) (.var 4)) (.var 0)), (.bin false .Mod (.bin false .Add (.var 7) (.var 4)) (.var 0))])])) (.seq (.setIx (.var 5) (.bin false .Mod (.bin false .Sub (.bin false .Sub (.var 4) (.var 6)) (.var 7)) (.var 0)) (.bi false .toTuple [(.var 8)])) .skip)) [6, 8, 7]) .skip))) [6, 5, 8, 7, 4]) (.seq (.ret (.bi false .toTuple [(.lc false (.bi false .toTuple [(.var 11)]) (.nm 11) (.seq (.var 3)) none [9, 11])])) .skip)))))⟩
def f5 : FnI := ⟨13, 1, (.seq (.asg (.nm 0) (.bi false .toTuple [(.lc false (.bi false .toTuple [(.lc false (.bi false .toTuple [(.var 11)]) (.nm 11) (.seq (.var 10)) none [9, 11])]) (.nm 10) (.seq (.var 0)) none [9, 10])])) (.seq (.ite (.not (.call 6 [(.var 0)])) (.seq (.raise 0 (.cst (.str "cells"))) .skip) .skip) (.seq (.asg (.nm 1) (.bi false .len [(.var 0)])) (.seq (.asg (.nm 2) (.lc false (.lc false (.idx (.var 10) (.var 12)) (.nm 10) (.seq (.var 0)) none [9, 10]) (.nm 12) (.rng1 (.var 1)) none [9, 12])) (.seq (.for_ (.tp [3, 4]) (.enu (.tup [(.var 0), (.var 2)])) (.seq (.for_ (.tp [5, 6]) (.enu (.var 4)) (.seq (.ite (.not (.call 7 [(.var 6), (.var 1)])) (.seq (.ret (.tup [(.cst (.str "cramped")), (.var 0), (.tup [(.var 3), (.var 5)])])) .skip) .skip) .skip) [5, 6]) .skip) [5, 3, 6, 4]) (.seq (.for_ (.nm 7) (.rng1 (.bin false .Add (.var 1) (.cst (.int 1)))) (.seq (.for_ (.nm 8) (.rng1 (.var 7)) (.seq (.ite (.cmp .NotEq (.call 8 [(.var 0), (.tup [(.var 8), (.var 7)])]) (.cst (.int 1))) (.seq (.ret (.tup [(.cst (.str "cramped")), (.var 0), (.tup [(.cst (.int 2)), (.var 8), (.var 7)])])) .skip) .skip) .skip) [8]) .skip) [8, 7]) (.seq (.ret (.tup [(.cst (.str "room")), (.var 0)])) .skip)))))))⟩
def f6 : FnI := ⟨5, 1, (.seq (.asg (.nm 1) (.bi false .len [(.var 0)])) (.seq (.ite (.or (.not (.chn (.cst (.int 1)) [.LtE, .LtE] [(.var 1), (.glb "MOST_BY" (.int 21))])) (.or (.cmp .Eq (.bin false .Mod (.var 1) (.cst (.int 2))) (.cst (.int 0))) (.not (.bi false .all [(.lc false (.cmp .Eq (.bi false .len [(.var 2)]) (.var 1)) (.nm 2) (.seq (.var 0)) none [4, 2])])))) (.seq (.ret (.cst (.bl false))) .skip) .skip) (.seq (.for_ (.nm 2) (.seq (.var 0)) (.seq (.for_ (.nm 3) (.seq (.var 2)) (.seq (.ite (.and (.cmp .NotEq (.var 3) (.tup [])) (.or (.cmp .NotEq (.bi false .len [(.var 3)]) (.cst (.int 2))) (.not (.chn (.cst (.int 0)) [.LtE, .Lt, .LtE] [(.idx (.var 3) (.cst (.int 0))), (.idx (.var 3) (.cst (.int 1))), (.var 1)])))) (.seq (.ret (.cst (.bl false))) .skip) .skip) .skip) [3]) .skip) [3, 2]) (.seq (.ret (.cst (.bl true))) .skip))))⟩
def f7 : FnI := ⟨5, 2, (.seq (.ret (.cmp .Eq (.bi false .sorted [(.lc2 (.var 4) (.nm 3) (.seq (.var 0)) none (.nm 4) (.seq (.var 3)) none [2, 3, 4] [4])]) (.lrg1 false false (.bin false .Add (.var 1) (.cst (.int 1)))))) .skip)⟩
def f8 : FnI := ⟨5, 2, (.seq (.ret (.bi false .len [(.lc2 (.cst (.int 1)) (.nm 3) (.seq (.var 0)) none (.nm 4) (.seq (.var 3)) (some (.cmp .Eq (.var 4) (.var 1))) [2, 3, 4] [4])])) .skip)⟩
def f9 : FnI := ⟨8, 1, (.seq (.asg (.tp [1, 2]) (.slc false (.var 0) none (some (.cst (.int 2))))) (.seq (.ite (.not (.call 6 [(.var 2)])) (.seq (.ret (.cst (.bl false))) .skip) .skip) (.seq (.ite (.cmp .Eq (.var 1) (.cst (.str "room"))) (.seq (.ret (.cmp .Eq (.idx (.call 5 [(.var 2)]) (.cst (.int 0))) (.cst (.str "room")))) .skip) .skip) (.seq (.asg (.nm 3) (.idx (.var 0) (.cst (.int 2)))) (.seq (.asg (.nm 4) (.bi false .len [(.var 2)])) (.seq (.ite (.and (.cmp .Eq (.bi false .len [(.var 3)]) (.cst (.int 2))) (.and (.cmp .In (.idx (.var 3) (.cst (.int 0))) (.tup [(.cst (.int 0)), (.cst (.int 1))])) (.chn (.cst (.int 0)) [.LtE, .Lt] [(.idx (.var 3) (.cst (.int 1))), (.var 4)]))) (.seq (.asg (.nm 5) (.ite (.cmp .Eq (.idx (.var 3) (.cst (.int 0))) (.cst (.int 0))) (.idx (.var 2) (.idx (.var 3) (.cst (.int 1)))) (.lc false (.idx (.var 7) (.idx (.var 3) (.cst (.int 1)))) (.nm 7) (.seq (.var 2)) none [6, 7]))) (.seq (.ret (.not (.call 7 [(.var 5), (.var 4)]))) .skip)) .skip) (.seq (.ite (.or (.cmp .NotEq (.bi false .len [(.var 3)]) (.cst (.int 3))) (.or (.cmp .NotEq (.idx (.var 3) (.cst (.int 0))) (.cst (.int 2))) (.not (.chn (.cst (.int 0)) [.LtE, .Lt, .LtE] [(.idx (.var 3) (.cst (.int 1))), (.idx (.var 3) (.cst (.int 2))), (.var 4)])))) (.seq (.ret (.cst (.bl false))) .skip) .skip) (.seq (.ret (.cmp .NotEq (.call 8 [(.var 2), (.slc false (.var 3) (some (.cst (.int 1))) none)]) (.cst (.int 1)))) .skip))))))))⟩
def f10 : FnI := ⟨2, 2, (.seq (.ret (.lst true [(.bi false .toList [(.var 0)]), (.cst (.int 0)), (.cst (.int 0)), (.cst (.int 1)), (.cst (.int 0)), (.var 1)])) .skip)⟩
def f11 : FnI := ⟨4, 2, (.seq (.ite (.and (.cmp .LtE (.idx (.var 0) (.cst (.int 2))) (.cst (.int 0))) (.and (.cmp .LtE (.idx (.var 0) (.cst (.int 4))) (.cst (.int 0))) (.cmp .Lt (.idx (.var 0) (.cst (.int 1))) (.bi false .len [(.idx (.var 0) (.cst (.int 0)))])))) (.seq (.asg (.nm 2) (.idx (.idx (.var 0) (.cst (.int 0))) (.idx (.var 0) (.cst (.int 1))))) (.seq (.setIx (.var 0) (.cst (.int 1)) (.bin false .Add (.idx (.var 0) (.cst (.int 1))) (.cst (.int 1)))) (.seq (.setIx (.var 0) (.cst (.int 3)) (.bin false .Mod (.bi false .int1 [(.bin false .Add (.bin false .Mult (.idx (.var 0) (.cst (.int 3))) (.cst (.int 31))) (.var 2))]) (.cst (.int 2147483647)))) (.seq (.setIx (.var 0) (.cst (.int 4)) (.cst (.int 7))) (.seq (.ite (.cmp .GtE (.var 2) (.bin false .Pow (.cst (.int 10)) (.cst (.int 18)))) (.seq (.setIx (.var 0) (.cst (.int 2)) (.var 2)) .skip) .skip) .skip))))) .skip) (.seq (.ite (.cmp .Gt (.idx (.var 0) (.cst (.int 2))) (.cst (.int 0))) (.seq (.asg (.nm 3) (.bin false .Mod (.bi false .int1 [(.idx (.var 0) (.cst (.int 2)))]) (.var 1))) (.seq (.setIx (.var 0) (.cst (.int 2)) (.bin false .FloorDiv (.idx (.var 0) (.cst (.int 2))) (.var 1))) (.seq (.setIx (.var 0) (.cst (.int 4)) (.cst (.int 0))) (.seq (.ret (.var 3)) .skip)))) .skip) (.seq (.setIx (.var 0) (.cst (.int 4)) (.bin false .Sub (.idx (.var 0) (.cst (.int 4))) (.cst (.int 1)))) (.seq (.setIx (.var 0) (.cst (.int 3)) (.bin false .Mod (.bi false .int1 [(.bin false .Add (.bin false .Mult (.idx (.var 0) (.cst (.int 3))) (.cst (.int 48271))) (.cst (.int 12345)))]) (.cst (.int 2147483647)))) (.seq (.ret (.bin false .Mod (.bin false .Mod (.bi false .int1 [(.bin false .Add (.bin false .Mult (.idx (.var 0) (.cst (.int 3))) (.cst (.int 69621))) (.cst (.int 7919)))]) (.cst (.int 2147483647))) (.var 1))) .skip)))))⟩
def f12 : FnI := ⟨3, 2, (.seq (.ite (.or (.isi (.var 1) [.tuple]) (.isi (.var 1) [.list])) (.seq (.ite (.or (.cmp .NotEq (.isi (.var 1) [.tuple]) (.isi (.var 0) [.tuple])) (.cmp .NotEq (.isi (.var 1) [.list]) (.isi (.var 0) [.list]))) (.seq (.ret (.cst (.bl false))) .skip) .skip) (.seq (.ite (.cmp .NotEq (.bi false .len [(.var 0)]) (.bi false .len [(.var 1)])) (.seq (.ret (.cst (.bl false))) .skip) .skip) (.seq (.for_ (.nm 2) (.rng1 (.bi false .len [(.var 1)])) (.seq (.ite (.not (.call 12 [(.idx (.var 0) (.var 2)), (.idx (.var 1) (.var 2))])) (.seq (.ret (.cst (.bl false))) .skip) .skip) .skip) [2]) (.seq (.ret (.cst (.bl true))) .skip)))) .skip) (.seq (.ite (.or (.cmp .Is (.var 1) (.cst .non)) (.isi (.var 1) [.bool])) (.seq (.ret (.and (.cmp .Eq (.cmp .Is (.var 0) (.cst .non)) (.cmp .Is (.var 1) (.cst .non))) (.and (.or (.cmp .Is (.var 1) (.cst .non)) (.isi (.var 0) [.bool])) (.cmp .Eq (.var 0) (.var 1))))) .skip) .skip) (.seq (.ite (.isi (.var 1) [.int]) (.seq (.ret (.and (.isi (.var 0) [.int]) (.and (.not (.isi (.var 0) [.bool])) (.cmp .Eq (.var 0) (.var 1))))) .skip) .skip) (.seq (.ret (.and (.isi (.var 0) [.str]) (.cmp .Eq (.var 0) (.var 1)))) .skip))))⟩
def f13 : FnI := ⟨3, 1, (.seq (.ite (.isi (.var 0) [.tuple]) (.seq (.ret (.cmp .NotIn (.cst (.bl false)) (.lc false (.call 13 [(.var 2)]) (.nm 2) (.seq (.var 0)) none [1, 2]))) .skip) .skip) (.seq (.ret (.or (.isi (.var 0) [.str]) (.and (.isi (.var 0) [.int]) (.not (.isi (.var 0) [.bool]))))) .skip))⟩
def f14 : FnI := ⟨3, 2, (.seq (.ite (.and (.isi (.var 1) [.tuple]) (.cmp .Gt (.bi false .len [(.var 1)]) (.cst (.int 0)))) (.seq (.asg (.nm 2) (.call 11 [(.var 0), (.bi false .len [(.var 1)])])) (.seq (.ret (.bin false .Add (.bin false .Add (.slc false (.var 1) none (some (.var 2))) (.tup [(.call 14 [(.var 0), (.idx (.var 1) (.var 2))])])) (.slc false (.var 1) (some (.bin false .Add (.var 2) (.cst (.int 1)))) none))) .skip)) .skip) (.seq (.ite (.isi (.var 1) [.int]) (.seq (.ret (.bin false .Add (.var 1) (.idx (.tup [(.cst (.int 1)), (.bin false .Sub (.cst (.int 0)) (.cst (.int 1))), (.cst (.int 2)), (.bin false .Sub (.cst (.int 0)) (.var 1)), (.var 1), (.bin false .Sub (.cst (.int 0)) (.bin false .Mult (.cst (.int 2)) (.var 1))), (.bin false .Pow (.cst (.int 10)) (.cst (.int 12)))]) (.call 11 [(.var 0), (.cst (.int 7))])))) .skip) .skip) (.seq (.ret (.var 1)) .skip)))⟩
def f15 : FnI := ⟨5, 1, (.seq (.asg (.nm 1) (.bi false .len [(.var 0)])) (.seq (.ite (.or (.not (.chn (.cst (.int 1)) [.LtE, .LtE] [(.var 1), (.cst (.int 21))])) (.or (.cmp .Eq (.bin false .Mod (.bi false .int1 [(.var 1)]) (.cst (.int 2))) (.cst (.int 0))) (.cmp .NotEq (.lc false (.var 2) (.nm 2) (.seq (.var 0)) (some (.cmp .NotEq (.bi false .len [(.var 2)]) (.var 1))) [3, 2]) (.lst false [])))) (.seq (.ret (.cst (.bl false))) .skip) .skip) (.seq (.for_ (.nm 2) (.seq (.var 0)) (.seq (.ite (.cmp .NotEq (.lc false (.var 4) (.nm 4) (.seq (.var 2)) (some (.and (.cmp .NotEq (.var 4) (.tup [])) (.or (.cmp .NotEq (.bi false .len [(.var 4)]) (.cst (.int 2))) (.not (.chn (.cst (.int 0)) [.LtE, .Lt, .LtE] [(.idx (.var 4) (.cst (.int 0))), (.idx (.var 4) (.cst (.int 1))), (.var 1)]))))) [3, 4]) (.lst false [])) (.seq (.ret (.cst (.bl false))) .skip) .skip) .skip) [2]) (.seq (.ret (.cst (.bl true))) .skip))))⟩
def f16 : FnI := ⟨14, 1, (.seq (.asg (.nm 1) (.bi false .len [(.var 0)])) (.seq (.asg (.nm 2) (.lst true [])) (.seq (.for_ (.nm 3) (.seq (.tup [(.cst (.int 0)), (.cst (.int 1))])) (.seq (.for_ (.nm 4) (.rng1 (.var 1)) (.seq (.asg (.nm 5) (.lst false [])) (.seq (.for_ (.nm 6) (.rng1 (.var 1)) (.seq (.asg (.nm 5) (.bin false .Add (.var 5) (.bi false .toList [(.idx (.tup [(.idx (.idx (.var 0) (.var 4)) (.var 6)), (.idx (.idx (.var 0) (.var 6)) (.var 4))]) (.var 3))]))) .skip) [6]) (.seq (.ite (.cmp .NotEq (.bi false .sorted [(.var 5)]) (.lrg1 false false (.bin false .Add (.var 1) (.cst (.int 1))))) (.seq (.expr (.bm .append (.var 2) [(.tup [(.var 3), (.var 4)])])) .skip) .skip) .skip))) [4, 6, 5]) .skip) [4, 6, 3, 5]) (.seq (.asg (.nm 7) (.lst false [])) (.seq (.for_ (.nm 8) (.seq (.var 0)) (.seq (.asg (.nm 7) (.bin false .Add (.var 7) (.lc false (.var 11) (.nm 11) (.seq (.var 8)) (some (.cmp .NotEq (.var 11) (.tup []))) [10, 11]))) .skip) [8]) (.seq (.seq (.frz [2]) (.for_ (.nm 9) (.rng1 (.bin false .Add (.var 1) (.cst (.int 1)))) (.seq (.asg (.nm 2) (.bin false .Add (.var 2) (.lc false (.tup [(.cst (.int 2)), (.var 12), (.var 9)]) (.nm 12) (.rng1 (.var 9)) (some (.cmp .NotEq (.bi false .len [(.lc false (.cst (.int 1)) (.nm 13) (.seq (.var 7)) (some (.cmp .Eq (.var 13) (.tup [(.var 12), (.var 9)]))) [10, 13])]) (.cst (.int 1)))) [10, 12]))) .skip) [9])) (.seq (.ret (.var 2)) .skip)))))))⟩
def f17 : FnI := ⟨3, 1, (.seq (.asg (.tp [1, 2]) (.slc false (.var 0) none (some (.cst (.int 2))))) (.seq (.ite (.not (.call 15 [(.var 2)])) (.seq (.ret (.cst (.bl false))) .skip) .skip) (.seq (.ite (.cmp .Eq (.var 1) (.cst (.str "room"))) (.seq (.ret (.cmp .Eq (.call 16 [(.var 2)]) (.lst false []))) .skip) .skip) (.seq (.ret (.cmp .In (.idx (.var 0) (.cst (.int 2))) (.call 16 [(.var 2)]))) .skip))))⟩
def f18 : FnI := ⟨3, 2, (.seq (.try_ (.seq (.ite (.cmp .Eq (.var 0) (.cst (.int 0))) (.seq (.expr (.call 5 [(.var 1)])) .skip) (.seq (.expr (.call 4 [(.cst (.int 5)), (.var 1)])) .skip)) .skip) [([true, false], (some 2), (.seq (.ret (.var 2)) .skip))]) (.seq (.ret (.cst .non)) .skip))⟩
def f19 : FnI := ⟨23, 1, (.seq (.asg (.nm 1) (.call 10 [(.var 0), (.cst (.int 0))])) (.seq (.asg (.nm 2) (.idx (.tup [(.cst (.int 7)), (.cst (.int 11)), (.cst (.int 13))]) (.call 11 [(.var 1), (.cst (.int 3))]))) (.seq (.asg (.nm 3) (.idx (.call 2 [(.var 2)]) (.cst (.int 2)))) (.seq (.asg (.nm 4) (.lc false (.bin true .Mult (.lst true [(.tup [])]) (.var 2)) (.nm 21) (.rng1 (.var 2)) none [20, 21])) (.seq (.for_ (.nm 5) (.rng1 (.var 2)) (.seq (.asg (.nm 6) (.idx (.var 4) (.var 5))) (.seq (.setIx (.var 6) (.var 5) (.tup [(.var 5), (.var 2)])) (.seq (.for_ (.tp [7, 8]) (.seq (.var 3)) (.seq (.setIx (.var 6) (.bin false .Mod (.bi false .int1 [(.bin false .Sub (.bin false .Sub (.var 5) (.var 7)) (.var 8))]) (.var 2)) (.bi false .toTuple [(.bi false .sorted [(.tup [(.bin false .Mod (.bi false .int1 [(.bin false .Add (.var 7) (.var 5))]) (.var 2)), (.bin false .Mod (.bi false .int1 [(.bin false .Add (.var 8) (.var 5))]) (.var 2))])])])) .skip) [7, 8]) .skip))) [7, 6, 8, 5]) (.seq (.asg (.nm 4) (.bi false .toTuple [(.lc false (.bi false .toTuple [(.var 22)]) (.nm 22) (.seq (.var 4)) none [20, 22])])) (.seq (.ite (.not (.call 12 [(.call 4 [(.var 2), (.var 3)]), (.var 4)])) (.seq (.ret (.cst (.bl false))) .skip) .skip) (.seq (.asg (.nm 9) (.lc false (.bi true .toList [(.var 22)]) (.nm 22) (.seq (.var 4)) none [20, 22])) (.seq (.for_ (.nm 10) (.rng1 (.call 11 [(.var 1), (.cst (.int 4))])) (.seq (.par [5, 11] [(.call 11 [(.var 1), (.var 2)]), (.call 11 [(.var 1), (.var 2)])]) (.seq (.asg (.nm 6) (.idx (.var 9) (.var 5))) (.seq (.asg (.nm 12) (.idx (.var 9) (.call 11 [(.var 1), (.var 2)]))) (.seq (.setIx (.var 6) (.var 11) (.idx (.tup [(.tup []), (.idx (.var 12) (.var 11)), (.bi false .toTuple [(.bi false .sorted [(.tup [(.call 11 [(.var 1), (.var 2)]), (.var 2)])])]), (.idx (.idx (.var 4) (.var 5)) (.var 11))]) (.call 11 [(.var 1), (.cst (.int 4))]))) .skip)))) [12, 6, 10, 11, 5]) (.seq (.asg (.nm 9) (.bi false .toTuple [(.lc false (.bi false .toTuple [(.var 22)]) (.nm 22) (.seq (.var 9)) none [20, 22])])) (.seq (.for_ (.nm 6) (.seq (.tup [(.var 4), (.var 9), (.tup [(.tup [(.tup [(.cst (.int 0)), (.cst (.int 1))])])]), (.tup [(.tup [(.tup [])])])])) (.seq (.asg (.nm 13) (.call 5 [(.lc false (.bi false .toList [(.var 22)]) (.nm 22) (.seq (.var 6)) none [20, 22])])) (.seq (.asg (.nm 14) (.call 16 [(.var 6)])) (.seq (.ite (.or (.cmp .NotEq (.idx (.var 13) (.cst (.int 0))) (.idx (.tup [(.cst (.str "cramped")), (.cst (.str "room"))]) (.bi false .int1 [(.cmp .Eq (.var 14) (.lst false []))]))) (.or (.cmp .NotEq (.idx (.var 13) (.cst (.int 1))) (.var 6)) (.or (.not (.call 13 [(.var 13)])) (.not (.call 17 [(.var 13)]))))) (.seq (.ret (.cst (.bl false))) .skip) .skip) (.seq (.asg (.nm 15) (.bi false .len [(.var 6)])) (.seq (.asg (.nm 16) (.lst false [(.var 13), (.tup [(.cst (.str "room")), (.var 6)]), (.tup [(.cst (.str "cramped")), (.var 6), (.tup [(.call 11 [(.var 1), (.cst (.int 2))]), (.call 11 [(.var 1), (.var 15)])])])])) (.seq (.asg (.nm 16) (.bin false .Add (.var 16) (.lst false [(.tup [(.cst (.str "cramped")), (.var 6), (.tup [(.cst (.int 2)), (.call 11 [(.var 1), (.var 15)]), (.var 15)])]), (.tup [(.cst (.str "cramped")), (.var 6), (.tup [(.cst (.int 3)), (.cst (.int 0))])]), (.tup [(.cst (.str "cramped")), (.var 6), (.tup [(.cst (.int 2)), (.cst (.int 0))])])]))) (.seq (.for_ (.nm 7) (.seq (.var 16)) (.seq (.for_ (.nm 10) (.rng1 (.cst (.int 3))) (.seq (.asg (.nm 17) (.var 7)) (.seq (.for_ (.nm 18) (.rng1 (.var 10)) (.seq (.asg (.nm 17) (.bin false .Add (.slc false (.var 17) none (some (.cst (.int 1)))) (.call 14 [(.var 1), (.slc false (.var 17) (some (.cst (.int 1))) none)]))) .skip) [18]) (.seq (.ite (.not (.call 12 [(.call 9 [(.var 17)]), (.call 17 [(.var 17)])])) (.seq (.ret (.cst (.bl false))) .skip) .skip) .skip))) [17, 18, 10]) .skip) [17, 18, 7, 10]) .skip))))))) [17, 13, 14, 16, 18, 7, 6, 15, 10]) (.seq (.asg (.nm 19) (.lst false [(.call 18 [(.cst (.int 0)), (.tup [])]), (.call 18 [(.cst (.int 0)), (.tup [(.tup [(.tup []), (.tup [])]), (.tup [(.tup []), (.tup [])])])]), (.call 18 [(.cst (.int 0)), (.tup [(.tup [(.tup [(.cst (.int 0)), (.cst (.int 2))])])])]), (.call 18 [(.cst (.int 0)), (.tup [(.tup [(.tup [(.cst (.int 1)), (.cst (.int 0))])])])])])) (.seq (.asg (.nm 19) (.bin false .Add (.var 19) (.lst false [(.call 18 [(.cst (.int 0)), (.tup [(.tup [(.tup [(.cst (.int 0)), (.cst (.int 1)), (.cst (.int 2))])])])]), (.call 18 [(.cst (.int 1)), (.tup [(.tup [(.cst (.int 1)), (.cst (.int 4))]), (.tup [(.cst (.int 2)), (.cst (.int 3))])])]), (.call 18 [(.cst (.int 1)), (.tup [(.tup [(.cst (.int 1)), (.cst (.int 2))])])])]))) (.seq (.ret (.call 12 [(.var 19), (.bin false .Add (.bin false .Mult (.lst false [(.cst (.str "cells"))]) (.cst (.int 5))) (.bin false .Mult (.lst false [(.cst (.str "starter"))]) (.cst (.int 2))))])) .skip))))))))))))))⟩
def G : Prg := ⟨[f0, f1, f2, f3, f4, f5, f6, f7, f8, f9, f10, f11, f12, f13, f14, f15, f16, f17, f18, f19], []⟩
def F0 : Fn := mkF 0 ["by", "pairs", "apart", ".0", "pair", "own", "one", "two"] ["by", "pairs"]
def F1 : Fn := mkF 1 ["by", "pairs", "pair", "met", "at", "total", ".0"] ["by", "pairs"]
def F2 : Fn := mkF 2 ["by", "found"] ["by"]
def F3 : Fn := mkF 3 ["by", "pairs", "apart", "sums", "met", "left", "one", "two", "off", "total", "found", ".0", "pair", "own"] ["by", "pairs", "apart", "sums"]
def F4 : Fn := mkF 4 ["by", "pairs", "told", "rows", "y", "own", "one", "two", "pair", ".0", "_", "row"] ["by", "pairs"]
def F5 : Fn := mkF 5 ["rows", "size", "columns", "kind", "lines", "at", "line", "two", "one", ".0", "row", "cell", "x"] ["rows"]
def F6 : Fn := mkF 6 ["rows", "size", "row", "cell", ".0"] ["rows"]
def F7 : Fn := mkF 7 ["line", "size", ".0", "cell", "own"] ["line", "size"]
def F8 : Fn := mkF 8 ["rows", "pair", ".0", "row", "cell"] ["rows", "pair"]
def F9 : Fn := mkF 9 ["claim", "form", "rows", "told", "size", "line", ".0", "row"] ["claim"]
def F10 : Fn := mkF 10 ["script", "budget"] ["script", "budget"]
def F11 : Fn := mkF 11 ["pool", "size", "cell", "value"] ["pool", "size"]
def F12 : Fn := mkF 12 ["actual", "due", "k"] ["actual", "due"]
def F13 : Fn := mkF 13 ["part", ".0", "own"] ["part"]
def F14 : Fn := mkF 14 ["pool", "part", "at"] ["pool", "part"]
def F15 : Fn := mkF 15 ["rows", "size", "row", ".0", "cell"] ["rows"]
def F16 : Fn := mkF 16 ["rows", "size", "found", "kind", "at", "met", "k", "pairs", "row", "two", ".0", "cell", "one", "pair"] ["rows"]
def F17 : Fn := mkF 17 ["claim", "form", "rows"] ["claim"]
def F18 : Fn := mkF 18 ["way", "told", "e"] ["way", "told"]
def F19 : Fn := mkF 19 ["script", "pool", "by", "pairs", "rows", "y", "own", "one", "two", "changed", "turn", "x", "other", "claim", "faults", "size", "made", "asked", "more", "words", ".0", "k", "row"] ["script"]
def Fs : List Fn := [F0, F1, F2, F3, F4, F5, F6, F7, F8, F9, F10, F11, F12, F13, F14, F15, F16, F17, F18, F19]
def nms : List Str := ["is_starter", "strong", "find_strong", "_grown", "room", "roomy", "are_cells", "_has_all", "_times", "room_right", "_law_pool", "_law_draw", "_law_same", "_law_plain", "_law_touched", "_law_are", "_law_faults", "_law_right", "_law_refused", "law"]
def M : Mod := ⟨nms, Fs, [xD 2 "BadTable.__init__", xD 3 "TooLarge.__init__"], [("MOST_BY", 21)], [("BadTable", [true, false])],
  ["len", "sorted", "list", "tuple", "all", "range", "min", "enumerate", "int", "isinstance", "bool", "str", "sum"], [(65,14), (115,11), (168,12), (204,14), (214,14), (63,12), (202,12), (211,15)], [], [((179,4), ["found"])], [((28,4), ["at", "pair", "total"]), ((51,4), ["found", "off", "total", "two"]), ((67,8), ["one", "pair", "two"]), ((64,4), ["one", "own", "pair", "two", "y"]), ((82,8), ["one"]), ((81,4), ["one", "two"]), ((78,8), ["at", "line"]), ((77,4), ["at", "kind", "line", "lines"]), ((91,8), ["cell"]), ((90,4), ["cell", "row"]), ((138,8), ["k"]), ((162,4), ["row"]), ((179,4), ["two"]), ((177,4), ["row"]), ((172,12), ["k"]), ((170,8), ["at", "k", "met"]), ((169,4), ["at", "k", "kind", "met"]), ((229,16), ["more"]), ((227,12), ["asked", "more", "turn"]), ((226,8), ["asked", "more", "one", "turn"]), ((218,4), ["asked", "claim", "faults", "made", "more", "one", "own", "size", "turn"]), ((212,4), ["other", "own", "turn", "x", "y"]), ((206,8), ["one", "two"]), ((203,4), ["one", "own", "two", "y"])]⟩
theorem bd0 : BindF F0 := fun _ _ _ _ _ _ _ us hl => match us, hl with | [_, _], _ => rfl
theorem bd1 : BindF F1 := fun _ _ _ _ _ _ _ us hl => match us, hl with | [_, _], _ => rfl
theorem bd2 : BindF F2 := fun _ _ _ _ _ _ _ us hl => match us, hl with | [_], _ => rfl
theorem bd3 : BindF F3 := fun _ _ _ _ _ _ _ us hl => match us, hl with | [_, _, _, _], _ => rfl
theorem bd4 : BindF F4 := fun _ _ _ _ _ _ _ us hl => match us, hl with | [_, _], _ => rfl
theorem bd5 : BindF F5 := fun _ _ _ _ _ _ _ us hl => match us, hl with | [_], _ => rfl
theorem bd6 : BindF F6 := fun _ _ _ _ _ _ _ us hl => match us, hl with | [_], _ => rfl
theorem bd7 : BindF F7 := fun _ _ _ _ _ _ _ us hl => match us, hl with | [_, _], _ => rfl
theorem bd8 : BindF F8 := fun _ _ _ _ _ _ _ us hl => match us, hl with | [_, _], _ => rfl
theorem bd9 : BindF F9 := fun _ _ _ _ _ _ _ us hl => match us, hl with | [_], _ => rfl
theorem bd10 : BindF F10 := fun _ _ _ _ _ _ _ us hl => match us, hl with | [_, _], _ => rfl
theorem bd11 : BindF F11 := fun _ _ _ _ _ _ _ us hl => match us, hl with | [_, _], _ => rfl
theorem bd12 : BindF F12 := fun _ _ _ _ _ _ _ us hl => match us, hl with | [_, _], _ => rfl
theorem bd13 : BindF F13 := fun _ _ _ _ _ _ _ us hl => match us, hl with | [_], _ => rfl
theorem bd14 : BindF F14 := fun _ _ _ _ _ _ _ us hl => match us, hl with | [_, _], _ => rfl
theorem bd15 : BindF F15 := fun _ _ _ _ _ _ _ us hl => match us, hl with | [_], _ => rfl
theorem bd16 : BindF F16 := fun _ _ _ _ _ _ _ us hl => match us, hl with | [_], _ => rfl
theorem bd17 : BindF F17 := fun _ _ _ _ _ _ _ us hl => match us, hl with | [_], _ => rfl
theorem bd18 : BindF F18 := fun _ _ _ _ _ _ _ us hl => match us, hl with | [_, _], _ => rfl
theorem bd19 : BindF F19 := fun _ _ _ _ _ _ _ us hl => match us, hl with | [_], _ => rfl
theorem good : M.good = true := by kernel_rfl
theorem hG : M.fns.map (compFn M.T) = G.fns.map some := by kernel_rfl
theorem hb : ∀ F ∈ M.fns, BindF F := by
  show ∀ F ∈ Fs, BindF F
  simp only [Fs, List.forall_mem_cons]
  exact ⟨bd0, bd1, bd2, bd3, bd4, bd5, bd6, bd7, bd8, bd9, bd10, bd11, bd12, bd13, bd14, bd15, bd16, bd17, bd18, bd19, fun _ h => absurd h (List.not_mem_nil)⟩
end K27
end
section
set_option Elab.async false
set_option linter.all false
set_option maxRecDepth 100000
set_option maxHeartbeats 4000000
namespace K27
open MP
open PySem hiding exec
abbrev Cell := Option (Int × Int)
def encC : Cell → A
  | none => .tup []
  | some p => .tup [.int p.1, .int p.2]
def nC : Cell → List Int
  | none => []
  | some p => [p.1, p.2]
abbrev encR (r : List Cell) : A := .tup (r.map encC)
abbrev T (t : List (List Cell)) : A := .tup (t.map encR)
theorem encC_n (c : Cell) : encC c = .tup ((nC c).map .int) := by cases c <;> rfl
def okC (n : Int) : Cell → Bool
  | none => true
  | some p => decide (0 ≤ p.1) && (decide (p.1 < p.2) && decide (p.2 ≤ n))
def are (t : List (List Cell)) : Bool := decide (1 ≤ (t.length : Int)) && (decide ((t.length : Int) ≤ 21) && (!decide ((t.length : Int) % 2 = 0) && (t.all (fun r => decide ((r.length : Int) = t.length)) && t.all fun r => r.all (okC t.length))))
theorem d2 : (0 : Int) < 2 := by decide
theorem lowC (c : Cell) (n : Nat) : A.low (encC c) (n + 1) = true := by cases c <;> rfl
theorem lowR (r : List Cell) (n : Nat) : A.low (encR r) (n + 2) = true := by
  show A.lows (r.map encC) (n + 1) = true
  refine lows_of ?_
  intro x hx
  obtain ⟨c, _, rfl⟩ := List.mem_map.mp hx
  exact lowC c n
theorem lowT (t : List (List Cell)) (n : Nat) : A.low (T t) (n + 3) = true := by
  show A.lows (t.map encR) (n + 2) = true
  refine lows_of ?_
  intro x hx
  obtain ⟨c, _, rfl⟩ := List.mem_map.mp hx
  exact lowR c n
theorem ne_c {h : Mem} {c : Cell} : cmpK .NotEq (.a (encC c)) (.a (.tup [])) h = .ok (.a (.bl c.isSome)) h := by
  rw [c_neA (lowC c 49) rfl]
  cases c <;> rfl
theorem i20 {a b : A} {h : Mem} : idxK (.a (.tup [a, b])) (.a (.int 0)) h = .ok (.a a) h := rfl
theorem i21 {a b : A} {h : Mem} : idxK (.a (.tup [a, b])) (.a (.int 1)) h = .ok (.a b) h := rfl
/-- the test of a cell -/
def eCell (v n : Nat) : E := .and (.cmp .NotEq (.var v) (.cst (.int 0))) (.cst (.int 0))
theorem run6 {k : Nat} {h : Mem} {t : List (List Cell)} (hl : t.length ≤ 1000) (hr : ∀ r ∈ t, r.length ≤ 1000) : callF G (k + 1) 6 [.a (T t)] h = .ok (.a (.bl (are t))) h := by
  rw [callF_run (fi := f6) rfl rfl]
  simp only [f6, List.map_cons, List.map_nil, List.replicate, List.cons_append, List.nil_append]
  unfold are
  generalize hn : (t.length : Int) = n
  have hn' : (((t.map encR).length : Nat) : Int) = n := by rw [List.length_map, hn]
  by_cases c1 : 1 ≤ n
  · by_cases c2 : n ≤ 21
    · by_cases c3 : n % 2 = 0
      · simp only [ok_bind, exc_bind, ok_thn, exc_thn, ok_calm, nx_and, ret_and, brk_and, cnt_and, exc_and, ev_cst, ev_var, ev_glb, kBin_eq, ev_bin, ev_neg, kNot_eq, ev_not, ev_and, ev_or, kAnd_t, kAnd_f, kOr_t, kOr_f, kCmp_eq, ev_cmp, ev_chn, chnK_t, chnK_f, kChn1_eq, kChn_nil, kChn_cons, kIfE_t, kIfE_f, ev_ite, kIdx_eq, ev_idx, kSlc2_eq, kSlc_eq, ev_slc, ev_tup, ev_lst, ev_dnew, kLc_eq, ev_lc, kLc2_eq, ev_lc2, ev_call, ev_bi, kBm_eq, ev_bm, kIsi_eq, ev_isi, ev_lrg1, kLrg2_eq, ev_lrg2, evf_none, evf_some, oiK_int, evo_none, evo_some, evs_nil, kCons_eq, kEvs_eq, evs_cons, evIt_seq, evIt_rng1, kRng2_eq, evIt_rng2, kRng3b_eq, kRng3_eq, evIt_rng3, evIt_enu, kZip_eq, evIt_zip, ex_skip, kSeq_eq, ex_seq, kAsg_eq, ex_asg, kPar_eq, ex_par, kSI3_eq, kSI2_eq, kSI1_eq, ex_setIx, kNx_eq, ex_expr, kIfS_t, kIfS_f, ex_ite, kFor_eq, ex_for, ex_while, kRet_eq, ex_ret, ex_retN, kRaise_eq, ex_raise, ex_try, ex_brk, ex_cnt, ex_frz, tryK_nx, tryK_ret, tryK_exc, hndK_nil, hndK_cons, hndK1_f, hndK1_ti, hndK1_tn, unbK_ret, unbK_nx, unb0_ret, unb0_nx, varK_ok, tru_bl, tru_int, tru_tup, tru_lst, tru_non, tru_exc, bin_addK, bin_subK, MP.neg_int, c_lt, c_le, c_gt, c_ge, c_eq, c_ne, c_eqb, c_neb, m_lt, m_le, m_gt, m_ge, seq_tup, seq_lst, len_tup, len_lst, toList_tup, toList_lst, toTup_tup, toTup_lst, int1_int, int1_bl, min2_int, max2_int, abs_int, asg_nm, tup0, tup1, tup2, tup3, tup4, List.set_cons_zero, List.set_cons_succ, List.getElem?_cons_zero, List.getElem?_cons_succ, Bool.false_eq_true, ↓reduceIte, fin_ret, decide_true, decide_false, Bool.not_true, Bool.not_false, kOne_eq, kLcE_t, kLcE_f, lcE_eq, lcQ_nm, lcQ_tp2, lcQ_tp3, lcK1_nm, lcK1_tp2, kLcE3_eq, kLcE2_t, kLcE2_f, lcE2_eq, lcK2_nm, lcK2_tp2, rstE_nil, rstE_cons, asg_tp2, asg_tp3, asg_tp4, forK_nil, par1, par2, par3, hn', decide_eq_true c1, decide_eq_true c2, bin_modK d2, decide_eq_true c3, take_self, Bool.and_false, Bool.false_and, Bool.true_and]
      · have l1 := lc_mapA (h := h) (step := lcQ ⟨G, runF G k⟩ (.cmp .Eq (.bi false .len [(.var 2)]) (.var 1)) (.nm 2) none [4, 2] [some (.a (T t)), some (.a (.int n)), none, none, none]) encR (fun r => .bl (decide ((r.length : Int) = n))) (xs := t) (by
          intro r _
          simp only [ok_bind, exc_bind, ok_thn, exc_thn, ok_calm, nx_and, ret_and, brk_and, cnt_and, exc_and, ev_cst, ev_var, ev_glb, kBin_eq, ev_bin, ev_neg, kNot_eq, ev_not, ev_and, ev_or, kAnd_t, kAnd_f, kOr_t, kOr_f, kCmp_eq, ev_cmp, ev_chn, chnK_t, chnK_f, kChn1_eq, kChn_nil, kChn_cons, kIfE_t, kIfE_f, ev_ite, kIdx_eq, ev_idx, kSlc2_eq, kSlc_eq, ev_slc, ev_tup, ev_lst, ev_dnew, kLc_eq, ev_lc, kLc2_eq, ev_lc2, ev_call, ev_bi, kBm_eq, ev_bm, kIsi_eq, ev_isi, ev_lrg1, kLrg2_eq, ev_lrg2, evf_none, evf_some, oiK_int, evo_none, evo_some, evs_nil, kCons_eq, kEvs_eq, evs_cons, evIt_seq, evIt_rng1, kRng2_eq, evIt_rng2, kRng3b_eq, kRng3_eq, evIt_rng3, evIt_enu, kZip_eq, evIt_zip, ex_skip, kSeq_eq, ex_seq, kAsg_eq, ex_asg, kPar_eq, ex_par, kSI3_eq, kSI2_eq, kSI1_eq, ex_setIx, kNx_eq, ex_expr, kIfS_t, kIfS_f, ex_ite, kFor_eq, ex_for, ex_while, kRet_eq, ex_ret, ex_retN, kRaise_eq, ex_raise, ex_try, ex_brk, ex_cnt, ex_frz, tryK_nx, tryK_ret, tryK_exc, hndK_nil, hndK_cons, hndK1_f, hndK1_ti, hndK1_tn, unbK_ret, unbK_nx, unb0_ret, unb0_nx, varK_ok, tru_bl, tru_int, tru_tup, tru_lst, tru_non, tru_exc, bin_addK, bin_subK, MP.neg_int, c_lt, c_le, c_gt, c_ge, c_eq, c_ne, c_eqb, c_neb, m_lt, m_le, m_gt, m_ge, seq_tup, seq_lst, len_tup, len_lst, toList_tup, toList_lst, toTup_tup, toTup_lst, int1_int, int1_bl, min2_int, max2_int, abs_int, asg_nm, tup0, tup1, tup2, tup3, tup4, List.set_cons_zero, List.set_cons_succ, List.getElem?_cons_zero, List.getElem?_cons_succ, Bool.false_eq_true, ↓reduceIte, fin_ret, decide_true, decide_false, Bool.not_true, Bool.not_false, kOne_eq, kLcE_t, kLcE_f, lcE_eq, lcQ_nm, lcQ_tp2, lcQ_tp3, lcK1_nm, lcK1_tp2, kLcE3_eq, kLcE2_t, kLcE2_f, lcE2_eq, lcK2_nm, lcK2_tp2, rstE_nil, rstE_cons, asg_tp2, asg_tp3, asg_tp4, forK_nil, par1, par2, par3, List.length_map])
        have e1 : (t.map fun r => A.bl (decide ((r.length : Int) = n))) = (t.map fun r => decide ((r.length : Int) = n)).map A.bl := by rw [List.map_map]; rfl
        rw [e1] at l1
        have l1' := lc_done l1 (by rw [List.length_map, List.length_map]; omega)
        have e2 : (t.map fun r => decide ((r.length : Int) = n)).all id = t.all fun r => decide ((r.length : Int) = n) := by rw [List.all_map]; rfl
        cases c4 : t.all fun r => decide ((r.length : Int) = n) with
        | false => 
          rw [c4] at e2
          simp only [ok_bind, exc_bind, ok_thn, exc_thn, ok_calm, nx_and, ret_and, brk_and, cnt_and, exc_and, ev_cst, ev_var, ev_glb, kBin_eq, ev_bin, ev_neg, kNot_eq, ev_not, ev_and, ev_or, kAnd_t, kAnd_f, kOr_t, kOr_f, kCmp_eq, ev_cmp, ev_chn, chnK_t, chnK_f, kChn1_eq, kChn_nil, kChn_cons, kIfE_t, kIfE_f, ev_ite, kIdx_eq, ev_idx, kSlc2_eq, kSlc_eq, ev_slc, ev_tup, ev_lst, ev_dnew, kLc_eq, ev_lc, kLc2_eq, ev_lc2, ev_call, ev_bi, kBm_eq, ev_bm, kIsi_eq, ev_isi, ev_lrg1, kLrg2_eq, ev_lrg2, evf_none, evf_some, oiK_int, evo_none, evo_some, evs_nil, kCons_eq, kEvs_eq, evs_cons, evIt_seq, evIt_rng1, kRng2_eq, evIt_rng2, kRng3b_eq, kRng3_eq, evIt_rng3, evIt_enu, kZip_eq, evIt_zip, ex_skip, kSeq_eq, ex_seq, kAsg_eq, ex_asg, kPar_eq, ex_par, kSI3_eq, kSI2_eq, kSI1_eq, ex_setIx, kNx_eq, ex_expr, kIfS_t, kIfS_f, ex_ite, kFor_eq, ex_for, ex_while, kRet_eq, ex_ret, ex_retN, kRaise_eq, ex_raise, ex_try, ex_brk, ex_cnt, ex_frz, tryK_nx, tryK_ret, tryK_exc, hndK_nil, hndK_cons, hndK1_f, hndK1_ti, hndK1_tn, unbK_ret, unbK_nx, unb0_ret, unb0_nx, varK_ok, tru_bl, tru_int, tru_tup, tru_lst, tru_non, tru_exc, bin_addK, bin_subK, MP.neg_int, c_lt, c_le, c_gt, c_ge, c_eq, c_ne, c_eqb, c_neb, m_lt, m_le, m_gt, m_ge, seq_tup, seq_lst, len_tup, len_lst, toList_tup, toList_lst, toTup_tup, toTup_lst, int1_int, int1_bl, min2_int, max2_int, abs_int, asg_nm, tup0, tup1, tup2, tup3, tup4, List.set_cons_zero, List.set_cons_succ, List.getElem?_cons_zero, List.getElem?_cons_succ, Bool.false_eq_true, ↓reduceIte, fin_ret, decide_true, decide_false, Bool.not_true, Bool.not_false, kOne_eq, kLcE_t, kLcE_f, lcE_eq, lcQ_nm, lcQ_tp2, lcQ_tp3, lcK1_nm, lcK1_tp2, kLcE3_eq, kLcE2_t, kLcE2_f, lcE2_eq, lcK2_nm, lcK2_tp2, rstE_nil, rstE_cons, asg_tp2, asg_tp3, asg_tp4, forK_nil, par1, par2, par3, hn', decide_eq_true c1, decide_eq_true c2, bin_modK d2, decide_eq_false c3, l1', all_lst, e2, take_self, Bool.and_false, Bool.false_and, Bool.true_and]
        | true =>
          rw [c4] at e2
          have inner : ∀ (r : List Cell) (env2 : Option D), forK ⟨G, runF G k⟩ h.length (.nm 3) [3] (.seq (.ite (.and (.cmp .NotEq (.var 3) (.tup [])) (.or (.cmp .NotEq (.bi false .len [(.var 3)]) (.cst (.int 2))) (.not (.chn (.cst (.int 0)) [.LtE, .Lt, .LtE] [(.idx (.var 3) (.cst (.int 0))), (.idx (.var 3) (.cst (.int 1))), (.var 1)])))) (.seq (.ret (.cst (.bl false))) .skip) .skip) .skip) ((r.map encC).map D.a) [some (.a (T t)), some (.a (.int n)), env2, none, none] h
              = match r.findSome? (fun c => if okC n c = true then none else some (D.a (.bl false))) with
                | none => .nx [some (.a (T t)), some (.a (.int n)), env2, none, none] h
                | some d => .ret d h := by
            intro r env2
            refine forK_find encC _ ?_
            intro c _
            refine ⟨[some (.a (T t)), some (.a (.int n)), env2, some (.a (encC c)), none], rfl, ?_⟩
            cases c with
            | none =>
              refine ⟨[some (.a (T t)), some (.a (.int n)), env2, some (.a (encC none)), none], ?_, rfl⟩
              simp only [ok_bind, exc_bind, ok_thn, exc_thn, ok_calm, nx_and, ret_and, brk_and, cnt_and, exc_and, ev_cst, ev_var, ev_glb, kBin_eq, ev_bin, ev_neg, kNot_eq, ev_not, ev_and, ev_or, kAnd_t, kAnd_f, kOr_t, kOr_f, kCmp_eq, ev_cmp, ev_chn, chnK_t, chnK_f, kChn1_eq, kChn_nil, kChn_cons, kIfE_t, kIfE_f, ev_ite, kIdx_eq, ev_idx, kSlc2_eq, kSlc_eq, ev_slc, ev_tup, ev_lst, ev_dnew, kLc_eq, ev_lc, kLc2_eq, ev_lc2, ev_call, ev_bi, kBm_eq, ev_bm, kIsi_eq, ev_isi, ev_lrg1, kLrg2_eq, ev_lrg2, evf_none, evf_some, oiK_int, evo_none, evo_some, evs_nil, kCons_eq, kEvs_eq, evs_cons, evIt_seq, evIt_rng1, kRng2_eq, evIt_rng2, kRng3b_eq, kRng3_eq, evIt_rng3, evIt_enu, kZip_eq, evIt_zip, ex_skip, kSeq_eq, ex_seq, kAsg_eq, ex_asg, kPar_eq, ex_par, kSI3_eq, kSI2_eq, kSI1_eq, ex_setIx, kNx_eq, ex_expr, kIfS_t, kIfS_f, ex_ite, kFor_eq, ex_for, ex_while, kRet_eq, ex_ret, ex_retN, kRaise_eq, ex_raise, ex_try, ex_brk, ex_cnt, ex_frz, tryK_nx, tryK_ret, tryK_exc, hndK_nil, hndK_cons, hndK1_f, hndK1_ti, hndK1_tn, unbK_ret, unbK_nx, unb0_ret, unb0_nx, varK_ok, tru_bl, tru_int, tru_tup, tru_lst, tru_non, tru_exc, bin_addK, bin_subK, MP.neg_int, c_lt, c_le, c_gt, c_ge, c_eq, c_ne, c_eqb, c_neb, m_lt, m_le, m_gt, m_ge, seq_tup, seq_lst, len_tup, len_lst, toList_tup, toList_lst, toTup_tup, toTup_lst, int1_int, int1_bl, min2_int, max2_int, abs_int, asg_nm, tup0, tup1, tup2, tup3, tup4, List.set_cons_zero, List.set_cons_succ, List.getElem?_cons_zero, List.getElem?_cons_succ, Bool.false_eq_true, ↓reduceIte, fin_ret, decide_true, decide_false, Bool.not_true, Bool.not_false, kOne_eq, kLcE_t, kLcE_f, lcE_eq, lcQ_nm, lcQ_tp2, lcQ_tp3, lcK1_nm, lcK1_tp2, kLcE3_eq, kLcE2_t, kLcE2_f, lcE2_eq, lcK2_nm, lcK2_tp2, rstE_nil, rstE_cons, asg_tp2, asg_tp3, asg_tp4, forK_nil, par1, par2, par3, ne_c, Option.isSome_none]
            | some p =>
              have ec : encC (some p) = .tup [.int p.1, .int p.2] := rfl
              have nn : ∀ {h : Mem}, cmpK .NotEq (.a (.tup [.int p.1, .int p.2])) (.a (.tup [])) h = .ok (.a (.bl true)) h := ne_c (c := some p)
              have l2 : ((([A.int p.1, A.int p.2].length : Nat) : Int)) = 2 := rfl
              have d2' : decide ((2 : Int) = 2) = true := rfl
              have ok : okC n (some p) = (decide (0 ≤ p.1) && (decide (p.1 < p.2) && decide (p.2 ≤ n))) := rfl
              rw [ok]
              by_cases a1 : 0 ≤ p.1
              · by_cases a2 : p.1 < p.2
                · by_cases a3 : p.2 ≤ n
                  · rw [decide_eq_true a1, decide_eq_true a2, decide_eq_true a3]
                    show ∃ e2, _ ∧ _
                    refine ⟨[some (.a (T t)), some (.a (.int n)), env2, some (.a (encC (some p))), none], ?_, rfl⟩
                    rw [ec]
                    simp only [ok_bind, exc_bind, ok_thn, exc_thn, ok_calm, nx_and, ret_and, brk_and, cnt_and, exc_and, ev_cst, ev_var, ev_glb, kBin_eq, ev_bin, ev_neg, kNot_eq, ev_not, ev_and, ev_or, kAnd_t, kAnd_f, kOr_t, kOr_f, kCmp_eq, ev_cmp, ev_chn, chnK_t, chnK_f, kChn1_eq, kChn_nil, kChn_cons, kIfE_t, kIfE_f, ev_ite, kIdx_eq, ev_idx, kSlc2_eq, kSlc_eq, ev_slc, ev_tup, ev_lst, ev_dnew, kLc_eq, ev_lc, kLc2_eq, ev_lc2, ev_call, ev_bi, kBm_eq, ev_bm, kIsi_eq, ev_isi, ev_lrg1, kLrg2_eq, ev_lrg2, evf_none, evf_some, oiK_int, evo_none, evo_some, evs_nil, kCons_eq, kEvs_eq, evs_cons, evIt_seq, evIt_rng1, kRng2_eq, evIt_rng2, kRng3b_eq, kRng3_eq, evIt_rng3, evIt_enu, kZip_eq, evIt_zip, ex_skip, kSeq_eq, ex_seq, kAsg_eq, ex_asg, kPar_eq, ex_par, kSI3_eq, kSI2_eq, kSI1_eq, ex_setIx, kNx_eq, ex_expr, kIfS_t, kIfS_f, ex_ite, kFor_eq, ex_for, ex_while, kRet_eq, ex_ret, ex_retN, kRaise_eq, ex_raise, ex_try, ex_brk, ex_cnt, ex_frz, tryK_nx, tryK_ret, tryK_exc, hndK_nil, hndK_cons, hndK1_f, hndK1_ti, hndK1_tn, unbK_ret, unbK_nx, unb0_ret, unb0_nx, varK_ok, tru_bl, tru_int, tru_tup, tru_lst, tru_non, tru_exc, bin_addK, bin_subK, MP.neg_int, c_lt, c_le, c_gt, c_ge, c_eq, c_ne, c_eqb, c_neb, m_lt, m_le, m_gt, m_ge, seq_tup, seq_lst, len_tup, len_lst, toList_tup, toList_lst, toTup_tup, toTup_lst, int1_int, int1_bl, min2_int, max2_int, abs_int, asg_nm, tup0, tup1, tup2, tup3, tup4, List.set_cons_zero, List.set_cons_succ, List.getElem?_cons_zero, List.getElem?_cons_succ, Bool.false_eq_true, ↓reduceIte, fin_ret, decide_true, decide_false, Bool.not_true, Bool.not_false, kOne_eq, kLcE_t, kLcE_f, lcE_eq, lcQ_nm, lcQ_tp2, lcQ_tp3, lcK1_nm, lcK1_tp2, kLcE3_eq, kLcE2_t, kLcE2_f, lcE2_eq, lcK2_nm, lcK2_tp2, rstE_nil, rstE_cons, asg_tp2, asg_tp3, asg_tp4, forK_nil, par1, par2, par3, nn, l2, d2', i20, i21, decide_eq_true a1, decide_eq_true a2, decide_eq_true a3]
                  · rw [decide_eq_true a1, decide_eq_true a2, decide_eq_false a3]
                    show MP.exec _ _ _ _ _ = _
                    rw [ec]
                    simp only [ok_bind, exc_bind, ok_thn, exc_thn, ok_calm, nx_and, ret_and, brk_and, cnt_and, exc_and, ev_cst, ev_var, ev_glb, kBin_eq, ev_bin, ev_neg, kNot_eq, ev_not, ev_and, ev_or, kAnd_t, kAnd_f, kOr_t, kOr_f, kCmp_eq, ev_cmp, ev_chn, chnK_t, chnK_f, kChn1_eq, kChn_nil, kChn_cons, kIfE_t, kIfE_f, ev_ite, kIdx_eq, ev_idx, kSlc2_eq, kSlc_eq, ev_slc, ev_tup, ev_lst, ev_dnew, kLc_eq, ev_lc, kLc2_eq, ev_lc2, ev_call, ev_bi, kBm_eq, ev_bm, kIsi_eq, ev_isi, ev_lrg1, kLrg2_eq, ev_lrg2, evf_none, evf_some, oiK_int, evo_none, evo_some, evs_nil, kCons_eq, kEvs_eq, evs_cons, evIt_seq, evIt_rng1, kRng2_eq, evIt_rng2, kRng3b_eq, kRng3_eq, evIt_rng3, evIt_enu, kZip_eq, evIt_zip, ex_skip, kSeq_eq, ex_seq, kAsg_eq, ex_asg, kPar_eq, ex_par, kSI3_eq, kSI2_eq, kSI1_eq, ex_setIx, kNx_eq, ex_expr, kIfS_t, kIfS_f, ex_ite, kFor_eq, ex_for, ex_while, kRet_eq, ex_ret, ex_retN, kRaise_eq, ex_raise, ex_try, ex_brk, ex_cnt, ex_frz, tryK_nx, tryK_ret, tryK_exc, hndK_nil, hndK_cons, hndK1_f, hndK1_ti, hndK1_tn, unbK_ret, unbK_nx, unb0_ret, unb0_nx, varK_ok, tru_bl, tru_int, tru_tup, tru_lst, tru_non, tru_exc, bin_addK, bin_subK, MP.neg_int, c_lt, c_le, c_gt, c_ge, c_eq, c_ne, c_eqb, c_neb, m_lt, m_le, m_gt, m_ge, seq_tup, seq_lst, len_tup, len_lst, toList_tup, toList_lst, toTup_tup, toTup_lst, int1_int, int1_bl, min2_int, max2_int, abs_int, asg_nm, tup0, tup1, tup2, tup3, tup4, List.set_cons_zero, List.set_cons_succ, List.getElem?_cons_zero, List.getElem?_cons_succ, Bool.false_eq_true, ↓reduceIte, fin_ret, decide_true, decide_false, Bool.not_true, Bool.not_false, kOne_eq, kLcE_t, kLcE_f, lcE_eq, lcQ_nm, lcQ_tp2, lcQ_tp3, lcK1_nm, lcK1_tp2, kLcE3_eq, kLcE2_t, kLcE2_f, lcE2_eq, lcK2_nm, lcK2_tp2, rstE_nil, rstE_cons, asg_tp2, asg_tp3, asg_tp4, forK_nil, par1, par2, par3, nn, l2, d2', i20, i21, decide_eq_true a1, decide_eq_true a2, decide_eq_false a3]
                · rw [decide_eq_true a1, decide_eq_false a2]
                  show MP.exec _ _ _ _ _ = _
                  rw [ec]
                  simp only [ok_bind, exc_bind, ok_thn, exc_thn, ok_calm, nx_and, ret_and, brk_and, cnt_and, exc_and, ev_cst, ev_var, ev_glb, kBin_eq, ev_bin, ev_neg, kNot_eq, ev_not, ev_and, ev_or, kAnd_t, kAnd_f, kOr_t, kOr_f, kCmp_eq, ev_cmp, ev_chn, chnK_t, chnK_f, kChn1_eq, kChn_nil, kChn_cons, kIfE_t, kIfE_f, ev_ite, kIdx_eq, ev_idx, kSlc2_eq, kSlc_eq, ev_slc, ev_tup, ev_lst, ev_dnew, kLc_eq, ev_lc, kLc2_eq, ev_lc2, ev_call, ev_bi, kBm_eq, ev_bm, kIsi_eq, ev_isi, ev_lrg1, kLrg2_eq, ev_lrg2, evf_none, evf_some, oiK_int, evo_none, evo_some, evs_nil, kCons_eq, kEvs_eq, evs_cons, evIt_seq, evIt_rng1, kRng2_eq, evIt_rng2, kRng3b_eq, kRng3_eq, evIt_rng3, evIt_enu, kZip_eq, evIt_zip, ex_skip, kSeq_eq, ex_seq, kAsg_eq, ex_asg, kPar_eq, ex_par, kSI3_eq, kSI2_eq, kSI1_eq, ex_setIx, kNx_eq, ex_expr, kIfS_t, kIfS_f, ex_ite, kFor_eq, ex_for, ex_while, kRet_eq, ex_ret, ex_retN, kRaise_eq, ex_raise, ex_try, ex_brk, ex_cnt, ex_frz, tryK_nx, tryK_ret, tryK_exc, hndK_nil, hndK_cons, hndK1_f, hndK1_ti, hndK1_tn, unbK_ret, unbK_nx, unb0_ret, unb0_nx, varK_ok, tru_bl, tru_int, tru_tup, tru_lst, tru_non, tru_exc, bin_addK, bin_subK, MP.neg_int, c_lt, c_le, c_gt, c_ge, c_eq, c_ne, c_eqb, c_neb, m_lt, m_le, m_gt, m_ge, seq_tup, seq_lst, len_tup, len_lst, toList_tup, toList_lst, toTup_tup, toTup_lst, int1_int, int1_bl, min2_int, max2_int, abs_int, asg_nm, tup0, tup1, tup2, tup3, tup4, List.set_cons_zero, List.set_cons_succ, List.getElem?_cons_zero, List.getElem?_cons_succ, Bool.false_eq_true, ↓reduceIte, fin_ret, decide_true, decide_false, Bool.not_true, Bool.not_false, kOne_eq, kLcE_t, kLcE_f, lcE_eq, lcQ_nm, lcQ_tp2, lcQ_tp3, lcK1_nm, lcK1_tp2, kLcE3_eq, kLcE2_t, kLcE2_f, lcE2_eq, lcK2_nm, lcK2_tp2, rstE_nil, rstE_cons, asg_tp2, asg_tp3, asg_tp4, forK_nil, par1, par2, par3, nn, l2, d2', i20, i21, decide_eq_true a1, decide_eq_false a2]
              · rw [decide_eq_false a1]
                show MP.exec _ _ _ _ _ = _
                rw [ec]
                simp only [ok_bind, exc_bind, ok_thn, exc_thn, ok_calm, nx_and, ret_and, brk_and, cnt_and, exc_and, ev_cst, ev_var, ev_glb, kBin_eq, ev_bin, ev_neg, kNot_eq, ev_not, ev_and, ev_or, kAnd_t, kAnd_f, kOr_t, kOr_f, kCmp_eq, ev_cmp, ev_chn, chnK_t, chnK_f, kChn1_eq, kChn_nil, kChn_cons, kIfE_t, kIfE_f, ev_ite, kIdx_eq, ev_idx, kSlc2_eq, kSlc_eq, ev_slc, ev_tup, ev_lst, ev_dnew, kLc_eq, ev_lc, kLc2_eq, ev_lc2, ev_call, ev_bi, kBm_eq, ev_bm, kIsi_eq, ev_isi, ev_lrg1, kLrg2_eq, ev_lrg2, evf_none, evf_some, oiK_int, evo_none, evo_some, evs_nil, kCons_eq, kEvs_eq, evs_cons, evIt_seq, evIt_rng1, kRng2_eq, evIt_rng2, kRng3b_eq, kRng3_eq, evIt_rng3, evIt_enu, kZip_eq, evIt_zip, ex_skip, kSeq_eq, ex_seq, kAsg_eq, ex_asg, kPar_eq, ex_par, kSI3_eq, kSI2_eq, kSI1_eq, ex_setIx, kNx_eq, ex_expr, kIfS_t, kIfS_f, ex_ite, kFor_eq, ex_for, ex_while, kRet_eq, ex_ret, ex_retN, kRaise_eq, ex_raise, ex_try, ex_brk, ex_cnt, ex_frz, tryK_nx, tryK_ret, tryK_exc, hndK_nil, hndK_cons, hndK1_f, hndK1_ti, hndK1_tn, unbK_ret, unbK_nx, unb0_ret, unb0_nx, varK_ok, tru_bl, tru_int, tru_tup, tru_lst, tru_non, tru_exc, bin_addK, bin_subK, MP.neg_int, c_lt, c_le, c_gt, c_ge, c_eq, c_ne, c_eqb, c_neb, m_lt, m_le, m_gt, m_ge, seq_tup, seq_lst, len_tup, len_lst, toList_tup, toList_lst, toTup_tup, toTup_lst, int1_int, int1_bl, min2_int, max2_int, abs_int, asg_nm, tup0, tup1, tup2, tup3, tup4, List.set_cons_zero, List.set_cons_succ, List.getElem?_cons_zero, List.getElem?_cons_succ, Bool.false_eq_true, ↓reduceIte, fin_ret, decide_true, decide_false, Bool.not_true, Bool.not_false, kOne_eq, kLcE_t, kLcE_f, lcE_eq, lcQ_nm, lcQ_tp2, lcQ_tp3, lcK1_nm, lcK1_tp2, kLcE3_eq, kLcE2_t, kLcE2_f, lcE2_eq, lcK2_nm, lcK2_tp2, rstE_nil, rstE_cons, asg_tp2, asg_tp3, asg_tp4, forK_nil, par1, par2, par3, nn, l2, d2', i20, i21, decide_eq_false a1]
          have outer := forK_find (C := ⟨G, runF G k⟩) (base := h.length) (t := .nm 2) (rst := [3, 2]) (b := .seq (.for_ (.nm 3) (.seq (.var 2)) (.seq (.ite (.and (.cmp .NotEq (.var 3) (.tup [])) (.or (.cmp .NotEq (.bi false .len [(.var 3)]) (.cst (.int 2))) (.not (.chn (.cst (.int 0)) [.LtE, .Lt, .LtE] [(.idx (.var 3) (.cst (.int 0))), (.idx (.var 3) (.cst (.int 1))), (.var 1)])))) (.seq (.ret (.cst (.bl false))) .skip) .skip) .skip) [3]) .skip) (h := h) (env := [some (.a (T t)), some (.a (.int n)), none, none, none]) encR (fun r => if r.all (okC n) = true then none else some (D.a (.bl false))) (xs := t) (by
            intro r _
            refine ⟨[some (.a (T t)), some (.a (.int n)), some (.a (encR r)), none, none], rfl, ?_⟩
            have q := inner r (some (.a (encR r)))
            rw [all_none (okC n)] at q
            cases c : r.all (okC n) <;> rw [c] at q
            · show MP.exec _ _ _ _ _ = _
              simp only [if_neg Bool.false_ne_true] at q
              simp only [ok_bind, exc_bind, ok_thn, exc_thn, ok_calm, nx_and, ret_and, brk_and, cnt_and, exc_and, ev_cst, ev_var, ev_glb, kBin_eq, ev_bin, ev_neg, kNot_eq, ev_not, ev_and, ev_or, kAnd_t, kAnd_f, kOr_t, kOr_f, kCmp_eq, ev_cmp, ev_chn, chnK_t, chnK_f, kChn1_eq, kChn_nil, kChn_cons, kIfE_t, kIfE_f, ev_ite, kIdx_eq, ev_idx, kSlc2_eq, kSlc_eq, ev_slc, ev_tup, ev_lst, ev_dnew, kLc_eq, ev_lc, kLc2_eq, ev_lc2, ev_call, ev_bi, kBm_eq, ev_bm, kIsi_eq, ev_isi, ev_lrg1, kLrg2_eq, ev_lrg2, evf_none, evf_some, oiK_int, evo_none, evo_some, evs_nil, kCons_eq, kEvs_eq, evs_cons, evIt_seq, evIt_rng1, kRng2_eq, evIt_rng2, kRng3b_eq, kRng3_eq, evIt_rng3, evIt_enu, kZip_eq, evIt_zip, ex_skip, kSeq_eq, ex_seq, kAsg_eq, ex_asg, kPar_eq, ex_par, kSI3_eq, kSI2_eq, kSI1_eq, ex_setIx, kNx_eq, ex_expr, kIfS_t, kIfS_f, ex_ite, kFor_eq, ex_for, ex_while, kRet_eq, ex_ret, ex_retN, kRaise_eq, ex_raise, ex_try, ex_brk, ex_cnt, ex_frz, tryK_nx, tryK_ret, tryK_exc, hndK_nil, hndK_cons, hndK1_f, hndK1_ti, hndK1_tn, unbK_ret, unbK_nx, unb0_ret, unb0_nx, varK_ok, tru_bl, tru_int, tru_tup, tru_lst, tru_non, tru_exc, bin_addK, bin_subK, MP.neg_int, c_lt, c_le, c_gt, c_ge, c_eq, c_ne, c_eqb, c_neb, m_lt, m_le, m_gt, m_ge, seq_tup, seq_lst, len_tup, len_lst, toList_tup, toList_lst, toTup_tup, toTup_lst, int1_int, int1_bl, min2_int, max2_int, abs_int, asg_nm, tup0, tup1, tup2, tup3, tup4, List.set_cons_zero, List.set_cons_succ, List.getElem?_cons_zero, List.getElem?_cons_succ, Bool.false_eq_true, ↓reduceIte, fin_ret, decide_true, decide_false, Bool.not_true, Bool.not_false, kOne_eq, kLcE_t, kLcE_f, lcE_eq, lcQ_nm, lcQ_tp2, lcQ_tp3, lcK1_nm, lcK1_tp2, kLcE3_eq, kLcE2_t, kLcE2_f, lcE2_eq, lcK2_nm, lcK2_tp2, rstE_nil, rstE_cons, asg_tp2, asg_tp3, asg_tp4, forK_nil, par1, par2, par3, q]
            · refine ⟨[some (.a (T t)), some (.a (.int n)), some (.a (encR r)), none, none], ?_, rfl⟩
              simp only [if_true] at q
              simp only [ok_bind, exc_bind, ok_thn, exc_thn, ok_calm, nx_and, ret_and, brk_and, cnt_and, exc_and, ev_cst, ev_var, ev_glb, kBin_eq, ev_bin, ev_neg, kNot_eq, ev_not, ev_and, ev_or, kAnd_t, kAnd_f, kOr_t, kOr_f, kCmp_eq, ev_cmp, ev_chn, chnK_t, chnK_f, kChn1_eq, kChn_nil, kChn_cons, kIfE_t, kIfE_f, ev_ite, kIdx_eq, ev_idx, kSlc2_eq, kSlc_eq, ev_slc, ev_tup, ev_lst, ev_dnew, kLc_eq, ev_lc, kLc2_eq, ev_lc2, ev_call, ev_bi, kBm_eq, ev_bm, kIsi_eq, ev_isi, ev_lrg1, kLrg2_eq, ev_lrg2, evf_none, evf_some, oiK_int, evo_none, evo_some, evs_nil, kCons_eq, kEvs_eq, evs_cons, evIt_seq, evIt_rng1, kRng2_eq, evIt_rng2, kRng3b_eq, kRng3_eq, evIt_rng3, evIt_enu, kZip_eq, evIt_zip, ex_skip, kSeq_eq, ex_seq, kAsg_eq, ex_asg, kPar_eq, ex_par, kSI3_eq, kSI2_eq, kSI1_eq, ex_setIx, kNx_eq, ex_expr, kIfS_t, kIfS_f, ex_ite, kFor_eq, ex_for, ex_while, kRet_eq, ex_ret, ex_retN, kRaise_eq, ex_raise, ex_try, ex_brk, ex_cnt, ex_frz, tryK_nx, tryK_ret, tryK_exc, hndK_nil, hndK_cons, hndK1_f, hndK1_ti, hndK1_tn, unbK_ret, unbK_nx, unb0_ret, unb0_nx, varK_ok, tru_bl, tru_int, tru_tup, tru_lst, tru_non, tru_exc, bin_addK, bin_subK, MP.neg_int, c_lt, c_le, c_gt, c_ge, c_eq, c_ne, c_eqb, c_neb, m_lt, m_le, m_gt, m_ge, seq_tup, seq_lst, len_tup, len_lst, toList_tup, toList_lst, toTup_tup, toTup_lst, int1_int, int1_bl, min2_int, max2_int, abs_int, asg_nm, tup0, tup1, tup2, tup3, tup4, List.set_cons_zero, List.set_cons_succ, List.getElem?_cons_zero, List.getElem?_cons_succ, Bool.false_eq_true, ↓reduceIte, fin_ret, decide_true, decide_false, Bool.not_true, Bool.not_false, kOne_eq, kLcE_t, kLcE_f, lcE_eq, lcQ_nm, lcQ_tp2, lcQ_tp3, lcK1_nm, lcK1_tp2, kLcE3_eq, kLcE2_t, kLcE2_f, lcE2_eq, lcK2_nm, lcK2_tp2, rstE_nil, rstE_cons, asg_tp2, asg_tp3, asg_tp4, forK_nil, par1, par2, par3, q])
          have an := all_none (fun r : List Cell => r.all (okC n)) (D.a (.bl false)) t
          rw [an] at outer
          cases c5 : t.all fun r => r.all (okC n) <;> rw [c5] at outer
          · simp only [if_neg Bool.false_ne_true] at outer
            simp only [ok_bind, exc_bind, ok_thn, exc_thn, ok_calm, nx_and, ret_and, brk_and, cnt_and, exc_and, ev_cst, ev_var, ev_glb, kBin_eq, ev_bin, ev_neg, kNot_eq, ev_not, ev_and, ev_or, kAnd_t, kAnd_f, kOr_t, kOr_f, kCmp_eq, ev_cmp, ev_chn, chnK_t, chnK_f, kChn1_eq, kChn_nil, kChn_cons, kIfE_t, kIfE_f, ev_ite, kIdx_eq, ev_idx, kSlc2_eq, kSlc_eq, ev_slc, ev_tup, ev_lst, ev_dnew, kLc_eq, ev_lc, kLc2_eq, ev_lc2, ev_call, ev_bi, kBm_eq, ev_bm, kIsi_eq, ev_isi, ev_lrg1, kLrg2_eq, ev_lrg2, evf_none, evf_some, oiK_int, evo_none, evo_some, evs_nil, kCons_eq, kEvs_eq, evs_cons, evIt_seq, evIt_rng1, kRng2_eq, evIt_rng2, kRng3b_eq, kRng3_eq, evIt_rng3, evIt_enu, kZip_eq, evIt_zip, ex_skip, kSeq_eq, ex_seq, kAsg_eq, ex_asg, kPar_eq, ex_par, kSI3_eq, kSI2_eq, kSI1_eq, ex_setIx, kNx_eq, ex_expr, kIfS_t, kIfS_f, ex_ite, kFor_eq, ex_for, ex_while, kRet_eq, ex_ret, ex_retN, kRaise_eq, ex_raise, ex_try, ex_brk, ex_cnt, ex_frz, tryK_nx, tryK_ret, tryK_exc, hndK_nil, hndK_cons, hndK1_f, hndK1_ti, hndK1_tn, unbK_ret, unbK_nx, unb0_ret, unb0_nx, varK_ok, tru_bl, tru_int, tru_tup, tru_lst, tru_non, tru_exc, bin_addK, bin_subK, MP.neg_int, c_lt, c_le, c_gt, c_ge, c_eq, c_ne, c_eqb, c_neb, m_lt, m_le, m_gt, m_ge, seq_tup, seq_lst, len_tup, len_lst, toList_tup, toList_lst, toTup_tup, toTup_lst, int1_int, int1_bl, min2_int, max2_int, abs_int, asg_nm, tup0, tup1, tup2, tup3, tup4, List.set_cons_zero, List.set_cons_succ, List.getElem?_cons_zero, List.getElem?_cons_succ, Bool.false_eq_true, ↓reduceIte, fin_ret, decide_true, decide_false, Bool.not_true, Bool.not_false, kOne_eq, kLcE_t, kLcE_f, lcE_eq, lcQ_nm, lcQ_tp2, lcQ_tp3, lcK1_nm, lcK1_tp2, kLcE3_eq, kLcE2_t, kLcE2_f, lcE2_eq, lcK2_nm, lcK2_tp2, rstE_nil, rstE_cons, asg_tp2, asg_tp3, asg_tp4, forK_nil, par1, par2, par3, hn', decide_eq_true c1, decide_eq_true c2, bin_modK d2, decide_eq_false c3, l1', all_lst, e2, outer, take_self, Bool.and_false, Bool.false_and, Bool.true_and]
          · simp only [if_true] at outer
            simp only [ok_bind, exc_bind, ok_thn, exc_thn, ok_calm, nx_and, ret_and, brk_and, cnt_and, exc_and, ev_cst, ev_var, ev_glb, kBin_eq, ev_bin, ev_neg, kNot_eq, ev_not, ev_and, ev_or, kAnd_t, kAnd_f, kOr_t, kOr_f, kCmp_eq, ev_cmp, ev_chn, chnK_t, chnK_f, kChn1_eq, kChn_nil, kChn_cons, kIfE_t, kIfE_f, ev_ite, kIdx_eq, ev_idx, kSlc2_eq, kSlc_eq, ev_slc, ev_tup, ev_lst, ev_dnew, kLc_eq, ev_lc, kLc2_eq, ev_lc2, ev_call, ev_bi, kBm_eq, ev_bm, kIsi_eq, ev_isi, ev_lrg1, kLrg2_eq, ev_lrg2, evf_none, evf_some, oiK_int, evo_none, evo_some, evs_nil, kCons_eq, kEvs_eq, evs_cons, evIt_seq, evIt_rng1, kRng2_eq, evIt_rng2, kRng3b_eq, kRng3_eq, evIt_rng3, evIt_enu, kZip_eq, evIt_zip, ex_skip, kSeq_eq, ex_seq, kAsg_eq, ex_asg, kPar_eq, ex_par, kSI3_eq, kSI2_eq, kSI1_eq, ex_setIx, kNx_eq, ex_expr, kIfS_t, kIfS_f, ex_ite, kFor_eq, ex_for, ex_while, kRet_eq, ex_ret, ex_retN, kRaise_eq, ex_raise, ex_try, ex_brk, ex_cnt, ex_frz, tryK_nx, tryK_ret, tryK_exc, hndK_nil, hndK_cons, hndK1_f, hndK1_ti, hndK1_tn, unbK_ret, unbK_nx, unb0_ret, unb0_nx, varK_ok, tru_bl, tru_int, tru_tup, tru_lst, tru_non, tru_exc, bin_addK, bin_subK, MP.neg_int, c_lt, c_le, c_gt, c_ge, c_eq, c_ne, c_eqb, c_neb, m_lt, m_le, m_gt, m_ge, seq_tup, seq_lst, len_tup, len_lst, toList_tup, toList_lst, toTup_tup, toTup_lst, int1_int, int1_bl, min2_int, max2_int, abs_int, asg_nm, tup0, tup1, tup2, tup3, tup4, List.set_cons_zero, List.set_cons_succ, List.getElem?_cons_zero, List.getElem?_cons_succ, Bool.false_eq_true, ↓reduceIte, fin_ret, decide_true, decide_false, Bool.not_true, Bool.not_false, kOne_eq, kLcE_t, kLcE_f, lcE_eq, lcQ_nm, lcQ_tp2, lcQ_tp3, lcK1_nm, lcK1_tp2, kLcE3_eq, kLcE2_t, kLcE2_f, lcE2_eq, lcK2_nm, lcK2_tp2, rstE_nil, rstE_cons, asg_tp2, asg_tp3, asg_tp4, forK_nil, par1, par2, par3, hn', decide_eq_true c1, decide_eq_true c2, bin_modK d2, decide_eq_false c3, l1', all_lst, e2, outer, take_self, Bool.and_true, Bool.true_and]
    · simp only [ok_bind, exc_bind, ok_thn, exc_thn, ok_calm, nx_and, ret_and, brk_and, cnt_and, exc_and, ev_cst, ev_var, ev_glb, kBin_eq, ev_bin, ev_neg, kNot_eq, ev_not, ev_and, ev_or, kAnd_t, kAnd_f, kOr_t, kOr_f, kCmp_eq, ev_cmp, ev_chn, chnK_t, chnK_f, kChn1_eq, kChn_nil, kChn_cons, kIfE_t, kIfE_f, ev_ite, kIdx_eq, ev_idx, kSlc2_eq, kSlc_eq, ev_slc, ev_tup, ev_lst, ev_dnew, kLc_eq, ev_lc, kLc2_eq, ev_lc2, ev_call, ev_bi, kBm_eq, ev_bm, kIsi_eq, ev_isi, ev_lrg1, kLrg2_eq, ev_lrg2, evf_none, evf_some, oiK_int, evo_none, evo_some, evs_nil, kCons_eq, kEvs_eq, evs_cons, evIt_seq, evIt_rng1, kRng2_eq, evIt_rng2, kRng3b_eq, kRng3_eq, evIt_rng3, evIt_enu, kZip_eq, evIt_zip, ex_skip, kSeq_eq, ex_seq, kAsg_eq, ex_asg, kPar_eq, ex_par, kSI3_eq, kSI2_eq, kSI1_eq, ex_setIx, kNx_eq, ex_expr, kIfS_t, kIfS_f, ex_ite, kFor_eq, ex_for, ex_while, kRet_eq, ex_ret, ex_retN, kRaise_eq, ex_raise, ex_try, ex_brk, ex_cnt, ex_frz, tryK_nx, tryK_ret, tryK_exc, hndK_nil, hndK_cons, hndK1_f, hndK1_ti, hndK1_tn, unbK_ret, unbK_nx, unb0_ret, unb0_nx, varK_ok, tru_bl, tru_int, tru_tup, tru_lst, tru_non, tru_exc, bin_addK, bin_subK, MP.neg_int, c_lt, c_le, c_gt, c_ge, c_eq, c_ne, c_eqb, c_neb, m_lt, m_le, m_gt, m_ge, seq_tup, seq_lst, len_tup, len_lst, toList_tup, toList_lst, toTup_tup, toTup_lst, int1_int, int1_bl, min2_int, max2_int, abs_int, asg_nm, tup0, tup1, tup2, tup3, tup4, List.set_cons_zero, List.set_cons_succ, List.getElem?_cons_zero, List.getElem?_cons_succ, Bool.false_eq_true, ↓reduceIte, fin_ret, decide_true, decide_false, Bool.not_true, Bool.not_false, kOne_eq, kLcE_t, kLcE_f, lcE_eq, lcQ_nm, lcQ_tp2, lcQ_tp3, lcK1_nm, lcK1_tp2, kLcE3_eq, kLcE2_t, kLcE2_f, lcE2_eq, lcK2_nm, lcK2_tp2, rstE_nil, rstE_cons, asg_tp2, asg_tp3, asg_tp4, forK_nil, par1, par2, par3, hn', decide_eq_true c1, decide_eq_false c2, take_self, Bool.and_false, Bool.false_and, Bool.true_and]
  · simp only [ok_bind, exc_bind, ok_thn, exc_thn, ok_calm, nx_and, ret_and, brk_and, cnt_and, exc_and, ev_cst, ev_var, ev_glb, kBin_eq, ev_bin, ev_neg, kNot_eq, ev_not, ev_and, ev_or, kAnd_t, kAnd_f, kOr_t, kOr_f, kCmp_eq, ev_cmp, ev_chn, chnK_t, chnK_f, kChn1_eq, kChn_nil, kChn_cons, kIfE_t, kIfE_f, ev_ite, kIdx_eq, ev_idx, kSlc2_eq, kSlc_eq, ev_slc, ev_tup, ev_lst, ev_dnew, kLc_eq, ev_lc, kLc2_eq, ev_lc2, ev_call, ev_bi, kBm_eq, ev_bm, kIsi_eq, ev_isi, ev_lrg1, kLrg2_eq, ev_lrg2, evf_none, evf_some, oiK_int, evo_none, evo_some, evs_nil, kCons_eq, kEvs_eq, evs_cons, evIt_seq, evIt_rng1, kRng2_eq, evIt_rng2, kRng3b_eq, kRng3_eq, evIt_rng3, evIt_enu, kZip_eq, evIt_zip, ex_skip, kSeq_eq, ex_seq, kAsg_eq, ex_asg, kPar_eq, ex_par, kSI3_eq, kSI2_eq, kSI1_eq, ex_setIx, kNx_eq, ex_expr, kIfS_t, kIfS_f, ex_ite, kFor_eq, ex_for, ex_while, kRet_eq, ex_ret, ex_retN, kRaise_eq, ex_raise, ex_try, ex_brk, ex_cnt, ex_frz, tryK_nx, tryK_ret, tryK_exc, hndK_nil, hndK_cons, hndK1_f, hndK1_ti, hndK1_tn, unbK_ret, unbK_nx, unb0_ret, unb0_nx, varK_ok, tru_bl, tru_int, tru_tup, tru_lst, tru_non, tru_exc, bin_addK, bin_subK, MP.neg_int, c_lt, c_le, c_gt, c_ge, c_eq, c_ne, c_eqb, c_neb, m_lt, m_le, m_gt, m_ge, seq_tup, seq_lst, len_tup, len_lst, toList_tup, toList_lst, toTup_tup, toTup_lst, int1_int, int1_bl, min2_int, max2_int, abs_int, asg_nm, tup0, tup1, tup2, tup3, tup4, List.set_cons_zero, List.set_cons_succ, List.getElem?_cons_zero, List.getElem?_cons_succ, Bool.false_eq_true, ↓reduceIte, fin_ret, decide_true, decide_false, Bool.not_true, Bool.not_false, kOne_eq, kLcE_t, kLcE_f, lcE_eq, lcQ_nm, lcQ_tp2, lcQ_tp3, lcK1_nm, lcK1_tp2, kLcE3_eq, kLcE2_t, kLcE2_f, lcE2_eq, lcK2_nm, lcK2_tp2, rstE_nil, rstE_cons, asg_tp2, asg_tp3, asg_tp4, forK_nil, par1, par2, par3, hn', decide_eq_false c1, take_self, Bool.and_false, Bool.false_and]
theorem run15 {k : Nat} {h : Mem} {t : List (List Cell)} (hl : t.length ≤ 1000) (hr : ∀ r ∈ t, r.length ≤ 1000) : callF G (k + 1) 15 [.a (T t)] h = .ok (.a (.bl (are t))) h := by
  rw [callF_run (fi := f15) rfl rfl]
  simp only [f15, List.map_cons, List.map_nil, List.replicate, List.cons_append, List.nil_append]
  unfold are
  generalize hn : (t.length : Int) = n
  have hn' : (((t.map encR).length : Nat) : Int) = n := by rw [List.length_map, hn]
  have mk0 : ∀ {h : Mem}, mkL false [] h = .ok (.a (.lst [])) h := rfl
  by_cases c1 : 1 ≤ n
  · by_cases c2 : n ≤ 21
    · by_cases c3 : n % 2 = 0
      · simp only [ok_bind, exc_bind, ok_thn, exc_thn, ok_calm, nx_and, ret_and, brk_and, cnt_and, exc_and, ev_cst, ev_var, ev_glb, kBin_eq, ev_bin, ev_neg, kNot_eq, ev_not, ev_and, ev_or, kAnd_t, kAnd_f, kOr_t, kOr_f, kCmp_eq, ev_cmp, ev_chn, chnK_t, chnK_f, kChn1_eq, kChn_nil, kChn_cons, kIfE_t, kIfE_f, ev_ite, kIdx_eq, ev_idx, kSlc2_eq, kSlc_eq, ev_slc, ev_tup, ev_lst, ev_dnew, kLc_eq, ev_lc, kLc2_eq, ev_lc2, ev_call, ev_bi, kBm_eq, ev_bm, kIsi_eq, ev_isi, ev_lrg1, kLrg2_eq, ev_lrg2, evf_none, evf_some, oiK_int, evo_none, evo_some, evs_nil, kCons_eq, kEvs_eq, evs_cons, evIt_seq, evIt_rng1, kRng2_eq, evIt_rng2, kRng3b_eq, kRng3_eq, evIt_rng3, evIt_enu, kZip_eq, evIt_zip, ex_skip, kSeq_eq, ex_seq, kAsg_eq, ex_asg, kPar_eq, ex_par, kSI3_eq, kSI2_eq, kSI1_eq, ex_setIx, kNx_eq, ex_expr, kIfS_t, kIfS_f, ex_ite, kFor_eq, ex_for, ex_while, kRet_eq, ex_ret, ex_retN, kRaise_eq, ex_raise, ex_try, ex_brk, ex_cnt, ex_frz, tryK_nx, tryK_ret, tryK_exc, hndK_nil, hndK_cons, hndK1_f, hndK1_ti, hndK1_tn, unbK_ret, unbK_nx, unb0_ret, unb0_nx, varK_ok, tru_bl, tru_int, tru_tup, tru_lst, tru_non, tru_exc, bin_addK, bin_subK, MP.neg_int, c_lt, c_le, c_gt, c_ge, c_eq, c_ne, c_eqb, c_neb, m_lt, m_le, m_gt, m_ge, seq_tup, seq_lst, len_tup, len_lst, toList_tup, toList_lst, toTup_tup, toTup_lst, int1_int, int1_bl, min2_int, max2_int, abs_int, asg_nm, tup0, tup1, tup2, tup3, tup4, List.set_cons_zero, List.set_cons_succ, List.getElem?_cons_zero, List.getElem?_cons_succ, Bool.false_eq_true, ↓reduceIte, fin_ret, decide_true, decide_false, Bool.not_true, Bool.not_false, kOne_eq, kLcE_t, kLcE_f, lcE_eq, lcQ_nm, lcQ_tp2, lcQ_tp3, lcK1_nm, lcK1_tp2, kLcE3_eq, kLcE2_t, kLcE2_f, lcE2_eq, lcK2_nm, lcK2_tp2, rstE_nil, rstE_cons, asg_tp2, asg_tp3, asg_tp4, forK_nil, par1, par2, par3, hn', decide_eq_true c1, decide_eq_true c2, bin_modK d2, decide_eq_true c3, take_self, Bool.and_false, Bool.false_and, Bool.true_and]
      · have l1 := lc_filterA (h := h) (step := lcQ ⟨G, runF G k⟩ (.var 2) (.nm 2) (some (.cmp .NotEq (.bi false .len [(.var 2)]) (.var 1))) [3, 2] [some (.a (T t)), some (.a (.int n)), none, none, none]) encR (fun r => !decide ((r.length : Int) = n)) encR (xs := t) (by
          intro r _
          cases c : decide ((r.length : Int) = n) <;> simp only [ok_bind, exc_bind, ok_thn, exc_thn, ok_calm, nx_and, ret_and, brk_and, cnt_and, exc_and, ev_cst, ev_var, ev_glb, kBin_eq, ev_bin, ev_neg, kNot_eq, ev_not, ev_and, ev_or, kAnd_t, kAnd_f, kOr_t, kOr_f, kCmp_eq, ev_cmp, ev_chn, chnK_t, chnK_f, kChn1_eq, kChn_nil, kChn_cons, kIfE_t, kIfE_f, ev_ite, kIdx_eq, ev_idx, kSlc2_eq, kSlc_eq, ev_slc, ev_tup, ev_lst, ev_dnew, kLc_eq, ev_lc, kLc2_eq, ev_lc2, ev_call, ev_bi, kBm_eq, ev_bm, kIsi_eq, ev_isi, ev_lrg1, kLrg2_eq, ev_lrg2, evf_none, evf_some, oiK_int, evo_none, evo_some, evs_nil, kCons_eq, kEvs_eq, evs_cons, evIt_seq, evIt_rng1, kRng2_eq, evIt_rng2, kRng3b_eq, kRng3_eq, evIt_rng3, evIt_enu, kZip_eq, evIt_zip, ex_skip, kSeq_eq, ex_seq, kAsg_eq, ex_asg, kPar_eq, ex_par, kSI3_eq, kSI2_eq, kSI1_eq, ex_setIx, kNx_eq, ex_expr, kIfS_t, kIfS_f, ex_ite, kFor_eq, ex_for, ex_while, kRet_eq, ex_ret, ex_retN, kRaise_eq, ex_raise, ex_try, ex_brk, ex_cnt, ex_frz, tryK_nx, tryK_ret, tryK_exc, hndK_nil, hndK_cons, hndK1_f, hndK1_ti, hndK1_tn, unbK_ret, unbK_nx, unb0_ret, unb0_nx, varK_ok, tru_bl, tru_int, tru_tup, tru_lst, tru_non, tru_exc, bin_addK, bin_subK, MP.neg_int, c_lt, c_le, c_gt, c_ge, c_eq, c_ne, c_eqb, c_neb, m_lt, m_le, m_gt, m_ge, seq_tup, seq_lst, len_tup, len_lst, toList_tup, toList_lst, toTup_tup, toTup_lst, int1_int, int1_bl, min2_int, max2_int, abs_int, asg_nm, tup0, tup1, tup2, tup3, tup4, List.set_cons_zero, List.set_cons_succ, List.getElem?_cons_zero, List.getElem?_cons_succ, Bool.false_eq_true, ↓reduceIte, fin_ret, decide_true, decide_false, Bool.not_true, Bool.not_false, kOne_eq, kLcE_t, kLcE_f, lcE_eq, lcQ_nm, lcQ_tp2, lcQ_tp3, lcK1_nm, lcK1_tp2, kLcE3_eq, kLcE2_t, kLcE2_f, lcE2_eq, lcK2_nm, lcK2_tp2, rstE_nil, rstE_cons, asg_tp2, asg_tp3, asg_tp4, forK_nil, par1, par2, par3, List.length_map, c] <;> rfl)
        have l1' := lc_done l1 (by
          rw [List.length_map]
          exact Nat.le_trans (List.length_filter_le _ _) (by omega))
        have ne1 : cmpK .NotEq (.a (.lst ((t.filter fun r => !decide ((r.length : Int) = n)).map encR))) (.a (.lst [])) h = .ok (.a (.bl (!(t.all fun r => decide ((r.length : Int) = n))))) h := by
          rw [ne_nilL (lows_of (by
            intro x hx
            obtain ⟨r, _, rfl⟩ := List.mem_map.mp hx
            exact lowR r 47)), filter_empty (fun r : List Cell => decide ((r.length : Int) = n)) encR]
        cases c4 : t.all fun r => decide ((r.length : Int) = n) with
        | false => 
          rw [c4] at ne1
          simp only [ok_bind, exc_bind, ok_thn, exc_thn, ok_calm, nx_and, ret_and, brk_and, cnt_and, exc_and, ev_cst, ev_var, ev_glb, kBin_eq, ev_bin, ev_neg, kNot_eq, ev_not, ev_and, ev_or, kAnd_t, kAnd_f, kOr_t, kOr_f, kCmp_eq, ev_cmp, ev_chn, chnK_t, chnK_f, kChn1_eq, kChn_nil, kChn_cons, kIfE_t, kIfE_f, ev_ite, kIdx_eq, ev_idx, kSlc2_eq, kSlc_eq, ev_slc, ev_tup, ev_lst, ev_dnew, kLc_eq, ev_lc, kLc2_eq, ev_lc2, ev_call, ev_bi, kBm_eq, ev_bm, kIsi_eq, ev_isi, ev_lrg1, kLrg2_eq, ev_lrg2, evf_none, evf_some, oiK_int, evo_none, evo_some, evs_nil, kCons_eq, kEvs_eq, evs_cons, evIt_seq, evIt_rng1, kRng2_eq, evIt_rng2, kRng3b_eq, kRng3_eq, evIt_rng3, evIt_enu, kZip_eq, evIt_zip, ex_skip, kSeq_eq, ex_seq, kAsg_eq, ex_asg, kPar_eq, ex_par, kSI3_eq, kSI2_eq, kSI1_eq, ex_setIx, kNx_eq, ex_expr, kIfS_t, kIfS_f, ex_ite, kFor_eq, ex_for, ex_while, kRet_eq, ex_ret, ex_retN, kRaise_eq, ex_raise, ex_try, ex_brk, ex_cnt, ex_frz, tryK_nx, tryK_ret, tryK_exc, hndK_nil, hndK_cons, hndK1_f, hndK1_ti, hndK1_tn, unbK_ret, unbK_nx, unb0_ret, unb0_nx, varK_ok, tru_bl, tru_int, tru_tup, tru_lst, tru_non, tru_exc, bin_addK, bin_subK, MP.neg_int, c_lt, c_le, c_gt, c_ge, c_eq, c_ne, c_eqb, c_neb, m_lt, m_le, m_gt, m_ge, seq_tup, seq_lst, len_tup, len_lst, toList_tup, toList_lst, toTup_tup, toTup_lst, int1_int, int1_bl, min2_int, max2_int, abs_int, asg_nm, tup0, tup1, tup2, tup3, tup4, List.set_cons_zero, List.set_cons_succ, List.getElem?_cons_zero, List.getElem?_cons_succ, Bool.false_eq_true, ↓reduceIte, fin_ret, decide_true, decide_false, Bool.not_true, Bool.not_false, kOne_eq, kLcE_t, kLcE_f, lcE_eq, lcQ_nm, lcQ_tp2, lcQ_tp3, lcK1_nm, lcK1_tp2, kLcE3_eq, kLcE2_t, kLcE2_f, lcE2_eq, lcK2_nm, lcK2_tp2, rstE_nil, rstE_cons, asg_tp2, asg_tp3, asg_tp4, forK_nil, par1, par2, par3, hn', decide_eq_true c1, decide_eq_true c2, bin_modK d2, decide_eq_false c3, l1', mk0, ne1, take_self, Bool.and_false, Bool.false_and, Bool.true_and]
        | true =>
          rw [c4] at ne1
          have outer := forK_find (C := ⟨G, runF G k⟩) (base := h.length) (t := .nm 2) (rst := [2]) (b := .seq (.ite (.cmp .NotEq (.lc false (.var 4) (.nm 4) (.seq (.var 2)) (some (.and (.cmp .NotEq (.var 4) (.tup [])) (.or (.cmp .NotEq (.bi false .len [(.var 4)]) (.cst (.int 2))) (.not (.chn (.cst (.int 0)) [.LtE, .Lt, .LtE] [(.idx (.var 4) (.cst (.int 0))), (.idx (.var 4) (.cst (.int 1))), (.var 1)]))))) [3, 4]) (.lst false [])) (.seq (.ret (.cst (.bl false))) .skip) .skip) .skip) (h := h) (env := [some (.a (T t)), some (.a (.int n)), none, none, none]) encR (fun r => if r.all (okC n) = true then none else some (D.a (.bl false))) (xs := t) (by
            intro r hrm
            refine ⟨[some (.a (T t)), some (.a (.int n)), some (.a (encR r)), none, none], rfl, ?_⟩
            have l2 := lc_filterA (h := h) (step := lcQ ⟨G, runF G k⟩ (.var 4) (.nm 4) (some (.and (.cmp .NotEq (.var 4) (.tup [])) (.or (.cmp .NotEq (.bi false .len [(.var 4)]) (.cst (.int 2))) (.not (.chn (.cst (.int 0)) [.LtE, .Lt, .LtE] [(.idx (.var 4) (.cst (.int 0))), (.idx (.var 4) (.cst (.int 1))), (.var 1)]))))) [3, 4] [some (.a (T t)), some (.a (.int n)), some (.a (encR r)), none, none]) encC (fun c => !okC n c) encC (xs := r) (by
              intro c _
              cases c with
              | none =>
                have ok : okC n none = true := rfl
                rw [ok]
                simp only [ok_bind, exc_bind, ok_thn, exc_thn, ok_calm, nx_and, ret_and, brk_and, cnt_and, exc_and, ev_cst, ev_var, ev_glb, kBin_eq, ev_bin, ev_neg, kNot_eq, ev_not, ev_and, ev_or, kAnd_t, kAnd_f, kOr_t, kOr_f, kCmp_eq, ev_cmp, ev_chn, chnK_t, chnK_f, kChn1_eq, kChn_nil, kChn_cons, kIfE_t, kIfE_f, ev_ite, kIdx_eq, ev_idx, kSlc2_eq, kSlc_eq, ev_slc, ev_tup, ev_lst, ev_dnew, kLc_eq, ev_lc, kLc2_eq, ev_lc2, ev_call, ev_bi, kBm_eq, ev_bm, kIsi_eq, ev_isi, ev_lrg1, kLrg2_eq, ev_lrg2, evf_none, evf_some, oiK_int, evo_none, evo_some, evs_nil, kCons_eq, kEvs_eq, evs_cons, evIt_seq, evIt_rng1, kRng2_eq, evIt_rng2, kRng3b_eq, kRng3_eq, evIt_rng3, evIt_enu, kZip_eq, evIt_zip, ex_skip, kSeq_eq, ex_seq, kAsg_eq, ex_asg, kPar_eq, ex_par, kSI3_eq, kSI2_eq, kSI1_eq, ex_setIx, kNx_eq, ex_expr, kIfS_t, kIfS_f, ex_ite, kFor_eq, ex_for, ex_while, kRet_eq, ex_ret, ex_retN, kRaise_eq, ex_raise, ex_try, ex_brk, ex_cnt, ex_frz, tryK_nx, tryK_ret, tryK_exc, hndK_nil, hndK_cons, hndK1_f, hndK1_ti, hndK1_tn, unbK_ret, unbK_nx, unb0_ret, unb0_nx, varK_ok, tru_bl, tru_int, tru_tup, tru_lst, tru_non, tru_exc, bin_addK, bin_subK, MP.neg_int, c_lt, c_le, c_gt, c_ge, c_eq, c_ne, c_eqb, c_neb, m_lt, m_le, m_gt, m_ge, seq_tup, seq_lst, len_tup, len_lst, toList_tup, toList_lst, toTup_tup, toTup_lst, int1_int, int1_bl, min2_int, max2_int, abs_int, asg_nm, tup0, tup1, tup2, tup3, tup4, List.set_cons_zero, List.set_cons_succ, List.getElem?_cons_zero, List.getElem?_cons_succ, Bool.false_eq_true, ↓reduceIte, fin_ret, decide_true, decide_false, Bool.not_true, Bool.not_false, kOne_eq, kLcE_t, kLcE_f, lcE_eq, lcQ_nm, lcQ_tp2, lcQ_tp3, lcK1_nm, lcK1_tp2, kLcE3_eq, kLcE2_t, kLcE2_f, lcE2_eq, lcK2_nm, lcK2_tp2, rstE_nil, rstE_cons, asg_tp2, asg_tp3, asg_tp4, forK_nil, par1, par2, par3, ne_c, Option.isSome_none]
              | some p =>
                have ec : encC (some p) = .tup [.int p.1, .int p.2] := rfl
                have nn : ∀ {h : Mem}, cmpK .NotEq (.a (.tup [.int p.1, .int p.2])) (.a (.tup [])) h = .ok (.a (.bl true)) h := ne_c (c := some p)
                have l2 : ((([A.int p.1, A.int p.2].length : Nat) : Int)) = 2 := rfl
                have d2' : decide ((2 : Int) = 2) = true := rfl
                have ok : okC n (some p) = (decide (0 ≤ p.1) && (decide (p.1 < p.2) && decide (p.2 ≤ n))) := rfl
                rw [ok, ec]
                by_cases a1 : 0 ≤ p.1
                · by_cases a2 : p.1 < p.2
                  · by_cases a3 : p.2 ≤ n
                    · rw [decide_eq_true a1, decide_eq_true a2, decide_eq_true a3]
                      simp only [ok_bind, exc_bind, ok_thn, exc_thn, ok_calm, nx_and, ret_and, brk_and, cnt_and, exc_and, ev_cst, ev_var, ev_glb, kBin_eq, ev_bin, ev_neg, kNot_eq, ev_not, ev_and, ev_or, kAnd_t, kAnd_f, kOr_t, kOr_f, kCmp_eq, ev_cmp, ev_chn, chnK_t, chnK_f, kChn1_eq, kChn_nil, kChn_cons, kIfE_t, kIfE_f, ev_ite, kIdx_eq, ev_idx, kSlc2_eq, kSlc_eq, ev_slc, ev_tup, ev_lst, ev_dnew, kLc_eq, ev_lc, kLc2_eq, ev_lc2, ev_call, ev_bi, kBm_eq, ev_bm, kIsi_eq, ev_isi, ev_lrg1, kLrg2_eq, ev_lrg2, evf_none, evf_some, oiK_int, evo_none, evo_some, evs_nil, kCons_eq, kEvs_eq, evs_cons, evIt_seq, evIt_rng1, kRng2_eq, evIt_rng2, kRng3b_eq, kRng3_eq, evIt_rng3, evIt_enu, kZip_eq, evIt_zip, ex_skip, kSeq_eq, ex_seq, kAsg_eq, ex_asg, kPar_eq, ex_par, kSI3_eq, kSI2_eq, kSI1_eq, ex_setIx, kNx_eq, ex_expr, kIfS_t, kIfS_f, ex_ite, kFor_eq, ex_for, ex_while, kRet_eq, ex_ret, ex_retN, kRaise_eq, ex_raise, ex_try, ex_brk, ex_cnt, ex_frz, tryK_nx, tryK_ret, tryK_exc, hndK_nil, hndK_cons, hndK1_f, hndK1_ti, hndK1_tn, unbK_ret, unbK_nx, unb0_ret, unb0_nx, varK_ok, tru_bl, tru_int, tru_tup, tru_lst, tru_non, tru_exc, bin_addK, bin_subK, MP.neg_int, c_lt, c_le, c_gt, c_ge, c_eq, c_ne, c_eqb, c_neb, m_lt, m_le, m_gt, m_ge, seq_tup, seq_lst, len_tup, len_lst, toList_tup, toList_lst, toTup_tup, toTup_lst, int1_int, int1_bl, min2_int, max2_int, abs_int, asg_nm, tup0, tup1, tup2, tup3, tup4, List.set_cons_zero, List.set_cons_succ, List.getElem?_cons_zero, List.getElem?_cons_succ, Bool.false_eq_true, ↓reduceIte, fin_ret, decide_true, decide_false, Bool.not_true, Bool.not_false, kOne_eq, kLcE_t, kLcE_f, lcE_eq, lcQ_nm, lcQ_tp2, lcQ_tp3, lcK1_nm, lcK1_tp2, kLcE3_eq, kLcE2_t, kLcE2_f, lcE2_eq, lcK2_nm, lcK2_tp2, rstE_nil, rstE_cons, asg_tp2, asg_tp3, asg_tp4, forK_nil, par1, par2, par3, nn, l2, d2', i20, i21, decide_eq_true a1, decide_eq_true a2, decide_eq_true a3]
                      rfl
                    · rw [decide_eq_true a1, decide_eq_true a2, decide_eq_false a3]
                      simp only [ok_bind, exc_bind, ok_thn, exc_thn, ok_calm, nx_and, ret_and, brk_and, cnt_and, exc_and, ev_cst, ev_var, ev_glb, kBin_eq, ev_bin, ev_neg, kNot_eq, ev_not, ev_and, ev_or, kAnd_t, kAnd_f, kOr_t, kOr_f, kCmp_eq, ev_cmp, ev_chn, chnK_t, chnK_f, kChn1_eq, kChn_nil, kChn_cons, kIfE_t, kIfE_f, ev_ite, kIdx_eq, ev_idx, kSlc2_eq, kSlc_eq, ev_slc, ev_tup, ev_lst, ev_dnew, kLc_eq, ev_lc, kLc2_eq, ev_lc2, ev_call, ev_bi, kBm_eq, ev_bm, kIsi_eq, ev_isi, ev_lrg1, kLrg2_eq, ev_lrg2, evf_none, evf_some, oiK_int, evo_none, evo_some, evs_nil, kCons_eq, kEvs_eq, evs_cons, evIt_seq, evIt_rng1, kRng2_eq, evIt_rng2, kRng3b_eq, kRng3_eq, evIt_rng3, evIt_enu, kZip_eq, evIt_zip, ex_skip, kSeq_eq, ex_seq, kAsg_eq, ex_asg, kPar_eq, ex_par, kSI3_eq, kSI2_eq, kSI1_eq, ex_setIx, kNx_eq, ex_expr, kIfS_t, kIfS_f, ex_ite, kFor_eq, ex_for, ex_while, kRet_eq, ex_ret, ex_retN, kRaise_eq, ex_raise, ex_try, ex_brk, ex_cnt, ex_frz, tryK_nx, tryK_ret, tryK_exc, hndK_nil, hndK_cons, hndK1_f, hndK1_ti, hndK1_tn, unbK_ret, unbK_nx, unb0_ret, unb0_nx, varK_ok, tru_bl, tru_int, tru_tup, tru_lst, tru_non, tru_exc, bin_addK, bin_subK, MP.neg_int, c_lt, c_le, c_gt, c_ge, c_eq, c_ne, c_eqb, c_neb, m_lt, m_le, m_gt, m_ge, seq_tup, seq_lst, len_tup, len_lst, toList_tup, toList_lst, toTup_tup, toTup_lst, int1_int, int1_bl, min2_int, max2_int, abs_int, asg_nm, tup0, tup1, tup2, tup3, tup4, List.set_cons_zero, List.set_cons_succ, List.getElem?_cons_zero, List.getElem?_cons_succ, Bool.false_eq_true, ↓reduceIte, fin_ret, decide_true, decide_false, Bool.not_true, Bool.not_false, kOne_eq, kLcE_t, kLcE_f, lcE_eq, lcQ_nm, lcQ_tp2, lcQ_tp3, lcK1_nm, lcK1_tp2, kLcE3_eq, kLcE2_t, kLcE2_f, lcE2_eq, lcK2_nm, lcK2_tp2, rstE_nil, rstE_cons, asg_tp2, asg_tp3, asg_tp4, forK_nil, par1, par2, par3, nn, l2, d2', i20, i21, decide_eq_true a1, decide_eq_true a2, decide_eq_false a3]
                      rfl
                  · rw [decide_eq_true a1, decide_eq_false a2]
                    simp only [ok_bind, exc_bind, ok_thn, exc_thn, ok_calm, nx_and, ret_and, brk_and, cnt_and, exc_and, ev_cst, ev_var, ev_glb, kBin_eq, ev_bin, ev_neg, kNot_eq, ev_not, ev_and, ev_or, kAnd_t, kAnd_f, kOr_t, kOr_f, kCmp_eq, ev_cmp, ev_chn, chnK_t, chnK_f, kChn1_eq, kChn_nil, kChn_cons, kIfE_t, kIfE_f, ev_ite, kIdx_eq, ev_idx, kSlc2_eq, kSlc_eq, ev_slc, ev_tup, ev_lst, ev_dnew, kLc_eq, ev_lc, kLc2_eq, ev_lc2, ev_call, ev_bi, kBm_eq, ev_bm, kIsi_eq, ev_isi, ev_lrg1, kLrg2_eq, ev_lrg2, evf_none, evf_some, oiK_int, evo_none, evo_some, evs_nil, kCons_eq, kEvs_eq, evs_cons, evIt_seq, evIt_rng1, kRng2_eq, evIt_rng2, kRng3b_eq, kRng3_eq, evIt_rng3, evIt_enu, kZip_eq, evIt_zip, ex_skip, kSeq_eq, ex_seq, kAsg_eq, ex_asg, kPar_eq, ex_par, kSI3_eq, kSI2_eq, kSI1_eq, ex_setIx, kNx_eq, ex_expr, kIfS_t, kIfS_f, ex_ite, kFor_eq, ex_for, ex_while, kRet_eq, ex_ret, ex_retN, kRaise_eq, ex_raise, ex_try, ex_brk, ex_cnt, ex_frz, tryK_nx, tryK_ret, tryK_exc, hndK_nil, hndK_cons, hndK1_f, hndK1_ti, hndK1_tn, unbK_ret, unbK_nx, unb0_ret, unb0_nx, varK_ok, tru_bl, tru_int, tru_tup, tru_lst, tru_non, tru_exc, bin_addK, bin_subK, MP.neg_int, c_lt, c_le, c_gt, c_ge, c_eq, c_ne, c_eqb, c_neb, m_lt, m_le, m_gt, m_ge, seq_tup, seq_lst, len_tup, len_lst, toList_tup, toList_lst, toTup_tup, toTup_lst, int1_int, int1_bl, min2_int, max2_int, abs_int, asg_nm, tup0, tup1, tup2, tup3, tup4, List.set_cons_zero, List.set_cons_succ, List.getElem?_cons_zero, List.getElem?_cons_succ, Bool.false_eq_true, ↓reduceIte, fin_ret, decide_true, decide_false, Bool.not_true, Bool.not_false, kOne_eq, kLcE_t, kLcE_f, lcE_eq, lcQ_nm, lcQ_tp2, lcQ_tp3, lcK1_nm, lcK1_tp2, kLcE3_eq, kLcE2_t, kLcE2_f, lcE2_eq, lcK2_nm, lcK2_tp2, rstE_nil, rstE_cons, asg_tp2, asg_tp3, asg_tp4, forK_nil, par1, par2, par3, nn, l2, d2', i20, i21, decide_eq_true a1, decide_eq_false a2]
                    rfl
                · rw [decide_eq_false a1]
                  simp only [ok_bind, exc_bind, ok_thn, exc_thn, ok_calm, nx_and, ret_and, brk_and, cnt_and, exc_and, ev_cst, ev_var, ev_glb, kBin_eq, ev_bin, ev_neg, kNot_eq, ev_not, ev_and, ev_or, kAnd_t, kAnd_f, kOr_t, kOr_f, kCmp_eq, ev_cmp, ev_chn, chnK_t, chnK_f, kChn1_eq, kChn_nil, kChn_cons, kIfE_t, kIfE_f, ev_ite, kIdx_eq, ev_idx, kSlc2_eq, kSlc_eq, ev_slc, ev_tup, ev_lst, ev_dnew, kLc_eq, ev_lc, kLc2_eq, ev_lc2, ev_call, ev_bi, kBm_eq, ev_bm, kIsi_eq, ev_isi, ev_lrg1, kLrg2_eq, ev_lrg2, evf_none, evf_some, oiK_int, evo_none, evo_some, evs_nil, kCons_eq, kEvs_eq, evs_cons, evIt_seq, evIt_rng1, kRng2_eq, evIt_rng2, kRng3b_eq, kRng3_eq, evIt_rng3, evIt_enu, kZip_eq, evIt_zip, ex_skip, kSeq_eq, ex_seq, kAsg_eq, ex_asg, kPar_eq, ex_par, kSI3_eq, kSI2_eq, kSI1_eq, ex_setIx, kNx_eq, ex_expr, kIfS_t, kIfS_f, ex_ite, kFor_eq, ex_for, ex_while, kRet_eq, ex_ret, ex_retN, kRaise_eq, ex_raise, ex_try, ex_brk, ex_cnt, ex_frz, tryK_nx, tryK_ret, tryK_exc, hndK_nil, hndK_cons, hndK1_f, hndK1_ti, hndK1_tn, unbK_ret, unbK_nx, unb0_ret, unb0_nx, varK_ok, tru_bl, tru_int, tru_tup, tru_lst, tru_non, tru_exc, bin_addK, bin_subK, MP.neg_int, c_lt, c_le, c_gt, c_ge, c_eq, c_ne, c_eqb, c_neb, m_lt, m_le, m_gt, m_ge, seq_tup, seq_lst, len_tup, len_lst, toList_tup, toList_lst, toTup_tup, toTup_lst, int1_int, int1_bl, min2_int, max2_int, abs_int, asg_nm, tup0, tup1, tup2, tup3, tup4, List.set_cons_zero, List.set_cons_succ, List.getElem?_cons_zero, List.getElem?_cons_succ, Bool.false_eq_true, ↓reduceIte, fin_ret, decide_true, decide_false, Bool.not_true, Bool.not_false, kOne_eq, kLcE_t, kLcE_f, lcE_eq, lcQ_nm, lcQ_tp2, lcQ_tp3, lcK1_nm, lcK1_tp2, kLcE3_eq, kLcE2_t, kLcE2_f, lcE2_eq, lcK2_nm, lcK2_tp2, rstE_nil, rstE_cons, asg_tp2, asg_tp3, asg_tp4, forK_nil, par1, par2, par3, nn, l2, d2', i20, i21, decide_eq_false a1]
                  rfl)
            have l2' := lc_done l2 (by
              rw [List.length_map]
              exact Nat.le_trans (List.length_filter_le _ _) (by have := hr r hrm; omega))
            have ne2 : cmpK .NotEq (.a (.lst ((r.filter fun c => !okC n c).map encC))) (.a (.lst [])) h = .ok (.a (.bl (!(r.all (okC n))))) h := by
              rw [ne_nilL (lows_of (by
                intro x hx
                obtain ⟨c, _, rfl⟩ := List.mem_map.mp hx
                exact lowC c 48)), filter_empty (okC n) encC]
            cases c : r.all (okC n) <;> rw [c] at ne2
            · show MP.exec _ _ _ _ _ = _
              simp only [ok_bind, exc_bind, ok_thn, exc_thn, ok_calm, nx_and, ret_and, brk_and, cnt_and, exc_and, ev_cst, ev_var, ev_glb, kBin_eq, ev_bin, ev_neg, kNot_eq, ev_not, ev_and, ev_or, kAnd_t, kAnd_f, kOr_t, kOr_f, kCmp_eq, ev_cmp, ev_chn, chnK_t, chnK_f, kChn1_eq, kChn_nil, kChn_cons, kIfE_t, kIfE_f, ev_ite, kIdx_eq, ev_idx, kSlc2_eq, kSlc_eq, ev_slc, ev_tup, ev_lst, ev_dnew, kLc_eq, ev_lc, kLc2_eq, ev_lc2, ev_call, ev_bi, kBm_eq, ev_bm, kIsi_eq, ev_isi, ev_lrg1, kLrg2_eq, ev_lrg2, evf_none, evf_some, oiK_int, evo_none, evo_some, evs_nil, kCons_eq, kEvs_eq, evs_cons, evIt_seq, evIt_rng1, kRng2_eq, evIt_rng2, kRng3b_eq, kRng3_eq, evIt_rng3, evIt_enu, kZip_eq, evIt_zip, ex_skip, kSeq_eq, ex_seq, kAsg_eq, ex_asg, kPar_eq, ex_par, kSI3_eq, kSI2_eq, kSI1_eq, ex_setIx, kNx_eq, ex_expr, kIfS_t, kIfS_f, ex_ite, kFor_eq, ex_for, ex_while, kRet_eq, ex_ret, ex_retN, kRaise_eq, ex_raise, ex_try, ex_brk, ex_cnt, ex_frz, tryK_nx, tryK_ret, tryK_exc, hndK_nil, hndK_cons, hndK1_f, hndK1_ti, hndK1_tn, unbK_ret, unbK_nx, unb0_ret, unb0_nx, varK_ok, tru_bl, tru_int, tru_tup, tru_lst, tru_non, tru_exc, bin_addK, bin_subK, MP.neg_int, c_lt, c_le, c_gt, c_ge, c_eq, c_ne, c_eqb, c_neb, m_lt, m_le, m_gt, m_ge, seq_tup, seq_lst, len_tup, len_lst, toList_tup, toList_lst, toTup_tup, toTup_lst, int1_int, int1_bl, min2_int, max2_int, abs_int, asg_nm, tup0, tup1, tup2, tup3, tup4, List.set_cons_zero, List.set_cons_succ, List.getElem?_cons_zero, List.getElem?_cons_succ, Bool.false_eq_true, ↓reduceIte, fin_ret, decide_true, decide_false, Bool.not_true, Bool.not_false, kOne_eq, kLcE_t, kLcE_f, lcE_eq, lcQ_nm, lcQ_tp2, lcQ_tp3, lcK1_nm, lcK1_tp2, kLcE3_eq, kLcE2_t, kLcE2_f, lcE2_eq, lcK2_nm, lcK2_tp2, rstE_nil, rstE_cons, asg_tp2, asg_tp3, asg_tp4, forK_nil, par1, par2, par3, l2', mk0, ne2]
            · refine ⟨[some (.a (T t)), some (.a (.int n)), some (.a (encR r)), none, none], ?_, rfl⟩
              simp only [ok_bind, exc_bind, ok_thn, exc_thn, ok_calm, nx_and, ret_and, brk_and, cnt_and, exc_and, ev_cst, ev_var, ev_glb, kBin_eq, ev_bin, ev_neg, kNot_eq, ev_not, ev_and, ev_or, kAnd_t, kAnd_f, kOr_t, kOr_f, kCmp_eq, ev_cmp, ev_chn, chnK_t, chnK_f, kChn1_eq, kChn_nil, kChn_cons, kIfE_t, kIfE_f, ev_ite, kIdx_eq, ev_idx, kSlc2_eq, kSlc_eq, ev_slc, ev_tup, ev_lst, ev_dnew, kLc_eq, ev_lc, kLc2_eq, ev_lc2, ev_call, ev_bi, kBm_eq, ev_bm, kIsi_eq, ev_isi, ev_lrg1, kLrg2_eq, ev_lrg2, evf_none, evf_some, oiK_int, evo_none, evo_some, evs_nil, kCons_eq, kEvs_eq, evs_cons, evIt_seq, evIt_rng1, kRng2_eq, evIt_rng2, kRng3b_eq, kRng3_eq, evIt_rng3, evIt_enu, kZip_eq, evIt_zip, ex_skip, kSeq_eq, ex_seq, kAsg_eq, ex_asg, kPar_eq, ex_par, kSI3_eq, kSI2_eq, kSI1_eq, ex_setIx, kNx_eq, ex_expr, kIfS_t, kIfS_f, ex_ite, kFor_eq, ex_for, ex_while, kRet_eq, ex_ret, ex_retN, kRaise_eq, ex_raise, ex_try, ex_brk, ex_cnt, ex_frz, tryK_nx, tryK_ret, tryK_exc, hndK_nil, hndK_cons, hndK1_f, hndK1_ti, hndK1_tn, unbK_ret, unbK_nx, unb0_ret, unb0_nx, varK_ok, tru_bl, tru_int, tru_tup, tru_lst, tru_non, tru_exc, bin_addK, bin_subK, MP.neg_int, c_lt, c_le, c_gt, c_ge, c_eq, c_ne, c_eqb, c_neb, m_lt, m_le, m_gt, m_ge, seq_tup, seq_lst, len_tup, len_lst, toList_tup, toList_lst, toTup_tup, toTup_lst, int1_int, int1_bl, min2_int, max2_int, abs_int, asg_nm, tup0, tup1, tup2, tup3, tup4, List.set_cons_zero, List.set_cons_succ, List.getElem?_cons_zero, List.getElem?_cons_succ, Bool.false_eq_true, ↓reduceIte, fin_ret, decide_true, decide_false, Bool.not_true, Bool.not_false, kOne_eq, kLcE_t, kLcE_f, lcE_eq, lcQ_nm, lcQ_tp2, lcQ_tp3, lcK1_nm, lcK1_tp2, kLcE3_eq, kLcE2_t, kLcE2_f, lcE2_eq, lcK2_nm, lcK2_tp2, rstE_nil, rstE_cons, asg_tp2, asg_tp3, asg_tp4, forK_nil, par1, par2, par3, l2', mk0, ne2])
          have an := all_none (fun r : List Cell => r.all (okC n)) (D.a (.bl false)) t
          rw [an] at outer
          cases c5 : t.all fun r => r.all (okC n) <;> rw [c5] at outer
          · simp only [if_neg Bool.false_ne_true] at outer
            simp only [ok_bind, exc_bind, ok_thn, exc_thn, ok_calm, nx_and, ret_and, brk_and, cnt_and, exc_and, ev_cst, ev_var, ev_glb, kBin_eq, ev_bin, ev_neg, kNot_eq, ev_not, ev_and, ev_or, kAnd_t, kAnd_f, kOr_t, kOr_f, kCmp_eq, ev_cmp, ev_chn, chnK_t, chnK_f, kChn1_eq, kChn_nil, kChn_cons, kIfE_t, kIfE_f, ev_ite, kIdx_eq, ev_idx, kSlc2_eq, kSlc_eq, ev_slc, ev_tup, ev_lst, ev_dnew, kLc_eq, ev_lc, kLc2_eq, ev_lc2, ev_call, ev_bi, kBm_eq, ev_bm, kIsi_eq, ev_isi, ev_lrg1, kLrg2_eq, ev_lrg2, evf_none, evf_some, oiK_int, evo_none, evo_some, evs_nil, kCons_eq, kEvs_eq, evs_cons, evIt_seq, evIt_rng1, kRng2_eq, evIt_rng2, kRng3b_eq, kRng3_eq, evIt_rng3, evIt_enu, kZip_eq, evIt_zip, ex_skip, kSeq_eq, ex_seq, kAsg_eq, ex_asg, kPar_eq, ex_par, kSI3_eq, kSI2_eq, kSI1_eq, ex_setIx, kNx_eq, ex_expr, kIfS_t, kIfS_f, ex_ite, kFor_eq, ex_for, ex_while, kRet_eq, ex_ret, ex_retN, kRaise_eq, ex_raise, ex_try, ex_brk, ex_cnt, ex_frz, tryK_nx, tryK_ret, tryK_exc, hndK_nil, hndK_cons, hndK1_f, hndK1_ti, hndK1_tn, unbK_ret, unbK_nx, unb0_ret, unb0_nx, varK_ok, tru_bl, tru_int, tru_tup, tru_lst, tru_non, tru_exc, bin_addK, bin_subK, MP.neg_int, c_lt, c_le, c_gt, c_ge, c_eq, c_ne, c_eqb, c_neb, m_lt, m_le, m_gt, m_ge, seq_tup, seq_lst, len_tup, len_lst, toList_tup, toList_lst, toTup_tup, toTup_lst, int1_int, int1_bl, min2_int, max2_int, abs_int, asg_nm, tup0, tup1, tup2, tup3, tup4, List.set_cons_zero, List.set_cons_succ, List.getElem?_cons_zero, List.getElem?_cons_succ, Bool.false_eq_true, ↓reduceIte, fin_ret, decide_true, decide_false, Bool.not_true, Bool.not_false, kOne_eq, kLcE_t, kLcE_f, lcE_eq, lcQ_nm, lcQ_tp2, lcQ_tp3, lcK1_nm, lcK1_tp2, kLcE3_eq, kLcE2_t, kLcE2_f, lcE2_eq, lcK2_nm, lcK2_tp2, rstE_nil, rstE_cons, asg_tp2, asg_tp3, asg_tp4, forK_nil, par1, par2, par3, hn', decide_eq_true c1, decide_eq_true c2, bin_modK d2, decide_eq_false c3, l1', mk0, ne1, outer, take_self, Bool.and_false, Bool.false_and, Bool.true_and]
          · simp only [if_true] at outer
            simp only [ok_bind, exc_bind, ok_thn, exc_thn, ok_calm, nx_and, ret_and, brk_and, cnt_and, exc_and, ev_cst, ev_var, ev_glb, kBin_eq, ev_bin, ev_neg, kNot_eq, ev_not, ev_and, ev_or, kAnd_t, kAnd_f, kOr_t, kOr_f, kCmp_eq, ev_cmp, ev_chn, chnK_t, chnK_f, kChn1_eq, kChn_nil, kChn_cons, kIfE_t, kIfE_f, ev_ite, kIdx_eq, ev_idx, kSlc2_eq, kSlc_eq, ev_slc, ev_tup, ev_lst, ev_dnew, kLc_eq, ev_lc, kLc2_eq, ev_lc2, ev_call, ev_bi, kBm_eq, ev_bm, kIsi_eq, ev_isi, ev_lrg1, kLrg2_eq, ev_lrg2, evf_none, evf_some, oiK_int, evo_none, evo_some, evs_nil, kCons_eq, kEvs_eq, evs_cons, evIt_seq, evIt_rng1, kRng2_eq, evIt_rng2, kRng3b_eq, kRng3_eq, evIt_rng3, evIt_enu, kZip_eq, evIt_zip, ex_skip, kSeq_eq, ex_seq, kAsg_eq, ex_asg, kPar_eq, ex_par, kSI3_eq, kSI2_eq, kSI1_eq, ex_setIx, kNx_eq, ex_expr, kIfS_t, kIfS_f, ex_ite, kFor_eq, ex_for, ex_while, kRet_eq, ex_ret, ex_retN, kRaise_eq, ex_raise, ex_try, ex_brk, ex_cnt, ex_frz, tryK_nx, tryK_ret, tryK_exc, hndK_nil, hndK_cons, hndK1_f, hndK1_ti, hndK1_tn, unbK_ret, unbK_nx, unb0_ret, unb0_nx, varK_ok, tru_bl, tru_int, tru_tup, tru_lst, tru_non, tru_exc, bin_addK, bin_subK, MP.neg_int, c_lt, c_le, c_gt, c_ge, c_eq, c_ne, c_eqb, c_neb, m_lt, m_le, m_gt, m_ge, seq_tup, seq_lst, len_tup, len_lst, toList_tup, toList_lst, toTup_tup, toTup_lst, int1_int, int1_bl, min2_int, max2_int, abs_int, asg_nm, tup0, tup1, tup2, tup3, tup4, List.set_cons_zero, List.set_cons_succ, List.getElem?_cons_zero, List.getElem?_cons_succ, Bool.false_eq_true, ↓reduceIte, fin_ret, decide_true, decide_false, Bool.not_true, Bool.not_false, kOne_eq, kLcE_t, kLcE_f, lcE_eq, lcQ_nm, lcQ_tp2, lcQ_tp3, lcK1_nm, lcK1_tp2, kLcE3_eq, kLcE2_t, kLcE2_f, lcE2_eq, lcK2_nm, lcK2_tp2, rstE_nil, rstE_cons, asg_tp2, asg_tp3, asg_tp4, forK_nil, par1, par2, par3, hn', decide_eq_true c1, decide_eq_true c2, bin_modK d2, decide_eq_false c3, l1', mk0, ne1, outer, take_self, Bool.and_true, Bool.true_and]
    · simp only [ok_bind, exc_bind, ok_thn, exc_thn, ok_calm, nx_and, ret_and, brk_and, cnt_and, exc_and, ev_cst, ev_var, ev_glb, kBin_eq, ev_bin, ev_neg, kNot_eq, ev_not, ev_and, ev_or, kAnd_t, kAnd_f, kOr_t, kOr_f, kCmp_eq, ev_cmp, ev_chn, chnK_t, chnK_f, kChn1_eq, kChn_nil, kChn_cons, kIfE_t, kIfE_f, ev_ite, kIdx_eq, ev_idx, kSlc2_eq, kSlc_eq, ev_slc, ev_tup, ev_lst, ev_dnew, kLc_eq, ev_lc, kLc2_eq, ev_lc2, ev_call, ev_bi, kBm_eq, ev_bm, kIsi_eq, ev_isi, ev_lrg1, kLrg2_eq, ev_lrg2, evf_none, evf_some, oiK_int, evo_none, evo_some, evs_nil, kCons_eq, kEvs_eq, evs_cons, evIt_seq, evIt_rng1, kRng2_eq, evIt_rng2, kRng3b_eq, kRng3_eq, evIt_rng3, evIt_enu, kZip_eq, evIt_zip, ex_skip, kSeq_eq, ex_seq, kAsg_eq, ex_asg, kPar_eq, ex_par, kSI3_eq, kSI2_eq, kSI1_eq, ex_setIx, kNx_eq, ex_expr, kIfS_t, kIfS_f, ex_ite, kFor_eq, ex_for, ex_while, kRet_eq, ex_ret, ex_retN, kRaise_eq, ex_raise, ex_try, ex_brk, ex_cnt, ex_frz, tryK_nx, tryK_ret, tryK_exc, hndK_nil, hndK_cons, hndK1_f, hndK1_ti, hndK1_tn, unbK_ret, unbK_nx, unb0_ret, unb0_nx, varK_ok, tru_bl, tru_int, tru_tup, tru_lst, tru_non, tru_exc, bin_addK, bin_subK, MP.neg_int, c_lt, c_le, c_gt, c_ge, c_eq, c_ne, c_eqb, c_neb, m_lt, m_le, m_gt, m_ge, seq_tup, seq_lst, len_tup, len_lst, toList_tup, toList_lst, toTup_tup, toTup_lst, int1_int, int1_bl, min2_int, max2_int, abs_int, asg_nm, tup0, tup1, tup2, tup3, tup4, List.set_cons_zero, List.set_cons_succ, List.getElem?_cons_zero, List.getElem?_cons_succ, Bool.false_eq_true, ↓reduceIte, fin_ret, decide_true, decide_false, Bool.not_true, Bool.not_false, kOne_eq, kLcE_t, kLcE_f, lcE_eq, lcQ_nm, lcQ_tp2, lcQ_tp3, lcK1_nm, lcK1_tp2, kLcE3_eq, kLcE2_t, kLcE2_f, lcE2_eq, lcK2_nm, lcK2_tp2, rstE_nil, rstE_cons, asg_tp2, asg_tp3, asg_tp4, forK_nil, par1, par2, par3, hn', decide_eq_true c1, decide_eq_false c2, take_self, Bool.and_false, Bool.false_and, Bool.true_and]
  · simp only [ok_bind, exc_bind, ok_thn, exc_thn, ok_calm, nx_and, ret_and, brk_and, cnt_and, exc_and, ev_cst, ev_var, ev_glb, kBin_eq, ev_bin, ev_neg, kNot_eq, ev_not, ev_and, ev_or, kAnd_t, kAnd_f, kOr_t, kOr_f, kCmp_eq, ev_cmp, ev_chn, chnK_t, chnK_f, kChn1_eq, kChn_nil, kChn_cons, kIfE_t, kIfE_f, ev_ite, kIdx_eq, ev_idx, kSlc2_eq, kSlc_eq, ev_slc, ev_tup, ev_lst, ev_dnew, kLc_eq, ev_lc, kLc2_eq, ev_lc2, ev_call, ev_bi, kBm_eq, ev_bm, kIsi_eq, ev_isi, ev_lrg1, kLrg2_eq, ev_lrg2, evf_none, evf_some, oiK_int, evo_none, evo_some, evs_nil, kCons_eq, kEvs_eq, evs_cons, evIt_seq, evIt_rng1, kRng2_eq, evIt_rng2, kRng3b_eq, kRng3_eq, evIt_rng3, evIt_enu, kZip_eq, evIt_zip, ex_skip, kSeq_eq, ex_seq, kAsg_eq, ex_asg, kPar_eq, ex_par, kSI3_eq, kSI2_eq, kSI1_eq, ex_setIx, kNx_eq, ex_expr, kIfS_t, kIfS_f, ex_ite, kFor_eq, ex_for, ex_while, kRet_eq, ex_ret, ex_retN, kRaise_eq, ex_raise, ex_try, ex_brk, ex_cnt, ex_frz, tryK_nx, tryK_ret, tryK_exc, hndK_nil, hndK_cons, hndK1_f, hndK1_ti, hndK1_tn, unbK_ret, unbK_nx, unb0_ret, unb0_nx, varK_ok, tru_bl, tru_int, tru_tup, tru_lst, tru_non, tru_exc, bin_addK, bin_subK, MP.neg_int, c_lt, c_le, c_gt, c_ge, c_eq, c_ne, c_eqb, c_neb, m_lt, m_le, m_gt, m_ge, seq_tup, seq_lst, len_tup, len_lst, toList_tup, toList_lst, toTup_tup, toTup_lst, int1_int, int1_bl, min2_int, max2_int, abs_int, asg_nm, tup0, tup1, tup2, tup3, tup4, List.set_cons_zero, List.set_cons_succ, List.getElem?_cons_zero, List.getElem?_cons_succ, Bool.false_eq_true, ↓reduceIte, fin_ret, decide_true, decide_false, Bool.not_true, Bool.not_false, kOne_eq, kLcE_t, kLcE_f, lcE_eq, lcQ_nm, lcQ_tp2, lcQ_tp3, lcK1_nm, lcK1_tp2, kLcE3_eq, kLcE2_t, kLcE2_f, lcE2_eq, lcK2_nm, lcK2_tp2, rstE_nil, rstE_cons, asg_tp2, asg_tp3, asg_tp4, forK_nil, par1, par2, par3, hn', decide_eq_false c1, take_self, Bool.and_false, Bool.false_and]
end K27
end
section
set_option Elab.async false
set_option linter.all false
set_option maxRecDepth 100000
set_option maxHeartbeats 4000000
namespace K27
open MP
open PySem hiding exec
def hasA (l : List Cell) (n : Int) : Bool := decide (sortI (l.flatMap nC) = rngI 0 (n + 1))
theorem flatC (l : List Cell) : (l.flatMap fun c => (nC c).map A.int) = (l.flatMap nC).map A.int := by rw [List.map_flatMap]
theorem nC_len (l : List Cell) : (l.flatMap nC).length ≤ 2 * l.length := by
  induction l with
  | nil => exact Nat.le_refl _
  | cons c l ih =>
    rw [List.flatMap_cons, List.length_append, List.length_cons]
    have : (nC c).length ≤ 2 := by cases c; exact Nat.zero_le _; exact Nat.le_refl _
    omega
theorem run7 {k : Nat} {h : Mem} {l : List Cell} {x : A} {n : Int} (hx : ∀ {h : Mem}, seqK (.a x) h = .ok ((l.map encC).map D.a) h) (hl : l.length ≤ 1000) (n0 : 0 ≤ n) (n1 : n ≤ 1000) : callF G (k + 1) 7 [.a x, .a (.int n)] h = .ok (.a (.bl (hasA l n))) h := by
  have l2 := lc_flatA (h := h) (step := lcK2 ⟨G, runF G k⟩ (.var 4) (.nm 3) none (.nm 4) (.seq (.var 3)) none [2, 3, 4] [4] [some (.a x), some (.a (.int n)), none, none, none]) encC (fun c => (nC c).map A.int) (xs := l) (by
    intro c _
    cases c with
    | none =>
      simp only [ok_bind, exc_bind, ok_thn, exc_thn, ok_calm, nx_and, ret_and, brk_and, cnt_and, exc_and, ev_cst, ev_var, ev_glb, kBin_eq, ev_bin, ev_neg, kNot_eq, ev_not, ev_and, ev_or, kAnd_t, kAnd_f, kOr_t, kOr_f, kCmp_eq, ev_cmp, ev_chn, chnK_t, chnK_f, kChn1_eq, kChn_nil, kChn_cons, kIfE_t, kIfE_f, ev_ite, kIdx_eq, ev_idx, kSlc2_eq, kSlc_eq, ev_slc, ev_tup, ev_lst, ev_dnew, kLc_eq, ev_lc, kLc2_eq, ev_lc2, ev_call, ev_bi, kBm_eq, ev_bm, kIsi_eq, ev_isi, ev_lrg1, kLrg2_eq, ev_lrg2, evf_none, evf_some, oiK_int, evo_none, evo_some, evs_nil, kCons_eq, kEvs_eq, evs_cons, evIt_seq, evIt_rng1, kRng2_eq, evIt_rng2, kRng3b_eq, kRng3_eq, evIt_rng3, evIt_enu, kZip_eq, evIt_zip, ex_skip, kSeq_eq, ex_seq, kAsg_eq, ex_asg, kPar_eq, ex_par, kSI3_eq, kSI2_eq, kSI1_eq, ex_setIx, kNx_eq, ex_expr, kIfS_t, kIfS_f, ex_ite, kFor_eq, ex_for, ex_while, kRet_eq, ex_ret, ex_retN, kRaise_eq, ex_raise, ex_try, ex_brk, ex_cnt, ex_frz, tryK_nx, tryK_ret, tryK_exc, hndK_nil, hndK_cons, hndK1_f, hndK1_ti, hndK1_tn, unbK_ret, unbK_nx, unb0_ret, unb0_nx, varK_ok, tru_bl, tru_int, tru_tup, tru_lst, tru_non, tru_exc, bin_addK, bin_subK, MP.neg_int, c_lt, c_le, c_gt, c_ge, c_eq, c_ne, c_eqb, c_neb, m_lt, m_le, m_gt, m_ge, seq_tup, seq_lst, len_tup, len_lst, toList_tup, toList_lst, toTup_tup, toTup_lst, int1_int, int1_bl, min2_int, max2_int, abs_int, asg_nm, tup0, tup1, tup2, tup3, tup4, List.set_cons_zero, List.set_cons_succ, List.getElem?_cons_zero, List.getElem?_cons_succ, Bool.false_eq_true, ↓reduceIte, fin_ret, decide_true, decide_false, Bool.not_true, Bool.not_false, kOne_eq, kLcE_t, kLcE_f, lcE_eq, lcQ_nm, lcQ_tp2, lcQ_tp3, lcK1_nm, lcK1_tp2, kLcE3_eq, kLcE2_t, kLcE2_f, lcE2_eq, lcK2_nm, lcK2_tp2, rstE_nil, rstE_cons, asg_tp2, asg_tp3, asg_tp4, forK_nil, par1, par2, par3, encC, List.map_nil, lcD]
      rfl
    | some p =>
      simp only [ok_bind, exc_bind, ok_thn, exc_thn, ok_calm, nx_and, ret_and, brk_and, cnt_and, exc_and, ev_cst, ev_var, ev_glb, kBin_eq, ev_bin, ev_neg, kNot_eq, ev_not, ev_and, ev_or, kAnd_t, kAnd_f, kOr_t, kOr_f, kCmp_eq, ev_cmp, ev_chn, chnK_t, chnK_f, kChn1_eq, kChn_nil, kChn_cons, kIfE_t, kIfE_f, ev_ite, kIdx_eq, ev_idx, kSlc2_eq, kSlc_eq, ev_slc, ev_tup, ev_lst, ev_dnew, kLc_eq, ev_lc, kLc2_eq, ev_lc2, ev_call, ev_bi, kBm_eq, ev_bm, kIsi_eq, ev_isi, ev_lrg1, kLrg2_eq, ev_lrg2, evf_none, evf_some, oiK_int, evo_none, evo_some, evs_nil, kCons_eq, kEvs_eq, evs_cons, evIt_seq, evIt_rng1, kRng2_eq, evIt_rng2, kRng3b_eq, kRng3_eq, evIt_rng3, evIt_enu, kZip_eq, evIt_zip, ex_skip, kSeq_eq, ex_seq, kAsg_eq, ex_asg, kPar_eq, ex_par, kSI3_eq, kSI2_eq, kSI1_eq, ex_setIx, kNx_eq, ex_expr, kIfS_t, kIfS_f, ex_ite, kFor_eq, ex_for, ex_while, kRet_eq, ex_ret, ex_retN, kRaise_eq, ex_raise, ex_try, ex_brk, ex_cnt, ex_frz, tryK_nx, tryK_ret, tryK_exc, hndK_nil, hndK_cons, hndK1_f, hndK1_ti, hndK1_tn, unbK_ret, unbK_nx, unb0_ret, unb0_nx, varK_ok, tru_bl, tru_int, tru_tup, tru_lst, tru_non, tru_exc, bin_addK, bin_subK, MP.neg_int, c_lt, c_le, c_gt, c_ge, c_eq, c_ne, c_eqb, c_neb, m_lt, m_le, m_gt, m_ge, seq_tup, seq_lst, len_tup, len_lst, toList_tup, toList_lst, toTup_tup, toTup_lst, int1_int, int1_bl, min2_int, max2_int, abs_int, asg_nm, tup0, tup1, tup2, tup3, tup4, List.set_cons_zero, List.set_cons_succ, List.getElem?_cons_zero, List.getElem?_cons_succ, Bool.false_eq_true, ↓reduceIte, fin_ret, decide_true, decide_false, Bool.not_true, Bool.not_false, kOne_eq, kLcE_t, kLcE_f, lcE_eq, lcQ_nm, lcQ_tp2, lcQ_tp3, lcK1_nm, lcK1_tp2, kLcE3_eq, kLcE2_t, kLcE2_f, lcE2_eq, lcK2_nm, lcK2_tp2, rstE_nil, rstE_cons, asg_tp2, asg_tp3, asg_tp4, forK_nil, par1, par2, par3, encC, List.map_cons, List.map_nil, lcD]
      rfl)
  rw [flatC] at l2
  have l2' := lc_done l2 (by rw [List.length_map]; have := nC_len l; omega)
  rw [callF_run (fi := f7) rfl rfl]
  simp only [f7, List.map_cons, List.map_nil, List.replicate, List.cons_append, List.nil_append]
  unfold hasA
  simp only [ok_bind, exc_bind, ok_thn, exc_thn, ok_calm, nx_and, ret_and, brk_and, cnt_and, exc_and, ev_cst, ev_var, ev_glb, kBin_eq, ev_bin, ev_neg, kNot_eq, ev_not, ev_and, ev_or, kAnd_t, kAnd_f, kOr_t, kOr_f, kCmp_eq, ev_cmp, ev_chn, chnK_t, chnK_f, kChn1_eq, kChn_nil, kChn_cons, kIfE_t, kIfE_f, ev_ite, kIdx_eq, ev_idx, kSlc2_eq, kSlc_eq, ev_slc, ev_tup, ev_lst, ev_dnew, kLc_eq, ev_lc, kLc2_eq, ev_lc2, ev_call, ev_bi, kBm_eq, ev_bm, kIsi_eq, ev_isi, ev_lrg1, kLrg2_eq, ev_lrg2, evf_none, evf_some, oiK_int, evo_none, evo_some, evs_nil, kCons_eq, kEvs_eq, evs_cons, evIt_seq, evIt_rng1, kRng2_eq, evIt_rng2, kRng3b_eq, kRng3_eq, evIt_rng3, evIt_enu, kZip_eq, evIt_zip, ex_skip, kSeq_eq, ex_seq, kAsg_eq, ex_asg, kPar_eq, ex_par, kSI3_eq, kSI2_eq, kSI1_eq, ex_setIx, kNx_eq, ex_expr, kIfS_t, kIfS_f, ex_ite, kFor_eq, ex_for, ex_while, kRet_eq, ex_ret, ex_retN, kRaise_eq, ex_raise, ex_try, ex_brk, ex_cnt, ex_frz, tryK_nx, tryK_ret, tryK_exc, hndK_nil, hndK_cons, hndK1_f, hndK1_ti, hndK1_tn, unbK_ret, unbK_nx, unb0_ret, unb0_nx, varK_ok, tru_bl, tru_int, tru_tup, tru_lst, tru_non, tru_exc, bin_addK, bin_subK, MP.neg_int, c_lt, c_le, c_gt, c_ge, c_eq, c_ne, c_eqb, c_neb, m_lt, m_le, m_gt, m_ge, seq_tup, seq_lst, len_tup, len_lst, toList_tup, toList_lst, toTup_tup, toTup_lst, int1_int, int1_bl, min2_int, max2_int, abs_int, asg_nm, tup0, tup1, tup2, tup3, tup4, List.set_cons_zero, List.set_cons_succ, List.getElem?_cons_zero, List.getElem?_cons_succ, Bool.false_eq_true, ↓reduceIte, fin_ret, decide_true, decide_false, Bool.not_true, Bool.not_false, kOne_eq, kLcE_t, kLcE_f, lcE_eq, lcQ_nm, lcQ_tp2, lcQ_tp3, lcK1_nm, lcK1_tp2, kLcE3_eq, kLcE2_t, kLcE2_f, lcE2_eq, lcK2_nm, lcK2_tp2, rstE_nil, rstE_cons, asg_tp2, asg_tp3, asg_tp4, forK_nil, par1, par2, par3, hx, l2', sorted_L, lrg1_ff (j := n + 1) (h := h) (by omega) (by omega), c_eqL, take_self]
def tms (t : List (List Cell)) (p : Int × Int) : Nat := (t.flatMap fun r => (r.filter fun c => decide (c = some p)).map fun _ => A.int 1).length
theorem eq_c {h : Mem} {c : Cell} {a b : Int} : cmpK .Eq (.a (encC c)) (.a (.tup [.int a, .int b])) h = .ok (.a (.bl (decide (c = some (a, b))))) h := by
  rw [c_eqA (lowC c 49) rfl]
  cases c with
  | none => rfl
  | some p =>
    show R.ok (D.a (.bl (decide (p.1 = a) && (decide (p.2 = b) && true)))) h = _
    rw [Bool.and_true]
    congr 3
    rw [Bool.eq_iff_iff, Bool.and_eq_true, decide_eq_true_iff, decide_eq_true_iff, decide_eq_true_iff, Option.some.injEq, Prod.ext_iff]
theorem tms_le (t : List (List Cell)) (p : Int × Int) (n : Nat) (hr : ∀ r ∈ t, r.length ≤ n) : tms t p ≤ t.length * n := by
  unfold tms
  induction t with
  | nil => exact Nat.zero_le _
  | cons r t ih =>
    rw [List.flatMap_cons, List.length_append, List.length_map, List.length_cons, Nat.succ_mul]
    have h1 := ih fun r hr' => hr r (List.mem_cons_of_mem _ hr')
    have h2 : (r.filter fun c => decide (c = some p)).length ≤ r.length := List.length_filter_le _ _
    have h3 := hr r List.mem_cons_self
    omega
theorem run8 {k : Nat} {h : Mem} {t : List (List Cell)} {a b : Int} (hl : t.length ≤ 100) (hr : ∀ r ∈ t, r.length ≤ 100) : callF G (k + 1) 8 [.a (T t), .a (.tup [.int a, .int b])] h = .ok (.a (.int (tms t (a, b)))) h := by
  have l2 := lc_flatA (h := h) (step := lcK2 ⟨G, runF G k⟩ (.cst (.int 1)) (.nm 3) none (.nm 4) (.seq (.var 3)) (some (.cmp .Eq (.var 4) (.var 1))) [2, 3, 4] [4] [some (.a (T t)), some (.a (.tup [.int a, .int b])), none, none, none]) encR (fun r => (r.filter fun c => decide (c = some (a, b))).map fun _ => A.int 1) (xs := t) (by
    intro r _
    have l1 := lc_filterA (h := h) (step := lcK1 ⟨G, runF G k⟩ (.cst (.int 1)) (.nm 4) (some (.cmp .Eq (.var 4) (.var 1))) [some (.a (T t)), some (.a (.tup [.int a, .int b])), none, some (.a (encR r)), none]) encC (fun c => decide (c = some (a, b))) (fun _ => A.int 1) (xs := r) (by
      intro c _
      cases e : decide (c = some (a, b)) <;> simp only [ok_bind, exc_bind, ok_thn, exc_thn, ok_calm, nx_and, ret_and, brk_and, cnt_and, exc_and, ev_cst, ev_var, ev_glb, kBin_eq, ev_bin, ev_neg, kNot_eq, ev_not, ev_and, ev_or, kAnd_t, kAnd_f, kOr_t, kOr_f, kCmp_eq, ev_cmp, ev_chn, chnK_t, chnK_f, kChn1_eq, kChn_nil, kChn_cons, kIfE_t, kIfE_f, ev_ite, kIdx_eq, ev_idx, kSlc2_eq, kSlc_eq, ev_slc, ev_tup, ev_lst, ev_dnew, kLc_eq, ev_lc, kLc2_eq, ev_lc2, ev_call, ev_bi, kBm_eq, ev_bm, kIsi_eq, ev_isi, ev_lrg1, kLrg2_eq, ev_lrg2, evf_none, evf_some, oiK_int, evo_none, evo_some, evs_nil, kCons_eq, kEvs_eq, evs_cons, evIt_seq, evIt_rng1, kRng2_eq, evIt_rng2, kRng3b_eq, kRng3_eq, evIt_rng3, evIt_enu, kZip_eq, evIt_zip, ex_skip, kSeq_eq, ex_seq, kAsg_eq, ex_asg, kPar_eq, ex_par, kSI3_eq, kSI2_eq, kSI1_eq, ex_setIx, kNx_eq, ex_expr, kIfS_t, kIfS_f, ex_ite, kFor_eq, ex_for, ex_while, kRet_eq, ex_ret, ex_retN, kRaise_eq, ex_raise, ex_try, ex_brk, ex_cnt, ex_frz, tryK_nx, tryK_ret, tryK_exc, hndK_nil, hndK_cons, hndK1_f, hndK1_ti, hndK1_tn, unbK_ret, unbK_nx, unb0_ret, unb0_nx, varK_ok, tru_bl, tru_int, tru_tup, tru_lst, tru_non, tru_exc, bin_addK, bin_subK, MP.neg_int, c_lt, c_le, c_gt, c_ge, c_eq, c_ne, c_eqb, c_neb, m_lt, m_le, m_gt, m_ge, seq_tup, seq_lst, len_tup, len_lst, toList_tup, toList_lst, toTup_tup, toTup_lst, int1_int, int1_bl, min2_int, max2_int, abs_int, asg_nm, tup0, tup1, tup2, tup3, tup4, List.set_cons_zero, List.set_cons_succ, List.getElem?_cons_zero, List.getElem?_cons_succ, Bool.false_eq_true, ↓reduceIte, fin_ret, decide_true, decide_false, Bool.not_true, Bool.not_false, kOne_eq, kLcE_t, kLcE_f, lcE_eq, lcQ_nm, lcQ_tp2, lcQ_tp3, lcK1_nm, lcK1_tp2, kLcE3_eq, kLcE2_t, kLcE2_f, lcE2_eq, lcK2_nm, lcK2_tp2, rstE_nil, rstE_cons, asg_tp2, asg_tp3, asg_tp4, forK_nil, par1, par2, par3, eq_c, e] <;> rfl)
    simp only [ok_bind, exc_bind, ok_thn, exc_thn, ok_calm, nx_and, ret_and, brk_and, cnt_and, exc_and, ev_cst, ev_var, ev_glb, kBin_eq, ev_bin, ev_neg, kNot_eq, ev_not, ev_and, ev_or, kAnd_t, kAnd_f, kOr_t, kOr_f, kCmp_eq, ev_cmp, ev_chn, chnK_t, chnK_f, kChn1_eq, kChn_nil, kChn_cons, kIfE_t, kIfE_f, ev_ite, kIdx_eq, ev_idx, kSlc2_eq, kSlc_eq, ev_slc, ev_tup, ev_lst, ev_dnew, kLc_eq, ev_lc, kLc2_eq, ev_lc2, ev_call, ev_bi, kBm_eq, ev_bm, kIsi_eq, ev_isi, ev_lrg1, kLrg2_eq, ev_lrg2, evf_none, evf_some, oiK_int, evo_none, evo_some, evs_nil, kCons_eq, kEvs_eq, evs_cons, evIt_seq, evIt_rng1, kRng2_eq, evIt_rng2, kRng3b_eq, kRng3_eq, evIt_rng3, evIt_enu, kZip_eq, evIt_zip, ex_skip, kSeq_eq, ex_seq, kAsg_eq, ex_asg, kPar_eq, ex_par, kSI3_eq, kSI2_eq, kSI1_eq, ex_setIx, kNx_eq, ex_expr, kIfS_t, kIfS_f, ex_ite, kFor_eq, ex_for, ex_while, kRet_eq, ex_ret, ex_retN, kRaise_eq, ex_raise, ex_try, ex_brk, ex_cnt, ex_frz, tryK_nx, tryK_ret, tryK_exc, hndK_nil, hndK_cons, hndK1_f, hndK1_ti, hndK1_tn, unbK_ret, unbK_nx, unb0_ret, unb0_nx, varK_ok, tru_bl, tru_int, tru_tup, tru_lst, tru_non, tru_exc, bin_addK, bin_subK, MP.neg_int, c_lt, c_le, c_gt, c_ge, c_eq, c_ne, c_eqb, c_neb, m_lt, m_le, m_gt, m_ge, seq_tup, seq_lst, len_tup, len_lst, toList_tup, toList_lst, toTup_tup, toTup_lst, int1_int, int1_bl, min2_int, max2_int, abs_int, asg_nm, tup0, tup1, tup2, tup3, tup4, List.set_cons_zero, List.set_cons_succ, List.getElem?_cons_zero, List.getElem?_cons_succ, Bool.false_eq_true, ↓reduceIte, fin_ret, decide_true, decide_false, Bool.not_true, Bool.not_false, kOne_eq, kLcE_t, kLcE_f, lcE_eq, lcQ_nm, lcQ_tp2, lcQ_tp3, lcK1_nm, lcK1_tp2, kLcE3_eq, kLcE2_t, kLcE2_f, lcE2_eq, lcK2_nm, lcK2_tp2, rstE_nil, rstE_cons, asg_tp2, asg_tp3, asg_tp4, forK_nil, par1, par2, par3, l1])
  have hm := tms_le t (a, b) 100 hr
  have hm2 : t.length * 100 ≤ 100 * 100 := Nat.mul_le_mul_right _ hl
  have l2' := lc_done l2 (by unfold tms at hm; omega)
  rw [callF_run (fi := f8) rfl rfl]
  simp only [f8, List.map_cons, List.map_nil, List.replicate, List.cons_append, List.nil_append]
  simp only [ok_bind, exc_bind, ok_thn, exc_thn, ok_calm, nx_and, ret_and, brk_and, cnt_and, exc_and, ev_cst, ev_var, ev_glb, kBin_eq, ev_bin, ev_neg, kNot_eq, ev_not, ev_and, ev_or, kAnd_t, kAnd_f, kOr_t, kOr_f, kCmp_eq, ev_cmp, ev_chn, chnK_t, chnK_f, kChn1_eq, kChn_nil, kChn_cons, kIfE_t, kIfE_f, ev_ite, kIdx_eq, ev_idx, kSlc2_eq, kSlc_eq, ev_slc, ev_tup, ev_lst, ev_dnew, kLc_eq, ev_lc, kLc2_eq, ev_lc2, ev_call, ev_bi, kBm_eq, ev_bm, kIsi_eq, ev_isi, ev_lrg1, kLrg2_eq, ev_lrg2, evf_none, evf_some, oiK_int, evo_none, evo_some, evs_nil, kCons_eq, kEvs_eq, evs_cons, evIt_seq, evIt_rng1, kRng2_eq, evIt_rng2, kRng3b_eq, kRng3_eq, evIt_rng3, evIt_enu, kZip_eq, evIt_zip, ex_skip, kSeq_eq, ex_seq, kAsg_eq, ex_asg, kPar_eq, ex_par, kSI3_eq, kSI2_eq, kSI1_eq, ex_setIx, kNx_eq, ex_expr, kIfS_t, kIfS_f, ex_ite, kFor_eq, ex_for, ex_while, kRet_eq, ex_ret, ex_retN, kRaise_eq, ex_raise, ex_try, ex_brk, ex_cnt, ex_frz, tryK_nx, tryK_ret, tryK_exc, hndK_nil, hndK_cons, hndK1_f, hndK1_ti, hndK1_tn, unbK_ret, unbK_nx, unb0_ret, unb0_nx, varK_ok, tru_bl, tru_int, tru_tup, tru_lst, tru_non, tru_exc, bin_addK, bin_subK, MP.neg_int, c_lt, c_le, c_gt, c_ge, c_eq, c_ne, c_eqb, c_neb, m_lt, m_le, m_gt, m_ge, seq_tup, seq_lst, len_tup, len_lst, toList_tup, toList_lst, toTup_tup, toTup_lst, int1_int, int1_bl, min2_int, max2_int, abs_int, asg_nm, tup0, tup1, tup2, tup3, tup4, List.set_cons_zero, List.set_cons_succ, List.getElem?_cons_zero, List.getElem?_cons_succ, Bool.false_eq_true, ↓reduceIte, fin_ret, decide_true, decide_false, Bool.not_true, Bool.not_false, kOne_eq, kLcE_t, kLcE_f, lcE_eq, lcQ_nm, lcQ_tp2, lcQ_tp3, lcK1_nm, lcK1_tp2, kLcE3_eq, kLcE2_t, kLcE2_f, lcE2_eq, lcK2_nm, lcK2_tp2, rstE_nil, rstE_cons, asg_tp2, asg_tp3, asg_tp4, forK_nil, par1, par2, par3, l2', take_self]
  rfl
/-! ### the faults -/
def col (t : List (List Cell)) (x : Nat) : List Cell := t.map fun r => (r[x]?).getD none
def cols (t : List (List Cell)) : List (List Cell) := (List.range t.length).map (col t)
def FL (ls : List (List Cell)) (n : Int) : List Nat := (ls.zipIdx.filter fun q => !hasA q.1 n).map (·.2)
def FP (t : List (List Cell)) : List (Int × Int) := (rngI 0 (t.length + 1)).flatMap fun two => ((rngI 0 two).filter fun one => !decide ((tms t (one, two) : Int) = 1)).map fun one => (one, two)
def fK (k : Int) (i : Nat) : A := .tup [.int k, .int i]
def fP (p : Int × Int) : A := .tup [.int 2, .int p.1, .int p.2]
def FF (t : List (List Cell)) : List A := (FL t t.length).map (fK 0) ++ (FL (cols t) t.length).map (fK 1) ++ (FP t).map fP
def roomA (t : List (List Cell)) : A := match FF t with
  | [] => .tup [.str "room", T t]
  | f :: _ => .tup [.str "cramped", T t, f]
theorem forK_nx1 {C : MP.Ctx} {base : Nat} {t : Tg} {rst : List Nat} {b : S} {x : D} {xs : List D} {env e e' : MP.Env} {h h' : Mem} (h1 : setTg t x h env = some e) (h2 : MP.exec C base b e h = .nx e' h') : forK C base t rst b (x :: xs) env h = forK C base t rst b xs (rstE rst e') h' := by
  unfold forK
  rw [forL, h1]
  show (MP.exec C base b e h).turn rst _ = _
  rw [h2]
  rfl
theorem forK_rt1 {C : MP.Ctx} {base : Nat} {t : Tg} {rst : List Nat} {b : S} {x : D} {xs : List D} {env e : MP.Env} {h h' : Mem} {d : D} (h1 : setTg t x h env = some e) (h2 : MP.exec C base b e h = .ret d h') : forK C base t rst b (x :: xs) env h = .ret d h' := by
  unfold forK
  rw [forL, h1]
  show (MP.exec C base b e h).turn rst _ = _
  rw [h2]
  rfl
def bKind : S := match S.at f5.body 4 with | .for_ _ _ b _ => b | x => x
def bLine : S := match S.at bKind 0 with | .for_ _ _ b _ => b | x => x
/-- the lines of one kind -/
theorem lines5 {k : Nat} {h : Mem} {b0 : Nat} {t : List (List Cell)} {ls : List (List Cell)} {κ : Int} {el : List Cell → A} {v2 v4 : Option D} (hs : ∀ (l : List Cell) {h : Mem}, seqK (.a (el l)) h = .ok ((l.map encC).map D.a) h) (hl : ∀ l ∈ ls, l.length ≤ 1000) (hn : t.length ≤ 1000) :
    forK ⟨G, runF G (k + 1)⟩ b0 (.tp [5, 6]) [5, 6] bLine ((ls.zipIdx.map fun q => A.tup [.int q.2, el q.1]).map D.a) [some (.a (T t)), some (.a (.int t.length)), v2, some (.a (.int κ)), v4, none, none, none, none, none, none, none, none] h
      = match ((FL ls t.length).map (fK κ)).head? with
        | none => .nx [some (.a (T t)), some (.a (.int t.length)), v2, some (.a (.int κ)), v4, none, none, none, none, none, none, none, none] h
        | some f => .ret (.a (.tup [.str "cramped", T t, f])) h := by
  have q := forK_find (C := ⟨G, runF G (k + 1)⟩) (base := b0) (t := .tp [5, 6]) (rst := [5, 6]) (b := bLine) (h := h) (env := [some (.a (T t)), some (.a (.int t.length)), v2, some (.a (.int κ)), v4, none, none, none, none, none, none, none, none]) (fun q : List Cell × Nat => A.tup [.int q.2, el q.1]) (fun q => if hasA q.1 t.length = true then none else some (D.a (.tup [.str "cramped", T t, fK κ q.2]))) (xs := ls.zipIdx) (by
    rintro ⟨l, i⟩ hq
    have hl' : l.length ≤ 1000 := hl l (by
      have := List.mem_zipIdx_iff_getElem?.mp hq
      exact List.mem_of_getElem? this)
    refine ⟨[some (.a (T t)), some (.a (.int t.length)), v2, some (.a (.int κ)), v4, some (.a (.int i)), some (.a (el l)), none, none, none, none, none, none], rfl, ?_⟩
    have q7 := run7 (k := k) (h := h) (n := t.length) (hs l) hl' (by omega) (by omega)
    dsimp only
    cases c : hasA l t.length <;> rw [c] at q7
    · show MP.exec _ _ _ _ _ = _
      simp only [bLine, bKind, f5, S.at]
      simp only [ok_bind, exc_bind, ok_thn, exc_thn, ok_calm, nx_and, ret_and, brk_and, cnt_and, exc_and, ev_cst, ev_var, ev_glb, kBin_eq, ev_bin, ev_neg, kNot_eq, ev_not, ev_and, ev_or, kAnd_t, kAnd_f, kOr_t, kOr_f, kCmp_eq, ev_cmp, ev_chn, chnK_t, chnK_f, kChn1_eq, kChn_nil, kChn_cons, kIfE_t, kIfE_f, ev_ite, kIdx_eq, ev_idx, kSlc2_eq, kSlc_eq, ev_slc, ev_tup, ev_lst, ev_dnew, kLc_eq, ev_lc, kLc2_eq, ev_lc2, ev_call, ev_bi, kBm_eq, ev_bm, kIsi_eq, ev_isi, ev_lrg1, kLrg2_eq, ev_lrg2, evf_none, evf_some, oiK_int, evo_none, evo_some, evs_nil, kCons_eq, kEvs_eq, evs_cons, evIt_seq, evIt_rng1, kRng2_eq, evIt_rng2, kRng3b_eq, kRng3_eq, evIt_rng3, evIt_enu, kZip_eq, evIt_zip, ex_skip, kSeq_eq, ex_seq, kAsg_eq, ex_asg, kPar_eq, ex_par, kSI3_eq, kSI2_eq, kSI1_eq, ex_setIx, kNx_eq, ex_expr, kIfS_t, kIfS_f, ex_ite, kFor_eq, ex_for, ex_while, kRet_eq, ex_ret, ex_retN, kRaise_eq, ex_raise, ex_try, ex_brk, ex_cnt, ex_frz, tryK_nx, tryK_ret, tryK_exc, hndK_nil, hndK_cons, hndK1_f, hndK1_ti, hndK1_tn, unbK_ret, unbK_nx, unb0_ret, unb0_nx, varK_ok, tru_bl, tru_int, tru_tup, tru_lst, tru_non, tru_exc, bin_addK, bin_subK, MP.neg_int, c_lt, c_le, c_gt, c_ge, c_eq, c_ne, c_eqb, c_neb, m_lt, m_le, m_gt, m_ge, seq_tup, seq_lst, len_tup, len_lst, toList_tup, toList_lst, toTup_tup, toTup_lst, int1_int, int1_bl, min2_int, max2_int, abs_int, asg_nm, tup0, tup1, tup2, tup3, tup4, List.set_cons_zero, List.set_cons_succ, List.getElem?_cons_zero, List.getElem?_cons_succ, Bool.false_eq_true, ↓reduceIte, fin_ret, decide_true, decide_false, Bool.not_true, Bool.not_false, kOne_eq, kLcE_t, kLcE_f, lcE_eq, lcQ_nm, lcQ_tp2, lcQ_tp3, lcK1_nm, lcK1_tp2, kLcE3_eq, kLcE2_t, kLcE2_f, lcE2_eq, lcK2_nm, lcK2_tp2, rstE_nil, rstE_cons, asg_tp2, asg_tp3, asg_tp4, forK_nil, par1, par2, par3, q7]
      rfl
    · refine ⟨[some (.a (T t)), some (.a (.int t.length)), v2, some (.a (.int κ)), v4, some (.a (.int i)), some (.a (el l)), none, none, none, none, none, none], ?_, rfl⟩
      simp only [bLine, bKind, f5, S.at]
      simp only [ok_bind, exc_bind, ok_thn, exc_thn, ok_calm, nx_and, ret_and, brk_and, cnt_and, exc_and, ev_cst, ev_var, ev_glb, kBin_eq, ev_bin, ev_neg, kNot_eq, ev_not, ev_and, ev_or, kAnd_t, kAnd_f, kOr_t, kOr_f, kCmp_eq, ev_cmp, ev_chn, chnK_t, chnK_f, kChn1_eq, kChn_nil, kChn_cons, kIfE_t, kIfE_f, ev_ite, kIdx_eq, ev_idx, kSlc2_eq, kSlc_eq, ev_slc, ev_tup, ev_lst, ev_dnew, kLc_eq, ev_lc, kLc2_eq, ev_lc2, ev_call, ev_bi, kBm_eq, ev_bm, kIsi_eq, ev_isi, ev_lrg1, kLrg2_eq, ev_lrg2, evf_none, evf_some, oiK_int, evo_none, evo_some, evs_nil, kCons_eq, kEvs_eq, evs_cons, evIt_seq, evIt_rng1, kRng2_eq, evIt_rng2, kRng3b_eq, kRng3_eq, evIt_rng3, evIt_enu, kZip_eq, evIt_zip, ex_skip, kSeq_eq, ex_seq, kAsg_eq, ex_asg, kPar_eq, ex_par, kSI3_eq, kSI2_eq, kSI1_eq, ex_setIx, kNx_eq, ex_expr, kIfS_t, kIfS_f, ex_ite, kFor_eq, ex_for, ex_while, kRet_eq, ex_ret, ex_retN, kRaise_eq, ex_raise, ex_try, ex_brk, ex_cnt, ex_frz, tryK_nx, tryK_ret, tryK_exc, hndK_nil, hndK_cons, hndK1_f, hndK1_ti, hndK1_tn, unbK_ret, unbK_nx, unb0_ret, unb0_nx, varK_ok, tru_bl, tru_int, tru_tup, tru_lst, tru_non, tru_exc, bin_addK, bin_subK, MP.neg_int, c_lt, c_le, c_gt, c_ge, c_eq, c_ne, c_eqb, c_neb, m_lt, m_le, m_gt, m_ge, seq_tup, seq_lst, len_tup, len_lst, toList_tup, toList_lst, toTup_tup, toTup_lst, int1_int, int1_bl, min2_int, max2_int, abs_int, asg_nm, tup0, tup1, tup2, tup3, tup4, List.set_cons_zero, List.set_cons_succ, List.getElem?_cons_zero, List.getElem?_cons_succ, Bool.false_eq_true, ↓reduceIte, fin_ret, decide_true, decide_false, Bool.not_true, Bool.not_false, kOne_eq, kLcE_t, kLcE_f, lcE_eq, lcQ_nm, lcQ_tp2, lcQ_tp3, lcK1_nm, lcK1_tp2, kLcE3_eq, kLcE2_t, kLcE2_f, lcE2_eq, lcK2_nm, lcK2_tp2, rstE_nil, rstE_cons, asg_tp2, asg_tp3, asg_tp4, forK_nil, par1, par2, par3, q7])
  rw [q]
  have e := findSome_if (fun q : List Cell × Nat => hasA q.1 t.length) (fun q => D.a (.tup [.str "cramped", T t, fK κ q.2])) ls.zipIdx
  rw [e]
  have e2 : ((ls.zipIdx.filter fun q => !hasA q.1 t.length).map fun q => D.a (.tup [.str "cramped", T t, fK κ q.2])) = ((FL ls t.length).map (fK κ)).map fun f => D.a (.tup [.str "cramped", T t, f]) := by
    unfold FL
    rw [List.map_map, List.map_map]
    rfl
  rw [e2, List.head?_map]
  cases ((FL ls t.length).map (fK κ)).head? <;> rfl
end K27
end
section
set_option Elab.async false
set_option linter.all false
set_option maxRecDepth 100000
set_option maxHeartbeats 4000000
namespace K27
open MP
open PySem hiding exec
theorem enu_te {α : Type} {xs : List α} {e : α → A} {h : Mem} : enuK (.a (.tup (xs.map e))) h = .ok ((xs.zipIdx.map fun q => A.tup [.int q.2, e q.1]).map D.a) h := by
  show R.ok ((xs.map e).zipIdx.map fun p => D.a (.tup [.int p.2, p.1])) h = _
  rw [List.zipIdx_map, List.map_map, List.map_map]
  rfl
theorem enu_le {α : Type} {xs : List α} {e : α → A} {h : Mem} : enuK (.a (.lst (xs.map e))) h = .ok ((xs.zipIdx.map fun q => A.tup [.int q.2, e q.1]).map D.a) h := by
  show R.ok ((xs.map e).zipIdx.map fun p => D.a (.tup [.int p.2, p.1])) h = _
  rw [List.zipIdx_map, List.map_map, List.map_map]
  rfl
theorem enu_2 {a b : A} {h : Mem} : enuK (.a (.tup [a, b])) h = .ok [.a (.tup [.int 0, a]), .a (.tup [.int 1, b])] h := rfl
theorem toT_c {c : Cell} {h : Mem} : biK false .toTuple [.a (encC c)] h = .ok (.a (encC c)) h := by cases c <;> exact toTup_tup
abbrev encL (l : List Cell) : A := .lst (l.map encC)
structure Sq (t : List (List Cell)) : Prop where
  n1 : 1 ≤ t.length
  n2 : t.length ≤ 21
  n3 : ¬ t.length % 2 = 0
  sq : ∀ r ∈ t, r.length = t.length
theorem are_sq {t : List (List Cell)} (h : are t = true) : Sq t := by
  unfold are at h
  simp only [Bool.and_eq_true, decide_eq_true_eq, Bool.not_eq_true', List.all_eq_true] at h
  obtain ⟨h1, h2, h3, h4, _⟩ := h
  refine ⟨by omega, by omega, ?_, fun r hr => by have := h4 r hr; omega⟩
  have : ¬ (t.length : Int) % 2 = 0 := by simpa using h3
  omega
theorem cols_enc (t : List (List Cell)) : ((rngI 0 t.length).map fun x => encL (col t x.toNat)) = (cols t).map encL := by
  unfold cols rngI
  rw [List.map_map, List.map_map, Int.sub_zero, Int.toNat_natCast]
  refine List.map_congr_left ?_
  intro x _
  show encL (col t (0 + (x : Int)).toNat) = encL (col t x)
  rw [Int.zero_add, Int.toNat_natCast]
theorem cols_len {t : List (List Cell)} : ∀ l ∈ cols t, l.length = t.length := by
  intro l hl
  unfold cols at hl
  obtain ⟨x, _, rfl⟩ := List.mem_map.mp hl
  unfold col
  rw [List.length_map]
def bTwo : S := match S.at f5.body 5 with | .for_ _ _ b _ => b | x => x
def bOne : S := match S.at bTwo 0 with | .for_ _ _ b _ => b | x => x
theorem rngI_mem {i j x : Int} (h : x ∈ rngI i j) : i ≤ x ∧ x < j := by
  unfold rngI at h
  obtain ⟨k, hk, rfl⟩ := List.mem_map.mp h
  have := List.mem_range.mp hk
  omega
theorem pairs5 {k : Nat} {h : Mem} {b0 : Nat} {t : List (List Cell)} {v2 : Option D} (sq : Sq t) :
    forK ⟨G, runF G (k + 1)⟩ b0 (.nm 7) [8, 7] bTwo (((rngI 0 (t.length + 1)).map A.int).map D.a) [some (.a (T t)), some (.a (.int t.length)), v2, none, none, none, none, none, none, none, none, none, none] h
      = match ((FP t).map fP).head? with
        | none => .nx [some (.a (T t)), some (.a (.int t.length)), v2, none, none, none, none, none, none, none, none, none, none] h
        | some f => .ret (.a (.tup [.str "cramped", T t, f])) h := by
  have hr : ∀ r ∈ t, r.length ≤ 100 := fun r hr => by have := sq.sq r hr; have := sq.n2; omega
  have one : ∀ two : Int, forK ⟨G, runF G (k + 1)⟩ b0 (.nm 8) [8] bOne (((rngI 0 two).map A.int).map D.a) [some (.a (T t)), some (.a (.int t.length)), v2, none, none, none, none, some (.a (.int two)), none, none, none, none, none] h
      = match ((rngI 0 two).filter fun one => !decide ((tms t (one, two) : Int) = 1)).head? with
        | none => .nx [some (.a (T t)), some (.a (.int t.length)), v2, none, none, none, none, some (.a (.int two)), none, none, none, none, none] h
        | some one => .ret (.a (.tup [.str "cramped", T t, fP (one, two)])) h := by
    intro two
    have q := forK_find (C := ⟨G, runF G (k + 1)⟩) (base := b0) (t := .nm 8) (rst := [8]) (b := bOne) (h := h) (env := [some (.a (T t)), some (.a (.int t.length)), v2, none, none, none, none, some (.a (.int two)), none, none, none, none, none]) A.int (fun one => if (fun one => decide ((tms t (one, two) : Int) = 1)) one = true then none else some (D.a (.tup [.str "cramped", T t, fP (one, two)]))) (xs := rngI 0 two) (by
      intro one _
      refine ⟨[some (.a (T t)), some (.a (.int t.length)), v2, none, none, none, none, some (.a (.int two)), some (.a (.int one)), none, none, none, none], rfl, ?_⟩
      have q8 := run8 (k := k) (h := h) (t := t) (a := one) (b := two) (by have := sq.n2; omega) hr
      dsimp only
      by_cases c : (tms t (one, two) : Int) = 1
      rotate_left
      · rw [if_neg (by rw [decide_eq_false c]; decide)]
        show MP.exec _ _ _ _ _ = _
        simp only [bOne, bTwo, f5, S.at]
        simp only [ok_bind, exc_bind, ok_thn, exc_thn, ok_calm, nx_and, ret_and, brk_and, cnt_and, exc_and, ev_cst, ev_var, ev_glb, kBin_eq, ev_bin, ev_neg, kNot_eq, ev_not, ev_and, ev_or, kAnd_t, kAnd_f, kOr_t, kOr_f, kCmp_eq, ev_cmp, ev_chn, chnK_t, chnK_f, kChn1_eq, kChn_nil, kChn_cons, kIfE_t, kIfE_f, ev_ite, kIdx_eq, ev_idx, kSlc2_eq, kSlc_eq, ev_slc, ev_tup, ev_lst, ev_dnew, kLc_eq, ev_lc, kLc2_eq, ev_lc2, ev_call, ev_bi, kBm_eq, ev_bm, kIsi_eq, ev_isi, ev_lrg1, kLrg2_eq, ev_lrg2, evf_none, evf_some, oiK_int, evo_none, evo_some, evs_nil, kCons_eq, kEvs_eq, evs_cons, evIt_seq, evIt_rng1, kRng2_eq, evIt_rng2, kRng3b_eq, kRng3_eq, evIt_rng3, evIt_enu, kZip_eq, evIt_zip, ex_skip, kSeq_eq, ex_seq, kAsg_eq, ex_asg, kPar_eq, ex_par, kSI3_eq, kSI2_eq, kSI1_eq, ex_setIx, kNx_eq, ex_expr, kIfS_t, kIfS_f, ex_ite, kFor_eq, ex_for, ex_while, kRet_eq, ex_ret, ex_retN, kRaise_eq, ex_raise, ex_try, ex_brk, ex_cnt, ex_frz, tryK_nx, tryK_ret, tryK_exc, hndK_nil, hndK_cons, hndK1_f, hndK1_ti, hndK1_tn, unbK_ret, unbK_nx, unb0_ret, unb0_nx, varK_ok, tru_bl, tru_int, tru_tup, tru_lst, tru_non, tru_exc, bin_addK, bin_subK, MP.neg_int, c_lt, c_le, c_gt, c_ge, c_eq, c_ne, c_eqb, c_neb, m_lt, m_le, m_gt, m_ge, seq_tup, seq_lst, len_tup, len_lst, toList_tup, toList_lst, toTup_tup, toTup_lst, int1_int, int1_bl, min2_int, max2_int, abs_int, asg_nm, tup0, tup1, tup2, tup3, tup4, List.set_cons_zero, List.set_cons_succ, List.getElem?_cons_zero, List.getElem?_cons_succ, Bool.false_eq_true, ↓reduceIte, fin_ret, decide_true, decide_false, Bool.not_true, Bool.not_false, kOne_eq, kLcE_t, kLcE_f, lcE_eq, lcQ_nm, lcQ_tp2, lcQ_tp3, lcK1_nm, lcK1_tp2, kLcE3_eq, kLcE2_t, kLcE2_f, lcE2_eq, lcK2_nm, lcK2_tp2, rstE_nil, rstE_cons, asg_tp2, asg_tp3, asg_tp4, forK_nil, par1, par2, par3, q8, decide_eq_false c]
        rfl
      · rw [if_pos (decide_eq_true c)]
        refine ⟨[some (.a (T t)), some (.a (.int t.length)), v2, none, none, none, none, some (.a (.int two)), some (.a (.int one)), none, none, none, none], ?_, rfl⟩
        simp only [bOne, bTwo, f5, S.at]
        simp only [ok_bind, exc_bind, ok_thn, exc_thn, ok_calm, nx_and, ret_and, brk_and, cnt_and, exc_and, ev_cst, ev_var, ev_glb, kBin_eq, ev_bin, ev_neg, kNot_eq, ev_not, ev_and, ev_or, kAnd_t, kAnd_f, kOr_t, kOr_f, kCmp_eq, ev_cmp, ev_chn, chnK_t, chnK_f, kChn1_eq, kChn_nil, kChn_cons, kIfE_t, kIfE_f, ev_ite, kIdx_eq, ev_idx, kSlc2_eq, kSlc_eq, ev_slc, ev_tup, ev_lst, ev_dnew, kLc_eq, ev_lc, kLc2_eq, ev_lc2, ev_call, ev_bi, kBm_eq, ev_bm, kIsi_eq, ev_isi, ev_lrg1, kLrg2_eq, ev_lrg2, evf_none, evf_some, oiK_int, evo_none, evo_some, evs_nil, kCons_eq, kEvs_eq, evs_cons, evIt_seq, evIt_rng1, kRng2_eq, evIt_rng2, kRng3b_eq, kRng3_eq, evIt_rng3, evIt_enu, kZip_eq, evIt_zip, ex_skip, kSeq_eq, ex_seq, kAsg_eq, ex_asg, kPar_eq, ex_par, kSI3_eq, kSI2_eq, kSI1_eq, ex_setIx, kNx_eq, ex_expr, kIfS_t, kIfS_f, ex_ite, kFor_eq, ex_for, ex_while, kRet_eq, ex_ret, ex_retN, kRaise_eq, ex_raise, ex_try, ex_brk, ex_cnt, ex_frz, tryK_nx, tryK_ret, tryK_exc, hndK_nil, hndK_cons, hndK1_f, hndK1_ti, hndK1_tn, unbK_ret, unbK_nx, unb0_ret, unb0_nx, varK_ok, tru_bl, tru_int, tru_tup, tru_lst, tru_non, tru_exc, bin_addK, bin_subK, MP.neg_int, c_lt, c_le, c_gt, c_ge, c_eq, c_ne, c_eqb, c_neb, m_lt, m_le, m_gt, m_ge, seq_tup, seq_lst, len_tup, len_lst, toList_tup, toList_lst, toTup_tup, toTup_lst, int1_int, int1_bl, min2_int, max2_int, abs_int, asg_nm, tup0, tup1, tup2, tup3, tup4, List.set_cons_zero, List.set_cons_succ, List.getElem?_cons_zero, List.getElem?_cons_succ, Bool.false_eq_true, ↓reduceIte, fin_ret, decide_true, decide_false, Bool.not_true, Bool.not_false, kOne_eq, kLcE_t, kLcE_f, lcE_eq, lcQ_nm, lcQ_tp2, lcQ_tp3, lcK1_nm, lcK1_tp2, kLcE3_eq, kLcE2_t, kLcE2_f, lcE2_eq, lcK2_nm, lcK2_tp2, rstE_nil, rstE_cons, asg_tp2, asg_tp3, asg_tp4, forK_nil, par1, par2, par3, q8, decide_eq_true c])
    rw [q, findSome_if (fun one => decide ((tms t (one, two) : Int) = 1)) (fun one => D.a (.tup [.str "cramped", T t, fP (one, two)])), List.head?_map]
    cases ((rngI 0 two).filter fun one => !decide ((tms t (one, two) : Int) = 1)).head? <;> rfl
  have q := forK_find (C := ⟨G, runF G (k + 1)⟩) (base := b0) (t := .nm 7) (rst := [8, 7]) (b := bTwo) (h := h) (env := [some (.a (T t)), some (.a (.int t.length)), v2, none, none, none, none, none, none, none, none, none, none]) A.int (fun two => (((rngI 0 two).filter fun one => !decide ((tms t (one, two) : Int) = 1)).map fun one => D.a (.tup [.str "cramped", T t, fP (one, two)])).head?) (xs := rngI 0 (t.length + 1)) (by
    intro two h2
    have h2' := rngI_mem h2
    refine ⟨[some (.a (T t)), some (.a (.int t.length)), v2, none, none, none, none, some (.a (.int two)), none, none, none, none, none], rfl, ?_⟩
    have o := one two
    rw [List.head?_map]
    simp only [bOne, bTwo, f5, S.at] at o
    have r1 := rng1_I (h := h) (j := two) (by omega) (by have := sq.n2; omega)
    cases e : ((rngI 0 two).filter fun one => !decide ((tms t (one, two) : Int) = 1)).head? <;> rw [e] at o
    · refine ⟨[some (.a (T t)), some (.a (.int t.length)), v2, none, none, none, none, some (.a (.int two)), none, none, none, none, none], ?_, rfl⟩
      simp only [bTwo, f5, S.at]
      simp only [ok_bind, exc_bind, ok_thn, exc_thn, ok_calm, nx_and, ret_and, brk_and, cnt_and, exc_and, ev_cst, ev_var, ev_glb, kBin_eq, ev_bin, ev_neg, kNot_eq, ev_not, ev_and, ev_or, kAnd_t, kAnd_f, kOr_t, kOr_f, kCmp_eq, ev_cmp, ev_chn, chnK_t, chnK_f, kChn1_eq, kChn_nil, kChn_cons, kIfE_t, kIfE_f, ev_ite, kIdx_eq, ev_idx, kSlc2_eq, kSlc_eq, ev_slc, ev_tup, ev_lst, ev_dnew, kLc_eq, ev_lc, kLc2_eq, ev_lc2, ev_call, ev_bi, kBm_eq, ev_bm, kIsi_eq, ev_isi, ev_lrg1, kLrg2_eq, ev_lrg2, evf_none, evf_some, oiK_int, evo_none, evo_some, evs_nil, kCons_eq, kEvs_eq, evs_cons, evIt_seq, evIt_rng1, kRng2_eq, evIt_rng2, kRng3b_eq, kRng3_eq, evIt_rng3, evIt_enu, kZip_eq, evIt_zip, ex_skip, kSeq_eq, ex_seq, kAsg_eq, ex_asg, kPar_eq, ex_par, kSI3_eq, kSI2_eq, kSI1_eq, ex_setIx, kNx_eq, ex_expr, kIfS_t, kIfS_f, ex_ite, kFor_eq, ex_for, ex_while, kRet_eq, ex_ret, ex_retN, kRaise_eq, ex_raise, ex_try, ex_brk, ex_cnt, ex_frz, tryK_nx, tryK_ret, tryK_exc, hndK_nil, hndK_cons, hndK1_f, hndK1_ti, hndK1_tn, unbK_ret, unbK_nx, unb0_ret, unb0_nx, varK_ok, tru_bl, tru_int, tru_tup, tru_lst, tru_non, tru_exc, bin_addK, bin_subK, MP.neg_int, c_lt, c_le, c_gt, c_ge, c_eq, c_ne, c_eqb, c_neb, m_lt, m_le, m_gt, m_ge, seq_tup, seq_lst, len_tup, len_lst, toList_tup, toList_lst, toTup_tup, toTup_lst, int1_int, int1_bl, min2_int, max2_int, abs_int, asg_nm, tup0, tup1, tup2, tup3, tup4, List.set_cons_zero, List.set_cons_succ, List.getElem?_cons_zero, List.getElem?_cons_succ, Bool.false_eq_true, ↓reduceIte, fin_ret, decide_true, decide_false, Bool.not_true, Bool.not_false, kOne_eq, kLcE_t, kLcE_f, lcE_eq, lcQ_nm, lcQ_tp2, lcQ_tp3, lcK1_nm, lcK1_tp2, kLcE3_eq, kLcE2_t, kLcE2_f, lcE2_eq, lcK2_nm, lcK2_tp2, rstE_nil, rstE_cons, asg_tp2, asg_tp3, asg_tp4, forK_nil, par1, par2, par3, r1, o]
    · show MP.exec _ _ _ _ _ = _
      simp only [bTwo, f5, S.at]
      simp only [ok_bind, exc_bind, ok_thn, exc_thn, ok_calm, nx_and, ret_and, brk_and, cnt_and, exc_and, ev_cst, ev_var, ev_glb, kBin_eq, ev_bin, ev_neg, kNot_eq, ev_not, ev_and, ev_or, kAnd_t, kAnd_f, kOr_t, kOr_f, kCmp_eq, ev_cmp, ev_chn, chnK_t, chnK_f, kChn1_eq, kChn_nil, kChn_cons, kIfE_t, kIfE_f, ev_ite, kIdx_eq, ev_idx, kSlc2_eq, kSlc_eq, ev_slc, ev_tup, ev_lst, ev_dnew, kLc_eq, ev_lc, kLc2_eq, ev_lc2, ev_call, ev_bi, kBm_eq, ev_bm, kIsi_eq, ev_isi, ev_lrg1, kLrg2_eq, ev_lrg2, evf_none, evf_some, oiK_int, evo_none, evo_some, evs_nil, kCons_eq, kEvs_eq, evs_cons, evIt_seq, evIt_rng1, kRng2_eq, evIt_rng2, kRng3b_eq, kRng3_eq, evIt_rng3, evIt_enu, kZip_eq, evIt_zip, ex_skip, kSeq_eq, ex_seq, kAsg_eq, ex_asg, kPar_eq, ex_par, kSI3_eq, kSI2_eq, kSI1_eq, ex_setIx, kNx_eq, ex_expr, kIfS_t, kIfS_f, ex_ite, kFor_eq, ex_for, ex_while, kRet_eq, ex_ret, ex_retN, kRaise_eq, ex_raise, ex_try, ex_brk, ex_cnt, ex_frz, tryK_nx, tryK_ret, tryK_exc, hndK_nil, hndK_cons, hndK1_f, hndK1_ti, hndK1_tn, unbK_ret, unbK_nx, unb0_ret, unb0_nx, varK_ok, tru_bl, tru_int, tru_tup, tru_lst, tru_non, tru_exc, bin_addK, bin_subK, MP.neg_int, c_lt, c_le, c_gt, c_ge, c_eq, c_ne, c_eqb, c_neb, m_lt, m_le, m_gt, m_ge, seq_tup, seq_lst, len_tup, len_lst, toList_tup, toList_lst, toTup_tup, toTup_lst, int1_int, int1_bl, min2_int, max2_int, abs_int, asg_nm, tup0, tup1, tup2, tup3, tup4, List.set_cons_zero, List.set_cons_succ, List.getElem?_cons_zero, List.getElem?_cons_succ, Bool.false_eq_true, ↓reduceIte, fin_ret, decide_true, decide_false, Bool.not_true, Bool.not_false, kOne_eq, kLcE_t, kLcE_f, lcE_eq, lcQ_nm, lcQ_tp2, lcQ_tp3, lcK1_nm, lcK1_tp2, kLcE3_eq, kLcE2_t, kLcE2_f, lcE2_eq, lcK2_nm, lcK2_tp2, rstE_nil, rstE_cons, asg_tp2, asg_tp3, asg_tp4, forK_nil, par1, par2, par3, r1, o])
  rw [q, ← List.head?_flatMap]
  have e : ((rngI 0 (t.length + 1)).flatMap fun two => ((rngI 0 two).filter fun one => !decide ((tms t (one, two) : Int) = 1)).map fun one => D.a (.tup [.str "cramped", T t, fP (one, two)])) = ((FP t).map fP).map fun f => D.a (.tup [.str "cramped", T t, f]) := by
    unfold FP
    rw [List.map_flatMap, List.map_flatMap]
    congr 1
    funext two
    rw [List.map_map, List.map_map]
    rfl
  rw [e, List.head?_map]
  cases ((FP t).map fP).head? <;> rfl
theorem roomA_hd (t : List (List Cell)) : roomA t = match ((FL t t.length).map (fK 0)).head? with
      | some f => A.tup [.str "cramped", T t, f]
      | none => match ((FL (cols t) t.length).map (fK 1)).head? with
        | some f => A.tup [.str "cramped", T t, f]
        | none => match ((FP t).map fP).head? with
          | some f => A.tup [.str "cramped", T t, f]
          | none => A.tup [.str "room", T t] := by
  unfold roomA FF
  generalize (FL t t.length).map (fK 0) = xs
  generalize (FL (cols t) t.length).map (fK 1) = ys
  generalize (FP t).map fP = zs
  cases xs with
  | cons _ _ => rfl
  | nil =>
    cases ys with
    | cons _ _ => rfl
    | nil => cases zs <;> rfl
theorem run5 {k : Nat} {h : Mem} {t : List (List Cell)} {x : A} {e : List Cell → A} (hx : ∀ {h : Mem}, seqK (.a x) h = .ok ((t.map e).map D.a) h) (he : ∀ (r : List Cell) {h : Mem}, seqK (.a (e r)) h = .ok ((r.map encC).map D.a) h) (ha : are t = true) :
    callF G (k + 2) 5 [.a x] h = .ok (.a (roomA t)) h := by
  have sq := are_sq ha
  have N2 := sq.n2
  have q6 := run6 (k := k) (h := h) (t := t) (by omega) (fun r hr => by have := sq.sq r hr; omega)
  rw [ha] at q6
  have l0 := lc_mapA (h := h) (step := lcQ ⟨G, runF G (k + 1)⟩ (.bi false .toTuple [(.lc false (.bi false .toTuple [(.var 11)]) (.nm 11) (.seq (.var 10)) none [9, 11])]) (.nm 10) none [9, 10] [some (.a x), none, none, none, none, none, none, none, none, none, none, none, none]) e encR (xs := t) (by
    intro r hr
    have l1 := lc_mapA (h := h) (step := lcQ ⟨G, runF G (k + 1)⟩ (.bi false .toTuple [(.var 11)]) (.nm 11) none [9, 11] [some (.a x), none, none, none, none, none, none, none, none, none, some (.a (e r)), none, none]) encC encC (xs := r) (by
      intro c _
      simp only [ok_bind, exc_bind, ok_thn, exc_thn, ok_calm, nx_and, ret_and, brk_and, cnt_and, exc_and, ev_cst, ev_var, ev_glb, kBin_eq, ev_bin, ev_neg, kNot_eq, ev_not, ev_and, ev_or, kAnd_t, kAnd_f, kOr_t, kOr_f, kCmp_eq, ev_cmp, ev_chn, chnK_t, chnK_f, kChn1_eq, kChn_nil, kChn_cons, kIfE_t, kIfE_f, ev_ite, kIdx_eq, ev_idx, kSlc2_eq, kSlc_eq, ev_slc, ev_tup, ev_lst, ev_dnew, kLc_eq, ev_lc, kLc2_eq, ev_lc2, ev_call, ev_bi, kBm_eq, ev_bm, kIsi_eq, ev_isi, ev_lrg1, kLrg2_eq, ev_lrg2, evf_none, evf_some, oiK_int, evo_none, evo_some, evs_nil, kCons_eq, kEvs_eq, evs_cons, evIt_seq, evIt_rng1, kRng2_eq, evIt_rng2, kRng3b_eq, kRng3_eq, evIt_rng3, evIt_enu, kZip_eq, evIt_zip, ex_skip, kSeq_eq, ex_seq, kAsg_eq, ex_asg, kPar_eq, ex_par, kSI3_eq, kSI2_eq, kSI1_eq, ex_setIx, kNx_eq, ex_expr, kIfS_t, kIfS_f, ex_ite, kFor_eq, ex_for, ex_while, kRet_eq, ex_ret, ex_retN, kRaise_eq, ex_raise, ex_try, ex_brk, ex_cnt, ex_frz, tryK_nx, tryK_ret, tryK_exc, hndK_nil, hndK_cons, hndK1_f, hndK1_ti, hndK1_tn, unbK_ret, unbK_nx, unb0_ret, unb0_nx, varK_ok, tru_bl, tru_int, tru_tup, tru_lst, tru_non, tru_exc, bin_addK, bin_subK, MP.neg_int, c_lt, c_le, c_gt, c_ge, c_eq, c_ne, c_eqb, c_neb, m_lt, m_le, m_gt, m_ge, seq_tup, seq_lst, len_tup, len_lst, toList_tup, toList_lst, toTup_tup, toTup_lst, int1_int, int1_bl, min2_int, max2_int, abs_int, asg_nm, tup0, tup1, tup2, tup3, tup4, List.set_cons_zero, List.set_cons_succ, List.getElem?_cons_zero, List.getElem?_cons_succ, Bool.false_eq_true, ↓reduceIte, fin_ret, decide_true, decide_false, Bool.not_true, Bool.not_false, kOne_eq, kLcE_t, kLcE_f, lcE_eq, lcQ_nm, lcQ_tp2, lcQ_tp3, lcK1_nm, lcK1_tp2, kLcE3_eq, kLcE2_t, kLcE2_f, lcE2_eq, lcK2_nm, lcK2_tp2, rstE_nil, rstE_cons, asg_tp2, asg_tp3, asg_tp4, forK_nil, par1, par2, par3, toT_c])
    have l1' := lc_done l1 (by rw [List.length_map]; have := sq.sq r hr; omega)
    simp only [ok_bind, exc_bind, ok_thn, exc_thn, ok_calm, nx_and, ret_and, brk_and, cnt_and, exc_and, ev_cst, ev_var, ev_glb, kBin_eq, ev_bin, ev_neg, kNot_eq, ev_not, ev_and, ev_or, kAnd_t, kAnd_f, kOr_t, kOr_f, kCmp_eq, ev_cmp, ev_chn, chnK_t, chnK_f, kChn1_eq, kChn_nil, kChn_cons, kIfE_t, kIfE_f, ev_ite, kIdx_eq, ev_idx, kSlc2_eq, kSlc_eq, ev_slc, ev_tup, ev_lst, ev_dnew, kLc_eq, ev_lc, kLc2_eq, ev_lc2, ev_call, ev_bi, kBm_eq, ev_bm, kIsi_eq, ev_isi, ev_lrg1, kLrg2_eq, ev_lrg2, evf_none, evf_some, oiK_int, evo_none, evo_some, evs_nil, kCons_eq, kEvs_eq, evs_cons, evIt_seq, evIt_rng1, kRng2_eq, evIt_rng2, kRng3b_eq, kRng3_eq, evIt_rng3, evIt_enu, kZip_eq, evIt_zip, ex_skip, kSeq_eq, ex_seq, kAsg_eq, ex_asg, kPar_eq, ex_par, kSI3_eq, kSI2_eq, kSI1_eq, ex_setIx, kNx_eq, ex_expr, kIfS_t, kIfS_f, ex_ite, kFor_eq, ex_for, ex_while, kRet_eq, ex_ret, ex_retN, kRaise_eq, ex_raise, ex_try, ex_brk, ex_cnt, ex_frz, tryK_nx, tryK_ret, tryK_exc, hndK_nil, hndK_cons, hndK1_f, hndK1_ti, hndK1_tn, unbK_ret, unbK_nx, unb0_ret, unb0_nx, varK_ok, tru_bl, tru_int, tru_tup, tru_lst, tru_non, tru_exc, bin_addK, bin_subK, MP.neg_int, c_lt, c_le, c_gt, c_ge, c_eq, c_ne, c_eqb, c_neb, m_lt, m_le, m_gt, m_ge, seq_tup, seq_lst, len_tup, len_lst, toList_tup, toList_lst, toTup_tup, toTup_lst, int1_int, int1_bl, min2_int, max2_int, abs_int, asg_nm, tup0, tup1, tup2, tup3, tup4, List.set_cons_zero, List.set_cons_succ, List.getElem?_cons_zero, List.getElem?_cons_succ, Bool.false_eq_true, ↓reduceIte, fin_ret, decide_true, decide_false, Bool.not_true, Bool.not_false, kOne_eq, kLcE_t, kLcE_f, lcE_eq, lcQ_nm, lcQ_tp2, lcQ_tp3, lcK1_nm, lcK1_tp2, kLcE3_eq, kLcE2_t, kLcE2_f, lcE2_eq, lcK2_nm, lcK2_tp2, rstE_nil, rstE_cons, asg_tp2, asg_tp3, asg_tp4, forK_nil, par1, par2, par3, he, l1'])
  have l0' := lc_done l0 (by rw [List.length_map]; omega)
  have l2 := lc_mapA (h := h) (step := lcQ ⟨G, runF G (k + 1)⟩ (.lc false (.idx (.var 10) (.var 12)) (.nm 10) (.seq (.var 0)) none [9, 10]) (.nm 12) none [9, 12] [some (.a (T t)), some (.a (.int t.length)), none, none, none, none, none, none, none, none, none, none, none]) A.int (fun x => encL (col t x.toNat)) (xs := rngI 0 t.length) (by
    intro y hy
    have hy' := rngI_mem hy
    have l1 := lc_mapA (h := h) (step := lcQ ⟨G, runF G (k + 1)⟩ (.idx (.var 10) (.var 12)) (.nm 10) none [9, 10] [some (.a (T t)), some (.a (.int t.length)), none, none, none, none, none, none, none, none, none, none, some (.a (.int y))]) encR (fun r => encC ((r[y.toNat]?).getD none)) (xs := t) (by
      intro r hr
      have hlen : y.toNat < r.length := by have := sq.sq r hr; omega
      have ix : idxK (.a (encR r)) (.a (.int y)) h = .ok (.a (encC ((r[y.toNat]?).getD none))) h := by
        have := idx_tup (h := h) (xs := r.map encC) (k := y.toNat) (by rw [List.length_map]; exact hlen)
        rw [List.getElem_map, show ((y.toNat : Nat) : Int) = y from by omega] at this
        rw [List.getElem?_eq_getElem hlen]
        exact idxK_of this
      simp only [ok_bind, exc_bind, ok_thn, exc_thn, ok_calm, nx_and, ret_and, brk_and, cnt_and, exc_and, ev_cst, ev_var, ev_glb, kBin_eq, ev_bin, ev_neg, kNot_eq, ev_not, ev_and, ev_or, kAnd_t, kAnd_f, kOr_t, kOr_f, kCmp_eq, ev_cmp, ev_chn, chnK_t, chnK_f, kChn1_eq, kChn_nil, kChn_cons, kIfE_t, kIfE_f, ev_ite, kIdx_eq, ev_idx, kSlc2_eq, kSlc_eq, ev_slc, ev_tup, ev_lst, ev_dnew, kLc_eq, ev_lc, kLc2_eq, ev_lc2, ev_call, ev_bi, kBm_eq, ev_bm, kIsi_eq, ev_isi, ev_lrg1, kLrg2_eq, ev_lrg2, evf_none, evf_some, oiK_int, evo_none, evo_some, evs_nil, kCons_eq, kEvs_eq, evs_cons, evIt_seq, evIt_rng1, kRng2_eq, evIt_rng2, kRng3b_eq, kRng3_eq, evIt_rng3, evIt_enu, kZip_eq, evIt_zip, ex_skip, kSeq_eq, ex_seq, kAsg_eq, ex_asg, kPar_eq, ex_par, kSI3_eq, kSI2_eq, kSI1_eq, ex_setIx, kNx_eq, ex_expr, kIfS_t, kIfS_f, ex_ite, kFor_eq, ex_for, ex_while, kRet_eq, ex_ret, ex_retN, kRaise_eq, ex_raise, ex_try, ex_brk, ex_cnt, ex_frz, tryK_nx, tryK_ret, tryK_exc, hndK_nil, hndK_cons, hndK1_f, hndK1_ti, hndK1_tn, unbK_ret, unbK_nx, unb0_ret, unb0_nx, varK_ok, tru_bl, tru_int, tru_tup, tru_lst, tru_non, tru_exc, bin_addK, bin_subK, MP.neg_int, c_lt, c_le, c_gt, c_ge, c_eq, c_ne, c_eqb, c_neb, m_lt, m_le, m_gt, m_ge, seq_tup, seq_lst, len_tup, len_lst, toList_tup, toList_lst, toTup_tup, toTup_lst, int1_int, int1_bl, min2_int, max2_int, abs_int, asg_nm, tup0, tup1, tup2, tup3, tup4, List.set_cons_zero, List.set_cons_succ, List.getElem?_cons_zero, List.getElem?_cons_succ, Bool.false_eq_true, ↓reduceIte, fin_ret, decide_true, decide_false, Bool.not_true, Bool.not_false, kOne_eq, kLcE_t, kLcE_f, lcE_eq, lcQ_nm, lcQ_tp2, lcQ_tp3, lcK1_nm, lcK1_tp2, kLcE3_eq, kLcE2_t, kLcE2_f, lcE2_eq, lcK2_nm, lcK2_tp2, rstE_nil, rstE_cons, asg_tp2, asg_tp3, asg_tp4, forK_nil, par1, par2, par3, ix])
    have e1 : (t.map fun r => encC ((r[y.toNat]?).getD none)) = (col t y.toNat).map encC := by
      unfold col
      rw [List.map_map]
      rfl
    rw [e1] at l1
    have l1' := lc_done l1 (by unfold col; rw [List.length_map, List.length_map]; omega)
    simp only [ok_bind, exc_bind, ok_thn, exc_thn, ok_calm, nx_and, ret_and, brk_and, cnt_and, exc_and, ev_cst, ev_var, ev_glb, kBin_eq, ev_bin, ev_neg, kNot_eq, ev_not, ev_and, ev_or, kAnd_t, kAnd_f, kOr_t, kOr_f, kCmp_eq, ev_cmp, ev_chn, chnK_t, chnK_f, kChn1_eq, kChn_nil, kChn_cons, kIfE_t, kIfE_f, ev_ite, kIdx_eq, ev_idx, kSlc2_eq, kSlc_eq, ev_slc, ev_tup, ev_lst, ev_dnew, kLc_eq, ev_lc, kLc2_eq, ev_lc2, ev_call, ev_bi, kBm_eq, ev_bm, kIsi_eq, ev_isi, ev_lrg1, kLrg2_eq, ev_lrg2, evf_none, evf_some, oiK_int, evo_none, evo_some, evs_nil, kCons_eq, kEvs_eq, evs_cons, evIt_seq, evIt_rng1, kRng2_eq, evIt_rng2, kRng3b_eq, kRng3_eq, evIt_rng3, evIt_enu, kZip_eq, evIt_zip, ex_skip, kSeq_eq, ex_seq, kAsg_eq, ex_asg, kPar_eq, ex_par, kSI3_eq, kSI2_eq, kSI1_eq, ex_setIx, kNx_eq, ex_expr, kIfS_t, kIfS_f, ex_ite, kFor_eq, ex_for, ex_while, kRet_eq, ex_ret, ex_retN, kRaise_eq, ex_raise, ex_try, ex_brk, ex_cnt, ex_frz, tryK_nx, tryK_ret, tryK_exc, hndK_nil, hndK_cons, hndK1_f, hndK1_ti, hndK1_tn, unbK_ret, unbK_nx, unb0_ret, unb0_nx, varK_ok, tru_bl, tru_int, tru_tup, tru_lst, tru_non, tru_exc, bin_addK, bin_subK, MP.neg_int, c_lt, c_le, c_gt, c_ge, c_eq, c_ne, c_eqb, c_neb, m_lt, m_le, m_gt, m_ge, seq_tup, seq_lst, len_tup, len_lst, toList_tup, toList_lst, toTup_tup, toTup_lst, int1_int, int1_bl, min2_int, max2_int, abs_int, asg_nm, tup0, tup1, tup2, tup3, tup4, List.set_cons_zero, List.set_cons_succ, List.getElem?_cons_zero, List.getElem?_cons_succ, Bool.false_eq_true, ↓reduceIte, fin_ret, decide_true, decide_false, Bool.not_true, Bool.not_false, kOne_eq, kLcE_t, kLcE_f, lcE_eq, lcQ_nm, lcQ_tp2, lcQ_tp3, lcK1_nm, lcK1_tp2, kLcE3_eq, kLcE2_t, kLcE2_f, lcE2_eq, lcK2_nm, lcK2_tp2, rstE_nil, rstE_cons, asg_tp2, asg_tp3, asg_tp4, forK_nil, par1, par2, par3, l1'])
  rw [cols_enc] at l2
  have l2' := lc_done l2 (by unfold cols; rw [List.length_map, List.length_map, List.length_range]; omega)
  have r1 := fun {h : Mem} => rng1_I (h := h) (j := (t.length : Int)) (by omega) (by omega)
  have r2 := fun {h : Mem} => rng1_I (h := h) (j := (t.length : Int) + 1) (by omega) (by omega)
  have li0 := lines5 (k := k) (h := h) (b0 := h.length) (t := t) (ls := t) (κ := 0) (el := encR) (v2 := some (.a (.lst ((cols t).map encL)))) (v4 := some (.a (T t))) (fun l {h} => seq_tup) (fun l hl => by have := sq.sq l hl; omega) (by omega)
  have li1 := lines5 (k := k) (h := h) (b0 := h.length) (t := t) (ls := cols t) (κ := 1) (el := encL) (v2 := some (.a (.lst ((cols t).map encL)))) (v4 := some (.a (.lst ((cols t).map encL)))) (fun l {h} => seq_lst) (fun l hl => by rw [cols_len l hl]; omega) (by omega)
  have pr := pairs5 (k := k) (h := h) (b0 := h.length) (t := t) (v2 := some (.a (.lst ((cols t).map encL)))) sq
  have nl : (((t.map encR).length : Nat) : Int) = t.length := by rw [List.length_map]
  rw [callF_run (fi := f5) rfl rfl]
  simp only [f5, List.map_cons, List.map_nil, List.replicate, List.cons_append, List.nil_append]
  simp only [bLine, bKind, f5, S.at] at li0 li1
  simp only [bTwo, f5, S.at] at pr
  rw [roomA_hd]
  cases c0 : ((FL t t.length).map (fK 0)).head? with
  | some f =>
    rw [c0] at li0
    have z : forK ⟨G, runF G (k + 1)⟩ h.length (.tp [3, 4]) [5, 3, 6, 4] bKind [.a (.tup [.int 0, T t]), .a (.tup [.int 1, .lst ((cols t).map encL)])] [some (.a (T t)), some (.a (.int t.length)), some (.a (.lst ((cols t).map encL))), none, none, none, none, none, none, none, none, none, none] h = .ret (.a (.tup [.str "cramped", T t, f])) h := by
      refine forK_rt1 (e := [some (.a (T t)), some (.a (.int t.length)), some (.a (.lst ((cols t).map encL))), some (.a (.int 0)), some (.a (T t)), none, none, none, none, none, none, none, none]) rfl ?_
      simp only [bKind, f5, S.at]
      simp only [ok_bind, exc_bind, ok_thn, exc_thn, ok_calm, nx_and, ret_and, brk_and, cnt_and, exc_and, ev_cst, ev_var, ev_glb, kBin_eq, ev_bin, ev_neg, kNot_eq, ev_not, ev_and, ev_or, kAnd_t, kAnd_f, kOr_t, kOr_f, kCmp_eq, ev_cmp, ev_chn, chnK_t, chnK_f, kChn1_eq, kChn_nil, kChn_cons, kIfE_t, kIfE_f, ev_ite, kIdx_eq, ev_idx, kSlc2_eq, kSlc_eq, ev_slc, ev_tup, ev_lst, ev_dnew, kLc_eq, ev_lc, kLc2_eq, ev_lc2, ev_call, ev_bi, kBm_eq, ev_bm, kIsi_eq, ev_isi, ev_lrg1, kLrg2_eq, ev_lrg2, evf_none, evf_some, oiK_int, evo_none, evo_some, evs_nil, kCons_eq, kEvs_eq, evs_cons, evIt_seq, evIt_rng1, kRng2_eq, evIt_rng2, kRng3b_eq, kRng3_eq, evIt_rng3, evIt_enu, kZip_eq, evIt_zip, ex_skip, kSeq_eq, ex_seq, kAsg_eq, ex_asg, kPar_eq, ex_par, kSI3_eq, kSI2_eq, kSI1_eq, ex_setIx, kNx_eq, ex_expr, kIfS_t, kIfS_f, ex_ite, kFor_eq, ex_for, ex_while, kRet_eq, ex_ret, ex_retN, kRaise_eq, ex_raise, ex_try, ex_brk, ex_cnt, ex_frz, tryK_nx, tryK_ret, tryK_exc, hndK_nil, hndK_cons, hndK1_f, hndK1_ti, hndK1_tn, unbK_ret, unbK_nx, unb0_ret, unb0_nx, varK_ok, tru_bl, tru_int, tru_tup, tru_lst, tru_non, tru_exc, bin_addK, bin_subK, MP.neg_int, c_lt, c_le, c_gt, c_ge, c_eq, c_ne, c_eqb, c_neb, m_lt, m_le, m_gt, m_ge, seq_tup, seq_lst, len_tup, len_lst, toList_tup, toList_lst, toTup_tup, toTup_lst, int1_int, int1_bl, min2_int, max2_int, abs_int, asg_nm, tup0, tup1, tup2, tup3, tup4, List.set_cons_zero, List.set_cons_succ, List.getElem?_cons_zero, List.getElem?_cons_succ, Bool.false_eq_true, ↓reduceIte, fin_ret, decide_true, decide_false, Bool.not_true, Bool.not_false, kOne_eq, kLcE_t, kLcE_f, lcE_eq, lcQ_nm, lcQ_tp2, lcQ_tp3, lcK1_nm, lcK1_tp2, kLcE3_eq, kLcE2_t, kLcE2_f, lcE2_eq, lcK2_nm, lcK2_tp2, rstE_nil, rstE_cons, asg_tp2, asg_tp3, asg_tp4, forK_nil, par1, par2, par3, enu_te, li0]
    simp only [bKind, f5, S.at] at z
    simp only [ok_bind, exc_bind, ok_thn, exc_thn, ok_calm, nx_and, ret_and, brk_and, cnt_and, exc_and, ev_cst, ev_var, ev_glb, kBin_eq, ev_bin, ev_neg, kNot_eq, ev_not, ev_and, ev_or, kAnd_t, kAnd_f, kOr_t, kOr_f, kCmp_eq, ev_cmp, ev_chn, chnK_t, chnK_f, kChn1_eq, kChn_nil, kChn_cons, kIfE_t, kIfE_f, ev_ite, kIdx_eq, ev_idx, kSlc2_eq, kSlc_eq, ev_slc, ev_tup, ev_lst, ev_dnew, kLc_eq, ev_lc, kLc2_eq, ev_lc2, ev_call, ev_bi, kBm_eq, ev_bm, kIsi_eq, ev_isi, ev_lrg1, kLrg2_eq, ev_lrg2, evf_none, evf_some, oiK_int, evo_none, evo_some, evs_nil, kCons_eq, kEvs_eq, evs_cons, evIt_seq, evIt_rng1, kRng2_eq, evIt_rng2, kRng3b_eq, kRng3_eq, evIt_rng3, evIt_enu, kZip_eq, evIt_zip, ex_skip, kSeq_eq, ex_seq, kAsg_eq, ex_asg, kPar_eq, ex_par, kSI3_eq, kSI2_eq, kSI1_eq, ex_setIx, kNx_eq, ex_expr, kIfS_t, kIfS_f, ex_ite, kFor_eq, ex_for, ex_while, kRet_eq, ex_ret, ex_retN, kRaise_eq, ex_raise, ex_try, ex_brk, ex_cnt, ex_frz, tryK_nx, tryK_ret, tryK_exc, hndK_nil, hndK_cons, hndK1_f, hndK1_ti, hndK1_tn, unbK_ret, unbK_nx, unb0_ret, unb0_nx, varK_ok, tru_bl, tru_int, tru_tup, tru_lst, tru_non, tru_exc, bin_addK, bin_subK, MP.neg_int, c_lt, c_le, c_gt, c_ge, c_eq, c_ne, c_eqb, c_neb, m_lt, m_le, m_gt, m_ge, seq_tup, seq_lst, len_tup, len_lst, toList_tup, toList_lst, toTup_tup, toTup_lst, int1_int, int1_bl, min2_int, max2_int, abs_int, asg_nm, tup0, tup1, tup2, tup3, tup4, List.set_cons_zero, List.set_cons_succ, List.getElem?_cons_zero, List.getElem?_cons_succ, Bool.false_eq_true, ↓reduceIte, fin_ret, decide_true, decide_false, Bool.not_true, Bool.not_false, kOne_eq, kLcE_t, kLcE_f, lcE_eq, lcQ_nm, lcQ_tp2, lcQ_tp3, lcK1_nm, lcK1_tp2, kLcE3_eq, kLcE2_t, kLcE2_f, lcE2_eq, lcK2_nm, lcK2_tp2, rstE_nil, rstE_cons, asg_tp2, asg_tp3, asg_tp4, forK_nil, par1, par2, par3, hx, l0', q6, nl, r1, l2', enu_2, z, take_self]
  | none =>
    rw [c0] at li0
    have z0 : ∀ xs, forK ⟨G, runF G (k + 1)⟩ h.length (.tp [3, 4]) [5, 3, 6, 4] bKind (.a (.tup [.int 0, T t]) :: xs) [some (.a (T t)), some (.a (.int t.length)), some (.a (.lst ((cols t).map encL))), none, none, none, none, none, none, none, none, none, none] h = forK ⟨G, runF G (k + 1)⟩ h.length (.tp [3, 4]) [5, 3, 6, 4] bKind xs [some (.a (T t)), some (.a (.int t.length)), some (.a (.lst ((cols t).map encL))), none, none, none, none, none, none, none, none, none, none] h := by
      intro xs
      refine forK_nx1 (e := [some (.a (T t)), some (.a (.int t.length)), some (.a (.lst ((cols t).map encL))), some (.a (.int 0)), some (.a (T t)), none, none, none, none, none, none, none, none]) (e' := [some (.a (T t)), some (.a (.int t.length)), some (.a (.lst ((cols t).map encL))), some (.a (.int 0)), some (.a (T t)), none, none, none, none, none, none, none, none]) rfl ?_
      simp only [bKind, f5, S.at]
      simp only [ok_bind, exc_bind, ok_thn, exc_thn, ok_calm, nx_and, ret_and, brk_and, cnt_and, exc_and, ev_cst, ev_var, ev_glb, kBin_eq, ev_bin, ev_neg, kNot_eq, ev_not, ev_and, ev_or, kAnd_t, kAnd_f, kOr_t, kOr_f, kCmp_eq, ev_cmp, ev_chn, chnK_t, chnK_f, kChn1_eq, kChn_nil, kChn_cons, kIfE_t, kIfE_f, ev_ite, kIdx_eq, ev_idx, kSlc2_eq, kSlc_eq, ev_slc, ev_tup, ev_lst, ev_dnew, kLc_eq, ev_lc, kLc2_eq, ev_lc2, ev_call, ev_bi, kBm_eq, ev_bm, kIsi_eq, ev_isi, ev_lrg1, kLrg2_eq, ev_lrg2, evf_none, evf_some, oiK_int, evo_none, evo_some, evs_nil, kCons_eq, kEvs_eq, evs_cons, evIt_seq, evIt_rng1, kRng2_eq, evIt_rng2, kRng3b_eq, kRng3_eq, evIt_rng3, evIt_enu, kZip_eq, evIt_zip, ex_skip, kSeq_eq, ex_seq, kAsg_eq, ex_asg, kPar_eq, ex_par, kSI3_eq, kSI2_eq, kSI1_eq, ex_setIx, kNx_eq, ex_expr, kIfS_t, kIfS_f, ex_ite, kFor_eq, ex_for, ex_while, kRet_eq, ex_ret, ex_retN, kRaise_eq, ex_raise, ex_try, ex_brk, ex_cnt, ex_frz, tryK_nx, tryK_ret, tryK_exc, hndK_nil, hndK_cons, hndK1_f, hndK1_ti, hndK1_tn, unbK_ret, unbK_nx, unb0_ret, unb0_nx, varK_ok, tru_bl, tru_int, tru_tup, tru_lst, tru_non, tru_exc, bin_addK, bin_subK, MP.neg_int, c_lt, c_le, c_gt, c_ge, c_eq, c_ne, c_eqb, c_neb, m_lt, m_le, m_gt, m_ge, seq_tup, seq_lst, len_tup, len_lst, toList_tup, toList_lst, toTup_tup, toTup_lst, int1_int, int1_bl, min2_int, max2_int, abs_int, asg_nm, tup0, tup1, tup2, tup3, tup4, List.set_cons_zero, List.set_cons_succ, List.getElem?_cons_zero, List.getElem?_cons_succ, Bool.false_eq_true, ↓reduceIte, fin_ret, decide_true, decide_false, Bool.not_true, Bool.not_false, kOne_eq, kLcE_t, kLcE_f, lcE_eq, lcQ_nm, lcQ_tp2, lcQ_tp3, lcK1_nm, lcK1_tp2, kLcE3_eq, kLcE2_t, kLcE2_f, lcE2_eq, lcK2_nm, lcK2_tp2, rstE_nil, rstE_cons, asg_tp2, asg_tp3, asg_tp4, forK_nil, par1, par2, par3, enu_te, li0]
    cases c1 : ((FL (cols t) t.length).map (fK 1)).head? with
    | some f =>
      rw [c1] at li1
      have z : forK ⟨G, runF G (k + 1)⟩ h.length (.tp [3, 4]) [5, 3, 6, 4] bKind [.a (.tup [.int 0, T t]), .a (.tup [.int 1, .lst ((cols t).map encL)])] [some (.a (T t)), some (.a (.int t.length)), some (.a (.lst ((cols t).map encL))), none, none, none, none, none, none, none, none, none, none] h = .ret (.a (.tup [.str "cramped", T t, f])) h := by
        rw [z0]
        refine forK_rt1 (e := [some (.a (T t)), some (.a (.int t.length)), some (.a (.lst ((cols t).map encL))), some (.a (.int 1)), some (.a (.lst ((cols t).map encL))), none, none, none, none, none, none, none, none]) rfl ?_
        simp only [bKind, f5, S.at]
        simp only [ok_bind, exc_bind, ok_thn, exc_thn, ok_calm, nx_and, ret_and, brk_and, cnt_and, exc_and, ev_cst, ev_var, ev_glb, kBin_eq, ev_bin, ev_neg, kNot_eq, ev_not, ev_and, ev_or, kAnd_t, kAnd_f, kOr_t, kOr_f, kCmp_eq, ev_cmp, ev_chn, chnK_t, chnK_f, kChn1_eq, kChn_nil, kChn_cons, kIfE_t, kIfE_f, ev_ite, kIdx_eq, ev_idx, kSlc2_eq, kSlc_eq, ev_slc, ev_tup, ev_lst, ev_dnew, kLc_eq, ev_lc, kLc2_eq, ev_lc2, ev_call, ev_bi, kBm_eq, ev_bm, kIsi_eq, ev_isi, ev_lrg1, kLrg2_eq, ev_lrg2, evf_none, evf_some, oiK_int, evo_none, evo_some, evs_nil, kCons_eq, kEvs_eq, evs_cons, evIt_seq, evIt_rng1, kRng2_eq, evIt_rng2, kRng3b_eq, kRng3_eq, evIt_rng3, evIt_enu, kZip_eq, evIt_zip, ex_skip, kSeq_eq, ex_seq, kAsg_eq, ex_asg, kPar_eq, ex_par, kSI3_eq, kSI2_eq, kSI1_eq, ex_setIx, kNx_eq, ex_expr, kIfS_t, kIfS_f, ex_ite, kFor_eq, ex_for, ex_while, kRet_eq, ex_ret, ex_retN, kRaise_eq, ex_raise, ex_try, ex_brk, ex_cnt, ex_frz, tryK_nx, tryK_ret, tryK_exc, hndK_nil, hndK_cons, hndK1_f, hndK1_ti, hndK1_tn, unbK_ret, unbK_nx, unb0_ret, unb0_nx, varK_ok, tru_bl, tru_int, tru_tup, tru_lst, tru_non, tru_exc, bin_addK, bin_subK, MP.neg_int, c_lt, c_le, c_gt, c_ge, c_eq, c_ne, c_eqb, c_neb, m_lt, m_le, m_gt, m_ge, seq_tup, seq_lst, len_tup, len_lst, toList_tup, toList_lst, toTup_tup, toTup_lst, int1_int, int1_bl, min2_int, max2_int, abs_int, asg_nm, tup0, tup1, tup2, tup3, tup4, List.set_cons_zero, List.set_cons_succ, List.getElem?_cons_zero, List.getElem?_cons_succ, Bool.false_eq_true, ↓reduceIte, fin_ret, decide_true, decide_false, Bool.not_true, Bool.not_false, kOne_eq, kLcE_t, kLcE_f, lcE_eq, lcQ_nm, lcQ_tp2, lcQ_tp3, lcK1_nm, lcK1_tp2, kLcE3_eq, kLcE2_t, kLcE2_f, lcE2_eq, lcK2_nm, lcK2_tp2, rstE_nil, rstE_cons, asg_tp2, asg_tp3, asg_tp4, forK_nil, par1, par2, par3, enu_le, li1]
      simp only [bKind, f5, S.at] at z
      simp only [ok_bind, exc_bind, ok_thn, exc_thn, ok_calm, nx_and, ret_and, brk_and, cnt_and, exc_and, ev_cst, ev_var, ev_glb, kBin_eq, ev_bin, ev_neg, kNot_eq, ev_not, ev_and, ev_or, kAnd_t, kAnd_f, kOr_t, kOr_f, kCmp_eq, ev_cmp, ev_chn, chnK_t, chnK_f, kChn1_eq, kChn_nil, kChn_cons, kIfE_t, kIfE_f, ev_ite, kIdx_eq, ev_idx, kSlc2_eq, kSlc_eq, ev_slc, ev_tup, ev_lst, ev_dnew, kLc_eq, ev_lc, kLc2_eq, ev_lc2, ev_call, ev_bi, kBm_eq, ev_bm, kIsi_eq, ev_isi, ev_lrg1, kLrg2_eq, ev_lrg2, evf_none, evf_some, oiK_int, evo_none, evo_some, evs_nil, kCons_eq, kEvs_eq, evs_cons, evIt_seq, evIt_rng1, kRng2_eq, evIt_rng2, kRng3b_eq, kRng3_eq, evIt_rng3, evIt_enu, kZip_eq, evIt_zip, ex_skip, kSeq_eq, ex_seq, kAsg_eq, ex_asg, kPar_eq, ex_par, kSI3_eq, kSI2_eq, kSI1_eq, ex_setIx, kNx_eq, ex_expr, kIfS_t, kIfS_f, ex_ite, kFor_eq, ex_for, ex_while, kRet_eq, ex_ret, ex_retN, kRaise_eq, ex_raise, ex_try, ex_brk, ex_cnt, ex_frz, tryK_nx, tryK_ret, tryK_exc, hndK_nil, hndK_cons, hndK1_f, hndK1_ti, hndK1_tn, unbK_ret, unbK_nx, unb0_ret, unb0_nx, varK_ok, tru_bl, tru_int, tru_tup, tru_lst, tru_non, tru_exc, bin_addK, bin_subK, MP.neg_int, c_lt, c_le, c_gt, c_ge, c_eq, c_ne, c_eqb, c_neb, m_lt, m_le, m_gt, m_ge, seq_tup, seq_lst, len_tup, len_lst, toList_tup, toList_lst, toTup_tup, toTup_lst, int1_int, int1_bl, min2_int, max2_int, abs_int, asg_nm, tup0, tup1, tup2, tup3, tup4, List.set_cons_zero, List.set_cons_succ, List.getElem?_cons_zero, List.getElem?_cons_succ, Bool.false_eq_true, ↓reduceIte, fin_ret, decide_true, decide_false, Bool.not_true, Bool.not_false, kOne_eq, kLcE_t, kLcE_f, lcE_eq, lcQ_nm, lcQ_tp2, lcQ_tp3, lcK1_nm, lcK1_tp2, kLcE3_eq, kLcE2_t, kLcE2_f, lcE2_eq, lcK2_nm, lcK2_tp2, rstE_nil, rstE_cons, asg_tp2, asg_tp3, asg_tp4, forK_nil, par1, par2, par3, hx, l0', q6, nl, r1, l2', enu_2, z, take_self]
    | none =>
      rw [c1] at li1
      have z : forK ⟨G, runF G (k + 1)⟩ h.length (.tp [3, 4]) [5, 3, 6, 4] bKind [.a (.tup [.int 0, T t]), .a (.tup [.int 1, .lst ((cols t).map encL)])] [some (.a (T t)), some (.a (.int t.length)), some (.a (.lst ((cols t).map encL))), none, none, none, none, none, none, none, none, none, none] h = .nx [some (.a (T t)), some (.a (.int t.length)), some (.a (.lst ((cols t).map encL))), none, none, none, none, none, none, none, none, none, none] h := by
        rw [z0]
        refine (forK_nx1 (e := [some (.a (T t)), some (.a (.int t.length)), some (.a (.lst ((cols t).map encL))), some (.a (.int 1)), some (.a (.lst ((cols t).map encL))), none, none, none, none, none, none, none, none]) (e' := [some (.a (T t)), some (.a (.int t.length)), some (.a (.lst ((cols t).map encL))), some (.a (.int 1)), some (.a (.lst ((cols t).map encL))), none, none, none, none, none, none, none, none]) (h' := h) rfl ?_).trans ?_
        · simp only [bKind, f5, S.at]
          simp only [ok_bind, exc_bind, ok_thn, exc_thn, ok_calm, nx_and, ret_and, brk_and, cnt_and, exc_and, ev_cst, ev_var, ev_glb, kBin_eq, ev_bin, ev_neg, kNot_eq, ev_not, ev_and, ev_or, kAnd_t, kAnd_f, kOr_t, kOr_f, kCmp_eq, ev_cmp, ev_chn, chnK_t, chnK_f, kChn1_eq, kChn_nil, kChn_cons, kIfE_t, kIfE_f, ev_ite, kIdx_eq, ev_idx, kSlc2_eq, kSlc_eq, ev_slc, ev_tup, ev_lst, ev_dnew, kLc_eq, ev_lc, kLc2_eq, ev_lc2, ev_call, ev_bi, kBm_eq, ev_bm, kIsi_eq, ev_isi, ev_lrg1, kLrg2_eq, ev_lrg2, evf_none, evf_some, oiK_int, evo_none, evo_some, evs_nil, kCons_eq, kEvs_eq, evs_cons, evIt_seq, evIt_rng1, kRng2_eq, evIt_rng2, kRng3b_eq, kRng3_eq, evIt_rng3, evIt_enu, kZip_eq, evIt_zip, ex_skip, kSeq_eq, ex_seq, kAsg_eq, ex_asg, kPar_eq, ex_par, kSI3_eq, kSI2_eq, kSI1_eq, ex_setIx, kNx_eq, ex_expr, kIfS_t, kIfS_f, ex_ite, kFor_eq, ex_for, ex_while, kRet_eq, ex_ret, ex_retN, kRaise_eq, ex_raise, ex_try, ex_brk, ex_cnt, ex_frz, tryK_nx, tryK_ret, tryK_exc, hndK_nil, hndK_cons, hndK1_f, hndK1_ti, hndK1_tn, unbK_ret, unbK_nx, unb0_ret, unb0_nx, varK_ok, tru_bl, tru_int, tru_tup, tru_lst, tru_non, tru_exc, bin_addK, bin_subK, MP.neg_int, c_lt, c_le, c_gt, c_ge, c_eq, c_ne, c_eqb, c_neb, m_lt, m_le, m_gt, m_ge, seq_tup, seq_lst, len_tup, len_lst, toList_tup, toList_lst, toTup_tup, toTup_lst, int1_int, int1_bl, min2_int, max2_int, abs_int, asg_nm, tup0, tup1, tup2, tup3, tup4, List.set_cons_zero, List.set_cons_succ, List.getElem?_cons_zero, List.getElem?_cons_succ, Bool.false_eq_true, ↓reduceIte, fin_ret, decide_true, decide_false, Bool.not_true, Bool.not_false, kOne_eq, kLcE_t, kLcE_f, lcE_eq, lcQ_nm, lcQ_tp2, lcQ_tp3, lcK1_nm, lcK1_tp2, kLcE3_eq, kLcE2_t, kLcE2_f, lcE2_eq, lcK2_nm, lcK2_tp2, rstE_nil, rstE_cons, asg_tp2, asg_tp3, asg_tp4, forK_nil, par1, par2, par3, enu_le, li1]
        · rfl
      simp only [bKind, f5, S.at] at z
      cases c2 : ((FP t).map fP).head? with
      | some f =>
        rw [c2] at pr
        simp only [ok_bind, exc_bind, ok_thn, exc_thn, ok_calm, nx_and, ret_and, brk_and, cnt_and, exc_and, ev_cst, ev_var, ev_glb, kBin_eq, ev_bin, ev_neg, kNot_eq, ev_not, ev_and, ev_or, kAnd_t, kAnd_f, kOr_t, kOr_f, kCmp_eq, ev_cmp, ev_chn, chnK_t, chnK_f, kChn1_eq, kChn_nil, kChn_cons, kIfE_t, kIfE_f, ev_ite, kIdx_eq, ev_idx, kSlc2_eq, kSlc_eq, ev_slc, ev_tup, ev_lst, ev_dnew, kLc_eq, ev_lc, kLc2_eq, ev_lc2, ev_call, ev_bi, kBm_eq, ev_bm, kIsi_eq, ev_isi, ev_lrg1, kLrg2_eq, ev_lrg2, evf_none, evf_some, oiK_int, evo_none, evo_some, evs_nil, kCons_eq, kEvs_eq, evs_cons, evIt_seq, evIt_rng1, kRng2_eq, evIt_rng2, kRng3b_eq, kRng3_eq, evIt_rng3, evIt_enu, kZip_eq, evIt_zip, ex_skip, kSeq_eq, ex_seq, kAsg_eq, ex_asg, kPar_eq, ex_par, kSI3_eq, kSI2_eq, kSI1_eq, ex_setIx, kNx_eq, ex_expr, kIfS_t, kIfS_f, ex_ite, kFor_eq, ex_for, ex_while, kRet_eq, ex_ret, ex_retN, kRaise_eq, ex_raise, ex_try, ex_brk, ex_cnt, ex_frz, tryK_nx, tryK_ret, tryK_exc, hndK_nil, hndK_cons, hndK1_f, hndK1_ti, hndK1_tn, unbK_ret, unbK_nx, unb0_ret, unb0_nx, varK_ok, tru_bl, tru_int, tru_tup, tru_lst, tru_non, tru_exc, bin_addK, bin_subK, MP.neg_int, c_lt, c_le, c_gt, c_ge, c_eq, c_ne, c_eqb, c_neb, m_lt, m_le, m_gt, m_ge, seq_tup, seq_lst, len_tup, len_lst, toList_tup, toList_lst, toTup_tup, toTup_lst, int1_int, int1_bl, min2_int, max2_int, abs_int, asg_nm, tup0, tup1, tup2, tup3, tup4, List.set_cons_zero, List.set_cons_succ, List.getElem?_cons_zero, List.getElem?_cons_succ, Bool.false_eq_true, ↓reduceIte, fin_ret, decide_true, decide_false, Bool.not_true, Bool.not_false, kOne_eq, kLcE_t, kLcE_f, lcE_eq, lcQ_nm, lcQ_tp2, lcQ_tp3, lcK1_nm, lcK1_tp2, kLcE3_eq, kLcE2_t, kLcE2_f, lcE2_eq, lcK2_nm, lcK2_tp2, rstE_nil, rstE_cons, asg_tp2, asg_tp3, asg_tp4, forK_nil, par1, par2, par3, hx, l0', q6, nl, r1, r2, l2', enu_2, z, pr, take_self]
      | none =>
        rw [c2] at pr
        simp only [ok_bind, exc_bind, ok_thn, exc_thn, ok_calm, nx_and, ret_and, brk_and, cnt_and, exc_and, ev_cst, ev_var, ev_glb, kBin_eq, ev_bin, ev_neg, kNot_eq, ev_not, ev_and, ev_or, kAnd_t, kAnd_f, kOr_t, kOr_f, kCmp_eq, ev_cmp, ev_chn, chnK_t, chnK_f, kChn1_eq, kChn_nil, kChn_cons, kIfE_t, kIfE_f, ev_ite, kIdx_eq, ev_idx, kSlc2_eq, kSlc_eq, ev_slc, ev_tup, ev_lst, ev_dnew, kLc_eq, ev_lc, kLc2_eq, ev_lc2, ev_call, ev_bi, kBm_eq, ev_bm, kIsi_eq, ev_isi, ev_lrg1, kLrg2_eq, ev_lrg2, evf_none, evf_some, oiK_int, evo_none, evo_some, evs_nil, kCons_eq, kEvs_eq, evs_cons, evIt_seq, evIt_rng1, kRng2_eq, evIt_rng2, kRng3b_eq, kRng3_eq, evIt_rng3, evIt_enu, kZip_eq, evIt_zip, ex_skip, kSeq_eq, ex_seq, kAsg_eq, ex_asg, kPar_eq, ex_par, kSI3_eq, kSI2_eq, kSI1_eq, ex_setIx, kNx_eq, ex_expr, kIfS_t, kIfS_f, ex_ite, kFor_eq, ex_for, ex_while, kRet_eq, ex_ret, ex_retN, kRaise_eq, ex_raise, ex_try, ex_brk, ex_cnt, ex_frz, tryK_nx, tryK_ret, tryK_exc, hndK_nil, hndK_cons, hndK1_f, hndK1_ti, hndK1_tn, unbK_ret, unbK_nx, unb0_ret, unb0_nx, varK_ok, tru_bl, tru_int, tru_tup, tru_lst, tru_non, tru_exc, bin_addK, bin_subK, MP.neg_int, c_lt, c_le, c_gt, c_ge, c_eq, c_ne, c_eqb, c_neb, m_lt, m_le, m_gt, m_ge, seq_tup, seq_lst, len_tup, len_lst, toList_tup, toList_lst, toTup_tup, toTup_lst, int1_int, int1_bl, min2_int, max2_int, abs_int, asg_nm, tup0, tup1, tup2, tup3, tup4, List.set_cons_zero, List.set_cons_succ, List.getElem?_cons_zero, List.getElem?_cons_succ, Bool.false_eq_true, ↓reduceIte, fin_ret, decide_true, decide_false, Bool.not_true, Bool.not_false, kOne_eq, kLcE_t, kLcE_f, lcE_eq, lcQ_nm, lcQ_tp2, lcQ_tp3, lcK1_nm, lcK1_tp2, kLcE3_eq, kLcE2_t, kLcE2_f, lcE2_eq, lcK2_nm, lcK2_tp2, rstE_nil, rstE_cons, asg_tp2, asg_tp3, asg_tp4, forK_nil, par1, par2, par3, hx, l0', q6, nl, r1, r2, l2', enu_2, z, pr, take_self]
end K27
end
section
set_option Elab.async false
set_option linter.all false
set_option maxRecDepth 100000
set_option maxHeartbeats 4000000
namespace K27
open MP
open PySem hiding exec
theorem get_new {h : Mem} {x : MO} : (h ++ [x])[h.length]? = some x := by
  rw [List.getElem?_append_right (Nat.le_refl _), Nat.sub_self]
  rfl
theorem set_new {h : Mem} {x y : MO} : (h ++ [x]).set h.length y = h ++ [y] := by
  rw [List.set_append_right _ _ (Nat.le_refl _), Nat.sub_self]
  rfl
theorem take_new {h : Mem} {x : MO} : (h ++ [x]).take h.length = h := List.take_left
theorem zipIdx_range {α : Type} (ls : List α) (d : α) : ls.zipIdx = (List.range ls.length).map fun i => ((ls[i]?).getD d, i) := by
  refine List.ext_getElem (by rw [List.length_zipIdx, List.length_map, List.length_range]) ?_
  intro i h1 h2
  have hi : i < ls.length := by rw [List.length_zipIdx] at h1; exact h1
  rw [List.getElem_zipIdx, List.getElem_map, List.getElem_range, List.getElem?_eq_getElem hi]
  simp only [Nat.zero_add, Option.getD_some]
theorem FL_range (ls : List (List Cell)) (n : Int) : FL ls n = (List.range ls.length).filter fun i => !hasA ((ls[i]?).getD []) n := by
  unfold FL
  rw [zipIdx_range ls [], List.filter_map, List.map_map]
  exact List.map_id _
/-- line i of a kind -/
def ln (t : List (List Cell)) (κ : Nat) (i : Nat) : List Cell := if κ = 0 then (t[i]?).getD [] else col t i
theorem ln_len {t : List (List Cell)} (sq : Sq t) {κ i : Nat} (hi : i < t.length) : (ln t κ i).length = t.length := by
  unfold ln
  split
  · rw [List.getElem?_eq_getElem hi]
    exact sq.sq _ (List.getElem_mem hi)
  · unfold col
    rw [List.length_map]
def b16k : S := match S.at f16.body 2 with | .for_ _ _ b _ => b | x => x
def b16a : S := match S.at b16k 0 with | .for_ _ _ b _ => b | x => x
def b16m : S := match S.at b16a 1 with | .for_ _ _ b _ => b | x => x
theorem cell_at {t : List (List Cell)} (sq : Sq t) {i j : Nat} (hi : i < t.length) (hj : j < t.length) {h : Mem} : ∃ c : Cell, (t[i]?).getD [] = t[i] ∧ (t[i][j]?) = some c ∧ idxK (.a (encR t[i])) (.a (.int j)) h = .ok (.a (encC c)) h := by
  have hj' : j < t[i].length := by rw [sq.sq _ (List.getElem_mem hi)]; exact hj
  refine ⟨t[i][j], by rw [List.getElem?_eq_getElem hi]; rfl, List.getElem?_eq_getElem hj', ?_⟩
  have := idx_tup (h := h) (xs := t[i].map encC) (k := j) (by rw [List.length_map]; exact hj')
  rw [List.getElem_map] at this
  exact idxK_of this
theorem idx_row {t : List (List Cell)} {i : Nat} (hi : i < t.length) {h : Mem} : idxK (.a (T t)) (.a (.int i)) h = .ok (.a (encR t[i])) h := by
  have := idx_tup (h := h) (xs := t.map encR) (k := i) (by rw [List.length_map]; exact hi)
  rw [List.getElem_map] at this
  exact idxK_of this
theorem toL_c {c : Cell} {h : Mem} : biK false .toList [.a (encC c)] h = .ok (.a (.lst ((nC c).map .int))) h := by cases c <;> exact toList_tup
section
variable {k b0 : Nat} {h : Mem} {t : List (List Cell)} {κ : Nat}
theorem met16 {n : Nat} {v7 v8 v9 v10 v11 v12 v13 : Option D} (sq : Sq t) (hκ : κ = 0 ∨ κ = 1) {i : Nat} (hi : i < t.length) :
    forK ⟨G, runF G k⟩ b0 (.nm 6) [6] b16m (rngL 0 t.length) [some (.a (T t)), some (.a (.int t.length)), some (.ref n), some (.a (.int κ)), some (.a (.int i)), some (.a (.lst [])), none, v7, v8, v9, v10, v11, v12, v13] h
      = .nx [some (.a (T t)), some (.a (.int t.length)), some (.ref n), some (.a (.int κ)), some (.a (.int i)), some (.a (.lst (((ln t κ i).flatMap nC).map .int))), none, v7, v8, v9, v10, v11, v12, v13] h := by
  have ll := ln_len sq (κ := κ) hi
  have key := forK_fn (C := ⟨G, runF G k⟩) (base := b0) (t := .nm 6) (rst := [6]) (b := b16m) (lo := 0) (n := t.length) (h := h) (env := [some (.a (T t)), some (.a (.int t.length)), some (.ref n), some (.a (.int κ)), some (.a (.int i)), some (.a (.lst [])), none, v7, v8, v9, v10, v11, v12, v13]) (v := none)
    (fun j _ => [some (.a (T t)), some (.a (.int t.length)), some (.ref n), some (.a (.int κ)), some (.a (.int i)), some (.a (.lst ((((ln t κ i).take j).flatMap nC).map .int))), none, v7, v8, v9, v10, v11, v12, v13]) rfl (by
    intro j hj _
    rw [Int.zero_add]
    obtain ⟨c1, e1, e2, e3⟩ := cell_at (h := h) sq hi hj
    obtain ⟨c2, e4, e5, e6⟩ := cell_at (h := h) sq hj hi
    have hjl : j < (ln t κ i).length := by rw [ll]; exact hj
    have tk : ((ln t κ i).take (j + 1)).flatMap nC = ((ln t κ i).take j).flatMap nC ++ nC (ln t κ i)[j] := by
      rw [List.take_succ_eq_append_getElem hjl, List.flatMap_append]
      congr 1
      show nC _ ++ [] = _
      rw [List.append_nil]
    have lt : (((ln t κ i).take j).flatMap nC).length ≤ 100 := by
      have := nC_len ((ln t κ i).take j)
      rw [List.length_take] at this
      have := sq.n2
      omega
    have nl : ∀ c : Cell, (nC c).length ≤ 2 := fun c => by cases c; exact Nat.zero_le _; exact Nat.le_refl _
    have ad : ∀ c : Cell, binK false .Add (.a (.lst ((((ln t κ i).take j).flatMap nC).map .int))) (.a (.lst ((nC c).map .int))) h = .ok (.a (.lst ((((ln t κ i).take j).flatMap nC ++ nC c).map .int))) h := fun c => by
      rw [bin_add_lst (by rw [List.length_map, List.length_map]; have := nl c; show _ ≤ 2 ^ 24; omega), List.map_append]
    refine ⟨_, [some (.a (T t)), some (.a (.int t.length)), some (.ref n), some (.a (.int κ)), some (.a (.int i)), some (.a (.lst ((((ln t κ i).take (j + 1)).flatMap nC).map .int))), some (.a (.int j)), v7, v8, v9, v10, v11, v12, v13], none, rfl, ?_, rfl⟩
    rw [tk]
    rcases hκ with rfl | rfl
    · have ec : (ln t 0 i)[j] = c1 := by
        have : (ln t 0 i)[j]? = some c1 := by
          show ((t[i]?).getD [])[j]? = some c1
          rw [e1, e2]
        rw [List.getElem?_eq_getElem hjl] at this
        exact Option.some.inj this
      have ii : ∀ {a b : A} {h : Mem}, idxK (.a (.tup [a, b])) (.a (.int ((0 : Nat) : Int))) h = .ok (.a a) h := rfl
      rw [ec]
      simp only [b16m, b16a, b16k, f16, S.at]
      simp only [ok_bind, exc_bind, ok_thn, exc_thn, ok_calm, nx_and, ret_and, brk_and, cnt_and, exc_and, ev_cst, ev_var, ev_glb, kBin_eq, ev_bin, ev_neg, kNot_eq, ev_not, ev_and, ev_or, kAnd_t, kAnd_f, kOr_t, kOr_f, kCmp_eq, ev_cmp, ev_chn, chnK_t, chnK_f, kChn1_eq, kChn_nil, kChn_cons, kIfE_t, kIfE_f, ev_ite, kIdx_eq, ev_idx, kSlc2_eq, kSlc_eq, ev_slc, ev_tup, ev_lst, ev_dnew, kLc_eq, ev_lc, kLc2_eq, ev_lc2, ev_call, ev_bi, kBm_eq, ev_bm, kIsi_eq, ev_isi, ev_lrg1, kLrg2_eq, ev_lrg2, evf_none, evf_some, oiK_int, evo_none, evo_some, evs_nil, kCons_eq, kEvs_eq, evs_cons, evIt_seq, evIt_rng1, kRng2_eq, evIt_rng2, kRng3b_eq, kRng3_eq, evIt_rng3, evIt_enu, kZip_eq, evIt_zip, ex_skip, kSeq_eq, ex_seq, kAsg_eq, ex_asg, kPar_eq, ex_par, kSI3_eq, kSI2_eq, kSI1_eq, ex_setIx, kNx_eq, ex_expr, kIfS_t, kIfS_f, ex_ite, kFor_eq, ex_for, ex_while, kRet_eq, ex_ret, ex_retN, kRaise_eq, ex_raise, ex_try, ex_brk, ex_cnt, ex_frz, tryK_nx, tryK_ret, tryK_exc, hndK_nil, hndK_cons, hndK1_f, hndK1_ti, hndK1_tn, unbK_ret, unbK_nx, unb0_ret, unb0_nx, varK_ok, tru_bl, tru_int, tru_tup, tru_lst, tru_non, tru_exc, bin_addK, bin_subK, MP.neg_int, c_lt, c_le, c_gt, c_ge, c_eq, c_ne, c_eqb, c_neb, m_lt, m_le, m_gt, m_ge, seq_tup, seq_lst, len_tup, len_lst, toList_tup, toList_lst, toTup_tup, toTup_lst, int1_int, int1_bl, min2_int, max2_int, abs_int, asg_nm, tup0, tup1, tup2, tup3, tup4, List.set_cons_zero, List.set_cons_succ, List.getElem?_cons_zero, List.getElem?_cons_succ, Bool.false_eq_true, ↓reduceIte, fin_ret, decide_true, decide_false, Bool.not_true, Bool.not_false, kOne_eq, kLcE_t, kLcE_f, lcE_eq, lcQ_nm, lcQ_tp2, lcQ_tp3, lcK1_nm, lcK1_tp2, kLcE3_eq, kLcE2_t, kLcE2_f, lcE2_eq, lcK2_nm, lcK2_tp2, rstE_nil, rstE_cons, asg_tp2, asg_tp3, asg_tp4, forK_nil, par1, par2, par3, idx_row hi, idx_row hj, e3, e6, ii, toL_c, ad]
    · have ec : (ln t 1 i)[j] = c2 := by
        have : (ln t 1 i)[j]? = some c2 := by
          show (t.map fun r => (r[i]?).getD none)[j]? = some c2
          rw [List.getElem?_map, List.getElem?_eq_getElem hj]
          show some ((t[j][i]?).getD none) = some c2
          rw [e5]
          rfl
        rw [List.getElem?_eq_getElem hjl] at this
        exact Option.some.inj this
      have ii : ∀ {a b : A} {h : Mem}, idxK (.a (.tup [a, b])) (.a (.int ((1 : Nat) : Int))) h = .ok (.a b) h := rfl
      rw [ec]
      simp only [b16m, b16a, b16k, f16, S.at]
      simp only [ok_bind, exc_bind, ok_thn, exc_thn, ok_calm, nx_and, ret_and, brk_and, cnt_and, exc_and, ev_cst, ev_var, ev_glb, kBin_eq, ev_bin, ev_neg, kNot_eq, ev_not, ev_and, ev_or, kAnd_t, kAnd_f, kOr_t, kOr_f, kCmp_eq, ev_cmp, ev_chn, chnK_t, chnK_f, kChn1_eq, kChn_nil, kChn_cons, kIfE_t, kIfE_f, ev_ite, kIdx_eq, ev_idx, kSlc2_eq, kSlc_eq, ev_slc, ev_tup, ev_lst, ev_dnew, kLc_eq, ev_lc, kLc2_eq, ev_lc2, ev_call, ev_bi, kBm_eq, ev_bm, kIsi_eq, ev_isi, ev_lrg1, kLrg2_eq, ev_lrg2, evf_none, evf_some, oiK_int, evo_none, evo_some, evs_nil, kCons_eq, kEvs_eq, evs_cons, evIt_seq, evIt_rng1, kRng2_eq, evIt_rng2, kRng3b_eq, kRng3_eq, evIt_rng3, evIt_enu, kZip_eq, evIt_zip, ex_skip, kSeq_eq, ex_seq, kAsg_eq, ex_asg, kPar_eq, ex_par, kSI3_eq, kSI2_eq, kSI1_eq, ex_setIx, kNx_eq, ex_expr, kIfS_t, kIfS_f, ex_ite, kFor_eq, ex_for, ex_while, kRet_eq, ex_ret, ex_retN, kRaise_eq, ex_raise, ex_try, ex_brk, ex_cnt, ex_frz, tryK_nx, tryK_ret, tryK_exc, hndK_nil, hndK_cons, hndK1_f, hndK1_ti, hndK1_tn, unbK_ret, unbK_nx, unb0_ret, unb0_nx, varK_ok, tru_bl, tru_int, tru_tup, tru_lst, tru_non, tru_exc, bin_addK, bin_subK, MP.neg_int, c_lt, c_le, c_gt, c_ge, c_eq, c_ne, c_eqb, c_neb, m_lt, m_le, m_gt, m_ge, seq_tup, seq_lst, len_tup, len_lst, toList_tup, toList_lst, toTup_tup, toTup_lst, int1_int, int1_bl, min2_int, max2_int, abs_int, asg_nm, tup0, tup1, tup2, tup3, tup4, List.set_cons_zero, List.set_cons_succ, List.getElem?_cons_zero, List.getElem?_cons_succ, Bool.false_eq_true, ↓reduceIte, fin_ret, decide_true, decide_false, Bool.not_true, Bool.not_false, kOne_eq, kLcE_t, kLcE_f, lcE_eq, lcQ_nm, lcQ_tp2, lcQ_tp3, lcK1_nm, lcK1_tp2, kLcE3_eq, kLcE2_t, kLcE2_f, lcE2_eq, lcK2_nm, lcK2_tp2, rstE_nil, rstE_cons, asg_tp2, asg_tp3, asg_tp4, forK_nil, par1, par2, par3, idx_row hi, idx_row hj, e3, e6, ii, toL_c, ad])
  obtain ⟨_, key⟩ := key
  rw [List.take_of_length_le (by rw [ll]; exact Nat.le_refl _)] at key
  exact key
def fl (t : List (List Cell)) (κ j : Nat) : List A := ((List.range j).filter fun i => !hasA (ln t κ i) t.length).map (fK κ)
theorem fl_len {j : Nat} : (fl t κ j).length ≤ j := by
  unfold fl
  rw [List.length_map]
  exact Nat.le_trans (List.length_filter_le _ _) (by rw [List.length_range]; exact Nat.le_refl _)
theorem fl_succ {j : Nat} : fl t κ (j + 1) = fl t κ j ++ (if hasA (ln t κ j) t.length = true then [] else [fK κ j]) := by
  unfold fl
  rw [List.range_succ, List.filter_append, List.map_append]
  congr 1
  rw [List.filter_cons]
  cases hasA (ln t κ j) t.length <;> rfl
theorem ats16 {X : List A} {v7 v8 v9 v10 v11 v12 v13 : Option D} (sq : Sq t) (hκ : κ = 0 ∨ κ = 1) (hX : X.length ≤ 1000) :
    forK ⟨G, runF G k⟩ b0 (.nm 4) [4, 6, 5] b16a (rngL 0 t.length) [some (.a (T t)), some (.a (.int t.length)), some (.ref h.length), some (.a (.int κ)), none, none, none, v7, v8, v9, v10, v11, v12, v13] (h ++ [.lst X])
      = .nx [some (.a (T t)), some (.a (.int t.length)), some (.ref h.length), some (.a (.int κ)), none, none, none, v7, v8, v9, v10, v11, v12, v13] (h ++ [.lst (X ++ fl t κ t.length)]) := by
  have key := forK_rng (C := ⟨G, runF G k⟩) (base := b0) (t := .nm 4) (rst := [4, 6, 5]) (b := b16a) (lo := 0) (n := t.length) (env := [some (.a (T t)), some (.a (.int t.length)), some (.ref h.length), some (.a (.int κ)), none, none, none, v7, v8, v9, v10, v11, v12, v13]) (h := h ++ [.lst X])
    (fun j env h' => env = [some (.a (T t)), some (.a (.int t.length)), some (.ref h.length), some (.a (.int κ)), none, none, none, v7, v8, v9, v10, v11, v12, v13] ∧ h' = h ++ [.lst (X ++ fl t κ j)]) ⟨rfl, by show _ = h ++ [MO.lst (X ++ [])]; rw [List.append_nil]⟩ (by
    rintro i hi env h' ⟨rfl, rfl⟩
    rw [Int.zero_add]
    have q := met16 (k := k) (b0 := b0) (h := h ++ [.lst (X ++ fl t κ i)]) (n := h.length) (v7 := v7) (v8 := v8) (v9 := v9) (v10 := v10) (v11 := v11) (v12 := v12) (v13 := v13) sq hκ hi
    simp only [b16m, b16a, b16k, f16, S.at] at q
    have N2 := sq.n2
    have ro : rng1K (.a (.int t.length)) (h ++ [.lst (X ++ fl t κ i)]) = .ok (rngL 0 t.length) (h ++ [.lst (X ++ fl t κ i)]) := by
      rw [rng1_int (rngOk_nat (by omega)), Int.toNat_natCast]
    have mk0 : ∀ {h : Mem}, mkL false [] h = .ok (.a (.lst [])) h := rfl
    have e : decide (sortI ((ln t κ i).flatMap nC) = rngI 0 ((t.length : Int) + 1)) = hasA (ln t κ i) t.length := rfl
    have fln := fl_len (t := t) (κ := κ) (j := i)
    have ap := fun {f : Mem → MP.R (List D)} {x : A} (e2 : f (h ++ [.lst (X ++ fl t κ i)]) = .ok [.a x] (h ++ [.lst (X ++ fl t κ i)])) => bmK_app (h := h ++ [.lst (X ++ fl t κ i)]) (n := h.length) (ys := X ++ fl t κ i) get_new e2 get_new (by rw [List.length_append]; show _ < 2 ^ 24; omega)
    rw [fl_succ]
    cases c : hasA (ln t κ i) t.length
    · refine ⟨_, [some (.a (T t)), some (.a (.int t.length)), some (.ref h.length), some (.a (.int κ)), some (.a (.int i)), some (.a (.lst (((ln t κ i).flatMap nC).map .int))), none, v7, v8, v9, v10, v11, v12, v13], h ++ [.lst (X ++ fl t κ i ++ [fK κ i])], rfl, ?_, rfl, ?_⟩
      · simp only [b16a, b16k, f16, S.at]
        simp only [ok_bind, exc_bind, ok_thn, exc_thn, ok_calm, nx_and, ret_and, brk_and, cnt_and, exc_and, ev_cst, ev_var, ev_glb, kBin_eq, ev_bin, ev_neg, kNot_eq, ev_not, ev_and, ev_or, kAnd_t, kAnd_f, kOr_t, kOr_f, kCmp_eq, ev_cmp, ev_chn, chnK_t, chnK_f, kChn1_eq, kChn_nil, kChn_cons, kIfE_t, kIfE_f, ev_ite, kIdx_eq, ev_idx, kSlc2_eq, kSlc_eq, ev_slc, ev_tup, ev_lst, ev_dnew, kLc_eq, ev_lc, kLc2_eq, ev_lc2, ev_call, ev_bi, kBm_eq, ev_bm, kIsi_eq, ev_isi, ev_lrg1, kLrg2_eq, ev_lrg2, evf_none, evf_some, oiK_int, evo_none, evo_some, evs_nil, kCons_eq, kEvs_eq, evs_cons, evIt_seq, evIt_rng1, kRng2_eq, evIt_rng2, kRng3b_eq, kRng3_eq, evIt_rng3, evIt_enu, kZip_eq, evIt_zip, ex_skip, kSeq_eq, ex_seq, kAsg_eq, ex_asg, kPar_eq, ex_par, kSI3_eq, kSI2_eq, kSI1_eq, ex_setIx, kNx_eq, ex_expr, kIfS_t, kIfS_f, ex_ite, kFor_eq, ex_for, ex_while, kRet_eq, ex_ret, ex_retN, kRaise_eq, ex_raise, ex_try, ex_brk, ex_cnt, ex_frz, tryK_nx, tryK_ret, tryK_exc, hndK_nil, hndK_cons, hndK1_f, hndK1_ti, hndK1_tn, unbK_ret, unbK_nx, unb0_ret, unb0_nx, varK_ok, tru_bl, tru_int, tru_tup, tru_lst, tru_non, tru_exc, bin_addK, bin_subK, MP.neg_int, c_lt, c_le, c_gt, c_ge, c_eq, c_ne, c_eqb, c_neb, m_lt, m_le, m_gt, m_ge, seq_tup, seq_lst, len_tup, len_lst, toList_tup, toList_lst, toTup_tup, toTup_lst, int1_int, int1_bl, min2_int, max2_int, abs_int, asg_nm, tup0, tup1, tup2, tup3, tup4, List.set_cons_zero, List.set_cons_succ, List.getElem?_cons_zero, List.getElem?_cons_succ, Bool.false_eq_true, ↓reduceIte, fin_ret, decide_true, decide_false, Bool.not_true, Bool.not_false, kOne_eq, kLcE_t, kLcE_f, lcE_eq, lcQ_nm, lcQ_tp2, lcQ_tp3, lcK1_nm, lcK1_tp2, kLcE3_eq, kLcE2_t, kLcE2_f, lcE2_eq, lcK2_nm, lcK2_tp2, rstE_nil, rstE_cons, asg_tp2, asg_tp3, asg_tp4, forK_nil, par1, par2, par3, mk0, ro, q, sorted_L, lrg1_ff (j := (t.length : Int) + 1) (by omega) (by omega), c_neL, e, c]
        rw [ap (x := fK κ i) (by simp only [ok_bind, exc_bind, ok_thn, exc_thn, ok_calm, nx_and, ret_and, brk_and, cnt_and, exc_and, ev_cst, ev_var, ev_glb, kBin_eq, ev_bin, ev_neg, kNot_eq, ev_not, ev_and, ev_or, kAnd_t, kAnd_f, kOr_t, kOr_f, kCmp_eq, ev_cmp, ev_chn, chnK_t, chnK_f, kChn1_eq, kChn_nil, kChn_cons, kIfE_t, kIfE_f, ev_ite, kIdx_eq, ev_idx, kSlc2_eq, kSlc_eq, ev_slc, ev_tup, ev_lst, ev_dnew, kLc_eq, ev_lc, kLc2_eq, ev_lc2, ev_call, ev_bi, kBm_eq, ev_bm, kIsi_eq, ev_isi, ev_lrg1, kLrg2_eq, ev_lrg2, evf_none, evf_some, oiK_int, evo_none, evo_some, evs_nil, kCons_eq, kEvs_eq, evs_cons, evIt_seq, evIt_rng1, kRng2_eq, evIt_rng2, kRng3b_eq, kRng3_eq, evIt_rng3, evIt_enu, kZip_eq, evIt_zip, ex_skip, kSeq_eq, ex_seq, kAsg_eq, ex_asg, kPar_eq, ex_par, kSI3_eq, kSI2_eq, kSI1_eq, ex_setIx, kNx_eq, ex_expr, kIfS_t, kIfS_f, ex_ite, kFor_eq, ex_for, ex_while, kRet_eq, ex_ret, ex_retN, kRaise_eq, ex_raise, ex_try, ex_brk, ex_cnt, ex_frz, tryK_nx, tryK_ret, tryK_exc, hndK_nil, hndK_cons, hndK1_f, hndK1_ti, hndK1_tn, unbK_ret, unbK_nx, unb0_ret, unb0_nx, varK_ok, tru_bl, tru_int, tru_tup, tru_lst, tru_non, tru_exc, bin_addK, bin_subK, MP.neg_int, c_lt, c_le, c_gt, c_ge, c_eq, c_ne, c_eqb, c_neb, m_lt, m_le, m_gt, m_ge, seq_tup, seq_lst, len_tup, len_lst, toList_tup, toList_lst, toTup_tup, toTup_lst, int1_int, int1_bl, min2_int, max2_int, abs_int, asg_nm, tup0, tup1, tup2, tup3, tup4, List.set_cons_zero, List.set_cons_succ, List.getElem?_cons_zero, List.getElem?_cons_succ, Bool.false_eq_true, ↓reduceIte, fin_ret, decide_true, decide_false, Bool.not_true, Bool.not_false, kOne_eq, kLcE_t, kLcE_f, lcE_eq, lcQ_nm, lcQ_tp2, lcQ_tp3, lcK1_nm, lcK1_tp2, kLcE3_eq, kLcE2_t, kLcE2_f, lcE2_eq, lcK2_nm, lcK2_tp2, rstE_nil, rstE_cons, asg_tp2, asg_tp3, asg_tp4, forK_nil, par1, par2, par3]; rfl), set_new]
        simp only [ok_bind, exc_bind, ok_thn, exc_thn, ok_calm, nx_and, ret_and, brk_and, cnt_and, exc_and, ev_cst, ev_var, ev_glb, kBin_eq, ev_bin, ev_neg, kNot_eq, ev_not, ev_and, ev_or, kAnd_t, kAnd_f, kOr_t, kOr_f, kCmp_eq, ev_cmp, ev_chn, chnK_t, chnK_f, kChn1_eq, kChn_nil, kChn_cons, kIfE_t, kIfE_f, ev_ite, kIdx_eq, ev_idx, kSlc2_eq, kSlc_eq, ev_slc, ev_tup, ev_lst, ev_dnew, kLc_eq, ev_lc, kLc2_eq, ev_lc2, ev_call, ev_bi, kBm_eq, ev_bm, kIsi_eq, ev_isi, ev_lrg1, kLrg2_eq, ev_lrg2, evf_none, evf_some, oiK_int, evo_none, evo_some, evs_nil, kCons_eq, kEvs_eq, evs_cons, evIt_seq, evIt_rng1, kRng2_eq, evIt_rng2, kRng3b_eq, kRng3_eq, evIt_rng3, evIt_enu, kZip_eq, evIt_zip, ex_skip, kSeq_eq, ex_seq, kAsg_eq, ex_asg, kPar_eq, ex_par, kSI3_eq, kSI2_eq, kSI1_eq, ex_setIx, kNx_eq, ex_expr, kIfS_t, kIfS_f, ex_ite, kFor_eq, ex_for, ex_while, kRet_eq, ex_ret, ex_retN, kRaise_eq, ex_raise, ex_try, ex_brk, ex_cnt, ex_frz, tryK_nx, tryK_ret, tryK_exc, hndK_nil, hndK_cons, hndK1_f, hndK1_ti, hndK1_tn, unbK_ret, unbK_nx, unb0_ret, unb0_nx, varK_ok, tru_bl, tru_int, tru_tup, tru_lst, tru_non, tru_exc, bin_addK, bin_subK, MP.neg_int, c_lt, c_le, c_gt, c_ge, c_eq, c_ne, c_eqb, c_neb, m_lt, m_le, m_gt, m_ge, seq_tup, seq_lst, len_tup, len_lst, toList_tup, toList_lst, toTup_tup, toTup_lst, int1_int, int1_bl, min2_int, max2_int, abs_int, asg_nm, tup0, tup1, tup2, tup3, tup4, List.set_cons_zero, List.set_cons_succ, List.getElem?_cons_zero, List.getElem?_cons_succ, Bool.false_eq_true, ↓reduceIte, fin_ret, decide_true, decide_false, Bool.not_true, Bool.not_false, kOne_eq, kLcE_t, kLcE_f, lcE_eq, lcQ_nm, lcQ_tp2, lcQ_tp3, lcK1_nm, lcK1_tp2, kLcE3_eq, kLcE2_t, kLcE2_f, lcE2_eq, lcK2_nm, lcK2_tp2, rstE_nil, rstE_cons, asg_tp2, asg_tp3, asg_tp4, forK_nil, par1, par2, par3]
      · rw [if_neg Bool.false_ne_true, List.append_assoc]
    · refine ⟨_, [some (.a (T t)), some (.a (.int t.length)), some (.ref h.length), some (.a (.int κ)), some (.a (.int i)), some (.a (.lst (((ln t κ i).flatMap nC).map .int))), none, v7, v8, v9, v10, v11, v12, v13], h ++ [.lst (X ++ fl t κ i)], rfl, ?_, rfl, ?_⟩
      · simp only [b16a, b16k, f16, S.at]
        simp only [ok_bind, exc_bind, ok_thn, exc_thn, ok_calm, nx_and, ret_and, brk_and, cnt_and, exc_and, ev_cst, ev_var, ev_glb, kBin_eq, ev_bin, ev_neg, kNot_eq, ev_not, ev_and, ev_or, kAnd_t, kAnd_f, kOr_t, kOr_f, kCmp_eq, ev_cmp, ev_chn, chnK_t, chnK_f, kChn1_eq, kChn_nil, kChn_cons, kIfE_t, kIfE_f, ev_ite, kIdx_eq, ev_idx, kSlc2_eq, kSlc_eq, ev_slc, ev_tup, ev_lst, ev_dnew, kLc_eq, ev_lc, kLc2_eq, ev_lc2, ev_call, ev_bi, kBm_eq, ev_bm, kIsi_eq, ev_isi, ev_lrg1, kLrg2_eq, ev_lrg2, evf_none, evf_some, oiK_int, evo_none, evo_some, evs_nil, kCons_eq, kEvs_eq, evs_cons, evIt_seq, evIt_rng1, kRng2_eq, evIt_rng2, kRng3b_eq, kRng3_eq, evIt_rng3, evIt_enu, kZip_eq, evIt_zip, ex_skip, kSeq_eq, ex_seq, kAsg_eq, ex_asg, kPar_eq, ex_par, kSI3_eq, kSI2_eq, kSI1_eq, ex_setIx, kNx_eq, ex_expr, kIfS_t, kIfS_f, ex_ite, kFor_eq, ex_for, ex_while, kRet_eq, ex_ret, ex_retN, kRaise_eq, ex_raise, ex_try, ex_brk, ex_cnt, ex_frz, tryK_nx, tryK_ret, tryK_exc, hndK_nil, hndK_cons, hndK1_f, hndK1_ti, hndK1_tn, unbK_ret, unbK_nx, unb0_ret, unb0_nx, varK_ok, tru_bl, tru_int, tru_tup, tru_lst, tru_non, tru_exc, bin_addK, bin_subK, MP.neg_int, c_lt, c_le, c_gt, c_ge, c_eq, c_ne, c_eqb, c_neb, m_lt, m_le, m_gt, m_ge, seq_tup, seq_lst, len_tup, len_lst, toList_tup, toList_lst, toTup_tup, toTup_lst, int1_int, int1_bl, min2_int, max2_int, abs_int, asg_nm, tup0, tup1, tup2, tup3, tup4, List.set_cons_zero, List.set_cons_succ, List.getElem?_cons_zero, List.getElem?_cons_succ, Bool.false_eq_true, ↓reduceIte, fin_ret, decide_true, decide_false, Bool.not_true, Bool.not_false, kOne_eq, kLcE_t, kLcE_f, lcE_eq, lcQ_nm, lcQ_tp2, lcQ_tp3, lcK1_nm, lcK1_tp2, kLcE3_eq, kLcE2_t, kLcE2_f, lcE2_eq, lcK2_nm, lcK2_tp2, rstE_nil, rstE_cons, asg_tp2, asg_tp3, asg_tp4, forK_nil, par1, par2, par3, mk0, ro, q, sorted_L, lrg1_ff (j := (t.length : Int) + 1) (by omega) (by omega), c_neL, e, c]
      · rw [if_pos rfl, List.append_nil])
  obtain ⟨e', h', q, rfl, rfl⟩ := key
  exact q
end
end K27
end
section
set_option Elab.async false
set_option linter.all false
set_option maxRecDepth 100000
set_option maxHeartbeats 4000000
namespace K27
open MP
open PySem hiding exec
theorem fl0 (t : List (List Cell)) : fl t 0 t.length = (FL t t.length).map (fK 0) := by
  rw [FL_range]
  rfl
theorem fl1 (t : List (List Cell)) : fl t 1 t.length = (FL (cols t) t.length).map (fK 1) := by
  rw [FL_range]
  have cl : (cols t).length = t.length := by unfold cols; rw [List.length_map, List.length_range]
  rw [cl]
  unfold fl
  congr 1
  refine List.filter_congr ?_
  intro i hi
  have hi' := List.mem_range.mp hi
  have : ((cols t)[i]?).getD [] = col t i := by
    unfold cols
    rw [List.getElem?_map, List.getElem?_range hi']
    rfl
  rw [this]
  rfl
def PL (t : List (List Cell)) : List Cell := t.flatMap fun r => r.filter fun c => c.isSome
theorem PL_len {t : List (List Cell)} (n : Nat) (hr : ∀ r ∈ t, r.length ≤ n) : (PL t).length ≤ t.length * n := by
  unfold PL
  induction t with
  | nil => exact Nat.zero_le _
  | cons r t ih =>
    rw [List.flatMap_cons, List.length_append, List.length_cons, Nat.succ_mul]
    have h1 := ih fun r hr' => hr r (List.mem_cons_of_mem _ hr')
    have h2 : (r.filter fun c => c.isSome).length ≤ r.length := List.length_filter_le _ _
    have h3 := hr r List.mem_cons_self
    omega
theorem tms_PL (t : List (List Cell)) (p : Int × Int) : ((PL t).filter fun c => decide (c = some p)).length = tms t p := by
  unfold PL tms
  induction t with
  | nil => rfl
  | cons r t ih =>
    rw [List.flatMap_cons, List.filter_append, List.length_append, ih, List.flatMap_cons, List.length_append, List.length_map, List.filter_filter]
    congr 2
    refine List.filter_congr ?_
    intro c _
    cases c with
    | none => rfl
    | some q => exact Bool.and_true _
theorem ne_c' {h : Mem} {c : Cell} : cmpK .NotEq (.a (encC c)) (.a (.tup [])) h = .ok (.a (.bl c.isSome)) h := ne_c
def b16p : S := match S.at f16.body 4 with | .for_ _ _ b _ => b | x => x
def b16t : S := match S.at f16.body 5 with | .seq _ (.for_ _ _ b _) => b | x => x
theorem pairs16 {k b0 : Nat} {h : Mem} {t : List (List Cell)} {v2 v3 v4 v5 v6 v9 v10 v11 v12 v13 : Option D} (sq : Sq t) :
    forK ⟨G, runF G k⟩ b0 (.nm 8) [8] b16p ((t.map encR).map D.a) [some (.a (T t)), some (.a (.int t.length)), v2, v3, v4, v5, v6, some (.a (.lst [])), none, v9, v10, v11, v12, v13] h
      = .nx [some (.a (T t)), some (.a (.int t.length)), v2, v3, v4, v5, v6, some (.a (.lst ((PL t).map encC))), none, v9, v10, v11, v12, v13] h := by
  have N2 := sq.n2
  have key := forK_fnl (C := ⟨G, runF G k⟩) (base := b0) (t := .nm 8) (rst := [8]) (b := b16p) (xs := (t.map encR).map D.a) (h := h) (σ := Unit) (v := ()) (env := [some (.a (T t)), some (.a (.int t.length)), v2, v3, v4, v5, v6, some (.a (.lst [])), none, v9, v10, v11, v12, v13])
    (fun j _ => [some (.a (T t)), some (.a (.int t.length)), v2, v3, v4, v5, v6, some (.a (.lst ((PL (t.take j)).map encC))), none, v9, v10, v11, v12, v13]) rfl (by
    intro j hj _
    have hj' : j < t.length := by rw [List.length_map, List.length_map] at hj; exact hj
    have hlr := sq.sq _ (List.getElem_mem hj')
    rw [List.getElem_map, List.getElem_map]
    have l1 := lc_filterA (h := h) (step := lcQ ⟨G, runF G k⟩ (.var 11) (.nm 11) (some (.cmp .NotEq (.var 11) (.tup []))) [10, 11] [some (.a (T t)), some (.a (.int t.length)), v2, v3, v4, v5, v6, some (.a (.lst ((PL (t.take j)).map encC))), some (.a (encR t[j])), v9, v10, v11, v12, v13]) encC (fun c => c.isSome) encC (xs := t[j]) (by
      intro c _
      cases e : c.isSome <;> simp only [ok_bind, exc_bind, ok_thn, exc_thn, ok_calm, nx_and, ret_and, brk_and, cnt_and, exc_and, ev_cst, ev_var, ev_glb, kBin_eq, ev_bin, ev_neg, kNot_eq, ev_not, ev_and, ev_or, kAnd_t, kAnd_f, kOr_t, kOr_f, kCmp_eq, ev_cmp, ev_chn, chnK_t, chnK_f, kChn1_eq, kChn_nil, kChn_cons, kIfE_t, kIfE_f, ev_ite, kIdx_eq, ev_idx, kSlc2_eq, kSlc_eq, ev_slc, ev_tup, ev_lst, ev_dnew, kLc_eq, ev_lc, kLc2_eq, ev_lc2, ev_call, ev_bi, kBm_eq, ev_bm, kIsi_eq, ev_isi, ev_lrg1, kLrg2_eq, ev_lrg2, evf_none, evf_some, oiK_int, evo_none, evo_some, evs_nil, kCons_eq, kEvs_eq, evs_cons, evIt_seq, evIt_rng1, kRng2_eq, evIt_rng2, kRng3b_eq, kRng3_eq, evIt_rng3, evIt_enu, kZip_eq, evIt_zip, ex_skip, kSeq_eq, ex_seq, kAsg_eq, ex_asg, kPar_eq, ex_par, kSI3_eq, kSI2_eq, kSI1_eq, ex_setIx, kNx_eq, ex_expr, kIfS_t, kIfS_f, ex_ite, kFor_eq, ex_for, ex_while, kRet_eq, ex_ret, ex_retN, kRaise_eq, ex_raise, ex_try, ex_brk, ex_cnt, ex_frz, tryK_nx, tryK_ret, tryK_exc, hndK_nil, hndK_cons, hndK1_f, hndK1_ti, hndK1_tn, unbK_ret, unbK_nx, unb0_ret, unb0_nx, varK_ok, tru_bl, tru_int, tru_tup, tru_lst, tru_non, tru_exc, bin_addK, bin_subK, MP.neg_int, c_lt, c_le, c_gt, c_ge, c_eq, c_ne, c_eqb, c_neb, m_lt, m_le, m_gt, m_ge, seq_tup, seq_lst, len_tup, len_lst, toList_tup, toList_lst, toTup_tup, toTup_lst, int1_int, int1_bl, min2_int, max2_int, abs_int, asg_nm, tup0, tup1, tup2, tup3, tup4, List.set_cons_zero, List.set_cons_succ, List.getElem?_cons_zero, List.getElem?_cons_succ, Bool.false_eq_true, ↓reduceIte, fin_ret, decide_true, decide_false, Bool.not_true, Bool.not_false, kOne_eq, kLcE_t, kLcE_f, lcE_eq, lcQ_nm, lcQ_tp2, lcQ_tp3, lcK1_nm, lcK1_tp2, kLcE3_eq, kLcE2_t, kLcE2_f, lcE2_eq, lcK2_nm, lcK2_tp2, rstE_nil, rstE_cons, asg_tp2, asg_tp3, asg_tp4, forK_nil, par1, par2, par3, ne_c', e] <;> rfl)
    have l1' := lc_done l1 (by
      rw [List.length_map]
      exact Nat.le_trans (List.length_filter_le _ _) (by omega))
    have pl := PL_len (t := t.take j) 21 (fun r hr => by have := sq.sq r (List.mem_of_mem_take hr); omega)
    have tl : (t.take j).length ≤ 21 := by rw [List.length_take]; omega
    have pl2 : (t.take j).length * 21 ≤ 21 * 21 := Nat.mul_le_mul_right _ tl
    have fl2 : (t[j].filter fun c => c.isSome).length ≤ t[j].length := List.length_filter_le _ _
    have ad : binK false .Add (.a (.lst ((PL (t.take j)).map encC))) (.a (.lst ((t[j].filter fun c => c.isSome).map encC))) h = .ok (.a (.lst ((PL (t.take (j + 1))).map encC))) h := by
      rw [bin_add_lst (by rw [List.length_map, List.length_map]; show _ ≤ 2 ^ 24; omega), List.take_succ_eq_append_getElem hj']
      unfold PL
      rw [List.flatMap_append, List.map_append]
      congr 4
      show _ = List.map encC (_ ++ [])
      rw [List.append_nil]
    refine ⟨_, [some (.a (T t)), some (.a (.int t.length)), v2, v3, v4, v5, v6, some (.a (.lst ((PL (t.take (j + 1))).map encC))), some (.a (encR t[j])), v9, v10, v11, v12, v13], (), rfl, ?_, rfl⟩
    simp only [b16p, f16, S.at]
    simp only [ok_bind, exc_bind, ok_thn, exc_thn, ok_calm, nx_and, ret_and, brk_and, cnt_and, exc_and, ev_cst, ev_var, ev_glb, kBin_eq, ev_bin, ev_neg, kNot_eq, ev_not, ev_and, ev_or, kAnd_t, kAnd_f, kOr_t, kOr_f, kCmp_eq, ev_cmp, ev_chn, chnK_t, chnK_f, kChn1_eq, kChn_nil, kChn_cons, kIfE_t, kIfE_f, ev_ite, kIdx_eq, ev_idx, kSlc2_eq, kSlc_eq, ev_slc, ev_tup, ev_lst, ev_dnew, kLc_eq, ev_lc, kLc2_eq, ev_lc2, ev_call, ev_bi, kBm_eq, ev_bm, kIsi_eq, ev_isi, ev_lrg1, kLrg2_eq, ev_lrg2, evf_none, evf_some, oiK_int, evo_none, evo_some, evs_nil, kCons_eq, kEvs_eq, evs_cons, evIt_seq, evIt_rng1, kRng2_eq, evIt_rng2, kRng3b_eq, kRng3_eq, evIt_rng3, evIt_enu, kZip_eq, evIt_zip, ex_skip, kSeq_eq, ex_seq, kAsg_eq, ex_asg, kPar_eq, ex_par, kSI3_eq, kSI2_eq, kSI1_eq, ex_setIx, kNx_eq, ex_expr, kIfS_t, kIfS_f, ex_ite, kFor_eq, ex_for, ex_while, kRet_eq, ex_ret, ex_retN, kRaise_eq, ex_raise, ex_try, ex_brk, ex_cnt, ex_frz, tryK_nx, tryK_ret, tryK_exc, hndK_nil, hndK_cons, hndK1_f, hndK1_ti, hndK1_tn, unbK_ret, unbK_nx, unb0_ret, unb0_nx, varK_ok, tru_bl, tru_int, tru_tup, tru_lst, tru_non, tru_exc, bin_addK, bin_subK, MP.neg_int, c_lt, c_le, c_gt, c_ge, c_eq, c_ne, c_eqb, c_neb, m_lt, m_le, m_gt, m_ge, seq_tup, seq_lst, len_tup, len_lst, toList_tup, toList_lst, toTup_tup, toTup_lst, int1_int, int1_bl, min2_int, max2_int, abs_int, asg_nm, tup0, tup1, tup2, tup3, tup4, List.set_cons_zero, List.set_cons_succ, List.getElem?_cons_zero, List.getElem?_cons_succ, Bool.false_eq_true, ↓reduceIte, fin_ret, decide_true, decide_false, Bool.not_true, Bool.not_false, kOne_eq, kLcE_t, kLcE_f, lcE_eq, lcQ_nm, lcQ_tp2, lcQ_tp3, lcK1_nm, lcK1_tp2, kLcE3_eq, kLcE2_t, kLcE2_f, lcE2_eq, lcK2_nm, lcK2_tp2, rstE_nil, rstE_cons, asg_tp2, asg_tp3, asg_tp4, forK_nil, par1, par2, par3, l1', ad])
  obtain ⟨_, key⟩ := key
  rw [List.length_map, List.length_map, List.take_length] at key
  exact key
def fpj (t : List (List Cell)) (j : Nat) : List A := ((List.range j).flatMap fun (two : Nat) => ((rngI 0 two).filter fun one => !decide ((tms t (one, (two : Int)) : Int) = 1)).map fun one => fP (one, (two : Int)))
theorem fpj_all (t : List (List Cell)) : fpj t (t.length + 1) = (FP t).map fP := by
  unfold fpj FP
  rw [List.map_flatMap, show rngI 0 ((t.length : Int) + 1) = (List.range (t.length + 1)).map fun (k : Nat) => (k : Int) from by
    unfold rngI
    rw [Int.sub_zero, show ((t.length : Int) + 1).toNat = t.length + 1 from by omega]
    refine List.map_congr_left ?_
    intro k _
    exact Int.zero_add _, List.flatMap_map]
  congr 1
  funext two
  rw [List.map_map]
  rfl
theorem fpj_len (t : List (List Cell)) : ∀ j, (fpj t j).length ≤ j * j
  | 0 => Nat.le_refl _
  | j + 1 => by
    have := fpj_len t j
    unfold fpj at this ⊢
    rw [List.range_succ, List.flatMap_append, List.length_append]
    have h2 : (([j] : List Nat).flatMap fun (two : Nat) => ((rngI 0 two).filter fun one => !decide ((tms t (one, (two : Int)) : Int) = 1)).map fun one => fP (one, (two : Int))).length ≤ j := by
      rw [List.flatMap_cons, List.flatMap_nil, List.append_nil, List.length_map]
      refine Nat.le_trans (List.length_filter_le _ _) ?_
      unfold rngI
      rw [List.length_map, List.length_range]
      omega
    have h3 : (j + 1) * (j + 1) = j * j + 2 * j + 1 := by
      rw [Nat.add_mul, Nat.mul_add]
      omega
    omega
theorem twos16 {k b0 : Nat} {h : Mem} {t : List (List Cell)} {X : List A} {v3 v4 v5 v6 v8 v10 v11 : Option D} (sq : Sq t) (hX : X.length ≤ 1000) :
    forK ⟨G, runF G k⟩ b0 (.nm 9) [9] b16t (rngL 0 (t.length + 1)) [some (.a (T t)), some (.a (.int t.length)), some (.a (.lst X)), v3, v4, v5, v6, some (.a (.lst ((PL t).map encC))), v8, none, v10, v11, none, none] h
      = .nx [some (.a (T t)), some (.a (.int t.length)), some (.a (.lst (X ++ (FP t).map fP))), v3, v4, v5, v6, some (.a (.lst ((PL t).map encC))), v8, none, v10, v11, none, none] h := by
  have N2 := sq.n2
  have pl := PL_len (t := t) 21 (fun r hr => by have := sq.sq r hr; omega)
  have pl2 : t.length * 21 ≤ 21 * 21 := Nat.mul_le_mul_right _ N2
  have key := forK_fn (C := ⟨G, runF G k⟩) (base := b0) (t := .nm 9) (rst := [9]) (b := b16t) (lo := 0) (n := t.length + 1) (h := h) (v := none) (env := [some (.a (T t)), some (.a (.int t.length)), some (.a (.lst X)), v3, v4, v5, v6, some (.a (.lst ((PL t).map encC))), v8, none, v10, v11, none, none])
    (fun j _ => [some (.a (T t)), some (.a (.int t.length)), some (.a (.lst (X ++ fpj t j))), v3, v4, v5, v6, some (.a (.lst ((PL t).map encC))), v8, none, v10, v11, none, none]) (by show _ = [_, _, some (D.a (A.lst (X ++ []))), _, _, _, _, _, _, _, _, _, _, _]; rw [List.append_nil]) (by
    intro j hj _
    rw [Int.zero_add]
    have l1 := lc_filterA (h := h) (step := lcQ ⟨G, runF G k⟩ (.tup [(.cst (.int 2)), (.var 12), (.var 9)]) (.nm 12) (some (.cmp .NotEq (.bi false .len [(.lc false (.cst (.int 1)) (.nm 13) (.seq (.var 7)) (some (.cmp .Eq (.var 13) (.tup [(.var 12), (.var 9)]))) [10, 13])]) (.cst (.int 1)))) [10, 12] [some (.a (T t)), some (.a (.int t.length)), some (.a (.lst (X ++ fpj t j))), v3, v4, v5, v6, some (.a (.lst ((PL t).map encC))), v8, some (.a (.int j)), v10, v11, none, none]) A.int (fun one => !decide ((tms t (one, (j : Int)) : Int) = 1)) (fun one => fP (one, (j : Int))) (xs := rngI 0 j) (by
      intro one _
      have l2 := lc_filterA (h := h) (step := lcQ ⟨G, runF G k⟩ (.cst (.int 1)) (.nm 13) (some (.cmp .Eq (.var 13) (.tup [(.var 12), (.var 9)]))) [10, 13] [some (.a (T t)), some (.a (.int t.length)), some (.a (.lst (X ++ fpj t j))), v3, v4, v5, v6, some (.a (.lst ((PL t).map encC))), v8, some (.a (.int j)), none, v11, some (.a (.int one)), none]) encC (fun c => decide (c = some (one, (j : Int)))) (fun _ => A.int 1) (xs := PL t) (by
        intro c _
        cases e : decide (c = some (one, (j : Int))) <;> simp only [ok_bind, exc_bind, ok_thn, exc_thn, ok_calm, nx_and, ret_and, brk_and, cnt_and, exc_and, ev_cst, ev_var, ev_glb, kBin_eq, ev_bin, ev_neg, kNot_eq, ev_not, ev_and, ev_or, kAnd_t, kAnd_f, kOr_t, kOr_f, kCmp_eq, ev_cmp, ev_chn, chnK_t, chnK_f, kChn1_eq, kChn_nil, kChn_cons, kIfE_t, kIfE_f, ev_ite, kIdx_eq, ev_idx, kSlc2_eq, kSlc_eq, ev_slc, ev_tup, ev_lst, ev_dnew, kLc_eq, ev_lc, kLc2_eq, ev_lc2, ev_call, ev_bi, kBm_eq, ev_bm, kIsi_eq, ev_isi, ev_lrg1, kLrg2_eq, ev_lrg2, evf_none, evf_some, oiK_int, evo_none, evo_some, evs_nil, kCons_eq, kEvs_eq, evs_cons, evIt_seq, evIt_rng1, kRng2_eq, evIt_rng2, kRng3b_eq, kRng3_eq, evIt_rng3, evIt_enu, kZip_eq, evIt_zip, ex_skip, kSeq_eq, ex_seq, kAsg_eq, ex_asg, kPar_eq, ex_par, kSI3_eq, kSI2_eq, kSI1_eq, ex_setIx, kNx_eq, ex_expr, kIfS_t, kIfS_f, ex_ite, kFor_eq, ex_for, ex_while, kRet_eq, ex_ret, ex_retN, kRaise_eq, ex_raise, ex_try, ex_brk, ex_cnt, ex_frz, tryK_nx, tryK_ret, tryK_exc, hndK_nil, hndK_cons, hndK1_f, hndK1_ti, hndK1_tn, unbK_ret, unbK_nx, unb0_ret, unb0_nx, varK_ok, tru_bl, tru_int, tru_tup, tru_lst, tru_non, tru_exc, bin_addK, bin_subK, MP.neg_int, c_lt, c_le, c_gt, c_ge, c_eq, c_ne, c_eqb, c_neb, m_lt, m_le, m_gt, m_ge, seq_tup, seq_lst, len_tup, len_lst, toList_tup, toList_lst, toTup_tup, toTup_lst, int1_int, int1_bl, min2_int, max2_int, abs_int, asg_nm, tup0, tup1, tup2, tup3, tup4, List.set_cons_zero, List.set_cons_succ, List.getElem?_cons_zero, List.getElem?_cons_succ, Bool.false_eq_true, ↓reduceIte, fin_ret, decide_true, decide_false, Bool.not_true, Bool.not_false, kOne_eq, kLcE_t, kLcE_f, lcE_eq, lcQ_nm, lcQ_tp2, lcQ_tp3, lcK1_nm, lcK1_tp2, kLcE3_eq, kLcE2_t, kLcE2_f, lcE2_eq, lcK2_nm, lcK2_tp2, rstE_nil, rstE_cons, asg_tp2, asg_tp3, asg_tp4, forK_nil, par1, par2, par3, eq_c, e] <;> rfl)
      have l2' := lc_done l2 (by
        rw [List.length_map]
        exact Nat.le_trans (List.length_filter_le _ _) (by omega))
      have e1 : (((((PL t).filter fun c => decide (c = some (one, (j : Int)))).map fun _ => A.int 1).length : Nat) : Int) = tms t (one, (j : Int)) := by rw [List.length_map, tms_PL]
      cases e : decide ((tms t (one, (j : Int)) : Int) = 1) <;> simp only [ok_bind, exc_bind, ok_thn, exc_thn, ok_calm, nx_and, ret_and, brk_and, cnt_and, exc_and, ev_cst, ev_var, ev_glb, kBin_eq, ev_bin, ev_neg, kNot_eq, ev_not, ev_and, ev_or, kAnd_t, kAnd_f, kOr_t, kOr_f, kCmp_eq, ev_cmp, ev_chn, chnK_t, chnK_f, kChn1_eq, kChn_nil, kChn_cons, kIfE_t, kIfE_f, ev_ite, kIdx_eq, ev_idx, kSlc2_eq, kSlc_eq, ev_slc, ev_tup, ev_lst, ev_dnew, kLc_eq, ev_lc, kLc2_eq, ev_lc2, ev_call, ev_bi, kBm_eq, ev_bm, kIsi_eq, ev_isi, ev_lrg1, kLrg2_eq, ev_lrg2, evf_none, evf_some, oiK_int, evo_none, evo_some, evs_nil, kCons_eq, kEvs_eq, evs_cons, evIt_seq, evIt_rng1, kRng2_eq, evIt_rng2, kRng3b_eq, kRng3_eq, evIt_rng3, evIt_enu, kZip_eq, evIt_zip, ex_skip, kSeq_eq, ex_seq, kAsg_eq, ex_asg, kPar_eq, ex_par, kSI3_eq, kSI2_eq, kSI1_eq, ex_setIx, kNx_eq, ex_expr, kIfS_t, kIfS_f, ex_ite, kFor_eq, ex_for, ex_while, kRet_eq, ex_ret, ex_retN, kRaise_eq, ex_raise, ex_try, ex_brk, ex_cnt, ex_frz, tryK_nx, tryK_ret, tryK_exc, hndK_nil, hndK_cons, hndK1_f, hndK1_ti, hndK1_tn, unbK_ret, unbK_nx, unb0_ret, unb0_nx, varK_ok, tru_bl, tru_int, tru_tup, tru_lst, tru_non, tru_exc, bin_addK, bin_subK, MP.neg_int, c_lt, c_le, c_gt, c_ge, c_eq, c_ne, c_eqb, c_neb, m_lt, m_le, m_gt, m_ge, seq_tup, seq_lst, len_tup, len_lst, toList_tup, toList_lst, toTup_tup, toTup_lst, int1_int, int1_bl, min2_int, max2_int, abs_int, asg_nm, tup0, tup1, tup2, tup3, tup4, List.set_cons_zero, List.set_cons_succ, List.getElem?_cons_zero, List.getElem?_cons_succ, Bool.false_eq_true, ↓reduceIte, fin_ret, decide_true, decide_false, Bool.not_true, Bool.not_false, kOne_eq, kLcE_t, kLcE_f, lcE_eq, lcQ_nm, lcQ_tp2, lcQ_tp3, lcK1_nm, lcK1_tp2, kLcE3_eq, kLcE2_t, kLcE2_f, lcE2_eq, lcK2_nm, lcK2_tp2, rstE_nil, rstE_cons, asg_tp2, asg_tp3, asg_tp4, forK_nil, par1, par2, par3, l2', e1, e] <;> rfl)
    have l1' := lc_done l1 (by
      rw [List.length_map]
      refine Nat.le_trans (List.length_filter_le _ _) ?_
      unfold rngI
      rw [List.length_map, List.length_range]
      omega)
    have fj := fpj_len t j
    have fj2 : j * j ≤ 22 * 22 := Nat.mul_le_mul (by omega) (by omega)
    have lq : ((rngI 0 (j : Int)).filter fun one => !decide ((tms t (one, (j : Int)) : Int) = 1)).length ≤ 100 := by
      refine Nat.le_trans (List.length_filter_le _ _) ?_
      unfold rngI
      rw [List.length_map, List.length_range]
      omega
    have ad : binK false .Add (.a (.lst (X ++ fpj t j))) (.a (.lst (((rngI 0 (j : Int)).filter fun one => !decide ((tms t (one, (j : Int)) : Int) = 1)).map fun one => fP (one, (j : Int))))) h = .ok (.a (.lst (X ++ fpj t (j + 1)))) h := by
      rw [bin_add_lst (by rw [List.length_map, List.length_append]; show _ ≤ 2 ^ 24; omega), List.append_assoc]
      unfold fpj
      rw [List.range_succ, List.flatMap_append, List.flatMap_cons, List.flatMap_nil, List.append_nil]
    have r1 := rng1_I (h := h) (j := (j : Int)) (by omega) (by omega)
    refine ⟨_, [some (.a (T t)), some (.a (.int t.length)), some (.a (.lst (X ++ fpj t (j + 1)))), v3, v4, v5, v6, some (.a (.lst ((PL t).map encC))), v8, some (.a (.int j)), v10, v11, none, none], none, rfl, ?_, rfl⟩
    simp only [b16t, f16, S.at]
    simp only [ok_bind, exc_bind, ok_thn, exc_thn, ok_calm, nx_and, ret_and, brk_and, cnt_and, exc_and, ev_cst, ev_var, ev_glb, kBin_eq, ev_bin, ev_neg, kNot_eq, ev_not, ev_and, ev_or, kAnd_t, kAnd_f, kOr_t, kOr_f, kCmp_eq, ev_cmp, ev_chn, chnK_t, chnK_f, kChn1_eq, kChn_nil, kChn_cons, kIfE_t, kIfE_f, ev_ite, kIdx_eq, ev_idx, kSlc2_eq, kSlc_eq, ev_slc, ev_tup, ev_lst, ev_dnew, kLc_eq, ev_lc, kLc2_eq, ev_lc2, ev_call, ev_bi, kBm_eq, ev_bm, kIsi_eq, ev_isi, ev_lrg1, kLrg2_eq, ev_lrg2, evf_none, evf_some, oiK_int, evo_none, evo_some, evs_nil, kCons_eq, kEvs_eq, evs_cons, evIt_seq, evIt_rng1, kRng2_eq, evIt_rng2, kRng3b_eq, kRng3_eq, evIt_rng3, evIt_enu, kZip_eq, evIt_zip, ex_skip, kSeq_eq, ex_seq, kAsg_eq, ex_asg, kPar_eq, ex_par, kSI3_eq, kSI2_eq, kSI1_eq, ex_setIx, kNx_eq, ex_expr, kIfS_t, kIfS_f, ex_ite, kFor_eq, ex_for, ex_while, kRet_eq, ex_ret, ex_retN, kRaise_eq, ex_raise, ex_try, ex_brk, ex_cnt, ex_frz, tryK_nx, tryK_ret, tryK_exc, hndK_nil, hndK_cons, hndK1_f, hndK1_ti, hndK1_tn, unbK_ret, unbK_nx, unb0_ret, unb0_nx, varK_ok, tru_bl, tru_int, tru_tup, tru_lst, tru_non, tru_exc, bin_addK, bin_subK, MP.neg_int, c_lt, c_le, c_gt, c_ge, c_eq, c_ne, c_eqb, c_neb, m_lt, m_le, m_gt, m_ge, seq_tup, seq_lst, len_tup, len_lst, toList_tup, toList_lst, toTup_tup, toTup_lst, int1_int, int1_bl, min2_int, max2_int, abs_int, asg_nm, tup0, tup1, tup2, tup3, tup4, List.set_cons_zero, List.set_cons_succ, List.getElem?_cons_zero, List.getElem?_cons_succ, Bool.false_eq_true, ↓reduceIte, fin_ret, decide_true, decide_false, Bool.not_true, Bool.not_false, kOne_eq, kLcE_t, kLcE_f, lcE_eq, lcQ_nm, lcQ_tp2, lcQ_tp3, lcK1_nm, lcK1_tp2, kLcE3_eq, kLcE2_t, kLcE2_f, lcE2_eq, lcK2_nm, lcK2_tp2, rstE_nil, rstE_cons, asg_tp2, asg_tp3, asg_tp4, forK_nil, par1, par2, par3, r1, l1', ad])
  obtain ⟨_, key⟩ := key
  rw [fpj_all] at key
  exact key
theorem run16 {k : Nat} {h : Mem} {t : List (List Cell)} (sq : Sq t) : callF G (k + 1) 16 [.a (T t)] h = .ok (.a (.lst (FF t))) h := by
  have N2 := sq.n2
  have f0l := fl_len (t := t) (κ := 0) (j := t.length)
  have a0 := ats16 (k := k) (b0 := h.length) (h := h) (t := t) (κ := 0) (X := []) (v7 := none) (v8 := none) (v9 := none) (v10 := none) (v11 := none) (v12 := none) (v13 := none) sq (Or.inl rfl) (by show 0 ≤ 1000; omega)
  have a1 := ats16 (k := k) (b0 := h.length) (h := h) (t := t) (κ := 1) (X := [] ++ fl t 0 t.length) (v7 := none) (v8 := none) (v9 := none) (v10 := none) (v11 := none) (v12 := none) (v13 := none) sq (Or.inr rfl) (by rw [List.nil_append]; omega)
  have f1l := fl_len (t := t) (κ := 1) (j := t.length)
  have ro : ∀ {h : Mem}, rng1K (.a (.int t.length)) h = .ok (rngL 0 t.length) h := fun {h} => by
    rw [rng1_int (rngOk_nat (by omega)), Int.toNat_natCast]
  have ro1 : ∀ {h : Mem}, rng1K (.a (.int ((t.length : Int) + 1))) h = .ok (rngL 0 (t.length + 1)) h := fun {h} => by
    rw [rng1_int (by rw [show ((t.length : Int) + 1) = ((t.length + 1 : Nat) : Int) from by omega]; exact rngOk_nat (by omega)), show ((t.length : Int) + 1).toNat = t.length + 1 from by omega]
  have mkT0 : ∀ {h : Mem}, mkL true [] h = .ok (.ref h.length) (h ++ [.lst []]) := rfl
  have mk0 : ∀ {h : Mem}, mkL false [] h = .ok (.a (.lst [])) h := rfl
  have nl : (((t.map encR).length : Nat) : Int) = t.length := by rw [List.length_map]
  have z : forK ⟨G, runF G k⟩ h.length (.nm 3) [4, 6, 3, 5] b16k [.a (.int 0), .a (.int 1)] [some (.a (T t)), some (.a (.int t.length)), some (.ref h.length), none, none, none, none, none, none, none, none, none, none, none] (h ++ [.lst []])
      = .nx [some (.a (T t)), some (.a (.int t.length)), some (.ref h.length), none, none, none, none, none, none, none, none, none, none, none] (h ++ [.lst (fl t 0 t.length ++ fl t 1 t.length)]) := by
    refine (forK_nx1 (e := [some (.a (T t)), some (.a (.int t.length)), some (.ref h.length), some (.a (.int ((0 : Nat) : Int))), none, none, none, none, none, none, none, none, none, none]) (e' := [some (.a (T t)), some (.a (.int t.length)), some (.ref h.length), some (.a (.int ((0 : Nat) : Int))), none, none, none, none, none, none, none, none, none, none]) (h' := h ++ [.lst ([] ++ fl t 0 t.length)]) rfl ?_).trans ?_
    · simp only [b16a, b16k, f16, S.at] at a0
      simp only [b16k, f16, S.at]
      simp only [ok_bind, exc_bind, ok_thn, exc_thn, ok_calm, nx_and, ret_and, brk_and, cnt_and, exc_and, ev_cst, ev_var, ev_glb, kBin_eq, ev_bin, ev_neg, kNot_eq, ev_not, ev_and, ev_or, kAnd_t, kAnd_f, kOr_t, kOr_f, kCmp_eq, ev_cmp, ev_chn, chnK_t, chnK_f, kChn1_eq, kChn_nil, kChn_cons, kIfE_t, kIfE_f, ev_ite, kIdx_eq, ev_idx, kSlc2_eq, kSlc_eq, ev_slc, ev_tup, ev_lst, ev_dnew, kLc_eq, ev_lc, kLc2_eq, ev_lc2, ev_call, ev_bi, kBm_eq, ev_bm, kIsi_eq, ev_isi, ev_lrg1, kLrg2_eq, ev_lrg2, evf_none, evf_some, oiK_int, evo_none, evo_some, evs_nil, kCons_eq, kEvs_eq, evs_cons, evIt_seq, evIt_rng1, kRng2_eq, evIt_rng2, kRng3b_eq, kRng3_eq, evIt_rng3, evIt_enu, kZip_eq, evIt_zip, ex_skip, kSeq_eq, ex_seq, kAsg_eq, ex_asg, kPar_eq, ex_par, kSI3_eq, kSI2_eq, kSI1_eq, ex_setIx, kNx_eq, ex_expr, kIfS_t, kIfS_f, ex_ite, kFor_eq, ex_for, ex_while, kRet_eq, ex_ret, ex_retN, kRaise_eq, ex_raise, ex_try, ex_brk, ex_cnt, ex_frz, tryK_nx, tryK_ret, tryK_exc, hndK_nil, hndK_cons, hndK1_f, hndK1_ti, hndK1_tn, unbK_ret, unbK_nx, unb0_ret, unb0_nx, varK_ok, tru_bl, tru_int, tru_tup, tru_lst, tru_non, tru_exc, bin_addK, bin_subK, MP.neg_int, c_lt, c_le, c_gt, c_ge, c_eq, c_ne, c_eqb, c_neb, m_lt, m_le, m_gt, m_ge, seq_tup, seq_lst, len_tup, len_lst, toList_tup, toList_lst, toTup_tup, toTup_lst, int1_int, int1_bl, min2_int, max2_int, abs_int, asg_nm, tup0, tup1, tup2, tup3, tup4, List.set_cons_zero, List.set_cons_succ, List.getElem?_cons_zero, List.getElem?_cons_succ, Bool.false_eq_true, ↓reduceIte, fin_ret, decide_true, decide_false, Bool.not_true, Bool.not_false, kOne_eq, kLcE_t, kLcE_f, lcE_eq, lcQ_nm, lcQ_tp2, lcQ_tp3, lcK1_nm, lcK1_tp2, kLcE3_eq, kLcE2_t, kLcE2_f, lcE2_eq, lcK2_nm, lcK2_tp2, rstE_nil, rstE_cons, asg_tp2, asg_tp3, asg_tp4, forK_nil, par1, par2, par3, ro, a0]
    · refine (forK_nx1 (e := [some (.a (T t)), some (.a (.int t.length)), some (.ref h.length), some (.a (.int ((1 : Nat) : Int))), none, none, none, none, none, none, none, none, none, none]) (e' := [some (.a (T t)), some (.a (.int t.length)), some (.ref h.length), some (.a (.int ((1 : Nat) : Int))), none, none, none, none, none, none, none, none, none, none]) (h' := h ++ [.lst ([] ++ fl t 0 t.length ++ fl t 1 t.length)]) rfl ?_).trans ?_
      · simp only [b16a, b16k, f16, S.at] at a1
        simp only [b16k, f16, S.at]
        simp only [ok_bind, exc_bind, ok_thn, exc_thn, ok_calm, nx_and, ret_and, brk_and, cnt_and, exc_and, ev_cst, ev_var, ev_glb, kBin_eq, ev_bin, ev_neg, kNot_eq, ev_not, ev_and, ev_or, kAnd_t, kAnd_f, kOr_t, kOr_f, kCmp_eq, ev_cmp, ev_chn, chnK_t, chnK_f, kChn1_eq, kChn_nil, kChn_cons, kIfE_t, kIfE_f, ev_ite, kIdx_eq, ev_idx, kSlc2_eq, kSlc_eq, ev_slc, ev_tup, ev_lst, ev_dnew, kLc_eq, ev_lc, kLc2_eq, ev_lc2, ev_call, ev_bi, kBm_eq, ev_bm, kIsi_eq, ev_isi, ev_lrg1, kLrg2_eq, ev_lrg2, evf_none, evf_some, oiK_int, evo_none, evo_some, evs_nil, kCons_eq, kEvs_eq, evs_cons, evIt_seq, evIt_rng1, kRng2_eq, evIt_rng2, kRng3b_eq, kRng3_eq, evIt_rng3, evIt_enu, kZip_eq, evIt_zip, ex_skip, kSeq_eq, ex_seq, kAsg_eq, ex_asg, kPar_eq, ex_par, kSI3_eq, kSI2_eq, kSI1_eq, ex_setIx, kNx_eq, ex_expr, kIfS_t, kIfS_f, ex_ite, kFor_eq, ex_for, ex_while, kRet_eq, ex_ret, ex_retN, kRaise_eq, ex_raise, ex_try, ex_brk, ex_cnt, ex_frz, tryK_nx, tryK_ret, tryK_exc, hndK_nil, hndK_cons, hndK1_f, hndK1_ti, hndK1_tn, unbK_ret, unbK_nx, unb0_ret, unb0_nx, varK_ok, tru_bl, tru_int, tru_tup, tru_lst, tru_non, tru_exc, bin_addK, bin_subK, MP.neg_int, c_lt, c_le, c_gt, c_ge, c_eq, c_ne, c_eqb, c_neb, m_lt, m_le, m_gt, m_ge, seq_tup, seq_lst, len_tup, len_lst, toList_tup, toList_lst, toTup_tup, toTup_lst, int1_int, int1_bl, min2_int, max2_int, abs_int, asg_nm, tup0, tup1, tup2, tup3, tup4, List.set_cons_zero, List.set_cons_succ, List.getElem?_cons_zero, List.getElem?_cons_succ, Bool.false_eq_true, ↓reduceIte, fin_ret, decide_true, decide_false, Bool.not_true, Bool.not_false, kOne_eq, kLcE_t, kLcE_f, lcE_eq, lcQ_nm, lcQ_tp2, lcQ_tp3, lcK1_nm, lcK1_tp2, kLcE3_eq, kLcE2_t, kLcE2_f, lcE2_eq, lcK2_nm, lcK2_tp2, rstE_nil, rstE_cons, asg_tp2, asg_tp3, asg_tp4, forK_nil, par1, par2, par3, ro, a1]
      · rfl
  have p4 := pairs16 (k := k) (b0 := h.length) (h := h ++ [.lst (fl t 0 t.length ++ fl t 1 t.length)]) (t := t) (v2 := some (.ref h.length)) (v3 := none) (v4 := none) (v5 := none) (v6 := none) (v9 := none) (v10 := none) (v11 := none) (v12 := none) (v13 := none) sq
  have fz := frz_one (i := 2) (n := h.length) (env := [some (.a (T t)), some (.a (.int t.length)), some (.ref h.length), none, none, none, none, some (.a (.lst ((PL t).map encC))), none, none, none, none, none, none]) (h := h ++ [.lst (fl t 0 t.length ++ fl t 1 t.length)]) rfl get_new
  rw [set_new] at fz
  have p5 := twos16 (k := k) (b0 := h.length) (h := h ++ [MO.gone]) (t := t) (X := fl t 0 t.length ++ fl t 1 t.length) (v3 := none) (v4 := none) (v5 := none) (v6 := none) (v8 := none) (v10 := none) (v11 := none) sq (by rw [List.length_append]; omega)
  have eF : FF t = fl t 0 t.length ++ fl t 1 t.length ++ (FP t).map fP := by
    rw [fl0, fl1]
    rfl
  rw [callF_run (fi := f16) rfl rfl]
  simp only [f16, List.map_cons, List.map_nil, List.replicate, List.cons_append, List.nil_append]
  simp only [b16k, f16, S.at] at z
  simp only [b16p, f16, S.at] at p4
  simp only [b16t, f16, S.at] at p5
  rw [eF]
  simp only [ok_bind, exc_bind, ok_thn, exc_thn, ok_calm, nx_and, ret_and, brk_and, cnt_and, exc_and, ev_cst, ev_var, ev_glb, kBin_eq, ev_bin, ev_neg, kNot_eq, ev_not, ev_and, ev_or, kAnd_t, kAnd_f, kOr_t, kOr_f, kCmp_eq, ev_cmp, ev_chn, chnK_t, chnK_f, kChn1_eq, kChn_nil, kChn_cons, kIfE_t, kIfE_f, ev_ite, kIdx_eq, ev_idx, kSlc2_eq, kSlc_eq, ev_slc, ev_tup, ev_lst, ev_dnew, kLc_eq, ev_lc, kLc2_eq, ev_lc2, ev_call, ev_bi, kBm_eq, ev_bm, kIsi_eq, ev_isi, ev_lrg1, kLrg2_eq, ev_lrg2, evf_none, evf_some, oiK_int, evo_none, evo_some, evs_nil, kCons_eq, kEvs_eq, evs_cons, evIt_seq, evIt_rng1, kRng2_eq, evIt_rng2, kRng3b_eq, kRng3_eq, evIt_rng3, evIt_enu, kZip_eq, evIt_zip, ex_skip, kSeq_eq, ex_seq, kAsg_eq, ex_asg, kPar_eq, ex_par, kSI3_eq, kSI2_eq, kSI1_eq, ex_setIx, kNx_eq, ex_expr, kIfS_t, kIfS_f, ex_ite, kFor_eq, ex_for, ex_while, kRet_eq, ex_ret, ex_retN, kRaise_eq, ex_raise, ex_try, ex_brk, ex_cnt, ex_frz, tryK_nx, tryK_ret, tryK_exc, hndK_nil, hndK_cons, hndK1_f, hndK1_ti, hndK1_tn, unbK_ret, unbK_nx, unb0_ret, unb0_nx, varK_ok, tru_bl, tru_int, tru_tup, tru_lst, tru_non, tru_exc, bin_addK, bin_subK, MP.neg_int, c_lt, c_le, c_gt, c_ge, c_eq, c_ne, c_eqb, c_neb, m_lt, m_le, m_gt, m_ge, seq_tup, seq_lst, len_tup, len_lst, toList_tup, toList_lst, toTup_tup, toTup_lst, int1_int, int1_bl, min2_int, max2_int, abs_int, asg_nm, tup0, tup1, tup2, tup3, tup4, List.set_cons_zero, List.set_cons_succ, List.getElem?_cons_zero, List.getElem?_cons_succ, Bool.false_eq_true, ↓reduceIte, fin_ret, decide_true, decide_false, Bool.not_true, Bool.not_false, kOne_eq, kLcE_t, kLcE_f, lcE_eq, lcQ_nm, lcQ_tp2, lcQ_tp3, lcK1_nm, lcK1_tp2, kLcE3_eq, kLcE2_t, kLcE2_f, lcE2_eq, lcK2_nm, lcK2_tp2, rstE_nil, rstE_cons, asg_tp2, asg_tp3, asg_tp4, forK_nil, par1, par2, par3, nl, mkT0, List.map_cons, List.map_nil, z, mk0, p4]
  rw [fz]
  simp only [ok_bind, exc_bind, ok_thn, exc_thn, ok_calm, nx_and, ret_and, brk_and, cnt_and, exc_and, ev_cst, ev_var, ev_glb, kBin_eq, ev_bin, ev_neg, kNot_eq, ev_not, ev_and, ev_or, kAnd_t, kAnd_f, kOr_t, kOr_f, kCmp_eq, ev_cmp, ev_chn, chnK_t, chnK_f, kChn1_eq, kChn_nil, kChn_cons, kIfE_t, kIfE_f, ev_ite, kIdx_eq, ev_idx, kSlc2_eq, kSlc_eq, ev_slc, ev_tup, ev_lst, ev_dnew, kLc_eq, ev_lc, kLc2_eq, ev_lc2, ev_call, ev_bi, kBm_eq, ev_bm, kIsi_eq, ev_isi, ev_lrg1, kLrg2_eq, ev_lrg2, evf_none, evf_some, oiK_int, evo_none, evo_some, evs_nil, kCons_eq, kEvs_eq, evs_cons, evIt_seq, evIt_rng1, kRng2_eq, evIt_rng2, kRng3b_eq, kRng3_eq, evIt_rng3, evIt_enu, kZip_eq, evIt_zip, ex_skip, kSeq_eq, ex_seq, kAsg_eq, ex_asg, kPar_eq, ex_par, kSI3_eq, kSI2_eq, kSI1_eq, ex_setIx, kNx_eq, ex_expr, kIfS_t, kIfS_f, ex_ite, kFor_eq, ex_for, ex_while, kRet_eq, ex_ret, ex_retN, kRaise_eq, ex_raise, ex_try, ex_brk, ex_cnt, ex_frz, tryK_nx, tryK_ret, tryK_exc, hndK_nil, hndK_cons, hndK1_f, hndK1_ti, hndK1_tn, unbK_ret, unbK_nx, unb0_ret, unb0_nx, varK_ok, tru_bl, tru_int, tru_tup, tru_lst, tru_non, tru_exc, bin_addK, bin_subK, MP.neg_int, c_lt, c_le, c_gt, c_ge, c_eq, c_ne, c_eqb, c_neb, m_lt, m_le, m_gt, m_ge, seq_tup, seq_lst, len_tup, len_lst, toList_tup, toList_lst, toTup_tup, toTup_lst, int1_int, int1_bl, min2_int, max2_int, abs_int, asg_nm, tup0, tup1, tup2, tup3, tup4, List.set_cons_zero, List.set_cons_succ, List.getElem?_cons_zero, List.getElem?_cons_succ, Bool.false_eq_true, ↓reduceIte, fin_ret, decide_true, decide_false, Bool.not_true, Bool.not_false, kOne_eq, kLcE_t, kLcE_f, lcE_eq, lcQ_nm, lcQ_tp2, lcQ_tp3, lcK1_nm, lcK1_tp2, kLcE3_eq, kLcE2_t, kLcE2_f, lcE2_eq, lcK2_nm, lcK2_tp2, rstE_nil, rstE_cons, asg_tp2, asg_tp3, asg_tp4, forK_nil, par1, par2, par3, ro1, p5, take_new]
end K27
end
section
set_option Elab.async false
set_option linter.all false
set_option maxRecDepth 100000
set_option maxHeartbeats 4000000
namespace K27
open MP
open PySem hiding exec
def FI (t : List (List Cell)) : List (List Int) := (FL t t.length).map (fun i : Nat => [0, (i : Int)]) ++ (FL (cols t) t.length).map (fun i : Nat => [1, (i : Int)]) ++ (FP t).map fun p => [2, p.1, p.2]
abbrev encT (is : List Int) : A := .tup (is.map .int)
theorem FF_FI (t : List (List Cell)) : FF t = (FI t).map encT := by
  unfold FF FI
  rw [List.map_append, List.map_append, List.map_map, List.map_map, List.map_map]
  rfl
theorem inA_T (is : List Int) : ∀ L : List (List Int), inA (encT is) (L.map encT) = decide (is ∈ L)
  | [] => rfl
  | js :: L => by
    show (A.eqv (encT js) (encT is) || inA (encT is) (L.map encT)) = _
    rw [inA_T is L, show A.eqv (encT js) (encT is) = A.eqvs (js.map .int) (is.map .int) from rfl, eqvs_int, Bool.eq_iff_iff, Bool.or_eq_true, decide_eq_true_iff, decide_eq_true_iff, decide_eq_true_iff, List.mem_cons]
    exact ⟨fun h => h.imp_left Eq.symm, fun h => h.imp_left Eq.symm⟩
theorem lows_T (L : List (List Int)) (n : Nat) : A.lows (L.map encT) (n + 1) = true := by
  refine lows_of ?_
  intro x hx
  obtain ⟨is, _, rfl⟩ := List.mem_map.mp hx
  exact lows_int n is
theorem c_inFF {h : Mem} {is : List Int} {t : List (List Cell)} : cmpK .In (.a (encT is)) (.a (.lst (FF t))) h = .ok (.a (.bl (decide (is ∈ FI t)))) h := by
  refine cmpK_of ?_
  show (if (A.lowB (encT is) && A.lows (FF t) 50) = true then some (inA (encT is) (FF t)) else none) = _
  rw [FF_FI, lows_T _ 49, show A.lowB (encT is) = true from lows_int 49 is, inA_T]
  rfl
theorem FL_mem {ls : List (List Cell)} {n : Int} {i : Nat} : i ∈ FL ls n ↔ i < ls.length ∧ hasA ((ls[i]?).getD []) n = false := by
  rw [FL_range, List.mem_filter, List.mem_range, Bool.not_eq_true']
theorem FL_mem0 {t : List (List Cell)} {i : Nat} : i ∈ FL t t.length ↔ i < t.length ∧ hasA (ln t 0 i) t.length = false := FL_mem
theorem FL_mem1 {t : List (List Cell)} {i : Nat} : i ∈ FL (cols t) t.length ↔ i < t.length ∧ hasA (ln t 1 i) t.length = false := by
  rw [FL_mem, show (cols t).length = t.length from by unfold cols; rw [List.length_map, List.length_range]]
  constructor
  · rintro ⟨a, b⟩
    refine ⟨a, ?_⟩
    rw [show ((cols t)[i]?).getD [] = ln t 1 i from by
      unfold cols
      rw [List.getElem?_map, List.getElem?_range a]
      rfl] at b
    exact b
  · rintro ⟨a, b⟩
    refine ⟨a, ?_⟩
    rw [show ((cols t)[i]?).getD [] = ln t 1 i from by
      unfold cols
      rw [List.getElem?_map, List.getElem?_range a]
      rfl]
    exact b
theorem rngI_mem' {i j x : Int} : x ∈ rngI i j ↔ i ≤ x ∧ x < j := by
  constructor
  · exact rngI_mem
  · rintro ⟨a, b⟩
    unfold rngI
    exact List.mem_map.mpr ⟨(x - i).toNat, List.mem_range.mpr (by omega), by omega⟩
theorem FP_mem {t : List (List Cell)} {b c : Int} : (b, c) ∈ FP t ↔ 0 ≤ b ∧ b < c ∧ c ≤ t.length ∧ ¬ (tms t (b, c) : Int) = 1 := by
  unfold FP
  rw [List.mem_flatMap]
  constructor
  · rintro ⟨two, h1, h2⟩
    obtain ⟨one, h3, h4⟩ := List.mem_map.mp h2
    cases h4
    obtain ⟨h5, h6⟩ := List.mem_filter.mp h3
    have := rngI_mem'.mp h1
    have := rngI_mem'.mp h5
    refine ⟨by omega, by omega, by omega, ?_⟩
    intro z
    rw [decide_eq_true z] at h6
    cases h6
  · rintro ⟨h1, h2, h3, h4⟩
    refine ⟨c, rngI_mem'.mpr ⟨by omega, by omega⟩, List.mem_map.mpr ⟨b, List.mem_filter.mpr ⟨rngI_mem'.mpr ⟨h1, h2⟩, by rw [decide_eq_false h4]; rfl⟩, rfl⟩⟩
theorem FI2 {t : List (List Cell)} {a b : Int} : [a, b] ∈ FI t ↔ (a = 0 ∨ a = 1) ∧ 0 ≤ b ∧ b < t.length ∧ hasA (ln t a.toNat b.toNat) t.length = false := by
  unfold FI
  rw [List.mem_append, List.mem_append, List.mem_map, List.mem_map, List.mem_map]
  constructor
  · rintro ((⟨i, h1, h2⟩ | ⟨i, h1, h2⟩) | ⟨p, h1, h2⟩)
    · cases h2
      obtain ⟨h3, h4⟩ := FL_mem0.mp h1
      exact ⟨Or.inl rfl, by omega, by omega, by rw [Int.toNat_natCast]; exact h4⟩
    · cases h2
      obtain ⟨h3, h4⟩ := FL_mem1.mp h1
      exact ⟨Or.inr rfl, by omega, by omega, by rw [Int.toNat_natCast]; exact h4⟩
    · cases h2
  · rintro ⟨rfl | rfl, h1, h2, h3⟩
    · refine Or.inl (Or.inl ⟨b.toNat, FL_mem0.mpr ⟨by omega, h3⟩, ?_⟩)
      rw [show ((b.toNat : Nat) : Int) = b from by omega]
    · refine Or.inl (Or.inr ⟨b.toNat, FL_mem1.mpr ⟨by omega, h3⟩, ?_⟩)
      rw [show ((b.toNat : Nat) : Int) = b from by omega]
theorem FI3 {t : List (List Cell)} {a b c : Int} : [a, b, c] ∈ FI t ↔ a = 2 ∧ 0 ≤ b ∧ b < c ∧ c ≤ t.length ∧ ¬ (tms t (b, c) : Int) = 1 := by
  unfold FI
  rw [List.mem_append, List.mem_append, List.mem_map, List.mem_map, List.mem_map]
  constructor
  · rintro ((⟨i, h1, h2⟩ | ⟨i, h1, h2⟩) | ⟨p, h1, h2⟩)
    · cases h2
    · cases h2
    · cases h2
      exact ⟨rfl, FP_mem.mp h1⟩
  · rintro ⟨rfl, h⟩
    exact Or.inr ⟨(b, c), FP_mem.mpr h, rfl⟩
/-! ### the judges -/
structure Sz (t : List (List Cell)) : Prop where
  n : t.length ≤ 100
  r : ∀ r ∈ t, r.length ≤ 100
theorem cut2' {a b : A} {r : List A} : cut (a :: b :: r) none (some 2) = [a, b] := by
  rw [show (some 2 : Option Int) = some ((2 : Nat) : Int) from rfl, cut_til]
  rfl
theorem i0 {a : A} {r : List A} {h : Mem} : idxK (.a (.tup (a :: r))) (.a (.int 0)) h = .ok (.a a) h := by
  refine idxK_of ?_
  exact idx_tup (k := 0) (xs := a :: r) (Nat.zero_lt_succ _)
theorem i1 {a b : A} {r : List A} {h : Mem} : idxK (.a (.tup (a :: b :: r))) (.a (.int 1)) h = .ok (.a b) h := by
  refine idxK_of ?_
  exact idx_tup (k := 1) (xs := a :: b :: r) (by simp only [List.length_cons]; omega)
theorem i2 {a b c : A} {r : List A} {h : Mem} : idxK (.a (.tup (a :: b :: c :: r))) (.a (.int 2)) h = .ok (.a c) h := by
  refine idxK_of ?_
  exact idx_tup (k := 2) (xs := a :: b :: c :: r) (by simp only [List.length_cons]; omega)
theorem m1 : decide (("cramped" : Str) = "room") = false := by decide +kernel
theorem m0 : decide (("room" : Str) = "room") = true := decide_eq_true rfl
theorem lowsFF (t : List (List Cell)) : A.lows (FF t) 49 = true := by rw [FF_FI]; exact lows_T _ 48
theorem room_head {t : List (List Cell)} {h : Mem} : ∃ w, idxK (.a (roomA t)) (.a (.int 0)) h = .ok (.a (.str w)) h ∧ decide (w = ("room" : Str)) = (FF t).isEmpty := by
  unfold roomA
  cases FF t with
  | nil => exact ⟨_, i0, m0⟩
  | cons f r => exact ⟨_, i0, m1⟩
theorem run17r {k : Nat} {h : Mem} {t : List (List Cell)} (sz : Sz t) : callF G (k + 3) 17 [.a (.tup [.str "room", T t])] h = .ok (.a (.bl (are t && (FF t).isEmpty))) h := by
  have q15 := run15 (k := k + 1) (h := h) (t := t) (by have := sz.n; omega) (fun r hr => by have := sz.r r hr; omega)
  rw [callF_run (fi := f17) rfl rfl]
  simp only [f17, List.map_cons, List.map_nil, List.replicate, List.cons_append, List.nil_append]
  have mk0 : ∀ {h : Mem}, mkL false [] h = .ok (.a (.lst [])) h := rfl
  cases ha : are t with
  | false =>
    rw [ha] at q15
    simp only [ok_bind, exc_bind, ok_thn, exc_thn, ok_calm, nx_and, ret_and, brk_and, cnt_and, exc_and, ev_cst, ev_var, ev_glb, kBin_eq, ev_bin, ev_neg, kNot_eq, ev_not, ev_and, ev_or, kAnd_t, kAnd_f, kOr_t, kOr_f, kCmp_eq, ev_cmp, ev_chn, chnK_t, chnK_f, kChn1_eq, kChn_nil, kChn_cons, kIfE_t, kIfE_f, ev_ite, kIdx_eq, ev_idx, kSlc2_eq, kSlc_eq, ev_slc, ev_tup, ev_lst, ev_dnew, kLc_eq, ev_lc, kLc2_eq, ev_lc2, ev_call, ev_bi, kBm_eq, ev_bm, kIsi_eq, ev_isi, ev_lrg1, kLrg2_eq, ev_lrg2, evf_none, evf_some, oiK_int, evo_none, evo_some, evs_nil, kCons_eq, kEvs_eq, evs_cons, evIt_seq, evIt_rng1, kRng2_eq, evIt_rng2, kRng3b_eq, kRng3_eq, evIt_rng3, evIt_enu, kZip_eq, evIt_zip, ex_skip, kSeq_eq, ex_seq, kAsg_eq, ex_asg, kPar_eq, ex_par, kSI3_eq, kSI2_eq, kSI1_eq, ex_setIx, kNx_eq, ex_expr, kIfS_t, kIfS_f, ex_ite, kFor_eq, ex_for, ex_while, kRet_eq, ex_ret, ex_retN, kRaise_eq, ex_raise, ex_try, ex_brk, ex_cnt, ex_frz, tryK_nx, tryK_ret, tryK_exc, hndK_nil, hndK_cons, hndK1_f, hndK1_ti, hndK1_tn, unbK_ret, unbK_nx, unb0_ret, unb0_nx, varK_ok, tru_bl, tru_int, tru_tup, tru_lst, tru_non, tru_exc, bin_addK, bin_subK, MP.neg_int, c_lt, c_le, c_gt, c_ge, c_eq, c_ne, c_eqb, c_neb, m_lt, m_le, m_gt, m_ge, seq_tup, seq_lst, len_tup, len_lst, toList_tup, toList_lst, toTup_tup, toTup_lst, int1_int, int1_bl, min2_int, max2_int, abs_int, asg_nm, tup0, tup1, tup2, tup3, tup4, List.set_cons_zero, List.set_cons_succ, List.getElem?_cons_zero, List.getElem?_cons_succ, Bool.false_eq_true, ↓reduceIte, fin_ret, decide_true, decide_false, Bool.not_true, Bool.not_false, kOne_eq, kLcE_t, kLcE_f, lcE_eq, lcQ_nm, lcQ_tp2, lcQ_tp3, lcK1_nm, lcK1_tp2, kLcE3_eq, kLcE2_t, kLcE2_f, lcE2_eq, lcK2_nm, lcK2_tp2, rstE_nil, rstE_cons, asg_tp2, asg_tp3, asg_tp4, forK_nil, par1, par2, par3, slc_tup, cut2', q15, take_self, Bool.false_and]
  | true =>
    have q16 := run16 (k := k + 1) (h := h) (are_sq ha)
    rw [ha] at q15
    simp only [ok_bind, exc_bind, ok_thn, exc_thn, ok_calm, nx_and, ret_and, brk_and, cnt_and, exc_and, ev_cst, ev_var, ev_glb, kBin_eq, ev_bin, ev_neg, kNot_eq, ev_not, ev_and, ev_or, kAnd_t, kAnd_f, kOr_t, kOr_f, kCmp_eq, ev_cmp, ev_chn, chnK_t, chnK_f, kChn1_eq, kChn_nil, kChn_cons, kIfE_t, kIfE_f, ev_ite, kIdx_eq, ev_idx, kSlc2_eq, kSlc_eq, ev_slc, ev_tup, ev_lst, ev_dnew, kLc_eq, ev_lc, kLc2_eq, ev_lc2, ev_call, ev_bi, kBm_eq, ev_bm, kIsi_eq, ev_isi, ev_lrg1, kLrg2_eq, ev_lrg2, evf_none, evf_some, oiK_int, evo_none, evo_some, evs_nil, kCons_eq, kEvs_eq, evs_cons, evIt_seq, evIt_rng1, kRng2_eq, evIt_rng2, kRng3b_eq, kRng3_eq, evIt_rng3, evIt_enu, kZip_eq, evIt_zip, ex_skip, kSeq_eq, ex_seq, kAsg_eq, ex_asg, kPar_eq, ex_par, kSI3_eq, kSI2_eq, kSI1_eq, ex_setIx, kNx_eq, ex_expr, kIfS_t, kIfS_f, ex_ite, kFor_eq, ex_for, ex_while, kRet_eq, ex_ret, ex_retN, kRaise_eq, ex_raise, ex_try, ex_brk, ex_cnt, ex_frz, tryK_nx, tryK_ret, tryK_exc, hndK_nil, hndK_cons, hndK1_f, hndK1_ti, hndK1_tn, unbK_ret, unbK_nx, unb0_ret, unb0_nx, varK_ok, tru_bl, tru_int, tru_tup, tru_lst, tru_non, tru_exc, bin_addK, bin_subK, MP.neg_int, c_lt, c_le, c_gt, c_ge, c_eq, c_ne, c_eqb, c_neb, m_lt, m_le, m_gt, m_ge, seq_tup, seq_lst, len_tup, len_lst, toList_tup, toList_lst, toTup_tup, toTup_lst, int1_int, int1_bl, min2_int, max2_int, abs_int, asg_nm, tup0, tup1, tup2, tup3, tup4, List.set_cons_zero, List.set_cons_succ, List.getElem?_cons_zero, List.getElem?_cons_succ, Bool.false_eq_true, ↓reduceIte, fin_ret, decide_true, decide_false, Bool.not_true, Bool.not_false, kOne_eq, kLcE_t, kLcE_f, lcE_eq, lcQ_nm, lcQ_tp2, lcQ_tp3, lcK1_nm, lcK1_tp2, kLcE3_eq, kLcE2_t, kLcE2_f, lcE2_eq, lcK2_nm, lcK2_tp2, rstE_nil, rstE_cons, asg_tp2, asg_tp3, asg_tp4, forK_nil, par1, par2, par3, slc_tup, cut2', q15, take_self, Bool.true_and, c_str, m0, q16, mk0, eq_nilL (lowsFF t)]
theorem run9r {k : Nat} {h : Mem} {t : List (List Cell)} (sz : Sz t) : callF G (k + 3) 9 [.a (.tup [.str "room", T t])] h = .ok (.a (.bl (are t && (FF t).isEmpty))) h := by
  have q6 := run6 (k := k + 1) (h := h) (t := t) (by have := sz.n; omega) (fun r hr => by have := sz.r r hr; omega)
  rw [callF_run (fi := f9) rfl rfl]
  simp only [f9, List.map_cons, List.map_nil, List.replicate, List.cons_append, List.nil_append]
  cases ha : are t with
  | false =>
    rw [ha] at q6
    simp only [ok_bind, exc_bind, ok_thn, exc_thn, ok_calm, nx_and, ret_and, brk_and, cnt_and, exc_and, ev_cst, ev_var, ev_glb, kBin_eq, ev_bin, ev_neg, kNot_eq, ev_not, ev_and, ev_or, kAnd_t, kAnd_f, kOr_t, kOr_f, kCmp_eq, ev_cmp, ev_chn, chnK_t, chnK_f, kChn1_eq, kChn_nil, kChn_cons, kIfE_t, kIfE_f, ev_ite, kIdx_eq, ev_idx, kSlc2_eq, kSlc_eq, ev_slc, ev_tup, ev_lst, ev_dnew, kLc_eq, ev_lc, kLc2_eq, ev_lc2, ev_call, ev_bi, kBm_eq, ev_bm, kIsi_eq, ev_isi, ev_lrg1, kLrg2_eq, ev_lrg2, evf_none, evf_some, oiK_int, evo_none, evo_some, evs_nil, kCons_eq, kEvs_eq, evs_cons, evIt_seq, evIt_rng1, kRng2_eq, evIt_rng2, kRng3b_eq, kRng3_eq, evIt_rng3, evIt_enu, kZip_eq, evIt_zip, ex_skip, kSeq_eq, ex_seq, kAsg_eq, ex_asg, kPar_eq, ex_par, kSI3_eq, kSI2_eq, kSI1_eq, ex_setIx, kNx_eq, ex_expr, kIfS_t, kIfS_f, ex_ite, kFor_eq, ex_for, ex_while, kRet_eq, ex_ret, ex_retN, kRaise_eq, ex_raise, ex_try, ex_brk, ex_cnt, ex_frz, tryK_nx, tryK_ret, tryK_exc, hndK_nil, hndK_cons, hndK1_f, hndK1_ti, hndK1_tn, unbK_ret, unbK_nx, unb0_ret, unb0_nx, varK_ok, tru_bl, tru_int, tru_tup, tru_lst, tru_non, tru_exc, bin_addK, bin_subK, MP.neg_int, c_lt, c_le, c_gt, c_ge, c_eq, c_ne, c_eqb, c_neb, m_lt, m_le, m_gt, m_ge, seq_tup, seq_lst, len_tup, len_lst, toList_tup, toList_lst, toTup_tup, toTup_lst, int1_int, int1_bl, min2_int, max2_int, abs_int, asg_nm, tup0, tup1, tup2, tup3, tup4, List.set_cons_zero, List.set_cons_succ, List.getElem?_cons_zero, List.getElem?_cons_succ, Bool.false_eq_true, ↓reduceIte, fin_ret, decide_true, decide_false, Bool.not_true, Bool.not_false, kOne_eq, kLcE_t, kLcE_f, lcE_eq, lcQ_nm, lcQ_tp2, lcQ_tp3, lcK1_nm, lcK1_tp2, kLcE3_eq, kLcE2_t, kLcE2_f, lcE2_eq, lcK2_nm, lcK2_tp2, rstE_nil, rstE_cons, asg_tp2, asg_tp3, asg_tp4, forK_nil, par1, par2, par3, slc_tup, cut2', q6, take_self, Bool.false_and]
  | true =>
    have q5 := run5 (k := k) (h := h) (t := t) (x := T t) (e := encR) seq_tup (fun r {h} => seq_tup) ha
    obtain ⟨w, e1, e2⟩ := room_head (t := t) (h := h)
    rw [ha] at q6
    simp only [ok_bind, exc_bind, ok_thn, exc_thn, ok_calm, nx_and, ret_and, brk_and, cnt_and, exc_and, ev_cst, ev_var, ev_glb, kBin_eq, ev_bin, ev_neg, kNot_eq, ev_not, ev_and, ev_or, kAnd_t, kAnd_f, kOr_t, kOr_f, kCmp_eq, ev_cmp, ev_chn, chnK_t, chnK_f, kChn1_eq, kChn_nil, kChn_cons, kIfE_t, kIfE_f, ev_ite, kIdx_eq, ev_idx, kSlc2_eq, kSlc_eq, ev_slc, ev_tup, ev_lst, ev_dnew, kLc_eq, ev_lc, kLc2_eq, ev_lc2, ev_call, ev_bi, kBm_eq, ev_bm, kIsi_eq, ev_isi, ev_lrg1, kLrg2_eq, ev_lrg2, evf_none, evf_some, oiK_int, evo_none, evo_some, evs_nil, kCons_eq, kEvs_eq, evs_cons, evIt_seq, evIt_rng1, kRng2_eq, evIt_rng2, kRng3b_eq, kRng3_eq, evIt_rng3, evIt_enu, kZip_eq, evIt_zip, ex_skip, kSeq_eq, ex_seq, kAsg_eq, ex_asg, kPar_eq, ex_par, kSI3_eq, kSI2_eq, kSI1_eq, ex_setIx, kNx_eq, ex_expr, kIfS_t, kIfS_f, ex_ite, kFor_eq, ex_for, ex_while, kRet_eq, ex_ret, ex_retN, kRaise_eq, ex_raise, ex_try, ex_brk, ex_cnt, ex_frz, tryK_nx, tryK_ret, tryK_exc, hndK_nil, hndK_cons, hndK1_f, hndK1_ti, hndK1_tn, unbK_ret, unbK_nx, unb0_ret, unb0_nx, varK_ok, tru_bl, tru_int, tru_tup, tru_lst, tru_non, tru_exc, bin_addK, bin_subK, MP.neg_int, c_lt, c_le, c_gt, c_ge, c_eq, c_ne, c_eqb, c_neb, m_lt, m_le, m_gt, m_ge, seq_tup, seq_lst, len_tup, len_lst, toList_tup, toList_lst, toTup_tup, toTup_lst, int1_int, int1_bl, min2_int, max2_int, abs_int, asg_nm, tup0, tup1, tup2, tup3, tup4, List.set_cons_zero, List.set_cons_succ, List.getElem?_cons_zero, List.getElem?_cons_succ, Bool.false_eq_true, ↓reduceIte, fin_ret, decide_true, decide_false, Bool.not_true, Bool.not_false, kOne_eq, kLcE_t, kLcE_f, lcE_eq, lcQ_nm, lcQ_tp2, lcQ_tp3, lcK1_nm, lcK1_tp2, kLcE3_eq, kLcE2_t, kLcE2_f, lcE2_eq, lcK2_nm, lcK2_tp2, rstE_nil, rstE_cons, asg_tp2, asg_tp3, asg_tp4, forK_nil, par1, par2, par3, slc_tup, cut2', q6, take_self, Bool.true_and, c_str, m0, q5, e1, e2]
theorem run17c {k : Nat} {h : Mem} {t : List (List Cell)} {is : List Int} (sz : Sz t) : callF G (k + 3) 17 [.a (.tup [.str "cramped", T t, encT is])] h = .ok (.a (.bl (are t && decide (is ∈ FI t)))) h := by
  have q15 := run15 (k := k + 1) (h := h) (t := t) (by have := sz.n; omega) (fun r hr => by have := sz.r r hr; omega)
  rw [callF_run (fi := f17) rfl rfl]
  simp only [f17, List.map_cons, List.map_nil, List.replicate, List.cons_append, List.nil_append]
  cases ha : are t with
  | false =>
    rw [ha] at q15
    simp only [ok_bind, exc_bind, ok_thn, exc_thn, ok_calm, nx_and, ret_and, brk_and, cnt_and, exc_and, ev_cst, ev_var, ev_glb, kBin_eq, ev_bin, ev_neg, kNot_eq, ev_not, ev_and, ev_or, kAnd_t, kAnd_f, kOr_t, kOr_f, kCmp_eq, ev_cmp, ev_chn, chnK_t, chnK_f, kChn1_eq, kChn_nil, kChn_cons, kIfE_t, kIfE_f, ev_ite, kIdx_eq, ev_idx, kSlc2_eq, kSlc_eq, ev_slc, ev_tup, ev_lst, ev_dnew, kLc_eq, ev_lc, kLc2_eq, ev_lc2, ev_call, ev_bi, kBm_eq, ev_bm, kIsi_eq, ev_isi, ev_lrg1, kLrg2_eq, ev_lrg2, evf_none, evf_some, oiK_int, evo_none, evo_some, evs_nil, kCons_eq, kEvs_eq, evs_cons, evIt_seq, evIt_rng1, kRng2_eq, evIt_rng2, kRng3b_eq, kRng3_eq, evIt_rng3, evIt_enu, kZip_eq, evIt_zip, ex_skip, kSeq_eq, ex_seq, kAsg_eq, ex_asg, kPar_eq, ex_par, kSI3_eq, kSI2_eq, kSI1_eq, ex_setIx, kNx_eq, ex_expr, kIfS_t, kIfS_f, ex_ite, kFor_eq, ex_for, ex_while, kRet_eq, ex_ret, ex_retN, kRaise_eq, ex_raise, ex_try, ex_brk, ex_cnt, ex_frz, tryK_nx, tryK_ret, tryK_exc, hndK_nil, hndK_cons, hndK1_f, hndK1_ti, hndK1_tn, unbK_ret, unbK_nx, unb0_ret, unb0_nx, varK_ok, tru_bl, tru_int, tru_tup, tru_lst, tru_non, tru_exc, bin_addK, bin_subK, MP.neg_int, c_lt, c_le, c_gt, c_ge, c_eq, c_ne, c_eqb, c_neb, m_lt, m_le, m_gt, m_ge, seq_tup, seq_lst, len_tup, len_lst, toList_tup, toList_lst, toTup_tup, toTup_lst, int1_int, int1_bl, min2_int, max2_int, abs_int, asg_nm, tup0, tup1, tup2, tup3, tup4, List.set_cons_zero, List.set_cons_succ, List.getElem?_cons_zero, List.getElem?_cons_succ, Bool.false_eq_true, ↓reduceIte, fin_ret, decide_true, decide_false, Bool.not_true, Bool.not_false, kOne_eq, kLcE_t, kLcE_f, lcE_eq, lcQ_nm, lcQ_tp2, lcQ_tp3, lcK1_nm, lcK1_tp2, kLcE3_eq, kLcE2_t, kLcE2_f, lcE2_eq, lcK2_nm, lcK2_tp2, rstE_nil, rstE_cons, asg_tp2, asg_tp3, asg_tp4, forK_nil, par1, par2, par3, slc_tup, cut2', q15, take_self, Bool.false_and]
  | true =>
    have q16 := run16 (k := k + 1) (h := h) (are_sq ha)
    rw [ha] at q15
    simp only [ok_bind, exc_bind, ok_thn, exc_thn, ok_calm, nx_and, ret_and, brk_and, cnt_and, exc_and, ev_cst, ev_var, ev_glb, kBin_eq, ev_bin, ev_neg, kNot_eq, ev_not, ev_and, ev_or, kAnd_t, kAnd_f, kOr_t, kOr_f, kCmp_eq, ev_cmp, ev_chn, chnK_t, chnK_f, kChn1_eq, kChn_nil, kChn_cons, kIfE_t, kIfE_f, ev_ite, kIdx_eq, ev_idx, kSlc2_eq, kSlc_eq, ev_slc, ev_tup, ev_lst, ev_dnew, kLc_eq, ev_lc, kLc2_eq, ev_lc2, ev_call, ev_bi, kBm_eq, ev_bm, kIsi_eq, ev_isi, ev_lrg1, kLrg2_eq, ev_lrg2, evf_none, evf_some, oiK_int, evo_none, evo_some, evs_nil, kCons_eq, kEvs_eq, evs_cons, evIt_seq, evIt_rng1, kRng2_eq, evIt_rng2, kRng3b_eq, kRng3_eq, evIt_rng3, evIt_enu, kZip_eq, evIt_zip, ex_skip, kSeq_eq, ex_seq, kAsg_eq, ex_asg, kPar_eq, ex_par, kSI3_eq, kSI2_eq, kSI1_eq, ex_setIx, kNx_eq, ex_expr, kIfS_t, kIfS_f, ex_ite, kFor_eq, ex_for, ex_while, kRet_eq, ex_ret, ex_retN, kRaise_eq, ex_raise, ex_try, ex_brk, ex_cnt, ex_frz, tryK_nx, tryK_ret, tryK_exc, hndK_nil, hndK_cons, hndK1_f, hndK1_ti, hndK1_tn, unbK_ret, unbK_nx, unb0_ret, unb0_nx, varK_ok, tru_bl, tru_int, tru_tup, tru_lst, tru_non, tru_exc, bin_addK, bin_subK, MP.neg_int, c_lt, c_le, c_gt, c_ge, c_eq, c_ne, c_eqb, c_neb, m_lt, m_le, m_gt, m_ge, seq_tup, seq_lst, len_tup, len_lst, toList_tup, toList_lst, toTup_tup, toTup_lst, int1_int, int1_bl, min2_int, max2_int, abs_int, asg_nm, tup0, tup1, tup2, tup3, tup4, List.set_cons_zero, List.set_cons_succ, List.getElem?_cons_zero, List.getElem?_cons_succ, Bool.false_eq_true, ↓reduceIte, fin_ret, decide_true, decide_false, Bool.not_true, Bool.not_false, kOne_eq, kLcE_t, kLcE_f, lcE_eq, lcQ_nm, lcQ_tp2, lcQ_tp3, lcK1_nm, lcK1_tp2, kLcE3_eq, kLcE2_t, kLcE2_f, lcE2_eq, lcK2_nm, lcK2_tp2, rstE_nil, rstE_cons, asg_tp2, asg_tp3, asg_tp4, forK_nil, par1, par2, par3, slc_tup, cut2', q15, take_self, Bool.true_and, c_str, m1, q16, i2, c_inFF]
theorem nlT {t : List (List Cell)} : (((t.map encR).length : Nat) : Int) = t.length := by rw [List.length_map]
theorem run9c2 {k : Nat} {h : Mem} {t : List (List Cell)} {a b : Int} (sz : Sz t) : callF G (k + 3) 9 [.a (.tup [.str "cramped", T t, .tup [.int a, .int b]])] h = .ok (.a (.bl (are t && decide ([a, b] ∈ FI t)))) h := by
  have q6 := run6 (k := k + 1) (h := h) (t := t) (by have := sz.n; omega) (fun r hr => by have := sz.r r hr; omega)
  rw [callF_run (fi := f9) rfl rfl]
  simp only [f9, List.map_cons, List.map_nil, List.replicate, List.cons_append, List.nil_append]
  cases ha : are t with
  | false =>
    rw [ha] at q6
    simp only [ok_bind, exc_bind, ok_thn, exc_thn, ok_calm, nx_and, ret_and, brk_and, cnt_and, exc_and, ev_cst, ev_var, ev_glb, kBin_eq, ev_bin, ev_neg, kNot_eq, ev_not, ev_and, ev_or, kAnd_t, kAnd_f, kOr_t, kOr_f, kCmp_eq, ev_cmp, ev_chn, chnK_t, chnK_f, kChn1_eq, kChn_nil, kChn_cons, kIfE_t, kIfE_f, ev_ite, kIdx_eq, ev_idx, kSlc2_eq, kSlc_eq, ev_slc, ev_tup, ev_lst, ev_dnew, kLc_eq, ev_lc, kLc2_eq, ev_lc2, ev_call, ev_bi, kBm_eq, ev_bm, kIsi_eq, ev_isi, ev_lrg1, kLrg2_eq, ev_lrg2, evf_none, evf_some, oiK_int, evo_none, evo_some, evs_nil, kCons_eq, kEvs_eq, evs_cons, evIt_seq, evIt_rng1, kRng2_eq, evIt_rng2, kRng3b_eq, kRng3_eq, evIt_rng3, evIt_enu, kZip_eq, evIt_zip, ex_skip, kSeq_eq, ex_seq, kAsg_eq, ex_asg, kPar_eq, ex_par, kSI3_eq, kSI2_eq, kSI1_eq, ex_setIx, kNx_eq, ex_expr, kIfS_t, kIfS_f, ex_ite, kFor_eq, ex_for, ex_while, kRet_eq, ex_ret, ex_retN, kRaise_eq, ex_raise, ex_try, ex_brk, ex_cnt, ex_frz, tryK_nx, tryK_ret, tryK_exc, hndK_nil, hndK_cons, hndK1_f, hndK1_ti, hndK1_tn, unbK_ret, unbK_nx, unb0_ret, unb0_nx, varK_ok, tru_bl, tru_int, tru_tup, tru_lst, tru_non, tru_exc, bin_addK, bin_subK, MP.neg_int, c_lt, c_le, c_gt, c_ge, c_eq, c_ne, c_eqb, c_neb, m_lt, m_le, m_gt, m_ge, seq_tup, seq_lst, len_tup, len_lst, toList_tup, toList_lst, toTup_tup, toTup_lst, int1_int, int1_bl, min2_int, max2_int, abs_int, asg_nm, tup0, tup1, tup2, tup3, tup4, List.set_cons_zero, List.set_cons_succ, List.getElem?_cons_zero, List.getElem?_cons_succ, Bool.false_eq_true, ↓reduceIte, fin_ret, decide_true, decide_false, Bool.not_true, Bool.not_false, kOne_eq, kLcE_t, kLcE_f, lcE_eq, lcQ_nm, lcQ_tp2, lcQ_tp3, lcK1_nm, lcK1_tp2, kLcE3_eq, kLcE2_t, kLcE2_f, lcE2_eq, lcK2_nm, lcK2_tp2, rstE_nil, rstE_cons, asg_tp2, asg_tp3, asg_tp4, forK_nil, par1, par2, par3, slc_tup, cut2', q6, take_self, Bool.false_and]
  | true =>
    have sq := are_sq ha
    have N2 := sq.n2
    rw [ha] at q6
    have l2 : decide (((([A.int a, A.int b] : List A).length : Nat) : Int) = 2) = true := rfl
    have l3 : decide (((([A.int a, A.int b] : List A).length : Nat) : Int) = 3) = false := rfl
    have ci := fun {h : Mem} => c_inT (h := h) (i := a) (xs := [0, 1])
    simp only [List.map_cons, List.map_nil] at ci
    by_cases c1 : a ∈ [(0 : Int), 1]
    · by_cases c2 : 0 ≤ b
      · by_cases c3 : b < t.length
        · have hb : b.toNat < t.length := by omega
          have ca : a = 0 ∨ a = 1 := by simpa using c1
          have e : decide ([a, b] ∈ FI t) = !hasA (ln t a.toNat b.toNat) t.length := by
            cases hh : hasA (ln t a.toNat b.toNat) t.length
            · exact decide_eq_true (FI2.mpr ⟨ca, c2, c3, hh⟩)
            · exact decide_eq_false fun z => by have := (FI2.mp z).2.2.2; rw [hh] at this; cases this
          rw [e]
          rcases ca with rfl | rfl
          · have ir := idx_row (t := t) hb (h := h)
            rw [show ((b.toNat : Nat) : Int) = b from by omega] at ir
            have el : ln t (0 : Int).toNat b.toNat = t[b.toNat] := by
              show (t[b.toNat]?).getD [] = _
              rw [List.getElem?_eq_getElem hb]
              rfl
            have q7 := run7 (k := k + 1) (h := h) (l := t[b.toNat]) (x := encR t[b.toNat]) (n := t.length) (fun {h} => seq_tup) (by have := sq.sq _ (List.getElem_mem hb); omega) (by omega) (by omega)
            have z0 : decide ((0 : Int) = 0) = true := rfl
            rw [el]
            simp only [ok_bind, exc_bind, ok_thn, exc_thn, ok_calm, nx_and, ret_and, brk_and, cnt_and, exc_and, ev_cst, ev_var, ev_glb, kBin_eq, ev_bin, ev_neg, kNot_eq, ev_not, ev_and, ev_or, kAnd_t, kAnd_f, kOr_t, kOr_f, kCmp_eq, ev_cmp, ev_chn, chnK_t, chnK_f, kChn1_eq, kChn_nil, kChn_cons, kIfE_t, kIfE_f, ev_ite, kIdx_eq, ev_idx, kSlc2_eq, kSlc_eq, ev_slc, ev_tup, ev_lst, ev_dnew, kLc_eq, ev_lc, kLc2_eq, ev_lc2, ev_call, ev_bi, kBm_eq, ev_bm, kIsi_eq, ev_isi, ev_lrg1, kLrg2_eq, ev_lrg2, evf_none, evf_some, oiK_int, evo_none, evo_some, evs_nil, kCons_eq, kEvs_eq, evs_cons, evIt_seq, evIt_rng1, kRng2_eq, evIt_rng2, kRng3b_eq, kRng3_eq, evIt_rng3, evIt_enu, kZip_eq, evIt_zip, ex_skip, kSeq_eq, ex_seq, kAsg_eq, ex_asg, kPar_eq, ex_par, kSI3_eq, kSI2_eq, kSI1_eq, ex_setIx, kNx_eq, ex_expr, kIfS_t, kIfS_f, ex_ite, kFor_eq, ex_for, ex_while, kRet_eq, ex_ret, ex_retN, kRaise_eq, ex_raise, ex_try, ex_brk, ex_cnt, ex_frz, tryK_nx, tryK_ret, tryK_exc, hndK_nil, hndK_cons, hndK1_f, hndK1_ti, hndK1_tn, unbK_ret, unbK_nx, unb0_ret, unb0_nx, varK_ok, tru_bl, tru_int, tru_tup, tru_lst, tru_non, tru_exc, bin_addK, bin_subK, MP.neg_int, c_lt, c_le, c_gt, c_ge, c_eq, c_ne, c_eqb, c_neb, m_lt, m_le, m_gt, m_ge, seq_tup, seq_lst, len_tup, len_lst, toList_tup, toList_lst, toTup_tup, toTup_lst, int1_int, int1_bl, min2_int, max2_int, abs_int, asg_nm, tup0, tup1, tup2, tup3, tup4, List.set_cons_zero, List.set_cons_succ, List.getElem?_cons_zero, List.getElem?_cons_succ, Bool.false_eq_true, ↓reduceIte, fin_ret, decide_true, decide_false, Bool.not_true, Bool.not_false, kOne_eq, kLcE_t, kLcE_f, lcE_eq, lcQ_nm, lcQ_tp2, lcQ_tp3, lcK1_nm, lcK1_tp2, kLcE3_eq, kLcE2_t, kLcE2_f, lcE2_eq, lcK2_nm, lcK2_tp2, rstE_nil, rstE_cons, asg_tp2, asg_tp3, asg_tp4, forK_nil, par1, par2, par3, slc_tup, cut2', q6, take_self, Bool.true_and, c_str, m1, i2, nlT, l2, i20, i21, ci, decide_eq_true c1, decide_eq_true c2, decide_eq_true c3, z0, ir, q7]
          · have l1 := lc_mapA (h := h) (step := lcQ ⟨G, runF G (k + 2)⟩ (.idx (.var 7) (.idx (.var 3) (.cst (.int 1)))) (.nm 7) none [6, 7] [some (.a (.tup [.str "cramped", T t, .tup [.int 1, .int b]])), some (.a (.str "cramped")), some (.a (T t)), some (.a (.tup [.int 1, .int b])), some (.a (.int t.length)), none, none, none]) encR (fun r => encC ((r[b.toNat]?).getD none)) (xs := t) (by
              intro r hr
              have hlen : b.toNat < r.length := by have := sq.sq r hr; omega
              have ix : idxK (.a (encR r)) (.a (.int b)) h = .ok (.a (encC ((r[b.toNat]?).getD none))) h := by
                have := idx_tup (h := h) (xs := r.map encC) (k := b.toNat) (by rw [List.length_map]; exact hlen)
                rw [List.getElem_map, show ((b.toNat : Nat) : Int) = b from by omega] at this
                rw [List.getElem?_eq_getElem hlen]
                exact idxK_of this
              simp only [ok_bind, exc_bind, ok_thn, exc_thn, ok_calm, nx_and, ret_and, brk_and, cnt_and, exc_and, ev_cst, ev_var, ev_glb, kBin_eq, ev_bin, ev_neg, kNot_eq, ev_not, ev_and, ev_or, kAnd_t, kAnd_f, kOr_t, kOr_f, kCmp_eq, ev_cmp, ev_chn, chnK_t, chnK_f, kChn1_eq, kChn_nil, kChn_cons, kIfE_t, kIfE_f, ev_ite, kIdx_eq, ev_idx, kSlc2_eq, kSlc_eq, ev_slc, ev_tup, ev_lst, ev_dnew, kLc_eq, ev_lc, kLc2_eq, ev_lc2, ev_call, ev_bi, kBm_eq, ev_bm, kIsi_eq, ev_isi, ev_lrg1, kLrg2_eq, ev_lrg2, evf_none, evf_some, oiK_int, evo_none, evo_some, evs_nil, kCons_eq, kEvs_eq, evs_cons, evIt_seq, evIt_rng1, kRng2_eq, evIt_rng2, kRng3b_eq, kRng3_eq, evIt_rng3, evIt_enu, kZip_eq, evIt_zip, ex_skip, kSeq_eq, ex_seq, kAsg_eq, ex_asg, kPar_eq, ex_par, kSI3_eq, kSI2_eq, kSI1_eq, ex_setIx, kNx_eq, ex_expr, kIfS_t, kIfS_f, ex_ite, kFor_eq, ex_for, ex_while, kRet_eq, ex_ret, ex_retN, kRaise_eq, ex_raise, ex_try, ex_brk, ex_cnt, ex_frz, tryK_nx, tryK_ret, tryK_exc, hndK_nil, hndK_cons, hndK1_f, hndK1_ti, hndK1_tn, unbK_ret, unbK_nx, unb0_ret, unb0_nx, varK_ok, tru_bl, tru_int, tru_tup, tru_lst, tru_non, tru_exc, bin_addK, bin_subK, MP.neg_int, c_lt, c_le, c_gt, c_ge, c_eq, c_ne, c_eqb, c_neb, m_lt, m_le, m_gt, m_ge, seq_tup, seq_lst, len_tup, len_lst, toList_tup, toList_lst, toTup_tup, toTup_lst, int1_int, int1_bl, min2_int, max2_int, abs_int, asg_nm, tup0, tup1, tup2, tup3, tup4, List.set_cons_zero, List.set_cons_succ, List.getElem?_cons_zero, List.getElem?_cons_succ, Bool.false_eq_true, ↓reduceIte, fin_ret, decide_true, decide_false, Bool.not_true, Bool.not_false, kOne_eq, kLcE_t, kLcE_f, lcE_eq, lcQ_nm, lcQ_tp2, lcQ_tp3, lcK1_nm, lcK1_tp2, kLcE3_eq, kLcE2_t, kLcE2_f, lcE2_eq, lcK2_nm, lcK2_tp2, rstE_nil, rstE_cons, asg_tp2, asg_tp3, asg_tp4, forK_nil, par1, par2, par3, i21, ix])
            have e1 : (t.map fun r => encC ((r[b.toNat]?).getD none)) = (col t b.toNat).map encC := by
              unfold col
              rw [List.map_map]
              rfl
            rw [e1] at l1
            have l1' := lc_done l1 (by unfold col; rw [List.length_map, List.length_map]; omega)
            have el : ln t (1 : Int).toNat b.toNat = col t b.toNat := rfl
            have q7 := run7 (k := k + 1) (h := h) (l := col t b.toNat) (x := .lst ((col t b.toNat).map encC)) (n := t.length) (fun {h} => seq_lst) (by unfold col; rw [List.length_map]; omega) (by omega) (by omega)
            have z0 : decide ((1 : Int) = 0) = false := rfl
            rw [el]
            simp only [ok_bind, exc_bind, ok_thn, exc_thn, ok_calm, nx_and, ret_and, brk_and, cnt_and, exc_and, ev_cst, ev_var, ev_glb, kBin_eq, ev_bin, ev_neg, kNot_eq, ev_not, ev_and, ev_or, kAnd_t, kAnd_f, kOr_t, kOr_f, kCmp_eq, ev_cmp, ev_chn, chnK_t, chnK_f, kChn1_eq, kChn_nil, kChn_cons, kIfE_t, kIfE_f, ev_ite, kIdx_eq, ev_idx, kSlc2_eq, kSlc_eq, ev_slc, ev_tup, ev_lst, ev_dnew, kLc_eq, ev_lc, kLc2_eq, ev_lc2, ev_call, ev_bi, kBm_eq, ev_bm, kIsi_eq, ev_isi, ev_lrg1, kLrg2_eq, ev_lrg2, evf_none, evf_some, oiK_int, evo_none, evo_some, evs_nil, kCons_eq, kEvs_eq, evs_cons, evIt_seq, evIt_rng1, kRng2_eq, evIt_rng2, kRng3b_eq, kRng3_eq, evIt_rng3, evIt_enu, kZip_eq, evIt_zip, ex_skip, kSeq_eq, ex_seq, kAsg_eq, ex_asg, kPar_eq, ex_par, kSI3_eq, kSI2_eq, kSI1_eq, ex_setIx, kNx_eq, ex_expr, kIfS_t, kIfS_f, ex_ite, kFor_eq, ex_for, ex_while, kRet_eq, ex_ret, ex_retN, kRaise_eq, ex_raise, ex_try, ex_brk, ex_cnt, ex_frz, tryK_nx, tryK_ret, tryK_exc, hndK_nil, hndK_cons, hndK1_f, hndK1_ti, hndK1_tn, unbK_ret, unbK_nx, unb0_ret, unb0_nx, varK_ok, tru_bl, tru_int, tru_tup, tru_lst, tru_non, tru_exc, bin_addK, bin_subK, MP.neg_int, c_lt, c_le, c_gt, c_ge, c_eq, c_ne, c_eqb, c_neb, m_lt, m_le, m_gt, m_ge, seq_tup, seq_lst, len_tup, len_lst, toList_tup, toList_lst, toTup_tup, toTup_lst, int1_int, int1_bl, min2_int, max2_int, abs_int, asg_nm, tup0, tup1, tup2, tup3, tup4, List.set_cons_zero, List.set_cons_succ, List.getElem?_cons_zero, List.getElem?_cons_succ, Bool.false_eq_true, ↓reduceIte, fin_ret, decide_true, decide_false, Bool.not_true, Bool.not_false, kOne_eq, kLcE_t, kLcE_f, lcE_eq, lcQ_nm, lcQ_tp2, lcQ_tp3, lcK1_nm, lcK1_tp2, kLcE3_eq, kLcE2_t, kLcE2_f, lcE2_eq, lcK2_nm, lcK2_tp2, rstE_nil, rstE_cons, asg_tp2, asg_tp3, asg_tp4, forK_nil, par1, par2, par3, slc_tup, cut2', q6, take_self, Bool.true_and, c_str, m1, i2, nlT, l2, i20, i21, ci, decide_eq_true c1, decide_eq_true c2, decide_eq_true c3, z0, l1', q7]
        · have e : decide ([a, b] ∈ FI t) = false := decide_eq_false fun z => c3 (FI2.mp z).2.2.1
          rw [e]
          simp only [ok_bind, exc_bind, ok_thn, exc_thn, ok_calm, nx_and, ret_and, brk_and, cnt_and, exc_and, ev_cst, ev_var, ev_glb, kBin_eq, ev_bin, ev_neg, kNot_eq, ev_not, ev_and, ev_or, kAnd_t, kAnd_f, kOr_t, kOr_f, kCmp_eq, ev_cmp, ev_chn, chnK_t, chnK_f, kChn1_eq, kChn_nil, kChn_cons, kIfE_t, kIfE_f, ev_ite, kIdx_eq, ev_idx, kSlc2_eq, kSlc_eq, ev_slc, ev_tup, ev_lst, ev_dnew, kLc_eq, ev_lc, kLc2_eq, ev_lc2, ev_call, ev_bi, kBm_eq, ev_bm, kIsi_eq, ev_isi, ev_lrg1, kLrg2_eq, ev_lrg2, evf_none, evf_some, oiK_int, evo_none, evo_some, evs_nil, kCons_eq, kEvs_eq, evs_cons, evIt_seq, evIt_rng1, kRng2_eq, evIt_rng2, kRng3b_eq, kRng3_eq, evIt_rng3, evIt_enu, kZip_eq, evIt_zip, ex_skip, kSeq_eq, ex_seq, kAsg_eq, ex_asg, kPar_eq, ex_par, kSI3_eq, kSI2_eq, kSI1_eq, ex_setIx, kNx_eq, ex_expr, kIfS_t, kIfS_f, ex_ite, kFor_eq, ex_for, ex_while, kRet_eq, ex_ret, ex_retN, kRaise_eq, ex_raise, ex_try, ex_brk, ex_cnt, ex_frz, tryK_nx, tryK_ret, tryK_exc, hndK_nil, hndK_cons, hndK1_f, hndK1_ti, hndK1_tn, unbK_ret, unbK_nx, unb0_ret, unb0_nx, varK_ok, tru_bl, tru_int, tru_tup, tru_lst, tru_non, tru_exc, bin_addK, bin_subK, MP.neg_int, c_lt, c_le, c_gt, c_ge, c_eq, c_ne, c_eqb, c_neb, m_lt, m_le, m_gt, m_ge, seq_tup, seq_lst, len_tup, len_lst, toList_tup, toList_lst, toTup_tup, toTup_lst, int1_int, int1_bl, min2_int, max2_int, abs_int, asg_nm, tup0, tup1, tup2, tup3, tup4, List.set_cons_zero, List.set_cons_succ, List.getElem?_cons_zero, List.getElem?_cons_succ, Bool.false_eq_true, ↓reduceIte, fin_ret, decide_true, decide_false, Bool.not_true, Bool.not_false, kOne_eq, kLcE_t, kLcE_f, lcE_eq, lcQ_nm, lcQ_tp2, lcQ_tp3, lcK1_nm, lcK1_tp2, kLcE3_eq, kLcE2_t, kLcE2_f, lcE2_eq, lcK2_nm, lcK2_tp2, rstE_nil, rstE_cons, asg_tp2, asg_tp3, asg_tp4, forK_nil, par1, par2, par3, slc_tup, cut2', q6, take_self, Bool.true_and, c_str, m1, i2, nlT, l2, l3, i20, i21, ci, decide_eq_true c1, decide_eq_true c2, decide_eq_false c3]
      · have e : decide ([a, b] ∈ FI t) = false := decide_eq_false fun z => c2 (FI2.mp z).2.1
        rw [e]
        simp only [ok_bind, exc_bind, ok_thn, exc_thn, ok_calm, nx_and, ret_and, brk_and, cnt_and, exc_and, ev_cst, ev_var, ev_glb, kBin_eq, ev_bin, ev_neg, kNot_eq, ev_not, ev_and, ev_or, kAnd_t, kAnd_f, kOr_t, kOr_f, kCmp_eq, ev_cmp, ev_chn, chnK_t, chnK_f, kChn1_eq, kChn_nil, kChn_cons, kIfE_t, kIfE_f, ev_ite, kIdx_eq, ev_idx, kSlc2_eq, kSlc_eq, ev_slc, ev_tup, ev_lst, ev_dnew, kLc_eq, ev_lc, kLc2_eq, ev_lc2, ev_call, ev_bi, kBm_eq, ev_bm, kIsi_eq, ev_isi, ev_lrg1, kLrg2_eq, ev_lrg2, evf_none, evf_some, oiK_int, evo_none, evo_some, evs_nil, kCons_eq, kEvs_eq, evs_cons, evIt_seq, evIt_rng1, kRng2_eq, evIt_rng2, kRng3b_eq, kRng3_eq, evIt_rng3, evIt_enu, kZip_eq, evIt_zip, ex_skip, kSeq_eq, ex_seq, kAsg_eq, ex_asg, kPar_eq, ex_par, kSI3_eq, kSI2_eq, kSI1_eq, ex_setIx, kNx_eq, ex_expr, kIfS_t, kIfS_f, ex_ite, kFor_eq, ex_for, ex_while, kRet_eq, ex_ret, ex_retN, kRaise_eq, ex_raise, ex_try, ex_brk, ex_cnt, ex_frz, tryK_nx, tryK_ret, tryK_exc, hndK_nil, hndK_cons, hndK1_f, hndK1_ti, hndK1_tn, unbK_ret, unbK_nx, unb0_ret, unb0_nx, varK_ok, tru_bl, tru_int, tru_tup, tru_lst, tru_non, tru_exc, bin_addK, bin_subK, MP.neg_int, c_lt, c_le, c_gt, c_ge, c_eq, c_ne, c_eqb, c_neb, m_lt, m_le, m_gt, m_ge, seq_tup, seq_lst, len_tup, len_lst, toList_tup, toList_lst, toTup_tup, toTup_lst, int1_int, int1_bl, min2_int, max2_int, abs_int, asg_nm, tup0, tup1, tup2, tup3, tup4, List.set_cons_zero, List.set_cons_succ, List.getElem?_cons_zero, List.getElem?_cons_succ, Bool.false_eq_true, ↓reduceIte, fin_ret, decide_true, decide_false, Bool.not_true, Bool.not_false, kOne_eq, kLcE_t, kLcE_f, lcE_eq, lcQ_nm, lcQ_tp2, lcQ_tp3, lcK1_nm, lcK1_tp2, kLcE3_eq, kLcE2_t, kLcE2_f, lcE2_eq, lcK2_nm, lcK2_tp2, rstE_nil, rstE_cons, asg_tp2, asg_tp3, asg_tp4, forK_nil, par1, par2, par3, slc_tup, cut2', q6, take_self, Bool.true_and, c_str, m1, i2, nlT, l2, l3, i20, i21, ci, decide_eq_true c1, decide_eq_false c2]
    · have e : decide ([a, b] ∈ FI t) = false := decide_eq_false fun z => c1 (by have := (FI2.mp z).1; simpa using this)
      rw [e]
      simp only [ok_bind, exc_bind, ok_thn, exc_thn, ok_calm, nx_and, ret_and, brk_and, cnt_and, exc_and, ev_cst, ev_var, ev_glb, kBin_eq, ev_bin, ev_neg, kNot_eq, ev_not, ev_and, ev_or, kAnd_t, kAnd_f, kOr_t, kOr_f, kCmp_eq, ev_cmp, ev_chn, chnK_t, chnK_f, kChn1_eq, kChn_nil, kChn_cons, kIfE_t, kIfE_f, ev_ite, kIdx_eq, ev_idx, kSlc2_eq, kSlc_eq, ev_slc, ev_tup, ev_lst, ev_dnew, kLc_eq, ev_lc, kLc2_eq, ev_lc2, ev_call, ev_bi, kBm_eq, ev_bm, kIsi_eq, ev_isi, ev_lrg1, kLrg2_eq, ev_lrg2, evf_none, evf_some, oiK_int, evo_none, evo_some, evs_nil, kCons_eq, kEvs_eq, evs_cons, evIt_seq, evIt_rng1, kRng2_eq, evIt_rng2, kRng3b_eq, kRng3_eq, evIt_rng3, evIt_enu, kZip_eq, evIt_zip, ex_skip, kSeq_eq, ex_seq, kAsg_eq, ex_asg, kPar_eq, ex_par, kSI3_eq, kSI2_eq, kSI1_eq, ex_setIx, kNx_eq, ex_expr, kIfS_t, kIfS_f, ex_ite, kFor_eq, ex_for, ex_while, kRet_eq, ex_ret, ex_retN, kRaise_eq, ex_raise, ex_try, ex_brk, ex_cnt, ex_frz, tryK_nx, tryK_ret, tryK_exc, hndK_nil, hndK_cons, hndK1_f, hndK1_ti, hndK1_tn, unbK_ret, unbK_nx, unb0_ret, unb0_nx, varK_ok, tru_bl, tru_int, tru_tup, tru_lst, tru_non, tru_exc, bin_addK, bin_subK, MP.neg_int, c_lt, c_le, c_gt, c_ge, c_eq, c_ne, c_eqb, c_neb, m_lt, m_le, m_gt, m_ge, seq_tup, seq_lst, len_tup, len_lst, toList_tup, toList_lst, toTup_tup, toTup_lst, int1_int, int1_bl, min2_int, max2_int, abs_int, asg_nm, tup0, tup1, tup2, tup3, tup4, List.set_cons_zero, List.set_cons_succ, List.getElem?_cons_zero, List.getElem?_cons_succ, Bool.false_eq_true, ↓reduceIte, fin_ret, decide_true, decide_false, Bool.not_true, Bool.not_false, kOne_eq, kLcE_t, kLcE_f, lcE_eq, lcQ_nm, lcQ_tp2, lcQ_tp3, lcK1_nm, lcK1_tp2, kLcE3_eq, kLcE2_t, kLcE2_f, lcE2_eq, lcK2_nm, lcK2_tp2, rstE_nil, rstE_cons, asg_tp2, asg_tp3, asg_tp4, forK_nil, par1, par2, par3, slc_tup, cut2', q6, take_self, Bool.true_and, c_str, m1, i2, nlT, l2, l3, i20, i21, ci, decide_eq_false c1]
theorem run9c3 {k : Nat} {h : Mem} {t : List (List Cell)} {a b c : Int} (sz : Sz t) : callF G (k + 3) 9 [.a (.tup [.str "cramped", T t, .tup [.int a, .int b, .int c]])] h = .ok (.a (.bl (are t && decide ([a, b, c] ∈ FI t)))) h := by
  have q6 := run6 (k := k + 1) (h := h) (t := t) (by have := sz.n; omega) (fun r hr => by have := sz.r r hr; omega)
  rw [callF_run (fi := f9) rfl rfl]
  simp only [f9, List.map_cons, List.map_nil, List.replicate, List.cons_append, List.nil_append]
  cases ha : are t with
  | false =>
    rw [ha] at q6
    simp only [ok_bind, exc_bind, ok_thn, exc_thn, ok_calm, nx_and, ret_and, brk_and, cnt_and, exc_and, ev_cst, ev_var, ev_glb, kBin_eq, ev_bin, ev_neg, kNot_eq, ev_not, ev_and, ev_or, kAnd_t, kAnd_f, kOr_t, kOr_f, kCmp_eq, ev_cmp, ev_chn, chnK_t, chnK_f, kChn1_eq, kChn_nil, kChn_cons, kIfE_t, kIfE_f, ev_ite, kIdx_eq, ev_idx, kSlc2_eq, kSlc_eq, ev_slc, ev_tup, ev_lst, ev_dnew, kLc_eq, ev_lc, kLc2_eq, ev_lc2, ev_call, ev_bi, kBm_eq, ev_bm, kIsi_eq, ev_isi, ev_lrg1, kLrg2_eq, ev_lrg2, evf_none, evf_some, oiK_int, evo_none, evo_some, evs_nil, kCons_eq, kEvs_eq, evs_cons, evIt_seq, evIt_rng1, kRng2_eq, evIt_rng2, kRng3b_eq, kRng3_eq, evIt_rng3, evIt_enu, kZip_eq, evIt_zip, ex_skip, kSeq_eq, ex_seq, kAsg_eq, ex_asg, kPar_eq, ex_par, kSI3_eq, kSI2_eq, kSI1_eq, ex_setIx, kNx_eq, ex_expr, kIfS_t, kIfS_f, ex_ite, kFor_eq, ex_for, ex_while, kRet_eq, ex_ret, ex_retN, kRaise_eq, ex_raise, ex_try, ex_brk, ex_cnt, ex_frz, tryK_nx, tryK_ret, tryK_exc, hndK_nil, hndK_cons, hndK1_f, hndK1_ti, hndK1_tn, unbK_ret, unbK_nx, unb0_ret, unb0_nx, varK_ok, tru_bl, tru_int, tru_tup, tru_lst, tru_non, tru_exc, bin_addK, bin_subK, MP.neg_int, c_lt, c_le, c_gt, c_ge, c_eq, c_ne, c_eqb, c_neb, m_lt, m_le, m_gt, m_ge, seq_tup, seq_lst, len_tup, len_lst, toList_tup, toList_lst, toTup_tup, toTup_lst, int1_int, int1_bl, min2_int, max2_int, abs_int, asg_nm, tup0, tup1, tup2, tup3, tup4, List.set_cons_zero, List.set_cons_succ, List.getElem?_cons_zero, List.getElem?_cons_succ, Bool.false_eq_true, ↓reduceIte, fin_ret, decide_true, decide_false, Bool.not_true, Bool.not_false, kOne_eq, kLcE_t, kLcE_f, lcE_eq, lcQ_nm, lcQ_tp2, lcQ_tp3, lcK1_nm, lcK1_tp2, kLcE3_eq, kLcE2_t, kLcE2_f, lcE2_eq, lcK2_nm, lcK2_tp2, rstE_nil, rstE_cons, asg_tp2, asg_tp3, asg_tp4, forK_nil, par1, par2, par3, slc_tup, cut2', q6, take_self, Bool.false_and]
  | true =>
    have sq := are_sq ha
    have N2 := sq.n2
    rw [ha] at q6
    have l2 : decide (((([A.int a, A.int b, A.int c] : List A).length : Nat) : Int) = 2) = false := rfl
    have l3 : decide (((([A.int a, A.int b, A.int c] : List A).length : Nat) : Int) = 3) = true := rfl
    have ct : cut [A.int a, A.int b, A.int c] (some 1) none = [A.int b, A.int c] := rfl
    have q8 := run8 (k := k + 1) (h := h) (t := t) (a := b) (b := c) sz.n sz.r
    by_cases c1 : a = 2
    · by_cases c2 : 0 ≤ b
      · by_cases c3 : b < c
        · by_cases c4 : c ≤ t.length
          · have e : decide ([a, b, c] ∈ FI t) = !decide ((tms t (b, c) : Int) = 1) := by
              by_cases c5 : (tms t (b, c) : Int) = 1
              · rw [decide_eq_true c5]
                exact decide_eq_false fun z => (FI3.mp z).2.2.2.2 c5
              · rw [decide_eq_false c5]
                exact decide_eq_true (FI3.mpr ⟨c1, c2, c3, c4, c5⟩)
            rw [e]
            simp only [ok_bind, exc_bind, ok_thn, exc_thn, ok_calm, nx_and, ret_and, brk_and, cnt_and, exc_and, ev_cst, ev_var, ev_glb, kBin_eq, ev_bin, ev_neg, kNot_eq, ev_not, ev_and, ev_or, kAnd_t, kAnd_f, kOr_t, kOr_f, kCmp_eq, ev_cmp, ev_chn, chnK_t, chnK_f, kChn1_eq, kChn_nil, kChn_cons, kIfE_t, kIfE_f, ev_ite, kIdx_eq, ev_idx, kSlc2_eq, kSlc_eq, ev_slc, ev_tup, ev_lst, ev_dnew, kLc_eq, ev_lc, kLc2_eq, ev_lc2, ev_call, ev_bi, kBm_eq, ev_bm, kIsi_eq, ev_isi, ev_lrg1, kLrg2_eq, ev_lrg2, evf_none, evf_some, oiK_int, evo_none, evo_some, evs_nil, kCons_eq, kEvs_eq, evs_cons, evIt_seq, evIt_rng1, kRng2_eq, evIt_rng2, kRng3b_eq, kRng3_eq, evIt_rng3, evIt_enu, kZip_eq, evIt_zip, ex_skip, kSeq_eq, ex_seq, kAsg_eq, ex_asg, kPar_eq, ex_par, kSI3_eq, kSI2_eq, kSI1_eq, ex_setIx, kNx_eq, ex_expr, kIfS_t, kIfS_f, ex_ite, kFor_eq, ex_for, ex_while, kRet_eq, ex_ret, ex_retN, kRaise_eq, ex_raise, ex_try, ex_brk, ex_cnt, ex_frz, tryK_nx, tryK_ret, tryK_exc, hndK_nil, hndK_cons, hndK1_f, hndK1_ti, hndK1_tn, unbK_ret, unbK_nx, unb0_ret, unb0_nx, varK_ok, tru_bl, tru_int, tru_tup, tru_lst, tru_non, tru_exc, bin_addK, bin_subK, MP.neg_int, c_lt, c_le, c_gt, c_ge, c_eq, c_ne, c_eqb, c_neb, m_lt, m_le, m_gt, m_ge, seq_tup, seq_lst, len_tup, len_lst, toList_tup, toList_lst, toTup_tup, toTup_lst, int1_int, int1_bl, min2_int, max2_int, abs_int, asg_nm, tup0, tup1, tup2, tup3, tup4, List.set_cons_zero, List.set_cons_succ, List.getElem?_cons_zero, List.getElem?_cons_succ, Bool.false_eq_true, ↓reduceIte, fin_ret, decide_true, decide_false, Bool.not_true, Bool.not_false, kOne_eq, kLcE_t, kLcE_f, lcE_eq, lcQ_nm, lcQ_tp2, lcQ_tp3, lcK1_nm, lcK1_tp2, kLcE3_eq, kLcE2_t, kLcE2_f, lcE2_eq, lcK2_nm, lcK2_tp2, rstE_nil, rstE_cons, asg_tp2, asg_tp3, asg_tp4, forK_nil, par1, par2, par3, slc_tup, cut2', q6, take_self, Bool.true_and, c_str, m1, i2, nlT, l2, l3, i0, i1, decide_eq_true c1, decide_eq_true c2, decide_eq_true c3, decide_eq_true c4, ct, q8]
          · have e : decide ([a, b, c] ∈ FI t) = false := decide_eq_false fun z => c4 (FI3.mp z).2.2.2.1
            rw [e]
            simp only [ok_bind, exc_bind, ok_thn, exc_thn, ok_calm, nx_and, ret_and, brk_and, cnt_and, exc_and, ev_cst, ev_var, ev_glb, kBin_eq, ev_bin, ev_neg, kNot_eq, ev_not, ev_and, ev_or, kAnd_t, kAnd_f, kOr_t, kOr_f, kCmp_eq, ev_cmp, ev_chn, chnK_t, chnK_f, kChn1_eq, kChn_nil, kChn_cons, kIfE_t, kIfE_f, ev_ite, kIdx_eq, ev_idx, kSlc2_eq, kSlc_eq, ev_slc, ev_tup, ev_lst, ev_dnew, kLc_eq, ev_lc, kLc2_eq, ev_lc2, ev_call, ev_bi, kBm_eq, ev_bm, kIsi_eq, ev_isi, ev_lrg1, kLrg2_eq, ev_lrg2, evf_none, evf_some, oiK_int, evo_none, evo_some, evs_nil, kCons_eq, kEvs_eq, evs_cons, evIt_seq, evIt_rng1, kRng2_eq, evIt_rng2, kRng3b_eq, kRng3_eq, evIt_rng3, evIt_enu, kZip_eq, evIt_zip, ex_skip, kSeq_eq, ex_seq, kAsg_eq, ex_asg, kPar_eq, ex_par, kSI3_eq, kSI2_eq, kSI1_eq, ex_setIx, kNx_eq, ex_expr, kIfS_t, kIfS_f, ex_ite, kFor_eq, ex_for, ex_while, kRet_eq, ex_ret, ex_retN, kRaise_eq, ex_raise, ex_try, ex_brk, ex_cnt, ex_frz, tryK_nx, tryK_ret, tryK_exc, hndK_nil, hndK_cons, hndK1_f, hndK1_ti, hndK1_tn, unbK_ret, unbK_nx, unb0_ret, unb0_nx, varK_ok, tru_bl, tru_int, tru_tup, tru_lst, tru_non, tru_exc, bin_addK, bin_subK, MP.neg_int, c_lt, c_le, c_gt, c_ge, c_eq, c_ne, c_eqb, c_neb, m_lt, m_le, m_gt, m_ge, seq_tup, seq_lst, len_tup, len_lst, toList_tup, toList_lst, toTup_tup, toTup_lst, int1_int, int1_bl, min2_int, max2_int, abs_int, asg_nm, tup0, tup1, tup2, tup3, tup4, List.set_cons_zero, List.set_cons_succ, List.getElem?_cons_zero, List.getElem?_cons_succ, Bool.false_eq_true, ↓reduceIte, fin_ret, decide_true, decide_false, Bool.not_true, Bool.not_false, kOne_eq, kLcE_t, kLcE_f, lcE_eq, lcQ_nm, lcQ_tp2, lcQ_tp3, lcK1_nm, lcK1_tp2, kLcE3_eq, kLcE2_t, kLcE2_f, lcE2_eq, lcK2_nm, lcK2_tp2, rstE_nil, rstE_cons, asg_tp2, asg_tp3, asg_tp4, forK_nil, par1, par2, par3, slc_tup, cut2', q6, take_self, Bool.true_and, c_str, m1, i2, nlT, l2, l3, i0, i1, decide_eq_true c1, decide_eq_true c2, decide_eq_true c3, decide_eq_false c4]
        · have e : decide ([a, b, c] ∈ FI t) = false := decide_eq_false fun z => c3 (FI3.mp z).2.2.1
          rw [e]
          simp only [ok_bind, exc_bind, ok_thn, exc_thn, ok_calm, nx_and, ret_and, brk_and, cnt_and, exc_and, ev_cst, ev_var, ev_glb, kBin_eq, ev_bin, ev_neg, kNot_eq, ev_not, ev_and, ev_or, kAnd_t, kAnd_f, kOr_t, kOr_f, kCmp_eq, ev_cmp, ev_chn, chnK_t, chnK_f, kChn1_eq, kChn_nil, kChn_cons, kIfE_t, kIfE_f, ev_ite, kIdx_eq, ev_idx, kSlc2_eq, kSlc_eq, ev_slc, ev_tup, ev_lst, ev_dnew, kLc_eq, ev_lc, kLc2_eq, ev_lc2, ev_call, ev_bi, kBm_eq, ev_bm, kIsi_eq, ev_isi, ev_lrg1, kLrg2_eq, ev_lrg2, evf_none, evf_some, oiK_int, evo_none, evo_some, evs_nil, kCons_eq, kEvs_eq, evs_cons, evIt_seq, evIt_rng1, kRng2_eq, evIt_rng2, kRng3b_eq, kRng3_eq, evIt_rng3, evIt_enu, kZip_eq, evIt_zip, ex_skip, kSeq_eq, ex_seq, kAsg_eq, ex_asg, kPar_eq, ex_par, kSI3_eq, kSI2_eq, kSI1_eq, ex_setIx, kNx_eq, ex_expr, kIfS_t, kIfS_f, ex_ite, kFor_eq, ex_for, ex_while, kRet_eq, ex_ret, ex_retN, kRaise_eq, ex_raise, ex_try, ex_brk, ex_cnt, ex_frz, tryK_nx, tryK_ret, tryK_exc, hndK_nil, hndK_cons, hndK1_f, hndK1_ti, hndK1_tn, unbK_ret, unbK_nx, unb0_ret, unb0_nx, varK_ok, tru_bl, tru_int, tru_tup, tru_lst, tru_non, tru_exc, bin_addK, bin_subK, MP.neg_int, c_lt, c_le, c_gt, c_ge, c_eq, c_ne, c_eqb, c_neb, m_lt, m_le, m_gt, m_ge, seq_tup, seq_lst, len_tup, len_lst, toList_tup, toList_lst, toTup_tup, toTup_lst, int1_int, int1_bl, min2_int, max2_int, abs_int, asg_nm, tup0, tup1, tup2, tup3, tup4, List.set_cons_zero, List.set_cons_succ, List.getElem?_cons_zero, List.getElem?_cons_succ, Bool.false_eq_true, ↓reduceIte, fin_ret, decide_true, decide_false, Bool.not_true, Bool.not_false, kOne_eq, kLcE_t, kLcE_f, lcE_eq, lcQ_nm, lcQ_tp2, lcQ_tp3, lcK1_nm, lcK1_tp2, kLcE3_eq, kLcE2_t, kLcE2_f, lcE2_eq, lcK2_nm, lcK2_tp2, rstE_nil, rstE_cons, asg_tp2, asg_tp3, asg_tp4, forK_nil, par1, par2, par3, slc_tup, cut2', q6, take_self, Bool.true_and, c_str, m1, i2, nlT, l2, l3, i0, i1, decide_eq_true c1, decide_eq_true c2, decide_eq_false c3]
      · have e : decide ([a, b, c] ∈ FI t) = false := decide_eq_false fun z => c2 (FI3.mp z).2.1
        rw [e]
        simp only [ok_bind, exc_bind, ok_thn, exc_thn, ok_calm, nx_and, ret_and, brk_and, cnt_and, exc_and, ev_cst, ev_var, ev_glb, kBin_eq, ev_bin, ev_neg, kNot_eq, ev_not, ev_and, ev_or, kAnd_t, kAnd_f, kOr_t, kOr_f, kCmp_eq, ev_cmp, ev_chn, chnK_t, chnK_f, kChn1_eq, kChn_nil, kChn_cons, kIfE_t, kIfE_f, ev_ite, kIdx_eq, ev_idx, kSlc2_eq, kSlc_eq, ev_slc, ev_tup, ev_lst, ev_dnew, kLc_eq, ev_lc, kLc2_eq, ev_lc2, ev_call, ev_bi, kBm_eq, ev_bm, kIsi_eq, ev_isi, ev_lrg1, kLrg2_eq, ev_lrg2, evf_none, evf_some, oiK_int, evo_none, evo_some, evs_nil, kCons_eq, kEvs_eq, evs_cons, evIt_seq, evIt_rng1, kRng2_eq, evIt_rng2, kRng3b_eq, kRng3_eq, evIt_rng3, evIt_enu, kZip_eq, evIt_zip, ex_skip, kSeq_eq, ex_seq, kAsg_eq, ex_asg, kPar_eq, ex_par, kSI3_eq, kSI2_eq, kSI1_eq, ex_setIx, kNx_eq, ex_expr, kIfS_t, kIfS_f, ex_ite, kFor_eq, ex_for, ex_while, kRet_eq, ex_ret, ex_retN, kRaise_eq, ex_raise, ex_try, ex_brk, ex_cnt, ex_frz, tryK_nx, tryK_ret, tryK_exc, hndK_nil, hndK_cons, hndK1_f, hndK1_ti, hndK1_tn, unbK_ret, unbK_nx, unb0_ret, unb0_nx, varK_ok, tru_bl, tru_int, tru_tup, tru_lst, tru_non, tru_exc, bin_addK, bin_subK, MP.neg_int, c_lt, c_le, c_gt, c_ge, c_eq, c_ne, c_eqb, c_neb, m_lt, m_le, m_gt, m_ge, seq_tup, seq_lst, len_tup, len_lst, toList_tup, toList_lst, toTup_tup, toTup_lst, int1_int, int1_bl, min2_int, max2_int, abs_int, asg_nm, tup0, tup1, tup2, tup3, tup4, List.set_cons_zero, List.set_cons_succ, List.getElem?_cons_zero, List.getElem?_cons_succ, Bool.false_eq_true, ↓reduceIte, fin_ret, decide_true, decide_false, Bool.not_true, Bool.not_false, kOne_eq, kLcE_t, kLcE_f, lcE_eq, lcQ_nm, lcQ_tp2, lcQ_tp3, lcK1_nm, lcK1_tp2, kLcE3_eq, kLcE2_t, kLcE2_f, lcE2_eq, lcK2_nm, lcK2_tp2, rstE_nil, rstE_cons, asg_tp2, asg_tp3, asg_tp4, forK_nil, par1, par2, par3, slc_tup, cut2', q6, take_self, Bool.true_and, c_str, m1, i2, nlT, l2, l3, i0, i1, decide_eq_true c1, decide_eq_false c2]
    · have e : decide ([a, b, c] ∈ FI t) = false := decide_eq_false fun z => c1 (FI3.mp z).1
      rw [e]
      simp only [ok_bind, exc_bind, ok_thn, exc_thn, ok_calm, nx_and, ret_and, brk_and, cnt_and, exc_and, ev_cst, ev_var, ev_glb, kBin_eq, ev_bin, ev_neg, kNot_eq, ev_not, ev_and, ev_or, kAnd_t, kAnd_f, kOr_t, kOr_f, kCmp_eq, ev_cmp, ev_chn, chnK_t, chnK_f, kChn1_eq, kChn_nil, kChn_cons, kIfE_t, kIfE_f, ev_ite, kIdx_eq, ev_idx, kSlc2_eq, kSlc_eq, ev_slc, ev_tup, ev_lst, ev_dnew, kLc_eq, ev_lc, kLc2_eq, ev_lc2, ev_call, ev_bi, kBm_eq, ev_bm, kIsi_eq, ev_isi, ev_lrg1, kLrg2_eq, ev_lrg2, evf_none, evf_some, oiK_int, evo_none, evo_some, evs_nil, kCons_eq, kEvs_eq, evs_cons, evIt_seq, evIt_rng1, kRng2_eq, evIt_rng2, kRng3b_eq, kRng3_eq, evIt_rng3, evIt_enu, kZip_eq, evIt_zip, ex_skip, kSeq_eq, ex_seq, kAsg_eq, ex_asg, kPar_eq, ex_par, kSI3_eq, kSI2_eq, kSI1_eq, ex_setIx, kNx_eq, ex_expr, kIfS_t, kIfS_f, ex_ite, kFor_eq, ex_for, ex_while, kRet_eq, ex_ret, ex_retN, kRaise_eq, ex_raise, ex_try, ex_brk, ex_cnt, ex_frz, tryK_nx, tryK_ret, tryK_exc, hndK_nil, hndK_cons, hndK1_f, hndK1_ti, hndK1_tn, unbK_ret, unbK_nx, unb0_ret, unb0_nx, varK_ok, tru_bl, tru_int, tru_tup, tru_lst, tru_non, tru_exc, bin_addK, bin_subK, MP.neg_int, c_lt, c_le, c_gt, c_ge, c_eq, c_ne, c_eqb, c_neb, m_lt, m_le, m_gt, m_ge, seq_tup, seq_lst, len_tup, len_lst, toList_tup, toList_lst, toTup_tup, toTup_lst, int1_int, int1_bl, min2_int, max2_int, abs_int, asg_nm, tup0, tup1, tup2, tup3, tup4, List.set_cons_zero, List.set_cons_succ, List.getElem?_cons_zero, List.getElem?_cons_succ, Bool.false_eq_true, ↓reduceIte, fin_ret, decide_true, decide_false, Bool.not_true, Bool.not_false, kOne_eq, kLcE_t, kLcE_f, lcE_eq, lcQ_nm, lcQ_tp2, lcQ_tp3, lcK1_nm, lcK1_tp2, kLcE3_eq, kLcE2_t, kLcE2_f, lcE2_eq, lcK2_nm, lcK2_tp2, rstE_nil, rstE_cons, asg_tp2, asg_tp3, asg_tp4, forK_nil, par1, par2, par3, slc_tup, cut2', q6, take_self, Bool.true_and, c_str, m1, i2, nlT, l2, l3, i0, i1, decide_eq_false c1]
end K27
end
section
set_option Elab.async false
set_option linter.all false
set_option maxRecDepth 100000
set_option maxHeartbeats 4000000
namespace K27
open MP
open PySem hiding exec
inductive CS : A → Prop
  | r (t : List (List Cell)) (sz : Sz t) : CS (.tup [.str "room", T t])
  | c2 (t : List (List Cell)) (a b : Int) (sz : Sz t) : CS (.tup [.str "cramped", T t, .tup [.int a, .int b]])
  | c3 (t : List (List Cell)) (a b c : Int) (sz : Sz t) : CS (.tup [.str "cramped", T t, .tup [.int a, .int b, .int c]])
theorem GpC (c : Cell) : Gp 1 (encC c) := by
  cases c with
  | none => exact .tup 0 _ (Nat.zero_le _) (fun _ h => absurd h List.not_mem_nil)
  | some p =>
    refine .tup 0 _ (by show 2 ≤ 1000000; omega) ?_
    intro y hy
    simp only [List.mem_cons, List.not_mem_nil, or_false] at hy
    rcases hy with rfl | rfl <;> exact .int _ _
theorem GwC (c : Cell) : Gw 1 (encC c) := by
  cases c with
  | none => exact .tup 0 _ (Nat.zero_le _) (fun _ h => absurd h List.not_mem_nil)
  | some p =>
    refine .tup 0 _ (by show 2 ≤ 1000000; omega) ?_
    intro y hy
    simp only [List.mem_cons, List.not_mem_nil, or_false] at hy
    rcases hy with rfl | rfl <;> exact .int _ _
theorem GpT {t : List (List Cell)} (sz : Sz t) : Gp 3 (T t) := by
  refine .tup 2 _ (by rw [List.length_map]; have := sz.n; omega) ?_
  intro x hx
  obtain ⟨r, hr, rfl⟩ := List.mem_map.mp hx
  refine .tup 1 _ (by rw [List.length_map]; have := sz.r r hr; omega) ?_
  intro y hy
  obtain ⟨c, _, rfl⟩ := List.mem_map.mp hy
  exact GpC c
theorem GwT {t : List (List Cell)} (sz : Sz t) : Gw 3 (T t) := by
  refine .tup 2 _ (by rw [List.length_map]; have := sz.n; omega) ?_
  intro x hx
  obtain ⟨r, hr, rfl⟩ := List.mem_map.mp hx
  refine .tup 1 _ (by rw [List.length_map]; have := sz.r r hr; omega) ?_
  intro y hy
  obtain ⟨c, _, rfl⟩ := List.mem_map.mp hy
  exact GwC c
theorem tch_tup {xs : List A} {y : A} (h : Tch (.tup xs) y) : (xs = [] ∧ y = .tup []) ∨ ∃ (i : Nat) (hi : i < xs.length) (z : A), Tch xs[i] z ∧ y = .tup (xs.set i z) := by
  cases h with
  | nil => exact Or.inl ⟨rfl, rfl⟩
  | tup xs i hi z t => exact Or.inr ⟨i, hi, z, t, rfl⟩
theorem tch_int {i : Int} {y : A} (h : Tch (.int i) y) : ∃ j, y = .int j := by
  cases h
  exact ⟨_, rfl⟩
theorem tchC {c : Cell} {y : A} (h : Tch (encC c) y) : ∃ c', y = encC c' := by
  cases c with
  | none =>
    rcases tch_tup h with ⟨_, e⟩ | ⟨i, hi, _, _, _⟩
    · exact ⟨none, e⟩
    · exact absurd hi (Nat.not_lt_zero _)
  | some p =>
    rcases tch_tup h with ⟨e, _⟩ | ⟨i, hi, z, t, rfl⟩
    · cases e
    · match i, hi, t with
      | 0, _, t => obtain ⟨j, rfl⟩ := tch_int t; exact ⟨some (j, p.2), rfl⟩
      | 1, _, t => obtain ⟨j, rfl⟩ := tch_int t; exact ⟨some (p.1, j), rfl⟩
theorem tchR {r : List Cell} {y : A} (h : Tch (encR r) y) : ∃ r', r'.length = r.length ∧ y = encR r' := by
  rcases tch_tup h with ⟨e, e2⟩ | ⟨i, hi, z, t, rfl⟩
  · exact ⟨r, rfl, by rw [e2]; show A.tup _ = A.tup _; rw [e]⟩
  · rw [List.getElem_map] at t
    obtain ⟨c', rfl⟩ := tchC t
    exact ⟨r.set i c', List.length_set, by show A.tup _ = A.tup _; rw [List.map_set]⟩
theorem tchT {t : List (List Cell)} {y : A} (sz : Sz t) (h : Tch (T t) y) : ∃ t', Sz t' ∧ y = T t' := by
  rcases tch_tup h with ⟨e, e2⟩ | ⟨i, hi, z, tc, rfl⟩
  · exact ⟨t, sz, by rw [e2]; show A.tup _ = A.tup _; rw [e]⟩
  · rw [List.getElem_map] at tc
    rw [List.length_map] at hi
    obtain ⟨r', hr', rfl⟩ := tchR tc
    refine ⟨t.set i r', ⟨by rw [List.length_set]; exact sz.n, ?_⟩, by show A.tup _ = A.tup _; rw [List.map_set]⟩
    intro r hr
    rcases List.mem_or_eq_of_mem_set hr with hr | rfl
    · exact sz.r r hr
    · rw [hr']
      exact sz.r _ (List.getElem_mem hi)
theorem CS.touch {w : A} {r : List A} {y : A} (c : CS (.tup (w :: r))) (h : Tch (.tup r) y) : ∃ r', y = .tup r' ∧ r'.length < 100 ∧ CS (.tup (w :: r')) := by
  cases c with
  | r t sz =>
    rcases tch_tup h with ⟨e, _⟩ | ⟨i, hi, z, tc, rfl⟩
    · cases e
    · match i, hi, tc with
      | 0, _, tc => obtain ⟨t', sz', rfl⟩ := tchT sz tc; exact ⟨_, rfl, by show 1 < 100; omega, .r _ sz'⟩
  | c2 t a b sz =>
    rcases tch_tup h with ⟨e, _⟩ | ⟨i, hi, z, tc, rfl⟩
    · cases e
    · match i, hi, tc with
      | 0, _, tc => obtain ⟨t', sz', rfl⟩ := tchT sz tc; exact ⟨_, rfl, by show 2 < 100; omega, .c2 _ _ _ sz'⟩
      | 1, _, tc =>
        rcases tch_tup tc with ⟨e, _⟩ | ⟨i, hi, z, t2, rfl⟩
        · cases e
        · match i, hi, t2 with
          | 0, _, t2 => obtain ⟨j, rfl⟩ := tch_int t2; exact ⟨_, rfl, by show 2 < 100; omega, .c2 _ _ _ sz⟩
          | 1, _, t2 => obtain ⟨j, rfl⟩ := tch_int t2; exact ⟨_, rfl, by show 2 < 100; omega, .c2 _ _ _ sz⟩
  | c3 t a b c sz =>
    rcases tch_tup h with ⟨e, _⟩ | ⟨i, hi, z, tc, rfl⟩
    · cases e
    · match i, hi, tc with
      | 0, _, tc => obtain ⟨t', sz', rfl⟩ := tchT sz tc; exact ⟨_, rfl, by show 2 < 100; omega, .c3 _ _ _ _ sz'⟩
      | 1, _, tc =>
        rcases tch_tup tc with ⟨e, _⟩ | ⟨i, hi, z, t2, rfl⟩
        · cases e
        · match i, hi, t2 with
          | 0, _, t2 => obtain ⟨j, rfl⟩ := tch_int t2; exact ⟨_, rfl, by show 2 < 100; omega, .c3 _ _ _ _ sz⟩
          | 1, _, t2 => obtain ⟨j, rfl⟩ := tch_int t2; exact ⟨_, rfl, by show 2 < 100; omega, .c3 _ _ _ _ sz⟩
          | 2, _, t2 => obtain ⟨j, rfl⟩ := tch_int t2; exact ⟨_, rfl, by show 2 < 100; omega, .c3 _ _ _ _ sz⟩
theorem Gp_ints {d : Nat} {is : List Int} (hl : is.length ≤ 100) : Gp (d + 1) (encT is) := by
  refine .tup d _ (by rw [List.length_map]; omega) ?_
  intro x hx
  obtain ⟨i, _, rfl⟩ := List.mem_map.mp hx
  exact .int _ _
theorem Gw_ints {d : Nat} {is : List Int} (hl : is.length ≤ 100) : Gw (d + 1) (encT is) := by
  refine .tup d _ (by rw [List.length_map]; omega) ?_
  intro x hx
  obtain ⟨i, _, rfl⟩ := List.mem_map.mp hx
  exact .int _ _
theorem CS.cons {x : A} (c : CS x) : ∃ w r, x = .tup (w :: r) ∧ r.length < 100 ∧ Gp 4 (.tup r) := by
  cases c with
  | r t sz => exact ⟨_, _, rfl, by show 1 < 100; omega, .tup 3 _ (by show 1 ≤ 1000000; omega) (by
      intro x hx
      simp only [List.mem_cons, List.not_mem_nil, or_false] at hx
      rcases hx with rfl
      exact GpT sz)⟩
  | c2 t a b sz => exact ⟨_, _, rfl, by show 2 < 100; omega, .tup 3 _ (by show 2 ≤ 1000000; omega) (by
      intro x hx
      simp only [List.mem_cons, List.not_mem_nil, or_false] at hx
      rcases hx with rfl | rfl
      · exact GpT sz
      · exact Gp_ints (is := [a, b]) (by show 2 ≤ 100; omega))⟩
  | c3 t a b c sz => exact ⟨_, _, rfl, by show 2 < 100; omega, .tup 3 _ (by show 2 ≤ 1000000; omega) (by
      intro x hx
      simp only [List.mem_cons, List.not_mem_nil, or_false] at hx
      rcases hx with rfl | rfl
      · exact GpT sz
      · exact Gp_ints (is := [a, b, c]) (by show 3 ≤ 100; omega))⟩
theorem CS.judge {x : A} {h : Mem} (c : CS x) : ∃ v, callF G 29 9 [.a x] h = .ok (.a (.bl v)) h ∧ callF G 29 17 [.a x] h = .ok (.a (.bl v)) h := by
  cases c with
  | r t sz => exact ⟨_, run9r (k := 26) sz, run17r (k := 26) sz⟩
  | c2 t a b sz => exact ⟨_, run9c2 (k := 26) sz, run17c (k := 26) (is := [a, b]) sz⟩
  | c3 t a b c sz => exact ⟨_, run9c3 (k := 26) sz, run17c (k := 26) (is := [a, b, c]) sz⟩
/-- what roomy says is a claim, plain, and right -/
theorem room_claim {t : List (List Cell)} {h : Mem} (ha : are t = true) (sz : Sz t) : CS (roomA t) ∧ Gw 4 (roomA t) ∧ callF G 29 17 [.a (roomA t)] h = .ok (.a (.bl true)) h := by
  cases hf : FI t with
  | nil =>
    have e : roomA t = .tup [.str "room", T t] := by
      unfold roomA
      rw [FF_FI, hf]
      rfl
    have q := run17r (k := 26) (h := h) sz
    rw [ha, FF_FI, hf] at q
    rw [e]
    refine ⟨.r _ sz, .tup 3 _ (by show 2 ≤ 1000000; omega) ?_, q⟩
    intro x hx
    simp only [List.mem_cons, List.not_mem_nil, or_false] at hx
    rcases hx with rfl | rfl
    · exact .str _ _
    · exact GwT sz
  | cons f r =>
    have e : roomA t = .tup [.str "cramped", T t, encT f] := by
      unfold roomA
      rw [FF_FI, hf]
      rfl
    have hm : f ∈ FI t := by rw [hf]; exact List.mem_cons_self
    have q := run17c (k := 26) (h := h) (is := f) sz
    rw [ha, decide_eq_true hm] at q
    have sh : (∃ a b, f = [a, b]) ∨ ∃ a b c, f = [a, b, c] := by
      unfold FI at hm
      rw [List.mem_append, List.mem_append, List.mem_map, List.mem_map, List.mem_map] at hm
      rcases hm with (⟨i, _, h2⟩ | ⟨i, _, h2⟩) | ⟨p, _, h2⟩
      · exact Or.inl ⟨_, _, h2.symm⟩
      · exact Or.inl ⟨_, _, h2.symm⟩
      · exact Or.inr ⟨_, _, _, h2.symm⟩
    have fl : f.length ≤ 100 := by rcases sh with ⟨a, b, rfl⟩ | ⟨a, b, c, rfl⟩ <;> simp only [List.length_cons, List.length_nil] <;> omega
    rw [e]
    refine ⟨?_, .tup 3 _ (by show 3 ≤ 1000000; omega) ?_, q⟩
    · rcases sh with ⟨a, b, rfl⟩ | ⟨a, b, c, rfl⟩
      · exact .c2 _ _ _ sz
      · exact .c3 _ _ _ _ sz
    · intro x hx
      simp only [List.mem_cons, List.not_mem_nil, or_false] at hx
      rcases hx with rfl | rfl | rfl
      · exact .str _ _
      · exact GwT sz
      · exact Gw_ints fl
end K27
end
section
set_option Elab.async false
set_option linter.all false
set_option maxRecDepth 100000
set_option maxHeartbeats 4000000
namespace K27
open MP
open PySem hiding exec
def C0 : MP.Ctx := ⟨G, runF G 29⟩
def bOwn : S := match S.at f19.body 10 with | .for_ _ _ b _ => b | x => x
def bMade : S := match S.at bOwn 6 with | .for_ _ _ b _ => b | x => x
def bTurn : S := match S.at bMade 0 with | .for_ _ _ b _ => b | x => x
def bMore : S := match S.at bTurn 1 with | .for_ _ _ b _ => b | x => x
theorem draw1 {mo : MO} {l : Mem} {z : Int} (hm : IsPool mo) (hz : 0 < z) (hz2 : z < 1073741824) : ∃ (u : Nat) (mo' : MO), (u : Int) < z ∧ IsPool mo' ∧ callF G 29 11 [.ref 0, .a (.int z)] (mo :: l) = .ok (.a (.int u)) (mo' :: l) := by
  obtain ⟨u, m', a, b, c⟩ := draw_at (G := G) (j := 11) (n := 0) (k := 28) (h := mo :: l) (m := mo) (z := z) rfl rfl hm hz hz2
  exact ⟨u, m', a, b, c⟩
theorem same_bl {h : Mem} {b : Bool} : callF G 29 12 [.a (.bl b), .a (.bl b)] h = .ok (.a (.bl true)) h := same_atom (G := G) (i := 12) rfl 28 (.bl b) (.bl 0 b)
section
variable {e0 e2 e3 e4 e5 e6 e7 e8 e9 e10 e11 e12 e13 e14 e15 e16 e17 e18 e19 e20 e21 e22 : Option D} {J : Mem}
theorem turnMore {x : A} {mo : MO} (hx : CS x) (hm : IsPool mo) : ∃ (y : A) (mo' : MO), CS y ∧ IsPool mo' ∧
    MP.exec C0 0 bMore [e0, some (.ref 0), e2, e3, e4, e5, e6, e7, e8, e9, e10, e11, e12, e13, e14, e15, e16, some (.a x), e18, e19, e20, e21, e22] (mo :: J) = .nx [e0, some (.ref 0), e2, e3, e4, e5, e6, e7, e8, e9, e10, e11, e12, e13, e14, e15, e16, some (.a y), e18, e19, e20, e21, e22] (mo' :: J) := by
  obtain ⟨w, r, rfl, rl, g⟩ := hx.cons
  obtain ⟨y, mo', hm', tc, q⟩ := touch_ok (G := G) (i := 14) (j := 11) (n := 0) rfl rfl 4 23 (.tup r) (mo :: J) mo g rfl hm
  obtain ⟨r', rfl, rl', c⟩ := hx.touch tc
  have q : callF G 29 14 [.ref 0, .a (.tup r)] (mo :: J) = .ok (.a (.tup r')) (mo' :: J) := q
  have c1 : cut (w :: r) none (some 1) = [w] := by
    rw [show (some 1 : Option Int) = some ((1 : Nat) : Int) from rfl, cut_til]
    rfl
  have c2 : cut (w :: r) (some 1) none = r := by
    rw [show (some 1 : Option Int) = some ((1 : Nat) : Int) from rfl, cut_from]
    rfl
  refine ⟨_, mo', c, hm', ?_⟩
  simp only [bMore, bTurn, bMade, bOwn, f19, S.at, C0]
  simp only [ok_bind, exc_bind, ok_thn, exc_thn, ok_calm, nx_and, ret_and, brk_and, cnt_and, exc_and, ev_cst, ev_var, ev_glb, kBin_eq, ev_bin, ev_neg, kNot_eq, ev_not, ev_and, ev_or, kAnd_t, kAnd_f, kOr_t, kOr_f, kCmp_eq, ev_cmp, ev_chn, chnK_t, chnK_f, kChn1_eq, kChn_nil, kChn_cons, kIfE_t, kIfE_f, ev_ite, kIdx_eq, ev_idx, kSlc2_eq, kSlc_eq, ev_slc, ev_tup, ev_lst, ev_dnew, kLc_eq, ev_lc, kLc2_eq, ev_lc2, ev_call, ev_bi, kBm_eq, ev_bm, kIsi_eq, ev_isi, ev_lrg1, kLrg2_eq, ev_lrg2, evf_none, evf_some, oiK_int, evo_none, evo_some, evs_nil, kCons_eq, kEvs_eq, evs_cons, evIt_seq, evIt_rng1, kRng2_eq, evIt_rng2, kRng3b_eq, kRng3_eq, evIt_rng3, evIt_enu, kZip_eq, evIt_zip, ex_skip, kSeq_eq, ex_seq, kAsg_eq, ex_asg, kPar_eq, ex_par, kSI3_eq, kSI2_eq, kSI1_eq, ex_setIx, kNx_eq, ex_expr, kIfS_t, kIfS_f, ex_ite, kFor_eq, ex_for, ex_while, kRet_eq, ex_ret, ex_retN, kRaise_eq, ex_raise, ex_try, ex_brk, ex_cnt, ex_frz, tryK_nx, tryK_ret, tryK_exc, hndK_nil, hndK_cons, hndK1_f, hndK1_ti, hndK1_tn, unbK_ret, unbK_nx, unb0_ret, unb0_nx, varK_ok, tru_bl, tru_int, tru_tup, tru_lst, tru_non, tru_exc, bin_addK, bin_subK, MP.neg_int, c_lt, c_le, c_gt, c_ge, c_eq, c_ne, c_eqb, c_neb, m_lt, m_le, m_gt, m_ge, seq_tup, seq_lst, len_tup, len_lst, toList_tup, toList_lst, toTup_tup, toTup_lst, int1_int, int1_bl, min2_int, max2_int, abs_int, asg_nm, tup0, tup1, tup2, tup3, tup4, List.set_cons_zero, List.set_cons_succ, List.getElem?_cons_zero, List.getElem?_cons_succ, Bool.false_eq_true, ↓reduceIte, fin_ret, decide_true, decide_false, Bool.not_true, Bool.not_false, kOne_eq, kLcE_t, kLcE_f, lcE_eq, lcQ_nm, lcQ_tp2, lcQ_tp3, lcK1_nm, lcK1_tp2, kLcE3_eq, kLcE2_t, kLcE2_f, lcE2_eq, lcK2_nm, lcK2_tp2, rstE_nil, rstE_cons, asg_tp2, asg_tp3, asg_tp4, forK_nil, par1, par2, par3, slc_tup, c1, c2, q, bin_add_tup (xs := [w]) (ys := r') (by show 1 + r'.length ≤ 2 ^ 24; omega), List.cons_append, List.nil_append]
theorem turnTurn {j : Nat} {x : A} {mo : MO} (hj : j < 3) (hx : CS x) (hm : IsPool mo) : ∃ (v17 v18 : Option D) (mo' : MO), IsPool mo' ∧
    MP.exec C0 0 bTurn [e0, some (.ref 0), e2, e3, e4, e5, e6, some (.a x), e8, e9, some (.a (.int (0 + (j : Int)))), e11, e12, e13, e14, e15, e16, e17, e18, e19, e20, e21, e22] (mo :: J) = .nx [e0, some (.ref 0), e2, e3, e4, e5, e6, some (.a x), e8, e9, some (.a (.int (0 + (j : Int)))), e11, e12, e13, e14, e15, e16, v17, v18, e19, e20, e21, e22] (mo' :: J) := by
  have key := forK_rng (C := C0) (base := 0) (t := .nm 18) (rst := [18]) (b := bMore) (lo := 0) (n := j) (env := [e0, some (.ref 0), e2, e3, e4, e5, e6, some (.a x), e8, e9, some (.a (.int (0 + (j : Int)))), e11, e12, e13, e14, e15, e16, some (.a x), e18, e19, e20, e21, e22]) (h := mo :: J)
    (fun _ env h => ∃ y mo' v, CS y ∧ IsPool mo' ∧ env = [e0, some (.ref 0), e2, e3, e4, e5, e6, some (.a x), e8, e9, some (.a (.int (0 + (j : Int)))), e11, e12, e13, e14, e15, e16, some (.a y), v, e19, e20, e21, e22] ∧ h = mo' :: J) ⟨x, mo, e18, hx, hm, rfl, rfl⟩ ?_
  · obtain ⟨e', h', q, y, mo', v, hy, hm', rfl, rfl⟩ := key
    obtain ⟨b, j1, j2⟩ := hy.judge (h := mo' :: J)
    have hr : rngOk (0 + (j : Int)) = true := by rw [Int.zero_add]; exact rngOk_nat (by omega)
    have ej : (0 + (j : Int)).toNat = j := by omega
    simp only [bMore, bTurn, bMade, bOwn, f19, S.at, C0] at q
    refine ⟨some (.a y), v, mo', hm', ?_⟩
    simp only [bTurn, bMade, bOwn, f19, S.at, C0]
    simp only [ok_bind, exc_bind, ok_thn, exc_thn, ok_calm, nx_and, ret_and, brk_and, cnt_and, exc_and, ev_cst, ev_var, ev_glb, kBin_eq, ev_bin, ev_neg, kNot_eq, ev_not, ev_and, ev_or, kAnd_t, kAnd_f, kOr_t, kOr_f, kCmp_eq, ev_cmp, ev_chn, chnK_t, chnK_f, kChn1_eq, kChn_nil, kChn_cons, kIfE_t, kIfE_f, ev_ite, kIdx_eq, ev_idx, kSlc2_eq, kSlc_eq, ev_slc, ev_tup, ev_lst, ev_dnew, kLc_eq, ev_lc, kLc2_eq, ev_lc2, ev_call, ev_bi, kBm_eq, ev_bm, kIsi_eq, ev_isi, ev_lrg1, kLrg2_eq, ev_lrg2, evf_none, evf_some, oiK_int, evo_none, evo_some, evs_nil, kCons_eq, kEvs_eq, evs_cons, evIt_seq, evIt_rng1, kRng2_eq, evIt_rng2, kRng3b_eq, kRng3_eq, evIt_rng3, evIt_enu, kZip_eq, evIt_zip, ex_skip, kSeq_eq, ex_seq, kAsg_eq, ex_asg, kPar_eq, ex_par, kSI3_eq, kSI2_eq, kSI1_eq, ex_setIx, kNx_eq, ex_expr, kIfS_t, kIfS_f, ex_ite, kFor_eq, ex_for, ex_while, kRet_eq, ex_ret, ex_retN, kRaise_eq, ex_raise, ex_try, ex_brk, ex_cnt, ex_frz, tryK_nx, tryK_ret, tryK_exc, hndK_nil, hndK_cons, hndK1_f, hndK1_ti, hndK1_tn, unbK_ret, unbK_nx, unb0_ret, unb0_nx, varK_ok, tru_bl, tru_int, tru_tup, tru_lst, tru_non, tru_exc, bin_addK, bin_subK, MP.neg_int, c_lt, c_le, c_gt, c_ge, c_eq, c_ne, c_eqb, c_neb, m_lt, m_le, m_gt, m_ge, seq_tup, seq_lst, len_tup, len_lst, toList_tup, toList_lst, toTup_tup, toTup_lst, int1_int, int1_bl, min2_int, max2_int, abs_int, asg_nm, tup0, tup1, tup2, tup3, tup4, List.set_cons_zero, List.set_cons_succ, List.getElem?_cons_zero, List.getElem?_cons_succ, Bool.false_eq_true, ↓reduceIte, fin_ret, decide_true, decide_false, Bool.not_true, Bool.not_false, kOne_eq, kLcE_t, kLcE_f, lcE_eq, lcQ_nm, lcQ_tp2, lcQ_tp3, lcK1_nm, lcK1_tp2, kLcE3_eq, kLcE2_t, kLcE2_f, lcE2_eq, lcK2_nm, lcK2_tp2, rstE_nil, rstE_cons, asg_tp2, asg_tp3, asg_tp4, forK_nil, par1, par2, par3, rng1_int hr, ej, q, j1, j2, same_bl]
  · rintro i hi env h ⟨y, mo', v, hy, hm', rfl, rfl⟩
    obtain ⟨z, m2, hz, hm2, q⟩ := turnMore (e0 := e0) (e2 := e2) (e3 := e3) (e4 := e4) (e5 := e5) (e6 := e6) (e7 := some (.a x)) (e8 := e8) (e9 := e9) (e10 := some (.a (.int (0 + (j : Int))))) (e11 := e11) (e12 := e12) (e13 := e13) (e14 := e14) (e15 := e15) (e16 := e16) (e18 := some (.a (.int (0 + (i : Int))))) (e19 := e19) (e20 := e20) (e21 := e21) (e22 := e22) (J := J) hy hm'
    exact ⟨_, _, _, rfl, q, z, m2, none, hz, hm2, rfl, rfl⟩
theorem turnMade {x : A} {mo : MO} (hx : CS x) (hm : IsPool mo) : ∃ (v10 v17 v18 : Option D) (mo' : MO), IsPool mo' ∧
    MP.exec C0 0 bMade [e0, some (.ref 0), e2, e3, e4, e5, e6, some (.a x), e8, e9, e10, e11, e12, e13, e14, e15, e16, e17, e18, e19, e20, e21, e22] (mo :: J) = .nx [e0, some (.ref 0), e2, e3, e4, e5, e6, some (.a x), e8, e9, v10, e11, e12, e13, e14, e15, e16, v17, v18, e19, e20, e21, e22] (mo' :: J) := by
  have key := forK_rng (C := C0) (base := 0) (t := .nm 10) (rst := [17, 18, 10]) (b := bTurn) (lo := 0) (n := 3) (env := [e0, some (.ref 0), e2, e3, e4, e5, e6, some (.a x), e8, e9, e10, e11, e12, e13, e14, e15, e16, e17, e18, e19, e20, e21, e22]) (h := mo :: J)
    (fun _ env h => ∃ mo' v10 v17 v18, IsPool mo' ∧ env = [e0, some (.ref 0), e2, e3, e4, e5, e6, some (.a x), e8, e9, v10, e11, e12, e13, e14, e15, e16, v17, v18, e19, e20, e21, e22] ∧ h = mo' :: J) ⟨mo, e10, e17, e18, hm, rfl, rfl⟩ ?_
  · obtain ⟨e', h', q, mo', v10, v17, v18, hm', rfl, rfl⟩ := key
    refine ⟨v10, v17, v18, mo', hm', ?_⟩
    have hr : rngOk 3 = true := by decide
    have e3 : (3 : Int).toNat = 3 := rfl
    simp only [bTurn, bMade, bOwn, f19, S.at, C0] at q
    simp only [bMade, bOwn, f19, S.at, C0]
    simp only [ok_bind, exc_bind, ok_thn, exc_thn, ok_calm, nx_and, ret_and, brk_and, cnt_and, exc_and, ev_cst, ev_var, ev_glb, kBin_eq, ev_bin, ev_neg, kNot_eq, ev_not, ev_and, ev_or, kAnd_t, kAnd_f, kOr_t, kOr_f, kCmp_eq, ev_cmp, ev_chn, chnK_t, chnK_f, kChn1_eq, kChn_nil, kChn_cons, kIfE_t, kIfE_f, ev_ite, kIdx_eq, ev_idx, kSlc2_eq, kSlc_eq, ev_slc, ev_tup, ev_lst, ev_dnew, kLc_eq, ev_lc, kLc2_eq, ev_lc2, ev_call, ev_bi, kBm_eq, ev_bm, kIsi_eq, ev_isi, ev_lrg1, kLrg2_eq, ev_lrg2, evf_none, evf_some, oiK_int, evo_none, evo_some, evs_nil, kCons_eq, kEvs_eq, evs_cons, evIt_seq, evIt_rng1, kRng2_eq, evIt_rng2, kRng3b_eq, kRng3_eq, evIt_rng3, evIt_enu, kZip_eq, evIt_zip, ex_skip, kSeq_eq, ex_seq, kAsg_eq, ex_asg, kPar_eq, ex_par, kSI3_eq, kSI2_eq, kSI1_eq, ex_setIx, kNx_eq, ex_expr, kIfS_t, kIfS_f, ex_ite, kFor_eq, ex_for, ex_while, kRet_eq, ex_ret, ex_retN, kRaise_eq, ex_raise, ex_try, ex_brk, ex_cnt, ex_frz, tryK_nx, tryK_ret, tryK_exc, hndK_nil, hndK_cons, hndK1_f, hndK1_ti, hndK1_tn, unbK_ret, unbK_nx, unb0_ret, unb0_nx, varK_ok, tru_bl, tru_int, tru_tup, tru_lst, tru_non, tru_exc, bin_addK, bin_subK, MP.neg_int, c_lt, c_le, c_gt, c_ge, c_eq, c_ne, c_eqb, c_neb, m_lt, m_le, m_gt, m_ge, seq_tup, seq_lst, len_tup, len_lst, toList_tup, toList_lst, toTup_tup, toTup_lst, int1_int, int1_bl, min2_int, max2_int, abs_int, asg_nm, tup0, tup1, tup2, tup3, tup4, List.set_cons_zero, List.set_cons_succ, List.getElem?_cons_zero, List.getElem?_cons_succ, Bool.false_eq_true, ↓reduceIte, fin_ret, decide_true, decide_false, Bool.not_true, Bool.not_false, kOne_eq, kLcE_t, kLcE_f, lcE_eq, lcQ_nm, lcQ_tp2, lcQ_tp3, lcK1_nm, lcK1_tp2, kLcE3_eq, kLcE2_t, kLcE2_f, lcE2_eq, lcK2_nm, lcK2_tp2, rstE_nil, rstE_cons, asg_tp2, asg_tp3, asg_tp4, forK_nil, par1, par2, par3, rng1_int hr, e3, q]
  · rintro j hj env h ⟨mo', v10, v17, v18, hm', rfl, rfl⟩
    obtain ⟨w17, w18, m2, hm2, q⟩ := turnTurn (e0 := e0) (e2 := e2) (e3 := e3) (e4 := e4) (e5 := e5) (e6 := e6) (e8 := e8) (e9 := e9) (e11 := e11) (e12 := e12) (e13 := e13) (e14 := e14) (e15 := e15) (e16 := e16) (e17 := v17) (e18 := v18) (e19 := e19) (e20 := e20) (e21 := e21) (e22 := e22) (J := J) hj hx hm'
    exact ⟨_, _, _, rfl, q, m2, none, none, none, hm2, rfl, rfl⟩
theorem loopMade {mo : MO} {made : List A} (hm : IsPool mo) (hd : ∀ x ∈ made, CS x) : ∃ (v7 v10 v17 v18 : Option D) (mo' : MO), IsPool mo' ∧
      forK C0 0 (.nm 7) [17, 18, 7, 10] bMade (made.map D.a) [e0, some (.ref 0), e2, e3, e4, e5, e6, e7, e8, e9, e10, e11, e12, e13, e14, e15, e16, e17, e18, e19, e20, e21, e22] (mo :: J)
        = .nx [e0, some (.ref 0), e2, e3, e4, e5, e6, v7, e8, e9, v10, e11, e12, e13, e14, e15, e16, v17, v18, e19, e20, e21, e22] (mo' :: J) := by
  have key := forK_ix (C := C0) (base := 0) (t := .nm 7) (rst := [17, 18, 7, 10]) (b := bMade) (xs := made.map D.a) (env := [e0, some (.ref 0), e2, e3, e4, e5, e6, e7, e8, e9, e10, e11, e12, e13, e14, e15, e16, e17, e18, e19, e20, e21, e22]) (h := mo :: J)
    (fun _ env h => ∃ mo' v7 v10 v17 v18, IsPool mo' ∧ env = [e0, some (.ref 0), e2, e3, e4, e5, e6, v7, e8, e9, v10, e11, e12, e13, e14, e15, e16, v17, v18, e19, e20, e21, e22] ∧ h = mo' :: J) ⟨mo, e7, e10, e17, e18, hm, rfl, rfl⟩ ?_
  · obtain ⟨e', h', q, mo', v7, v10, v17, v18, a, rfl, rfl⟩ := key
    exact ⟨v7, v10, v17, v18, mo', a, q⟩
  · rintro j hj env h ⟨mo', v7, v10, v17, v18, a, rfl, rfl⟩
    have hj' : j < made.length := by rw [List.length_map] at hj; exact hj
    rw [List.getElem_map]
    obtain ⟨w10, w17, w18, mo2, a2, q⟩ := turnMade (e0 := e0) (e2 := e2) (e3 := e3) (e4 := e4) (e5 := e5) (e6 := e6) (e8 := e8) (e9 := e9) (e10 := v10) (e11 := e11) (e12 := e12) (e13 := e13) (e14 := e14) (e15 := e15) (e16 := e16) (e17 := v17) (e18 := v18) (e19 := e19) (e20 := e20) (e21 := e21) (e22 := e22) (J := J) (hd made[j] (List.getElem_mem hj')) a
    exact ⟨_, _, _, rfl, q, mo2, none, none, none, none, a2, rfl, rfl⟩
end
end K27
end
section
set_option Elab.async false
set_option linter.all false
set_option maxRecDepth 100000
set_option maxHeartbeats 4000000
namespace K27
open MP
open PySem hiding exec
theorem are_sz {t : List (List Cell)} (ha : are t = true) : Sz t := by
  have sq := are_sq ha
  have := sq.n2
  exact ⟨by omega, fun r hr => by have := sq.sq r hr; omega⟩
theorem are_pos {t : List (List Cell)} (ha : are t = true) : 0 < t.length := by
  unfold are at ha
  rw [Bool.and_eq_true, decide_eq_true_iff] at ha
  omega
theorem mk3 {a b c : A} {h : Mem} : mkL false [.a a, .a b, .a c] h = .ok (.a (.lst [a, b, c])) h := rfl
theorem mk0 {h : Mem} : mkL false [] h = .ok (.a (.lst [])) h := rfl
theorem adl {xs ys : List A} {h : Mem} (e : xs.length + ys.length < 100000) : binK false .Add (.a (.lst xs)) (.a (.lst ys)) h = .ok (.a (.lst (xs ++ ys))) h := bin_add_lst (by show _ ≤ 2 ^ 24; omega)
theorem neN {a b : Str} {h : Mem} (e : a = b) : cmpK .NotEq (.a (.str a)) (.a (.str b)) h = .ok (.a (.bl false)) h := by
  rw [c_strn, decide_eq_true e]
  rfl
theorem neT {t : List (List Cell)} {h : Mem} : cmpK .NotEq (.a (T t)) (.a (T t)) h = .ok (.a (.bl false)) h := by
  have l : A.lowB (T t) = true := lowT t 47
  rw [c_neA l l, eqv_refl l]
  rfl
section
variable {e0 e2 e3 e4 e5 e7 e8 e9 e10 e11 e12 e13 e14 e15 e16 e17 e18 e19 e20 e21 e22 : Option D} {J : Mem}
theorem turnOwn {t : List (List Cell)} {mo : MO} (ha : are t = true) (hm : IsPool mo) : ∃ (v7 v10 v13 v14 v15 v16 v17 v18 : Option D) (mo' : MO), IsPool mo' ∧
    MP.exec C0 0 bOwn [e0, some (.ref 0), e2, e3, e4, e5, some (.a (T t)), e7, e8, e9, e10, e11, e12, e13, e14, e15, e16, e17, e18, e19, e20, e21, e22] (mo :: J) = .nx [e0, some (.ref 0), e2, e3, e4, e5, some (.a (T t)), v7, e8, e9, v10, e11, e12, v13, v14, v15, v16, v17, v18, e19, e20, e21, e22] (mo' :: J) := by
  have sz := are_sz ha
  have np := are_pos ha
  have nn := sz.n
  obtain ⟨rc, gw, q17⟩ := room_claim (h := mo :: J) ha sz
  have q13 := plain_ok (G := G) (h := mo :: J) (i := 13) rfl 4 24 (roomA t) gw
  have q5 := run5 (k := 27) (h := mo :: J) (t := t) (x := .lst (t.map encL)) (e := encL) seq_lst (fun r {h} => seq_lst) ha
  have q16 := run16 (k := 28) (h := mo :: J) (are_sq ha)
  obtain ⟨u1, mo1, _, hm1, d1⟩ := draw1 (l := J) hm (z := 2) (by omega) (by omega)
  obtain ⟨u2, mo2, _, hm2, d2⟩ := draw1 (l := J) hm1 (z := t.length) (by omega) (by omega)
  obtain ⟨u3, mo3, _, hm3, d3⟩ := draw1 (l := J) hm2 (z := t.length) (by omega) (by omega)
  have l1 := lc_mapA (h := mo :: J) (step := lcQ C0 (.bi false .toList [(.var 22)]) (.nm 22) none [20, 22] [e0, some (.ref 0), e2, e3, e4, e5, some (.a (T t)), e7, e8, e9, e10, e11, e12, e13, e14, e15, e16, e17, e18, e19, e20, e21, e22]) encR encL (xs := t) (by
    intro p _
    unfold C0
    simp only [ok_bind, exc_bind, ok_thn, exc_thn, ok_calm, nx_and, ret_and, brk_and, cnt_and, exc_and, ev_cst, ev_var, ev_glb, kBin_eq, ev_bin, ev_neg, kNot_eq, ev_not, ev_and, ev_or, kAnd_t, kAnd_f, kOr_t, kOr_f, kCmp_eq, ev_cmp, ev_chn, chnK_t, chnK_f, kChn1_eq, kChn_nil, kChn_cons, kIfE_t, kIfE_f, ev_ite, kIdx_eq, ev_idx, kSlc2_eq, kSlc_eq, ev_slc, ev_tup, ev_lst, ev_dnew, kLc_eq, ev_lc, kLc2_eq, ev_lc2, ev_call, ev_bi, kBm_eq, ev_bm, kIsi_eq, ev_isi, ev_lrg1, kLrg2_eq, ev_lrg2, evf_none, evf_some, oiK_int, evo_none, evo_some, evs_nil, kCons_eq, kEvs_eq, evs_cons, evIt_seq, evIt_rng1, kRng2_eq, evIt_rng2, kRng3b_eq, kRng3_eq, evIt_rng3, evIt_enu, kZip_eq, evIt_zip, ex_skip, kSeq_eq, ex_seq, kAsg_eq, ex_asg, kPar_eq, ex_par, kSI3_eq, kSI2_eq, kSI1_eq, ex_setIx, kNx_eq, ex_expr, kIfS_t, kIfS_f, ex_ite, kFor_eq, ex_for, ex_while, kRet_eq, ex_ret, ex_retN, kRaise_eq, ex_raise, ex_try, ex_brk, ex_cnt, ex_frz, tryK_nx, tryK_ret, tryK_exc, hndK_nil, hndK_cons, hndK1_f, hndK1_ti, hndK1_tn, unbK_ret, unbK_nx, unb0_ret, unb0_nx, varK_ok, tru_bl, tru_int, tru_tup, tru_lst, tru_non, tru_exc, bin_addK, bin_subK, MP.neg_int, c_lt, c_le, c_gt, c_ge, c_eq, c_ne, c_eqb, c_neb, m_lt, m_le, m_gt, m_ge, seq_tup, seq_lst, len_tup, len_lst, toList_tup, toList_lst, toTup_tup, toTup_lst, int1_int, int1_bl, min2_int, max2_int, abs_int, asg_nm, tup0, tup1, tup2, tup3, tup4, List.set_cons_zero, List.set_cons_succ, List.getElem?_cons_zero, List.getElem?_cons_succ, Bool.false_eq_true, ↓reduceIte, fin_ret, decide_true, decide_false, Bool.not_true, Bool.not_false, kOne_eq, kLcE_t, kLcE_f, lcE_eq, lcQ_nm, lcQ_tp2, lcQ_tp3, lcK1_nm, lcK1_tp2, kLcE3_eq, kLcE2_t, kLcE2_f, lcE2_eq, lcK2_nm, lcK2_tp2, rstE_nil, rstE_cons, asg_tp2, asg_tp3, asg_tp4, forK_nil, par1, par2, par3])
  have l1' := lc_done l1 (by rw [List.length_map]; omega)
  unfold C0 at l1'
  have lm : ∀ (c : A), CS c → ∀ x ∈ [c, .tup [.str "room", T t], .tup [.str "cramped", T t, .tup [.int u1, .int u2]]] ++ [.tup [.str "cramped", T t, .tup [.int 2, .int u3, .int t.length]], .tup [.str "cramped", T t, .tup [.int 3, .int 0]], .tup [.str "cramped", T t, .tup [.int 2, .int 0]]], CS x := by
    intro c hc x hx
    simp only [List.cons_append, List.nil_append, List.mem_cons, List.not_mem_nil, or_false] at hx
    rcases hx with rfl | rfl | rfl | rfl | rfl | rfl
    · exact hc
    · exact .r _ sz
    · exact .c2 _ _ _ sz
    · exact .c3 _ _ _ _ sz
    · exact .c2 _ _ _ sz
    · exact .c2 _ _ _ sz
  cases hf : FF t with
  | nil =>
    have e : roomA t = .tup [.str "room", T t] := by
      unfold roomA
      rw [hf]
    rw [e] at rc q17 q13 q5
    rw [hf] at q16
    have ef := eq_nilL (h := mo :: J) (xs := []) rfl
    obtain ⟨v7, v10, v17, v18, mo4, hm4, lp⟩ := loopMade (e0 := e0) (e2 := e2) (e3 := e3) (e4 := e4) (e5 := e5) (e6 := some (.a (T t))) (e7 := e7) (e8 := e8) (e9 := e9) (e10 := e10) (e11 := e11) (e12 := e12) (e13 := some (.a (.tup [.str "room", T t]))) (e14 := some (.a (.lst []))) (e15 := some (.a (.int t.length))) (e16 := some (.a (.lst ([.tup [.str "room", T t], .tup [.str "room", T t], .tup [.str "cramped", T t, .tup [.int u1, .int u2]]] ++ [.tup [.str "cramped", T t, .tup [.int 2, .int u3, .int t.length]], .tup [.str "cramped", T t, .tup [.int 3, .int 0]], .tup [.str "cramped", T t, .tup [.int 2, .int 0]]])))) (e17 := e17) (e18 := e18) (e19 := e19) (e20 := e20) (e21 := e21) (e22 := e22) (J := J) hm3 (lm _ rc)
    refine ⟨v7, v10, some (.a (.tup [.str "room", T t])), some (.a (.lst [])), some (.a (.int t.length)), some (.a (.lst ([.tup [.str "room", T t], .tup [.str "room", T t], .tup [.str "cramped", T t, .tup [.int u1, .int u2]]] ++ [.tup [.str "cramped", T t, .tup [.int 2, .int u3, .int t.length]], .tup [.str "cramped", T t, .tup [.int 3, .int 0]], .tup [.str "cramped", T t, .tup [.int 2, .int 0]]]))), v17, v18, mo4, hm4, ?_⟩
    simp only [bMade, bOwn, f19, S.at, C0] at lp
    simp only [bOwn, f19, S.at, C0]
    simp only [ok_bind, exc_bind, ok_thn, exc_thn, ok_calm, nx_and, ret_and, brk_and, cnt_and, exc_and, ev_cst, ev_var, ev_glb, kBin_eq, ev_bin, ev_neg, kNot_eq, ev_not, ev_and, ev_or, kAnd_t, kAnd_f, kOr_t, kOr_f, kCmp_eq, ev_cmp, ev_chn, chnK_t, chnK_f, kChn1_eq, kChn_nil, kChn_cons, kIfE_t, kIfE_f, ev_ite, kIdx_eq, ev_idx, kSlc2_eq, kSlc_eq, ev_slc, ev_tup, ev_lst, ev_dnew, kLc_eq, ev_lc, kLc2_eq, ev_lc2, ev_call, ev_bi, kBm_eq, ev_bm, kIsi_eq, ev_isi, ev_lrg1, kLrg2_eq, ev_lrg2, evf_none, evf_some, oiK_int, evo_none, evo_some, evs_nil, kCons_eq, kEvs_eq, evs_cons, evIt_seq, evIt_rng1, kRng2_eq, evIt_rng2, kRng3b_eq, kRng3_eq, evIt_rng3, evIt_enu, kZip_eq, evIt_zip, ex_skip, kSeq_eq, ex_seq, kAsg_eq, ex_asg, kPar_eq, ex_par, kSI3_eq, kSI2_eq, kSI1_eq, ex_setIx, kNx_eq, ex_expr, kIfS_t, kIfS_f, ex_ite, kFor_eq, ex_for, ex_while, kRet_eq, ex_ret, ex_retN, kRaise_eq, ex_raise, ex_try, ex_brk, ex_cnt, ex_frz, tryK_nx, tryK_ret, tryK_exc, hndK_nil, hndK_cons, hndK1_f, hndK1_ti, hndK1_tn, unbK_ret, unbK_nx, unb0_ret, unb0_nx, varK_ok, tru_bl, tru_int, tru_tup, tru_lst, tru_non, tru_exc, bin_addK, bin_subK, MP.neg_int, c_lt, c_le, c_gt, c_ge, c_eq, c_ne, c_eqb, c_neb, m_lt, m_le, m_gt, m_ge, seq_tup, seq_lst, len_tup, len_lst, toList_tup, toList_lst, toTup_tup, toTup_lst, int1_int, int1_bl, min2_int, max2_int, abs_int, asg_nm, tup0, tup1, tup2, tup3, tup4, List.set_cons_zero, List.set_cons_succ, List.getElem?_cons_zero, List.getElem?_cons_succ, Bool.false_eq_true, ↓reduceIte, fin_ret, decide_true, decide_false, Bool.not_true, Bool.not_false, kOne_eq, kLcE_t, kLcE_f, lcE_eq, lcQ_nm, lcQ_tp2, lcQ_tp3, lcK1_nm, lcK1_tp2, kLcE3_eq, kLcE2_t, kLcE2_f, lcE2_eq, lcK2_nm, lcK2_tp2, rstE_nil, rstE_cons, asg_tp2, asg_tp3, asg_tp4, forK_nil, par1, par2, par3, l1', q5, q16, i0, i1, mk0, ef, List.isEmpty_nil, int1_bl, if_true, neN, neT, q13, q17, nlT, d1, d2, d3, mk3, adl (xs := [.tup [.str "room", T t], .tup [.str "room", T t], .tup [.str "cramped", T t, .tup [.int u1, .int u2]]]) (ys := [.tup [.str "cramped", T t, .tup [.int 2, .int u3, .int t.length]], .tup [.str "cramped", T t, .tup [.int 3, .int 0]], .tup [.str "cramped", T t, .tup [.int 2, .int 0]]]) (by show 3 + 3 < 100000; omega), lp]
  | cons f r =>
    have e : roomA t = .tup [.str "cramped", T t, f] := by
      unfold roomA
      rw [hf]
    have lf := lowsFF t
    rw [e] at rc q17 q13 q5
    rw [hf] at q16 lf
    have ef := eq_nilL (h := mo :: J) (xs := f :: r) lf
    obtain ⟨v7, v10, v17, v18, mo4, hm4, lp⟩ := loopMade (e0 := e0) (e2 := e2) (e3 := e3) (e4 := e4) (e5 := e5) (e6 := some (.a (T t))) (e7 := e7) (e8 := e8) (e9 := e9) (e10 := e10) (e11 := e11) (e12 := e12) (e13 := some (.a (.tup [.str "cramped", T t, f]))) (e14 := some (.a (.lst (f :: r)))) (e15 := some (.a (.int t.length))) (e16 := some (.a (.lst ([.tup [.str "cramped", T t, f], .tup [.str "room", T t], .tup [.str "cramped", T t, .tup [.int u1, .int u2]]] ++ [.tup [.str "cramped", T t, .tup [.int 2, .int u3, .int t.length]], .tup [.str "cramped", T t, .tup [.int 3, .int 0]], .tup [.str "cramped", T t, .tup [.int 2, .int 0]]])))) (e17 := e17) (e18 := e18) (e19 := e19) (e20 := e20) (e21 := e21) (e22 := e22) (J := J) hm3 (lm _ rc)
    refine ⟨v7, v10, some (.a (.tup [.str "cramped", T t, f])), some (.a (.lst (f :: r))), some (.a (.int t.length)), some (.a (.lst ([.tup [.str "cramped", T t, f], .tup [.str "room", T t], .tup [.str "cramped", T t, .tup [.int u1, .int u2]]] ++ [.tup [.str "cramped", T t, .tup [.int 2, .int u3, .int t.length]], .tup [.str "cramped", T t, .tup [.int 3, .int 0]], .tup [.str "cramped", T t, .tup [.int 2, .int 0]]]))), v17, v18, mo4, hm4, ?_⟩
    have bf : (if (false : Bool) = true then (1 : Int) else 0) = 0 := rfl
    simp only [bMade, bOwn, f19, S.at, C0] at lp
    simp only [bOwn, f19, S.at, C0]
    simp only [ok_bind, exc_bind, ok_thn, exc_thn, ok_calm, nx_and, ret_and, brk_and, cnt_and, exc_and, ev_cst, ev_var, ev_glb, kBin_eq, ev_bin, ev_neg, kNot_eq, ev_not, ev_and, ev_or, kAnd_t, kAnd_f, kOr_t, kOr_f, kCmp_eq, ev_cmp, ev_chn, chnK_t, chnK_f, kChn1_eq, kChn_nil, kChn_cons, kIfE_t, kIfE_f, ev_ite, kIdx_eq, ev_idx, kSlc2_eq, kSlc_eq, ev_slc, ev_tup, ev_lst, ev_dnew, kLc_eq, ev_lc, kLc2_eq, ev_lc2, ev_call, ev_bi, kBm_eq, ev_bm, kIsi_eq, ev_isi, ev_lrg1, kLrg2_eq, ev_lrg2, evf_none, evf_some, oiK_int, evo_none, evo_some, evs_nil, kCons_eq, kEvs_eq, evs_cons, evIt_seq, evIt_rng1, kRng2_eq, evIt_rng2, kRng3b_eq, kRng3_eq, evIt_rng3, evIt_enu, kZip_eq, evIt_zip, ex_skip, kSeq_eq, ex_seq, kAsg_eq, ex_asg, kPar_eq, ex_par, kSI3_eq, kSI2_eq, kSI1_eq, ex_setIx, kNx_eq, ex_expr, kIfS_t, kIfS_f, ex_ite, kFor_eq, ex_for, ex_while, kRet_eq, ex_ret, ex_retN, kRaise_eq, ex_raise, ex_try, ex_brk, ex_cnt, ex_frz, tryK_nx, tryK_ret, tryK_exc, hndK_nil, hndK_cons, hndK1_f, hndK1_ti, hndK1_tn, unbK_ret, unbK_nx, unb0_ret, unb0_nx, varK_ok, tru_bl, tru_int, tru_tup, tru_lst, tru_non, tru_exc, bin_addK, bin_subK, MP.neg_int, c_lt, c_le, c_gt, c_ge, c_eq, c_ne, c_eqb, c_neb, m_lt, m_le, m_gt, m_ge, seq_tup, seq_lst, len_tup, len_lst, toList_tup, toList_lst, toTup_tup, toTup_lst, int1_int, int1_bl, min2_int, max2_int, abs_int, asg_nm, tup0, tup1, tup2, tup3, tup4, List.set_cons_zero, List.set_cons_succ, List.getElem?_cons_zero, List.getElem?_cons_succ, Bool.false_eq_true, ↓reduceIte, fin_ret, decide_true, decide_false, Bool.not_true, Bool.not_false, kOne_eq, kLcE_t, kLcE_f, lcE_eq, lcQ_nm, lcQ_tp2, lcQ_tp3, lcK1_nm, lcK1_tp2, kLcE3_eq, kLcE2_t, kLcE2_f, lcE2_eq, lcK2_nm, lcK2_tp2, rstE_nil, rstE_cons, asg_tp2, asg_tp3, asg_tp4, forK_nil, par1, par2, par3, l1', q5, q16, i0, i1, mk0, ef, List.isEmpty_cons, int1_bl, bf, neN, neT, q13, q17, nlT, d1, d2, d3, mk3, adl (xs := [.tup [.str "cramped", T t, f], .tup [.str "room", T t], .tup [.str "cramped", T t, .tup [.int u1, .int u2]]]) (ys := [.tup [.str "cramped", T t, .tup [.int 2, .int u3, .int t.length]], .tup [.str "cramped", T t, .tup [.int 3, .int 0]], .tup [.str "cramped", T t, .tup [.int 2, .int 0]]]) (by show 3 + 3 < 100000; omega), lp]
end
end K27
end
section
set_option Elab.async false
set_option linter.all false
set_option maxRecDepth 100000
set_option maxHeartbeats 4000000
namespace K27
open MP
open PySem hiding exec
def tb7 : List (List Cell) := [[some (0, 7), none, none, some (1, 3), none, some (4, 5), some (2, 6)], [some (0, 3), some (1, 7), none, none, some (2, 4), none, some (5, 6)], [some (0, 6), some (1, 4), some (2, 7), none, none, some (3, 5), none], [none, some (0, 1), some (2, 5), some (3, 7), none, none, some (4, 6)], [some (0, 5), none, some (1, 2), some (3, 6), some (4, 7), none, none], [none, some (1, 6), none, some (2, 3), some (0, 4), some (5, 7), none], [none, none, some (0, 2), none, some (3, 4), some (1, 5), some (6, 7)]]
def ps7 : List (Int × Int) := [(1, 3), (2, 6), (4, 5)]
def tb11 : List (List Cell) := [[some (0, 11), none, some (3, 6), none, none, none, some (7, 9), some (5, 10), some (1, 2), none, some (4, 8)], [some (5, 9), some (1, 11), none, some (4, 7), none, none, none, some (8, 10), some (0, 6), some (2, 3), none], [none, some (6, 10), some (2, 11), none, some (5, 8), none, none, none, some (0, 9), some (1, 7), some (3, 4)], [some (4, 5), none, some (0, 7), some (3, 11), none, some (6, 9), none, none, none, some (1, 10), some (2, 8)], [some (3, 9), some (5, 6), none, some (1, 8), some (4, 11), none, some (7, 10), none, none, none, some (0, 2)], [some (1, 3), some (4, 10), some (6, 7), none, some (2, 9), some (5, 11), none, some (0, 8), none, none, none], [none, some (2, 4), some (0, 5), some (7, 8), none, some (3, 10), some (6, 11), none, some (1, 9), none, none], [none, none, some (3, 5), some (1, 6), some (8, 9), none, some (0, 4), some (7, 11), none, some (2, 10), none], [none, none, none, some (4, 6), some (2, 7), some (9, 10), none, some (1, 5), some (8, 11), none, some (0, 3)], [some (1, 4), none, none, none, some (5, 7), some (3, 8), some (0, 10), none, some (2, 6), some (9, 11), none], [none, some (2, 5), none, none, none, some (6, 8), some (4, 9), some (0, 1), none, some (3, 7), some (10, 11)]]
def ps11 : List (Int × Int) := [(1, 2), (3, 6), (4, 8), (5, 10), (7, 9)]
def tb13 : List (List Cell) := [[some (0, 13), none, none, none, some (3, 6), none, none, some (7, 12), some (8, 10), none, some (1, 2), some (4, 11), some (5, 9)], [some (6, 10), some (1, 13), none, none, none, some (4, 7), none, none, some (0, 8), some (9, 11), none, some (2, 3), some (5, 12)], [some (0, 6), some (7, 11), some (2, 13), none, none, none, some (5, 8), none, none, some (1, 9), some (10, 12), none, some (3, 4)], [some (4, 5), some (1, 7), some (8, 12), some (3, 13), none, none, none, some (6, 9), none, none, some (2, 10), some (0, 11), none], [none, some (5, 6), some (2, 8), some (0, 9), some (4, 13), none, none, none, some (7, 10), none, none, some (3, 11), some (1, 12)], [some (0, 2), none, some (6, 7), some (3, 9), some (1, 10), some (5, 13), none, none, none, some (8, 11), none, none, some (4, 12)], [some (0, 5), some (1, 3), none, some (7, 8), some (4, 10), some (2, 11), some (6, 13), none, none, none, some (9, 12), none, none], [none, some (1, 6), some (2, 4), none, some (8, 9), some (5, 11), some (3, 12), some (7, 13), none, none, none, some (0, 10), none], [none, none, some (2, 7), some (3, 5), none, some (9, 10), some (6, 12), some (0, 4), some (8, 13), none, none, none, some (1, 11)], [some (2, 12), none, none, some (3, 8), some (4, 6), none, some (10, 11), some (0, 7), some (1, 5), some (9, 13), none, none, none], [none, some (0, 3), none, none, some (4, 9), some (5, 7), none, some (11, 12), some (1, 8), some (2, 6), some (10, 13), none, none], [none, none, some (1, 4), none, none, some (5, 10), some (6, 8), none, some (0, 12), some (2, 9), some (3, 7), some (11, 13), none], [none, none, none, some (2, 5), none, none, some (6, 11), some (7, 9), none, some (0, 1), some (3, 10), some (4, 8), some (12, 13)]]
def ps13 : List (Int × Int) := [(1, 2), (3, 6), (4, 11), (5, 9), (7, 12), (8, 10)]
abbrev encQ (p : Int × Int) : A := .tup [.int p.1, .int p.2]
abbrev P (ps : List (Int × Int)) : A := .tup (ps.map encQ)
abbrev cellM (r : List Cell) : MO := .lst (r.map encC)
def J0 (tb : List (List Cell)) : Mem := tb.flatMap fun r => [.lst [.tup []], cellM r]
def nsT (n : Nat) : List Nat := (List.range n).map fun i => 2 * n + 1 + i
def Pre (b : Int) (tb : List (List Cell)) (ps : List (Int × Int)) : Prop := ∀ (s : A) (mo : MO), MP.exec C0 0 (S.til (S.from f19.body 2) 6) [some (.a s), some (.ref 0), some (.a (.int b)), none, none, none, none, none, none, none, none, none, none, none, none, none, none, none, none, none, none, none, none] [mo]
  = .nx [some (.a s), some (.ref 0), some (.a (.int b)), some (.a (P ps)), some (.a (T tb)), none, none, none, none, some (.nst (nsT tb.length)), none, none, none, none, none, none, none, none, none, none, none, none, none] (mo :: (J0 tb ++ tb.map cellM))
theorem pre7 : Pre 7 tb7 ps7 := by intro s mo; kernel_rfl
theorem are7 : are tb7 = true := by decide +kernel
theorem are11 : are tb11 = true := by decide +kernel
theorem are13 : are tb13 = true := by decide +kernel
theorem pre11 : Pre 11 tb11 ps11 := by intro s mo; kernel_rfl
end K27
end
section
set_option Elab.async false
set_option linter.all false
set_option maxRecDepth 100000
set_option maxHeartbeats 4000000
namespace K27
open MP
open PySem hiding exec
theorem pre13 : Pre 13 tb13 ps13 := by intro s mo; kernel_rfl
end K27
end
section
set_option Elab.async false
set_option linter.all false
set_option maxRecDepth 100000
set_option maxHeartbeats 4000000
namespace K27
open MP
open PySem hiding exec
def OkR (n : Nat) (r : List Cell) : Prop := r.length = n ∧ ∀ c ∈ r, okC n c = true
theorem are_ok {t : List (List Cell)} (h : are t = true) : ∀ r ∈ t, OkR t.length r := by
  have sq := are_sq h
  unfold are at h
  simp only [Bool.and_eq_true, List.all_eq_true] at h
  obtain ⟨_, _, _, _, h5⟩ := h
  exact fun r hr => ⟨sq.sq r hr, fun c hc => h5 r hr c hc⟩
theorem are_of {t R : List (List Cell)} (h : are t = true) (hl : R.length = t.length) (hr : ∀ r ∈ R, OkR t.length r) : are R = true := by
  unfold are at h ⊢
  rw [hl]
  simp only [Bool.and_eq_true, List.all_eq_true] at h ⊢
  obtain ⟨h1, h2, h3, _, _⟩ := h
  exact ⟨h1, h2, h3, fun r hx => decide_eq_true (by rw [(hr r hx).1]), fun r hx c hc => (hr r hx).2 c hc⟩
def b8 : S := match S.at f19.body 8 with | .for_ _ _ b _ => b | x => x
theorem nst_at {n u : Nat} (hu : u < n) {h : Mem} : idxK (.nst (nsT n)) (.a (.int u)) h = .ok (.ref (2 * n + 1 + u)) h := by
  refine idxK_of ?_
  show (idxN (nsT n).length (u : Int)).bind _ = _
  have hl : (nsT n).length = n := by unfold nsT; rw [List.length_map, List.length_range]
  rw [idxN_nat (by rw [hl]; exact hu)]
  show ((nsT n)[u]?).map D.ref = _
  unfold nsT
  rw [List.getElem?_map, List.getElem?_range hu]
  rfl
theorem mem_at {n u : Nat} {mo : MO} {J : Mem} {R : List (List Cell)} (hJ : J.length = 2 * n) (hu : u < R.length) : (mo :: (J ++ R.map cellM))[2 * n + 1 + u]? = some (cellM R[u]) := by
  rw [show 2 * n + 1 + u = (2 * n + u) + 1 from by omega, List.getElem?_cons_succ, List.getElem?_append_right (by omega), hJ, show 2 * n + u - 2 * n = u from by omega, List.getElem?_map, List.getElem?_eq_getElem hu]
  rfl
theorem mem_set {n u : Nat} {mo : MO} {J : Mem} {R : List (List Cell)} {r : List Cell} (hJ : J.length = 2 * n) : (mo :: (J ++ R.map cellM)).set (2 * n + 1 + u) (cellM r) = mo :: (J ++ (R.set u r).map cellM) := by
  rw [show 2 * n + 1 + u = (2 * n + u) + 1 from by omega, List.set_cons_succ, List.set_append_right _ _ (by omega), hJ, show 2 * n + u - 2 * n = u from by omega, List.map_set]
theorem ref_at {n u x : Nat} {mo : MO} {J : Mem} {R : List (List Cell)} (hJ : J.length = 2 * n) (hu : u < R.length) (hx : x < R[u].length) : idxK (.ref (2 * n + 1 + u)) (.a (.int x)) (mo :: (J ++ R.map cellM)) = .ok (.a (encC R[u][x])) (mo :: (J ++ R.map cellM)) := by
  refine idxK_of ?_
  show (match (mo :: (J ++ R.map cellM))[2 * n + 1 + u]? with
    | some (.lst xs) => (idxN xs.length (x : Int)).bind fun j => (xs[j]?).map D.a
    | some (.dk kvs) => (key? (.int x)).bind fun k => (dget kvs k).map D.a
    | some (.dt kvs) => (tkey? (.int x)).bind fun k => (dget kvs k).map D.a
    | _ => none) = _
  rw [mem_at hJ hu]
  show (idxN (R[u].map encC).length (x : Int)).bind (fun j => ((R[u].map encC)[j]?).map D.a) = _
  rw [idxN_nat (by rw [List.length_map]; exact hx)]
  show ((R[u].map encC)[x]?).map D.a = _
  rw [List.getElem?_map, List.getElem?_eq_getElem hx]
  rfl
theorem set_at {n u x : Nat} {mo : MO} {J : Mem} {R : List (List Cell)} {c : Cell} {env : MP.Env} (hJ : J.length = 2 * n) (hu : u < R.length) (hx : x < R[u].length) : setIxK (.a (encC c)) (.ref (2 * n + 1 + u)) (.a (.int x)) env (mo :: (J ++ R.map cellM)) = .nx env (mo :: (J ++ (R.set u (R[u].set x c)).map cellM)) := by
  show ofM (match (mo :: (J ++ R.map cellM))[2 * n + 1 + u]? with
    | some (.lst xs) => (idxN xs.length (x : Int)).map fun j => (mo :: (J ++ R.map cellM)).set (2 * n + 1 + u) (.lst (xs.set j (encC c)))
    | some (.dk kvs) => (key? (.int x)).bind fun k => if kvs.length < sizeLine then some ((mo :: (J ++ R.map cellM)).set (2 * n + 1 + u) (.dk (dput kvs k (encC c)))) else none
    | some (.dt kvs) => (tkey? (.int x)).bind fun k => if kvs.length < sizeLine then some ((mo :: (J ++ R.map cellM)).set (2 * n + 1 + u) (.dt (dput kvs k (encC c)))) else none
    | _ => none) env = _
  rw [mem_at hJ hu]
  show ofM ((idxN (R[u].map encC).length (x : Int)).map fun j => (mo :: (J ++ R.map cellM)).set (2 * n + 1 + u) (.lst ((R[u].map encC).set j (encC c)))) env = _
  rw [idxN_nat (by rw [List.length_map]; exact hx)]
  show X.nx env ((mo :: (J ++ R.map cellM)).set (2 * n + 1 + u) (.lst ((R[u].map encC).set x (encC c)))) = _
  rw [← List.map_set]
  rw [mem_set hJ]
theorem sorted_T2 {a b : Int} {h : Mem} (e : a ≤ b) : biK false .sorted [.a (.tup [.int a, .int b])] h = .ok (.a (.lst [.int a, .int b])) h := by
  refine biK_of ?_
  show some (A.lst ((sortI [a, b]).map .int)) = _
  rw [show sortI [a, b] = [a, b] from by
    show insI a [b] = _
    unfold insI
    rw [if_pos e]]
  rfl
theorem tup4 {a b c d : A} {h : Mem} : tupK [.a a, .a b, .a c, .a d] h = .ok (.a (.tup [a, b, c, d])) h := nr rfl
theorem pick4 {n : Nat} {c1 c2 : Cell} {d u : Nat} (o1 : okC n c1 = true) (o2 : okC n c2 = true) (hd : d < n) (hu : (u : Int) < 4) : ∃ c : Cell, okC n c = true ∧ ∀ {h : Mem}, idxK (.a (.tup [.tup [], encC c1, .tup [.int d, .int n], encC c2])) (.a (.int u)) h = .ok (.a (encC c)) h := by
  have hu' : u = 0 ∨ u = 1 ∨ u = 2 ∨ u = 3 := by omega
  rcases hu' with rfl | rfl | rfl | rfl
  · exact ⟨none, rfl, fun {h} => idxK_of rfl⟩
  · exact ⟨c1, o1, fun {h} => idxK_of rfl⟩
  · refine ⟨some (d, n), ?_, fun {h} => idxK_of rfl⟩
    show (decide ((0 : Int) ≤ d) && (decide ((d : Int) < n) && decide ((n : Int) ≤ n))) = true
    rw [decide_eq_true (show (0 : Int) ≤ d by omega), decide_eq_true (show (d : Int) < n by omega), decide_eq_true (show (n : Int) ≤ n by omega)]
    rfl
  · exact ⟨c2, o2, fun {h} => idxK_of rfl⟩
section
variable {e0 e3 e5 e6 e7 e8 e10 e11 e12 e13 e14 e15 e16 e17 e18 e19 e20 e21 e22 : Option D} {J : Mem}
theorem turn8 {tb R : List (List Cell)} {mo : MO} (ha : are tb = true) (hJ : J.length = 2 * tb.length) (hl : R.length = tb.length) (hr : ∀ r ∈ R, OkR tb.length r) (hm : IsPool mo) :
    ∃ (R' : List (List Cell)) (v5 v6 v11 v12 : Option D) (mo' : MO), IsPool mo' ∧ R'.length = tb.length ∧ (∀ r ∈ R', OkR tb.length r) ∧
      MP.exec C0 0 b8 [e0, some (.ref 0), some (.a (.int tb.length)), e3, some (.a (T tb)), e5, e6, e7, e8, some (.nst (nsT tb.length)), e10, e11, e12, e13, e14, e15, e16, e17, e18, e19, e20, e21, e22] (mo :: (J ++ R.map cellM))
        = .nx [e0, some (.ref 0), some (.a (.int tb.length)), e3, some (.a (T tb)), v5, v6, e7, e8, some (.nst (nsT tb.length)), e10, v11, v12, e13, e14, e15, e16, e17, e18, e19, e20, e21, e22] (mo' :: (J ++ R'.map cellM)) := by
  have sz := are_sz ha
  have np := are_pos ha
  have nn := sz.n
  obtain ⟨y, mo1, y1, hm1, d1⟩ := draw1 (l := J ++ R.map cellM) hm (z := tb.length) (by omega) (by omega)
  obtain ⟨x, mo2, x1, hm2, d2⟩ := draw1 (l := J ++ R.map cellM) hm1 (z := tb.length) (by omega) (by omega)
  obtain ⟨o, mo3, o1, hm3, d3⟩ := draw1 (l := J ++ R.map cellM) hm2 (z := tb.length) (by omega) (by omega)
  obtain ⟨p, mo4, p1, hm4, d4⟩ := draw1 (l := J ++ R.map cellM) hm3 (z := tb.length) (by omega) (by omega)
  obtain ⟨u, mo5, u1, hm5, d5⟩ := draw1 (l := J ++ R.map cellM) hm4 (z := 4) (by omega) (by omega)
  have hy : y < R.length := by omega
  have hy' : y < tb.length := by omega
  have ho : o < R.length := by omega
  have rl : ∀ {i : Nat} (hi : i < R.length), R[i].length = tb.length := fun hi => (hr _ (List.getElem_mem hi)).1
  have hxo : x < R[o].length := by rw [rl]; omega
  have hxy : x < R[y].length := by rw [rl]; omega
  have tl := (are_ok ha _ (List.getElem_mem hy')).1
  have hxt : x < tb[y].length := by omega
  obtain ⟨c, oc, pk⟩ := pick4 (n := tb.length) (d := p) ((hr _ (List.getElem_mem ho)).2 _ (List.getElem_mem hxo)) ((are_ok ha _ (List.getElem_mem hy')).2 _ (List.getElem_mem hxt)) (by omega) u1
  have r3 := ref_at (mo := mo3) hJ ho hxo
  have rt : ∀ {h : Mem}, idxK (.a (T tb)) (.a (.int y)) h = .ok (.a (encR tb[y])) h := fun {h} => idx_row hy'
  have rc : ∀ {h : Mem}, idxK (.a (encR tb[y])) (.a (.int x)) h = .ok (.a (encC tb[y][x])) h := fun {h} => by
    refine idxK_of ?_
    have := idx_tup (h := h) (xs := tb[y].map encC) (k := x) (by rw [List.length_map]; exact hxt)
    rw [List.getElem_map] at this
    exact this
  have ss := sorted_T2 (h := mo4 :: (J ++ R.map cellM)) (a := p) (b := tb.length) (by omega)
  have na : ∀ {z : Nat} (hz : (z : Int) < tb.length) {h : Mem}, idxK (.nst (nsT tb.length)) (.a (.int z)) h = .ok (.ref (2 * tb.length + 1 + z)) h := fun hz {h} => nst_at (by omega)
  refine ⟨R.set y (R[y].set x c), some (.a (.int y)), some (.ref (2 * tb.length + 1 + y)), some (.a (.int x)), some (.ref (2 * tb.length + 1 + o)), mo5, hm5, by rw [List.length_set]; exact hl, ?_, ?_⟩
  · intro r hx
    rcases List.mem_or_eq_of_mem_set hx with hx | rfl
    · exact hr r hx
    · refine ⟨by rw [List.length_set]; exact rl hy, ?_⟩
      intro c' hc
      rcases List.mem_or_eq_of_mem_set hc with hc | rfl
      · exact (hr _ (List.getElem_mem hy)).2 _ hc
      · exact oc
  · simp only [b8, f19, S.at, C0]
    simp only [ok_bind, exc_bind, ok_thn, exc_thn, ok_calm, nx_and, ret_and, brk_and, cnt_and, exc_and, ev_cst, ev_var, ev_glb, kBin_eq, ev_bin, ev_neg, kNot_eq, ev_not, ev_and, ev_or, kAnd_t, kAnd_f, kOr_t, kOr_f, kCmp_eq, ev_cmp, ev_chn, chnK_t, chnK_f, kChn1_eq, kChn_nil, kChn_cons, kIfE_t, kIfE_f, ev_ite, kIdx_eq, ev_idx, kSlc2_eq, kSlc_eq, ev_slc, ev_tup, ev_lst, ev_dnew, kLc_eq, ev_lc, kLc2_eq, ev_lc2, ev_call, ev_bi, kBm_eq, ev_bm, kIsi_eq, ev_isi, ev_lrg1, kLrg2_eq, ev_lrg2, evf_none, evf_some, oiK_int, evo_none, evo_some, evs_nil, kCons_eq, kEvs_eq, evs_cons, evIt_seq, evIt_rng1, kRng2_eq, evIt_rng2, kRng3b_eq, kRng3_eq, evIt_rng3, evIt_enu, kZip_eq, evIt_zip, ex_skip, kSeq_eq, ex_seq, kAsg_eq, ex_asg, kPar_eq, ex_par, kSI3_eq, kSI2_eq, kSI1_eq, ex_setIx, kNx_eq, ex_expr, kIfS_t, kIfS_f, ex_ite, kFor_eq, ex_for, ex_while, kRet_eq, ex_ret, ex_retN, kRaise_eq, ex_raise, ex_try, ex_brk, ex_cnt, ex_frz, tryK_nx, tryK_ret, tryK_exc, hndK_nil, hndK_cons, hndK1_f, hndK1_ti, hndK1_tn, unbK_ret, unbK_nx, unb0_ret, unb0_nx, varK_ok, tru_bl, tru_int, tru_tup, tru_lst, tru_non, tru_exc, bin_addK, bin_subK, MP.neg_int, c_lt, c_le, c_gt, c_ge, c_eq, c_ne, c_eqb, c_neb, m_lt, m_le, m_gt, m_ge, seq_tup, seq_lst, len_tup, len_lst, toList_tup, toList_lst, toTup_tup, toTup_lst, int1_int, int1_bl, min2_int, max2_int, abs_int, asg_nm, tup0, tup1, tup2, tup3, tup4, List.set_cons_zero, List.set_cons_succ, List.getElem?_cons_zero, List.getElem?_cons_succ, Bool.false_eq_true, ↓reduceIte, fin_ret, decide_true, decide_false, Bool.not_true, Bool.not_false, kOne_eq, kLcE_t, kLcE_f, lcE_eq, lcQ_nm, lcQ_tp2, lcQ_tp3, lcK1_nm, lcK1_tp2, kLcE3_eq, kLcE2_t, kLcE2_f, lcE2_eq, lcK2_nm, lcK2_tp2, rstE_nil, rstE_cons, asg_tp2, asg_tp3, asg_tp4, forK_nil, par1, par2, par3, d1, d2, par2, na y1, na o1, d3, r3, d4, ss, rt, rc, tup4, d5, pk, set_at hJ hy hxy]
end
end K27
end
section
set_option Elab.async false
set_option linter.all false
set_option maxRecDepth 100000
set_option maxHeartbeats 4000000
namespace K27
open MP
open PySem hiding exec
theorem loop8 {tb R : List (List Cell)} {mo : MO} {J : Mem} {s : A} {v3 : Option D} {u : Nat} (ha : are tb = true) (hJ : J.length = 2 * tb.length) (hl : R.length = tb.length) (hr : ∀ r ∈ R, OkR tb.length r) (hm : IsPool mo) :
    ∃ (R' : List (List Cell)) (mo' : MO), IsPool mo' ∧ R'.length = tb.length ∧ (∀ r ∈ R', OkR tb.length r) ∧
      forK C0 0 (.nm 10) [12, 6, 10, 11, 5] b8 (rngL 0 u) [some (.a s), some (.ref 0), some (.a (.int tb.length)), v3, some (.a (T tb)), none, none, none, none, some (.nst (nsT tb.length)), none, none, none, none, none, none, none, none, none, none, none, none, none] (mo :: (J ++ R.map cellM))
        = .nx [some (.a s), some (.ref 0), some (.a (.int tb.length)), v3, some (.a (T tb)), none, none, none, none, some (.nst (nsT tb.length)), none, none, none, none, none, none, none, none, none, none, none, none, none] (mo' :: (J ++ R'.map cellM)) := by
  have key := forK_rng (C := C0) (base := 0) (t := .nm 10) (rst := [12, 6, 10, 11, 5]) (b := b8) (lo := 0) (n := u) (env := [some (.a s), some (.ref 0), some (.a (.int tb.length)), v3, some (.a (T tb)), none, none, none, none, some (.nst (nsT tb.length)), none, none, none, none, none, none, none, none, none, none, none, none, none]) (h := mo :: (J ++ R.map cellM))
    (fun _ env h => ∃ (R' : List (List Cell)) (mo' : MO), IsPool mo' ∧ R'.length = tb.length ∧ (∀ r ∈ R', OkR tb.length r) ∧ env = [some (.a s), some (.ref 0), some (.a (.int tb.length)), v3, some (.a (T tb)), none, none, none, none, some (.nst (nsT tb.length)), none, none, none, none, none, none, none, none, none, none, none, none, none] ∧ h = mo' :: (J ++ R'.map cellM)) ⟨R, mo, hm, hl, hr, rfl, rfl⟩ ?_
  · obtain ⟨e', h', q, R', mo', a, b, c, rfl, rfl⟩ := key
    exact ⟨R', mo', a, b, c, q⟩
  · rintro j hj env h ⟨R', mo', a, b, c, rfl, rfl⟩
    obtain ⟨R2, v5, v6, v11, v12, mo2, a2, b2, c2, q⟩ := turn8 (e0 := some (.a s)) (e3 := v3) (e5 := none) (e6 := none) (e7 := none) (e8 := none) (e10 := some (.a (.int (0 + (j : Int))))) (e11 := none) (e12 := none) (e13 := none) (e14 := none) (e15 := none) (e16 := none) (e17 := none) (e18 := none) (e19 := none) (e20 := none) (e21 := none) (e22 := none) ha hJ b c a
    exact ⟨_, _, _, rfl, q, R2, mo2, a2, b2, c2, rfl, rfl⟩
theorem loopOwn {e0 e2 e3 e4 e5 e6 e7 e8 e9 e10 e11 e12 e13 e14 e15 e16 e17 e18 e19 e20 e21 e22 : Option D} {J : Mem} {mo : MO} {Ts : List (List (List Cell))} (hT : ∀ t ∈ Ts, are t = true) (hm : IsPool mo) :
    ∃ (v6 v7 v10 v13 v14 v15 v16 v17 v18 : Option D) (mo' : MO), IsPool mo' ∧
      forK C0 0 (.nm 6) [17, 13, 14, 16, 18, 7, 6, 15, 10] bOwn ((Ts.map T).map D.a) [e0, some (.ref 0), e2, e3, e4, e5, e6, e7, e8, e9, e10, e11, e12, e13, e14, e15, e16, e17, e18, e19, e20, e21, e22] (mo :: J)
        = .nx [e0, some (.ref 0), e2, e3, e4, e5, v6, v7, e8, e9, v10, e11, e12, v13, v14, v15, v16, v17, v18, e19, e20, e21, e22] (mo' :: J) := by
  have key := forK_ix (C := C0) (base := 0) (t := .nm 6) (rst := [17, 13, 14, 16, 18, 7, 6, 15, 10]) (b := bOwn) (xs := (Ts.map T).map D.a) (env := [e0, some (.ref 0), e2, e3, e4, e5, e6, e7, e8, e9, e10, e11, e12, e13, e14, e15, e16, e17, e18, e19, e20, e21, e22]) (h := mo :: J)
    (fun _ env h => ∃ (mo' : MO) (v6 v7 v10 v13 v14 v15 v16 v17 v18 : Option D), IsPool mo' ∧ env = [e0, some (.ref 0), e2, e3, e4, e5, v6, v7, e8, e9, v10, e11, e12, v13, v14, v15, v16, v17, v18, e19, e20, e21, e22] ∧ h = mo' :: J) ⟨mo, e6, e7, e10, e13, e14, e15, e16, e17, e18, hm, rfl, rfl⟩ ?_
  · obtain ⟨e', h', q, mo', v6, v7, v10, v13, v14, v15, v16, v17, v18, a, rfl, rfl⟩ := key
    exact ⟨v6, v7, v10, v13, v14, v15, v16, v17, v18, mo', a, q⟩
  · rintro j hj env h ⟨mo', v6, v7, v10, v13, v14, v15, v16, v17, v18, a, rfl, rfl⟩
    have hj' : j < Ts.length := by rw [List.length_map, List.length_map] at hj; exact hj
    rw [List.getElem_map, List.getElem_map]
    obtain ⟨w7, w10, w13, w14, w15, w16, w17, w18, mo2, a2, q⟩ := turnOwn (e0 := e0) (e2 := e2) (e3 := e3) (e4 := e4) (e5 := e5) (e7 := v7) (e8 := e8) (e9 := e9) (e10 := v10) (e11 := e11) (e12 := e12) (e13 := v13) (e14 := v14) (e15 := v15) (e16 := v16) (e17 := v17) (e18 := v18) (e19 := e19) (e20 := e20) (e21 := e21) (e22 := e22) (J := J) (hT Ts[j] (List.getElem_mem hj')) a
    exact ⟨_, _, _, rfl, q, mo2, none, none, none, none, none, none, none, none, none, a2, rfl, rfl⟩
theorem toTup_ref {m : Nat} {h : Mem} {xs : List A} (e : h[m]? = some (.lst xs)) : biK false .toTuple [.ref m] h = .ok (.a (.tup xs)) h := by
  refine biK_of ?_
  show (((match h[m]? with
    | some (.lst xs) => some (A.lst xs)
    | _ => none).bind A.items).map A.tup) = _
  rw [e]
  rfl
theorem seq_nst {ns : List Nat} {h : Mem} : seqK (.nst ns) h = .ok (ns.map .ref) h := nr rfl
theorem flat1 {α β : Type} (f : α → β) : ∀ xs : List α, (xs.flatMap fun i => [f i]) = xs.map f
  | [] => rfl
  | x :: xs => by rw [List.flatMap_cons, flat1 f xs, List.map_cons]; rfl
theorem rows_map (R : List (List Cell)) : ((List.range R.length).flatMap fun i => [encR ((R[i]?).getD [])]) = R.map encR := by
  rw [flat1 (fun i => encR ((R[i]?).getD []))]
  apply List.ext_getElem
  · rw [List.length_map, List.length_map, List.length_range]
  · intro i h1 h2
    rw [List.length_map] at h2
    rw [List.getElem_map, List.getElem_map, List.getElem_range, List.getElem?_eq_getElem h2]
    rfl
/-- the rest behind the loop of changes -/
def PartC (L : Mem) : Prop := ∀ (s : A) (v2 v3 v4 v5 v6 v7 v8 v9 v10 v11 v12 v13 v14 v15 v16 v17 v18 : Option D) (mo : MO), MP.exec C0 0 (S.from f19.body 11) [some (.a s), some (.ref 0), v2, v3, v4, v5, v6, v7, v8, v9, v10, v11, v12, v13, v14, v15, v16, v17, v18, none, none, none, none] (mo :: L) = .ret (.a (.bl true)) (mo :: L)
theorem rest_ok {tb : List (List Cell)} {ps : List (Int × Int)} {s : A} {mo : MO} (ha : are tb = true) (hp : Pre tb.length tb ps) (hJ : (J0 tb).length = 2 * tb.length) (hC : ∀ L : Mem, L.length = 3 * tb.length → PartC L) (hm : IsPool mo) :
    ∃ h', MP.exec C0 0 (S.from f19.body 2) [some (.a s), some (.ref 0), some (.a (.int tb.length)), none, none, none, none, none, none, none, none, none, none, none, none, none, none, none, none, none, none, none, none] [mo] = .ret (.a (.bl true)) h' := by
  rw [exec_til (hp s mo)]
  have sz := are_sz ha
  have nn := sz.n
  obtain ⟨u, mo1, u1, hm1, d1⟩ := draw1 (l := J0 tb ++ tb.map cellM) hm (z := 4) (by omega) (by omega)
  obtain ⟨R, mo2, hm2, hl, hr, q8⟩ := loop8 (u := u) (s := s) (v3 := some (.a (P ps))) ha hJ rfl (are_ok ha) hm1
  have hR := are_of ha hl hr
  have hr4 : rngOk (u : Int) = true := rngOk_nat (by omega)
  have eu : ((u : Int)).toNat = u := by omega
  have l1 := lc_flat (h := mo2 :: (J0 tb ++ R.map cellM)) (step := lcQ C0 (.bi false .toTuple [(.var 22)]) (.nm 22) none [20, 22] [some (.a s), some (.ref 0), some (.a (.int tb.length)), some (.a (P ps)), some (.a (T tb)), none, none, none, none, some (.nst (nsT tb.length)), none, none, none, none, none, none, none, none, none, none, none, none, none]) (fun i => D.ref (2 * tb.length + 1 + i)) (fun i => [encR ((R[i]?).getD [])]) (xs := List.range R.length) (by
    intro i hi
    have hi' : i < R.length := List.mem_range.mp hi
    have tt := toTup_ref (mem_at (mo := mo2) hJ hi')
    rw [List.getElem?_eq_getElem hi']
    unfold C0
    simp only [ok_bind, exc_bind, ok_thn, exc_thn, ok_calm, nx_and, ret_and, brk_and, cnt_and, exc_and, ev_cst, ev_var, ev_glb, kBin_eq, ev_bin, ev_neg, kNot_eq, ev_not, ev_and, ev_or, kAnd_t, kAnd_f, kOr_t, kOr_f, kCmp_eq, ev_cmp, ev_chn, chnK_t, chnK_f, kChn1_eq, kChn_nil, kChn_cons, kIfE_t, kIfE_f, ev_ite, kIdx_eq, ev_idx, kSlc2_eq, kSlc_eq, ev_slc, ev_tup, ev_lst, ev_dnew, kLc_eq, ev_lc, kLc2_eq, ev_lc2, ev_call, ev_bi, kBm_eq, ev_bm, kIsi_eq, ev_isi, ev_lrg1, kLrg2_eq, ev_lrg2, evf_none, evf_some, oiK_int, evo_none, evo_some, evs_nil, kCons_eq, kEvs_eq, evs_cons, evIt_seq, evIt_rng1, kRng2_eq, evIt_rng2, kRng3b_eq, kRng3_eq, evIt_rng3, evIt_enu, kZip_eq, evIt_zip, ex_skip, kSeq_eq, ex_seq, kAsg_eq, ex_asg, kPar_eq, ex_par, kSI3_eq, kSI2_eq, kSI1_eq, ex_setIx, kNx_eq, ex_expr, kIfS_t, kIfS_f, ex_ite, kFor_eq, ex_for, ex_while, kRet_eq, ex_ret, ex_retN, kRaise_eq, ex_raise, ex_try, ex_brk, ex_cnt, ex_frz, tryK_nx, tryK_ret, tryK_exc, hndK_nil, hndK_cons, hndK1_f, hndK1_ti, hndK1_tn, unbK_ret, unbK_nx, unb0_ret, unb0_nx, varK_ok, tru_bl, tru_int, tru_tup, tru_lst, tru_non, tru_exc, bin_addK, bin_subK, MP.neg_int, c_lt, c_le, c_gt, c_ge, c_eq, c_ne, c_eqb, c_neb, m_lt, m_le, m_gt, m_ge, seq_tup, seq_lst, len_tup, len_lst, toList_tup, toList_lst, toTup_tup, toTup_lst, int1_int, int1_bl, min2_int, max2_int, abs_int, asg_nm, tup0, tup1, tup2, tup3, tup4, List.set_cons_zero, List.set_cons_succ, List.getElem?_cons_zero, List.getElem?_cons_succ, Bool.false_eq_true, ↓reduceIte, fin_ret, decide_true, decide_false, Bool.not_true, Bool.not_false, kOne_eq, kLcE_t, kLcE_f, lcE_eq, lcQ_nm, lcQ_tp2, lcQ_tp3, lcK1_nm, lcK1_tp2, kLcE3_eq, kLcE2_t, kLcE2_f, lcE2_eq, lcK2_nm, lcK2_tp2, rstE_nil, rstE_cons, asg_tp2, asg_tp3, asg_tp4, forK_nil, par1, par2, par3, tt, Option.getD_some, List.map_cons, List.map_nil])
  rw [rows_map] at l1
  have en : (nsT tb.length).map D.ref = (List.range R.length).map fun i => D.ref (2 * tb.length + 1 + i) := by
    rw [hl]
    unfold nsT
    rw [List.map_map]
    rfl
  have l1' := lc_done l1 (by rw [List.length_map]; omega)
  rw [← en] at l1'
  unfold C0 at l1'
  obtain ⟨v6, v7, v10, v13, v14, v15, v16, v17, v18, mo3, hm3, lp⟩ := loopOwn (e0 := some (.a s)) (e2 := some (.a (.int tb.length))) (e3 := some (.a (P ps))) (e4 := some (.a (T tb))) (e5 := none) (e6 := none) (e7 := none) (e8 := none) (e9 := some (.a (T R))) (e10 := none) (e11 := none) (e12 := none) (e13 := none) (e14 := none) (e15 := none) (e16 := none) (e17 := none) (e18 := none) (e19 := none) (e20 := none) (e21 := none) (e22 := none) (J := J0 tb ++ R.map cellM) (Ts := [tb, R, [[some (0, 1)]], [[none]]]) (by
    intro t ht
    simp only [List.mem_cons, List.not_mem_nil, or_false] at ht
    rcases ht with rfl | rfl | rfl | rfl
    · exact ha
    · exact hR
    · decide +kernel
    · decide +kernel) hm2
  have lp : forK C0 0 (.nm 6) [17, 13, 14, 16, 18, 7, 6, 15, 10] bOwn [.a (T tb), .a (T R), .a (.tup [.tup [.tup [.int 0, .int 1]]]), .a (.tup [.tup [.tup []]])] _ _ = _ := lp
  have tB : MP.exec C0 0 (S.til (S.from (S.from f19.body 2) 6) 3) [some (.a s), some (.ref 0), some (.a (.int tb.length)), some (.a (P ps)), some (.a (T tb)), none, none, none, none, some (.nst (nsT tb.length)), none, none, none, none, none, none, none, none, none, none, none, none, none] (mo :: (J0 tb ++ tb.map cellM))
      = .nx [some (.a s), some (.ref 0), some (.a (.int tb.length)), some (.a (P ps)), some (.a (T tb)), none, v6, v7, none, some (.a (T R)), v10, none, none, v13, v14, v15, v16, v17, v18, none, none, none, none] (mo3 :: (J0 tb ++ R.map cellM)) := by
    simp only [b8, f19, S.at, C0] at q8
    simp only [bOwn, f19, S.at, C0] at lp
    simp only [f19, S.from, S.til, C0]
    simp only [ok_bind, exc_bind, ok_thn, exc_thn, ok_calm, nx_and, ret_and, brk_and, cnt_and, exc_and, ev_cst, ev_var, ev_glb, kBin_eq, ev_bin, ev_neg, kNot_eq, ev_not, ev_and, ev_or, kAnd_t, kAnd_f, kOr_t, kOr_f, kCmp_eq, ev_cmp, ev_chn, chnK_t, chnK_f, kChn1_eq, kChn_nil, kChn_cons, kIfE_t, kIfE_f, ev_ite, kIdx_eq, ev_idx, kSlc2_eq, kSlc_eq, ev_slc, ev_tup, ev_lst, ev_dnew, kLc_eq, ev_lc, kLc2_eq, ev_lc2, ev_call, ev_bi, kBm_eq, ev_bm, kIsi_eq, ev_isi, ev_lrg1, kLrg2_eq, ev_lrg2, evf_none, evf_some, oiK_int, evo_none, evo_some, evs_nil, kCons_eq, kEvs_eq, evs_cons, evIt_seq, evIt_rng1, kRng2_eq, evIt_rng2, kRng3b_eq, kRng3_eq, evIt_rng3, evIt_enu, kZip_eq, evIt_zip, ex_skip, kSeq_eq, ex_seq, kAsg_eq, ex_asg, kPar_eq, ex_par, kSI3_eq, kSI2_eq, kSI1_eq, ex_setIx, kNx_eq, ex_expr, kIfS_t, kIfS_f, ex_ite, kFor_eq, ex_for, ex_while, kRet_eq, ex_ret, ex_retN, kRaise_eq, ex_raise, ex_try, ex_brk, ex_cnt, ex_frz, tryK_nx, tryK_ret, tryK_exc, hndK_nil, hndK_cons, hndK1_f, hndK1_ti, hndK1_tn, unbK_ret, unbK_nx, unb0_ret, unb0_nx, varK_ok, tru_bl, tru_int, tru_tup, tru_lst, tru_non, tru_exc, bin_addK, bin_subK, MP.neg_int, c_lt, c_le, c_gt, c_ge, c_eq, c_ne, c_eqb, c_neb, m_lt, m_le, m_gt, m_ge, seq_tup, seq_lst, len_tup, len_lst, toList_tup, toList_lst, toTup_tup, toTup_lst, int1_int, int1_bl, min2_int, max2_int, abs_int, asg_nm, tup0, tup1, tup2, tup3, tup4, List.set_cons_zero, List.set_cons_succ, List.getElem?_cons_zero, List.getElem?_cons_succ, Bool.false_eq_true, ↓reduceIte, fin_ret, decide_true, decide_false, Bool.not_true, Bool.not_false, kOne_eq, kLcE_t, kLcE_f, lcE_eq, lcQ_nm, lcQ_tp2, lcQ_tp3, lcK1_nm, lcK1_tp2, kLcE3_eq, kLcE2_t, kLcE2_f, lcE2_eq, lcK2_nm, lcK2_tp2, rstE_nil, rstE_cons, asg_tp2, asg_tp3, asg_tp4, forK_nil, par1, par2, par3, d1, rng1_int hr4, eu, q8, seq_nst, l1', lp, List.map_cons, List.map_nil]
  rw [exec_til tB]
  exact ⟨_, hC _ (by rw [List.length_append, List.length_map, hJ, hl]; omega) s _ _ _ _ _ _ _ _ _ _ _ _ _ _ _ _ _ mo3⟩
end K27
end
section
set_option Elab.async false
set_option linter.all false
set_option maxRecDepth 100000
set_option maxHeartbeats 4000000
namespace K27
open MP
open PySem hiding exec
theorem cons_of {α : Type} {L : List α} {n : Nat} (h : L.length = n + 1) : ∃ a r, L = a :: r ∧ r.length = n := by
  cases L with
  | nil => cases h
  | cons a r => exact ⟨a, r, rfl, Nat.succ.inj h⟩
theorem pa21 : ∀ a0 a1 a2 a3 a4 a5 a6 a7 a8 a9 a10 a11 a12 a13 a14 a15 a16 a17 a18 a19 a20 : MO, PartC [a0, a1, a2, a3, a4, a5, a6, a7, a8, a9, a10, a11, a12, a13, a14, a15, a16, a17, a18, a19, a20] := by intro a0 a1 a2 a3 a4 a5 a6 a7 a8 a9 a10 a11 a12 a13 a14 a15 a16 a17 a18 a19 a20 s v2 v3 v4 v5 v6 v7 v8 v9 v10 v11 v12 v13 v14 v15 v16 v17 v18 mo; kernel_rfl
theorem pc21 : ∀ L : Mem, L.length = 21 → PartC L := by
  intro L0 h0
  obtain ⟨a0, L1, rfl, h1⟩ := cons_of h0
  obtain ⟨a1, L2, rfl, h2⟩ := cons_of h1
  obtain ⟨a2, L3, rfl, h3⟩ := cons_of h2
  obtain ⟨a3, L4, rfl, h4⟩ := cons_of h3
  obtain ⟨a4, L5, rfl, h5⟩ := cons_of h4
  obtain ⟨a5, L6, rfl, h6⟩ := cons_of h5
  obtain ⟨a6, L7, rfl, h7⟩ := cons_of h6
  obtain ⟨a7, L8, rfl, h8⟩ := cons_of h7
  obtain ⟨a8, L9, rfl, h9⟩ := cons_of h8
  obtain ⟨a9, L10, rfl, h10⟩ := cons_of h9
  obtain ⟨a10, L11, rfl, h11⟩ := cons_of h10
  obtain ⟨a11, L12, rfl, h12⟩ := cons_of h11
  obtain ⟨a12, L13, rfl, h13⟩ := cons_of h12
  obtain ⟨a13, L14, rfl, h14⟩ := cons_of h13
  obtain ⟨a14, L15, rfl, h15⟩ := cons_of h14
  obtain ⟨a15, L16, rfl, h16⟩ := cons_of h15
  obtain ⟨a16, L17, rfl, h17⟩ := cons_of h16
  obtain ⟨a17, L18, rfl, h18⟩ := cons_of h17
  obtain ⟨a18, L19, rfl, h19⟩ := cons_of h18
  obtain ⟨a19, L20, rfl, h20⟩ := cons_of h19
  obtain ⟨a20, L21, rfl, h21⟩ := cons_of h20
  obtain rfl := List.eq_nil_of_length_eq_zero h21
  exact pa21 _ _ _ _ _ _ _ _ _ _ _ _ _ _ _ _ _ _ _ _ _
theorem pa33 : ∀ a0 a1 a2 a3 a4 a5 a6 a7 a8 a9 a10 a11 a12 a13 a14 a15 a16 a17 a18 a19 a20 a21 a22 a23 a24 a25 a26 a27 a28 a29 a30 a31 a32 : MO, PartC [a0, a1, a2, a3, a4, a5, a6, a7, a8, a9, a10, a11, a12, a13, a14, a15, a16, a17, a18, a19, a20, a21, a22, a23, a24, a25, a26, a27, a28, a29, a30, a31, a32] := by intro a0 a1 a2 a3 a4 a5 a6 a7 a8 a9 a10 a11 a12 a13 a14 a15 a16 a17 a18 a19 a20 a21 a22 a23 a24 a25 a26 a27 a28 a29 a30 a31 a32 s v2 v3 v4 v5 v6 v7 v8 v9 v10 v11 v12 v13 v14 v15 v16 v17 v18 mo; kernel_rfl
theorem pc33 : ∀ L : Mem, L.length = 33 → PartC L := by
  intro L0 h0
  obtain ⟨a0, L1, rfl, h1⟩ := cons_of h0
  obtain ⟨a1, L2, rfl, h2⟩ := cons_of h1
  obtain ⟨a2, L3, rfl, h3⟩ := cons_of h2
  obtain ⟨a3, L4, rfl, h4⟩ := cons_of h3
  obtain ⟨a4, L5, rfl, h5⟩ := cons_of h4
  obtain ⟨a5, L6, rfl, h6⟩ := cons_of h5
  obtain ⟨a6, L7, rfl, h7⟩ := cons_of h6
  obtain ⟨a7, L8, rfl, h8⟩ := cons_of h7
  obtain ⟨a8, L9, rfl, h9⟩ := cons_of h8
  obtain ⟨a9, L10, rfl, h10⟩ := cons_of h9
  obtain ⟨a10, L11, rfl, h11⟩ := cons_of h10
  obtain ⟨a11, L12, rfl, h12⟩ := cons_of h11
  obtain ⟨a12, L13, rfl, h13⟩ := cons_of h12
  obtain ⟨a13, L14, rfl, h14⟩ := cons_of h13
  obtain ⟨a14, L15, rfl, h15⟩ := cons_of h14
  obtain ⟨a15, L16, rfl, h16⟩ := cons_of h15
  obtain ⟨a16, L17, rfl, h17⟩ := cons_of h16
  obtain ⟨a17, L18, rfl, h18⟩ := cons_of h17
  obtain ⟨a18, L19, rfl, h19⟩ := cons_of h18
  obtain ⟨a19, L20, rfl, h20⟩ := cons_of h19
  obtain ⟨a20, L21, rfl, h21⟩ := cons_of h20
  obtain ⟨a21, L22, rfl, h22⟩ := cons_of h21
  obtain ⟨a22, L23, rfl, h23⟩ := cons_of h22
  obtain ⟨a23, L24, rfl, h24⟩ := cons_of h23
  obtain ⟨a24, L25, rfl, h25⟩ := cons_of h24
  obtain ⟨a25, L26, rfl, h26⟩ := cons_of h25
  obtain ⟨a26, L27, rfl, h27⟩ := cons_of h26
  obtain ⟨a27, L28, rfl, h28⟩ := cons_of h27
  obtain ⟨a28, L29, rfl, h29⟩ := cons_of h28
  obtain ⟨a29, L30, rfl, h30⟩ := cons_of h29
  obtain ⟨a30, L31, rfl, h31⟩ := cons_of h30
  obtain ⟨a31, L32, rfl, h32⟩ := cons_of h31
  obtain ⟨a32, L33, rfl, h33⟩ := cons_of h32
  obtain rfl := List.eq_nil_of_length_eq_zero h33
  exact pa33 _ _ _ _ _ _ _ _ _ _ _ _ _ _ _ _ _ _ _ _ _ _ _ _ _ _ _ _ _ _ _ _ _
theorem pa39 : ∀ a0 a1 a2 a3 a4 a5 a6 a7 a8 a9 a10 a11 a12 a13 a14 a15 a16 a17 a18 a19 a20 a21 a22 a23 a24 a25 a26 a27 a28 a29 a30 a31 a32 a33 a34 a35 a36 a37 a38 : MO, PartC [a0, a1, a2, a3, a4, a5, a6, a7, a8, a9, a10, a11, a12, a13, a14, a15, a16, a17, a18, a19, a20, a21, a22, a23, a24, a25, a26, a27, a28, a29, a30, a31, a32, a33, a34, a35, a36, a37, a38] := by intro a0 a1 a2 a3 a4 a5 a6 a7 a8 a9 a10 a11 a12 a13 a14 a15 a16 a17 a18 a19 a20 a21 a22 a23 a24 a25 a26 a27 a28 a29 a30 a31 a32 a33 a34 a35 a36 a37 a38 s v2 v3 v4 v5 v6 v7 v8 v9 v10 v11 v12 v13 v14 v15 v16 v17 v18 mo; kernel_rfl
theorem pc39 : ∀ L : Mem, L.length = 39 → PartC L := by
  intro L0 h0
  obtain ⟨a0, L1, rfl, h1⟩ := cons_of h0
  obtain ⟨a1, L2, rfl, h2⟩ := cons_of h1
  obtain ⟨a2, L3, rfl, h3⟩ := cons_of h2
  obtain ⟨a3, L4, rfl, h4⟩ := cons_of h3
  obtain ⟨a4, L5, rfl, h5⟩ := cons_of h4
  obtain ⟨a5, L6, rfl, h6⟩ := cons_of h5
  obtain ⟨a6, L7, rfl, h7⟩ := cons_of h6
  obtain ⟨a7, L8, rfl, h8⟩ := cons_of h7
  obtain ⟨a8, L9, rfl, h9⟩ := cons_of h8
  obtain ⟨a9, L10, rfl, h10⟩ := cons_of h9
  obtain ⟨a10, L11, rfl, h11⟩ := cons_of h10
  obtain ⟨a11, L12, rfl, h12⟩ := cons_of h11
  obtain ⟨a12, L13, rfl, h13⟩ := cons_of h12
  obtain ⟨a13, L14, rfl, h14⟩ := cons_of h13
  obtain ⟨a14, L15, rfl, h15⟩ := cons_of h14
  obtain ⟨a15, L16, rfl, h16⟩ := cons_of h15
  obtain ⟨a16, L17, rfl, h17⟩ := cons_of h16
  obtain ⟨a17, L18, rfl, h18⟩ := cons_of h17
  obtain ⟨a18, L19, rfl, h19⟩ := cons_of h18
  obtain ⟨a19, L20, rfl, h20⟩ := cons_of h19
  obtain ⟨a20, L21, rfl, h21⟩ := cons_of h20
  obtain ⟨a21, L22, rfl, h22⟩ := cons_of h21
  obtain ⟨a22, L23, rfl, h23⟩ := cons_of h22
  obtain ⟨a23, L24, rfl, h24⟩ := cons_of h23
  obtain ⟨a24, L25, rfl, h25⟩ := cons_of h24
  obtain ⟨a25, L26, rfl, h26⟩ := cons_of h25
  obtain ⟨a26, L27, rfl, h27⟩ := cons_of h26
  obtain ⟨a27, L28, rfl, h28⟩ := cons_of h27
  obtain ⟨a28, L29, rfl, h29⟩ := cons_of h28
  obtain ⟨a29, L30, rfl, h30⟩ := cons_of h29
  obtain ⟨a30, L31, rfl, h31⟩ := cons_of h30
  obtain ⟨a31, L32, rfl, h32⟩ := cons_of h31
  obtain ⟨a32, L33, rfl, h33⟩ := cons_of h32
  obtain ⟨a33, L34, rfl, h34⟩ := cons_of h33
  obtain ⟨a34, L35, rfl, h35⟩ := cons_of h34
  obtain ⟨a35, L36, rfl, h36⟩ := cons_of h35
  obtain ⟨a36, L37, rfl, h37⟩ := cons_of h36
  obtain ⟨a37, L38, rfl, h38⟩ := cons_of h37
  obtain ⟨a38, L39, rfl, h39⟩ := cons_of h38
  obtain rfl := List.eq_nil_of_length_eq_zero h39
  exact pa39 _ _ _ _ _ _ _ _ _ _ _ _ _ _ _ _ _ _ _ _ _ _ _ _ _ _ _ _ _ _ _ _ _ _ _ _ _ _ _
theorem pool0 (ns : List Int) : callF G 29 10 [.a (.scr ns), .a (.int 0)] [] = .ok (.ref 0) [poolM ns 0 0 1 0 0] := by kernel_rfl
theorem rest3 (b : Int) (hb : b = 7 ∨ b = 11 ∨ b = 13) (s : A) (mo : MO) (hm : IsPool mo) : ∃ h', MP.exec C0 0 (S.from f19.body 2) [some (.a s), some (.ref 0), some (.a (.int b)), none, none, none, none, none, none, none, none, none, none, none, none, none, none, none, none, none, none, none, none] [mo] = .ret (.a (.bl true)) h' := by
  rcases hb with rfl | rfl | rfl
  · exact rest_ok (tb := tb7) are7 pre7 rfl pc21 hm
  · exact rest_ok (tb := tb11) are11 pre11 rfl pc33 hm
  · exact rest_ok (tb := tb13) are13 pre13 rfl pc39 hm
theorem main (ns : List Int) (h : ns.length ≤ 63) : ∃ h', callF G 30 19 [.a (.scr ns)] [] = .ok (.a (.bl true)) h' := by
  obtain ⟨u, mo, u1, hm, q⟩ := draw1 (l := []) (mo := poolM ns 0 0 1 0 0) ⟨ns, 0, 0, 1, 0, 0, by decide, rfl⟩ (z := 3) (by decide) (by decide)
  obtain ⟨b, hb, ix⟩ : ∃ b : Int, (b = 7 ∨ b = 11 ∨ b = 13) ∧ ∀ {h : Mem}, idxK (.a (.tup [.int 7, .int 11, .int 13])) (.a (.int u)) h = .ok (.a (.int b)) h := by
    have hu : u = 0 ∨ u = 1 ∨ u = 2 := by omega
    rcases hu with rfl | rfl | rfl
    · exact ⟨7, by decide, fun {h} => idxK_of rfl⟩
    · exact ⟨11, by decide, fun {h} => idxK_of rfl⟩
    · exact ⟨13, by decide, fun {h} => idxK_of rfl⟩
  have t0 : MP.exec C0 0 (S.til f19.body 2) [some (.a (.scr ns)), none, none, none, none, none, none, none, none, none, none, none, none, none, none, none, none, none, none, none, none, none, none] [] = .nx [some (.a (.scr ns)), some (.ref 0), some (.a (.int b)), none, none, none, none, none, none, none, none, none, none, none, none, none, none, none, none, none, none, none, none] [mo] := by
    simp only [f19, S.til, C0]
    simp only [ok_bind, exc_bind, ok_thn, exc_thn, ok_calm, nx_and, ret_and, brk_and, cnt_and, exc_and, ev_cst, ev_var, ev_glb, kBin_eq, ev_bin, ev_neg, kNot_eq, ev_not, ev_and, ev_or, kAnd_t, kAnd_f, kOr_t, kOr_f, kCmp_eq, ev_cmp, ev_chn, chnK_t, chnK_f, kChn1_eq, kChn_nil, kChn_cons, kIfE_t, kIfE_f, ev_ite, kIdx_eq, ev_idx, kSlc2_eq, kSlc_eq, ev_slc, ev_tup, ev_lst, ev_dnew, kLc_eq, ev_lc, kLc2_eq, ev_lc2, ev_call, ev_bi, kBm_eq, ev_bm, kIsi_eq, ev_isi, ev_lrg1, kLrg2_eq, ev_lrg2, evf_none, evf_some, oiK_int, evo_none, evo_some, evs_nil, kCons_eq, kEvs_eq, evs_cons, evIt_seq, evIt_rng1, kRng2_eq, evIt_rng2, kRng3b_eq, kRng3_eq, evIt_rng3, evIt_enu, kZip_eq, evIt_zip, ex_skip, kSeq_eq, ex_seq, kAsg_eq, ex_asg, kPar_eq, ex_par, kSI3_eq, kSI2_eq, kSI1_eq, ex_setIx, kNx_eq, ex_expr, kIfS_t, kIfS_f, ex_ite, kFor_eq, ex_for, ex_while, kRet_eq, ex_ret, ex_retN, kRaise_eq, ex_raise, ex_try, ex_brk, ex_cnt, ex_frz, tryK_nx, tryK_ret, tryK_exc, hndK_nil, hndK_cons, hndK1_f, hndK1_ti, hndK1_tn, unbK_ret, unbK_nx, unb0_ret, unb0_nx, varK_ok, tru_bl, tru_int, tru_tup, tru_lst, tru_non, tru_exc, bin_addK, bin_subK, MP.neg_int, c_lt, c_le, c_gt, c_ge, c_eq, c_ne, c_eqb, c_neb, m_lt, m_le, m_gt, m_ge, seq_tup, seq_lst, len_tup, len_lst, toList_tup, toList_lst, toTup_tup, toTup_lst, int1_int, int1_bl, min2_int, max2_int, abs_int, asg_nm, tup0, tup1, tup2, tup3, tup4, List.set_cons_zero, List.set_cons_succ, List.getElem?_cons_zero, List.getElem?_cons_succ, Bool.false_eq_true, ↓reduceIte, fin_ret, decide_true, decide_false, Bool.not_true, Bool.not_false, kOne_eq, kLcE_t, kLcE_f, lcE_eq, lcQ_nm, lcQ_tp2, lcQ_tp3, lcK1_nm, lcK1_tp2, kLcE3_eq, kLcE2_t, kLcE2_f, lcE2_eq, lcK2_nm, lcK2_tp2, rstE_nil, rstE_cons, asg_tp2, asg_tp3, asg_tp4, forK_nil, par1, par2, par3, pool0, q, ix]
  obtain ⟨h', key⟩ := rest3 b hb (.scr ns) mo hm
  have r : MP.exec C0 0 f19.body [some (.a (.scr ns)), none, none, none, none, none, none, none, none, none, none, none, none, none, none, none, none, none, none, none, none, none, none] [] = .ret (.a (.bl true)) h' := by
    rw [exec_til t0]
    exact key
  rw [callF_run (fi := f19) rfl rfl]
  refine ⟨h'.take 0, ?_⟩
  show fin 0 (MP.exec C0 0 f19.body _ []) = _
  rw [show ([D.a (A.scr ns)].map some ++ List.replicate (f19.ns - f19.np) none) = [some (.a (.scr ns)), none, none, none, none, none, none, none, none, none, none, none, none, none, none, none, none, none, none, none, none, none, none] from rfl, r]
  rfl
end K27
end
section
set_option Elab.async false
set_option linter.all false
set_option maxRecDepth 100000
set_option maxHeartbeats 0
namespace K27
open PySem PySem.Spec L2 MP
open PyProof.Rows hiding St
abbrev hk : PySem.W.Hook := hookX 5 M.fa M.dfs M.xs prog.main.file
def ob (s : PySem.W.SharedT) : AlX := obsXG 5 M.fa M.dfs M.xs prog.main.file (HandSHeadRun.getT s)
theorem ob_eq (s : PySem.W.SharedT) : ob s = hk.obs s.abs := obsXG_eq (HandSHeadRun.getT_eq s)
def loose : List Str := ["DesignError", "BadTable", "TooLarge", "MOST_BY", "is_starter", "strong", "find_strong", "_grown", "room", "roomy", "are_cells", "_has_all", "_times", "room_right", "_law_pool", "_law_draw", "_law_same", "_law_plain", "_law_touched", "_law_are", "_law_faults", "_law_right", "_law_refused"]
theorem run (w : World) : HandSHeadRun.RunEq R (PySem.W.view R.prog [26]) hk ob 4000 loose w := by
  intro os
  kernel_rfl
theorem hx : ∀ d ∈ M.xs, ∀ (cl : List (Str × Addr)) (kV doc pm : Value) (an : Option Addr) (cdv ct : Value) (us : List Value), us.length = 2 → bindArgs (PySem.W.fnX "__init__" d.qual d.params d.body d.scope cl .none kV doc pm an cdv ct) ⟨us, []⟩ = pure ((d.params.args.map (·.arg)).zip us) := by
  show ∀ d ∈ [xD 2 "BadTable.__init__", xD 3 "TooLarge.__init__"], _
  simp only [List.forall_mem_cons]
  exact ⟨fun _ _ _ _ _ _ _ us hl => match us, hl with | [_, _], _ => rfl, fun _ _ _ _ _ _ _ us hl => match us, hl with | [_, _], _ => rfl, fun _ h => absurd h (List.not_mem_nil)⟩
end K27
open PySem PySem.W PySem.Calls PyProof.Rows
theorem PySem.Challenge.cw_designproof_k27_whole_tables_of_pairs_holds : PySem.Challenge.rw_designproof_k27_whole_tables_of_pairs.Holds := by
  w_on; o_law
  refine HandSHeadRun.head_any (r := OpenLaw.row PySem.Challenge.rw_designproof_k27_whole_tables_of_pairs) (q := view (OpenLaw.row PySem.Challenge.rw_designproof_k27_whole_tables_of_pairs).prog [26]) (H := K27.hk) (ob := K27.ob) (M := 4000) (loose := K27.loose) (d := HandSHeadRun.topDef (OpenLaw.row PySem.Challenge.rw_designproof_k27_whole_tables_of_pairs).prog 26) (kwd := []) K27.ob_eq
    (by kernel_rfl) (fun s => by kernel_rfl) K27.run (by kernel_rfl) (by kernel_rfl) (by kernel_rfl) (by rfl) (by first | assumption | decide +kernel) (by decide +kernel) ⟨rfl, rfl, rfl, rfl, rfl, by decide +kernel⟩ ?hw ?hc
  case hw => w_witness2
  case hc =>
    refine MP.endW (l := PySem.Challenge.rw_designproof_k27_whole_tables_of_pairs) (n := 63) (k := 32) (x := "script") rfl (by decide) (by kernel_rfl) ⟨rfl, by decide, by decide⟩ ?F
    intro w mg fa h Y G hmg0
    obtain ⟨K, KX, c⟩ := Y
    have hmg : mg ("law" : PySem.Str) = some (.ref fa) := by
      have e : (HandSHeadRun.topDef (OpenLaw.row PySem.Challenge.rw_designproof_k27_whole_tables_of_pairs).prog 26).name = ("law" : PySem.Str) := by kernel_rfl
      rw [← e]
      exact hmg0
    exact MP.Mod.law (M := K27.M) (G := K27.G) (f := 19) (F := K27.F19) (k := 29) KX G c K27.good (by kernel_rfl) K27.hx K27.hG K27.hb rfl rfl rfl hmg K27.main
end
