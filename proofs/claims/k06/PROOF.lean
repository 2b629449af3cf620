import PyProof.Rows.All
import Wide.All
import OpenK.AllK
import Wide.FinOn
import HandS.ForMost
import HandS.Flow
import HandS.Star
import HandS.TupAny
import HandS.Wide
import KE.KeyNested
import KE.KDictKeyed
import KE.SortData
import KE.SortKeyHeap
import HandS.Lambda
import HandS.TupMul
import HandS.IsInst
import HandS.Deep
import HandS.Style
import HandS.Property
import HandS.MakeKwOnly
import HandS.Zip
import HandS.Walk
import KE.GoesMore
import HandS.Conv
import HandS.TupLen
import HandS.DictComp
import KE.KDictDisplayH
import KE.KDictWalk
import HandS.ListItems
import KE.KDictItemsList
import HandS.WordsDict
import HandS.Replace
import HandS.Text
import HandS.Iter
import KE.KEqDict
import HandS.SortKw
import HandS.ExcOwn
import HandS.TryOnly
import HandS.HeadHook2
import KE.KNestM
import HandS.Ends
import HandS.HeadEnd
import HandS.EndTab
import PySem.Challenge.RW_limitwithin_k06_known
import KE.KStateDown
import HandS.Head0
import HandS.Head1
import HandS.Head2
set_option Elab.async false
set_option linter.all false
set_option maxRecDepth 100000
namespace MC
open PySem

/-! ### data -/
inductive D where
  | non | bl (b : Bool) | int (i : Int) | str (x : Str)
  | tup (xs : List D) | lst (xs : List D) | dct (kvs : List (D × D)) | ins (c : Nat) (fs : List (Nat × D)) | ref (n : Nat)
inductive O where
  | lst (xs : List D) | dct (kvs : List (D × D)) | ins (c : Nat) (fs : List (Nat × D))
  /-- a dict that was walked: it is read only from then on -/
  | lkd (kvs : List (D × D))
abbrev Sg := List (Option D)
abbrev Hs := List O
structure Ex where
  cls : Nat
  arg : D
inductive Res (α : Type) where
  | ok (a : α) (h : Hs)
  | ex (x : Ex) (h : Hs)
  | no
def Res.bind {α β : Type} (r : Res α) (f : α → Hs → Res β) : Res β := match r with
  | .ok a h => f a h
  | .ex _ _ => .no
  | .no => .no
/-- .. an exception goes on -/
def Res.bindX {α β : Type} (r : Res α) (f : α → Hs → Res β) : Res β := match r with
  | .ok a h => f a h
  | .ex x h => .ex x h
  | .no => .no
def Res.of {α : Type} (o : Option α) (h : Hs) : Res α := match o with
  | some a => .ok a h
  | none => .no

mutual
def D.eqb : D → D → Bool
  | .non, .non => true
  | .bl a, .bl b => a == b
  | .int i, .int j => i == j
  | .str x, .str y => decide (x = y)
  | .tup xs, .tup ys => D.eqbL xs ys
  | .lst xs, .lst ys => D.eqbL xs ys
  | .dct xs, .dct ys => D.eqbK xs ys
  | .ins c fs, .ins e gs => c == e && D.eqbF fs gs
  | .ref n, .ref m => n == m
  | _, _ => false
def D.eqbL : List D → List D → Bool
  | [], [] => true
  | x :: xs, y :: ys => D.eqb x y && D.eqbL xs ys
  | _, _ => false
def D.eqbK : List (D × D) → List (D × D) → Bool
  | [], [] => true
  | (a, b) :: xs, (c, e) :: ys => D.eqb a c && D.eqb b e && D.eqbK xs ys
  | _, _ => false
def D.eqbF : List (Nat × D) → List (Nat × D) → Bool
  | [], [] => true
  | (a, b) :: xs, (c, e) :: ys => a == c && D.eqb b e && D.eqbF xs ys
  | _, _ => false
end
def O.eqb : O → O → Bool
  | .lst xs, .lst ys => D.eqbL xs ys
  | .dct xs, .dct ys => D.eqbK xs ys
  | .ins c fs, .ins e gs => c == e && D.eqbF fs gs
  | .lkd xs, .lkd ys => D.eqbK xs ys
  | _, _ => false
def Hs.eqb : Hs → Hs → Bool
  | [], [] => true
  | x :: xs, y :: ys => O.eqb x y && Hs.eqb xs ys
  | _, _ => false

/-! ### as plain data (a list of the heap read) -/
mutual
def D.pyQ : D → Option PyData
  | .non => some .none
  | .bl b => some (.bool b)
  | .int i => some (.int i)
  | .str x => some (.str x)
  | .tup xs => (D.pyP xs).map .tuple
  | .lst xs => (D.pyP xs).map .list
  | _ => none
def D.pyP : List D → Option (List PyData)
  | [] => some []
  | x :: xs => match D.pyQ x, D.pyP xs with
    | some a, some r => some (a :: r)
    | _, _ => none
end
/-- an item of a list: data, or a list of the heap -/
def D.pyE (h : Hs) : D → Option PyData
  | .ref n => match h[n]? with
    | some (.lst xs) => (D.pyP xs).map .list
    | _ => none
  | d => d.pyQ
def D.pyEs (h : Hs) : List D → Option (List PyData)
  | [] => some []
  | x :: xs => match D.pyE h x, D.pyEs h xs with
    | some a, some r => some (a :: r)
    | _, _ => none
def D.py (h : Hs) : D → Option PyData
  | .ref n => match h[n]? with
    | some (.lst xs) => match D.pyP xs with
      | some r => some (.list r)
      | none => (D.pyEs h xs).map .list
    | _ => none
  | d => d.pyQ

/-! ### keys of dicts -/
mutual
def D.key : D → Option NestedKey
  | .non => some .none
  | .bl b => some (.num (if b = true then 1 else 0))
  | .int i => some (.num i)
  | .str x => some (.text x)
  | .tup xs => (D.keys xs).map .tup
  | _ => none
def D.keys : List D → Option (List NestedKey)
  | [] => some []
  | x :: xs => match D.key x, D.keys xs with
    | some k, some ks => some (k :: ks)
    | _, _ => none
end
/-- a tuple that can be a key -/
def D.tkey : D → Option NestedKey
  | .tup xs => match D.key (.tup xs) with
    | some k => if k.depth ≤ 8 then some k else none
    | none => none
  | _ => none
def getK (k : NestedKey) : List (D × D) → Option D
  | [] => none
  | (a, v) :: r => if D.key a = some k then some v else getK k r
def hasK (k : NestedKey) (kvs : List (D × D)) : Bool := (getK k kvs).isSome
def replK (k : NestedKey) (v : D) : List (D × D) → List (D × D)
  | [] => []
  | (a, u) :: r => (if D.key a = some k then (a, v) else (a, u)) :: replK k v r
/-- a store: the first key stays -/
def putN (a : D) (k : NestedKey) (v : D) (kvs : List (D × D)) : List (D × D) := if hasK k kvs then replK k v kvs else kvs ++ [(a, v)]
def D.kvs (h : Hs) : D → Option (List (D × D))
  | .dct kvs => some kvs
  | .ref n => match h[n]? with
    | some (.dct kvs) => some kvs
    | some (.lkd kvs) => some kvs
    | _ => none
  | _ => none

/-! ### operations -/
def small (i : Int) : Bool := decide (-(2 ^ 64) < i) && decide (i < 2 ^ 64)
/-- the items of a list or a tuple -/
def D.seq (h : Hs) : D → Option (List D)
  | .tup xs => some xs
  | .lst xs => some xs
  | .ref n => match h[n]? with
    | some (.lst xs) => some xs
    | _ => none
  | _ => none
def D.lseq (h : Hs) : D → Option (List D)
  | .lst xs => some xs
  | .ref n => match h[n]? with
    | some (.lst xs) => some xs
    | _ => none
  | _ => none
def D.tseq : D → Option (List D)
  | .tup xs => some xs
  | _ => none
def opAdd (h : Hs) (a b : D) : Option D := match a, b with
  | .int i, .int j => some (.int (i + j))
  | .str x, .str y => if x.length + y.length ≤ sizeLine then some (.str (x ++ y)) else none
  | .tup xs, .tup ys => if xs.length + ys.length ≤ sizeLine then some (.tup (xs ++ ys)) else none
  | a, b => match a.lseq h, b.lseq h with
    | some xs, some ys => if xs.length + ys.length ≤ sizeLine then some (.lst (xs ++ ys)) else none
    | _, _ => none
def opMul (a b : D) : Option D := match a, b with
  | .int i, .int j => if small i || small j then some (.int (i * j)) else none
  | .tup xs, .int k => if decide (1 ≤ k) && decide (k ≤ 1000) && decide (xs.length ≤ 1000) && !xs.isEmpty then some (.tup (List.replicate k.toNat xs).flatten) else none
  | _, _ => none
def opBin (h : Hs) (op : Operator) (a b : D) : Option D := match op with
  | .Add => opAdd h a b
  | .Sub => match a, b with
    | .int i, .int j => some (.int (i - j))
    | _, _ => none
  | .Mult => opMul a b
  | .FloorDiv => match a, b with
    | .int i, .int j => if decide (0 < j) && decide (j < 2 ^ 1000) then some (.int (i / j)) else none
    | _, _ => none
  | .Mod => match a, b with
    | .int i, .int j => if 0 < j then some (.int (i % j)) else none
    | _, _ => none
  | .Pow => match a, b with
    | .int i, .int j => if decide (0 ≤ j) && decide (j ≤ 1000) && decide (i.natAbs < 2 ^ 64) then some (.int (i ^ j.toNat)) else none
    | _, _ => none
  | _ => none
def tru (h : Hs) : D → Option Bool
  | .non => some false
  | .bl b => some b
  | .int i => some (i != 0)
  | .str x => if x.length ≤ sizeLine then some ((x.length : Int) != 0) else none
  | .tup xs => some (!xs.isEmpty)
  | .lst xs => some (!xs.isEmpty)
  | .ref n => match h[n]? with
    | some (.lst xs) => some (!xs.isEmpty)
    | _ => none
  | _ => none
def eqD (h : Hs) (a b : D) : Option Bool := match a.py h, b.py h with
  | some x, some y => if SeqAt.shaped x && SeqAt.shaped y then some (PyData.eqv x y) else none
  | _, _ => none
def D.flat : D → Bool
  | .non | .bl _ | .int _ | .str _ => true
  | _ => false
def eqF : D → D → Bool
  | .non, .non => true
  | .bl a, .bl b => a == b
  | .bl a, .int j => (if a then 1 else 0) == j
  | .int i, .bl b => i == (if b then 1 else 0)
  | .int i, .int j => i == j
  | .str x, .str y => decide (x = y)
  | _, _ => false
def inP (h : Hs) (x s : D) : Option Bool := match x.py h, s.py h with
  | some d, some (.list ds) => if SeqAt.shaped d && SeqAt.shaped (.list ds) then some (ds.any fun z => PyData.eqv z d) else none
  | _, _ => none
def inD (h : Hs) (x s : D) : Option Bool := match s.seq h with
  | some xs => if x.flat && xs.all D.flat then some (xs.any fun y => eqF y x) else inP h x s
  | none => none
def D.isNon : D → Bool
  | .non => true
  | _ => false
def opCmp (h : Hs) (op : CmpOp) (a b : D) : Option D := match op with
  | .Eq => (eqD h a b).map .bl
  | .NotEq => (eqD h a b).map fun c => .bl !c
  | .Lt => match a, b with
    | .int i, .int j => some (.bl (decide (i < j)))
    | _, _ => none
  | .LtE => match a, b with
    | .int i, .int j => some (.bl (decide (i ≤ j)))
    | _, _ => none
  | .Gt => match a, b with
    | .int i, .int j => some (.bl (decide (j < i)))
    | _, _ => none
  | .GtE => match a, b with
    | .int i, .int j => some (.bl (decide (j ≤ i)))
    | _, _ => none
  | .In => (inD h a b).map .bl
  | .NotIn => (inD h a b).map fun c => .bl !c
  | .Is => match b with
    | .non => some (.bl a.isNon)
    | .bl c => match a with
      | .bl b => some (.bl (b == c))
      | _ => some (.bl false)
    | _ => none
  | .IsNot => match b with
    | .non => some (.bl !a.isNon)
    | .bl c => match a with
      | .bl b => some (.bl (b != c))
      | _ => some (.bl true)
    | _ => none
def atD (xs : List D) (i : Int) : Option D := (L2.ixN xs.length i).bind fun j => xs[j]?
def look (k : D) : List (D × D) → Option D
  | [] => none
  | (a, b) :: r => if eqF a k then some b else look k r
def idxD (h : Hs) (a i : D) : Option D := match a, i with
  | .tup xs, .int k => atD xs k
  | .lst xs, .int k => atD xs k
  | .ref n, i => match h[n]?, i with
    | some (.lst xs), .int k => atD xs k
    | _, _ => none
  | _, _ => none
def cutD (xs : List D) (lo hi : Option Int) : List D := (xs.drop (HT.sIx xs.length 0 lo)).take (HT.sIx xs.length xs.length hi - HT.sIx xs.length 0 lo)
def slcD (h : Hs) (a : D) (lo hi : Option Int) : Option D := match a with
  | .tup xs => some (.tup (cutD xs lo hi))
  | a => match a.lseq h with
    | some xs => some (.lst (cutD xs lo hi))
    | none => none
def getF (f : Nat) : List (Nat × D) → Option D
  | [] => none
  | (g, d) :: r => if g == f then some d else getF f r
def putF (f : Nat) (d : D) : List (Nat × D) → List (Nat × D)
  | [] => [(f, d)]
  | (g, e) :: r => if g == f then (g, d) :: r else (g, e) :: putF f d r
def D.fields (h : Hs) : D → Option (Nat × List (Nat × D))
  | .ins c fs => some (c, fs)
  | .ref n => match h[n]? with
    | some (.ins c fs) => some (c, fs)
    | _ => none
  | _ => none
/-- kinds for isinstance -/
inductive Ty where
  | int | bool | str | tuple | list | own (c : Nat)
def isTy (h : Hs) : D → Ty → Bool
  | .int _, .int => true
  | .bl _, .int => true
  | .bl _, .bool => true
  | .str _, .str => true
  | .tup _, .tuple => true
  | .lst _, .list => true
  | .ins c _, .own e => c == e
  | .ref n, t => match h[n]?, t with
    | some (.lst _), .list => true
    | some (.ins c _), .own e => c == e
    | _, _ => false
  | _, _ => false
/-- what isinstance can be asked of here -/
def tyOk (cok : Nat → Bool) (h : Hs) : D → Bool
  | .ref n => match h[n]? with
    | some (.lst _) => true
    | some (.ins c _) => cok c
    | _ => false
  | .ins c _ => cok c
  | .dct _ => false
  | _ => true
def tyIn (cok : Nat → Bool) : Ty → Bool
  | .own c => cok c
  | _ => true

/-! ### freezing what a def made -/
mutual
/-- no refs -/
def D.nr : D → Bool
  | .ref _ => false
  | .tup xs => D.nrL xs
  | .lst xs => D.nrL xs
  | .dct kvs => D.nrK kvs
  | .ins _ fs => D.nrF fs
  | _ => true
def D.nrL : List D → Bool
  | [] => true
  | x :: xs => D.nr x && D.nrL xs
def D.nrK : List (D × D) → Bool
  | [] => true
  | (a, b) :: xs => D.nr a && D.nr b && D.nrK xs
def D.nrF : List (Nat × D) → Bool
  | [] => true
  | (_, b) :: xs => D.nr b && D.nrF xs
end
def frzD (new : Hs) (base : Nat) : Nat → D → Option D
  | 0, _ => none
  | k + 1, d => if d.nr then some d else match d with
    | .ref n => if n < base then some (.ref n) else match new[n - base]? with
      | some (.lst xs) => (xs.mapM (frzD new base k)).map .lst
      | some (.dct kvs) => (kvs.mapM (m := Option) (β := D × D) fun (p : D × D) => (frzD new base k p.2).map fun b => (p.1, b)).map .dct
      | some (.lkd kvs) => (kvs.mapM (m := Option) (β := D × D) fun (p : D × D) => (frzD new base k p.2).map fun b => (p.1, b)).map .dct
      | some (.ins c fs) => (fs.mapM (m := Option) (β := Nat × D) fun (p : Nat × D) => (frzD new base k p.2).map fun b => (p.1, b)).map (.ins c)
      | none => none
    | .tup xs => (xs.mapM (frzD new base k)).map .tup
    | .lst xs => (xs.mapM (frzD new base k)).map .lst
    | .dct kvs => (kvs.mapM (m := Option) (β := D × D) fun (p : D × D) => (frzD new base k p.2).map fun b => (p.1, b)).map .dct
    | .ins c fs => (fs.mapM (m := Option) (β := Nat × D) fun (p : Nat × D) => (frzD new base k p.2).map fun b => (p.1, b)).map (.ins c)
    | d => some d
/-- behind a def: what it made is let go or frozen (fz), if what stood before is as it was -/
def back (fz : Bool) (h0 : Hs) (d : D) (h : Hs) : Res D :=
  if h.length = h0.length then .ok d h
  else if fz && Hs.eqb (h.take h0.length) h0 then match frzD (h.drop h0.length) h0.length 6 d with
    | some d' => .ok d' h0
    | none => .ok d h
  else .ok d h

/-- behind a def that raised -/
def backX (h0 : Hs) (x : Ex) (h : Hs) : Res D := if Hs.eqb (h.take h0.length) h0 then .ex x h0 else .ex x h

/-! ### the core language -/
inductive Bi where
  | len | tuple | list | all | any | max1 | min1 | max2 | min2 | sum | int | abs
inductive Bm where
  | append | pop0 | popAt | extend
mutual
inductive E where
  | cst (d : D)
  | var (i : Nat)
  | glo (x : Nat) (d : D)
  | bin (op : Operator) (a b : E)
  | neg (a : E)
  | not (a : E)
  | and (a b : E)
  | or (a b : E)
  | cmp (op : CmpOp) (a b : E)
  | chn (o1 o2 : CmpOp) (a b c : E)
  | ite (c a b : E)
  | tup (as : A)
  | lst (fz : Bool) (as : A)
  | idx (a i : E)
  | slc (a : E) (lo hi : OE)
  | fld (a : E) (f : Nat)
  | fn (f : Nat) (as : A)
  | mk (c : Nat) (sh : Nat) (as ks : A)
  | mth (m : Nat) (a : E) (as : A)
  | prp (m : Nat) (a : E)
  | bi (b : Bi) (as : A)
  | isi (a : E) (ts : List Ty)
  | bm (m : Bm) (a : E) (as : A)
  | lc (fz : Bool) (own : List Nat) (elt : E) (g : G) (it : I) (c : OE)
  | dpl (as : A) (k : E)
  | nls (a : E)
  | ieq (a b : E)
  | iln (a : E)
  | isb (ng : Bool) (a b : E)
  | rev (a : E)
  | pop0 (a : E)
  | din (ng : Bool) (a b : E)
  | dget (a b : E)
  | dnew
  | done (a b : E)
  /-- g(lambda: f(as)), whether it raises an exception of the class -/
  | xl (g f : Nat) (as : A) (c : Nat)
  /-- d == {}; text.index(sign); text.join(texts) -/
  | deq (ng : Bool) (a b : E)
  | sidx (a b : E)
  | sjoin (a b : E)
  | dlen (a : E)
  | dlst (fz : Bool) (a : E)
  | dof (a : E)
  | dupd (a b : E)
  | dcm (fz : Bool) (own : List Nat) (k v : E) (g : G) (it : I) (c : OE)
  | dsd (a k v : E)
  | dpk (a k : E)
  | dits (a : E)
  | nval (x : Nat) (a : E)
  | lc2 (fz : Bool) (own own2 : List Nat) (elt : E) (g : G) (it : I) (g2 : G) (it2 : I)
  /-- sorted(a, key=lambda x: (len(x), x)) -/
  | slen (a : E)
  /-- list(range(a)) -/
  | lrng (a : E)
inductive A where
  | nil | cons (e : E) (r : A) | star (e : E) (r : A)
inductive OE where
  | none | some (e : E)
inductive G where
  | nm (i : Nat) | tup (gs : GL) | att (a : E) (f : Nat) | sub (a i : E) | dsub (a i : E)
inductive GL where
  | nil | cons (g : G) (r : GL)
inductive I where
  | val (e : E) | chars (e : E) | rng1 (a : E) | rng2 (a b : E) | rng3 (a b c : E) | zip (a b : E) | enum (a : E) | dkeys (e : E) | ditems (e : E) | dvk (x : Nat) (e : E)
end
mutual
inductive S where
  | exp (e : E) | ret (e : E) | retN | asg (g : G) (e : E) | par (i j : Nat) (a b : E) | par3 (i j l : Nat) (a b c : E) | aug (i : Nat) (op : Operator) (e : E)
  | ifs (c : E) (t f : B) | for_ (g : G) (it : I) (b : B) | whl (c : E) (b : B) | pass | brk | cnt | mat (e : E) (cs : C) | never
  | raise (c : Nat) | xret (f : Nat) (as : A) | xasg (i f : Nat) (as : A) | xexp (f : Nat) (as : A)
inductive B where
  | nil | cons (s : S) (r : B)
inductive C where
  | nil | cons (k : Str) (b : B) (r : C)
end
/-- the program's tables -/
structure Tab where
  /-- a class's method (class, method's name) : the def -/
  meth : Nat → Nat → Option Nat
  /-- a class's __init__; whether an instance is frozen when it is made -/
  init : Nat → Option (Nat × Bool)
  /-- a shape of a call by keywords: the parameters' values of the positional ones and the keywords' -/
  shape : Nat → List D → List D → Option (List D)
  fuel : Nat
  /-- classes that isinstance knows -/
  cok : Nat → Bool
  /-- a class's plain fields -/
  fok : Nat → Nat → Bool
  /-- the names __eq__, __len__ -/
  eq : Nat
  len : Nat
def rngD (lo c : Int) (n : Nat) : List D := (List.range n).map fun (i : Nat) => D.int (lo + (i : Int) * c)
def big (i : Int) : Bool := decide (-(2 ^ 62) ≤ i) && decide (i < 2 ^ 62)
/-- what is walked: items, or a list of the heap -/
inductive Src where
  | its (xs : List D) | live (n : Nat)
def pairs (xs ys : List D) : List D := (xs.zip ys).map fun p => .tup [p.1, p.2]
def numbered (i : Nat) : List D → List D
  | [] => []
  | x :: xs => .tup [.int i, x] :: numbered (i + 1) xs
def lookP (k : D) : List (D × D) → Option D := look k
def boolsOf : List D → Option (List Bool)
  | [] => some []
  | .bl b :: r => (boolsOf r).map (b :: ·)
  | _ :: _ => none
/-- an item put behind the list at n -/
def pushM (n : Nat) (y : D) (h : Hs) : Res Unit := match h[n]? with
  | some (.lst acc) => if acc.length < sizeLine then .ok () (h.set n (.lst (acc ++ [y]))) else .no
  | _ => .no
/-- the loop of a comprehension; the new list stands at n -/
def loopLC (tg : D → Sg → Hs → Res Sg) (ts : Sg → Hs → Res Bool) (el : Sg → Hs → Res D) (σ : Sg) (n : Nat) : List D → Hs → Res Unit
  | [], h => .ok () h
  | x :: xs, h => (tg x σ h).bind fun σ' h => (ts σ' h).bind fun k h => if k then (el σ' h).bind fun y h => (pushM n y h).bind fun _ h => loopLC tg ts el σ n xs h else loopLC tg ts el σ n xs h
/-- .. over a list of the heap, at m -/
def loopLCn (tg : D → Sg → Hs → Res Sg) (ts : Sg → Hs → Res Bool) (el : Sg → Hs → Res D) (σ : Sg) (n m : Nat) : Nat → Nat → Hs → Res Unit
  | 0, _, _ => .no
  | k + 1, i, h => match h[m]? with
    | some (.lst xs) => match xs[i]? with
      | some x => (tg x σ h).bind fun σ' h => (ts σ' h).bind fun b h => if b then (el σ' h).bind fun y h => (pushM n y h).bind fun _ h => loopLCn tg ts el σ n m k (i + 1) h else loopLCn tg ts el σ n m k (i + 1) h
      | none => .ok () h
    | _ => .no
/-! ### objects that are walked while they stand still -/
def O.items : O → Option (List D)
  | .lst xs => some xs
  | _ => none
def grd (o : O) (n : Nat) (h : Hs) : Bool := match h[n]? with
  | some u => O.eqb u o
  | none => false
def loopLCg (gd : Hs → Bool) (tg : D → Sg → Hs → Res Sg) (ts : Sg → Hs → Res Bool) (el : Sg → Hs → Res D) (σ : Sg) (n : Nat) : List D → Hs → Res Unit
  | [], h => if gd h then .ok () h else .no
  | x :: xs, h => if gd h then (tg x σ h).bind fun σ' h => (ts σ' h).bind fun k h => if k then (el σ' h).bind fun y h => (pushM n y h).bind fun _ h => loopLCg gd tg ts el σ n xs h else loopLCg gd tg ts el σ n xs h else .no
/-- an entry put into the dict at n -/
def storeM (n : Nat) (x y : D) (h : Hs) : Res Unit := match h[n]?, x.tkey with
  | some (.dct kvs), some k => if kvs.length < sizeLine then .ok () (h.set n (.dct (putN x k y kvs))) else .no
  | _, _ => .no
def loopDC (tg : D → Sg → Hs → Res Sg) (ts : Sg → Hs → Res Bool) (ky vl : Sg → Hs → Res D) (σ : Sg) (n : Nat) : List D → Hs → Res Unit
  | [], h => .ok () h
  | x :: xs, h => (tg x σ h).bind fun σ' h => (ts σ' h).bind fun k h => if k then (ky σ' h).bind fun y h => (vl σ' h).bind fun z h => (storeM n y z h).bind fun _ h => loopDC tg ts ky vl σ n xs h else loopDC tg ts ky vl σ n xs h
def loopDCg (gd : Hs → Bool) (tg : D → Sg → Hs → Res Sg) (ts : Sg → Hs → Res Bool) (ky vl : Sg → Hs → Res D) (σ : Sg) (n : Nat) : List D → Hs → Res Unit
  | [], h => if gd h then .ok () h else .no
  | x :: xs, h => if gd h then (tg x σ h).bind fun σ' h => (ts σ' h).bind fun k h => if k then (ky σ' h).bind fun y h => (vl σ' h).bind fun z h => (storeM n y z h).bind fun _ h => loopDCg gd tg ts ky vl σ n xs h else loopDCg gd tg ts ky vl σ n xs h else .no
def deqD (ng : Bool) (h : Hs) (x y : D) : Option D := match x.kvs h, y.kvs h with
  | some kvs, some [] => some (.bl (kvs.isEmpty != ng))
  | _, _ => none
def sidxD (x y : D) : Option D := match x, y with
  | .str a, .str b => match Builtin.Str.occurrences a b 0 a.length 1 with
    | i :: _ => some (.int (i : Nat))
    | [] => none
  | _, _ => none
def strsD : List D → Option (List Str)
  | [] => some []
  | .str x :: r => (strsD r).map (x :: ·)
  | _ :: _ => none
def sjoinD (h : Hs) (x y : D) : Option D := match x, y.lseq h with
  | .str a, some xs => match strsD xs with
    | some ys => if (ys.map (·.length)).sum + ys.length * a.length ≤ 16777216 then some (.str (Txt.join a ys)) else none
    | none => none
  | _, _ => none
def charsD (x : Str) : List D := x.cps.toList.map fun c => .str ⟨#[c]⟩
def dinD (ng : Bool) (h : Hs) (x y : D) : Option D := match y.kvs h, x.tkey with
  | some kvs, some k => some (.bl (hasK k kvs != ng))
  | _, _ => none
def isbD (ng : Bool) (x y : D) : Option D := match y with
  | .bl c => match x with
    | .bl b => some (.bl ((b == c) != ng))
    | .non => some (.bl ng)
    | _ => none
  | _ => none
def dgetD (h : Hs) (x y : D) : Option D := match x.kvs h, y.tkey with
  | some kvs, some k => getK k kvs
  | _, _ => none
def revD (h : Hs) (a : D) : Option D := match a with
  | .tup xs => some (.tup xs.reverse)
  | a => match a.lseq h with
    | some xs => some (.lst xs.reverse)
    | none => none
def pairsD : List D → Option (List (D × D))
  | [] => some []
  | .tup [k, v] :: r => match k.tkey, pairsD r with
    | some _, some s => some ((k, v) :: s)
    | _, _ => none
  | _ :: _ => none
def mergeN (kvs : List (D × D)) : List (D × D) → List (D × D)
  | [] => kvs
  | (a, v) :: r => match a.tkey with
    | some k => mergeN (putN a k v kvs) r
    | none => kvs
def popM (x : D) (h : Hs) : Res D := match x with
  | .ref n => match h[n]? with
    | some (.lst (y :: ys)) => .ok y (h.set n (.lst ys))
    | _ => .no
  | _ => .no
def wipeM : List Nat → Sg → Sg
  | [], σ => σ
  | v :: vs, σ => (wipeM vs σ).set v none
/-- d.setdefault(k, v) -/
def setdM (x y z : D) (h : Hs) : Res D := match x, y.tkey with
  | .ref n, some k => match h[n]? with
    | some (.dct kvs) => match getK k kvs with
      | some v => .ok v h
      | none => if kvs.length < sizeLine then .ok z (h.set n (.dct (putN y k z kvs))) else .no
    | _ => .no
  | _, _ => .no
def dropK (k : NestedKey) : List (D × D) → List (D × D)
  | [] => []
  | (a, u) :: r => if D.key a = some k then dropK k r else (a, u) :: dropK k r
/-- d.pop(k), the key there -/
def dpopM (x y : D) (h : Hs) : Res D := match x, y.tkey with
  | .ref n, some k => match h[n]? with
    | some (.dct kvs) => match getK k kvs with
      | some v => .ok v (h.set n (.dct (dropK k kvs)))
      | none => .no
    | _ => .no
  | _, _ => .no
def itemsD (kvs : List (D × D)) : List D := kvs.map fun p => .tup [p.1, p.2]
def intsV : List (D × D) → Option (List Int)
  | [] => some []
  | (_, .int i) :: r => (intsV r).map (i :: ·)
  | _ :: _ => none
/-- each one once, in order -/
def dst (ks : List Int) : List Int → List Int
  | [] => ks
  | i :: r => if i ∈ ks then dst ks r else dst (ks ++ [i]) r
def loopLC2 (tg : D → Sg → Hs → Res Sg) (it2 : Sg → Hs → Res Src) (tg2 : D → Sg → Hs → Res Sg) (el : Sg → Hs → Res D) (σ : Sg) (own2 : List Nat) (n : Nat) : List D → Hs → Res Unit
  | [], h => .ok () h
  | x :: xs, h => (tg x σ h).bind fun σ' h => (it2 σ' h).bind fun s h => match s with
    | .its ys => (loopLC tg2 (fun _ h => .ok true h) el (wipeM own2 σ') n ys h).bind fun _ h => loopLC2 tg it2 tg2 el σ own2 n xs h
    | _ => .no
def notRef (n : Nat) : D → Bool
  | .ref m => m != n
  | _ => true
def updM (x y : D) (h : Hs) : Res D := match x, y.kvs h with
  | .ref n, some more => match h[n]? with
    | some (.dct kvs) => if !kvs.isEmpty && decide (kvs.length + more.length ≤ sizeLine) && notRef n y then .ok .non (h.set n (.dct (mergeN kvs more))) else .no
    | _ => .no
  | _, _ => .no
def tst (x : D) (h : Hs) : Res Bool := .of (tru h x) h
def biD (h : Hs) (b : Bi) (as : List D) : Option D := match b, as with
  | .len, [a] => match a with
    | .str x => if x.length ≤ sizeLine then some (.int x.length) else none
    | a => (a.seq h).map fun xs => .int xs.length
  | .tuple, [a] => (a.seq h).map .tup
  | .list, [a] => (a.seq h).map .lst
  | .all, [a] => (a.lseq h).bind fun xs => (boolsOf xs).map fun bs => D.bl (bs.all id)
  | .any, [a] => (a.lseq h).bind fun xs => (boolsOf xs).map fun bs => D.bl (bs.any id)
  | .max2, [.int i, .int j] => some (.int (if j > i then j else i))
  | .min2, [.int i, .int j] => some (.int (if j < i then j else i))
  | .int, [.int i] => some (.int i)
  | .int, [.bl k] => some (.int (if k then 1 else 0))
  | .abs, [.int i] => some (.int (if i < 0 then -i else i))
  | _, _ => none
def setO (h : Hs) (n : Nat) (o : O) : Hs := h.set n o
def bmD (m : Bm) (a : D) (as : List D) (h : Hs) : Res D := match m, a, as with
  | .append, .ref n, [x] => match h[n]? with
    | some (.lst xs) => if xs.length < sizeLine then .ok .non (setO h n (.lst (xs ++ [x]))) else .no
    | _ => .no
  | .extend, .ref n, [.ref m] => match h[n]?, h[m]? with
    | some (.lst xs), some (.lst ys) => if xs.length + ys.length ≤ sizeLine then .ok .non (setO h n (.lst (xs ++ ys))) else .no
    | _, _ => .no
  | _, _, _ => .no
/-- tuples of ints -/
def intsT : List D → Option (List Int)
  | [] => some []
  | .int i :: r => (intsT r).map (i :: ·)
  | _ :: _ => none
def rowsI : List D → Option (List (List Int))
  | [] => some []
  | .tup xs :: r => match intsT xs, rowsI r with
    | some is, some rs => some (is :: rs)
    | _, _ => none
  | _ :: _ => none
def rowI (is : List Int) : D := .tup (is.map D.int)
def keyI (is : List Int) : PyData := .tuple [.int is.length, .tuple (is.map PyData.int)]
/-- sorted by insertion; what is found is looked through -/
def insI (x : List Int) : List (List Int) → List (List Int)
  | [] => [x]
  | y :: r => if PySem.W.dataLe false keyI x y then x :: y :: r else y :: insI x r
def srtI (l : List (List Int)) : List (List Int) := l.foldr insI []
def srtB (l m : List (List Int)) : Bool := decide (m.Perm l) && decide (m.Pairwise fun a b => PySem.W.dataLe false keyI a b = true) && decide (∀ a ∈ m, ∀ b ∈ m, PySem.W.dataLe false keyI a b = true → PySem.W.dataLe false keyI b a = true → a = b)
def kvsS : List D → Option (List (Str × D))
  | [] => some []
  | .tup [.str k, v] :: r => (kvsS r).map fun s => (k, v) :: s
  | _ :: _ => none
/-- the last one of the name -/
def lookS (k : Str) : List (Str × D) → Option D → Option D
  | [], o => o
  | (a, v) :: r, o => lookS k r (if k = a then some v else o)

section
variable (T : Tab) (cl : Nat → List D → Hs → Res D)
mutual
def evE : E → Sg → Hs → Res D
  | .cst d, _, h => .ok d h
  | .var i, σ, h => match σ[i]? with
    | some (some d) => .ok d h
    | _ => .no
  | .glo _ d, _, h => .ok d h
  | .bin op a b, σ, h => (evE a σ h).bind fun x h => (evE b σ h).bind fun y h => .of (opBin h op x y) h
  | .neg a, σ, h => (evE a σ h).bind fun x h => match x with
    | .int i => .ok (.int (-i)) h
    | _ => .no
  | .not a, σ, h => (evE a σ h).bind fun x h => match tru h x with
    | some k => .ok (.bl (!k)) h
    | none => .no
  | .and a b, σ, h => (evE a σ h).bind fun x h => match tru h x with
    | some true => evE b σ h
    | some false => .ok x h
    | none => .no
  | .or a b, σ, h => (evE a σ h).bind fun x h => match tru h x with
    | some true => .ok x h
    | some false => evE b σ h
    | none => .no
  | .cmp op a b, σ, h => (evE a σ h).bind fun x h => (evE b σ h).bind fun y h => .of (opCmp h op x y) h
  | .chn o1 o2 a b c, σ, h => (evE a σ h).bind fun x h => (evE b σ h).bind fun y h => match opCmp h o1 x y with
    | some (.bl true) => (evE c σ h).bind fun z h => .of (opCmp h o2 y z) h
    | some (.bl false) => .ok (.bl false) h
    | _ => .no
  | .ite c a b, σ, h => ((evE c σ h).bind tst).bind fun k h => if k then evE a σ h else evE b σ h
  | .tup as, σ, h => (evA as σ h).bind fun xs h => if xs.length ≤ sizeLine then .ok (.tup xs) h else .no
  | .lst fz as, σ, h => (evA as σ h).bind fun xs h => if xs.length ≤ sizeLine then (if fz then .ok (.lst xs) h else .ok (.ref h.length) (h ++ [.lst xs])) else .no
  | .idx a i, σ, h => (evE a σ h).bind fun x h => (evE i σ h).bind fun y h => .of (idxD h x y) h
  | .slc a lo hi, σ, h => (evE a σ h).bind fun x h => (evOE lo σ h).bind fun l h => (evOE hi σ h).bind fun u h => match l, u with
    | none, none => .of (slcD h x none none) h
    | some (.int l), none => .of (slcD h x (some l) none) h
    | none, some (.int u) => .of (slcD h x none (some u)) h
    | some (.int l), some (.int u) => .of (slcD h x (some l) (some u)) h
    | _, _ => .no
  | .fld a f, σ, h => (evE a σ h).bind fun x h => match x.fields h with
    | some (c, fs) => if T.fok c f then .of (getF f fs) h else .no
    | none => .no
  | .fn f as, σ, h => (evA as σ h).bind fun xs h => cl f xs h
  | .mk c sh as ks, σ, h => (evA as σ h).bind fun xs h => (evA ks σ h).bind fun ys h => match T.init c, T.shape sh xs ys with
    | some (f, fz), some zs => (cl f (.ref h.length :: zs) (h ++ [.ins c []])).bind fun d h' => match d with
      | .non => back fz h (.ref h.length) h'
      | _ => .no
    | _, _ => .no
  | .mth m a as, σ, h => (evE a σ h).bind fun x h => match x.fields h with
    | some (c, fs) => match getF m fs, T.meth c m with
      | none, some f => (evA as σ h).bind fun xs h => match x.fields h with
        | some (e, _) => if e = c then cl f (x :: xs) h else .no
        | none => .no
      | _, _ => .no
    | none => .no
  | .prp m a, σ, h => (evE a σ h).bind fun x h => match x.fields h with
    | some (c, _) => match T.meth c m with
      | some f => cl f [x] h
      | none => .no
    | none => .no
  | .bi b as, σ, h => (evA as σ h).bind fun xs h => .of (biD h b xs) h
  | .isi a ts, σ, h => (evE a σ h).bind fun x h => if tyOk T.cok h x && ts.all (tyIn T.cok) then .ok (.bl (ts.any (isTy h x))) h else .no
  | .bm m a as, σ, h => (evE a σ h).bind fun x h => match x.lseq h with
    | some _ => (evA as σ h).bind fun xs h => bmD m x xs h
    | none => .no
  | .lc fz own elt g it c, σ, h => (evI it σ h).bind fun s h => ((match s with
      | .its xs => loopLC (evG g) (evOT c) (evE elt) (wipeM own σ) h.length xs (h ++ [.lst []])
      | .live n => match h[n]? with
        | some o => match o.items with
          | some xs => loopLCg (grd o n) (evG g) (evOT c) (evE elt) (wipeM own σ) h.length xs (h ++ [.lst []])
          | none => .no
        | none => .no) : Res Unit).bind fun _ h' => back fz h (.ref h.length) h'
  | .ieq a b, σ, h => (evE a σ h).bind fun x h => (evE b σ h).bind fun y h => match x.fields h, y.fields h with
    | some (c, _), some (e, _) => if c = e then match T.meth c T.eq with
      | some f => (cl f [x, y] h).bind fun d h => (match d with
        | .bl b => .ok (.bl b) h
        | _ => .no)
      | none => .no else .no
    | _, _ => .no
  | .iln a, σ, h => (evE a σ h).bind fun x h => match x.fields h with
    | some (c, _) => match T.meth c T.len with
      | some f => (cl f [x] h).bind fun d h => match d with
        | .int i => if decide (0 ≤ i) && decide (i < 2 ^ 62) then .ok (.int i) h else .no
        | _ => .no
      | none => .no
    | _ => .no
  | .nls a, σ, h => (evE a σ h).bind fun x h => match x.seq h with
    | some xs => .ok (.ref h.length) (h ++ [.lst xs])
    | none => .no
  | .dpl as k, σ, h => (evA as σ h).bind fun xs h => if xs.length ≤ sizeLine then match kvsS xs with
    | some kvs => (evE k σ h).bind fun y h => match y with
      | .str x => .of (lookS x kvs none) h
      | _ => .no
    | none => .no else .no
  | .isb ng a b, σ, h => (evE a σ h).bind fun x h => (evE b σ h).bind fun y h => .of (isbD ng x y) h
  | .rev a, σ, h => (evE a σ h).bind fun x h => .of (revD h x) h
  | .pop0 a, σ, h => (evE a σ h).bind fun x h => popM x h
  | .din ng a b, σ, h => (evE a σ h).bind fun x h => (evE b σ h).bind fun y h => .of (dinD ng h x y) h
  | .dget a b, σ, h => (evE a σ h).bind fun x h => (evE b σ h).bind fun y h => .of (dgetD h x y) h
  | .dnew, _, h => .ok (.ref h.length) (h ++ [.dct []])
  | .deq ng a b, σ, h => (evE a σ h).bind fun x h => (evE b σ h).bind fun y h => .of (deqD ng h x y) h
  | .sidx a b, σ, h => (evE a σ h).bind fun x h => (evE b σ h).bind fun y h => .of (sidxD x y) h
  | .sjoin a b, σ, h => (evE a σ h).bind fun x h => (evE b σ h).bind fun y h => .of (sjoinD h x y) h
  | .xl _ f as c, σ, h => (evA as σ h).bind fun xs h => match cl f xs h with
    | .ok _ h => .ok (.bl false) h
    | .ex x h => if x.cls = c then .ok (.bl true) h else .no
    | .no => .no
  | .done a b, σ, h => (evE a σ (h ++ [.dct []])).bind fun x h1 => (evE b σ h1).bind fun y h2 => match h2[h.length]? with
    | some (.dct []) => (storeM h.length x y h2).bind fun _ h3 => .ok (.ref h.length) h3
    | _ => .no
  | .dlen a, σ, h => (evE a σ h).bind fun x h => match x.kvs h with
    | some kvs => .ok (.int kvs.length) h
    | none => .no
  | .dlst fz a, σ, h => (evE a σ h).bind fun x h => match x.kvs h with
    | some kvs => if fz then .ok (.lst (kvs.map (·.1))) h else .ok (.ref h.length) (h ++ [.lst (kvs.map (·.1))])
    | none => .no
  | .dof a, σ, h => (evE a σ h).bind fun x h => match x.lseq h with
    | some xs => match pairsD xs with
      | some kvs => if kvs.length ≤ sizeLine then .ok (.ref h.length) (h ++ [.dct (mergeN [] kvs)]) else .no
      | none => .no
    | none => .no
  | .dupd a b, σ, h => (evE a σ h).bind fun x h => match x.kvs h with
    | some _ => (evE b σ h).bind fun y h => updM x y h
    | none => .no
  | .dcm fz own k v g it c, σ, h => (evI it σ h).bind fun s h => ((match s with
      | .its xs => loopDC (evG g) (evOT c) (evE k) (evE v) (wipeM own σ) h.length xs (h ++ [.dct []])
      | .live n => match h[n]? with
        | some o => match o.items with
          | some xs => loopDCg (grd o n) (evG g) (evOT c) (evE k) (evE v) (wipeM own σ) h.length xs (h ++ [.dct []])
          | none => .no
        | none => .no) : Res Unit).bind fun _ h' => back fz h (.ref h.length) h'
  | .dsd a k v, σ, h => (evE a σ h).bind fun x h => match x.kvs h with
    | some _ => (evE k σ h).bind fun y h => (evE v σ h).bind fun z h => setdM x y z h
    | none => .no
  | .dpk a k, σ, h => (evE a σ h).bind fun x h => match x.kvs h with
    | some _ => (evE k σ h).bind fun y h => dpopM x y h
    | none => .no
  | .dits a, σ, h => (evE a σ h).bind fun x h => match x.kvs h with
    | some kvs => .ok (.lst (itemsD kvs)) h
    | none => .no
  | .nval i a, σ, h => if i < σ.length then (evE a σ h).bind fun x h => match x.kvs h with
    | some kvs => match intsV kvs with
      | some is => if is.length ≤ sizeLine then .ok (.int (dst [] is).length) h else .no
      | none => .no
    | none => .no else .no
  | .lc2 fz own own2 elt g it g2 it2, σ, h => (evI it σ h).bind fun s h => ((match s with
      | .its xs => loopLC2 (evG g) (evI it2) (evG g2) (evE elt) (wipeM own σ) own2 h.length xs (h ++ [.lst []])
      | .live _ => .no) : Res Unit).bind fun _ h' => back fz h (.ref h.length) h'
  | .slen a, σ, h => (evE a σ h).bind fun x h => match x.lseq h with
    | some xs => match rowsI xs with
      | some iss => if iss.length ≤ sizeLine ∧ srtB iss (srtI iss) = true then .ok (.lst ((srtI iss).map rowI)) h else .no
      | none => .no
    | none => .no
  | .lrng a, σ, h => (evE a σ h).bind fun x h => match x with
    | .int j => if big j && decide (j ≤ 1000) then .ok (.lst (rngD 0 1 j.toNat)) h else .no
    | _ => .no
def evA : A → Sg → Hs → Res (List D)
  | .nil, _, h => .ok [] h
  | .cons e r, σ, h => (evE e σ h).bind fun x h => (evA r σ h).bind fun xs h => .ok (x :: xs) h
  | .star e r, σ, h => (evE e σ h).bind fun x h => match x.seq h with
    | some ys => (evA r σ h).bind fun xs h => .ok (ys ++ xs) h
    | none => .no
def evOE : OE → Sg → Hs → Res (Option D)
  | .none, _, h => .ok none h
  | .some e, σ, h => (evE e σ h).bind fun x h => .ok (some x) h
def evI : I → Sg → Hs → Res Src
  | .val e, σ, h => (evE e σ h).bind fun x h => match x with
    | .tup xs => .ok (.its xs) h
    | .lst xs => .ok (.its xs) h
    | .ref n => match h[n]? with
      | some (.lst _) => .ok (.live n) h
      | _ => .no
    | _ => .no
  | .chars e, σ, h => (evE e σ h).bind fun x h => match x with
    | .str x => .ok (.its (charsD x)) h
    | _ => .no
  | .rng1 a, σ, h => (evE a σ h).bind fun x h => match x with
    | .int j => if big j then .ok (.its (rngD 0 1 j.toNat)) h else .no
    | _ => .no
  | .rng2 a b, σ, h => (evE a σ h).bind fun x h => (evE b σ h).bind fun y h => match x, y with
    | .int i, .int j => if big i && big j then .ok (.its (rngD i 1 (j - i).toNat)) h else .no
    | _, _ => .no
  | .rng3 a b c, σ, h => (evE a σ h).bind fun x h => (evE b σ h).bind fun y h => (evE c σ h).bind fun z h => match x, y, z with
    | .int i, .int j, .int c => if decide (c ≠ 0) && decide (c.natAbs < 1073741824) && Builtin.Range.small i j c && decide (0 ≤ Builtin.Range.rangeSize i j c) then .ok (.its (rngD i c (Builtin.Range.rangeSize i j c).toNat)) h else .no
    | _, _, _ => .no
  | .zip a b, σ, h => (evE a σ h).bind fun x h => (evE b σ h).bind fun y h => match x, y with
    | .tup xs, .tup ys => .ok (.its (pairs xs ys)) h
    | .lst xs, .lst ys => .ok (.its (pairs xs ys)) h
    | _, _ => .no
  | .enum a, σ, h => (evE a σ h).bind fun x h => match x with
    | .tup xs => .ok (.its (numbered 0 xs)) h
    | .lst xs => .ok (.its (numbered 0 xs)) h
    | _ => .no
  | .dkeys e, σ, h => (evE e σ h).bind fun x h => match x with
    | .dct kvs => .ok (.its (kvs.map (·.1))) h
    | .ref n => match h[n]? with
      | some (.dct kvs) => .ok (.its (kvs.map (·.1))) (h.set n (.lkd kvs))
      | some (.lkd kvs) => .ok (.its (kvs.map (·.1))) h
      | _ => .no
    | _ => .no
  | .ditems e, σ, h => (evE e σ h).bind fun x h => match x with
    | .dct kvs => .ok (.its (itemsD kvs)) h
    | .ref n => match h[n]? with
      | some (.dct kvs) => .ok (.its (itemsD kvs)) (h.set n (.lkd kvs))
      | some (.lkd kvs) => .ok (.its (itemsD kvs)) h
      | _ => .no
    | _ => .no
  | .dvk i e, σ, h => if i < σ.length then (evE e σ h).bind fun x h => match x.kvs h with
    | some kvs => match intsV kvs with
      | some is => if is.length ≤ sizeLine then .ok (.its ((dst [] is).map D.int)) h else .no
      | none => .no
    | none => .no else .no
def evG : G → D → Sg → Hs → Res Sg
  | .nm i, d, σ, h => .ok (σ.set i (some d)) h
  | .tup gs, d, σ, h => match d with
    | .tup xs => evGL gs xs σ h
    | _ => .no
  | .att a f, d, σ, h => (evE a σ h).bind fun x h => match x with
    | .ref n => match h[n]? with
      | some (.ins c fs) => if T.fok c f && decide (fs.length < 900) then .ok σ (setO h n (.ins c (putF f d fs))) else .no
      | _ => .no
    | _ => .no
  | .sub a i, d, σ, h => (evE a σ h).bind fun x h => (evE i σ h).bind fun y h => match x, y with
    | .ref n, .int k => match h[n]? with
      | some (.lst xs) => match L2.ixN xs.length k with
        | some j => .ok σ (setO h n (.lst (xs.set j d)))
        | none => .no
      | _ => .no
    | _, _ => .no
  | .dsub a i, d, σ, h => (evE a σ h).bind fun x h => (evE i σ h).bind fun y h => match x with
    | .ref n => (storeM n y d h).bind fun _ h => .ok σ h
    | _ => .no
def evGL : GL → List D → Sg → Hs → Res Sg
  | .nil, xs, σ, h => match xs with
    | [] => .ok σ h
    | _ => .no
  | .cons g r, xs, σ, h => match xs with
    | x :: xs => (evG g x σ h).bind fun σ h => evGL r xs σ h
    | [] => .no
def evOT : OE → Sg → Hs → Res Bool
  | .none, _, h => .ok true h
  | .some e, σ, h => (evE e σ h).bind tst
end

/-! ### statements -/
def augD (op : Operator) (k : Int) (y : D) : Option Int := match op, y with
  | .Add, .int j => some (k + j)
  | .Sub, .int j => some (k - j)
  | _, _ => none
inductive Fl where
  | nx | bk | ct | rt (d : D)
abbrev R2 := Res (Fl × Sg)
def loopF (tg : D → Sg → Hs → Res Sg) (bd : Sg → Hs → R2) : List D → Sg → Hs → R2
  | [], σ, h => .ok (.nx, σ) h
  | x :: xs, σ, h => (tg x σ h).bind fun σ h => (bd σ h).bindX fun r h => match r.1 with
    | .nx => loopF tg bd xs r.2 h
    | .ct => loopF tg bd xs r.2 h
    | .bk => .ok (.nx, r.2) h
    | .rt d => .ok (.rt d, r.2) h
def loopFg (gd : Hs → Bool) (tg : D → Sg → Hs → Res Sg) (bd : Sg → Hs → R2) : List D → Sg → Hs → R2
  | [], σ, h => if gd h then .ok (.nx, σ) h else .no
  | x :: xs, σ, h => if gd h then (tg x σ h).bind fun σ h => (bd σ h).bindX fun r h => (match r.1 with
    | .nx => loopFg gd tg bd xs r.2 h
    | .ct => loopFg gd tg bd xs r.2 h
    | .bk => .ok (.nx, r.2) h
    | .rt d => .ok (.rt d, r.2) h) else .no
def loopN (tg : D → Sg → Hs → Res Sg) (bd : Sg → Hs → R2) (n : Nat) : Nat → Nat → Sg → Hs → R2
  | 0, _, _, _ => .no
  | m + 1, i, σ, h => match h[n]? with
    | some (.lst xs) => match xs[i]? with
      | some x => (tg x σ h).bind fun σ h => (bd σ h).bindX fun r h => match r.1 with
        | .nx => loopN tg bd n m (i + 1) r.2 h
        | .ct => loopN tg bd n m (i + 1) r.2 h
        | .bk => .ok (.nx, r.2) h
        | .rt d => .ok (.rt d, r.2) h
      | none => .ok (.nx, σ) h
    | _ => .no
def loopW (c : Sg → Hs → Res Bool) (bd : Sg → Hs → R2) : Nat → Sg → Hs → R2
  | 0, _, _ => .no
  | m + 1, σ, h => (c σ h).bind fun k h => if k then (bd σ h).bindX fun r h => (match r.1 with
      | .nx => loopW c bd m r.2 h
      | .ct => loopW c bd m r.2 h
      | .bk => .ok (.nx, r.2) h
      | .rt d => .ok (.rt d, r.2) h) else .ok (.nx, σ) h
mutual
def evS : S → Sg → Hs → R2
  | .exp e, σ, h => (evE T cl e σ h).bind fun _ h => .ok (.nx, σ) h
  | .ret e, σ, h => (evE T cl e σ h).bind fun d h => .ok (.rt d, σ) h
  | .retN, σ, h => .ok (.rt .non, σ) h
  | .asg g e, σ, h => (evE T cl e σ h).bind fun d h => (evG T cl g d σ h).bind fun σ h => .ok (.nx, σ) h
  | .par i j a b, σ, h => (evE T cl a σ h).bind fun x h => (evE T cl b σ h).bind fun y h => .ok (.nx, (σ.set i (some x)).set j (some y)) h
  | .par3 i j l a b c, σ, h => (evE T cl a σ h).bind fun x h => (evE T cl b σ h).bind fun y h => (evE T cl c σ h).bind fun z h => .ok (.nx, ((σ.set i (some x)).set j (some y)).set l (some z)) h
  | .aug i op e, σ, h => match σ[i]? with
    | some (some (.int k)) => (evE T cl e σ h).bind fun y h => match augD op k y with
      | some r => .ok (.nx, σ.set i (some (.int r))) h
      | none => .no
    | _ => .no
  | .ifs c t f, σ, h => ((evE T cl c σ h).bind tst).bind fun k h => if k then evB t σ h else evB f σ h
  | .for_ g it b, σ, h => (evI T cl it σ h).bind fun s h => match s with
    | .its xs => loopF (evG T cl g) (evB b) xs σ h
    | .live n => match h[n]? with
      | some o => match o.items with
        | some xs => loopFg (grd o n) (evG T cl g) (evB b) xs σ h
        | none => .no
      | none => .no
  | .whl c b, σ, h => loopW (fun σ h => (evE T cl c σ h).bind tst) (evB b) T.fuel σ h
  | .pass, σ, h => .ok (.nx, σ) h
  | .brk, σ, h => .ok (.bk, σ) h
  | .cnt, σ, h => .ok (.ct, σ) h
  | .mat e cs, σ, h => (evE T cl e σ h).bind fun d h => match d with
    | .str x => evC cs x σ h
    | _ => .no
  | .never, _, _ => .no
  | .raise c, _, h => .ex ⟨c, .non⟩ h
  | .xret f as, σ, h => (evA T cl as σ h).bind fun xs h => (cl f xs h).bindX fun d h => .ok (.rt d, σ) h
  | .xasg i f as, σ, h => (evA T cl as σ h).bind fun xs h => (cl f xs h).bindX fun d h => .ok (.nx, σ.set i (some d)) h
  | .xexp f as, σ, h => (evA T cl as σ h).bind fun xs h => (cl f xs h).bindX fun d h => .ok (.nx, σ) h
def evB : B → Sg → Hs → R2
  | .nil, σ, h => .ok (.nx, σ) h
  | .cons s r, σ, h => (evS s σ h).bindX fun q h => match q.1 with
    | .nx => evB r q.2 h
    | f => .ok (f, q.2) h
def evC : C → Str → Sg → Hs → R2
  | .nil, _, σ, h => .ok (.nx, σ) h
  | .cons k b r, x, σ, h => if x = k then evB b σ h else evC r x σ h
end
end
/-- a def -/
structure Fn where
  ar : Nat
  ns : Nat
  body : B
  fz : Bool
def startM (ns : Nat) (xs : List D) : Sg := xs.map some ++ List.replicate (ns - xs.length) none
def callM (T : Tab) (F : Nat → Option Fn) : Nat → Nat → List D → Hs → Res D
  | 0, _, _, _ => .no
  | n + 1, f, xs, h => match F f with
    | some fn => if xs.length = fn.ar then (match evB T (callM T F n) fn.body (startM fn.ns xs) h with
        | .ok r h' => (match r.1 with
          | .rt d => back fn.fz h d h'
          | .nx => back fn.fz h .non h'
          | _ => .no)
        | .ex x h' => backX h x h'
        | .no => .no) else .no
    | none => .no
end MC

set_option Elab.async false
set_option linter.all false
set_option maxRecDepth 100000
set_option maxHeartbeats 4000000
namespace MC
open PySem PySem.Spec PyProof.Rows L2

/-- where the classes stand; the program and the world (the keys of dicts) -/
structure CaT where
  f : Nat → Addr
  P : Program
  w : World
  /-- the tables of code objects that lambdas stand in: where, the lambdas' name -/
  tabs : List (Addr × Str)
instance : CoeFun CaT (fun _ => Nat → Addr) := ⟨CaT.f⟩
instance : Coe CaT (Nat → Addr) := ⟨CaT.f⟩
def KwL (K : PySem.W.Frag) (a : Addr) (xs : List V) : Prop := ∃ (o : Obj) (its : Array Value) (n : Nat), K.lookup a = some o ∧ o.cls = .type "list" ∧ o.dict = none ∧ o.data = .seq its n ∧ its.size ≤ sizeLine ∧ Vals xs its.toList
/-- a list that stands still -/
def LsT (K : PySem.W.Frag) (β : List Addr) (H : Hp) (a : Addr) (vs : List V) : Prop := (Rd H a (.lst vs) ∧ a ∉ β) ∨ KwL K a vs
theorem LsT.sq {K : PySem.W.Frag} {β : List Addr} {H : Hp} {a : Addr} {vs : List V} (h : LsT K β H a vs) : SqL K H a vs := by
  rcases h with ⟨h, _⟩ | h
  · exact .inl h
  · exact .inr h
/-- a dict whose keys are tuples: its object, its entries: key, the key's tuple, value -/
def dN (P : Program) (w : World) (a : Addr) (o : Obj) (xs : List (NestedKey × Addr × V)) : HO := .ext fun h => h.get? a = some o ∧ xs.length ≤ sizeLine ∧ (a == sysModules) = false ∧
  ∃ ys : List (NestedKey × Addr × Value), Paired (fun (p : NestedKey × Addr × V) (q : NestedKey × Addr × Value) => p.1 = q.1 ∧ p.2.1 = q.2.1 ∧ RelV p.2.2 q.2.2) xs ys ∧
    ∃ es ep, o.ExactDict ∧ o.data = .dict es ep ∧ es.toList = ys.map (entryOfKey (nestedKind P w)) ∧ (ys.map (·.1)).Nodup
/-- .. that may be locked -/
def DN (P : Program) (w : World) (H : Hp) (a : Addr) (o : Obj) (xs : List (NestedKey × Addr × V)) : Prop := H a = some (dN P w a o xs) ∨ H a = some (.frz o (dN P w a o xs))
section
variable (K : PySem.W.Frag) (nm : Nat → Str) (ca : CaT)
mutual
inductive RelD (β : List Addr) (H : Hp) : D → V → Prop
  | non : RelD β H .non .non
  | bl (b : Bool) : RelD β H (.bl b) (.bl b)
  | int (i : Int) : RelD β H (.int i) (.int i)
  | str (x : Str) : RelD β H (.str x) (.str x)
  | tup {a : Addr} {vs : List V} {xs : List D} : SqT K H a vs → RelL β H xs vs → RelD β H (.tup xs) (.ref a)
  | lst {a : Addr} {vs : List V} {xs : List D} : LsT K β H a vs → RelL β H xs vs → RelD β H (.lst xs) (.ref a)
  | ins {a dx : Addr} {c : Nat} {fs : List (Nat × D)} {gs : List (Str × V)} : H a = some (.ins (ca c) dx gs) → a ∉ β → RelF β H fs gs → RelD β H (.ins c fs) (.ref a)
  | dct {a : Addr} {kvs : List (D × D)} {ob : Obj} {xs : List (NestedKey × Addr × V)} : DN ca.P ca.w H a ob xs → a ∉ β → RelK β H kvs xs → RelD β H (.dct kvs) (.ref a)
  | ref {n : Nat} {a : Addr} : β[n]? = some a → RelD β H (.ref n) (.ref a)
inductive RelL (β : List Addr) (H : Hp) : List D → List V → Prop
  | nil : RelL β H [] []
  | cons {d : D} {v : V} {ds : List D} {vs : List V} : RelD β H d v → RelL β H ds vs → RelL β H (d :: ds) (v :: vs)
inductive RelK (β : List Addr) (H : Hp) : List (D × D) → List (NestedKey × Addr × V) → Prop
  | nil : RelK β H [] []
  | cons {d e : D} {k : NestedKey} {a : Addr} {v : V} {ds : List (D × D)} {xs : List (NestedKey × Addr × V)} : d.tkey = some k → RelD β H d (.ref a) → RelD β H e v → RelK β H ds xs → RelK β H ((d, e) :: ds) ((k, a, v) :: xs)
inductive RelF (β : List Addr) (H : Hp) : List (Nat × D) → List (Str × V) → Prop
  | nil : RelF β H [] []
  | cons {f : Nat} {d : D} {v : V} {ds : List (Nat × D)} {vs : List (Str × V)} : RelD β H d v → RelF β H ds vs → RelF β H ((f, d) :: ds) ((nm f, v) :: vs)
end
theorem nt_lst {vs : List V} (ps : Array Value) : HO.lst vs ≠ .tbl ps := fun z => by cases z
theorem nt_ins {c d : Addr} {fs : List (Str × V)} (ps : Array Value) : HO.ins c d fs ≠ .tbl ps := fun z => by cases z
theorem nt_frz {o : Obj} {u : HO} (ps : Array Value) : HO.frz o u ≠ .tbl ps := fun z => by cases z
theorem nt_dN {P : Program} {w : World} {a : Addr} {o : Obj} {xs : List (NestedKey × Addr × V)} (ps : Array Value) : dN P w a o xs ≠ .tbl ps := fun z => by
  unfold dN at z
  cases z
/-- one step: what is kept -/
structure Stp (β : List Addr) (H : Hp) (β' : List Addr) (H' : Hp) : Prop where
  tup : ∀ a xs, H a = some (.tup xs) → H' a = some (.tup xs)
  frz : ∀ a o u, H a = some (.frz o u) → H' a = some (.frz o u)
  oth : ∀ a o, H a = some o → a ∉ β → (∀ ps, o ≠ .tbl ps) → H' a = some o
  tbl : ∀ a ps, H a = some (.tbl ps) → ∃ ps', H' a = some (.tbl ps')
  ext : ∃ r, β' = β ++ r
  new : ∀ a ∈ β', a ∈ β ∨ H a = none
theorem Stp.refl (β : List Addr) (H : Hp) : Stp β H β H := ⟨fun _ _ h => h, fun _ _ _ h => h, fun _ _ h _ _ => h, fun _ ps h => ⟨ps, h⟩, ⟨[], by simp⟩, fun _ h => .inl h⟩
theorem Stp.trans {β β1 β2 : List Addr} {H H1 H2 : Hp} (p : Stp β H β1 H1) (q : Stp β1 H1 β2 H2) : Stp β H β2 H2 := by
  refine ⟨fun a xs h => q.tup a xs (p.tup a xs h), fun a o u h => q.frz a o u (p.frz a o u h), fun a o h n t => ?_, fun a ps h => ?_, ?_, fun a h => ?_⟩
  · refine q.oth a o (p.oth a o h n t) (fun m => ?_) t
    rcases p.new a m with m | m
    · exact n m
    · rw [h] at m; cases m
  · obtain ⟨ps', e⟩ := p.tbl a ps h
    exact q.tbl a ps' e
  · obtain ⟨r, e⟩ := p.ext
    obtain ⟨r', e'⟩ := q.ext
    exact ⟨r ++ r', by rw [e', e, List.append_assoc]⟩
  · rcases q.new a h with m | m
    · exact p.new a m
    · by_cases hb : a ∈ β
      · exact .inl hb
      · refine .inr ?_
        cases e : H a with
        | none => rfl
        | some o =>
          by_cases t : ∃ ps, o = .tbl ps
          · obtain ⟨ps, rfl⟩ := t
            obtain ⟨ps', e'⟩ := p.tbl a ps e
            rw [e'] at m; cases m
          · rw [p.oth a o e hb (fun ps z => t ⟨ps, z⟩)] at m; cases m
/-- a new thing that M doesn't track by a ref (a tuple, a frozen list) -/
theorem Stp.laid {β : List Addr} {H : Hp} {p : Addr} {o : HO} (n : H p = none) : Stp β H β (upd H p o) := by
  have k : ∀ a u, H a = some u → upd H p o a = some u := fun a u h => by rw [upd_ne (ne_of_none h n)]; exact h
  exact ⟨fun a xs h => k a _ h, fun a _ _ h => k a _ h, fun a o h _ _ => k a o h, fun a ps h => ⟨ps, k a _ h⟩, ⟨[], by simp⟩, fun _ h => .inl h⟩
theorem Stp.push {β : List Addr} {H : Hp} {p : Addr} {o : HO} (n : H p = none) : Stp β H (β ++ [p]) (upd H p o) := by
  have k : ∀ a u, H a = some u → upd H p o a = some u := fun a u h => by rw [upd_ne (ne_of_none h n)]; exact h
  refine ⟨fun a xs h => k a _ h, fun a _ _ h => k a _ h, fun a o h _ _ => k a o h, fun a ps h => ⟨ps, k a _ h⟩, ⟨[p], rfl⟩, fun a h => ?_⟩
  rcases List.mem_append.mp h with h | h
  · exact .inl h
  · rw [List.mem_singleton.mp h]; exact .inr n
/-- an object that M tracks is written: it is no tuple and not locked -/
theorem Stp.write {β : List Addr} {H : Hp} {p : Addr} {o u : HO} (hp : p ∈ β) (hu : H p = some u) (h1 : ∀ xs, u ≠ .tup xs) (h2 : ∀ a b, u ≠ .frz a b) (h3 : ∀ ps, u ≠ .tbl ps := by exact fun _ z => nomatch z) : Stp β H β (upd H p o) := by
  refine ⟨fun a xs h => ?_, fun a x y h => ?_, fun a x h n _ => ?_, fun a ps h => ⟨ps, ?_⟩, ⟨[], by simp⟩, fun _ h => .inl h⟩
  · rw [upd_ne (ne_of h hu (Ne.symm (h1 xs)))]; exact h
  · rw [upd_ne (ne_of h hu (Ne.symm (h2 x y)))]; exact h
  · rw [upd_ne (fun e => n (by rw [e]; exact hp))]; exact h
  · rw [upd_ne (ne_of h hu (Ne.symm (h3 ps)))]; exact h
section
variable {K : PySem.W.Frag} {nm : Nat → Str} {ca : CaT} {β β' : List Addr} {H H' : Hp}
theorem Stp.rd {a : Addr} {vs : List V} (p : Stp β H β' H') (h : LsT K β H a vs) : LsT K β' H' a vs := by
  rcases h with ⟨h, n⟩ | h
  · refine .inl ⟨?_, fun m => ?_⟩
    · rcases h with h | ⟨o, h⟩
      · exact .inl (p.oth a _ h n nt_lst)
      · exact .inr ⟨o, p.frz a o _ h⟩
    · rcases p.new a m with m | m
      · exact n m
      · rcases h with h | ⟨o, h⟩ <;> (rw [h] at m; cases m)
  · exact .inr h
theorem Stp.sqT {a : Addr} {vs : List V} (p : Stp β H β' H') (h : SqT K H a vs) : SqT K H' a vs := by
  rcases h with (h | ⟨o, h⟩) | h
  · exact .inl (.inl (p.tup a _ h))
  · exact .inl (.inr ⟨o, p.frz a o _ h⟩)
  · exact .inr h
theorem Stp.get {n : Nat} {a : Addr} (p : Stp β H β' H') (h : β[n]? = some a) : β'[n]? = some a := by
  obtain ⟨r, e⟩ := p.ext
  rw [e, List.getElem?_append_left (List.getElem?_eq_some_iff.mp h).1]
  exact h
mutual
theorem RelD.mono (p : Stp β H β' H') : ∀ {d : D} {v : V}, RelD K nm ca β H d v → RelD K nm ca β' H' d v
  | _, _, .non => .non
  | _, _, .bl b => .bl b
  | _, _, .int i => .int i
  | _, _, .str x => .str x
  | _, _, .tup h r => .tup (p.sqT h) (RelL.mono p r)
  | _, _, .lst h r => .lst (p.rd h) (RelL.mono p r)
  | _, _, .ins h n r => .ins (p.oth _ _ h n nt_ins) (fun m => by
      rcases p.new _ m with m | m
      · exact n m
      · rw [h] at m; cases m) (RelF.mono p r)
  | _, _, .dct h n r => .dct (h.imp (fun e => p.oth _ _ e n nt_dN) fun e => p.oth _ _ e n nt_frz) (fun m => by
      rcases p.new _ m with m | m
      · exact n m
      · rcases h with h | h <;> (rw [h] at m; cases m)) (RelK.mono p r)
  | _, _, .ref h => .ref (p.get h)
theorem RelL.mono (p : Stp β H β' H') : ∀ {d : List D} {v : List V}, RelL K nm ca β H d v → RelL K nm ca β' H' d v
  | _, _, .nil => .nil
  | _, _, .cons h r => .cons (RelD.mono p h) (RelL.mono p r)
theorem RelK.mono (p : Stp β H β' H') : ∀ {d : List (D × D)} {v : List (NestedKey × Addr × V)}, RelK K nm ca β H d v → RelK K nm ca β' H' d v
  | _, _, .nil => .nil
  | _, _, .cons e h1 h2 r => .cons e (RelD.mono p h1) (RelD.mono p h2) (RelK.mono p r)
theorem RelF.mono (p : Stp β H β' H') : ∀ {d : List (Nat × D)} {v : List (Str × V)}, RelF K nm ca β H d v → RelF K nm ca β' H' d v
  | _, _, .nil => .nil
  | _, _, .cons h r => .cons (RelD.mono p h) (RelF.mono p r)
end
theorem RelL.length : ∀ {d : List D} {v : List V}, RelL K nm ca β H d v → d.length = v.length
  | _, _, .nil => rfl
  | _, _, .cons _ r => by simp [RelL.length r]
theorem RelL.get : ∀ {d : List D} {v : List V} {i : Nat} {x : D}, RelL K nm ca β H d v → d[i]? = some x → ∃ y, v[i]? = some y ∧ RelD K nm ca β H x y
  | _, _, _, _, .nil, e => by simp at e
  | _, _, 0, _, .cons h r, e => by simp at e; subst e; exact ⟨_, rfl, h⟩
  | _, _, i + 1, _, .cons h r, e => by
    obtain ⟨y, e1, e2⟩ := RelL.get (i := i) r (by simpa using e)
    exact ⟨y, by simpa using e1, e2⟩
theorem RelL.app : ∀ {d e : List D} {v w : List V}, RelL K nm ca β H d v → RelL K nm ca β H e w → RelL K nm ca β H (d ++ e) (v ++ w)
  | _, _, _, _, .nil, s => s
  | _, _, _, _, .cons h r, s => .cons h (RelL.app r s)
theorem RelL.snoc {x : D} {y : V} (q : RelD K nm ca β H x y) : ∀ {d : List D} {v : List V}, RelL K nm ca β H d v → RelL K nm ca β H (d ++ [x]) (v ++ [y])
  | _, _, .nil => .cons q .nil
  | _, _, .cons h r => .cons h (RelL.snoc q r)
theorem RelL.rev : ∀ {d : List D} {v : List V}, RelL K nm ca β H d v → RelL K nm ca β H d.reverse v.reverse
  | _, _, .nil => .nil
  | _, _, .cons h r => by
    rw [List.reverse_cons, List.reverse_cons]
    exact (RelL.rev r).snoc h
theorem RelL.take : ∀ {d : List D} {v : List V} (n : Nat), RelL K nm ca β H d v → RelL K nm ca β H (d.take n) (v.take n)
  | _, _, 0, _ => .nil
  | _, _, _ + 1, .nil => .nil
  | _, _, n + 1, .cons h r => .cons h (RelL.take n r)
theorem RelL.drop : ∀ {d : List D} {v : List V} (n : Nat), RelL K nm ca β H d v → RelL K nm ca β H (d.drop n) (v.drop n)
  | _, _, 0, r => r
  | _, _, _ + 1, .nil => .nil
  | _, _, n + 1, .cons _ r => RelL.drop n r
theorem RelL.set {x : D} {y : V} (q : RelD K nm ca β H x y) : ∀ {d : List D} {v : List V} (n : Nat), RelL K nm ca β H d v → RelL K nm ca β H (d.set n x) (v.set n y)
  | _, _, _, .nil => .nil
  | _, _, 0, .cons _ r => .cons q r
  | _, _, n + 1, .cons h r => .cons h (RelL.set q n r)

/-- objects -/
def RelO (K : PySem.W.Frag) (nm : Nat → Str) (ca : CaT) (β : List Addr) (H : Hp) (a : Addr) : O → Prop
  | .lst xs => ∃ vs, H a = some (.lst vs) ∧ RelL K nm ca β H xs vs
  | .ins c fs => ∃ dx gs, H a = some (.ins (ca c) dx gs) ∧ RelF K nm ca β H fs gs
  | .dct kvs => ∃ ob xs, H a = some (dN ca.P ca.w a ob xs) ∧ RelK K nm ca β H kvs xs
  | .lkd kvs => ∃ ob xs, H a = some (.frz ob (dN ca.P ca.w a ob xs)) ∧ RelK K nm ca β H kvs xs
/-- the tables: their code objects are known, and none of them is tracked by a ref -/
def TabM (ca : CaT) (β : List Addr) (H : Hp) : Prop := ∀ p ∈ ca.tabs, ∃ ps : Array Value, H p.1 = some (.tbl ps) ∧ TriplesOk ps.toList ∧
  ∀ (pos : Pos) (cv : Value), codeAmong pos ps.toList = some cv → ∃ c, cv = .ref c ∧ H c = some (LamX.CodeO c p.2) ∧ c ∉ β
theorem TabM.of {ca : CaT} {β β' : List Addr} {H H' : Hp} (t : TabM ca β H) (k : ∀ p ∈ ca.tabs, ∀ ps, H p.1 = some (.tbl ps) → H' p.1 = some (.tbl ps)) (c : ∀ c q, H c = some (LamX.CodeO c q) → c ∉ β → H' c = some (LamX.CodeO c q) ∧ c ∉ β') : TabM ca β' H' := fun p hp => by
  obtain ⟨ps, h1, h2, h3⟩ := t p hp
  refine ⟨ps, k p hp ps h1, h2, fun pos cv e => ?_⟩
  obtain ⟨a, e1, e2, e3⟩ := h3 pos cv e
  obtain ⟨f1, f2⟩ := c a p.2 e2 e3
  exact ⟨a, e1, f1, f2⟩
structure RelH (K : PySem.W.Frag) (nm : Nat → Str) (ca : CaT) (β : List Addr) (h : Hs) (H : Hp) : Prop where
  len : β.length = h.length
  nd : β.Nodup
  obj : ∀ (i : Nat) (o : O) (a : Addr), h[i]? = some o → β[i]? = some a → RelO K nm ca β H a o
  tab : TabM ca β H
def RelS (K : PySem.W.Frag) (nm : Nat → Str) (ca : CaT) (β : List Addr) (H : Hp) (σ : Sg) (τ : L2.St) : Prop :=
  σ.length = τ.length ∧ ∀ (i : Nat) (d : D), σ[i]? = some (some d) → ∃ v, τ[i]? = some (some v) ∧ RelD K nm ca β H d v
theorem RelS.mono {σ : Sg} {τ : L2.St} (p : Stp β H β' H') (r : RelS K nm ca β H σ τ) : RelS K nm ca β' H' σ τ := ⟨r.1, fun i d e =>
  let ⟨v, e1, e2⟩ := r.2 i d e
  ⟨v, e1, e2.mono p⟩⟩
theorem RelS.set {σ : Sg} {τ : L2.St} {i : Nat} {d : D} {v : V} (r : RelS K nm ca β H σ τ) (q : RelD K nm ca β H d v) : RelS K nm ca β H (σ.set i (some d)) (τ.set i (some v)) := by
  refine ⟨by rw [List.length_set, List.length_set]; exact r.1, fun j e hj => ?_⟩
  by_cases hi : i = j
  · subst hi
    have hl : i < σ.length := by
      have := (List.getElem?_eq_some_iff.mp hj).1
      simpa using this
    rw [List.getElem?_set_self hl] at hj
    cases hj
    exact ⟨v, List.getElem?_set_self (by rw [← r.1]; exact hl), q⟩
  · rw [List.getElem?_set_ne hi] at hj
    obtain ⟨w, e1, e2⟩ := r.2 j e hj
    exact ⟨w, by rw [List.getElem?_set_ne hi]; exact e1, e2⟩
theorem RelS.wipe1 {σ : Sg} {τ : L2.St} {i : Nat} (r : RelS K nm ca β H σ τ) : RelS K nm ca β H (σ.set i none) (τ.set i none) := by
  refine ⟨by rw [List.length_set, List.length_set]; exact r.1, fun j e hj => ?_⟩
  by_cases hi : i = j
  · subst hi
    have hl : i < σ.length := by
      have := (List.getElem?_eq_some_iff.mp hj).1
      simpa using this
    rw [List.getElem?_set_self hl] at hj
    cases hj
  · rw [List.getElem?_set_ne hi] at hj
    obtain ⟨w, e1, e2⟩ := r.2 j e hj
    exact ⟨w, by rw [List.getElem?_set_ne hi]; exact e1, e2⟩
theorem RelO.keep {o : O} {a : Addr} (p : Stp β H β' H') (k : ∀ u, H a = some u → H' a = some u) (r : RelO K nm ca β H a o) : RelO K nm ca β' H' a o := by
  cases o with
  | lst xs => obtain ⟨vs, e, r⟩ := r; exact ⟨vs, k _ e, r.mono p⟩
  | ins c fs => obtain ⟨dx, gs, e, r⟩ := r; exact ⟨dx, gs, k _ e, r.mono p⟩
  | dct kvs => obtain ⟨ob, xs, e, r⟩ := r; exact ⟨ob, xs, k _ e, r.mono p⟩
  | lkd kvs => obtain ⟨ob, xs, e, r⟩ := r; exact ⟨ob, xs, k _ e, r.mono p⟩
theorem RelO.there {o : O} {a : Addr} (r : RelO K nm ca β H a o) : ∃ u, H a = some u ∧ (∀ xs, u ≠ .tup xs) ∧ (∀ ps, u ≠ .tbl ps) := by
  cases o with
  | lst xs => obtain ⟨vs, e, r⟩ := r; exact ⟨_, e, (fun _ z => nomatch z), (fun _ z => nomatch z)⟩
  | ins c fs => obtain ⟨dx, gs, e, r⟩ := r; exact ⟨_, e, (fun _ z => nomatch z), (fun _ z => nomatch z)⟩
  | dct kvs => obtain ⟨ob, xs, e, r⟩ := r; exact ⟨_, e, (fun _ z => nomatch z), (fun _ z => nomatch z)⟩
  | lkd kvs => obtain ⟨ob, xs, e, r⟩ := r; exact ⟨_, e, (fun _ z => nomatch z), (fun _ z => nomatch z)⟩
/-- a new untracked thing -/
theorem RelH.laid {h : Hs} {p : Addr} {o : HO} (r : RelH K nm ca β h H) (n : H p = none) : RelH K nm ca β h (upd H p o) :=
  ⟨r.len, r.nd, fun i ob a e1 e2 => (r.obj i ob a e1 e2).keep (Stp.laid n) fun u e => by rw [upd_ne (ne_of_none e n)]; exact e, r.tab.of (fun q _ ps e => by rw [upd_ne (ne_of_none e n)]; exact e) fun c q e m => ⟨by rw [upd_ne (ne_of_none e n)]; exact e, m⟩⟩
theorem RelH.mem {h : Hs} {i : Nat} {o : O} (r : RelH K nm ca β h H) (e : h[i]? = some o) : ∃ a, β[i]? = some a := by
  have : i < β.length := by rw [r.len]; exact (List.getElem?_eq_some_iff.mp e).1
  exact ⟨_, List.getElem?_eq_getElem this⟩
theorem RelH.notin {h : Hs} {p : Addr} (r : RelH K nm ca β h H) (n : H p = none) : p ∉ β := fun m => by
  obtain ⟨i, e⟩ := List.getElem?_of_mem m
  have hi : i < h.length := by rw [← r.len]; exact (List.getElem?_eq_some_iff.mp e).1
  obtain ⟨u, e1, _⟩ := (r.obj i _ p (List.getElem?_eq_getElem hi) e).there
  rw [n] at e1; cases e1
/-- a new tracked thing -/
theorem RelH.push {h : Hs} {p : Addr} {o : O} {u : HO} (r : RelH K nm ca β h H) (n : H p = none) (q : RelO K nm ca (β ++ [p]) (upd H p u) p o) : RelH K nm ca (β ++ [p]) (h ++ [o]) (upd H p u) := by
  refine ⟨by simp [r.len], ?_, fun i ob a e1 e2 => ?_, r.tab.of (fun q _ ps e => by rw [upd_ne (ne_of_none e n)]; exact e) fun c q e m => ⟨by rw [upd_ne (ne_of_none e n)]; exact e, fun z => (List.mem_append.mp z).elim m fun z => ne_of_none e n (List.mem_singleton.mp z)⟩⟩
  · rw [List.nodup_append]
    refine ⟨r.nd, by simp, fun a ha b hb => ?_⟩
    rw [List.mem_singleton.mp hb]
    exact fun e => r.notin n (e ▸ ha)
  · by_cases hi : i < h.length
    · rw [List.getElem?_append_left hi] at e1
      rw [List.getElem?_append_left (by rw [r.len]; exact hi)] at e2
      exact (r.obj i ob a e1 e2).keep (Stp.push n) fun u e => by rw [upd_ne (ne_of_none e n)]; exact e
    · have hl : i < (h ++ [o]).length := (List.getElem?_eq_some_iff.mp e1).1
      have e : i = h.length := by simp at hl; omega
      subst e
      rw [List.getElem?_append_right (Nat.le_refl _)] at e1
      rw [← r.len, List.getElem?_append_right (Nat.le_refl _)] at e2
      simp at e1 e2
      subst e1; subst e2
      exact q
/-- a tracked thing written -/
theorem RelH.write {h : Hs} {p : Addr} {o : O} {u : HO} {n : Nat} (r : RelH K nm ca β h H) (e : β[n]? = some p) (st : Stp β H β (upd H p u)) (q : RelO K nm ca β (upd H p u) p o) : RelH K nm ca β (h.set n o) (upd H p u) := by
  have hl0 : n < h.length := by rw [← r.len]; exact (List.getElem?_eq_some_iff.mp e).1
  obtain ⟨u0, k1, _, k3⟩ := (r.obj n _ p (List.getElem?_eq_getElem hl0) e).there
  refine ⟨by rw [List.length_set]; exact r.len, r.nd, fun i ob a e1 e2 => ?_, r.tab.of (fun q _ ps z => by rw [upd_ne (ne_of z k1 (Ne.symm (k3 ps)))]; exact z) fun c q z m => ⟨by rw [upd_ne (fun y => m (by rw [y]; exact List.mem_of_getElem? e))]; exact z, m⟩⟩
  by_cases hi : i = n
  · subst hi
    rw [e] at e2
    cases e2
    have hl : i < h.length := by rw [← r.len]; exact (List.getElem?_eq_some_iff.mp e).1
    rw [List.getElem?_set_self hl] at e1
    cases e1
    exact q
  · rw [List.getElem?_set_ne (Ne.symm hi)] at e1
    refine (r.obj i ob a e1 e2).keep st fun u e3 => ?_
    rw [upd_ne]
    · exact e3
    · rintro rfl
      obtain ⟨h1, x1⟩ := List.getElem?_eq_some_iff.mp e
      obtain ⟨h2, x2⟩ := List.getElem?_eq_some_iff.mp e2
      exact hi ((List.getElem_inj r.nd).mp (x2.trans x1.symm))
end
end
end MC

set_option Elab.async false
set_option linter.all false
set_option maxRecDepth 100000
set_option maxHeartbeats 4000000
namespace MC
open PySem PySem.Spec PyProof.Rows L2

/-! ### readings of the evaluator -/
section
variable (K : PySem.W.Frag) (nm : Nat → Str) (ca : CaT)
def PostE (β : List Addr) (H : Hp) (r : Res D) (Q : VK) : Prop := match r with
  | .ok d h' => ∀ v H' β', Stp β H β' H' → RelH K nm ca β' h' H' → RelD K nm ca β' H' d v → Q v H'
  | _ => False
def PostA (β : List Addr) (H : Hp) (r : Res (List D)) (Q : List V → Hp → Prop) : Prop := match r with
  | .ok d h' => ∀ v H' β', Stp β H β' H' → RelH K nm ca β' h' H' → RelL K nm ca β' H' d v → Q v H'
  | _ => False
def PostT (β : List Addr) (H : Hp) (r : Res Bool) (Q : Bool → Hp → Prop) : Prop := match r with
  | .ok d h' => ∀ H' β', Stp β H β' H' → RelH K nm ca β' h' H' → Q d H'
  | _ => False
def RE (ev : Sg → Hs → Res D) : TE := fun τ H Q => ∃ σ h β, RelS K nm ca β H σ τ ∧ RelH K nm ca β h H ∧ PostE K nm ca β H (ev σ h) Q
def RA (ev : Sg → Hs → Res (List D)) : TA := fun τ H Q => ∃ σ h β, RelS K nm ca β H σ τ ∧ RelH K nm ca β h H ∧ PostA K nm ca β H (ev σ h) Q
def RT (ev : Sg → Hs → Res Bool) : TT := fun τ H Q => ∃ σ h β, RelS K nm ca β H σ τ ∧ RelH K nm ca β h H ∧ PostT K nm ca β H (ev σ h) Q
end
theorem PE.imp {X : Cx} {e : Expr} {t t' : TE} (h : PE X e t) (i : ∀ σ H Q, t' σ H Q → t σ H Q) : PE X e t' := ⟨fun pins s σ H Q I q => h.run pins s σ H Q I (i σ H Q q)⟩
theorem PT.imp {X : Cx} {e : Expr} {t t' : TT} (h : PT X e t) (i : ∀ σ H Q, t' σ H Q → t σ H Q) : PT X e t' := ⟨fun pins s σ H Q I q => h.run pins s σ H Q I (i σ H Q q)⟩
theorem PA.imp {X : Cx} {e : List Expr} {t t' : TA} (h : PA X e t) (i : ∀ σ H Q, t' σ H Q → t σ H Q) : PA X e t' := ⟨fun pos pins s σ H Q I q => h.run pos pins s σ H Q I (i σ H Q q)⟩
section
variable {K : PySem.W.Frag} {nm : Nat → Str} {ca : CaT} {β β1 : List Addr} {H H1 : Hp} {σ : Sg} {τ : L2.St} {h : Hs}
theorem PostE.bind {α : Type} {r : Res α} {k : α → Hs → Res D} {Q : VK} (p : PostE K nm ca β H (r.bind k) Q) : ∃ a h1, r = .ok a h1 ∧ PostE K nm ca β H (k a h1) Q := by
  cases r with
  | ok a h1 => exact ⟨a, h1, rfl, p⟩
  | ex _ _ => exact p.elim
  | no => exact p.elim
theorem PostA.bind {α : Type} {r : Res α} {k : α → Hs → Res (List D)} {Q : List V → Hp → Prop} (p : PostA K nm ca β H (r.bind k) Q) : ∃ a h1, r = .ok a h1 ∧ PostA K nm ca β H (k a h1) Q := by
  cases r with
  | ok a h1 => exact ⟨a, h1, rfl, p⟩
  | ex _ _ => exact p.elim
  | no => exact p.elim
theorem PostT.bind {α : Type} {r : Res α} {k : α → Hs → Res Bool} {Q : Bool → Hp → Prop} (p : PostT K nm ca β H (r.bind k) Q) : ∃ a h1, r = .ok a h1 ∧ PostT K nm ca β H (k a h1) Q := by
  cases r with
  | ok a h1 => exact ⟨a, h1, rfl, p⟩
  | ex _ _ => exact p.elim
  | no => exact p.elim
theorem PostE.of {o : Option D} {Q : VK} (p : PostE K nm ca β H (.of o h) Q) : ∃ d, o = some d ∧ PostE K nm ca β H (.ok d h) Q := by
  cases o with
  | some d => exact ⟨d, rfl, p⟩
  | none => exact p.elim
theorem PostT.of {o : Option Bool} {Q : Bool → Hp → Prop} (p : PostT K nm ca β H (.of o h) Q) : ∃ d, o = some d ∧ PostT K nm ca β H (.ok d h) Q := by
  cases o with
  | some d => exact ⟨d, rfl, p⟩
  | none => exact p.elim
theorem PostE.step {r : Res D} {Q : VK} (p : PostE K nm ca β H r Q) (st : Stp β H β1 H1) : PostE K nm ca β1 H1 r Q := by
  cases r with
  | ok d h' => exact fun v H' β' s1 r1 r2 => p v H' β' (st.trans s1) r1 r2
  | ex _ _ => exact p.elim
  | no => exact p.elim
theorem PostA.step {r : Res (List D)} {Q : List V → Hp → Prop} (p : PostA K nm ca β H r Q) (st : Stp β H β1 H1) : PostA K nm ca β1 H1 r Q := by
  cases r with
  | ok d h' => exact fun v H' β' s1 r1 r2 => p v H' β' (st.trans s1) r1 r2
  | ex _ _ => exact p.elim
  | no => exact p.elim
theorem PostT.step {r : Res Bool} {Q : Bool → Hp → Prop} (p : PostT K nm ca β H r Q) (st : Stp β H β1 H1) : PostT K nm ca β1 H1 r Q := by
  cases r with
  | ok d h' => exact fun H' β' s1 r1 => p H' β' (st.trans s1) r1
  | ex _ _ => exact p.elim
  | no => exact p.elim
/-- one expression, then what is wanted of its value -/
theorem re1 {f : Sg → Hs → Res D} {x : D} {h1 : Hs} {R : VK} (rs : RelS K nm ca β H σ τ) (rh : RelH K nm ca β h H) (e : f σ h = .ok x h1)
    (k : ∀ vx H1 β1, Stp β H β1 H1 → RelS K nm ca β1 H1 σ τ → RelH K nm ca β1 h1 H1 → RelD K nm ca β1 H1 x vx → R vx H1) : RE K nm ca f τ H R := by
  refine ⟨σ, h, β, rs, rh, ?_⟩
  rw [e]
  exact fun v H' β' st r1 r2 => k v H' β' st (rs.mono st) r1 r2
theorem ra1 {f : Sg → Hs → Res (List D)} {x : List D} {h1 : Hs} {R : List V → Hp → Prop} (rs : RelS K nm ca β H σ τ) (rh : RelH K nm ca β h H) (e : f σ h = .ok x h1)
    (k : ∀ vx H1 β1, Stp β H β1 H1 → RelS K nm ca β1 H1 σ τ → RelH K nm ca β1 h1 H1 → RelL K nm ca β1 H1 x vx → R vx H1) : RA K nm ca f τ H R := by
  refine ⟨σ, h, β, rs, rh, ?_⟩
  rw [e]
  exact fun v H' β' st r1 r2 => k v H' β' st (rs.mono st) r1 r2
theorem re2 {f g : Sg → Hs → Res D} {x y : D} {h1 h2 : Hs} {R : V → V → Hp → Prop} (rs : RelS K nm ca β H σ τ) (rh : RelH K nm ca β h H) (e1 : f σ h = .ok x h1) (e2 : g σ h1 = .ok y h2)
    (k : ∀ vx vy H2 β2, Stp β H β2 H2 → RelS K nm ca β2 H2 σ τ → RelH K nm ca β2 h2 H2 → RelD K nm ca β2 H2 x vx → RelD K nm ca β2 H2 y vy → R vx vy H2) :
    RE K nm ca f τ H fun vx H1 => RE K nm ca g τ H1 fun vy H2 => R vx vy H2 :=
  re1 rs rh e1 fun vx H1 β1 s1 rs1 rh1 d1 => re1 rs1 rh1 e2 fun vy H2 β2 s2 rs2 rh2 d2 => k vx vy H2 β2 (s1.trans s2) rs2 rh2 (d1.mono s2) d2

/-! ### what data are -/
theorem RelD.int_inv {v : V} {i : Int} (r : RelD K nm ca β H (.int i) v) : v = .int i := by cases r; rfl
theorem RelD.str_inv {v : V} {i : Str} (r : RelD K nm ca β H (.str i) v) : v = .str i := by cases r; rfl
theorem RelD.tup_inv {v : V} {xs : List D} (r : RelD K nm ca β H (.tup xs) v) : ∃ a vs, v = .ref a ∧ SqT K H a vs ∧ RelL K nm ca β H xs vs := by
  cases r with
  | tup h r => exact ⟨_, _, rfl, h, r⟩
theorem RelD.lst_inv {v : V} {xs : List D} (r : RelD K nm ca β H (.lst xs) v) : ∃ a vs, v = .ref a ∧ LsT K β H a vs ∧ RelL K nm ca β H xs vs := by
  cases r with
  | lst h r => exact ⟨_, _, rfl, h, r⟩
theorem RelD.ref_inv {v : V} {n : Nat} (r : RelD K nm ca β H (.ref n) v) : ∃ a, v = .ref a ∧ β[n]? = some a := by
  cases r with
  | ref h => exact ⟨_, rfl, h⟩
theorem lseq_inv {d : D} {xs : List D} {v : V} (rh : RelH K nm ca β h H) (e : d.lseq h = some xs) (r : RelD K nm ca β H d v) : ∃ a vs, v = .ref a ∧ SqL K H a vs ∧ RelL K nm ca β H xs vs := by
  cases d with
  | lst ys =>
    cases e
    obtain ⟨a, vs, e1, e2, e3⟩ := r.lst_inv
    exact ⟨a, vs, e1, e2.sq, e3⟩
  | ref n =>
    obtain ⟨a, e1, e2⟩ := r.ref_inv
    cases q : h[n]? with
    | none => simp [D.lseq, q] at e
    | some o =>
      cases o with
      | lst ys =>
        simp only [D.lseq, q] at e
        cases e
        obtain ⟨vs, e3, e4⟩ := rh.obj n _ a q e2
        exact ⟨a, vs, e1, SqL.of e3, e4⟩
      | ins _ _ => simp [D.lseq, q] at e
      | dct _ => simp [D.lseq, q] at e
      | lkd _ => simp [D.lseq, q] at e
  | _ => cases e
theorem seq_inv {d : D} {xs : List D} {v : V} (rh : RelH K nm ca β h H) (e : d.seq h = some xs) (r : RelD K nm ca β H d v) : ∃ a vs, v = .ref a ∧ (SqL K H a vs ∨ SqT K H a vs) ∧ RelL K nm ca β H xs vs := by
  cases d with
  | tup ys =>
    cases e
    obtain ⟨a, vs, e1, e2, e3⟩ := r.tup_inv
    exact ⟨a, vs, e1, .inr e2, e3⟩
  | lst ys =>
    obtain ⟨a, vs, e1, e2, e3⟩ := lseq_inv rh (show (D.lst ys).lseq h = some xs from e) r
    exact ⟨a, vs, e1, .inl e2, e3⟩
  | ref n =>
    obtain ⟨a, vs, e1, e2, e3⟩ := lseq_inv rh (show (D.ref n).lseq h = some xs from e) r
    exact ⟨a, vs, e1, .inl e2, e3⟩
  | _ => cases e
mutual
theorem pyQ_dp : ∀ {d : D} {v : V} {p : PyData}, RelD K nm ca β H d v → d.pyQ = some p → Dp K H v p
  | .non, _, _, r, e => by cases r; cases e; exact .non
  | .bl _, _, _, r, e => by cases r; cases e; exact .bl _
  | .int _, _, _, r, e => by cases r; cases e; exact .int _
  | .str _, _, _, r, e => by cases r; cases e; exact .str _
  | .tup xs, _, _, r, e => by
    obtain ⟨a, vs, rfl, h1, h2⟩ := r.tup_inv
    unfold D.pyQ at e
    cases q : D.pyP xs with
    | none => rw [q] at e; cases e
    | some ps => rw [q] at e; cases e; exact .tup h1 (pyP_dp h2 q)
  | .lst xs, _, _, r, e => by
    obtain ⟨a, vs, rfl, h1, h2⟩ := r.lst_inv
    unfold D.pyQ at e
    cases q : D.pyP xs with
    | none => rw [q] at e; cases e
    | some ps => rw [q] at e; cases e; exact .lst h1.sq (pyP_dp h2 q)
  | .dct _, _, _, _, e => by cases e
  | .ins _ _, _, _, _, e => by cases e
  | .ref _, _, _, _, e => by cases e
theorem pyP_dp : ∀ {d : List D} {v : List V} {p : List PyData}, RelL K nm ca β H d v → D.pyP d = some p → DpAll K H v p
  | [], _, _, r, e => by cases r; cases e; exact .nil
  | x :: xs, _, _, r, e => by
    cases r with
    | cons r1 r2 =>
      unfold D.pyP at e
      cases q1 : D.pyQ x with
      | none => rw [q1] at e; cases e
      | some a =>
        cases q2 : D.pyP xs with
        | none => rw [q1, q2] at e; cases e
        | some b => rw [q1, q2] at e; cases e; exact .cons (pyQ_dp r1 q1) (pyP_dp r2 q2)
end
theorem pyE_dp {d : D} {v : V} {p : PyData} (rh : RelH K nm ca β h H) (r : RelD K nm ca β H d v) (e : d.pyE h = some p) : Dp K H v p := by
  cases d with
  | ref n =>
    cases q : h[n]? with
    | none => simp [D.pyE, q] at e
    | some o =>
      cases o with
      | lst xs =>
        cases q2 : D.pyP xs with
        | none => simp [D.pyE, q, q2] at e
        | some b =>
          simp only [D.pyE, q, q2] at e; cases e
          obtain ⟨a, vs, e1, e2, e3⟩ := lseq_inv rh (show (D.ref n).lseq h = some xs by simp only [D.lseq, q]) r
          subst e1
          exact .lst e2 (pyP_dp e3 q2)
      | ins _ _ => simp [D.pyE, q] at e
      | dct _ => simp [D.pyE, q] at e
      | lkd _ => simp [D.pyE, q] at e
  | _ => exact pyQ_dp r e
theorem pyEs_dp (rh : RelH K nm ca β h H) : ∀ {d : List D} {v : List V} {p : List PyData}, RelL K nm ca β H d v → D.pyEs h d = some p → DpAll K H v p
  | _, _, _, .nil, e => by simp only [D.pyEs] at e; cases e; exact .nil
  | x :: xs, _, _, .cons r1 r2, e => by
    unfold D.pyEs at e
    cases q1 : D.pyE h x with
    | none => rw [q1] at e; cases e
    | some a =>
      cases q2 : D.pyEs h xs with
      | none => rw [q1, q2] at e; cases e
      | some b => rw [q1, q2] at e; cases e; exact .cons (pyE_dp rh r1 q1) (pyEs_dp rh r2 q2)
theorem py_dp {d : D} {v : V} {p : PyData} (rh : RelH K nm ca β h H) (r : RelD K nm ca β H d v) (e : d.py h = some p) : Dp K H v p := by
  cases d with
  | ref n =>
    cases q : h[n]? with
    | none => simp [D.py, q] at e
    | some o =>
      cases o with
      | lst xs =>
        obtain ⟨a, vs, e1, e2, e3⟩ := lseq_inv rh (show (D.ref n).lseq h = some xs by simp only [D.lseq, q]) r
        subst e1
        cases q2 : D.pyP xs with
        | none =>
          simp only [D.py, q, q2] at e
          cases q3 : D.pyEs h xs with
          | none => rw [q3] at e; cases e
          | some b => rw [q3] at e; cases e; exact .lst e2 (pyEs_dp rh e3 q3)
        | some b =>
          simp only [D.py, q, q2] at e; cases e
          exact .lst e2 (pyP_dp e3 q2)
      | ins _ _ => simp [D.py, q] at e
      | dct _ => simp [D.py, q] at e
      | lkd _ => simp [D.py, q] at e
  | _ => exact pyQ_dp r e
end
end MC

set_option Elab.async false
set_option linter.all false
set_option maxRecDepth 100000
set_option maxHeartbeats 4000000
namespace MC
open PySem PySem.Spec PyProof.Rows L2
section
variable {X : Cx}
/-! ### rules of the model that the layer lacks -/
def rCatS (K : PySem.W.Frag) : L2.R2 := fun x y H Q => ∃ l b xs zs, x = .ref l ∧ y = .ref b ∧ SqL K H l xs ∧ SqL K H b zs ∧ xs.length + zs.length ≤ sizeLine ∧ ∀ p, H p = none → Q (.ref p) (upd H p (.lst (xs ++ zs)))
theorem op_catS : OpR X (binaryOp .Add) (rCatS X.K) := by
  intro pins s σ H x y v u Q I rx ry h
  obtain ⟨l, b, xs, zs, rfl, rfl, hH, hB, hz, q⟩ := h
  cases rx
  cases ry
  obtain ⟨its, r, ⟨⟨cls, dd, data, sl⟩, n, ho, hc, hdn, hd⟩, z⟩ := I.list hH
  obtain ⟨its2, r2, ⟨⟨cls2, dd2, data2, sl2⟩, n2, ho2, hc2, hdn2, hd2⟩, z2⟩ := I.list hB
  simp only at hc hd hc2 hd2
  subst hc hd hc2 hd2
  have l1 := r.length
  have l2 := r2.length
  have e : its.toArray ++ its2.toArray = (its ++ its2).toArray := by simp
  refine concat_meets ⟨_, ho, rfl⟩ ⟨_, ho2, rfl⟩ noFill_list_add seq_list_add PySem.F.slot_list_add PySem.F.entry_list_add (PySem.F.args_list_add_2 _ _) (list_addW l b its.toArray its2.toArray n n2 dd dd2 sl sl2 (by simp; omega)) ⟨ho, ho2, ?_⟩
  rw [e]
  exact ⟨.ref _, _, I.lnew (t' := s.toks) (r.append r2) (by rw [List.length_append]; omega), rfl, q _ I.fresh⟩
theorem tuple_mul1 (l : Addr) (items : Array Value) (n : Nat) (dd : Option Addr) (sl : Array (Option Value)) (u : Tok) :
    Meets (Builtin.«tuple.__mul__» ⟨[.ref l, .int 1 u], []⟩) (fun _ R s => s.heap.get? l = some { cls := .type "tuple", dict := dd, data := .seq items n, slots := sl } ∧ R (.ok (.ret (Value.ref l))) s) :=
  .of_wp fun prog w A R s h => by
    obtain ⟨hp, g, d, tk, os⟩ := s
    obtain ⟨hl, h⟩ := h
    have f1 := AutoSeq1.idx_int
    wp_walk using wpAny_loadPart' hl
    exact ⟨_, rfl, h⟩
def rRep1 (K : PySem.W.Frag) : L2.R2 := fun x y H Q => ∃ l xs, x = .ref l ∧ y = .int 1 ∧ SqT K H l xs ∧ Q (.ref l) H
theorem op_rep1 : OpR X (binaryOp .Mult) (rRep1 X.K) := by
  intro pins s σ H x y v u Q I rx ry h
  obtain ⟨l, xs, rfl, rfl, hT, q⟩ := h
  cases rx
  obtain ⟨t, rfl⟩ := ry
  obtain ⟨its, r, ⟨⟨cls, dd, data, sl⟩, ho, hc, n, hd⟩, hs⟩ := I.tuple hT
  simp only at hc hd
  subst hc hd
  refine wpAny_binaryOp_repeat_ref (T := "tuple") (U := "int") (by decide) ⟨_, ho, rfl⟩ (fun s' => typeIs_int s' 1 t) noFill_tuple_mul F.fills_int_mul F.slot_int_rmul repeat_tuple F.slot_int_index.lookup
    (call_meets F.slot_int_rmul (typeIs_int s 1 t) F.entry_int_rmul (F.args_int_rmul_2 _ _) (int_rmul_tuple 1 t l its.toArray n dd sl)
      ⟨ho, rfl, ⟨_, ho, rfl⟩, call_meets F.slot_tuple_mul ⟨_, ho, rfl⟩ F.entry_tuple_mul (F.args_tuple_mul_2 _ _) (tuple_mul1 l its.toArray n dd sl t) ⟨ho, ?_⟩⟩)
  exact ⟨.ref l, H, I, rfl, q⟩

/-! ### two operands -/
variable {nm : Nat → Str} {ca : CaT} {β : List Addr} {H : Hp} {h : Hs}
theorem RelL.rep {xs : List D} {vs : List V} (r : RelL X.K nm ca β H xs vs) : ∀ n : Nat, RelL X.K nm ca β H (List.replicate n xs).flatten (List.replicate n vs).flatten
  | 0 => .nil
  | n + 1 => by
    rw [List.replicate_succ, List.replicate_succ, List.flatten_cons, List.flatten_cons]
    exact r.app (RelL.rep r n)
/-- what M's operation says answers the rule -/
def BinOk (X : Cx) (nm : Nat → Str) (ca : CaT) (f : Hs → D → D → Option D) (r : L2.R2) : Prop :=
  ∀ (β : List Addr) (H : Hp) (h : Hs) (x y d : D) (vx vy : V) (Q : VK), RelH X.K nm ca β h H → RelD X.K nm ca β H x vx → RelD X.K nm ca β H y vy → f h x y = some d → PostE X.K nm ca β H (.ok d h) Q → r vx vy H Q
theorem PostE.here {d : D} {Q : VK} {K : PySem.W.Frag} (p : PostE K nm ca β H (.ok d h) Q) (rh : RelH K nm ca β h H) {v : V} (r : RelD K nm ca β H d v) : Q v H := p v H β (Stp.refl _ _) rh r
/-- a new untracked thing at a free place -/
theorem PostE.laid {d : D} {Q : VK} {K : PySem.W.Frag} {p : Addr} {o : HO} (q : PostE K nm ca β H (.ok d h) Q) (rh : RelH K nm ca β h H) (n : H p = none) (r : RelD K nm ca β (upd H p o) d (.ref p)) : Q (.ref p) (upd H p o) :=
  q _ _ _ (Stp.laid n) (rh.laid n) r
theorem new_tup {K : PySem.W.Frag} {xs : List D} {vs : List V} {p : Addr} (n : H p = none) (r : RelL K nm ca β H xs vs) : RelD K nm ca β (upd H p (.tup vs)) (.tup xs) (.ref p) := .tup (SqT.of upd_same) (r.mono (Stp.laid n))
theorem new_lst {K : PySem.W.Frag} {xs : List D} {vs : List V} {p : Addr} (rh : RelH K nm ca β h H) (n : H p = none) (r : RelL K nm ca β H xs vs) : RelD K nm ca β (upd H p (.lst vs)) (.lst xs) (.ref p) :=
  .lst (.inl ⟨.inl upd_same, rh.notin n⟩) (r.mono (Stp.laid n))
def rAddM (K : PySem.W.Frag) : L2.R2 := fun x y H Q => rI0 (fun i j => .int (i + j)) x y H Q ∨ (∃ i j, x = .str i ∧ y = .str j ∧ i.length + j.length ≤ sizeLine ∧ Q (.str (i ++ j)) H) ∨ rCatA K x y H Q ∨ rCatS K x y H Q
theorem op_addM : OpR X (binaryOp .Add) (rAddM X.K) := op_add.or (op_add_str.or (op_catA.or op_catS))
theorem lst_add {a b d : D} (ha : a.lseq h ≠ none) (e : opAdd h a b = some d) : ∃ xs ys, a.lseq h = some xs ∧ b.lseq h = some ys ∧ xs.length + ys.length ≤ sizeLine ∧ d = .lst (xs ++ ys) := by
  cases a <;> first
    | exact absurd rfl ha
    | (unfold opAdd at e
       simp only at e
       split at e
       · rename_i xs ys e1 e2
         split at e
         · rename_i hz
           cases e
           exact ⟨xs, ys, e1, e2, hz, rfl⟩
         · cases e
       · cases e)
theorem add_ok : BinOk X nm ca opAdd (rAddM X.K) := by
  intro β H h x y d vx vy Q rh rx ry e p
  by_cases hl : x.lseq h = none
  · cases x with
    | int i =>
      cases y with
      | int j =>
        cases e; cases rx; cases ry
        exact .inl ⟨i, j, rfl, rfl, p.here rh (.int _)⟩
      | _ => simp [opAdd, D.lseq] at e
    | str i =>
      cases y with
      | str j =>
        simp only [opAdd] at e
        split at e
        · cases e; cases rx; cases ry
          exact .inr (.inl ⟨i, j, rfl, rfl, by assumption, p.here rh (.str _)⟩)
        · cases e
      | _ => simp [opAdd, D.lseq] at e
    | tup xs =>
      cases y with
      | tup ys =>
        simp only [opAdd] at e
        split at e
        · rename_i hz
          cases e
          obtain ⟨a, vs, rfl, h1, h2⟩ := rx.tup_inv
          obtain ⟨b, ws, rfl, k1, k2⟩ := ry.tup_inv
          refine .inr (.inr (.inl ⟨a, b, vs, ws, rfl, rfl, h1, k1, by rw [← h2.length, ← k2.length]; exact hz, fun z => ?_, fun z z2 => ?_, fun z z2 q hq => ?_⟩))
          · subst z
            have : xs = [] := List.eq_nil_of_length_eq_zero h2.length
            subst this
            exact p.here rh ry
          · subst z2
            have : ys = [] := List.eq_nil_of_length_eq_zero k2.length
            subst this
            rw [List.append_nil] at p
            exact p.here rh rx
          · exact p.laid rh hq (new_tup hq (h2.app k2))
        · cases e
      | _ => simp [opAdd, D.lseq] at e
    | lst xs => simp [D.lseq] at hl
    | ref n => 
      cases y <;> simp [opAdd, hl] at e
    | _ => cases y <;> simp [opAdd, D.lseq] at e
  · obtain ⟨xs, ys, e1, e2, hz, rfl⟩ := lst_add hl e
    obtain ⟨a, vs, rfl, h1, h2⟩ := lseq_inv rh e1 rx
    obtain ⟨b, ws, rfl, k1, k2⟩ := lseq_inv rh e2 ry
    exact .inr (.inr (.inr ⟨a, b, vs, ws, rfl, rfl, h1, k1, by rw [← h2.length, ← k2.length]; exact hz, fun q hq => p.laid rh hq (new_lst rh hq (h2.app k2))⟩))
end
end MC

set_option Elab.async false
set_option linter.all false
set_option maxRecDepth 100000
set_option maxHeartbeats 4000000
namespace MC
open PySem PySem.Spec PyProof.Rows L2
section
variable {X : Cx} {nm : Nat → Str} {ca : CaT} {β : List Addr} {H : Hp} {h : Hs}
theorem log2_lt (j : Int) (h0 : 0 < j) (h1 : j < 2 ^ 1000) : CDivW 0 j := by
  refine ⟨h0, ?_⟩
  have e : j.natAbs < 2 ^ 1000 := by
    have : (j.natAbs : Int) = j := Int.natAbs_of_nonneg (by omega)
    have h2 : ((j.natAbs : Nat) : Int) < ((2 ^ 1000 : Nat) : Int) := by rw [this]; exact_mod_cast h1
    exact_mod_cast h2
  exact Nat.lt_of_lt_of_le (PySem.Flt.log2_lt_of (by decide) e) (by decide)
def rMulM (K : PySem.W.Frag) : L2.R2 := fun x y H Q => rI CMul (fun i j => .int (i * j)) x y H Q ∨ rRepT K x y H Q ∨ rRep1 K x y H Q
theorem op_mulM : OpR X (binaryOp .Mult) (rMulM X.K) := op_mul.or (op_repT.or op_rep1)
theorem small_lt {i : Int} (e : small i = true) : -(2 ^ 64) < i ∧ i < 2 ^ 64 := by
  unfold small at e
  simpa using e
theorem mul_ok : BinOk X nm ca (fun _ => opMul) (rMulM X.K) := by
  intro β H h x y d vx vy Q rh rx ry e p
  cases x with
  | int i =>
    cases y with
    | int j =>
      simp only [opMul] at e
      split at e
      · rename_i hs
        cases e; cases rx; cases ry
        refine .inl ⟨i, j, rfl, rfl, ?_, p.here rh (.int _)⟩
        rcases Bool.or_eq_true_iff.mp hs with z | z
        · exact .inl (small_lt z)
        · exact .inr (small_lt z)
      · cases e
    | _ => simp [opMul] at e
  | tup xs =>
    cases y with
    | int k =>
      simp only [opMul] at e
      split at e
      · rename_i hs
        simp only [Bool.and_eq_true, decide_eq_true_eq] at hs
        obtain ⟨⟨⟨h1, h2⟩, h3⟩, h4⟩ := hs
        cases e; cases ry
        obtain ⟨a, vs, rfl, k1, k2⟩ := rx.tup_inv
        by_cases hk : k = 1
        · subst hk
          refine .inr (.inr ⟨a, vs, rfl, rfl, k1, ?_⟩)
          have : (List.replicate (1 : Int).toNat xs).flatten = xs := by simp
          rw [this] at p
          exact p.here rh rx
        · refine .inr (.inl ⟨a, k, vs, rfl, rfl, k1, ?_, by omega, h2, by rw [← k2.length]; exact h3, fun q hq => p.laid rh hq (new_tup hq (k2.rep _))⟩)
          rintro rfl
          have : xs = [] := List.eq_nil_of_length_eq_zero k2.length
          subst this
          simp at h4
      · cases e
    | _ => simp [opMul] at e
  | _ => cases y <;> simp [opMul] at e
theorem sub_ok : BinOk X nm ca (fun h => opBin h .Sub) (rI0 fun i j => .int (i - j)) := by
  intro β H h x y d vx vy Q rh rx ry e p
  cases x with
  | int i =>
    cases y with
    | int j => cases e; cases rx; cases ry; exact ⟨i, j, rfl, rfl, p.here rh (.int _)⟩
    | _ => simp [opBin] at e
  | _ => cases y <;> simp [opBin] at e
theorem fdiv_ok : BinOk X nm ca (fun h => opBin h .FloorDiv) (rI CDivW fun i j => .int (i / j)) := by
  intro β H h x y d vx vy Q rh rx ry e p
  cases x with
  | int i =>
    cases y with
    | int j =>
      simp only [opBin] at e
      split at e
      · rename_i hs
        simp only [Bool.and_eq_true, decide_eq_true_eq] at hs
        cases e; cases rx; cases ry
        exact ⟨i, j, rfl, rfl, log2_lt j hs.1 hs.2, p.here rh (.int _)⟩
      · cases e
    | _ => simp [opBin] at e
  | _ => cases y <;> simp [opBin] at e
theorem mod_ok : BinOk X nm ca (fun h => opBin h .Mod) (rI (fun _ j => 0 < j) fun i j => .int (i % j)) := by
  intro β H h x y d vx vy Q rh rx ry e p
  cases x with
  | int i =>
    cases y with
    | int j =>
      simp only [opBin] at e
      split at e
      · rename_i hs
        cases e; cases rx; cases ry
        exact ⟨i, j, rfl, rfl, hs, p.here rh (.int _)⟩
      · cases e
    | _ => simp [opBin] at e
  | _ => cases y <;> simp [opBin] at e
theorem pow_ok : BinOk X nm ca (fun h => opBin h .Pow) (rI CPow fun i j => .int (i ^ j.toNat)) := by
  intro β H h x y d vx vy Q rh rx ry e p
  cases x with
  | int i =>
    cases y with
    | int j =>
      simp only [opBin] at e
      split at e
      · rename_i hs
        simp only [Bool.and_eq_true, decide_eq_true_eq] at hs
        cases e; cases rx; cases ry
        exact ⟨i, j, rfl, rfl, ⟨hs.1.1, by omega, hs.2⟩, p.here rh (.int _)⟩
      · cases e
    | _ => simp [opBin] at e
  | _ => cases y <;> simp [opBin] at e
/-- every operator of the core -/
theorem bin_all (op : Operator) : ∃ r, OpR X (binaryOp op) r ∧ BinOk X nm ca (fun h => opBin h op) r := by
  cases op with
  | Add => exact ⟨_, op_addM, add_ok⟩
  | Sub => exact ⟨_, op_sub, sub_ok⟩
  | Mult => exact ⟨_, op_mulM, mul_ok⟩
  | FloorDiv => exact ⟨_, op_fdivW, fdiv_ok⟩
  | Mod => exact ⟨_, op_mod, mod_ok⟩
  | Pow => exact ⟨_, op_pow, pow_ok⟩
  | _ => exact ⟨fun _ _ _ _ => False, fun _ _ _ _ _ _ _ _ _ _ _ _ z => z.elim, fun _ _ _ _ _ _ _ _ _ _ _ _ e _ => by simp [opBin] at e⟩

/-! ### comparisons -/
theorem eq_ok : BinOk X nm ca (fun h => opCmp h .Eq) (rEqD X.K) := by
  intro β H h x y d vx vy Q rh rx ry e p
  simp only [opCmp, eqD] at e
  cases q1 : x.py h with
  | none => simp [q1] at e
  | some a =>
    cases q2 : y.py h with
    | none => simp [q1, q2] at e
    | some b =>
      simp only [q1, q2] at e
      split at e
      · rename_i hs
        rw [Bool.and_eq_true] at hs
        cases e
        exact ⟨a, b, py_dp rh rx q1, py_dp rh ry q2, hs.1, hs.2, p.here rh (.bl _)⟩
      · cases e
theorem ne_ok : BinOk X nm ca (fun h => opCmp h .NotEq) (rNeD X.K) := by
  intro β H h x y d vx vy Q rh rx ry e p
  simp only [opCmp, eqD] at e
  cases q1 : x.py h with
  | none => simp [q1] at e
  | some a =>
    cases q2 : y.py h with
    | none => simp [q1, q2] at e
    | some b =>
      simp only [q1, q2] at e
      split at e
      · rename_i hs
        rw [Bool.and_eq_true] at hs
        cases e
        exact ⟨a, b, py_dp rh rx q1, py_dp rh ry q2, hs.1, hs.2, p.here rh (.bl _)⟩
      · cases e
theorem int_ok {op : CmpOp} {f : Int → Int → Bool} (hf : ∀ h x y d, opCmp h op x y = some d → ∃ i j, x = .int i ∧ y = .int j ∧ d = .bl (f i j)) : BinOk X nm ca (fun h => opCmp h op) (rI0 fun i j => .bl (f i j)) := by
  intro β H h x y d vx vy Q rh rx ry e p
  obtain ⟨i, j, rfl, rfl, rfl⟩ := hf h x y d e
  cases rx; cases ry
  exact ⟨i, j, rfl, rfl, p.here rh (.bl _)⟩
theorem flat_rel {x : D} {v : V} {K : PySem.W.Frag} (r : RelD K nm ca β H x v) (e : x.flat = true) : flatV v = true := by
  cases r <;> first | rfl | cases e
theorem flat_all {xs : List D} {vs : List V} {K : PySem.W.Frag} (r : RelL K nm ca β H xs vs) (e : xs.all D.flat = true) : vs.all flatV = true := by
  induction xs generalizing vs with
  | nil => cases r; rfl
  | cons x xs ih =>
    cases r with
    | cons r1 r2 =>
      simp only [List.all_cons, Bool.and_eq_true] at e ⊢
      exact ⟨flat_rel r1 e.1, ih r2 e.2⟩
theorem eqF_rel {x y : D} {v u : V} {K : PySem.W.Frag} (r : RelD K nm ca β H x v) (q : RelD K nm ca β H y u) (e : x.flat = true) (e' : y.flat = true) : eqF x y = eqV v u := by
  cases r <;> cases q <;> first
    | (exfalso; revert e; simp [D.flat]; done)
    | (exfalso; revert e'; simp [D.flat]; done)
    | rfl
    | (simp only [eqF, eqV]; rename_i a b; cases hd : decide (a = b) <;> simp_all)
theorem any_rel {x : D} {v : V} {K : PySem.W.Frag} (r : RelD K nm ca β H x v) (e : x.flat = true) : ∀ {xs : List D} {vs : List V}, RelL K nm ca β H xs vs → xs.all D.flat = true → (xs.any fun y => eqF y x) = inV v vs
  | _, _, .nil, _ => rfl
  | _, _, .cons h t, a => by
    simp only [List.all_cons, Bool.and_eq_true] at a
    have ih := any_rel r e t a.2
    unfold inV at ih ⊢
    rw [List.any_cons, List.any_cons, ih, eqF_rel h r a.1 e]
/-- of two rules the one that fits -/
def rEither (r r' : L2.R2) : L2.R2 := fun x y H Q => r x y H Q ∨ r' x y H Q
theorem or_either {f : Value → Value → Sem Value} {r r' : L2.R2} (a : OpR X f r) (b : OpR X f r') : OpR X f (rEither r r') := by
  intro pins s σ H x y v u Q I rx ry q
  rcases q with q | q
  · exact a _ _ _ _ _ _ _ _ _ I rx ry q
  · exact b _ _ _ _ _ _ _ _ _ I rx ry q
theorem inP_inv {β : List Addr} {H : Hp} {h : Hs} {x y : D} {vx vy : V} {k : Bool} {K : PySem.W.Frag} (rh : RelH K nm ca β h H) (rx : RelD K nm ca β H x vx) (ry : RelD K nm ca β H y vy) (e : inP h x y = some k) : ∃ d ds, Dp K H vx d ∧ Dp K H vy (.list ds) ∧ SeqAt.shaped d = true ∧ SeqAt.shaped (.list ds) = true ∧ k = ds.any fun z => PyData.eqv z d := by
  unfold inP at e
  cases q1 : x.py h with
  | none => rw [q1] at e; cases e
  | some d =>
    cases q2 : y.py h with
    | none => rw [q1, q2] at e; cases e
    | some l =>
      rw [q1, q2] at e
      cases l with
      | list ds =>
        simp only at e
        split at e
        · rename_i hs
          rw [Bool.and_eq_true] at hs
          cases e
          exact ⟨d, ds, py_dp rh rx q1, py_dp rh ry q2, hs.1, hs.2, rfl⟩
        · cases e
      | _ => cases e
theorem in_ok : BinOk X nm ca (fun h => opCmp h .In) (rEither (rIn X.K false) (rInD X.K)) := by
  intro β H h x y d vx vy Q rh rx ry e p
  simp only [opCmp, inD] at e
  cases q : y.seq h with
  | none => simp [q] at e
  | some xs =>
    simp only [q] at e
    split at e
    · rename_i hs
      rw [Bool.and_eq_true] at hs
      cases e
      obtain ⟨a, vs, rfl, h1, h2⟩ := seq_inv rh q ry
      refine .inl ⟨a, vs, rfl, h1, flat_rel rx hs.1, flat_all h2 hs.2, ?_⟩
      have := any_rel rx hs.1 h2 hs.2
      show Q (.bl (inV vx vs)) H
      rw [← this]
      exact p.here rh (.bl _)
    · cases q3 : inP h x y with
      | none => rw [q3] at e; cases e
      | some k =>
        rw [q3] at e
        cases e
        obtain ⟨d, ds, j1, j2, j3, j4, rfl⟩ := inP_inv rh rx ry q3
        exact .inr ⟨d, ds, j1, j2, j3, j4, p.here rh (.bl _)⟩
theorem notin_ok : BinOk X nm ca (fun h => opCmp h .NotIn) (rEither (rIn X.K true) (rNotInD X.K)) := by
  intro β H h x y d vx vy Q rh rx ry e p
  simp only [opCmp, inD] at e
  cases q : y.seq h with
  | none => simp [q] at e
  | some xs =>
    simp only [q] at e
    split at e
    · rename_i hs
      rw [Bool.and_eq_true] at hs
      cases e
      obtain ⟨a, vs, rfl, h1, h2⟩ := seq_inv rh q ry
      refine .inl ⟨a, vs, rfl, h1, flat_rel rx hs.1, flat_all h2 hs.2, ?_⟩
      have := any_rel rx hs.1 h2 hs.2
      show Q (.bl (!inV vx vs)) H
      rw [← this]
      exact p.here rh (.bl _)
    · cases q3 : inP h x y with
      | none => rw [q3] at e; cases e
      | some k =>
        rw [q3] at e
        cases e
        obtain ⟨d, ds, j1, j2, j3, j4, rfl⟩ := inP_inv rh rx ry q3
        exact .inr ⟨d, ds, j1, j2, j3, j4, p.here rh (.bl _)⟩
def rNever : L2.R2 := fun _ _ _ _ => False
theorem or_never {f : Value → Value → Sem Value} : OpR X f rNever := fun _ _ _ _ _ _ _ _ _ _ _ _ z => z.elim
theorem isN_ok {x : D} {v : V} {K : PySem.W.Frag} (r : RelD K nm ca β H x v) : decide (v = .non) = x.isNon := by
  cases r <;> rfl
/-- every comparison of the core (is with True, False: not yet) -/
theorem cmp_all (hu : X.A.units + 65 < cLine) (op : CmpOp) : ∃ r, OpR X (compareOp op) r ∧ BinOk X nm ca (fun h x y => match op, y with
    | .Is, .bl _ => none
    | .IsNot, .bl _ => none
    | op, y => opCmp h op x y) r := by
  cases op with
  | Eq => exact ⟨_, op_eqD (by omega), eq_ok⟩
  | NotEq => exact ⟨_, op_neD (by omega), ne_ok⟩
  | Lt => exact ⟨_, op_lt, int_ok (op := .Lt) fun h x y d e => by
      cases x <;> cases y <;> first | (cases e; exact ⟨_, _, rfl, rfl, rfl⟩) | (simp [opCmp] at e)⟩
  | LtE => exact ⟨_, op_le, int_ok (op := .LtE) fun h x y d e => by
      cases x <;> cases y <;> first | (cases e; exact ⟨_, _, rfl, rfl, rfl⟩) | (simp [opCmp] at e)⟩
  | Gt => exact ⟨_, op_gt, int_ok (op := .Gt) fun h x y d e => by
      cases x <;> cases y <;> first | (cases e; exact ⟨_, _, rfl, rfl, rfl⟩) | (simp [opCmp] at e)⟩
  | GtE => exact ⟨_, op_ge, int_ok (op := .GtE) fun h x y d e => by
      cases x <;> cases y <;> first | (cases e; exact ⟨_, _, rfl, rfl, rfl⟩) | (simp [opCmp] at e)⟩
  | In => exact ⟨_, or_either op_in_seq (op_inD hu), in_ok⟩
  | NotIn => exact ⟨_, or_either op_notIn_seq (op_notInD hu), notin_ok⟩
  | Is =>
    refine ⟨_, op_isN, fun β H h x y d vx vy Q rh rx ry e p => ?_⟩
    cases y with
    | non =>
      cases ry
      simp only [opCmp] at e
      cases e
      refine ⟨rfl, ?_⟩
      rw [isN_ok rx]
      exact p.here rh (.bl _)
    | _ => simp [opCmp] at e
  | IsNot =>
    refine ⟨_, op_notN, fun β H h x y d vx vy Q rh rx ry e p => ?_⟩
    cases y with
    | non =>
      cases ry
      simp only [opCmp] at e
      cases e
      refine ⟨rfl, ?_⟩
      rw [isN_ok rx]
      exact p.here rh (.bl _)
    | _ => simp [opCmp] at e

/-! ### subscripts, slices, truth -/
theorem at_rel {xs : List D} {vs : List V} {i : Int} {d : D} {K : PySem.W.Frag} (r : RelL K nm ca β H xs vs) (e : atD xs i = some d) : ∃ v, atI vs i = some v ∧ RelD K nm ca β H d v := by
  unfold atD at e
  unfold atI
  rw [← r.length]
  cases q : ixN xs.length i with
  | none => rw [q] at e; cases e
  | some j =>
    rw [q] at e
    exact r.get e
def rIxM (K : PySem.W.Frag) : L2.R2 := fun x y H Q => rIxL K x y H Q ∨ rIxT K x y H Q
theorem ix_M : IxR X (rIxM X.K) := ix_list.or ix_tup
theorem idx_ok : BinOk X nm ca idxD (rIxM X.K) := by
  intro β H h x y d vx vy Q rh rx ry e p
  cases x with
  | tup xs =>
    cases y with
    | int i =>
      cases ry
      obtain ⟨a, vs, rfl, h1, h2⟩ := rx.tup_inv
      obtain ⟨v, e1, e2⟩ := at_rel h2 e
      exact .inr ⟨a, vs, i, v, rfl, rfl, h1, e1, p.here rh e2⟩
    | _ => simp [idxD] at e
  | lst xs =>
    cases y with
    | int i =>
      cases ry
      obtain ⟨a, vs, rfl, h1, h2⟩ := rx.lst_inv
      obtain ⟨v, e1, e2⟩ := at_rel h2 e
      exact .inl ⟨a, vs, i, v, rfl, rfl, h1.sq, e1, p.here rh e2⟩
    | _ => simp [idxD] at e
  | ref n =>
    cases q : h[n]? with
    | none => simp [idxD, q] at e
    | some o =>
      cases o with
      | lst xs =>
        cases y with
        | int i =>
          cases ry
          simp only [idxD, q] at e
          obtain ⟨a, vs, rfl, h1, h2⟩ := lseq_inv rh (show (D.ref n).lseq h = some xs by simp only [D.lseq, q]) rx
          obtain ⟨v, e1, e2⟩ := at_rel h2 e
          exact .inl ⟨a, vs, i, v, rfl, rfl, h1, e1, p.here rh e2⟩
        | _ => simp [idxD, q] at e
      | _ => simp [idxD, q] at e
  | _ => simp [idxD] at e
def rSlM (K : PySem.W.Frag) : V → Option Int → Option Int → Hp → VK → Prop := fun x lo hi H Q => rSlL K x lo hi H Q ∨ rSlA K x lo hi H Q
theorem sl_M : L2.SlR X (rSlM X.K) := sl_list.or sl_tupA
theorem cut_rel {xs : List D} {vs : List V} {lo hi : Option Int} {K : PySem.W.Frag} (r : RelL K nm ca β H xs vs) : RelL K nm ca β H (cutD xs lo hi) (cutV vs lo hi) := by
  unfold cutD cutV
  rw [← r.length]
  exact (r.drop _).take _
theorem slc_ok {x d : D} {vx : V} {lo hi : Option Int} {Q : VK} (rh : RelH X.K nm ca β h H) (rx : RelD X.K nm ca β H x vx) (e : slcD h x lo hi = some d) (p : PostE X.K nm ca β H (.ok d h) Q) : rSlM X.K vx lo hi H Q := by
  by_cases hx : ∃ xs, x = .tup xs
  · obtain ⟨xs, rfl⟩ := hx
    cases e
    obtain ⟨a, vs, rfl, h1, h2⟩ := rx.tup_inv
    refine .inr ⟨a, vs, rfl, h1, fun z => ?_, fun z q hq => p.laid rh hq (new_tup hq (cut_rel h2))⟩
    have c : cutD xs lo hi = xs := by
      unfold cutD
      rw [h2.length, z.1, z.2, List.drop_zero, Nat.sub_zero, ← h2.length, List.take_length]
    rw [c] at p
    exact p.here rh rx
  · have e2 : (match x.lseq h with
      | some xs => some (D.lst (cutD xs lo hi))
      | none => none) = some d := by
      cases x <;> first | exact e | exact absurd ⟨_, rfl⟩ hx
    cases q : x.lseq h with
    | none => rw [q] at e2; cases e2
    | some xs =>
      rw [q] at e2
      cases e2
      obtain ⟨a, vs, rfl, h1, h2⟩ := lseq_inv rh q rx
      exact .inl ⟨a, vs, rfl, h1, fun q hq => p.laid rh hq (new_lst rh hq (cut_rel h2))⟩
theorem empty_rel {xs : List D} {vs : List V} {K : PySem.W.Frag} (r : RelL K nm ca β H xs vs) : xs.isEmpty = vs.isEmpty := by
  cases r <;> rfl
theorem tru_rel {x : D} {v : V} {k : Bool} {K : PySem.W.Frag} (rh : RelH K nm ca β h H) (r : RelD K nm ca β H x v) (e : tru h x = some k) : TruV K v H k := by
  cases x with
  | non => cases r; cases e; rfl
  | bl b => cases r; cases e; rfl
  | int i => cases r; cases e; rfl
  | str s =>
    cases r
    simp only [tru] at e
    split at e
    · cases e; exact ⟨by assumption, rfl⟩
    · cases e
  | tup xs =>
    obtain ⟨a, vs, rfl, h1, h2⟩ := r.tup_inv
    cases e
    exact .inr (.inl ⟨vs, h1, by rw [empty_rel h2]⟩)
  | lst xs =>
    obtain ⟨a, vs, rfl, h1, h2⟩ := r.lst_inv
    cases e
    exact .inl ⟨vs, h1.sq, by rw [empty_rel h2]⟩
  | ref n =>
    cases q : h[n]? with
    | none => simp [tru, q] at e
    | some o =>
      cases o with
      | lst xs =>
        simp only [tru, q] at e
        cases e
        obtain ⟨a, vs, rfl, h1, h2⟩ := lseq_inv rh (show (D.ref n).lseq h = some xs by simp only [D.lseq, q]) r
        exact .inl ⟨vs, h1, by rw [empty_rel h2]⟩
      | _ => simp [tru, q] at e
  | _ => simp [tru] at e
end
end MC

set_option Elab.async false
set_option linter.all false
set_option maxRecDepth 100000
set_option maxHeartbeats 4000000
namespace MC
open PySem PySem.Spec PyProof.Rows L2
section
variable {prog : Program} {w : World} {A : Around} {E : Value → Shared → Prop} {s : Shared}
theorem adj_rev (n : Nat) : Builtin.Slice.sliceAdjust none none (-1) (n : Int) = ((n : Int) - 1, -1) := by
  unfold Builtin.Slice.sliceAdjust
  simp
theorem places_rev (n : Nat) : Builtin.Slice.slicePlaces ((n : Int) - 1) (-1) (-1) = n := by
  unfold Builtin.Slice.slicePlaces
  simp
  try omega
theorem fm_congr {α β : Type} {f g : α → Option β} : ∀ {l : List α}, (∀ x ∈ l, f x = g x) → l.filterMap f = l.filterMap g
  | [], _ => rfl
  | x :: l, h => by
    rw [List.filterMap_cons, List.filterMap_cons, h x List.mem_cons_self, fm_congr fun y hy => h y (List.mem_cons_of_mem _ hy)]
theorem pick_rev (xs : Array Value) : ((List.range xs.size).filterMap fun (m : Nat) => xs[((xs.size : Int) - 1 + (m : Int) * (-1)).toNat]?).toArray = xs.toList.reverse.toArray := by
  congr 1
  apply List.ext_getElem?
  intro i
  have key : (List.range xs.size).filterMap (fun (m : Nat) => xs[((xs.size : Int) - 1 + (m : Int) * (-1)).toNat]?) = (List.range xs.size).map fun m => (xs.toList.reverse[m]?).getD .none := by
    rw [← List.filterMap_eq_map]
    apply fm_congr
    intro m hm
    have hm := List.mem_range.mp hm
    have e : ((xs.size : Int) - 1 + (m : Int) * (-1)).toNat = xs.size - 1 - m := by omega
    rw [e]
    have h1 : xs.size - 1 - m < xs.size := by omega
    rw [Array.getElem?_eq_getElem h1]
    show some xs[xs.size - 1 - m] = some ((xs.toList.reverse[m]?).getD Value.none)
    have hl : m < xs.toList.length := by rw [Array.length_toList]; exact hm
    rw [List.getElem?_reverse hl, Array.length_toList, Array.getElem?_toList, Array.getElem?_eq_getElem h1]
    rfl
  rw [key, List.getElem?_map]
  by_cases hi : i < xs.size
  · rw [List.getElem?_range hi]
    have h2 : i < xs.toList.reverse.length := by simpa using hi
    rw [Option.map_some, List.getElem?_eq_getElem h2]
    rfl
  · rw [List.getElem?_eq_none (by simpa using hi), List.getElem?_eq_none (by simpa using hi)]
    rfl
theorem applied_rev {sl : Addr} {vl vu vs : Value} {n : Nat} {Q : Int × Int × Nat → Shared → Prop} (hs : s.heap.IsSliceOf sl vl vu vs) (pl : IsPart vl none) (pu : IsPart vu none) (ps : IsPart vs (some (-1))) (h : Q ((n : Int) - 1, -1, n) s) : wpAny (model prog w) A (Builtin.Slice.sliceApplied (.ref sl) (pure (n : Int))) Q E s := by
  obtain ⟨os, hos, hcs, hds⟩ := id hs
  unfold Builtin.Slice.sliceApplied Builtin.Slice.sliceFields
  refine wpAny_bind (wpAny_bind (wpAny_field hos hds (x := vl) rfl (wpAny_bind (wpAny_field hos hds (x := vu) rfl (wpAny_bind (wpAny_field hos hds (x := vs) rfl (wpAny_pure ?_)))))))
  refine wpAny_bind (HT.slicePart_ ps ?_)
  show wpAny _ _ (if ((-1 : Int) == 0) = true then _ else _) _ _ s
  rw [if_neg (by decide)]
  refine wpAny_bind (HT.slicePart_ pl (wpAny_bind (HT.slicePart_ pu (wpAny_bind (wpAny_pure ?_)))))
  show wpAny _ _ (match Builtin.Slice.sliceAdjust none none (-1) (n : Int) with | (lo, hi) => pure (lo, (-1 : Int), Builtin.Slice.slicePlaces lo hi (-1))) _ _ s
  rw [adj_rev n]
  show wpAny _ _ (pure ((n : Int) - 1, (-1 : Int), Builtin.Slice.slicePlaces ((n : Int) - 1) (-1) (-1))) _ _ s
  rw [places_rev]
  exact wpAny_pure h
theorem item_rev {t sl : Addr} {items : Array Value} {vl vu vs : Value} {Q : Value → Shared → Prop} (ht : IsTup s.heap t items) (hs : s.heap.IsSliceOf sl vl vu vs) (pl : IsPart vl none) (pu : IsPart vu none) (ps : IsPart vs (some (-1)))
    (h : Q (.ref s.heap.objs.size) { s with heap := s.heap.push { cls := .type "tuple", data := .seq items.toList.reverse.toArray } }) (hsz : items.size ≤ sizeLine) : wpAny (model prog w) A (getItem (.ref t) (.ref sl)) Q E s := by
  have htake : sizeOk (.seq items.toList.reverse.toArray) := by
    show items.toList.reverse.toArray.size ≤ sizeLine
    rw [List.size_toArray, List.length_reverse, Array.length_toList]
    exact hsz
  obtain ⟨os, hos, hcs, hds⟩ := id hs
  have hTs : s.TypeIs (.ref sl) "slice" := ⟨os, hos, hcs⟩
  unfold getItem
  try with_reducible refine wpAny_holding ?_
  first | refine wpAny_bind (wpAny_pure ?_) | skip
  refine wpAny_bind (wpAny_sequenceKey ht.typeIs (by decide) ?_)
  refine wpAny_bind (wpAny_callSpecial?_slot (name := Str.ofString "__getitem__") ht.typeIs PyProof.Rows.slot_tuple_getitem
    (wpAny_call_entry PyProof.Rows.slot_tuple_getitem ht.typeIs entry_tuple_getitem ?_ (args_tuple_getitem _ _)))
  show wpAny _ _ (Builtin.Tuple.tupleItemsOf (.ref t) >>= _) _ _ s
  refine wpAny_bind (tupleItemsOf_ ht ?_)
  refine wpAny_bind (wpAny_typeOf hTs ?_)
  rw [if_pos (by decide)]
  refine wpAny_bind (applied_rev hs pl pu ps ?_)
  have hno : ¬ ((((items.size : Int) - 1) == 0 && (-1 : Int) == 1 && items.size == items.size) = true) := by
    intro q
    rw [Bool.and_eq_true, Bool.and_eq_true] at q
    exact absurd q.1.2 (by decide)
  show wpAny _ _ (if (((items.size : Int) - 1) == 0 && (-1 : Int) == 1 && items.size == items.size) = true then _ else _) _ _ s
  rw [if_neg hno, pick_rev]
  first
    | exact wpAny_bind (m := Builtin.Tuple.tupleExact _) (wpAny_newObj_type (wpAny_pure ⟨_, rfl, wpAny_pure h⟩) htake)
    | exact wpAny_bind (m := Builtin.Tuple.tupleExact _) (wpAny_newObj_type (wpAny_bind (wpAny_pure (wpAny_pure ⟨_, rfl, wpAny_pure h⟩))) htake)
    | exact wpAny_bind (wpAny_bind (m := Builtin.Tuple.tupleExact _) (wpAny_newObj_type (wpAny_pure (wpAny_pure ⟨_, rfl, wpAny_pure h⟩)) htake))
    | exact wpAny_bind (wpAny_bind (m := Builtin.Tuple.tupleExact _) (wpAny_newObj_type (wpAny_pure ⟨_, rfl, wpAny_pure h⟩) htake))
end
section
variable {X : Cx}
/-- t[::-1] -/
theorem pe_revLT {e : Expr} {te : TE} {k : Nat} {p1 p2 p3 pos : Pos} (he : PE X e te) : PE X (.Subscript e (.Slice none none (some (.UnaryOp .USub (.Constant (.int 1) k p1) p2)) p3) pos) (fun σ H Q => te σ H fun x H1 => ∃ a xs, x = .ref a ∧ ((SqL X.K H1 a xs ∧ ∀ p, H1 p = none → Q (.ref p) (upd H1 p (.lst xs.reverse))) ∨ (SqT X.K H1 a xs ∧ ∀ p, H1 p = none → Q (.ref p) (upd H1 p (.tup xs.reverse))))) := by
  refine ⟨fun pins s σ H Q I h => ?_⟩
  refine Subscript_ (thn (he.run pins s σ H _ I h) fun v s1 ⟨x, H1, I1, r1, q1⟩ => ?_)
  obtain ⟨a, xs, ex, q⟩ := q1
  subst ex
  cases r1
  have hst : PO X (some (.UnaryOp .USub (.Constant (.int 1) k p1) p2)) (tPart (tUn (rU fun i => .int (-i)) (tC (.int 1)))) := po_some (pe_un un_neg pe_int)
  refine wpAny_Slice (thn (po_none.run pins s1 σ H1 (fun o H2 => o = none ∧ H2 = H1) I1 ⟨rfl, rfl⟩) fun vl s2 ⟨l, H2, I2, pl, el, e2⟩ => ?_)
  subst el e2
  refine thn (po_none.run pins s2 σ H2 (fun o H3 => o = none ∧ H3 = H2) I2 ⟨rfl, rfl⟩) fun vu s3 ⟨u, H3, I3, pu, eu, e3⟩ => ?_
  subst eu e3
  refine thn (hst.run pins s3 σ H3 (fun o H4 => o = some (-1) ∧ H4 = H3) I3 ⟨1, rfl, -1, rfl, rfl, rfl⟩) fun vs s4 ⟨o, H4, I4, ps, eo, e4⟩ => ?_
  subst eo e4
  have I5 : Inv X pins σ H4 { s4 with heap := s4.heap.push { cls := .type "slice", data := .fields #[vl, vu, vs] } } := I4.kept (t' := s4.toks) fun b ob q => Heap.get?_push_of_some _ q
  show wpAny (model X.prog X.w) X.A (subscriptTail e (.Slice none none (some (.UnaryOp .USub (.Constant (.int 1) k p1) p2)) p3) (.ref a) (.ref s4.heap.objs.size)) (EP X pins σ Q) X.xe { s4 with heap := s4.heap.push { cls := .type "slice", data := .fields #[vl, vu, vs] } }
  rcases q with ⟨hx, q⟩ | ⟨hx, q⟩
  · obtain ⟨its, r, ht, hz⟩ := I5.list hx
    have hlen := r.length
    refine tail_any (ops := [.ref a, .ref s4.heap.objs.size]) ht.isList.typeIs (PySem.slot_list_getitem.lookup) ?_ (by with_unfolding_all rfl)
    refine wpAny_getItem_list_slice ht.isList (Heap.IsSliceOf.new _ vl vu vs) pl pu ps (by decide) ?_ (by rw [List.size_toArray]; omega)
    rw [PySem.W.krv_pick]
    refine ⟨.ref _, _, I5.laid (t' := s4.toks) (o := .lst xs.reverse) (fun b ob q => Heap.get?_push_of_some _ q) (Nat.le_refl _) ?_, rfl, q _ (I5.hok.fresh (Nat.le_refl _))⟩
    exact ⟨by rw [List.length_reverse]; exact hz, _, 0, r.reverse, Heap.get?_push_size _ rfl⟩
  · obtain ⟨its, r, ht, hz⟩ := I5.tuple hx
    have hlen := r.length
    refine tail_any (ops := [.ref a, .ref s4.heap.objs.size]) ht.typeIs (PyProof.Rows.slot_tuple_getitem.lookup) ?_ (by with_unfolding_all rfl)
    refine item_rev ht (Heap.IsSliceOf.new _ vl vu vs) pl pu ps ?_ (by rw [List.size_toArray]; omega)
    refine ⟨.ref _, _, I5.laid (t' := s4.toks) (o := .tup xs.reverse) (fun b ob q => Heap.get?_push_of_some _ q) (Nat.le_refl _) ?_, rfl, q _ (I5.hok.fresh (Nat.le_refl _))⟩
    refine ⟨by rw [List.length_reverse]; exact hz, its.reverse, r.reverse, _, Heap.get?_push_size _ rfl, ?_⟩
    exact ⟨rfl, 0, rfl⟩
end
end MC

set_option Elab.async false
set_option linter.all false
set_option maxRecDepth 100000
set_option maxHeartbeats 4000000
namespace MC
open PySem PySem.Spec PyProof.Rows L2
section
variable {X : Cx} {nm : Nat → Str} {ca : CaT} {T : Tab} {cl : Nat → List D → Hs → Res D}
abbrev SE (X : Cx) (nm : Nat → Str) (ca : CaT) (T : Tab) (cl : Nat → List D → Hs → Res D) (e : Expr) (c : E) : Prop := PE X e (RE X.K nm ca (evE T cl c))
abbrev ST (X : Cx) (nm : Nat → Str) (ca : CaT) (T : Tab) (cl : Nat → List D → Hs → Res D) (e : Expr) (c : E) : Prop := PT X e (RT X.K nm ca fun σ h => (evE T cl c σ h).bind tst)
abbrev SA (X : Cx) (nm : Nat → Str) (ca : CaT) (T : Tab) (cl : Nat → List D → Hs → Res D) (e : List Expr) (c : A) : Prop := PA X e (RA X.K nm ca (evA T cl c))

/-! ### small ones -/
def cstB : D → Const → Bool
  | .non, .none => true
  | .bl a, .bool b => a == b
  | .int a, .int b => decide (a = b)
  | .str a, .str b => decide (a = b)
  | _, _ => false
theorem s_cst {d : D} {c : Const} {k : Nat} {pos : Pos} (e : cstB d c = true) : SE X nm ca T cl (.Constant c k pos) (.cst d) := by
  cases d <;> cases c <;> first
    | (simp [cstB] at e; done)
    | (refine PE.imp pe_non fun τ H Q ⟨σ, h, β, rs, rh, p⟩ => ?_; exact PostE.here p rh .non)
    | (simp only [cstB, beq_iff_eq, decide_eq_true_eq] at e; subst e; first
        | (refine PE.imp pe_bl fun τ H Q ⟨σ, h, β, rs, rh, p⟩ => ?_; exact PostE.here p rh (.bl _))
        | (refine PE.imp pe_int fun τ H Q ⟨σ, h, β, rs, rh, p⟩ => ?_; exact PostE.here p rh (.int _))
        | (refine PE.imp pe_str fun τ H Q ⟨σ, h, β, rs, rh, p⟩ => ?_; exact PostE.here p rh (.str _)))
theorem s_var {i : Nat} {x : Str} {pos : Pos} (hN : X.N[i]? = some x) (hv : Vis X.env.scope x) (hd : (x == ("__debug__" : Str)) = false) (hcd : (x == ("__classdict__" : Str)) = false) : SE X nm ca T cl (.Name x pos) (.var i) := by
  refine PE.imp (pe_var hN hv hd hcd) fun τ H Q ⟨σ, h, β, rs, rh, p⟩ => ?_
  cases q : σ[i]? with
  | none => simp only [evE, q] at p; exact p.elim
  | some o =>
    cases o with
    | none => simp only [evE, q] at p; exact p.elim
    | some d =>
      simp only [evE, q] at p
      obtain ⟨v, e1, e2⟩ := rs.2 i d q
      exact ⟨v, e1, PostE.here p rh e2⟩
theorem s_glo {g : Nat} {d : D} {x : Str} {v : V} {u : Value} {pos : Pos} (hg : Gl X x) (hm : X.mg x = some u) (r : RelV v u) (rd : ∀ β H, RelD X.K nm ca β H d v) (hd : (x == ("__debug__" : Str)) = false) : SE X nm ca T cl (.Name x pos) (.glo g d) := by
  refine PE.imp (pe_glob hg hm r hd) fun τ H Q ⟨σ, h, β, rs, rh, p⟩ => ?_
  exact PostE.here p rh (rd β H)
theorem s_bin {a b : Expr} {ca' cb' : E} {op : Operator} {pos : Pos} (ha : SE X nm ca T cl a ca') (hb : SE X nm ca T cl b cb') : SE X nm ca T cl (.BinOp a op b pos) (.bin op ca' cb') := by
  obtain ⟨r, o, ok⟩ := bin_all (X := X) (nm := nm) (ca := ca) op
  refine PE.imp (pe_op o ha hb) fun τ H Q ⟨σ, h, β, rs, rh, p⟩ => ?_
  simp only [evE] at p
  obtain ⟨x, h1, e1, p⟩ := p.bind
  obtain ⟨y, h2, e2, p⟩ := p.bind
  obtain ⟨d, e3, p⟩ := p.of
  exact re2 rs rh e1 e2 fun vx vy H2 β2 st rs2 rh2 rx ry => ok β2 H2 h2 x y d vx vy Q rh2 rx ry e3 (p.step st)
theorem s_neg {a : Expr} {c : E} {pos : Pos} (ha : SE X nm ca T cl a c) : SE X nm ca T cl (.UnaryOp .USub a pos) (.neg c) := by
  refine PE.imp (pe_un un_neg ha) fun τ H Q ⟨σ, h, β, rs, rh, p⟩ => ?_
  simp only [evE] at p
  obtain ⟨x, h1, e1, p⟩ := p.bind
  cases x with
  | int i =>
    refine re1 rs rh e1 fun vx H1 β1 st rs1 rh1 rx => ?_
    cases rx
    exact ⟨i, rfl, PostE.here (p.step st) rh1 (.int _)⟩
  | _ => exact p.elim
theorem s_not {a : Expr} {c : E} {pos : Pos} (ha : SE X nm ca T cl a c) : SE X nm ca T cl (.UnaryOp .Not a pos) (.not c) := by
  refine PE.imp (pe_notT ha) fun τ H Q ⟨σ, h, β, rs, rh, p⟩ => ?_
  simp only [evE] at p
  obtain ⟨x, h1, e1, p⟩ := p.bind
  cases q : tru h1 x with
  | none => simp only [q] at p; exact p.elim
  | some k =>
    simp only [q] at p
    exact re1 rs rh e1 fun vx H1 β1 st rs1 rh1 rx => ⟨k, tru_rel rh1 rx q, PostE.here (p.step st) rh1 (.bl _)⟩
theorem s_and {a b : Expr} {rest : List Expr} {c c' : E} {pos : Pos} (ha : SE X nm ca T cl a c) (hb : SE X nm ca T cl (.BoolOp .And (b :: rest) pos) c') : SE X nm ca T cl (.BoolOp .And (a :: b :: rest) pos) (.and c c') := by
  refine PE.imp (pe_andT ha hb) fun τ H Q ⟨σ, h, β, rs, rh, p⟩ => ?_
  simp only [evE] at p
  obtain ⟨x, h1, e1, p⟩ := p.bind
  cases q : tru h1 x with
  | none => simp only [q] at p; exact p.elim
  | some k =>
    refine re1 rs rh e1 fun vx H1 β1 st rs1 rh1 rx => ⟨k, tru_rel rh1 rx q, ?_⟩
    cases k with
    | true => rw [if_pos rfl]; simp only [q] at p; exact ⟨σ, h1, β1, rs1, rh1, p.step st⟩
    | false => rw [if_neg (by decide)]; simp only [q] at p; exact PostE.here (p.step st) rh1 rx
theorem s_or {a b : Expr} {rest : List Expr} {c c' : E} {pos : Pos} (ha : SE X nm ca T cl a c) (hb : SE X nm ca T cl (.BoolOp .Or (b :: rest) pos) c') : SE X nm ca T cl (.BoolOp .Or (a :: b :: rest) pos) (.or c c') := by
  refine PE.imp (pe_orT ha hb) fun τ H Q ⟨σ, h, β, rs, rh, p⟩ => ?_
  simp only [evE] at p
  obtain ⟨x, h1, e1, p⟩ := p.bind
  cases q : tru h1 x with
  | none => simp only [q] at p; exact p.elim
  | some k =>
    refine re1 rs rh e1 fun vx H1 β1 st rs1 rh1 rx => ⟨k, tru_rel rh1 rx q, ?_⟩
    cases k with
    | false => rw [if_neg (by decide)]; simp only [q] at p; exact ⟨σ, h1, β1, rs1, rh1, p.step st⟩
    | true => rw [if_pos rfl]; simp only [q] at p; exact PostE.here (p.step st) rh1 rx
theorem s_one {a : Expr} {op : BoolOp} {c : E} {pos : Pos} (ha : SE X nm ca T cl a c) : SE X nm ca T cl (.BoolOp op [a] pos) c := pe_one ha
/-- not is with True, False -/
def cmpOk : CmpOp → E → Bool
  | .Is, .cst (.bl _) => false
  | .IsNot, .cst (.bl _) => false
  | .Is, .cst .non => true
  | .IsNot, .cst .non => true
  | .Is, _ => false
  | .IsNot, _ => false
  | _, _ => true
theorem cmpOk_non {op : CmpOp} {c : E} (hc : cmpOk op c = true) (h : op = .Is ∨ op = .IsNot) : c = .cst .non := by
  rcases h with rfl | rfl
  · cases c with
    | cst d => cases d <;> first | rfl | cases hc
    | _ => cases hc
  · cases c with
    | cst d => cases d <;> first | rfl | cases hc
    | _ => cases hc
def isSetE : Expr → Bool
  | .Set .. => true
  | _ => false
theorem nomarkS {op : CmpOp} {b : Expr} (h : isSetE b = false) : behindInMarks op b = false := by
  cases b <;> first | rfl | (cases h)
theorem cmp_use {hu : X.A.units + 65 < cLine} {op : CmpOp} : ∃ r, OpR X (compareOp op) r ∧ ∀ (β : List Addr) (H : Hp) (h : Hs) (x y d : D) (vx vy : V) (Q : VK), (op = .Is ∨ op = .IsNot → y = .non) → RelH X.K nm ca β h H → RelD X.K nm ca β H x vx → RelD X.K nm ca β H y vy → opCmp h op x y = some d → PostE X.K nm ca β H (.ok d h) Q → r vx vy H Q := by
  obtain ⟨r, o, ok⟩ := cmp_all (X := X) (nm := nm) (ca := ca) hu op
  refine ⟨r, o, fun β H h x y d vx vy Q hy rh rx ry e p => ok β H h x y d vx vy Q rh rx ry ?_ p⟩
  cases op <;> first
    | exact e
    | (have z := hy (by simp); subst z; exact e)
theorem s_cmp {a b : Expr} {c c' : E} {op : CmpOp} {pos : Pos} (hu : X.A.units + 65 < cLine) (ha : SE X nm ca T cl a c) (hb : SE X nm ca T cl b c') (hs : isSetE b = false) (hc : cmpOk op c' = true) : SE X nm ca T cl (.Compare a [op] [b] pos) (.cmp op c c') := by
  obtain ⟨r, o, ok⟩ := cmp_use (X := X) (nm := nm) (ca := ca) (hu := hu) (op := op)
  refine PE.imp (pe_cmpR o ha hb (nomarkS hs)) fun τ H Q ⟨σ, h, β, rs, rh, p⟩ => ?_
  simp only [evE] at p
  obtain ⟨x, h1, e1, p⟩ := p.bind
  obtain ⟨y, h2, e2, p⟩ := p.bind
  obtain ⟨d, e3, p⟩ := p.of
  refine re2 rs rh e1 e2 fun vx vy H2 β2 st rs2 rh2 rx ry => ok β2 H2 h2 x y d vx vy Q ?_ rh2 rx ry e3 (p.step st)
  intro hop
  have := cmpOk_non hc hop
  subst this
  simp only [evE] at e2
  cases e2
  rfl
theorem opCmp_bl {h : Hs} {op : CmpOp} {x y d : D} (e : opCmp h op x y = some d) : ∃ k, d = .bl k := by
  cases op <;> simp only [opCmp] at e
  all_goals first
    | (cases q : eqD h x y with
        | none => rw [q] at e; cases e
        | some k => rw [q] at e; cases e; exact ⟨_, rfl⟩)
    | (cases q : inD h x y with
        | none => rw [q] at e; cases e
        | some k => rw [q] at e; cases e; exact ⟨_, rfl⟩)
    | (split at e <;> first | (cases e; exact ⟨_, rfl⟩) | (cases e; done) | (split at e <;> (cases e; exact ⟨_, rfl⟩)))
theorem s_chn {a b c : Expr} {ka kb kc : E} {o1 o2 : CmpOp} {pos : Pos} (hu : X.A.units + 65 < cLine) (ha : SE X nm ca T cl a ka) (hb : SE X nm ca T cl b kb) (hc : SE X nm ca T cl c kc) (hs : isSetE b = false) (hs2 : isSetE c = false)
    (h1 : o1 ≠ .Is ∧ o1 ≠ .IsNot) (h2 : o2 ≠ .Is ∧ o2 ≠ .IsNot)
    (hrule : ∀ {r r' : L2.R2}, OpR X (compareOp o1) r → OpR X (compareOp o2) r' → ∀ {ta tb tc : TE}, PE X a ta → PE X b tb → PE X c tc → PE X (.Compare a [o1, o2] [b, c] pos) (tChain r r' ta tb tc)) : SE X nm ca T cl (.Compare a [o1, o2] [b, c] pos) (.chn o1 o2 ka kb kc) := by
  obtain ⟨r, o, ok⟩ := cmp_use (X := X) (nm := nm) (ca := ca) (hu := hu) (op := o1)
  obtain ⟨r', o', ok'⟩ := cmp_use (X := X) (nm := nm) (ca := ca) (hu := hu) (op := o2)
  refine PE.imp (hrule o o' ha hb hc) fun τ H Q ⟨σ, h, β, rs, rh, p⟩ => ?_
  simp only [evE] at p
  obtain ⟨x, g1, e1, p⟩ := p.bind
  obtain ⟨y, g2, e2, p⟩ := p.bind
  cases q : opCmp g2 o1 x y with
  | none => simp only [q] at p; exact p.elim
  | some d =>
    obtain ⟨k, rfl⟩ := opCmp_bl q
    refine re2 rs rh e1 e2 fun vx vy H2 β2 st rs2 rh2 rx ry => ok β2 H2 g2 x y (.bl k) vx vy _ (fun z => (z.elim h1.1 h1.2).elim) rh2 rx ry q ?_
    intro v H3 β3 st3 rh3 rd
    cases rd
    refine ⟨k, rfl, ?_⟩
    cases k with
    | true =>
      rw [if_pos rfl]
      simp only [q] at p
      obtain ⟨z, g3, e3, p⟩ := p.bind
      obtain ⟨d, e4, p⟩ := p.of
      refine re1 (rs2.mono st3) rh3 e3 fun vz H4 β4 st4 rs4 rh4 rz => ?_
      exact ok' β4 H4 g3 y z d vy vz Q (fun z => (z.elim h2.1 h2.2).elim) rh4 ((ry.mono st3).mono st4) rz e4 (((p.step st).step st3).step st4)
    | false =>
      rw [if_neg (by decide)]
      simp only [q] at p
      exact PostE.here ((p.step st).step st3) rh3 (.bl _)
theorem RT.k {f : Sg → Hs → Res Bool} {τ : L2.St} {H : Hp} {β : List Addr} {σ : Sg} {h h1 : Hs} {k : Bool} {R : Bool → Hp → Prop} (rs : RelS X.K nm ca β H σ τ) (rh : RelH X.K nm ca β h H) (e : f σ h = .ok k h1)
    (c : ∀ H1 β1, Stp β H β1 H1 → RelS X.K nm ca β1 H1 σ τ → RelH X.K nm ca β1 h1 H1 → R k H1) : RT X.K nm ca f τ H R := by
  refine ⟨σ, h, β, rs, rh, ?_⟩
  rw [e]
  exact fun H' β' st r1 => c H' β' st (rs.mono st) r1
theorem s_ite {t a b : Expr} {kt ka kb : E} {pos : Pos} (ht : ST X nm ca T cl t kt) (ha : SE X nm ca T cl a ka) (hb : SE X nm ca T cl b kb) : SE X nm ca T cl (.IfExp t a b pos) (.ite kt ka kb) := by
  refine PE.imp (pe_ifExp ht ha hb) fun τ H Q ⟨σ, h, β, rs, rh, p⟩ => ?_
  simp only [evE] at p
  obtain ⟨k, h1, e1, p⟩ := p.bind
  refine RT.k rs rh e1 fun H1 β1 st rs1 rh1 => ?_
  cases k with
  | true => rw [if_pos rfl] at p ⊢; exact ⟨σ, h1, β1, rs1, rh1, p.step st⟩
  | false => rw [if_neg (by decide)] at p ⊢; exact ⟨σ, h1, β1, rs1, rh1, p.step st⟩

/-! ### tests -/
theorem t_val {e : Expr} {c : E} (h : SE X nm ca T cl e c) (he : ∀ whole, isTrue e X.env whole = (do let v ← whole; standAt e.pos; holding [v] (truthy v))) : ST X nm ca T cl e c := by
  refine PT.imp (pt_truth h he) fun τ H Q ⟨σ, h, β, rs, rh, p⟩ => ?_
  obtain ⟨x, h1, e1, p⟩ := p.bind
  obtain ⟨k, e2, p⟩ := PostT.of (show PostT X.K nm ca β H (.of (tru h1 x) h1) Q from p)
  exact re1 rs rh e1 fun vx H1 β1 st rs1 rh1 rx => ⟨k, tru_rel rh1 rx e2, p H1 β1 st rh1⟩
theorem t_not {a : Expr} {c : E} {pos : Pos} (ha : ST X nm ca T cl a c) : ST X nm ca T cl (.UnaryOp .Not a pos) (.not c) := by
  refine PT.imp (pt_not ha) fun τ H Q ⟨σ, h, β, rs, rh, p⟩ => ?_
  obtain ⟨x, h1, e1, p⟩ := p.bind
  simp only [evE] at e1
  cases q : evE T cl c σ h with
  | ok y h2 =>
    rw [q] at e1
    cases q2 : tru h2 y with
    | none => simp only [Res.bind, q2] at e1; cases e1
    | some k =>
      simp only [Res.bind, q2] at e1
      cases e1
      exact RT.k rs rh (k := k) (h1 := h1) (show (evE T cl c σ h).bind tst = .ok k h1 by rw [q]; simp [Res.bind, tst, q2, Res.of]) fun H1 β1 st rs1 rh1 => p H1 β1 st rh1
  | ex _ _ => rw [q] at e1; cases e1
  | no => rw [q] at e1; cases e1
abbrev SW (X : Cx) (nm : Nat → Str) (ca : CaT) (T : Tab) (cl : Nat → List D → Hs → Res D) (e : Expr) (c : E) : Prop := PW X e (RT X.K nm ca fun σ h => (evE T cl c σ h).bind tst)
theorem PW.imp {X : Cx} {e : Expr} {t t' : TT} (h : PW X e t) (i : ∀ σ H Q, t' σ H Q → t σ H Q) : PW X e t' := ⟨fun wh pins s σ H Q I q => h.run wh pins s σ H Q I (i σ H Q q)⟩
theorem tst_of {x : D} {h h1 : Hs} {k : Bool} (e : tst x h = .ok k h1) : tru h x = some k ∧ h1 = h := by
  unfold tst at e
  cases q : tru h x with
  | none => rw [q] at e; cases e
  | some b => rw [q] at e; cases e; exact ⟨rfl, rfl⟩
theorem t_and {a b : Expr} {rest : List Expr} {c c' : E} {pos : Pos} (ha : ST X nm ca T cl a c) (hb : SW X nm ca T cl (.BoolOp .And (b :: rest) pos) c') : SW X nm ca T cl (.BoolOp .And (a :: b :: rest) pos) (.and c c') := by
  refine PW.imp (pw_and ha hb) fun τ H Q ⟨σ, h, β, rs, rh, p⟩ => ?_
  obtain ⟨x, h1, e1, p⟩ := p.bind
  simp only [evE] at e1
  cases q : evE T cl c σ h with
  | ok y h2 =>
    rw [q] at e1
    cases q2 : tru h2 y with
    | none => simp only [Res.bind, q2] at e1; cases e1
    | some k =>
      refine RT.k rs rh (k := k) (h1 := h2) (show (evE T cl c σ h).bind tst = .ok k h2 by rw [q]; simp [Res.bind, tst, q2, Res.of]) fun H1 β1 st rs1 rh1 => ?_
      cases k with
      | true =>
        rw [if_pos rfl]
        simp only [Res.bind, q2] at e1
        refine ⟨σ, h2, β1, rs1, rh1, ?_⟩
        show PostT X.K nm ca β1 H1 ((evE T cl c' σ h2).bind tst) Q
        rw [e1]
        exact p.step st
      | false =>
        rw [if_neg (by decide)]
        simp only [Res.bind, q2] at e1
        cases e1
        obtain ⟨d, e2, p⟩ := PostT.of (show PostT X.K nm ca β H (.of (tru h1 x) h1) Q from p)
        rw [q2] at e2
        cases e2
        exact p H1 β1 st rh1
  | ex _ _ => rw [q] at e1; cases e1
  | no => rw [q] at e1; cases e1
theorem t_or {a b : Expr} {rest : List Expr} {c c' : E} {pos : Pos} (ha : ST X nm ca T cl a c) (hb : SW X nm ca T cl (.BoolOp .Or (b :: rest) pos) c') : SW X nm ca T cl (.BoolOp .Or (a :: b :: rest) pos) (.or c c') := by
  refine PW.imp (pw_or ha hb) fun τ H Q ⟨σ, h, β, rs, rh, p⟩ => ?_
  obtain ⟨x, h1, e1, p⟩ := p.bind
  simp only [evE] at e1
  cases q : evE T cl c σ h with
  | ok y h2 =>
    rw [q] at e1
    cases q2 : tru h2 y with
    | none => simp only [Res.bind, q2] at e1; cases e1
    | some k =>
      refine RT.k rs rh (k := k) (h1 := h2) (show (evE T cl c σ h).bind tst = .ok k h2 by rw [q]; simp [Res.bind, tst, q2, Res.of]) fun H1 β1 st rs1 rh1 => ?_
      cases k with
      | false =>
        rw [if_neg (by decide)]
        simp only [Res.bind, q2] at e1
        refine ⟨σ, h2, β1, rs1, rh1, ?_⟩
        show PostT X.K nm ca β1 H1 ((evE T cl c' σ h2).bind tst) Q
        rw [e1]
        exact p.step st
      | true =>
        rw [if_pos rfl]
        simp only [Res.bind, q2] at e1
        cases e1
        obtain ⟨d, e2, p⟩ := PostT.of (show PostT X.K nm ca β H (.of (tru h1 x) h1) Q from p)
        rw [q2] at e2
        cases e2
        exact p H1 β1 st rh1
  | ex _ _ => rw [q] at e1; cases e1
  | no => rw [q] at e1; cases e1
/-- from a value's rule to a test's, for comparisons -/
theorem t_cmp {a b : Expr} {c c' : E} {op : CmpOp} {pos : Pos} (hu : X.A.units + 65 < cLine) (ha : SE X nm ca T cl a c) (hb : SE X nm ca T cl b c') (hs : isSetE b = false) (hc : cmpOk op c' = true) : ST X nm ca T cl (.Compare a [op] [b] pos) (.cmp op c c') := by
  obtain ⟨r, o, ok⟩ := cmp_use (X := X) (nm := nm) (ca := ca) (hu := hu) (op := op)
  refine PT.imp (pt_cmpR o ha hb (nomarkS hs)) fun τ H Q ⟨σ, h, β, rs, rh, p⟩ => ?_
  obtain ⟨d, h3, e3, p⟩ := p.bind
  simp only [evE] at e3
  cases q1 : evE T cl c σ h with
  | ok x h1 =>
    rw [q1] at e3
    cases q2 : evE T cl c' σ h1 with
    | ok y h2 =>
      simp only [Res.bind, q2] at e3
      cases q3 : opCmp h2 op x y with
      | none => rw [q3] at e3; cases e3
      | some d' =>
        rw [q3] at e3
        cases e3
        obtain ⟨k, rfl⟩ := opCmp_bl q3
        refine re2 rs rh q1 q2 fun vx vy H2 β2 st rs2 rh2 rx ry => ok β2 H2 h3 x y (.bl k) vx vy _ ?_ rh2 rx ry q3 ?_
        · intro hop
          have := cmpOk_non hc hop
          subst this
          simp only [evE] at q2
          cases q2
          rfl
        · intro v H3 β3 st3 rh3 rd
          cases rd
          obtain ⟨k', e5, p⟩ := PostT.of (show PostT X.K nm ca β H (.of (tru h3 (.bl k)) h3) Q from p)
          cases e5
          exact ⟨k, rfl, p H3 β3 (st.trans st3) rh3⟩
    | ex _ _ => simp only [Res.bind, q2] at e3; cases e3
    | no => simp only [Res.bind, q2] at e3; cases e3
  | ex _ _ => rw [q1] at e3; cases e3
  | no => rw [q1] at e3; cases e3

/-! ### argument lists, displays -/
def isSt : Expr → Bool
  | .Starred .. => true
  | _ => false
theorem starEach_plain {e : Expr} {es : List Expr} {env : Env} (h : isSt e = false) : starEach (e :: es) env = (false, eval e env) :: starEach es env := by
  cases e <;> first | rfl | cases h
theorem a_nil : SA X nm ca T cl [] .nil := PA.imp pa_nil fun τ H Q ⟨σ, h, β, rs, rh, p⟩ => p [] H β (Stp.refl _ _) rh .nil
theorem a_cons {e : Expr} {es : List Expr} {c : E} {r : A} (he : SE X nm ca T cl e c) (hr : SA X nm ca T cl es r) (hs : isSt e = false) : SA X nm ca T cl (e :: es) (.cons c r) := by
  refine PA.imp (pa_cons he hr (starEach_plain hs)) fun τ H Q ⟨σ, h, β, rs, rh, p⟩ => ?_
  simp only [evA] at p
  obtain ⟨x, h1, e1, p⟩ := p.bind
  obtain ⟨xs, h2, e2, p⟩ := p.bind
  exact re1 rs rh e1 fun vx H1 β1 st rs1 rh1 rx => ra1 rs1 rh1 e2 fun vxs H2 β2 st2 rs2 rh2 rxs => p _ H2 β2 (st.trans st2) rh2 (.cons (rx.mono st2) rxs)
theorem a_star {e : Expr} {es : List Expr} {c : E} {r : A} {p' : Pos} (he : SE X nm ca T cl e c) (hr : SA X nm ca T cl es r) : SA X nm ca T cl (.Starred e p' :: es) (.star c r) := by
  refine PA.imp (StX.pa_star he hr rfl) fun τ H Q ⟨σ, h, β, rs, rh, p⟩ => ?_
  simp only [evA] at p
  obtain ⟨x, h1, e1, p⟩ := p.bind
  cases q : x.seq h1 with
  | none => simp only [q] at p; exact p.elim
  | some ys =>
    simp only [q] at p
    obtain ⟨xs, h2, e2, p⟩ := p.bind
    refine re1 rs rh e1 fun vx H1 β1 st rs1 rh1 rx => ?_
    obtain ⟨a, vs, rfl, k1, k2⟩ := seq_inv rh1 q rx
    exact ⟨a, vs, rfl, k1.symm, ra1 rs1 rh1 e2 fun vxs H2 β2 st2 rs2 rh2 rxs => p _ H2 β2 (st.trans st2) rh2 ((k2.mono st2).app rxs)⟩
theorem s_tup {es : List Expr} {c : A} {k : Nat} {pos : Pos} (h : SA X nm ca T cl es c) : SE X nm ca T cl (.Tuple es k pos) (.tup c) := by
  refine PE.imp (pe_tup h) fun τ H Q ⟨σ, h, β, rs, rh, p⟩ => ?_
  simp only [evE] at p
  obtain ⟨xs, h1, e1, p⟩ := p.bind
  split at p
  · rename_i hz
    refine ra1 rs rh e1 fun vxs H1 β1 st rs1 rh1 rx => ⟨by rw [← rx.length]; exact hz, fun q hq => ?_⟩
    exact PostE.laid (p.step st) rh1 hq (new_tup hq rx)
  · exact p.elim
/-- a new object of the M-heap -/
theorem PostE.push {d : D} {Q : VK} {K : PySem.W.Frag} {β : List Addr} {H : Hp} {h : Hs} {p : Addr} {o : HO} {m : O} (q : PostE K nm ca β H (.ok (.ref h.length) (h ++ [m])) Q) (rh : RelH K nm ca β h H) (n : H p = none) (r : RelO K nm ca (β ++ [p]) (upd H p o) p m) : Q (.ref p) (upd H p o) :=
  q _ _ _ (Stp.push n) (rh.push n r) (.ref (by rw [← rh.len, List.getElem?_append_right (Nat.le_refl _)]; simp))
theorem s_lst {es : List Expr} {c : A} {fz : Bool} {pos : Pos} (h : SA X nm ca T cl es c) : SE X nm ca T cl (.List es pos) (.lst fz c) := by
  refine PE.imp (pe_lst h) fun τ H Q ⟨σ, h, β, rs, rh, p⟩ => ?_
  simp only [evE] at p
  obtain ⟨xs, h1, e1, p⟩ := p.bind
  split at p
  · rename_i hz
    refine ra1 rs rh e1 fun vxs H1 β1 st rs1 rh1 rx => ⟨by rw [← rx.length]; exact hz, fun q hq => ?_⟩
    cases fz with
    | true => exact PostE.laid (p.step st) rh1 hq (new_lst rh1 hq rx)
    | false => exact PostE.push (d := .non) (p.step st) rh1 hq ⟨vxs, upd_same, rx.mono (Stp.push hq)⟩
  · exact p.elim
/-! ### subscripts -/
def isSl : Expr → Bool
  | .Slice .. => true
  | _ => false
theorem plainIx {b : Expr} (h : isSl b = false) : PlainIx b := fun o i => by
  cases b <;> first | rfl | cases h
theorem s_idx {a b : Expr} {c c' : E} {pos : Pos} (ha : SE X nm ca T cl a c) (hb : SE X nm ca T cl b c') (hs : isSl b = false) : SE X nm ca T cl (.Subscript a b pos) (.idx c c') := by
  refine PE.imp (pe_ix ix_M ha hb (plainIx hs)) fun τ H Q ⟨σ, h, β, rs, rh, p⟩ => ?_
  simp only [evE] at p
  obtain ⟨x, h1, e1, p⟩ := p.bind
  obtain ⟨y, h2, e2, p⟩ := p.bind
  obtain ⟨d, e3, p⟩ := p.of
  refine re2 rs rh e1 e2 fun vx vy H2 β2 st rs2 rh2 rx ry => idx_ok (nm := nm) (ca := ca) β2 H2 h2 x y d vx vy Q rh2 rx ry e3 (p.step st)
abbrev SO (X : Cx) (nm : Nat → Str) (ca : CaT) (T : Tab) (cl : Nat → List D → Hs → Res D) : Option Expr → OE → Prop
  | none, .none => True
  | some e, .some c => SE X nm ca T cl e c
  | _, _ => False
theorem s_slc {a : Expr} {lo hi : Option Expr} {c : E} {l u : OE} {p2 pos : Pos} (ha : SE X nm ca T cl a c) (hl : SO X nm ca T cl lo l) (hu : SO X nm ca T cl hi u) : SE X nm ca T cl (.Subscript a (.Slice lo hi none p2) pos) (.slc c l u) := by
  cases lo with
  | none =>
    cases l with
    | some _ => exact hl.elim
    | none =>
      cases hi with
      | none =>
        cases u with
        | some _ => exact hu.elim
        | none =>
          refine PE.imp (pe_slice sl_M ha po_none po_none) fun τ H Q ⟨σ, h, β, rs, rh, p⟩ => ?_
          simp only [evE, evOE] at p
          obtain ⟨x, h1, e1, p⟩ := p.bind
          obtain ⟨d, e3, p⟩ := PostE.of (show PostE X.K nm ca β H (.of (slcD h1 x none none) h1) Q from p)
          exact re1 rs rh e1 fun vx H1 β1 st rs1 rh1 rx => slc_ok rh1 rx e3 (p.step st)
      | some eh =>
        cases u with
        | none => exact hu.elim
        | some cu =>
          refine PE.imp (pe_slice sl_M ha po_none (po_some hu)) fun τ H Q ⟨σ, h, β, rs, rh, p⟩ => ?_
          simp only [evE, evOE] at p
          obtain ⟨x, h1, e1, p⟩ := p.bind
          obtain ⟨y0, h2, e2, p⟩ := p.bind
          cases e2
          obtain ⟨y1, h3, e3, p⟩ := p.bind
          cases q : evE T cl cu σ h1 with
          | ok y h4 =>
            rw [q] at e3
            cases e3
            cases y with
            | int j =>
              obtain ⟨d, e4, p⟩ := PostE.of (show PostE X.K nm ca β H (.of (slcD h3 x none (some j)) h3) Q from p)
              refine re2 rs rh e1 q fun vx vy H2 β2 st rs2 rh2 rx ry => ?_
              cases ry
              exact ⟨j, rfl, slc_ok rh2 rx e4 (p.step st)⟩
            | _ => exact p.elim
          | ex _ _ => rw [q] at e3; cases e3
          | no => rw [q] at e3; cases e3
  | some el =>
    cases l with
    | none => exact hl.elim
    | some kl =>
      cases hi with
      | none =>
        cases u with
        | some _ => exact hu.elim
        | none =>
          refine PE.imp (pe_slice sl_M ha (po_some hl) po_none) fun τ H Q ⟨σ, h, β, rs, rh, p⟩ => ?_
          simp only [evE, evOE] at p
          obtain ⟨x, h1, e1, p⟩ := p.bind
          obtain ⟨y1, h3, e3, p⟩ := p.bind
          cases q : evE T cl kl σ h1 with
          | ok y h4 =>
            rw [q] at e3
            cases e3
            cases y with
            | int j =>
              obtain ⟨d, e4, p⟩ := PostE.of (show PostE X.K nm ca β H (.of (slcD h3 x (some j) none) h3) Q from p)
              refine re2 rs rh e1 q fun vx vy H2 β2 st rs2 rh2 rx ry => ?_
              cases ry
              exact ⟨j, rfl, slc_ok rh2 rx e4 (p.step st)⟩
            | _ => exact p.elim
          | ex _ _ => rw [q] at e3; cases e3
          | no => rw [q] at e3; cases e3
      | some eh =>
        cases u with
        | none => exact hu.elim
        | some cu =>
          refine PE.imp (pe_slice sl_M ha (po_some hl) (po_some hu)) fun τ H Q ⟨σ, h, β, rs, rh, p⟩ => ?_
          simp only [evE, evOE] at p
          obtain ⟨x, h1, e1, p⟩ := p.bind
          obtain ⟨y1, h3, e3, p⟩ := p.bind
          obtain ⟨z1, h5, e5, p⟩ := p.bind
          cases q : evE T cl kl σ h1 with
          | ok y h4 =>
            rw [q] at e3
            cases e3
            cases q2 : evE T cl cu σ h3 with
            | ok z h6 =>
              rw [q2] at e5
              cases e5
              cases y with
              | int j =>
                cases z with
                | int k =>
                  obtain ⟨d, e4, p⟩ := PostE.of (show PostE X.K nm ca β H (.of (slcD h5 x (some j) (some k)) h5) Q from p)
                  refine re2 rs rh e1 q fun vx vy H2 β2 st rs2 rh2 rx ry => ?_
                  cases ry
                  refine ⟨j, rfl, re1 rs2 rh2 q2 fun vz H3 β3 st3 rs3 rh3 rz => ?_⟩
                  cases rz
                  exact ⟨k, rfl, slc_ok rh3 (rx.mono st3) e4 ((p.step st).step st3)⟩
                | _ => exact p.elim
              | _ => cases z <;> exact p.elim
            | ex _ _ => rw [q2] at e5; cases e5
            | no => rw [q2] at e5; cases e5
          | ex _ _ => rw [q] at e3; cases e3
          | no => rw [q] at e3; cases e3
end
end MC

set_option Elab.async false
set_option linter.all false
set_option maxRecDepth 100000
set_option maxHeartbeats 4000000
namespace MC
open PySem PySem.Spec PyProof.Rows L2
mutual
theorem D.eqb_eq : ∀ {a b : D}, D.eqb a b = true → a = b
  | .non, b, h => by cases b <;> first | rfl | (simp [D.eqb] at h)
  | .bl x, b, h => by cases b <;> simp [D.eqb] at h ⊢; exact h
  | .int x, b, h => by cases b <;> simp [D.eqb] at h ⊢; exact h
  | .str x, b, h => by cases b <;> simp [D.eqb] at h ⊢; exact h
  | .tup x, b, h => by cases b <;> simp [D.eqb] at h ⊢; exact D.eqbL_eq h
  | .lst x, b, h => by cases b <;> simp [D.eqb] at h ⊢; exact D.eqbL_eq h
  | .dct x, b, h => by cases b <;> simp [D.eqb] at h ⊢; exact D.eqbK_eq h
  | .ins c x, b, h => by cases b <;> simp [D.eqb] at h ⊢; exact ⟨h.1, D.eqbF_eq h.2⟩
  | .ref x, b, h => by cases b <;> simp [D.eqb] at h ⊢; exact h
theorem D.eqbL_eq : ∀ {a b : List D}, D.eqbL a b = true → a = b
  | [], b, h => by cases b <;> first | rfl | (simp [D.eqbL] at h)
  | x :: xs, b, h => by cases b <;> simp [D.eqbL] at h ⊢; exact ⟨D.eqb_eq h.1, D.eqbL_eq h.2⟩
theorem D.eqbK_eq : ∀ {a b : List (D × D)}, D.eqbK a b = true → a = b
  | [], b, h => by cases b <;> first | rfl | (simp [D.eqbK] at h)
  | (x, y) :: xs, b, h => by
    cases b with
    | nil => simp [D.eqbK] at h
    | cons q r =>
      obtain ⟨u, v⟩ := q
      simp [D.eqbK] at h ⊢
      exact ⟨⟨D.eqb_eq h.1.1, D.eqb_eq h.1.2⟩, D.eqbK_eq h.2⟩
theorem D.eqbF_eq : ∀ {a b : List (Nat × D)}, D.eqbF a b = true → a = b
  | [], b, h => by cases b <;> first | rfl | (simp [D.eqbF] at h)
  | (x, y) :: xs, b, h => by
    cases b with
    | nil => simp [D.eqbF] at h
    | cons q r =>
      obtain ⟨u, v⟩ := q
      simp [D.eqbF] at h ⊢
      exact ⟨⟨h.1.1, D.eqb_eq h.1.2⟩, D.eqbF_eq h.2⟩
end
theorem O.eqb_eq {a b : O} (h : O.eqb a b = true) : a = b := by
  cases a <;> cases b <;> simp [O.eqb] at h ⊢
  · exact D.eqbL_eq h
  · exact D.eqbK_eq h
  · exact ⟨h.1, D.eqbF_eq h.2⟩
  · exact D.eqbK_eq h
theorem Hs.eqb_eq : ∀ {a b : Hs}, Hs.eqb a b = true → a = b
  | [], b, h => by cases b <;> first | rfl | (simp [Hs.eqb] at h)
  | x :: xs, b, h => by cases b <;> simp [Hs.eqb] at h ⊢; exact ⟨O.eqb_eq h.1, Hs.eqb_eq h.2⟩
section
variable {K : PySem.W.Frag} {nm : Nat → Str} {ca : CaT} {β r : List Addr} {H H' : Hp}
theorem LsT.back {a : Addr} {vs : List V} (h : LsT K (β ++ r) H' a vs) : LsT K β H' a vs := by
  rcases h with ⟨h, n⟩ | h
  · exact .inl ⟨h, fun m => n (List.mem_append_left _ m)⟩
  · exact .inr h
mutual
/-- what was told at β already -/
theorem RelD.back : ∀ {d : D} {v v0 : V}, RelD K nm ca β H d v0 → RelD K nm ca (β ++ r) H' d v → RelD K nm ca β H' d v
  | _, _, _, .non, q => by cases q; exact .non
  | _, _, _, .bl _, q => by cases q; exact .bl _
  | _, _, _, .int _, q => by cases q; exact .int _
  | _, _, _, .str _, q => by cases q; exact .str _
  | _, _, _, .tup h l, q => by cases q with | tup h' l' => exact .tup h' (RelL.back l l')
  | _, _, _, .lst h l, q => by cases q with | lst h' l' => exact .lst h'.back (RelL.back l l')
  | _, _, _, .ins h n l, q => by cases q with | ins h' n' l' => exact .ins h' (fun m => n' (List.mem_append_left _ m)) (RelF.back l l')
  | _, _, _, .ref h, q => by
    cases q with
    | ref h' =>
      rw [List.getElem?_append_left (List.getElem?_eq_some_iff.mp h).1] at h'
      exact .ref h'
  | _, _, _, .dct h n l, q => by cases q with | dct h' n' l' => exact .dct h' (fun m => n' (List.mem_append_left _ m)) (RelK.back l l')
theorem RelK.back : ∀ {d : List (D × D)} {v v0 : List (NestedKey × Addr × V)}, RelK K nm ca β H d v0 → RelK K nm ca (β ++ r) H' d v → RelK K nm ca β H' d v
  | _, _, _, .nil, q => by cases q; exact .nil
  | _, _, _, .cons _ h h2 t, q => by cases q with | cons e' h' h2' t' => exact .cons e' (RelD.back h h') (RelD.back h2 h2') (RelK.back t t')
theorem RelL.back : ∀ {d : List D} {v v0 : List V}, RelL K nm ca β H d v0 → RelL K nm ca (β ++ r) H' d v → RelL K nm ca β H' d v
  | _, _, _, .nil, q => by cases q; exact .nil
  | _, _, _, .cons h t, q => by cases q with | cons h' t' => exact .cons (RelD.back h h') (RelL.back t t')
theorem RelF.back : ∀ {d : List (Nat × D)} {v v0 : List (Str × V)}, RelF K nm ca β H d v0 → RelF K nm ca (β ++ r) H' d v → RelF K nm ca β H' d v
  | _, _, _, .nil, q => by cases q; exact .nil
  | _, _, _, .cons h t, q => by cases q with | cons h' t' => exact .cons (RelD.back h h') (RelF.back t t')
end
mutual
theorem RelD.nr : ∀ {d : D} {v : V}, RelD K nm ca (β ++ r) H d v → d.nr = true → RelD K nm ca β H d v
  | _, _, .non, _ => .non
  | _, _, .bl b, _ => .bl b
  | _, _, .int i, _ => .int i
  | _, _, .str x, _ => .str x
  | _, _, .tup h l, e => .tup h (RelL.nr l (by simpa [D.nr] using e))
  | _, _, .lst h l, e => .lst h.back (RelL.nr l (by simpa [D.nr] using e))
  | _, _, .ins h n l, e => .ins h (fun m => n (List.mem_append_left _ m)) (RelF.nr l (by simpa [D.nr] using e))
  | _, _, .dct h n l, e => .dct h (fun m => n (List.mem_append_left _ m)) (RelK.nr l (by simpa [D.nr] using e))
  | _, _, .ref _, e => by simp [D.nr] at e
theorem RelK.nr : ∀ {d : List (D × D)} {v : List (NestedKey × Addr × V)}, RelK K nm ca (β ++ r) H d v → D.nrK d = true → RelK K nm ca β H d v
  | _, _, .nil, _ => .nil
  | _, _, .cons k h h2 t, e => by
    simp only [D.nrK, Bool.and_eq_true] at e
    exact .cons k (RelD.nr h e.1.1) (RelD.nr h2 e.1.2) (RelK.nr t e.2)
theorem RelL.nr : ∀ {d : List D} {v : List V}, RelL K nm ca (β ++ r) H d v → D.nrL d = true → RelL K nm ca β H d v
  | _, _, .nil, _ => .nil
  | _, _, .cons h t, e => by
    simp only [D.nrL, Bool.and_eq_true] at e
    exact .cons (RelD.nr h e.1) (RelL.nr t e.2)
theorem RelF.nr : ∀ {d : List (Nat × D)} {v : List (Str × V)}, RelF K nm ca (β ++ r) H d v → D.nrF d = true → RelF K nm ca β H d v
  | _, _, .nil, _ => .nil
  | _, _, .cons h t, e => by
    simp only [D.nrF, Bool.and_eq_true] at e
    exact .cons (RelD.nr h e.1) (RelF.nr t e.2)
end
theorem frzL_rel {f : D → Option D} (ih : ∀ d d' v, f d = some d' → RelD K nm ca (β ++ r) H d v → RelD K nm ca β H d' v) : ∀ {xs ys : List D} {vs : List V}, xs.mapM f = some ys → RelL K nm ca (β ++ r) H xs vs → RelL K nm ca β H ys vs
  | [], ys, _, e, .nil => by simp at e; subst e; exact .nil
  | x :: xs, ys, _, e, .cons h t => by
    rw [List.mapM_cons] at e
    cases q : f x with
    | none => simp [q] at e
    | some a =>
      cases q2 : xs.mapM f with
      | none => simp [q, q2] at e
      | some b =>
        simp [q, q2] at e
        subst e
        exact .cons (ih _ _ _ q h) (frzL_rel ih q2 t)
mutual
theorem key_nr : ∀ {d : D} {k : NestedKey}, d.key = some k → d.nr = true
  | .non, _, _ => rfl
  | .bl _, _, _ => rfl
  | .int _, _, _ => rfl
  | .str _, _, _ => rfl
  | .tup xs, _, e => by
    simp only [D.key, Option.map_eq_some_iff] at e
    obtain ⟨ks, e1, _⟩ := e
    simpa [D.nr] using keys_nr e1
  | .lst _, _, e => by simp [D.key] at e
  | .dct _, _, e => by simp [D.key] at e
  | .ins _ _, _, e => by simp [D.key] at e
  | .ref _, _, e => by simp [D.key] at e
theorem keys_nr : ∀ {d : List D} {k : List NestedKey}, D.keys d = some k → D.nrL d = true
  | [], _, _ => rfl
  | x :: xs, _, e => by
    simp only [D.keys] at e
    split at e
    · rename_i e1 e2
      simp [D.nrL, key_nr e1, keys_nr e2]
    · cases e
end
theorem tkey_key {d : D} {k : NestedKey} (e : d.tkey = some k) : d.key = some k ∧ k.depth ≤ 8 ∧ ∃ xs, d = .tup xs := by
  cases d with
  | tup xs =>
    simp only [D.tkey] at e
    split at e
    · rename_i k' e1
      split at e
      · rename_i h
        cases e
        exact ⟨e1, h, xs, rfl⟩
      · cases e
    · cases e
  | _ => cases e
theorem frzK_rel {f : D → Option D} (ih : ∀ d d' v, f d = some d' → RelD K nm ca (β ++ r) H d v → RelD K nm ca β H d' v) : ∀ {xs ys : List (D × D)} {vs : List (NestedKey × Addr × V)}, xs.mapM (m := Option) (β := D × D) (fun (p : D × D) => (f p.2).map fun b => (p.1, b)) = some ys → RelK K nm ca (β ++ r) H xs vs → RelK K nm ca β H ys vs
  | [], ys, _, e, .nil => by simp at e; subst e; exact .nil
  | (n, x) :: xs, ys, _, e, .cons k h1 h t => by
    rw [List.mapM_cons] at e
    cases q : f x with
    | none => simp [q] at e
    | some a =>
      cases q2 : xs.mapM (m := Option) (β := D × D) (fun (p : D × D) => (f p.2).map fun b => (p.1, b)) with
      | none => simp [q, q2] at e
      | some b =>
        simp [q, q2] at e
        subst e
        exact .cons k (h1.nr (key_nr (tkey_key k).1)) (ih _ _ _ q h) (frzK_rel ih q2 t)
theorem frzF_rel {f : D → Option D} (ih : ∀ d d' v, f d = some d' → RelD K nm ca (β ++ r) H d v → RelD K nm ca β H d' v) : ∀ {xs ys : List (Nat × D)} {vs : List (Str × V)}, xs.mapM (m := Option) (β := Nat × D) (fun (p : Nat × D) => (f p.2).map fun b => (p.1, b)) = some ys → RelF K nm ca (β ++ r) H xs vs → RelF K nm ca β H ys vs
  | [], ys, _, e, .nil => by simp at e; subst e; exact .nil
  | (n, x) :: xs, ys, _, e, .cons h t => by
    rw [List.mapM_cons] at e
    cases q : f x with
    | none => simp [q] at e
    | some a =>
      cases q2 : xs.mapM (m := Option) (β := Nat × D) (fun (p : Nat × D) => (f p.2).map fun b => (p.1, b)) with
      | none => simp [q, q2] at e
      | some b =>
        simp [q, q2] at e
        subst e
        exact .cons (ih _ _ _ q h) (frzF_rel ih q2 t)
theorem frz_rel {h : Hs} {b : Nat} (rh : RelH K nm ca (β ++ r) h H) (hb : b = β.length) : ∀ (k : Nat) (d d' : D) (v : V), frzD (h.drop b) b k d = some d' → RelD K nm ca (β ++ r) H d v → RelD K nm ca β H d' v
  | 0, _, _, _, e, _ => by simp [frzD] at e
  | k + 1, d, d', v, e, q => by
    have ih := frz_rel rh hb k
    unfold frzD at e
    split at e
    · cases e
      exact q.nr (by assumption)
    · cases d with
      | ref n =>
        simp only at e
        split at e
        · rename_i hlt
          cases e
          cases q with
          | ref q =>
            rw [List.getElem?_append_left (by omega)] at q
            exact .ref q
        · rename_i hge
          have hn : ¬ n < β.length := by omega
          cases q with
          | @ref _ a q =>
            have na : a ∉ β := fun m => by
              obtain ⟨i, ei⟩ := List.getElem?_of_mem m
              have hi := (List.getElem?_eq_some_iff.mp ei).1
              have ei' : (β ++ r)[i]? = some a := by rw [List.getElem?_append_left hi]; exact ei
              obtain ⟨h1, x1⟩ := List.getElem?_eq_some_iff.mp ei'
              obtain ⟨h2, x2⟩ := List.getElem?_eq_some_iff.mp q
              have := (List.getElem_inj rh.nd).mp (x1.trans x2.symm)
              omega
            cases qo : h[n]? with
            | none =>
              have : (h.drop b)[n - b]? = none := by rw [List.getElem?_drop]; rw [show b + (n - b) = n by omega]; exact qo
              rw [this] at e
              cases e
            | some o =>
              have : (h.drop b)[n - b]? = some o := by rw [List.getElem?_drop]; rw [show b + (n - b) = n by omega]; exact qo
              rw [this] at e
              have ro := rh.obj n o a qo q
              cases o with
              | lst xs =>
                obtain ⟨vs, e1, e2⟩ := ro
                simp only at e
                cases q2 : xs.mapM (frzD (h.drop b) b k) with
                | none => rw [q2] at e; cases e
                | some ys =>
                  rw [q2] at e
                  cases e
                  exact .lst (.inl ⟨.inl e1, na⟩) (frzL_rel ih q2 e2)
              | ins c fs =>
                obtain ⟨dx, gs, e1, e2⟩ := ro
                simp only at e
                cases q2 : fs.mapM (m := Option) (β := Nat × D) (fun (p : Nat × D) => (frzD (h.drop b) b k p.2).map fun b => (p.1, b)) with
                | none => rw [q2] at e; cases e
                | some ys =>
                  rw [q2] at e
                  cases e
                  exact .ins e1 na (frzF_rel ih q2 e2)
              | dct kvs =>
                obtain ⟨ob, gs, e1, e2⟩ := ro
                simp only at e
                cases q2 : kvs.mapM (m := Option) (β := D × D) (fun (p : D × D) => (frzD (h.drop b) b k p.2).map fun b => (p.1, b)) with
                | none => rw [q2] at e; cases e
                | some ys =>
                  rw [q2] at e
                  cases e
                  exact .dct (.inl e1) na (frzK_rel ih q2 e2)
              | lkd kvs =>
                obtain ⟨ob, gs, e1, e2⟩ := ro
                simp only at e
                cases q2 : kvs.mapM (m := Option) (β := D × D) (fun (p : D × D) => (frzD (h.drop b) b k p.2).map fun b => (p.1, b)) with
                | none => rw [q2] at e; cases e
                | some ys =>
                  rw [q2] at e
                  cases e
                  exact .dct (.inr e1) na (frzK_rel ih q2 e2)
      | tup xs =>
        simp only at e
        cases q with
        | tup h1 h2 =>
          cases q2 : xs.mapM (frzD (h.drop b) b k) with
          | none => rw [q2] at e; cases e
          | some ys =>
            rw [q2] at e
            cases e
            exact .tup h1 (frzL_rel ih q2 h2)
      | lst xs =>
        simp only at e
        cases q with
        | lst h1 h2 =>
          cases q2 : xs.mapM (frzD (h.drop b) b k) with
          | none => rw [q2] at e; cases e
          | some ys =>
            rw [q2] at e
            cases e
            exact .lst h1.back (frzL_rel ih q2 h2)
      | ins c fs =>
        simp only at e
        cases q with
        | ins h1 h2 h3 =>
          cases q2 : fs.mapM (m := Option) (β := Nat × D) (fun (p : Nat × D) => (frzD (h.drop b) b k p.2).map fun b => (p.1, b)) with
          | none => rw [q2] at e; cases e
          | some ys =>
            rw [q2] at e
            cases e
            exact .ins h1 (fun m => h2 (List.mem_append_left _ m)) (frzF_rel ih q2 h3)
      | dct kvs =>
        simp only at e
        cases q with
        | dct h1 h2 h3 =>
          cases q2 : kvs.mapM (m := Option) (β := D × D) (fun (p : D × D) => (frzD (h.drop b) b k p.2).map fun b => (p.1, b)) with
          | none => rw [q2] at e; cases e
          | some ys =>
            rw [q2] at e
            cases e
            exact .dct h1 (fun m => h2 (List.mem_append_left _ m)) (frzK_rel ih q2 h3)
      | _ => exact absurd rfl (by assumption)
/-- what stood before, as it was -/
theorem back_rh {h0 h' : Hs} {β' : List Addr} (rh0 : RelH K nm ca β h0 H) (st : Stp β H β' H') (rh' : RelH K nm ca β' h' H') (et : h'.take h0.length = h0) : Stp β H β H' ∧ RelH K nm ca β h0 H' := by
  obtain ⟨r, er⟩ := st.ext
  subst er
  have hl : h0.length = β.length := rh0.len.symm
  refine ⟨⟨st.tup, st.frz, st.oth, st.tbl, ⟨[], by simp⟩, fun _ m => .inl m⟩, ⟨rh0.len, rh0.nd, fun i o a e1 e2 => ?_, rh'.tab.of (fun _ _ _ z => z) fun c q z m => ⟨z, fun y => m (List.mem_append_left _ y)⟩⟩⟩
  have hi := (List.getElem?_eq_some_iff.mp e1).1
  have e1' : h'[i]? = some o := by
    rw [← et, List.getElem?_take] at e1
    simpa [hi] using e1
  have e2' : (β ++ r)[i]? = some a := by rw [List.getElem?_append_left (by omega)]; exact e2
  have o1 := rh0.obj i o a e1 e2
  have o2 := rh'.obj i o a e1' e2'
  cases o with
  | lst xs =>
    obtain ⟨vs, _, k2⟩ := o1
    obtain ⟨ws, j1, j2⟩ := o2
    exact ⟨ws, j1, k2.back j2⟩
  | ins c fs =>
    obtain ⟨_, _, _, k2⟩ := o1
    obtain ⟨dx, gs, j1, j2⟩ := o2
    exact ⟨dx, gs, j1, k2.back j2⟩
  | dct kvs =>
    obtain ⟨_, vs, _, k2⟩ := o1
    obtain ⟨ob, ws, j1, j2⟩ := o2
    exact ⟨ob, ws, j1, k2.back j2⟩
  | lkd kvs =>
    obtain ⟨_, vs, _, k2⟩ := o1
    obtain ⟨ob, ws, j1, j2⟩ := o2
    exact ⟨ob, ws, j1, k2.back j2⟩
/-- behind a def -/
theorem back_ok {fz : Bool} {h0 h' : Hs} {d : D} {β' : List Addr} {v : V} {Q : VK} (rh0 : RelH K nm ca β h0 H) (st : Stp β H β' H') (rh' : RelH K nm ca β' h' H') (rd : RelD K nm ca β' H' d v) (p : PostE K nm ca β H (back fz h0 d h') Q) : Q v H' := by
  unfold back at p
  split at p
  · exact p v H' β' st rh' rd
  · split at p
    · rename_i hc
      rw [Bool.and_eq_true] at hc
      have et := Hs.eqb_eq hc.2
      obtain ⟨r, er⟩ := st.ext
      subst er
      cases q : frzD (h'.drop h0.length) h0.length 6 d with
      | none => rw [q] at p; exact p v H' _ st rh' rd
      | some d' =>
        rw [q] at p
        have hl : h0.length = β.length := rh0.len.symm
        have rd' := frz_rel rh' hl 6 d d' v q rd
        refine p v H' β ⟨st.tup, st.frz, st.oth, st.tbl, ⟨[], by simp⟩, fun _ m => .inl m⟩ ⟨rh0.len, rh0.nd, fun i o a e1 e2 => ?_, rh'.tab.of (fun _ _ _ z => z) fun c q z m => ⟨z, fun y => m (by obtain ⟨r0, er⟩ := st.ext; rw [er]; exact List.mem_append_left _ y)⟩⟩ rd'
        have hi := (List.getElem?_eq_some_iff.mp e1).1
        have e1' : h'[i]? = some o := by
          rw [← et, List.getElem?_take] at e1
          simpa [hi] using e1
        have e2' : (β ++ r)[i]? = some a := by rw [List.getElem?_append_left (by omega)]; exact e2
        have o1 := rh0.obj i o a e1 e2
        have o2 := rh'.obj i o a e1' e2'
        cases o with
        | lst xs =>
          obtain ⟨vs, _, k2⟩ := o1
          obtain ⟨ws, j1, j2⟩ := o2
          exact ⟨ws, j1, k2.back j2⟩
        | ins c fs =>
          obtain ⟨_, _, _, k2⟩ := o1
          obtain ⟨dx, gs, j1, j2⟩ := o2
          exact ⟨dx, gs, j1, k2.back j2⟩
        | dct kvs =>
          obtain ⟨_, vs, _, k2⟩ := o1
          obtain ⟨ob, ws, j1, j2⟩ := o2
          exact ⟨ob, ws, j1, k2.back j2⟩
        | lkd kvs =>
          obtain ⟨_, vs, _, k2⟩ := o1
          obtain ⟨ob, ws, j1, j2⟩ := o2
          exact ⟨ob, ws, j1, k2.back j2⟩
    · exact p v H' β' st rh' rd
end
end MC

set_option Elab.async false
set_option linter.all false
set_option maxRecDepth 100000
set_option maxHeartbeats 4000000
namespace MC
open PySem PySem.Spec PyProof.Rows L2
/-- a def's promise, by M: it gives a value, or it raises: E tells what is asked then -/
def PostX (K : PySem.W.Frag) (nm : Nat → Str) (ca : CaT) (β : List Addr) (H : Hp) (r : Res D) (Q : VK) (E : XK) : Prop := match r with
  | .ok d h' => PostE K nm ca β H (.ok d h') Q
  | .ex x h' => ∀ dd H' β', Stp β H β' H' → RelH K nm ca β' h' H' → E (.ref (ca x.cls)) dd H'
  | .no => False
theorem PostE.toX {K : PySem.W.Frag} {nm : Nat → Str} {ca : CaT} {β : List Addr} {H : Hp} {r : Res D} {Q : VK} {E : XK} (p : PostE K nm ca β H r Q) : PostX K nm ca β H r Q E := by
  cases r with
  | ok d h => exact p
  | ex _ _ => exact p.elim
  | no => exact p.elim
/-- calls whose exceptions are told -/
abbrev CXm (P : Program) (w : World) : CXT := L2.CX P w
theorem passM {X : Cx} : Passes (CXm X.prog X.w) X E0 := fun pins σ H s e s' I ⟨_, _, _, _, _, _, _, _, _, _, _, _, z⟩ => z.elim
def spM (K : PySem.W.Frag) (nm : Nat → Str) (ca : CaT) (c : List D → Hs → Res D) : Sp := fun vs H Q E => ∃ xs h β, RelL K nm ca β H xs vs ∧ RelH K nm ca β h H ∧ PostX K nm ca β H (c xs h) Q E
section
variable {X : Cx} {nm : Nat → Str} {ca : CaT} {T : Tab} {cl : Nat → List D → Hs → Res D}
/-! ### fields -/
theorem getF_rel (inj : ∀ i j, nm i = nm j → i = j) {f : Nat} {d : D} {β : List Addr} {H : Hp} {K : PySem.W.Frag} : ∀ {fs : List (Nat × D)} {gs : List (Str × V)}, RelF K nm ca β H fs gs → getF f fs = some d → ∃ v, gs.lookup (nm f) = some v ∧ RelD K nm ca β H d v
  | _, _, .nil, e => by cases e
  | (g, x) :: fs, (_, v) :: gs, .cons h t, e => by
    unfold getF at e
    rw [List.lookup_cons]
    by_cases hg : g = f
    · subst hg
      simp at e
      subst e
      simp
      exact h
    · have n1 : (g == f) = false := beq_eq_false_iff_ne.mpr hg
      rw [n1] at e
      have n2 : (nm f == nm g) = false := beq_eq_false_iff_ne.mpr fun z => hg (inj _ _ z).symm
      rw [n2]
      exact getF_rel inj t e
theorem getF_none (inj : ∀ i j, nm i = nm j → i = j) {f : Nat} {β : List Addr} {H : Hp} {K : PySem.W.Frag} : ∀ {fs : List (Nat × D)} {gs : List (Str × V)}, RelF K nm ca β H fs gs → getF f fs = none → gs.lookup (nm f) = none
  | _, _, .nil, e => rfl
  | (g, x) :: fs, (_, v) :: gs, .cons h t, e => by
    unfold getF at e
    rw [List.lookup_cons]
    by_cases hg : g = f
    · subst hg
      simp at e
    · have n1 : (g == f) = false := beq_eq_false_iff_ne.mpr hg
      rw [n1] at e
      have n2 : (nm f == nm g) = false := beq_eq_false_iff_ne.mpr fun z => hg (inj _ _ z).symm
      rw [n2]
      exact getF_none inj t e
theorem putF_rel (inj : ∀ i j, nm i = nm j → i = j) {f : Nat} {d : D} {v : V} {β : List Addr} {H : Hp} {K : PySem.W.Frag} (q : RelD K nm ca β H d v) : ∀ {fs : List (Nat × D)} {gs : List (Str × V)}, RelF K nm ca β H fs gs → RelF K nm ca β H (MC.putF f d fs) (L2.putF (nm f) v gs)
  | _, _, .nil => .cons q .nil
  | (g, x) :: fs, (_, w) :: gs, .cons h t => by
    unfold MC.putF L2.putF
    by_cases hg : g = f
    · subst hg
      simp
      exact .cons q t
    · have n1 : (g == f) = false := beq_eq_false_iff_ne.mpr hg
      have n2 : ¬ nm g = nm f := fun z => hg (inj _ _ z)
      simp only [n1, n2]
      exact .cons h (putF_rel inj q t)
theorem RelF.length {β : List Addr} {H : Hp} {K : PySem.W.Frag} : ∀ {fs : List (Nat × D)} {gs : List (Str × V)}, RelF K nm ca β H fs gs → fs.length = gs.length
  | _, _, .nil => rfl
  | _, _, .cons _ t => by simp [RelF.length t]
theorem fields_rel {x : D} {v : V} {c : Nat} {fs : List (Nat × D)} {β : List Addr} {H : Hp} {h : Hs} {K : PySem.W.Frag} (rh : RelH K nm ca β h H) (r : RelD K nm ca β H x v) (e : x.fields h = some (c, fs)) : ∃ a dx gs, v = .ref a ∧ H a = some (.ins (ca c) dx gs) ∧ RelF K nm ca β H fs gs := by
  cases x with
  | ins c' fs' =>
    cases e
    cases r with
    | ins h1 h2 h3 => exact ⟨_, _, _, rfl, h1, h3⟩
  | ref n =>
    cases q : h[n]? with
    | none => simp [D.fields, q] at e
    | some o =>
      cases o with
      | ins c' fs' =>
        simp only [D.fields, q] at e
        cases e
        obtain ⟨a, rfl, ea⟩ := r.ref_inv
        obtain ⟨dx, gs, e1, e2⟩ := rh.obj n _ a q ea
        exact ⟨a, dx, gs, rfl, e1, e2⟩
      | _ => simp [D.fields, q] at e
  | _ => cases e
/-- a receiver that is not super() -/
def plainO : Expr → Bool
  | .Call _ [] [] _ => false
  | _ => true
theorem base_ok {o : Expr} {f : Str} {env : Env} {w : Sem Value} (h : plainO o = true) : attributeBase o f env w = w := by
  cases o with
  | Call fn args kws pos =>
    cases args with
    | nil =>
      cases kws with
      | nil => cases h
      | cons _ _ => cases fn <;> rfl
    | cons _ _ => cases fn <;> rfl
  | _ => rfl
theorem s_fld {a : Expr} {c : E} {f : Nat} {pos : Pos} (inj : ∀ i j, nm i = nm j → i = j) (hf : ∀ c, T.fok c f = true → Cls X.K (ca c) ∧ NoAttr X.K (ca c) (nm f)) (ha : SE X nm ca T cl a c) (hb : plainO a = true) : SE X nm ca T cl (.Attribute a (nm f) pos) (.fld c f) := by
  refine PE.imp (pe_fld ha (base_ok hb)) fun τ H Q ⟨σ, h, β, rs, rh, p⟩ => ?_
  simp only [evE] at p
  obtain ⟨x, h1, e1, p⟩ := p.bind
  cases q : x.fields h1 with
  | none => simp only [q] at p; exact p.elim
  | some cf =>
    obtain ⟨k, fs⟩ := cf
    simp only [q] at p
    split at p
    · rename_i hk
      obtain ⟨d, e2, p⟩ := p.of
      refine re1 rs rh e1 fun vx H1 β1 st rs1 rh1 rx => ?_
      obtain ⟨ad, dx, gs, rfl, k1, k2⟩ := fields_rel rh1 rx q
      obtain ⟨v, k3, k4⟩ := getF_rel inj k2 e2
      exact ⟨ad, ca k, dx, gs, v, rfl, k1, (hf k hk).1, (hf k hk).2, k3, PostE.here (p.step st) rh1 k4⟩
    · exact p.elim
/-! ### calls of defs -/
/-- a def of the module at a -/
def FnF (X : Cx) (nm : Nat → Str) (ca : CaT) (n : Nat) (cf : List D → Hs → Res D) (a : Addr) : Prop := ∃ fd ps, Binds X.K fd ps [] ∧ FnOk X.prog X.w X.K X.mg X.base (CXm X.prog X.w) n a fd ps (spM X.K nm ca cf)
theorem noStar {es : List Expr} {env : Env} {pos : Pos} (h : es.all (fun e => !isSt e) = true) : (backTo pos (starEach es env)).any (·.1) = false := by
  induction es with
  | nil => rfl
  | cons e es ih =>
    simp only [List.all_cons, Bool.and_eq_true, Bool.not_eq_true'] at h
    rw [starEach_plain h.1]
    exact ih h.2
theorem s_fn {f n : Nat} {x : Str} {ad : Addr} {es : List Expr} {c : A} {p pos : Pos} (F : FnF X nm ca n (cl f) ad) (hr : Room n X.A) (hg : Gl X x) (hm : X.mg x = some (.ref ad)) (hk : PySem.W.keepIn X.K (.ref ad) = true) (hdb : (x == ("__debug__" : Str)) = false)
    (ha : SA X nm ca T cl es c) (hs : es.all (fun e => !isSt e) = true) (hc : es = [] → c = .nil) : SE X nm ca T cl (.Call (.Name x p) es [] pos) (.fn f c) := by
  obtain ⟨fd, ps, hb, F⟩ := F
  cases es with
  | nil =>
    refine PE.imp (pe_call0 F hr hg hm hk hb .nil passM hdb) fun τ H Q ⟨σ, h, β, rs, rh, q⟩ => ?_
    have := hc rfl
    subst this
    simp only [evE, evA] at q
    exact ⟨[], h, β, .nil, rh, PostE.toX q⟩
  | cons e es =>
    have hs0 := hs
    simp only [List.all_cons, Bool.and_eq_true, Bool.not_eq_true'] at hs0
    refine PE.imp (pe_call F hr hg hm hk hb .nil passM ha hdb (starEach_plain hs0.1) (noStar hs0.2)) fun τ H Q ⟨σ, h, β, rs, rh, q⟩ => ?_
    simp only [evE] at q
    obtain ⟨xs, h1, e1, q⟩ := q.bind
    refine ra1 rs rh e1 fun vxs H1 β1 st rs1 rh1 rx => ?_
    rw [List.append_nil]
    exact ⟨xs, h1, β1, rx, rh1, (q.step st).toX⟩
/-! ### methods, properties: the class is found when the receiver is there -/
/-- a method's facts -/
def MthF (X : Cx) (nm : Nat → Str) (ca : CaT) (n : Nat) (cf : List D → Hs → Res D) (c m : Nat) : Prop := Cls X.K (ca c) ∧ ∃ a, Meth X.K (ca c) (nm m) a ∧ FnF X nm ca n cf a
def tMD (X : Cx) (m : Str) (n : Nat) (ta : TE) (t : TA) : TE := fun σ H Q => ta σ H fun x H1 => ∃ a dx fs C f fd ps sp, x = .ref a ∧ H1 a = some (.ins C dx fs) ∧ fs.lookup m = none ∧ Cls X.K C ∧ Meth X.K C m f ∧ Binds X.K fd ps [] ∧ FnOk X.prog X.w X.K X.mg X.base (CXm X.prog X.w) n f fd ps sp ∧
  t σ H1 fun vs H2 => sp (x :: vs) H2 Q E0
theorem pe_methD {n : Nat} {o e : Expr} {es : List Expr} {m : Str} {ta : TE} {t : TA} {pos apos : Pos} {pl : Sem Bool} (he : PE X o ta) (hr : Room n X.A) (ha : PA X (e :: es) t) (hst : starEach (e :: es) X.env = (false, eval e X.env) :: starEach es X.env) (hpl : (backTo pos (starEach es X.env)).any (·.1) = false)
    (ht : eval (.Call (.Attribute o m apos) (e :: es) [] pos) X.env = (do
      let ov ← eval o X.env
      standAt apos.atName
      let (f, first) ← holding [ov] (getMethod ov m pl)
      callWith pos f first (backTo pos (starEach (e :: es) X.env)) (backToKw pos (keywordEach [] X.env)))) : PE X (.Call (.Attribute o m apos) (e :: es) [] pos) (tMD X m n ta t) := by
  refine ⟨fun pins s σ H Q I h => ?_⟩
  refine PySem.W.methodCall_KW (pl := pl) (thn (he.run pins s σ H _ I h) fun u s1 ⟨x, H1, I1, rx, a, dx, fs, C, f, fd, ps, sp, ex, ea, l, c, hm, hb, F, q⟩ => ?_) ht
  subst ex
  obtain rfl : u = Value.ref a := rx
  refine getmeth_ok I1 ea c hm l ?_
  refine PySem.W.callWith_K (first := [.ref a]) (h₀ := X.base) I.ok.mod.kin hm.kp (thn (ha.run pos pins s1 σ H1 _ I1 q) fun us s2 ⟨vs, H2, I2, r, q2⟩ => ⟨I2.kIn, ?_⟩) hst hpl
  exact run_fn (us := .ref a :: us) (vs := .ref a :: vs) F hr hb .nil passM I2 (.cons rfl r) (by rw [List.append_nil]; exact q2)
theorem pe_methD0 {n : Nat} {o : Expr} {m : Str} {ta : TE} {pos apos : Pos} {pl : Sem Bool} (he : PE X o ta) (hr : Room n X.A)
    (ht : eval (.Call (.Attribute o m apos) [] [] pos) X.env = (do
      let ov ← eval o X.env
      standAt apos.atName
      let (f, first) ← holding [ov] (getMethod ov m pl)
      callWith pos f first (backTo pos (starEach [] X.env)) (backToKw pos (keywordEach [] X.env)))) : PE X (.Call (.Attribute o m apos) [] [] pos) (tMD X m n ta tNil) := by
  refine ⟨fun pins s σ H Q I h => ?_⟩
  refine PySem.W.methodCall_KW (pl := pl) (thn (he.run pins s σ H _ I h) fun u s1 ⟨x, H1, I1, rx, a, dx, fs, C, f, fd, ps, sp, ex, ea, l, c, hm, hb, F, q⟩ => ?_) ht
  subst ex
  obtain rfl : u = Value.ref a := rx
  refine getmeth_ok I1 ea c hm l ?_
  exact PySem.W.callWith_K0 (first := [.ref a]) I1.kIn hm.kp (run_fn (us := [.ref a]) (vs := [.ref a]) F hr hb .nil passM I1 (.cons rfl .nil) q)
theorem star_all {es : List Expr} {env : Env} {pos : Pos} (h : es.all (fun e => !isSt e) = true) : (backTo pos (starEach es env)).all (fun x => !x.1) = true := by
  induction es with
  | nil => rfl
  | cons e es ih =>
    simp only [List.all_cons, Bool.and_eq_true, Bool.not_eq_true'] at h
    rw [starEach_plain h.1]
    exact ih h.2
/-- what stands at a method's call, whatever the receiver -/
theorem meth_tree {o : Expr} {m : Str} {args : List Expr} {apos pos : Pos} {env : Env} (h : plainO o = true) (hs : args.all (fun e => !isSt e) = true) (hl : args.length < 30) (hline : (apos.endLine == pos.line) = true) : ∃ pl : Sem Bool, eval (.Call (.Attribute o m apos) args [] pos) env = (do
      let ov ← eval o env
      standAt apos.atName
      let (f, first) ← holding [ov] (getMethod ov m pl)
      callWith pos f first (backTo pos (starEach args env)) (backToKw pos (keywordEach [] env))) := by
  refine ⟨(do return (← importBound o env).getD true), ?_⟩
  have hf : methodCallForm (args.length + ([] : List Keyword).length) (backTo pos (starEach args env)) (backToKw pos (keywordEach [] env)) = true := by
    unfold methodCallForm
    rw [star_all hs]
    simp [keywordEach, backToKw, hl]
  show (attributeBase o m env (eval o env) >>= fun ov => standAt apos.atName >>= fun _ => methodCall o m apos pos env ov (args.length + ([] : List Keyword).length) (backTo pos (starEach args env)) (backToKw pos (keywordEach [] env))) = _
  rw [base_ok h]
  unfold methodCall calleeOf methodCallPos
  rw [hf, hline]
  rfl
theorem s_mth {a : Expr} {c : E} {m n : Nat} {es : List Expr} {k : A} {apos pos : Pos} (inj : ∀ i j, nm i = nm j → i = j) (hm : ∀ c f, T.meth c m = some f → MthF X nm ca n (cl f) c m) (hr : Room n X.A) (ha : SE X nm ca T cl a c) (hb : plainO a = true) (hA : SA X nm ca T cl es k) (hs : es.all (fun e => !isSt e) = true) (hl : es.length < 30) (hline : (apos.endLine == pos.line) = true) (hc : es = [] → k = .nil) : SE X nm ca T cl (.Call (.Attribute a (nm m) apos) es [] pos) (.mth m c k) := by
  have key : ∀ (t : TA), (∀ τ H Q, RA X.K nm ca (evA T cl k) τ H Q → t τ H Q) → ∀ τ H Q, RE X.K nm ca (evE T cl (.mth m c k)) τ H Q → tMD X (nm m) n (RE X.K nm ca (evE T cl c)) t τ H Q := by
    intro t ht τ H Q ⟨σ, h, β, rs, rh, p⟩
    simp only [evE] at p
    obtain ⟨x, h1, e1, p⟩ := p.bind
    cases q : x.fields h1 with
    | none => simp only [q] at p; exact p.elim
    | some cf =>
      obtain ⟨ci, fs⟩ := cf
      simp only [q] at p
      cases q2 : getF m fs with
      | some _ => simp only [q2] at p; exact p.elim
      | none =>
        cases q3 : T.meth ci m with
        | none => simp only [q2, q3] at p; exact p.elim
        | some f =>
          simp only [q2, q3] at p
          obtain ⟨xs, h2, e2, p⟩ := p.bind
          obtain ⟨cc, ad, hmt, fd, ps, hbn, F⟩ := hm ci f q3
          refine re1 rs rh e1 fun vx H1 β1 st rs1 rh1 rx => ?_
          obtain ⟨a1, dx, gs, rfl, k1, k2⟩ := fields_rel rh1 rx q
          refine ⟨a1, dx, gs, ca ci, ad, fd, ps, _, rfl, k1, getF_none inj k2 q2, cc, hmt, hbn, F, ht _ _ _ ?_⟩
          refine ra1 rs1 rh1 e2 fun vxs H2 β2 st2 rs2 rh2 rxs => ?_
          cases q4 : x.fields h2 with
          | none => simp only [q4] at p; exact p.elim
          | some cf2 =>
            simp only [q4] at p
            split at p
            · exact ⟨x :: xs, h2, β2, .cons (rx.mono st2) rxs, rh2, ((p.step st).step st2).toX⟩
            · exact p.elim
  obtain ⟨pl, ht⟩ := meth_tree (o := a) (m := nm m) (args := es) (apos := apos) (pos := pos) (env := X.env) hb hs hl hline
  cases es with
  | nil =>
    have := hc rfl
    subst this
    refine PE.imp (pe_methD0 (pl := pl) ha hr ht) (key tNil fun τ H Q ⟨σ, h, β, rs, rh, p⟩ => ?_)
    exact p [] H β (Stp.refl _ _) rh .nil
  | cons e es =>
    have hs0 := hs
    simp only [List.all_cons, Bool.and_eq_true, Bool.not_eq_true'] at hs0
    exact PE.imp (pe_methD (pl := pl) ha hr hA (starEach_plain hs0.1) (noStar hs0.2) ht) (key _ fun _ _ _ q => q)
/-- a property -/
def PrpF (X : Cx) (nm : Nat → Str) (ca : CaT) (n : Nat) (cf : List D → Hs → Res D) (c m : Nat) : Prop := Cls X.K (ca c) ∧ ∃ p a, PropOf X.K (ca c) (nm m) p a ∧ FnF X nm ca n cf a
def tPD (X : Cx) (f : Str) (n : Nat) (ta : TE) : TE := fun σ H Q => ta σ H fun x H1 => ∃ a dx fs C p g fd ps sp, x = .ref a ∧ H1 a = some (.ins C dx fs) ∧ Cls X.K C ∧ PropOf X.K C f p g ∧ Binds X.K fd ps [] ∧ FnOk X.prog X.w X.K X.mg X.base (CXm X.prog X.w) n g fd ps sp ∧ sp [.ref a] H1 Q E0
theorem pe_propD {n : Nat} {e : Expr} {f : Str} {ta : TE} {pos : Pos} (he : PE X e ta) (hr : Room (n + 1) X.A) (hab : attributeBase e f X.env (eval e X.env) = eval e X.env) : PE X (.Attribute e f pos) (tPD X f n ta) := by
  refine ⟨fun pins s σ H Q I h => ?_⟩
  refine attr_of hab (thn (he.run pins s σ H _ I h) fun u s1 ⟨x, H1, I1, rx, a, dx, fs, C, p, g, fd, ps, sp, ex, ea, c, hp, hb, F, q⟩ => ?_)
  subst ex
  obtain rfl : u = Value.ref a := rx
  exact getprop_ok I1 ea c hp F hr hb .nil passM q
theorem s_prp {a : Expr} {c : E} {m n : Nat} {pos : Pos} (hm : ∀ c f, T.meth c m = some f → PrpF X nm ca n (cl f) c m) (hr : Room (n + 1) X.A) (ha : SE X nm ca T cl a c) (hb : plainO a = true) : SE X nm ca T cl (.Attribute a (nm m) pos) (.prp m c) := by
  refine PE.imp (pe_propD ha hr (base_ok hb)) fun τ H Q ⟨σ, h, β, rs, rh, p⟩ => ?_
  simp only [evE] at p
  obtain ⟨x, h1, e1, p⟩ := p.bind
  cases q : x.fields h1 with
  | none => simp only [q] at p; exact p.elim
  | some cf =>
    obtain ⟨ci, fs⟩ := cf
    simp only [q] at p
    cases q3 : T.meth ci m with
    | none => simp only [q3] at p; exact p.elim
    | some f =>
      simp only [q3] at p
      obtain ⟨cc, pa, ad, hmt, fd, ps, hbn, F⟩ := hm ci f q3
      refine re1 rs rh e1 fun vx H1 β1 st rs1 rh1 rx => ?_
      obtain ⟨a1, dx, gs, rfl, k1, k2⟩ := fields_rel rh1 rx q
      exact ⟨a1, dx, gs, ca ci, pa, ad, fd, ps, _, rfl, k1, cc, hmt, hbn, F, [x], h1, β1, .cons rx .nil, rh1, (p.step st).toX⟩
/-! ### a new instance -/
def MkF (X : Cx) (nm : Nat → Str) (ca : CaT) (n : Nat) (cf : List D → Hs → Res D) (c : Nat) (x : Str) (np : Nat) (ks : List Str) (sh : List D → List D → Option (List D)) : Prop :=
  ∃ a fd ps g gV, Mk X.K (ca c) a ∧ X.mg x = some (.ref (ca c)) ∧ KBn X.K fd ps (np + 1) ks g gV ∧ FnOk X.prog X.w X.K X.mg X.base (CXm X.prog X.w) n a fd ps (spM X.K nm ca cf) ∧
    ∀ (β : List Addr) (H : Hp) (d : D) (v : V) (xs ys ws : List D) (vs zs : List V), RelD X.K nm ca β H d v → RelL X.K nm ca β H xs vs → RelL X.K nm ca β H ys zs → sh xs ys = some ws → xs.length = np ∧ ys.length = ks.length ∧ RelL X.K nm ca β H (d :: ws) (gV (v :: vs) zs)
abbrev SK (X : Cx) (nm : Nat → Str) (ca : CaT) (T : Tab) (cl : Nat → List D → Hs → Res D) (ks : List Keyword) (c : A) : Prop := PK X ks (RA X.K nm ca (evA T cl c))
theorem PK.imp {X : Cx} {e : List Keyword} {t t' : TA} (h : PK X e t) (i : ∀ σ H Q, t' σ H Q → t σ H Q) : PK X e t' := ⟨fun pos pins s σ H Q I q => h.run pos pins s σ H Q I (i σ H Q q)⟩
theorem k_nil : SK X nm ca T cl [] .nil := PK.imp pk_nil fun τ H Q ⟨σ, h, β, rs, rh, p⟩ => p [] H β (Stp.refl _ _) rh .nil
theorem k_cons {e : Expr} {x : Option Str} {kp : Pos} {es : List Keyword} {c : E} {r : A} (he : SE X nm ca T cl e c) (hr : SK X nm ca T cl es r) : SK X nm ca T cl (⟨x, e, kp⟩ :: es) (.cons c r) := by
  refine PK.imp (pk_cons he hr) fun τ H Q ⟨σ, h, β, rs, rh, p⟩ => ?_
  simp only [evA] at p
  obtain ⟨x, h1, e1, p⟩ := p.bind
  obtain ⟨xs, h2, e2, p⟩ := p.bind
  exact re1 rs rh e1 fun vx H1 β1 st rs1 rh1 rx => ra1 rs1 rh1 e2 fun vxs H2 β2 st2 rs2 rh2 rxs => p _ H2 β2 (st.trans st2) rh2 (.cons (rx.mono st2) rxs)
def kwNames : List Keyword → Option (List Str)
  | [] => some []
  | ⟨some x, _, _⟩ :: r => (kwNames r).map (x :: ·)
  | ⟨none, _, _⟩ :: _ => none
theorem kw_all {kws : List Keyword} {ks : List Str} {env : Env} {pos : Pos} (h : kwNames kws = some ks) : (backToKw pos (keywordEach kws env)).all (·.1.isSome) = true ∧ (backToKw pos (keywordEach kws env)).filterMap (·.1) = ks ∧ (backToKw pos (keywordEach kws env)).any (·.1.isNone) = false := by
  induction kws generalizing ks with
  | nil => cases h; exact ⟨rfl, rfl, rfl⟩
  | cons k r ih =>
    obtain ⟨x, e, p⟩ := k
    cases x with
    | none => cases h
    | some x =>
      unfold kwNames at h
      cases q : kwNames r with
      | none => rw [q] at h; cases h
      | some rs =>
        rw [q] at h
        cases h
        obtain ⟨h1, h2, h3⟩ := ih q
        have e0 : backToKw pos (keywordEach (⟨some x, e, p⟩ :: r) env) = (some x, (do let v ← eval e env; standAt pos; pure v)) :: backToKw pos (keywordEach r env) := rfl
        rw [e0, List.all_cons, List.filterMap_cons, List.any_cons, h1, h2, h3]
        exact ⟨rfl, rfl, rfl⟩
theorem s_mk {c sh n np : Nat} {x : Str} {ks : List Str} {e : Expr} {es : List Expr} {kws : List Keyword} {ka kk : A} {p pos : Pos} {f : Nat} {fz : Bool} (hi : T.init c = some (f, fz)) (M : MkF X nm ca n (cl f) c x np ks (T.shape sh)) (hr : Room (n + 1) X.A) (hg : Gl X x) (hdb : (x == ("__debug__" : Str)) = false)
    (ha : SA X nm ca T cl (e :: es) ka) (hs : (e :: es).all (fun e => !isSt e) = true) (hk : SK X nm ca T cl kws kk) (hks : kwNames kws = some ks) : SE X nm ca T cl (.Call (.Name x p) (e :: es) kws pos) (.mk c sh ka kk) := by
  obtain ⟨ad, fd, ps, g, gV, mk, hm, kb, F, hsh⟩ := M
  obtain ⟨w1, w2, w3⟩ := kw_all (env := X.env) (pos := pos) hks
  have hs0 := hs
  simp only [List.all_cons, Bool.and_eq_true, Bool.not_eq_true'] at hs0
  refine PE.imp (pe_makeK (E := E0) mk F hr hg hm kb passM ha hk w1 w2 hdb (starEach_plain hs0.1) (by rw [noStar hs, w3]; rfl)) fun τ H Q ⟨σ, h, β, rs, rh, q⟩ => ?_
  simp only [evE] at q
  obtain ⟨xs, h1, e1, q⟩ := q.bind
  obtain ⟨ys, h2, e2, q⟩ := q.bind
  rw [hi] at q
  cases q2 : T.shape sh xs ys with
  | none => simp only [q2] at q; exact q.elim
  | some zs =>
    simp only [q2] at q
    refine ra1 rs rh e1 fun vxs H1 β1 st rs1 rh1 rx => ra1 rs1 rh1 e2 fun vys H2 β2 st2 rs2 rh2 ry => ?_
    have hh := hsh β2 H2 .non .non xs ys zs vxs vys .non (rx.mono st2) ry q2
    refine ⟨by rw [← rx.length]; exact hh.1, by rw [← ry.length]; exact hh.2.1, fun px dx nx nd ne => ?_⟩
    have nx' : upd H2 dx (.own px) px = none := by rw [upd_ne (Ne.symm ne)]; exact nx
    have rh3 : RelH X.K nm ca β2 h2 (upd H2 dx (.own px)) := rh2.laid nd
    have st3 : Stp β2 H2 (β2 ++ [px]) (upd (upd H2 dx (.own px)) px (.ins (ca c) dx [])) := (Stp.laid nd).trans (Stp.push nx')
    have rh4 : RelH X.K nm ca (β2 ++ [px]) (h2 ++ [.ins c []]) (upd (upd H2 dx (.own px)) px (.ins (ca c) dx [])) := rh3.push nx' ⟨dx, [], upd_same, .nil⟩
    have rself : RelD X.K nm ca (β2 ++ [px]) (upd (upd H2 dx (.own px)) px (.ins (ca c) dx [])) (.ref h2.length) (.ref px) := .ref (by rw [← rh2.len, List.getElem?_append_right (Nat.le_refl _)]; simp)
    have hh2 := (hsh (β2 ++ [px]) _ (.ref h2.length) (.ref px) xs ys zs vxs vys rself ((rx.mono st2).mono st3) (ry.mono st3) q2).2.2
    refine ⟨_, _, _, hh2, rh4, ?_⟩
    obtain ⟨d, h5, e5, q⟩ := q.bind
    rw [e5]
    intro v H5 β5 st5 rh5 rd5
    cases d with
    | non =>
      cases rd5
      refine ⟨rfl, ?_⟩
      exact back_ok rh2 (st3.trans st5) rh5 (rself.mono st5) (((q.step st).step st2))
    | _ => exact q.elim
end
end MC

set_option Elab.async false
set_option linter.all false
set_option maxRecDepth 100000
set_option maxHeartbeats 4000000
namespace MC
open PySem PySem.Spec PyProof.Rows L2
section
variable {X : Cx} {nm : Nat → Str} {ca : CaT} {T : Tab} {cl : Nat → List D → Hs → Res D}
/-! ### built-ins -/
def BiOk (X : Cx) (nm : Nat → Str) (ca : CaT) (b : Bi) (r : List V → Hp → VK → Prop) : Prop :=
  ∀ (β : List Addr) (H : Hp) (h : Hs) (xs : List D) (d : D) (vs : List V) (Q : VK), RelH X.K nm ca β h H → RelL X.K nm ca β H xs vs → biD h b xs = some d → PostE X.K nm ca β H (.ok d h) Q → r vs H Q
theorem bools_rel {β : List Addr} {H : Hp} {K : PySem.W.Frag} : ∀ {xs : List D} {vs : List V} {bs : List Bool}, RelL K nm ca β H xs vs → boolsOf xs = some bs → vs = bs.map V.bl
  | [], _, _, r, e => by cases r; cases e; rfl
  | x :: xs, _, _, r, e => by
    cases r with
    | cons r1 r2 =>
      cases x with
      | bl b =>
        cases r1
        unfold boolsOf at e
        cases q : boolsOf xs with
        | none => rw [q] at e; cases e
        | some cs => rw [q] at e; cases e; rw [bools_rel r2 q]; rfl
      | _ => cases e
theorem one_rel {β : List Addr} {H : Hp} {K : PySem.W.Frag} {x : D} {vs : List V} (r : RelL K nm ca β H [x] vs) : ∃ v, vs = [v] ∧ RelD K nm ca β H x v := by
  cases r with
  | cons r1 r2 => cases r2; exact ⟨_, rfl, r1⟩
theorem len_ok : BiOk X nm ca .len (fun xs H Q => ∃ x n, xs = [x] ∧ LenV X.K x H n ∧ Q (.int n) H) := by
  intro β H h xs d vs Q rh r e p
  match xs, e with
  | [], e => cases e
  | [x], e =>
    obtain ⟨v, rfl, rx⟩ := one_rel r
    by_cases hx : ∃ z, x = .str z
    · obtain ⟨z, rfl⟩ := hx
      cases rx
      simp only [biD] at e
      split at e
      · cases e
        exact ⟨_, _, rfl, ⟨by assumption, rfl⟩, p.here rh (.int _)⟩
      · cases e
    · have e2 : (x.seq h).map (fun xs => D.int xs.length) = some d := by
        cases x <;> first | exact e | exact absurd ⟨_, rfl⟩ hx
      cases q : x.seq h with
      | none => rw [q] at e2; cases e2
      | some ys =>
        rw [q] at e2
        cases e2
        obtain ⟨a, vs, rfl, k1, k2⟩ := seq_inv rh q rx
        refine ⟨_, ys.length, rfl, ?_, p.here rh (.int _)⟩
        rcases k1 with k1 | k1
        · exact .inl ⟨vs, k1, k2.length⟩
        · exact .inr ⟨vs, k1, k2.length⟩
  | _ :: _ :: _, e => cases e
theorem tuple_ok : BiOk X nm ca .tuple (fun xs H Q => ∃ p ys, xs = [.ref p] ∧ ((SqL X.K H p ys ∧ ∀ l, H l = none → Q (.ref l) (upd H l (.tup ys))) ∨ (SqT X.K H p ys ∧ Q (.ref p) H))) := by
  intro β H h xs d vs Q rh r e p
  match xs, e with
  | [], e => cases e
  | [x], e =>
    obtain ⟨v, rfl, rx⟩ := one_rel r
    simp only [biD] at e
    cases q : x.seq h with
    | none => rw [q] at e; cases e
    | some ys =>
      rw [q] at e
      cases e
      by_cases ht : ∃ zs, x = .tup zs
      · obtain ⟨zs, rfl⟩ := ht
        cases q
        obtain ⟨a, ws, rfl, k1, k2⟩ := rx.tup_inv
        exact ⟨a, ws, rfl, .inr ⟨k1, p.here rh rx⟩⟩
      · have q2 : x.lseq h = some ys := by
          cases x <;> first | exact q | exact absurd ⟨_, rfl⟩ ht
        obtain ⟨a, ws, rfl, k1, k2⟩ := lseq_inv rh q2 rx
        exact ⟨a, ws, rfl, .inl ⟨k1, fun l hl => p.laid rh hl (new_tup hl k2)⟩⟩
  | _ :: _ :: _, e => cases e
theorem list_ok : BiOk X nm ca .list (fun xs H Q => ∃ p ys, xs = [.ref p] ∧ (SqL X.K H p ys ∨ SqT X.K H p ys) ∧ ∀ l, H l = none → Q (.ref l) (upd H l (.lst ys))) := by
  intro β H h xs d vs Q rh r e p
  match xs, e with
  | [], e => cases e
  | [x], e =>
    obtain ⟨v, rfl, rx⟩ := one_rel r
    simp only [biD] at e
    cases q : x.seq h with
    | none => rw [q] at e; cases e
    | some ys =>
      rw [q] at e
      cases e
      obtain ⟨a, ws, rfl, k1, k2⟩ := seq_inv rh q rx
      exact ⟨a, ws, rfl, k1, fun l hl => p.laid rh hl (new_lst rh hl k2)⟩
  | _ :: _ :: _, e => cases e
theorem all_ok : BiOk X nm ca .all (rAll X.K) := by
  intro β H h xs d vs Q rh r e p
  match xs, e with
  | [], e => cases e
  | [x], e =>
    obtain ⟨v, rfl, rx⟩ := one_rel r
    simp only [biD] at e
    cases q : x.lseq h with
    | none => rw [q] at e; cases e
    | some ys =>
      simp only [q, Option.bind_some] at e
      cases q2 : boolsOf ys with
      | none => rw [q2] at e; cases e
      | some bs =>
        rw [q2] at e
        cases e
        obtain ⟨a, ws, rfl, k1, k2⟩ := lseq_inv rh q rx
        refine ⟨a, bs, rfl, ?_, p.here rh (.bl _)⟩
        rw [← bools_rel k2 q2]
        exact k1
  | _ :: _ :: _, e => cases e
theorem any_ok : BiOk X nm ca .any (rAny X.K) := by
  intro β H h xs d vs Q rh r e p
  match xs, e with
  | [], e => cases e
  | [x], e =>
    obtain ⟨v, rfl, rx⟩ := one_rel r
    simp only [biD] at e
    cases q : x.lseq h with
    | none => rw [q] at e; cases e
    | some ys =>
      simp only [q, Option.bind_some] at e
      cases q2 : boolsOf ys with
      | none => rw [q2] at e; cases e
      | some bs =>
        rw [q2] at e
        cases e
        obtain ⟨a, ws, rfl, k1, k2⟩ := lseq_inv rh q rx
        refine ⟨a, bs, rfl, ?_, p.here rh (.bl _)⟩
        rw [← bools_rel k2 q2]
        exact k1
  | _ :: _ :: _, e => cases e
theorem max2_ok : BiOk X nm ca .max2 (fun xs H Q => ∃ i j, xs = [.int i, .int j] ∧ Q (.int (if j > i then j else i)) H) := by
  intro β H h xs d vs Q rh r e p
  unfold biD at e
  split at e <;> first
    | (rename_i hb; cases hb; done)
    | (cases r with
       | cons r1 r2 => cases r2 with
         | cons r3 r4 => cases r4; cases r1; cases r3; cases e; exact ⟨_, _, rfl, p.here rh (.int _)⟩)
    | cases e
theorem min2_ok : BiOk X nm ca .min2 (fun xs H Q => ∃ i j, xs = [.int i, .int j] ∧ Q (.int (if j < i then j else i)) H) := by
  intro β H h xs d vs Q rh r e p
  unfold biD at e
  split at e <;> first
    | (rename_i hb; cases hb; done)
    | (cases r with
       | cons r1 r2 => cases r2 with
         | cons r3 r4 => cases r4; cases r1; cases r3; cases e; exact ⟨_, _, rfl, p.here rh (.int _)⟩)
    | cases e
theorem int1_ok : BiOk X nm ca .int (fun xs H Q => (∃ i, xs = [.int i] ∧ Q (.int i) H) ∨ ∃ k, xs = [.bl k] ∧ Q (.int (if k then 1 else 0)) H) := by
  intro β H h xs d vs Q rh r e p
  match xs, e with
  | [], e => cases e
  | [x], e =>
    obtain ⟨v, rfl, rx⟩ := one_rel r
    cases x with
    | int i => cases rx; cases e; exact .inl ⟨i, rfl, p.here rh (.int _)⟩
    | bl k => cases rx; cases e; exact .inr ⟨k, rfl, p.here rh (.int _)⟩
    | _ => cases e
  | a :: b :: c, e => simp [biD] at e
theorem abs_ok : BiOk X nm ca .abs (fun xs H Q => ∃ i, xs = [.int i] ∧ Q (.int (if i < 0 then -i else i)) H) := by
  intro β H h xs d vs Q rh r e p
  match xs, e with
  | [], e => cases e
  | [x], e =>
    obtain ⟨v, rfl, rx⟩ := one_rel r
    cases x with
    | int i => cases rx; cases e; exact ⟨i, rfl, p.here rh (.int _)⟩
    | _ => cases e
  | a :: b :: c, e => simp [biD] at e
def biName : Bi → Str
  | .len => "len" | .tuple => "tuple" | .list => "list" | .all => "all" | .any => "any" | .max1 => "max" | .max2 => "max" | .min1 => "min" | .min2 => "min" | .sum => "sum" | .int => "int" | .abs => "abs"
def biHere : Bi → Bool
  | .max1 => false | .min1 => false | .sum => false | _ => true
theorem bi_all {e : Expr} {es : List Expr} {c : A} {b : Bi} {p pos : Pos} (hc : X.calm = true) (hb : biHere b = true) (hg : Gl X (biName b)) (hm : X.mg (biName b) = none) (ha : SA X nm ca T cl (e :: es) c) (hs : (e :: es).all (fun e => !isSt e) = true) : SE X nm ca T cl (.Call (.Name (biName b) p) (e :: es) [] pos) (.bi b c) := by
  have hs0 := hs
  simp only [List.all_cons, Bool.and_eq_true, Bool.not_eq_true'] at hs0
  have h1 := starEach_plain (es := es) (env := X.env) hs0.1
  have h2 := noStar (env := X.env) (pos := pos) hs0.2
  have key : ∀ {r : List V → Hp → VK → Prop}, BiOk X nm ca b r → ∀ τ H Q, RE X.K nm ca (evE T cl (.bi b c)) τ H Q → tCB r (RA X.K nm ca (evA T cl c)) τ H Q := by
    intro r ok τ H Q ⟨σ, h, β, rs, rh, p⟩
    simp only [evE] at p
    obtain ⟨xs, h1, e1, p⟩ := p.bind
    obtain ⟨d, e2, p⟩ := p.of
    exact ra1 rs rh e1 fun vxs H1 β1 st rs1 rh1 rx => ok β1 H1 h1 xs d vxs Q rh1 rx e2 (p.step st)
  cases b with
  | len => exact PE.imp (pe_callB call_len hg hm PySem.boot_len ha (by decide) (by decide) h1 h2) (key len_ok)
  | tuple => exact PE.imp (pe_callTy call_tuple_of hg hm (by decide +kernel) ha (by decide) (by decide) h1 h2) (key tuple_ok)
  | list => exact PE.imp (pe_callTy call_list_of hg hm (by decide +kernel) ha (by decide) (by decide) h1 h2) (key list_ok)
  | all => exact PE.imp (pe_callB (cr_all hc) hg hm (by decide +kernel) ha (by decide) (by decide) h1 h2) (key all_ok)
  | any => exact PE.imp (pe_callB (cr_any hc) hg hm (by decide +kernel) ha (by decide) (by decide) h1 h2) (key any_ok)
  | max2 => exact PE.imp (pe_callB (call_max2 hc) hg hm (by decide +kernel) ha (by decide) (by decide) h1 h2) (key max2_ok)
  | min2 => exact PE.imp (pe_callB (call_min2 hc) hg hm (by decide +kernel) ha (by decide) (by decide) h1 h2) (key min2_ok)
  | int => exact PE.imp (pe_callTy call_int1 hg hm (by decide +kernel) ha (by decide) (by decide) h1 h2) (key int1_ok)
  | abs => exact PE.imp (pe_callB call_abs hg hm (by decide +kernel) ha (by decide) (by decide) h1 h2) (key abs_ok)
  | _ => cases hb
/-- list(e), a new list of the heap -/
theorem s_nls {e : Expr} {c : E} {p pos : Pos} (hg : Gl X "list") (hm : X.mg "list" = none) (ha : SE X nm ca T cl e c) (hs : isSt e = false) : SE X nm ca T cl (.Call (.Name "list" p) [e] [] pos) (.nls c) := by
  refine PE.imp (pe_callTy call_list_of hg hm (by decide +kernel) (a_cons ha a_nil hs) (by decide) (by decide) (starEach_plain hs) rfl) fun τ H Q ⟨σ, h, β, rs, rh, p⟩ => ?_
  simp only [evE] at p
  obtain ⟨x, h1, e1, p⟩ := p.bind
  cases q : x.seq h1 with
  | none => simp only [q] at p; exact p.elim
  | some xs =>
    simp only [q] at p
    refine ra1 (x := [x]) (h1 := h1) rs rh (by simp [evA, e1, Res.bind]) fun vxs H1 β1 st rs1 rh1 rx => ?_
    obtain ⟨v, rfl, ry⟩ := one_rel rx
    obtain ⟨a, ws, rfl, k1, k2⟩ := seq_inv rh1 q ry
    exact ⟨a, ws, rfl, k1, fun l hl => PostE.push (d := .non) (p.step st) rh1 hl ⟨ws, upd_same, k2.mono (Stp.push hl)⟩⟩
/-- xs.append(e) -/
theorem s_app {o e : Expr} {c k : E} {apos pos : Pos} (ha : SE X nm ca T cl o c) (he : SE X nm ca T cl e k) (hb : plainO o = true) (hs : isSt e = false) (hline : (apos.endLine == pos.line) = true) : SE X nm ca T cl (.Call (.Attribute o "append" apos) [e] [] pos) (.bm .append c (.cons k .nil)) := by
  refine PE.imp (pe_bm PySem.F.plainAttrs_list PySem.F.slot_list_append PySem.F.type_list_append mt_append ha (a_cons he a_nil hs) (base_ok hb) (by
    have : (backTo pos (starEach [e] X.env)).all (fun x => !x.1) = true := star_all (by simp [hs])
    rw [this]; rfl) hline (starEach_plain hs) rfl) fun τ H Q ⟨σ, h, β, rs, rh, p⟩ => ?_
  simp only [evE] at p
  obtain ⟨x, h1, e1, p⟩ := p.bind
  cases q : x.lseq h1 with
  | none => simp only [q] at p; exact p.elim
  | some ys =>
    simp only [q] at p
    obtain ⟨xs, h2, e2, p⟩ := p.bind
    refine re1 rs rh e1 fun vx H1 β1 st rs1 rh1 rx => ?_
    obtain ⟨a, ws, rfl, k1, k2⟩ := lseq_inv rh1 q rx
    refine ⟨.inl ⟨rfl, ws, k1⟩, ra1 rs1 rh1 e2 fun vxs H2 β2 st2 rs2 rh2 rxs => ?_⟩
    obtain ⟨n, y, rfl, rfl⟩ : ∃ n y, x = .ref n ∧ xs = [y] := by
      cases x with
      | ref n =>
        match xs, p with
        | [y], _ => exact ⟨n, y, rfl, rfl⟩
        | [], p => exact p.elim
        | _ :: _ :: _, p => exact p.elim
      | _ => exact p.elim
    obtain ⟨v, rfl, ry⟩ := one_rel rxs
    simp only [bmD] at p
    cases q3 : h2[n]? with
    | none => simp only [q3] at p; exact p.elim
    | some o =>
      cases o with
      | lst zs =>
        simp only [q3] at p
        split at p
        · rename_i hz
          obtain ⟨a', e', hβ⟩ := (rx.mono st2).ref_inv
          cases e'
          obtain ⟨us, j1, j2⟩ := rh2.obj n _ a q3 hβ
          have sw : Stp β2 H2 β2 (upd H2 a (.lst (us ++ [v]))) := Stp.write (List.mem_of_getElem? hβ) j1 (fun _ z => nomatch z) (fun _ _ z => nomatch z)
          refine ⟨a, us, v, rfl, rfl, j1, by rw [← j2.length]; exact hz, ?_⟩
          refine ((p.step st).step st2) .non _ _ sw (rh2.write hβ sw ⟨us ++ [v], upd_same, ?_⟩) .non
          exact (j2.mono sw).app (.cons (ry.mono sw) .nil)
        · exact p.elim
      | _ => simp only [q3] at p; exact p.elim
end
end MC

set_option Elab.async false
set_option linter.all false
set_option maxRecDepth 100000
set_option maxHeartbeats 4000000
namespace MC
open PySem PySem.Spec PyProof.Rows L2
/-! ### targets -/
mutual
def G.slots : G → List Nat
  | .nm i => [i]
  | .tup gs => gs.slots
  | .att _ _ => []
  | .sub _ _ => []
  | .dsub _ _ => []
def GL.slots : GL → List Nat
  | .nil => []
  | .cons g r => g.slots ++ r.slots
end
section
variable (K : PySem.W.Frag) (nm : Nat → Str) (ca : CaT)
/-- only these slots change -/
def Chg (vs : List Nat) (τ τ' : L2.St) : Prop := τ'.length = τ.length ∧ ∀ (i : Nat), i ∉ vs → τ'[i]? = τ[i]?
def PostG (vs : List Nat) (β : List Addr) (H : Hp) (τ : L2.St) (r : Res Sg) (Q : L2.St → Hp → Prop) : Prop := match r with
  | .ok σ' h' => ∀ τ' H' β', Stp β H β' H' → RelS K nm ca β' H' σ' τ' → RelH K nm ca β' h' H' → Chg vs τ τ' → Q τ' H'
  | _ => False
def RG (vs : List Nat) (ev : D → Sg → Hs → Res Sg) : TG := fun v τ H Q => ∃ d σ h β, RelS K nm ca β H σ τ ∧ RelH K nm ca β h H ∧ RelD K nm ca β H d v ∧ PostG K nm ca vs β H τ (ev d σ h) Q
def RGL (vs : List Nat) (ev : List D → Sg → Hs → Res Sg) : TGs := fun ws τ H Q => ∃ ds σ h β, RelS K nm ca β H σ τ ∧ RelH K nm ca β h H ∧ RelL K nm ca β H ds ws ∧ PostG K nm ca vs β H τ (ev ds σ h) Q
end
theorem Chg.refl (vs : List Nat) (τ : L2.St) : Chg vs τ τ := ⟨rfl, fun _ _ => rfl⟩
theorem Chg.trans {vs ws : List Nat} {τ τ1 τ2 : L2.St} (p : Chg vs τ τ1) (q : Chg ws τ1 τ2) : Chg (vs ++ ws) τ τ2 := ⟨q.1.trans p.1, fun i hi => by
  rw [List.mem_append, not_or] at hi
  rw [q.2 i hi.2, p.2 i hi.1]⟩
theorem Chg.set {τ : L2.St} {i : Nat} {v : Option V} : Chg [i] τ (τ.set i v) := ⟨by simp, fun j hj => by
  rw [List.getElem?_set_ne]
  intro e
  exact hj (by simp [e])⟩
theorem PG.imp {X : Cx} {e : Expr} {t t' : TG} (h : PG X e t) (i : ∀ v σ H Q, t' v σ H Q → t v σ H Q) : PG X e t' := ⟨fun pins s σ H v u Q I r q => h.run pins s σ H v u Q I r (i v σ H Q q)⟩
theorem PGs.imp {X : Cx} {e : List Expr} {t t' : TGs} (h : PGs X e t) (i : ∀ v σ H Q, t' v σ H Q → t v σ H Q) : PGs X e t' := ⟨fun pins s σ H v u Q I r q => h.run pins s σ H v u Q I r (i v σ H Q q)⟩
section
variable {X : Cx} {nm : Nat → Str} {ca : CaT} {T : Tab} {cl : Nat → List D → Hs → Res D}
abbrev SG (X : Cx) (nm : Nat → Str) (ca : CaT) (T : Tab) (cl : Nat → List D → Hs → Res D) (e : Expr) (g : G) : Prop := PG X e (RG X.K nm ca g.slots (evG T cl g))
abbrev SGL (X : Cx) (nm : Nat → Str) (ca : CaT) (T : Tab) (cl : Nat → List D → Hs → Res D) (e : List Expr) (g : GL) : Prop := PGs X e (RGL X.K nm ca g.slots (evGL T cl g))
theorem PostG.bind {α : Type} {K : PySem.W.Frag} {vs : List Nat} {β : List Addr} {H : Hp} {τ : L2.St} {r : Res α} {k : α → Hs → Res Sg} {Q : L2.St → Hp → Prop} (p : PostG K nm ca vs β H τ (r.bind k) Q) : ∃ a h1, r = .ok a h1 ∧ PostG K nm ca vs β H τ (k a h1) Q := by
  cases r with
  | ok a h1 => exact ⟨a, h1, rfl, p⟩
  | ex _ _ => exact p.elim
  | no => exact p.elim
theorem PostG.step {K : PySem.W.Frag} {vs : List Nat} {β β1 : List Addr} {H H1 : Hp} {τ : L2.St} {r : Res Sg} {Q : L2.St → Hp → Prop} (p : PostG K nm ca vs β H τ r Q) (st : Stp β H β1 H1) : PostG K nm ca vs β1 H1 τ r Q := by
  cases r with
  | ok d h' => exact fun τ' H' β' s1 r1 r2 r3 => p τ' H' β' (st.trans s1) r1 r2 r3
  | ex _ _ => exact p.elim
  | no => exact p.elim
theorem g_nm {i : Nat} {x : Str} {pos : Pos} (hN : X.N.Nodup) (hi : X.N[i]? = some x) (hx : Loc X.env.scope x) (hf : X.fn x = true ∨ X.env.scope.names.lookup x = some .local) : SG X nm ca T cl (.Name x pos) (.nm i) := by
  refine PG.imp (pg_name hN hi hx hf) fun v τ H Q ⟨d, σ, h, β, rs, rh, rd, p⟩ => ?_
  exact p _ H β (Stp.refl _ _) (rs.set rd) rh Chg.set
theorem gl_nil : SGL X nm ca T cl [] .nil := by
  refine PGs.imp pgs_nil fun v τ H Q ⟨ds, σ, h, β, rs, rh, rd, p⟩ => ?_
  cases ds with
  | nil => cases rd; exact ⟨rfl, p _ H β (Stp.refl _ _) rs rh (Chg.refl _ _)⟩
  | cons _ _ => exact p.elim
theorem assignEach_plain {e : Expr} {es : List Expr} {env : Env} (h : isSt e = false) : assignEach (e :: es) env = (false, assign e env) :: assignEach es env := by
  cases e <;> first | rfl | cases h
theorem gl_cons {e : Expr} {es : List Expr} {g : G} {r : GL} (h1 : SG X nm ca T cl e g) (h2 : SGL X nm ca T cl es r) (hs : isSt e = false) : SGL X nm ca T cl (e :: es) (.cons g r) := by
  refine PGs.imp (pgs_cons h1 h2 (by rw [assignEach_plain hs]; rfl)) fun ws τ H Q ⟨ds, σ, h, β, rs, rh, rd, p⟩ => ?_
  cases ds with
  | nil => exact p.elim
  | cons d ds =>
    cases rd with
    | @cons _ v _ vs r1 r2 =>
      simp only [evGL] at p
      obtain ⟨σ1, h1, e1, p⟩ := p.bind
      refine ⟨v, vs, rfl, d, σ, h, β, rs, rh, r1, ?_⟩
      rw [e1]
      intro τ1 H1 β1 st1 rs1 rh1 c1
      refine ⟨ds, σ1, h1, β1, rs1, rh1, r2.mono st1, ?_⟩
      cases q : evGL T cl r ds σ1 h1 with
      | ok σ2 h2 =>
        rw [q] at p
        exact fun τ2 H2 β2 st2 rs2 rh2 c2 => p τ2 H2 β2 (st1.trans st2) rs2 rh2 (c1.trans c2)
      | ex _ _ => rw [q] at p; exact p.elim
      | no => rw [q] at p; exact p.elim
theorem assign_noSt {es : List Expr} {env : Env} (h : es.all (fun e => !isSt e) = true) : (assignEach es env).findIdx? (·.1) = none ∧ (assignEach es env).length = es.length := by
  induction es with
  | nil => exact ⟨rfl, rfl⟩
  | cons e es ih =>
    simp only [List.all_cons, Bool.and_eq_true, Bool.not_eq_true'] at h
    rw [assignEach_plain h.1]
    obtain ⟨h1, h2⟩ := ih h.2
    refine ⟨?_, by rw [List.length_cons, h2, List.length_cons]⟩
    rw [List.findIdx?_cons, h1]
    rfl
theorem evGL_len : ∀ {g : GL} {ds : List D} {σ σ' : Sg} {h h' : Hs} (es : List Expr), SGL X nm ca T cl es g → evGL T cl g ds σ h = .ok σ' h' → ∃ n, n = ds.length ∧ ∀ k : GL, k = g → True
  | _, ds, _, _, _, _, _, _, _ => ⟨ds.length, rfl, fun _ _ => trivial⟩
def GL.len : GL → Nat
  | .nil => 0
  | .cons _ r => r.len + 1
theorem evGL_length : ∀ {g : GL} {ds : List D} {σ σ' : Sg} {h h' : Hs}, evGL T cl g ds σ h = .ok σ' h' → ds.length = g.len
  | .nil, ds, _, _, _, _, e => by
    cases ds with
    | nil => rfl
    | cons _ _ => simp [evGL] at e
  | .cons g r, ds, σ, _, h, _, e => by
    cases ds with
    | nil => simp [evGL] at e
    | cons d ds =>
      simp only [evGL] at e
      cases q : evG T cl g d σ h with
      | ok σ1 h1 =>
        rw [q] at e
        have := evGL_length (g := r) e
        simp [GL.len, this]
      | ex _ _ => rw [q] at e; cases e
      | no => rw [q] at e; cases e
theorem g_tup {es : List Expr} {g : GL} {k : Nat} {pos : Pos} (hc : X.calm = true) (h : SGL X nm ca T cl es g) (hs : es.all (fun e => !isSt e) = true) (hl : es.length = g.len) : SG X nm ca T cl (.Tuple es k pos) (.tup g) := by
  obtain ⟨a1, a2⟩ := assign_noSt (env := X.env) hs
  refine PG.imp (pg_tup hc h a2 a1) fun v τ H Q ⟨d, σ, h, β, rs, rh, rd, p⟩ => ?_
  cases d with
  | tup xs =>
    obtain ⟨a, vs, rfl, k1, k2⟩ := rd.tup_inv
    have p' : PostG X.K nm ca g.slots β H τ (evGL T cl g xs σ h) Q := by simpa only [evG, G.slots] using p
    refine ⟨a, vs, rfl, k1, ?_, xs, σ, h, β, rs, rh, k2, p'⟩
    cases q : evGL T cl g xs σ h with
    | ok σ1 h1 => rw [← k2.length, evGL_length q, hl]
    | ex _ _ => rw [q] at p'; exact p'.elim
    | no => rw [q] at p'; exact p'.elim
  | _ => exact p.elim
/-- o.f = .. -/
def gAtt (K : PySem.W.Frag) (ta : TE) (f : Str) : TG := fun v σ H Q => ta σ H fun x H1 => ∃ a C dx fs, x = .ref a ∧ H1 a = some (.ins C dx fs) ∧ Cls K C ∧ NoAttr K C f ∧ fs.length < 1000 ∧ Q σ (upd H1 a (.ins C dx (L2.putF f v fs)))
theorem pg_att {o : Expr} {f : Str} {ta : TE} {pos : Pos} (ha : PE X o ta) : PG X (.Attribute o f pos) (gAtt X.K ta f) := by
  refine ⟨fun pins s σ H v u Q I r h => ?_⟩
  rw [assign_Attribute]
  refine wpAny_bind (wpAny_holding (thn (ha.run pins s σ H _ I h) fun ov s1 ⟨x, H1, I1, r1, a, C, dx, fs, ex, ea, c, n, hl, q1⟩ => ?_))
  subst ex
  obtain rfl : ov = Value.ref a := r1
  refine wpAny_bind (wpAny_standAt (wpAny_bind (wpAny_holding (setattr_ok I1 ea c n hl r ?_))))
  intro s2 I2
  exact wpAny_release ⟨σ, _, I2, q1⟩
theorem g_att {o : Expr} {c : E} {f : Nat} {pos : Pos} (inj : ∀ i j, nm i = nm j → i = j) (hf : ∀ c, T.fok c f = true → Cls X.K (ca c) ∧ NoAttr X.K (ca c) (nm f)) (ha : SE X nm ca T cl o c) : SG X nm ca T cl (.Attribute o (nm f) pos) (.att c f) := by
  refine PG.imp (pg_att ha) fun v τ H Q ⟨d, σ, h, β, rs, rh, rd, p⟩ => ?_
  simp only [evG] at p
  obtain ⟨x, h1, e1, p⟩ := p.bind
  cases x with
  | ref n =>
    cases q : h1[n]? with
    | none => simp only [q] at p; exact p.elim
    | some ob =>
      cases ob with
      | ins ci fs =>
        simp only [q] at p
        split at p
        · rename_i hk
          rw [Bool.and_eq_true, decide_eq_true_eq] at hk
          refine re1 rs rh e1 fun vx H1 β1 st rs1 rh1 rx => ?_
          obtain ⟨a, rfl, hβ⟩ := rx.ref_inv
          obtain ⟨dx, gs, j1, j2⟩ := rh1.obj n _ a q hβ
          have sw : Stp β1 H1 β1 (upd H1 a (.ins (ca ci) dx (L2.putF (nm f) v gs))) := Stp.write (List.mem_of_getElem? hβ) j1 (fun _ z => nomatch z) (fun _ _ z => nomatch z)
          refine ⟨a, ca ci, dx, gs, rfl, j1, (hf ci hk.1).1, (hf ci hk.1).2, by rw [← j2.length]; omega, ?_⟩
          exact p τ _ β1 (st.trans sw) (rs1.mono sw) (rh1.write hβ sw ⟨dx, _, upd_same, putF_rel inj ((rd.mono st).mono sw) (j2.mono sw)⟩) (Chg.refl _ _)
        · exact p.elim
      | _ => simp only [q] at p; exact p.elim
  | _ => exact p.elim
/-- xs[i] = .. -/
theorem g_sub {o i : Expr} {c k : E} {pos : Pos} (ho : SE X nm ca T cl o c) (hi : SE X nm ca T cl i k) (hs : isSl i = false) : SG X nm ca T cl (.Subscript o i pos) (.sub c k) := by
  refine PG.imp (pg_sub ho hi set_list (fun v => by
    cases i <;> first | rfl | cases hs)) fun v τ H Q ⟨d, σ, h, β, rs, rh, rd, p⟩ => ?_
  simp only [evG] at p
  obtain ⟨x, h1, e1, p⟩ := p.bind
  obtain ⟨y, h2, e2, p⟩ := p.bind
  cases x with
  | ref n =>
    cases y with
    | int j =>
      cases q : h2[n]? with
      | none => simp only [q] at p; exact p.elim
      | some ob =>
        cases ob with
        | lst xs =>
          simp only [q] at p
          cases q2 : L2.ixN xs.length j with
          | none => simp only [q2] at p; exact p.elim
          | some jj =>
            simp only [q2] at p
            refine re2 rs rh e1 e2 fun vx vy H2 β2 st rs2 rh2 rx ry => ?_
            cases ry
            obtain ⟨a, rfl, hβ⟩ := rx.ref_inv
            obtain ⟨us, j1, j2⟩ := rh2.obj n _ a q hβ
            have sw : Stp β2 H2 β2 (upd H2 a (.lst (us.set jj v))) := Stp.write (List.mem_of_getElem? hβ) j1 (fun _ z => nomatch z) (fun _ _ z => nomatch z)
            refine ⟨a, us, j, jj, rfl, rfl, j1, by rw [← j2.length]; exact q2, ?_⟩
            exact p τ _ β2 (st.trans sw) (rs2.mono sw) (rh2.write hβ sw ⟨_, upd_same, (j2.mono sw).set ((rd.mono st).mono sw) jj⟩) (Chg.refl _ _)
        | _ => simp only [q] at p; exact p.elim
    | _ => exact p.elim
  | _ => cases y <;> exact p.elim
end
end MC

set_option Elab.async false
set_option linter.all false
set_option maxRecDepth 100000
set_option maxHeartbeats 4000000
namespace MC
open PySem PySem.Spec PyProof.Rows L2
/-! ### what is walked -/
structure Itm (K : PySem.W.Frag) (nm : Nat → Str) (ca : CaT) (J : It) (xs : List D) (G : List Addr → Hp → Prop) : Prop where
  mono : ∀ {β H β' H'}, Stp β H β' H' → G β H → G β' H'
  goes : ∀ i β H, i < xs.length → G β H → J.go i H
  stops : ∀ β H, G β H → J.stop xs.length H
  yields : ∀ i β H v H', i < xs.length → G β H → J.yld i H v H' → Stp β H β H' ∧ (∀ h, RelH K nm ca β h H → RelH K nm ca β h H') ∧ ∃ d, xs[i]? = some d ∧ RelD K nm ca β H' d v
/-- a thing of the M-heap that is walked while it stands still -/
structure Lv (K : PySem.W.Frag) (nm : Nat → Str) (ca : CaT) (J : It) (a : Addr) (n : Nat) (o : O) (xs : List D) : Prop where
  goes : ∀ i β h H, i < xs.length → RelH K nm ca β h H → h[n]? = some o → β[n]? = some a → J.go i H
  stops : ∀ β h H, RelH K nm ca β h H → h[n]? = some o → β[n]? = some a → J.stop xs.length H
  yields : ∀ i β h H v H', i < xs.length → RelH K nm ca β h H → h[n]? = some o → β[n]? = some a → J.yld i H v H' → Stp β H β H' ∧ RelH K nm ca β h H' ∧ ∃ d, xs[i]? = some d ∧ RelD K nm ca β H' d v
theorem lv_lst {K : PySem.W.Frag} {nm : Nat → Str} {ca : CaT} {a : Addr} {n : Nat} {xs : List D} : Lv K nm ca (Itl K a) a n (.lst xs) xs where
  goes := fun i β h H hi rh ho hβ => by
    obtain ⟨vs, j1, j2⟩ := rh.obj n _ a ho hβ
    have := j2.length
    exact ⟨vs, vs[i]'(by omega), SqL.of j1, by simp [show i < vs.length by omega]⟩
  stops := fun β h H rh ho hβ => by
    obtain ⟨vs, j1, j2⟩ := rh.obj n _ a ho hβ
    have := j2.length
    exact ⟨vs, SqL.of j1, by omega⟩
  yields := fun i β h H v H' hi rh ho hβ y => by
    obtain ⟨vs, j1, j2⟩ := rh.obj n _ a ho hβ
    obtain ⟨e, y⟩ := y
    subst e
    have ev := y vs (SqL.of j1)
    refine ⟨Stp.refl _ _, rh, xs[i], by simp [hi], ?_⟩
    obtain ⟨w, e1, e2⟩ := j2.get (i := i) (x := xs[i]) (by simp [hi])
    rw [ev] at e1
    cases e1
    exact e2
def PostI (K : PySem.W.Frag) (nm : Nat → Str) (ca : CaT) (β : List Addr) (H : Hp) (r : Res Src) (R : It → Hp → Prop) : Prop := match r with
  | .ok (.its xs) h' => ∀ H' β' J G, Stp β H β' H' → RelH K nm ca β' h' H' → Itm K nm ca J xs G → G β' H' → R J H'
  | .ok (.live n) h' => ∀ H' β' J a o xs, Stp β H β' H' → RelH K nm ca β' h' H' → β'[n]? = some a → h'[n]? = some o → o.items = some xs → Lv K nm ca J a n o xs → R J H'
  | _ => False
def RI (K : PySem.W.Frag) (nm : Nat → Str) (ca : CaT) (ev : Sg → Hs → Res Src) : TI := fun τ H R => ∃ σ h β, RelS K nm ca β H σ τ ∧ RelH K nm ca β h H ∧ PostI K nm ca β H (ev σ h) R
theorem PI.imp {X : Cx} {tg e : Expr} {t t' : TI} (h : PI X tg e t) (i : ∀ σ H Q, t' σ H Q → t σ H Q) : PI X tg e t' := ⟨fun pins s σ H Q I q => h.run pins s σ H Q I (i σ H Q q)⟩
section
variable {X : Cx} {nm : Nat → Str} {ca : CaT} {T : Tab} {cl : Nat → List D → Hs → Res D} {tg : Expr}
abbrev SI (X : Cx) (nm : Nat → Str) (ca : CaT) (T : Tab) (cl : Nat → List D → Hs → Res D) (tg e : Expr) (i : I) : Prop := PI X tg e (RI X.K nm ca (evI T cl i))
theorem PostI.bind {α : Type} {K : PySem.W.Frag} {β : List Addr} {H : Hp} {r : Res α} {k : α → Hs → Res Src} {Q : It → Hp → Prop} (p : PostI K nm ca β H (r.bind k) Q) : ∃ a h1, r = .ok a h1 ∧ PostI K nm ca β H (k a h1) Q := by
  cases r with
  | ok a h1 => exact ⟨a, h1, rfl, p⟩
  | ex _ _ => exact p.elim
  | no => exact p.elim
theorem itm_tup {K : PySem.W.Frag} {a : Addr} {xs : List D} {vs : List V} (hl : xs.length = vs.length) : Itm K nm ca (Itt K a) xs (fun β H => SqT K H a vs ∧ RelL K nm ca β H xs vs) where
  mono := fun st g => ⟨st.sqT g.1, g.2.mono st⟩
  goes := fun i β H hi g => ⟨vs, vs[i]'(by omega), g.1, by simp [show i < vs.length by omega]⟩
  stops := fun β H g => ⟨vs, g.1, by omega⟩
  yields := fun i β H v H' hi g y => by
    obtain ⟨e, y⟩ := y
    subst e
    have ev := y vs g.1
    refine ⟨Stp.refl _ _, fun _ r => r, xs[i], by simp [hi], ?_⟩
    obtain ⟨w, e1, e2⟩ := g.2.get (i := i) (x := xs[i]) (by simp [hi])
    rw [ev] at e1
    cases e1
    exact e2
theorem itm_lst {K : PySem.W.Frag} {a : Addr} {xs : List D} {vs : List V} (hl : xs.length = vs.length) : Itm K nm ca (Itl K a) xs (fun β H => LsT K β H a vs ∧ RelL K nm ca β H xs vs) where
  mono := fun st g => ⟨st.rd g.1, g.2.mono st⟩
  goes := fun i β H hi g => ⟨vs, vs[i]'(by omega), g.1.sq, by simp [show i < vs.length by omega]⟩
  stops := fun β H g => ⟨vs, g.1.sq, by omega⟩
  yields := fun i β H v H' hi g y => by
    obtain ⟨e, y⟩ := y
    subst e
    have ev := y vs g.1.sq
    refine ⟨Stp.refl _ _, fun _ r => r, xs[i], by simp [hi], ?_⟩
    obtain ⟨w, e1, e2⟩ := g.2.get (i := i) (x := xs[i]) (by simp [hi])
    rw [ev] at e1
    cases e1
    exact e2
theorem itm_rng {K : PySem.W.Frag} {lo : Int} {n : Nat} : Itm K nm ca (Itr lo n) (rngD lo 1 n) (fun _ _ => True) where
  mono := fun _ g => g
  goes := fun i β H hi g => by
    show i < n
    simpa [rngD] using hi
  stops := fun β H g => by simp [rngD, Itr]
  yields := fun i β H v H' hi g y => by
    obtain ⟨e, rfl⟩ := y
    subst e
    have hi' : i < n := by simpa [rngD] using hi
    refine ⟨Stp.refl _ _, fun _ r => r, .int (lo + i), ?_, .int _⟩
    simp [rngD, hi']
theorem itm_rngC {K : PySem.W.Frag} {lo c : Int} {n : Nat} : Itm K nm ca (Itc lo c n) (rngD lo c n) (fun _ _ => True) where
  mono := fun _ g => g
  goes := fun i β H hi g => by
    show i < n
    simpa [rngD] using hi
  stops := fun β H g => by simp [rngD, Itc]
  yields := fun i β H v H' hi g y => by
    obtain ⟨e, rfl⟩ := y
    subst e
    have hi' : i < n := by simpa [rngD] using hi
    refine ⟨Stp.refl _ _, fun _ r => r, .int (lo + (i : Nat) * c), ?_, .int _⟩
    simp [rngD, hi']
theorem pairs_get {xs ys : List D} {i : Nat} (h1 : i < xs.length) (h2 : i < ys.length) : (pairs xs ys)[i]? = some (.tup [xs[i], ys[i]]) := by
  have e : (xs.zip ys)[i]? = some (xs[i], ys[i]) := by
    rw [List.getElem?_eq_getElem (by rw [List.length_zip]; omega)]
    simp
  rw [pairs, List.getElem?_map, e]
  rfl
theorem pairs_len {xs ys : List D} : (pairs xs ys).length = min xs.length ys.length := by simp [pairs]
theorem itm_zipT {K : PySem.W.Frag} {a b : Addr} {xs ys : List D} {vs ws : List V} (hl : xs.length = vs.length) (hl2 : ys.length = ws.length) : Itm K nm ca (RZ.ItzT K a b) (pairs xs ys) (fun β H => (SqT K H a vs ∧ RelL K nm ca β H xs vs) ∧ SqT K H b ws ∧ RelL K nm ca β H ys ws) where
  mono := fun st g => ⟨⟨st.sqT g.1.1, g.1.2.mono st⟩, st.sqT g.2.1, g.2.2.mono st⟩
  goes := fun i β H hi g => by
    rw [pairs_len] at hi
    exact ⟨vs, ws, vs[i]'(by omega), ws[i]'(by omega), g.1.1, g.2.1, by simp [show i < vs.length by omega], by simp [show i < ws.length by omega]⟩
  stops := fun β H g => by
    rw [pairs_len]
    exact ⟨vs, ws, g.1.1, g.2.1, by omega⟩
  yields := fun i β H v H' hi g y => by
    rw [pairs_len] at hi
    obtain ⟨t, x, y', rfl, nt, rfl, q1, q2⟩ := y
    have e1 := q1 vs g.1.1
    have e2 := q2 ws g.2.1
    obtain ⟨w1, f1, r1⟩ := g.1.2.get (i := i) (x := xs[i]'(by omega)) (by simp [show i < xs.length by omega])
    obtain ⟨w2, f2, r2⟩ := g.2.2.get (i := i) (x := ys[i]'(by omega)) (by simp [show i < ys.length by omega])
    rw [e1] at f1
    rw [e2] at f2
    cases f1; cases f2
    refine ⟨Stp.laid nt, fun h r => r.laid nt, .tup [xs[i]'(by omega), ys[i]'(by omega)], ?_, new_tup nt (.cons r1 (.cons r2 .nil))⟩
    exact pairs_get (by omega) (by omega)
theorem itm_zipL {K : PySem.W.Frag} {a b : Addr} {xs ys : List D} {vs ws : List V} (hl : xs.length = vs.length) (hl2 : ys.length = ws.length) : Itm K nm ca (Itz K a b) (pairs xs ys) (fun β H => (LsT K β H a vs ∧ RelL K nm ca β H xs vs) ∧ LsT K β H b ws ∧ RelL K nm ca β H ys ws) where
  mono := fun st g => ⟨⟨st.rd g.1.1, g.1.2.mono st⟩, st.rd g.2.1, g.2.2.mono st⟩
  goes := fun i β H hi g => by
    rw [pairs_len] at hi
    exact ⟨vs, ws, vs[i]'(by omega), ws[i]'(by omega), g.1.1.sq, g.2.1.sq, by simp [show i < vs.length by omega], by simp [show i < ws.length by omega]⟩
  stops := fun β H g => by
    rw [pairs_len]
    exact ⟨vs, ws, g.1.1.sq, g.2.1.sq, by omega⟩
  yields := fun i β H v H' hi g y => by
    rw [pairs_len] at hi
    obtain ⟨t, x, y', rfl, nt, rfl, q1, q2⟩ := y
    have e1 := q1 vs g.1.1.sq
    have e2 := q2 ws g.2.1.sq
    obtain ⟨w1, f1, r1⟩ := g.1.2.get (i := i) (x := xs[i]'(by omega)) (by simp [show i < xs.length by omega])
    obtain ⟨w2, f2, r2⟩ := g.2.2.get (i := i) (x := ys[i]'(by omega)) (by simp [show i < ys.length by omega])
    rw [e1] at f1
    rw [e2] at f2
    cases f1; cases f2
    refine ⟨Stp.laid nt, fun h r => r.laid nt, .tup [xs[i]'(by omega), ys[i]'(by omega)], ?_, new_tup nt (.cons r1 (.cons r2 .nil))⟩
    exact pairs_get (by omega) (by omega)
/-- a list or a tuple -/
def iSeq (K : PySem.W.Frag) (tl : TE) : TI := fun σ H R => tl σ H fun x H1 => ∃ a, x = .ref a ∧ (((∃ xs, SqL K H1 a xs) ∧ R (Itl K a) H1) ∨ ((∃ xs, SqT K H1 a xs) ∧ R (Itt K a) H1))
theorem pi_seq {l : Expr} {tl : TE} (hl : PE X l tl) : PI X tg l (iSeq X.K tl) := by
  refine ⟨fun pins s σ H R I h => ?_⟩
  refine thn (hl.run pins s σ H _ I h) fun v s1 ⟨x, H1, I1, r1, q1⟩ => ?_
  obtain ⟨a, e, ⟨⟨xs, hq⟩, q⟩ | ⟨⟨xs, hq⟩, q⟩⟩ := q1
  · subst e
    cases r1
    obtain ⟨its, rv, p, hz⟩ := I1.list hq
    refine wpAny_pyIter_list p.isList ?_
    refine ⟨s1.heap.objs.size, [s1.heap.objs.size], _, _, H1, rfl, I1.kept (t' := s1.toks) fun b o e => Heap.get?_push_of_some _ e, turn_list a _, ⟨_, Heap.get?_push_size _ rfl, rfl, rfl⟩, fun b hb => ?_, q⟩
    have e : b = s1.heap.objs.size := by simpa using hb
    subst e
    exact I1.fpOk (Nat.le_refl _) (I1.hok.fresh (Nat.le_refl _))
  · subst e
    cases r1
    obtain ⟨its, rv, p, hz⟩ := I1.tuple hq
    refine wpAny_pyIter_tuple (show s1.heap.IsTuple a its.toArray from p) ?_
    refine ⟨s1.heap.objs.size, [s1.heap.objs.size], _, _, H1, rfl, I1.kept (t' := s1.toks) fun b o e => Heap.get?_push_of_some _ e, turn_tuple a _, ⟨_, Heap.get?_push_size _ rfl, rfl, rfl⟩, fun b hb => ?_, q⟩
    have e : b = s1.heap.objs.size := by simpa using hb
    subst e
    exact I1.fpOk (Nat.le_refl _) (I1.hok.fresh (Nat.le_refl _))
theorem i_val {e : Expr} {c : E} (h : SE X nm ca T cl e c) : SI X nm ca T cl tg e (.val c) := by
  refine PI.imp (pi_seq h) fun τ H R ⟨σ, h, β, rs, rh, p⟩ => ?_
  simp only [evI] at p
  obtain ⟨x, h1, e1, p⟩ := p.bind
  refine re1 rs rh e1 fun vx H1 β1 st rs1 rh1 rx => ?_
  cases x with
  | tup xs =>
    obtain ⟨a, vs, rfl, k1, k2⟩ := rx.tup_inv
    exact ⟨a, rfl, .inr ⟨⟨vs, k1⟩, p H1 β1 _ _ st rh1 (itm_tup k2.length) ⟨k1, k2⟩⟩⟩
  | lst xs =>
    obtain ⟨a, vs, rfl, k1, k2⟩ := rx.lst_inv
    exact ⟨a, rfl, .inl ⟨⟨vs, k1.sq⟩, p H1 β1 _ _ st rh1 (itm_lst k2.length) ⟨k1, k2⟩⟩⟩
  | ref n =>
    obtain ⟨a, rfl, hβ⟩ := rx.ref_inv
    cases q : h1[n]? with
    | none => simp only [q] at p; exact p.elim
    | some ob =>
      cases ob with
      | lst xs =>
        simp only [q] at p
        obtain ⟨vs, j1, j2⟩ := rh1.obj n _ a q hβ
        exact ⟨a, rfl, .inl ⟨⟨vs, SqL.of j1⟩, p H1 β1 _ a _ _ st rh1 hβ q rfl lv_lst⟩⟩
      | _ => simp only [q] at p; exact p.elim
  | _ => exact p.elim
theorem big_lt {i : Int} (e : big i = true) : -(2 ^ 62) ≤ i ∧ i < 2 ^ 62 := by
  unfold big at e
  simpa using e
theorem i_rng1 {a : Expr} {c : E} {p pos : Pos} (hg : Gl X "range") (hm : X.mg "range" = none) (ha : SE X nm ca T cl a c) (hs : isSt a = false) : SI X nm ca T cl tg (.Call (.Name "range" p) [a] [] pos) (.rng1 c) := by
  refine PI.imp (pi_range1 hg hm (a_cons ha a_nil hs) (by rw [starEach_plain hs]; rfl)) fun τ H R ⟨σ, h, β, rs, rh, p⟩ => ?_
  simp only [evI] at p
  obtain ⟨x, h1, e1, p⟩ := p.bind
  refine ra1 (x := [x]) (h1 := h1) rs rh (by simp [evA, e1, Res.bind]) fun vxs H1 β1 st rs1 rh1 rx => ?_
  obtain ⟨v, rfl, ry⟩ := one_rel rx
  cases x with
  | int j =>
    simp only at p
    split at p
    · rename_i hb
      cases ry
      exact ⟨j, rfl, (big_lt hb).1, (big_lt hb).2, p H1 β1 _ _ st rh1 itm_rng trivial⟩
    · exact p.elim
  | _ => exact p.elim
theorem i_rng2 {a b : Expr} {c c' : E} {p pos : Pos} (hg : Gl X "range") (hm : X.mg "range" = none) (ha : SE X nm ca T cl a c) (hb : SE X nm ca T cl b c') (hs : isSt a = false) (hs2 : isSt b = false) : SI X nm ca T cl tg (.Call (.Name "range" p) [a, b] [] pos) (.rng2 c c') := by
  refine PI.imp (pi_range2 hg hm (a_cons ha (a_cons hb a_nil hs2) hs) (by rw [starEach_plain hs, starEach_plain hs2]; rfl) (by rw [starEach_plain hs2]; rfl)) fun τ H R ⟨σ, h, β, rs, rh, p⟩ => ?_
  simp only [evI] at p
  obtain ⟨x, h1, e1, p⟩ := p.bind
  obtain ⟨y, h2, e2, p⟩ := p.bind
  refine ra1 (x := [x, y]) (h1 := h2) rs rh (by simp [evA, e1, e2, Res.bind]) fun vxs H1 β1 st rs1 rh1 rx => ?_
  cases rx with
  | cons r1 r2 =>
    obtain ⟨v, rfl, ry⟩ := one_rel r2
    cases x with
    | int i =>
      cases y with
      | int j =>
        simp only at p
        split at p
        · rename_i hb
          rw [Bool.and_eq_true] at hb
          cases r1
          cases ry
          exact ⟨i, j, rfl, ⟨(big_lt hb.1).1, (big_lt hb.1).2, (big_lt hb.2).1, (big_lt hb.2).2⟩, p H1 β1 _ _ st rh1 itm_rng trivial⟩
        · exact p.elim
      | _ => exact p.elim
    | _ => cases y <;> exact p.elim
theorem i_zip {a b : Expr} {c c' : E} {elts : List Expr} {kk : Nat} {tpos p pos : Pos} (hg : Gl X "zip") (hm : X.mg "zip" = none) (ha : SE X nm ca T cl a c) (hb : SE X nm ca T cl b c') (hs : isSt a = false) (hs2 : isSt b = false) : SI X nm ca T cl (.Tuple elts kk tpos) (.Call (.Name "zip" p) [a, b] [] pos) (.zip c c') := by
  refine PI.imp (RZ.pi_zipA hg hm (a_cons ha (a_cons hb a_nil hs2) hs) (starEach_plain hs) (noStar (by simp [hs2]))) fun τ H R ⟨σ, h, β, rs, rh, p⟩ => ?_
  simp only [evI] at p
  obtain ⟨x, h1, e1, p⟩ := p.bind
  obtain ⟨y, h2, e2, p⟩ := p.bind
  refine ra1 (x := [x, y]) (h1 := h2) rs rh (by simp [evA, e1, e2, Res.bind]) fun vxs H1 β1 st rs1 rh1 rx => ?_
  cases rx with
  | cons r1 r2 =>
    obtain ⟨v, rfl, ry⟩ := one_rel r2
    cases x with
    | tup xs =>
      cases y with
      | tup ys =>
        obtain ⟨a, vs, rfl, k1, k2⟩ := r1.tup_inv
        obtain ⟨b, ws, rfl, j1, j2⟩ := ry.tup_inv
        exact ⟨a, b, vs, ws, rfl, .inr ⟨k1, j1, p H1 β1 _ _ st rh1 (itm_zipT k2.length j2.length) ⟨⟨k1, k2⟩, j1, j2⟩⟩⟩
      | _ => exact p.elim
    | lst xs =>
      cases y with
      | lst ys =>
        obtain ⟨a, vs, rfl, k1, k2⟩ := r1.lst_inv
        obtain ⟨b, ws, rfl, j1, j2⟩ := ry.lst_inv
        exact ⟨a, b, vs, ws, rfl, .inl ⟨k1.sq, j1.sq, p H1 β1 _ _ st rh1 (itm_zipL k2.length j2.length) ⟨⟨k1, k2⟩, j1, j2⟩⟩⟩
      | _ => exact p.elim
    | _ => cases y <;> exact p.elim
end
end MC

set_option Elab.async false
set_option linter.all false
set_option maxRecDepth 100000
set_option maxHeartbeats 4000000
namespace MC
open PySem PySem.Spec PyProof.Rows L2
section
variable {X : Cx} {nm : Nat → Str} {ca : CaT} {T : Tab} {cl : Nat → List D → Hs → Res D} {tg : Expr}
/-! ### list comprehensions -/
theorem wipe_get (τ : L2.St) : ∀ (vs : List Nat) (i : Nat), i ∈ vs → i < τ.length → (wipe τ vs)[i]? = some none
  | v :: vs, i, hi, hl => by
    show ((wipe τ vs).set v none)[i]? = some none
    by_cases e : v = i
    · subst e
      exact List.getElem?_set_self (by rw [wipe_length]; exact hl)
    · rw [List.getElem?_set_ne e]
      rcases List.mem_cons.mp hi with z | z
      · exact absurd z.symm e
      · exact wipe_get τ vs i z hl
theorem wipe_off (τ : L2.St) : ∀ (vs : List Nat) (i : Nat), i ∉ vs → (wipe τ vs)[i]? = τ[i]?
  | [], _, _ => rfl
  | v :: vs, i, hi => by
    rw [List.mem_cons, not_or] at hi
    show ((wipe τ vs).set v none)[i]? = τ[i]?
    rw [List.getElem?_set_ne (Ne.symm hi.1), wipe_off τ vs i hi.2]
theorem wipe_eq {τ τ' : L2.St} {vs : List Nat} (hl : τ'.length = τ.length) (h : ∀ (i : Nat), i ∉ vs → τ'[i]? = τ[i]?) : wipe τ' vs = wipe τ vs := by
  apply List.ext_getElem?
  intro i
  by_cases hi : i ∈ vs
  · by_cases hb : i < τ.length
    · rw [wipe_get τ vs i hi hb, wipe_get τ' vs i hi (by omega)]
    · rw [List.getElem?_eq_none (by rw [wipe_length]; omega), List.getElem?_eq_none (by rw [wipe_length]; omega)]
  · rw [wipe_off τ vs i hi, wipe_off τ' vs i hi, h i hi]
theorem chg_wipe {τ τ' : L2.St} {vs gs : List Nat} (hg : ∀ i ∈ gs, i ∈ vs) (c : Chg gs (wipe τ vs) τ') : wipe τ' vs = wipe τ vs := by
  refine wipe_eq (by rw [c.1, wipe_length]) fun i hi => ?_
  rw [c.2 i fun z => hi (hg i z), wipe_off τ vs i hi]
theorem RelS.wipe {K : PySem.W.Frag} {β : List Addr} {H : Hp} {σ : Sg} {τ : L2.St} (r : RelS K nm ca β H σ τ) : ∀ vs : List Nat, RelS K nm ca β H (wipeM vs σ) (L2.wipe τ vs)
  | [] => r
  | v :: vs => (RelS.wipe r vs).wipe1
abbrev PTsM (X : Cx) (nm : Nat → Str) (ca : CaT) (T : Tab) (cl : Nat → List D → Hs → Res D) (ifs : List Expr) (c : OE) : Prop := PTs X ifs (RT X.K nm ca (evOT T cl c))
theorem PTs.imp {X : Cx} {e : List Expr} {t t' : TT} (h : PTs X e t) (i : ∀ σ H Q, t' σ H Q → t σ H Q) : PTs X e t' := ⟨fun pins s σ H Q I q => h.run pins s σ H Q I (i σ H Q q)⟩
theorem ts_nil : PTsM X nm ca T cl [] .none := PTs.imp pts_nil fun τ H Q ⟨σ, h, β, rs, rh, p⟩ => p H β (Stp.refl _ _) rh
theorem ts_one {t : Expr} {c : E} (h : ST X nm ca T cl t c) : PTsM X nm ca T cl [t] (.some c) := pts_one h
theorem pushM_ok {n : Nat} {y : D} {h h' : Hs} (e : pushM n y h = .ok () h') : ∃ acc, h[n]? = some (.lst acc) ∧ acc.length < sizeLine ∧ h' = h.set n (.lst (acc ++ [y])) := by
  unfold pushM at e
  cases q : h[n]? with
  | none => rw [q] at e; cases e
  | some o =>
    rw [q] at e
    cases o with
    | lst acc =>
      simp only at e
      split at e
      · cases e; exact ⟨acc, rfl, by assumption, rfl⟩
      · cases e
    | _ => cases e
theorem grd_at {o : O} {n : Nat} {h : Hs} (e : grd o n h = true) : h[n]? = some o := by
  unfold grd at e
  cases q : h[n]? with
  | none => rw [q] at e; cases e
  | some u => rw [q] at e; rw [O.eqb_eq e]
mutual
theorem D.eqb_rf : ∀ d : D, D.eqb d d = true
  | .non => by simp [D.eqb]
  | .bl _ => by simp [D.eqb]
  | .int _ => by simp [D.eqb]
  | .str _ => by simp [D.eqb]
  | .tup xs => by simp [D.eqb, D.eqbL_rf xs]
  | .lst xs => by simp [D.eqb, D.eqbL_rf xs]
  | .dct xs => by simp [D.eqb, D.eqbK_rf xs]
  | .ins c xs => by simp [D.eqb, D.eqbF_rf xs]
  | .ref _ => by simp [D.eqb]
theorem D.eqbL_rf : ∀ d : List D, D.eqbL d d = true
  | [] => by simp [D.eqbL]
  | x :: xs => by simp [D.eqbL, D.eqb_rf x, D.eqbL_rf xs]
theorem D.eqbK_rf : ∀ d : List (D × D), D.eqbK d d = true
  | [] => by simp [D.eqbK]
  | (x, y) :: xs => by simp [D.eqbK, D.eqb_rf x, D.eqb_rf y, D.eqbK_rf xs]
theorem D.eqbF_rf : ∀ d : List (Nat × D), D.eqbF d d = true
  | [] => by simp [D.eqbF]
  | (x, y) :: xs => by simp [D.eqbF, D.eqb_rf y, D.eqbF_rf xs]
end
theorem at_grd {o : O} {n : Nat} {h : Hs} (e : h[n]? = some o) : grd o n h = true := by
  unfold grd
  rw [e]
  cases o <;> simp [O.eqb, D.eqbL_rf, D.eqbK_rf, D.eqbF_rf]
theorem s_lc {elt iter : Expr} {ifs : List Expr} {scope : Scope} {own : List (Str × Nat)} {pos : Pos} {fz : Bool} {vs : List Nat} {ce : E} {g : G} {it : I} {c : OE} (hc : X.calm = true) (hN : X.N.Nodup) (hi : SI X nm ca T cl tg iter it) (ok : BlkOk X.N X.env.scope scope own)
    (hg : ∀ (s : Shared) (H : Hp) (C : Addr) (cl' : List (Str × Addr)) (fp : List Addr), SG (X.blk s H scope (compEnvC scope cl' C X.env) fp) nm ca T cl tg g) (ht : ∀ (s : Shared) (H : Hp) (C : Addr) (cl' : List (Str × Addr)) (fp : List Addr), PTsM (X.blk s H scope (compEnvC scope cl' C X.env) fp) nm ca T cl ifs c)
    (he : ∀ (s : Shared) (H : Hp) (C : Addr) (cl' : List (Str × Addr)) (fp : List Addr), SE (X.blk s H scope (compEnvC scope cl' C X.env) fp) nm ca T cl elt ce) (hs : ∀ x, foldedSetIterable iter X.env x = pure x) (hv : own.map (·.2) = vs) (hgs : ∀ i ∈ g.slots, i ∈ vs) :
    SE X nm ca T cl (.ListComp elt [⟨tg, iter, ifs, 0⟩] scope pos) (.lc fz vs ce g it c) ∧
    ∀ {i : Nat} {y : Str} {py spos : Pos}, X.N[i]? = some y → X.env.scope.names.lookup y = some .local → swapsWith (.ListComp elt [⟨tg, iter, ifs, 0⟩] scope pos) (some (.Name y py)) spos.line X.env = pure true →
      PS X (.Assign [.Name y py] (.ListComp elt [⟨tg, iter, ifs, 0⟩] scope pos) spos) (tAsg (RE X.K nm ca (evE T cl (.lc fz vs ce g it c))) (gName i)) := by
  have key : ∀ τ H Q, RE X.K nm ca (evE T cl (.lc fz vs ce g it c)) τ H Q → tLc (RI X.K nm ca (evI T cl it)) (RG X.K nm ca g.slots (evG T cl g)) (RT X.K nm ca (evOT T cl c)) (RE X.K nm ca (evE T cl ce)) (own.map (·.2)) τ H Q := by
    intro τ H Q ⟨σ, h, β, rs, rh, p⟩
    rw [hv]
    simp only [evE] at p
    obtain ⟨s, h1, e1, p⟩ := p.bind
    cases s with
    | live n =>
      cases qo : h1[n]? with
      | none => simp only [qo] at p; exact p.elim
      | some o =>
      cases qi : o.items with
      | none => simp only [qo, qi] at p; exact p.elim
      | some xs =>
      simp only [qo, qi] at p
      obtain ⟨u0, hf, ef, p⟩ := p.bind
      have ef : loopLCg (grd o n) (evG T cl g) (evOT T cl c) (evE T cl ce) (wipeM vs σ) h1.length (xs.drop 0) (h1 ++ [.lst []]) = .ok () hf := ef
      refine ⟨σ, h, β, rs, rh, ?_⟩
      rw [e1]
      intro H1 β1 J a o' xs' st rh1 hβ ho hx lv D nD
      rw [qo] at ho; cases ho
      rw [qi] at hx; cases hx
      refine ⟨fun i m H' => ∃ h' β', Stp β1 H1 β' H' ∧ RelH X.K nm ca β' h' H' ∧ β'[n]? = some a ∧ β'[h1.length]? = some D ∧ m = xs.length - i ∧ i ≤ xs.length ∧ loopLCg (grd o n) (evG T cl g) (evOT T cl c) (evE T cl ce) (wipeM vs σ) h1.length (xs.drop i) h' = .ok () hf, ⟨xs.length, h1 ++ [.lst []], β1 ++ [D], Stp.push nD, rh1.push (o := O.lst []) nD ⟨[], upd_same, .nil⟩, (Stp.push (o := HO.lst []) nD).get hβ, ?_, by simp, Nat.zero_le _, ef⟩, ?_⟩
      · rw [← rh1.len, List.getElem?_append_right (Nat.le_refl _)]
        simp
      · rintro i m H' ⟨h', β', st', rh', g', hD, rfl, hle, el⟩
        by_cases hlt : i < xs.length
        · have hgd : h'[n]? = some o := by
            refine grd_at ?_
            rw [List.drop_eq_getElem_cons hlt] at el
            simp only [loopLCg] at el
            split at el
            · assumption
            · cases el
          refine .inr ⟨lv.goes i β' h' H' hlt rh' hgd g', fun H2 => ∃ m', m' < xs.length - i ∧ ∃ h2 β2, Stp β1 H1 β2 H2 ∧ RelH X.K nm ca β2 h2 H2 ∧ β2[n]? = some a ∧ β2[h1.length]? = some D ∧ m' = xs.length - (i + 1) ∧ i + 1 ≤ xs.length ∧ loopLCg (grd o n) (evG T cl g) (evOT T cl c) (evE T cl ce) (wipeM vs σ) h1.length (xs.drop (i + 1)) h2 = .ok () hf, fun H2 q => q, fun v H2 y => ?_⟩
          obtain ⟨s2, rh2, d, ed, rd⟩ := lv.yields i β' h' H' v H2 hlt rh' hgd g' y
          have edr : xs.drop i = d :: xs.drop (i + 1) := by
            rw [List.drop_eq_getElem_cons hlt]
            rw [List.getElem?_eq_getElem hlt] at ed
            cases ed
            rfl
          rw [edr] at el
          simp only [loopLCg, at_grd hgd, if_true] at el
          have rs2 : RelS X.K nm ca β' H2 (wipeM vs σ) (L2.wipe τ vs) := ((((rs.mono st).mono st').mono s2).wipe vs)
          refine ⟨d, wipeM vs σ, h', β', rs2, rh2, rd, ?_⟩
          cases q1 : evG T cl g d (wipeM vs σ) h' with
          | ex _ _ => rw [q1] at el; cases el
          | no => rw [q1] at el; cases el
          | ok σ3 h3 =>
            simp only [q1, Res.bind] at el
            intro τ3 H3 β3 st3 rs3 rh3 c3
            refine ⟨chg_wipe hgs c3, ?_⟩
            refine ⟨σ3, h3, β3, rs3, rh3, ?_⟩
            cases q2 : evOT T cl c σ3 h3 with
            | ex _ _ => rw [q2] at el; cases el
            | no => rw [q2] at el; cases el
            | ok k h4 =>
              simp only [q2] at el
              intro H4 β4 st4 rh4
              have s14 : Stp β1 H1 β4 H4 := ((st'.trans s2).trans st3).trans st4
              have g4 : β4[n]? = some a := st4.get (st3.get g')
              have hD4 : β4[h1.length]? = some D := st4.get (st3.get hD)
              cases k with
              | false =>
                rw [if_neg (by decide)]
                simp only [Bool.false_eq_true, if_false] at el
                exact ⟨xs.length - (i + 1), by omega, h4, β4, s14, rh4, g4, hD4, rfl, hlt, el⟩
              | true =>
                rw [if_pos rfl]
                simp only [if_true] at el
                refine ⟨σ3, h4, β4, rs3.mono st4, rh4, ?_⟩
                cases q3 : evE T cl ce σ3 h4 with
                | ex _ _ => rw [q3] at el; cases el
                | no => rw [q3] at el; cases el
                | ok yv h5 =>
                  simp only [q3] at el
                  intro w H5 β5 st5 rh5 rd5
                  cases q4 : pushM h1.length yv h5 with
                  | ex _ _ => rw [q4] at el; cases el
                  | no => rw [q4] at el; cases el
                  | ok u h6 =>
                    simp only [q4] at el
                    obtain ⟨acc, a1, a2, a3⟩ := pushM_ok q4
                    have hD5 := st5.get hD4
                    obtain ⟨us, j1, j2⟩ := rh5.obj _ _ D a1 hD5
                    have sw : Stp β5 H5 β5 (upd H5 D (.lst (us ++ [w]))) := Stp.write (List.mem_of_getElem? hD5) j1 (fun _ z => nomatch z) (fun _ _ z => nomatch z)
                    refine ⟨us, j1, by rw [← j2.length]; exact a2, xs.length - (i + 1), by omega, h6, β5, (s14.trans st5).trans sw, ?_, st5.get g4, hD5, rfl, hlt, el⟩
                    rw [a3]
                    exact rh5.write hD5 sw ⟨_, upd_same, (j2.mono sw).app (.cons (rd5.mono sw) .nil)⟩
        · have e : i = xs.length := by omega
          subst e
          rw [List.drop_length] at el
          have hgd : h'[n]? = some o := by
            refine grd_at ?_
            simp only [loopLCg] at el
            split at el
            · assumption
            · cases el
          simp only [loopLCg, at_grd hgd, if_true] at el
          cases el
          refine .inl ⟨lv.stops β' _ H' rh' hgd g', ?_⟩
          exact back_ok rh1 st' rh' (.ref hD) (p.step st)
    | its xs =>
      obtain ⟨u0, hf, ef, p⟩ := p.bind
      have ef : loopLC (evG T cl g) (evOT T cl c) (evE T cl ce) (wipeM vs σ) h1.length (xs.drop 0) (h1 ++ [.lst []]) = .ok () hf := ef
      refine ⟨σ, h, β, rs, rh, ?_⟩
      rw [e1]
      intro H1 β1 J G st rh1 itm g1 D nD
      refine ⟨fun i m H' => ∃ h' β', Stp β1 H1 β' H' ∧ RelH X.K nm ca β' h' H' ∧ G β' H' ∧ β'[h1.length]? = some D ∧ m = xs.length - i ∧ i ≤ xs.length ∧ loopLC (evG T cl g) (evOT T cl c) (evE T cl ce) (wipeM vs σ) h1.length (xs.drop i) h' = .ok () hf, ⟨xs.length, h1 ++ [.lst []], β1 ++ [D], Stp.push nD, rh1.push (o := O.lst []) nD ⟨[], upd_same, .nil⟩, itm.mono (Stp.push nD) g1, ?_, by simp, Nat.zero_le _, ef⟩, ?_⟩
      · rw [← rh1.len, List.getElem?_append_right (Nat.le_refl _)]
        simp
      · rintro i m H' ⟨h', β', st', rh', g', hD, rfl, hle, el⟩
        by_cases hlt : i < xs.length
        · refine .inr ⟨itm.goes i β' H' hlt g', fun H2 => ∃ m', m' < xs.length - i ∧ ∃ h2 β2, Stp β1 H1 β2 H2 ∧ RelH X.K nm ca β2 h2 H2 ∧ G β2 H2 ∧ β2[h1.length]? = some D ∧ m' = xs.length - (i + 1) ∧ i + 1 ≤ xs.length ∧ loopLC (evG T cl g) (evOT T cl c) (evE T cl ce) (wipeM vs σ) h1.length (xs.drop (i + 1)) h2 = .ok () hf, fun H2 q => q, fun v H2 y => ?_⟩
          obtain ⟨s2, rel2, d, ed, rd⟩ := itm.yields i β' H' v H2 hlt g' y
          have rh2 := rel2 h' rh'
          have edr : xs.drop i = d :: xs.drop (i + 1) := by
            rw [List.drop_eq_getElem_cons hlt]
            rw [List.getElem?_eq_getElem hlt] at ed
            cases ed
            rfl
          rw [edr] at el
          simp only [loopLC] at el
          have rs2 : RelS X.K nm ca β' H2 (wipeM vs σ) (L2.wipe τ vs) := ((((rs.mono st).mono st').mono s2).wipe vs)
          refine ⟨d, wipeM vs σ, h', β', rs2, rh2, rd, ?_⟩
          cases q1 : evG T cl g d (wipeM vs σ) h' with
          | ex _ _ => rw [q1] at el; cases el
          | no => rw [q1] at el; cases el
          | ok σ3 h3 =>
            simp only [q1, Res.bind] at el
            intro τ3 H3 β3 st3 rs3 rh3 c3
            refine ⟨chg_wipe hgs c3, ?_⟩
            refine ⟨σ3, h3, β3, rs3, rh3, ?_⟩
            cases q2 : evOT T cl c σ3 h3 with
            | ex _ _ => rw [q2] at el; cases el
            | no => rw [q2] at el; cases el
            | ok k h4 =>
              simp only [q2] at el
              intro H4 β4 st4 rh4
              have s14 : Stp β1 H1 β4 H4 := ((st'.trans s2).trans st3).trans st4
              have g4 : G β4 H4 := itm.mono st4 (itm.mono st3 (itm.mono s2 g'))
              have hD4 : β4[h1.length]? = some D := st4.get (st3.get hD)
              cases k with
              | false =>
                rw [if_neg (by decide)]
                simp only [Bool.false_eq_true, if_false] at el
                exact ⟨xs.length - (i + 1), by omega, h4, β4, s14, rh4, g4, hD4, rfl, hlt, el⟩
              | true =>
                rw [if_pos rfl]
                simp only [if_true] at el
                refine ⟨σ3, h4, β4, rs3.mono st4, rh4, ?_⟩
                cases q3 : evE T cl ce σ3 h4 with
                | ex _ _ => rw [q3] at el; cases el
                | no => rw [q3] at el; cases el
                | ok yv h5 =>
                  simp only [q3] at el
                  intro w H5 β5 st5 rh5 rd5
                  cases q4 : pushM h1.length yv h5 with
                  | ex _ _ => rw [q4] at el; cases el
                  | no => rw [q4] at el; cases el
                  | ok u h6 =>
                    simp only [q4] at el
                    obtain ⟨acc, a1, a2, a3⟩ := pushM_ok q4
                    have hD5 := st5.get hD4
                    obtain ⟨us, j1, j2⟩ := rh5.obj _ _ D a1 hD5
                    have sw : Stp β5 H5 β5 (upd H5 D (.lst (us ++ [w]))) := Stp.write (List.mem_of_getElem? hD5) j1 (fun _ z => nomatch z) (fun _ _ z => nomatch z)
                    refine ⟨us, j1, by rw [← j2.length]; exact a2, xs.length - (i + 1), by omega, h6, β5, (s14.trans st5).trans sw, ?_, itm.mono sw (itm.mono st5 g4), hD5, rfl, hlt, el⟩
                    rw [a3]
                    exact rh5.write hD5 sw ⟨_, upd_same, (j2.mono sw).app (.cons (rd5.mono sw) .nil)⟩
        · have e : i = xs.length := by omega
          subst e
          rw [List.drop_length] at el
          simp only [loopLC] at el
          cases el
          refine .inl ⟨itm.stops β' H' g', ?_⟩
          exact back_ok rh1 st' rh' (.ref hD) (p.step st)
  exact ⟨PE.imp (pe_lc hc hN hi ok hg ht he hs) key, fun hy hyl hsw => ⟨fun pins s σ H D I q => (ps_setLc hc hN hy hyl hsw hi ok hg ht he hs).run pins s σ H D I (key _ _ _ q)⟩⟩
end
end MC

set_option Elab.async false
set_option linter.all false
set_option maxRecDepth 100000
set_option maxHeartbeats 4000000
namespace MC
open PySem PySem.Spec PyProof.Rows L2
def EndsF (K : PySem.W.Frag) (nm : Nat → Str) (ca : CaT) (D : Ends) (β : List Addr) (τ : L2.St) (H : Hp) : Fl → Prop
  | .nx => D.nx τ H
  | .bk => D.bk τ H
  | .ct => D.ct τ H
  | .rt d => ∀ v, RelD K nm ca β H d v → D.rt v H
/-- an exception of M in the air -/
def WxM (K : PySem.W.Frag) (nm : Nat → Str) (ca : CaT) (β : List Addr) (H : Hp) (x : Ex) (h' : Hs) : WX := fun cls _ _ H' => cls = .ref (ca x.cls) ∧ ∃ β', Stp β H β' H' ∧ RelH K nm ca β' h' H'
def PostS (X : Cx) (nm : Nat → Str) (ca : CaT) (β : List Addr) (H : Hp) (r : R2) (D : Ends) : Prop := match r with
  | .ok q h' => ∀ τ' H' β', Stp β H β' H' → RelS X.K nm ca β' H' q.2 τ' → RelH X.K nm ca β' h' H' → EndsF X.K nm ca D β' τ' H' q.1
  | .ex x h' => Takes X (WxM X.K nm ca β H x h')
  | .no => False
def RS (X : Cx) (nm : Nat → Str) (ca : CaT) (ev : Sg → Hs → R2) : TS := fun D τ H => ∃ σ h β, RelS X.K nm ca β H σ τ ∧ RelH X.K nm ca β h H ∧ PostS X nm ca β H (ev σ h) D
theorem PS.imp {X : Cx} {e : Stmt} {t t' : TS} (h : PS X e t) (i : ∀ D σ H, t' D σ H → t D σ H) : PS X e t' := ⟨fun pins s σ H D I q => h.run pins s σ H D I (i D σ H q)⟩
theorem PSs.imp {X : Cx} {e : List Stmt} {t t' : TS} (h : PSs X e t) (i : ∀ D σ H, t' D σ H → t D σ H) : PSs X e t' := ⟨fun pins s σ H D I q => h.run pins s σ H D I (i D σ H q)⟩
section
variable {X : Cx} {nm : Nat → Str} {ca : CaT} {T : Tab} {cl : Nat → List D → Hs → Res D}
abbrev SS (X : Cx) (nm : Nat → Str) (ca : CaT) (T : Tab) (cl : Nat → List D → Hs → Res D) (e : Stmt) (c : S) : Prop := PS X e (RS X nm ca (evS T cl c))
abbrev SB (X : Cx) (nm : Nat → Str) (ca : CaT) (T : Tab) (cl : Nat → List D → Hs → Res D) (e : List Stmt) (c : B) : Prop := PSs X e (RS X nm ca (evB T cl c))
theorem PostS.bind {α : Type} {β : List Addr} {H : Hp} {r : Res α} {k : α → Hs → R2} {Q : Ends} (p : PostS X nm ca β H (r.bind k) Q) : ∃ a h1, r = .ok a h1 ∧ PostS X nm ca β H (k a h1) Q := by
  cases r with
  | ok a h1 => exact ⟨a, h1, rfl, p⟩
  | ex _ _ => exact p.elim
  | no => exact p.elim
theorem PostS.bindX {α : Type} {β : List Addr} {H : Hp} {r : Res α} {k : α → Hs → R2} {Q : Ends} (p : PostS X nm ca β H (r.bindX k) Q) : (∃ a h1, r = .ok a h1 ∧ PostS X nm ca β H (k a h1) Q) ∨ ∃ x h1, r = .ex x h1 ∧ Takes X (WxM X.K nm ca β H x h1) := by
  cases r with
  | ok a h1 => exact .inl ⟨a, h1, rfl, p⟩
  | ex x h1 => exact .inr ⟨x, h1, rfl, p⟩
  | no => exact p.elim
theorem takes_step {β β1 : List Addr} {H H1 : Hp} {x : Ex} {h' : Hs} (p : Takes X (WxM X.K nm ca β H x h')) (st : Stp β H β1 H1) : Takes X (WxM X.K nm ca β1 H1 x h') := p.imp fun c d σ H' ⟨e, β', s1, r⟩ => ⟨e, β', st.trans s1, r⟩
theorem PostS.step {β β1 : List Addr} {H H1 : Hp} {r : R2} {Q : Ends} (p : PostS X nm ca β H r Q) (st : Stp β H β1 H1) : PostS X nm ca β1 H1 r Q := by
  cases r with
  | ok d h' => exact fun τ' H' β' s1 r1 r2 => p τ' H' β' (st.trans s1) r1 r2
  | ex _ _ => exact takes_step p st
  | no => exact p.elim
/-! ### blocks -/
theorem b_nil : SB X nm ca T cl [] .nil := PSs.imp pss_nil fun D τ H ⟨σ, h, β, rs, rh, p⟩ => p τ H β (Stp.refl _ _) rs rh
theorem b_cons {s : Stmt} {r : List Stmt} {c : S} {k : B} (h1 : SS X nm ca T cl s c) (h2 : SB X nm ca T cl r k) : SB X nm ca T cl (s :: r) (.cons c k) := by
  refine PSs.imp (pss_cons h1 h2) fun D τ H ⟨σ, h, β, rs, rh, p⟩ => ?_
  simp only [evB] at p
  rcases p.bindX with ⟨q, g1, e1, p⟩ | ⟨x, g1, e1, p⟩
  case inr =>
    refine ⟨σ, h, β, rs, rh, ?_⟩
    rw [e1]
    exact p
  refine ⟨σ, h, β, rs, rh, ?_⟩
  rw [e1]
  intro τ1 H1 β1 st1 rs1 rh1
  cases qe : q.1 with
  | nx =>
    rw [qe] at p
    exact ⟨q.2, g1, β1, rs1, rh1, p.step st1⟩
  | bk => rw [qe] at p; exact p τ1 H1 β1 st1 rs1 rh1
  | ct => rw [qe] at p; exact p τ1 H1 β1 st1 rs1 rh1
  | rt d => rw [qe] at p; exact p τ1 H1 β1 st1 rs1 rh1
/-! ### small statements -/
def isComp : Expr → Bool
  | .ListComp .. => true
  | .SetComp .. => true
  | .DictComp .. => true
  | _ => false
theorem swaps_no {e : Expr} {t : Option Expr} {l : Nat} {env : Env} (h : isComp e = false) : swapsWith e t l env = pure false := by
  cases e <;> first | rfl | cases h
theorem st_pass {pos : Pos} : SS X nm ca T cl (.Pass pos) .pass := PS.imp ps_pass fun D τ H ⟨σ, h, β, rs, rh, p⟩ => p τ H β (Stp.refl _ _) rs rh
theorem st_brk {pos : Pos} : SS X nm ca T cl (.Break pos) .brk := PS.imp ps_break fun D τ H ⟨σ, h, β, rs, rh, p⟩ => p τ H β (Stp.refl _ _) rs rh
theorem st_cnt {pos : Pos} : SS X nm ca T cl (.Continue pos) .cnt := PS.imp ps_continue fun D τ H ⟨σ, h, β, rs, rh, p⟩ => p τ H β (Stp.refl _ _) rs rh
theorem st_never {s : Stmt} : SS X nm ca T cl s .never := PS.imp ps_never fun D τ H ⟨σ, h, β, rs, rh, p⟩ => p.elim
theorem st_exp {e : Expr} {c : E} {pos : Pos} (h : SE X nm ca T cl e c) (hs : isComp e = false) : SS X nm ca T cl (.Expr e pos) (.exp c) := by
  refine PS.imp (ps_expr h (swaps_no hs)) fun D τ H ⟨σ, h, β, rs, rh, p⟩ => ?_
  simp only [evS] at p
  obtain ⟨d, h1, e1, p⟩ := p.bind
  exact re1 rs rh e1 fun vx H1 β1 st rs1 rh1 rx => p τ H1 β1 st rs1 rh1
theorem st_ret {e : Expr} {c : E} {pos : Pos} (h : SE X nm ca T cl e c) : SS X nm ca T cl (.Return (some e) pos) (.ret c) := by
  refine PS.imp (ps_ret h) fun D τ H ⟨σ, h, β, rs, rh, p⟩ => ?_
  simp only [evS] at p
  obtain ⟨d, h1, e1, p⟩ := p.bind
  exact re1 rs rh e1 fun vx H1 β1 st rs1 rh1 rx => p τ H1 β1 st rs1 rh1 vx rx
theorem st_retN {pos : Pos} : SS X nm ca T cl (.Return none pos) .retN := PS.imp ps_retN fun D τ H ⟨σ, h, β, rs, rh, p⟩ => p τ H β (Stp.refl _ _) rs rh .non .non
theorem asg_key {g : G} {c : E} {D : Ends} {τ : L2.St} {H : Hp} (q : RS X nm ca (evS T cl (.asg g c)) D τ H) : tAsg (RE X.K nm ca (evE T cl c)) (RG X.K nm ca g.slots (evG T cl g)) D τ H := by
  obtain ⟨σ, h, β, rs, rh, p⟩ := q
  simp only [evS] at p
  obtain ⟨d, h1, e1, p⟩ := p.bind
  obtain ⟨σ2, h2, e2, p⟩ := p.bind
  refine re1 rs rh e1 fun vx H1 β1 st rs1 rh1 rx => ⟨d, σ, h1, β1, rs1, rh1, rx, ?_⟩
  rw [e2]
  exact fun τ' H' β' st' rs' rh' _ => p τ' H' β' (st.trans st') rs' rh'
/-- no pair of names on the left, or no display on the right -/
def noPar : Expr → Expr → Bool
  | .Tuple .., .Tuple .. => false
  | .List .., .Tuple .. => false
  | _, _ => true
theorem stores_no {t e : Expr} {env : Env} (h : noPar t e = true) : swappedStores [t] e env = pure none := by
  unfold swappedStores
  cases t <;> first
    | rfl
    | (cases e <;> first | rfl | cases h)
theorem st_asg {t e : Expr} {c : E} {g : G} {pos : Pos} (he : SE X nm ca T cl e c) (hg : SG X nm ca T cl t g) (hs : isComp e = false) (hw : swappedStores [t] e X.env = pure none) (ht : isSt t = false) : SS X nm ca T cl (.Assign [t] e pos) (.asg g c) :=
  PS.imp (ps_asg he hg (swaps_no hs) hw (by rw [assignEach_plain ht]; rfl)) fun D τ H q => asg_key q
/-- a name that is a cell: a comprehension's value is stored as any other -/
theorem swaps_cell {y : Str} {py : Pos} {e : Expr} {l : Nat} {env : Env} (h : env.scope.names.lookup y = some .cell) : swapsWithSole [.Name y py] e l env = pure false := by
  have k : env.kindOf y = some .cell := h
  have z : (some NameKind.cell == some NameKind.local) = false := by decide
  unfold swapsWithSole swapsWith
  cases e <;> first | rfl | (simp only [k, z, Bool.and_false, Bool.false_and])
theorem st_asgC {y : Str} {py : Pos} {e : Expr} {c : E} {g : G} {pos : Pos} (he : SE X nm ca T cl e c) (hg : SG X nm ca T cl (.Name y py) g) (h : X.env.scope.names.lookup y = some .cell) (hw : swappedStores [.Name y py] e X.env = pure none) : SS X nm ca T cl (.Assign [.Name y py] e pos) (.asg g c) :=
  PS.imp (ps_asg he hg (swaps_cell h) hw rfl) fun D τ H q => asg_key q
/-- name = [..]: stored within the comprehension's frame -/
theorem st_asgLc {y : Str} {e : Expr} {c : E} {i : Nat} {py pos : Pos} (h : PS X (.Assign [.Name y py] e pos) (tAsg (RE X.K nm ca (evE T cl c)) (gName i))) : SS X nm ca T cl (.Assign [.Name y py] e pos) (.asg (.nm i) c) := by
  refine PS.imp h fun D τ H ⟨σ, h, β, rs, rh, p⟩ => ?_
  simp only [evS] at p
  obtain ⟨d, h1, e1, p⟩ := p.bind
  obtain ⟨σ2, h2, e2, p⟩ := p.bind
  simp only [evG] at e2
  cases e2
  exact re1 rs rh e1 fun vx H1 β1 st rs1 rh1 rx => p _ H1 β1 st (rs1.set rx) rh1
/-- a.f = [..] -/
theorem st_asgLcA {o e : Expr} {f : Str} {c : E} {g : G} {pa pos : Pos} (he : SE X nm ca T cl e c) (hg : SG X nm ca T cl (.Attribute o f pa) g) : SS X nm ca T cl (.Assign [.Attribute o f pa] e pos) (.asg g c) :=
  PS.imp (ps_asg he hg (by cases e <;> rfl) (stores_no (by cases e <;> rfl)) rfl) fun D τ H q => asg_key q
theorem st_par {i j : Nat} {x y : Str} {a b : Expr} {c c' : E} {px py pt pt2 pos : Pos} {kt k2 : Nat} (hc : X.calm = true) (hN : X.N.Nodup) (hi : X.N[i]? = some x) (hj : X.N[j]? = some y) (hij : i ≠ j) (hx : X.env.scope.names.lookup x = some .local) (hy : X.env.scope.names.lookup y = some .local) (ha : SE X nm ca T cl a c) (hb : SE X nm ca T cl b c')
    (hs : isSt a = false) (hs2 : isSt b = false) (hw : swappedStores [.Tuple [.Name x px, .Name y py] kt pt] (.Tuple [a, b] k2 pt2) X.env = pure (some [x, y])) : SS X nm ca T cl (.Assign [.Tuple [.Name x px, .Name y py] kt pt] (.Tuple [a, b] k2 pt2) pos) (.par i j c c') := by
  refine PS.imp (ps_par hc hN hi hj hij hx hy (a_cons ha (a_cons hb a_nil hs2) hs) hw rfl) fun D τ H ⟨σ, h, β, rs, rh, p⟩ => ?_
  simp only [evS] at p
  obtain ⟨d, h1, e1, p⟩ := p.bind
  obtain ⟨d2, h2, e2, p⟩ := p.bind
  refine ra1 (x := [d, d2]) (h1 := h2) rs rh (by simp [evA, e1, e2, Res.bind]) fun vxs H1 β1 st rs1 rh1 rx => ?_
  cases rx with
  | cons r1 r2 =>
    obtain ⟨v, rfl, ry⟩ := one_rel r2
    exact ⟨_, _, rfl, p _ H1 β1 st ((rs1.set r1).set ry) rh1⟩
theorem st_aug {i : Nat} {x : Str} {e : Expr} {c : E} {op : Operator} {px pos : Pos} (hN : X.N.Nodup) (hi : X.N[i]? = some x) (hx : Loc X.env.scope x) (hf : X.fn x = true ∨ X.env.scope.names.lookup x = some .local) (he : SE X nm ca T cl e c) : SS X nm ca T cl (.AugAssign (.Name x px) op e pos) (.aug i op c) := by
  have key : ∀ {f : Int → Int → Int}, (∀ (k j : Int), augD op k (.int j) = some (f k j)) → ∀ D τ H, RS X nm ca (evS T cl (.aug i op c)) D τ H → tAug i (RE X.K nm ca (evE T cl c)) (ipI f) D τ H := by
    intro f hf D τ H ⟨σ, h, β, rs, rh, p⟩
    simp only [evS] at p
    cases q : σ[i]? with
    | none => simp only [q] at p; exact p.elim
    | some o =>
      cases o with
      | none => simp only [q] at p; exact p.elim
      | some d =>
        cases d with
        | int k =>
          simp only [q] at p
          obtain ⟨y, h1, e1, p⟩ := p.bind
          obtain ⟨v, t1, t2⟩ := rs.2 i _ q
          cases t2
          refine ⟨_, t1, re1 rs rh e1 fun vx H1 β1 st rs1 rh1 rx => ?_⟩
          cases y with
          | int j =>
            cases rx
            simp only [hf k j] at p
            exact ⟨k, j, rfl, rfl, p _ H1 β1 st (rs1.set (.int _)) rh1⟩
          | _ => cases op <;> exact p.elim
        | _ => simp only [q] at p; exact p.elim
  cases op with
  | Add => exact PS.imp (ps_aug hN hi hx he ip_add hf) (key fun _ _ => rfl)
  | Sub => exact PS.imp (ps_aug hN hi hx he ip_sub hf) (key fun _ _ => rfl)
  | _ =>
    refine ⟨fun pins s σ H D I q => ?_⟩
    exfalso
    obtain ⟨σ, h, β, rs, rh, p⟩ := q
    simp only [evS] at p
    cases q : σ[i]? with
    | none => simp only [q] at p; exact p
    | some o =>
      cases o with
      | none => simp only [q] at p; exact p
      | some d =>
        cases d with
        | int k =>
          simp only [q] at p
          obtain ⟨y, h1, e1, p⟩ := p.bind
          cases y <;> exact p
        | _ => simp only [q] at p; exact p
theorem st_if {t : Expr} {a b : List Stmt} {c : E} {x y : B} {pos : Pos} (ht : ST X nm ca T cl t c) (ha : SB X nm ca T cl a x) (hb : SB X nm ca T cl b y) : SS X nm ca T cl (.If t a b pos) (.ifs c x y) := by
  refine PS.imp (ps_if ht ha hb) fun D τ H ⟨σ, h, β, rs, rh, p⟩ => ?_
  simp only [evS] at p
  obtain ⟨k, h1, e1, p⟩ := p.bind
  refine RT.k rs rh e1 fun H1 β1 st rs1 rh1 => ?_
  cases k with
  | true => rw [if_pos rfl] at p ⊢; exact ⟨σ, h1, β1, rs1, rh1, p.step st⟩
  | false => rw [if_neg (by decide)] at p ⊢; exact ⟨σ, h1, β1, rs1, rh1, p.step st⟩
/-! ### loops -/
theorem st_while {t : Expr} {b : List Stmt} {c : E} {x : B} {pos : Pos} (hp : PassesOwn (model X.prog X.w) X.A X.env X.xe) (ht : ST X nm ca T cl t c) (hb : SB X nm ca T cl b x) : SS X nm ca T cl (.While t b [] pos) (.whl c x) := by
  refine PS.imp (ps_while hp ht hb) fun D τ H ⟨σ, h, β, rs, rh, p⟩ => ?_
  simp only [evS] at p
  refine ⟨fun m τ H => ∃ σ h β, RelS X.K nm ca β H σ τ ∧ RelH X.K nm ca β h H ∧ PostS X nm ca β H (loopW (fun σ h => (evE T cl c σ h).bind tst) (evB T cl x) m σ h) D, ⟨T.fuel, σ, h, β, rs, rh, p⟩, ?_⟩
  rintro m τ1 H1 ⟨σ1, h1, β1, rs1, rh1, p1⟩
  cases m with
  | zero => exact p1.elim
  | succ m =>
    simp only [loopW] at p1
    obtain ⟨k, h2, e2, p1⟩ := p1.bind
    refine RT.k rs1 rh1 e2 fun H2 β2 st rs2 rh2 => ?_
    cases k with
    | false => rw [if_neg (by decide)] at p1 ⊢; exact p1 τ1 H2 β2 st rs2 rh2
    | true =>
      rw [if_pos rfl] at p1 ⊢
      rcases p1.bindX with ⟨q, h3, e3, p1⟩ | ⟨x0, h3, e3, p1⟩
      case inr =>
        refine ⟨fun τ' H' => ∃ σ h β, RelS X.K nm ca β H' σ τ' ∧ RelH X.K nm ca β h H' ∧ PostS X nm ca β H' (loopW (fun σ h => (evE T cl c σ h).bind tst) (evB T cl x) m σ h) D, fun τ' H' z => ⟨m, Nat.lt_succ_self m, z⟩, σ1, h2, β2, rs2, rh2, ?_⟩
        rw [e3]
        exact takes_step p1 st
      refine ⟨fun τ' H' => ∃ σ h β, RelS X.K nm ca β H' σ τ' ∧ RelH X.K nm ca β h H' ∧ PostS X nm ca β H' (loopW (fun σ h => (evE T cl c σ h).bind tst) (evB T cl x) m σ h) D, fun τ' H' z => ⟨m, Nat.lt_succ_self m, z⟩, σ1, h2, β2, rs2, rh2, ?_⟩
      rw [e3]
      intro τ3 H3 β3 st3 rs3 rh3
      cases qe : q.1 with
      | nx => rw [qe] at p1; exact ⟨q.2, h3, β3, rs3, rh3, (p1.step st).step st3⟩
      | ct => rw [qe] at p1; exact ⟨q.2, h3, β3, rs3, rh3, (p1.step st).step st3⟩
      | bk => rw [qe] at p1; exact p1 τ3 H3 β3 (st.trans st3) rs3 rh3
      | rt d => rw [qe] at p1; exact p1 τ3 H3 β3 (st.trans st3) rs3 rh3
theorem st_for {tg iter : Expr} {b : List Stmt} {g : G} {it : I} {x : B} {pos : Pos} (hp : PassesOwn (model X.prog X.w) X.A X.env X.xe) (hc : X.calm = true) (hi : SI X nm ca T cl tg iter it) (hg : SG X nm ca T cl tg g) (hb : SB X nm ca T cl b x) (hs : ∀ x, foldedSetIterable iter X.env x = pure x) : SS X nm ca T cl (.For tg iter b [] pos) (.for_ g it x) := by
  refine PS.imp (ps_for hp hc hi hg hb hs) fun D τ H ⟨σ, h, β, rs, rh, p⟩ => ?_
  simp only [evS] at p
  obtain ⟨s, h1, e1, p⟩ := p.bind
  cases s with
  | live n =>
    cases qo : h1[n]? with
    | none => simp only [qo] at p; exact p.elim
    | some o =>
    cases qi : o.items with
    | none => simp only [qo, qi] at p; exact p.elim
    | some xs =>
    simp only [qo, qi] at p
    refine ⟨σ, h, β, rs, rh, ?_⟩
    rw [e1]
    intro H1 β1 J a o' xs' st rh1 g1 ho hx lv
    rw [qo] at ho; cases ho
    rw [qi] at hx; cases hx
    refine ⟨fun i m τ' H' => ∃ σ' h' β', RelS X.K nm ca β' H' σ' τ' ∧ RelH X.K nm ca β' h' H' ∧ β'[n]? = some a ∧ m = xs.length - i ∧ i ≤ xs.length ∧ PostS X nm ca β' H' (loopFg (grd o n) (evG T cl g) (evB T cl x) (xs.drop i) σ' h') D, ⟨xs.length, σ, h1, β1, rs.mono st, rh1, g1, by simp, Nat.zero_le _, p.step st⟩, ?_⟩
    rintro i m τ' H' ⟨σ', h', β', rs', rh', g', rfl, hle, p'⟩
    by_cases hlt : i < xs.length
    · have hgd : h'[n]? = some o := by
        refine grd_at ?_
        rw [List.drop_eq_getElem_cons hlt] at p'
        simp only [loopFg] at p'
        split at p'
        · assumption
        · exact p'.elim
      refine .inr ⟨lv.goes i β' h' H' hlt rh' hgd g', fun τ2 H2 => ∃ σ2 h2 β2, RelS X.K nm ca β2 H2 σ2 τ2 ∧ RelH X.K nm ca β2 h2 H2 ∧ β2[n]? = some a ∧ PostS X nm ca β2 H2 (loopFg (grd o n) (evG T cl g) (evB T cl x) (xs.drop (i + 1)) σ2 h2) D, ?_, fun v H2 y => ?_⟩
      · rintro τ2 H2 ⟨σ2, h2, β2, a1, a2, a3, a4⟩
        exact ⟨xs.length - (i + 1), by omega, σ2, h2, β2, a1, a2, a3, rfl, hlt, a4⟩
      · obtain ⟨s2, rh2, d, ed, rd⟩ := lv.yields i β' h' H' v H2 hlt rh' hgd g' y
        have edr : xs.drop i = d :: xs.drop (i + 1) := by
          rw [List.drop_eq_getElem_cons hlt]
          rw [List.getElem?_eq_getElem hlt] at ed
          cases ed
          rfl
        rw [edr] at p'
        simp only [loopFg, at_grd hgd, if_true] at p'
        obtain ⟨σ3, h3, e3, p'⟩ := p'.bind
        refine ⟨d, σ', h', β', rs'.mono s2, rh2, rd, ?_⟩
        rw [e3]
        intro τ3 H3 β3 st3 rs3 rh3 _
        refine ⟨σ3, h3, β3, rs3, rh3, ?_⟩
        rcases p'.bindX with ⟨q, h4, e4, p'⟩ | ⟨x0, h4, e4, p'⟩
        case inr => rw [e4]; exact takes_step (takes_step p' s2) st3
        rw [e4]
        intro τ4 H4 β4 st4 rs4 rh4
        have g4 : β4[n]? = some a := st4.get (st3.get g')
        have p4 := ((p'.step s2).step st3).step st4
        cases qe : q.1 with
        | nx => rw [qe] at p4; exact ⟨q.2, h4, β4, rs4, rh4, g4, p4⟩
        | ct => rw [qe] at p4; exact ⟨q.2, h4, β4, rs4, rh4, g4, p4⟩
        | bk => rw [qe] at p4; exact p4 τ4 H4 β4 (Stp.refl _ _) rs4 rh4
        | rt d => rw [qe] at p4; exact p4 τ4 H4 β4 (Stp.refl _ _) rs4 rh4
    · have e : i = xs.length := by omega
      subst e
      rw [List.drop_length] at p'
      have hgd : h'[n]? = some o := by
        refine grd_at ?_
        simp only [loopFg] at p'
        split at p'
        · assumption
        · exact p'.elim
      simp only [loopFg, at_grd hgd, if_true] at p'
      exact .inl ⟨lv.stops β' h' H' rh' hgd g', p' τ' H' β' (Stp.refl _ _) rs' rh'⟩
  | its xs =>
    refine ⟨σ, h, β, rs, rh, ?_⟩
    rw [e1]
    intro H1 β1 J G st rh1 itm g1
    refine ⟨fun i m τ' H' => ∃ σ' h' β', RelS X.K nm ca β' H' σ' τ' ∧ RelH X.K nm ca β' h' H' ∧ G β' H' ∧ m = xs.length - i ∧ i ≤ xs.length ∧ PostS X nm ca β' H' (loopF (evG T cl g) (evB T cl x) (xs.drop i) σ' h') D, ⟨xs.length, σ, h1, β1, rs.mono st, rh1, g1, by simp, Nat.zero_le _, p.step st⟩, ?_⟩
    rintro i m τ' H' ⟨σ', h', β', rs', rh', g', rfl, hle, p'⟩
    by_cases hlt : i < xs.length
    · refine .inr ⟨itm.goes i β' H' hlt g', fun τ2 H2 => ∃ σ2 h2 β2, RelS X.K nm ca β2 H2 σ2 τ2 ∧ RelH X.K nm ca β2 h2 H2 ∧ G β2 H2 ∧ PostS X nm ca β2 H2 (loopF (evG T cl g) (evB T cl x) (xs.drop (i + 1)) σ2 h2) D, ?_, fun v H2 y => ?_⟩
      · rintro τ2 H2 ⟨σ2, h2, β2, a1, a2, a3, a4⟩
        exact ⟨xs.length - (i + 1), by omega, σ2, h2, β2, a1, a2, a3, rfl, hlt, a4⟩
      · obtain ⟨s2, rel2, d, ed, rd⟩ := itm.yields i β' H' v H2 hlt g' y
        have edr : xs.drop i = d :: xs.drop (i + 1) := by
          rw [List.drop_eq_getElem_cons hlt]
          rw [List.getElem?_eq_getElem hlt] at ed
          cases ed
          rfl
        rw [edr] at p'
        simp only [loopF] at p'
        obtain ⟨σ3, h3, e3, p'⟩ := p'.bind
        refine ⟨d, σ', h', β', rs'.mono s2, rel2 h' rh', rd, ?_⟩
        rw [e3]
        intro τ3 H3 β3 st3 rs3 rh3 _
        refine ⟨σ3, h3, β3, rs3, rh3, ?_⟩
        rcases p'.bindX with ⟨q, h4, e4, p'⟩ | ⟨x0, h4, e4, p'⟩
        case inr => rw [e4]; exact takes_step (takes_step p' s2) st3
        rw [e4]
        intro τ4 H4 β4 st4 rs4 rh4
        have g4 : G β4 H4 := itm.mono st4 (itm.mono st3 (itm.mono s2 g'))
        have p4 := ((p'.step s2).step st3).step st4
        cases qe : q.1 with
        | nx => rw [qe] at p4; exact ⟨q.2, h4, β4, rs4, rh4, g4, p4⟩
        | ct => rw [qe] at p4; exact ⟨q.2, h4, β4, rs4, rh4, g4, p4⟩
        | bk => rw [qe] at p4; exact p4 τ4 H4 β4 (Stp.refl _ _) rs4 rh4
        | rt d => rw [qe] at p4; exact p4 τ4 H4 β4 (Stp.refl _ _) rs4 rh4
    · have e : i = xs.length := by omega
      subst e
      rw [List.drop_length] at p'
      exact .inl ⟨itm.stops β' H' g', p' τ' H' β' (Stp.refl _ _) rs' rh'⟩
/-! ### match of a text with written texts -/
inductive SC (X : Cx) (nm : Nat → Str) (ca : CaT) (T : Tab) (cl : Nat → List D → Hs → Res D) : List MatchCase → C → Prop
  | nil : SC X nm ca T cl [] .nil
  | cons {k : Str} {j : Nat} {p1 p2 : Pos} {b : List Stmt} {r : List MatchCase} {cb : B} {cr : C} : SB X nm ca T cl b cb → SC X nm ca T cl r cr → SC X nm ca T cl (⟨.MatchValue (.Constant (.str k) j p1) p2, none, b⟩ :: r) (.cons k cb cr)
theorem mat_run {x : Str} {D : Ends} {u : Value} : ∀ {cs : List MatchCase} {c : C}, SC X nm ca T cl cs c → ∀ {pins : List (Addr × Obj)} {s : Shared} {τ : L2.St} {H : Hp} {σ : Sg} {h : Hs} {β : List Addr} {first : Bool}, Inv X pins τ H s → RelV (.str x) u → RelS X.K nm ca β H σ τ → RelH X.K nm ca β h H → PostS X nm ca β H (evC T cl c x σ h) D →
    wpAny (model X.prog X.w) X.A (matchCases cs X.env u first) (SP X pins D) X.xe s
  | _, _, .nil, pins, s, τ, H, σ, h, β, first, I, ru, rs, rh, p => wpAny_matchCases_nil ⟨τ, H, I, p τ H β (Stp.refl _ _) rs rh⟩
  | _, _, @SC.cons _ _ _ _ _ k j p1 p2 b r cb cr hb hr, pins, s, τ, H, σ, h, β, first, I, ru, rs, rh, p => by
    refine wpAny_matchCases_cons (wpAny_matchPattern_Value (Calls.Constant_str ?_))
    have I1 := I.tok (s.toks + 1)
    refine thn (op_eq pins { s with toks := s.toks + 1 } τ H (.str x) (.str k) u (.str k s.toks) (fun v H' => v = .bl (decide (x = k)) ∧ H' = H) I1 ru ⟨_, rfl⟩ ⟨rfl, by rw [dec_str]; cases hd : decide (x = k) <;> simp_all, rfl⟩) fun cv s2 ⟨v, H', I2, rv, e1, e2⟩ => ?_
    subst e1
    subst e2
    cases rv
    refine wpAny_truthy_bool ?_
    simp only [evC] at p
    by_cases hx : x = k
    · rw [decide_eq_true hx]
      rw [if_pos hx] at p
      simp only [if_true]
      exact wpAny_assignInOrder_none (hb.run pins s2 τ H' D I2 ⟨σ, h, β, rs, rh, p⟩)
    · rw [decide_eq_false hx]
      rw [if_neg hx] at p
      simp only [Bool.false_eq_true, if_false]
      exact mat_run hr I2 ru rs rh p
theorem st_mat {e : Expr} {c : E} {cs : List MatchCase} {k : C} {pos : Pos} (he : SE X nm ca T cl e c) (hc : SC X nm ca T cl cs k) : SS X nm ca T cl (.Match e cs pos) (.mat c k) := by
  refine ⟨fun pins s τ H D I q => ?_⟩
  obtain ⟨σ, h, β, rs, rh, p⟩ := q
  simp only [evS] at p
  obtain ⟨x, h1, e1, p⟩ := p.bind
  cases x with
  | str z =>
    refine wpAny_Match (thn (he.run pins s τ H (fun v H1 => ∃ β1, v = .str z ∧ Stp β H β1 H1 ∧ RelS X.K nm ca β1 H1 σ τ ∧ RelH X.K nm ca β1 h1 H1) I (re1 rs rh e1 fun vx H1 β1 st rs1 rh1 rx => by cases rx; exact ⟨β1, rfl, st, rs1, rh1⟩)) fun u s1 ⟨v, H1, I1, rv, β1, ev, st, rs1, rh1⟩ => ?_)
    subst ev
    exact mat_run hc I1 rv rs1 rh1 (p.step st)
  | _ => exact p.elim
end
end MC

set_option Elab.async false
set_option linter.all false
set_option maxRecDepth 100000
set_option maxHeartbeats 4000000
namespace MC
open PySem PySem.Spec PyProof.Rows L2
/-! ### enumerate of a tuple -/
open AutoSeq1 (wpAny_loadPart') in
theorem meets_enumerate_newT (l : Addr) (items : Array Value) (n : Nat) (dct : Option Addr) (sl : Array (Option Value)) :
    Meets (Builtin.«enumerate.__new__» ⟨[.type "enumerate", .ref l], []⟩) (fun _ R s => s.heap.get? l = some { cls := .type "tuple", dict := dct, data := .seq items n, slots := sl } ∧
      R (.ok (.ret (.ref (s.heap.push { cls := .type "tuple_iterator", data := .fields #[.ref l, .int 0 0] }).objs.size)))
        { s with heap := (s.heap.push { cls := .type "tuple_iterator", data := .fields #[.ref l, .int 0 0] }).push { cls := .type "enumerate", data := .fields #[.none, .bool false, .ref s.heap.objs.size, rawInt 0, .none, .none] } }) :=
  .of_wp fun prog w A R s h => by
    obtain ⟨hp, g, d, tk, os⟩ := s; obtain ⟨hl, h⟩ := h
    have hsub := sub_enumerate
    have hL : Heap.IsTuple (Shared.heap ⟨hp, g, d, tk, os⟩) l items := ⟨_, hl, rfl, n, rfl⟩
    wp_walk using wpAny_loadPart' hl
    refine wpAny_stack_any fun st => wpAny_pure ?_
    split
    · rename_i c _ _ _ _ _
      cases (c == Value.type "enumerate")
      · wp_walk using wpAny_loadPart' hl, wpAny_pyIter_tuple hL
        exact ⟨_, rfl, h⟩
      · wp_walk using wpAny_loadPart' hl, wpAny_pyIter_tuple hL
        exact ⟨_, rfl, h⟩
    · wp_walk using wpAny_loadPart' hl, wpAny_pyIter_tuple hL
      exact ⟨_, rfl, h⟩
theorem call_enumerate_tuple {prog : Program} {w : World} {A : Around} {E : Value → Shared → Prop} {s : Shared} {l : Addr} {items : Array Value} {Q : Value → Shared → Prop} (hL : s.heap.IsTuple l items)
    (h : ∀ h', IsEnum h' (s.heap.objs.size + 1) s.heap.objs.size 0 .none → h'.IsTupleIter s.heap.objs.size l 0 → h'.objs.size = s.heap.objs.size + 2 →
      (∀ b o, s.heap.get? b = some o → h'.get? b = some o) → Q (.ref (s.heap.objs.size + 1)) { s with heap := h' }) :
    wpAny (model prog w) A (call (.type "enumerate") [.ref l]) Q E s := by
  obtain ⟨⟨c, dct, dt, sl⟩, hl, hc, n, hd⟩ := hL
  replace hc : c = .type "tuple" := hc
  replace hd : dt = .seq items n := hd
  subst hc hd
  refine callType_new F.called_enumerate (by decide) (F.typeCall_enumerate_1 _) (F.newCall_enumerate_1 _) (fun obj => F.args_object_init_2 obj _) F.entry_enumerate_new
    (meets_enumerate_newT l items n dct sl) ⟨hl, ?_⟩
  have hz : (s.heap.push { cls := .type "tuple_iterator", data := .fields #[.ref l, .int 0 0] }).objs.size = s.heap.objs.size + 1 := Heap.size_push ..
  show _ ∧ _
  rw [hz]
  have he : IsEnum ((s.heap.push { cls := .type "tuple_iterator", data := .fields #[.ref l, .int 0 0] }).push
      { cls := .type "enumerate", data := .fields #[.none, .bool false, .ref s.heap.objs.size, rawInt 0, .none, .none] }) (s.heap.objs.size + 1) s.heap.objs.size 0 .none := by
    have := Heap.get?_push_size (s.heap.push { cls := .type "tuple_iterator", data := .fields #[.ref l, .int 0 0] })
      (o := { cls := .type "enumerate", data := .fields #[.none, .bool false, .ref s.heap.objs.size, rawInt 0, .none, .none] }) rfl
    rw [hz] at this; exact this
  refine ⟨⟨_, he, rfl⟩, h _ he ⟨_, Heap.get?_push_of_some _ (Heap.get?_push_size _ rfl), rfl, rfl⟩ (by rw [Heap.size_push, hz]) fun b o x => Heap.get?_push_of_some _ (Heap.get?_push_of_some _ x)⟩
def IteT (K : PySem.W.Frag) (a : Addr) : It :=
  ⟨fun i H => ∃ (xs : List V) (x : V), SqT K H a xs ∧ xs[i]? = some x, fun i H v H' => ∃ T x, v = .ref T ∧ H T = none ∧ H' = upd H T (.tup [.int (i : Nat), x]) ∧ ∀ xs, SqT K H a xs → xs[i]? = some x, fun i H => ∃ xs : List V, SqT K H a xs ∧ xs.length = i⟩
theorem turn_enumT {P : Program} {w : World} {K : PySem.W.Frag} {elts : List Expr} {kk : Nat} {tpos : Pos} (a e it : Addr) (hai : a ≠ it) (hae : a ≠ e) :
    Turn P w K (.Tuple elts kk tpos) (IteT K a) [e, it] e (fun i h => (∃ old, IsEnum h e it ((i : Nat) : Int) old) ∧ h.IsTupleIter it a i ∧ e ≠ it) where
  mem := by simp
  obj := fun i h st b hb => by
    obtain ⟨⟨old, he⟩, ⟨o, ho, hc, hd⟩, _⟩ := st
    have e' : b = e ∨ b = it := by simpa using hb
    rcases e' with z | z
    · rw [z]; exact ⟨_, he, fun v q => nomatch q⟩
    · rw [z]; exact ⟨o, ho, fun v q => by rw [hd] at q; cases q⟩
  keep := fun i h h' st k => let ⟨⟨old, he⟩, hi, hne⟩ := st; ⟨⟨old, k e (by simp) _ he⟩, hi.at fun o q => k it (by simp) o q, hne⟩
  item := by
    intro X hP hw hK hc i pins s σ H E I hf st hg
    subst hP hw hK
    obtain ⟨⟨old, he⟩, hit, hne⟩ := st
    obtain ⟨xs, x, hq, hx⟩ := hg
    obtain ⟨its, rv, p, hz⟩ := I.tuple hq
    obtain ⟨u, hu, ru⟩ := rv.get hx
    have hel : e < s.heap.objs.size := Heap.lt_size he
    have hil : it < s.heap.objs.size := by obtain ⟨_, q, _⟩ := hit; exact Heap.lt_size q
    have hn : i < its.toArray.size := by
      have := (List.getElem?_eq_some_iff.mp hu).1
      simpa using this
    have DD := Draws.tuple (prog := X.prog) (w := X.w) (A := X.A.in1) (I.ok.hd hc) it a hai its.toArray
    refine wpAny_pyNext_enum_itemD DD he ⟨hit, p⟩ hn hne (by simp [hne, Ne.symm hae]) fun v h' tk pv ho hst hT hsz hk => ?_
    have ev : v = u := by
      have : its.toArray[i]? = some u := by simpa using hu
      rw [this] at pv
      exact (Option.some.inj pv).symm
    subst ev
    refine ⟨_, rfl, wpAny_letOwnedTupleGo_enum (s := { s with heap := h', toks := tk + 1 }) ho fun h'' he' sb => ?_⟩
    have hT2 : h''.get? s.heap.objs.size = some { cls := .type "tuple", data := .seq #[.int i tk, v] } := (sb.2 _ (Nat.ne_of_gt hel)).trans hT
    have new : ObjOk X.prog X.w (upd H s.heap.objs.size (.tup [.int (i : Nat), x])) h'' s.heap.objs.size (.tup [.int (i : Nat), x]) :=
      ⟨by show 2 ≤ sizeLine; decide, [.int i tk, v], .cons ⟨_, rfl⟩ (.cons ru .nil), ⟨_, hT2, rfl, _, rfl⟩⟩
    have I1 : Inv X pins σ (upd H s.heap.objs.size (.tup [.int (i : Nat), x])) { s with heap := h'', toks := tk + 1 } :=
      I.turnedNew (ch := [e, it]) (fun b ob hb q => (sb.2 b (fun z => hb (by simp [z]))).trans (hk b ob (fun z => hb (by simp [z])) (fun z => hb (by simp [z])) q)) hf (Nat.le_refl _) new
    refine ⟨.ref s.heap.objs.size, _, I1, rfl, ⟨_, x, rfl, I.hok.fresh (Nat.le_refl _), rfl, fun ys hy => by rw [I.tuple_inj hy hq]; exact hx⟩, ⟨⟨v, ?_⟩, hst.1.at fun o q => (sb.2 it (Ne.symm hne)).trans q, hne⟩, fun b hb => ?_⟩
    · have e1 : ((i + 1 : Nat) : Int) = (i : Int) + 1 := by omega
      rw [e1]; exact he'
    · have hb' : b < s.heap.objs.size := by
        have e' : b = e ∨ b = it := by simpa using hb
        rcases e' with z | z
        · rw [z]; exact hel
        · rw [z]; exact hil
      rw [upd_ne (Nat.ne_of_lt hb')]
      exact (hf b hb).1
  done := by
    intro X hP hw hK hc i pins s σ H E I hf st hg
    subst hP hw hK
    obtain ⟨⟨old, he⟩, hit, hne⟩ := st
    obtain ⟨xs, hq, hx⟩ := hg
    obtain ⟨its, rv, p, hz⟩ := I.tuple hq
    obtain ⟨f0, f1, f2, f3, f4, f5⟩ := hf it (by simp)
    have hl := rv.length
    have DD := Draws.tuple (prog := X.prog) (w := X.w) (A := X.A.in1) (I.ok.hd hc) it a hai its.toArray
    have hn : its.toArray.size = i := by simp; omega
    refine wpAny_pyNext_enum_endD DD he (by rw [hn]; exact ⟨hit, p⟩) fun h' eb => ⟨rfl, I.turned (t' := s.toks) (fun b o hb q => eb b o hb q) f0 f1 f3 f4 f5⟩
  self := fun A i s Q E st h => let ⟨⟨_, he⟩, _⟩ := st; wpAny_pyIter_enum he h
def iEnumA (K : PySem.W.Frag) (ta : TA) : TI := fun σ H R => ta σ H fun vs H1 => ∃ a xs, vs = [.ref a] ∧ ((SqL K H1 a xs ∧ R (Ite K a) H1) ∨ (SqT K H1 a xs ∧ R (IteT K a) H1))
theorem pi_enumA {X : Cx} {e : Expr} {ta : TA} {p pos tpos : Pos} {elts : List Expr} {kk : Nat} (hg : Gl X "enumerate") (hm : X.mg "enumerate" = none) (ha : PA X [e] ta) (hs : starEach [e] X.env = [(false, eval e X.env)]) :
    PI X (.Tuple elts kk tpos) (.Call (.Name "enumerate" p) [e] [] pos) (iEnumA X.K ta) := by
  refine ⟨fun pins s σ H R I h => ?_⟩
  refine Call_ (ld_blt I hg hm boot_enumerate (PyProof.Rows.callWith_type1 (thn (ha.run pos pins s σ H _ I h) fun us s1 ⟨vs, H1, I1, r1, q1⟩ => ?_) hs rfl))
  obtain ⟨a, xs, ex, q⟩ := q1
  subst ex
  cases r1 with
  | cons r rr =>
    cases rr
    cases r
    have fr : ∀ b, b ∈ [s1.heap.objs.size + 1, s1.heap.objs.size] → FpOk X pins H1 b := fun b hb => by
      have e' : b = s1.heap.objs.size + 1 ∨ b = s1.heap.objs.size := by simpa using hb
      have hle : s1.heap.objs.size ≤ b := by
        rcases e' with z | z
        · rw [z]; exact Nat.le_add_right _ _
        · rw [z]; exact Nat.le_refl _
      exact I1.fpOk hle (I1.hok.fresh hle)
    rcases q with ⟨hq, q⟩ | ⟨hq, q⟩
    · obtain ⟨its, rv, p', hz⟩ := I1.list hq
      refine call_enumerate_list p'.isList fun h' he hit hsz hk => wpAny_pyIter_enum he ?_
      have I2 : Inv X pins σ H1 { s1 with heap := h' } := I1.kept (t' := s1.toks) hk
      exact ⟨s1.heap.objs.size + 1, [s1.heap.objs.size + 1, s1.heap.objs.size], _, _, H1, rfl, I2, turn_enum a (s1.heap.objs.size + 1) s1.heap.objs.size, ⟨⟨.none, he⟩, hit, Nat.succ_ne_self _⟩, fr, q⟩
    · obtain ⟨its, rv, p', hz⟩ := I1.tuple hq
      have hlt : a < s1.heap.objs.size := by obtain ⟨o, ho, _⟩ := id p'; exact Heap.lt_size ho
      refine call_enumerate_tuple (show s1.heap.IsTuple a its.toArray from p') fun h' he hit hsz hk => wpAny_pyIter_enum he ?_
      have I2 : Inv X pins σ H1 { s1 with heap := h' } := I1.kept (t' := s1.toks) hk
      exact ⟨s1.heap.objs.size + 1, [s1.heap.objs.size + 1, s1.heap.objs.size], _, _, H1, rfl, I2, turn_enumT a (s1.heap.objs.size + 1) s1.heap.objs.size (Nat.ne_of_lt hlt) (Nat.ne_of_lt (Nat.lt_succ_of_lt hlt)), ⟨⟨.none, he⟩, hit, Nat.succ_ne_self _⟩, fr, q⟩
section
variable {X : Cx} {nm : Nat → Str} {ca : CaT} {T : Tab} {cl : Nat → List D → Hs → Res D} {tg : Expr}
theorem numbered_len : ∀ (xs : List D) (k : Nat), (numbered k xs).length = xs.length
  | [], _ => rfl
  | x :: xs, k => by simp [numbered, numbered_len xs]
theorem numbered_get : ∀ (xs : List D) (k i : Nat) (h : i < xs.length), (numbered k xs)[i]? = some (.tup [.int ((k + i : Nat) : Int), xs[i]])
  | x :: xs, k, 0, _ => by simp [numbered]
  | x :: xs, k, i + 1, h => by
    have h' : i < xs.length := by simpa using h
    simp only [numbered, List.getElem?_cons_succ, numbered_get xs (k + 1) i h', List.getElem_cons_succ]
    congr 4
    omega
theorem itm_enumT {K : PySem.W.Frag} {a : Addr} {xs : List D} {vs : List V} (hl : xs.length = vs.length) : Itm K nm ca (IteT K a) (numbered 0 xs) (fun β H => SqT K H a vs ∧ RelL K nm ca β H xs vs) where
  mono := fun st g => ⟨st.sqT g.1, g.2.mono st⟩
  goes := fun i β H hi g => by
    rw [numbered_len] at hi
    exact ⟨vs, vs[i]'(by omega), g.1, by simp [show i < vs.length by omega]⟩
  stops := fun β H g => ⟨vs, g.1, by rw [numbered_len]; omega⟩
  yields := fun i β H v H' hi g y => by
    rw [numbered_len] at hi
    obtain ⟨t, x, rfl, nt, rfl, q⟩ := y
    have e := q vs g.1
    obtain ⟨w, f1, r1⟩ := g.2.get (i := i) (x := xs[i]) (by simp [hi])
    rw [e] at f1
    cases f1
    refine ⟨Stp.laid nt, fun h r => r.laid nt, .tup [.int ((0 + i : Nat) : Int), xs[i]], numbered_get xs 0 i hi, ?_⟩
    rw [Nat.zero_add]
    exact new_tup nt (.cons (.int _) (.cons r1 .nil))
theorem itm_enumL {K : PySem.W.Frag} {a : Addr} {xs : List D} {vs : List V} (hl : xs.length = vs.length) : Itm K nm ca (Ite K a) (numbered 0 xs) (fun β H => LsT K β H a vs ∧ RelL K nm ca β H xs vs) where
  mono := fun st g => ⟨st.rd g.1, g.2.mono st⟩
  goes := fun i β H hi g => by
    rw [numbered_len] at hi
    exact ⟨vs, vs[i]'(by omega), g.1.sq, by simp [show i < vs.length by omega]⟩
  stops := fun β H g => ⟨vs, g.1.sq, by rw [numbered_len]; omega⟩
  yields := fun i β H v H' hi g y => by
    rw [numbered_len] at hi
    obtain ⟨t, x, rfl, nt, rfl, q⟩ := y
    have e := q vs g.1.sq
    obtain ⟨w, f1, r1⟩ := g.2.get (i := i) (x := xs[i]) (by simp [hi])
    rw [e] at f1
    cases f1
    refine ⟨Stp.laid nt, fun h r => r.laid nt, .tup [.int ((0 + i : Nat) : Int), xs[i]], numbered_get xs 0 i hi, ?_⟩
    rw [Nat.zero_add]
    exact new_tup nt (.cons (.int _) (.cons r1 .nil))
theorem i_enum {a : Expr} {c : E} {elts : List Expr} {kk : Nat} {tpos p pos : Pos} (hg : Gl X "enumerate") (hm : X.mg "enumerate" = none) (ha : SE X nm ca T cl a c) (hs : isSt a = false) : SI X nm ca T cl (.Tuple elts kk tpos) (.Call (.Name "enumerate" p) [a] [] pos) (.enum c) := by
  refine PI.imp (pi_enumA hg hm (a_cons ha a_nil hs) (by rw [starEach_plain hs]; rfl)) fun τ H R ⟨σ, h, β, rs, rh, p⟩ => ?_
  simp only [evI] at p
  obtain ⟨x, h1, e1, p⟩ := p.bind
  refine ra1 (x := [x]) (h1 := h1) rs rh (by simp [evA, e1, Res.bind]) fun vxs H1 β1 st rs1 rh1 rx => ?_
  obtain ⟨v, rfl, ry⟩ := one_rel rx
  cases x with
  | tup xs =>
    obtain ⟨a, vs, rfl, k1, k2⟩ := ry.tup_inv
    exact ⟨a, vs, rfl, .inr ⟨k1, p H1 β1 _ _ st rh1 (itm_enumT k2.length) ⟨k1, k2⟩⟩⟩
  | lst xs =>
    obtain ⟨a, vs, rfl, k1, k2⟩ := ry.lst_inv
    exact ⟨a, vs, rfl, .inl ⟨k1.sq, p H1 β1 _ _ st rh1 (itm_enumL k2.length) ⟨k1, k2⟩⟩⟩
  | _ => exact p.elim
theorem i_rng3 {a b k : Expr} {c c' c'' : E} {p pos : Pos} (hg : Gl X "range") (hm : X.mg "range" = none) (ha : SE X nm ca T cl a c) (hb : SE X nm ca T cl b c') (hk : SE X nm ca T cl k c'') (hs : isSt a = false) (hs2 : isSt b = false) (hs3 : isSt k = false) : SI X nm ca T cl tg (.Call (.Name "range" p) [a, b, k] [] pos) (.rng3 c c' c'') := by
  refine PI.imp (pi_range3 hg hm (a_cons ha (a_cons hb (a_cons hk a_nil hs3) hs2) hs) (starEach_plain hs) (noStar (by simp [hs2, hs3]))) fun τ H R ⟨σ, h, β, rs, rh, p⟩ => ?_
  simp only [evI] at p
  obtain ⟨x, h1, e1, p⟩ := p.bind
  obtain ⟨y, h2, e2, p⟩ := p.bind
  obtain ⟨z, h3, e3, p⟩ := p.bind
  refine ra1 (x := [x, y, z]) (h1 := h3) rs rh (by simp [evA, e1, e2, e3, Res.bind]) fun vxs H1 β1 st rs1 rh1 rx => ?_
  cases rx with
  | cons r1 r2 =>
    cases r2 with
    | cons r2 r3 =>
      obtain ⟨v, rfl, r4⟩ := one_rel r3
      cases x with
      | int i =>
        cases y with
        | int j =>
          cases z with
          | int kk =>
            simp only at p
            split at p
            · rename_i hb
              simp only [Bool.and_eq_true, decide_eq_true_eq] at hb
              obtain ⟨⟨⟨b1, b2⟩, b3⟩, b4⟩ := hb
              cases r1; cases r2; cases r4
              exact ⟨i, j, kk, _, rfl, ⟨b1, b2, b3, (Int.toNat_of_nonneg b4).symm⟩, p H1 β1 _ _ st rh1 itm_rngC trivial⟩
            · exact p.elim
          | _ => exact p.elim
        | _ => cases z <;> exact p.elim
      | _ => cases y <;> cases z <;> exact p.elim
/-! ### isinstance -/
inductive TK where
  | non | bl | int | str | lst | tup | own (c : Nat)
def tkV (ca : Nat → Addr) : TK → Value
  | .non => .type "NoneType" | .bl => .type "bool" | .int => .type "int" | .str => .type "str" | .lst => .type "list" | .tup => .type "tuple" | .own c => .ref (ca c)
def tyU (ca : Nat → Addr) : Ty → Value
  | .int => .type "int" | .bool => .type "bool" | .str => .type "str" | .tuple => .type "tuple" | .list => .type "list" | .own c => .ref (ca c)
def tkIs : TK → Ty → Bool
  | .bl, .int => true | .bl, .bool => true | .int, .int => true | .str, .str => true | .lst, .list => true | .tup, .tuple => true | .own c, .own e => c == e | _, _ => false
def tkOk (cok : Nat → Bool) : TK → Bool
  | .own c => cok c
  | _ => true
structure KitF (X : Cx) (ca : CaT) (cok : Nat → Bool) : Prop where
  kit : ∀ (t : TK) (ty : Ty), tkOk cok t = true → tyIn cok ty = true → PySem.W.kitOne X.K (tkV ca t) (tyU ca ty) = some (tkIs t ty)
  cls : ∀ c, cok c = true → Cls X.K (ca c) ∧ PySem.W.findIn X.K (.ref (ca c)) "__class__" = some (some (.builtin "object.__class__")) ∧ PySem.W.specialIn X.K (.builtin "object.__class__") "__get__" = some (some (.builtin "getset_descriptor.__get__")) ∧ PySem.W.takesIn X.K (.builtin "object.__class__") = some true ∧ PySem.W.mroIn X.K (ca c) (.type "object") = some true
theorem ty_rel {cok : Nat → Bool} {β : List Addr} {H : Hp} {h : Hs} {x : D} {v : V} (KF : KitF X ca cok) (rh : RelH X.K nm ca β h H) (r : RelD X.K nm ca β H x v) (e : tyOk cok h x = true) : ∃ t, tkOk cok t = true ∧ TyX X.K H v (tkV ca t) ∧ ∀ ty, isTy h x ty = tkIs t ty := by
  have hins : ∀ {a dx c gs}, H a = some (.ins (ca c) dx gs) → cok c = true → TyX X.K H (.ref a) (tkV ca (.own c)) := fun {a dx c gs} ha hc => by
    obtain ⟨c1, c2, c3, c4, c5⟩ := KF.cls c hc
    exact .base (.ins ha c1 c2 c3 c4 c5)
  cases x with
  | non => cases r; exact ⟨.non, rfl, .base .non, fun ty => by cases ty <;> rfl⟩
  | bl b => cases r; exact ⟨.bl, rfl, .base (.bl b), fun ty => by cases ty <;> rfl⟩
  | int i => cases r; exact ⟨.int, rfl, .base (.int i), fun ty => by cases ty <;> rfl⟩
  | str z => cases r; exact ⟨.str, rfl, .base (.str z), fun ty => by cases ty <;> rfl⟩
  | tup xs =>
    obtain ⟨a, vs, rfl, k1, k2⟩ := r.tup_inv
    refine ⟨.tup, rfl, ?_, fun ty => by cases ty <;> rfl⟩
    rcases k1 with (k1 | ⟨o, k1⟩) | ⟨o, its, n, k1, k3, _⟩
    · exact .base (.tup k1)
    · exact .fTuple k1
    · exact .kTuple k1 k3
  | lst xs =>
    obtain ⟨a, vs, rfl, k1, k2⟩ := r.lst_inv
    refine ⟨.lst, rfl, ?_, fun ty => by cases ty <;> rfl⟩
    rcases k1 with ⟨k1 | ⟨o, k1⟩, _⟩ | ⟨o, its, n, k1, k3, _⟩
    · exact .base (.lst k1)
    · exact .base (.frz k1)
    · exact .kList k1 k3
  | ins c fs =>
    cases r with
    | ins h1 h2 h3 => exact ⟨.own c, e, hins h1 e, fun ty => by cases ty <;> rfl⟩
  | ref n =>
    obtain ⟨a, rfl, hβ⟩ := r.ref_inv
    cases q : h[n]? with
    | none => simp [tyOk, q] at e
    | some o =>
      cases o with
      | lst xs =>
        obtain ⟨vs, j1, j2⟩ := rh.obj n _ a q hβ
        exact ⟨.lst, rfl, .base (.lst j1), fun ty => by cases ty <;> simp [isTy, q, tkIs]⟩
      | ins c fs =>
        obtain ⟨dx, gs, j1, j2⟩ := rh.obj n _ a q hβ
        simp only [tyOk, q] at e
        exact ⟨.own c, e, hins j1 e, fun ty => by cases ty <;> simp [isTy, q, tkIs]⟩
      | dct _ => simp [tyOk, q] at e
      | lkd _ => simp [tyOk, q] at e
  | dct _ => simp [tyOk] at e
/-- a class's name as a value -/
def TyE (X : Cx) (ca : CaT) (e : Expr) (t : Ty) : Prop := ∃ cv, PE X e (tC cv) ∧ ClsV cv (tyU ca t)
theorem kitAny_all {K : PySem.W.Frag} {cok : Nat → Bool} {t : TK} (hk : ∀ ty, tyIn cok ty = true → PySem.W.kitOne K (tkV ca t) (tyU ca ty) = some (tkIs t ty)) : ∀ (ts : List Ty), ts.all (tyIn cok) = true → PySem.W.kitAny K (tkV ca t) (ts.map (tyU ca)) = some (ts.any (tkIs t))
  | [], _ => kitAny_nil
  | ty :: ts, h => by
    simp only [List.all_cons, Bool.and_eq_true] at h
    have ih := kitAny_all hk ts h.2
    refine kitAny_cons (hk ty h.1) (fun hb => ?_) (fun hb => ?_)
    · rw [List.any_cons, hb, Bool.false_or]; exact ih
    · rw [List.any_cons, hb, Bool.true_or]
theorem s_isi1 {a te : Expr} {c : E} {t : Ty} {p pos : Pos} (KF : KitF X ca T.cok) (hg : Gl X "isinstance") (hm : X.mg "isinstance" = none) (ha : SE X nm ca T cl a c) (ht : TyE X ca te t) (hs : isSt a = false) (hs2 : isSt te = false) : SE X nm ca T cl (.Call (.Name "isinstance" p) [a, te] [] pos) (.isi c [t]) := by
  obtain ⟨cv, h1, h2⟩ := ht
  refine PE.imp (pe_callB call_isi hg hm PyProof.Rows.boot_isinstance (pa_cons ha (pa_cons h1 pa_nil (starEach_plain hs2)) (starEach_plain hs)) (by decide) (by decide) (starEach_plain hs) (noStar (by simp [hs2]))) fun τ H Q ⟨σ, h, β, rs, rh, q⟩ => ?_
  simp only [evE] at q
  obtain ⟨x, h1, e1, q⟩ := q.bind
  split at q
  · rename_i hc
    rw [Bool.and_eq_true] at hc
    refine re1 rs rh e1 fun vx H1 β1 st rs1 rh1 rx => ?_
    obtain ⟨tk, k1, k2, k3⟩ := ty_rel KF rh1 rx hc.1
    refine ⟨vx, cv, tkV ca tk, tyU ca t, tkIs tk t, rfl, h2, k2, KF.kit tk t k1 (by simpa using hc.2), ?_⟩
    have : ([t].any (isTy h1 x)) = tkIs tk t := by simp [k3 t]
    rw [this] at q
    exact PostE.here (q.step st) rh1 (.bl _)
  · exact q.elim
inductive TyEs (X : Cx) (ca : CaT) : List Expr → List Ty → Prop
  | nil : TyEs X ca [] []
  | cons {e : Expr} {t : Ty} {es : List Expr} {ts : List Ty} : TyE X ca e t → isSt e = false → TyEs X ca es ts → TyEs X ca (e :: es) (t :: ts)
theorem tyEs_pa : ∀ {es : List Expr} {ts : List Ty}, TyEs X ca es ts → ∃ cvs, PA X es (fun _ H Q => Q cvs H) ∧ Paired ClsV cvs (ts.map (tyU ca)) ∧ es.length = cvs.length
  | _, _, .nil => ⟨[], PA.imp pa_nil fun _ _ _ q => q, .nil, rfl⟩
  | _, _, .cons ⟨cv, h1, h2⟩ hs r => by
    obtain ⟨cvs, k1, k2, k3⟩ := tyEs_pa r
    exact ⟨cv :: cvs, PA.imp (pa_cons h1 k1 (starEach_plain hs)) fun _ _ _ q => q, .cons h2 k2, by simp [k3]⟩
theorem s_isiT {a : Expr} {es : List Expr} {c : E} {ts : List Ty} {k : Nat} {p pt pos : Pos} (KF : KitF X ca T.cok) (hg : Gl X "isinstance") (hm : X.mg "isinstance" = none) (ha : SE X nm ca T cl a c) (ht : TyEs X ca es ts) (hs : isSt a = false) (hl : es.length ≤ 100) : SE X nm ca T cl (.Call (.Name "isinstance" p) [a, .Tuple es k pt] [] pos) (.isi c ts) := by
  obtain ⟨cvs, h1, h2, h3⟩ := tyEs_pa ht
  refine PE.imp (pe_callB call_isiT hg hm PyProof.Rows.boot_isinstance (pa_cons ha (pa_cons (pe_tup h1) pa_nil rfl) (starEach_plain hs)) (by decide) (by decide) (starEach_plain hs) rfl) fun τ H Q ⟨σ, h, β, rs, rh, q⟩ => ?_
  simp only [evE] at q
  obtain ⟨x, h1, e1, q⟩ := q.bind
  split at q
  · rename_i hc
    rw [Bool.and_eq_true] at hc
    refine re1 rs rh e1 fun vx H1 β1 st rs1 rh1 rx => ?_
    refine ⟨by rw [← h3, sizeLine_eq]; omega, fun tp ntp => ?_⟩
    obtain ⟨tk, k1, k2, k3⟩ := ty_rel KF (rh1.laid ntp) (rx.mono (Stp.laid ntp)) hc.1
    refine ⟨vx, tp, cvs, tkV ca tk, ts.map (tyU ca), ts.any (tkIs tk), rfl, upd_same, h2, k2, kitAny_all (fun ty hty => KF.kit tk ty k1 hty) ts hc.2, ?_⟩
    have : ts.any (isTy h1 x) = ts.any (tkIs tk) := by congr 1; funext ty; exact k3 ty
    rw [this] at q
    exact q _ _ _ (st.trans (Stp.laid ntp)) (rh1.laid ntp) (.bl _)
  · exact q.elim
end
end MC

set_option Elab.async false
set_option linter.all false
set_option maxRecDepth 100000
set_option maxHeartbeats 4000000
namespace MC
open PySem PySem.Spec PyProof.Rows L2
/-! ### own len, own == -/
def LenF (X : Cx) (nm : Nat → Str) (ca : CaT) (n : Nat) (cf : List D → Hs → Res D) (c : Nat) : Prop := ∃ g, PySem.W.findIn X.K (.ref (ca c)) "__len__" = some (some (.ref g)) ∧ PySem.W.isFn X.K (.ref g) = true ∧ FnF X nm ca n cf g
def EqF (X : Cx) (nm : Nat → Str) (ca : CaT) (n : Nat) (cf : List D → Hs → Res D) (c : Nat) : Prop := PySem.W.notFirst X.K (ca c) (.ref (ca c)) = true ∧ ∃ g, PySem.W.findIn X.K (.ref (ca c)) "__eq__" = some (some (.ref g)) ∧ PySem.W.isFn X.K (.ref g) = true ∧ FnF X nm ca n cf g
/-- len(x) by an own __len__ -/
def rLenOwn (X : Cx) (n : Nat) : List V → Hp → VK → Prop := fun xs H Q => ∃ a dx fs C g fd ps sp, xs = [V.ref a] ∧ H a = some (.ins C dx fs) ∧ PySem.W.findIn X.K (.ref C) "__len__" = some (some (.ref g)) ∧ PySem.W.isFn X.K (.ref g) = true ∧ Binds X.K fd ps [] ∧ FnOk X.prog X.w X.K X.mg X.base (CXm X.prog X.w) n g fd ps sp ∧
  sp [.ref a] H (fun z H' => ∃ i : Int, z = .int i ∧ 0 ≤ i ∧ i < 2 ^ 62 ∧ Q (.int i) H') E0
theorem call_lenOwn {X : Cx} {n : Nat} (hr : Room (n + 1) X.A) : CallR X (.builtin "len") (rLenOwn X n) := by
  intro pins s σ H xs us Q I r h
  obtain ⟨a, dx, fs, C, g, fd, ps, sp, rfl, ea, hs, hf, hb, F, q⟩ := h
  obtain ⟨u, rfl, ru⟩ := r.one
  cases (show u = Value.ref a from ru)
  obtain ⟨mA, O, _, _, _, _⟩ := ins_get I.hok ea
  obtain ⟨od, J, _⟩ := O.look
  obtain ⟨m, hF⟩ := I.fr
  have hl : ([Value.ref a] ++ ([] : List Value)).length = ps.length := by
    rw [← F.len _ _ _ _ q]; rfl
  refine PySem.W.len_K hF I.ok.mod.kin J hs hf (wpAny_call (codeAny_mono (F.run X.A.in1 X.stack s H ⟨[.ref a], []⟩ [.ref a] [.ref a] _ E0 hr.in1 I.env0.in1 (hb _ [.ref a] I.kIn hl) (.cons rfl .nil) q) fun r s' hq => ?_))
  cases r with
  | error er => exact False.elim ((passM (X := X.nox)) pins σ H s er s' (I.wish _) hq)
  | ok fl =>
    cases fl with
    | ret u =>
      obtain ⟨v, H', I3, rv, i, rfl, h0, h1, q3⟩ := I.after hq
      obtain ⟨t, e⟩ := (show ∃ t, u = Value.int i t from rv)
      subst e
      exact ⟨⟨h0, by omega⟩, .int i, H', I3.tok _, ⟨_, rfl⟩, q3⟩
    | next => exact False.elim hq
    | brk => exact False.elim hq
    | cont => exact False.elim hq
theorem cmpbackM {P : Value → Shared → Prop} {z : V} {v : Value} {s' : Shared} (r : RelV z v) (h : P v s') : PySem.W.CmpBack P v s' := by
  cases z with
  | non => cases (show v = Value.none from r); exact h
  | bl b => cases (show v = Value.bool b from r); exact h
  | int i =>
    obtain ⟨t, e⟩ := (show ∃ t, v = Value.int i t from r)
    cases e
    exact h
  | str x =>
    obtain ⟨t, e⟩ := (show ∃ t, v = Value.str x t from r)
    cases e
    exact h
  | byt b =>
    obtain ⟨t, e⟩ := (show ∃ t, v = Value.bytes b t from r)
    cases e
    exact h
  | flt b =>
    obtain ⟨t, e⟩ := (show ∃ t, v = Value.float b t from r)
    cases e
    exact h
  | ref a => cases (show v = Value.ref a from r); exact h
  | ty n => cases (show v = Value.type n from r); exact h
def rEqOwn (X : Cx) (n : Nat) : L2.R2 := fun x y H Q => ∃ a dx fs C b dy gs g fd ps sp, x = V.ref a ∧ y = V.ref b ∧ H a = some (.ins C dx fs) ∧ H b = some (.ins C dy gs) ∧ PySem.W.notFirst X.K C (.ref C) = true ∧ PySem.W.findIn X.K (.ref C) "__eq__" = some (some (.ref g)) ∧ PySem.W.isFn X.K (.ref g) = true ∧ Binds X.K fd ps [] ∧ FnOk X.prog X.w X.K X.mg X.base (CXm X.prog X.w) n g fd ps sp ∧ sp [.ref a, .ref b] H Q E0
theorem op_eqOwn {X : Cx} {n : Nat} (hr : Room n X.A) : OpR X (compareOp .Eq) (rEqOwn X n) := by
  intro pins s σ H x y v u Q I rx ry h
  obtain ⟨a, dx, fs, C, b, dy, gs, g, fd, ps, sp, rfl, rfl, ea, eb, hn, hs, hf, hb, F, q⟩ := h
  cases (show v = Value.ref a from rx)
  cases (show u = Value.ref b from ry)
  obtain ⟨mA, O, _, _, _, _⟩ := ins_get I.hok ea
  obtain ⟨od, J, _⟩ := O.look
  obtain ⟨mB, O', _, _, _, _⟩ := ins_get I.hok eb
  obtain ⟨od', J', _⟩ := O'.look
  obtain ⟨m, hF⟩ := I.fr
  show wpAny _ _ (richCompare .Eq _ _) _ _ _
  refine PySem.W.cmp_K (op := .Eq) (tb := .ref C) hr.units0 hF I.ok.mod.kin J J'.type hn hs hf ?_
  refine wpAny_mono (run_fn (us := [.ref a, .ref b]) (vs := [.ref a, .ref b]) F hr hb .nil passM I (.cons rfl (.cons rfl .nil)) q) (fun w s' z => ?_) fun _ _ x => x
  obtain ⟨z', H', I', rz, qz⟩ := z
  exact cmpbackM rz ⟨z', H', I', rz, qz⟩
section
variable {X : Cx} {nm : Nat → Str} {ca : CaT} {T : Tab} {cl : Nat → List D → Hs → Res D}
theorem s_iln {a : Expr} {c : E} {n : Nat} {p pos : Pos} (hm : ∀ c f, T.meth c T.len = some f → LenF X nm ca n (cl f) c) (hr : Room (n + 1) X.A) (hg : Gl X "len") (hmg : X.mg "len" = none) (ha : SE X nm ca T cl a c) (hs : isSt a = false) : SE X nm ca T cl (.Call (.Name "len" p) [a] [] pos) (.iln c) := by
  refine PE.imp (pe_callB (call_lenOwn hr) hg hmg PySem.boot_len (a_cons ha a_nil hs) (by decide) (by decide) (starEach_plain hs) rfl) fun τ H Q ⟨σ, h, β, rs, rh, p⟩ => ?_
  simp only [evE] at p
  obtain ⟨x, h1, e1, p⟩ := p.bind
  refine ra1 (x := [x]) (h1 := h1) rs rh (by simp [evA, e1, Res.bind]) fun vxs H1 β1 st rs1 rh1 rx => ?_
  obtain ⟨v, rfl, ry⟩ := one_rel rx
  cases q : x.fields h1 with
  | none => simp only [q] at p; exact p.elim
  | some cf =>
    obtain ⟨ci, fs⟩ := cf
    simp only [q] at p
    cases q3 : T.meth ci T.len with
    | none => simp only [q3] at p; exact p.elim
    | some f =>
      simp only [q3] at p
      obtain ⟨g, f1, f2, fd, ps, hbn, F⟩ := hm ci f q3
      obtain ⟨a1, dx, gs, rfl, k1, k2⟩ := fields_rel rh1 ry q
      refine ⟨a1, dx, gs, ca ci, g, fd, ps, _, rfl, k1, f1, f2, hbn, F, [x], h1, β1, .cons ry .nil, rh1, ?_⟩
      obtain ⟨d, h5, e5, p⟩ := p.bind
      rw [e5]
      intro w H5 β5 st5 rh5 rd5
      cases d with
      | int i =>
        simp only at p
        split at p
        · rename_i hi
          simp only [Bool.and_eq_true, decide_eq_true_eq] at hi
          cases rd5
          exact ⟨i, rfl, hi.1, hi.2, p _ _ _ (st.trans st5) rh5 (.int i)⟩
        · exact p.elim
      | _ => exact p.elim
theorem eq_own {n : Nat} {β : List Addr} {H : Hp} {h : Hs} {x y : D} {vx vy : V} {Q : VK} (hm : ∀ c f, T.meth c T.eq = some f → EqF X nm ca n (cl f) c) (rh : RelH X.K nm ca β h H) (rx : RelD X.K nm ca β H x vx) (ry : RelD X.K nm ca β H y vy)
    (p : PostE X.K nm ca β H (match x.fields h, y.fields h with
    | some (c, _), some (e, _) => if c = e then match T.meth c T.eq with
      | some f => (cl f [x, y] h).bind fun d h => (match d with
        | .bl b => .ok (.bl b) h
        | _ => .no)
      | none => .no else .no
    | _, _ => .no) Q) : rEqOwn X n vx vy H (fun z H' => (∃ b, z = .bl b) ∧ Q z H') := by
  cases q : x.fields h with
  | none => simp only [q] at p; exact p.elim
  | some cf =>
    obtain ⟨ci, fs⟩ := cf
    cases q2 : y.fields h with
    | none => simp only [q, q2] at p; exact p.elim
    | some cf2 =>
      obtain ⟨ce, gs⟩ := cf2
      simp only [q, q2] at p
      split at p
      · rename_i hc
        subst hc
        cases q3 : T.meth ci T.eq with
        | none => simp only [q3] at p; exact p.elim
        | some f =>
          simp only [q3] at p
          obtain ⟨f0, g, f1, f2, fd, ps, hbn, F⟩ := hm ci f q3
          obtain ⟨a1, dx, ga, rfl, k1, k2⟩ := fields_rel rh rx q
          obtain ⟨b1, dy, gb, rfl, k3, k4⟩ := fields_rel rh ry q2
          refine ⟨a1, dx, ga, ca ci, b1, dy, gb, g, fd, ps, _, rfl, rfl, k1, k3, f0, f1, f2, hbn, F, [x, y], h, β, .cons rx (.cons ry .nil), rh, ?_⟩
          obtain ⟨d, h5, e5, p⟩ := p.bind
          rw [e5]
          intro w H5 β5 st5 rh5 rd5
          cases d with
          | bl i =>
            cases rd5
            exact ⟨⟨i, rfl⟩, p _ _ _ st5 rh5 (.bl i)⟩
          | _ => exact p.elim
      · exact p.elim
/-- a test by a value that is a bool -/
theorem rt_re {K : PySem.W.Frag} {ev : Sg → Hs → Res D} {τ : L2.St} {H : Hp} {Q : Bool → Hp → Prop} (hb : ∀ σ h d h', ev σ h = .ok d h' → ∃ k, d = .bl k) (q : RT K nm ca (fun σ h => (ev σ h).bind tst) τ H Q) : RE K nm ca ev τ H fun z H' => ∃ k, z = .bl k ∧ Q k H' := by
  obtain ⟨σ, h, β, rs, rh, p⟩ := q
  refine ⟨σ, h, β, rs, rh, ?_⟩
  obtain ⟨d, h1, e1, p⟩ := p.bind
  obtain ⟨k, rfl⟩ := hb σ h d h1 e1
  rw [e1]
  intro v H' β' st rh' rd
  cases rd
  exact ⟨k, rfl, p H' β' st rh'⟩
theorem op_eqB {n : Nat} (hr : Room n X.A) : OpR X (compareOp .Eq) (fun x y H Q => rEqOwn X n x y H (fun z H' => (∃ b, z = .bl b) ∧ Q z H')) := fun pins s σ H x y v u Q I rx ry h => wpAny_mono (op_eqOwn hr pins s σ H x y v u _ I rx ry h) (fun _ _ ⟨z, H', I', r, _, q⟩ => ⟨z, H', I', r, q⟩) fun _ _ e => e
theorem ieq_imp {c c' : E} {n : Nat} (hm : ∀ c f, T.meth c T.eq = some f → EqF X nm ca n (cl f) c) : ∀ τ H Q, RE X.K nm ca (evE T cl (.ieq c c')) τ H Q → tOp (fun x y H Q => rEqOwn X n x y H (fun z H' => (∃ b, z = .bl b) ∧ Q z H')) (RE X.K nm ca (evE T cl c)) (RE X.K nm ca (evE T cl c')) τ H Q := by
  intro τ H Q ⟨σ, h, β, rs, rh, p⟩
  simp only [evE] at p
  obtain ⟨x, h1, e1, p⟩ := p.bind
  obtain ⟨y, h2, e2, p⟩ := p.bind
  exact re2 rs rh e1 e2 fun vx vy H2 β2 st rs2 rh2 rx ry => eq_own hm rh2 rx ry (p.step st)
theorem s_ieq {a b : Expr} {c c' : E} {n : Nat} {pos : Pos} (hm : ∀ c f, T.meth c T.eq = some f → EqF X nm ca n (cl f) c) (hr : Room n X.A) (ha : SE X nm ca T cl a c) (hb : SE X nm ca T cl b c') (hs : isSetE b = false) : SE X nm ca T cl (.Compare a [.Eq] [b] pos) (.ieq c c') :=
  PE.imp (pe_cmpR (op_eqB hr) ha hb (nomarkS hs)) (ieq_imp hm)
theorem ieq_bl {c c' : E} (σ : Sg) (h : Hs) (d : D) (h' : Hs) (e : evE T cl (.ieq c c') σ h = .ok d h') : ∃ k, d = .bl k := by
  simp only [evE] at e
  cases q1 : evE T cl c σ h with
  | ok x h1 =>
    rw [q1] at e
    simp only [Res.bind] at e
    cases q2 : evE T cl c' σ h1 with
    | ok y h2 =>
      rw [q2] at e
      simp only at e
      split at e
      · split at e
        · split at e
          · split at e
            · split at e
              · cases e; exact ⟨_, rfl⟩
              · cases e
            · cases e
            · cases e
          · cases e
        · cases e
      · cases e
    | ex _ _ => rw [q2] at e; cases e
    | no => rw [q2] at e; cases e
  | ex _ _ => rw [q1] at e; cases e
  | no => rw [q1] at e; cases e
theorem t_ieq {a b : Expr} {c c' : E} {n : Nat} {pos : Pos} (hm : ∀ c f, T.meth c T.eq = some f → EqF X nm ca n (cl f) c) (hr : Room n X.A) (ha : SE X nm ca T cl a c) (hb : SE X nm ca T cl b c') (hs : isSetE b = false) : ST X nm ca T cl (.Compare a [.Eq] [b] pos) (.ieq c c') :=
  PT.imp (pt_cmpR (op_eqB hr) ha hb (nomarkS hs)) fun τ H Q q => ieq_imp hm _ _ _ (rt_re ieq_bl q)
/-! ### chains -/
theorem chn_imp {ka kb kc : E} {o1 o2 : CmpOp} {r r' : L2.R2} (ok : ∀ (β : List Addr) (H : Hp) (h : Hs) (x y d : D) (vx vy : V) (Q : VK), (o1 = .Is ∨ o1 = .IsNot → y = .non) → RelH X.K nm ca β h H → RelD X.K nm ca β H x vx → RelD X.K nm ca β H y vy → opCmp h o1 x y = some d → PostE X.K nm ca β H (.ok d h) Q → r vx vy H Q)
    (ok' : ∀ (β : List Addr) (H : Hp) (h : Hs) (x y d : D) (vx vy : V) (Q : VK), (o2 = .Is ∨ o2 = .IsNot → y = .non) → RelH X.K nm ca β h H → RelD X.K nm ca β H x vx → RelD X.K nm ca β H y vy → opCmp h o2 x y = some d → PostE X.K nm ca β H (.ok d h) Q → r' vx vy H Q)
    (h1 : o1 ≠ .Is ∧ o1 ≠ .IsNot) (h2 : o2 ≠ .Is ∧ o2 ≠ .IsNot) : ∀ τ H Q, RE X.K nm ca (evE T cl (.chn o1 o2 ka kb kc)) τ H Q → tChain r r' (RE X.K nm ca (evE T cl ka)) (RE X.K nm ca (evE T cl kb)) (RE X.K nm ca (evE T cl kc)) τ H Q := by
  intro τ H Q ⟨σ, h, β, rs, rh, p⟩
  simp only [evE] at p
  obtain ⟨x, g1, e1, p⟩ := p.bind
  obtain ⟨y, g2, e2, p⟩ := p.bind
  cases q : opCmp g2 o1 x y with
  | none => simp only [q] at p; exact p.elim
  | some d =>
    obtain ⟨k, rfl⟩ := opCmp_bl q
    refine re2 rs rh e1 e2 fun vx vy H2 β2 st rs2 rh2 rx ry => ok β2 H2 g2 x y (.bl k) vx vy _ (fun z => (z.elim h1.1 h1.2).elim) rh2 rx ry q ?_
    intro v H3 β3 st3 rh3 rd
    cases rd
    refine ⟨k, rfl, ?_⟩
    cases k with
    | true =>
      rw [if_pos rfl]
      simp only [q] at p
      obtain ⟨z, g3, e3, p⟩ := p.bind
      obtain ⟨d, e4, p⟩ := p.of
      refine re1 (rs2.mono st3) rh3 e3 fun vz H4 β4 st4 rs4 rh4 rz => ?_
      exact ok' β4 H4 g3 y z d vy vz Q (fun z => (z.elim h2.1 h2.2).elim) rh4 ((ry.mono st3).mono st4) rz e4 (((p.step st).step st3).step st4)
    | false =>
      rw [if_neg (by decide)]
      simp only [q] at p
      exact PostE.here ((p.step st).step st3) rh3 (.bl _)
theorem chn_bl {ka kb kc : E} {o1 o2 : CmpOp} (σ : Sg) (h : Hs) (d : D) (h' : Hs) (e : evE T cl (.chn o1 o2 ka kb kc) σ h = .ok d h') : ∃ k, d = .bl k := by
  simp only [evE] at e
  cases q1 : evE T cl ka σ h with
  | ok x h1 =>
    rw [q1] at e
    simp only [Res.bind] at e
    cases q2 : evE T cl kb σ h1 with
    | ok y h2 =>
      rw [q2] at e
      simp only at e
      split at e
      · cases q3 : evE T cl kc σ h2 with
        | ok z h3 =>
          rw [q3] at e
          simp only at e
          cases q4 : opCmp h3 o2 y z with
          | none => rw [q4] at e; cases e
          | some d' =>
            rw [q4] at e
            cases e
            exact opCmp_bl q4
        | ex _ _ => rw [q3] at e; cases e
        | no => rw [q3] at e; cases e
      · cases e; exact ⟨_, rfl⟩
      · cases e
    | ex _ _ => rw [q2] at e; cases e
    | no => rw [q2] at e; cases e
  | ex _ _ => rw [q1] at e; cases e
  | no => rw [q1] at e; cases e
theorem lastOk {o1 o2 : CmpOp} {b c : Expr} (hs : isSetE c = false) : lastMarks [o1, o2] [b, c] = false := by
  have : lastMarks [o1, o2] [b, c] = behindInMarks o2 c := by simp [lastMarks]
  rw [this]
  exact nomarkS hs
theorem s_chn' {a b c : Expr} {ka kb kc : E} {o1 o2 : CmpOp} {pos : Pos} (hu : X.A.units + 65 < cLine) (ha : SE X nm ca T cl a ka) (hb : SE X nm ca T cl b kb) (hc : SE X nm ca T cl c kc) (hs2 : isSetE c = false)
    (h1 : o1 ≠ .Is ∧ o1 ≠ .IsNot) (h2 : o2 ≠ .Is ∧ o2 ≠ .IsNot) : SE X nm ca T cl (.Compare a [o1, o2] [b, c] pos) (.chn o1 o2 ka kb kc) := by
  obtain ⟨r, o, ok⟩ := cmp_use (X := X) (nm := nm) (ca := ca) (hu := hu) (op := o1)
  obtain ⟨r', o', ok'⟩ := cmp_use (X := X) (nm := nm) (ca := ca) (hu := hu) (op := o2)
  exact PE.imp (pe_chain o o' ha hb hc (lastOk hs2)) (chn_imp ok ok' h1 h2)
theorem t_chn {a b c : Expr} {ka kb kc : E} {o1 o2 : CmpOp} {pos : Pos} (hu : X.A.units + 65 < cLine) (ha : SE X nm ca T cl a ka) (hb : SE X nm ca T cl b kb) (hc : SE X nm ca T cl c kc) (hs2 : isSetE c = false)
    (h1 : o1 ≠ .Is ∧ o1 ≠ .IsNot) (h2 : o2 ≠ .Is ∧ o2 ≠ .IsNot) : ST X nm ca T cl (.Compare a [o1, o2] [b, c] pos) (.chn o1 o2 ka kb kc) := by
  obtain ⟨r, o, ok⟩ := cmp_use (X := X) (nm := nm) (ca := ca) (hu := hu) (op := o1)
  obtain ⟨r', o', ok'⟩ := cmp_use (X := X) (nm := nm) (ca := ca) (hu := hu) (op := o2)
  exact PT.imp (pt_chain o o' ha hb hc (lastOk hs2)) fun τ H Q q => chn_imp ok ok' h1 h2 _ _ _ (rt_re chn_bl q)
/-! ### a dict of pairs, looked into at once -/
theorem kvsS_inv {y : D} {xs : List D} {kvs : List (Str × D)} (e : kvsS (y :: xs) = some kvs) : ∃ k w ks, y = .tup [.str k, w] ∧ kvsS xs = some ks ∧ kvs = (k, w) :: ks := by
  unfold kvsS at e
  split at e
  · rename_i h1; cases h1
  · rename_i h1
    cases q : kvsS xs with
    | none => cases h1; rw [q] at e; cases e
    | some ks0 => cases h1; rw [q] at e; cases e; exact ⟨_, _, _, rfl, rfl, rfl⟩
  · cases e
theorem kvs_rel {K : PySem.W.Frag} {β : List Addr} {H : Hp} : ∀ {xs : List D} {vs : List V} {kvs : List (Str × D)}, RelL K nm ca β H xs vs → kvsS xs = some kvs → ∃ (ps : List Addr) (ks : List (Key × V)), vs = ps.map V.ref ∧ Paired (fun p kv => SqT K H p [kV kv.1, kv.2]) ps ks ∧ ∀ (x : Str) (o : Option D) (acc : List (Key × V)) (d : D), (∀ d, o = some d → ∃ v, valV acc (.inr x) = some v ∧ RelD K nm ca β H d v) → lookS x kvs o = some d → ∃ v, valV (mergeK acc ks) (.inr x) = some v ∧ RelD K nm ca β H d v
  | _, _, _, .nil, e => by
    cases e
    exact ⟨[], [], rfl, .nil, fun x o acc d h e => h d e⟩
  | y :: xs, v :: vs, kvs, .cons r t, e => by
    obtain ⟨k, w, ks0, rfl, q, rfl⟩ := kvsS_inv e
    obtain ⟨ps, ks, e1, e2, e3⟩ := kvs_rel t q
    obtain ⟨a, us, rfl, k1, k2⟩ := r.tup_inv
    cases k2 with
    | cons r1 r2 =>
      obtain ⟨z, rfl, r3⟩ := one_rel r2
      cases r1
      refine ⟨a :: ps, (.inr k, z) :: ks, by rw [e1]; rfl, .cons k1 e2, fun x o acc d h e => ?_⟩
      unfold lookS at e
      refine e3 x (if x = k then some w else o) (putK acc (.inr k) z) d (fun d' he => ?_) e
      rw [valV_put]
      by_cases hx : x = k
      · subst hx
        rw [if_pos rfl] at he ⊢
        cases he
        exact ⟨z, rfl, r3⟩
      · rw [if_neg hx] at he
        rw [if_neg (fun q => hx (Sum.inr.inj q))]
        exact h d' he
theorem noSl {b : Expr} (h : isSl b = false) : NoSl b := by
  intro o i
  cases b <;> first | rfl | cases h
theorem s_dpl {es : List Expr} {k : Expr} {c : A} {c' : E} {p lp cp pos : Pos} (hcalm : X.calm = true) (hu : X.A.units + 64 < cLine) (hg : Gl X "dict") (hm : X.mg "dict" = none) (hA : SA X nm ca T cl es c) (hk : SE X nm ca T cl k c') (hs : isSl k = false) : SE X nm ca T cl (.Subscript (.Call (.Name "dict" p) [.List es lp] [] cp) k pos) (.dpl c c') := by
  refine PE.imp (pe_dget (by omega) (pe_callTy (call_dictP hcalm) hg hm (by decide +kernel) (pa_cons (pe_lst hA) pa_nil (starEach_plain rfl)) (by decide) (by decide) (starEach_plain rfl) rfl) hk (noSl hs)) fun τ H Q ⟨σ, h, β, rs, rh, q⟩ => ?_
  simp only [evE] at q
  obtain ⟨xs, h1, e1, q⟩ := q.bind
  split at q
  · rename_i hz
    cases q2 : kvsS xs with
    | none => simp only [q2] at q; exact q.elim
    | some kvs =>
      simp only [q2] at q
      obtain ⟨y, h2, e2, q⟩ := q.bind
      refine ra1 rs rh e1 fun vxs H1 β1 st rs1 rh1 rx => ⟨by rw [← rx.length]; exact hz, fun lq hlq => ?_⟩
      have rx' := rx.mono (Stp.laid (o := .lst vxs) hlq)
      obtain ⟨ps, ks, rfl, f2, f3⟩ := kvs_rel rx' q2
      refine ⟨lq, ps, ks, rfl, SqL.of upd_same, f2, fun dp hdp => ?_⟩
      have st2 : Stp β1 H1 β1 (upd (upd H1 lq (.lst (ps.map V.ref))) dp (.dK (mergeK [] ks))) := (Stp.laid hlq).trans (Stp.laid hdp)
      refine re1 (rs1.mono st2) ((rh1.laid hlq).laid hdp) e2 fun vy H3 β3 st3 rs3 rh3 ry => ?_
      cases y with
      | str x =>
        cases ry
        obtain ⟨d, e3, q⟩ := q.of
        obtain ⟨v, g1, g2⟩ := f3 x none [] d (fun d' z => nomatch z) e3
        have hd3 : H3 dp = some (.dK (mergeK [] ks)) := st3.oth dp _ upd_same ((rh1.laid (o := .lst (ps.map V.ref)) hlq).notin hdp) fun _ z => nomatch z
        refine ⟨dp, v, rfl, ?_, ?_⟩
        · rw [← g1]; exact DGet.k (k := .inr x) hd3
        · exact PostE.here (((q.step st).step st2).step st3) rh3 ((g2.mono (Stp.laid hdp)).mono st3)
      | _ => exact q.elim
  · exact q.elim
end
end MC

set_option Elab.async false
set_option linter.all false
set_option maxRecDepth 100000
set_option maxHeartbeats 4000000
namespace MC
open PySem PySem.Spec PyProof.Rows L2
/-! ### dicts whose keys are tuples -/
section
variable {X : Cx} {nm : Nat → Str} {ca : CaT} {pins : List (Addr × Obj)} {σ : L2.St} {β : List Addr} {H : Hp} {s : Shared}
mutual
theorem nest_of (I : L2.Inv X pins σ H s) : ∀ {d : D} {v : V} {k : NestedKey} {u : Value}, RelD X.K nm ca β H d v → d.key = some k → RelV v u → NestedIs s.heap k u
  | _, _, _, _, .non, e, r => by cases e; cases r; exact .none
  | _, _, _, _, .bl _, e, r => by cases e; cases r; exact .bool rfl
  | _, _, _, _, .int _, e, r => by cases e; obtain ⟨t, rfl⟩ := r; exact .int _ _
  | _, _, _, _, .str _, e, r => by cases e; obtain ⟨t, rfl⟩ := r; exact .text _ _
  | _, _, _, _, .tup h l, e, r => by
    cases r
    simp only [D.key, Option.map_eq_some_iff] at e
    obtain ⟨ks, e1, rfl⟩ := e
    obtain ⟨its, rv, ⟨o, h1, h2, n, h3⟩, _⟩ := I.tuple h
    exact .tup h1 h2 h3 (by simpa using nests_of I l e1 rv)
  | _, _, _, _, .lst _ _, e, _ => by simp [D.key] at e
  | _, _, _, _, .ins _ _ _, e, _ => by simp [D.key] at e
  | _, _, _, _, .dct _ _ _, e, _ => by simp [D.key] at e
  | _, _, _, _, .ref _, e, _ => by simp [D.key] at e
theorem nests_of (I : L2.Inv X pins σ H s) : ∀ {ds : List D} {vs : List V} {ks : List NestedKey} {us : List Value}, RelL X.K nm ca β H ds vs → D.keys ds = some ks → Vals vs us → NestedAll s.heap ks us
  | _, _, _, _, .nil, e, r => by cases e; cases r; exact .nil
  | _, _, _, _, .cons h t, e, r => by
    cases r with
    | cons r1 r2 =>
      simp only [D.keys] at e
      split at e
      · rename_i e1 e2
        cases e
        exact .cons (nest_of I h e1 r1) (nests_of I t e2 r2)
      · cases e
end
theorem key_is (I : L2.Inv X pins σ H s) {d : D} {a : Addr} {k : NestedKey} (r : RelD X.K nm ca β H d (.ref a)) (e : d.tkey = some k) : (nestedKind X.prog X.w).is s.heap k a := by
  obtain ⟨e1, e2, _⟩ := tkey_key e
  exact ⟨nest_of I r e1 rfl, e2⟩
/-- entries as they lie -/
abbrev Lies (xs : List (NestedKey × Addr × V)) (ys : List (NestedKey × Addr × Value)) : Prop := Paired (fun (p : NestedKey × Addr × V) (q : NestedKey × Addr × Value) => p.1 = q.1 ∧ p.2.1 = q.2.1 ∧ RelV p.2.2 q.2.2) xs ys
theorem RelK.is (I : L2.Inv X pins σ H s) : ∀ {kvs : List (D × D)} {xs : List (NestedKey × Addr × V)} {ys : List (NestedKey × Addr × Value)}, RelK X.K nm ca β H kvs xs → Lies xs ys → ∀ y ∈ ys, (nestedKind X.prog X.w).is s.heap y.1 y.2.1
  | _, _, _, .nil, r, y, hy => by cases r; cases hy
  | _, _, _, .cons e h1 h2 t, r, y, hy => by
    cases r with
    | cons r1 r2 =>
      rcases List.mem_cons.mp hy with rfl | hy
      · rw [← r1.1, ← r1.2.1]
        exact key_is I h1 e
      · exact RelK.is I t r2 y hy
theorem dn_at (I : L2.Inv X pins σ H s) {a : Addr} {ob : Obj} {kvs : List (D × D)} {xs : List (NestedKey × Addr × V)} (e : DN X.prog X.w H a ob xs) (r : RelK X.K nm ca β H kvs xs) : s.heap.get? a = some ob ∧ xs.length ≤ sizeLine ∧ (a == sysModules) = false ∧ ∃ ys, Lies xs ys ∧ (∃ es ep, ob.ExactDict ∧ ob.data = .dict es ep ∧ es.toList = ys.map (entryOfKey (nestedKind X.prog X.w))) ∧ s.heap.DictOfH (nestedKind X.prog X.w) a ys := by
  have key : ObjOk X.prog X.w H s.heap a (dN X.prog X.w a ob xs) := by
    rcases e with e | e
    · exact I.hok a _ e
    · exact (I.hok a _ e).2
  obtain ⟨⟨h1, z, hd, ys, l, es, ep, h2, h3, h4, h5⟩, _, _⟩ := key
  exact ⟨h1, z, hd, ys, l, ⟨es, ep, h2, h3, h4⟩, ob, es, ep, h1, h2, h3, h4, RelK.is I r l, h5⟩
theorem dn_ok {P : Program} {w : World} {H' : Hp} {h' : Heap} {a : Addr} {xs : List (NestedKey × Addr × V)} {ys : List (NestedKey × Addr × Value)} (z : xs.length ≤ sizeLine) (hd : (a == sysModules) = false) (l : Lies xs ys) (dd : h'.DictOfH (nestedKind P w) a ys) : ∃ ob, ObjOk P w H' h' a (dN P w a ob xs) := by
  obtain ⟨o, es, ep, h1, h2, h3, h4, _, h5⟩ := dd
  refine ⟨o, ⟨h1, z, hd, ys, l, es, ep, h2, h3, h4, h5⟩, ⟨o, h1⟩, ?_⟩
  rintro g1 g2 ⟨e1, z, hd, ys, l, es, ep, h2, h3, h4, h5⟩ k
  exact ⟨k o e1, z, hd, ys, l, es, ep, h2, h3, h4, h5⟩
/-- a look-up -/
theorem get_rel : ∀ {kvs : List (D × D)} {xs : List (NestedKey × Addr × V)} {ys : List (NestedKey × Addr × Value)}, RelK X.K nm ca β H kvs xs → Lies xs ys → ∀ k, (∀ d, getK k kvs = some d → ∃ v p, atKey ys k = some p ∧ RelD X.K nm ca β H d v ∧ RelV v p.2) ∧ (getK k kvs = none → atKey ys k = none)
  | _, _, _, .nil, r, k => by cases r; exact ⟨(fun d e => by cases e), fun _ => rfl⟩
  | _, _, _, .cons (d := d0) (e := e0) (k := k0) e h1 h2 t, r, k => by
    cases r with
    | @cons p q ps qs r1 r2 =>
      obtain ⟨i1, i2⟩ := get_rel t r2 k
      obtain ⟨j1, j2, j3⟩ := r1
      simp only at j1 j2 j3
      have ek := (tkey_key e).1
      by_cases hk : k0 = k
      · subst hk
        refine ⟨fun d z => ?_, fun z => ?_⟩
        · simp only [getK, ek, if_true, Option.some.injEq] at z
          subst z
          refine ⟨_, q.2, ?_, h2, j3⟩
          simp [atKey, ← j1]
        · simp only [getK, ek, if_true] at z
          cases z
      · have hn : ¬ (d0.key = some k) := by rw [ek]; intro z; exact hk (Option.some.inj z)
        have hq : ¬ (q.1 = k) := by rw [← j1]; exact hk
        have ea : atKey (q :: qs) k = atKey qs k := by simp [atKey, List.find?_cons, hq]
        refine ⟨fun d z => ?_, fun z => ?_⟩
        · simp only [getK, if_neg hn] at z
          rw [ea]
          exact i1 d z
        · simp only [getK, if_neg hn] at z
          rw [ea]
          exact i2 z
theorem has_rel {kvs : List (D × D)} {xs : List (NestedKey × Addr × V)} {ys : List (NestedKey × Addr × Value)} (r : RelK X.K nm ca β H kvs xs) (l : Lies xs ys) (k : NestedKey) : (atKey ys k).isSome = hasK k kvs := by
  obtain ⟨i1, i2⟩ := get_rel r l k
  unfold hasK
  cases q : getK k kvs with
  | none => rw [i2 q]; rfl
  | some d => obtain ⟨v, p, e, _, _⟩ := i1 d q; rw [e]; rfl
theorem repl_rel {k : NestedKey} {e1 : D} {v1 : V} {u1 : Value} (q1 : RelD X.K nm ca β H e1 v1) (rv : RelV v1 u1) : ∀ {kvs : List (D × D)} {xs : List (NestedKey × Addr × V)} {ys : List (NestedKey × Addr × Value)}, RelK X.K nm ca β H kvs xs → Lies xs ys → ∃ xs', RelK X.K nm ca β H (replK k e1 kvs) xs' ∧ Lies xs' (ys.map (putAt k u1)) ∧ xs'.length = xs.length
  | _, _, _, .nil, r => by cases r; exact ⟨[], .nil, .nil, rfl⟩
  | _, _, _, .cons (d := d0) (e := e0) (k := k0) (a := a0) (v := v0) e h1 h2 t, r => by
    cases r with
    | @cons p q ps qs r1 r2 =>
      obtain ⟨xs', i1, i2, i3⟩ := repl_rel (k := k) q1 rv t r2
      obtain ⟨j1, j2, j3⟩ := r1
      simp only at j1 j2 j3
      have ek := (tkey_key e).1
      by_cases hk : k0 = k
      · subst hk
        refine ⟨(k0, a0, v1) :: xs', ?_, ?_, by simp [i3]⟩
        · simp only [replK, ek, if_true]
          exact .cons e h1 q1 i1
        · rw [List.map_cons]
          refine .cons ⟨?_, ?_, ?_⟩ i2
          · simp [putAt, ← j1]
          · simp [putAt, ← j1, j2]
          · simp [putAt, ← j1, rv]
      · have hn : ¬ (d0.key = some k) := by rw [ek]; intro z; exact hk (Option.some.inj z)
        have hq : ¬ (q.1 = k) := by rw [← j1]; exact hk
        refine ⟨(k0, a0, v0) :: xs', ?_, ?_, by simp [i3]⟩
        · simp only [replK, if_neg hn]
          exact .cons e h1 h2 i1
        · rw [List.map_cons]
          have : putAt k u1 q = q := by simp [putAt, hq]
          rw [this]
          exact .cons ⟨j1, j2, j3⟩ i2
theorem snoc_lies {x : NestedKey × Addr × V} {y : NestedKey × Addr × Value} (h : x.1 = y.1 ∧ x.2.1 = y.2.1 ∧ RelV x.2.2 y.2.2) : ∀ {xs : List (NestedKey × Addr × V)} {ys : List (NestedKey × Addr × Value)}, Lies xs ys → Lies (xs ++ [x]) (ys ++ [y])
  | _, _, .nil => .cons h .nil
  | _, _, .cons r t => .cons r (snoc_lies h t)
theorem snoc_relK {d e : D} {k : NestedKey} {a : Addr} {v : V} (ek : d.tkey = some k) (h1 : RelD X.K nm ca β H d (.ref a)) (h2 : RelD X.K nm ca β H e v) : ∀ {kvs : List (D × D)} {xs : List (NestedKey × Addr × V)}, RelK X.K nm ca β H kvs xs → RelK X.K nm ca β H (kvs ++ [(d, e)]) (xs ++ [(k, a, v)])
  | _, _, .nil => .cons ek h1 h2 .nil
  | _, _, .cons e0 a0 b0 t => .cons e0 a0 b0 (snoc_relK ek h1 h2 t)
theorem put_rel {d e : D} {k : NestedKey} {a : Addr} {v : V} {u : Value} {kvs : List (D × D)} {xs : List (NestedKey × Addr × V)} {ys : List (NestedKey × Addr × Value)} (ek : d.tkey = some k) (h1 : RelD X.K nm ca β H d (.ref a)) (h2 : RelD X.K nm ca β H e v) (rv : RelV v u) (r : RelK X.K nm ca β H kvs xs) (l : Lies xs ys) :
    ∃ xs', RelK X.K nm ca β H (putN d k e kvs) xs' ∧ Lies xs' (storedH ys k a u) ∧ xs'.length ≤ xs.length + 1 := by
  have hh := has_rel r l k
  unfold putN
  cases q : hasK k kvs with
  | true =>
    rw [q] at hh
    obtain ⟨p, hp⟩ := Option.isSome_iff_exists.mp hh
    obtain ⟨xs', i1, i2, i3⟩ := repl_rel (k := k) h2 rv r l
    exact ⟨xs', by simpa using i1, by rw [storedH_old hp]; exact i2, by omega⟩
  | false =>
    rw [q] at hh
    have hn : atKey ys k = none := by simpa using hh
    refine ⟨_, by simpa using snoc_relK ek h1 h2 r, ?_, by simp⟩
    rw [storedH_new hn]
    exact snoc_lies ⟨rfl, rfl, rv⟩ l
end
end MC

set_option Elab.async false
set_option linter.all false
set_option maxRecDepth 100000
set_option maxHeartbeats 4000000
namespace MC
open PySem PySem.Spec PyProof.Rows L2
section
variable {X : Cx} {nm : Nat → Str} {ca : CaT} {T : Tab} {cl : Nat → List D → Hs → Res D}
abbrev CaOk (X : Cx) (ca : CaT) : Prop := ca.P = X.prog ∧ ca.w = X.w
theorem kvs_inv {K : PySem.W.Frag} {β : List Addr} {h : Hs} {H : Hp} {x : D} {v : V} {kvs : List (D × D)} (rh : RelH K nm ca β h H) (rx : RelD K nm ca β H x v) (e : x.kvs h = some kvs) : ∃ a ob xs, v = .ref a ∧ DN ca.P ca.w H a ob xs ∧ RelK K nm ca β H kvs xs := by
  cases x with
  | dct ks =>
    cases e
    cases rx with
    | dct h1 h2 h3 => exact ⟨_, _, _, rfl, h1, h3⟩
  | ref n =>
    obtain ⟨a, rfl, hβ⟩ := rx.ref_inv
    simp only [D.kvs] at e
    cases q : h[n]? with
    | none => rw [q] at e; cases e
    | some o =>
      rw [q] at e
      have ro := rh.obj n o a q hβ
      cases o with
      | dct ks => cases e; obtain ⟨ob, xs, j1, j2⟩ := ro; exact ⟨a, ob, xs, rfl, .inl j1, j2⟩
      | lkd ks => cases e; obtain ⟨ob, xs, j1, j2⟩ := ro; exact ⟨a, ob, xs, rfl, .inr j1, j2⟩
      | lst _ => cases e
      | ins _ _ => cases e
  | _ => cases e
theorem tkey_ref {K : PySem.W.Frag} {β : List Addr} {H : Hp} {d : D} {v : V} {k : NestedKey} (r : RelD K nm ca β H d v) (e : d.tkey = some k) : ∃ b, v = .ref b := by
  obtain ⟨_, _, xs, rfl⟩ := tkey_key e
  obtain ⟨a, vs, rfl, _⟩ := r.tup_inv
  exact ⟨a, rfl⟩
theorem room_key (hu : X.A.units + 64 < cLine) : (nestedKind X.prog X.w).room X.A.in1 := by
  show X.A.units + 1 + 8 < cLine
  omega
/-! ### k in d -/
def rDin (X : Cx) (nm : Nat → Str) (ca : CaT) (ng : Bool) : L2.R2 := fun x y H Q => ∃ (β : List Addr) (a b : Addr) (ob : Obj) (d : D) (k : NestedKey) (kvs : List (D × D)) (xs : List (NestedKey × Addr × V)), x = .ref b ∧ y = .ref a ∧ DN X.prog X.w H a ob xs ∧ RelK X.K nm ca β H kvs xs ∧ RelD X.K nm ca β H d (.ref b) ∧ d.tkey = some k ∧ Q (.bl (hasK k kvs != ng)) H
def inOp (ng : Bool) : CmpOp := if ng then .NotIn else .In
theorem op_din (hu : X.A.units + 64 < cLine) (ng : Bool) : OpR X (compareOp (inOp ng)) (rDin X nm ca ng) := by
  intro pins s σ H x y v u Q I rx ry q
  obtain ⟨β, a, b, ob, d, k, kvs, xs, rfl, rfl, e1, e2, e3, e4, q⟩ := q
  cases rx
  cases ry
  obtain ⟨_, z, hd, ys, l, _, dd⟩ := dn_at I e1 e2
  have hh := has_rel e2 l k
  cases ng with
  | false =>
    refine wpAny_in_heap (room_key hu) (key_is I e3 e4) hd dd ⟨.bl (hasK k kvs != false), H, I.tok _, ?_, q⟩
    rw [hh]
    simp [L2.RelV]
  | true =>
    refine wpAny_notIn_heap (room_key hu) (key_is I e3 e4) hd dd ⟨.bl (hasK k kvs != true), H, I.tok _, ?_, q⟩
    rw [hh]
    simp [L2.RelV]
theorem din_ok (hc : CaOk X ca) (ng : Bool) : BinOk X nm ca (dinD ng) (rDin X nm ca ng) := by
  intro β H h x y d vx vy Q rh rx ry e p
  unfold dinD at e
  cases q1 : y.kvs h with
  | none => rw [q1] at e; cases e
  | some kvs =>
    cases q2 : x.tkey with
    | none => rw [q1, q2] at e; cases e
    | some k =>
      rw [q1, q2] at e
      cases e
      obtain ⟨a, ob, xs, rfl, j1, j2⟩ := kvs_inv rh ry q1
      obtain ⟨b, rfl⟩ := tkey_ref rx q2
      rw [hc.1, hc.2] at j1
      exact ⟨β, a, b, ob, x, k, kvs, xs, rfl, rfl, j1, j2, rx, q2, PostE.here p rh (.bl _)⟩
/-! ### a comparison of one's own -/
theorem s_op2 {a b : Expr} {c c' nd : E} {op : CmpOp} {r : L2.R2} {sem : Hs → D → D → Option D} {pos : Pos} (o : OpR X (compareOp op) r) (ok : BinOk X nm ca sem r) (ev : ∀ σ h, evE T cl nd σ h = (evE T cl c σ h).bind fun x h => (evE T cl c' σ h).bind fun y h => .of (sem h x y) h) (ha : SE X nm ca T cl a c) (hb : SE X nm ca T cl b c') (hs : isSetE b = false) : SE X nm ca T cl (.Compare a [op] [b] pos) nd := by
  refine PE.imp (pe_cmpR o ha hb (nomarkS hs)) fun τ H Q ⟨σ, h, β, rs, rh, p⟩ => ?_
  rw [ev] at p
  obtain ⟨x, h1, e1, p⟩ := p.bind
  obtain ⟨y, h2, e2, p⟩ := p.bind
  obtain ⟨d, e3, p⟩ := p.of
  exact re2 rs rh e1 e2 fun vx vy H2 β2 st rs2 rh2 rx ry => ok β2 H2 h2 x y d vx vy Q rh2 rx ry e3 (p.step st)
theorem t_op2 {a b : Expr} {c c' nd : E} {op : CmpOp} {r : L2.R2} {sem : Hs → D → D → Option D} {pos : Pos} (o : OpR X (compareOp op) r) (ok : BinOk X nm ca sem r) (hbl : ∀ h x y d, sem h x y = some d → ∃ k, d = .bl k) (ev : ∀ σ h, evE T cl nd σ h = (evE T cl c σ h).bind fun x h => (evE T cl c' σ h).bind fun y h => .of (sem h x y) h) (ha : SE X nm ca T cl a c) (hb : SE X nm ca T cl b c') (hs : isSetE b = false) : ST X nm ca T cl (.Compare a [op] [b] pos) nd := by
  refine PT.imp (pt_cmpR o ha hb (nomarkS hs)) fun τ H Q ⟨σ, h, β, rs, rh, p⟩ => ?_
  obtain ⟨d, h3, e3, p⟩ := p.bind
  rw [ev] at e3
  cases q1 : evE T cl c σ h with
  | ok x h1 =>
    rw [q1] at e3
    cases q2 : evE T cl c' σ h1 with
    | ok y h2 =>
      simp only [Res.bind, q2] at e3
      cases q3 : sem h2 x y with
      | none => rw [q3] at e3; cases e3
      | some d' =>
        rw [q3] at e3
        cases e3
        obtain ⟨k, rfl⟩ := hbl _ _ _ _ q3
        refine re2 rs rh q1 q2 fun vx vy H2 β2 st rs2 rh2 rx ry => ok β2 H2 h3 x y (.bl k) vx vy _ rh2 rx ry q3 ?_
        intro v H3 β3 st3 rh3 rd
        cases rd
        obtain ⟨k', e5, p⟩ := PostT.of (show PostT X.K nm ca β H (.of (tru h3 (.bl k)) h3) Q from p)
        cases e5
        exact ⟨k, rfl, p H3 β3 (st.trans st3) rh3⟩
    | ex _ _ => simp only [Res.bind, q2] at e3; cases e3
    | no => simp only [Res.bind, q2] at e3; cases e3
  | ex _ _ => rw [q1] at e3; cases e3
  | no => rw [q1] at e3; cases e3
theorem din_bl (ng : Bool) (h : Hs) (x y d : D) (e : dinD ng h x y = some d) : ∃ k, d = .bl k := by
  unfold dinD at e
  split at e
  · cases e; exact ⟨_, rfl⟩
  · cases e
theorem s_din {a b : Expr} {c c' : E} {ng : Bool} {pos : Pos} (hc : CaOk X ca) (hu : X.A.units + 64 < cLine) (ha : SE X nm ca T cl a c) (hb : SE X nm ca T cl b c') (hs : isSetE b = false) : SE X nm ca T cl (.Compare a [inOp ng] [b] pos) (.din ng c c') :=
  s_op2 (op_din hu ng) (din_ok hc ng) (fun σ h => by simp only [evE]) ha hb hs
theorem t_din {a b : Expr} {c c' : E} {ng : Bool} {pos : Pos} (hc : CaOk X ca) (hu : X.A.units + 64 < cLine) (ha : SE X nm ca T cl a c) (hb : SE X nm ca T cl b c') (hs : isSetE b = false) : ST X nm ca T cl (.Compare a [inOp ng] [b] pos) (.din ng c c') :=
  t_op2 (op_din hu ng) (din_ok hc ng) (din_bl ng) (fun σ h => by simp only [evE]) ha hb hs
/-! ### x is True -/
def isOp (ng : Bool) : CmpOp := if ng then .IsNot else .Is
def rIsb (ng : Bool) : L2.R2 := fun x y H Q => ∃ c : Bool, y = .bl c ∧ ((∃ b : Bool, x = .bl b ∧ Q (.bl ((b == c) != ng)) H) ∨ (x = .non ∧ Q (.bl ng) H))
theorem EPure {m : Sem Value} {pins : List (Addr × Obj)} {σ : L2.St} {H : Hp} {s : Shared} {Q : VK} {z : V} (e : ∃ v, m = pure v ∧ v = (match z with | .bl b => Value.bool b | _ => Value.none)) (I : L2.Inv X pins σ H s) (q : Q z H) (hz : ∃ b, z = .bl b := by exact ⟨_, rfl⟩) : wpAny (model X.prog X.w) X.A m (EP X pins σ Q) X.xe s := by
  obtain ⟨b, rfl⟩ := hz
  obtain ⟨v, rfl, rfl⟩ := e
  exact wpAny_pure ⟨.bl b, H, I, rfl, q⟩
theorem op_isb (ng : Bool) : OpR X (compareOp (isOp ng)) (rIsb ng) := by
  intro pins s σ H x y v u Q I rx ry q
  obtain ⟨c, rfl, ⟨b, rfl, q⟩ | ⟨rfl, q⟩⟩ := q
  · cases rx; cases ry
    refine EPure (z := .bl ((b == c) != ng)) ?_ I q
    cases ng <;> cases b <;> cases c <;> exact ⟨_, rfl, by decide +kernel⟩
  · cases rx; cases ry
    refine EPure (z := .bl ng) ?_ I q
    cases ng <;> cases c <;> exact ⟨_, rfl, by decide +kernel⟩
theorem isb_ok (ng : Bool) : BinOk X nm ca (fun _ => isbD ng) (rIsb ng) := by
  intro β H h x y d vx vy Q rh rx ry e p
  unfold isbD at e
  cases y with
  | bl c =>
    cases ry
    cases x with
    | bl b => cases rx; cases e; exact ⟨c, rfl, .inl ⟨b, rfl, PostE.here p rh (.bl _)⟩⟩
    | non => cases rx; cases e; exact ⟨c, rfl, .inr ⟨rfl, PostE.here p rh (.bl _)⟩⟩
    | _ => cases e
  | _ => cases e
theorem isb_bl (ng : Bool) (h : Hs) (x y d : D) (e : (fun _ => isbD ng) h x y = some d) : ∃ k, d = .bl k := by
  simp only [isbD] at e
  split at e
  · split at e
    · cases e; exact ⟨_, rfl⟩
    · cases e; exact ⟨_, rfl⟩
    · cases e
  · cases e
theorem s_isb {a b : Expr} {c c' : E} {ng : Bool} {pos : Pos} (ha : SE X nm ca T cl a c) (hb : SE X nm ca T cl b c') (hs : isSetE b = false) : SE X nm ca T cl (.Compare a [isOp ng] [b] pos) (.isb ng c c') :=
  s_op2 (op_isb ng) (isb_ok ng) (fun σ h => by simp only [evE]) ha hb hs
theorem t_isb {a b : Expr} {c c' : E} {ng : Bool} {pos : Pos} (ha : SE X nm ca T cl a c) (hb : SE X nm ca T cl b c') (hs : isSetE b = false) : ST X nm ca T cl (.Compare a [isOp ng] [b] pos) (.isb ng c c') :=
  t_op2 (op_isb ng) (isb_ok ng) (isb_bl ng) (fun σ h => by simp only [evE]) ha hb hs
end
end MC

set_option Elab.async false
set_option linter.all false
set_option maxRecDepth 100000
set_option maxHeartbeats 4000000
namespace MC
open PySem PySem.Spec PyProof.Rows L2
section
variable {X : Cx} {nm : Nat → Str} {ca : CaT} {T : Tab} {cl : Nat → List D → Hs → Res D}
/-! ### d[k] -/
def rDgt (X : Cx) (nm : Nat → Str) (ca : CaT) : L2.R2 := fun x y H Q => ∃ (β : List Addr) (a b : Addr) (ob : Obj) (d e : D) (k : NestedKey) (kvs : List (D × D)) (xs : List (NestedKey × Addr × V)), x = .ref a ∧ y = .ref b ∧ DN X.prog X.w H a ob xs ∧ RelK X.K nm ca β H kvs xs ∧ RelD X.K nm ca β H d (.ref b) ∧ d.tkey = some k ∧ getK k kvs = some e ∧ ∀ v, RelD X.K nm ca β H e v → Q v H
theorem ix_dct (hu : X.A.units + 64 < cLine) : IxR X (rDgt X nm ca) := by
  intro value slice pins s σ H x y v u Q I rx ry q hsub
  obtain ⟨β, a, b, ob, d, e, k, kvs, xs, rfl, rfl, e1, e2, e3, e4, e5, q⟩ := q
  cases rx
  cases ry
  obtain ⟨_, z, hd, ys, l, _, dd⟩ := dn_at I e1 e2
  obtain ⟨w, p, g1, g2, g3⟩ := (get_rel e2 l k).1 e e5
  have hT := dd.typeIs
  have hget : ∀ E, wpAny (model X.prog X.w) X.A (getItem (.ref a) (.ref b)) (EP X pins σ Q) E s := fun E => wpAny_getItem_heap (room_key hu) (key_is I e3 e4) dd g1 ⟨w, H, I.tok _, g3, q w g2⟩
  unfold subscriptTail
  refine wpAny_bind ?_
  rw [getitemInPython_of_ne hT.not_modules]
  refine wpAny_bind (wpAny_specialOf hT PySem.F.slot_dict_getitem.lookup ?_)
  have fin : wpAny (model X.prog X.w) X.A (subscripted slice false (.ref a) (.ref b)) (fun r s3 => wpAny (model X.prog X.w) X.A (letTemporaryGo value (.ref a) r >>= fun _ => pure r) (EP X pins σ Q) X.xe s3) X.xe s := by
    rw [hsub]
    exact wpAny_operating (wpAny_mono (hget X.xe) (fun r s3 h3 => wpAny_bind (wpAny_letTemporaryGo (wpAny_pure h3))) fun _ _ z => z)
  first
    | exact wpAny_pure (wpAny_bind fin)
    | exact wpAny_bind (wpAny_pure (wpAny_bind fin))
    | exact wpAny_bind fin
theorem s_dget {a b : Expr} {c c' : E} {pos : Pos} (hc : CaOk X ca) (hu : X.A.units + 64 < cLine) (ha : SE X nm ca T cl a c) (hb : SE X nm ca T cl b c') (hs : isSl b = false) : SE X nm ca T cl (.Subscript a b pos) (.dget c c') := by
  refine PE.imp (pe_ix (ix_dct (nm := nm) (ca := ca) hu) ha hb (plainIx hs)) fun τ H Q ⟨σ, h, β, rs, rh, p⟩ => ?_
  simp only [evE] at p
  obtain ⟨x, h1, e1, p⟩ := p.bind
  obtain ⟨y, h2, e2, p⟩ := p.bind
  obtain ⟨d, e3, p⟩ := p.of
  refine re2 rs rh e1 e2 fun vx vy H2 β2 st rs2 rh2 rx ry => ?_
  unfold dgetD at e3
  cases q1 : x.kvs h2 with
  | none => rw [q1] at e3; cases e3
  | some kvs =>
    cases q2 : y.tkey with
    | none => rw [q1, q2] at e3; cases e3
    | some k =>
      rw [q1, q2] at e3
      obtain ⟨a', ob, xs, rfl, j1, j2⟩ := kvs_inv rh2 rx q1
      obtain ⟨b', rfl⟩ := tkey_ref ry q2
      rw [hc.1, hc.2] at j1
      exact ⟨β2, a', b', ob, y, d, k, kvs, xs, rfl, rfl, j1, j2, ry, q2, e3, fun v rv => PostE.here (p.step st) rh2 rv⟩
/-! ### d[k] = v -/
def rDst (X : Cx) (nm : Nat → Str) (ca : CaT) : TSet := fun o i v H Q => ∃ (β : List Addr) (a b : Addr) (ob : Obj) (d e : D) (k : NestedKey) (kvs : List (D × D)) (xs : List (NestedKey × Addr × V)), o = .ref a ∧ i = .ref b ∧ H a = some (dN X.prog X.w a ob xs) ∧ RelK X.K nm ca β H kvs xs ∧ kvs.length < sizeLine ∧ RelD X.K nm ca β H d (.ref b) ∧ d.tkey = some k ∧ RelD X.K nm ca β H e v ∧
  ∀ ob' xs', RelK X.K nm ca β H (putN d k e kvs) xs' → Q (upd H a (dN X.prog X.w a ob' xs'))
theorem RelK.len {K : PySem.W.Frag} {β : List Addr} {H : Hp} : ∀ {kvs : List (D × D)} {xs : List (NestedKey × Addr × V)}, RelK K nm ca β H kvs xs → kvs.length = xs.length
  | _, _, .nil => rfl
  | _, _, .cons _ _ _ t => by simp [RelK.len t]
theorem lies_len : ∀ {xs : List (NestedKey × Addr × V)} {ys : List (NestedKey × Addr × Value)}, Lies xs ys → xs.length = ys.length := fun l => Paired.length l
theorem set_dct (hu : X.A.units + 64 < cLine) : PSet X (rDst X nm ca) := by
  intro pins s σ H o i v ov iv u Q I ro ri rv q
  obtain ⟨β, a, b, ob, d, e, k, kvs, xs, rfl, rfl, e1, e2, hz, e3, e4, e5, q⟩ := q
  cases ro
  cases ri
  obtain ⟨_, z, hd, ys, l, _, dd⟩ := dn_at I (.inl e1) e2
  have l1 := lies_len l
  have l2 := e2.len
  obtain ⟨xs', p1, p2, p3⟩ := put_rel e4 e3 e5 rv e2 l
  refine wpAny_setItem_heap (hsz := by omega) (room_key hu) (key_is I e3 e4) dd fun h' dd' hs => ?_
  obtain ⟨ob', new⟩ := dn_ok (H' := upd H a (dN X.prog X.w a ob xs')) (by omega) hd p2 dd'
  obtain ⟨oq, hq⟩ : ∃ q, h'.get? a = some q := let ⟨q, _, _, hq, _⟩ := dd'; ⟨q, hq⟩
  obtain ⟨ob', new⟩ := dn_ok (H' := upd H a (dN X.prog X.w a oq xs')) (by omega) hd p2 dd'
  have ee : ob' = oq := by
    have := new.1.1
    rw [hq] at this
    exact (Option.some.inj this).symm
  subst ee
  exact ⟨_, d_write I (by rw [e1]; exact True.intro) hs ⟨_, hq⟩ new, q ob' xs' p1⟩
theorem g_dsub {o i : Expr} {c k : E} {pos : Pos} (hc : CaOk X ca) (hu : X.A.units + 64 < cLine) (ho : SE X nm ca T cl o c) (hi : SE X nm ca T cl i k) (hs : isSl i = false) : SG X nm ca T cl (.Subscript o i pos) (.dsub c k) := by
  refine PG.imp (pg_sub ho hi (set_dct (nm := nm) (ca := ca) hu) (fun v => by
    cases i <;> first | rfl | cases hs)) fun v τ H Q ⟨d, σ, h, β, rs, rh, rd, p⟩ => ?_
  simp only [evG] at p
  obtain ⟨x, h1, e1, p⟩ := p.bind
  obtain ⟨y, h2, e2, p⟩ := p.bind
  cases x with
  | ref n =>
    simp only [storeM] at p
    cases q1 : h2[n]? with
    | none => rw [q1] at p; exact p.elim
    | some oo =>
      cases oo with
      | dct kvs =>
        cases q2 : y.tkey with
        | none => rw [q1, q2] at p; exact p.elim
        | some kk =>
          rw [q1, q2] at p
          simp only at p
          split at p
          · rename_i hz
            refine re2 rs rh e1 e2 fun vx vy H2 β2 st rs2 rh2 rx ry => ?_
            obtain ⟨a, rfl, hβ⟩ := rx.ref_inv
            obtain ⟨b, rfl⟩ := tkey_ref ry q2
            obtain ⟨ob, xs, j1, j2⟩ := rh2.obj n _ a q1 hβ
            refine ⟨β2, a, b, ob, y, d, kk, kvs, xs, rfl, rfl, by rw [← hc.1, ← hc.2]; exact j1, j2, hz, ry, q2, rd.mono st, fun ob' xs' r' => ?_⟩
            rw [← hc.1, ← hc.2]
            have sw : Stp β2 H2 β2 (upd H2 a (dN ca.P ca.w a ob' xs')) := Stp.write (List.mem_of_getElem? hβ) j1 (fun _ z => nomatch z) (fun _ _ z => nomatch z)
            exact p τ _ β2 (st.trans sw) (rs2.mono sw) (rh2.write hβ sw ⟨ob', xs', upd_same, r'.mono sw⟩) (Chg.refl _ _)
          · exact p.elim
      | lst _ => rw [q1] at p; exact p.elim
      | ins _ _ => rw [q1] at p; exact p.elim
      | lkd _ => rw [q1] at p; exact p.elim
  | _ => exact p.elim
/-! ### a new dict -/
theorem dn_new {P : Program} {w : World} {H : Hp} (h : Heap) (hb : sysModules < h.objs.size) : ∃ ob, ObjOk P w H (h.push { cls := .type "dict", data := .dict #[] }) h.objs.size (dN P w h.objs.size ob []) :=
  dn_ok (Nat.zero_le _) (beq_eq_false_iff_ne.mpr (Ne.symm (Nat.ne_of_lt hb))) .nil (Heap.DictOfH.new h)
def tNewN (X : Cx) : TE := fun _ H Q => ∀ p ob, H p = none → Q (.ref p) (upd H p (dN X.prog X.w p ob []))
theorem pe_newN {pos : Pos} : PE X (.Dict [] [] pos) (tNewN X) := ⟨fun pins s σ H Q I h => by
  have hn := I.hok.fresh (Nat.le_refl s.heap.objs.size)
  have ob0 : Obj := { cls := .type "dict", data := .dict #[] }
  have hx := dn_new (P := X.prog) (w := X.w) (H := upd H s.heap.objs.size (dN X.prog X.w s.heap.objs.size { cls := .type "dict", data := .dict #[] } [])) s.heap I.big
  obtain ⟨ob, new⟩ := hx
  have ee : ob = { cls := .type "dict", data := .dict #[] } := by
    have := new.1.1
    rw [Heap.get?_push_size _ rfl] at this
    exact (Option.some.inj this).symm
  subst ee
  exact wpAny_Dict_empty ⟨.ref s.heap.objs.size, _, I.laid (t' := s.toks) (fun _ _ q => Heap.get?_push_of_some _ q) (Nat.le_refl _) new, rfl, h _ _ hn⟩⟩
theorem s_dnew {pos : Pos} (hc : CaOk X ca) : SE X nm ca T cl (.Dict [] [] pos) .dnew := by
  refine PE.imp pe_newN fun τ H Q ⟨σ, h, β, rs, rh, p⟩ => ?_
  simp only [evE] at p
  intro q ob hq
  rw [← hc.1, ← hc.2]
  exact PostE.push (d := .non) p rh hq ⟨ob, [], upd_same, .nil⟩
/-! ### len(d), list(d) -/
theorem call_lenN : CallR X (.builtin "len") (fun xs H Q => ∃ (β : List Addr) (a : Addr) (ob : Obj) (kvs : List (D × D)) (ks : List (NestedKey × Addr × V)), xs = [.ref a] ∧ DN X.prog X.w H a ob ks ∧ RelK X.K nm ca β H kvs ks ∧ Q (.int (kvs.length : Int)) H) := by
  intro pins s σ H xs us Q I r q
  obtain ⟨β, a, ob, kvs, ks, rfl, e1, e2, q⟩ := q
  obtain ⟨u, rfl, ru⟩ := vals1 r
  cases ru
  obtain ⟨_, z, hd, ys, l, _, dd⟩ := dn_at I e1 e2
  have l1 := lies_len l
  have l2 := e2.len
  refine call_len_dictH hd dd (by rw [sizeLine_eq] at z; omega) ?_
  rw [show ys.length = kvs.length by omega]
  exact ⟨.int (kvs.length : Int), H, I.tok _, ⟨_, rfl⟩, q⟩
theorem s_dlen {e : Expr} {c : E} {p pos : Pos} (hc : CaOk X ca) (hg : Gl X "len") (hm : X.mg "len" = none) (ha : SE X nm ca T cl e c) (hs : isSt e = false) : SE X nm ca T cl (.Call (.Name "len" p) [e] [] pos) (.dlen c) := by
  refine PE.imp (pe_callB (call_lenN (nm := nm) (ca := ca)) hg hm PySem.boot_len (a_cons ha a_nil hs) (by decide) (by decide) (starEach_plain hs) rfl) fun τ H Q ⟨σ, h, β, rs, rh, p⟩ => ?_
  simp only [evE] at p
  obtain ⟨x, h1, e1, p⟩ := p.bind
  cases q : x.kvs h1 with
  | none => simp only [q] at p; exact p.elim
  | some kvs =>
    simp only [q] at p
    refine ra1 (x := [x]) (h1 := h1) rs rh (by simp [evA, e1, Res.bind]) fun vxs H1 β1 st rs1 rh1 rx => ?_
    obtain ⟨v, rfl, ry⟩ := one_rel rx
    obtain ⟨a, ob, xs, rfl, j1, j2⟩ := kvs_inv rh1 ry q
    rw [hc.1, hc.2] at j1
    exact ⟨β1, a, ob, kvs, xs, rfl, j1, j2, PostE.here (p.step st) rh1 (.int _)⟩
theorem keysL {K : PySem.W.Frag} {β : List Addr} {H : Hp} : ∀ {kvs : List (D × D)} {xs : List (NestedKey × Addr × V)}, RelK K nm ca β H kvs xs → RelL K nm ca β H (kvs.map (·.1)) (xs.map fun x => .ref x.2.1)
  | _, _, .nil => .nil
  | _, _, .cons _ h _ t => .cons h (keysL t)
theorem lies_addr : ∀ {xs : List (NestedKey × Addr × V)} {ys : List (NestedKey × Addr × Value)}, Lies xs ys → xs.map (fun x => x.2.1) = ys.map fun y => y.2.1
  | _, _, .nil => rfl
  | _, _, .cons r t => by simp [r.2.1, lies_addr t]
theorem call_listN (hc : X.calm = true) : CallR X (.type "list") (fun xs H Q => ∃ (β : List Addr) (a : Addr) (ob : Obj) (kvs : List (D × D)) (ks : List (NestedKey × Addr × V)), xs = [.ref a] ∧ DN X.prog X.w H a ob ks ∧ RelK X.K nm ca β H kvs ks ∧ ∀ p, H p = none → Q (.ref p) (upd H p (.lst (ks.map fun x => .ref x.2.1)))) := by
  intro pins s σ H xs us Q I r q
  obtain ⟨β, a, ob, kvs, ks, rfl, e1, e2, q⟩ := q
  obtain ⟨u, rfl, ru⟩ := vals1 r
  cases ru
  obtain ⟨g0, z, hd, ys, l, ⟨es, ep, g1, g2, g3⟩, dd⟩ := dn_at I e1 e2
  have l1 := lies_len l
  have ls : es.size = ys.length := size_of_entries g3
  refine PySem.W.kdl_call (kdl_raw hd g1 g2) (I.ok.hd hc) g0 (by omega) fun h' tk acc' c' kp en it => ?_
  have eb : acc'.toList = (ks.map fun x => x.2.1).map Value.ref := by
    rw [lies_addr l]
    apply List.ext_getElem?
    intro j
    rw [List.map_map, List.getElem?_map]
    cases hj : acc'.toList[j]? with
    | none =>
      have h1 := List.getElem?_eq_none_iff.mp hj
      rw [Array.length_toList, it.1] at h1
      rw [List.getElem?_eq_none (by omega)]
      rfl
    | some v =>
      obtain ⟨en', hen, hv⟩ := it.2 j v (by rw [← Array.getElem?_toList]; exact hj)
      have qe := entry_at g3 j
      rw [hen] at qe
      cases hb : ys[j]? with
      | none => rw [hb] at qe; cases qe
      | some y =>
        rw [hb] at qe
        cases qe
        rw [hv]
        rfl
  have rv : Vals (ks.map fun x => V.ref x.2.1) acc'.toList := by
    rw [eb]
    have := vals_refs (ks.map fun x => x.2.1)
    rw [List.map_map] at this
    exact this
  refine ⟨.ref s.heap.objs.size, _, I.laid (t' := tk) (o := .lst (ks.map fun x => V.ref x.2.1)) kp (Nat.le_refl _) ?_, rfl, q _ (I.hok.fresh (Nat.le_refl _))⟩
  exact ⟨by rw [List.length_map]; exact z, acc'.toList, c', rv, by rw [Array.toArray_toList]; exact en⟩
theorem s_dlst {e : Expr} {c : E} {fz : Bool} {p pos : Pos} (hc : CaOk X ca) (hcm : X.calm = true) (hg : Gl X "list") (hm : X.mg "list" = none) (ha : SE X nm ca T cl e c) (hs : isSt e = false) : SE X nm ca T cl (.Call (.Name "list" p) [e] [] pos) (.dlst fz c) := by
  refine PE.imp (pe_callTy (call_listN (nm := nm) (ca := ca) hcm) hg hm (by decide +kernel) (a_cons ha a_nil hs) (by decide) (by decide) (starEach_plain hs) rfl) fun τ H Q ⟨σ, h, β, rs, rh, p⟩ => ?_
  simp only [evE] at p
  obtain ⟨x, h1, e1, p⟩ := p.bind
  cases q : x.kvs h1 with
  | none => simp only [q] at p; exact p.elim
  | some kvs =>
    simp only [q] at p
    refine ra1 (x := [x]) (h1 := h1) rs rh (by simp [evA, e1, Res.bind]) fun vxs H1 β1 st rs1 rh1 rx => ?_
    obtain ⟨v, rfl, ry⟩ := one_rel rx
    obtain ⟨a, ob, xs, rfl, j1, j2⟩ := kvs_inv rh1 ry q
    rw [hc.1, hc.2] at j1
    refine ⟨β1, a, ob, kvs, xs, rfl, j1, j2, fun l hl => ?_⟩
    cases fz with
    | true => exact PostE.laid (p.step st) rh1 hl (new_lst rh1 hl (keysL j2))
    | false => exact PostE.push (d := .non) (p.step st) rh1 hl ⟨_, upd_same, (keysL j2).mono (Stp.push hl)⟩
end
end MC

set_option Elab.async false
set_option linter.all false
set_option maxRecDepth 100000
set_option maxHeartbeats 4000000
namespace MC
open PySem PySem.Spec PyProof.Rows L2
section
variable {X : Cx} {nm : Nat → Str} {ca : CaT} {T : Tab} {cl : Nat → List D → Hs → Res D}
/-! ### {k: v} -/
def tOneN (X : Cx) (nm : Nat → Str) (ca : CaT) (tk tv : TE) : TE := fun σ H Q => ∀ p ob, H p = none → tk σ (upd H p (dN X.prog X.w p ob [])) fun x H1 => tv σ H1 fun y H2 => ∃ (β : List Addr) (b : Addr) (ob1 : Obj) (d e : D) (k : NestedKey), x = .ref b ∧ H2 p = some (dN X.prog X.w p ob1 []) ∧ RelD X.K nm ca β H2 d (.ref b) ∧ d.tkey = some k ∧ RelD X.K nm ca β H2 e y ∧
  ∀ ob' xs', RelK X.K nm ca β H2 [(d, e)] xs' → Q (.ref p) (upd H2 p (dN X.prog X.w p ob' xs'))
theorem room_key0 (hu : X.A.units + 64 < cLine) : (nestedKind X.prog X.w).room X.A := by
  show X.A.units + 8 < cLine
  omega
theorem pe_oneN {k v : Expr} {tk tv : TE} {pos : Pos} (hu : X.A.units + 64 < cLine) (hk : PE X k tk) (hv : PE X v tv) : PE X (.Dict [some k] [v] pos) (tOneN X nm ca tk tv) := by
  refine ⟨fun pins s σ H Q I q => ?_⟩
  have hn := I.hok.fresh (Nat.le_refl s.heap.objs.size)
  obtain ⟨ob, new⟩ := dn_new (P := X.prog) (w := X.w) (H := upd H s.heap.objs.size (dN X.prog X.w s.heap.objs.size { cls := .type "dict", data := .dict #[] } [])) s.heap I.big
  have ee : ob = { cls := .type "dict", data := .dict #[] } := by
    have := new.1.1
    rw [Heap.get?_push_size _ rfl] at this
    exact (Option.some.inj this).symm
  subst ee
  have I1 := I.laid (t' := s.toks) (fun _ _ q => Heap.get?_push_of_some _ q) (Nat.le_refl _) new
  rw [arm_eval_Dict, zip_pairTrees [some k] [v] X.env pos rfl rfl, dictDisplay_pairs (pairTrees [some k] [v] X.env pos) (by simp [pairTrees]) (by simp [pairTrees])]
  refine wpAny_bind (wpAny_standAt (wpAny_bind (wpAny_subDictH (knd := nestedKind X.prog X.w) (room_key0 hu) (by simp [pairTrees]) ?_)))
  refine pairTrees_cons_walk (thn (hk.run pins _ σ _ _ I1 (q _ _ hn)) fun kv s2 ⟨x, H2, I2, rx, q2⟩ => thn (hv.run pins s2 σ H2 _ I2 q2) fun vv s3 ⟨y, H3, I3, ry, q3⟩ => pairTrees_nil_walk ?_)
  obtain ⟨β, b, ob1, d, e, kk, rfl, g1, g2, g3, g4, q3⟩ := q3
  cases rx
  obtain ⟨_, z, hd, ys, l, _, dd⟩ := dn_at I3 (.inl g1) (nm := nm) (ca := ca) (β := []) (kvs := []) .nil
  cases l
  refine ⟨[(kk, b, vv)], ⟨rfl, rfl, key_is I3 g2 g3, trivial⟩, dd, fun h' tk dd' hs => wpAny_pure ?_⟩
  have l' : Lies [(kk, b, y)] (storedAllH [] [(kk, b, vv)]) := .cons ⟨rfl, rfl, ry⟩ .nil
  obtain ⟨oq, hq⟩ : ∃ q, h'.get? s.heap.objs.size = some q := let ⟨q, _, _, hq, _⟩ := dd'; ⟨q, hq⟩
  obtain ⟨ob', new'⟩ := dn_ok (H' := upd H3 s.heap.objs.size (dN X.prog X.w s.heap.objs.size oq [(kk, b, y)])) (by simp [sizeLine_eq]) hd l' dd'
  have ee : ob' = oq := by
    have := new'.1.1
    rw [hq] at this
    exact (Option.some.inj this).symm
  subst ee
  exact ⟨.ref s.heap.objs.size, _, d_write I3 (by rw [g1]; exact True.intro) hs ⟨_, hq⟩ new', rfl, q3 ob' _ (.cons g3 g2 g4 .nil)⟩
theorem s_done {a b : Expr} {c c' : E} {pos : Pos} (hc : CaOk X ca) (hu : X.A.units + 64 < cLine) (ha : SE X nm ca T cl a c) (hb : SE X nm ca T cl b c') : SE X nm ca T cl (.Dict [some a] [b] pos) (.done c c') := by
  refine PE.imp (pe_oneN (nm := nm) (ca := ca) hu ha hb) fun τ H Q ⟨σ, h, β, rs, rh, p⟩ => ?_
  simp only [evE] at p
  obtain ⟨x, h1, e1, p⟩ := p.bind
  obtain ⟨y, h2, e2, p⟩ := p.bind
  intro q ob hq
  rw [← hc.1, ← hc.2]
  have st0 : Stp β H (β ++ [q]) (upd H q (dN ca.P ca.w q ob [])) := Stp.push hq
  refine re1 (rs.mono st0) (rh.push (o := .dct []) hq ⟨ob, [], upd_same, .nil⟩) e1 fun vx H1 β1 st rs1 rh1 rx => re1 rs1 rh1 e2 fun vy H2 β2 st2 rs2 rh2 ry => ?_
  cases q1 : h2[h.length]? with
  | none => rw [q1] at p; exact p.elim
  | some oo =>
    rw [q1] at p
    cases oo with
    | dct kvs =>
      cases kvs with
      | nil =>
        simp only at p
        obtain ⟨u0, h3, e3, p⟩ := p.bind
        unfold storeM at e3
        rw [q1] at e3
        cases q2 : x.tkey with
        | none => rw [q2] at e3; cases e3
        | some kk =>
          rw [q2] at e3
          simp only at e3
          split at e3
          · cases e3
            have hβ0 : (β ++ [q])[h.length]? = some q := by rw [← rh.len, List.getElem?_append_right (Nat.le_refl _)]; simp
            have hβ : β2[h.length]? = some q := st2.get (st.get hβ0)
            obtain ⟨ob1, xs1, j1, j2⟩ := rh2.obj _ _ q q1 hβ
            cases j2
            obtain ⟨b', rfl⟩ := tkey_ref rx q2
            refine ⟨β2, b', ob1, x, y, kk, rfl, j1, rx.mono st2, q2, ry, fun ob' xs' r' => ?_⟩
            have sw : Stp β2 H2 β2 (upd H2 q (dN ca.P ca.w q ob' xs')) := Stp.write (List.mem_of_getElem? hβ) j1 (fun _ z => nomatch z) (fun _ _ z => nomatch z)
            refine p _ _ β2 (((st0.trans st).trans st2).trans sw) (rh2.write hβ sw ⟨ob', xs', upd_same, ?_⟩) (.ref hβ)
            have : putN x kk y [] = [(x, y)] := by simp [putN, hasK, getK]
            rw [this]
            exact r'.mono sw
          · cases e3
      | cons _ _ => exact p.elim
    | _ => exact p.elim
/-! ### a test that is an if-expression -/
theorem pt_ite {c a b : Expr} {tc ta tb : TT} {pos : Pos} (hc : PT X c tc) (ha : PT X a ta) (hb : PT X b tb) : PT X (.IfExp c a b pos) (fun σ H Q => tc σ H fun k H1 => if k = true then ta σ H1 Q else tb σ H1 Q) := by
  refine ⟨fun pins s σ H Q I q => ?_⟩
  show wpAny _ _ (PySem.isTrue c X.env (eval c X.env) >>= fun k => if k then PySem.isTrue a X.env (eval a X.env) else PySem.isTrue b X.env (eval b X.env)) _ _ s
  refine wpAny_bind (thn (hc.run pins s σ H _ I q) fun k s1 ⟨H1, I1, q1⟩ => ?_)
  cases k with
  | true => exact ha.run pins s1 σ H1 _ I1 q1
  | false => exact hb.run pins s1 σ H1 _ I1 q1
theorem t_ite {c a b : Expr} {kc ka kb : E} {pos : Pos} (hc : ST X nm ca T cl c kc) (ha : ST X nm ca T cl a ka) (hb : ST X nm ca T cl b kb) : ST X nm ca T cl (.IfExp c a b pos) (.ite kc ka kb) := by
  refine PT.imp (pt_ite hc ha hb) fun τ H Q ⟨σ, h, β, rs, rh, p⟩ => ?_
  simp only [evE] at p
  cases q1 : (evE T cl kc σ h).bind tst with
  | ok k h1 =>
    rw [q1] at p
    refine RT.k rs rh q1 fun H1 β1 st rs1 rh1 => ?_
    cases k with
    | true => simp only [Res.bind, if_true] at p ⊢; exact ⟨σ, h1, β1, rs1, rh1, PostT.step p st⟩
    | false => simp only [Res.bind, Bool.false_eq_true, if_false] at p ⊢; exact ⟨σ, h1, β1, rs1, rh1, PostT.step p st⟩
  | ex _ _ => rw [q1] at p; exact p.elim
  | no => rw [q1] at p; exact p.elim
/-! ### xs[::-1] -/
theorem s_rev {e : Expr} {c : E} {k : Nat} {p1 p2 p3 pos : Pos} (ha : SE X nm ca T cl e c) : SE X nm ca T cl (.Subscript e (.Slice none none (some (.UnaryOp .USub (.Constant (.int 1) k p1) p2)) p3) pos) (.rev c) := by
  refine PE.imp (pe_revLT ha) fun τ H Q ⟨σ, h, β, rs, rh, p⟩ => ?_
  simp only [evE] at p
  obtain ⟨x, h1, e1, p⟩ := p.bind
  obtain ⟨d, e2, p⟩ := p.of
  refine re1 rs rh e1 fun vx H1 β1 st rs1 rh1 rx => ?_
  unfold revD at e2
  split at e2
  · cases e2
    obtain ⟨a, vs, rfl, k1, k2⟩ := rx.tup_inv
    exact ⟨a, vs, rfl, .inr ⟨k1, fun l hl => PostE.laid (p.step st) rh1 hl (new_tup hl k2.rev)⟩⟩
  · cases q : x.lseq h1 with
    | none => rw [q] at e2; cases e2
    | some xs =>
      rw [q] at e2
      cases e2
      obtain ⟨a, vs, rfl, k1, k2⟩ := lseq_inv rh1 q rx
      exact ⟨a, vs, rfl, .inl ⟨k1, fun l hl => PostE.laid (p.step st) rh1 hl (new_lst rh1 hl k2.rev)⟩⟩
end
end MC

set_option Elab.async false
set_option linter.all false
set_option maxRecDepth 100000
set_option maxHeartbeats 4000000
namespace MC
open PySem PySem.Spec PyProof.Rows L2
section
variable {X : Cx} {nm : Nat → Str} {ca : CaT} {T : Tab} {cl : Nat → List D → Hs → Res D} {tg : Expr}
/-! ### a dict is locked and walked -/
/-- the keys of a dict that does not change -/
def ItN (P : Program) (w : World) (a : Addr) (ob : Obj) (xs : List (NestedKey × Addr × V)) : It :=
  ⟨fun i H => DN P w H a ob xs ∧ i < xs.length, fun i H x H' => H' = H ∧ ∃ k b v, xs[i]? = some (k, b, v) ∧ x = .ref b, fun i H => DN P w H a ob xs ∧ xs.length ≤ i⟩
theorem dn_raw {pins : List (Addr × Obj)} {σ : L2.St} {H : Hp} {s : Shared} (I : L2.Inv X pins σ H s) {a : Addr} {ob : Obj} {xs : List (NestedKey × Addr × V)} (e : DN X.prog X.w H a ob xs) : s.heap.get? a = some ob ∧ (a == sysModules) = false ∧ ∃ ys es ep, Lies xs ys ∧ ob.ExactDict ∧ ob.data = .dict es ep ∧ es.toList = ys.map (entryOfKey (nestedKind X.prog X.w)) := by
  have key : ObjOk X.prog X.w H s.heap a (dN X.prog X.w a ob xs) := by
    rcases e with e | e
    · exact I.hok a _ e
    · exact (I.hok a _ e).2
  obtain ⟨⟨h1, z, hd, ys, l, es, ep, h2, h3, h4, h5⟩, _, _⟩ := key
  exact ⟨h1, hd, ys, es, ep, l, h2, h3, h4⟩
theorem kit_obj {h : Heap} {j a : Addr} {i n ep : Nat} (q : h.IsKeyIter j a i n ep) : ∀ c ∈ [j], ∃ oo, h.get? c = some oo ∧ ∀ cv, oo.data ≠ .cell cv := by
  intro c hc
  rw [List.mem_singleton.mp hc]
  obtain ⟨oo, m1, m2, m3⟩ := q
  exact ⟨oo, m1, fun cv => by rw [m3]; exact fun zz => nomatch zz⟩
theorem kit_self {P : Program} {w : World} {j a : Addr} {n ep : Nat} (A : Around) (i : Nat) (s : Shared) (Q E : Value → Shared → Prop) (q : s.heap.IsKeyIter j a i n ep) (hQ : Q (.ref j) s) : wpAny (model P w) A (pyIter (.ref j)) Q E s := wpAny_pyIter_keyiter q hQ
theorem kit_addr {xs : List (NestedKey × Addr × V)} {ys : List (NestedKey × Addr × Value)} (l : Lies xs ys) {i : Nat} (hx : i < xs.length) (hy : i < ys.length) : xs[i].2.1 = ys[i].2.1 := by
  have q : (xs.map fun x => x.2.1)[i]? = (ys.map fun y => y.2.1)[i]? := by rw [lies_addr l]
  rw [List.getElem?_map, List.getElem?_map, List.getElem?_eq_getElem hx, List.getElem?_eq_getElem hy] at q
  exact Option.some.inj q
theorem turn_N {P : Program} {w : World} {K : PySem.W.Frag} {a : Addr} {ob : Obj} {es : Array DictEntry} {ep : Nat} {xs : List (NestedKey × Addr × V)} (j : Addr) (hod : ob.data = .dict es ep) (hsz : es.size = xs.length) : Turn P w K tg (ItN P w a ob xs) [j] j (fun i g => g.IsKeyIter j a i xs.length ep) := by
  refine Turn.mk (List.mem_singleton.mpr rfl) (fun i g q => kit_obj q) (fun i g g' q keep => q.at fun oo m => keep j (List.mem_singleton.mpr rfl) oo m) ?_ ?_ fun A i s Q E q => kit_self A i s Q E q
  · rintro Y rfl rfl rfl calm i pins s σ H E I fpo q ⟨dn, hi⟩
    obtain ⟨g0, _, ys, es', ep', l, g1, g2, g3⟩ := dn_raw I dn
    have hy : i < ys.length := by rw [← lies_len l]; exact hi
    cases hod.symm.trans g2
    obtain ⟨u0, u1, _, u3, u4, u5⟩ := fpo j (List.mem_singleton.mpr rfl)
    have en : es[i]? = some (entryOfKey (nestedKind Y.prog Y.w) ys[i]) := by
      rw [entry_at g3 i, List.getElem?_eq_getElem hy]; rfl
    refine next_key_item q g0 hod hsz en fun g' q' same => ?_
    have J : L2.Inv Y pins σ H { s with heap := g' } := I.turned (t' := s.toks) (fun c oo hc m => (same.2 c hc).trans m) u0 u1 u3 u4 u5
    obtain ⟨oo, m1, m2, m3⟩ := id q'
    refine ⟨_, rfl, go_of (s := { s with heap := g' }) m1 m2 m3 (by decide) ⟨.ref xs[i].2.1, H, J, ?_, ⟨rfl, xs[i].1, xs[i].2.1, xs[i].2.2, List.getElem?_eq_getElem hi, rfl⟩, q', fun c hc => (fpo c hc).1⟩⟩
    rw [kit_addr l hi hy]
    rfl
  · rintro Y rfl rfl rfl calm i pins s σ H E I fpo q ⟨dn, hi⟩
    obtain ⟨g0, _, ys, es', ep', l, g1, g2, g3⟩ := dn_raw I dn
    obtain ⟨u0, u1, _, u3, u4, u5⟩ := fpo j (List.mem_singleton.mpr rfl)
    exact next_key_end (I.ok.hd calm) q g0 hod hsz hi fun g' more => ⟨rfl, I.turned (t' := s.toks) (fun c oo hc m => more c oo hc m) u0 u1 u3 u4 u5⟩
/-- the dict is locked: the heap is the same -/
theorem lock_ok {pins : List (Addr × Obj)} {σ : L2.St} {H : Hp} {s : Shared} (I : L2.Inv X pins σ H s) {a : Addr} {ob : Obj} {xs : List (NestedKey × Addr × V)} (e : H a = some (dN X.prog X.w a ob xs)) : L2.Inv X pins σ (upd H a (.frz ob (dN X.prog X.w a ob xs))) s := by
  have ok : ObjOk X.prog X.w H s.heap a (dN X.prog X.w a ob xs) := I.hok a _ e
  have g0 : s.heap.get? a = some ob := ok.1.1
  have := I.write (x := a) (e := a) (h' := s.heap) (t' := s.toks) (o := .frz ob (dN X.prog X.w a ob xs)) (by rw [e]; exact True.intro) (.inl rfl) (fun _ _ _ m => m) ⟨ob, g0⟩ ⟨g0, ok⟩
  exact this
def iKeysN (X : Cx) (te : TE) : TI := fun σ H R => te σ H fun x H1 => ∃ a ob xs, x = .ref a ∧ ((H1 a = some (dN X.prog X.w a ob xs) ∧ R (ItN X.prog X.w a ob xs) (upd H1 a (.frz ob (dN X.prog X.w a ob xs)))) ∨ (DN X.prog X.w H1 a ob xs ∧ R (ItN X.prog X.w a ob xs) H1))
theorem pi_keysN {e : Expr} {te : TE} (he : PE X e te) : PI X tg e (iKeysN X te) := by
  refine ⟨fun pins s σ H R I q => ?_⟩
  refine thn (he.run pins s σ H _ I q) fun u s1 ⟨x, H1, I1, rx, a, ob, xs, ex, q1⟩ => ?_
  subst ex
  cases rx
  have main : ∀ H2, L2.Inv X pins σ H2 s1 → DN X.prog X.w H2 a ob xs → R (ItN X.prog X.w a ob xs) H2 → wpAny (model X.prog X.w) X.A (pyIter (.ref a)) (PIE X pins σ tg R) X.xe s1 := fun H2 I2 dn q2 => by
    obtain ⟨g0, hd, ys, es, ep, l, g1, g2, g3⟩ := dn_raw I2 dn
    have hs : es.size = xs.length := by rw [size_of_entries g3, lies_len l]
    refine iter_keys hd g0 g1 g2 (pi_one (tk := s1.toks) I2 _ (turn_N _ g2 hs) ⟨_, Heap.get?_push_size _ rfl, rfl, ?_⟩ q2)
    rw [hs]
    rfl
  rcases q1 with ⟨e1, q2⟩ | ⟨dn, q2⟩
  · exact main _ (lock_ok I1 e1) (.inr upd_same) q2
  · exact main _ I1 dn q2
theorem itm_N {K : PySem.W.Frag} {P : Program} {w : World} {a : Addr} {ob : Obj} {kvs : List (D × D)} {xs : List (NestedKey × Addr × V)} (hl : kvs.length = xs.length) (hP : ca.P = P) (hw : ca.w = w) : Itm K nm ca (ItN P w a ob xs) (kvs.map (·.1)) (fun β H => (H a = some (.frz ob (dN P w a ob xs)) ∨ (DN P w H a ob xs ∧ a ∉ β)) ∧ RelK K nm ca β H kvs xs) where
  mono := fun {β H β' H'} st g => by
    refine ⟨?_, g.2.mono st⟩
    rcases g.1 with g1 | ⟨g1, g2⟩
    · exact .inl (st.frz _ _ _ g1)
    · refine .inr ⟨g1.imp (fun e => st.oth _ _ e g2 nt_dN) fun e => st.oth _ _ e g2 nt_frz, fun m => ?_⟩
      rcases st.new _ m with m | m
      · exact g2 m
      · rcases g1 with h | h <;> (rw [h] at m; cases m)
  goes := fun i β H hi g => ⟨by rcases g.1 with g1 | ⟨g1, _⟩; exact .inr g1; exact g1, by simpa [hl] using hi⟩
  stops := fun β H g => ⟨by rcases g.1 with g1 | ⟨g1, _⟩; exact .inr g1; exact g1, by simp [hl]⟩
  yields := fun i β H v H' hi g y => by
    obtain ⟨rfl, k, b, vv, e1, rfl⟩ := y
    have hk := keysL g.2
    have hi' : i < kvs.length := by simpa using hi
    obtain ⟨w', e2, e3⟩ := hk.get (i := i) (x := kvs[i].1) (by simp [hi'])
    rw [List.getElem?_map, e1] at e2
    cases e2
    exact ⟨Stp.refl _ _, fun _ r => r, _, by simp [hi'], e3⟩
theorem i_dkeys {e : Expr} {c : E} (hc : CaOk X ca) (h : SE X nm ca T cl e c) : SI X nm ca T cl tg e (.dkeys c) := by
  refine PI.imp (pi_keysN h) fun τ H R ⟨σ, h, β, rs, rh, p⟩ => ?_
  simp only [evI] at p
  obtain ⟨x, h1, e1, p⟩ := p.bind
  refine re1 rs rh e1 fun vx H1 β1 st rs1 rh1 rx => ?_
  cases x with
  | dct kvs =>
    cases rx with
    | dct k1 k2 k3 =>
      rw [hc.1, hc.2] at k1
      exact ⟨_, _, _, rfl, .inr ⟨k1, p H1 β1 _ _ st rh1 (itm_N k3.len hc.1 hc.2) ⟨.inr ⟨k1, k2⟩, k3⟩⟩⟩
  | ref n =>
    obtain ⟨a, rfl, hβ⟩ := rx.ref_inv
    cases q : h1[n]? with
    | none => simp only [q] at p; exact p.elim
    | some oo =>
      have ro := rh1.obj n oo a q hβ
      cases oo with
      | dct kvs =>
        simp only [q] at p
        obtain ⟨ob, xs, j1, j2⟩ := ro
        have sw : Stp β1 H1 β1 (upd H1 a (.frz ob (dN ca.P ca.w a ob xs))) := Stp.write (List.mem_of_getElem? hβ) j1 (fun _ z => nomatch z) (fun _ _ z => nomatch z)
        refine ⟨a, ob, xs, rfl, .inl ⟨by rw [← hc.1, ← hc.2]; exact j1, ?_⟩⟩
        rw [← hc.1, ← hc.2]
        exact p _ β1 _ _ (st.trans sw) (rh1.write hβ sw ⟨ob, xs, upd_same, j2.mono sw⟩) (itm_N j2.len rfl rfl) ⟨.inl upd_same, j2.mono sw⟩
      | lkd kvs =>
        simp only [q] at p
        obtain ⟨ob, xs, j1, j2⟩ := ro
        refine ⟨a, ob, xs, rfl, .inr ⟨by rw [← hc.1, ← hc.2]; exact .inr j1, ?_⟩⟩
        rw [← hc.1, ← hc.2]
        exact p _ β1 _ _ st rh1 (itm_N j2.len rfl rfl) ⟨.inl j1, j2⟩
      | lst _ => simp only [q] at p; exact p.elim
      | ins _ _ => simp only [q] at p; exact p.elim
  | _ => exact p.elim
end
end MC

set_option Elab.async false
set_option linter.all false
set_option maxRecDepth 100000
set_option maxHeartbeats 4000000
namespace MC
open PySem PySem.Spec PyProof.Rows L2
section
variable {X : Cx} {nm : Nat → Str} {ca : CaT} {T : Tab} {cl : Nat → List D → Hs → Res D}
/-! ### many stores -/
theorem merge_rel {β : List Addr} {H : Hp} : ∀ {more kvs : List (D × D)} {ms xs : List (NestedKey × Addr × V)} {zs ys : List (NestedKey × Addr × Value)}, RelK X.K nm ca β H more ms → Lies ms zs → RelK X.K nm ca β H kvs xs → Lies xs ys →
    ∃ xs', RelK X.K nm ca β H (mergeN kvs more) xs' ∧ Lies xs' (storedAllH ys zs) ∧ xs'.length ≤ xs.length + ms.length
  | _, kvs, _, xs, _, ys, .nil, l, r, l2 => by
    cases l
    exact ⟨xs, by simpa [mergeN] using r, l2, by simp⟩
  | _, kvs, _, xs, _, ys, .cons (d := d) (e := e) (k := k) (a := a) (v := v) ek h1 h2 t, l, r, l2 => by
    cases l with
    | @cons p q ps qs r1 r2 =>
      obtain ⟨j1, j2, j3⟩ := r1
      simp only at j1 j2 j3
      obtain ⟨xs1, p1, p2, p3⟩ := put_rel ek h1 h2 j3 r l2
      obtain ⟨xs2, q1, q2, q3⟩ := merge_rel t r2 p1 p2
      refine ⟨xs2, ?_, ?_, by simp; omega⟩
      · simp only [mergeN, ek]
        exact q1
      · have : storedAllH ys (q :: qs) = storedAllH (storedH ys q.1 q.2.1 q.2.2) qs := rfl
        rw [this, ← j1, ← j2]
        exact q2
/-! ### d.update(e) -/
def rUpN (X : Cx) (nm : Nat → Str) (ca : CaT) : V → V → Hp → VK → Prop := fun x y H Q => ∃ (β : List Addr) (a b : Addr) (ob ob2 : Obj) (kvs more : List (D × D)) (xs ms : List (NestedKey × Addr × V)), x = .ref a ∧ y = .ref b ∧ a ≠ b ∧ H a = some (dN X.prog X.w a ob xs) ∧ DN X.prog X.w H b ob2 ms ∧ RelK X.K nm ca β H kvs xs ∧ RelK X.K nm ca β H more ms ∧ kvs ≠ [] ∧ kvs.length + more.length ≤ sizeLine ∧
  ∀ ob' xs', RelK X.K nm ca β H (mergeN kvs more) xs' → Q .non (upd H a (dN X.prog X.w a ob' xs'))
def tUpN (X : Cx) (nm : Nat → Str) (ca : CaT) (to te : TE) : TE := fun σ H Q => to σ H fun x H1 => (∃ β a ob kvs xs, x = .ref a ∧ DN X.prog X.w H1 a ob xs ∧ RelK X.K nm ca β H1 kvs xs) ∧ te σ H1 fun y H2 => rUpN X nm ca x y H2 Q
theorem pe_upN {o e : Expr} {to te : TE} {apos pos : Pos} (hu : X.A.units + 64 < cLine) (ho : PE X o to) (he : PE X e te) (hb : plainO o = true) (hs : isSt e = false) (hline : (apos.endLine == pos.line) = true) : PE X (.Call (.Attribute o "update" apos) [e] [] pos) (tUpN X nm ca to te) := by
  refine ⟨fun pins s σ H Q I q => ?_⟩
  have few : (backTo pos (starEach [e] X.env)).all (fun x => !x.1) = true := star_all (by simp [hs])
  have tr : backTo pos (starEach [e] X.env) = [(false, eval e X.env)] := by rw [starEach_plain hs]; rfl
  refine wpAny_Call_method (base_ok hb) (by rw [few]; rfl) hline PySem.F.plainAttrs_dict PySem.F.slot_dict_update PySem.F.type_dict_update (thn (ho.run pins s σ H _ I q) fun u s1 ⟨x, H1, I1, rx, ⟨β, a, ob, kvs, xs, ex, e1, e2⟩, q1⟩ => ?_)
  subst ex
  cases rx
  obtain ⟨g0, _, _, ys, _, _, dd⟩ := dn_at I1 e1 e2
  refine ⟨dd.typeIs, fun c ec => ?_, ?_⟩
  · cases ec
    obtain ⟨oo, _, _, m1, m2, _⟩ := dd
    exact ⟨oo, m1, m2.2.1⟩
  rw [tr]
  refine Calls.callWith_builtin rfl (Calls.evalArgs_plain (Calls.spliced_cons (thn (he.run pins s1 σ H1 _ I1 q1) fun iv s2 ⟨y, H2, I2, ry, q2⟩ => Calls.spliced_nil ?_)))
  obtain ⟨β2, a2, b2, ob2, ob3, kvs2, more, xs2, ms, ea, rfl, hne, k1, k2, k3, k4, k5, k6, q2⟩ := q2
  cases ea
  cases ry
  obtain ⟨_, z1, hd, ys1, l1, _, dd1⟩ := dn_at I2 (.inl k1) k3
  obtain ⟨_, z2, hd2, zs, l2, _, dd2⟩ := dn_at I2 k2 k4
  have n1 := lies_len l1
  have n2 := lies_len l2
  have n3 := k3.len
  have n4 := k4.len
  obtain ⟨xs', p1, p2, p3⟩ := merge_rel k4 l2 k3 l1
  refine call_update_dictH (room_key hu) hne hd2 dd1 dd2 (.inl ?_) (by omega) fun h' dd' _ same => ?_
  · intro en
    rw [en] at n1
    exact k5 (List.length_eq_zero_iff.mp (n3.trans n1))
  · obtain ⟨oq, hq⟩ : ∃ q, h'.get? a = some q := let ⟨q, _, _, hq, _⟩ := dd'; ⟨q, hq⟩
    obtain ⟨ob', new'⟩ := dn_ok (H' := upd H2 a (dN X.prog X.w a oq xs')) (by omega) hd p2 dd'
    have ee : ob' = oq := by
      have := new'.1.1
      rw [hq] at this
      exact (Option.some.inj this).symm
    subst ee
    exact ⟨.non, _, d_write (t' := s2.toks) I2 (by rw [k1]; exact True.intro) same ⟨_, hq⟩ new', rfl, q2 ob' xs' p1⟩
theorem s_dupd {o e : Expr} {c c' : E} {apos pos : Pos} (hc : CaOk X ca) (hu : X.A.units + 64 < cLine) (ha : SE X nm ca T cl o c) (he : SE X nm ca T cl e c') (hb : plainO o = true) (hs : isSt e = false) (hline : (apos.endLine == pos.line) = true) : SE X nm ca T cl (.Call (.Attribute o "update" apos) [e] [] pos) (.dupd c c') := by
  refine PE.imp (pe_upN (nm := nm) (ca := ca) hu ha he hb hs hline) fun τ H Q ⟨σ, h, β, rs, rh, p⟩ => ?_
  simp only [evE] at p
  obtain ⟨x, h1, e1, p⟩ := p.bind
  cases q : x.kvs h1 with
  | none => simp only [q] at p; exact p.elim
  | some kv0 =>
    simp only [q] at p
    obtain ⟨y, h2, e2, p⟩ := p.bind
    refine re1 rs rh e1 fun vx H1 β1 st rs1 rh1 rx => ⟨?_, re1 rs1 rh1 e2 fun vy H2 β2 st2 rs2 rh2 ry => ?_⟩
    · obtain ⟨a, ob, xs, rfl, j1, j2⟩ := kvs_inv rh1 rx q
      rw [hc.1, hc.2] at j1
      exact ⟨β1, a, ob, kv0, xs, rfl, j1, j2⟩
    · have rx2 := rx.mono st2
      unfold updM at p
      cases x with
      | ref n =>
        cases q2 : y.kvs h2 with
        | none => simp only [q2] at p; exact p.elim
        | some more =>
          simp only [q2] at p
          cases q3 : h2[n]? with
          | none => rw [q3] at p; exact p.elim
          | some oo =>
            rw [q3] at p
            cases oo with
            | dct kvs =>
              simp only at p
              split at p
              · rename_i hcond
                rw [Bool.and_eq_true, Bool.and_eq_true] at hcond
                obtain ⟨⟨w1, w2⟩, w3⟩ := hcond
                have w1 : kvs ≠ [] := by rintro rfl; cases w1
                have w2 : kvs.length + more.length ≤ sizeLine := by simpa using w2
                obtain ⟨a, rfl, hβ⟩ := rx2.ref_inv
                obtain ⟨ob, xs, j1, j2⟩ := rh2.obj n _ a q3 hβ
                obtain ⟨b, ob2, ms, rfl, k1, k2⟩ := kvs_inv rh2 ry q2
                have hne : a ≠ b := by
                  rintro rfl
                  cases y with
                  | ref m =>
                    obtain ⟨b', eb, hb'⟩ := ry.ref_inv
                    cases eb
                    obtain ⟨h1', x1⟩ := List.getElem?_eq_some_iff.mp hβ
                    obtain ⟨h2', x2⟩ := List.getElem?_eq_some_iff.mp hb'
                    have := (List.getElem_inj rh2.nd).mp (x1.trans x2.symm)
                    subst this
                    simp [notRef] at w3
                  | dct _ =>
                    cases ry with
                    | dct _ nb _ => exact nb (List.mem_of_getElem? hβ)
                  | _ => cases q2
                refine ⟨β2, a, b, ob, ob2, kvs, more, xs, ms, rfl, rfl, hne, by rw [← hc.1, ← hc.2]; exact j1, by rw [← hc.1, ← hc.2]; exact k1, j2, k2, w1, w2, fun ob' xs' r' => ?_⟩
                rw [← hc.1, ← hc.2]
                have sw : Stp β2 H2 β2 (upd H2 a (dN ca.P ca.w a ob' xs')) := Stp.write (List.mem_of_getElem? hβ) j1 (fun _ z => nomatch z) (fun _ _ z => nomatch z)
                exact p _ _ β2 ((st.trans st2).trans sw) (rh2.write hβ sw ⟨ob', xs', upd_same, r'.mono sw⟩) .non
              · exact p.elim
            | _ => exact p.elim
      | _ => exact p.elim
/-! ### xs.pop(0) -/
theorem s_pop0 {o : Expr} {c : E} {k : Nat} {p0 apos pos : Pos} (ha : SE X nm ca T cl o c) (hb : plainO o = true) (hline : (apos.endLine == pos.line) = true) : SE X nm ca T cl (.Call (.Attribute o "pop" apos) [.Constant (.int 0) k p0] [] pos) (.pop0 c) := by
  refine PE.imp (pe_bm PySem.F.plainAttrs_list PySem.F.slot_list_pop PySem.F.type_list_pop mt_popAt ha (a_cons (s_cst (nm := nm) (ca := ca) (T := T) (cl := cl) (d := .int 0) (by rfl)) a_nil rfl) (base_ok hb) rfl hline rfl rfl) fun τ H Q ⟨σ, h, β, rs, rh, p⟩ => ?_
  simp only [evE] at p
  obtain ⟨x, h1, e1, p⟩ := p.bind
  unfold popM at p
  cases x with
  | ref n =>
    cases q : h1[n]? with
    | none => simp only [q] at p; exact p.elim
    | some oo =>
      simp only [q] at p
      cases oo with
      | lst xs =>
        cases xs with
        | nil => exact p.elim
        | cons y ys =>
          simp only at p
          refine re1 rs rh e1 fun vx H1 β1 st rs1 rh1 rx => ?_
          obtain ⟨a, rfl, hβ⟩ := rx.ref_inv
          obtain ⟨vs, j1, j2⟩ := rh1.obj n _ a q hβ
          cases j2 with
          | @cons _ v _ vs r1 r2 =>
            refine ⟨.inl ⟨rfl, _, SqL.of j1⟩, ra1 (x := [.int 0]) (h1 := h1) rs1 rh1 (by simp [evA, evE, Res.bind]) fun vxs H2 β2 st2 rs2 rh2 rxs => ?_⟩
            obtain ⟨w, rfl, rw'⟩ := one_rel rxs
            cases rw'
            have hβ2 := st2.get hβ
            obtain ⟨vs2, j3, j4⟩ := rh2.obj n _ a q hβ2
            cases j4 with
            | @cons _ v2 _ vs2 r3 r4 =>
              refine ⟨a, v2 :: vs2, 0, 0, v2, rfl, rfl, j3, by decide, by decide, by simp [seqIndex?], rfl, ?_⟩
              have sw : Stp β2 H2 β2 (upd H2 a (.lst vs2)) := Stp.write (List.mem_of_getElem? hβ2) j3 (fun _ z => nomatch z) (fun _ _ z => nomatch z)
              exact p v2 _ β2 ((st.trans st2).trans sw) (rh2.write hβ2 sw ⟨_, upd_same, r4.mono sw⟩) (r3.mono sw)
      | _ => exact p.elim
  | _ => exact p.elim
end
end MC

set_option Elab.async false
set_option linter.all false
set_option maxRecDepth 100000
set_option maxHeartbeats 4000000
namespace MC
open PySem PySem.Spec PyProof.Rows L2
section
variable {X : Cx} {nm : Nat → Str} {ca : CaT} {T : Tab} {cl : Nat → List D → Hs → Res D}
/-! ### dict([(k, v), ..]) -/
theorem pairsD_inv {y : D} {xs : List D} {kvs : List (D × D)} (e : pairsD (y :: xs) = some kvs) : ∃ a v k ks, y = .tup [a, v] ∧ a.tkey = some k ∧ pairsD xs = some ks ∧ kvs = (a, v) :: ks := by
  unfold pairsD at e
  split at e
  · cases ‹_ :: _ = []›
  · rename_i a v r heq
    cases heq
    split at e
    · rename_i k s q1 q2
      cases e
      exact ⟨a, v, _, _, rfl, q1, q2, rfl⟩
    · cases e
  · cases e
theorem gather {pins : List (Addr × Obj)} {σ : L2.St} {β : List Addr} {H : Hp} {s : Shared} (I : L2.Inv X pins σ H s) : ∀ {ds : List D} {vs : List V} {us : List Value} {kvs : List (D × D)}, RelL X.K nm ca β H ds vs → Vals vs us → pairsD ds = some kvs →
    ∃ (ts : List Addr) (xs : List (NestedKey × Addr × V)) (zs : List (NestedKey × Addr × Value)), us = ts.map Value.ref ∧ ts.length = zs.length ∧ (∀ (j : Nat) (z : NestedKey × Addr × Value), zs[j]? = some z → ∃ t, ts[j]? = some t ∧ s.heap.IsTuple t #[.ref z.2.1, z.2.2]) ∧ RelK X.K nm ca β H kvs xs ∧ Lies xs zs
  | _, _, _, _, .nil, r, e => by
    cases r
    cases e
    exact ⟨[], [], [], rfl, rfl, fun j z h => by simp at h, .nil, .nil⟩
  | _, _, _, _, .cons h t, r, e => by
    cases r with
    | cons r1 r2 =>
      obtain ⟨a, v, k, ks, rfl, e1, e2, rfl⟩ := pairsD_inv e
      obtain ⟨ts, xs, zs, i1, i2, i3, i4, i5⟩ := gather I t r2 e2
      obtain ⟨tp, ws, rfl, g1, g2⟩ := h.tup_inv
      cases r1
      cases g2 with
      | cons g3 g4 =>
        obtain ⟨y, rfl, g5⟩ := one_rel g4
        obtain ⟨b, rfl⟩ := tkey_ref g3 e1
        obtain ⟨its, rv, ⟨o, m1, m2, n, m3⟩, _⟩ := I.tuple g1
        cases rv with
        | cons rv1 rv2 =>
          cases rv1
          obtain ⟨u2, rfl, rv3⟩ := vals1 rv2
          refine ⟨tp :: ts, (k, b, y) :: xs, (k, b, u2) :: zs, by simp [i1], by simp [i2], fun j z hz => ?_, .cons e1 g3 g5 i4, .cons ⟨rfl, rfl, rv3⟩ i5⟩
          cases j with
          | zero =>
            simp at hz
            subst hz
            exact ⟨tp, rfl, o, m1, m2, n, m3⟩
          | succ j => exact i3 j z (by simpa using hz)
def rDof (X : Cx) (nm : Nat → Str) (ca : CaT) : List V → Hp → VK → Prop := fun us H Q => ∃ (β : List Addr) (a : Addr) (ds : List D) (vs : List V) (kvs : List (D × D)), us = [.ref a] ∧ SqL X.K H a vs ∧ RelL X.K nm ca β H ds vs ∧ pairsD ds = some kvs ∧ kvs.length ≤ sizeLine ∧
  ∀ p ob' xs', H p = none → RelK X.K nm ca β H (mergeN [] kvs) xs' → Q (.ref p) (upd H p (dN X.prog X.w p ob' xs'))
theorem call_dof (hcm : X.calm = true) (hu : X.A.units + 64 < cLine) : CallR X (.type "dict") (rDof X nm ca) := by
  intro pins s σ H us ws Q I r q
  obtain ⟨β, a, ds, vs, kvs, rfl, g1, g2, g3, g4, q⟩ := q
  obtain ⟨u, rfl, ru⟩ := vals1 r
  cases ru
  obtain ⟨its, rv, pl, hz⟩ := I.list g1
  obtain ⟨ts, xs, zs, i1, i2, i3, i4, i5⟩ := gather I g2 rv g3
  have n1 := lies_len i5
  have n2 := i4.len
  have hn := I.hok.fresh (Nat.le_refl s.heap.objs.size)
  obtain ⟨xs', p1, p2, p3⟩ := merge_rel i4 i5 (kvs := []) .nil .nil
  have hsm : sysModules < s.heap.objs.size := I.big
  refine call_dict_pairsH (knd := nestedKind X.prog X.w) (ps := zs) (PairArg.list a its.toArray (fun j => ts.getD j 0) (zs.map fun z => (Value.ref z.2.1, z.2.2))) (I.ok.hd hcm) ?_ ⟨?_, ?_, ?_⟩ ⟨by simp, ?_⟩ ?_ (by simp; omega) fun h' tk dd' keep => ?_
  · show X.A.units + 1 + 1 + 8 < cLine
    omega
  · obtain ⟨o, n, m1, m2, m3, m4⟩ := pl
    exact ⟨o, n, m1, m2, m3, m4⟩
  · have : its = ts.map Value.ref := i1
    simp [this, i2]
  · intro j k v hj
    rw [List.getElem?_map] at hj
    cases hz' : zs[j]? with
    | none => rw [hz'] at hj; cases hj
    | some z =>
      rw [hz'] at hj
      cases hj
      obtain ⟨t, t1, t2⟩ := i3 j z hz'
      have et : ts.getD j 0 = t := by simp [List.getD, t1]
      refine ⟨?_, ?_⟩
      · have : its = ts.map Value.ref := i1
        show its.toArray[j]? = some (Value.ref (ts.getD j 0))
        rw [this, et]
        simp [t1]
      · show PairAt s.heap (ts.getD j 0) _ _
        rw [et]
        exact .inl t2
  · intro i key v hr
    have hr : (zs.map fun z => (Value.ref z.2.1, z.2.2))[i]? = some (key, v) := hr
    rw [List.getElem?_map] at hr
    cases hz' : zs[i]? with
    | none => rw [hz'] at hr; cases hr
    | some z =>
      rw [hz'] at hr
      cases hr
      exact ⟨z.1, z.2.1, rfl, rfl⟩
  · intro h' keep x hx
    exact nestedKind_stays.stays (fun b o _ _ m _ => keep b o (Nat.ne_of_lt (Heap.lt_size m)) (fun zz => nomatch zz) m) (RelK.is I i4 i5 x hx)
  · obtain ⟨oq, hq⟩ : ∃ q, h'.get? s.heap.objs.size = some q := let ⟨q, _, _, hq, _⟩ := dd'; ⟨q, hq⟩
    have hd : (s.heap.objs.size == sysModules) = false := beq_eq_false_iff_ne.mpr (Ne.symm (Nat.ne_of_lt hsm))
    obtain ⟨ob', new'⟩ := dn_ok (H' := upd H s.heap.objs.size (dN X.prog X.w s.heap.objs.size oq xs')) (by simp at p3; omega) hd p2 dd'
    have ee : ob' = oq := by
      have := new'.1.1
      rw [hq] at this
      exact (Option.some.inj this).symm
    subst ee
    exact ⟨.ref s.heap.objs.size, _, I.laid (t' := tk) (fun c o m => keep c o (fun zz => nomatch zz) m) (Nat.le_refl _) new', rfl, q _ ob' xs' hn p1⟩
theorem s_dof {e : Expr} {c : E} {p pos : Pos} (hc : CaOk X ca) (hcm : X.calm = true) (hu : X.A.units + 64 < cLine) (hg : Gl X "dict") (hm : X.mg "dict" = none) (ha : SE X nm ca T cl e c) (hs : isSt e = false) : SE X nm ca T cl (.Call (.Name "dict" p) [e] [] pos) (.dof c) := by
  refine PE.imp (pe_callTy (call_dof (nm := nm) (ca := ca) hcm hu) hg hm (by decide +kernel) (a_cons ha a_nil hs) (by decide) (by decide) (starEach_plain hs) rfl) fun τ H Q ⟨σ, h, β, rs, rh, p⟩ => ?_
  simp only [evE] at p
  obtain ⟨x, h1, e1, p⟩ := p.bind
  cases q : x.lseq h1 with
  | none => simp only [q] at p; exact p.elim
  | some ds =>
    simp only [q] at p
    cases q2 : pairsD ds with
    | none => simp only [q2] at p; exact p.elim
    | some kvs =>
      simp only [q2] at p
      split at p
      · rename_i hz
        refine ra1 (x := [x]) (h1 := h1) rs rh (by simp [evA, e1, Res.bind]) fun vxs H1 β1 st rs1 rh1 rx => ?_
        obtain ⟨v, rfl, ry⟩ := one_rel rx
        obtain ⟨a, vs, rfl, k1, k2⟩ := lseq_inv rh1 q ry
        refine ⟨β1, a, ds, vs, kvs, rfl, k1, k2, q2, hz, fun l ob' xs' hl r' => ?_⟩
        rw [← hc.1, ← hc.2]
        exact PostE.push (d := .non) (p.step st) rh1 hl ⟨ob', xs', upd_same, r'.mono (Stp.push hl)⟩
      · exact p.elim
/-! ### a, b, c = x, y, z -/
theorem st_par3 {i j l : Nat} {x y z : Str} {a b c : Expr} {ka kb kc : E} {px py pz pt pt2 pos : Pos} {kt k2 : Nat} (hcm : X.calm = true) (hN : X.N.Nodup) (hi : X.N[i]? = some x) (hj : X.N[j]? = some y) (hl : X.N[l]? = some z) (hij : i ≠ j) (hil : i ≠ l) (hjl : j ≠ l) (hx : X.env.scope.names.lookup x = some .local) (hy : X.env.scope.names.lookup y = some .local) (hz : X.env.scope.names.lookup z = some .local) (ha : SE X nm ca T cl a ka) (hb : SE X nm ca T cl b kb) (hc : SE X nm ca T cl c kc)
    (hs : isSt a = false) (hs2 : isSt b = false) (hs3 : isSt c = false) (hw : swappedStores [.Tuple [.Name x px, .Name y py, .Name z pz] kt pt] (.Tuple [a, b, c] k2 pt2) X.env = pure (some [x, y, z])) : SS X nm ca T cl (.Assign [.Tuple [.Name x px, .Name y py, .Name z pz] kt pt] (.Tuple [a, b, c] k2 pt2) pos) (.par3 i j l ka kb kc) := by
  refine PS.imp (ps_par3 hcm hN hi hj hl hij hil hjl hx hy hz (a_cons ha (a_cons hb (a_cons hc a_nil hs3) hs2) hs) hw rfl) fun D τ H ⟨σ, h, β, rs, rh, p⟩ => ?_
  simp only [evS] at p
  obtain ⟨d, h1, e1, p⟩ := p.bind
  obtain ⟨d2, h2, e2, p⟩ := p.bind
  obtain ⟨d3, h3, e3, p⟩ := p.bind
  refine ra1 (x := [d, d2, d3]) (h1 := h3) rs rh (by simp [evA, e1, e2, e3, Res.bind]) fun vxs H1 β1 st rs1 rh1 rx => ?_
  cases rx with
  | cons r1 r2 =>
    cases r2 with
    | cons r2 r3 =>
      obtain ⟨v, rfl, ry⟩ := one_rel r3
      exact ⟨_, _, _, rfl, p _ H1 β1 st (((rs1.set r1).set r2).set ry) rh1⟩
end
end MC

set_option Elab.async false
set_option linter.all false
set_option maxRecDepth 100000
set_option maxHeartbeats 4000000
namespace MC
open PySem PySem.Spec PyProof.Rows L2
section
variable {X : Cx} {nm : Nat → Str} {ca : CaT} {T : Tab} {cl : Nat → List D → Hs → Res D} {tg : Expr}
/-! ### {k: v for ..}, the keys tuples -/
theorem dset_N {pins : List (Addr × Obj)} {σ : L2.St} {H : Hp} {s : Shared} {E : Value → Shared → Prop} {a : Addr} {y z : V} {yv zv : Value} {N : Hp → Prop} {R : Unit → Shared → Prop} (hu : X.A.units + 64 < cLine) (I : L2.Inv X pins σ H s) (ry : RelV y yv) (rz : RelV z zv) (q : rDst X nm ca (.ref a) y z H N) (fin : ∀ g G, L2.Inv X pins σ G g → N G → R () g) : wpAny (model X.prog X.w) X.A (dictSet a yv zv) R E s := by
  obtain ⟨β, a', b, ob, d, e, k, kvs, xs, ea, rfl, e1, e2, hz, e3, e4, e5, q⟩ := q
  cases ea
  cases ry
  obtain ⟨_, z', hd, ys, l, _, dd⟩ := dn_at I (.inl e1) e2
  have l1 := lies_len l
  have l2 := e2.len
  obtain ⟨xs', p1, p2, p3⟩ := put_rel e4 e3 e5 rz e2 l
  refine wpAny_dictSet_heap (hsz := by omega) (room_key0 hu) (key_is I e3 e4) dd fun h' dd' same => ?_
  obtain ⟨oq, hq⟩ : ∃ q, h'.get? a = some q := let ⟨q, _, _, hq, _⟩ := dd'; ⟨q, hq⟩
  obtain ⟨ob', new'⟩ := dn_ok (H' := upd H a (dN X.prog X.w a oq xs')) (by omega) hd p2 dd'
  have ee : ob' = oq := by
    have := new'.1.1
    rw [hq] at this
    exact (Option.some.inj this).symm
  subst ee
  exact fin _ _ (d_write I (by rw [e1]; exact True.intro) same ⟨_, hq⟩ new') (q ob' xs' p1)
def tDcN (X : Cx) (nm : Nat → Str) (ca : CaT) (wi : TI) (tgt : TG) (tt : TT) (tk tv : TE) (vs : List Nat) : TE := fun σ H Q => wi σ H fun J G => ∀ a ob, G a = none → ∃ W : Nat → Nat → Hp → Prop, (∃ m, W 0 m (upd G a (dN X.prog X.w a ob []))) ∧ ∀ i m G', W i m G' →
  (J.stop i G' ∧ Q (.ref a) G') ∨ (J.go i G' ∧ ∃ N : Hp → Prop, (∀ G2, N G2 → ∃ m', m' < m ∧ W (i + 1) m' G2) ∧ ∀ x G2, J.yld i G' x G2 → tgt x (wipe σ vs) G2 fun σ2 G3 => wipe σ2 vs = wipe σ vs ∧ tt σ2 G3 fun t G4 =>
    if t = true then tk σ2 G4 fun y G5 => tv σ2 G5 fun z G6 => rDst X nm ca (.ref a) y z G6 N else N G4)
abbrev Blk (X : Cx) (scope : Scope) (P : Cx → Prop) : Prop := ∀ (s : Shared) (H : Hp) (C : Addr) (cs : List (Str × Addr)) (fp : List Addr), P (X.blk s H scope (compEnvC scope cs C X.env) fp)
theorem dcN_core {pins : List (Addr × Obj)} {s0 : Shared} {σ : L2.St} {H : Hp} {Q : VK} {use : Option (Value → Sem Unit)} {Qf : Value → Shared → Prop} {kx vx iter : Expr} {ifs : List Expr} {scope : Scope} {own : List (Str × Nat)} {pos pos' : Pos} {wi : TI} {tgt : TG} {tt : TT} {tk tv : TE} (hu : X.A.units + 64 < cLine) (calm : X.calm = true) (nd : X.N.Nodup) (hi : PI X tg iter wi) (ok : BlkOk X.N X.env.scope scope own)
    (bg : Blk X scope fun Y => PG Y tg tgt) (bt : Blk X scope fun Y => PTs Y ifs tt) (bk : Blk X scope fun Y => PE Y kx tk) (bv : Blk X scope fun Y => PE Y vx tv) (hs : ∀ x, foldedSetIterable iter X.env x = pure x)
    (I0 : L2.Inv X pins σ H s0) (q0 : tDcN X nm ca wi tgt tt tk tv (own.map (·.2)) σ H Q) (fin : ∀ a C s' m G', L2.Inv X pins σ G' s' → Q (.ref a) G' → s'.heap.Ns C m → FpOk X pins G' C → compPost (model X.prog X.w) X.A X.xe use Qf (.ref a) C (.ok .next) s') :
    wpAny (model X.prog X.w) X.A (comprehension (.DictComp kx vx [⟨tg, iter, ifs, 0⟩] scope pos) scope X.env pos' newDict false (eval iter X.env) use) Qf X.xe s0 := by
  have cells : ∀ y ∈ scope.names, y.2 = .free → ∃ c, X.env.cells.lookup y.1 = some c := fun y m fr => by
    rcases ok.free y m fr with t | t
    · exact I0.ok.has _ (.inl t)
    · exact I0.ok.has _ (.inr t)
  refine wpAny_comprehension_free (use := use) rfl hs (closure_ok cells) ok.kind (fun y m fr => by rw [ok.uniq y m, fr]) (thn (hi.run pins s0 σ H _ I0 q0) fun xv s1 hx => thn hx fun itv s2 q2 => ?_)
  obtain ⟨it, fp, tn, J, G, rfl, I2, TT, t2, f2, q⟩ := q2
  refine wpAny_newObj_type (newEnv_comp ?_)
  generalize ha : s2.heap.objs.size = a
  have na : G a = none := I2.hok.fresh (Nat.le_of_eq ha)
  -- the new dict
  obtain ⟨ob, new⟩ := dn_new (P := X.prog) (w := X.w) (H := upd G a (dN X.prog X.w a { cls := .type "dict", data := .dict #[] } [])) s2.heap I2.big
  have eo : ob = { cls := .type "dict", data := .dict #[] } := by
    have := new.1.1
    rw [Heap.get?_push_size _ rfl] at this
    exact (Option.some.inj this).symm
  subst eo
  rw [ha] at new
  obtain ⟨W, ⟨m0, w0⟩, turn⟩ := q a { cls := .type "dict", data := .dict #[] } na
  have I3 := I2.laid (t' := s2.toks) (fun _ _ m => Heap.get?_push_of_some _ m) (Nat.le_of_eq ha) new
  generalize e3 : ({ s2 with heap := s2.heap.push { cls := .type "dict", data := .dict #[] } } : Shared) = s3 at I3
  have h3 : s3.heap = s2.heap.push { cls := .type "dict", data := .dict #[] } := by rw [← e3]
  have I3' : L2.Inv X pins σ (upd G a (dN X.prog X.w a { cls := .type "dict", data := .dict #[] } [])) s3 := by
    rw [← e3]
    exact I2.laid (t' := s2.toks) (fun _ _ m => Heap.get?_push_of_some _ m) (Nat.le_of_eq ha) new
  generalize eG : upd G a (dN X.prog X.w a { cls := .type "dict", data := .dict #[] } []) = G3 at I3' w0
  have f3 : ∀ c ∈ fp, FpOk X pins G3 c ∧ c < s3.heap.objs.size := fun c m => by
    obtain ⟨oc, ec, _⟩ := TT.obj _ _ t2 c m
    have lt := Heap.lt_size ec
    have nc : G3 c = none := by
      rw [← eG, upd_ne (by rw [← ha]; exact Nat.ne_of_lt lt)]
      exact (f2 c m).1
    exact ⟨⟨nc, (f2 c m).2⟩, by rw [h3, Heap.size_push]; exact Nat.lt_succ_of_lt lt⟩
  have t3 : tn 0 s3.heap := TT.keep _ _ _ t2 fun c _ o m => by rw [h3]; exact Heap.get?_push_of_some _ m
  have I4 := block_start I3' ok nd f3
  have pg := bg s3 G3 s3.heap.objs.size (cellsFrom (s3.heap.objs.size + 1) scope.names (cloFrom X.env.cells scope.names [])) fp
  have pt := bt s3 G3 s3.heap.objs.size (cellsFrom (s3.heap.objs.size + 1) scope.names (cloFrom X.env.cells scope.names [])) fp
  have pk := bk s3 G3 s3.heap.objs.size (cellsFrom (s3.heap.objs.size + 1) scope.names (cloFrom X.env.cells scope.names [])) fp
  have pv := bv s3 G3 s3.heap.objs.size (cellsFrom (s3.heap.objs.size + 1) scope.names (cloFrom X.env.cells scope.names [])) fp
  have shape : ∀ cs : List (Str × Addr), cs = cellsFrom (s3.heap.objs.size + 1) scope.names (cloFrom X.env.cells scope.names []) →
      codeAny (model X.prog X.w) X.A (.compStart (.DictComp kx vx [⟨tg, iter, ifs, 0⟩] scope pos) 0 (.ref it) (.ref a) (compEnvC scope cs s3.heap.objs.size X.env))
        (compPost (model X.prog X.w) X.A X.xe use Qf (.ref a) s3.heap.objs.size)
        { s3 with heap := pushCells (s3.heap.push { cls := .type "dict", data := .dict #[] }) scope.names } → _ := fun cs ecs z => by
    subst ecs
    exact z
  refine shape _ rfl ?_
  generalize ec : compEnvC scope (cellsFrom (s3.heap.objs.size + 1) scope.names (cloFrom X.env.cells scope.names [])) s3.heap.objs.size X.env = ce at I4 pg pt pk pv ⊢
  have lc : ce.locals = s3.heap.objs.size := by subst ec; rfl
  generalize e4 : ({ s3 with heap := pushCells (s3.heap.push { cls := .type "dict", data := .dict #[] }) scope.names } : Shared) = s4 at I4 ⊢
  have t4 : tn 0 s4.heap := TT.keep _ _ _ t3 fun c _ o m => by rw [← e4]; exact pushCells_keeps _ _ _ _ (Heap.get?_push_of_some _ m)
  have fpB : ∀ {σ' : L2.St} {G' : Hp} {s' : Shared}, L2.Inv (X.blk s3 G3 scope ce fp) [] σ' G' s' → (∀ c ∈ fp, G' c = none) → ∀ c ∈ fp, FpOk (X.blk s3 G3 scope ce fp) [] G' c := fun {σ' G' s'} I' nn c m =>
    ⟨nn c m, (I'.ok.exf c m).1, I'.ok.exfs c m, .inl m, fun x cc z => (I'.ok.exf c m).2 x cc z, fun p pm => absurd (show p ∈ ([] : List (Addr × Obj)) ++ [] from pm) (by simp)⟩
  refine codeAny_compStart_dict ?_ (TT.self X.A 0 _ _ _ t4 ?_)
  all_goals
    refine compLoop_anyD (fun n s' => ∃ i G', L2.Inv (X.blk s3 G3 scope ce fp) [] (wipe σ (own.map (·.2))) G' s' ∧ tn i s'.heap ∧ (∀ c ∈ fp, G' c = none) ∧ W i n G') ?_ m0 ⟨0, G3, I4, t4, fun c m => (f3 c m).1.1, w0⟩
    rintro n s5 ⟨i, G5, I5, t5, n5, w5⟩
    rcases turn i n G5 w5 with ⟨stop, qq⟩ | ⟨go, N, hN, step⟩
    · refine thnF (TT.done (X.blk s3 G3 scope ce fp) rfl rfl rfl calm i [] s5 _ G5 (fun _ _ => False) I5 (fpB I5 n5) t5 stop) fun r s6 ⟨er, I6⟩ => ?_
      subst er
      have I7 : L2.Inv X pins σ G5 s6 := I3'.call' (ch := fp) I6.os I6.base I6.hok I6.bare fun c m => ⟨(f3 c m).1.2.2.2.1, (f3 c m).1.2.1, (f3 c m).1.2.2.2.2.1, (f3 c m).1.2.2.2.2.2⟩
      have nC : G5 s3.heap.objs.size = none := by
        have z : G5 ce.locals = none := I6.free
        rwa [lc] at z
      obtain ⟨mm, hn, _⟩ := I6.loc
      have hn : s6.heap.Ns ce.locals mm := hn
      rw [lc] at hn
      exact fin a s3.heap.objs.size s6 mm G5 I7 qq hn (I3'.fpOk (Nat.le_refl _) nC)
    · refine thnF (TT.item (X.blk s3 G3 scope ce fp) rfl rfl rfl calm i [] s5 _ G5 (fun _ _ => False) I5 (fpB I5 n5) t5 go) fun r s6 ⟨u, er, q6⟩ => ?_
      subst er
      refine thnF q6 fun _ s7 ⟨x, G7, I7, r7, y7, t7, n7⟩ => ?_
      refine thnF (pg.run _ s7 _ G7 x u _ (I7.pinned (fpB I7 n7) (TT.obj _ _ t7)) r7 (step x G7 y7)) fun _ s8 ⟨σ8, G8, I8, w8, q8⟩ => thnF (pt.run _ s8 σ8 G8 _ I8 q8) fun t s9 ⟨G9, I9, q9⟩ => ?_
      have last : ∀ (s' : Shared) (G' : Hp), L2.Inv (X.blk s3 G3 scope ce fp) ([] ++ pinsAt fp s7.heap) σ8 G' s' → N G' → ∃ m, m < n ∧ ∃ i G', L2.Inv (X.blk s3 G3 scope ce fp) [] (wipe σ (own.map (·.2))) G' s' ∧ tn i s'.heap ∧ (∀ c ∈ fp, G' c = none) ∧ W i m G' := fun s' G' I' nx => by
        obtain ⟨m', lt, w'⟩ := hN G' nx
        have pin : ∀ c ∈ fp, ∀ o, s7.heap.get? c = some o → s'.heap.get? c = some o ∧ G' c = none := fun c m o z => by
          have zz := I'.pin (c, o) (List.mem_append_right _ (List.mem_append_right _ (mem_pinsAt m z)))
          exact ⟨zz.1, zz.2.1⟩
        have len : (wipe σ (own.map (·.2))).length = σ8.length := by rw [← w8, wipe_length]
        refine ⟨m', lt, i + 1, G', (I'.unpinned (pins := [])).weak len (fun j v z => ?_), TT.keep _ _ _ t7 fun c m o z => (pin c m o z).1, fun c m => ?_, w'⟩
        · rw [← w8] at z
          exact (wipe_some z).1
        · obtain ⟨o, z, _⟩ := TT.obj _ _ t7 c m
          exact (pin c m o z).2
      cases t with
      | false =>
        simp only [Bool.false_eq_true, if_false] at q9 ⊢
        exact last _ _ I9 q9
      | true =>
        simp only [if_true] at q9 ⊢
        refine thnF (pk.run _ s9 σ8 G9 _ I9 q9) fun kv s10 ⟨yk, G10, I10, r10, q10⟩ => thnF (pv.run _ s10 σ8 G10 _ I10 q10) fun vv s11 ⟨yv, G11, I11, r11, q11⟩ => ?_
        exact dset_N (X := X.blk s3 G3 scope ce fp) (nm := nm) (ca := ca) hu I11 r10 r11 q11 fun g' G' I' nx => last g' G' I' nx
theorem pe_dcN {kx vx iter : Expr} {ifs : List Expr} {scope : Scope} {own : List (Str × Nat)} {pos : Pos} {wi : TI} {tgt : TG} {tt : TT} {tk tv : TE} (hu : X.A.units + 64 < cLine) (calm : X.calm = true) (nd : X.N.Nodup) (hi : PI X tg iter wi) (ok : BlkOk X.N X.env.scope scope own)
    (bg : Blk X scope fun Y => PG Y tg tgt) (bt : Blk X scope fun Y => PTs Y ifs tt) (bk : Blk X scope fun Y => PE Y kx tk) (bv : Blk X scope fun Y => PE Y vx tv) (hs : ∀ x, foldedSetIterable iter X.env x = pure x) :
    PE X (.DictComp kx vx [⟨tg, iter, ifs, 0⟩] scope pos) (tDcN X nm ca wi tgt tt tk tv (own.map (·.2))) := by
  refine ⟨fun pins s0 σ H Q I0 q0 => ?_⟩
  rw [arm_eval_DictComp]
  refine dcN_core (nm := nm) (ca := ca) hu calm nd hi ok bg bt bk bv hs I0 q0 fun a C s' mm G' I' qq hn ff => ⟨mm, hn, fun g' same => ?_⟩
  obtain ⟨u0, u1, _, u3, u4, u5⟩ := ff
  exact ⟨.ref a, G', I'.turned (t' := s'.toks) (fun c o hc m => (same.2 c hc).trans m) u0 u1 u3 u4 u5, rfl, qq⟩
/-- the comprehension's own frame stores its name -/
theorem ps_dcN {i : Nat} {y : Str} {py : Pos} {kx vx iter : Expr} {ifs : List Expr} {scope : Scope} {own : List (Str × Nat)} {pos spos : Pos} {wi : TI} {tgt : TG} {tt : TT} {tk tv : TE} (hu : X.A.units + 64 < cLine) (calm : X.calm = true) (nd : X.N.Nodup) (hy : X.N[i]? = some y) (yl : X.env.scope.names.lookup y = some .local) (sw : swapsWith (.DictComp kx vx [⟨tg, iter, ifs, 0⟩] scope pos) (some (.Name y py)) spos.line X.env = pure true)
    (hi : PI X tg iter wi) (ok : BlkOk X.N X.env.scope scope own) (bg : Blk X scope fun Y => PG Y tg tgt) (bt : Blk X scope fun Y => PTs Y ifs tt) (bk : Blk X scope fun Y => PE Y kx tk) (bv : Blk X scope fun Y => PE Y vx tv) (hs : ∀ x, foldedSetIterable iter X.env x = pure x) :
    PS X (.Assign [.Name y py] (.DictComp kx vx [⟨tg, iter, ifs, 0⟩] scope pos) spos) (tAsg (tDcN X nm ca wi tgt tt tk tv (own.map (·.2))) (gName i)) := by
  refine ⟨fun pins s0 σ H D I0 q0 => ?_⟩
  rw [exec_Assign_Name_used _ _ _ _ sw]
  refine wpAny_bind (wpAny_standAt (wpAny_bind ?_))
  have q0 : tDcN X nm ca wi tgt tt tk tv (own.map (·.2)) σ H (fun x G => gName i x σ G D.nx) := q0
  have core := dcN_core (pos := pos) (pos' := firstIterPos [⟨tg, iter, ifs, 0⟩] pos) (use := some (assign (.Name y py) X.env)) (Qf := fun _ s' => SP X pins D .next s') (nm := nm) (ca := ca) hu calm nd hi ok bg bt bk bv hs I0 q0 fun a C s' mm G' I' qq hn ff => by
    show wpAny _ _ (assign (.Name y py) X.env (.ref a)) _ _ _
    refine wpAny_assign_Name (store_ok2 (v := V.ref a) I' nd hy (.inl yl) rfl (fun s2 I2 ⟨c, same, hc⟩ => ?_) (.inr yl))
    obtain ⟨u0, u1, _, u3, u4, u5⟩ := ff
    have ne : C ≠ c := by
      rcases hc with t | t
      · rw [t]; exact u1
      · exact fun t' => u4 y c t t'.symm
    exact ⟨mm, hn.sameBut same ne, fun g' more => ⟨_, G', I2.turned (t' := s2.toks) (fun b o hb m => (more.2 b hb).trans m) u0 u1 u3 u4 u5, qq⟩⟩
  exact wpAny_bind (thn core fun _ s' done => wpAny_pure (wpAny_pure done))
end
end MC

set_option Elab.async false
set_option linter.all false
set_option maxRecDepth 100000
set_option maxHeartbeats 4000000
namespace MC
open PySem PySem.Spec PyProof.Rows L2
section
variable {X : Cx} {nm : Nat → Str} {ca : CaT} {T : Tab} {cl : Nat → List D → Hs → Res D} {tg : Expr}
theorem storeM_ok {n : Nat} {x y : D} {h h' : Hs} (e : storeM n x y h = .ok () h') : ∃ acc k, h[n]? = some (.dct acc) ∧ x.tkey = some k ∧ acc.length < sizeLine ∧ h' = h.set n (.dct (putN x k y acc)) := by
  unfold storeM at e
  cases q : h[n]? with
  | none => rw [q] at e; cases e
  | some o =>
    cases o with
    | dct acc =>
      cases q2 : x.tkey with
      | none => rw [q, q2] at e; cases e
      | some k =>
        rw [q, q2] at e
        simp only at e
        split at e
        · cases e; exact ⟨acc, k, rfl, rfl, by assumption, rfl⟩
        · cases e
    | lst _ => rw [q] at e; cases e
    | ins _ _ => rw [q] at e; cases e
    | lkd _ => rw [q] at e; cases e
theorem s_dcm {kx elt iter : Expr} {ifs : List Expr} {scope : Scope} {own : List (Str × Nat)} {pos : Pos} {fz : Bool} {vs : List Nat} {ck ce : E} {g : G} {it : I} {c : OE} (hca : CaOk X ca) (hu : X.A.units + 64 < cLine) (hc : X.calm = true) (hN : X.N.Nodup) (hi : SI X nm ca T cl tg iter it) (ok : BlkOk X.N X.env.scope scope own)
    (hg : Blk X scope fun Y => SG Y nm ca T cl tg g) (ht : Blk X scope fun Y => PTsM Y nm ca T cl ifs c) (hk : Blk X scope fun Y => SE Y nm ca T cl kx ck)
    (he : Blk X scope fun Y => SE Y nm ca T cl elt ce) (hs : ∀ x, foldedSetIterable iter X.env x = pure x) (hv : own.map (·.2) = vs) (hgs : ∀ i ∈ g.slots, i ∈ vs) :
    SE X nm ca T cl (.DictComp kx elt [⟨tg, iter, ifs, 0⟩] scope pos) (.dcm fz vs ck ce g it c) ∧
    ∀ {i : Nat} {y : Str} {py spos : Pos}, X.N[i]? = some y → X.env.scope.names.lookup y = some .local → swapsWith (.DictComp kx elt [⟨tg, iter, ifs, 0⟩] scope pos) (some (.Name y py)) spos.line X.env = pure true →
      PS X (.Assign [.Name y py] (.DictComp kx elt [⟨tg, iter, ifs, 0⟩] scope pos) spos) (tAsg (RE X.K nm ca (evE T cl (.dcm fz vs ck ce g it c))) (gName i)) := by
  have key : ∀ τ H Q, RE X.K nm ca (evE T cl (.dcm fz vs ck ce g it c)) τ H Q → tDcN X nm ca (RI X.K nm ca (evI T cl it)) (RG X.K nm ca g.slots (evG T cl g)) (RT X.K nm ca (evOT T cl c)) (RE X.K nm ca (evE T cl ck)) (RE X.K nm ca (evE T cl ce)) (own.map (·.2)) τ H Q := by
    intro τ H Q ⟨σ, h, β, rs, rh, p⟩
    rw [hv]
    simp only [evE] at p
    obtain ⟨s, h1, e1, p⟩ := p.bind
    cases s with
    | live n =>
      cases qo : h1[n]? with
      | none => simp only [qo] at p; exact p.elim
      | some o =>
      cases qi : o.items with
      | none => simp only [qo, qi] at p; exact p.elim
      | some xs =>
      simp only [qo, qi] at p
      obtain ⟨u0, hf, ef, p⟩ := p.bind
      have ef : loopDCg (grd o n) (evG T cl g) (evOT T cl c) (evE T cl ck) (evE T cl ce) (wipeM vs σ) h1.length (xs.drop 0) (h1 ++ [.dct []]) = .ok () hf := ef
      refine ⟨σ, h, β, rs, rh, ?_⟩
      rw [e1]
      intro H1 β1 J a o' xs' st rh1 hβ ho hx lv D ob0 nD
      rw [← hca.1, ← hca.2]
      rw [qo] at ho; cases ho
      rw [qi] at hx; cases hx
      refine ⟨fun i m H' => ∃ h' β', Stp β1 H1 β' H' ∧ RelH X.K nm ca β' h' H' ∧ β'[n]? = some a ∧ β'[h1.length]? = some D ∧ m = xs.length - i ∧ i ≤ xs.length ∧ loopDCg (grd o n) (evG T cl g) (evOT T cl c) (evE T cl ck) (evE T cl ce) (wipeM vs σ) h1.length (xs.drop i) h' = .ok () hf, ⟨xs.length, h1 ++ [.dct []], β1 ++ [D], Stp.push nD, rh1.push (o := O.dct []) nD ⟨ob0, [], upd_same, .nil⟩, (Stp.push (o := dN ca.P ca.w D ob0 []) nD).get hβ, ?_, by simp, Nat.zero_le _, ef⟩, ?_⟩
      · rw [← rh1.len, List.getElem?_append_right (Nat.le_refl _)]
        simp
      · rintro i m H' ⟨h', β', st', rh', g', hD, rfl, hle, el⟩
        by_cases hlt : i < xs.length
        · have hgd : h'[n]? = some o := by
            refine grd_at ?_
            rw [List.drop_eq_getElem_cons hlt] at el
            simp only [loopDCg] at el
            split at el
            · assumption
            · cases el
          refine .inr ⟨lv.goes i β' h' H' hlt rh' hgd g', fun H2 => ∃ m', m' < xs.length - i ∧ ∃ h2 β2, Stp β1 H1 β2 H2 ∧ RelH X.K nm ca β2 h2 H2 ∧ β2[n]? = some a ∧ β2[h1.length]? = some D ∧ m' = xs.length - (i + 1) ∧ i + 1 ≤ xs.length ∧ loopDCg (grd o n) (evG T cl g) (evOT T cl c) (evE T cl ck) (evE T cl ce) (wipeM vs σ) h1.length (xs.drop (i + 1)) h2 = .ok () hf, fun H2 q => q, fun v H2 y => ?_⟩
          obtain ⟨s2, rh2, d, ed, rd⟩ := lv.yields i β' h' H' v H2 hlt rh' hgd g' y
          have edr : xs.drop i = d :: xs.drop (i + 1) := by
            rw [List.drop_eq_getElem_cons hlt]
            rw [List.getElem?_eq_getElem hlt] at ed
            cases ed
            rfl
          rw [edr] at el
          simp only [loopDCg, at_grd hgd, if_true] at el
          have rs2 : RelS X.K nm ca β' H2 (wipeM vs σ) (L2.wipe τ vs) := ((((rs.mono st).mono st').mono s2).wipe vs)
          refine ⟨d, wipeM vs σ, h', β', rs2, rh2, rd, ?_⟩
          cases q1 : evG T cl g d (wipeM vs σ) h' with
          | ex _ _ => rw [q1] at el; cases el
          | no => rw [q1] at el; cases el
          | ok σ3 h3 =>
            simp only [q1, Res.bind] at el
            intro τ3 H3 β3 st3 rs3 rh3 c3
            refine ⟨chg_wipe hgs c3, ?_⟩
            refine ⟨σ3, h3, β3, rs3, rh3, ?_⟩
            cases q2 : evOT T cl c σ3 h3 with
            | ex _ _ => rw [q2] at el; cases el
            | no => rw [q2] at el; cases el
            | ok k h4 =>
              simp only [q2] at el
              intro H4 β4 st4 rh4
              have s14 : Stp β1 H1 β4 H4 := ((st'.trans s2).trans st3).trans st4
              have g4 : β4[n]? = some a := st4.get (st3.get g')
              have hD4 : β4[h1.length]? = some D := st4.get (st3.get hD)
              cases k with
              | false =>
                rw [if_neg (by decide)]
                simp only [Bool.false_eq_true, if_false] at el
                exact ⟨xs.length - (i + 1), by omega, h4, β4, s14, rh4, g4, hD4, rfl, hlt, el⟩
              | true =>
                rw [if_pos rfl]
                simp only [if_true] at el
                refine ⟨σ3, h4, β4, rs3.mono st4, rh4, ?_⟩
                cases q3 : evE T cl ck σ3 h4 with
                | ex _ _ => rw [q3] at el; cases el
                | no => rw [q3] at el; cases el
                | ok yv h4' =>
                  simp only [q3] at el
                  intro w H4' β4' st4' rh4' rd4
                  refine ⟨σ3, h4', β4', (rs3.mono st4).mono st4', rh4', ?_⟩
                  cases q5 : evE T cl ce σ3 h4' with
                  | ex _ _ => rw [q5] at el; cases el
                  | no => rw [q5] at el; cases el
                  | ok zv h5 =>
                    simp only [q5] at el
                    intro w2 H5 β5 st5 rh5 rd5
                    cases q4 : storeM h1.length yv zv h5 with
                    | ex _ _ => rw [q4] at el; cases el
                    | no => rw [q4] at el; cases el
                    | ok u h6 =>
                      simp only [q4] at el
                      obtain ⟨acc, kk, a1, a2, a3, a4⟩ := storeM_ok q4
                      have hD5 := st5.get (st4'.get hD4)
                      obtain ⟨obx, us, j1, j2⟩ := rh5.obj _ _ D a1 hD5
                      have ry := rd4.mono st5
                      obtain ⟨b', rfl⟩ := tkey_ref ry a2
                      refine ⟨β5, D, b', obx, yv, zv, kk, acc, us, rfl, rfl, by rw [← hca.1, ← hca.2]; exact j1, j2, a3, ry, a2, rd5, fun ob' us' r' => ?_⟩
                      rw [← hca.1, ← hca.2]
                      have sw : Stp β5 H5 β5 (upd H5 D (dN ca.P ca.w D ob' us')) := Stp.write (List.mem_of_getElem? hD5) j1 (fun _ z => nomatch z) (fun _ _ z => nomatch z)
                      refine ⟨xs.length - (i + 1), by omega, h6, β5, ((s14.trans st4').trans st5).trans sw, ?_, st5.get (st4'.get g4), hD5, rfl, hlt, el⟩
                      rw [a4]
                      exact rh5.write hD5 sw ⟨ob', us', upd_same, r'.mono sw⟩
        · have e : i = xs.length := by omega
          subst e
          rw [List.drop_length] at el
          have hgd : h'[n]? = some o := by
            refine grd_at ?_
            simp only [loopDCg] at el
            split at el
            · assumption
            · cases el
          simp only [loopDCg, at_grd hgd, if_true] at el
          cases el
          refine .inl ⟨lv.stops β' _ H' rh' hgd g', ?_⟩
          exact back_ok rh1 st' rh' (.ref hD) (p.step st)
    | its xs =>
      obtain ⟨u0, hf, ef, p⟩ := p.bind
      have ef : loopDC (evG T cl g) (evOT T cl c) (evE T cl ck) (evE T cl ce) (wipeM vs σ) h1.length (xs.drop 0) (h1 ++ [.dct []]) = .ok () hf := ef
      refine ⟨σ, h, β, rs, rh, ?_⟩
      rw [e1]
      intro H1 β1 J G st rh1 itm g1 D ob0 nD
      rw [← hca.1, ← hca.2]
      refine ⟨fun i m H' => ∃ h' β', Stp β1 H1 β' H' ∧ RelH X.K nm ca β' h' H' ∧ G β' H' ∧ β'[h1.length]? = some D ∧ m = xs.length - i ∧ i ≤ xs.length ∧ loopDC (evG T cl g) (evOT T cl c) (evE T cl ck) (evE T cl ce) (wipeM vs σ) h1.length (xs.drop i) h' = .ok () hf, ⟨xs.length, h1 ++ [.dct []], β1 ++ [D], Stp.push nD, rh1.push (o := O.dct []) nD ⟨ob0, [], upd_same, .nil⟩, itm.mono (Stp.push nD) g1, ?_, by simp, Nat.zero_le _, ef⟩, ?_⟩
      · rw [← rh1.len, List.getElem?_append_right (Nat.le_refl _)]
        simp
      · rintro i m H' ⟨h', β', st', rh', g', hD, rfl, hle, el⟩
        by_cases hlt : i < xs.length
        · refine .inr ⟨itm.goes i β' H' hlt g', fun H2 => ∃ m', m' < xs.length - i ∧ ∃ h2 β2, Stp β1 H1 β2 H2 ∧ RelH X.K nm ca β2 h2 H2 ∧ G β2 H2 ∧ β2[h1.length]? = some D ∧ m' = xs.length - (i + 1) ∧ i + 1 ≤ xs.length ∧ loopDC (evG T cl g) (evOT T cl c) (evE T cl ck) (evE T cl ce) (wipeM vs σ) h1.length (xs.drop (i + 1)) h2 = .ok () hf, fun H2 q => q, fun v H2 y => ?_⟩
          obtain ⟨s2, rel2, d, ed, rd⟩ := itm.yields i β' H' v H2 hlt g' y
          have rh2 := rel2 h' rh'
          have edr : xs.drop i = d :: xs.drop (i + 1) := by
            rw [List.drop_eq_getElem_cons hlt]
            rw [List.getElem?_eq_getElem hlt] at ed
            cases ed
            rfl
          rw [edr] at el
          simp only [loopDC] at el
          have rs2 : RelS X.K nm ca β' H2 (wipeM vs σ) (L2.wipe τ vs) := ((((rs.mono st).mono st').mono s2).wipe vs)
          refine ⟨d, wipeM vs σ, h', β', rs2, rh2, rd, ?_⟩
          cases q1 : evG T cl g d (wipeM vs σ) h' with
          | ex _ _ => rw [q1] at el; cases el
          | no => rw [q1] at el; cases el
          | ok σ3 h3 =>
            simp only [q1, Res.bind] at el
            intro τ3 H3 β3 st3 rs3 rh3 c3
            refine ⟨chg_wipe hgs c3, ?_⟩
            refine ⟨σ3, h3, β3, rs3, rh3, ?_⟩
            cases q2 : evOT T cl c σ3 h3 with
            | ex _ _ => rw [q2] at el; cases el
            | no => rw [q2] at el; cases el
            | ok k h4 =>
              simp only [q2] at el
              intro H4 β4 st4 rh4
              have s14 : Stp β1 H1 β4 H4 := ((st'.trans s2).trans st3).trans st4
              have g4 : G β4 H4 := itm.mono st4 (itm.mono st3 (itm.mono s2 g'))
              have hD4 : β4[h1.length]? = some D := st4.get (st3.get hD)
              cases k with
              | false =>
                rw [if_neg (by decide)]
                simp only [Bool.false_eq_true, if_false] at el
                exact ⟨xs.length - (i + 1), by omega, h4, β4, s14, rh4, g4, hD4, rfl, hlt, el⟩
              | true =>
                rw [if_pos rfl]
                simp only [if_true] at el
                refine ⟨σ3, h4, β4, rs3.mono st4, rh4, ?_⟩
                cases q3 : evE T cl ck σ3 h4 with
                | ex _ _ => rw [q3] at el; cases el
                | no => rw [q3] at el; cases el
                | ok yv h4' =>
                  simp only [q3] at el
                  intro w H4' β4' st4' rh4' rd4
                  refine ⟨σ3, h4', β4', (rs3.mono st4).mono st4', rh4', ?_⟩
                  cases q5 : evE T cl ce σ3 h4' with
                  | ex _ _ => rw [q5] at el; cases el
                  | no => rw [q5] at el; cases el
                  | ok zv h5 =>
                    simp only [q5] at el
                    intro w2 H5 β5 st5 rh5 rd5
                    cases q4 : storeM h1.length yv zv h5 with
                    | ex _ _ => rw [q4] at el; cases el
                    | no => rw [q4] at el; cases el
                    | ok u h6 =>
                      simp only [q4] at el
                      obtain ⟨acc, kk, a1, a2, a3, a4⟩ := storeM_ok q4
                      have hD5 := st5.get (st4'.get hD4)
                      obtain ⟨obx, us, j1, j2⟩ := rh5.obj _ _ D a1 hD5
                      have ry := rd4.mono st5
                      obtain ⟨b', rfl⟩ := tkey_ref ry a2
                      refine ⟨β5, D, b', obx, yv, zv, kk, acc, us, rfl, rfl, by rw [← hca.1, ← hca.2]; exact j1, j2, a3, ry, a2, rd5, fun ob' us' r' => ?_⟩
                      rw [← hca.1, ← hca.2]
                      have sw : Stp β5 H5 β5 (upd H5 D (dN ca.P ca.w D ob' us')) := Stp.write (List.mem_of_getElem? hD5) j1 (fun _ z => nomatch z) (fun _ _ z => nomatch z)
                      refine ⟨xs.length - (i + 1), by omega, h6, β5, ((s14.trans st4').trans st5).trans sw, ?_, itm.mono sw (itm.mono st5 (itm.mono st4' g4)), hD5, rfl, hlt, el⟩
                      rw [a4]
                      exact rh5.write hD5 sw ⟨ob', us', upd_same, r'.mono sw⟩
        · have e : i = xs.length := by omega
          subst e
          rw [List.drop_length] at el
          simp only [loopDC] at el
          cases el
          refine .inl ⟨itm.stops β' H' g', ?_⟩
          exact back_ok rh1 st' rh' (.ref hD) (p.step st)
  exact ⟨PE.imp (pe_dcN (nm := nm) (ca := ca) hu hc hN hi ok hg ht hk he hs) key, fun hy yl sw => ⟨fun pins s σ H D I q => (ps_dcN (nm := nm) (ca := ca) hu hc hN hy yl sw hi ok hg ht hk he hs).run pins s σ H D I (key _ _ _ q)⟩⟩
end
end MC

set_option Elab.async false
set_option linter.all false
set_option maxRecDepth 100000
set_option maxHeartbeats 4000000
namespace MC
open PySem PySem.Spec PyProof.Rows L2
section
variable {X : Cx} {nm : Nat → Str} {ca : CaT} {T : Tab} {cl : Nat → List D → Hs → Res D} {tg : Expr}
/-! ### d.values(), d.items() of a dict that does not change -/
theorem dn_dictRaw {pins : List (Addr × Obj)} {σ : L2.St} {H : Hp} {s : Shared} (I : L2.Inv X pins σ H s) {a : Addr} {ob : Obj} {xs : List (NestedKey × Addr × V)} (e : DN X.prog X.w H a ob xs) : ∃ ys es ep, s.heap.get? a = some ob ∧ (a == sysModules) = false ∧ Lies xs ys ∧ ob.ExactDict ∧ ob.data = .dict es ep ∧ es.toList = ys.map (entryOfKey (nestedKind X.prog X.w)) ∧ es.size = xs.length ∧ s.heap.DictRaw a es ep := by
  obtain ⟨g0, hd, ys, es, ep, l, g1, g2, g3⟩ := dn_raw I e
  exact ⟨ys, es, ep, g0, hd, l, g1, g2, g3, by rw [size_of_entries g3, lies_len l], ob, g0, g1, g2⟩
theorem kit_at {xs : List (NestedKey × Addr × V)} {ys : List (NestedKey × Addr × Value)} (l : Lies xs ys) {i : Nat} (hx : i < xs.length) (hy : i < ys.length) : RelV xs[i].2.2 ys[i].2.2 := by
  induction l generalizing i with
  | nil => simp at hx
  | cons h t ih =>
    cases i with
    | zero => exact h.2.2
    | succ i => exact ih (by simpa using hx) (by simpa using hy)
def ItV (P : Program) (w : World) (a : Addr) (ob : Obj) (xs : List (NestedKey × Addr × V)) : It :=
  ⟨fun i H => DN P w H a ob xs ∧ i < xs.length, fun i H x H' => H' = H ∧ ∃ k b v, xs[i]? = some (k, b, v) ∧ x = v, fun i H => DN P w H a ob xs ∧ xs.length ≤ i⟩
def ItI (P : Program) (w : World) (a : Addr) (ob : Obj) (xs : List (NestedKey × Addr × V)) : It :=
  ⟨fun i H => DN P w H a ob xs ∧ i < xs.length, fun i H x H' => ∃ p k b v, xs[i]? = some (k, b, v) ∧ x = .ref p ∧ H p = none ∧ H' = upd H p (.tup [.ref b, v]), fun i H => DN P w H a ob xs ∧ xs.length ≤ i⟩
theorem turn_V {P : Program} {w : World} {K : PySem.W.Frag} {a : Addr} {ob : Obj} {es : Array DictEntry} {ep : Nat} {xs : List (NestedKey × Addr × V)} (j : Addr) (hod : ob.data = .dict es ep) (hsz : es.size = xs.length) : Turn P w K tg (ItV P w a ob xs) [j] j (fun i g => g.IsValIter j a i xs.length ep) where
  mem := by simp
  obj := fun i h st b hb => by
    have e : b = j := by simpa using hb
    subst e
    obtain ⟨oi, e, c, dd⟩ := st
    exact ⟨oi, e, fun v z => by rw [dd] at z; cases z⟩
  keep := fun i h h' st k => st.at fun oi e => k j (by simp) oi e
  item := by
    rintro Y rfl rfl rfl calm i pins s σ H E I fpo q ⟨dn, hi⟩
    obtain ⟨ys, es', ep', g0, _, l, g1, g2, g3, g4, raw⟩ := dn_dictRaw I dn
    have hy : i < ys.length := by rw [← lies_len l]; exact hi
    cases hod.symm.trans g2
    obtain ⟨u0, u1, _, u3, u4, u5⟩ := fpo j (List.mem_singleton.mpr rfl)
    have hie : i < es.size := by omega
    have en : es[i] = entryOfKey (nestedKind Y.prog Y.w) ys[i] := by
      have := entry_at g3 i
      rw [List.getElem?_eq_getElem hy, Array.getElem?_eq_getElem hie] at this
      exact Option.some.inj this
    rw [← g4] at q
    refine PySem.wpAny_pyNext_values_item_raw q raw hie fun g' q' same => ?_
    rw [g4] at q'
    have J : L2.Inv Y pins σ H { s with heap := g' } := I.turned (t' := s.toks) (fun c oo hc m => (same.2 c hc).trans m) u0 u1 u3 u4 u5
    obtain ⟨oo, m1, m2, m3⟩ := id q'
    refine ⟨_, rfl, go_of (s := { s with heap := g' }) m1 m2 m3 (by decide) ⟨xs[i].2.2, H, J, ?_, ⟨rfl, xs[i].1, xs[i].2.1, xs[i].2.2, List.getElem?_eq_getElem hi, rfl⟩, q', fun c hc => (fpo c hc).1⟩⟩
    rw [en]
    exact kit_at l hi hy
  done := by
    rintro Y rfl rfl rfl calm i pins s σ H E I fpo q ⟨dn, hi⟩
    obtain ⟨ys, es', ep', g0, _, l, g1, g2, g3, g4, raw⟩ := dn_dictRaw I dn
    cases hod.symm.trans g2
    obtain ⟨u0, u1, _, u3, u4, u5⟩ := fpo j (List.mem_singleton.mpr rfl)
    rw [← g4] at q
    exact PySem.wpAny_pyNext_values_end_raw (I.ok.hd calm) q raw (by omega) fun g' more => ⟨rfl, I.turned (t' := s.toks) (fun c oo hc m => more c oo hc m) u0 u1 u3 u4 u5⟩
  self := fun A i s Q E st h => wpAny_pyIter_valiter st h
theorem turn_I {P : Program} {w : World} {K : PySem.W.Frag} {a : Addr} {ob : Obj} {es : Array DictEntry} {ep : Nat} {xs : List (NestedKey × Addr × V)} {elts : List Expr} {kk : Nat} {tpos : Pos} (j : Addr) (hod : ob.data = .dict es ep) (hsz : es.size = xs.length) : Turn P w K (.Tuple elts kk tpos) (ItI P w a ob xs) [j] j (fun i g => ∃ ok ov, IsItemIter g j a i xs.length ep ok ov) where
  mem := by simp
  obj := fun i h st b hb => by
    have e : b = j := by simpa using hb
    subst e
    obtain ⟨ok, ov, e⟩ := st
    exact ⟨_, e, fun v z => nomatch z⟩
  keep := fun i h h' st k => let ⟨ok, ov, e⟩ := st; ⟨ok, ov, k j (by simp) _ e⟩
  item := by
    rintro Y rfl rfl rfl calm i pins s σ H E I fpo q ⟨dn, hi⟩
    obtain ⟨ys, es', ep', g0, _, l, g1, g2, g3, g4, raw⟩ := dn_dictRaw I dn
    have hy : i < ys.length := by rw [← lies_len l]; exact hi
    cases hod.symm.trans g2
    have hie : i < es.size := by omega
    have en : es[i] = entryOfKey (nestedKind Y.prog Y.w) ys[i] := by
      have := entry_at g3 i
      rw [List.getElem?_eq_getElem hy, Array.getElem?_eq_getElem hie] at this
      exact Option.some.inj this
    obtain ⟨ok, ov, he⟩ := q
    rw [← g4] at he
    have hlt : j < s.heap.objs.size := Heap.lt_size he
    refine PySem.wpAny_pyNext_items_item_raw he raw hie fun h' ho hT hz hk => ?_
    refine ⟨_, rfl, wpAny_letOwnedTupleGo_items (s := { s with heap := h' }) ho fun h'' he' sb => ?_⟩
    have hT2 : h''.get? s.heap.objs.size = some { cls := .type "tuple", data := .seq #[es[i].key, es[i].val] } := (sb.2 _ (Nat.ne_of_gt hlt)).trans hT
    have rk : RelV (.ref xs[i].2.1) es[i].key := by
      rw [en, kit_addr l hi hy]
      rfl
    have rv : RelV xs[i].2.2 es[i].val := by
      rw [en]
      exact kit_at l hi hy
    have new : ObjOk Y.prog Y.w (upd H s.heap.objs.size (.tup [.ref xs[i].2.1, xs[i].2.2])) h'' s.heap.objs.size (.tup [.ref xs[i].2.1, xs[i].2.2]) :=
      ⟨by show 2 ≤ sizeLine; decide, [es[i].key, es[i].val], .cons rk (.cons rv .nil), ⟨_, hT2, rfl, _, rfl⟩⟩
    have I1 : L2.Inv Y pins σ (upd H s.heap.objs.size (.tup [.ref xs[i].2.1, xs[i].2.2])) { s with heap := h'' } :=
      I.turnedNew (t' := s.toks) (ch := [j]) (fun b ob hb e => (sb.2 b (by simpa using hb)).trans (hk b ob (by simpa using hb) e)) fpo (Nat.le_refl _) new
    refine ⟨.ref s.heap.objs.size, _, I1, rfl, ⟨_, xs[i].1, xs[i].2.1, xs[i].2.2, List.getElem?_eq_getElem hi, rfl, I.hok.fresh (Nat.le_refl _), rfl⟩, ⟨es[i].key, es[i].val, ?_⟩, fun b hb => ?_⟩
    · rw [← g4]; exact he'
    · have e : b = j := by simpa using hb
      rw [e, upd_ne (Nat.ne_of_lt hlt)]
      exact (fpo j (by simp)).1
  done := by
    rintro Y rfl rfl rfl calm i pins s σ H E I fpo q ⟨dn, hi⟩
    obtain ⟨ys, es', ep', g0, _, l, g1, g2, g3, g4, raw⟩ := dn_dictRaw I dn
    cases hod.symm.trans g2
    obtain ⟨u0, u1, _, u3, u4, u5⟩ := fpo j (List.mem_singleton.mpr rfl)
    obtain ⟨ok, ov, he⟩ := q
    rw [← g4] at he
    exact PySem.wpAny_pyNext_items_end_raw (I.ok.hd calm) he raw (by omega) fun g' more => ⟨rfl, I.turned (t' := s.toks) (fun c oo hc m => more c oo hc m) u0 u1 u3 u4 u5⟩
  self := fun A i s Q E st h => let ⟨_, _, e⟩ := st; PySem.W.kcp_self e h
end
end MC

set_option Elab.async false
set_option linter.all false
set_option maxRecDepth 100000
set_option maxHeartbeats 4000000
namespace MC
open PySem PySem.Spec PyProof.Rows L2
section
variable {X : Cx} {nm : Nat → Str} {ca : CaT} {T : Tab} {cl : Nat → List D → Hs → Res D} {tg : Expr}
def iItemsN (X : Cx) (te : TE) : TI := fun σ H R => te σ H fun x H1 => ∃ a ob xs, x = .ref a ∧ ((H1 a = some (dN X.prog X.w a ob xs) ∧ R (ItI X.prog X.w a ob xs) (upd H1 a (.frz ob (dN X.prog X.w a ob xs)))) ∨ (DN X.prog X.w H1 a ob xs ∧ R (ItI X.prog X.w a ob xs) H1))
theorem raw_nodict {h : Heap} {a : Addr} {es : Array DictEntry} {ep : Nat} (r : h.DictRaw a es ep) : ∀ c, Value.ref a = .ref c → ∃ oo, h.get? c = some oo ∧ oo.dict = none := fun c ec => by
  cases ec
  obtain ⟨oo, m1, m2, _⟩ := r
  exact ⟨oo, m1, m2.2.1⟩
theorem raw_push {h : Heap} {a : Addr} {es : Array DictEntry} {ep : Nat} (o : Obj) (r : h.DictRaw a es ep) : (h.push o).DictRaw a es ep := by
  obtain ⟨oo, m1, m2, m3⟩ := r
  exact ⟨oo, Heap.get?_push_of_some _ m1, m2, m3⟩
theorem pi_itemsN {e : Expr} {te : TE} {apos cpos : Pos} {elts : List Expr} {kk : Nat} {tpos : Pos} (he : PE X e te) (hb : plainO e = true) (hline : (apos.endLine == cpos.line) = true) : PI X (.Tuple elts kk tpos) (.Call (.Attribute e "items" apos) [] [] cpos) (iItemsN X te) := by
  refine ⟨fun pins s σ H R I q => ?_⟩
  refine wpAny_Call_method (T := "dict") (id := "dict.items") (base_ok hb) rfl hline PySem.F.plainAttrs_dict PySem.F.slot_dict_items PySem.F.type_dict_items (thn (he.run pins s σ H _ I q) fun u s1 ⟨x, H1, I1, rx, a, ob, xs, ex, q1⟩ => ?_)
  subst ex
  cases rx
  have main : ∀ H2, L2.Inv X pins σ H2 s1 → DN X.prog X.w H2 a ob xs → R (ItI X.prog X.w a ob xs) H2 → s1.TypeIs (.ref a) "dict" ∧ (∀ c, Value.ref a = .ref c → ∃ oo, s1.heap.get? c = some oo ∧ oo.dict = none) ∧ wpAny (model X.prog X.w) X.A (callWith cpos (.builtin "dict.items") [.ref a] [] []) (fun v s => wpAny (model X.prog X.w) X.A (pyIter v) (PIE X pins σ (.Tuple elts kk tpos) R) X.xe s) X.xe s1 := fun H2 I2 dn q2 => by
    obtain ⟨ys, es, ep, g0, hd, l, g1, g2, g3, g4, raw⟩ := dn_dictRaw I2 dn
    refine ⟨raw.typeIs, raw_nodict raw, ?_⟩
    have I3 : L2.Inv X pins σ H2 { s1 with heap := s1.heap.push { cls := .type "dict_items", data := .fields #[.ref a] } } := I2.kept (t' := s1.toks) fun b ob q => Heap.get?_push_of_some _ q
    have fin : wpAny (model X.prog X.w) X.A (pyIter (.ref s1.heap.objs.size)) (PIE X pins σ (.Tuple elts kk tpos) R) X.xe { s1 with heap := s1.heap.push { cls := .type "dict_items", data := .fields #[.ref a] } } := by
      refine PySem.wpAny_pyIter_items_raw (d := a) ⟨_, Heap.get?_push_size _ rfl, rfl, rfl⟩ (raw_push _ raw) (pi_one (tk := s1.toks) I3 _ (turn_I _ g2 g4) ⟨.none, .none, ?_⟩ q2)
      rw [← g4]
      exact Heap.get?_push_size _ rfl
    exact method_meetsIn PySem.F.slot_dict_items PySem.F.entry_dict_items rfl (PySem.evalArgs_none ⟨rfl, raw.typeIs, PySem.F.args_dict_items_1 _, _, PySem.meets_dict_items_raw a hd, ⟨es, ep, raw⟩, fin⟩)
  rcases q1 with ⟨e1, q2⟩ | ⟨dn, q2⟩
  · exact main _ (lock_ok I1 e1) (.inr upd_same) q2
  · exact main _ I1 dn q2
theorem itemsD_len (kvs : List (D × D)) : (itemsD kvs).length = kvs.length := by simp [itemsD]
theorem relK_get {K : PySem.W.Frag} {β : List Addr} {H : Hp} : ∀ {kvs : List (D × D)} {xs : List (NestedKey × Addr × V)}, RelK K nm ca β H kvs xs → ∀ {i : Nat} {k : NestedKey} {b : Addr} {v : V}, xs[i]? = some (k, b, v) → ∃ d e, kvs[i]? = some (d, e) ∧ RelD K nm ca β H d (.ref b) ∧ RelD K nm ca β H e v
  | _, _, .nil, i, k, b, v, e => by simp at e
  | _, _, .cons h1 h2 h3 t, 0, k, b, v, e => by
    simp at e
    obtain ⟨rfl, rfl, rfl⟩ := e
    exact ⟨_, _, rfl, h2, h3⟩
  | _, _, .cons h1 h2 h3 t, i + 1, k, b, v, e => by
    simp at e
    obtain ⟨d, e', j1, j2⟩ := relK_get t e
    exact ⟨d, e', by simpa using j1, j2⟩
theorem itm_I {K : PySem.W.Frag} {P : Program} {w : World} {a : Addr} {ob : Obj} {kvs : List (D × D)} {xs : List (NestedKey × Addr × V)} (hl : kvs.length = xs.length) : Itm K nm ca (ItI P w a ob xs) (itemsD kvs) (fun β H => (H a = some (.frz ob (dN P w a ob xs)) ∨ (DN P w H a ob xs ∧ a ∉ β)) ∧ RelK K nm ca β H kvs xs) where
  mono := fun {β H β' H'} st g => by
    refine ⟨?_, g.2.mono st⟩
    rcases g.1 with g1 | ⟨g1, g2⟩
    · exact .inl (st.frz _ _ _ g1)
    · refine .inr ⟨g1.imp (fun e => st.oth _ _ e g2 nt_dN) fun e => st.oth _ _ e g2 nt_frz, fun m => ?_⟩
      rcases st.new _ m with m | m
      · exact g2 m
      · rcases g1 with h | h <;> (rw [h] at m; cases m)
  goes := fun i β H hi g => ⟨by rcases g.1 with g1 | ⟨g1, _⟩; exact .inr g1; exact g1, by rw [itemsD_len] at hi; omega⟩
  stops := fun β H g => ⟨by rcases g.1 with g1 | ⟨g1, _⟩; exact .inr g1; exact g1, by rw [itemsD_len]; omega⟩
  yields := fun i β H v H' hi g y => by
    obtain ⟨p, k, b, vv, e1, rfl, np, rfl⟩ := y
    obtain ⟨d, e, f1, f2, f3⟩ := relK_get g.2 e1
    exact ⟨Stp.laid np, fun h r => r.laid np, .tup [d, e], by simp [itemsD, f1], new_tup np (.cons f2 (.cons f3 .nil))⟩
theorem i_ditems {e : Expr} {c : E} {apos cpos : Pos} {elts : List Expr} {kk : Nat} {tpos : Pos} (hc : CaOk X ca) (h : SE X nm ca T cl e c) (hb : plainO e = true) (hline : (apos.endLine == cpos.line) = true) : SI X nm ca T cl (.Tuple elts kk tpos) (.Call (.Attribute e "items" apos) [] [] cpos) (.ditems c) := by
  refine PI.imp (pi_itemsN h hb hline) fun τ H R ⟨σ, h, β, rs, rh, p⟩ => ?_
  simp only [evI] at p
  obtain ⟨x, h1, e1, p⟩ := p.bind
  refine re1 rs rh e1 fun vx H1 β1 st rs1 rh1 rx => ?_
  cases x with
  | dct kvs =>
    cases rx with
    | dct k1 k2 k3 =>
      rw [hc.1, hc.2] at k1
      exact ⟨_, _, _, rfl, .inr ⟨k1, p H1 β1 _ _ st rh1 (itm_I k3.len) ⟨.inr ⟨k1, k2⟩, k3⟩⟩⟩
  | ref n =>
    obtain ⟨a, rfl, hβ⟩ := rx.ref_inv
    cases q : h1[n]? with
    | none => simp only [q] at p; exact p.elim
    | some oo =>
      have ro := rh1.obj n oo a q hβ
      cases oo with
      | dct kvs =>
        simp only [q] at p
        obtain ⟨ob, xs, j1, j2⟩ := ro
        have sw : Stp β1 H1 β1 (upd H1 a (.frz ob (dN ca.P ca.w a ob xs))) := Stp.write (List.mem_of_getElem? hβ) j1 (fun _ z => nomatch z) (fun _ _ z => nomatch z)
        refine ⟨a, ob, xs, rfl, .inl ⟨by rw [← hc.1, ← hc.2]; exact j1, ?_⟩⟩
        rw [← hc.1, ← hc.2]
        exact p _ β1 _ _ (st.trans sw) (rh1.write hβ sw ⟨ob, xs, upd_same, j2.mono sw⟩) (itm_I j2.len) ⟨.inl upd_same, j2.mono sw⟩
      | lkd kvs =>
        simp only [q] at p
        obtain ⟨ob, xs, j1, j2⟩ := ro
        refine ⟨a, ob, xs, rfl, .inr ⟨by rw [← hc.1, ← hc.2]; exact .inr j1, ?_⟩⟩
        rw [← hc.1, ← hc.2]
        exact p _ β1 _ _ st rh1 (itm_I j2.len) ⟨.inl j1, j2⟩
      | lst _ => simp only [q] at p; exact p.elim
      | ins _ _ => simp only [q] at p; exact p.elim
  | _ => exact p.elim
/-! ### d.setdefault(k, v), d.pop(k) -/
end
end MC

set_option Elab.async false
set_option linter.all false
set_option maxRecDepth 100000
set_option maxHeartbeats 4000000
namespace MC
open PySem PySem.Spec PyProof.Rows L2
section
variable {X : Cx} {nm : Nat → Str} {ca : CaT} {T : Tab} {cl : Nat → List D → Hs → Res D} {tg : Expr}
/-! ### d.setdefault(k, v) -/
def rSdN (X : Cx) (nm : Nat → Str) (ca : CaT) : V → V → V → Hp → VK → Prop := fun x y z H Q => ∃ (β : List Addr) (a b : Addr) (ob : Obj) (d e : D) (k : NestedKey) (kvs : List (D × D)) (xs : List (NestedKey × Addr × V)), x = .ref a ∧ y = .ref b ∧ H a = some (dN X.prog X.w a ob xs) ∧ RelK X.K nm ca β H kvs xs ∧ RelD X.K nm ca β H d (.ref b) ∧ d.tkey = some k ∧ RelD X.K nm ca β H e z ∧
  (∀ e' v, getK k kvs = some e' → RelD X.K nm ca β H e' v → Q v H) ∧ (getK k kvs = none → kvs.length < sizeLine ∧ ∀ ob' xs', RelK X.K nm ca β H (putN d k e kvs) xs' → Q z (upd H a (dN X.prog X.w a ob' xs')))
def tSdN (X : Cx) (nm : Nat → Str) (ca : CaT) (to te tf : TE) : TE := fun σ H Q => to σ H fun x H1 => (∃ β a ob kvs xs, x = .ref a ∧ DN X.prog X.w H1 a ob xs ∧ RelK X.K nm ca β H1 kvs xs) ∧ te σ H1 fun y H2 => tf σ H2 fun z H3 => ((∃ b, y = V.ref b) ∧ rSdN X nm ca x y z H3 Q)
theorem pe_sdN {o e f : Expr} {to te tf : TE} {apos pos : Pos} (hu : X.A.units + 64 < cLine) (ho : PE X o to) (he : PE X e te) (hf : PE X f tf) (hb : plainO o = true) (hs : isSt e = false) (hs2 : isSt f = false) (hline : (apos.endLine == pos.line) = true) : PE X (.Call (.Attribute o "setdefault" apos) [e, f] [] pos) (tSdN X nm ca to te tf) := by
  refine ⟨fun pins s σ H Q I q => ?_⟩
  have few : (backTo pos (starEach [e, f] X.env)).all (fun x => !x.1) = true := star_all (by simp [hs, hs2])
  have tr : backTo pos (starEach [e, f] X.env) = [(false, eval e X.env), (false, eval f X.env)] := by rw [starEach_plain hs, starEach_plain hs2]; rfl
  refine wpAny_Call_method (base_ok hb) (by rw [few]; rfl) hline PySem.F.plainAttrs_dict PySem.F.slot_dict_setdefault PySem.F.type_dict_setdefault (thn (ho.run pins s σ H _ I q) fun u s1 ⟨x, H1, I1, rx, ⟨β, a, ob, kvs, xs, ex, e1, e2⟩, q1⟩ => ?_)
  subst ex
  cases rx
  obtain ⟨g0, _, _, ys, _, _, dd⟩ := dn_at I1 e1 e2
  refine ⟨dd.typeIs, fun c ec => ?_, ?_⟩
  · cases ec
    obtain ⟨oo, _, _, m1, m2, _⟩ := dd
    exact ⟨oo, m1, m2.2.1⟩
  rw [tr]
  refine Calls.callWith_builtin rfl (Calls.evalArgs_plain (Calls.spliced_cons (thn (he.run pins s1 σ H1 _ I1 q1) fun iv s2 ⟨y, H2, I2, ry, q2⟩ => Calls.spliced_cons (thn (hf.run pins s2 σ H2 _ I2 q2) fun iz s3 ⟨z, H3, I3, rz, ⟨b0, hy0⟩, q3⟩ => Calls.spliced_nil ?_))))
  subst hy0
  obtain ⟨β2, a2, b2, ob2, d, e', k, kvs2, xs2, ea, eb, k1, k2, k3, k4, k5, q4, q5⟩ := q3
  cases ea
  cases eb
  cases ry
  obtain ⟨_, z1, hd, ys1, l1, _, dd1⟩ := dn_at I3 (.inl k1) k2
  have n1 := lies_len l1
  have n3 := k2.len
  obtain ⟨w1, w2⟩ := get_rel k2 l1 k
  refine call_setdefault_heap (hsz := by omega) (room_key hu) (key_is I3 k3 k4) hd dd1 (fun p hp => ?_) fun hn h' dd' same => ?_
  · cases q6 : getK k kvs2 with
    | none => rw [w2 q6] at hp; cases hp
    | some e2 =>
      obtain ⟨v, p', g1, g2, g3⟩ := w1 e2 q6
      rw [hp] at g1
      cases g1
      exact ⟨v, H3, I3.tok _, g3, q4 e2 v q6 g2⟩
  · have q6 : getK k kvs2 = none := by
      cases q6 : getK k kvs2 with
      | none => rfl
      | some e2 =>
        obtain ⟨v, p', g1, _⟩ := w1 e2 q6
        rw [hn] at g1
        cases g1
    obtain ⟨hz, q7⟩ := q5 q6
    obtain ⟨xs', p1, p2, p3⟩ := put_rel k4 k3 k5 rz k2 l1
    obtain ⟨oq, hq⟩ : ∃ q, h'.get? a = some q := let ⟨q, _, _, hq, _⟩ := dd'; ⟨q, hq⟩
    obtain ⟨ob', new'⟩ := dn_ok (H' := upd H3 a (dN X.prog X.w a oq xs')) (by omega) hd p2 dd'
    have ee : ob' = oq := by
      have := new'.1.1
      rw [hq] at this
      exact (Option.some.inj this).symm
    subst ee
    exact ⟨z, _, d_write (t' := s3.toks + _) I3 (by rw [k1]; exact True.intro) same ⟨_, hq⟩ new', rz, q7 ob' xs' p1⟩
theorem s_dsd {o e f : Expr} {c c' c'' : E} {apos pos : Pos} (hc : CaOk X ca) (hu : X.A.units + 64 < cLine) (ha : SE X nm ca T cl o c) (he : SE X nm ca T cl e c') (hf : SE X nm ca T cl f c'') (hb : plainO o = true) (hs : isSt e = false) (hs2 : isSt f = false) (hline : (apos.endLine == pos.line) = true) : SE X nm ca T cl (.Call (.Attribute o "setdefault" apos) [e, f] [] pos) (.dsd c c' c'') := by
  refine PE.imp (pe_sdN (nm := nm) (ca := ca) hu ha he hf hb hs hs2 hline) fun τ H Q ⟨σ, h, β, rs, rh, p⟩ => ?_
  simp only [evE] at p
  obtain ⟨x, h1, e1, p⟩ := p.bind
  cases q : x.kvs h1 with
  | none => simp only [q] at p; exact p.elim
  | some kv0 =>
    simp only [q] at p
    obtain ⟨y, h2, e2, p⟩ := p.bind
    obtain ⟨z, h3, e3, p⟩ := p.bind
    refine re1 rs rh e1 fun vx H1 β1 st rs1 rh1 rx => ⟨?_, re1 rs1 rh1 e2 fun vy H2 β2 st2 rs2 rh2 ry => re1 rs2 rh2 e3 fun vz H3 β3 st3 rs3 rh3 rz => ?_⟩
    · obtain ⟨a, ob, xs, rfl, j1, j2⟩ := kvs_inv rh1 rx q
      rw [hc.1, hc.2] at j1
      exact ⟨β1, a, ob, kv0, xs, rfl, j1, j2⟩
    · have rx2 := rx.mono (st2.trans st3)
      have ry2 := ry.mono st3
      unfold setdM at p
      cases x with
      | ref n =>
        cases q2 : y.tkey with
        | none => simp only [q2] at p; exact p.elim
        | some k =>
          simp only [q2] at p
          obtain ⟨b, rfl⟩ := tkey_ref ry2 q2
          refine ⟨⟨b, rfl⟩, ?_⟩
          cases q3 : h3[n]? with
          | none => rw [q3] at p; exact p.elim
          | some oo =>
            rw [q3] at p
            cases oo with
            | dct kvs =>
              simp only at p
              obtain ⟨a, rfl, hβ⟩ := rx2.ref_inv
              obtain ⟨ob, xs, j1, j2⟩ := rh3.obj n _ a q3 hβ
              refine ⟨β3, a, b, ob, y, z, k, kvs, xs, rfl, rfl, by rw [← hc.1, ← hc.2]; exact j1, j2, ry2, q2, rz, fun e' v g1 g2 => ?_, fun g1 => ?_⟩
              · rw [g1] at p
                exact PostE.here (p.step ((st.trans st2).trans st3)) rh3 g2
              · rw [g1] at p
                simp only at p
                split at p
                · rename_i hz
                  refine ⟨hz, fun ob' xs' r' => ?_⟩
                  rw [← hc.1, ← hc.2]
                  have sw : Stp β3 H3 β3 (upd H3 a (dN ca.P ca.w a ob' xs')) := Stp.write (List.mem_of_getElem? hβ) j1 (fun _ z => nomatch z) (fun _ _ z => nomatch z)
                  exact p _ _ β3 (((st.trans st2).trans st3).trans sw) (rh3.write hβ sw ⟨ob', xs', upd_same, r'.mono sw⟩) (rz.mono sw)
                · exact p.elim
            | _ => exact p.elim
      | _ => exact p.elim
/-! ### d.pop(k) -/
theorem drop_rel {β : List Addr} {H : Hp} (k : NestedKey) : ∀ {kvs : List (D × D)} {xs : List (NestedKey × Addr × V)} {ys : List (NestedKey × Addr × Value)}, RelK X.K nm ca β H kvs xs → Lies xs ys → ∃ xs', RelK X.K nm ca β H (dropK k kvs) xs' ∧ Lies xs' (withoutH ys k) ∧ xs'.length ≤ xs.length
  | _, _, _, .nil, l => by cases l; exact ⟨[], .nil, .nil, Nat.le_refl _⟩
  | _, _, _, .cons (d := d) (e := e) (k := k0) (a := a0) (v := v0) ek h1 h2 t, l => by
    cases l with
    | @cons p q ps qs r1 r2 =>
      obtain ⟨xs', i1, i2, i3⟩ := drop_rel k t r2
      have kk := (tkey_key ek).1
      have j1 : k0 = q.1 := r1.1
      by_cases hk : k0 = k
      · refine ⟨xs', ?_, ?_, by simp; omega⟩
        · simp only [dropK, kk, hk, if_true]
          exact i1
        · have : withoutH (q :: qs) k = withoutH qs k := by simp [withoutH, ← j1, hk]
          rw [this]
          exact i2
      · refine ⟨(k0, a0, v0) :: xs', ?_, ?_, by simp; omega⟩
        · have hn : ¬ (d.key = some k) := by rw [kk]; intro z; exact hk (Option.some.inj z)
          simp only [dropK, if_neg hn]
          exact .cons ek h1 h2 i1
        · have : withoutH (q :: qs) k = q :: withoutH qs k := by simp [withoutH, ← j1, hk]
          rw [this]
          exact .cons r1 i2
def rPkN (X : Cx) (nm : Nat → Str) (ca : CaT) : V → V → Hp → VK → Prop := fun x y H Q => ∃ (β : List Addr) (a b : Addr) (ob : Obj) (d e : D) (k : NestedKey) (kvs : List (D × D)) (xs : List (NestedKey × Addr × V)), x = .ref a ∧ y = .ref b ∧ H a = some (dN X.prog X.w a ob xs) ∧ RelK X.K nm ca β H kvs xs ∧ RelD X.K nm ca β H d (.ref b) ∧ d.tkey = some k ∧ getK k kvs = some e ∧
  ∀ v ob' xs', RelD X.K nm ca β H e v → RelK X.K nm ca β H (dropK k kvs) xs' → Q v (upd H a (dN X.prog X.w a ob' xs'))
def tPkN (X : Cx) (nm : Nat → Str) (ca : CaT) (to te : TE) : TE := fun σ H Q => to σ H fun x H1 => (∃ β a ob kvs xs, x = .ref a ∧ DN X.prog X.w H1 a ob xs ∧ RelK X.K nm ca β H1 kvs xs) ∧ te σ H1 fun y H2 => rPkN X nm ca x y H2 Q
theorem pe_pkN {o e : Expr} {to te : TE} {apos pos : Pos} (hu : X.A.units + 64 < cLine) (ho : PE X o to) (he : PE X e te) (hb : plainO o = true) (hs : isSt e = false) (hline : (apos.endLine == pos.line) = true) : PE X (.Call (.Attribute o "pop" apos) [e] [] pos) (tPkN X nm ca to te) := by
  refine ⟨fun pins s σ H Q I q => ?_⟩
  have few : (backTo pos (starEach [e] X.env)).all (fun x => !x.1) = true := star_all (by simp [hs])
  have tr : backTo pos (starEach [e] X.env) = [(false, eval e X.env)] := by rw [starEach_plain hs]; rfl
  refine wpAny_Call_method (base_ok hb) (by rw [few]; rfl) hline PySem.F.plainAttrs_dict PySem.F.slot_dict_pop PySem.F.type_dict_pop (thn (ho.run pins s σ H _ I q) fun u s1 ⟨x, H1, I1, rx, ⟨β, a, ob, kvs, xs, ex, e1, e2⟩, q1⟩ => ?_)
  subst ex
  cases rx
  obtain ⟨g0, _, _, ys, _, _, dd⟩ := dn_at I1 e1 e2
  refine ⟨dd.typeIs, fun c ec => ?_, ?_⟩
  · cases ec
    obtain ⟨oo, _, _, m1, m2, _⟩ := dd
    exact ⟨oo, m1, m2.2.1⟩
  rw [tr]
  refine Calls.callWith_builtin rfl (Calls.evalArgs_plain (Calls.spliced_cons (thn (he.run pins s1 σ H1 _ I1 q1) fun iv s2 ⟨y, H2, I2, ry, q2⟩ => Calls.spliced_nil ?_)))
  obtain ⟨β2, a2, b2, ob2, d, e', k, kvs2, xs2, ea, rfl, k1, k2, k3, k4, k5, q2⟩ := q2
  cases ea
  cases ry
  obtain ⟨_, z1, hd, ys1, l1, _, dd1⟩ := dn_at I2 (.inl k1) k2
  have n1 := lies_len l1
  have n3 := k2.len
  obtain ⟨v, p, g1, g2, g3⟩ := (get_rel k2 l1 k).1 e' k5
  obtain ⟨xs', p1, p2, p3⟩ := drop_rel k k2 l1
  refine call_pop_heap (hsz := by omega) (.inl rfl) (PySem.F.args_dict_pop_2 _ _) (room_key hu) (key_is I2 k3 k4) hd dd1 g1 fun h' dd' same => ?_
  obtain ⟨oq, hq⟩ : ∃ q, h'.get? a = some q := let ⟨q, _, _, hq, _⟩ := dd'; ⟨q, hq⟩
  obtain ⟨ob', new'⟩ := dn_ok (H' := upd H2 a (dN X.prog X.w a oq xs')) (by omega) hd p2 dd'
  have ee : ob' = oq := by
    have := new'.1.1
    rw [hq] at this
    exact (Option.some.inj this).symm
  subst ee
  exact ⟨v, _, d_write (t' := s2.toks + _) I2 (by rw [k1]; exact True.intro) same ⟨_, hq⟩ new', g3, q2 v ob' xs' g2 p1⟩
theorem s_dpk {o e : Expr} {c c' : E} {apos pos : Pos} (hc : CaOk X ca) (hu : X.A.units + 64 < cLine) (ha : SE X nm ca T cl o c) (he : SE X nm ca T cl e c') (hb : plainO o = true) (hs : isSt e = false) (hline : (apos.endLine == pos.line) = true) : SE X nm ca T cl (.Call (.Attribute o "pop" apos) [e] [] pos) (.dpk c c') := by
  refine PE.imp (pe_pkN (nm := nm) (ca := ca) hu ha he hb hs hline) fun τ H Q ⟨σ, h, β, rs, rh, p⟩ => ?_
  simp only [evE] at p
  obtain ⟨x, h1, e1, p⟩ := p.bind
  cases q : x.kvs h1 with
  | none => simp only [q] at p; exact p.elim
  | some kv0 =>
    simp only [q] at p
    obtain ⟨y, h2, e2, p⟩ := p.bind
    refine re1 rs rh e1 fun vx H1 β1 st rs1 rh1 rx => ⟨?_, re1 rs1 rh1 e2 fun vy H2 β2 st2 rs2 rh2 ry => ?_⟩
    · obtain ⟨a, ob, xs, rfl, j1, j2⟩ := kvs_inv rh1 rx q
      rw [hc.1, hc.2] at j1
      exact ⟨β1, a, ob, kv0, xs, rfl, j1, j2⟩
    · have rx2 := rx.mono st2
      unfold dpopM at p
      cases x with
      | ref n =>
        cases q2 : y.tkey with
        | none => simp only [q2] at p; exact p.elim
        | some k =>
          simp only [q2] at p
          obtain ⟨b, rfl⟩ := tkey_ref ry q2
          cases q3 : h2[n]? with
          | none => rw [q3] at p; exact p.elim
          | some oo =>
            rw [q3] at p
            cases oo with
            | dct kvs =>
              simp only at p
              cases q4 : getK k kvs with
              | none => rw [q4] at p; exact p.elim
              | some e' =>
                rw [q4] at p
                obtain ⟨a, rfl, hβ⟩ := rx2.ref_inv
                obtain ⟨ob, xs, j1, j2⟩ := rh2.obj n _ a q3 hβ
                refine ⟨β2, a, b, ob, y, e', k, kvs, xs, rfl, rfl, by rw [← hc.1, ← hc.2]; exact j1, j2, ry, q2, q4, fun v ob' xs' rv r' => ?_⟩
                rw [← hc.1, ← hc.2]
                have sw : Stp β2 H2 β2 (upd H2 a (dN ca.P ca.w a ob' xs')) := Stp.write (List.mem_of_getElem? hβ) j1 (fun _ z => nomatch z) (fun _ _ z => nomatch z)
                exact p _ _ β2 ((st.trans st2).trans sw) (rh2.write hβ sw ⟨ob', xs', upd_same, r'.mono sw⟩) (rv.mono sw)
            | _ => exact p.elim
      | _ => exact p.elim
end
end MC

set_option Elab.async false
set_option linter.all false
set_option maxRecDepth 100000
set_option maxHeartbeats 4000000
namespace MC
open PySem PySem.Spec PyProof.Rows L2
section
variable {X : Cx} {nm : Nat → Str} {ca : CaT} {T : Tab} {cl : Nat → List D → Hs → Res D} {tg : Expr}
/-! ### list(d.items()) -/
/-- a pair of an entry, as a thing of the heap -/
def prO (x : NestedKey × Addr × V) : HO := .tup [.ref x.2.1, x.2.2]
def layP : Hp → List Addr → List (NestedKey × Addr × V) → Hp
  | H, a :: as, x :: xs => layP (upd H a (prO x)) as xs
  | H, _, _ => H
theorem layP_off {b : Addr} : ∀ (as : List Addr) (xs : List (NestedKey × Addr × V)) (H : Hp), b ∉ as → layP H as xs b = H b
  | [], _, _, _ => rfl
  | _ :: _, [], _, _ => rfl
  | a :: as, x :: xs, H, nb => by
    have nb' : b ∉ as := fun z => nb (List.mem_cons_of_mem _ z)
    have ne : b ≠ a := fun z => nb (by rw [z]; exact List.mem_cons_self)
    simp only [layP]
    rw [layP_off as xs _ nb', upd_ne ne]
theorem layP_at : ∀ (as : List Addr) (xs : List (NestedKey × Addr × V)) (H : Hp), as.length = xs.length → as.Nodup → ∀ (j : Nat) (a : Addr) (x : NestedKey × Addr × V), as[j]? = some a → xs[j]? = some x → layP H as xs a = some (prO x)
  | [], _, _, _, _, j, _, _, e, _ => by simp at e
  | _ :: _, [], _, l, _, _, _, _, _, _ => by cases l
  | b :: as, y :: xs, H, l, nd, j, a, x, e1, e2 => by
    obtain ⟨n1, n2⟩ := List.nodup_cons.mp nd
    simp only [layP]
    cases j with
    | zero =>
      simp at e1 e2
      subst e1 e2
      rw [layP_off as xs _ n1, upd_same]
    | succ j => exact layP_at as xs _ (by simpa using l) n2 j a x (by simpa using e1) (by simpa using e2)
theorem refs_vals : ∀ as : List Addr, Vals (as.map V.ref) (as.map Value.ref)
  | [] => .nil
  | _ :: r => .cons rfl (refs_vals r)
theorem lay_items {pins : List (Addr × Obj)} {σ : L2.St} {H : Hp} {s : Shared} {h' : Heap} {tk : Nat} {xs : List (NestedKey × Addr × V)} {ys : List (NestedKey × Addr × Value)} {es : Array DictEntry} {acc : Array Value} {c : Nat} {as : List Addr} (I : L2.Inv X pins σ H s) (hz : xs.length ≤ sizeLine) (l : Lies xs ys) (he : es.toList = ys.map (entryOfKey (nestedKind X.prog X.w)))
    (hk : ∀ b o, s.heap.get? b = some o → h'.get? b = some o) (hS : h'.get? s.heap.objs.size = some { cls := .type "list", dict := none, data := .seq acc c, slots := #[] }) (hl : as.length = es.size) (hG : PySem.W.DilG es s.heap.objs.size h' as) (hacc : acc.toList = as.map Value.ref) :
    ∃ H' : Hp, (∀ b o, H b = some o → H' b = some o) ∧ H s.heap.objs.size = none ∧ (∀ t ∈ as, H t = none) ∧ as.length = xs.length ∧ H' s.heap.objs.size = some (.lst (as.map V.ref)) ∧
      (∀ (j : Nat) (a : Addr) (x : NestedKey × Addr × V), as[j]? = some a → xs[j]? = some x → H' a = some (prO x)) ∧ (∀ b, b ∉ as → b ≠ s.heap.objs.size → H' b = H b) ∧ L2.Inv X pins σ H' { s with heap := h', toks := tk } := by
  have lx : xs.length = ys.length := lies_len l
  have ls : es.size = ys.length := size_of_entries he
  have out : s.heap.objs.size ∉ as := fun z => Nat.lt_irrefl _ (hG.above _ z)
  have nd : as.Nodup := hG.rise.imp fun {a b} (h : a < b) => Nat.ne_of_lt h
  have fr : ∀ t ∈ as, H t = none := fun t m => I.hok.fresh (Nat.le_of_lt (hG.above t m))
  have frS : H s.heap.objs.size = none := I.hok.fresh (Nat.le_refl _)
  let H0 : Hp := upd H s.heap.objs.size (.lst (as.map V.ref))
  have at_ := layP_at as xs H0 (by omega) nd
  have off : ∀ b, b ∉ as → b ≠ s.heap.objs.size → layP H0 as xs b = H b := fun b n1 n2 => (layP_off as xs H0 n1).trans (upd_ne n2)
  have old : ∀ b o, s.heap.get? b = some o → b ∉ as ∧ b ≠ s.heap.objs.size := fun b o q =>
    ⟨fun m => absurd (Heap.lt_size q) (Nat.not_lt.mpr (Nat.le_of_lt (hG.above b m))), Nat.ne_of_lt (Heap.lt_size q)⟩
  have kp : ∀ b u, H b = some u → layP H0 as xs b = some u := fun b u q => by
    have n1 : b ∉ as := fun m => by rw [fr b m] at q; cases q
    have n2 : b ≠ s.heap.objs.size := fun m => by rw [m, frS] at q; cases q
    exact (off b n1 n2).trans q
  have eS : layP H0 as xs s.heap.objs.size = some (.lst (as.map V.ref)) := (layP_off as xs H0 out).trans upd_same
  refine ⟨layP H0 as xs, kp, frS, fr, by omega, eS, at_, off, ?_⟩
  refine I.call' (ch := []) rfl ⟨fun b o q _ _ _ => hk b o q, fun b o q _ _ _ => ⟨o.slots, hk b o q⟩, fun b o q n _ => (off b (old b o q).1 (old b o q).2).trans n, fun b o q _ => ⟨o, hk b o q⟩, fun b _ q => kp b _ q, fun b _ _ q => kp b _ q, fun b ps q => ⟨#[], by rw [kp b _ q]; simp⟩⟩ (fun b u q => ?_) I.bare fun b z => by simp at z
  by_cases m1 : b ∈ as
  · obtain ⟨j, ej⟩ := List.getElem?_of_mem m1
    have hj : j < xs.length := by
      have := (List.getElem?_eq_some_iff.mp ej).1
      omega
    have hy : j < ys.length := by omega
    rw [at_ j b xs[j] ej (List.getElem?_eq_getElem hj)] at q
    cases q
    obtain ⟨hje, f3⟩ := hG.pairs j b ej
    have en : es[j] = entryOfKey (nestedKind X.prog X.w) ys[j] := by
      have := entry_at he j
      rw [List.getElem?_eq_getElem hy, Array.getElem?_eq_getElem hje] at this
      exact Option.some.inj this
    have rk : RelV (.ref xs[j].2.1) es[j].key := by
      rw [en, kit_addr l hj hy]
      rfl
    have rv : RelV xs[j].2.2 es[j].val := by
      rw [en]
      exact kit_at l hj hy
    exact ⟨by show 2 ≤ sizeLine; decide, [es[j].key, es[j].val], .cons rk (.cons rv .nil), ⟨_, f3, rfl, _, rfl⟩⟩
  · by_cases m2 : b = s.heap.objs.size
    · subst m2
      rw [eS] at q
      cases q
      refine ⟨by rw [List.length_map]; omega, acc.toList, c, by rw [hacc]; exact refs_vals as, ?_⟩
      rw [Array.toArray_toList]
      exact hS
    · rw [off b m1 m2] at q
      exact (I.hok b u q).stay (fun d v _ y => hk d v y) (fun d y => kp d _ y) fun d _ y => kp d _ y
def rItN (X : Cx) : V → Hp → VK → Prop := fun x H Q => ∃ (a : Addr) (ob : Obj) (xs : List (NestedKey × Addr × V)), x = .ref a ∧ DN X.prog X.w H a ob xs ∧
  ∀ (H' : Hp) (p : Addr) (ts : List Addr), (∀ b o, H b = some o → H' b = some o) → H p = none → (∀ t ∈ ts, H t = none) → ts.length = xs.length → H' p = some (.lst (ts.map V.ref)) → (∀ (j : Nat) (t : Addr) (q : NestedKey × Addr × V), ts[j]? = some t → xs[j]? = some q → H' t = some (prO q)) → (∀ b, b ∉ ts → b ≠ p → H' b = H b) → Q (.ref p) H'
theorem dn_small {pins : List (Addr × Obj)} {σ : L2.St} {H : Hp} {s : Shared} (I : L2.Inv X pins σ H s) {a : Addr} {ob : Obj} {xs : List (NestedKey × Addr × V)} (e : DN X.prog X.w H a ob xs) : xs.length ≤ sizeLine := by
  have key : ObjOk X.prog X.w H s.heap a (dN X.prog X.w a ob xs) := by
    rcases e with e | e
    · exact I.hok a _ e
    · exact (I.hok a _ e).2
  exact key.1.2.1
theorem pe_listItN {e : Expr} {te : TE} {p apos cpos pos : Pos} (hc : X.calm = true) (he : PE X e te) (hg : Gl X "list") (hm : X.mg "list" = none) (hb : plainO e = true) (hline : (apos.endLine == cpos.line) = true) :
    PE X (.Call (.Name "list" p) [.Call (.Attribute e "items" apos) [] [] cpos] [] pos) (fun σ H Q => te σ H fun x H1 => rItN X x H1 Q) := by
  refine ⟨fun pins s σ H Q I hq => ?_⟩
  have hs : starEach [.Call (.Attribute e "items" apos) [] [] cpos] X.env = (false, eval (.Call (.Attribute e "items" apos) [] [] cpos) X.env) :: starEach [] X.env := rfl
  refine wpAny_Call_Name_kw (ld_blt I hg hm (show bootBuiltins "list" = some (.type "list") by decide +kernel) ?_)
  refine PyProof.Rows.callWith_type1 ?_ hs rfl
  rw [hs]
  show wpAny _ _ (spliced ((false, eval (.Call (.Attribute e "items" apos) [] [] cpos) X.env) :: backTo pos (starEach [] X.env))) _ _ s
  refine Calls.spliced_cons ?_
  refine wpAny_Call_method (T := "dict") (id := "dict.items") (base_ok hb) rfl hline PySem.F.plainAttrs_dict PySem.F.slot_dict_items PySem.F.type_dict_items (thn (he.run pins s σ H _ I hq) fun u s1 ⟨x, H1, I1, rx, a, ob, xs, ex, dn, q⟩ => ?_)
  subst ex
  cases rx
  obtain ⟨ys, es, ep, g0, hd, l, g1, g2, g3, g4, raw⟩ := dn_dictRaw I1 dn
  have hz := dn_small I1 dn
  have I2 : L2.Inv X pins σ H1 { s1 with heap := s1.heap.push { cls := .type "dict_items", data := .fields #[.ref a] } } := I1.kept (t' := s1.toks) fun b ob q => Heap.get?_push_of_some _ q
  refine ⟨raw.typeIs, raw_nodict raw, ?_⟩
  refine method_meetsIn PySem.F.slot_dict_items PySem.F.entry_dict_items rfl (PySem.evalArgs_none ⟨rfl, raw.typeIs, PySem.F.args_dict_items_1 _, _, PySem.meets_dict_items_raw a hd, ⟨es, ep, raw⟩, ?_⟩)
  refine Calls.spliced_nil ?_
  refine PySem.W.dil_call (es := es) (ep := ep) (I1.ok.hd hc) ⟨_, Heap.get?_push_size _ rfl, rfl, rfl⟩ (raw_push _ raw) (by omega) fun h' tk acc c as hk hS hl hG hacc => ?_
  obtain ⟨H', k1, k2, k3, k4, k5, k6, k7, J⟩ := lay_items (tk := tk) I2 hz l g3 hk hS hl hG hacc
  exact ⟨.ref _, H', J, rfl, q H' _ as k1 k2 k3 k4 k5 k6 k7⟩
end
end MC

set_option Elab.async false
set_option linter.all false
set_option maxRecDepth 100000
set_option maxHeartbeats 4000000
namespace MC
open PySem PySem.Spec PyProof.Rows L2
section
variable {X : Cx} {nm : Nat → Str} {ca : CaT} {T : Tab} {cl : Nat → List D → Hs → Res D} {tg : Expr}
theorem Stp.more {β : List Addr} {H H' : Hp} (k : ∀ b o, H b = some o → H' b = some o) : Stp β H β H' :=
  ⟨fun a _ h => k a _ h, fun a _ _ h => k a _ h, fun a o h _ _ => k a o h, fun a ps h => ⟨ps, k a _ h⟩, ⟨[], by simp⟩, fun _ h => .inl h⟩
theorem RelH.more {K : PySem.W.Frag} {β : List Addr} {h : Hs} {H H' : Hp} (r : RelH K nm ca β h H) (k : ∀ b o, H b = some o → H' b = some o) : RelH K nm ca β h H' :=
  ⟨r.len, r.nd, fun i ob a e1 e2 => (r.obj i ob a e1 e2).keep (Stp.more k) fun u e => k a u e, r.tab.of (fun q _ ps e => k _ _ e) fun c q e m => ⟨k _ _ e, m⟩⟩
theorem items_rel {K : PySem.W.Frag} {β : List Addr} {H' : Hp} : ∀ {kvs : List (D × D)} {xs : List (NestedKey × Addr × V)} (ts : List Addr), RelK K nm ca β H' kvs xs → ts.length = xs.length → (∀ (j : Nat) (t : Addr) (q : NestedKey × Addr × V), ts[j]? = some t → xs[j]? = some q → H' t = some (prO q)) → RelL K nm ca β H' (itemsD kvs) (ts.map V.ref)
  | _, _, [], .nil, _, _ => .nil
  | _, _, _ :: _, .nil, l, _ => by cases l
  | _, _, [], .cons _ _ _ _, l, _ => by cases l
  | _, _, t :: ts, .cons ek h1 h2 r, l, q => by
    have e := q 0 t _ rfl rfl
    exact .cons (.tup (SqT.of e) (.cons h1 (.cons h2 .nil))) (items_rel ts r (by simpa using l) fun j t' q' e1 e2 => q (j + 1) t' q' (by simpa using e1) (by simpa using e2))
theorem s_dits {e : Expr} {c : E} {p apos cpos pos : Pos} (hc : CaOk X ca) (hcm : X.calm = true) (hg : Gl X "list") (hm : X.mg "list" = none) (ha : SE X nm ca T cl e c) (hb : plainO e = true) (hline : (apos.endLine == cpos.line) = true) : SE X nm ca T cl (.Call (.Name "list" p) [.Call (.Attribute e "items" apos) [] [] cpos] [] pos) (.dits c) := by
  refine PE.imp (pe_listItN hcm ha hg hm hb hline) fun τ H Q ⟨σ, h, β, rs, rh, p⟩ => ?_
  simp only [evE] at p
  obtain ⟨x, h1, e1, p⟩ := p.bind
  cases q : x.kvs h1 with
  | none => simp only [q] at p; exact p.elim
  | some kvs =>
    simp only [q] at p
    refine re1 rs rh e1 fun vx H1 β1 st rs1 rh1 rx => ?_
    obtain ⟨a, ob, xs, rfl, j1, j2⟩ := kvs_inv rh1 rx q
    rw [hc.1, hc.2] at j1
    refine ⟨a, ob, xs, rfl, j1, fun H' p' ts k1 k2 k3 k4 k5 k6 k7 => ?_⟩
    have sw : Stp β1 H1 β1 H' := Stp.more k1
    exact p (.ref p') H' β1 (st.trans sw) (rh1.more k1) (.lst (.inl ⟨.inl k5, rh1.notin k2⟩) (items_rel ts (j2.mono sw) k4 k6))
/-! ### {x: True for x in d.values()}, the values whole numbers -/
def mkI (is : List Int) : List (Key × V) := is.map fun i => (.inl i, .bl true)
theorem mkI_len (is : List Int) : (mkI is).length = is.length := by simp [mkI]
theorem putK_mkI (is : List Int) (i : Int) : putK (mkI is) (.inl i) (.bl true) = mkI (dst is [i]) := by
  unfold dst dst
  by_cases hi : i ∈ is
  · rw [if_pos hi]
    unfold putK
    have h1 : (mkI is).any (fun p => decide (p.1 = Sum.inl i)) = true := by
      rw [List.any_eq_true]
      exact ⟨(.inl i, .bl true), List.mem_map.mpr ⟨i, hi, rfl⟩, by simp⟩
    first
      | (rw [if_pos h1]
         unfold mkI
         rw [List.map_map]
         apply List.map_congr_left
         intro a _
         simp)
      | simp_all [mkI]
  · rw [if_neg hi]
    unfold putK
    have h1 : (mkI is).any (fun p => decide (p.1 = Sum.inl i)) = false := by
      rw [List.any_eq_false]
      intro p hp
      obtain ⟨j, hj, rfl⟩ := List.mem_map.mp hp
      simp
      rintro rfl
      exact hi hj
    first
      | (rw [if_neg (by rw [h1]; decide)]
         simp [mkI])
      | simp_all [mkI]
end
end MC

set_option Elab.async false
set_option linter.all false
set_option maxRecDepth 100000
set_option maxHeartbeats 4000000
namespace MC
open PySem PySem.Spec PyProof.Rows L2
section
variable {X : Cx} {nm : Nat → Str} {ca : CaT} {T : Tab} {cl : Nat → List D → Hs → Res D} {tg : Expr}
def iValsN (X : Cx) (te : TE) : TI := fun σ H R => te σ H fun x H1 => ∃ a ob xs, x = .ref a ∧ DN X.prog X.w H1 a ob xs ∧ R (ItV X.prog X.w a ob xs) H1
theorem pi_valsN {e : Expr} {te : TE} {apos cpos : Pos} (he : PE X e te) (hb : plainO e = true) (hline : (apos.endLine == cpos.line) = true) : PI X tg (.Call (.Attribute e "values" apos) [] [] cpos) (iValsN X te) := by
  refine ⟨fun pins s σ H R I q => ?_⟩
  refine wpAny_Call_method (T := "dict") (id := "dict.values") (base_ok hb) rfl hline PySem.F.plainAttrs_dict PySem.F.slot_dict_values PySem.F.type_dict_values (thn (he.run pins s σ H _ I q) fun u s1 ⟨x, H1, I1, rx, a, ob, xs, ex, dn, q2⟩ => ?_)
  subst ex
  cases rx
  obtain ⟨ys, es, ep, g0, hd, l, g1, g2, g3, g4, raw⟩ := dn_dictRaw I1 dn
  refine ⟨raw.typeIs, raw_nodict raw, ?_⟩
  have I3 : L2.Inv X pins σ H1 { s1 with heap := s1.heap.push { cls := .type "dict_values", data := .fields #[.ref a] } } := I1.kept (t' := s1.toks) fun b ob q => Heap.get?_push_of_some _ q
  have fin : wpAny (model X.prog X.w) X.A (pyIter (.ref s1.heap.objs.size)) (PIE X pins σ tg R) X.xe { s1 with heap := s1.heap.push { cls := .type "dict_values", data := .fields #[.ref a] } } := by
    refine PySem.wpAny_pyIter_values_raw (d := a) ⟨_, Heap.get?_push_size _ rfl, rfl, rfl⟩ (raw_push _ raw) (pi_one (tk := s1.toks) I3 _ (turn_V _ g2 g4) ⟨_, Heap.get?_push_size _ rfl, rfl, ?_⟩ q2)
    rw [← g4] <;> rfl
  exact method_meetsIn PySem.F.slot_dict_values PySem.F.entry_dict_values rfl (PySem.evalArgs_none ⟨rfl, raw.typeIs, PySem.F.args_dict_values_1 _, _, PySem.meets_dict_values_raw a hd, ⟨es, ep, raw⟩, fin⟩)
theorem intsV_get {K : PySem.W.Frag} {β : List Addr} {H : Hp} : ∀ {kvs : List (D × D)} {xs : List (NestedKey × Addr × V)} {is : List Int}, RelK K nm ca β H kvs xs → intsV kvs = some is → xs.length = is.length ∧ ∀ (i : Nat) (k : NestedKey) (b : Addr) (v : V), xs[i]? = some (k, b, v) → ∃ n, is[i]? = some n ∧ v = .int n
  | _, _, is, .nil, e => by
    simp only [intsV] at e
    cases e
    exact ⟨rfl, fun i k b v q => by simp at q⟩
  | _, _, is, .cons (d := d) (e := y) ek h1 h2 t, e => by
    cases y with
    | int n =>
      simp only [intsV] at e
      cases q : intsV _ with
      | none => rw [q] at e; cases e
      | some js =>
        rw [q] at e
        cases e
        cases h2
        obtain ⟨i1, i2⟩ := intsV_get t q
        refine ⟨by simp [i1], fun i k b v z => ?_⟩
        cases i with
        | zero =>
          simp at z
          obtain ⟨_, _, rfl⟩ := z
          exact ⟨n, rfl, rfl⟩
        | succ i =>
          simp at z
          obtain ⟨m, j1, j2⟩ := i2 i k b v z
          exact ⟨m, by simpa using j1, j2⟩
    | _ => simp [intsV] at e
theorem dst_app : ∀ (a b ks : List Int), dst ks (a ++ b) = dst (dst ks a) b
  | [], b, ks => rfl
  | i :: a, b, ks => by
    simp only [List.cons_append, dst]
    split
    · exact dst_app a b ks
    · exact dst_app a b _
theorem dst_len : ∀ (a ks : List Int), (dst ks a).length ≤ ks.length + a.length
  | [], ks => by simp [dst]
  | i :: a, ks => by
    simp only [dst]
    split
    · have := dst_len a ks
      simp
      omega
    · have := dst_len a (ks ++ [i])
      simp at this ⊢
      omega
theorem upd_twice {H : Hp} {D : Addr} {a b : HO} : upd (upd H D a) D b = upd H D b := by
  funext c
  by_cases h : c = D
  · subst h; rw [upd_same, upd_same]
  · rw [upd_ne h, upd_ne h, upd_ne h]
/-- the set of the values, as a dict -/
def RDv (X : Cx) (nm : Nat → Str) (ca : CaT) (x : Nat) (f : Sg → Hs → Res D) : TE := fun τ H Q => ∃ σ h β, RelS X.K nm ca β H σ τ ∧ RelH X.K nm ca β h H ∧ ∃ d h1 kvs is, x < σ.length ∧ f σ h = .ok d h1 ∧ d.kvs h1 = some kvs ∧ intsV kvs = some is ∧ is.length ≤ sizeLine ∧
  ∀ H1 β1 D, Stp β H β1 H1 → RelH X.K nm ca β1 h1 H1 → H1 D = none → Q (.ref D) (upd H1 D (.dK (mkI (dst [] is))))
theorem pe_dvN {kx vx e : Expr} {scope : Scope} {own : List (Str × Nat)} {apos cpos pos : Pos} {x : Nat} {c : E} (hca : CaOk X ca) (hc : X.calm = true) (hN : X.N.Nodup) (ha : SE X nm ca T cl e c) (hb : plainO e = true) (hline : (apos.endLine == cpos.line) = true) (ok : BlkOk X.N X.env.scope scope own)
    (hg : Blk X scope fun Y => PG Y tg (gName x)) (hk : Blk X scope fun Y => PE Y kx (tVar x)) (he : Blk X scope fun Y => PE Y vx (tC (.bl true))) (hv : own.map (·.2) = [x]) :
    PE X (.DictComp kx vx [⟨tg, .Call (.Attribute e "values" apos) [] [] cpos, [], 0⟩] scope pos) (RDv X nm ca x (evE T cl c)) := by
  refine PE.imp (pe_dc hc hN (pi_valsN ha hb hline) ok hg (fun s H C cl' fp => pts_nil) hk he (fun _ => rfl)) fun τ H Q ⟨σ, h, β, rs, rh, d, h1, kvs, is, hx, e1, e2, e3, hz, q⟩ => ?_
  refine re1 rs rh e1 fun vx H1 β1 st rs1 rh1 rx => ?_
  obtain ⟨a, ob, xs, rfl, j1, j2⟩ := kvs_inv rh1 rx e2
  obtain ⟨n1, n2⟩ := intsV_get j2 e3
  have j1' : DN X.prog X.w H1 a ob xs := by rw [← hca.1, ← hca.2]; exact j1
  refine ⟨a, ob, xs, rfl, j1', fun D nD => ?_⟩
  rw [hv]
  have hxl : x < τ.length := by rw [← rs.1]; exact hx
  let HH : Nat → Hp := fun i => upd H1 D (.dK (mkI (dst [] (is.take i))))
  have kp : ∀ i b o, H1 b = some o → HH i b = some o := fun i b o z => (upd_ne (ne_of_none z nD)).trans z
  have dn : ∀ i, DN X.prog X.w (HH i) a ob xs := fun i => j1'.imp (fun z => kp i _ _ z) fun z => kp i _ _ z
  refine ⟨fun i m H' => H' = HH i ∧ m = is.length - i ∧ i ≤ is.length, ⟨is.length, rfl, by simp, Nat.zero_le _⟩, ?_⟩
  rintro i m H' ⟨rfl, rfl, hle⟩
  by_cases hlt : i < is.length
  · refine .inr ⟨⟨dn i, by omega⟩, fun H2 => H2 = HH (i + 1), fun H2 z => ⟨is.length - (i + 1), by omega, z, rfl, hlt⟩, ?_⟩
    rintro v H2 ⟨rfl, k, b, w, f1, rfl⟩
    obtain ⟨n, f2, rfl⟩ := n2 i k b _ f1
    refine ⟨?_, ?_⟩
    · show wipe ((wipe τ [x]).set x (some (V.int n))) [x] = wipe τ [x]
      simp [wipe]
    · unfold tYes
      simp only []
      rw [if_pos trivial]
      refine ⟨.int n, List.getElem?_set_self (by rw [wipe_length]; exact hxl), ?_⟩
      refine ⟨mkI (dst [] (is.take i)), .inl n, rfl, upd_same, ?_, ?_⟩
      · rw [mkI_len]
        have := dst_len (is.take i) []
        simp at this
        omega
      · show upd (upd H1 D _) D _ = HH (i + 1)
        rw [upd_twice, putK_mkI, ← dst_app]
        have : is.take (i + 1) = is.take i ++ [n] := by
          rw [List.take_add_one, f2]
          rfl
        show _ = upd H1 D (.dK (mkI (dst [] (is.take (i + 1)))))
        rw [this]
  · have e : i = is.length := by omega
    subst e
    refine .inl ⟨⟨dn _, by omega⟩, ?_⟩
    have := q H1 β1 D st rh1 nD
    show Q (.ref D) (upd H1 D (.dK (mkI (dst [] (is.take is.length)))))
    rw [List.take_length]
    exact this
theorem s_nval {kx vx e : Expr} {scope : Scope} {own : List (Str × Nat)} {apos cpos pos p pos' : Pos} {x : Nat} {c : E} (hca : CaOk X ca) (hc : X.calm = true) (hN : X.N.Nodup) (hgl : Gl X "len") (hm : X.mg "len" = none) (ha : SE X nm ca T cl e c) (hb : plainO e = true) (hline : (apos.endLine == cpos.line) = true) (ok : BlkOk X.N X.env.scope scope own)
    (hg : Blk X scope fun Y => PG Y tg (gName x)) (hk : Blk X scope fun Y => PE Y kx (tVar x)) (he : Blk X scope fun Y => PE Y vx (tC (.bl true))) (hv : own.map (·.2) = [x]) :
    SE X nm ca T cl (.Call (.Name "len" p) [.DictComp kx vx [⟨tg, .Call (.Attribute e "values" apos) [] [] cpos, [], 0⟩] scope pos] [] pos') (.nval x c) := by
  refine PE.imp (pe_callB call_lenD hgl hm PySem.boot_len (pa_cons (pe_dvN (T := T) (cl := cl) (nm := nm) (ca := ca) hca hc hN ha hb hline ok hg hk he hv) pa_nil) (by decide) (by decide) rfl rfl) fun τ H Q ⟨σ, h, β, rs, rh, p⟩ => ?_
  simp only [evE] at p
  split at p
  · rename_i hx
    obtain ⟨y, h1, e1, p⟩ := p.bind
    cases q : y.kvs h1 with
    | none => simp only [q] at p; exact p.elim
    | some kvs =>
      simp only [q] at p
      cases q2 : intsV kvs with
      | none => simp only [q2] at p; exact p.elim
      | some is =>
        simp only [q2] at p
        split at p
        · rename_i hz
          refine ⟨σ, h, β, rs, rh, y, h1, kvs, is, hx, e1, q, q2, hz, fun H1 β1 D st rh1 nD => ?_⟩
          refine ⟨D, mkI (dst [] is), rfl, upd_same, ?_⟩
          rw [mkI_len]
          exact p (.int (dst [] is).length) _ β1 (st.trans (Stp.laid nD)) (rh1.laid nD) (.int _)
        · exact p.elim
  · exact p.elim
/-! ### its keys, walked -/
theorem lockK_ok {pins : List (Addr × Obj)} {σ : L2.St} {H : Hp} {s : Shared} (I : L2.Inv X pins σ H s) {a : Addr} {kvs : List (Key × V)} (e : H a = some (.dK kvs)) : ∃ ob, L2.Inv X pins σ (upd H a (.frz ob (.dK kvs))) s := by
  have ok : ObjOk X.prog X.w H s.heap a (.dK kvs) := I.hok a _ e
  obtain ⟨hz, hs0, vs, kv, hdo⟩ := id ok
  obtain ⟨ep, hat⟩ := hdo.dictAt
  obtain ⟨ob, g0⟩ : ∃ ob, s.heap.get? a = some ob := by
    obtain ⟨o, h, _⟩ := hdo.typeIs
    exact ⟨o, h⟩
  refine ⟨ob, ?_⟩
  exact I.write (x := a) (e := a) (h' := s.heap) (t' := s.toks) (o := .frz ob (.dK kvs)) (by rw [e]; exact True.intro) (.inl rfl) (fun _ _ _ m => m) ⟨ob, g0⟩ ⟨g0, ok⟩
def iKeysK (te : TE) : TI := fun σ H R => te σ H fun x H1 => ∃ a kvs, x = .ref a ∧ H1 a = some (.dK kvs) ∧ ∀ ob, R (Itk a ob kvs) (upd H1 a (.frz ob (.dK kvs)))
theorem pi_keysK {e : Expr} {te : TE} (he : PE X e te) : PI X tg e (iKeysK te) := by
  refine ⟨fun pins s σ H R I q => ?_⟩
  refine thn (he.run pins s σ H _ I q) fun u s1 ⟨x, H1, I1, rx, a, kvs, ex, e1, q1⟩ => ?_
  subst ex
  cases rx
  obtain ⟨ob, I2⟩ := lockK_ok I1 e1
  obtain ⟨hs, hgd, hx, es, ep, vs, hdt, hsz, kv, hm⟩ := I2.frzK upd_same
  refine iter_keys hs hgd hx hdt (pi_one (tk := s1.toks) I2 _ (turn_keys _ hdt) ⟨_, Heap.get?_push_size _ rfl, rfl, ?_⟩ (q1 ob))
  rw [hsz] <;> rfl
theorem itm_K {K : PySem.W.Frag} {a : Addr} {ob : Obj} {is : List Int} : Itm K nm ca (Itk a ob (mkI is)) (is.map D.int) (fun _ H => H a = some (.frz ob (.dK (mkI is)))) where
  mono := fun st g => st.frz _ _ _ g
  goes := fun i β H hi g => ⟨g, by rw [mkI_len]; simpa using hi⟩
  stops := fun β H g => ⟨g, by rw [mkI_len]; simp⟩
  yields := fun i β H v H' hi g y => by
    obtain ⟨rfl, k, w, e1, rfl⟩ := y
    have hi' : i < is.length := by simpa using hi
    have : (mkI is)[i]? = some (.inl is[i], .bl true) := by simp [mkI, hi']
    rw [this] at e1
    cases e1
    exact ⟨Stp.refl _ _, fun _ r => r, .int is[i], by simp [hi'], .int _⟩
theorem i_dvk {kx vx e tg2 : Expr} {scope : Scope} {own : List (Str × Nat)} {apos cpos pos : Pos} {x : Nat} {c : E} (hca : CaOk X ca) (hc : X.calm = true) (hN : X.N.Nodup) (ha : SE X nm ca T cl e c) (hb : plainO e = true) (hline : (apos.endLine == cpos.line) = true) (ok : BlkOk X.N X.env.scope scope own)
    (hg : Blk X scope fun Y => PG Y tg (gName x)) (hk : Blk X scope fun Y => PE Y kx (tVar x)) (he : Blk X scope fun Y => PE Y vx (tC (.bl true))) (hv : own.map (·.2) = [x]) :
    SI X nm ca T cl tg2 (.DictComp kx vx [⟨tg, .Call (.Attribute e "values" apos) [] [] cpos, [], 0⟩] scope pos) (.dvk x c) := by
  refine PI.imp (pi_keysK (pe_dvN (T := T) (cl := cl) (nm := nm) (ca := ca) hca hc hN ha hb hline ok hg hk he hv)) fun τ H R ⟨σ, h, β, rs, rh, p⟩ => ?_
  simp only [evI] at p
  split at p
  · rename_i hx
    obtain ⟨y, h1, e1, p⟩ := p.bind
    cases q : y.kvs h1 with
    | none => simp only [q] at p; exact p.elim
    | some kvs =>
      simp only [q] at p
      cases q2 : intsV kvs with
      | none => simp only [q2] at p; exact p.elim
      | some is =>
        simp only [q2] at p
        split at p
        · rename_i hz
          refine ⟨σ, h, β, rs, rh, y, h1, kvs, is, hx, e1, q, q2, hz, fun H1 β1 D st rh1 nD => ?_⟩
          refine ⟨D, mkI (dst [] is), rfl, upd_same, fun ob => ?_⟩
          rw [upd_twice]
          exact p _ β1 _ _ (st.trans (Stp.laid nD)) (rh1.laid nD) itm_K upd_same
        · exact p.elim
  · exact p.elim
end
end MC

set_option Elab.async false
set_option linter.all false
set_option maxRecDepth 100000
set_option maxHeartbeats 4000000
namespace MC
open PySem PySem.Spec PyProof.Rows L2
section
variable {X : Cx} {nm : Nat → Str} {ca : CaT} {T : Tab} {cl : Nat → List D → Hs → Res D} {tg tg2 : Expr}
/-! ### a comprehension with two fors -/
theorem s_lc2 {elt iter iter2 : Expr} {scope : Scope} {own : List (Str × Nat)} {pos : Pos} {fz : Bool} {vs vs2 : List Nat} {ce : E} {g g2 : G} {it it2 : I} (hc : X.calm = true) (hN : X.N.Nodup) (hi : SI X nm ca T cl tg iter it) (ok : BlkOk X.N X.env.scope scope own) (hv1 : ∀ i ∈ vs2, i ∈ own.map (·.2))
    (hg : Blk X scope fun Y => SG Y nm ca T cl tg g) (hi2 : Blk X scope fun Y => SI Y nm ca T cl tg2 iter2 it2) (hg2 : Blk X scope fun Y => SG Y nm ca T cl tg2 g2)
    (he : Blk X scope fun Y => SE Y nm ca T cl elt ce) (hs : ∀ x, foldedSetIterable iter X.env x = pure x) (hs2 : ∀ env x, foldedSetIterable iter2 env x = pure x) (hv : own.map (·.2) = vs) (hgs : ∀ i ∈ g.slots, i ∈ vs) (hgs2 : ∀ i ∈ g2.slots, i ∈ vs2) :
    SE X nm ca T cl (.ListComp elt [⟨tg, iter, [], 0⟩, ⟨tg2, iter2, [], 0⟩] scope pos) (.lc2 fz vs vs2 ce g it g2 it2) := by
  refine PE.imp (pe_lc2 (g := RG X.K nm ca g.slots (evG T cl g)) (g1 := RG X.K nm ca g2.slots (evG T cl g2)) (wi1 := RI X.K nm ca (evI T cl it2)) (te := RE X.K nm ca (evE T cl ce)) (tt := tYes) (tt1 := tYes) (vs1 := vs2) hc hN hi ok hv1 hg (fun _ _ _ _ _ => pts_nil) hi2 hg2 (fun _ _ _ _ _ => pts_nil) he hs hs2) fun τ H Q ⟨σ, h, β, rs, rh, p⟩ => ?_
  rw [hv]
  simp only [evE] at p
  obtain ⟨s, h1, e1, p⟩ := p.bind
  cases s with
  | live n => exact p.elim
  | its xs =>
    obtain ⟨u0, hf, ef, p⟩ := p.bind
    let LL := loopLC2 (evG T cl g) (evI T cl it2) (evG T cl g2) (evE T cl ce) (wipeM vs σ) vs2 h1.length
    have ef : LL (xs.drop 0) (h1 ++ [.lst []]) = .ok () hf := ef
    refine ⟨σ, h, β, rs, rh, ?_⟩
    rw [e1]
    intro H1 β1 J G st rh1 itm g1 D nD
    refine ⟨fun i m H' => ∃ h' β', Stp β1 H1 β' H' ∧ RelH X.K nm ca β' h' H' ∧ G β' H' ∧ β'[h1.length]? = some D ∧ m = xs.length - i ∧ i ≤ xs.length ∧ LL (xs.drop i) h' = .ok () hf, ⟨xs.length, h1 ++ [.lst []], β1 ++ [D], Stp.push nD, rh1.push (o := O.lst []) nD ⟨[], upd_same, .nil⟩, itm.mono (Stp.push nD) g1, ?_, by simp, Nat.zero_le _, ef⟩, ?_⟩
    · rw [← rh1.len, List.getElem?_append_right (Nat.le_refl _)]
      simp
    · rintro i m H' ⟨h', β', st', rh', g', hD, rfl, hle, el⟩
      by_cases hlt : i < xs.length
      · refine .inr ⟨itm.goes i β' H' hlt g', fun H2 => ∃ m', m' < xs.length - i ∧ ∃ h2 β2, Stp β1 H1 β2 H2 ∧ RelH X.K nm ca β2 h2 H2 ∧ G β2 H2 ∧ β2[h1.length]? = some D ∧ m' = xs.length - (i + 1) ∧ i + 1 ≤ xs.length ∧ LL (xs.drop (i + 1)) h2 = .ok () hf, fun H2 q => q, fun v H2 y => ?_⟩
        obtain ⟨s2, rel2, d, ed, rd⟩ := itm.yields i β' H' v H2 hlt g' y
        have rh2 := rel2 h' rh'
        have edr : xs.drop i = d :: xs.drop (i + 1) := by
          rw [List.drop_eq_getElem_cons hlt]
          rw [List.getElem?_eq_getElem hlt] at ed
          cases ed
          rfl
        have el : loopLC2 (evG T cl g) (evI T cl it2) (evG T cl g2) (evE T cl ce) (wipeM vs σ) vs2 h1.length (d :: xs.drop (i + 1)) h' = .ok () hf := by rw [← edr]; exact el
        simp only [loopLC2] at el
        have rs2 : RelS X.K nm ca β' H2 (wipeM vs σ) (L2.wipe τ vs) := ((((rs.mono st).mono st').mono s2).wipe vs)
        refine ⟨d, wipeM vs σ, h', β', rs2, rh2, rd, ?_⟩
        cases q1 : evG T cl g d (wipeM vs σ) h' with
        | ex _ _ => rw [q1] at el; cases el
        | no => rw [q1] at el; cases el
        | ok σ3 h3 =>
          simp only [q1, Res.bind] at el
          intro τ3 H3 β3 st3 rs3 rh3 c3
          refine ⟨chg_wipe hgs c3, ?_⟩
          unfold tYes
          simp only []
          rw [if_pos trivial]
          refine ⟨σ3, h3, β3, rs3, rh3, ?_⟩
          cases q2 : evI T cl it2 σ3 h3 with
          | ex _ _ => rw [q2] at el; cases el
          | no => rw [q2] at el; cases el
          | ok s4 h4 =>
            simp only [q2] at el
            cases s4 with
            | live _ => cases el
            | its ys =>
              simp only at el
              cases q5 : loopLC (evG T cl g2) (fun _ h => .ok true h) (evE T cl ce) (wipeM vs2 σ3) h1.length ys h4 with
              | ex _ _ => rw [q5] at el; cases el
              | no => rw [q5] at el; cases el
              | ok u5 h5 =>
                simp only [q5] at el
                intro H4 β4 J1 G1 st4 rh4 itm1 g4'
                have s14 : Stp β1 H1 β4 H4 := ((st'.trans s2).trans st3).trans st4
                have g4 : G β4 H4 := itm.mono st4 (itm.mono st3 (itm.mono s2 g'))
                have hD4 : β4[h1.length]? = some D := st4.get (st3.get hD)
                have rs4 := rs3.mono st4
                refine ⟨fun j k H' => ∃ h' β', Stp β4 H4 β' H' ∧ RelH X.K nm ca β' h' H' ∧ G1 β' H' ∧ k = ys.length - j ∧ j ≤ ys.length ∧ loopLC (evG T cl g2) (fun _ h => .ok true h) (evE T cl ce) (wipeM vs2 σ3) h1.length (ys.drop j) h' = .ok () h5, ⟨ys.length, h4, β4, Stp.refl _ _, rh4, g4', by simp, Nat.zero_le _, q5⟩, ?_⟩
                rintro j k HH ⟨h6, β6, st6, rh6, g6, rfl, hle6, el6⟩
                by_cases hlt6 : j < ys.length
                · refine .inr ⟨itm1.goes j β6 HH hlt6 g6, fun H7 => ∃ k', k' < ys.length - j ∧ ∃ h7 β7, Stp β4 H4 β7 H7 ∧ RelH X.K nm ca β7 h7 H7 ∧ G1 β7 H7 ∧ k' = ys.length - (j + 1) ∧ j + 1 ≤ ys.length ∧ loopLC (evG T cl g2) (fun _ h => .ok true h) (evE T cl ce) (wipeM vs2 σ3) h1.length (ys.drop (j + 1)) h7 = .ok () h5, fun H7 q => q, fun w H7 y7 => ?_⟩
                  obtain ⟨s7, rel7, d7, ed7, rd7⟩ := itm1.yields j β6 HH w H7 hlt6 g6 y7
                  have rh7 := rel7 h6 rh6
                  have edr7 : ys.drop j = d7 :: ys.drop (j + 1) := by
                    rw [List.drop_eq_getElem_cons hlt6]
                    rw [List.getElem?_eq_getElem hlt6] at ed7
                    cases ed7
                    rfl
                  rw [edr7] at el6
                  simp only [loopLC] at el6
                  have rs7 : RelS X.K nm ca β6 H7 (wipeM vs2 σ3) (L2.wipe τ3 vs2) := (((rs4.mono st6).mono s7).wipe vs2)
                  refine ⟨d7, wipeM vs2 σ3, h6, β6, rs7, rh7, rd7, ?_⟩
                  cases q8 : evG T cl g2 d7 (wipeM vs2 σ3) h6 with
                  | ex _ _ => rw [q8] at el6; cases el6
                  | no => rw [q8] at el6; cases el6
                  | ok σ8 h8 =>
                    simp only [q8, Res.bind, if_true] at el6
                    intro τ8 H8 β8 st8 rs8 rh8 c8
                    refine ⟨chg_wipe hgs2 c8, ?_⟩
                    simp only []
                    rw [if_pos trivial]
                    refine ⟨σ8, h8, β8, rs8, rh8, ?_⟩
                    cases q9 : evE T cl ce σ8 h8 with
                    | ex _ _ => rw [q9] at el6; cases el6
                    | no => rw [q9] at el6; cases el6
                    | ok yv h9 =>
                      simp only [q9] at el6
                      intro w9 H9 β9 st9 rh9 rd9
                      cases qa : pushM h1.length yv h9 with
                      | ex _ _ => rw [qa] at el6; cases el6
                      | no => rw [qa] at el6; cases el6
                      | ok ua ha =>
                        simp only [qa] at el6
                        obtain ⟨acc, a1, a2, a3⟩ := pushM_ok qa
                        have s49 : Stp β4 H4 β9 H9 := ((st6.trans s7).trans st8).trans st9
                        have hD9 := s49.get hD4
                        obtain ⟨us, j1, j2⟩ := rh9.obj _ _ D a1 hD9
                        have sw : Stp β9 H9 β9 (upd H9 D (.lst (us ++ [w9]))) := Stp.write (List.mem_of_getElem? hD9) j1 (fun _ z => nomatch z) (fun _ _ z => nomatch z)
                        refine ⟨us, j1, by rw [← j2.length]; exact a2, ys.length - (j + 1), by omega, ha, β9, s49.trans sw, ?_, itm1.mono sw (itm1.mono st9 (itm1.mono st8 (itm1.mono s7 g6))), rfl, hlt6, el6⟩
                        rw [a3]
                        exact rh9.write hD9 sw ⟨_, upd_same, (j2.mono sw).app (.cons (rd9.mono sw) .nil)⟩
                · have e : j = ys.length := by omega
                  subst e
                  rw [List.drop_length] at el6
                  simp only [loopLC] at el6
                  cases el6
                  refine .inl ⟨itm1.stops β6 HH g6, ?_⟩
                  exact ⟨xs.length - (i + 1), by omega, _, β6, s14.trans st6, rh6, itm.mono st6 g4, st6.get hD4, rfl, hlt, el⟩
      · have e : i = xs.length := by omega
        subst e
        have el : LL [] h' = .ok () hf := by rw [List.drop_length] at el; exact el
        have el : loopLC2 (evG T cl g) (evI T cl it2) (evG T cl g2) (evE T cl ce) (wipeM vs σ) vs2 h1.length [] h' = .ok () hf := el
        simp only [loopLC2] at el
        cases el
        refine .inl ⟨itm.stops β' H' g', ?_⟩
        exact back_ok rh1 st' rh' (.ref hD) (p.step st)
end
end MC

set_option Elab.async false
set_option linter.all false
set_option maxRecDepth 100000
set_option maxHeartbeats 4000000
namespace MC
open PySem PySem.Spec PyProof.Rows L2
section
variable {X : Cx} {nm : Nat → Str} {ca : CaT} {T : Tab} {cl : Nat → List D → Hs → Res D}
/-! ### a dict against an empty one -/
theorem pairs_mt {M : Model} {A : Around} {E : Value → Shared → Prop} {s : Shared} {nm : String} {a b : Addr} {oa ob : Obj} {es es' : Array DictEntry} {ep ep' : Nat} {Q : Bool → Shared → Prop} (ha : (a == sysModules) = false) (hb : (b == sysModules) = false)
    (hoa : s.heap.get? a = some oa) (hda : oa.data = .dict es ep) (hob : s.heap.get? b = some ob) (hdb : ob.data = .dict es' ep') (he : es'.size = 0) (h : Q (es.size == 0) s) : wpAny M A (Builtin.Dict.samePairs nm a b) Q E s := by
  unfold Builtin.Dict.samePairs Builtin.Dict.showsAll
  rw [if_neg (show ¬ (a == sysModules) = true by rw [ha]; exact Bool.false_ne_true), if_neg (show ¬ (b == sysModules) = true by rw [hb]; exact Bool.false_ne_true)]
  refine wpAny_bind (wpAny_pure (wpAny_bind (wpAny_pure ?_)))
  refine wpAny_bind (wpAny_dictEntries hoa hda ?_)
  dsimp only
  refine wpAny_bind (wpAny_dictEntries hob hdb ?_)
  by_cases hz : es.size = 0
  · rw [hz] at h
    rw [if_neg (by rw [hz, he]; simp)]
    refine wpAny_bind (wpAny_dictEpoch hoa hda ?_)
    refine wpAny_bind ?_
    rw [Std.Legacy.Range.forIn_eq_forIn_range']
    simp only [Std.Legacy.Range.size, Nat.sub_zero, Nat.add_sub_cancel, Nat.div_one, hz, List.range'_zero, List.forIn_nil]
    exact wpAny_pure (wpAny_pure h)
  · rw [if_pos (by rw [he]; simpa using hz)]
    have e : (es.size == 0) = false := by simpa using hz
    rw [e] at h
    exact wpAny_bind (wpAny_rule (wpAny_pure h))
def rDeq (X : Cx) (nm : Nat → Str) (ca : CaT) (ng : Bool) : L2.R2 := fun x y H Q => ∃ (β : List Addr) (a b : Addr) (ob ob2 : Obj) (kvs : List (D × D)) (xs : List (NestedKey × Addr × V)), x = .ref a ∧ y = .ref b ∧ DN X.prog X.w H a ob xs ∧ RelK X.K nm ca β H kvs xs ∧ DN X.prog X.w H b ob2 [] ∧ Q (.bl (kvs.isEmpty != ng)) H
def eqOp (ng : Bool) : CmpOp := if ng then .NotEq else .Eq
theorem RelK.length {K : PySem.W.Frag} {β : List Addr} {H : Hp} : ∀ {kvs : List (D × D)} {xs : List (NestedKey × Addr × V)}, RelK K nm ca β H kvs xs → kvs.length = xs.length
  | _, _, .nil => rfl
  | _, _, .cons _ _ _ t => by simp [RelK.length t]
theorem lies_l : ∀ {xs : List (NestedKey × Addr × V)} {ys : List (NestedKey × Addr × Value)}, Lies xs ys → xs.length = ys.length
  | _, _, .nil => rfl
  | _, _, .cons _ t => by simp [lies_l t]
theorem op_deq (hu : X.A.units + 64 < cLine) (ng : Bool) : OpR X (compareOp (eqOp ng)) (rDeq X nm ca ng) := by
  intro pins s σ H x y v u Q I rx ry q
  obtain ⟨β, a, b, ob, ob2, kvs, xs, rfl, rfl, e1, e2, e3, q⟩ := q
  cases rx
  cases ry
  obtain ⟨ha, _, hsa, ys, l, ⟨es, ep, c1, c2, c3⟩, _⟩ := dn_at I e1 e2
  obtain ⟨hb, _, hsb, ys', l', ⟨es', ep', c1', c2', c3'⟩, _⟩ := dn_at (nm := nm) (ca := ca) (β := β) I e3 .nil
  have n1 : es.size = kvs.length := by rw [← Array.length_toList, c3, List.length_map, ← lies_l l, e2.length]
  have n2 : es'.size = 0 := by rw [← Array.length_toList, c3', List.length_map, ← lies_l l']; rfl
  have n3 : (es.size == 0) = kvs.isEmpty := by rw [n1]; cases kvs <;> rfl
  have ta : s.TypeIs (.ref a) "dict" := ⟨ob, ha, c1.1⟩
  have tb : s.TypeIs (.ref b) "dict" := ⟨ob2, hb, c1'.1⟩
  have hu' : X.A.units < cLine := by omega
  cases ng with
  | false =>
    refine wpAny_richCompare_same_room (op := .Eq) ta tb PySem.F.slot_dict_eq (wpAny_call_entry PySem.F.slot_dict_eq ta PySem.F.entry_dict_eq ?_ (PySem.F.args_dict_eq_2 _ _)) hu'
    show wpAny _ _ (Builtin.Dict.dictSlotArgs "__eq__" ⟨[.ref a, .ref b], []⟩ >>= _) _ _ s
    refine wpAny_bind ?_
    unfold Builtin.Dict.dictSlotArgs
    refine wpAny_bind (wpAny_notOrdered_dict ta ?_)
    show wpAny _ _ (pure (Value.ref a, Value.ref b)) _ _ s
    refine wpAny_pure ?_
    refine wpAny_bind (wpAny_isInstance (T := "dict") tb PySem.F.sub_dict_dict ?_)
    simp only [Bool.not_true, Bool.false_eq_true, if_false]
    refine wpAny_bind (wpAny_pure (wpAny_bind (wpAny_pure ?_)))
    refine wpAny_bind (pairs_mt hsa hsb ha c2 hb c2' n2 ?_)
    refine wpAny_pure ⟨_, rfl, ?_, ?_⟩
    · exact fun x => nomatch x
    rw [n3]
    exact ⟨.bl (kvs.isEmpty != false), H, I, by simp [L2.RelV], q⟩
  | true =>
    refine wpAny_richCompare_same_room (op := .NotEq) ta tb PySem.F.slot_dict_ne (wpAny_call_entry PySem.F.slot_dict_ne ta PySem.F.entry_dict_ne ?_ (PySem.F.args_dict_ne_2 _ _)) hu'
    show wpAny _ _ (Builtin.Dict.dictSlotArgs "__ne__" ⟨[.ref a, .ref b], []⟩ >>= _) _ _ s
    refine wpAny_bind ?_
    unfold Builtin.Dict.dictSlotArgs
    refine wpAny_bind (wpAny_notOrdered_dict ta ?_)
    show wpAny _ _ (pure (Value.ref a, Value.ref b)) _ _ s
    refine wpAny_pure ?_
    refine wpAny_bind (wpAny_isInstance (T := "dict") tb PySem.F.sub_dict_dict ?_)
    simp only [Bool.not_true, Bool.false_eq_true, if_false]
    refine wpAny_bind (wpAny_pure (wpAny_bind (wpAny_pure ?_)))
    refine wpAny_bind (pairs_mt hsa hsb ha c2 hb c2' n2 ?_)
    refine wpAny_pure ⟨_, rfl, ?_, ?_⟩
    · exact fun x => nomatch x
    rw [n3]
    exact ⟨.bl (kvs.isEmpty != true), H, I, by simp [L2.RelV], q⟩
theorem deq_ok (hc : CaOk X ca) (ng : Bool) : BinOk X nm ca (deqD ng) (rDeq X nm ca ng) := by
  intro β H h x y d vx vy Q rh rx ry e p
  unfold deqD at e
  split at e
  · rename_i kvs q1 q2
    cases e
    obtain ⟨a, ob, xs, rfl, j1, j2⟩ := kvs_inv rh rx q1
    obtain ⟨b, ob2, xs2, rfl, i1, i2⟩ := kvs_inv rh ry q2
    cases i2
    rw [hc.1, hc.2] at j1 i1
    exact ⟨β, a, b, ob, ob2, kvs, xs, rfl, rfl, j1, j2, i1, PostE.here p rh (.bl _)⟩
  · cases e
theorem deq_bl {ng : Bool} (h : Hs) (x y d : D) (e : deqD ng h x y = some d) : ∃ k, d = .bl k := by
  unfold deqD at e
  split at e
  · cases e; exact ⟨_, rfl⟩
  · cases e
theorem s_deq {ng : Bool} {a b : Expr} {c c' : E} {pos : Pos} (hc : CaOk X ca) (hu : X.A.units + 64 < cLine) (ha : SE X nm ca T cl a c) (hb : SE X nm ca T cl b c') (hs : isSetE b = false) : SE X nm ca T cl (.Compare a [eqOp ng] [b] pos) (.deq ng c c') :=
  s_op2 (op_deq hu ng) (deq_ok hc ng) (fun _ _ => rfl) ha hb hs
theorem t_deq {ng : Bool} {a b : Expr} {c c' : E} {pos : Pos} (hc : CaOk X ca) (hu : X.A.units + 64 < cLine) (ha : SE X nm ca T cl a c) (hb : SE X nm ca T cl b c') (hs : isSetE b = false) : ST X nm ca T cl (.Compare a [eqOp ng] [b] pos) (.deq ng c c') :=
  t_op2 (op_deq hu ng) (deq_ok hc ng) deq_bl (fun _ _ => rfl) ha hb hs
/-! ### texts -/
theorem str_inv {K : PySem.W.Frag} {β : List Addr} {H : Hp} {x : Str} {v : V} (r : RelD K nm ca β H (.str x) v) : v = .str x := by cases r; rfl
theorem s_sidx {a b : Expr} {c c' : E} {apos pos : Pos} (ha : SE X nm ca T cl a c) (hb : SE X nm ca T cl b c') (hs : isSt b = false) (hbase : attributeBase a "index" X.env (eval a X.env) = eval a X.env) (hline : (apos.endLine == pos.line) = true) : SE X nm ca T cl (.Call (.Attribute a "index" apos) [b] [] pos) (.sidx c c') := by
  refine PE.imp (pe_m1 PySem.F.slot_str_index PySem.F.type_str_index mt_sindex ha hb (starEach_plain hs) hbase hline) fun τ H Q ⟨σ, h, β, rs, rh, p⟩ => ?_
  simp only [evE] at p
  obtain ⟨x, h1, e1, p⟩ := p.bind
  obtain ⟨y, h2, e2, p⟩ := p.bind
  obtain ⟨d, e3, p⟩ := p.of
  unfold sidxD at e3
  split at e3
  · rename_i s1 s2
    split at e3
    · rename_i i rest ho
      cases e3
      refine re1 rs rh e1 fun vx H1 β1 st rs1 rh1 rx => ?_
      have := str_inv rx
      subst this
      refine ⟨⟨_, rfl⟩, re1 rs1 rh1 e2 fun vy H2 β2 st2 rs2 rh2 ry => ?_⟩
      have := str_inv ry
      subst this
      exact ⟨_, _, i, rest, rfl, rfl, ho, PostE.here ((p.step st).step st2) rh2 (.int _)⟩
    · cases e3
  · cases e3
theorem strs_rel {K : PySem.W.Frag} {β : List Addr} {H : Hp} : ∀ {xs : List D} {ys : List Str} {vs : List V}, strsD xs = some ys → RelL K nm ca β H xs vs → vs = ys.map V.str
  | [], _, _, e, .nil => by cases e; rfl
  | x :: xs, ys, _, e, .cons r t => by
    cases x with
    | str z =>
      simp only [strsD, Option.map_eq_some_iff] at e
      obtain ⟨zs, e1, rfl⟩ := e
      rw [str_inv r, strs_rel e1 t]
      rfl
    | _ => cases e
theorem s_sjoin {a b : Expr} {c c' : E} {apos pos : Pos} (ha : SE X nm ca T cl a c) (hb : SE X nm ca T cl b c') (hs : isSt b = false) (hbase : attributeBase a "join" X.env (eval a X.env) = eval a X.env) (hline : (apos.endLine == pos.line) = true) : SE X nm ca T cl (.Call (.Attribute a "join" apos) [b] [] pos) (.sjoin c c') := by
  refine PE.imp (pe_m1 PySem.F.slot_str_join PySem.F.type_str_join mt_join ha hb (starEach_plain hs) hbase hline) fun τ H Q ⟨σ, h, β, rs, rh, p⟩ => ?_
  simp only [evE] at p
  obtain ⟨x, h1, e1, p⟩ := p.bind
  obtain ⟨y, h2, e2, p⟩ := p.bind
  obtain ⟨d, e3, p⟩ := p.of
  cases x with
  | str s1 =>
    cases q1 : y.lseq h2 with
    | none => simp [sjoinD, q1] at e3
    | some xs =>
      cases q2 : strsD xs with
      | none => simp [sjoinD, q1, q2] at e3
      | some ys =>
        simp only [sjoinD, q1, q2] at e3
        split at e3
        · rename_i hz
          cases e3
          refine re1 rs rh e1 fun vx H1 β1 st rs1 rh1 rx => ?_
          have := str_inv rx
          subst this
          refine ⟨⟨_, rfl⟩, re1 rs1 rh1 e2 fun vy H2 β2 st2 rs2 rh2 ry => ?_⟩
          obtain ⟨l, ws, rfl, k1, k2⟩ := lseq_inv rh2 q1 ry
          have := strs_rel q2 k2
          subst this
          exact ⟨_, l, ys, rfl, rfl, .inl k1, hz, PostE.here ((p.step st).step st2) rh2 (.str _)⟩
        · cases e3
  | _ => simp [sjoinD] at e3
theorem itm_str {K : PySem.W.Frag} {x : Str} : Itm K nm ca (Its x) (charsD x) (fun _ _ => True) where
  mono := fun _ g => g
  goes := fun i β H hi _ => by
    show i < x.cps.size
    simpa [charsD] using hi
  stops := fun β H _ => by
    show x.cps.size ≤ (charsD x).length
    simp [charsD]
  yields := fun i β H v H' hi _ y => by
    obtain ⟨e, c, hc, ev⟩ := y
    subst e
    subst ev
    refine ⟨Stp.refl _ _, fun _ r => r, .str ⟨#[c]⟩, ?_, .str _⟩
    unfold charsD
    rw [List.getElem?_map, Array.getElem?_toList, hc]
    rfl
theorem i_chars {tg e : Expr} {c : E} (h : SE X nm ca T cl e c) : SI X nm ca T cl tg e (.chars c) := by
  refine PI.imp (pi_str h) fun τ H R ⟨σ, h, β, rs, rh, p⟩ => ?_
  simp only [evI] at p
  obtain ⟨x, h1, e1, p⟩ := p.bind
  refine re1 rs rh e1 fun vx H1 β1 st rs1 rh1 rx => ?_
  cases x with
  | str x =>
    have := str_inv rx
    subst this
    exact ⟨x, rfl, p H1 β1 _ _ st rh1 itm_str trivial⟩
  | _ => exact p.elim
end
end MC

set_option Elab.async false
set_option linter.all false
set_option maxRecDepth 100000
set_option maxHeartbeats 4000000
namespace MC
open PySem PySem.Spec PyProof.Rows L2
section
variable {X : Cx} {nm : Nat → Str} {ca : CaT} {T : Tab} {cl : Nat → List D → Hs → Res D}
theorem rng_rel {K : PySem.W.Frag} {β : List Addr} {H : Hp} : ∀ l : List Nat, RelL K nm ca β H (l.map fun (i : Nat) => D.int (0 + (i : Int) * 1)) (l.map fun i => V.int (0 + (i : Nat)))
  | [] => .nil
  | i :: l => by
    refine .cons ?_ (rng_rel l)
    show RelD K nm ca β H (.int (0 + (i : Int) * 1)) (.int (0 + (i : Nat)))
    rw [Int.mul_one]
    exact .int _
/-- list(range(n)) -/
theorem s_lrng {a : Expr} {c : E} {p p2 pos pos2 : Pos} (hc : X.calm = true) (hg : Gl X "list") (hm : X.mg "list" = none) (hg2 : Gl X "range") (hm2 : X.mg "range" = none) (ha : SE X nm ca T cl a c) (hs : isSt a = false) :
    SE X nm ca T cl (.Call (.Name "list" p) [.Call (.Name "range" p2) [a] [] pos2] [] pos) (.lrng c) := by
  refine PE.imp (pe_listRg hc hg hm (prg_1 hg2 hm2 ha (starEach_plain hs))) fun τ H Q ⟨σ, h, β, rs, rh, p⟩ => ?_
  simp only [evE] at p
  obtain ⟨x, h1, e1, p⟩ := p.bind
  refine re1 rs rh e1 fun vx H1 β1 st rs1 rh1 rx => ?_
  cases x with
  | int j =>
    simp only at p
    split at p
    · rename_i hb
      cases rx
      simp only [Bool.and_eq_true, decide_eq_true_eq, big] at hb
      obtain ⟨⟨b1, b2⟩, b3⟩ := hb
      refine ⟨j, rfl, ⟨by decide, by decide, b1, b2, by omega⟩, fun q hq => PostE.laid (p.step st) rh1 hq (new_lst rh1 hq ?_)⟩
      unfold rngD rgV
      have e : (j - 0).toNat = j.toNat := by rw [Int.sub_zero]
      rw [e]
      exact rng_rel _
    · exact p.elim
  | _ => exact p.elim
/-- xs.extend(ys), ys a new list -/
theorem s_xtd {a e : Expr} {c k : E} {apos pos : Pos} (ha : SE X nm ca T cl a c) (he : SE X nm ca T cl e k) (hb : plainO a = true) (hs : isSt e = false) (hline : (apos.endLine == pos.line) = true) :
    SE X nm ca T cl (.Call (.Attribute a "extend" apos) [e] [] pos) (.bm .extend c (.cons k .nil)) := by
  refine PE.imp (pe_bm PySem.F.plainAttrs_list PySem.F.slot_list_extend PySem.F.type_list_extend mt_extend ha (a_cons he a_nil hs) (base_ok hb) (by
    have : (backTo pos (starEach [e] X.env)).all (fun x => !x.1) = true := star_all (by simp [hs])
    rw [this]; rfl) hline (starEach_plain hs) rfl) fun τ H Q ⟨σ, h, β, rs, rh, p⟩ => ?_
  simp only [evE] at p
  obtain ⟨x, h1, e1, p⟩ := p.bind
  cases q : x.lseq h1 with
  | none => simp only [q] at p; exact p.elim
  | some ys =>
    simp only [q] at p
    obtain ⟨xs, h2, e2, p⟩ := p.bind
    refine re1 rs rh e1 fun vx H1 β1 st rs1 rh1 rx => ?_
    obtain ⟨a, ws, rfl, k1, k2⟩ := lseq_inv rh1 q rx
    refine ⟨.inl ⟨rfl, ws, k1⟩, ra1 rs1 rh1 e2 fun vxs H2 β2 st2 rs2 rh2 rxs => ?_⟩
    obtain ⟨n, m, rfl, rfl⟩ : ∃ n m, x = .ref n ∧ xs = [.ref m] := by
      cases x with
      | ref n =>
        cases xs with
        | nil => exact p.elim
        | cons y ys =>
          cases ys with
          | nil =>
            cases y with
            | ref m => exact ⟨n, m, rfl, rfl⟩
            | _ => exact p.elim
          | cons _ _ => cases y <;> exact p.elim
      | _ => exact p.elim
    obtain ⟨v, rfl, ry⟩ := one_rel rxs
    obtain ⟨b, rfl, hβb⟩ := ry.ref_inv
    simp only [bmD] at p
    cases q3 : h2[n]? with
    | none => simp only [q3] at p; exact p.elim
    | some o =>
      cases o with
      | lst zs =>
        cases q4 : h2[m]? with
        | none => simp only [q3, q4] at p; exact p.elim
        | some o2 =>
          cases o2 with
          | lst zs2 =>
            simp only [q3, q4] at p
            split at p
            · rename_i hz
              obtain ⟨a', e', hβ⟩ := (rx.mono st2).ref_inv
              cases e'
              obtain ⟨us, j1, j2⟩ := rh2.obj n _ a q3 hβ
              obtain ⟨us2, i1, i2⟩ := rh2.obj m _ b q4 hβb
              have sw : Stp β2 H2 β2 (upd H2 a (.lst (us ++ us2))) := Stp.write (List.mem_of_getElem? hβ) j1 (fun _ z => nomatch z) (fun _ _ z => nomatch z)
              refine ⟨a, b, us, us2, rfl, rfl, j1, i1, by rw [← j2.length, ← i2.length]; exact hz, ?_⟩
              refine ((p.step st).step st2) .non _ _ sw (rh2.write hβ sw ⟨us ++ us2, upd_same, ?_⟩) .non
              exact (j2.mono sw).app (i2.mono sw)
            · exact p.elim
          | _ => simp only [q3, q4] at p; exact p.elim
      | _ => simp only [q3] at p; exact p.elim
end
/-! ### lambda x: (len(x), x), called -/
theorem bnd_lam {name q : Str} {a : Arg} {body : Expr} {scope : Scope} {cs : List (Str × Addr)} {pm cdv ct u : Value} : bindArgs (PySem.W.kla_fn name q ⟨[], [a], none, [], [], none, []⟩ body scope cs pm cdv ct) ⟨[u], []⟩ = pure [(a.arg, u)] := by
  have hn : notAStandIn Value.none = pure () := rfl
  unfold bindArgs
  simp [seqItems?, List.lookup, hn]
/-- what the lambda's scope must say -/
structure LamL (sc : Scope) (x : Str) : Prop where
  kind : sc.kind = .function
  co : sc.isCoroutine = false
  gen : sc.isGenerator = false
  own : sc.names.lookup x = some .local
  len : sc.names.lookup ("len" : Str) = some .globalImplicit
  free : ∀ y ∈ sc.names, y.2 ≠ .cell ∧ y.2 ≠ .free
  dbg : (x == ("__debug__" : Str)) = false
theorem lam_key {prog : Program} {w : World} {A : Around} {s : Shared} {f c' t : Addr} {q : Str} {a : Arg} {scope : Scope} {cs : List (Str × Addr)} {pm ctv : Value} {p1 p2 p3 p4 p6 : Pos} {p5} {mg mb : Str → Option Value} {its : List Value} {is : List Int} (L : LamL scope a.arg)
    (hf : s.heap.get? f = some (PySem.W.kla_obj "<lambda>" q ⟨[], [a], none, [], [], none, []⟩ (.Tuple [.Call (.Name "len" p1) [.Name a.arg p2] [] p3, .Name a.arg p4] p5 p6) scope cs pm c' ctv)) (hcd : s.heap.CodeRec (.ref c') q) (hroom : A.depth < recursionLimit)
    (hg : s.heap.Ns mainGlobals mg) (hm : mg "len" = none) (hb : s.heap.Ns builtinsNs mb) (hbb : mb "len" = some (.builtin "len")) (lim : s.heap.NoLimit) (ht : IsTup s.heap t its.toArray) (hl : its.length = is.length) (hz : is.length ≤ sizeLine) (hr : Reads s.heap (.ref t) (.tuple (is.map .int)) []) :
    wpAny (model prog w) A (call (.ref f) [.ref t]) (PySem.W.KeyPure (keyI is) s) (fun _ _ => False) s := by
  have rc : codeAny (model prog w) A (.call (.ref f) ⟨[.ref t], []⟩) (fun r s' => ∃ u, r = .ok (.ret u) ∧ PySem.W.KeyPure (keyI is) s u s') s := by
    refine PySem.W.kla_callFunE hroom hf rfl L.co L.gen rfl hcd ?_
    rw [bnd_lam]
    refine wpAny_pure (wpAny_newFunctionEnv (fun y hy => (L.free y hy).1) (fun y hy => by rw [List.mem_singleton.mp hy]; exact L.own) (fun h₁ hns hsb => ⟨lim.fresh _ hsb, ?_⟩) L.kind)
    show codeAny _ _ (.expr _ (PySem.W.envX q scope s.heap.objs.size f (.ref c') cs)) _ _
    have kp : ∀ b o, s.heap.get? b = some o → h₁.get? b = some o := fun b o e => hsb.extBut b o (Nat.ne_of_lt (Heap.lt_size e)) (Heap.get?_push_of_some _ e)
    have hnm : ([(a.arg, Value.ref t)].reverse.lookup a.arg) = some (Value.ref t) := by simp [List.lookup]
    refine PySem.W.kla_codeExpr (wpAny_Tuple_spliced ?_)
    refine Calls.spliced_cons (wpAny_Call_Name_kw (Calls.Name_function_global L.kind L.len (Calls.loadGlobal_builtin (mg := mg) (mb := mb) (hg.keeps kp) hm (hb.keeps kp) hbb ?_)))
    refine PyProof.Rows.callWith_builtin1 (e := .Name a.arg p2) (rest := []) ?_
    refine Calls.spliced_cons (wpAny_Name (wpAny_loadName_local (m := fun x => [(a.arg, Value.ref t)].reverse.lookup x) L.kind L.own hns hnm (Calls.spliced_nil ?_)) L.dbg)
    refine len_tuple (ht.keeps kp) (by rw [sizeLine_eq] at hz; simp only [List.size_toArray] <;> omega) ?_
    refine Calls.spliced_cons (wpAny_Name (wpAny_loadName_local (m := fun x => [(a.arg, Value.ref t)].reverse.lookup x) L.kind L.own hns hnm (Calls.spliced_nil ?_)) L.dbg)
    refine ⟨by simp [sizeLine_eq], _, rfl, _, _, rfl, fun b o e => Heap.get?_push_of_some _ (kp b o e), ?_⟩
    have hr' : Reads h₁ (.ref t) (.tuple (is.map .int)) [] := PyProof.Rows.Reads.keeps kp hr
    have hn : ((its.toArray.size : Nat) : Int) = (is.length : Int) := by rw [List.size_toArray, hl]
    unfold keyI
    rw [← hn]
    exact Reads.tuple (Heap.get?_push_size _ rfl) rfl rfl (.cons (.int _ _) (.cons (PyProof.Rows.Reads.keeps (fun b o e => Heap.get?_push_of_some _ e) hr') .nil))
  refine wpAny_call (codeAny_mono rc fun r s' hq => ?_)
  obtain ⟨u, rfl, hk⟩ := hq
  exact hk
end MC

set_option Elab.async false
set_option linter.all false
set_option maxRecDepth 100000
set_option maxHeartbeats 4000000
namespace MC
open PySem PySem.Spec PyProof.Rows L2
/-! ### a lambda is made -/
section
variable {X : Cx} {pins : List (Addr × Obj)} {σ : L2.St} {H : Hp} {s : Shared}
/-- its code object is found in the table, or new and put there -/
theorem lam_new {c P : Addr} {params : Arguments} {body : Expr} {scope : Scope} {pos : Pos} {E Q : Value → Shared → Prop} {ps : Array Value} (I : Inv X pins σ H s) (TB : LamX.TabB X.base X.mg c P) (hcode : X.env.code = .ref c) (hP : H P = some (.tbl ps)) (ht : TriplesOk ps.toList)
    (ha : ∀ (p : Pos) (cv : Value), codeAmong p ps.toList = some cv → ∃ d, cv = .ref d ∧ H d = some (LamX.CodeO d (X.env.qual ++ "<lambda>"))) (hdef : defaultsOf params X.env = ([], [])) (hfree : ∀ y ∈ scope.names, y.2 ≠ .cell ∧ y.2 ≠ .free)
    (h : ∀ (f d : Addr) (pm ctv : Value) (H1 : Hp) (s' : Shared), Inv X pins σ H1 s' → (H1 = H ∨ (H d = none ∧ H1 = upd (upd H P (.tbl (ps ++ #[rawInt pos.line, rawInt pos.col, .ref d]))) d (LamX.CodeO d (X.env.qual ++ "<lambda>")))) →
      s'.heap.get? f = some (PySem.W.kla_obj "<lambda>" (X.env.qual ++ "<lambda>") params body scope (cloFrom X.env.cells scope.names []) pm d ctv) → H1 d = some (LamX.CodeO d (X.env.qual ++ "<lambda>")) → Q (.ref f) s') :
    wpAny (model X.prog X.w) X.A (eval (.Lambda params body scope pos) X.env) Q E s := by
  refine PySem.W.kla_eval hdef ?_
  have at_P : s.heap.get? P = some { cls := .none, data := .fields ps } := I.hok P _ hP
  have hcl : closureFor scope X.env = pure (cloFrom X.env.cells scope.names []) := closure_ok fun y hy z => absurd z (hfree y hy).2
  have hb := TB.bm.keeps I.bk
  have hcd := TB.code.keeps I.bk
  have hgl := I.mod.glob.keeps I.bk
  cases hc : codeAmong pos ps.toList with
  | some cv =>
    obtain ⟨d, rfl, hd⟩ := ha pos cv hc
    refine PySem.W.kla_makeFunctionHit (mg := X.mg) (c := c) (P := P) (ps := ps) hcl I.ok.glob hgl hcode hcd at_P ht hc hb fun ctv h' tk hx hsz => ?_
    exact h _ d ((X.mg "__name__").getD .none) ctv H _ (I.kept fun b o e => Heap.get?_push_of_some _ (hx b o e)) (.inl rfl) (Heap.get?_push_size _ rfl) hd
  | none =>
    refine PySem.W.kla_makeFunction (mg := X.mg) (c := c) (P := P) (ps := ps) hcl I.ok.glob hgl hcode hcd at_P ht hc TB.gP hb fun d ctv h' tk hx hge hlt hrec htb => ?_
    obtain ⟨d2, oc, vs, t, e2, k1, k2, k3⟩ := hrec
    cases e2
    have J := LamX.inv_table (t' := tk) (more := #[rawInt pos.line, rawInt pos.col, .ref d]) (h' := h'.push (PySem.W.kla_obj "<lambda>" (X.env.qual ++ "<lambda>") params body scope (cloFrom X.env.cells scope.names []) ((X.mg "__name__").getD .none) d ctv)) I hP
      (fun b o n e => Heap.get?_push_of_some _ (hx b o n e)) (Heap.get?_push_of_some _ htb) hge ⟨oc, vs, t, Heap.get?_push_of_some _ k1, k2, k3⟩
    exact h _ d ((X.mg "__name__").getD .none) ctv _ _ J (.inr ⟨I.hok.fresh hge, rfl⟩) (Heap.get?_push_size _ rfl) upd_same
end
section
variable {K : PySem.W.Frag} {nm : Nat → Str} {ca : CaT} {β : List Addr} {H : Hp} {P d : Addr} {ps : Array Value} {q : Str}
theorem Stp.lam {u : HO} {ps' : Array Value} (hP : H P = some (.tbl ps)) (hd : H d = none) : Stp β H β (upd (upd H P (.tbl ps')) d u) := by
  have k : ∀ a o, H a = some o → (∀ z, o ≠ .tbl z) → upd (upd H P (.tbl ps')) d u a = some o := fun a o e n => by
    rw [upd_ne (ne_of_none e hd), upd_ne (ne_of e hP (n ps))]; exact e
  refine ⟨fun a xs e => k a _ e (fun _ z => by cases z), fun a o v e => k a _ e (fun _ z => by cases z), fun a o e _ n => k a o e n, fun a z e => ?_, ⟨[], by simp⟩, fun _ m => .inl m⟩
  by_cases ha : a = P
  · subst ha
    exact ⟨ps', by rw [upd_ne (ne_of_none e hd), upd_same]⟩
  · exact ⟨z, by rw [upd_ne (ne_of_none e hd), upd_ne ha]; exact e⟩
theorem RelH.lam {h : Hs} {pos : Pos} (r : RelH K nm ca β h H) (hm : (P, q) ∈ ca.tabs) (hu : ∀ p ∈ ca.tabs, p.1 = P → p.2 = q) (hP : H P = some (.tbl ps)) (hd : H d = none) :
    RelH K nm ca β h (upd (upd H P (.tbl (ps ++ #[rawInt pos.line, rawInt pos.col, .ref d]))) d (LamX.CodeO d q)) := by
  have st : Stp β H β (upd (upd H P (.tbl (ps ++ #[rawInt pos.line, rawInt pos.col, .ref d]))) d (LamX.CodeO d q)) := Stp.lam hP hd
  have k : ∀ a o, H a = some o → (∀ z, o ≠ .tbl z) → upd (upd H P (.tbl (ps ++ #[rawInt pos.line, rawInt pos.col, .ref d]))) d (LamX.CodeO d q) a = some o := fun a o e n => by
    rw [upd_ne (ne_of_none e hd), upd_ne (ne_of e hP (n ps))]; exact e
  refine ⟨r.len, r.nd, fun i ob a e1 e2 => ?_, fun p hp => ?_⟩
  · have R := r.obj i ob a e1 e2
    obtain ⟨u, k1, _, k3⟩ := R.there
    refine R.keep st fun v e => ?_
    rw [k1] at e
    cases e
    exact k a _ k1 k3
  · obtain ⟨ps1, t1, t2, t3⟩ := r.tab p hp
    by_cases hb : p.1 = P
    · have hq := hu p hp hb
      rw [hb] at t1 ⊢
      rw [hP] at t1
      cases t1
      refine ⟨_, by rw [upd_ne (ne_of_none hP hd), upd_same], ?_, fun pos2 cv hc => ?_⟩
      · have e : (ps ++ #[rawInt pos.line, rawInt pos.col, .ref d]).toList = ps.toList ++ [rawInt pos.line, rawInt pos.col, .ref d] := by simp
        rw [e]
        exact PySem.TriplesOk_snoc _ _ _ _ t2
      · have e : (ps ++ #[rawInt pos.line, rawInt pos.col, .ref d]).toList = ps.toList ++ [rawInt pos.line, rawInt pos.col, .ref d] := by simp
        rw [e] at hc
        rcases LamX.among_app _ t2 hc with z | z
        · obtain ⟨c0, e1, e2, e3⟩ := t3 pos2 cv z
          exact ⟨c0, e1, k _ _ e2 LamX.codeO_ne, e3⟩
        · refine ⟨d, z, ?_, r.notin hd⟩
          rw [hq]
          exact upd_same
    · refine ⟨ps1, by rw [upd_ne (ne_of_none t1 hd), upd_ne hb]; exact t1, t2, fun pos2 cv hc => ?_⟩
      obtain ⟨c0, e1, e2, e3⟩ := t3 pos2 cv hc
      exact ⟨c0, e1, k _ _ e2 LamX.codeO_ne, e3⟩
end
/-! ### rows of ints -/
theorem alike_ints : ∀ xs ys : List Int, PySem.W.alikeAll (xs.map PyData.int) (ys.map PyData.int) = true
  | [], ys => by cases ys <;> rfl
  | _ :: _, [] => rfl
  | x :: xs, y :: ys => by simp [PySem.W.alikeAll, PySem.W.alike, alike_ints xs ys]
theorem keyI_alike (x y : List Int) : PySem.W.alike (keyI x) (keyI y) = true := by
  simp [keyI, PySem.W.alike, PySem.W.alikeAll, alike_ints]
theorem ints_depth : ∀ xs : List Int, PyData.depthAll (xs.map PyData.int) = 0
  | [] => rfl
  | x :: xs => by simp [PyData.depthAll, PyData.depth, ints_depth xs]
theorem keyI_depth (x : List Int) : (keyI x).depth ≤ 2 := by
  simp [keyI, PyData.depth, PyData.depthAll, ints_depth]
theorem intsT_eq : ∀ {xs : List D} {is : List Int}, intsT xs = some is → xs = is.map D.int
  | [], _, e => by cases e; rfl
  | x :: xs, is, e => by
    cases x with
    | int i =>
      simp only [intsT, Option.map_eq_some_iff] at e
      obtain ⟨js, e1, rfl⟩ := e
      rw [intsT_eq e1]
      rfl
    | _ => cases e
theorem rowsI_eq : ∀ {xs : List D} {iss : List (List Int)}, rowsI xs = some iss → xs = iss.map rowI
  | [], _, e => by cases e; rfl
  | x :: xs, iss, e => by
    cases x with
    | tup ys =>
      simp only [rowsI] at e
      split at e
      · rename_i is rs e1 e2
        cases e
        rw [rowsI_eq e2, intsT_eq e1]
        rfl
      · cases e
    | _ => cases e
theorem ints_py (is : List Int) : (rowI is).pyQ = some (.tuple (is.map .int)) := by
  have : D.pyP (is.map D.int) = some (is.map PyData.int) := by
    induction is with
    | nil => rfl
    | cons i is ih => simp [D.pyP, D.pyQ, ih]
  simp [rowI, D.pyQ, this]
theorem reads_ints {h : Heap} : ∀ {is : List Int} {vs : List Value} {as : List Addr}, ReadsAll h vs (is.map PyData.int) as → as = []
  | [], _, _, .nil => rfl
  | i :: is, _, _, .cons r t => by
    cases r
    rw [reads_ints t]
    rfl
theorem reads_row {h : Heap} {is : List Int} {v : Value} {as : List Addr} (r : Reads h v (.tuple (is.map .int)) as) : as = [] := by
  cases r with
  | tuple _ _ _ q => exact reads_ints q
theorem srt_ok {l m : List (List Int)} (h : srtB l m = true) : l.mergeSort (PySem.W.dataLe false keyI) = m := by
  unfold srtB at h
  simp only [Bool.and_eq_true, decide_eq_true_eq] at h
  obtain ⟨⟨hp, hs⟩, ha⟩ := h
  have hT : PySem.W.TotalLe (PySem.W.dataLe false keyI) := PySem.W.sortLe_total _ false _
  have hq : (l.mergeSort (PySem.W.dataLe false keyI)).Perm m := (List.mergeSort_perm l _).trans hp.symm
  exact List.Perm.eq_of_pairwise (le := fun a b => PySem.W.dataLe false keyI a b = true) (fun a b h1 h2 h3 h4 => ha a (hq.mem_iff.mp h1) b h2 h3 h4) (PySem.W.sort_pairwise hT l) hs hq
/-! ### sorted(xs, key=lambda x: (len(x), x)) -/
section
variable {X : Cx} {nm : Nat → Str} {ca : CaT} {T : Tab} {cl : Nat → List D → Hs → Res D}
/-- where the lambdas of the running def stand -/
structure TabX (X : Cx) (ca : CaT) : Prop where
  at_ : ∃ c P, X.env.code = .ref c ∧ LamX.TabB X.base X.mg c P ∧ (P, X.env.qual ++ "<lambda>") ∈ ca.tabs ∧ ∀ p ∈ ca.tabs, p.1 = P → p.2 = X.env.qual ++ "<lambda>"
def RowR (K : PySem.W.Frag) (nm : Nat → Str) (ca : CaT) (β : List Addr) (H : Hp) (s : Shared) (v : Value) (is : List Int) : Prop :=
  ∃ (t : Addr) (its : List Value), v = .ref t ∧ RelD K nm ca β H (rowI is) (.ref t) ∧ IsTup s.heap t its.toArray ∧ its.length = is.length ∧ is.length ≤ sizeLine ∧ Reads s.heap (.ref t) (.tuple (is.map .int)) []
theorem rows_each {pins : List (Addr × Obj)} {σ : L2.St} {β : List Addr} {H : Hp} {s : Shared} (I : Inv X pins σ H s) : ∀ {iss : List (List Int)} {ws : List V} {vs : List Value}, RelL X.K nm ca β H (iss.map rowI) ws → Vals ws vs → PySem.W.EachIs (RowR X.K nm ca β H s) vs iss
  | [], _, _, .nil, .nil => .nil
  | is :: iss, _, _, .cons rd rl, .cons rv rt => by
    refine .cons ?_ (rows_each I rl rt)
    obtain ⟨t, zs, rfl, k1, k2⟩ := rd.tup_inv
    obtain ⟨its, r', pl, hz⟩ := I.tuple k1
    obtain ⟨as, rr⟩ := Dp.reads I _ _ _ (pyQ_dp rd (ints_py is)) rv
    cases rv
    have e0 := reads_row rr
    subst e0
    have e1 := k2.length
    rw [List.length_map] at e1
    exact ⟨t, its, rfl, rd, pl, by rw [e1, ← r'.length], by rw [e1]; exact hz, rr⟩
theorem rows_back {β : List Addr} {H : Hp} {s : Shared} {K : PySem.W.Frag} : ∀ {iss : List (List Int)} {vs : List Value}, PySem.W.EachIs (RowR K nm ca β H s) vs iss → ∃ ws : List V, Vals ws vs ∧ RelL K nm ca β H (iss.map rowI) ws
  | _, _, .nil => ⟨[], .nil, .nil⟩
  | _, _, .cons ⟨t, its, e, rd, _⟩ r => by
    obtain ⟨ws, k1, k2⟩ := rows_back r
    subst e
    exact ⟨.ref t :: ws, .cons rfl k1, .cons rd k2⟩
theorem s_slen {n : Nat} {e : Expr} {c : E} {a : Arg} {scope : Scope} {p p1 p2 p3 p4 p6 lpos kp pos : Pos} {p5} (R : Room (n + 1) X.A) (TX : TabX X ca) (L : LamL scope a.arg) (hg : Gl X "sorted") (hm : X.mg "sorted" = none) (hm2 : X.mg "len" = none) (he : SE X nm ca T cl e c) (hs : isSt e = false)
    (hkw : (Str.ofString "key") = "key") :
    SE X nm ca T cl (.Call (.Name "sorted" p) [e] [⟨some "key", .Lambda ⟨[], [a], none, [], [], none, []⟩ (.Tuple [.Call (.Name "len" p1) [.Name a.arg p2] [] p3, .Name a.arg p4] p5 p6) scope lpos, kp⟩] pos) (.slen c) := by
  obtain ⟨cc, P, hcode, TB, hmem, huq⟩ := TX.at_
  refine ⟨fun pins s τ H Q I ⟨σ, h, β, rs, rh, pp⟩ => ?_⟩
  simp only [evE] at pp
  obtain ⟨x, h1, e1, pp⟩ := pp.bind
  refine wpAny_Call_Name_kw (ld_blt I hg hm (by decide +kernel : bootBuiltins "sorted" = some (.builtin "sorted")) ?_)
  have hst : starEach [e] X.env = (false, eval e X.env) :: starEach [] X.env := starEach_plain hs
  refine PyProof.Rows.callWith_kw ?_ (by rw [hst]; rfl) (by rw [hst]; rfl) (by rfl) (by rfl)
  rw [hst]
  show wpAny _ _ (spliced ((false, eval e X.env) :: [])) _ _ s
  refine Calls.spliced_cons (thn (he.run pins s τ H (fun vx H1 => ∃ β1, Stp β H β1 H1 ∧ RelH X.K nm ca β1 h1 H1 ∧ RelD X.K nm ca β1 H1 x vx) I ⟨σ, h, β, rs, rh, ?_⟩) fun u s1 ⟨vx, H1, I1, r1, q1⟩ => ?_)
  · rw [e1]
    exact fun v H' β' st r1 rd => ⟨β', st, r1, rd⟩
  obtain ⟨β1, st, rh1, rx⟩ := q1
  refine Calls.spliced_nil ?_
  show wpAny _ _ (evalAll [(do let v ← eval (.Lambda _ _ scope lpos) X.env; standAt pos; pure v)]) _ _ s1
  obtain ⟨ps, hP, ht, ha⟩ := rh1.tab _ hmem
  refine wpAny_evalAll_cons (wpAny_bind (lam_new (c := cc) (P := P) I1 TB hcode hP ht (fun p cv hc => (ha p cv hc).imp fun d z => ⟨z.1, z.2.1⟩) (by rfl) L.free fun f d pm ctv H2 s2 I2 hH hf hd => wpAny_bind (wpAny_standAt (wpAny_pure (wpAny_evalAll_nil ?_)))))
  have st2 : Stp β1 H1 β1 H2 := by
    rcases hH with rfl | ⟨z, rfl⟩
    · exact Stp.refl _ _
    · exact Stp.lam hP z
  have rh2 : RelH X.K nm ca β1 h1 H2 := by
    rcases hH with rfl | ⟨z, rfl⟩
    · exact rh1
    · exact rh1.lam hmem huq hP z
  have rx2 := rx.mono st2
  cases q : x.lseq h1 with
  | none => simp only [q] at pp; exact pp.elim
  | some xs =>
    simp only [q] at pp
    cases q2 : rowsI xs with
    | none => simp only [q2] at pp; exact pp.elim
    | some iss =>
      simp only [q2] at pp
      split at pp
      · rename_i hlen0
        have hlen := hlen0.1
        rw [← srt_ok hlen0.2] at pp
        have ex := rowsI_eq q2
        subst ex
        obtain ⟨l, ws, rfl, k1, k2⟩ := lseq_inv rh2 q rx2
        cases r1
        obtain ⟨its, rv, hl, hz⟩ := I2.list k1
        obtain ⟨⟨oc, fs, t, c1, c2, c3⟩, _, _⟩ := I2.hok d _ hd
        obtain ⟨mb, b1, b2⟩ := I2.mod.blt
        have EI := rows_each I2 k2 rv
        show wpAny _ _ (call (.builtin "sorted") [.ref l] [(Str.ofString "key", .ref f)]) _ _ s2
        refine PySem.W.sorted_key_data (k := keyI) (b := false) (R := RowR X.K nm ca β1 H2 s2) hl.isList EI ?_ ?_ hlen (fun y _ => ?_) (PyProof.Rows.ksk_s1 _ _) (fun _ => PyProof.Rows.ksk_l1 _ _) (fun x => PyProof.Rows.ksk_t1 f x) (fun v y hR _ hp tk hkp => ?_) fun out c3' h' tk hkp _ hat hol hev => ?_
        · exact PySem.W.AllAlike.of fun y z => keyI_alike y z
        · exact PySem.W.Sortable.tuples fun _ => ⟨_, _, rfl⟩
        · have := R.un; have := keyI_depth y; omega
        · obtain ⟨t, its, rfl, _, i1, i2, i3, i4⟩ := hR
          refine lam_key (s := { s2 with heap := hp, toks := tk }) (mg := X.mg) (mb := mb) L (hkp _ _ hf) ⟨d, oc, fs, _, rfl, hkp _ _ c1, c2, c3⟩ ?_ ((I2.mod.glob.keeps I2.bk).keeps hkp) hm2 ((b1.keeps I2.bk).keeps hkp) ((b2 "len" (by decide)).trans (by decide +kernel)) (I2.nolimit.keeps hkp) (i1.keeps hkp) i2 i3 (PyProof.Rows.Reads.keeps hkp i4)
          exact R.depth
        · obtain ⟨ws', w1, w2⟩ := rows_back hev
          have hfr : H2 (s2.heap.objs.size + 1) = none := I2.hok.fresh (Nat.le_succ _)
          have hz' : ws'.length ≤ sizeLine := by
            rw [← w2.length, List.length_map, List.length_mergeSort]; exact hlen
          exact ⟨.ref _, upd H2 (s2.heap.objs.size + 1) (.lst ws'), I2.laid hkp (Nat.le_succ _) ⟨hz', out, _, w1, hat⟩, rfl, PostE.laid ((pp.step st).step st2) rh2 hfr (new_lst rh2 hfr w2)⟩
      · exact pp.elim
end
end MC

set_option Elab.async false
set_option linter.all false
set_option maxRecDepth 100000
set_option maxHeartbeats 4000000
namespace MC
open PySem PySem.Spec PyProof.Rows L2
section
variable {X : Cx} {nm : Nat → Str} {ca : CaT} {T : Tab} {cl : Nat → List D → Hs → Res D}
/-! ### calls that may raise -/
theorem call_x {f n : Nat} {x : Str} {ad : Addr} {es : List Expr} {c : A} {p pos : Pos} (F : FnF X nm ca n (cl f) ad) (hr : Room n X.A) (hg : Gl X x) (hm : X.mg x = some (.ref ad)) (hk : PySem.W.keepIn X.K (.ref ad) = true) (hdb : (x == ("__debug__" : Str)) = false)
    (ha : SA X nm ca T cl es c) (hs : es.all (fun e => !isSt e) = true) (hc : es = [] → c = .nil) {τ : L2.St} {H : Hp} {σ : Sg} {h h1 : Hs} {β : List Addr} {xs : List D} {Q : VK} (rs : RelS X.K nm ca β H σ τ) (rh : RelH X.K nm ca β h H) (e1 : evA T cl c σ h = .ok xs h1)
    (q : (∃ d h2, cl f xs h1 = .ok d h2 ∧ PostE X.K nm ca β H (.ok d h2) Q) ∨ ∃ z h2, cl f xs h1 = .ex z h2 ∧ Takes X (WxM X.K nm ca β H z h2)) : ∃ t : TE, PE X (.Call (.Name x p) es [] pos) t ∧ t τ H Q := by
  obtain ⟨fd, ps, hb, F⟩ := F
  have key : ∃ E : XK, Passes (CXm X.prog X.w) X E ∧ ∀ {β1 : List Addr} {H1 : Hp}, Stp β H β1 H1 → PostX X.K nm ca β1 H1 (cl f xs h1) Q E := by
    rcases q with ⟨d, h2, e2, q⟩ | ⟨z, h2, e2, q⟩
    · refine ⟨E0, passM, fun st => ?_⟩
      rw [e2]
      exact (PostE.step q st).toX
    · refine ⟨fun cls d H' => WxM X.K nm ca β H z h2 cls d [] H', passes_call q fun _ _ _ _ w => w, fun st => ?_⟩
      rw [e2]
      exact fun dd H' β' s1 r1 => ⟨rfl, β', st.trans s1, r1⟩
  obtain ⟨E, hp, hq⟩ := key
  cases es with
  | nil =>
    have := hc rfl
    subst this
    simp only [evA] at e1
    cases e1
    exact ⟨_, pe_call0 F hr hg hm hk hb .nil hp hdb, [], h, β, .nil, rh, hq (Stp.refl _ _)⟩
  | cons e es =>
    have hs0 := hs
    simp only [List.all_cons, Bool.and_eq_true, Bool.not_eq_true'] at hs0
    refine ⟨_, pe_call F hr hg hm hk hb .nil hp ha hdb (starEach_plain hs0.1) (noStar hs0.2), ra1 rs rh e1 fun vxs H1 β1 st rs1 rh1 rx => ?_⟩
    rw [List.append_nil]
    exact ⟨xs, h1, β1, rx, rh1, hq st⟩
theorem st_xret {f n : Nat} {x : Str} {ad : Addr} {es : List Expr} {c : A} {p pos pos' : Pos} (F : FnF X nm ca n (cl f) ad) (hr : Room n X.A) (hg : Gl X x) (hm : X.mg x = some (.ref ad)) (hk : PySem.W.keepIn X.K (.ref ad) = true) (hdb : (x == ("__debug__" : Str)) = false)
    (ha : SA X nm ca T cl es c) (hs : es.all (fun e => !isSt e) = true) (hc : es = [] → c = .nil) : SS X nm ca T cl (.Return (some (.Call (.Name x p) es [] pos)) pos') (.xret f c) := by
  refine ⟨fun pins s τ H D I ⟨σ, h, β, rs, rh, q⟩ => ?_⟩
  simp only [evS] at q
  obtain ⟨xs, h1, e1, q⟩ := q.bind
  have q2 : (∃ d h2, cl f xs h1 = .ok d h2 ∧ PostE X.K nm ca β H (.ok d h2) D.rt) ∨ ∃ z h2, cl f xs h1 = .ex z h2 ∧ Takes X (WxM X.K nm ca β H z h2) := by
    rcases q.bindX with ⟨d, h2, e2, q⟩ | z
    · exact .inl ⟨d, h2, e2, fun v H' β' st r1 rd => q τ H' β' st (rs.mono st) r1 v rd⟩
    · exact .inr z
  obtain ⟨t, ht, hq⟩ := call_x (p := p) (pos := pos) F hr hg hm hk hdb ha hs hc rs rh e1 q2
  exact (ps_ret ht).run pins s τ H D I hq
theorem st_xexp {f n : Nat} {x : Str} {ad : Addr} {es : List Expr} {c : A} {p pos pos' : Pos} (F : FnF X nm ca n (cl f) ad) (hr : Room n X.A) (hg : Gl X x) (hm : X.mg x = some (.ref ad)) (hk : PySem.W.keepIn X.K (.ref ad) = true) (hdb : (x == ("__debug__" : Str)) = false)
    (ha : SA X nm ca T cl es c) (hs : es.all (fun e => !isSt e) = true) (hc : es = [] → c = .nil) : SS X nm ca T cl (.Expr (.Call (.Name x p) es [] pos) pos') (.xexp f c) := by
  refine ⟨fun pins s τ H D I ⟨σ, h, β, rs, rh, q⟩ => ?_⟩
  simp only [evS] at q
  obtain ⟨xs, h1, e1, q⟩ := q.bind
  have q2 : (∃ d h2, cl f xs h1 = .ok d h2 ∧ PostE X.K nm ca β H (.ok d h2) fun _ H1 => D.nx τ H1) ∨ ∃ z h2, cl f xs h1 = .ex z h2 ∧ Takes X (WxM X.K nm ca β H z h2) := by
    rcases q.bindX with ⟨d, h2, e2, q⟩ | z
    · exact .inl ⟨d, h2, e2, fun v H' β' st r1 rd => q τ H' β' st (rs.mono st) r1⟩
    · exact .inr z
  obtain ⟨t, ht, hq⟩ := call_x (p := p) (pos := pos) F hr hg hm hk hdb ha hs hc rs rh e1 q2
  exact (ps_expr (pos := pos') ht (swaps_no rfl)).run pins s τ H D I hq
theorem st_xasg {i f n : Nat} {x y : Str} {ad : Addr} {es : List Expr} {c : A} {p pos pos' py : Pos} (F : FnF X nm ca n (cl f) ad) (hr : Room n X.A) (hg : Gl X x) (hm : X.mg x = some (.ref ad)) (hk : PySem.W.keepIn X.K (.ref ad) = true) (hdb : (x == ("__debug__" : Str)) = false)
    (ha : SA X nm ca T cl es c) (hs : es.all (fun e => !isSt e) = true) (hc : es = [] → c = .nil) (hy : SG X nm ca T cl (.Name y py) (.nm i)) : SS X nm ca T cl (.Assign [.Name y py] (.Call (.Name x p) es [] pos) pos') (.xasg i f c) := by
  refine ⟨fun pins s τ H D I ⟨σ, h, β, rs, rh, q⟩ => ?_⟩
  simp only [evS] at q
  obtain ⟨xs, h1, e1, q⟩ := q.bind
  have q2 : (∃ d h2, cl f xs h1 = .ok d h2 ∧ PostE X.K nm ca β H (.ok d h2) fun v H1 => RG X.K nm ca (G.nm i).slots (evG T cl (.nm i)) v τ H1 D.nx) ∨ ∃ z h2, cl f xs h1 = .ex z h2 ∧ Takes X (WxM X.K nm ca β H z h2) := by
    rcases q.bindX with ⟨d, h2, e2, q⟩ | z
    · refine .inl ⟨d, h2, e2, fun v H' β' st r1 rd => ⟨d, σ, h2, β', rs.mono st, r1, rd, ?_⟩⟩
      simp only [evG]
      exact fun τ' H2 β2 st' rs' rh' _ => q τ' H2 β2 (st.trans st') rs' rh'
    · exact .inr z
  obtain ⟨t, ht, hq⟩ := call_x (p := p) (pos := pos) F hr hg hm hk hdb ha hs hc rs rh e1 q2
  exact (ps_asg (pos := pos') ht hy rfl (stores_no rfl) (by rw [assignEach_plain rfl]; rfl)).run pins s τ H D I hq
/-! ### raise -/
abbrev bmV : List Value := [.type "ValueError", .type "Exception", .type "BaseException", .type "object"]
/-- an own exception's class without __init__ -/
structure ExcF (K : PySem.W.Frag) (mg : Str → Option Value) (ca : CaT) (c : Nat) (x : Str) : Prop where
  own : PySem.W.excIn K (ca c) bmV "ValueError.__new__" = true
  gl : mg x = some (.ref (ca c))
  keep : PySem.W.keepIn K (.ref (ca c)) = true
  sub : PySem.W.subIn K (.ref (ca c)) (.type "BaseException") = some true
  typ : PySem.W.typeIn K (.ref (ca c)) = some (.type "type")
  hit : PySem.W.exmOne K (.ref (ca c)) (.ref (ca c)) = some true
theorem st_raise {c j : Nat} {x m : Str} {p p2 pos pos' : Pos} (hc : X.calm = true) (F : ExcF X.K X.mg ca c x) (hg : Gl X x) (hdb : (x == ("__debug__" : Str)) = false) : SS X nm ca T cl (.Raise (some (.Call (.Name x p) [.Constant (.str m) j p2] [] pos)) none pos') (.raise c) := by
  refine ⟨fun pins s τ H D I ⟨σ, h, β, rs, rh, q⟩ => ?_⟩
  simp only [evS] at q
  have tk : Takes X (WxM X.K nm ca β H ⟨c, .non⟩ h) := q
  exact (ps_raise (pos := pos') hc tk (pmk_own (p := p) (p2 := p2) (pos := pos) (j := j) (m := m) PySem.F.excBase_ValueError F.own F.gl F.keep (raises_own F.sub F.typ) hg hdb)).run pins s τ H D I ⟨rfl, β, Stp.refl _ _, rh⟩
end
end MC

set_option Elab.async false
set_option linter.all false
set_option maxRecDepth 100000
set_option maxHeartbeats 4000000
namespace MC
open PySem PySem.Spec PyProof.Rows L2
/-! ### g(lambda: f(..)), where g tells whether it raises -/
section
variable {X : Cx} {pins : List (Addr × Obj)} {σ : L2.St} {H : Hp} {s : Shared}
/-- a lambda that may capture names -/
theorem lam_cap {c P : Addr} {params : Arguments} {body : Expr} {scope : Scope} {pos : Pos} {E Q : Value → Shared → Prop} {ps : Array Value} (I : Inv X pins σ H s) (TB : LamX.TabB X.base X.mg c P) (hcode : X.env.code = .ref c) (hP : H P = some (.tbl ps)) (ht : TriplesOk ps.toList)
    (ha : ∀ (p : Pos) (cv : Value), codeAmong p ps.toList = some cv → ∃ d, cv = .ref d ∧ H d = some (LamX.CodeO d (X.env.qual ++ "<lambda>"))) (hdef : defaultsOf params X.env = ([], [])) (hfree : ∀ y ∈ scope.names, y.2 = .free → ∃ c, X.env.cells.lookup y.1 = some c)
    (h : ∀ (f d : Addr) (pm ctv : Value) (H1 : Hp) (s' : Shared), Inv X pins σ H1 s' → (H1 = H ∨ (H d = none ∧ H1 = upd (upd H P (.tbl (ps ++ #[rawInt pos.line, rawInt pos.col, .ref d]))) d (LamX.CodeO d (X.env.qual ++ "<lambda>")))) →
      s'.heap.get? f = some (PySem.W.kla_obj "<lambda>" (X.env.qual ++ "<lambda>") params body scope (cloFrom X.env.cells scope.names []) pm d ctv) → H1 f = none → f ∉ frs X.stack → H1 d = some (LamX.CodeO d (X.env.qual ++ "<lambda>")) → Q (.ref f) s') :
    wpAny (model X.prog X.w) X.A (eval (.Lambda params body scope pos) X.env) Q E s := by
  refine PySem.W.kla_eval hdef ?_
  have at_P : s.heap.get? P = some { cls := .none, data := .fields ps } := I.hok P _ hP
  have hcl : closureFor scope X.env = pure (cloFrom X.env.cells scope.names []) := closure_ok hfree
  have hb := TB.bm.keeps I.bk
  have hcd := TB.code.keeps I.bk
  have hgl := I.mod.glob.keeps I.bk
  have apart : ∀ f, s.heap.objs.size ≤ f → f ∉ frs X.stack := fun f hf z => by
    rcases List.mem_cons.mp (I.stkSub _ z) with e | e
    · have h1 := I.lt
      rw [← e] at h1
      exact absurd (Nat.lt_of_lt_of_le h1 hf) (Nat.lt_irrefl _)
    · exact I.nofs hf e
  cases hc : codeAmong pos ps.toList with
  | some cv =>
    obtain ⟨d, rfl, hd⟩ := ha pos cv hc
    refine PySem.W.kla_makeFunctionHit (mg := X.mg) (c := c) (P := P) (ps := ps) hcl I.ok.glob hgl hcode hcd at_P ht hc hb fun ctv h' tk hx hsz => ?_
    exact h _ d ((X.mg "__name__").getD .none) ctv H _ (I.kept fun b o e => Heap.get?_push_of_some _ (hx b o e)) (.inl rfl) (Heap.get?_push_size _ rfl) (I.hok.fresh hsz) (apart _ hsz) hd
  | none =>
    refine PySem.W.kla_makeFunction (mg := X.mg) (c := c) (P := P) (ps := ps) hcl I.ok.glob hgl hcode hcd at_P ht hc TB.gP hb fun d ctv h' tk hx hge hlt hrec htb => ?_
    obtain ⟨d2, oc, vs, t, e2, k1, k2, k3⟩ := hrec
    cases e2
    have hsz : s.heap.objs.size ≤ h'.objs.size := Nat.le_trans hge (Nat.le_of_lt hlt)
    have J := LamX.inv_table (t' := tk) (more := #[rawInt pos.line, rawInt pos.col, .ref d]) (h' := h'.push (PySem.W.kla_obj "<lambda>" (X.env.qual ++ "<lambda>") params body scope (cloFrom X.env.cells scope.names []) ((X.mg "__name__").getD .none) d ctv)) I hP
      (fun b o n e => Heap.get?_push_of_some _ (hx b o n e)) (Heap.get?_push_of_some _ htb) hge ⟨oc, vs, t, Heap.get?_push_of_some _ k1, k2, k3⟩
    refine h _ d ((X.mg "__name__").getD .none) ctv _ _ J (.inr ⟨I.hok.fresh hge, rfl⟩) (Heap.get?_push_size _ rfl) ?_ (apart _ hsz) upd_same
    rw [upd_ne (Nat.ne_of_gt hlt), upd_ne (Nat.ne_of_gt (Nat.lt_of_lt_of_le (Heap.lt_size at_P) hsz))]
    exact I.hok.fresh hsz
end
/-- a def that calls what it got, and tells whether that raised an exception of one class -/
def askB (bg : List Stmt) (a e : Str) : Bool := match bg with
  | [.Try [.Expr (.Call (.Name a1 _) [] [] _) _] [.ExceptHandler (some (.Name e1 _)) none [.Return (some (.Constant (.bool true) _ _)) _] _] [] [] _, .Return (some (.Constant (.bool false) _ _)) _] => decide (a1 = a) && decide (e1 = e)
  | _ => false
/-- such a def at g -/
structure AskF (K : PySem.W.Frag) (x a e : Str) (g : Addr) : Prop where
  ex : ∃ (pg : Arguments) (bg : List Stmt) (sg : Scope) (dV kV doc pm cdv ct oc : Value) (an od : Option Addr) (osl : Array (Option Value)) (Ng : List Str),
    K.lookup g = some ⟨oc, od, .func (PySem.W.fnOf x x pg bg sg dV kV doc pm an cdv ct), osl⟩ ∧ PySem.W.codeIn K cdv x = true ∧ L2.Binds K (PySem.W.fnOf x x pg bg sg dV kV doc pm an cdv ct) [a] [] ∧ FnScope Ng [a] sg ∧ Ng[0]? = some a ∧ Vis sg a ∧ askB bg a e = true ∧
      sg.names.lookup e = some .globalImplicit ∧ (e == ("__debug__" : Str)) = false ∧ (a == ("__debug__" : Str)) = false ∧ (a == ("__classdict__" : Str)) = false
def TAsk (K : PySem.W.Frag) (CS : Addr) : (XK → Hp → VK → Prop) → Hp → VK → Prop := fun tl H Q =>
  tl (fun cls _ H' => ∃ b, PySem.W.exmOne K cls (.ref CS) = some b ∧ (b = true → Q (.bl true) H') ∧ (b = false → False)) H (fun _ H' => Q (.bl false) H')
theorem ask_gives {X : Cx} {Ng : List Str} {x a e q : Str} {sg : Scope} {g CS : Addr} {cdg : Value} {bg : List Stmt} (hb : askB bg a e = true) (hge : sg.names.lookup e = some .globalImplicit) (hme : X.mg e = some (.ref CS)) (hde : (e == ("__debug__" : Str)) = false) (h0 : ∀ f : Addr, (L2.start Ng [V.ref f])[0]? = some (some (V.ref f))) :
    LamX.GivesTo X Ng x sg g cdg bg a q (TAsk X.K CS) := by
  unfold askB at hb
  split at hb
  · rename_i a1 p1 p2 p3 e1 p4 j5 p5 p6 p7 p8 j9 p9 p10
    simp only [Bool.and_eq_true, decide_eq_true_eq] at hb
    obtain ⟨rfl, rfl⟩ := hb
    intro f c' s H Q tl act hc h
    have hgl : Gl (cxOf C8.CX0 X.prog X.w X.K X.mg X.base Ng x sg g cdg X.A X.stack s H C8.E0).nox e1 := hge
    refine ⟨_, pss_cons (ps_try_only (X := (cxOf C8.CX0 X.prog X.w X.K X.mg X.base Ng x sg g cdg X.A X.stack s H C8.E0).nox) (c := .ref CS)
        (tb := fun W D σ H => ∃ Ech : XK, (∀ cls d σ' H', Ech cls d H' → W cls d σ' H') ∧ σ[0]? = some (some (.ref f)) ∧ H c' = some (LamX.CodeO c' q) ∧ tl Ech H fun _ H' => D.nx σ H')
        rfl rfl ⟨hgl, hde, .inl hme⟩ LamX.takes0 (fun W pn xe tk _ => ?_) (fun a oe cls d pn _ _ => pss_one (ps_ret pe_bl))) (pss_one (ps_ret pe_bl)), ?_⟩
    · refine ⟨fun pins s' σ H' D I h' => ?_⟩
      obtain ⟨Ech, hW, h1, h2, h3⟩ := h'
      have hp := act W pn xe Ech p1 p2 tk hW
      have hq := pss_one (ps_expr (pos := p3) hp (swaps_no rfl))
      exact hq.run pins s' σ H' D I ⟨h1, h2, h3⟩
    · exact ⟨fun cls _ H' => ∃ b, PySem.W.exmOne X.K cls (.ref CS) = some b ∧ (b = true → Q (.bl true) H') ∧ (b = false → False), fun cls d σ' H' ⟨b, e1, e2, e3⟩ => ⟨b, e1, fun hb a _ => e2 hb, fun hb => e3 hb⟩, h0 f, hc, h⟩
  · cases hb
section
variable {X : Cx} {nm : Nat → Str} {ca : CaT} {T : Tab} {cl : Nat → List D → Hs → Res D}
theorem call_e {E : XK} {f n : Nat} {x : Str} {ad : Addr} {es : List Expr} {c : A} {p pos : Pos} (F : FnF X nm ca n (cl f) ad) (hr : Room n X.A) (hg : Gl X x) (hm : X.mg x = some (.ref ad)) (hk : PySem.W.keepIn X.K (.ref ad) = true) (hdb : (x == ("__debug__" : Str)) = false)
    (ha : SA X nm ca T cl es c) (hs : es.all (fun e => !isSt e) = true) (hc : es = [] → c = .nil) (hp : Passes (CXm X.prog X.w) X E) : PE X (.Call (.Name x p) es [] pos) (fun τ H Q => RA X.K nm ca (evA T cl c) τ H fun vs H1 => spM X.K nm ca (cl f) vs H1 Q E) := by
  obtain ⟨fd, ps, hb, F⟩ := F
  cases es with
  | nil =>
    have := hc rfl
    subst this
    refine PE.imp (pe_call0 F hr hg hm hk hb .nil hp hdb) fun τ H Q ⟨σ, h, β, rs, rh, q⟩ => ?_
    exact q [] H β (Stp.refl _ _) rh .nil
  | cons e es =>
    have hs0 := hs
    simp only [List.all_cons, Bool.and_eq_true, Bool.not_eq_true'] at hs0
    refine PE.imp (pe_call F hr hg hm hk hb .nil hp ha hdb (starEach_plain hs0.1) (noStar hs0.2)) fun τ H Q q => ?_
    show RA X.K nm ca (evA T cl c) τ H fun vs H1 => spM X.K nm ca (cl f) (vs ++ []) H1 Q E
    simp only [List.append_nil]
    exact q
abbrev noPar0 : Arguments := ⟨[], [], none, [], [], none, []⟩
theorem s_xl {g f n c : Nat} {x a e y : Str} {gd ad : Addr} {es : List Expr} {k : A} {scope : Scope} {p p1 lpos pos pos1 : Pos} (AF : AskF X.K x a e gd) (hg : Gl X x) (hm : X.mg x = some (.ref gd)) (hk : PySem.W.keepIn X.K (.ref gd) = true) (hdb : (x == ("__debug__" : Str)) = false)
    (EF : ExcF X.K X.mg ca c e) (TX : TabX X ca) (R : Room (n + 2) X.A) (L : LamX.LamS X.env.scope scope) (F : FnF X nm ca n (cl f) ad) (hy : scope.names.lookup y = some .globalImplicit) (hmy : X.mg y = some (.ref ad)) (hky : PySem.W.keepIn X.K (.ref ad) = true) (hdy : (y == ("__debug__" : Str)) = false)
    (hargs : ∀ Z : Cx, Z.N = X.N → Z.env.scope = scope → SA Z nm ca T cl es k) (hs : es.all (fun e => !isSt e) = true) (hc : es = [] → k = .nil) :
    SE X nm ca T cl (.Call (.Name x p) [.Lambda noPar0 (.Call (.Name y p1) es [] pos1) scope lpos] [] pos) (.xl g f k c) := by
  obtain ⟨cc, P, hcode, TB, hmem, huq⟩ := TX.at_
  obtain ⟨pg, bg, sg, dV, kV, doc, pm, cdv, ct, oc, an, od, osl, Ng, lk, hcg, hbn, Sg, hNg, hva, hbg, hge, hde, hd, hcd⟩ := AF.ex
  refine ⟨fun pins s τ H Q I ⟨σ, h, β, rs, rh, q⟩ => ?_⟩
  simp only [evE] at q
  obtain ⟨xs, h1, e1, q⟩ := q.bind
  obtain ⟨ps, hP, ht, ha⟩ := rh.tab _ hmem
  refine wpAny_Call_Name_kw (ld_glob I hg hm ?_ hdb)
  refine PySem.W.callWith_K (h₀ := X.base) I.ok.mod.kin hk ?_ (by rfl) (by rfl)
  show wpAny _ _ (spliced ((false, eval (.Lambda noPar0 (.Call (.Name y p1) es [] pos1) scope lpos) X.env) :: backTo pos (starEach [] X.env))) _ _ s
  refine Calls.spliced_cons (lam_cap (c := cc) (P := P) I TB hcode hP ht (fun p cv hc => (ha p cv hc).imp fun d z => ⟨z.1, z.2.1⟩) (by rfl) (L.has I.ok) fun f' c' pm' ctv H1 s' I1 hH hf hfn hfr hco => ?_)
  refine Calls.spliced_nil ⟨I1.kIn, ?_⟩
  have st2 : Stp β H β H1 := by
    rcases hH with rfl | ⟨z, rfl⟩
    · exact Stp.refl _ _
    · exact Stp.lam hP z
  have rh2 : RelH X.K nm ca β h H1 := by
    rcases hH with rfl | ⟨z, rfl⟩
    · exact rh
    · exact rh.lam hmem huq hP z
  have hbody : ∀ (A : Around) (outer : List Env) (s : Shared) (H : Hp) (E : XK), Room n (A.deeper (LamX.lamEnv X scope s.heap.objs.size f' c')) → PE (LamX.lamCx X A outer s H E scope f' c') (.Call (.Name y p1) es [] pos1) (fun τ H Q => RA X.K nm ca (evA T cl k) τ H fun vs H1 => spM X.K nm ca (cl f) vs H1 Q E) := fun A outer s H E hr2 =>
    call_e (X := LamX.lamCx X A outer s H E scope f' c') (n := n) (ad := ad) F hr2 hy hmy hky hdy (hargs _ rfl rfl) hs hc (passes_call (W := fun cls d _ H => E cls d H) (takes_of (E := E) rfl rfl rfl rfl) fun _ _ _ _ w => w)
  have rc : codeAny (model X.prog X.w) X.A (.call (.ref gd) ⟨[.ref f'], []⟩) (CR C8.CX0 X.stack X.prog X.w H1 s' Q C8.E0) s' := by
    refine LamX.run_ofS (k := n + 1) (N := Ng) (ps := [a]) (us := [.ref f']) (vs := [.ref f']) lk hcg Sg R I1.env0 (hbn s' [.ref f'] I1.kIn rfl) (.cons rfl .nil) rfl fun hr' => ?_
    have G := ask_gives (X := X) (Ng := Ng) (x := x) (a := a) (e := e) (q := X.env.qual ++ "<lambda>") (sg := sg) (g := gd) (cdg := cdv) (bg := bg) hbg hge EF.gl hde (fun f => by unfold L2.start; rfl)
    obtain ⟨t', ht', hq'⟩ := G f' c' s' H1 Q (fun E H' Q' => RA X.K nm ca (evA T cl k) τ H' fun vs H1 => spM X.K nm ca (cl f) vs H1 Q' E) (fun W pn xe E p1' p2' tk hW => LamX.pe_act (i := 0) (k := n) I1 L hf hfn hfr (by rfl) tk hW hr' (fun A outer s H hr2 => hbody A outer s H E hr2) hNg hva hd hcd) hco (by
      unfold TAsk
      refine ra1 (rs.mono st2) rh2 e1 fun vxs H2 β2 st3 rs3 rh3 rx => ⟨xs, h1, β2, rx, rh3, ?_⟩
      cases qc : cl f xs h1 with
      | no => rw [qc] at q; exact q.elim
      | ok d h2 =>
        rw [qc] at q
        exact fun v H' β' st r1 rd => q (.bl false) H' β' ((st2.trans st3).trans st) r1 (.bl _)
      | ex z h2 =>
        rw [qc] at q
        simp only at q
        split at q
        · rename_i hz
          refine fun dd H' β' st r1 => ⟨true, by rw [hz]; exact EF.hit, fun _ => q (.bl true) H' β' ((st2.trans st3).trans st) r1 (.bl _), fun z => by cases z⟩
        · exact q.elim)
    exact ⟨t', ht'.nox, hq'⟩
  refine wpAny_call (codeAny_mono rc fun r s2 hq => ?_)
  cases r with
  | error e => exact (show False from hq).elim
  | ok fl =>
    cases fl with
    | ret u => exact I1.after hq
    | next => exact False.elim hq
    | brk => exact False.elim hq
    | cont => exact False.elim hq
end
end MC

set_option Elab.async false
set_option linter.all false
set_option maxRecDepth 100000
set_option maxHeartbeats 4000000
namespace MC
open PySem PySem.Spec PyProof.Rows L2
/-! ### the text against the core: what is looked up -/
structure Cs where
  nm : Nat → Str
  fnn : Nat → Option Str
  cls : Nat → Option Str
  mkk : Nat → Nat → Option (Nat × List Str)
  glo : Nat → D → Bool
  blt : Str → Bool
  isM : Nat → Bool
  isP : Nat → Bool
  /-- the defs (by their names) that hold a lambda -/
  lam : List Str → Bool
  /-- exceptions' classes -/
  exc : Nat → Option Str
  /-- defs that tell whether a lambda raises: their name, the class -/
  ask : Nat → Option (Str × Str)
def isG (sc : Scope) (x : Str) : Bool := decide (sc.names.lookup x = some .globalImplicit) && !(x == ("__debug__" : Str))
def isB (cs : Cs) (sc : Scope) (x : Str) : Bool := isG sc x && cs.blt x
def visB (sc : Scope) (x : Str) : Bool := (match sc.names.lookup x with
  | some .local => true
  | some .cell => true
  | some .free => true
  | _ => false) && !(x == ("__debug__" : Str)) && !(x == ("__classdict__" : Str))
/-- the names whose cells are the running block's own -/
abbrev Tp := Str → Bool
def tpA : Tp := fun _ => true
def ownC (sc : Scope) : Tp := fun x => sc.names.lookup x == some .cell
def tgtB (sc : Scope) (top : Tp) (x : Str) : Bool := match sc.names.lookup x with
  | some .local => true
  | some .cell => top x
  | _ => false
def plainT : Expr → Bool
  | .UnaryOp .Not .. => false
  | .BoolOp .. => false
  | .IfExp .. => false
  | .Compare .. => false
  | _ => true
def noSt (es : List Expr) : Bool := es.all fun e => !isSt e
def tyStr : Ty → Option Str
  | .int => some "int" | .bool => some "bool" | .str => some "str" | .tuple => some "tuple" | .list => some "list" | .own _ => none
def chkTy (cs : Cs) (sc : Scope) (e : Expr) (t : Ty) : Bool := match e with
  | .Name x _ => (match t with
    | .own c => decide (cs.cls c = some x) && isG sc x
    | t => decide (tyStr t = some x) && isB cs sc x)
  | _ => false
def chkTys (cs : Cs) (sc : Scope) : List Expr → List Ty → Bool
  | [], [] => true
  | e :: es, t :: ts => chkTy cs sc e t && chkTys cs sc es ts
  | _, _ => false
def chkTyz (cs : Cs) (sc : Scope) (e : Expr) (ts : List Ty) : Bool := match e with
  | .Tuple es _ _ => decide (es.length ≤ 100) && chkTys cs sc es ts
  | e => (match ts with
    | [t] => chkTy cs sc e t
    | _ => false)
def ownN (N : List Str) (vs : List Nat) : List (Str × Nat) := vs.map fun i => ((N[i]?).getD Str.empty, i)
def notIs : CmpOp → Bool
  | .Is => false
  | .IsNot => false
  | _ => true
/-- a name as a target, as a value; True -/
def nmB (N : List Str) (sc : Scope) (top : Tp) (i : Nat) : Expr → Bool
  | .Name x _ => decide (N[i]? = some x) && tgtB sc top x
  | _ => false
def vrB (N : List Str) (sc : Scope) (i : Nat) : Expr → Bool
  | .Name x _ => decide (N[i]? = some x) && visB sc x
  | _ => false
def trB : Expr → Bool
  | .Constant (.bool true) _ _ => true
  | _ => false
def isApp : Bm → Bool
  | .append => true
  | _ => false
def bmName : Bm → Option Str
  | .append => some "append"
  | .extend => some "extend"
  | _ => none
/-- the scope of lambda x: (len(x), x) -/
def lamB (sc : Scope) (x : Str) : Bool := (match sc.kind with | .function => true | _ => false) && !sc.isCoroutine && !sc.isGenerator && decide (sc.names.lookup x = some .local) && decide (sc.names.lookup ("len" : Str) = some .globalImplicit) &&
  (sc.names.all fun y => match y.2 with | .cell => false | .free => false | _ => true) && !(x == ("__debug__" : Str))
theorem lamB_ok {sc : Scope} {x : Str} (h : lamB sc x = true) : LamL sc x := by
  unfold lamB at h
  simp only [Bool.and_eq_true, Bool.not_eq_true', decide_eq_true_eq, List.all_eq_true] at h
  obtain ⟨⟨⟨⟨⟨⟨h1, h2⟩, h3⟩, h4⟩, h5⟩, h6⟩, h7⟩ := h
  refine ⟨?_, h2, h3, h4, h5, fun y hy => ?_, h7⟩
  · split at h1
    · assumption
    · cases h1
  · have := h6 y hy
    constructor <;> (intro z; rw [z] at this; cases this)
/-- names as arguments -/
def varA (N : List Str) (sc : Scope) : A → List Expr → Bool
  | .nil, [] => true
  | .cons (.var i) r, .Name x _ :: es => decide (N[i]? = some x) && visB sc x && varA N sc r es
  | _, _ => false
def askC (cs : Cs) (g c : Nat) (x : Str) : Bool := match cs.ask g with
  | some (y, e) => decide (y = x) && decide (cs.exc c = some e)
  | none => false
section
variable (cs : Cs) (N : List Str)
mutual
def chkE : E → Bool → Scope → Tp → Expr → Bool
  | .cst d, _, _, _, e => match e with
    | .Constant c _ _ => cstB d c
    | _ => false
  | .var i, _, sc, _, e => match e with
    | .Name x _ => decide (N[i]? = some x) && visB sc x
    | _ => false
  | .glo g d, _, sc, _, e => match e with
    | .Name x _ => decide (x = cs.nm g) && isG sc x && cs.glo g d
    | _ => false
  | .bin op a b, _, sc, top, e => match e with
    | .BinOp x o y _ => decide (o = op) && chkE a false sc top x && chkE b false sc top y
    | _ => false
  | .neg a, _, sc, top, e => match e with
    | .UnaryOp .USub x _ => chkE a false sc top x
    | _ => false
  | .not a, t, sc, top, e => match e with
    | .UnaryOp .Not x _ => chkE a t sc top x
    | _ => false
  | .and a b, t, sc, top, e => match e with
    | .BoolOp .And (x :: y :: []) _ => chkE a t sc top x && chkE b t sc top y
    | .BoolOp .And (x :: y :: z :: r) p => chkE a t sc top x && chkE b t sc top (.BoolOp .And (y :: z :: r) p)
    | _ => false
  | .or a b, t, sc, top, e => match e with
    | .BoolOp .Or (x :: y :: []) _ => chkE a t sc top x && chkE b t sc top y
    | .BoolOp .Or (x :: y :: z :: r) p => chkE a t sc top x && chkE b t sc top (.BoolOp .Or (y :: z :: r) p)
    | _ => false
  | .cmp op a b, _, sc, top, e => match e with
    | .Compare x [o] [y] _ => decide (o = op) && !isSetE y && cmpOk op b && chkE a false sc top x && chkE b false sc top y
    | _ => false
  | .chn o1 o2 a b c, _, sc, top, e => match e with
    | .Compare x [p1, p2] [y, z] _ => decide (p1 = o1) && decide (p2 = o2) && notIs o1 && notIs o2 && !isSetE z && chkE a false sc top x && chkE b false sc top y && chkE c false sc top z
    | _ => false
  | .ite c a b, t, sc, top, e => match e with
    | .IfExp x y z _ => chkE c true sc top x && chkE a t sc top y && chkE b t sc top z
    | _ => false
  | .tup as, _, sc, top, e => match e with
    | .Tuple es _ _ => chkA as sc top es
    | _ => false
  | .lst _ as, _, sc, top, e => match e with
    | .List es _ => chkA as sc top es
    | _ => false
  | .idx a i, _, sc, top, e => match e with
    | .Subscript x y _ => !isSl y && chkE a false sc top x && chkE i false sc top y
    | _ => false
  | .slc a lo hi, _, sc, top, e => match e with
    | .Subscript x (.Slice l h none _) _ => chkE a false sc top x && chkO lo sc top l && chkO hi sc top h
    | _ => false
  | .fld a f, _, sc, top, e => match e with
    | .Attribute x y _ => decide (y = cs.nm f) && plainO x && chkE a false sc top x
    | _ => false
  | .deq ng a b, _, sc, top, e => match e with
    | .Compare x [o] [y] _ => decide (o = eqOp ng) && !isSetE y && chkE a false sc top x && chkE b false sc top y
    | _ => false
  | .sidx a b, _, sc, top, e => match e with
    | .Call (.Attribute x m ap) [y] [] pos => decide (m = "index") && plainO x && !isSt y && (ap.endLine == pos.line) && chkE a false sc top x && chkE b false sc top y
    | _ => false
  | .sjoin a b, _, sc, top, e => match e with
    | .Call (.Attribute x m ap) [y] [] pos => decide (m = "join") && plainO x && !isSt y && (ap.endLine == pos.line) && chkE a false sc top x && chkE b false sc top y
    | _ => false
  | .xl g f as c, _, sc, _, e => match e with
    | .Call (.Name x _) [.Lambda ⟨[], [], none, [], [], none, []⟩ (.Call (.Name y _) es [] _) scope _] [] _ => cs.lam N && isG sc x && askC cs g c x && LamX.lamSB sc scope && decide (cs.fnn f = some y) && isG scope y && varA N scope as es
    | _ => false
  | .fn f as, _, sc, top, e => match e with
    | .Call (.Name x _) es [] _ => decide (cs.fnn f = some x) && isG sc x && noSt es && chkA as sc top es
    | _ => false
  | .mk c sh as ks, _, sc, top, e => match e with
    | .Call (.Name x _) (e :: es) kws _ => (match cs.mkk c sh with
      | some (_, kn) => decide (cs.cls c = some x) && isG sc x && noSt (e :: es) && decide (kwNames kws = some kn) && chkA as sc top (e :: es) && chkK ks sc top kws
      | none => false)
    | _ => false
  | .mth m a as, _, sc, top, e => match e with
    | .Call (.Attribute x y ap) es [] pos => decide (y = cs.nm m) && cs.isM m && plainO x && noSt es && decide (es.length < 30) && (ap.endLine == pos.line) && chkE a false sc top x && chkA as sc top es
    | _ => false
  | .prp m a, _, sc, top, e => match e with
    | .Attribute x y _ => decide (y = cs.nm m) && cs.isP m && plainO x && chkE a false sc top x
    | _ => false
  | .bi b as, _, sc, top, e => match e with
    | .Call (.Name x _) (e :: es) [] _ => decide (x = biName b) && biHere b && isB cs sc x && noSt (e :: es) && chkA as sc top (e :: es)
    | _ => false
  | .isi a ts, _, sc, top, e => match e with
    | .Call (.Name x _) [y, z] [] _ => decide (x = "isinstance") && isB cs sc x && !isSt y && chkTyz cs sc z ts && chkE a false sc top y
    | _ => false
  | .bm m a as, _, sc, top, e => match e with
    | .Call (.Attribute o y ap) [z] [] pos => decide (bmName m = some y) && plainO o && !isSt z && (ap.endLine == pos.line) && chkE a false sc top o && chkA as sc top [z]
    | _ => false
  | .lc _ own elt g it c, _, sc, top, e => match e with
    | .ListComp el [⟨tg, iter, ifs, k⟩] scope _ => (k == 0) && blkC N sc scope (ownN N own) && g.slots.all (fun i => own.contains i) && !isSetE iter && chkI it sc top tg iter && chkG g (relS scope sc) (ownC scope) tg && chkF c (relS scope sc) (ownC scope) ifs && chkE elt false (relS scope sc) (ownC scope) el
    | _ => false
  | .dpl as k, _, sc, top, e => match e with
    | .Subscript (.Call (.Name x _) [.List es _] [] _) y _ => decide (x = "dict") && isB cs sc x && !isSl y && chkA as sc top es && chkE k false sc top y
    | _ => false
  | .nls a, _, sc, top, e => match e with
    | .Call (.Name x _) [y] [] _ => decide (x = "list") && isB cs sc x && !isSt y && chkE a false sc top y
    | _ => false
  | .ieq a b, _, sc, top, e => match e with
    | .Compare x [o] [y] _ => decide (o = .Eq) && !isSetE y && chkE a false sc top x && chkE b false sc top y
    | _ => false
  | .iln a, _, sc, top, e => match e with
    | .Call (.Name x _) [y] [] _ => decide (x = "len") && isB cs sc x && !isSt y && chkE a false sc top y
    | _ => false
  | .isb ng a b, _, sc, top, e => match e with
    | .Compare x [o] [y] _ => decide (o = isOp ng) && !isSetE y && chkE a false sc top x && chkE b false sc top y
    | _ => false
  | .rev a, _, sc, top, e => match e with
    | .Subscript x (.Slice none none (some (.UnaryOp .USub (.Constant (.int 1) _ _) _)) _) _ => chkE a false sc top x
    | _ => false
  | .pop0 a, _, sc, top, e => match e with
    | .Call (.Attribute o y ap) [.Constant (.int 0) _ _] [] pos => decide (y = "pop") && plainO o && (ap.endLine == pos.line) && chkE a false sc top o
    | _ => false
  | .din ng a b, _, sc, top, e => match e with
    | .Compare x [o] [y] _ => decide (o = inOp ng) && !isSetE y && chkE a false sc top x && chkE b false sc top y
    | _ => false
  | .dget a i, _, sc, top, e => match e with
    | .Subscript x y _ => !isSl y && chkE a false sc top x && chkE i false sc top y
    | _ => false
  | .dnew, _, _, _, e => match e with
    | .Dict [] [] _ => true
    | _ => false
  | .done a b, _, sc, top, e => match e with
    | .Dict [some x] [y] _ => chkE a false sc top x && chkE b false sc top y
    | _ => false
  | .dlen a, _, sc, top, e => match e with
    | .Call (.Name x _) [y] [] _ => decide (x = "len") && isB cs sc x && !isSt y && chkE a false sc top y
    | _ => false
  | .dlst _ a, _, sc, top, e => match e with
    | .Call (.Name x _) [y] [] _ => decide (x = "list") && isB cs sc x && !isSt y && chkE a false sc top y
    | _ => false
  | .dof a, _, sc, top, e => match e with
    | .Call (.Name x _) [y] [] _ => decide (x = "dict") && isB cs sc x && !isSt y && chkE a false sc top y
    | _ => false
  | .dupd a b, _, sc, top, e => match e with
    | .Call (.Attribute o y ap) [z] [] pos => decide (y = "update") && plainO o && !isSt z && (ap.endLine == pos.line) && chkE a false sc top o && chkE b false sc top z
    | _ => false
  | .dcm _ own k v g it c, _, sc, top, e => match e with
    | .DictComp kx vx [⟨tg, iter, ifs, j⟩] scope _ => (j == 0) && blkC N sc scope (ownN N own) && g.slots.all (fun i => own.contains i) && !isSetE iter && chkI it sc top tg iter && chkG g (relS scope sc) (ownC scope) tg && chkF c (relS scope sc) (ownC scope) ifs && chkE k false (relS scope sc) (ownC scope) kx && chkE v false (relS scope sc) (ownC scope) vx
    | _ => false
  | .dsd a k v, _, sc, top, e => match e with
    | .Call (.Attribute o y ap) [z, w] [] pos => decide (y = "setdefault") && plainO o && !isSt z && !isSt w && (ap.endLine == pos.line) && chkE a false sc top o && chkE k false sc top z && chkE v false sc top w
    | _ => false
  | .dpk a k, _, sc, top, e => match e with
    | .Call (.Attribute o y ap) [z] [] pos => decide (y = "pop") && plainO o && !isSt z && (ap.endLine == pos.line) && chkE a false sc top o && chkE k false sc top z
    | _ => false
  | .dits a, _, sc, top, e => match e with
    | .Call (.Name x _) [.Call (.Attribute o y ap) [] [] cpos] [] _ => decide (x = "list") && isB cs sc x && decide (y = "items") && plainO o && (ap.endLine == cpos.line) && chkE a false sc top o
    | _ => false
  | .nval i a, _, sc, top, e => match e with
    | .Call (.Name x _) [.DictComp kx vx [⟨tg, .Call (.Attribute o y ap) [] [] cpos, [], j⟩] scope _] [] _ => decide (x = "len") && isB cs sc x && decide (y = "values") && (j == 0) && plainO o && (ap.endLine == cpos.line) && blkC N sc scope (ownN N [i]) && nmB N (relS scope sc) (ownC scope) i tg && vrB N (relS scope sc) i kx && trB vx && chkE a false sc top o
    | _ => false
  | .lc2 _ own own2 elt g it g2 it2, _, sc, top, e => match e with
    | .ListComp x [⟨tg, iter, [], j⟩, ⟨tg2, iter2, [], j2⟩] scope _ => (j == 0) && (j2 == 0) && blkC N sc scope (ownN N own) && own2.all (fun i => own.contains i) && g.slots.all (fun i => own.contains i) && g2.slots.all (fun i => own2.contains i) && !isSetE iter && !isSetE iter2 && chkI it sc top tg iter && chkG g (relS scope sc) (ownC scope) tg && chkI it2 (relS scope sc) (ownC scope) tg2 iter2 && chkG g2 (relS scope sc) (ownC scope) tg2 && chkE elt false (relS scope sc) (ownC scope) x
    | _ => false
  | .slen a, _, sc, top, e => match e with
    | .Call (.Name x _) [y] [⟨some k, .Lambda ⟨[], [g], none, [], [], none, []⟩ (.Tuple [.Call (.Name l _) [.Name u _] [] _, .Name v _] _ _) scope _, _⟩] _ => decide (x = "sorted") && isB cs sc x && decide (k = "key") && decide (l = "len") && cs.blt "len" && decide (u = g.arg) && decide (v = g.arg) && lamB scope g.arg && cs.lam N && !isSt y && chkE a false sc top y
    | _ => false
  | .lrng a, _, sc, top, e => match e with
    | .Call (.Name x _) [.Call (.Name y _) [z] [] _] [] _ => decide (x = "list") && isB cs sc x && decide (y = "range") && isB cs sc y && !isSt z && chkE a false sc top z
    | _ => false
def chkA : A → Scope → Tp → List Expr → Bool
  | .nil, _, _, es => es.isEmpty
  | .cons c r, sc, top, es => match es with
    | e :: es => !isSt e && chkE c false sc top e && chkA r sc top es
    | [] => false
  | .star c r, sc, top, es => match es with
    | .Starred e _ :: es => chkE c false sc top e && chkA r sc top es
    | _ => false
def chkK : A → Scope → Tp → List Keyword → Bool
  | .nil, _, _, es => es.isEmpty
  | .cons c r, sc, top, es => match es with
    | ⟨_, e, _⟩ :: es => chkE c false sc top e && chkK r sc top es
    | [] => false
  | .star _ _, _, _, _ => false
def chkO : OE → Scope → Tp → Option Expr → Bool
  | .none, _, _, e => e.isNone
  | .some c, sc, top, e => match e with
    | some e => chkE c false sc top e
    | none => false
def chkF : OE → Scope → Tp → List Expr → Bool
  | .none, _, _, e => e.isEmpty
  | .some c, sc, top, e => match e with
    | [e] => chkE c true sc top e
    | _ => false
def chkG : G → Scope → Tp → Expr → Bool
  | .nm i, sc, top, e => match e with
    | .Name x _ => decide (N[i]? = some x) && tgtB sc top x
    | _ => false
  | .tup gs, sc, top, e => match e with
    | .Tuple es _ _ => noSt es && decide (es.length = gs.len) && chkGL gs sc top es
    | _ => false
  | .att a f, sc, top, e => match e with
    | .Attribute x y _ => decide (y = cs.nm f) && chkE a false sc top x
    | _ => false
  | .sub a i, sc, top, e => match e with
    | .Subscript x y _ => !isSl y && chkE a false sc top x && chkE i false sc top y
    | _ => false
  | .dsub a i, sc, top, e => match e with
    | .Subscript x y _ => !isSl y && chkE a false sc top x && chkE i false sc top y
    | _ => false
def chkGL : GL → Scope → Tp → List Expr → Bool
  | .nil, _, _, es => es.isEmpty
  | .cons g r, sc, top, es => match es with
    | e :: es => !isSt e && chkG g sc top e && chkGL r sc top es
    | [] => false
def chkI : I → Scope → Tp → Expr → Expr → Bool
  | .chars c, sc, top, _, e => chkE c false sc top e
  | .val c, sc, top, _, e => chkE c false sc top e
  | .rng1 a, sc, top, _, e => match e with
    | .Call (.Name x _) [y] [] _ => decide (x = "range") && isB cs sc x && !isSt y && chkE a false sc top y
    | _ => false
  | .rng2 a b, sc, top, _, e => match e with
    | .Call (.Name x _) [y, z] [] _ => decide (x = "range") && isB cs sc x && !isSt y && !isSt z && chkE a false sc top y && chkE b false sc top z
    | _ => false
  | .rng3 a b c, sc, top, _, e => match e with
    | .Call (.Name x _) [y, z, w] [] _ => decide (x = "range") && isB cs sc x && !isSt y && !isSt z && !isSt w && chkE a false sc top y && chkE b false sc top z && chkE c false sc top w
    | _ => false
  | .zip a b, sc, top, tg, e => match tg, e with
    | .Tuple _ _ _, .Call (.Name x _) [y, z] [] _ => decide (x = "zip") && isB cs sc x && !isSt y && !isSt z && chkE a false sc top y && chkE b false sc top z
    | _, _ => false
  | .enum a, sc, top, tg, e => match tg, e with
    | .Tuple _ _ _, .Call (.Name x _) [y] [] _ => decide (x = "enumerate") && isB cs sc x && !isSt y && chkE a false sc top y
    | _, _ => false
  | .dkeys c, sc, top, _, e => chkE c false sc top e
  | .ditems c, sc, top, tg, e => match tg, e with
    | .Tuple _ _ _, .Call (.Attribute o y ap) [] [] cpos => decide (y = "items") && plainO o && (ap.endLine == cpos.line) && chkE c false sc top o
    | _, _ => false
  | .dvk i c, sc, top, _, e => match e with
    | .DictComp kx vx [⟨tg, .Call (.Attribute o y ap) [] [] cpos, [], j⟩] scope _ => decide (y = "values") && (j == 0) && plainO o && (ap.endLine == cpos.line) && blkC N sc scope (ownN N [i]) && nmB N (relS scope sc) (ownC scope) i tg && vrB N (relS scope sc) i kx && trB vx && chkE c false sc top o
    | _ => false
end
end
end MC

set_option Elab.async false
set_option linter.all false
set_option maxRecDepth 100000
set_option maxHeartbeats 4000000
namespace MC
open PySem PySem.Spec PyProof.Rows L2
/-- what stands for the text's names -/
structure Fk (X : Cx) (cs : Cs) (ca : CaT) (T : Tab) (cl : Nat → List D → Hs → Res D) (n : Nat) : Prop where
  inj : ∀ i j, cs.nm i = cs.nm j → i = j
  fld : ∀ c f, T.fok c f = true → Cls X.K (ca c) ∧ NoAttr X.K (ca c) (cs.nm f)
  mth : ∀ m c f, cs.isM m = true → T.meth c m = some f → MthF X cs.nm ca n (cl f) c m
  prp : ∀ m c f, cs.isP m = true → T.meth c m = some f → PrpF X cs.nm ca n (cl f) c m
  len : ∀ c f, T.meth c T.len = some f → LenF X cs.nm ca n (cl f) c
  eq : ∀ c f, T.meth c T.eq = some f → EqF X cs.nm ca n (cl f) c
  kit : KitF X ca T.cok
  fn : ∀ f x, cs.fnn f = some x → ∃ ad, X.mg x = some (.ref ad) ∧ PySem.W.keepIn X.K (.ref ad) = true ∧ FnF X cs.nm ca n (cl f) ad
  mkr : ∀ c sh np ks x, cs.mkk c sh = some (np, ks) → cs.cls c = some x → ∃ f fz, T.init c = some (f, fz) ∧ MkF X cs.nm ca n (cl f) c x np ks (T.shape sh)
  cls : ∀ c x, cs.cls c = some x → X.mg x = some (.ref (ca c))
  glo : ∀ g d, cs.glo g d = true → ∃ u v, X.mg (cs.nm g) = some u ∧ RelV v u ∧ ∀ β H, RelD X.K cs.nm ca β H d v
  blt : ∀ x, cs.blt x = true → X.mg x = none
  cok : CaOk X ca
  tab : cs.lam X.N = true → TabX X ca
  exc : ∀ c x, cs.exc c = some x → ExcF X.K X.mg ca c x
  ask : ∀ g x e, cs.ask g = some (x, e) → ∃ a gd, X.mg x = some (.ref gd) ∧ PySem.W.keepIn X.K (.ref gd) = true ∧ AskF X.K x a e gd
structure Fx (X : Cx) (N : List Str) (sc : Scope) (top : Tp) (n : Nat) : Prop where
  N : X.N = N
  nd : X.N.Nodup
  sc : X.env.scope = sc
  fn : ∀ x, top x = true → X.fn x = true
  calm : X.calm = true
  room2 : Room (n + 2) X.A
section
variable {X : Cx} {cs : Cs} {ca : CaT} {T : Tab} {cl : Nat → List D → Hs → Res D} {n : Nat} {N : List Str} {sc : Scope} {top : Tp}
theorem Fx.room (F : Fx X N sc top n) : Room (n + 1) X.A := F.room2.mono (Nat.le_succ _)
theorem Fx.hu5 (F : Fx X N sc top n) : X.A.units + 65 < cLine := by have := F.room.un; omega
theorem Fx.hu (F : Fx X N sc top n) : X.A.units + 64 < cLine := by have := F.room.un; omega
theorem Fx.gl (F : Fx X N sc top n) {x : Str} (h : isG sc x = true) : Gl X x ∧ (x == ("__debug__" : Str)) = false := by
  unfold isG at h
  simp only [Bool.and_eq_true, decide_eq_true_eq, Bool.not_eq_true'] at h
  exact ⟨by show X.env.scope.names.lookup x = _; rw [F.sc]; exact h.1, h.2⟩
theorem Fx.vis (F : Fx X N sc top n) {x : Str} (h : visB sc x = true) : Vis X.env.scope x ∧ (x == ("__debug__" : Str)) = false ∧ (x == ("__classdict__" : Str)) = false := by
  unfold visB at h
  simp only [Bool.and_eq_true, Bool.not_eq_true'] at h
  refine ⟨?_, h.1.2, h.2⟩
  rw [F.sc]
  have := h.1.1
  unfold Vis
  split at this <;> simp_all
theorem Fx.tgt (F : Fx X N sc top n) {x : Str} (h : tgtB sc top x = true) : L2.Loc X.env.scope x ∧ (X.fn x = true ∨ X.env.scope.names.lookup x = some .local) := by
  unfold tgtB at h
  rw [F.sc]
  unfold L2.Loc
  split at h
  · rename_i e; exact ⟨.inl e, .inr e⟩
  · rename_i e; exact ⟨.inr e, .inl (F.fn x h)⟩
  · cases h
theorem Fx.blk (F : Fx X N sc top n) {s : Shared} {H : Hp} {scope : Scope} {C : Addr} {cl' : List (Str × Addr)} {fp : List Addr} : Fx (X.blk s H scope (compEnvC scope cl' C X.env) fp) N (relS scope sc) (ownC scope) n :=
  ⟨F.N, F.nd, by rw [← F.sc]; rfl, fun _ z => z, F.calm, F.room2⟩
theorem Fk.blk (F : Fk X cs ca T cl n) {s : Shared} {H : Hp} {scope : Scope} {C : Addr} {cl' : List (Str × Addr)} {fp : List Addr} : Fk (X.blk s H scope (compEnvC scope cl' C X.env) fp) cs ca T cl n :=
  ⟨F.inj, F.fld, F.mth, F.prp, F.len, F.eq, ⟨F.kit.kit, F.kit.cls⟩, F.fn, F.mkr, F.cls, F.glo, F.blt, F.cok, fun h => ⟨(F.tab h).at_⟩, F.exc, F.ask⟩
theorem isB_of {x : Str} (h : isB cs sc x = true) : isG sc x = true ∧ cs.blt x = true := by
  unfold isB at h
  rwa [Bool.and_eq_true] at h
theorem ty_ok (K : Fk X cs ca T cl n) (F : Fx X N sc top n) {e : Expr} {t : Ty} (h : chkTy cs sc e t = true) : TyE X ca e t ∧ isSt e = false := by
  unfold chkTy at h
  split at h
  · rename_i x p
    refine ⟨?_, rfl⟩
    cases t with
    | own c =>
      simp only [Bool.and_eq_true, decide_eq_true_eq] at h
      have g := F.gl h.2
      exact ⟨_, pe_glob g.1 (K.cls c x h.1) (show RelV (.ref (ca c)) (.ref (ca c)) from rfl) g.2, .own _⟩
    | int =>
      simp only [tyStr, Bool.and_eq_true, decide_eq_true_eq, Option.some.injEq] at h
      obtain ⟨rfl, h⟩ := h
      have g := F.gl (isB_of h).1
      exact ⟨.ty "int", pe_bltn g.1 (K.blt _ (isB_of h).2) (by decide +kernel) (show RelV (.ty "int") (.type "int") from rfl) (by decide) g.2, .ty _⟩
    | bool =>
      simp only [tyStr, Bool.and_eq_true, decide_eq_true_eq, Option.some.injEq] at h
      obtain ⟨rfl, h⟩ := h
      have g := F.gl (isB_of h).1
      exact ⟨.ty "bool", pe_bltn g.1 (K.blt _ (isB_of h).2) (by decide +kernel) (show RelV (.ty "bool") (.type "bool") from rfl) (by decide) g.2, .ty _⟩
    | str =>
      simp only [tyStr, Bool.and_eq_true, decide_eq_true_eq, Option.some.injEq] at h
      obtain ⟨rfl, h⟩ := h
      have g := F.gl (isB_of h).1
      exact ⟨.ty "str", pe_bltn g.1 (K.blt _ (isB_of h).2) (by decide +kernel) (show RelV (.ty "str") (.type "str") from rfl) (by decide) g.2, .ty _⟩
    | tuple =>
      simp only [tyStr, Bool.and_eq_true, decide_eq_true_eq, Option.some.injEq] at h
      obtain ⟨rfl, h⟩ := h
      have g := F.gl (isB_of h).1
      exact ⟨.ty "tuple", pe_bltn g.1 (K.blt _ (isB_of h).2) (by decide +kernel) (show RelV (.ty "tuple") (.type "tuple") from rfl) (by decide) g.2, .ty _⟩
    | list =>
      simp only [tyStr, Bool.and_eq_true, decide_eq_true_eq, Option.some.injEq] at h
      obtain ⟨rfl, h⟩ := h
      have g := F.gl (isB_of h).1
      exact ⟨.ty "list", pe_bltn g.1 (K.blt _ (isB_of h).2) (by decide +kernel) (show RelV (.ty "list") (.type "list") from rfl) (by decide) g.2, .ty _⟩
  · cases h
theorem tys_ok (K : Fk X cs ca T cl n) (F : Fx X N sc top n) : ∀ {es : List Expr} {ts : List Ty}, chkTys cs sc es ts = true → TyEs X ca es ts
  | [], [], _ => .nil
  | [], _ :: _, h => by cases h
  | _ :: _, [], h => by cases h
  | e :: es, t :: ts, h => by
    simp only [chkTys, Bool.and_eq_true] at h
    have g := ty_ok K F h.1
    exact .cons g.1 g.2 (tys_ok K F h.2)
theorem tyz_ok (K : Fk X cs ca T cl n) (F : Fx X N sc top n) {a z : Expr} {c : E} {ts : List Ty} {p pos : Pos} (ha : SE X cs.nm ca T cl a c) (hs : isSt a = false) (hg : isB cs sc "isinstance" = true) (h : chkTyz cs sc z ts = true) : SE X cs.nm ca T cl (.Call (.Name "isinstance" p) [a, z] [] pos) (.isi c ts) := by
  have g := F.gl (isB_of hg).1
  have b := K.blt _ (isB_of hg).2
  unfold chkTyz at h
  split at h
  · rename_i es k pt
    simp only [Bool.and_eq_true, decide_eq_true_eq] at h
    exact s_isiT K.kit g.1 b ha (tys_ok K F h.2) hs h.1
  · split at h
    · have q := ty_ok K F h
      exact s_isi1 K.kit g.1 b ha q.1 hs q.2
    · cases h
/-! ### the walk of the text -/
def Sx (t : Bool) (X : Cx) (nm : Nat → Str) (ca : CaT) (T : Tab) (cl : Nat → List D → Hs → Res D) (e : Expr) (c : E) : Prop := match t with
  | false => SE X nm ca T cl e c
  | true => ST X nm ca T cl e c ∧ ∀ op vs p, e = .BoolOp op vs p → SW X nm ca T cl e c
theorem plain_ok {e : Expr} {env : Env} (h : plainT e = true) (whole : Sem Value) : isTrue e env whole = (do let v ← whole; standAt e.pos; holding [v] (truthy v)) := by
  cases e with
  | UnaryOp op x p => cases op <;> first | (cases h; done) | rfl
  | BoolOp _ _ _ => cases h
  | IfExp _ _ _ _ => cases h
  | Compare _ _ _ _ => cases h
  | _ => rfl
theorem leaf {t : Bool} {nm : Nat → Str} {e : Expr} {c : E} (h : SE X nm ca T cl e c) (p : plainT e = true) : Sx t X nm ca T cl e c := by
  cases t with
  | false => exact h
  | true => exact ⟨t_val h (plain_ok p), fun op vs q z => by rw [z] at p; cases p⟩
theorem both {t : Bool} {nm : Nat → Str} {e : Expr} {c : E} (h : SE X nm ca T cl e c) (h2 : ST X nm ca T cl e c) (p : ∀ op vs p, e ≠ .BoolOp op vs p) : Sx t X nm ca T cl e c := by
  cases t with
  | false => exact h
  | true => exact ⟨h2, fun op vs q z => (p _ _ _ z).elim⟩
theorem notIs_of {o : CmpOp} (h : notIs o = true) : o ≠ .Is ∧ o ≠ .IsNot := ⟨(fun e => by rw [e] at h; cases h), (fun e => by rw [e] at h; cases h)⟩
theorem ownN_2 (vs : List Nat) : (ownN N vs).map (·.2) = vs := by
  unfold ownN
  induction vs with
  | nil => rfl
  | cons v vs ih => simp_all
theorem folded_ok {e : Expr} {env : Env} (h : isSetE e = false) (x : Value) : foldedSetIterable e env x = pure x := by
  cases e <;> first | rfl | cases h
theorem nm_ok (F : Fx X N sc top n) {i : Nat} {e : Expr} (h : nmB N sc top i e = true) : PG X e (gName i) := by
  unfold nmB at h
  split at h
  · simp only [Bool.and_eq_true, decide_eq_true_eq] at h
    have g := F.tgt h.2
    exact pg_name F.nd (by rw [F.N]; exact h.1) g.1 g.2
  · cases h
theorem vr_ok (F : Fx X N sc top n) {i : Nat} {e : Expr} (h : vrB N sc i e = true) : PE X e (tVar i) := by
  unfold vrB at h
  split at h
  · simp only [Bool.and_eq_true, decide_eq_true_eq] at h
    have g := F.vis h.2
    exact pe_var (by rw [F.N]; exact h.1) g.1 g.2.1 g.2.2
  · cases h
theorem tr_ok {e : Expr} (h : trB e = true) : PE X e (tC (.bl true)) := by
  unfold trB at h
  split at h
  · exact pe_bl
  · cases h
theorem chkA_nil {c : A} (h : chkA cs N c sc top [] = true) : c = .nil := by
  cases c <;> first | rfl | (simp [chkA] at h)
theorem varA_st {N : List Str} {sc : Scope} : ∀ {as : A} {es : List Expr}, varA N sc as es = true → es.all (fun e => !isSt e) = true ∧ (es = [] → as = .nil)
  | .nil, [], _ => ⟨rfl, fun _ => rfl⟩
  | .nil, _ :: _, h => by simp [varA] at h
  | .star _ _, es, h => by cases es <;> simp [varA] at h
  | .cons c r, [], h => by cases c <;> simp [varA] at h
  | .cons c r, e :: es, h => by
    cases c with
    | var i =>
      cases e with
      | Name x p =>
        simp only [varA, Bool.and_eq_true, decide_eq_true_eq] at h
        exact ⟨by rw [List.all_cons, (varA_st h.2).1]; rfl, fun z => by cases z⟩
      | _ => simp [varA] at h
    | _ => simp [varA] at h
theorem varA_ok {cl : Nat → List D → Hs → Res D} {nm : Nat → Str} {ca : CaT} {T : Tab} {N : List Str} {sc : Scope} {Z : Cx} (hN : Z.N = N) (hs : Z.env.scope = sc) : ∀ {as : A} {es : List Expr}, varA N sc as es = true → SA Z nm ca T cl es as
  | .nil, [], _ => a_nil
  | .nil, _ :: _, h => by simp [varA] at h
  | .star _ _, es, h => by cases es <;> simp [varA] at h
  | .cons c r, [], h => by cases c <;> simp [varA] at h
  | .cons c r, e :: es, h => by
    cases c with
    | var i =>
      cases e with
      | Name x p =>
        simp only [varA, Bool.and_eq_true, decide_eq_true_eq] at h
        obtain ⟨⟨h1, h2⟩, h3⟩ := h
        have k1 := varA_ok (cl := cl) (nm := nm) (ca := ca) (T := T) hN hs h3
        unfold visB at h2
        simp only [Bool.and_eq_true, Bool.not_eq_true'] at h2
        refine a_cons (s_var (by rw [hN]; exact h1) ?_ h2.1.2 h2.2) k1 rfl
        rw [hs]
        have := h2.1.1
        unfold Vis
        split at this <;> simp_all
      | _ => simp [varA] at h
    | _ => simp [varA] at h
mutual
theorem oE : ∀ (c : E) {X : Cx} {sc : Scope} {top : Tp} {t : Bool} {e : Expr}, Fk X cs ca T cl n → Fx X N sc top n → chkE cs N c t sc top e = true → Sx t X cs.nm ca T cl e c
  | .cst d, X, sc, top, t, e, K, F, h => by
    simp only [chkE] at h
    split at h
    · exact leaf (s_cst h) rfl
    · cases h
  | .var i, X, sc, top, t, e, K, F, h => by
    simp only [chkE] at h
    split at h
    · simp only [Bool.and_eq_true, decide_eq_true_eq] at h
      have g := F.vis h.2
      exact leaf (s_var (by rw [F.N]; exact h.1) g.1 g.2.1 g.2.2) rfl
    · cases h
  | .glo i d, X, sc, top, t, e, K, F, h => by
    simp only [chkE] at h
    split at h
    · simp only [Bool.and_eq_true, decide_eq_true_eq] at h
      obtain ⟨⟨rfl, h1⟩, h2⟩ := h
      have g := F.gl h1
      obtain ⟨u, v, e1, e2, e3⟩ := K.glo i d h2
      exact leaf (s_glo g.1 e1 e2 e3 g.2) rfl
    · cases h
  | .bin op a b, X, sc, top, t, e, K, F, h => by
    simp only [chkE] at h
    split at h
    · simp only [Bool.and_eq_true, decide_eq_true_eq] at h
      obtain ⟨⟨rfl, h1⟩, h2⟩ := h
      exact leaf (s_bin (oE a K F h1) (oE b K F h2)) rfl
    · cases h
  | .neg a, X, sc, top, t, e, K, F, h => by
    simp only [chkE] at h
    split at h
    · exact leaf (s_neg (oE a K F h)) rfl
    · cases h
  | .not a, X, sc, top, t, e, K, F, h => by
    simp only [chkE] at h
    split at h
    · have g := oE a K F h
      cases t with
      | false => exact s_not g
      | true => exact ⟨t_not g.1, fun _ _ _ z => by cases z⟩
    · cases h
  | .and a b, X, sc, top, t, e, K, F, h => by
    simp only [chkE] at h
    split at h
    · rename_i p0
      rw [Bool.and_eq_true] at h
      have g1 := oE a K F h.1
      have g2 := oE b K F h.2
      cases t with
      | false => exact s_and g1 (s_one g2)
      | true =>
        have w := t_and (pos := p0) g1.1 (pw_and1 g2.1)
        exact ⟨w.pt, fun _ _ _ _ => w⟩
    · rw [Bool.and_eq_true] at h
      have g1 := oE a K F h.1
      have g2 := oE b K F h.2
      cases t with
      | false => exact s_and g1 g2
      | true =>
        have w := t_and g1.1 (g2.2 _ _ _ rfl)
        exact ⟨w.pt, fun _ _ _ _ => w⟩
    · cases h
  | .or a b, X, sc, top, t, e, K, F, h => by
    simp only [chkE] at h
    split at h
    · rename_i p0
      rw [Bool.and_eq_true] at h
      have g1 := oE a K F h.1
      have g2 := oE b K F h.2
      cases t with
      | false => exact s_or g1 (s_one g2)
      | true =>
        have w := t_or (pos := p0) g1.1 (pw_or1 g2.1)
        exact ⟨w.pt, fun _ _ _ _ => w⟩
    · rw [Bool.and_eq_true] at h
      have g1 := oE a K F h.1
      have g2 := oE b K F h.2
      cases t with
      | false => exact s_or g1 g2
      | true =>
        have w := t_or g1.1 (g2.2 _ _ _ rfl)
        exact ⟨w.pt, fun _ _ _ _ => w⟩
    · cases h
  | .cmp op a b, X, sc, top, t, e, K, F, h => by
    simp only [chkE] at h
    split at h
    · simp only [Bool.and_eq_true, decide_eq_true_eq, Bool.not_eq_true'] at h
      obtain ⟨⟨⟨⟨rfl, h1⟩, h2⟩, h3⟩, h4⟩ := h
      have g1 := oE a K F h3
      have g2 := oE b K F h4
      exact both (s_cmp F.hu5 g1 g2 h1 h2) (t_cmp F.hu5 g1 g2 h1 h2) fun _ _ _ z => by cases z
    · cases h
  | .chn o1 o2 a b c, X, sc, top, t, e, K, F, h => by
    simp only [chkE] at h
    split at h
    · simp only [Bool.and_eq_true, decide_eq_true_eq, Bool.not_eq_true'] at h
      obtain ⟨⟨⟨⟨⟨⟨⟨rfl, rfl⟩, h1⟩, h2⟩, h3⟩, h4⟩, h5⟩, h6⟩ := h
      have g1 := oE a K F h4
      have g2 := oE b K F h5
      have g3 := oE c K F h6
      exact both (s_chn' F.hu5 g1 g2 g3 h3 (notIs_of h1) (notIs_of h2)) (t_chn F.hu5 g1 g2 g3 h3 (notIs_of h1) (notIs_of h2)) fun _ _ _ z => by cases z
    · cases h
  | .ite c a b, X, sc, top, t, e, K, F, h => by
    simp only [chkE] at h
    split at h
    · simp only [Bool.and_eq_true] at h
      obtain ⟨⟨h1, h2⟩, h3⟩ := h
      have g1 := oE c K F h1
      have g2 := oE a K F h2
      have g3 := oE b K F h3
      cases t with
      | false => exact s_ite g1.1 g2 g3
      | true => exact ⟨t_ite g1.1 g2.1 g3.1, fun _ _ _ z => by cases z⟩
    · cases h
  | .tup as, X, sc, top, t, e, K, F, h => by
    simp only [chkE] at h
    split at h
    · exact leaf (s_tup (oA as K F h)) rfl
    · cases h
  | .lst fz as, X, sc, top, t, e, K, F, h => by
    simp only [chkE] at h
    split at h
    · exact leaf (s_lst (oA as K F h)) rfl
    · cases h
  | .idx a i, X, sc, top, t, e, K, F, h => by
    simp only [chkE] at h
    split at h
    · simp only [Bool.and_eq_true, Bool.not_eq_true'] at h
      exact leaf (s_idx (oE a K F h.1.2) (oE i K F h.2) h.1.1) rfl
    · cases h
  | .slc a lo hi, X, sc, top, t, e, K, F, h => by
    simp only [chkE] at h
    split at h
    · simp only [Bool.and_eq_true] at h
      exact leaf (s_slc (oE a K F h.1.1) (oO lo K F h.1.2) (oO hi K F h.2)) rfl
    · cases h
  | .fld a f, X, sc, top, t, e, K, F, h => by
    simp only [chkE] at h
    split at h
    · simp only [Bool.and_eq_true, decide_eq_true_eq] at h
      obtain ⟨⟨rfl, h1⟩, h2⟩ := h
      exact leaf (s_fld K.inj (fun c => K.fld c f) (oE a K F h2) h1) rfl
    · cases h
  | .deq ng a b, X, sc, top, t, e, K, F, h => by
    simp only [chkE] at h
    split at h
    · simp only [Bool.and_eq_true, decide_eq_true_eq, Bool.not_eq_true'] at h
      obtain ⟨⟨⟨rfl, h1⟩, h3⟩, h4⟩ := h
      exact both (s_deq K.cok F.hu (oE a K F h3) (oE b K F h4) h1) (t_deq K.cok F.hu (oE a K F h3) (oE b K F h4) h1) fun _ _ _ z => by cases z
    · cases h
  | .sidx a b, X, sc, top, t, e, K, F, h => by
    simp only [chkE] at h
    split at h
    · simp only [Bool.and_eq_true, decide_eq_true_eq, Bool.not_eq_true'] at h
      obtain ⟨⟨⟨⟨⟨rfl, h1⟩, h2⟩, h3⟩, h4⟩, h5⟩ := h
      exact leaf (s_sidx (oE a K F h4) (oE b K F h5) h2 (base_ok h1) h3) rfl
    · cases h
  | .sjoin a b, X, sc, top, t, e, K, F, h => by
    simp only [chkE] at h
    split at h
    · simp only [Bool.and_eq_true, decide_eq_true_eq, Bool.not_eq_true'] at h
      obtain ⟨⟨⟨⟨⟨rfl, h1⟩, h2⟩, h3⟩, h4⟩, h5⟩ := h
      exact leaf (s_sjoin (oE a K F h4) (oE b K F h5) h2 (base_ok h1) h3) rfl
    · cases h
  | .xl g f as c, X, sc, top, t, e, K, F, h => by
    simp only [chkE] at h
    split at h
    · simp only [Bool.and_eq_true, decide_eq_true_eq] at h
      obtain ⟨⟨⟨⟨⟨⟨h1, h2⟩, h3⟩, h4⟩, h5⟩, h6⟩, h7⟩ := h
      have g1 := F.gl h2
      unfold askC at h3
      split at h3
      · rename_i y e' hq
        simp only [Bool.and_eq_true, decide_eq_true_eq] at h3
        obtain ⟨rfl, h8⟩ := h3
        obtain ⟨a, gd, k1, k2, k3⟩ := K.ask _ _ _ hq
        obtain ⟨ad, j1, j2, j3⟩ := K.fn _ _ h5
        unfold isG at h6
        simp only [Bool.and_eq_true, decide_eq_true_eq, Bool.not_eq_true'] at h6
        exact leaf (s_xl (a := a) k3 g1.1 k1 k2 g1.2 (K.exc _ _ h8) (K.tab (by rw [F.N]; exact h1)) F.room2 (LamX.lamS_by (by rw [F.sc]; exact h4)) j3 h6.1 j1 j2 h6.2 (fun Z e1 e2 => varA_ok (by rw [e1]; exact F.N) e2 h7) (varA_st h7).1 (varA_st h7).2) rfl
      · cases h3
    · cases h
  | .fn f as, X, sc, top, t, e, K, F, h => by
    simp only [chkE] at h
    split at h
    · simp only [Bool.and_eq_true, decide_eq_true_eq] at h
      obtain ⟨⟨⟨h1, h2⟩, h3⟩, h4⟩ := h
      obtain ⟨ad, k1, k2, k3⟩ := K.fn f _ h1
      have g := F.gl h2
      exact leaf (s_fn k3 (F.room.mono (Nat.le_succ n)) g.1 k1 k2 g.2 (oA as K F h4) h3 (fun z => by subst z; exact chkA_nil h4)) rfl
    · cases h
  | .mk c sh as ks, X, sc, top, t, e, K, F, h => by
    simp only [chkE] at h
    split at h
    · split at h
      · rename_i np kn q
        simp only [Bool.and_eq_true, decide_eq_true_eq] at h
        obtain ⟨⟨⟨⟨⟨h1, h2⟩, h3⟩, h4⟩, h5⟩, h6⟩ := h
        obtain ⟨f, fz, k1, k2⟩ := K.mkr c sh np kn _ q h1
        have g := F.gl h2
        exact leaf (s_mk k1 k2 F.room g.1 g.2 (oA as K F h5) h3 (oK ks K F h6) h4) rfl
      · cases h
    · cases h
  | .mth m a as, X, sc, top, t, e, K, F, h => by
    simp only [chkE] at h
    split at h
    · simp only [Bool.and_eq_true, decide_eq_true_eq] at h
      obtain ⟨⟨⟨⟨⟨⟨⟨rfl, h1⟩, h2⟩, h3⟩, h4⟩, h5⟩, h6⟩, h7⟩ := h
      exact leaf (s_mth K.inj (fun c f => K.mth m c f h1) (F.room.mono (Nat.le_succ n)) (oE a K F h6) h2 (oA as K F h7) h3 h4 h5 (fun z => by subst z; exact chkA_nil h7)) rfl
    · cases h
  | .prp m a, X, sc, top, t, e, K, F, h => by
    simp only [chkE] at h
    split at h
    · simp only [Bool.and_eq_true, decide_eq_true_eq] at h
      obtain ⟨⟨⟨rfl, h1⟩, h2⟩, h3⟩ := h
      exact leaf (s_prp (fun c f => K.prp m c f h1) F.room (oE a K F h3) h2) rfl
    · cases h
  | .bi b as, X, sc, top, t, e, K, F, h => by
    simp only [chkE] at h
    split at h
    · simp only [Bool.and_eq_true, decide_eq_true_eq] at h
      obtain ⟨⟨⟨⟨rfl, h1⟩, h2⟩, h3⟩, h4⟩ := h
      exact leaf (bi_all F.calm h1 (F.gl (isB_of h2).1).1 (K.blt _ (isB_of h2).2) (oA as K F h4) h3) rfl
    · cases h
  | .isi a ts, X, sc, top, t, e, K, F, h => by
    simp only [chkE] at h
    split at h
    · simp only [Bool.and_eq_true, decide_eq_true_eq, Bool.not_eq_true'] at h
      obtain ⟨⟨⟨⟨rfl, h1⟩, h2⟩, h3⟩, h4⟩ := h
      exact leaf (tyz_ok K F (oE a K F h4) h2 h1 h3) rfl
    · cases h
  | .bm m a .nil, X, sc, top, t, e, K, F, h => by
    simp only [chkE] at h
    split at h
    · simp only [Bool.and_eq_true, chkA, List.isEmpty_cons, Bool.false_eq_true, and_false] at h
    · cases h
  | .bm m a (.star _ _), X, sc, top, t, e, K, F, h => by
    simp only [chkE] at h
    split at h
    · simp only [Bool.and_eq_true, Bool.not_eq_true'] at h
      obtain ⟨⟨⟨h1, h2⟩, h3⟩, h4⟩ := h
      simp only [chkA] at h4
      split at h4
      · rename_i q; cases q; cases h1.2
      · cases h4
    · cases h
  | .bm m a (.cons k r), X, sc, top, t, e, K, F, h => by
    simp only [chkE] at h
    split at h
    · simp only [Bool.and_eq_true, decide_eq_true_eq, Bool.not_eq_true', chkA] at h
      obtain ⟨⟨⟨⟨⟨h0, h1⟩, h2⟩, h3⟩, h4⟩, ⟨h5, h6⟩, h7⟩ := h
      have := chkA_nil h7
      subst this
      cases m with
      | append => cases h0; exact leaf (s_app (oE a K F h4) (oE k K F h6) h1 h2 h3) rfl
      | extend => cases h0; exact leaf (s_xtd (oE a K F h4) (oE k K F h6) h1 h2 h3) rfl
      | _ => cases h0
    · cases h
  | .lc fz own elt g it c, X, sc, top, t, e, K, F, h => by
    simp only [chkE] at h
    split at h
    · simp only [Bool.and_eq_true, Bool.not_eq_true', beq_iff_eq, List.all_eq_true] at h
      obtain ⟨⟨⟨⟨⟨⟨⟨rfl, h1⟩, h2⟩, h3⟩, h4⟩, h5⟩, h6⟩, h7⟩ := h
      have b := blkOk_by h1
      rw [← F.N, ← F.sc] at b
      exact leaf (s_lc (fz := fz) F.calm F.nd (oI it K F h4) b (fun s H C cl' fp => oG g K.blk F.blk h5) (fun s H C cl' fp => oF c K.blk F.blk h6) (fun s H C cl' fp => oE elt K.blk F.blk h7) (folded_ok h3) (by rw [F.N]; exact ownN_2 own) (fun i hi => by simpa using h2 i hi)).1 rfl
    · cases h
  | .dpl as k, X, sc, top, t, e, K, F, h => by
    simp only [chkE] at h
    split at h
    · simp only [Bool.and_eq_true, decide_eq_true_eq, Bool.not_eq_true'] at h
      obtain ⟨⟨⟨⟨rfl, h1⟩, h2⟩, h3⟩, h4⟩ := h
      exact leaf (s_dpl F.calm F.hu (F.gl (isB_of h1).1).1 (K.blt _ (isB_of h1).2) (oA as K F h3) (oE k K F h4) h2) rfl
    · cases h
  | .nls a, X, sc, top, t, e, K, F, h => by
    simp only [chkE] at h
    split at h
    · simp only [Bool.and_eq_true, decide_eq_true_eq, Bool.not_eq_true'] at h
      obtain ⟨⟨⟨rfl, h1⟩, h2⟩, h3⟩ := h
      exact leaf (s_nls (F.gl (isB_of h1).1).1 (K.blt _ (isB_of h1).2) (oE a K F h3) h2) rfl
    · cases h
  | .ieq a b, X, sc, top, t, e, K, F, h => by
    simp only [chkE] at h
    split at h
    · simp only [Bool.and_eq_true, decide_eq_true_eq, Bool.not_eq_true'] at h
      obtain ⟨⟨⟨rfl, h1⟩, h3⟩, h4⟩ := h
      have g1 := oE a K F h3
      have g2 := oE b K F h4
      exact both (s_ieq K.eq (F.room.mono (Nat.le_succ n)) g1 g2 h1) (t_ieq K.eq (F.room.mono (Nat.le_succ n)) g1 g2 h1) fun _ _ _ z => by cases z
    · cases h
  | .iln a, X, sc, top, t, e, K, F, h => by
    simp only [chkE] at h
    split at h
    · simp only [Bool.and_eq_true, decide_eq_true_eq, Bool.not_eq_true'] at h
      obtain ⟨⟨⟨rfl, h1⟩, h2⟩, h3⟩ := h
      exact leaf (s_iln K.len F.room (F.gl (isB_of h1).1).1 (K.blt _ (isB_of h1).2) (oE a K F h3) h2) rfl
    · cases h
  | .isb ng a b, X, sc, top, t, e, K, F, h => by
    simp only [chkE] at h
    split at h
    · simp only [Bool.and_eq_true, decide_eq_true_eq, Bool.not_eq_true'] at h
      obtain ⟨⟨⟨rfl, h1⟩, h3⟩, h4⟩ := h
      have g1 := oE a K F h3
      have g2 := oE b K F h4
      exact both (s_isb g1 g2 h1) (t_isb g1 g2 h1) fun _ _ _ z => by cases z
    · cases h
  | .rev a, X, sc, top, t, e, K, F, h => by
    simp only [chkE] at h
    split at h
    · exact leaf (s_rev (oE a K F h)) rfl
    · cases h
  | .pop0 a, X, sc, top, t, e, K, F, h => by
    simp only [chkE] at h
    split at h
    · simp only [Bool.and_eq_true, decide_eq_true_eq] at h
      obtain ⟨⟨⟨rfl, h1⟩, h2⟩, h3⟩ := h
      exact leaf (s_pop0 (oE a K F h3) h1 h2) rfl
    · cases h
  | .din ng a b, X, sc, top, t, e, K, F, h => by
    simp only [chkE] at h
    split at h
    · simp only [Bool.and_eq_true, decide_eq_true_eq, Bool.not_eq_true'] at h
      obtain ⟨⟨⟨rfl, h1⟩, h3⟩, h4⟩ := h
      have g1 := oE a K F h3
      have g2 := oE b K F h4
      exact both (s_din K.cok F.hu g1 g2 h1) (t_din K.cok F.hu g1 g2 h1) fun _ _ _ z => by cases z
    · cases h
  | .dget a i, X, sc, top, t, e, K, F, h => by
    simp only [chkE] at h
    split at h
    · simp only [Bool.and_eq_true, Bool.not_eq_true'] at h
      exact leaf (s_dget K.cok F.hu (oE a K F h.1.2) (oE i K F h.2) h.1.1) rfl
    · cases h
  | .dnew, X, sc, top, t, e, K, F, h => by
    simp only [chkE] at h
    split at h
    · exact leaf (s_dnew K.cok) rfl
    · cases h
  | .done a b, X, sc, top, t, e, K, F, h => by
    simp only [chkE] at h
    split at h
    · simp only [Bool.and_eq_true] at h
      exact leaf (s_done K.cok F.hu (oE a K F h.1) (oE b K F h.2)) rfl
    · cases h
  | .dlen a, X, sc, top, t, e, K, F, h => by
    simp only [chkE] at h
    split at h
    · simp only [Bool.and_eq_true, decide_eq_true_eq, Bool.not_eq_true'] at h
      obtain ⟨⟨⟨rfl, h1⟩, h2⟩, h3⟩ := h
      exact leaf (s_dlen K.cok (F.gl (isB_of h1).1).1 (K.blt _ (isB_of h1).2) (oE a K F h3) h2) rfl
    · cases h
  | .dlst fz a, X, sc, top, t, e, K, F, h => by
    simp only [chkE] at h
    split at h
    · simp only [Bool.and_eq_true, decide_eq_true_eq, Bool.not_eq_true'] at h
      obtain ⟨⟨⟨rfl, h1⟩, h2⟩, h3⟩ := h
      exact leaf (s_dlst K.cok F.calm (F.gl (isB_of h1).1).1 (K.blt _ (isB_of h1).2) (oE a K F h3) h2) rfl
    · cases h
  | .dof a, X, sc, top, t, e, K, F, h => by
    simp only [chkE] at h
    split at h
    · simp only [Bool.and_eq_true, decide_eq_true_eq, Bool.not_eq_true'] at h
      obtain ⟨⟨⟨rfl, h1⟩, h2⟩, h3⟩ := h
      exact leaf (s_dof K.cok F.calm F.hu (F.gl (isB_of h1).1).1 (K.blt _ (isB_of h1).2) (oE a K F h3) h2) rfl
    · cases h
  | .dupd a b, X, sc, top, t, e, K, F, h => by
    simp only [chkE] at h
    split at h
    · simp only [Bool.and_eq_true, decide_eq_true_eq, Bool.not_eq_true'] at h
      obtain ⟨⟨⟨⟨⟨rfl, h1⟩, h2⟩, h3⟩, h4⟩, h5⟩ := h
      exact leaf (s_dupd K.cok F.hu (oE a K F h4) (oE b K F h5) h1 h2 h3) rfl
    · cases h
  | .dcm fz own kk v g it c, X, sc, top, t, e, K, F, h => by
    simp only [chkE] at h
    split at h
    · simp only [Bool.and_eq_true, Bool.not_eq_true', beq_iff_eq, List.all_eq_true] at h
      obtain ⟨⟨⟨⟨⟨⟨⟨⟨rfl, h1⟩, h2⟩, h3⟩, h4⟩, h5⟩, h6⟩, h7⟩, h8⟩ := h
      have b := blkOk_by h1
      rw [← F.N, ← F.sc] at b
      exact leaf (s_dcm (fz := fz) K.cok F.hu F.calm F.nd (oI it K F h4) b (fun s H C cl' fp => oG g K.blk F.blk h5) (fun s H C cl' fp => oF c K.blk F.blk h6) (fun s H C cl' fp => oE kk K.blk F.blk h7) (fun s H C cl' fp => oE v K.blk F.blk h8) (folded_ok h3) (by rw [F.N]; exact ownN_2 own) (fun i hi => by simpa using h2 i hi)).1 rfl
    · cases h
  | .dsd a k v, X, sc, top, t, e, K, F, h => by
    simp only [chkE] at h
    split at h
    · simp only [Bool.and_eq_true, Bool.not_eq_true', decide_eq_true_eq] at h
      obtain ⟨⟨⟨⟨⟨⟨⟨rfl, h1⟩, h2⟩, h3⟩, h4⟩, h5⟩, h6⟩, h7⟩ := h
      exact leaf (s_dsd K.cok F.hu (oE a K F h5) (oE k K F h6) (oE v K F h7) h1 h2 h3 h4) rfl
    · cases h
  | .dpk a k, X, sc, top, t, e, K, F, h => by
    simp only [chkE] at h
    split at h
    · simp only [Bool.and_eq_true, Bool.not_eq_true', decide_eq_true_eq] at h
      obtain ⟨⟨⟨⟨⟨rfl, h1⟩, h2⟩, h3⟩, h4⟩, h5⟩ := h
      exact leaf (s_dpk K.cok F.hu (oE a K F h4) (oE k K F h5) h1 h2 h3) rfl
    · cases h
  | .dits a, X, sc, top, t, e, K, F, h => by
    simp only [chkE] at h
    split at h
    · simp only [Bool.and_eq_true, Bool.not_eq_true', decide_eq_true_eq] at h
      obtain ⟨⟨⟨⟨⟨rfl, h1⟩, rfl⟩, h2⟩, h3⟩, h4⟩ := h
      exact leaf (s_dits K.cok F.calm (F.gl (isB_of h1).1).1 (K.blt _ (isB_of h1).2) (oE a K F h4) h2 h3) rfl
    · cases h
  | .nval i a, X, sc, top, t, e, K, F, h => by
    simp only [chkE] at h
    split at h
    · simp only [Bool.and_eq_true, Bool.not_eq_true', decide_eq_true_eq, beq_iff_eq] at h
      obtain ⟨⟨⟨⟨⟨⟨⟨⟨⟨⟨rfl, h1⟩, rfl⟩, rfl⟩, h2⟩, h3⟩, h4⟩, h5⟩, h6⟩, h7⟩, h8⟩ := h
      have b := blkOk_by h4
      rw [← F.N, ← F.sc] at b
      exact leaf (s_nval K.cok F.calm F.nd (F.gl (isB_of h1).1).1 (K.blt _ (isB_of h1).2) (oE a K F h8) h2 (by simpa using h3) b (fun s H C cl' fp => nm_ok F.blk h5) (fun s H C cl' fp => vr_ok F.blk h6) (fun s H C cl' fp => tr_ok h7) (by rw [F.N]; exact ownN_2 [i])) rfl
    · cases h
  | .lc2 fz own own2 elt g it g2 it2, X, sc, top, t, e, K, F, h => by
    simp only [chkE] at h
    split at h
    · simp only [Bool.and_eq_true, Bool.not_eq_true', beq_iff_eq, List.all_eq_true] at h
      obtain ⟨⟨⟨⟨⟨⟨⟨⟨⟨⟨⟨⟨rfl, rfl⟩, h1⟩, h2⟩, h3⟩, h4⟩, h5⟩, h6⟩, h7⟩, h8⟩, h9⟩, h10⟩, h11⟩ := h
      have b := blkOk_by h1
      rw [← F.N, ← F.sc] at b
      exact leaf (s_lc2 (fz := fz) F.calm F.nd (oI it K F h7) b (fun i hi => by rw [F.N, ownN_2 own]; simpa using h2 i hi) (fun s H C cl' fp => oG g K.blk F.blk h8) (fun s H C cl' fp => oI it2 K.blk F.blk h9) (fun s H C cl' fp => oG g2 K.blk F.blk h10) (fun s H C cl' fp => oE elt K.blk F.blk h11) (folded_ok h5) (fun env x => folded_ok h6 x) (by rw [F.N]; exact ownN_2 own) (fun i hi => by simpa using h3 i hi) (fun i hi => by simpa using h4 i hi)) rfl
    · cases h
  | .slen a, X, sc, top, t, e, K, F, h => by
    simp only [chkE] at h
    split at h
    · simp only [Bool.and_eq_true, Bool.not_eq_true', decide_eq_true_eq] at h
      obtain ⟨⟨⟨⟨⟨⟨⟨⟨⟨⟨rfl, h1⟩, rfl⟩, rfl⟩, h2⟩, rfl⟩, rfl⟩, h3⟩, h4⟩, h5⟩, h6⟩ := h
      exact leaf (s_slen F.room (K.tab (by rw [F.N]; exact h4)) (lamB_ok h3) (F.gl (isB_of h1).1).1 (K.blt _ (isB_of h1).2) (K.blt _ h2) (oE a K F h6) h5 rfl) rfl
    · cases h
  | .lrng a, X, sc, top, t, e, K, F, h => by
    simp only [chkE] at h
    split at h
    · simp only [Bool.and_eq_true, Bool.not_eq_true', decide_eq_true_eq] at h
      obtain ⟨⟨⟨⟨⟨rfl, h1⟩, rfl⟩, h2⟩, h3⟩, h4⟩ := h
      exact leaf (s_lrng F.calm (F.gl (isB_of h1).1).1 (K.blt _ (isB_of h1).2) (F.gl (isB_of h2).1).1 (K.blt _ (isB_of h2).2) (oE a K F h4) h3) rfl
    · cases h
theorem oA : ∀ (c : A) {X : Cx} {sc : Scope} {top : Tp} {e : List Expr}, Fk X cs ca T cl n → Fx X N sc top n → chkA cs N c sc top e = true → SA X cs.nm ca T cl e c
  | .nil, X, sc, top, e, K, F, h => by
    simp only [chkA, List.isEmpty_iff] at h
    subst h
    exact a_nil
  | .cons c r, X, sc, top, e, K, F, h => by
    simp only [chkA] at h
    split at h
    · simp only [Bool.and_eq_true, Bool.not_eq_true'] at h
      exact a_cons (oE c K F h.1.2) (oA r K F h.2) h.1.1
    · cases h
  | .star c r, X, sc, top, e, K, F, h => by
    simp only [chkA] at h
    split at h
    · simp only [Bool.and_eq_true, Bool.not_eq_true'] at h
      exact a_star (oE c K F h.1) (oA r K F h.2)
    · cases h
theorem oK : ∀ (c : A) {X : Cx} {sc : Scope} {top : Tp} {e : List Keyword}, Fk X cs ca T cl n → Fx X N sc top n → chkK cs N c sc top e = true → SK X cs.nm ca T cl e c
  | .nil, X, sc, top, e, K, F, h => by
    simp only [chkK, List.isEmpty_iff] at h
    subst h
    exact k_nil
  | .cons c r, X, sc, top, e, K, F, h => by
    simp only [chkK] at h
    split at h
    · simp only [Bool.and_eq_true] at h
      exact k_cons (oE c K F h.1) (oK r K F h.2)
    · cases h
  | .star c r, X, sc, top, e, K, F, h => by
    simp only [chkK] at h
    cases h
theorem oO : ∀ (c : OE) {X : Cx} {sc : Scope} {top : Tp} {e : Option Expr}, Fk X cs ca T cl n → Fx X N sc top n → chkO cs N c sc top e = true → SO X cs.nm ca T cl e c
  | .none, X, sc, top, e, K, F, h => by
    cases e with
    | none => trivial
    | some _ => cases h
  | .some c, X, sc, top, e, K, F, h => by
    simp only [chkO] at h
    split at h
    · exact oE c K F h
    · cases h
theorem oF : ∀ (c : OE) {X : Cx} {sc : Scope} {top : Tp} {e : List Expr}, Fk X cs ca T cl n → Fx X N sc top n → chkF cs N c sc top e = true → PTsM X cs.nm ca T cl e c
  | .none, X, sc, top, e, K, F, h => by
    simp only [chkF, List.isEmpty_iff] at h
    subst h
    exact ts_nil
  | .some c, X, sc, top, e, K, F, h => by
    simp only [chkF] at h
    split at h
    · exact ts_one (oE c K F h).1
    · cases h
theorem oG : ∀ (c : G) {X : Cx} {sc : Scope} {top : Tp} {e : Expr}, Fk X cs ca T cl n → Fx X N sc top n → chkG cs N c sc top e = true → SG X cs.nm ca T cl e c
  | .nm i, X, sc, top, e, K, F, h => by
    simp only [chkG] at h
    split at h
    · simp only [Bool.and_eq_true, decide_eq_true_eq] at h
      have g := F.tgt h.2
      exact g_nm F.nd (by rw [F.N]; exact h.1) g.1 g.2
    · cases h
  | .tup gs, X, sc, top, e, K, F, h => by
    simp only [chkG] at h
    split at h
    · simp only [Bool.and_eq_true, decide_eq_true_eq] at h
      exact g_tup F.calm (oGL gs K F h.2) h.1.1 h.1.2
    · cases h
  | .att a f, X, sc, top, e, K, F, h => by
    simp only [chkG] at h
    split at h
    · simp only [Bool.and_eq_true, decide_eq_true_eq] at h
      obtain ⟨rfl, h2⟩ := h
      exact g_att K.inj (fun c => K.fld c f) (oE a K F h2)
    · cases h
  | .sub a i, X, sc, top, e, K, F, h => by
    simp only [chkG] at h
    split at h
    · simp only [Bool.and_eq_true, Bool.not_eq_true'] at h
      exact g_sub (oE a K F h.1.2) (oE i K F h.2) h.1.1
    · cases h
  | .dsub a i, X, sc, top, e, K, F, h => by
    simp only [chkG] at h
    split at h
    · simp only [Bool.and_eq_true, Bool.not_eq_true'] at h
      exact g_dsub K.cok F.hu (oE a K F h.1.2) (oE i K F h.2) h.1.1
    · cases h
theorem oGL : ∀ (c : GL) {X : Cx} {sc : Scope} {top : Tp} {e : List Expr}, Fk X cs ca T cl n → Fx X N sc top n → chkGL cs N c sc top e = true → SGL X cs.nm ca T cl e c
  | .nil, X, sc, top, e, K, F, h => by
    simp only [chkGL, List.isEmpty_iff] at h
    subst h
    exact gl_nil
  | .cons g r, X, sc, top, e, K, F, h => by
    simp only [chkGL] at h
    split at h
    · simp only [Bool.and_eq_true, Bool.not_eq_true'] at h
      exact gl_cons (oG g K F h.1.2) (oGL r K F h.2) h.1.1
    · cases h
theorem oI : ∀ (c : I) {X : Cx} {sc : Scope} {top : Tp} {tg e : Expr}, Fk X cs ca T cl n → Fx X N sc top n → chkI cs N c sc top tg e = true → SI X cs.nm ca T cl tg e c
  | .chars c, X, sc, top, tg, e, K, F, h => by
    simp only [chkI] at h
    exact i_chars (oE c K F h)
  | .val c, X, sc, top, tg, e, K, F, h => by
    simp only [chkI] at h
    exact i_val (oE c K F h)
  | .dkeys c, X, sc, top, tg, e, K, F, h => by
    simp only [chkI] at h
    exact i_dkeys K.cok (oE c K F h)
  | .ditems c, X, sc, top, tg, e, K, F, h => by
    simp only [chkI] at h
    split at h
    · simp only [Bool.and_eq_true, Bool.not_eq_true', decide_eq_true_eq] at h
      obtain ⟨⟨⟨rfl, h1⟩, h2⟩, h3⟩ := h
      exact i_ditems K.cok (oE c K F h3) h1 h2
    · cases h
  | .dvk i c, X, sc, top, tg, e, K, F, h => by
    simp only [chkI] at h
    split at h
    · simp only [Bool.and_eq_true, Bool.not_eq_true', decide_eq_true_eq, beq_iff_eq] at h
      obtain ⟨⟨⟨⟨⟨⟨⟨⟨rfl, rfl⟩, h2⟩, h3⟩, h4⟩, h5⟩, h6⟩, h7⟩, h8⟩ := h
      have b := blkOk_by h4
      rw [← F.N, ← F.sc] at b
      exact i_dvk K.cok F.calm F.nd (oE c K F h8) h2 (by simpa using h3) b (fun s H C cl' fp => nm_ok F.blk h5) (fun s H C cl' fp => vr_ok F.blk h6) (fun s H C cl' fp => tr_ok h7) (by rw [F.N]; exact ownN_2 [i])
    · cases h
  | .rng1 a, X, sc, top, tg, e, K, F, h => by
    simp only [chkI] at h
    split at h
    · simp only [Bool.and_eq_true, decide_eq_true_eq, Bool.not_eq_true'] at h
      obtain ⟨⟨⟨rfl, h1⟩, h2⟩, h3⟩ := h
      exact i_rng1 (F.gl (isB_of h1).1).1 (K.blt _ (isB_of h1).2) (oE a K F h3) h2
    · cases h
  | .rng2 a b, X, sc, top, tg, e, K, F, h => by
    simp only [chkI] at h
    split at h
    · simp only [Bool.and_eq_true, decide_eq_true_eq, Bool.not_eq_true'] at h
      obtain ⟨⟨⟨⟨⟨rfl, h1⟩, h2⟩, h3⟩, h4⟩, h5⟩ := h
      exact i_rng2 (F.gl (isB_of h1).1).1 (K.blt _ (isB_of h1).2) (oE a K F h4) (oE b K F h5) h2 h3
    · cases h
  | .rng3 a b c, X, sc, top, tg, e, K, F, h => by
    simp only [chkI] at h
    split at h
    · simp only [Bool.and_eq_true, decide_eq_true_eq, Bool.not_eq_true'] at h
      obtain ⟨⟨⟨⟨⟨⟨⟨rfl, h1⟩, h2⟩, h3⟩, h4⟩, h5⟩, h6⟩, h7⟩ := h
      exact i_rng3 (F.gl (isB_of h1).1).1 (K.blt _ (isB_of h1).2) (oE a K F h5) (oE b K F h6) (oE c K F h7) h2 h3 h4
    · cases h
  | .zip a b, X, sc, top, tg, e, K, F, h => by
    simp only [chkI] at h
    split at h
    · simp only [Bool.and_eq_true, decide_eq_true_eq, Bool.not_eq_true'] at h
      obtain ⟨⟨⟨⟨⟨rfl, h1⟩, h2⟩, h3⟩, h4⟩, h5⟩ := h
      exact i_zip (F.gl (isB_of h1).1).1 (K.blt _ (isB_of h1).2) (oE a K F h4) (oE b K F h5) h2 h3
    · cases h
  | .enum a, X, sc, top, tg, e, K, F, h => by
    simp only [chkI] at h
    split at h
    · simp only [Bool.and_eq_true, decide_eq_true_eq, Bool.not_eq_true'] at h
      obtain ⟨⟨⟨rfl, h1⟩, h2⟩, h3⟩ := h
      exact i_enum (F.gl (isB_of h1).1).1 (K.blt _ (isB_of h1).2) (oE a K F h3) h2
    · cases h
end
end
end MC

set_option Elab.async false
set_option linter.all false
set_option maxRecDepth 100000
set_option maxHeartbeats 4000000
namespace MC
open PySem PySem.Spec PyProof.Rows L2
/-! ### statements -/
def parNames (sc : Scope) (ts : List Expr) : List Str := ts.filterMap fun
    | .Name id pos => if sc.names.lookup id == some .local && pos.line == (ts.head?.map (·.pos.line)).getD 0 then some id else none
    | _ => none
/-- no stores the other way round -/
def parNone (sc : Scope) (t e : Expr) : Bool := match t, e with
  | .Tuple ts _ _, .Tuple vs _ _ => !(ts.length == 2 || ts.length == 3) || vs.length != ts.length || (parNames sc ts).length != ts.length
  | .List _ _, .Tuple _ _ _ => false
  | _, _ => true
theorem parNone_ok {sc : Scope} {t e : Expr} {env : Env} (hs : env.scope = sc) (h : parNone sc t e = true) : swappedStores [t] e env = pure none := by
  subst hs
  unfold parNone at h
  split at h
  · rename_i ts k p vs k2 p2
    unfold swappedStores
    simp only
    have hk : ∀ x, env.kindOf x = env.scope.names.lookup x := fun _ => rfl
    by_cases h1 : (!(ts.length == 2 || ts.length == 3) || vs.length != ts.length || env.blockKind != .function) = true
    · rw [if_pos h1]
    · rw [if_neg h1]
      have h1' : (!(ts.length == 2 || ts.length == 3) || vs.length != ts.length) = false := by
        simp only [Bool.or_eq_true, not_or, Bool.not_eq_true] at h1
        simp only [Bool.or_eq_false_iff]
        exact h1.1
      rw [h1', Bool.false_or] at h
      split
      · rfl
      · have h2 : ((parNames env.scope ts).length != ts.length || (parNames env.scope ts).eraseDups.length != (parNames env.scope ts).length) = true := by rw [h, Bool.true_or]
        exact if_pos h2
  · cases h
  · rename_i h1 h2
    refine stores_no ?_
    cases t <;> first
      | rfl
      | (cases e <;> first | rfl | exact (h1 _ _ _ _ _ _ rfl rfl).elim | exact (h2 _ _ _ _ _ rfl rfl).elim)
def parSome (sc : Scope) (x y : Str) (px py : Pos) (a b : Expr) : Bool :=
  (match sc.kind with | .function => true | _ => false) && decide (sc.names.lookup x = some .local) && decide (sc.names.lookup y = some .local) && (py.line == px.line) && decide (x ≠ y) && !isSt a && !isSt b && !(foldedForSure 8 a && foldedForSure 8 b) && !(constantsAlone 8 a && constantsAlone 8 b)
theorem parSome_ok {sc : Scope} {x y : Str} {px py pt pt2 : Pos} {kt k2 : Nat} {a b : Expr} {env : Env} (hs : env.scope = sc) (h : parSome sc x y px py a b = true) : swappedStores [.Tuple [.Name x px, .Name y py] kt pt] (.Tuple [a, b] k2 pt2) env = pure (some [x, y]) := by
  subst hs
  unfold parSome at h
  simp only [Bool.and_eq_true, decide_eq_true_eq, Bool.not_eq_true', beq_iff_eq] at h
  obtain ⟨⟨⟨⟨⟨⟨⟨⟨h0, h1⟩, h2⟩, h3⟩, h4⟩, h5⟩, h6⟩, h7⟩, h8⟩ := h
  have hk : env.scope.kind = .function := by
    split at h0
    · assumption
    · cases h0
  have hb : env.blockKind = .function := by
    unfold Env.blockKind
    rw [hk]
    rfl
  have k1 : env.kindOf x = some .local := h1
  have k2 : env.kindOf y = some .local := h2
  unfold swappedStores
  simp [hb, k1, k2, h3, h7, h8, Expr.pos, List.eraseDups, List.eraseDupsBy, List.eraseDupsBy.loop]
  have n1 : (y == x) = false := beq_eq_false_iff_ne.mpr (Ne.symm h4)
  rw [n1]
  rw [if_neg (by
    rintro (z | z)
    · cases a <;> first | (cases h5; done) | cases z
    · cases b <;> first | (cases h6; done) | cases z)]
  rfl
/-- a name's comprehension, stored within its frame -/
def swB (sc : Scope) (y : Str) (py : Pos) (e : Expr) : Bool := match e with
  | .ListComp _ [_] scope pos => (match sc.kind with | .function => true | _ => false) && decide (sc.names.lookup y = some .local) && (py.line == pos.line) && !(scope.names.any fun (n, k) => n == y && (k == .local || k == .cell))
  | .DictComp _ _ _ scope pos => (match sc.kind with | .function => true | _ => false) && decide (sc.names.lookup y = some .local) && (py.line == pos.line) && !(scope.names.any fun (n, k) => n == y && (k == .local || k == .cell))
  | _ => false
theorem swD_true {kx vx : Expr} {gs : List Comprehension} {scope : Scope} {pos py : Pos} {y : Str} {l : Nat} {env : Env} (fk : env.scope.kind = .function) (fy : env.scope.names.lookup y = some .local) (fl : (py.line == pos.line) = true) (fa : (scope.names.any fun (n, k) => n == y && (k == .local || k == .cell)) = false) : swapsWith (.DictComp kx vx gs scope pos) (some (.Name y py)) l env = pure true := by
  have e1 : env.kindOf y = some .local := fy
  have e2 : env.blockKind = .function := by
    unfold Env.blockKind
    rw [fk]
    rfl
  unfold swapsWith
  simp only [e2, e1, fa, Expr.pos, fl]
  rfl
/-- three names at once -/
def parSome3 (sc : Scope) (x y z : Str) (px py pz : Pos) (a b c : Expr) : Bool :=
  (match sc.kind with | .function => true | _ => false) && decide (sc.names.lookup x = some .local) && decide (sc.names.lookup y = some .local) && decide (sc.names.lookup z = some .local) && (py.line == px.line) && (pz.line == px.line) && decide (x ≠ y) && decide (x ≠ z) && decide (y ≠ z) && !isSt a && !isSt b && !isSt c && !(foldedForSure 8 a && (foldedForSure 8 b && foldedForSure 8 c)) && !(constantsAlone 8 a && (constantsAlone 8 b && constantsAlone 8 c))
theorem parSome3_ok {sc : Scope} {x y z : Str} {px py pz pt pt2 : Pos} {kt k2 : Nat} {a b c : Expr} {env : Env} (hs : env.scope = sc) (h : parSome3 sc x y z px py pz a b c = true) : swappedStores [.Tuple [.Name x px, .Name y py, .Name z pz] kt pt] (.Tuple [a, b, c] k2 pt2) env = pure (some [x, y, z]) := by
  subst hs
  unfold parSome3 at h
  simp only [Bool.and_eq_true, decide_eq_true_eq, Bool.not_eq_true', beq_iff_eq] at h
  obtain ⟨⟨⟨⟨⟨⟨⟨⟨⟨⟨⟨⟨⟨h0, h1⟩, h2⟩, h2'⟩, h3⟩, h3'⟩, h4⟩, h4'⟩, h4''⟩, h5⟩, h6⟩, h6'⟩, h7⟩, h8⟩ := h
  have hk : env.scope.kind = .function := by
    split at h0
    · assumption
    · cases h0
  have hb : env.blockKind = .function := by
    unfold Env.blockKind
    rw [hk]
    rfl
  have k1 : env.kindOf x = some .local := h1
  have k2 : env.kindOf y = some .local := h2
  have k3 : env.kindOf z = some .local := h2'
  have n1 : (y == x) = false := beq_eq_false_iff_ne.mpr (Ne.symm h4)
  have n2 : (z == x) = false := beq_eq_false_iff_ne.mpr (Ne.symm h4')
  have n3 : (z == y) = false := beq_eq_false_iff_ne.mpr (Ne.symm h4'')
  unfold swappedStores
  simp [hb, k1, k2, k3, h3, h3', h7, h8, Expr.pos, List.eraseDups, List.eraseDupsBy, List.eraseDupsBy.loop, n1, n2, n3]
  rintro (z | z | z)
  · cases a <;> first | (cases h5; done) | cases z
  · cases b <;> first | (cases h6; done) | cases z
  · cases c <;> first | (cases h6'; done) | cases z
def isAttr : Expr → Bool
  | .Attribute .. => true
  | _ => false
def isLc : Expr → Bool
  | .ListComp .. => true
  | _ => false
/-- swapped stores: none -/
def celB (sc : Scope) : Expr → Bool
  | .Name y _ => decide (sc.names.lookup y = some .cell)
  | _ => false
def asgB (sc : Scope) (t e : Expr) : Bool := !isSt t && ((!isComp e && parNone sc t e) || (isAttr t || (celB sc t && parNone sc t e)))
section
variable (cs : Cs) (N : List Str) (sc : Scope)
def fnName (g : G) : Option Nat := match g with
  | .nm i => some i
  | _ => none
mutual
def chkS : S → Stmt → Bool
  | .exp c, s => match s with
    | .Expr e _ => !isComp e && chkE cs N c false sc tpA e
    | _ => false
  | .ret c, s => match s with
    | .Return (some e) _ => chkE cs N c false sc tpA e
    | _ => false
  | .retN, s => match s with
    | .Return none _ => true
    | _ => false
  | .asg g c, s => match s with
    | .Assign [t] e _ => (asgB sc t e && chkG cs N g sc tpA t && chkE cs N c false sc tpA e) || (match t, g with
      | .Name y py, .nm i => swB sc y py e && decide (N[i]? = some y) && chkE cs N c false sc tpA e
      | _, _ => false)
    | _ => false
  | .par i j a b, s => match s with
    | .Assign [.Tuple [.Name x px, .Name y py] _ _] (.Tuple [u, v] _ _) _ => decide (N[i]? = some x) && decide (N[j]? = some y) && decide (i ≠ j) && parSome sc x y px py u v && chkE cs N a false sc tpA u && chkE cs N b false sc tpA v
    | _ => false
  | .par3 i j l a b c, s => match s with
    | .Assign [.Tuple [.Name x px, .Name y py, .Name z pz] _ _] (.Tuple [u, v, w] _ _) _ => decide (N[i]? = some x) && decide (N[j]? = some y) && decide (N[l]? = some z) && decide (i ≠ j) && decide (i ≠ l) && decide (j ≠ l) && parSome3 sc x y z px py pz u v w && chkE cs N a false sc tpA u && chkE cs N b false sc tpA v && chkE cs N c false sc tpA w
    | _ => false
  | .aug i op c, s => match s with
    | .AugAssign (.Name x _) o e _ => decide (o = op) && decide (N[i]? = some x) && tgtB sc tpA x && chkE cs N c false sc tpA e
    | _ => false
  | .ifs c t f, s => match s with
    | .If e a b _ => chkE cs N c true sc tpA e && chkB t a && chkB f b
    | _ => false
  | .for_ g it b, s => match s with
    | .For tg iter bd [] _ => !isSetE iter && chkI cs N it sc tpA tg iter && chkG cs N g sc tpA tg && chkB b bd
    | _ => false
  | .whl c b, s => match s with
    | .While e bd [] _ => chkE cs N c true sc tpA e && chkB b bd
    | _ => false
  | .pass, s => match s with
    | .Pass _ => true
    | _ => false
  | .brk, s => match s with
    | .Break _ => true
    | _ => false
  | .cnt, s => match s with
    | .Continue _ => true
    | _ => false
  | .mat e k, s => match s with
    | .Match x ms _ => chkE cs N e false sc tpA x && chkC k ms
    | _ => false
  | .never, _ => true
  | .raise c, s => match s with
    | .Raise (some (.Call (.Name x _) [.Constant (.str _) _ _] [] _)) none _ => decide (cs.exc c = some x) && isG sc x
    | _ => false
  | .xret f as, s => match s with
    | .Return (some (.Call (.Name x _) es [] _)) _ => decide (cs.fnn f = some x) && isG sc x && noSt es && chkA cs N as sc tpA es
    | _ => false
  | .xasg i f as, s => match s with
    | .Assign [.Name y py] (.Call (.Name x _) es [] _) _ => decide (cs.fnn f = some x) && isG sc x && noSt es && chkA cs N as sc tpA es && chkG cs N (.nm i) sc tpA (.Name y py)
    | _ => false
  | .xexp f as, s => match s with
    | .Expr (.Call (.Name x _) es [] _) _ => decide (cs.fnn f = some x) && isG sc x && noSt es && chkA cs N as sc tpA es
    | _ => false
def chkB : B → List Stmt → Bool
  | .nil, ss => ss.isEmpty
  | .cons c r, ss => match ss with
    | s :: ss => chkS c s && chkB r ss
    | [] => false
def chkC : C → List MatchCase → Bool
  | .nil, ms => ms.isEmpty
  | .cons k b r, ms => match ms with
    | ⟨.MatchValue (.Constant (.str x) _ _) _, none, bd⟩ :: ms => decide (x = k) && chkB b bd && chkC r ms
    | _ => false
end
end
section
variable {X : Cx} {cs : Cs} {ca : CaT} {T : Tab} {cl : Nat → List D → Hs → Res D} {n : Nat} {N : List Str} {sc : Scope}
theorem oLc {fz : Bool} {own : List Nat} {elt : E} {g : G} {it : I} {c : OE} {top : Tp} {t : Bool} {e : Expr} {i : Nat} {y : Str} {py spos : Pos} (K : Fk X cs ca T cl n) (F : Fx X N sc top n) (h : chkE cs N (.lc fz own elt g it c) t sc top e = true) (hi : X.N[i]? = some y) (hw : swB sc y py e = true) : SS X cs.nm ca T cl (.Assign [.Name y py] e spos) (.asg (.nm i) (.lc fz own elt g it c)) := by
  simp only [chkE] at h
  split at h
  · simp only [Bool.and_eq_true, Bool.not_eq_true', beq_iff_eq, List.all_eq_true] at h
    obtain ⟨⟨⟨⟨⟨⟨⟨rfl, h1⟩, h2⟩, h3⟩, h4⟩, h5⟩, h6⟩, h7⟩ := h
    have b := blkOk_by h1
    rw [← F.N, ← F.sc] at b
    simp only [swB, Bool.and_eq_true, decide_eq_true_eq, Bool.not_eq_true', beq_iff_eq] at hw
    obtain ⟨⟨⟨w1, w2⟩, w3⟩, w4⟩ := hw
    have hk : X.env.scope.kind = .function := by
      rw [F.sc]
      split at w1
      · assumption
      · cases w1
    have hl : X.env.scope.names.lookup y = some .local := by rw [F.sc]; exact w2
    exact st_asgLc ((s_lc (fz := fz) F.calm F.nd (oI it K F h4) b (fun s H C cl' fp => oG g K.blk F.blk h5) (fun s H C cl' fp => oF c K.blk F.blk h6) (fun s H C cl' fp => oE elt K.blk F.blk h7) (folded_ok h3) (by rw [F.N]; exact ownN_2 own) (fun i hi => by simpa using h2 i hi)).2 hi hl (sw_true hk hl (by rw [w3]; exact beq_self_eq_true _) w4))
  · cases h
theorem oDc {fz : Bool} {own : List Nat} {kk elt : E} {g : G} {it : I} {c : OE} {top : Tp} {t : Bool} {e : Expr} {i : Nat} {y : Str} {py spos : Pos} (K : Fk X cs ca T cl n) (F : Fx X N sc top n) (h : chkE cs N (.dcm fz own kk elt g it c) t sc top e = true) (hi : X.N[i]? = some y) (hw : swB sc y py e = true) : SS X cs.nm ca T cl (.Assign [.Name y py] e spos) (.asg (.nm i) (.dcm fz own kk elt g it c)) := by
  simp only [chkE] at h
  split at h
  · simp only [Bool.and_eq_true, Bool.not_eq_true', beq_iff_eq, List.all_eq_true] at h
    obtain ⟨⟨⟨⟨⟨⟨⟨⟨rfl, h1⟩, h2⟩, h3⟩, h4⟩, h5⟩, h6⟩, h7⟩, h8⟩ := h
    have b := blkOk_by h1
    rw [← F.N, ← F.sc] at b
    simp only [swB, Bool.and_eq_true, decide_eq_true_eq, Bool.not_eq_true', beq_iff_eq] at hw
    obtain ⟨⟨⟨w1, w2⟩, w3⟩, w4⟩ := hw
    have hk : X.env.scope.kind = .function := by
      rw [F.sc]
      split at w1
      · assumption
      · cases w1
    have hl : X.env.scope.names.lookup y = some .local := by rw [F.sc]; exact w2
    exact st_asgLc ((s_dcm (fz := fz) K.cok F.hu F.calm F.nd (oI it K F h4) b (fun s H C cl' fp => oG g K.blk F.blk h5) (fun s H C cl' fp => oF c K.blk F.blk h6) (fun s H C cl' fp => oE kk K.blk F.blk h7) (fun s H C cl' fp => oE elt K.blk F.blk h8) (folded_ok h3) (by rw [F.N]; exact ownN_2 own) (fun i hi => by simpa using h2 i hi)).2 hi hl (swD_true hk hl (by rw [w3]; exact beq_self_eq_true _) w4))
  · cases h
theorem isLc_of {c : E} {top : Tp} {t : Bool} {y : Str} {py : Pos} {e : Expr} (h : chkE cs N c t sc top e = true) (hw : swB sc y py e = true) : (∃ fz own elt g it k, c = .lc fz own elt g it k) ∨ ∃ fz own kk elt g it k, c = .dcm fz own kk elt g it k := by
  cases e with
  | ListComp _ _ _ _ =>
    cases c with
    | lc fz own elt g it k => exact .inl ⟨_, _, _, _, _, _, rfl⟩
    | lc2 fz own own2 elt g it g2 it2 =>
      simp only [chkE] at h
      split at h
      · rename_i z
        cases z
        cases hw
      · cases h
    | _ => simp [chkE] at h
  | DictComp _ _ _ _ _ =>
    cases c with
    | dcm fz own kk elt g it k => exact .inr ⟨_, _, _, _, _, _, _, rfl⟩
    | _ => simp [chkE] at h
  | _ => cases hw
mutual
theorem oS : ∀ (c : S) {s : Stmt}, Fk X cs ca T cl n → Fx X N sc tpA n → PassesOwn (model X.prog X.w) X.A X.env X.xe → chkS cs N sc c s = true → SS X cs.nm ca T cl s c
  | .exp c, s, K, F, P, h => by
    simp only [chkS] at h
    split at h
    · simp only [Bool.and_eq_true, Bool.not_eq_true'] at h
      exact st_exp (oE c K F h.2) h.1
    · cases h
  | .ret c, s, K, F, P, h => by
    simp only [chkS] at h
    split at h
    · exact st_ret (oE c K F h)
    · cases h
  | .retN, s, K, F, P, h => by
    simp only [chkS] at h
    split at h
    · exact st_retN
    · cases h
  | .asg g c, s, K, F, P, h => by
    simp only [chkS] at h
    split at h
    · rename_i t e pos
      rw [Bool.or_eq_true] at h
      rcases h with h | h
      · simp only [Bool.and_eq_true] at h
        obtain ⟨⟨h1, h2⟩, h3⟩ := h
        unfold asgB at h1
        simp only [Bool.and_eq_true, Bool.not_eq_true', Bool.or_eq_true] at h1
        obtain ⟨h4, h5 | h5⟩ := h1
        · exact st_asg (oE c K F h3) (oG g K F h2) h5.1 (parNone_ok F.sc h5.2) h4
        · rcases h5 with h5 | h5
          · cases t with
            | Attribute o f pa => exact st_asgLcA (oE c K F h3) (oG g K F h2)
            | _ => cases h5
          · cases t with
            | Name y py =>
              have hy : sc.names.lookup y = some .cell := by simpa [celB] using h5.1
              exact st_asgC (oE c K F h3) (oG g K F h2) (by rw [F.sc]; exact hy) (parNone_ok F.sc h5.2)
            | _ => simp [celB] at h5
      · split at h
        · rename_i y py i
          simp only [Bool.and_eq_true, decide_eq_true_eq] at h
          rcases isLc_of h.2 h.1.1 with ⟨fz, own, elt, g, it, k, rfl⟩ | ⟨fz, own, kk, elt, g, it, k, rfl⟩
          · exact oLc K F h.2 (by rw [F.N]; exact h.1.2) h.1.1
          · exact oDc K F h.2 (by rw [F.N]; exact h.1.2) h.1.1
        · cases h
    · cases h
  | .par i j a b, s, K, F, P, h => by
    simp only [chkS] at h
    split at h
    · simp only [Bool.and_eq_true, decide_eq_true_eq] at h
      obtain ⟨⟨⟨⟨⟨h1, h2⟩, h3⟩, h4⟩, h5⟩, h6⟩ := h
      have h7 := h4
      unfold parSome at h7
      simp only [Bool.and_eq_true, decide_eq_true_eq, Bool.not_eq_true', beq_iff_eq] at h7
      obtain ⟨⟨⟨⟨⟨⟨⟨⟨_, k1⟩, k2⟩, _⟩, _⟩, k5⟩, k6⟩, _⟩, _⟩ := h7
      exact st_par F.calm F.nd (by rw [F.N]; exact h1) (by rw [F.N]; exact h2) h3 (by rw [F.sc]; exact k1) (by rw [F.sc]; exact k2) (oE a K F h5) (oE b K F h6) k5 k6 (parSome_ok F.sc h4)
    · cases h
  | .par3 i j l a b c, s, K, F, P, h => by
    simp only [chkS] at h
    split at h
    · simp only [Bool.and_eq_true, decide_eq_true_eq] at h
      obtain ⟨⟨⟨⟨⟨⟨⟨⟨⟨h1, h2⟩, h2'⟩, h3⟩, h3'⟩, h3''⟩, h4⟩, h5⟩, h6⟩, h6'⟩ := h
      have h7 := h4
      unfold parSome3 at h7
      simp only [Bool.and_eq_true, decide_eq_true_eq, Bool.not_eq_true', beq_iff_eq] at h7
      obtain ⟨⟨⟨⟨⟨⟨⟨⟨⟨⟨⟨⟨⟨_, k1⟩, k2⟩, k3⟩, _⟩, _⟩, _⟩, _⟩, _⟩, k5⟩, k6⟩, k7⟩, _⟩, _⟩ := h7
      exact st_par3 F.calm F.nd (by rw [F.N]; exact h1) (by rw [F.N]; exact h2) (by rw [F.N]; exact h2') h3 h3' h3'' (by rw [F.sc]; exact k1) (by rw [F.sc]; exact k2) (by rw [F.sc]; exact k3) (oE a K F h5) (oE b K F h6) (oE c K F h6') k5 k6 k7 (parSome3_ok F.sc h4)
    · cases h
  | .aug i op c, s, K, F, P, h => by
    simp only [chkS] at h
    split at h
    · simp only [Bool.and_eq_true, decide_eq_true_eq] at h
      obtain ⟨⟨⟨rfl, h1⟩, h2⟩, h3⟩ := h
      have g := F.tgt h2
      exact st_aug F.nd (by rw [F.N]; exact h1) g.1 g.2 (oE c K F h3)
    · cases h
  | .ifs c t f, s, K, F, P, h => by
    simp only [chkS] at h
    split at h
    · simp only [Bool.and_eq_true] at h
      exact st_if (oE c K F h.1.1).1 (oB t K F P h.1.2) (oB f K F P h.2)
    · cases h
  | .for_ g it b, s, K, F, P, h => by
    simp only [chkS] at h
    split at h
    · simp only [Bool.and_eq_true, Bool.not_eq_true'] at h
      exact st_for P F.calm (oI it K F h.1.1.2) (oG g K F h.1.2) (oB b K F P h.2) (folded_ok h.1.1.1)
    · cases h
  | .whl c b, s, K, F, P, h => by
    simp only [chkS] at h
    split at h
    · simp only [Bool.and_eq_true] at h
      exact st_while P (oE c K F h.1).1 (oB b K F P h.2)
    · cases h
  | .pass, s, K, F, P, h => by
    simp only [chkS] at h
    split at h
    · exact st_pass
    · cases h
  | .brk, s, K, F, P, h => by
    simp only [chkS] at h
    split at h
    · exact st_brk
    · cases h
  | .cnt, s, K, F, P, h => by
    simp only [chkS] at h
    split at h
    · exact st_cnt
    · cases h
  | .mat e k, s, K, F, P, h => by
    simp only [chkS] at h
    split at h
    · simp only [Bool.and_eq_true] at h
      exact st_mat (oE e K F h.1) (oC k K F P h.2)
    · cases h
  | .never, s, K, F, P, h => st_never
  | .raise c, s, K, F, P, h => by
    simp only [chkS] at h
    split at h
    · simp only [Bool.and_eq_true, decide_eq_true_eq] at h
      have g := F.gl h.2
      exact st_raise F.calm (K.exc _ _ h.1) g.1 g.2
    · cases h
  | .xret f as, s, K, F, P, h => by
    simp only [chkS] at h
    split at h
    · simp only [Bool.and_eq_true, decide_eq_true_eq] at h
      obtain ⟨⟨⟨h1, h2⟩, h3⟩, h4⟩ := h
      obtain ⟨ad, k1, k2, k3⟩ := K.fn f _ h1
      have g := F.gl h2
      exact st_xret k3 (F.room.mono (Nat.le_succ n)) g.1 k1 k2 g.2 (oA as K F h4) h3 (fun z => by subst z; exact chkA_nil h4)
    · cases h
  | .xasg i f as, s, K, F, P, h => by
    simp only [chkS] at h
    split at h
    · simp only [Bool.and_eq_true, decide_eq_true_eq] at h
      obtain ⟨⟨⟨⟨h1, h2⟩, h3⟩, h4⟩, h5⟩ := h
      obtain ⟨ad, k1, k2, k3⟩ := K.fn f _ h1
      have g := F.gl h2
      exact st_xasg k3 (F.room.mono (Nat.le_succ n)) g.1 k1 k2 g.2 (oA as K F h4) h3 (fun z => by subst z; exact chkA_nil h4) (oG (.nm i) K F h5)
    · cases h
  | .xexp f as, s, K, F, P, h => by
    simp only [chkS] at h
    split at h
    · simp only [Bool.and_eq_true, decide_eq_true_eq] at h
      obtain ⟨⟨⟨h1, h2⟩, h3⟩, h4⟩ := h
      obtain ⟨ad, k1, k2, k3⟩ := K.fn f _ h1
      have g := F.gl h2
      exact st_xexp k3 (F.room.mono (Nat.le_succ n)) g.1 k1 k2 g.2 (oA as K F h4) h3 (fun z => by subst z; exact chkA_nil h4)
    · cases h
theorem oB : ∀ (c : B) {s : List Stmt}, Fk X cs ca T cl n → Fx X N sc tpA n → PassesOwn (model X.prog X.w) X.A X.env X.xe → chkB cs N sc c s = true → SB X cs.nm ca T cl s c
  | .nil, s, K, F, P, h => by
    simp only [chkB, List.isEmpty_iff] at h
    subst h
    exact b_nil
  | .cons c r, s, K, F, P, h => by
    simp only [chkB] at h
    split at h
    · simp only [Bool.and_eq_true] at h
      exact b_cons (oS c K F P h.1) (oB r K F P h.2)
    · cases h
theorem oC : ∀ (c : C) {s : List MatchCase}, Fk X cs ca T cl n → Fx X N sc tpA n → PassesOwn (model X.prog X.w) X.A X.env X.xe → chkC cs N sc c s = true → SC X cs.nm ca T cl s c
  | .nil, s, K, F, P, h => by
    simp only [chkC, List.isEmpty_iff] at h
    subst h
    exact .nil
  | .cons k b r, s, K, F, P, h => by
    simp only [chkC] at h
    split at h
    · simp only [Bool.and_eq_true, decide_eq_true_eq] at h
      obtain ⟨⟨rfl, h1⟩, h2⟩ := h
      exact .cons (oB b K F P h1) (oC r K F P h2)
    · cases h
end
end
end MC

set_option Elab.async false
set_option linter.all false
set_option maxRecDepth 100000
set_option maxHeartbeats 4000000
namespace MC
open PySem PySem.Spec PyProof.Rows L2
/-! ### every def of the text by M -/
/-- the code object and the table of a def that holds a lambda -/
def LamAt (mg : Str → Option Value) (base : Heap) (ca : CaT) (fd : FuncData) (qual : Str) : Prop := ∃ c P, fd.code = .ref c ∧ LamX.TabB base mg c P ∧ (P, qual ++ ".<locals>." ++ "<lambda>") ∈ ca.tabs ∧ ∀ p ∈ ca.tabs, p.1 = P → p.2 = qual ++ ".<locals>." ++ "<lambda>"
/-- a def's promise from its body's; its code object is told -/
theorem def_ok {P : Program} {w : World} {K : PySem.W.Frag} {mg : Str → Option Value} {base : Heap} {CX : CXT} {N ps : List Str} {k : Nat} {sp : Sp} {x qual : Str} {params : Arguments} {body : List Stmt} {scope : Scope} {dvs : List V} {kws : List (Str × V)} {f : Addr} {fd : FuncData}
    (F : FunD K x qual params body scope dvs kws f fd) (S : FnScope N ps scope) (len : ∀ vs H Q E, sp vs H Q E → vs.length = ps.length)
    (hb : ∀ (A : Around) (outer : List Env) (s : Shared) (H : Hp) (vs : List V) (Q : VK) (E : XK), Room k (A.deeper (envOfC qual scope s.heap.objs.size f fd.code)) → sp vs H Q E → ∃ t, PSs (cxOf CX P w K mg base N qual scope f fd.code A outer s H E) body t ∧ t { nx := fun _ H' => Q .non H', rt := Q } (start N vs) H) :
    FnOk P w K mg base CX (k + 1) f fd ps sp := by
  obtain ⟨_, _, _, _, _, _, _, _, _, _, e, lk, hc, _, _⟩ := F.ex
  subst e
  exact fn_of lk hc S len fun A outer s H vs Q E r q => hb A outer s H vs Q E r q
/-- a def as it stands behind the top, and its core -/
structure FnI (K : PySem.W.Frag) (mg : Str → Option Value) (base : Heap) (ca : CaT) (cs : Cs) (fn : Fn) (a : Addr) (fd : FuncData) (ps : List Str) : Prop where
  ex : ∃ x qual params body scope dvs kws N, FunD K x qual params body scope dvs kws a fd ∧ FnScope N ps scope ∧ chkB cs N scope fn.body body = true ∧ fn.ar = ps.length ∧ fn.ns = N.length ∧ (cs.lam N = true → LamAt mg base ca fd qual)
/-- what stands behind the top -/
structure Stat (P : Program) (w : World) (K : PySem.W.Frag) (mg : Str → Option Value) (base : Heap) (cs : Cs) (T : Tab) (F : Nat → Option Fn) (ca : CaT) (fa : Nat → Addr) (fd : Nat → FuncData) (ps : Nat → List Str) : Prop where
  inj : ∀ i j, cs.nm i = cs.nm j → i = j
  fns : ∀ f fn, F f = some fn → FnI K mg base ca cs fn (fa f) (fd f) (ps f)
  fld : ∀ c f, T.fok c f = true → Cls K (ca c) ∧ NoAttr K (ca c) (cs.nm f)
  mth : ∀ m c f, cs.isM m = true → T.meth c m = some f → (∃ fn, F f = some fn) ∧ Cls K (ca c) ∧ Meth K (ca c) (cs.nm m) (fa f) ∧ Binds K (fd f) (ps f) []
  prp : ∀ m c f, cs.isP m = true → T.meth c m = some f → (∃ fn, F f = some fn) ∧ Cls K (ca c) ∧ (∃ p, PropOf K (ca c) (cs.nm m) p (fa f)) ∧ Binds K (fd f) (ps f) []
  len : ∀ c f, T.meth c T.len = some f → (∃ fn, F f = some fn) ∧ PySem.W.findIn K (.ref (ca c)) "__len__" = some (some (.ref (fa f))) ∧ PySem.W.isFn K (.ref (fa f)) = true ∧ Binds K (fd f) (ps f) []
  eq : ∀ c f, T.meth c T.eq = some f → (∃ fn, F f = some fn) ∧ PySem.W.notFirst K (ca c) (.ref (ca c)) = true ∧ PySem.W.findIn K (.ref (ca c)) "__eq__" = some (some (.ref (fa f))) ∧ PySem.W.isFn K (.ref (fa f)) = true ∧ Binds K (fd f) (ps f) []
  kit : ∀ X : Cx, X.K = K → KitF X ca T.cok
  fn : ∀ f x, cs.fnn f = some x → (∃ fn, F f = some fn) ∧ mg x = some (.ref (fa f)) ∧ PySem.W.keepIn K (.ref (fa f)) = true ∧ Binds K (fd f) (ps f) []
  mkr : ∀ c sh np ks x, cs.mkk c sh = some (np, ks) → cs.cls c = some x → ∃ f fz, T.init c = some (f, fz) ∧ (∃ fn, F f = some fn) ∧ Mk K (ca c) (fa f) ∧ ∃ g gV, KBn K (fd f) (ps f) (np + 1) ks g gV ∧
    ∀ (β : List Addr) (H : Hp) (d : D) (v : V) (xs ys ws : List D) (vs zs : List V), RelD K cs.nm ca β H d v → RelL K cs.nm ca β H xs vs → RelL K cs.nm ca β H ys zs → T.shape sh xs ys = some ws → xs.length = np ∧ ys.length = ks.length ∧ RelL K cs.nm ca β H (d :: ws) (gV (v :: vs) zs)
  cls : ∀ c x, cs.cls c = some x → mg x = some (.ref (ca c))
  glo : ∀ g d, cs.glo g d = true → ∃ u v, mg (cs.nm g) = some u ∧ RelV v u ∧ ∀ β H, RelD K cs.nm ca β H d v
  blt : ∀ x, cs.blt x = true → mg x = none
  cok : ca.P = P ∧ ca.w = w
  exc : ∀ c x, cs.exc c = some x → ExcF K mg ca c x
  ask : ∀ g x e, cs.ask g = some (x, e) → ∃ a gd, mg x = some (.ref gd) ∧ PySem.W.keepIn K (.ref gd) = true ∧ AskF K x a e gd
section
variable {P : Program} {w : World} {K : PySem.W.Frag} {mg : Str → Option Value} {base : Heap} {cs : Cs} {T : Tab} {F : Nat → Option Fn} {ca : CaT} {fa : Nat → Addr} {fd : Nat → FuncData} {ps : Nat → List Str}
abbrev AllOk (P : Program) (w : World) (K : PySem.W.Frag) (mg : Str → Option Value) (base : Heap) (cs : Cs) (T : Tab) (F : Nat → Option Fn) (ca : CaT) (fa : Nat → Addr) (fd : Nat → FuncData) (ps : Nat → List Str) (n : Nat) : Prop := ∀ f fn, F f = some fn → FnOk P w K mg base (CXm P w) (3 * n) (fa f) (fd f) (ps f) (spM K cs.nm ca (callM T F n f))
theorem Stat.fk (S : Stat P w K mg base cs T F ca fa fd ps) {n : Nat} (ih : AllOk P w K mg base cs T F ca fa fd ps n) (X : Cx) (h1 : X.prog = P) (h2 : X.w = w) (h3 : X.K = K) (h4 : X.mg = mg) (h5 : X.base = base) (h6 : cs.lam X.N = true → TabX X ca) : Fk X cs ca T (callM T F n) (3 * n) := by
  subst h1 h2 h3 h4 h5
  refine ⟨S.inj, S.fld, fun m c f a b => ?_, fun m c f a b => ?_, fun c f a => ?_, fun c f a => ?_, S.kit X rfl, fun f x a => ?_, fun c sh np ks x a b => ?_, S.cls, S.glo, S.blt, S.cok, h6, S.exc, S.ask⟩
  · obtain ⟨⟨fn, e⟩, k1, k2, k3⟩ := S.mth m c f a b
    exact ⟨k1, _, k2, _, _, k3, ih f fn e⟩
  · obtain ⟨⟨fn, e⟩, k1, ⟨p, k2⟩, k3⟩ := S.prp m c f a b
    exact ⟨k1, p, _, k2, _, _, k3, ih f fn e⟩
  · obtain ⟨⟨fn, e⟩, k1, k2, k3⟩ := S.len c f a
    exact ⟨_, k1, k2, _, _, k3, ih f fn e⟩
  · obtain ⟨⟨fn, e⟩, k0, k1, k2, k3⟩ := S.eq c f a
    exact ⟨k0, _, k1, k2, _, _, k3, ih f fn e⟩
  · obtain ⟨⟨fn, e⟩, k1, k2, k3⟩ := S.fn f x a
    exact ⟨_, k1, k2, _, _, k3, ih f fn e⟩
  · obtain ⟨f, fz, e0, ⟨fn, e⟩, k1, g, gV, k2, k3⟩ := S.mkr c sh np ks x a b
    exact ⟨f, fz, e0, _, _, _, g, gV, k1, S.cls c x b, k2, ih f fn e, k3⟩
theorem start_rel {N : List Str} {β : List Addr} {H : Hp} {nm : Nat → Str} {xs : List D} {vs : List V} (r : RelL K nm ca β H xs vs) : RelS K nm ca β H (startM N.length xs) (start N vs) := by
  unfold startM L2.start
  refine ⟨by simp [r.length], fun i d e => ?_⟩
  by_cases hi : i < xs.length
  · rw [List.getElem?_append_left (by simpa using hi)] at e
    rw [List.getElem?_map] at e
    cases q : xs[i]? with
    | none => rw [q] at e; cases e
    | some x =>
      rw [q] at e
      cases e
      obtain ⟨v, k1, k2⟩ := r.get q
      refine ⟨v, ?_, k2⟩
      rw [List.getElem?_append_left (by simp; rw [← r.length]; exact hi), List.getElem?_map, k1]
      rfl
  · rw [List.getElem?_append_right (by simp; omega)] at e
    rw [List.getElem?_replicate] at e
    split at e <;> cases e
theorem callM_inv {n f : Nat} {xs : List D} {h : Hs} {Q : VK} {E : XK} {fn : Fn} {nm : Nat → Str} {β : List Addr} {H : Hp} (e : F f = some fn) (p : PostX K nm ca β H (callM T F (n + 1) f xs h) Q E) : xs.length = fn.ar ∧ PostX K nm ca β H (match evB T (callM T F n) fn.body (startM fn.ns xs) h with
        | .ok r h' => (match r.1 with
          | .rt d => back fn.fz h d h'
          | .nx => back fn.fz h .non h'
          | _ => .no)
        | .ex x h' => backX h x h'
        | .no => .no) Q E := by
  unfold callM at p
  rw [e] at p
  simp only at p
  split at p
  · rename_i hl
    exact ⟨hl, p⟩
  · exact p.elim
theorem back_X {fz : Bool} {nm : Nat → Str} {β : List Addr} {H : Hp} {h0 h' : Hs} {d : D} {Q : VK} {E : XK} (p : PostX K nm ca β H (back fz h0 d h') Q E) : PostE K nm ca β H (back fz h0 d h') Q := by
  unfold back at p ⊢
  split
  · rename_i z; rw [if_pos z] at p; exact p
  · rename_i z
    rw [if_neg z] at p
    split
    · rename_i y
      rw [if_pos y] at p
      split <;> (rename_i q; rw [q] at p; exact p)
    · rename_i y; rw [if_neg y] at p; exact p
theorem Stat.all (S : Stat P w K mg base cs T F ca fa fd ps) : ∀ n, AllOk P w K mg base cs T F ca fa fd ps n
  | 0 => fun f fn e => ⟨fun vs H Q E ⟨xs, h, β, _, _, p⟩ => p.elim, fun A outer s H args us vs Q E _ _ _ _ ⟨xs, h, β, _, _, p⟩ => p.elim⟩
  | n + 1 => fun f fn e => by
    have ih := S.all n
    obtain ⟨x, qual, params, body, scope, dvs, kws, N, hF, hS, hchk, har, hns, hlam⟩ := (S.fns f fn e).ex
    have e2 : 3 * (n + 1) = (3 * n + 2) + 1 := by omega
    rw [e2]
    refine def_ok hF hS (fun vs H Q E ⟨xs, h, β, rl, rh, p⟩ => ?_) fun A outer s H vs Q E hr ⟨xs, h, β, rl, rh, p⟩ => ?_
    · rw [← rl.length, (callM_inv e p).1]
      exact har
    · obtain ⟨hl, p⟩ := callM_inv e p
      let X := cxOf (CXm P w) P w K mg base N qual scope (fa f) (fd f).code A outer s H E
      have K1 : Fk X cs ca T (callM T F n) (3 * n) := S.fk ih X rfl rfl rfl rfl rfl fun z => by
        obtain ⟨c, P', e1, e2, e3, e4⟩ := hlam z
        exact ⟨c, P', e1, e2, e3, e4⟩
      have F1 : Fx X N scope tpA (3 * n) := ⟨rfl, hS.nd, rfl, fun _ _ => rfl, rfl, hr⟩
      refine ⟨_, oB (X := X) fn.body K1 F1 (passes_of (K := fun e s'' => CXm P w outer H s E e s'') rfl) hchk, ?_⟩
      refine ⟨startM fn.ns xs, h, β, ?_, rh, ?_⟩
      · rw [hns]; exact start_rel rl
      · cases qe : evB T (callM T F n) fn.body (startM fn.ns xs) h with
        | no => rw [qe] at p; exact p.elim
        | ex z h1 =>
          rw [qe] at p
          have tk : Takes X (fun cls d _ H => E cls d H) := takes_of (E := E) rfl rfl rfl rfl
          refine tk.imp fun cls d σ' H' ⟨ec, β', st, rh'⟩ => ?_
          subst ec
          have p' : PostX K cs.nm ca β H (backX h z h1) Q E := p
          unfold backX at p'
          split at p'
          · rename_i hb
            obtain ⟨s1, r1⟩ := back_rh rh st rh' (Hs.eqb_eq hb)
            exact p' d H' β s1 r1
          · exact p' d H' β' st rh'
        | ok r h1 =>
          rw [qe] at p
          intro τ' H' β' st rs' rh'
          have p' : PostX K cs.nm ca β H (match r.1 with
            | .rt d => back fn.fz h d h1
            | .nx => back fn.fz h .non h1
            | _ => .no) Q E := p
          cases q : r.1 with
          | nx =>
            rw [q] at p'
            exact back_ok rh st rh' .non (back_X p')
          | rt d =>
            rw [q] at p'
            exact fun v rd => back_ok rh st rh' rd (back_X p')
          | bk => rw [q] at p'; exact p'.elim
          | ct => rw [q] at p'; exact p'.elim
end
end MC

set_option Elab.async false
set_option linter.all false
set_option maxRecDepth 100000
set_option maxHeartbeats 4000000
namespace MC
open PySem PySem.Spec PyProof.Rows L2 He
/-! ### the head's facts, from a table -/
inductive At where
  | glo (x : Str) | mth (c m : Str) | prp (c m : Str)
deriving DecidableEq
def prA (K : PySem.W.Frag) (p : Addr) : Addr := match PySem.W.recIn K p "property" with
  | some (.ref g :: _) => g
  | _ => 0
def At.adr (K : PySem.W.Frag) : At → Addr
  | .glo x => ga K x
  | .mth c m => ma K (ga K c) m
  | .prp c m => prA K (ma K (ga K c) m)
structure FR where
  at_ : At
  d : DefD
  N : List Str
  ps : List Str
  fn : Fn
def fdAt (K : PySem.W.Frag) (a : Addr) : FuncData := match K.lookup a with
  | some ⟨_, _, .func fd, _⟩ => fd
  | _ => PySem.W.fnOf Str.empty Str.empty ⟨[], [], none, [], [], none, []⟩ [] ⟨.function, [], false, false, []⟩ .none .none .none .none none .none .none
def fnWa (K : PySem.W.Frag) (a : Addr) : FnW := match K.lookup a with
  | some ⟨_, _, .func fd, _⟩ => some (fd.name, fd.qualname, fd.params, fd.body, fd.scope, fd.globals, fd.closure, fd.builtins)
  | _ => none
def okM (K : PySem.W.Frag) (a : Addr) (d : DefD) : Bool := PySem.W.keepIn K (.ref a) && (match K.lookup a with
  | some ⟨_, _, .func fd, _⟩ => PySem.W.codeIn K fd.code d.qual && (dflB K fd.defaults (d.dvs K) && kwdB K fd.kwdefaults (d.kws K))
  | _ => false)
theorem funM {K : PySem.W.Frag} {a : Addr} {d : DefD} (e : fnWa K a = d.val) (c : okM K a d = true) : FunD K d.name d.qual d.params d.body d.scope (d.dvs K) (d.kws K) a (fdAt K a) := by
  obtain ⟨kp, c2⟩ := ba c
  unfold fnWa at e
  unfold fdAt
  cases q : K.lookup a with
  | none => rw [q] at c2; cases c2
  | some o =>
    obtain ⟨oc, od, dt, osl⟩ := o
    rw [q] at c2 e
    cases dt with
    | func fd =>
      simp only at e c2 ⊢
      obtain ⟨n1, n2, n3, n4, n5, n6, n7, n8, n9, n10, n11, n12, n13, n14, n15⟩ := fd
      unfold DefD.val at e
      simp only [Option.some.injEq, Prod.mk.injEq] at e
      obtain ⟨h1, h2, h3, h4, h5, h6, h7, h8⟩ := e
      subst h1 h2 h3 h4 h5 h6 h7 h8
      obtain ⟨k1, k2⟩ := ba c2
      obtain ⟨k3, k4⟩ := ba k2
      exact ⟨⟨oc, od, n8, n9, n10, n11, n12, n13, n14, osl, rfl, q, k1, dflB_ok k3, kwdB_ok k4⟩, kp⟩
    | _ => cases c2
/-- the program's tables -/
structure PD where
  cn : List (Nat × Str)
  nms : List Str
  frs : List (Nat × FR)
  mths : List ((Nat × Nat) × Nat)
  prps : List ((Nat × Nat) × Nat)
  lens : List (Nat × Nat)
  eqs : List (Nat × Nat)
  inits : List (Nat × (Nat × Bool))
  flds : List (Nat × Nat)
  glos : List (Nat × D)
  blts : List Str
  mkk : Nat → Nat → Option (Nat × List Str)
  shape : Nat → List D → List D → Option (List D)
  fuel : Nat
  leq : Nat
  llen : Nat
  /-- the defs that hold a lambda -/
  lams : List Nat
  /-- exceptions' classes; defs that tell whether a lambda raises: their parameter, the class -/
  xcn : List (Nat × Str)
  asks : List (Nat × (Str × Str))
section
variable (p : PD)
def PD.nm (i : Nat) : Str := match p.nms[i]? with
  | some x => x
  | none => ⟨(List.replicate (i + 200) 0).toArray⟩
def PD.meth (c m : Nat) : Option Nat := if m = p.llen then p.lens.lookup c else if m = p.leq then p.eqs.lookup c else match p.mths.lookup (c, m) with
  | some f => some f
  | none => p.prps.lookup (c, m)
def PD.tab : Tab where
  meth := p.meth
  init := fun c => p.inits.lookup c
  shape := p.shape
  fuel := p.fuel
  cok := fun c => (p.cn.lookup c).isSome
  fok := fun c f => p.flds.contains (c, f)
  eq := p.leq
  len := p.llen
def PD.F (f : Nat) : Option Fn := (p.frs.lookup f).map (·.fn)
def fnNm (r : FR) : Option Str := match r.at_ with
  | .glo x => some x
  | _ => none
def PD.cs : Cs where
  nm := p.nm
  fnn := fun f => (p.frs.lookup f).bind fnNm
  cls := fun c => p.cn.lookup c
  mkk := p.mkk
  glo := fun g d => match p.glos.lookup g with
    | some e => D.eqb e d
    | none => false
  blt := fun x => p.blts.contains x
  isM := fun m => p.mths.any fun q => q.1.2 == m
  isP := fun m => p.prps.any fun q => q.1.2 == m
  lam := fun N => p.lams.any fun f => match p.frs.lookup f with
    | some r => decide (r.N = N)
    | none => false
  exc := fun c => if (p.cn.lookup c).isNone then p.xcn.lookup c else none
  ask := fun g => match p.asks.lookup g, p.frs.lookup g with
    | some (_, e), some r => (fnNm r).map fun x => (x, e)
    | _, _ => none
def PD.ca (K : PySem.W.Frag) (c : Nat) : Addr := ga K ((p.cn.lookup c).getD ((p.xcn.lookup c).getD Str.empty))
def PD.fa (K : PySem.W.Frag) (f : Nat) : Addr := match p.frs.lookup f with
  | some r => r.at_.adr K
  | none => 0
def PD.fd (K : PySem.W.Frag) (f : Nat) : FuncData := fdAt K (p.fa K f)
/-- a def's code object, its table -/
def codeAt (K : PySem.W.Frag) (a : Addr) : Addr := match (fdAt K a).code with
  | .ref c => c
  | _ => 0
def tabAt (K : PySem.W.Frag) (c : Addr) : Addr := match K.lookup c with
  | some ⟨_, _, .fields vs, _⟩ => (match (vs[11]? : Option Value) with
    | some (.ref P) => P
    | _ => 0)
  | _ => 0
def PD.lq (f : Nat) : Str := match p.frs.lookup f with
  | some r => r.d.qual ++ ".<locals>." ++ "<lambda>"
  | none => Str.empty
def PD.tbs (K : PySem.W.Frag) : List (Addr × Addr) := p.lams.map fun f => (codeAt K (p.fa K f), tabAt K (codeAt K (p.fa K f)))
def PD.tabs (K : PySem.W.Frag) : List (Addr × Str) := p.lams.map fun f => (tabAt K (codeAt K (p.fa K f)), p.lq f)
def PD.cb (K : PySem.W.Frag) (P : Program) (w : World) : CaT := ⟨p.ca K, P, w, p.tabs K⟩
def PD.ps (f : Nat) : List Str := match p.frs.lookup f with
  | some r => r.ps
  | none => []
/-! #### what is looked at in the text alone -/
def scopeB (N P : List Str) (sc : Scope) : Bool := (match sc.kind with | .function => true | _ => false) && !sc.isCoroutine && !sc.isGenerator && decide N.Nodup && decide (N.take P.length = P) &&
  (P.all fun x => match sc.names.lookup x with | some .local => true | some .cell => true | _ => false) && sc.names.all fun y => match y.2 with | .free => false | _ => true
theorem scopeB_ok {N P : List Str} {sc : Scope} (h : scopeB N P sc = true) : FnScope N P sc := by
  unfold scopeB at h
  simp only [Bool.and_eq_true, Bool.not_eq_true', decide_eq_true_eq, List.all_eq_true] at h
  obtain ⟨⟨⟨⟨⟨⟨h1, h2⟩, h3⟩, h4⟩, h5⟩, h6⟩, h7⟩ := h
  refine ⟨?_, h2, h3, h4, h5, fun x hx => ?_, fun y hy z => ?_⟩
  · split at h1
    · assumption
    · cases h1
  · have := h6 x hx
    split at this
    · exact .inl (by assumption)
    · exact .inr (by assumption)
    · cases this
  · have := h7 y hy
    rw [z] at this
    cases this
/-- plain parameters -/
def plainP (a : Arguments) : Bool := a.posonlyargs.isEmpty && a.vararg.isNone && a.kwonlyargs.isEmpty && a.kwarg.isNone && a.defaults.isEmpty && a.kw_defaults.isEmpty
def frB (r : FR) : Bool := scopeB r.N r.ps r.d.scope && chkB p.cs r.N r.d.scope r.fn.body r.d.body && decide (r.fn.ar = r.ps.length) && decide (r.fn.ns = r.N.length) && r.d.dfl.isEmpty && decide (r.ps.length ≤ 6)
def posB (f : Nat) : Bool := match p.frs.lookup f with
  | some r => plainP r.d.params && decide (r.d.params.args.map (·.arg) = r.ps)
  | none => false
def atB (f : Nat) (a : At) : Bool := match p.frs.lookup f with
  | some r => decide (r.at_ = a)
  | none => false
def clsN (c : Nat) : Str := (p.cn.lookup c).getD Str.empty
def PD.stat : Bool :=
  decide p.nms.Nodup && (p.nms.all fun x => decide (x.cps.size < 200)) && (p.frs.all fun q => frB p q.2) &&
  (p.mths.all fun q => posB p q.2 && atB p q.2 (.mth (clsN p q.1.1) (p.nm q.1.2)) && (p.cn.lookup q.1.1).isSome && !(q.1.2 == p.llen) && !(q.1.2 == p.leq) && !(p.prps.any fun r => r.1.2 == q.1.2)) &&
  (p.prps.all fun q => posB p q.2 && atB p q.2 (.prp (clsN p q.1.1) (p.nm q.1.2)) && (p.cn.lookup q.1.1).isSome && !(q.1.2 == p.llen) && !(q.1.2 == p.leq) && !(p.mths.any fun r => r.1.2 == q.1.2)) &&
  (p.lens.all fun q => posB p q.2 && atB p q.2 (.mth (clsN p q.1) "__len__") && (p.cn.lookup q.1).isSome) &&
  (p.eqs.all fun q => posB p q.2 && atB p q.2 (.mth (clsN p q.1) "__eq__") && (p.cn.lookup q.1).isSome) &&
  (p.frs.all fun q => match q.2.at_ with | .glo x => posB p q.1 | _ => true) &&
  (p.flds.all fun q => (p.cn.lookup q.1).isSome) &&
  !(p.leq == p.llen) &&
  (p.frs.all fun q => !(p.cs.lam q.2.N) || p.lams.contains q.1)
def PD.askS : Bool := p.asks.all fun q => match p.frs.lookup q.1 with
  | some r => (match r.at_ with | .glo x => decide (r.d.name = x) && decide (r.d.qual = x) | _ => false) && posB p q.1 && decide (r.ps = [q.2.1]) && decide (r.N[0]? = some q.2.1) && visB r.d.scope q.2.1 && askB r.d.body q.2.1 q.2.2 && isG r.d.scope q.2.2
  | none => false
/-! #### what is looked at in K -/
def dvOf : D → Option Dv
  | .non => some .non
  | .bl b => some (.bl b)
  | .int i => some (.int i)
  | .str x => some (.str x)
  | _ => none
def gloB (K : PySem.W.Frag) (x : Str) : D → Bool
  | .int i => (Fa.int x i).ok K
  | .str z => (Fa.str x z).ok K
  | .tup xs => (Fa.glo x).ok K && (match xs.mapM (m := Option) dvOf with
    | some vs => tupB K x vs
    | none => false)
  | _ => false
def propB (K : PySem.W.Frag) (x m : Str) : Bool := eqO (PySem.W.findIn K (.ref (ga K x)) m) (some (some (.ref (ma K (ga K x) m)))) && eqO (PySem.W.specialIn K (.ref (ma K (ga K x) m)) "__get__") (some (some (.builtin "property.__get__"))) && decide (PySem.W.takesIn K (.ref (ma K (ga K x) m)) = some true) && (match PySem.W.recIn K (ma K (ga K x) m) "property" with
  | some (.ref _ :: _) => true
  | _ => false)
def tks (p : PD) : List TK := [.non, .bl, .int, .str, .lst, .tup] ++ p.cn.map fun q => .own q.1
def tys (p : PD) : List Ty := [.int, .bool, .str, .tuple, .list] ++ p.cn.map fun q => .own q.1
def PD.inK (K : PySem.W.Frag) : Bool :=
  (p.cn.all fun q => (Fa.cls q.2).ok K && (Fa.glo q.2).ok K && eqO (PySem.W.findIn K (.ref (ga K q.2)) "__class__") (some (some (.builtin "object.__class__"))) && decide (PySem.W.mroIn K (ga K q.2) (.type "object") = some true)) &&
  eqO (PySem.W.specialIn K (.builtin "object.__class__") "__get__") (some (some (.builtin "getset_descriptor.__get__"))) && decide (PySem.W.takesIn K (.builtin "object.__class__") = some true) &&
  ((tks p).all fun t => (tys p).all fun ty => decide (PySem.W.kitOne K (tkV (p.ca K) t) (tyU (p.ca K) ty) = some (tkIs t ty))) &&
  (p.flds.all fun q => (Fa.noat (clsN p q.1) (p.nm q.2)).ok K) &&
  (p.mths.all fun q => (Fa.meth (clsN p q.1.1) (p.nm q.1.2)).ok K) &&
  (p.prps.all fun q => propB K (clsN p q.1.1) (p.nm q.1.2)) &&
  (p.lens.all fun q => (Fa.meth (clsN p q.1) "__len__").ok K) &&
  (p.eqs.all fun q => (Fa.meth (clsN p q.1) "__eq__").ok K) &&
  (p.inits.all fun q => (Fa.mkr (clsN p q.1)).ok K) &&
  (p.frs.all fun q => match q.2.at_ with | .glo x => (Fa.glo x).ok K | _ => true) &&
  (p.glos.all fun q => gloB K (p.nm q.1) q.2) &&
  (p.blts.all fun x => (Fa.free x).ok K)
def isTyp : Option Value → Bool
  | some (.type n) => decide (n = "type")
  | _ => false
def PD.exK (K : PySem.W.Frag) : Bool := p.xcn.all fun q => PySem.W.excIn K (ga K q.2) bmV "ValueError.__new__" && (Fa.glo q.2).ok K && PySem.W.keepIn K (.ref (ga K q.2)) && decide (PySem.W.subIn K (.ref (ga K q.2)) (.type "BaseException") = some true) && isTyp (PySem.W.typeIn K (.ref (ga K q.2))) && decide (PySem.W.exmOne K (.ref (ga K q.2)) (.ref (ga K q.2)) = some true)
def obsM (K : PySem.W.Frag) : AlD := (p.inK K && p.exK K && p.frs.all fun q => okM K (q.2.at_.adr K) q.2.d, p.frs.map fun q => fnWa K (q.2.at_.adr K))
def valM : AlD := (true, p.frs.map fun q => q.2.d.val)
/-! #### the tables -/
def tabK (K : PySem.W.Frag) : Bool := (p.lams.all fun f => match (p.fd K f).code with | .ref _ => true | _ => false) && decide ((p.tbs K).map (·.2)).Nodup
def cutK (K : PySem.W.Frag) : PySem.W.Frag := K.filter fun q => !((p.tbs K).any fun t => t.2 == q.1)
def tabE : Option Obj → Bool
  | some ⟨.none, none, .fields vs, sl⟩ => vs.isEmpty && sl.isEmpty
  | _ => false
def tabB (K : PySem.W.Frag) : Bool := tabK p (cutK p K) && (p.tbs (cutK p K)).all fun q => PySem.W.codeHdIn (cutK p K) q.1 q.2 && ((cutK p K).lookup q.2).isNone && tabE (K.lookup q.2)
def obsMT (K : PySem.W.Frag) : AlD := ((obsM p (cutK p K)).1 && tabB p K, (obsM p (cutK p K)).2)
theorem tabE_ok {o : Option Obj} (h : tabE o = true) : o = some { cls := .none, data := .fields #[] } := by
  unfold tabE at h
  split at h
  · rename_i vs sl
    rw [Bool.and_eq_true, Array.isEmpty_iff, Array.isEmpty_iff] at h
    rw [h.1, h.2]
  · cases h
theorem cut_lookup {K : PySem.W.Frag} {f : Addr → Bool} {a : Addr} {o : Obj} : List.lookup a (K.filter fun q => f q.1) = some o → K.lookup a = some o := by
  induction K with
  | nil => intro h; cases h
  | cons q K ih =>
    obtain ⟨b, u⟩ := q
    intro h
    rw [List.filter_cons] at h
    rw [List.lookup_cons]
    by_cases hf : f b = true
    · simp only [hf, if_true] at h
      rw [List.lookup_cons] at h
      split at h
      · exact h
      · exact ih h
    · simp only [hf, Bool.false_eq_true, if_false] at h
      by_cases e : (a == b) = true
      · exfalso
        have hab : a = b := eq_of_beq e
        subst hab
        have : ∀ L : PySem.W.Frag, List.lookup a (L.filter fun q => f q.1) = none := fun L => by
          induction L with
          | nil => rfl
          | cons q L ih2 =>
            obtain ⟨c, v⟩ := q
            rw [List.filter_cons]
            by_cases hc : f c = true
            · simp only [hc, if_true, List.lookup_cons]
              have : (a == c) = false := by
                rw [beq_eq_false_iff_ne]
                rintro rfl
                exact hf hc
              rw [this]
              exact ih2
            · simp only [hc, Bool.false_eq_true, if_false]
              exact ih2
        rw [this] at h
        cases h
      · have e' : (a == b) = false := by simpa using e
        rw [e']
        exact ih h
theorem cut_in {K : PySem.W.Frag} {h : Heap} (X : K.In h) : (cutK p K).In h := fun a o e => X a o (cut_lookup (f := fun a => !((p.tbs K).any fun t => t.2 == a)) e)
theorem obsT_of {K : PySem.W.Frag} (e : obsMT p K = valM p) : obsM p (cutK p K) = valM p ∧ tabB p K = true := by
  have e1 : ((obsM p (cutK p K)).1 && tabB p K) = true := congrArg (fun z : AlD => z.1) e
  have e2 : (obsMT p K).2 = (valM p).2 := by rw [e]
  rw [Bool.and_eq_true] at e1
  exact ⟨Prod.ext e1.1 e2, e1.2⟩
def obsMG (n : Nat) (g : Addr → Option Obj) : AlD := obsMT p (frG g (List.range n))
def hookM (n : Nat) : PySem.W.Hook where
  α := AlD
  obs := fun s => obsMG p n s.heap.get?
  val := fun _ => valM p
  says := fun _ h => ∃ K : PySem.W.Frag, K.In h ∧ obsMT p K = valM p
  of := fun _ _ e => ⟨_, frG_in, e⟩
  keeps := fun _ _ _ ⟨K, hK, c⟩ k => ⟨K, PySem.W.Frag.In.keeps hK k, c⟩
theorem obsMG_eq {n : Nat} {g : Addr → Option Obj} {s : Shared} (h : ∀ a, g a = s.heap.get? a) : obsMG p n g = (hookM p n).obs s := by
  have e : g = s.heap.get? := funext h
  rw [e] <;> rfl
end
end MC

set_option Elab.async false
set_option linter.all false
set_option maxRecDepth 100000
set_option maxHeartbeats 4000000
namespace MC
open PySem PySem.Spec PyProof.Rows L2 He
theorem lookup_mem {α β : Type} [BEq α] [LawfulBEq α] {k : α} {v : β} : ∀ {l : List (α × β)}, l.lookup k = some v → (k, v) ∈ l
  | [], h => by cases h
  | (a, b) :: l, h => by
    rw [List.lookup_cons] at h
    by_cases e : k == a
    · rw [e] at h
      cases h
      rw [eq_of_beq e]
      exact List.mem_cons_self ..
    · have e' : (k == a) = false := by simpa using e
      rw [e'] at h
      exact List.mem_cons_of_mem _ (lookup_mem h)
theorem PD.inj (p : PD) (h1 : p.nms.Nodup) (h2 : (p.nms.all fun x => decide (x.cps.size < 200)) = true) (i j : Nat) (e : p.nm i = p.nm j) : i = j := by
  have key : ∀ {k : Nat} {x : Str}, p.nms[k]? = some x → x.cps.size < 200 := fun {k x} q => by
    have := List.all_eq_true.mp h2 x (List.mem_of_getElem? q)
    simpa using this
  unfold PD.nm at e
  cases qi : p.nms[i]? with
  | some x =>
    cases qj : p.nms[j]? with
    | some y =>
      rw [qi, qj] at e
      simp only at e
      subst e
      obtain ⟨a1, a2⟩ := List.getElem?_eq_some_iff.mp qi
      obtain ⟨b1, b2⟩ := List.getElem?_eq_some_iff.mp qj
      exact (List.getElem_inj h1).mp (a2.trans b2.symm)
    | none =>
      rw [qi, qj] at e
      have := key qi
      simp only at e
      rw [e] at this
      simp at this
      omega
  | none =>
    cases qj : p.nms[j]? with
    | some y =>
      rw [qi, qj] at e
      have := key qj
      simp only at e
      rw [← e] at this
      simp at this
      omega
    | none =>
      rw [qi, qj] at e
      simp only [Str.mk.injEq] at e
      have := congrArg Array.size e
      simp at this
      omega
theorem bnd1 {x qual : Str} {a : Arg} {body : List Stmt} {scope : Scope} {kV doc pm : Value} {an : Option Addr} {cdv ct u : Value} : bindArgs (PySem.W.fnOf x qual ⟨[], [a], none, [], [], none, []⟩ body scope .none kV doc pm an cdv ct) ⟨[u], []⟩ = pure [(a.arg, u)] := by
  have hn : notAStandIn Value.none = pure () := rfl
  unfold bindArgs
  simp [PySem.W.fnOf, seqItems?, List.lookup, hn]
theorem bnd2 {x qual : Str} {a b : Arg} {body : List Stmt} {scope : Scope} {kV doc pm : Value} {an : Option Addr} {cdv ct u v : Value} (h : b.arg ≠ a.arg) : bindArgs (PySem.W.fnOf x qual ⟨[], [a, b], none, [], [], none, []⟩ body scope .none kV doc pm an cdv ct) ⟨[u, v], []⟩ = pure [(a.arg, u), (b.arg, v)] := by
  have hn : notAStandIn Value.none = pure () := rfl
  have h1 : (b.arg == a.arg) = false := beq_eq_false_iff_ne.mpr h
  unfold bindArgs
  simp [PySem.W.fnOf, seqItems?, List.lookup, hn, h1]
theorem bnd3 {x qual : Str} {a b c : Arg} {body : List Stmt} {scope : Scope} {kV doc pm : Value} {an : Option Addr} {cdv ct u v w : Value} (h1 : b.arg ≠ a.arg) (h2 : c.arg ≠ a.arg) (h3 : c.arg ≠ b.arg) : bindArgs (PySem.W.fnOf x qual ⟨[], [a, b, c], none, [], [], none, []⟩ body scope .none kV doc pm an cdv ct) ⟨[u, v, w], []⟩ = pure [(a.arg, u), (b.arg, v), (c.arg, w)] := by
  have hn : notAStandIn Value.none = pure () := rfl
  have g1 : (b.arg == a.arg) = false := beq_eq_false_iff_ne.mpr h1
  have g2 : (c.arg == a.arg) = false := beq_eq_false_iff_ne.mpr h2
  have g3 : (c.arg == b.arg) = false := beq_eq_false_iff_ne.mpr h3
  unfold bindArgs
  simp [PySem.W.fnOf, seqItems?, List.lookup, hn, g1, g2, g3]
theorem bnd4 {x qual : Str} {a b c d : Arg} {body : List Stmt} {scope : Scope} {kV doc pm : Value} {an : Option Addr} {cdv ct u v w z : Value} (h1 : b.arg ≠ a.arg) (h2 : c.arg ≠ a.arg) (h3 : c.arg ≠ b.arg) (h4 : d.arg ≠ a.arg) (h5 : d.arg ≠ b.arg) (h6 : d.arg ≠ c.arg) : bindArgs (PySem.W.fnOf x qual ⟨[], [a, b, c, d], none, [], [], none, []⟩ body scope .none kV doc pm an cdv ct) ⟨[u, v, w, z], []⟩ = pure [(a.arg, u), (b.arg, v), (c.arg, w), (d.arg, z)] := by
  have hn : notAStandIn Value.none = pure () := rfl
  have g1 : (b.arg == a.arg) = false := beq_eq_false_iff_ne.mpr h1
  have g2 : (c.arg == a.arg) = false := beq_eq_false_iff_ne.mpr h2
  have g3 : (c.arg == b.arg) = false := beq_eq_false_iff_ne.mpr h3
  have g4 : (d.arg == a.arg) = false := beq_eq_false_iff_ne.mpr h4
  have g5 : (d.arg == b.arg) = false := beq_eq_false_iff_ne.mpr h5
  have g6 : (d.arg == c.arg) = false := beq_eq_false_iff_ne.mpr h6
  unfold bindArgs
  simp [PySem.W.fnOf, seqItems?, List.lookup, hn, g1, g2, g3, g4, g5, g6]
theorem bnd5 {x qual : Str} {a b c d e : Arg} {body : List Stmt} {scope : Scope} {kV doc pm : Value} {an : Option Addr} {cdv ct u0 u1 u2 u3 u4 : Value} (h1 : b.arg ≠ a.arg) (h2 : c.arg ≠ a.arg) (h3 : c.arg ≠ b.arg) (h4 : d.arg ≠ a.arg) (h5 : d.arg ≠ b.arg) (h6 : d.arg ≠ c.arg) (h7 : e.arg ≠ a.arg) (h8 : e.arg ≠ b.arg) (h9 : e.arg ≠ c.arg) (h10 : e.arg ≠ d.arg) : bindArgs (PySem.W.fnOf x qual ⟨[], [a, b, c, d, e], none, [], [], none, []⟩ body scope .none kV doc pm an cdv ct) ⟨[u0, u1, u2, u3, u4], []⟩ = pure [(a.arg, u0), (b.arg, u1), (c.arg, u2), (d.arg, u3), (e.arg, u4)] := by
  have hn : notAStandIn Value.none = pure () := rfl
  have g1 : (b.arg == a.arg) = false := beq_eq_false_iff_ne.mpr h1
  have g2 : (c.arg == a.arg) = false := beq_eq_false_iff_ne.mpr h2
  have g3 : (c.arg == b.arg) = false := beq_eq_false_iff_ne.mpr h3
  have g4 : (d.arg == a.arg) = false := beq_eq_false_iff_ne.mpr h4
  have g5 : (d.arg == b.arg) = false := beq_eq_false_iff_ne.mpr h5
  have g6 : (d.arg == c.arg) = false := beq_eq_false_iff_ne.mpr h6
  have g7 : (e.arg == a.arg) = false := beq_eq_false_iff_ne.mpr h7
  have g8 : (e.arg == b.arg) = false := beq_eq_false_iff_ne.mpr h8
  have g9 : (e.arg == c.arg) = false := beq_eq_false_iff_ne.mpr h9
  have g10 : (e.arg == d.arg) = false := beq_eq_false_iff_ne.mpr h10
  unfold bindArgs
  simp [PySem.W.fnOf, seqItems?, List.lookup, hn, g1, g2, g3, g4, g5, g6, g7, g8, g9, g10]
theorem bnd6 {x qual : Str} {a b c d e f : Arg} {body : List Stmt} {scope : Scope} {kV doc pm : Value} {an : Option Addr} {cdv ct u0 u1 u2 u3 u4 u5 : Value} (h1 : b.arg ≠ a.arg) (h2 : c.arg ≠ a.arg) (h3 : c.arg ≠ b.arg) (h4 : d.arg ≠ a.arg) (h5 : d.arg ≠ b.arg) (h6 : d.arg ≠ c.arg) (h7 : e.arg ≠ a.arg) (h8 : e.arg ≠ b.arg) (h9 : e.arg ≠ c.arg) (h10 : e.arg ≠ d.arg) (h11 : f.arg ≠ a.arg) (h12 : f.arg ≠ b.arg) (h13 : f.arg ≠ c.arg) (h14 : f.arg ≠ d.arg) (h15 : f.arg ≠ e.arg) : bindArgs (PySem.W.fnOf x qual ⟨[], [a, b, c, d, e, f], none, [], [], none, []⟩ body scope .none kV doc pm an cdv ct) ⟨[u0, u1, u2, u3, u4, u5], []⟩ = pure [(a.arg, u0), (b.arg, u1), (c.arg, u2), (d.arg, u3), (e.arg, u4), (f.arg, u5)] := by
  have hn : notAStandIn Value.none = pure () := rfl
  have g1 : (b.arg == a.arg) = false := beq_eq_false_iff_ne.mpr h1
  have g2 : (c.arg == a.arg) = false := beq_eq_false_iff_ne.mpr h2
  have g3 : (c.arg == b.arg) = false := beq_eq_false_iff_ne.mpr h3
  have g4 : (d.arg == a.arg) = false := beq_eq_false_iff_ne.mpr h4
  have g5 : (d.arg == b.arg) = false := beq_eq_false_iff_ne.mpr h5
  have g6 : (d.arg == c.arg) = false := beq_eq_false_iff_ne.mpr h6
  have g7 : (e.arg == a.arg) = false := beq_eq_false_iff_ne.mpr h7
  have g8 : (e.arg == b.arg) = false := beq_eq_false_iff_ne.mpr h8
  have g9 : (e.arg == c.arg) = false := beq_eq_false_iff_ne.mpr h9
  have g10 : (e.arg == d.arg) = false := beq_eq_false_iff_ne.mpr h10
  have g11 : (f.arg == a.arg) = false := beq_eq_false_iff_ne.mpr h11
  have g12 : (f.arg == b.arg) = false := beq_eq_false_iff_ne.mpr h12
  have g13 : (f.arg == c.arg) = false := beq_eq_false_iff_ne.mpr h13
  have g14 : (f.arg == d.arg) = false := beq_eq_false_iff_ne.mpr h14
  have g15 : (f.arg == e.arg) = false := beq_eq_false_iff_ne.mpr h15
  unfold bindArgs
  simp [PySem.W.fnOf, seqItems?, List.lookup, hn, g1, g2, g3, g4, g5, g6, g7, g8, g9, g10, g11, g12, g13, g14, g15]
section
variable {K : PySem.W.Frag} {x qual : Str} {body : List Stmt} {scope : Scope} {kws : List (Str × V)} {f : Addr} {fd : FuncData} {ps : List Str}
/-- plain parameters are bound in order -/
theorem plain_binds {params : Arguments} (F : FunD K x qual params body scope [] kws f fd) (h : plainP params = true) (hp : params.args.map (·.arg) = ps) (hl : ps.length ≤ 6) (nd : ps.Nodup) : Binds K fd ps [] := by
  obtain ⟨po, ag, va, ko, kd, kw, df⟩ := params
  unfold plainP at h
  simp only [Bool.and_eq_true, List.isEmpty_iff, Option.isNone_iff_eq_none] at h
  obtain ⟨⟨⟨⟨⟨rfl, rfl⟩, rfl⟩, rfl⟩, rfl⟩, rfl⟩ := h
  simp only at hp
  subst hp
  refine F.bindsN fun kV doc pm an cdv ct us hu => ?_
  match ag, us, hu, hl, nd with
  | [], [], _, _, _ => rfl
  | [a], [_], _, _, _ => exact bnd1
  | [a, b], [_, _], _, _, nd =>
    simp only [List.map_cons, List.map_nil, List.nodup_cons, List.mem_cons, List.not_mem_nil, or_false, not_or] at nd
    exact bnd2 (Ne.symm nd.1)
  | [a, b, c], [_, _, _], _, _, nd =>
    simp only [List.map_cons, List.map_nil, List.nodup_cons, List.mem_cons, List.not_mem_nil, or_false, not_or] at nd
    exact bnd3 (Ne.symm nd.1.1) (Ne.symm nd.1.2) (Ne.symm nd.2.1)
  | [a, b, c, d], [_, _, _, _], _, _, nd =>
    simp only [List.map_cons, List.map_nil, List.nodup_cons, List.mem_cons, List.not_mem_nil, or_false, not_or] at nd
    exact bnd4 (Ne.symm nd.1.1) (Ne.symm nd.1.2.1) (Ne.symm nd.2.1.1) (Ne.symm nd.1.2.2) (Ne.symm nd.2.1.2) (Ne.symm nd.2.2.1)
  | [a, b, c, d, e], [_, _, _, _, _], _, _, nd =>
    simp only [List.map_cons, List.map_nil, List.nodup_cons, List.mem_cons, List.not_mem_nil, or_false, not_or] at nd
    exact bnd5 (Ne.symm nd.1.1) (Ne.symm nd.1.2.1) (Ne.symm nd.2.1.1) (Ne.symm nd.1.2.2.1) (Ne.symm nd.2.1.2.1) (Ne.symm nd.2.2.1.1) (Ne.symm nd.1.2.2.2) (Ne.symm nd.2.1.2.2) (Ne.symm nd.2.2.1.2) (Ne.symm nd.2.2.2.1)
  | [a, b, c, d, e, f], [_, _, _, _, _, _], _, _, nd =>
    simp only [List.map_cons, List.map_nil, List.nodup_cons, List.mem_cons, List.not_mem_nil, or_false, not_or] at nd
    exact bnd6 (Ne.symm nd.1.1) (Ne.symm nd.1.2.1) (Ne.symm nd.2.1.1) (Ne.symm nd.1.2.2.1) (Ne.symm nd.2.1.2.1) (Ne.symm nd.2.2.1.1) (Ne.symm nd.1.2.2.2.1) (Ne.symm nd.2.1.2.2.1) (Ne.symm nd.2.2.1.2.1) (Ne.symm nd.2.2.2.1.1) (Ne.symm nd.1.2.2.2.2) (Ne.symm nd.2.1.2.2.2) (Ne.symm nd.2.2.1.2.2) (Ne.symm nd.2.2.2.1.2) (Ne.symm nd.2.2.2.2.1)
  | _ :: _ :: _ :: _ :: _ :: _ :: _ :: _, _, _, hl, _ => exact absurd hl (by simp)
end
theorem map_fst_mem {α β : Type} {l : List (α × β)} {i : Nat} {q : α × β} (h : l[i]? = some q) : q ∈ l := List.mem_of_getElem? h
section
variable {p : PD} {K : PySem.W.Frag} {h : Heap} {mg : Str → Option Value}
theorem obs_in (c : obsM p K = valM p) : p.inK K = true ∧ (p.frs.all fun q => okM K (q.2.at_.adr K) q.2.d) = true ∧ (p.frs.map fun q => fnWa K (q.2.at_.adr K)) = p.frs.map fun q => q.2.d.val := by
  have c1 : (p.inK K && p.exK K && p.frs.all fun q => okM K (q.2.at_.adr K) q.2.d) = true := congrArg (fun z : AlD => z.1) c
  rw [Bool.and_eq_true, Bool.and_eq_true] at c1
  exact ⟨c1.1.1, c1.2, congrArg (fun z : AlD => z.2) c⟩
theorem obs_ex (c : obsM p K = valM p) : p.exK K = true := by
  have c1 : (p.inK K && p.exK K && p.frs.all fun q => okM K (q.2.at_.adr K) q.2.d) = true := congrArg (fun z : AlD => z.1) c
  rw [Bool.and_eq_true, Bool.and_eq_true] at c1
  exact c1.1.2
theorem fr_fun (c : obsM p K = valM p) {f : Nat} {r : FR} (e : p.frs.lookup f = some r) : FunD K r.d.name r.d.qual r.d.params r.d.body r.d.scope (r.d.dvs K) (r.d.kws K) (p.fa K f) (p.fd K f) := by
  obtain ⟨_, c2, c3⟩ := obs_in c
  have m := lookup_mem e
  have a : p.fa K f = r.at_.adr K := by unfold PD.fa; rw [e]
  unfold PD.fd
  rw [a]
  refine funM ?_ (List.all_eq_true.mp c2 _ m)
  obtain ⟨i, hi⟩ := List.getElem?_of_mem m
  have := congrArg (fun l => l[i]?) c3
  simp only [List.getElem?_map, hi, Option.map_some] at this
  exact Option.some.inj this
theorem nodup_take {l : List Str} (h : l.Nodup) (n : Nat) : (l.take n).Nodup := h.sublist (List.take_sublist n l)
theorem nodup_inj {α β : Type} {f : α → β} : ∀ {l : List α}, (l.map f).Nodup → ∀ {a b : α}, a ∈ l → b ∈ l → f a = f b → a = b
  | [], _, _, _, h, _, _ => by cases h
  | x :: l, nd, a, b, ha, hb, e => by
    rw [List.map_cons, List.nodup_cons] at nd
    rcases List.mem_cons.mp ha with h1 | h1
    · rcases List.mem_cons.mp hb with h2 | h2
      · rw [h1, h2]
      · exact absurd (List.mem_map.mpr ⟨b, h2, by rw [← e, h1]⟩) nd.1
    · rcases List.mem_cons.mp hb with h2 | h2
      · exact absurd (List.mem_map.mpr ⟨a, h1, by rw [e, h2]⟩) nd.1
      · exact nodup_inj nd.2 h1 h2 e
theorem PD.toStat (p : PD) {P : Program} {w : World} {base : Heap} (hs : p.stat = true) (ha : p.askS = true) (X : K.In h) (G : h.Ns mainGlobals mg) (c : obsM p K = valM p) (hK : tabK p K = true) (hTB : ∀ q ∈ p.tbs K, LamX.TabB base mg q.1 q.2)
    (hmk : ∀ c sh np ks x, p.mkk c sh = some (np, ks) → p.cn.lookup c = some x → ∃ f fz r, p.inits.lookup c = some (f, fz) ∧ p.frs.lookup f = some r ∧ r.at_ = .mth x "__init__" ∧ ∃ g gV, KBn K (p.fd K f) (p.ps f) (np + 1) ks g gV ∧
      ∀ (β : List Addr) (H : Hp) (d : D) (v : V) (xs ys ws : List D) (vs zs : List V), RelD K p.nm (p.cb K P w) β H d v → RelL K p.nm (p.cb K P w) β H xs vs → RelL K p.nm (p.cb K P w) β H ys zs → p.shape sh xs ys = some ws → xs.length = np ∧ ys.length = ks.length ∧ RelL K p.nm (p.cb K P w) β H (d :: ws) (gV (v :: vs) zs)) :
    Stat P w K mg base p.cs p.tab p.F (p.cb K P w) (p.fa K) (p.fd K) p.ps := by
  obtain ⟨ci, _, _⟩ := obs_in c
  unfold PD.stat at hs
  simp only [Bool.and_eq_true, decide_eq_true_eq] at hs
  obtain ⟨⟨⟨⟨⟨⟨⟨⟨⟨⟨s1, s2⟩, s3⟩, s4⟩, s5⟩, s6⟩, s7⟩, s8⟩, s9⟩, s10⟩, s11⟩ := hs
  unfold PD.inK at ci
  simp only [Bool.and_eq_true, decide_eq_true_eq] at ci
  obtain ⟨⟨⟨⟨⟨⟨⟨⟨⟨⟨⟨⟨k1, k2⟩, k3⟩, k4⟩, k5⟩, k6⟩, k7⟩, k8⟩, k9⟩, k10⟩, k11⟩, k12⟩, k13⟩ := ci
  have hfr : ∀ {f : Nat} {r : FR}, p.frs.lookup f = some r → scopeB r.N r.ps r.d.scope = true ∧ chkB p.cs r.N r.d.scope r.fn.body r.d.body = true ∧ r.fn.ar = r.ps.length ∧ r.fn.ns = r.N.length ∧ r.d.dfl = [] ∧ r.ps.length ≤ 6 := fun {f r} e => by
    have := List.all_eq_true.mp s3 _ (lookup_mem e)
    unfold frB at this
    simp only [Bool.and_eq_true, decide_eq_true_eq, List.isEmpty_iff] at this
    obtain ⟨⟨⟨⟨⟨a1, a2⟩, a3⟩, a4⟩, a5⟩, a6⟩ := this
    exact ⟨a1, a2, a3, a4, a5, a6⟩
  have hF : ∀ {f : Nat} {r : FR}, p.frs.lookup f = some r → ∃ fn, p.F f = some fn := fun {f r} e => ⟨r.fn, by unfold PD.F; rw [e]; rfl⟩
  have hbind : ∀ {f : Nat}, posB p f = true → ∃ r, p.frs.lookup f = some r ∧ Binds K (p.fd K f) (p.ps f) [] := fun {f} hp => by
    unfold posB at hp
    cases e : p.frs.lookup f with
    | none => rw [e] at hp; cases hp
    | some r =>
      rw [e] at hp
      simp only [Bool.and_eq_true, decide_eq_true_eq] at hp
      obtain ⟨a1, a2, a3, a4, a5, a6⟩ := hfr e
      have S := scopeB_ok a1
      have F := fr_fun c e
      have d0 : r.d.dvs K = [] := by unfold DefD.dvs; rw [a5]; rfl
      rw [d0] at F
      have hps : p.ps f = r.ps := by unfold PD.ps; rw [e]
      rw [hps]
      exact ⟨r, rfl, plain_binds F hp.1 hp.2 a6 (by rw [← S.pre]; exact nodup_take S.nd _)⟩
  have hat : ∀ {f : Nat} {a : At}, atB p f a = true → p.fa K f = a.adr K := fun {f a} ha => by
    unfold atB at ha
    unfold PD.fa
    cases e : p.frs.lookup f with
    | none => rw [e] at ha; cases ha
    | some r => rw [e] at ha; simp only [decide_eq_true_eq] at ha; simp only [ha]
  have hcl : ∀ {c : Nat} {x : Str}, p.cn.lookup c = some x → Cls K ((p.cb K P w).f c) ∧ mg x = some (.ref ((p.cb K P w).f c)) ∧ (p.cb K P w).f c = ga K x := fun {c x} e => by
    have := List.all_eq_true.mp k1 _ (lookup_mem e)
    simp only [Bool.and_eq_true, decide_eq_true_eq] at this
    have ec : (p.cb K P w).f c = ga K x := by show p.ca K c = ga K x; unfold PD.ca; rw [e]; rfl
    rw [ec]
    exact ⟨cls_ok this.1.1.1, glo_ok X G this.1.1.2, rfl⟩
  have hcc : ∀ {c : Nat}, (p.cn.lookup c).isSome = true → Cls K ((p.cb K P w).f c) ∧ (p.cb K P w).f c = ga K (clsN p c) := fun {c} e => by
    cases q : p.cn.lookup c with
    | none => rw [q] at e; cases e
    | some x => exact ⟨(hcl q).1, by rw [(hcl q).2.2]; unfold clsN; rw [q]; rfl⟩
  refine ⟨p.inj s1 s2, fun f fn e => ?_, fun c f e => ?_, fun m c f hm e => ?_, fun m c f hm e => ?_, fun c f e => ?_, fun c f e => ?_, fun Y hY => ?_, fun f x e => ?_, fun c sh np ks x e1 e2 => ?_, fun c x e => (hcl e).2.1, fun g d e => ?_, fun x e => ?_, ⟨rfl, rfl⟩, fun c x e => ?_, fun g x e hq => ?_⟩
  · unfold PD.F at e
    cases q : p.frs.lookup f with
    | none => rw [q] at e; cases e
    | some r =>
      rw [q] at e
      cases e
      obtain ⟨a1, a2, a3, a4, a5, a6⟩ := hfr q
      have hps : p.ps f = r.ps := by unfold PD.ps; rw [q]
      rw [hps]
      refine ⟨_, _, _, _, _, _, _, r.N, fr_fun c q, scopeB_ok a1, a2, a3, a4, fun hl => ?_⟩
      have hf : p.lams.contains f = true := by
        have := List.all_eq_true.mp s11 _ (lookup_mem q)
        simp only [hl, Bool.not_true, Bool.false_or] at this
        exact this
      have hm : f ∈ p.lams := by simpa using hf
      unfold tabK at hK
      rw [Bool.and_eq_true, decide_eq_true_eq, List.all_eq_true] at hK
      have hq : p.lq f = r.d.qual ++ ".<locals>." ++ "<lambda>" := by unfold PD.lq; rw [q]
      have hcd := hK.1 f hm
      refine ⟨codeAt K (p.fa K f), tabAt K (codeAt K (p.fa K f)), ?_, hTB _ (List.mem_map.mpr ⟨f, hm, rfl⟩), ?_, fun z hz e => ?_⟩
      · unfold codeAt
        unfold PD.fd at hcd ⊢
        split at hcd
        · rename_i c0 hc0; rw [hc0]
        · cases hcd
      · rw [← hq]
        exact List.mem_map.mpr ⟨f, hm, rfl⟩
      · obtain ⟨g, hg, rfl⟩ := List.mem_map.mp hz
        have : g = f := by
          have nd := hK.2
          unfold PD.tbs at nd
          rw [List.map_map] at nd
          exact nodup_inj nd hg hm e
        subst this
        exact hq
  · have m : (c, f) ∈ p.flds := by simpa [PD.tab] using e
    have a := hcc (List.all_eq_true.mp s9 _ m)
    refine ⟨a.1, ?_⟩
    rw [a.2]
    exact noat_ok (List.all_eq_true.mp k5 _ m)
  · have e0 : p.meth c m = some f := e
    unfold PD.meth at e0
    have hm' : (p.mths.any fun q => q.1.2 == m) = true := hm
    obtain ⟨q, hq, hqm⟩ := List.any_eq_true.mp hm'
    have hqm : q.1.2 = m := eq_of_beq hqm
    have sq := List.all_eq_true.mp s4 q hq
    simp only [Bool.and_eq_true, Bool.not_eq_true', beq_eq_false_iff_ne] at sq
    obtain ⟨⟨⟨⟨⟨_, _⟩, _⟩, n1⟩, n2⟩, n3⟩ := sq
    rw [hqm] at n1 n2 n3
    rw [if_neg n1, if_neg n2] at e0
    cases q2 : p.mths.lookup (c, m) with
    | none =>
      rw [q2] at e0
      have := List.any_eq_false.mp n3 _ (lookup_mem e0)
      simp at this
    | some f' =>
      rw [q2] at e0
      cases e0
      have mm := lookup_mem q2
      have sm := List.all_eq_true.mp s4 _ mm
      simp only [Bool.and_eq_true] at sm
      obtain ⟨r, e3, b⟩ := hbind sm.1.1.1.1.1
      have a := hcc sm.1.1.1.2
      have ad := hat sm.1.1.1.1.2
      refine ⟨hF e3, a.1, ?_, b⟩
      rw [a.2, ad]
      exact meth_ok (List.all_eq_true.mp k6 _ mm)
  · have e0 : p.meth c m = some f := e
    unfold PD.meth at e0
    have hm' : (p.prps.any fun q => q.1.2 == m) = true := hm
    obtain ⟨q, hq, hqm⟩ := List.any_eq_true.mp hm'
    have hqm : q.1.2 = m := eq_of_beq hqm
    have sq := List.all_eq_true.mp s5 q hq
    simp only [Bool.and_eq_true, Bool.not_eq_true', beq_eq_false_iff_ne] at sq
    obtain ⟨⟨⟨⟨⟨_, _⟩, _⟩, n1⟩, n2⟩, n3⟩ := sq
    rw [hqm] at n1 n2 n3
    rw [if_neg n1, if_neg n2] at e0
    cases q2 : p.mths.lookup (c, m) with
    | some f' =>
      have := List.any_eq_false.mp n3 _ (lookup_mem q2)
      simp at this
    | none =>
      rw [q2] at e0
      have mm := lookup_mem e0
      have sm := List.all_eq_true.mp s5 _ mm
      simp only [Bool.and_eq_true] at sm
      obtain ⟨r, e3, b⟩ := hbind sm.1.1.1.1.1
      have a := hcc sm.1.1.1.2
      have ad := hat sm.1.1.1.1.2
      refine ⟨hF e3, a.1, ⟨ma K (ga K (clsN p c)) (p.nm m), ?_⟩, b⟩
      rw [a.2, ad]
      have pb := List.all_eq_true.mp k7 _ mm
      unfold propB at pb
      simp only [Bool.and_eq_true, decide_eq_true_eq] at pb
      obtain ⟨⟨⟨p1, p2⟩, p3⟩, p4⟩ := pb
      refine ⟨eqO_ok p1, eqO_ok p2, p3, ?_⟩
      show ∃ rest, PySem.W.recIn K _ "property" = some (.ref (prA K _) :: rest)
      unfold prA
      split at p4
      · rename_i g rest hg
        rw [hg]
        exact ⟨rest, rfl⟩
      · cases p4
  · have e0 : p.meth c p.llen = some f := e
    unfold PD.meth at e0
    rw [if_pos rfl] at e0
    have mm := lookup_mem e0
    have sm := List.all_eq_true.mp s6 _ mm
    simp only [Bool.and_eq_true] at sm
    obtain ⟨r, e3, b⟩ := hbind sm.1.1
    have a := hcc sm.2
    have ad := hat sm.1.2
    have M := meth_ok (List.all_eq_true.mp k8 _ mm)
    refine ⟨hF e3, ?_, ?_, b⟩
    · rw [a.2, ad]; exact M.at_
    · rw [ad]; exact M.fn
  · have e0 : p.meth c p.leq = some f := e
    unfold PD.meth at e0
    rw [Bool.not_eq_true', beq_eq_false_iff_ne] at s10
    rw [if_neg s10, if_pos rfl] at e0
    have mm := lookup_mem e0
    have sm := List.all_eq_true.mp s7 _ mm
    simp only [Bool.and_eq_true] at sm
    obtain ⟨r, e3, b⟩ := hbind sm.1.1
    have a := hcc sm.2
    have ad := hat sm.1.2
    have M := meth_ok (List.all_eq_true.mp k9 _ mm)
    refine ⟨hF e3, ?_, ?_, ?_, b⟩
    · unfold PySem.W.notFirst; simp
    · rw [a.2, ad]; exact M.at_
    · rw [ad]; exact M.fn
  · subst hY
    have hown : ∀ {c : Nat}, (p.cn.lookup c).isSome = true → ∃ x, (c, x) ∈ p.cn := fun {c} q => by
      obtain ⟨x, hx⟩ := Option.isSome_iff_exists.mp q
      exact ⟨x, lookup_mem hx⟩
    refine ⟨fun t ty ht hty => ?_, fun c hc => ?_⟩
    · have mt : t ∈ tks p := by
        unfold tks
        cases t with
        | own c =>
          obtain ⟨x, hx⟩ := hown (show (p.cn.lookup c).isSome = true from ht)
          exact List.mem_append_right _ (List.mem_map.mpr ⟨_, hx, rfl⟩)
        | _ => simp
      have my : ty ∈ tys p := by
        unfold tys
        cases ty with
        | own c =>
          obtain ⟨x, hx⟩ := hown (show (p.cn.lookup c).isSome = true from hty)
          exact List.mem_append_right _ (List.mem_map.mpr ⟨_, hx, rfl⟩)
        | _ => simp
      have := List.all_eq_true.mp (List.all_eq_true.mp k4 t mt) ty my
      have this' := this; simp at this'; exact this'
    · obtain ⟨x, hx⟩ := Option.isSome_iff_exists.mp (show (p.cn.lookup c).isSome = true from hc)
      have a := hcl hx
      have q := List.all_eq_true.mp k1 _ (lookup_mem hx)
      simp only [Bool.and_eq_true, decide_eq_true_eq] at q
      refine ⟨a.1, ?_, eqO_ok k2, k3, ?_⟩
      · rw [a.2.2]; exact eqO_ok q.1.2
      · rw [a.2.2]; exact q.2
  · have e0 : (p.frs.lookup f).bind fnNm = some x := e
    cases q : p.frs.lookup f with
    | none => rw [q] at e0; cases e0
    | some r =>
      rw [q] at e0
      simp only [Option.bind_some] at e0
      unfold fnNm at e0
      have mm := lookup_mem q
      have sm := List.all_eq_true.mp s8 _ mm
      have km := List.all_eq_true.mp k11 _ mm
      split at e0
      · rename_i y hy
        cases e0
        simp only [hy] at sm km
        obtain ⟨r', e3, b⟩ := hbind sm
        have ad : p.fa K f = ga K x := by unfold PD.fa; rw [q]; simp only [hy]; rfl
        refine ⟨hF q, ?_, (fr_fun c q).kp, b⟩
        rw [ad]
        exact glo_ok X G km
      · cases e0
  · obtain ⟨f, fz, r, i1, i2, i3, g, gV, i4, i5⟩ := hmk c sh np ks x e1 e2
    refine ⟨f, fz, i1, hF i2, ?_, g, gV, i4, i5⟩
    have M := mkr_ok (List.all_eq_true.mp k10 _ (lookup_mem i1))
    have ec : clsN p c = x := by
      unfold clsN
      have e2' : p.cn.lookup c = some x := e2
      rw [e2']; rfl
    have ad : p.fa K f = ma K (ga K x) "__init__" := by unfold PD.fa; rw [i2]; simp only [i3]; rfl
    rw [(hcl e2).2.2, ad]
    simp only at M
    rw [ec] at M
    exact M
  · have e0 : (match p.glos.lookup g with
      | some e => D.eqb e d
      | none => false) = true := e
    cases q : p.glos.lookup g with
    | none => rw [q] at e0; cases e0
    | some d' =>
      rw [q] at e0
      have := D.eqb_eq e0
      subst this
      have b := List.all_eq_true.mp k12 _ (lookup_mem q)
      simp only at b
      cases d' with
      | int i =>
        obtain ⟨t, ht⟩ := He.int_ok X G (show (Fa.int (p.nm g) i).ok K = true from b)
        exact ⟨_, .int i, ht, ⟨t, rfl⟩, fun β H => .int i⟩
      | str z =>
        obtain ⟨t, ht⟩ := He.str_ok X G (show (Fa.str (p.nm g) z).ok K = true from b)
        exact ⟨_, .str z, ht, ⟨t, rfl⟩, fun β H => .str z⟩
      | tup xs =>
        unfold gloB at b
        rw [Bool.and_eq_true] at b
        obtain ⟨b1, b2⟩ := b
        split at b2
        · rename_i vs hvs
          refine ⟨_, .ref (ga K (p.nm g)), glo_ok X G b1, rfl, fun β H => .tup (tupB_ok b2 H) ?_⟩
          clear b2 q e e0
          induction xs generalizing vs with
          | nil => cases hvs; exact .nil
          | cons a as ih =>
            rw [List.mapM_cons] at hvs
            cases qa : dvOf a with
            | none => rw [qa] at hvs; cases hvs
            | some v =>
              cases qs : as.mapM (m := Option) dvOf with
              | none => rw [qa, qs] at hvs; cases hvs
              | some us =>
                rw [qa, qs] at hvs
                cases hvs
                refine .cons ?_ (ih us qs)
                cases a <;> first | (cases qa; constructor) | cases qa
        · cases b2
      | _ => cases b
  · have m : x ∈ p.blts := by simpa [PD.cs] using e
    exact free_ok X G (List.all_eq_true.mp k13 _ m)
  · have e0 : (if (p.cn.lookup c).isNone then p.xcn.lookup c else none) = some x := e
    split at e0
    · rename_i hn
      rw [Option.isNone_iff_eq_none] at hn
      have b := List.all_eq_true.mp (obs_ex ‹obsM p K = valM p›) _ (lookup_mem e0)
      simp only [Bool.and_eq_true, decide_eq_true_eq] at b
      obtain ⟨⟨⟨⟨⟨b1, b2⟩, b3⟩, b4⟩, b5⟩, b6⟩ := b
      have ec : (p.cb K P w).f c = ga K x := by show p.ca K c = ga K x; unfold PD.ca; rw [hn, e0]; rfl
      refine ⟨by rw [ec]; exact b1, by rw [ec]; exact glo_ok X G b2, by rw [ec]; exact b3, by rw [ec]; exact b4, ?_, by rw [ec]; exact b6⟩
      rw [ec]
      unfold isTyp at b5
      split at b5
      · rename_i n hn2
        rw [decide_eq_true_eq] at b5
        rw [hn2, b5]
      · cases b5
    · cases e0
  · have e0 : (match p.asks.lookup g, p.frs.lookup g with
      | some (_, e), some r => (fnNm r).map fun x => (x, e)
      | _, _ => none) = some (x, e) := hq
    split at e0
    · rename_i a e' r q1 q2
      rw [Option.map_eq_some_iff] at e0
      obtain ⟨y, z1, z2⟩ := e0
      cases z2
      have b := List.all_eq_true.mp ha _ (lookup_mem q1)
      simp only [q2, Bool.and_eq_true, decide_eq_true_eq] at b
      obtain ⟨⟨⟨⟨⟨⟨b1, b2⟩, b3⟩, b4⟩, b5⟩, b6⟩, b7⟩ := b
      unfold fnNm at z1
      cases hy : r.at_ with
      | mth _ _ => rw [hy] at z1; cases z1
      | prp _ _ => rw [hy] at z1; cases z1
      | glo y =>
        rw [hy] at z1 b1
        cases z1
        simp only [Bool.and_eq_true, decide_eq_true_eq] at b1
        obtain ⟨_, _, bd⟩ := hbind b2
        have F := fr_fun ‹obsM p K = valM p› q2
        have kp := F.kp
        obtain ⟨oc, od, n8, n9, n10, n11, n12, n13, n14, osl, ef, q, k1, _, _⟩ := F.ex
        have ad : p.fa K g = ga K x := by unfold PD.fa; rw [q2]; simp only [hy]; rfl
        have km := List.all_eq_true.mp k11 _ (lookup_mem q2)
        simp only [hy] at km
        have hps : p.ps g = [a] := by unfold PD.ps; rw [q2]; exact b3
        rw [ef, hps, b1.1, b1.2] at bd
        rw [ef, b1.1, b1.2] at q
        rw [b1.2] at k1
        unfold visB at b5
        simp only [Bool.and_eq_true, Bool.not_eq_true'] at b5
        unfold isG at b7
        simp only [Bool.and_eq_true, decide_eq_true_eq, Bool.not_eq_true'] at b7
        have S := scopeB_ok (hfr q2).1
        rw [b3] at S
        refine ⟨a, p.fa K g, by rw [ad]; exact glo_ok X G km, kp, ⟨_, _, _, _, _, _, _, _, _, _, _, _, _, _, q, k1, bd, S, b4, ?_, b6, b7.1, b7.2, b5.1.2, b5.2⟩⟩
        have := b5.1.1
        unfold Vis
        split at this <;> simp_all
    · cases e0
end
end MC

set_option Elab.async false
set_option linter.all false
set_option maxRecDepth 100000
set_option maxHeartbeats 4000000
namespace MC
open PySem PySem.Spec PyProof.Rows L2
/-- the end of a law's row, tables of code objects among what stands behind the top -/
theorem walk_tab {l : PySem.W.OpenLaw} {n k : Nat} {q : Program} {loose : List Str} {XP : (Str → Option Value) → Heap → Prop} {YP : World → Heap → Prop} {d : DefRec} {CX : CXT} {x : Str}
    (hn : l.most = some n) (hn2 : n ≤ sizeLine) (hdf : d.params.defaults = []) (hr : Room k callerA)
    (F : ∀ (w : World) (mg : Str → Option Value) (fa : Addr) (h : Heap), YP w h → h.Ns mainGlobals mg → mg d.name = some (.ref fa) → ∃ K : PySem.W.Frag, K.In h ∧ LamX.LawAtS l w K CX k n x mg fa h)
    (hCX : ∀ (H : Hp) (s : Shared) (e : Value) (s' : Shared), CX [] H s (fun _ _ _ => False) e s' → False) :
    PySem.W.WalkO q loose XP YP l.row.toRowW d [] (fun f vs => PySem.call f vs) := by
  refine Att.attach_callB hn hdf ?_
  intro w s0 s1 mg mb fa o pm cd doc a vs ns G Y _ _ _ hmg hobj hints hlen hbits hg
  obtain ⟨K, KX, fd, cs, sp, t1, t2, t3, hb, hsp, hF⟩ := F w mg fa _ Y G.T.g hmg
  exact LamX.law_callTs KX G.T.g G.T.b G.T.builtins G.T.nolimit hg t1 t2 t3 G.T.bmain hobj hints (Nat.le_trans hlen hn2) hr hF hb (fun H hH hS => hsp H a ns hlen hbits hH hS) (fun H e s' => hCX H s1 e s')
/-- a def that raises nothing, for who asks no more -/
theorem fn_cx0 {P : Program} {w : World} {K : PySem.W.Frag} {mg : Str → Option Value} {base : Heap} {k : Nat} {f : Addr} {fd : FuncData} {ps : List Str} {sp : Sp} (F : FnOk P w K mg base (CXm P w) k f fd ps sp) : FnOk P w K mg base CX0 k f fd ps (fun vs H Q _ => sp vs H Q E0) :=
  ⟨fun vs H Q E h => F.len vs H Q E0 h, fun A outer s H args us vs Q E hr e0 hb r h => codeAny_mono (F.run A outer s H args us vs Q E0 hr e0 hb r h) fun r s' hq => by
    cases r with
    | ok fl => cases fl <;> exact hq
    | error e =>
      obtain ⟨_, _, _, _, _, _, _, _, _, _, _, _, z⟩ := (show CXm P w outer H s E0 e s' from hq)
      exact z.elim⟩
theorem tab_facts {p : PD} {K : PySem.W.Frag} {h : Heap} (X : K.In h) (tb : tabB p K = true) : tabK p (cutK p K) = true ∧ (∀ q ∈ p.tbs (cutK p K), h.get? q.2 = some { cls := .none, data := .fields #[] }) ∧ (∀ q ∈ p.tbs (cutK p K), (cutK p K).lookup q.2 = none) ∧ ∀ q ∈ p.tbs (cutK p K), PySem.W.CodeHd h q.1 q.2 := by
  unfold tabB at tb
  rw [Bool.and_eq_true, List.all_eq_true] at tb
  have k : ∀ q ∈ p.tbs (cutK p K), PySem.W.codeHdIn (cutK p K) q.1 q.2 = true ∧ (cutK p K).lookup q.2 = none ∧ K.lookup q.2 = some { cls := .none, data := .fields #[] } := fun q hq => by
    have z := tb.2 q hq
    rw [Bool.and_eq_true, Bool.and_eq_true, Option.isNone_iff_eq_none] at z
    exact ⟨z.1.1, z.1.2, tabE_ok z.2⟩
  exact ⟨tb.1, fun q hq => X _ _ (k q hq).2.2, fun q hq => (k q hq).2.1, fun q hq => PySem.W.codeHd_of_K (cut_in p X) (k q hq).1⟩
theorem tab_start {p : PD} {K : PySem.W.Frag} {H : Hp} {P : Program} {w : World} (hH : ∀ q ∈ p.tbs K, H q.2 = some (.tbl #[])) : TabM (p.cb K P w) [] H := fun q hq => by
  obtain ⟨f, hf, rfl⟩ := List.mem_map.mp (show q ∈ p.lams.map _ from hq)
  refine ⟨#[], hH _ (List.mem_map.mpr ⟨f, hf, rfl⟩), True.intro, fun pos cv e => ?_⟩
  have z : codeAmong pos [] = some cv := e
  simp [codeAmong] at z
theorem glo_adr {p : PD} {K : PySem.W.Frag} {h : Heap} {mg : Str → Option Value} (X : K.In h) (G : h.Ns mainGlobals mg) (c : obsM p K = valM p) {f : Nat} {r : FR} {x : Str} (e : p.frs.lookup f = some r) (ea : r.at_ = .glo x) : mg x = some (.ref (p.fa K f)) := by
  obtain ⟨ci, _, _⟩ := obs_in c
  unfold PD.inK at ci
  simp only [Bool.and_eq_true, decide_eq_true_eq] at ci
  have km := List.all_eq_true.mp ci.1.1.2 _ (lookup_mem e)
  simp only [ea] at km
  have ad : p.fa K f = He.ga K x := by unfold PD.fa; rw [e]; simp only [ea]; rfl
  rw [ad]
  exact He.glo_ok X G km
end MC

set_option Elab.async false
set_option linter.all false
set_option maxRecDepth 100000
set_option maxHeartbeats 0
namespace K06
open PySem PySem.Spec PyProof.Rows L2 He MC
/-! ### the program, in the core -/
def f_wall : Fn := ⟨1, 1, (.cons (.whl (.cst (.bl true)) (.cons .pass .nil)) .nil), true⟩
def f_is_integer : Fn := ⟨3, 3, (.cons (.ret (.and (.isi (.var 0) [.int]) (.and (.not (.isi (.var 0) [.bool])) (.chn .LtE .LtE (.var 1) (.var 0) (.var 2))))) .nil), true⟩
def f_is_word : Fn := ⟨2, 2, (.cons (.ret (.and (.isi (.var 0) [.str]) (.cmp .In (.var 0) (.var 1)))) .nil), true⟩
def f_is_part : Fn := ⟨1, 1, (.cons (.ifs (.or (.not (.isi (.var 0) [.tuple])) (.cmp .NotIn (.bi .len (.cons (.var 0) .nil)) (.tup (.cons (.cst (.int 2)) (.cons (.cst (.int 3)) .nil))))) (.cons (.ret (.cst (.bl false))) .nil) .nil) (.cons (.ifs (.cmp .Eq (.bi .len (.cons (.var 0) .nil)) (.cst (.int 2))) (.cons (.ret (.and (.fn 4 (.cons (.idx (.var 0) (.cst (.int 0))) (.cons (.tup (.cons (.cst (.str (Str.ofString "gap"))) .nil)) .nil))) (.fn 3 (.cons (.idx (.var 0) (.cst (.int 1))) (.cons (.cst (.int 1)) (.cons (.glo 4 (.int 6)) .nil)))))) .nil) .nil) (.cons (.ifs (.not (.fn 4 (.cons (.idx (.var 0) (.cst (.int 0))) (.cons (.tup (.cons (.cst (.str (Str.ofString "bucket"))) (.cons (.cst (.str (Str.ofString "window"))) (.cons (.cst (.str (Str.ofString "slide"))) .nil)))) .nil)))) (.cons (.ret (.cst (.bl false))) .nil) .nil) (.cons (.ret (.and (.fn 3 (.cons (.idx (.var 0) (.cst (.int 1))) (.cons (.cst (.int 1)) (.cons (.glo 1 (.int 4)) .nil)))) (.fn 3 (.cons (.idx (.var 0) (.cst (.int 2))) (.cons (.cst (.int 1)) (.cons (.glo 4 (.int 6)) .nil)))))) .nil)))), true⟩
def f_is_link : Fn := ⟨1, 1, (.cons (.ret (.and (.isi (.var 0) [.tuple]) (.and (.cmp .Eq (.bi .len (.cons (.var 0) .nil)) (.cst (.int 2))) (.and (.fn 4 (.cons (.idx (.var 0) (.cst (.int 0))) (.cons (.glo 6 (.tup [(.str (Str.ofString "all")), (.str (Str.ofString "each"))])) .nil))) (.fn 5 (.cons (.idx (.var 0) (.cst (.int 1))) .nil)))))) .nil), true⟩
def c_Chain_init_1 : E := (.lc true [4] (.fn 6 (.cons (.var 4) .nil)) (.nm 4) (.val (.var 1)) .none)
def f_Chain_init : Fn := ⟨4, 5, (.cons (.ifs (.or (.not (.isi (.var 1) [.tuple])) (.or (.not (.chn .LtE .LtE (.cst (.int 1)) (.bi .len (.cons (.var 1) .nil)) (.glo 2 (.int 3)))) (.not (.bi .all (.cons c_Chain_init_1 .nil))))) (.cons .never .nil) .nil) (.cons (.ifs (.not (.fn 3 (.cons (.var 2) (.cons (.cst (.int 1)) (.cons (.glo 0 (.int 2)) .nil))))) (.cons .never .nil) .nil) (.cons (.ifs (.not (.isi (.var 3) [.bool])) (.cons .never .nil) .nil) (.cons (.asg (.att (.var 0) 42) (.var 1)) (.cons (.asg (.att (.var 0) 24) (.var 2)) (.cons (.asg (.att (.var 0) 20) (.var 3)) .nil)))))), false⟩
def f_Chain_links : Fn := ⟨1, 1, (.cons (.ret (.fld (.var 0) 42)) .nil), true⟩
def f_Chain_callers : Fn := ⟨1, 1, (.cons (.ret (.fld (.var 0) 24)) .nil), true⟩
def f_Chain_charges : Fn := ⟨1, 1, (.cons (.ret (.fld (.var 0) 20)) .nil), true⟩
def f_Chain_eq : Fn := ⟨2, 2, (.cons (.ret (.and (.isi (.var 1) [(.own 6)]) (.cmp .Eq (.mth 12 (.var 0) .nil) (.mth 12 (.var 1) .nil)))) .nil), true⟩
def f_Chain_all_parts : Fn := ⟨1, 1, (.cons (.ret (.lst true (.cons (.fld (.var 0) 42) (.cons (.fld (.var 0) 24) (.cons (.fld (.var 0) 20) .nil))))) .nil), true⟩
def f_check_chain : Fn := ⟨1, 1, (.cons (.ifs (.not (.isi (.var 0) [(.own 6)])) (.cons .never .nil) .nil) .nil), true⟩
def c_events_of_1 : E := (.lc true [1] (.tup (.cons (.cst (.str (Str.ofString "ask"))) (.cons (.var 1) .nil))) (.nm 1) (.rng1 (.fld (.var 0) 24)) .none)
def f_events_of : Fn := ⟨1, 2, (.cons (.ret (.lst true (.cons (.glo 7 (.tup [(.str (Str.ofString "tick"))])) (.star c_events_of_1 .nil)))) .nil), true⟩
def f_is_event : Fn := ⟨2, 2, (.cons (.ifs (.or (.not (.isi (.var 1) [.tuple])) (.or (.not (.chn .LtE .LtE (.cst (.int 1)) (.bi .len (.cons (.var 1) .nil)) (.cst (.int 2)))) (.not (.isi (.idx (.var 1) (.cst (.int 0))) [.str])))) (.cons (.ret (.cst (.bl false))) .nil) .nil) (.cons (.ifs (.cmp .Eq (.bi .len (.cons (.var 1) .nil)) (.cst (.int 1))) (.cons (.ret (.cmp .Eq (.var 1) (.glo 7 (.tup [(.str (Str.ofString "tick"))])))) .nil) .nil) (.cons (.ret (.and (.cmp .Eq (.idx (.var 1) (.cst (.int 0))) (.cst (.str (Str.ofString "ask")))) (.fn 3 (.cons (.idx (.var 1) (.cst (.int 1))) (.cons (.cst (.int 0)) (.cons (.bin .Sub (.fld (.var 0) 24) (.cst (.int 1))) .nil)))))) .nil))), true⟩
def f_first_of : Fn := ⟨1, 1, (.cons (.mat (.idx (.var 0) (.cst (.int 0))) (.cons (Str.ofString "bucket") (.cons (.ret (.tup (.cons (.idx (.var 0) (.cst (.int 1))) (.cons (.cst (.int 0)) .nil)))) .nil) (.cons (Str.ofString "window") (.cons (.ret (.tup (.cons (.cst (.int 0)) (.cons (.cst (.int 0)) .nil)))) .nil) (.cons (Str.ofString "slide") (.cons (.ret (.tup .nil)) .nil) .nil)))) (.cons (.ret (.cst (.int 0))) .nil)), true⟩
def c_ticked_1 : E := (.lc true [5] (.bin .Add (.var 5) (.cst (.int 1))) (.nm 5) (.val (.var 1)) (.some (.cmp .Lt (.bin .Add (.var 5) (.cst (.int 1))) (.idx (.var 0) (.cst (.int 2))))))
def f_ticked : Fn := ⟨2, 6, (.cons (.mat (.idx (.var 0) (.cst (.int 0))) (.cons (Str.ofString "bucket") (.cons (.asg (.tup (.cons (.nm 2) (.cons (.nm 3) .nil))) (.var 1)) (.cons (.ret (.ite (.cmp .Eq (.bin .Add (.var 3) (.cst (.int 1))) (.idx (.var 0) (.cst (.int 2)))) (.tup (.cons (.bi .min2 (.cons (.idx (.var 0) (.cst (.int 1))) (.cons (.bin .Add (.var 2) (.cst (.int 1))) .nil))) (.cons (.cst (.int 0)) .nil))) (.tup (.cons (.var 2) (.cons (.bin .Add (.var 3) (.cst (.int 1))) .nil))))) .nil)) (.cons (Str.ofString "window") (.cons (.asg (.tup (.cons (.nm 4) (.cons (.nm 3) .nil))) (.var 1)) (.cons (.ret (.ite (.cmp .Eq (.bin .Add (.var 3) (.cst (.int 1))) (.idx (.var 0) (.cst (.int 2)))) (.tup (.cons (.cst (.int 0)) (.cons (.cst (.int 0)) .nil))) (.tup (.cons (.var 4) (.cons (.bin .Add (.var 3) (.cst (.int 1))) .nil))))) .nil)) (.cons (Str.ofString "slide") (.cons (.ret (.bi .tuple (.cons c_ticked_1 .nil))) .nil) .nil)))) (.cons (.ret (.bi .max2 (.cons (.cst (.int 0)) (.cons (.bin .Sub (.var 1) (.cst (.int 1))) .nil)))) .nil)), true⟩
def f_does_let : Fn := ⟨2, 2, (.cons (.mat (.idx (.var 0) (.cst (.int 0))) (.cons (Str.ofString "bucket") (.cons (.ret (.cmp .Gt (.idx (.var 1) (.cst (.int 0))) (.cst (.int 0)))) .nil) (.cons (Str.ofString "window") (.cons (.ret (.cmp .Lt (.idx (.var 1) (.cst (.int 0))) (.idx (.var 0) (.cst (.int 1))))) .nil) (.cons (Str.ofString "slide") (.cons (.ret (.cmp .Lt (.bi .len (.cons (.var 1) .nil)) (.idx (.var 0) (.cst (.int 1))))) .nil) .nil)))) (.cons (.ret (.cmp .Eq (.var 1) (.cst (.int 0)))) .nil)), true⟩
def f_counted : Fn := ⟨2, 2, (.cons (.mat (.idx (.var 0) (.cst (.int 0))) (.cons (Str.ofString "bucket") (.cons (.ret (.tup (.cons (.bin .Sub (.idx (.var 1) (.cst (.int 0))) (.cst (.int 1))) (.cons (.idx (.var 1) (.cst (.int 1))) .nil)))) .nil) (.cons (Str.ofString "window") (.cons (.ret (.tup (.cons (.bin .Add (.idx (.var 1) (.cst (.int 0))) (.cst (.int 1))) (.cons (.idx (.var 1) (.cst (.int 1))) .nil)))) .nil) (.cons (Str.ofString "slide") (.cons (.ret (.tup (.star (.var 1) (.cons (.cst (.int 0)) .nil)))) .nil) .nil)))) (.cons (.ret (.idx (.var 0) (.cst (.int 1)))) .nil)), true⟩
def g_first_state_1 : G := (.tup (.cons (.nm 2) (.cons (.nm 3) .nil)))
def b_first_state_1 : B := (.cons (.exp (.bm .append (.var 1) (.cons (.ite (.cmp .Eq (.var 2) (.cst (.str (Str.ofString "all")))) (.fn 16 (.cons (.var 3) .nil)) (.bin .Mult (.tup (.cons (.fn 16 (.cons (.var 3) .nil)) .nil)) (.fld (.var 0) 24))) .nil))) .nil)
def f_first_state : Fn := ⟨1, 4, (.cons (.asg (.nm 1) (.lst false .nil)) (.cons (.for_ g_first_state_1 (.val (.fld (.var 0) 42)) b_first_state_1) (.cons (.ret (.bi .tuple (.cons (.var 1) .nil))) .nil))), true⟩
def g_after_tick_1 : G := (.tup (.cons (.tup (.cons (.nm 3) (.cons (.nm 4) .nil))) (.cons (.nm 5) .nil)))
def c_after_tick_1 : E := (.lc true [6] (.fn 17 (.cons (.var 4) (.cons (.var 6) .nil))) (.nm 6) (.val (.var 5)) .none)
def b_after_tick_1 : B := (.cons (.exp (.bm .append (.var 2) (.cons (.ite (.cmp .Eq (.var 3) (.cst (.str (Str.ofString "all")))) (.fn 17 (.cons (.var 4) (.cons (.var 5) .nil))) (.bi .tuple (.cons c_after_tick_1 .nil))) .nil))) .nil)
def f_after_tick : Fn := ⟨2, 7, (.cons (.asg (.nm 2) (.lst false .nil)) (.cons (.for_ g_after_tick_1 (.zip (.fld (.var 0) 42) (.var 1)) b_after_tick_1) (.cons (.ret (.bi .tuple (.cons (.var 2) .nil))) .nil))), true⟩
def f_lets_at : Fn := ⟨4, 6, (.cons (.asg (.tup (.cons (.nm 4) (.cons (.nm 5) .nil))) (.idx (.fld (.var 0) 42) (.var 2))) (.cons (.ret (.fn 18 (.cons (.var 5) (.cons (.ite (.cmp .Eq (.var 4) (.cst (.str (Str.ofString "all")))) (.idx (.var 1) (.var 2)) (.idx (.idx (.var 1) (.var 2)) (.var 3))) .nil)))) .nil)), true⟩
def f_counted_at : Fn := ⟨4, 8, (.cons (.asg (.tup (.cons (.nm 4) (.cons (.nm 5) .nil))) (.idx (.fld (.var 0) 42) (.var 2))) (.cons (.asg (.nm 6) (.idx (.var 1) (.var 2))) (.cons (.ifs (.cmp .Eq (.var 4) (.cst (.str (Str.ofString "all")))) (.cons (.asg (.nm 7) (.fn 19 (.cons (.var 5) (.cons (.var 6) .nil)))) .nil) (.cons (.asg (.nm 7) (.tup (.star (.slc (.var 6) .none (.some (.var 3))) (.cons (.fn 19 (.cons (.var 5) (.cons (.idx (.var 6) (.var 3)) .nil))) (.star (.slc (.var 6) (.some (.bin .Add (.var 3) (.cst (.int 1)))) .none) .nil))))) .nil)) (.cons (.ret (.tup (.star (.slc (.var 1) .none (.some (.var 2))) (.cons (.var 7) (.star (.slc (.var 1) (.some (.bin .Add (.var 2) (.cst (.int 1)))) .none) .nil))))) .nil)))), true⟩
def c_answer_at_1 : E := (.lc true [3] (.fn 22 (.cons (.var 0) (.cons (.var 1) (.cons (.var 3) (.cons (.var 2) .nil))))) (.nm 3) (.rng1 (.bi .len (.cons (.fld (.var 0) 42) .nil))) .none)
def f_answer_at : Fn := ⟨3, 4, (.cons (.ret (.bi .all (.cons c_answer_at_1 .nil))) .nil), true⟩
def g_after_ask_1 : G := (.nm 4)
def b_after_ask_1 : B := (.cons (.ifs (.not (.fn 22 (.cons (.var 0) (.cons (.var 1) (.cons (.var 4) (.cons (.var 2) .nil)))))) (.cons (.ret (.tup (.cons (.cst (.bl false)) (.cons (.var 1) .nil)))) .nil) .nil) (.cons (.asg (.nm 1) (.fn 23 (.cons (.var 0) (.cons (.var 1) (.cons (.var 4) (.cons (.var 2) .nil)))))) .nil))
def f_after_ask : Fn := ⟨3, 5, (.cons (.asg (.nm 3) (.fn 24 (.cons (.var 0) (.cons (.var 1) (.cons (.var 2) .nil))))) (.cons (.ifs (.and (.not (.var 3)) (.not (.fld (.var 0) 20))) (.cons (.ret (.tup (.cons (.cst (.bl false)) (.cons (.var 1) .nil)))) .nil) .nil) (.cons (.for_ g_after_ask_1 (.rng1 (.bi .len (.cons (.fld (.var 0) 42) .nil))) b_after_ask_1) (.cons (.ret (.tup (.cons (.cst (.bl true)) (.cons (.var 1) .nil)))) .nil)))), true⟩
def f_after_event : Fn := ⟨3, 3, (.cons (.ret (.ite (.cmp .Eq (.var 2) (.glo 7 (.tup [(.str (Str.ofString "tick"))]))) (.tup (.cons (.cst .non) (.cons (.fn 21 (.cons (.var 0) (.cons (.var 1) .nil))) .nil))) (.fn 25 (.cons (.var 0) (.cons (.var 1) (.cons (.idx (.var 2) (.cst (.int 1))) .nil)))))) .nil), true⟩
def f_Machine_init : Fn := ⟨2, 2, (.cons (.exp (.fn 13 (.cons (.var 1) .nil))) (.cons (.asg (.att (.var 0) 41) (.var 1)) (.cons (.asg (.att (.var 0) 35) (.fn 20 (.cons (.var 1) .nil))) (.cons (.asg (.att (.var 0) 46) (.lst false .nil)) .nil)))), false⟩
def f_Machine_chain : Fn := ⟨1, 1, (.cons (.ret (.fld (.var 0) 41)) .nil), true⟩
def f_Machine_state : Fn := ⟨1, 1, (.cons (.ret (.fld (.var 0) 35)) .nil), true⟩
def f_Machine_past : Fn := ⟨1, 1, (.cons (.exp (.fn 0 (.cons (.cst (.int 0)) .nil))) .nil), true⟩
def f_Machine_len : Fn := ⟨1, 1, (.cons (.ret (.bi .len (.cons (.fld (.var 0) 46) .nil))) .nil), true⟩
def f_Machine_lets : Fn := ⟨2, 2, (.cons (.ifs (.not (.fn 3 (.cons (.var 1) (.cons (.cst (.int 0)) (.cons (.bin .Sub (.fld (.fld (.var 0) 41) 24) (.cst (.int 1))) .nil))))) (.cons .never .nil) .nil) (.cons (.ret (.fn 24 (.cons (.fld (.var 0) 41) (.cons (.fld (.var 0) 35) (.cons (.var 1) .nil))))) .nil)), true⟩
def f_Machine_do : Fn := ⟨2, 3, (.cons (.ifs (.not (.fn 15 (.cons (.fld (.var 0) 41) (.cons (.var 1) .nil)))) (.cons .never .nil) .nil) (.cons (.exp (.bm .append (.fld (.var 0) 46) (.cons (.var 1) .nil))) (.cons (.asg (.tup (.cons (.nm 2) (.cons (.att (.var 0) 35) .nil))) (.fn 26 (.cons (.fld (.var 0) 41) (.cons (.fld (.var 0) 35) (.cons (.var 1) .nil))))) (.cons (.ret (.var 2)) .nil)))), true⟩
def f_Machine_copy : Fn := ⟨1, 1, (.cons (.exp (.fn 0 (.cons (.cst (.int 1)) .nil))) .nil), false⟩
def g_check_history_1 : G := (.tup (.cons (.nm 2) (.cons (.nm 3) .nil)))
def b_check_history_1 : B := (.cons (.ifs (.not (.fn 15 (.cons (.var 0) (.cons (.var 3) .nil)))) (.cons .never .nil) .nil) .nil)
def f_check_history : Fn := ⟨2, 4, (.cons (.exp (.fn 13 (.cons (.var 0) .nil))) (.cons (.ifs (.not (.isi (.var 1) [.list, .tuple])) (.cons .never .nil) .nil) (.cons (.for_ g_check_history_1 (.enum (.var 1)) b_check_history_1) .nil))), true⟩
def c_run_1 : E := (.lc true [3] (.mth 21 (.var 2) (.cons (.var 3) .nil)) (.nm 3) (.val (.var 1)) .none)
def f_run : Fn := ⟨2, 4, (.cons (.exp (.fn 35 (.cons (.var 0) (.cons (.var 1) .nil)))) (.cons (.asg (.nm 2) (.mk 7 0 (.cons (.var 0) .nil) .nil)) (.cons (.ret c_run_1) .nil))), true⟩
def g_reached_1 : G := (.nm 5)
def g_reached_2 : G := (.nm 6)
def b_reached_1 : B := (.cons (.asg (.nm 7) (.idx (.fn 26 (.cons (.var 0) (.cons (.var 5) (.cons (.var 6) .nil)))) (.cst (.int 1)))) (.cons (.ifs (.din true (.var 7) (.var 2)) (.cons (.asg (.dsub (.var 4) (.var 7)) (.cst (.bl true))) .nil) .nil) .nil))
def b_reached_2 : B := (.cons (.for_ g_reached_2 (.val (.fn 14 (.cons (.var 0) .nil))) b_reached_1) .nil)
def f_reached : Fn := ⟨1, 8, (.cons (.asg (.nm 1) (.fn 20 (.cons (.var 0) .nil))) (.cons (.par 2 3 (.done (.var 1) (.cst (.bl true))) (.lst true (.cons (.var 1) .nil))) (.cons (.whl (.cmp .NotEq (.var 3) (.lst true .nil)) (.cons (.asg (.nm 4) .dnew) (.cons (.for_ g_reached_1 (.val (.var 3)) b_reached_2) (.cons (.exp (.dupd (.var 2) (.var 4))) (.cons (.ifs (.cmp .Gt (.dlen (.var 2)) (.glo 5 (.int 60))) (.cons (.raise 5) .nil) .nil) (.cons (.asg (.nm 3) (.dlst true (.var 4))) .nil)))))) (.cons (.ret (.dlst true (.var 2))) .nil)))), true⟩
def f_states : Fn := ⟨1, 1, (.cons (.exp (.fn 13 (.cons (.var 0) .nil))) (.cons (.xret 37 (.cons (.var 0) .nil)) .nil)), true⟩
def c_grouped_1 : E := (.dcm true [2, 3] (.var 2) (.dsd (.var 1) (.var 3) (.dlen (.var 1))) (.tup (.cons (.nm 2) (.cons (.nm 3) .nil))) (.ditems (.var 0)) .none)
def f_grouped : Fn := ⟨1, 4, (.cons (.asg (.nm 1) .dnew) (.cons (.ret c_grouped_1) .nil)), true⟩
def c_groups_of_1 : E := (.dcm true [3] (.var 3) (.cst (.int 0)) (.nm 3) (.val (.var 1)) .none)
def c_groups_of_2 : E := (.dcm true [3] (.var 3) (.fn 41 (.cons (.var 0) (.cons (.var 3) (.cons (.var 2) .nil)))) (.nm 3) (.val (.var 1)) .none)
def f_groups_of : Fn := ⟨2, 6, (.cons (.asg (.nm 2) c_groups_of_1) (.cons (.asg (.nm 4) (.cst (.int 0))) (.cons (.whl (.cmp .Lt (.var 4) (.nval 5 (.var 2))) (.cons (.asg (.nm 4) (.nval 5 (.var 2))) (.cons (.asg (.nm 2) (.fn 39 (.cons c_groups_of_2 .nil))) .nil))) (.cons (.ret (.var 2)) .nil)))), true⟩
def c_key_of_1 : E := (.lc true [3] (.fn 42 (.cons (.var 0) (.cons (.var 1) (.cons (.var 3) (.cons (.var 2) .nil))))) (.nm 3) (.val (.fn 14 (.cons (.var 0) .nil))) .none)
def f_key_of : Fn := ⟨3, 4, (.cons (.ret (.tup (.cons (.dget (.var 2) (.var 1)) (.star c_key_of_1 .nil)))) .nil), true⟩
def f_looked : Fn := ⟨4, 6, (.cons (.asg (.tup (.cons (.nm 4) (.cons (.nm 5) .nil))) (.fn 26 (.cons (.var 0) (.cons (.var 1) (.cons (.var 2) .nil))))) (.cons (.ret (.tup (.cons (.var 4) (.cons (.dget (.var 3) (.var 5)) .nil)))) .nil)), true⟩
def g_parting_of_1 : G := (.nm 6)
def g_parting_of_2 : G := (.nm 7)
def b_parting_of_1 : B := (.cons (.asg (.tup (.cons (.nm 8) (.cons (.nm 9) .nil))) (.fn 26 (.cons (.var 0) (.cons (.idx (.var 6) (.cst (.int 0))) (.cons (.var 7) .nil))))) (.cons (.asg (.tup (.cons (.nm 10) (.cons (.nm 11) .nil))) (.fn 26 (.cons (.var 0) (.cons (.idx (.var 6) (.cst (.int 1))) (.cons (.var 7) .nil))))) (.cons (.ifs (.cmp .NotEq (.var 8) (.var 10)) (.cons (.ret (.tup (.star (.dget (.var 3) (.var 6)) (.cons (.var 7) .nil)))) .nil) .nil) (.cons (.ifs (.and (.din true (.tup (.cons (.var 9) (.cons (.var 11) .nil))) (.var 3)) (.din true (.tup (.cons (.var 9) (.cons (.var 11) .nil))) (.var 5))) (.cons (.asg (.dsub (.var 5) (.tup (.cons (.var 9) (.cons (.var 11) .nil)))) (.tup (.star (.dget (.var 3) (.var 6)) (.cons (.var 7) .nil)))) .nil) .nil) .nil))))
def b_parting_of_2 : B := (.cons (.for_ g_parting_of_2 (.val (.fn 14 (.cons (.var 0) .nil))) b_parting_of_1) .nil)
def f_parting_of : Fn := ⟨3, 12, (.cons (.par 3 4 (.done (.tup (.cons (.var 1) (.cons (.var 2) .nil))) (.tup .nil)) (.lst true (.cons (.tup (.cons (.var 1) (.cons (.var 2) .nil))) .nil))) (.cons (.whl (.cmp .NotEq (.var 4) (.lst true .nil)) (.cons (.asg (.nm 5) .dnew) (.cons (.for_ g_parting_of_1 (.val (.var 4)) b_parting_of_2) (.cons (.exp (.dupd (.var 3) (.var 5))) (.cons (.asg (.nm 4) (.dlst true (.var 5))) .nil))))) (.cons (.ret (.cst .non)) .nil))), true⟩
def g_does_part_1 : G := (.nm 5)
def b_does_part_1 : B := (.cons (.asg (.tup (.cons (.nm 6) (.cons (.nm 1) .nil))) (.fn 26 (.cons (.var 0) (.cons (.var 1) (.cons (.var 5) .nil))))) (.cons (.asg (.tup (.cons (.nm 7) (.cons (.nm 2) .nil))) (.fn 26 (.cons (.var 0) (.cons (.var 2) (.cons (.var 5) .nil))))) (.cons (.ifs (.var 4) (.cons (.ret (.cst (.bl false))) .nil) .nil) (.cons (.asg (.nm 4) (.cmp .NotEq (.var 6) (.var 7))) .nil))))
def f_does_part : Fn := ⟨4, 8, (.cons (.asg (.nm 4) (.cst (.bl false))) (.cons (.for_ g_does_part_1 (.val (.var 3)) b_does_part_1) (.cons (.ret (.var 4)) .nil))), true⟩
def c_listed_1 : E := (.lc false [4] (.lst false .nil) (.nm 4) (.dvk 4 (.var 2)) .none)
def g_listed_1 : G := (.nm 5)
def b_listed_1 : B := (.cons (.exp (.bm .append (.idx (.var 3) (.dget (.var 2) (.var 5))) (.cons (.var 5) .nil))) .nil)
def f_listed : Fn := ⟨1, 6, (.cons (.xasg 1 37 (.cons (.var 0) .nil)) (.cons (.asg (.nm 2) (.fn 40 (.cons (.var 0) (.cons (.var 1) .nil)))) (.cons (.asg (.nm 3) c_listed_1) (.cons (.for_ g_listed_1 (.val (.var 1)) b_listed_1) (.cons (.ret (.var 3)) .nil))))), true⟩
def c_Classes_init_1 : E := (.lc true [3] (.bi .list (.cons (.var 3) .nil)) (.nm 3) (.val (.var 1)) .none)
def c_Classes_init_2 : E := (.dcm true [4, 5] (.var 4) (.var 5) (.tup (.cons (.nm 4) (.cons (.nm 5) .nil))) (.ditems (.var 2)) .none)
def f_Classes_init : Fn := ⟨3, 6, (.cons (.asg (.att (.var 0) 18) c_Classes_init_1) (.cons (.asg (.att (.var 0) 22) c_Classes_init_2) .nil)), false⟩
def f_Classes_eq : Fn := ⟨2, 2, (.cons (.ret (.and (.isi (.var 1) [(.own 8)]) (.and (.cmp .Eq (.fld (.var 0) 18) (.fld (.var 1) 18)) (.cmp .Eq (.fld (.var 0) 22) (.fld (.var 1) 22))))) .nil), true⟩
def c_Classes_shows_1 : E := (.lc true [3] (.din false (.var 3) (.fld (.var 0) 22)) (.nm 3) (.val (.var 2)) .none)
def g_Classes_shows_1 : G := (.tup (.cons (.nm 4) (.cons (.nm 5) .nil)))
def b_Classes_shows_1 : B := (.cons (.ifs (.not (.fn 44 (.cons (.var 1) (.cons (.idx (.idx (.fld (.var 0) 18) (.var 4)) (.cst (.int 0))) (.cons (.idx (.idx (.fld (.var 0) 18) (.var 5)) (.cst (.int 0))) (.cons (.dget (.fld (.var 0) 22) (.tup (.cons (.var 4) (.cons (.var 5) .nil)))) .nil)))))) (.cons (.ret (.cst (.bl false))) .nil) .nil) .nil)
def f_Classes_shows : Fn := ⟨2, 6, (.cons (.exp (.fn 13 (.cons (.var 1) .nil))) (.cons (.ifs (.cmp .NotEq (.fld (.var 0) 18) (.fn 45 (.cons (.var 1) .nil))) (.cons (.ret (.cst (.bl false))) .nil) .nil) (.cons (.asg (.nm 2) (.fn 49 (.cons (.bi .len (.cons (.fld (.var 0) 18) .nil)) .nil))) (.cons (.ifs (.or (.cmp .NotEq (.bi .len (.cons (.var 2) .nil)) (.dlen (.fld (.var 0) 22))) (.not (.bi .all (.cons c_Classes_shows_1 .nil)))) (.cons (.ret (.cst (.bl false))) .nil) .nil) (.cons (.for_ g_Classes_shows_1 (.val (.var 2)) b_Classes_shows_1) (.cons (.ret (.cst (.bl true))) .nil)))))), true⟩
def c_pairs_of_1 : E := (.lc2 true [1, 2] [2] (.tup (.cons (.var 1) (.cons (.var 2) .nil))) (.nm 1) (.rng1 (.var 0)) (.nm 2) (.rng2 (.bin .Add (.var 1) (.cst (.int 1))) (.var 0)))
def f_pairs_of : Fn := ⟨1, 3, (.cons (.ret c_pairs_of_1) .nil), true⟩
def c_classes_1 : E := (.dcm true [3] (.var 3) (.fn 43 (.cons (.var 0) (.cons (.idx (.idx (.var 1) (.idx (.var 3) (.cst (.int 0)))) (.cst (.int 0))) (.cons (.idx (.idx (.var 1) (.idx (.var 3) (.cst (.int 1)))) (.cst (.int 0))) .nil)))) (.nm 3) (.val (.fn 49 (.cons (.bi .len (.cons (.var 1) .nil)) .nil))) .none)
def f_classes : Fn := ⟨1, 4, (.cons (.exp (.fn 13 (.cons (.var 0) .nil))) (.cons (.xasg 1 45 (.cons (.var 0) .nil)) (.cons (.asg (.nm 2) c_classes_1) (.cons (.ret (.mk 8 1 (.cons (.var 1) (.cons (.var 2) .nil)) .nil)) .nil)))), true⟩
def f_check_two : Fn := ⟨2, 2, (.cons (.exp (.fn 13 (.cons (.var 0) .nil))) (.cons (.exp (.fn 13 (.cons (.var 1) .nil))) (.cons (.ifs (.cmp .NotEq (.fld (.var 0) 24) (.fld (.var 1) 24)) (.cons .never .nil) .nil) .nil))), true⟩
def g_steps_from_1 : G := (.nm 4)
def b_steps_from_1 : B := (.cons (.asg (.tup (.cons (.nm 5) (.cons (.nm 6) .nil))) (.fn 26 (.cons (.var 0) (.cons (.idx (.var 2) (.cst (.int 0))) (.cons (.var 4) .nil))))) (.cons (.asg (.tup (.cons (.nm 7) (.cons (.nm 8) .nil))) (.fn 26 (.cons (.var 1) (.cons (.idx (.var 2) (.cst (.int 1))) (.cons (.var 4) .nil))))) (.cons (.exp (.bm .append (.var 3) (.cons (.tup (.cons (.var 4) (.cons (.var 5) (.cons (.var 7) (.cons (.tup (.cons (.var 6) (.cons (.var 8) .nil))) .nil))))) .nil))) .nil)))
def f_steps_from : Fn := ⟨3, 9, (.cons (.asg (.nm 3) (.lst false .nil)) (.cons (.for_ g_steps_from_1 (.val (.fn 14 (.cons (.var 0) .nil))) b_steps_from_1) (.cons (.ret (.var 3)) .nil))), true⟩
def f_breaks_within : Fn := ⟨2, 2, (.cons (.ret (.and (.isb false (.var 0) (.cst (.bl true))) (.isb false (.var 1) (.cst (.bl false))))) .nil), true⟩
def f_breaks_alike : Fn := ⟨2, 2, (.cons (.ret (.cmp .NotEq (.var 0) (.var 1))) .nil), true⟩
def f_goes_on : Fn := ⟨2, 2, (.cons (.ret (.or (.var 1) (.isb true (.var 0) (.cst (.bl false))))) .nil), true⟩
def f_Comparison_init : Fn := ⟨4, 6, (.cons (.asg (.att (.var 0) 36) (.var 1)) (.cons (.asg (.att (.var 0) 37) (.var 2)) (.cons (.asg (.att (.var 0) 29) (.var 3)) (.cons (.asg (.nm 4) (.tup (.cons (.fn 20 (.cons (.var 1) .nil)) (.cons (.fn 20 (.cons (.var 2) .nil)) .nil)))) (.cons (.asg (.att (.var 0) 26) (.done (.var 4) (.tup .nil))) (.cons (.asg (.att (.var 0) 25) (.cst .non)) (.cons (.asg (.nm 5) (.lst true (.cons (.var 4) .nil))) (.cons (.whl (.and (.cmp .NotEq (.var 5) (.lst true .nil)) (.cmp .Is (.fld (.var 0) 25) (.cst .non))) (.cons (.asg (.nm 5) (.mth 34 (.var 0) (.cons (.var 5) .nil))) .nil)) .nil)))))))), false⟩
def g_Comparison_next_layer_1 : G := (.nm 3)
def g_Comparison_next_layer_2 : G := (.tup (.cons (.nm 4) (.cons (.nm 5) (.cons (.nm 6) (.cons (.nm 7) .nil)))))
def b_Comparison_next_layer_1 : B := (.cons (.ifs (.ite (.fld (.var 0) 29) (.fn 54 (.cons (.var 5) (.cons (.var 6) .nil))) (.fn 53 (.cons (.var 5) (.cons (.var 6) .nil)))) (.cons (.asg (.att (.var 0) 25) (.tup (.star (.dget (.fld (.var 0) 26) (.var 3)) (.cons (.var 4) .nil)))) (.cons (.ret (.lst true .nil)) .nil)) .nil) (.cons (.ifs (.and (.fn 55 (.cons (.var 5) (.cons (.fld (.var 0) 29) .nil))) (.and (.din true (.var 7) (.fld (.var 0) 26)) (.din true (.var 7) (.var 2)))) (.cons (.asg (.dsub (.var 2) (.var 7)) (.tup (.star (.dget (.fld (.var 0) 26) (.var 3)) (.cons (.var 4) .nil)))) .nil) .nil) .nil))
def b_Comparison_next_layer_2 : B := (.cons (.for_ g_Comparison_next_layer_2 (.val (.fn 52 (.cons (.fld (.var 0) 36) (.cons (.fld (.var 0) 37) (.cons (.var 3) .nil))))) b_Comparison_next_layer_1) .nil)
def f_Comparison_next_layer : Fn := ⟨2, 8, (.cons (.asg (.nm 2) .dnew) (.cons (.for_ g_Comparison_next_layer_1 (.val (.var 1)) b_Comparison_next_layer_2) (.cons (.exp (.dupd (.fld (.var 0) 26) (.var 2))) (.cons (.ifs (.cmp .Gt (.dlen (.fld (.var 0) 26)) (.glo 3 (.int 3000))) (.cons (.raise 5) .nil) .nil) (.cons (.ret (.dlst true (.var 2))) .nil))))), true⟩
def c_is_closed_1 : E := (.dcm true [5] (.var 5) (.cst (.bl true)) (.nm 5) (.val (.var 2)) .none)
def g_is_closed_1 : G := (.nm 5)
def g_is_closed_2 : G := (.tup (.cons (.nm 6) (.cons (.nm 7) (.cons (.nm 8) (.cons (.nm 9) .nil)))))
def b_is_closed_1 : B := (.cons (.ifs (.ite (.var 3) (.fn 54 (.cons (.var 7) (.cons (.var 8) .nil))) (.fn 53 (.cons (.var 7) (.cons (.var 8) .nil)))) (.cons (.ret (.cst (.bl false))) .nil) .nil) (.cons (.ifs (.and (.fn 55 (.cons (.var 7) (.cons (.var 3) .nil))) (.din true (.var 9) (.var 4))) (.cons (.ret (.cst (.bl false))) .nil) .nil) .nil))
def b_is_closed_2 : B := (.cons (.for_ g_is_closed_2 (.val (.fn 52 (.cons (.var 0) (.cons (.var 1) (.cons (.var 5) .nil))))) b_is_closed_1) .nil)
def f_is_closed : Fn := ⟨4, 10, (.cons (.asg (.nm 4) c_is_closed_1) (.cons (.ifs (.din true (.tup (.cons (.fn 20 (.cons (.var 0) .nil)) (.cons (.fn 20 (.cons (.var 1) .nil)) .nil))) (.var 4)) (.cons (.ret (.cst (.bl false))) .nil) .nil) (.cons (.for_ g_is_closed_1 (.dkeys (.var 4)) b_is_closed_2) (.cons (.ret (.cst (.bl true))) .nil)))), true⟩
def g_is_parting_1 : G := (.nm 6)
def b_is_parting_1 : B := (.cons (.asg (.tup (.cons (.nm 7) (.cons (.nm 8) .nil))) (.fn 26 (.cons (.var 0) (.cons (.idx (.var 4) (.cst (.int 0))) (.cons (.var 6) .nil))))) (.cons (.asg (.tup (.cons (.nm 9) (.cons (.nm 10) .nil))) (.fn 26 (.cons (.var 1) (.cons (.idx (.var 4) (.cst (.int 1))) (.cons (.var 6) .nil))))) (.cons (.ifs (.or (.var 5) (.not (.fn 55 (.cons (.var 7) (.cons (.var 3) .nil))))) (.cons (.ret (.cst (.bl false))) .nil) .nil) (.cons (.asg (.nm 5) (.ite (.var 3) (.fn 54 (.cons (.var 7) (.cons (.var 9) .nil))) (.fn 53 (.cons (.var 7) (.cons (.var 9) .nil))))) (.cons (.asg (.nm 4) (.tup (.cons (.var 8) (.cons (.var 10) .nil)))) .nil)))))
def f_is_parting : Fn := ⟨4, 11, (.cons (.par 4 5 (.tup (.cons (.fn 20 (.cons (.var 0) .nil)) (.cons (.fn 20 (.cons (.var 1) .nil)) .nil))) (.cst (.bl false))) (.cons (.for_ g_is_parting_1 (.val (.var 2)) b_is_parting_1) (.cons (.ret (.var 5)) .nil))), true⟩
def f_Within_init : Fn := ⟨2, 2, (.cons (.asg (.att (.var 0) 38) (.bi .list (.cons (.var 1) .nil))) .nil), false⟩
def f_Within_eq : Fn := ⟨2, 2, (.cons (.ret (.and (.isi (.var 1) [(.own 10)]) (.cmp .Eq (.fld (.var 0) 38) (.fld (.var 1) 38)))) .nil), true⟩
def f_Within_shows : Fn := ⟨3, 3, (.cons (.exp (.fn 51 (.cons (.var 1) (.cons (.var 2) .nil)))) (.cons (.ret (.fn 58 (.cons (.var 1) (.cons (.var 2) (.cons (.fld (.var 0) 38) (.cons (.cst (.bl false)) .nil)))))) .nil)), true⟩
def f_Escapes_init : Fn := ⟨2, 2, (.cons (.asg (.att (.var 0) 27) (.var 1)) .nil), false⟩
def f_Escapes_eq : Fn := ⟨2, 2, (.cons (.ret (.and (.isi (.var 1) [(.own 11)]) (.cmp .Eq (.fld (.var 0) 27) (.fld (.var 1) 27)))) .nil), true⟩
def f_Escapes_shows : Fn := ⟨3, 3, (.cons (.exp (.fn 51 (.cons (.var 1) (.cons (.var 2) .nil)))) (.cons (.ret (.fn 59 (.cons (.var 1) (.cons (.var 2) (.cons (.fld (.var 0) 27) (.cons (.cst (.bl false)) .nil)))))) .nil)), true⟩
def f_Alike_init : Fn := ⟨2, 2, (.cons (.asg (.att (.var 0) 38) (.bi .list (.cons (.var 1) .nil))) .nil), false⟩
def f_Alike_eq : Fn := ⟨2, 2, (.cons (.ret (.and (.isi (.var 1) [(.own 12)]) (.cmp .Eq (.fld (.var 0) 38) (.fld (.var 1) 38)))) .nil), true⟩
def f_Alike_shows : Fn := ⟨3, 3, (.cons (.exp (.fn 51 (.cons (.var 1) (.cons (.var 2) .nil)))) (.cons (.ret (.fn 58 (.cons (.var 1) (.cons (.var 2) (.cons (.fld (.var 0) 38) (.cons (.cst (.bl true)) .nil)))))) .nil)), true⟩
def f_Apart_init : Fn := ⟨2, 2, (.cons (.asg (.att (.var 0) 27) (.var 1)) .nil), false⟩
def f_Apart_eq : Fn := ⟨2, 2, (.cons (.ret (.and (.isi (.var 1) [(.own 13)]) (.cmp .Eq (.fld (.var 0) 27) (.fld (.var 1) 27)))) .nil), true⟩
def f_Apart_shows : Fn := ⟨3, 3, (.cons (.exp (.fn 51 (.cons (.var 1) (.cons (.var 2) .nil)))) (.cons (.ret (.fn 59 (.cons (.var 1) (.cons (.var 2) (.cons (.fld (.var 0) 27) (.cons (.cst (.bl true)) .nil)))))) .nil)), true⟩
def f_within : Fn := ⟨2, 3, (.cons (.exp (.fn 51 (.cons (.var 0) (.cons (.var 1) .nil)))) (.cons (.asg (.nm 2) (.mk 9 2 (.cons (.var 0) (.cons (.var 1) (.cons (.cst (.bl false)) .nil))) .nil)) (.cons (.ret (.ite (.cmp .Is (.fld (.var 2) 25) (.cst .non)) (.mk 10 0 (.cons (.dlst true (.fld (.var 2) 26)) .nil) .nil) (.mk 11 0 (.cons (.fld (.var 2) 25) .nil) .nil))) .nil))), true⟩
def f_is_within : Fn := ⟨2, 2, (.cons (.ret (.isi (.fn 72 (.cons (.var 0) (.cons (.var 1) .nil))) [(.own 10)])) .nil), true⟩
def f_alike : Fn := ⟨2, 3, (.cons (.exp (.fn 51 (.cons (.var 0) (.cons (.var 1) .nil)))) (.cons (.asg (.nm 2) (.mk 9 2 (.cons (.var 0) (.cons (.var 1) (.cons (.cst (.bl true)) .nil))) .nil)) (.cons (.ret (.ite (.cmp .Is (.fld (.var 2) 25) (.cst .non)) (.mk 12 0 (.cons (.dlst true (.fld (.var 2) 26)) .nil) .nil) (.mk 13 0 (.cons (.fld (.var 2) 25) .nil) .nil))) .nil))), true⟩
def f_are_alike : Fn := ⟨2, 2, (.cons (.ret (.isi (.fn 74 (.cons (.var 0) (.cons (.var 1) .nil))) [(.own 12)])) .nil), true⟩
def c_left_by_1 : E := (.lc true [2] (.idx (.fld (.var 0) 42) (.var 2)) (.nm 2) (.val (.var 1)) .none)
def f_left_by : Fn := ⟨2, 3, (.cons (.ret (.mk 6 3 (.cons (.bi .tuple (.cons c_left_by_1 .nil)) .nil) (.cons (.fld (.var 0) 24) (.cons (.fld (.var 0) 20) .nil)))) .nil), true⟩
def f_parting_by : Fn := ⟨2, 2, (.cons (.ret (.fld (.mk 9 2 (.cons (.var 0) (.cons (.fn 76 (.cons (.var 0) (.cons (.var 1) .nil))) (.cons (.cst (.bl true)) .nil))) .nil) 25)) .nil), true⟩
def c_idle_1 : E := (.lc true [3] (.var 3) (.nm 3) (.val (.var 1)) (.some (.cmp .NotEq (.var 3) (.var 2))))
def c_idle_2 : E := (.lc true [2] (.var 2) (.nm 2) (.val (.var 1)) (.some (.cmp .Is (.fn 77 (.cons (.var 0) (.cons (.bi .tuple (.cons c_idle_1 .nil)) .nil))) (.cst .non))))
def f_idle : Fn := ⟨1, 4, (.cons (.exp (.fn 13 (.cons (.var 0) .nil))) (.cons (.asg (.nm 1) (.lrng (.bi .len (.cons (.fld (.var 0) 42) .nil)))) (.cons (.ifs (.cmp .Eq (.bi .len (.cons (.var 1) .nil)) (.cst (.int 1))) (.cons (.ret (.lst true .nil)) .nil) .nil) (.cons (.ret c_idle_2) .nil)))), true⟩
def g_choices_of_1 : G := (.nm 2)
def c_choices_of_1 : E := (.lc false [3] (.tup (.star (.var 3) (.cons (.var 2) .nil))) (.nm 3) (.val (.var 1)) .none)
def b_choices_of_1 : B := (.cons (.exp (.bm .extend (.var 1) (.cons c_choices_of_1 .nil))) .nil)
def c_choices_of_2 : E := (.lc true [3] (.var 3) (.nm 3) (.val (.var 1)) (.some (.cmp .NotEq (.var 3) (.tup .nil))))
def f_choices_of : Fn := ⟨1, 4, (.cons (.asg (.nm 1) (.lst false (.cons (.tup .nil) .nil))) (.cons (.for_ g_choices_of_1 (.rng1 (.bi .len (.cons (.fld (.var 0) 42) .nil))) b_choices_of_1) (.cons (.ret (.slen c_choices_of_2)) .nil))), true⟩
def c_Core_init_1 : E := (.dcm true [3, 4] (.var 3) (.var 4) (.tup (.cons (.nm 3) (.cons (.nm 4) .nil))) (.ditems (.var 2)) .none)
def f_Core_init : Fn := ⟨3, 5, (.cons (.asg (.att (.var 0) 17) (.var 1)) (.cons (.asg (.att (.var 0) 22) c_Core_init_1) .nil)), false⟩
def f_Core_eq : Fn := ⟨2, 2, (.cons (.ret (.and (.isi (.var 1) [(.own 14)]) (.and (.cmp .Eq (.fld (.var 0) 17) (.fld (.var 1) 17)) (.cmp .Eq (.fld (.var 0) 22) (.fld (.var 1) 22))))) .nil), true⟩
def c_Core_shows_1 : E := (.lc true [3] (.var 3) (.nm 3) (.val (.fn 79 (.cons (.var 1) .nil))) (.some (.cmp .Lt (.bi .len (.cons (.var 3) .nil)) (.bi .len (.cons (.fld (.var 0) 17) .nil)))))
def c_Core_shows_2 : E := (.lc true [3] (.din false (.var 3) (.fld (.var 0) 22)) (.nm 3) (.val (.var 2)) .none)
def c_Core_shows_3 : E := (.lc true [3] (.fn 59 (.cons (.var 1) (.cons (.fn 76 (.cons (.var 1) (.cons (.var 3) .nil))) (.cons (.dget (.fld (.var 0) 22) (.var 3)) (.cons (.cst (.bl true)) .nil))))) (.nm 3) (.val (.var 2)) .none)
def f_Core_shows : Fn := ⟨2, 4, (.cons (.exp (.fn 13 (.cons (.var 1) .nil))) (.cons (.ifs (.cmp .IsNot (.fn 77 (.cons (.var 1) (.cons (.fld (.var 0) 17) .nil))) (.cst .non)) (.cons (.ret (.cst (.bl false))) .nil) .nil) (.cons (.asg (.nm 2) c_Core_shows_1) (.cons (.ifs (.or (.cmp .NotEq (.bi .len (.cons (.var 2) .nil)) (.dlen (.fld (.var 0) 22))) (.not (.bi .all (.cons c_Core_shows_2 .nil)))) (.cons (.ret (.cst (.bl false))) .nil) .nil) (.cons (.ret (.bi .all (.cons c_Core_shows_3 .nil))) .nil))))), true⟩
def g_core_1 : G := (.nm 2)
def c_core_1 : E := (.dcm true [4] (.var 4) (.dget (.var 1) (.var 4)) (.nm 4) (.dkeys (.var 1)) (.some (.cmp .Lt (.bi .len (.cons (.var 4) .nil)) (.bi .len (.cons (.var 2) .nil)))))
def b_core_1 : B := (.cons (.asg (.nm 3) (.fn 77 (.cons (.var 0) (.cons (.var 2) .nil)))) (.cons (.ifs (.cmp .Is (.var 3) (.cst .non)) (.cons (.ret (.mk 14 1 (.cons (.var 2) (.cons c_core_1 .nil)) .nil)) .nil) .nil) (.cons (.asg (.dsub (.var 1) (.var 2)) (.var 3)) .nil)))
def f_core : Fn := ⟨1, 5, (.cons (.exp (.fn 13 (.cons (.var 0) .nil))) (.cons (.asg (.nm 1) .dnew) (.cons (.for_ g_core_1 (.val (.fn 79 (.cons (.var 0) .nil))) b_core_1) (.cons (.ret (.cst .non)) .nil)))), true⟩
def c_law_history_1 : E := (.lc true [1] (.ite (.cmp .Eq (.var 1) (.cst (.str (Str.ofString "t")))) (.tup (.cons (.cst (.str (Str.ofString "tick"))) .nil)) (.tup (.cons (.cst (.str (Str.ofString "ask"))) (.cons (.sidx (.cst (.str (Str.ofString "ab"))) (.var 1)) .nil)))) (.nm 1) (.chars (.var 0)) .none)
def f_law_history : Fn := ⟨1, 2, (.cons (.ret c_law_history_1) .nil), true⟩
def c_law_answers_1 : E := (.lc true [3] (.ite (.cmp .Is (.var 3) (.cst .non)) (.cst (.str (Str.ofString "-"))) (.ite (.var 3) (.cst (.str (Str.ofString "y"))) (.cst (.str (Str.ofString "n"))))) (.nm 3) (.val (.var 2)) .none)
def f_law_answers : Fn := ⟨2, 4, (.cons (.asg (.nm 2) (.fn 36 (.cons (.mk 6 3 (.cons (.var 0) .nil) (.cons (.cst (.int 2)) (.cons (.cst (.bl true)) .nil))) (.cons (.fn 84 (.cons (.var 1) .nil)) .nil)))) (.cons (.ret (.sjoin (.cst (.str (Str.ofString ""))) c_law_answers_1)) .nil)), true⟩
def g_law_runs_right_1 : G := (.tup (.cons (.nm 1) (.cons (.nm 2) (.cons (.nm 3) .nil))))
def b_law_runs_right_1 : B := (.cons (.ifs (.cmp .NotEq (.fn 85 (.cons (.var 1) (.cons (.var 2) .nil))) (.var 3)) (.cons (.ret (.cst (.bl false))) .nil) .nil) .nil)
def g_law_runs_right_2 : G := (.nm 5)
def b_law_runs_right_2 : B := (.cons (.exp (.mth 21 (.var 4) (.cons (.var 5) .nil))) .nil)
def f_law_runs_right : Fn := ⟨0, 6, (.cons (.asg (.nm 0) (.lst true (.cons (.tup (.cons (.tup (.cons (.tup (.cons (.cst (.str (Str.ofString "all"))) (.cons (.tup (.cons (.cst (.str (Str.ofString "bucket"))) (.cons (.cst (.int 2)) (.cons (.cst (.int 3)) .nil)))) .nil))) .nil)) (.cons (.cst (.str (Str.ofString "aaatttaattta"))) (.cons (.cst (.str (Str.ofString "yyn---yn---y"))) .nil)))) .nil))) (.cons (.asg (.nm 0) (.bin .Add (.var 0) (.lst true (.cons (.tup (.cons (.tup (.cons (.tup (.cons (.cst (.str (Str.ofString "all"))) (.cons (.tup (.cons (.cst (.str (Str.ofString "window"))) (.cons (.cst (.int 2)) (.cons (.cst (.int 3)) .nil)))) .nil))) .nil)) (.cons (.cst (.str (Str.ofString "ttaataaa"))) (.cons (.cst (.str (Str.ofString "--yy-yyn"))) .nil)))) .nil)))) (.cons (.asg (.nm 0) (.bin .Add (.var 0) (.lst true (.cons (.tup (.cons (.tup (.cons (.tup (.cons (.cst (.str (Str.ofString "all"))) (.cons (.tup (.cons (.cst (.str (Str.ofString "slide"))) (.cons (.cst (.int 2)) (.cons (.cst (.int 3)) .nil)))) .nil))) .nil)) (.cons (.cst (.str (Str.ofString "atataatatab"))) (.cons (.cst (.str (Str.ofString "y-y-nn-y-yn"))) .nil)))) .nil)))) (.cons (.asg (.nm 0) (.bin .Add (.var 0) (.lst true (.cons (.tup (.cons (.tup (.cons (.tup (.cons (.cst (.str (Str.ofString "all"))) (.cons (.tup (.cons (.cst (.str (Str.ofString "gap"))) (.cons (.cst (.int 2)) .nil))) .nil))) .nil)) (.cons (.cst (.str (Str.ofString "aatatata"))) (.cons (.cst (.str (Str.ofString "yn-n-y-n"))) .nil)))) .nil)))) (.cons (.asg (.nm 0) (.bin .Add (.var 0) (.lst true (.cons (.tup (.cons (.tup (.cons (.tup (.cons (.cst (.str (Str.ofString "each"))) (.cons (.tup (.cons (.cst (.str (Str.ofString "gap"))) (.cons (.cst (.int 2)) .nil))) .nil))) .nil)) (.cons (.cst (.str (Str.ofString "abatabtab"))) (.cons (.cst (.str (Str.ofString "yyn-nn-yy"))) .nil)))) .nil)))) (.cons (.asg (.nm 0) (.bin .Add (.var 0) (.lst true (.cons (.tup (.cons (.tup (.cons (.tup (.cons (.cst (.str (Str.ofString "each"))) (.cons (.tup (.cons (.cst (.str (Str.ofString "bucket"))) (.cons (.cst (.int 1)) (.cons (.cst (.int 1)) .nil)))) .nil))) (.cons (.tup (.cons (.cst (.str (Str.ofString "all"))) (.cons (.tup (.cons (.cst (.str (Str.ofString "slide"))) (.cons (.cst (.int 1)) (.cons (.cst (.int 2)) .nil)))) .nil))) .nil))) (.cons (.cst (.str (Str.ofString "abtab"))) (.cons (.cst (.str (Str.ofString "yn-nn"))) .nil)))) .nil)))) (.cons (.asg (.nm 0) (.bin .Add (.var 0) (.lst true (.cons (.tup (.cons (.tup (.cons (.tup (.cons (.cst (.str (Str.ofString "all"))) (.cons (.tup (.cons (.cst (.str (Str.ofString "slide"))) (.cons (.cst (.int 1)) (.cons (.cst (.int 2)) .nil)))) .nil))) (.cons (.tup (.cons (.cst (.str (Str.ofString "each"))) (.cons (.tup (.cons (.cst (.str (Str.ofString "bucket"))) (.cons (.cst (.int 1)) (.cons (.cst (.int 1)) .nil)))) .nil))) .nil))) (.cons (.cst (.str (Str.ofString "abtabtab"))) (.cons (.cst (.str (Str.ofString "yn-nn-yn"))) .nil)))) .nil)))) (.cons (.for_ g_law_runs_right_1 (.val (.var 0)) b_law_runs_right_1) (.cons (.asg (.nm 1) (.tup (.cons (.tup (.cons (.cst (.str (Str.ofString "each"))) (.cons (.tup (.cons (.cst (.str (Str.ofString "slide"))) (.cons (.cst (.int 2)) (.cons (.cst (.int 4)) .nil)))) .nil))) (.cons (.tup (.cons (.cst (.str (Str.ofString "all"))) (.cons (.tup (.cons (.cst (.str (Str.ofString "window"))) (.cons (.cst (.int 3)) (.cons (.cst (.int 2)) .nil)))) .nil))) (.cons (.tup (.cons (.cst (.str (Str.ofString "all"))) (.cons (.tup (.cons (.cst (.str (Str.ofString "bucket"))) (.cons (.cst (.int 4)) (.cons (.cst (.int 5)) .nil)))) .nil))) .nil))))) (.cons (.asg (.nm 4) (.mk 7 0 (.cons (.mk 6 4 (.cons (.var 1) .nil) (.cons (.cst (.int 2)) .nil)) .nil) .nil)) (.cons (.for_ g_law_runs_right_2 (.val (.fn 84 (.cons (.cst (.str (Str.ofString "atabbta"))) .nil))) b_law_runs_right_2) (.cons (.ifs (.or (.isb true (.mth 32 (.var 4) (.cons (.cst (.int 0)) .nil)) (.cst (.bl false))) (.isb true (.mth 32 (.var 4) (.cons (.cst (.int 1)) .nil)) (.cst (.bl true)))) (.cons (.ret (.cst (.bl false))) .nil) .nil) (.cons (.ret (.cmp .Eq (.prp 45 (.var 4)) (.tup (.cons (.tup (.cons (.tup (.cons (.cst (.int 2)) (.cons (.cst (.int 1)) .nil))) (.cons (.tup (.cons (.cst (.int 1)) .nil)) .nil))) (.cons (.tup (.cons (.cst (.int 0)) (.cons (.cst (.int 0)) .nil))) (.cons (.tup (.cons (.cst (.int 1)) (.cons (.cst (.int 2)) .nil))) .nil)))))) .nil))))))))))))), true⟩
def f_law_compared_right : Fn := ⟨0, 10, (.cons (.par 0 1 (.mk 6 5 (.cons (.tup (.cons (.tup (.cons (.cst (.str (Str.ofString "all"))) (.cons (.tup (.cons (.cst (.str (Str.ofString "gap"))) (.cons (.cst (.int 3)) .nil))) .nil))) .nil)) .nil) .nil) (.mk 6 5 (.cons (.tup (.cons (.tup (.cons (.cst (.str (Str.ofString "all"))) (.cons (.tup (.cons (.cst (.str (Str.ofString "slide"))) (.cons (.cst (.int 1)) (.cons (.cst (.int 3)) .nil)))) .nil))) .nil)) .nil) .nil)) (.cons (.par 2 3 (.mk 6 5 (.cons (.tup (.cons (.tup (.cons (.cst (.str (Str.ofString "all"))) (.cons (.tup (.cons (.cst (.str (Str.ofString "bucket"))) (.cons (.cst (.int 1)) (.cons (.cst (.int 3)) .nil)))) .nil))) .nil)) .nil) .nil) (.mk 6 5 (.cons (.tup (.cons (.tup (.cons (.cst (.str (Str.ofString "all"))) (.cons (.tup (.cons (.cst (.str (Str.ofString "window"))) (.cons (.cst (.int 1)) (.cons (.cst (.int 3)) .nil)))) .nil))) .nil)) .nil) .nil)) (.cons (.ifs (.not (.fn 75 (.cons (.var 0) (.cons (.var 1) .nil)))) (.cons (.ret (.cst (.bl false))) .nil) .nil) (.cons (.ifs (.not (.fn 73 (.cons (.var 0) (.cons (.var 2) .nil)))) (.cons (.ret (.cst (.bl false))) .nil) .nil) (.cons (.ifs (.not (.fn 73 (.cons (.var 0) (.cons (.var 3) .nil)))) (.cons (.ret (.cst (.bl false))) .nil) .nil) (.cons (.ifs (.not (.fn 75 (.cons (.var 2) (.cons (.var 3) .nil)))) (.cons (.ret (.cst (.bl false))) .nil) .nil) (.cons (.ifs (.fn 73 (.cons (.var 2) (.cons (.var 0) .nil))) (.cons (.ret (.cst (.bl false))) .nil) .nil) (.cons (.ifs (.cmp .NotEq (.fld (.fn 72 (.cons (.var 3) (.cons (.var 1) .nil))) 27) (.bi .tuple (.cons (.fn 84 (.cons (.cst (.str (Str.ofString "ttata"))) .nil)) .nil))) (.cons (.ret (.cst (.bl false))) .nil) .nil) (.cons (.asg (.nm 4) (.mk 6 4 (.cons (.tup (.cons (.tup (.cons (.cst (.str (Str.ofString "each"))) (.cons (.tup (.cons (.cst (.str (Str.ofString "gap"))) (.cons (.cst (.int 3)) .nil))) .nil))) .nil)) .nil) (.cons (.cst (.int 2)) .nil))) (.cons (.asg (.nm 5) (.mk 6 4 (.cons (.tup (.cons (.tup (.cons (.cst (.str (Str.ofString "all"))) (.cons (.tup (.cons (.cst (.str (Str.ofString "gap"))) (.cons (.cst (.int 3)) .nil))) .nil))) .nil)) .nil) (.cons (.cst (.int 2)) .nil))) (.cons (.ifs (.or (.not (.fn 73 (.cons (.var 5) (.cons (.var 4) .nil)))) (.cmp .NotEq (.fld (.fn 72 (.cons (.var 4) (.cons (.var 5) .nil))) 27) (.bi .tuple (.cons (.fn 84 (.cons (.cst (.str (Str.ofString "ab"))) .nil)) .nil)))) (.cons (.ret (.cst (.bl false))) .nil) .nil) (.cons (.asg (.nm 6) (.tup (.cons (.tup (.cons (.cst (.str (Str.ofString "each"))) (.cons (.tup (.cons (.cst (.str (Str.ofString "bucket"))) (.cons (.cst (.int 1)) (.cons (.cst (.int 1)) .nil)))) .nil))) (.cons (.tup (.cons (.cst (.str (Str.ofString "all"))) (.cons (.tup (.cons (.cst (.str (Str.ofString "slide"))) (.cons (.cst (.int 1)) (.cons (.cst (.int 2)) .nil)))) .nil))) .nil)))) (.cons (.par 7 8 (.mk 6 4 (.cons (.var 6) .nil) (.cons (.cst (.int 2)) .nil)) (.mk 6 3 (.cons (.var 6) .nil) (.cons (.cst (.int 2)) (.cons (.cst (.bl true)) .nil)))) (.cons (.ifs (.or (.not (.fn 75 (.cons (.var 7) (.cons (.mk 6 4 (.cons (.rev (.var 6)) .nil) (.cons (.cst (.int 2)) .nil)) .nil)))) (.not (.fn 75 (.cons (.var 7) (.cons (.var 8) .nil))))) (.cons (.ret (.cst (.bl false))) .nil) .nil) (.cons (.asg (.nm 9) (.lst true (.cons (.tup (.cons (.cst (.str (Str.ofString "all"))) (.cons (.tup (.cons (.cst (.str (Str.ofString "bucket"))) (.cons (.cst (.int 1)) (.cons (.cst (.int 1)) .nil)))) .nil))) (.cons (.tup (.cons (.cst (.str (Str.ofString "all"))) (.cons (.tup (.cons (.cst (.str (Str.ofString "gap"))) (.cons (.cst (.int 2)) .nil))) .nil))) .nil)))) (.cons (.ifs (.not (.fn 75 (.cons (.mk 6 5 (.cons (.bi .tuple (.cons (.var 9) .nil)) .nil) .nil) (.cons (.mk 6 6 (.cons (.bi .tuple (.cons (.var 9) .nil)) .nil) (.cons (.cst (.bl true)) .nil)) .nil)))) (.cons (.ret (.cst (.bl false))) .nil) .nil) (.cons (.asg (.nm 9) (.tup (.cons (.tup (.cons (.cst (.str (Str.ofString "all"))) (.cons (.tup (.cons (.cst (.str (Str.ofString "bucket"))) (.cons (.cst (.int 2)) (.cons (.cst (.int 4)) .nil)))) .nil))) (.cons (.idx (.var 9) (.cst (.int 1))) .nil)))) (.cons (.ifs (.cmp .NotEq (.fld (.fn 74 (.cons (.mk 6 5 (.cons (.var 9) .nil) .nil) (.cons (.mk 6 6 (.cons (.var 9) .nil) (.cons (.cst (.bl true)) .nil)) .nil))) 27) (.bi .tuple (.cons (.fn 84 (.cons (.cst (.str (Str.ofString "atata"))) .nil)) .nil))) (.cons (.ret (.cst (.bl false))) .nil) .nil) (.cons (.ret (.isb false (.mth 44 (.mk 11 0 (.cons (.bi .tuple (.cons (.fn 84 (.cons (.cst (.str (Str.ofString "ab"))) .nil)) .nil)) .nil) .nil) (.cons (.var 4) (.cons (.var 5) .nil))) (.cst (.bl true)))) .nil))))))))))))))))))), true⟩
def f_law_large : Fn := ⟨1, 1, (.cons .never (.cons .never .nil)), true⟩
def f_law_twins_right : Fn := ⟨0, 5, (.cons (.asg (.nm 0) (.mk 6 5 (.cons (.tup (.cons (.tup (.cons (.cst (.str (Str.ofString "all"))) (.cons (.tup (.cons (.cst (.str (Str.ofString "bucket"))) (.cons (.cst (.int 1)) (.cons (.cst (.int 2)) .nil)))) .nil))) .nil)) .nil) .nil)) (.cons (.ifs (.cmp .NotEq (.fn 38 (.cons (.var 0) .nil)) (.lst true (.cons (.tup (.cons (.tup (.cons (.cst (.int 1)) (.cons (.cst (.int 0)) .nil))) .nil)) (.cons (.tup (.cons (.tup (.cons (.cst (.int 1)) (.cons (.cst (.int 1)) .nil))) .nil)) (.cons (.tup (.cons (.tup (.cons (.cst (.int 0)) (.cons (.cst (.int 0)) .nil))) .nil)) (.cons (.tup (.cons (.tup (.cons (.cst (.int 0)) (.cons (.cst (.int 1)) .nil))) .nil)) .nil)))))) (.cons (.ret (.cst (.bl false))) .nil) .nil) (.cons (.asg (.nm 1) (.fn 50 (.cons (.var 0) .nil))) (.cons (.ifs (.cmp .NotEq (.fld (.var 1) 18) (.lst true (.cons (.lst true (.cons (.tup (.cons (.tup (.cons (.cst (.int 1)) (.cons (.cst (.int 0)) .nil))) .nil)) .nil)) (.cons (.lst true (.cons (.tup (.cons (.tup (.cons (.cst (.int 1)) (.cons (.cst (.int 1)) .nil))) .nil)) .nil)) (.cons (.lst true (.cons (.tup (.cons (.tup (.cons (.cst (.int 0)) (.cons (.cst (.int 0)) .nil))) .nil)) .nil)) (.cons (.lst true (.cons (.tup (.cons (.tup (.cons (.cst (.int 0)) (.cons (.cst (.int 1)) .nil))) .nil)) .nil)) .nil)))))) (.cons (.ret (.cst (.bl false))) .nil) .nil) (.cons (.ifs (.cmp .NotEq (.dget (.fld (.var 1) 22) (.tup (.cons (.cst (.int 0)) (.cons (.cst (.int 1)) .nil)))) (.bi .tuple (.cons (.fn 84 (.cons (.cst (.str (Str.ofString "ata"))) .nil)) .nil))) (.cons (.ret (.cst (.bl false))) .nil) .nil) (.cons (.ifs (.cmp .NotEq (.dget (.fld (.var 1) 22) (.tup (.cons (.cst (.int 2)) (.cons (.cst (.int 3)) .nil)))) (.bi .tuple (.cons (.fn 84 (.cons (.cst (.str (Str.ofString "ta"))) .nil)) .nil))) (.cons (.ret (.cst (.bl false))) .nil) .nil) (.cons (.asg (.nm 2) (.mk 6 4 (.cons (.tup (.cons (.tup (.cons (.cst (.str (Str.ofString "all"))) (.cons (.tup (.cons (.cst (.str (Str.ofString "slide"))) (.cons (.cst (.int 1)) (.cons (.cst (.int 3)) .nil)))) .nil))) (.cons (.tup (.cons (.cst (.str (Str.ofString "each"))) (.cons (.tup (.cons (.cst (.str (Str.ofString "gap"))) (.cons (.cst (.int 3)) .nil))) .nil))) (.cons (.tup (.cons (.cst (.str (Str.ofString "all"))) (.cons (.tup (.cons (.cst (.str (Str.ofString "gap"))) (.cons (.cst (.int 3)) .nil))) .nil))) .nil)))) .nil) (.cons (.cst (.int 2)) .nil))) (.cons (.ifs (.or (.cmp .NotEq (.fn 78 (.cons (.var 0) .nil)) (.lst true .nil)) (.cmp .NotEq (.fld (.fn 83 (.cons (.var 0) .nil)) 17) (.tup (.cons (.cst (.int 0)) .nil)))) (.cons (.ret (.cst (.bl false))) .nil) .nil) (.cons (.ifs (.or (.cmp .NotEq (.fn 78 (.cons (.var 2) .nil)) (.lst true (.cons (.cst (.int 0)) (.cons (.cst (.int 1)) (.cons (.cst (.int 2)) .nil))))) (.or (.cmp .NotEq (.fld (.fn 83 (.cons (.var 2) .nil)) 17) (.tup (.cons (.cst (.int 0)) .nil))) (.deq true (.fld (.fn 83 (.cons (.var 2) .nil)) 22) .dnew))) (.cons (.ret (.cst (.bl false))) .nil) .nil) (.cons (.asg (.nm 3) (.mk 6 4 (.cons (.tup (.cons (.tup (.cons (.cst (.str (Str.ofString "each"))) (.cons (.tup (.cons (.cst (.str (Str.ofString "gap"))) (.cons (.cst (.int 1)) .nil))) .nil))) (.cons (.tup (.cons (.cst (.str (Str.ofString "all"))) (.cons (.tup (.cons (.cst (.str (Str.ofString "gap"))) (.cons (.cst (.int 2)) .nil))) .nil))) (.cons (.tup (.cons (.cst (.str (Str.ofString "each"))) (.cons (.tup (.cons (.cst (.str (Str.ofString "window"))) (.cons (.cst (.int 1)) (.cons (.cst (.int 1)) .nil)))) .nil))) .nil)))) .nil) (.cons (.cst (.int 2)) .nil))) (.cons (.ifs (.or (.cmp .NotEq (.fn 78 (.cons (.var 3) .nil)) (.lst true (.cons (.cst (.int 0)) (.cons (.cst (.int 2)) .nil)))) (.or (.cmp .NotEq (.fld (.fn 83 (.cons (.var 3) .nil)) 17) (.tup (.cons (.cst (.int 1)) .nil))) (.cmp .NotEq (.dlen (.fld (.fn 83 (.cons (.var 3) .nil)) 22)) (.cst (.int 0))))) (.cons (.ret (.cst (.bl false))) .nil) .nil) (.cons (.asg (.nm 4) (.mk 6 4 (.cons (.tup (.cons (.tup (.cons (.cst (.str (Str.ofString "each"))) (.cons (.tup (.cons (.cst (.str (Str.ofString "slide"))) (.cons (.cst (.int 2)) (.cons (.cst (.int 6)) .nil)))) .nil))) .nil)) .nil) (.cons (.cst (.int 2)) .nil))) (.cons (.ifs (.not (.xl 88 38 (.cons (.var 4) .nil) 5)) (.cons (.ret (.cst (.bl false))) .nil) .nil) (.cons (.ifs (.not (.xl 88 50 (.cons (.var 4) .nil) 5)) (.cons (.ret (.cst (.bl false))) .nil) .nil) (.cons (.ret (.cmp .Eq (.bi .len (.cons (.fn 38 (.cons (.mk 6 5 (.cons (.prp 33 (.var 4)) .nil) .nil) .nil)) .nil)) (.cst (.int 28)))) .nil))))))))))))))), true⟩
def f_law : Fn := ⟨1, 1, (.cons (.ret (.and (.fn 86 .nil) (.and (.fn 87 .nil) (.fn 89 .nil)))) .nil), true⟩
def topS (i : Nat) : Stmt := PySem.Challenge.pw_limitwithin_k06_known.main.body.getD i (.Pass ⟨0, 0, 0, 0⟩)
def clsB : Stmt → List Stmt
  | .ClassDef (body := b) .. => b
  | _ => []
def topM (i j : Nat) : Stmt := (clsB (topS i)).getD j (.Pass ⟨0, 0, 0, 0⟩)
def r0 : FR := ⟨.glo (Str.ofString "_wall"), ⟨(Str.ofString "", none), Str.ofString "_wall", Str.ofString "_wall", defArgs (topS 0), defBody (topS 0), defScope (topS 0), [], []⟩, [Str.ofString "k"], [Str.ofString "k"], f_wall⟩
def r3 : FR := ⟨.glo (Str.ofString "is_integer"), ⟨(Str.ofString "", none), Str.ofString "is_integer", Str.ofString "is_integer", defArgs (topS 15), defBody (topS 15), defScope (topS 15), [], []⟩, [Str.ofString "value", Str.ofString "low", Str.ofString "high"], [Str.ofString "value", Str.ofString "low", Str.ofString "high"], f_is_integer⟩
def r4 : FR := ⟨.glo (Str.ofString "is_word"), ⟨(Str.ofString "", none), Str.ofString "is_word", Str.ofString "is_word", defArgs (topS 16), defBody (topS 16), defScope (topS 16), [], []⟩, [Str.ofString "value", Str.ofString "words"], [Str.ofString "value", Str.ofString "words"], f_is_word⟩
def r5 : FR := ⟨.glo (Str.ofString "is_part"), ⟨(Str.ofString "", none), Str.ofString "is_part", Str.ofString "is_part", defArgs (topS 17), defBody (topS 17), defScope (topS 17), [], []⟩, [Str.ofString "value"], [Str.ofString "value"], f_is_part⟩
def r6 : FR := ⟨.glo (Str.ofString "is_link"), ⟨(Str.ofString "", none), Str.ofString "is_link", Str.ofString "is_link", defArgs (topS 18), defBody (topS 18), defScope (topS 18), [], []⟩, [Str.ofString "value"], [Str.ofString "value"], f_is_link⟩
def r7 : FR := ⟨.mth (Str.ofString "Chain") (Str.ofString "__init__"), ⟨(Str.ofString "", none), Str.ofString "__init__", Str.ofString "Chain.__init__", defArgs (topM 19 0), defBody (topM 19 0), defScope (topM 19 0), [], [(Str.ofString "callers", .int 1), (Str.ofString "charges", .bl false)]⟩, [Str.ofString "self", Str.ofString "links", Str.ofString "callers", Str.ofString "charges", Str.ofString "one"], [Str.ofString "self", Str.ofString "links", Str.ofString "callers", Str.ofString "charges"], f_Chain_init⟩
def r8 : FR := ⟨.prp (Str.ofString "Chain") (Str.ofString "links"), ⟨(Str.ofString "", none), Str.ofString "links", Str.ofString "Chain.links", defArgs (topM 19 1), defBody (topM 19 1), defScope (topM 19 1), [], []⟩, [Str.ofString "self"], [Str.ofString "self"], f_Chain_links⟩
def r9 : FR := ⟨.prp (Str.ofString "Chain") (Str.ofString "callers"), ⟨(Str.ofString "", none), Str.ofString "callers", Str.ofString "Chain.callers", defArgs (topM 19 2), defBody (topM 19 2), defScope (topM 19 2), [], []⟩, [Str.ofString "self"], [Str.ofString "self"], f_Chain_callers⟩
def r10 : FR := ⟨.prp (Str.ofString "Chain") (Str.ofString "charges"), ⟨(Str.ofString "", none), Str.ofString "charges", Str.ofString "Chain.charges", defArgs (topM 19 3), defBody (topM 19 3), defScope (topM 19 3), [], []⟩, [Str.ofString "self"], [Str.ofString "self"], f_Chain_charges⟩
def r11 : FR := ⟨.mth (Str.ofString "Chain") (Str.ofString "__eq__"), ⟨(Str.ofString "", none), Str.ofString "__eq__", Str.ofString "Chain.__eq__", defArgs (topM 19 4), defBody (topM 19 4), defScope (topM 19 4), [], []⟩, [Str.ofString "self", Str.ofString "other"], [Str.ofString "self", Str.ofString "other"], f_Chain_eq⟩
def r12 : FR := ⟨.mth (Str.ofString "Chain") (Str.ofString "all_parts"), ⟨(Str.ofString "", none), Str.ofString "all_parts", Str.ofString "Chain.all_parts", defArgs (topM 19 5), defBody (topM 19 5), defScope (topM 19 5), [], []⟩, [Str.ofString "self"], [Str.ofString "self"], f_Chain_all_parts⟩
def r13 : FR := ⟨.glo (Str.ofString "check_chain"), ⟨(Str.ofString "", none), Str.ofString "check_chain", Str.ofString "check_chain", defArgs (topS 20), defBody (topS 20), defScope (topS 20), [], []⟩, [Str.ofString "chain"], [Str.ofString "chain"], f_check_chain⟩
def r14 : FR := ⟨.glo (Str.ofString "events_of"), ⟨(Str.ofString "", none), Str.ofString "events_of", Str.ofString "events_of", defArgs (topS 21), defBody (topS 21), defScope (topS 21), [], []⟩, [Str.ofString "chain", Str.ofString "caller"], [Str.ofString "chain"], f_events_of⟩
def r15 : FR := ⟨.glo (Str.ofString "is_event"), ⟨(Str.ofString "", none), Str.ofString "is_event", Str.ofString "is_event", defArgs (topS 22), defBody (topS 22), defScope (topS 22), [], []⟩, [Str.ofString "chain", Str.ofString "value"], [Str.ofString "chain", Str.ofString "value"], f_is_event⟩
def r16 : FR := ⟨.glo (Str.ofString "first_of"), ⟨(Str.ofString "", none), Str.ofString "first_of", Str.ofString "first_of", defArgs (topS 24), defBody (topS 24), defScope (topS 24), [], []⟩, [Str.ofString "part"], [Str.ofString "part"], f_first_of⟩
def r17 : FR := ⟨.glo (Str.ofString "ticked"), ⟨(Str.ofString "", none), Str.ofString "ticked", Str.ofString "ticked", defArgs (topS 25), defBody (topS 25), defScope (topS 25), [], []⟩, [Str.ofString "part", Str.ofString "value", Str.ofString "tokens", Str.ofString "since", Str.ofString "count", Str.ofString "age"], [Str.ofString "part", Str.ofString "value"], f_ticked⟩
def r18 : FR := ⟨.glo (Str.ofString "does_let"), ⟨(Str.ofString "", none), Str.ofString "does_let", Str.ofString "does_let", defArgs (topS 26), defBody (topS 26), defScope (topS 26), [], []⟩, [Str.ofString "part", Str.ofString "value"], [Str.ofString "part", Str.ofString "value"], f_does_let⟩
def r19 : FR := ⟨.glo (Str.ofString "counted"), ⟨(Str.ofString "", none), Str.ofString "counted", Str.ofString "counted", defArgs (topS 27), defBody (topS 27), defScope (topS 27), [], []⟩, [Str.ofString "part", Str.ofString "value"], [Str.ofString "part", Str.ofString "value"], f_counted⟩
def r20 : FR := ⟨.glo (Str.ofString "first_state"), ⟨(Str.ofString "", none), Str.ofString "first_state", Str.ofString "first_state", defArgs (topS 28), defBody (topS 28), defScope (topS 28), [], []⟩, [Str.ofString "chain", Str.ofString "found", Str.ofString "scope", Str.ofString "part"], [Str.ofString "chain"], f_first_state⟩
def r21 : FR := ⟨.glo (Str.ofString "after_tick"), ⟨(Str.ofString "", none), Str.ofString "after_tick", Str.ofString "after_tick", defArgs (topS 29), defBody (topS 29), defScope (topS 29), [], []⟩, [Str.ofString "chain", Str.ofString "value", Str.ofString "found", Str.ofString "scope", Str.ofString "part", Str.ofString "one", Str.ofString "alone"], [Str.ofString "chain", Str.ofString "value"], f_after_tick⟩
def r22 : FR := ⟨.glo (Str.ofString "lets_at"), ⟨(Str.ofString "", none), Str.ofString "lets_at", Str.ofString "lets_at", defArgs (topS 30), defBody (topS 30), defScope (topS 30), [], []⟩, [Str.ofString "chain", Str.ofString "value", Str.ofString "index", Str.ofString "caller", Str.ofString "scope", Str.ofString "part"], [Str.ofString "chain", Str.ofString "value", Str.ofString "index", Str.ofString "caller"], f_lets_at⟩
def r23 : FR := ⟨.glo (Str.ofString "counted_at"), ⟨(Str.ofString "", none), Str.ofString "counted_at", Str.ofString "counted_at", defArgs (topS 31), defBody (topS 31), defScope (topS 31), [], []⟩, [Str.ofString "chain", Str.ofString "value", Str.ofString "index", Str.ofString "caller", Str.ofString "scope", Str.ofString "part", Str.ofString "one", Str.ofString "later"], [Str.ofString "chain", Str.ofString "value", Str.ofString "index", Str.ofString "caller"], f_counted_at⟩
def r24 : FR := ⟨.glo (Str.ofString "answer_at"), ⟨(Str.ofString "", none), Str.ofString "answer_at", Str.ofString "answer_at", defArgs (topS 32), defBody (topS 32), defScope (topS 32), [], []⟩, [Str.ofString "chain", Str.ofString "value", Str.ofString "caller", Str.ofString "index"], [Str.ofString "chain", Str.ofString "value", Str.ofString "caller"], f_answer_at⟩
def r25 : FR := ⟨.glo (Str.ofString "after_ask"), ⟨(Str.ofString "", none), Str.ofString "after_ask", Str.ofString "after_ask", defArgs (topS 33), defBody (topS 33), defScope (topS 33), [], []⟩, [Str.ofString "chain", Str.ofString "value", Str.ofString "caller", Str.ofString "is_let", Str.ofString "index"], [Str.ofString "chain", Str.ofString "value", Str.ofString "caller"], f_after_ask⟩
def r26 : FR := ⟨.glo (Str.ofString "after_event"), ⟨(Str.ofString "", none), Str.ofString "after_event", Str.ofString "after_event", defArgs (topS 34), defBody (topS 34), defScope (topS 34), [], []⟩, [Str.ofString "chain", Str.ofString "value", Str.ofString "event"], [Str.ofString "chain", Str.ofString "value", Str.ofString "event"], f_after_event⟩
def r27 : FR := ⟨.mth (Str.ofString "Machine") (Str.ofString "__init__"), ⟨(Str.ofString "", none), Str.ofString "__init__", Str.ofString "Machine.__init__", defArgs (topM 35 0), defBody (topM 35 0), defScope (topM 35 0), [], []⟩, [Str.ofString "self", Str.ofString "chain"], [Str.ofString "self", Str.ofString "chain"], f_Machine_init⟩
def r28 : FR := ⟨.prp (Str.ofString "Machine") (Str.ofString "chain"), ⟨(Str.ofString "", none), Str.ofString "chain", Str.ofString "Machine.chain", defArgs (topM 35 1), defBody (topM 35 1), defScope (topM 35 1), [], []⟩, [Str.ofString "self"], [Str.ofString "self"], f_Machine_chain⟩
def r29 : FR := ⟨.prp (Str.ofString "Machine") (Str.ofString "state"), ⟨(Str.ofString "", none), Str.ofString "state", Str.ofString "Machine.state", defArgs (topM 35 2), defBody (topM 35 2), defScope (topM 35 2), [], []⟩, [Str.ofString "self"], [Str.ofString "self"], f_Machine_state⟩
def r30 : FR := ⟨.prp (Str.ofString "Machine") (Str.ofString "past"), ⟨(Str.ofString "", none), Str.ofString "past", Str.ofString "Machine.past", defArgs (topM 35 3), defBody (topM 35 3), defScope (topM 35 3), [], []⟩, [Str.ofString "self"], [Str.ofString "self"], f_Machine_past⟩
def r31 : FR := ⟨.mth (Str.ofString "Machine") (Str.ofString "__len__"), ⟨(Str.ofString "", none), Str.ofString "__len__", Str.ofString "Machine.__len__", defArgs (topM 35 4), defBody (topM 35 4), defScope (topM 35 4), [], []⟩, [Str.ofString "self"], [Str.ofString "self"], f_Machine_len⟩
def r32 : FR := ⟨.mth (Str.ofString "Machine") (Str.ofString "lets"), ⟨(Str.ofString "", none), Str.ofString "lets", Str.ofString "Machine.lets", defArgs (topM 35 5), defBody (topM 35 5), defScope (topM 35 5), [], []⟩, [Str.ofString "self", Str.ofString "caller"], [Str.ofString "self", Str.ofString "caller"], f_Machine_lets⟩
def r33 : FR := ⟨.mth (Str.ofString "Machine") (Str.ofString "do"), ⟨(Str.ofString "", none), Str.ofString "do", Str.ofString "Machine.do", defArgs (topM 35 6), defBody (topM 35 6), defScope (topM 35 6), [], []⟩, [Str.ofString "self", Str.ofString "event", Str.ofString "answer"], [Str.ofString "self", Str.ofString "event"], f_Machine_do⟩
def r34 : FR := ⟨.mth (Str.ofString "Machine") (Str.ofString "copy"), ⟨(Str.ofString "", none), Str.ofString "copy", Str.ofString "Machine.copy", defArgs (topM 35 7), defBody (topM 35 7), defScope (topM 35 7), [], []⟩, [Str.ofString "self"], [Str.ofString "self"], f_Machine_copy⟩
def r35 : FR := ⟨.glo (Str.ofString "check_history"), ⟨(Str.ofString "", none), Str.ofString "check_history", Str.ofString "check_history", defArgs (topS 36), defBody (topS 36), defScope (topS 36), [], []⟩, [Str.ofString "chain", Str.ofString "history", Str.ofString "index", Str.ofString "event"], [Str.ofString "chain", Str.ofString "history"], f_check_history⟩
def r36 : FR := ⟨.glo (Str.ofString "run"), ⟨(Str.ofString "", none), Str.ofString "run", Str.ofString "run", defArgs (topS 37), defBody (topS 37), defScope (topS 37), [], []⟩, [Str.ofString "chain", Str.ofString "history", Str.ofString "machine", Str.ofString "event"], [Str.ofString "chain", Str.ofString "history"], f_run⟩
def r37 : FR := ⟨.glo (Str.ofString "reached"), ⟨(Str.ofString "", none), Str.ofString "reached", Str.ofString "reached", defArgs (topS 40), defBody (topS 40), defScope (topS 40), [], []⟩, [Str.ofString "chain", Str.ofString "start", Str.ofString "known", Str.ofString "layer", Str.ofString "fresh", Str.ofString "value", Str.ofString "event", Str.ofString "later"], [Str.ofString "chain"], f_reached⟩
def r38 : FR := ⟨.glo (Str.ofString "states"), ⟨(Str.ofString "", none), Str.ofString "states", Str.ofString "states", defArgs (topS 41), defBody (topS 41), defScope (topS 41), [], []⟩, [Str.ofString "chain"], [Str.ofString "chain"], f_states⟩
def r39 : FR := ⟨.glo (Str.ofString "grouped"), ⟨(Str.ofString "", none), Str.ofString "grouped", Str.ofString "grouped", defArgs (topS 42), defBody (topS 42), defScope (topS 42), [], []⟩, [Str.ofString "rows", Str.ofString "numbers", Str.ofString "value", Str.ofString "key"], [Str.ofString "rows"], f_grouped⟩
def r40 : FR := ⟨.glo (Str.ofString "groups_of"), ⟨(Str.ofString "", none), Str.ofString "groups_of", Str.ofString "groups_of", defArgs (topS 43), defBody (topS 43), defScope (topS 43), [], []⟩, [Str.ofString "chain", Str.ofString "values", Str.ofString "found", Str.ofString "value", Str.ofString "many", Str.ofString "number"], [Str.ofString "chain", Str.ofString "values"], f_groups_of⟩
def r41 : FR := ⟨.glo (Str.ofString "key_of"), ⟨(Str.ofString "", none), Str.ofString "key_of", Str.ofString "key_of", defArgs (topS 44), defBody (topS 44), defScope (topS 44), [], []⟩, [Str.ofString "chain", Str.ofString "value", Str.ofString "found", Str.ofString "event"], [Str.ofString "chain", Str.ofString "value", Str.ofString "found"], f_key_of⟩
def r42 : FR := ⟨.glo (Str.ofString "looked"), ⟨(Str.ofString "", none), Str.ofString "looked", Str.ofString "looked", defArgs (topS 45), defBody (topS 45), defScope (topS 45), [], []⟩, [Str.ofString "chain", Str.ofString "value", Str.ofString "event", Str.ofString "found", Str.ofString "answer", Str.ofString "later"], [Str.ofString "chain", Str.ofString "value", Str.ofString "event", Str.ofString "found"], f_looked⟩
def r43 : FR := ⟨.glo (Str.ofString "parting_of"), ⟨(Str.ofString "", none), Str.ofString "parting_of", Str.ofString "parting_of", defArgs (topS 46), defBody (topS 46), defScope (topS 46), [], []⟩, [Str.ofString "chain", Str.ofString "one", Str.ofString "other", Str.ofString "pairs", Str.ofString "layer", Str.ofString "fresh", Str.ofString "pair", Str.ofString "event", Str.ofString "mine", Str.ofString "here", Str.ofString "theirs", Str.ofString "there"], [Str.ofString "chain", Str.ofString "one", Str.ofString "other"], f_parting_of⟩
def r44 : FR := ⟨.glo (Str.ofString "does_part"), ⟨(Str.ofString "", none), Str.ofString "does_part", Str.ofString "does_part", defArgs (topS 47), defBody (topS 47), defScope (topS 47), [], []⟩, [Str.ofString "chain", Str.ofString "one", Str.ofString "other", Str.ofString "history", Str.ofString "is_parted", Str.ofString "event", Str.ofString "mine", Str.ofString "theirs"], [Str.ofString "chain", Str.ofString "one", Str.ofString "other", Str.ofString "history"], f_does_part⟩
def r45 : FR := ⟨.glo (Str.ofString "listed"), ⟨(Str.ofString "", none), Str.ofString "listed", Str.ofString "listed", defArgs (topS 48), defBody (topS 48), defScope (topS 48), [], []⟩, [Str.ofString "chain", Str.ofString "values", Str.ofString "groups", Str.ofString "found", Str.ofString "number", Str.ofString "value"], [Str.ofString "chain"], f_listed⟩
def r46 : FR := ⟨.mth (Str.ofString "Classes") (Str.ofString "__init__"), ⟨(Str.ofString "", none), Str.ofString "__init__", Str.ofString "Classes.__init__", defArgs (topM 49 0), defBody (topM 49 0), defScope (topM 49 0), [], []⟩, [Str.ofString "self", Str.ofString "classes", Str.ofString "doubts", Str.ofString "some", Str.ofString "pair", Str.ofString "history"], [Str.ofString "self", Str.ofString "classes", Str.ofString "doubts"], f_Classes_init⟩
def r47 : FR := ⟨.mth (Str.ofString "Classes") (Str.ofString "__eq__"), ⟨(Str.ofString "", none), Str.ofString "__eq__", Str.ofString "Classes.__eq__", defArgs (topM 49 1), defBody (topM 49 1), defScope (topM 49 1), [], []⟩, [Str.ofString "self", Str.ofString "other"], [Str.ofString "self", Str.ofString "other"], f_Classes_eq⟩
def r48 : FR := ⟨.mth (Str.ofString "Classes") (Str.ofString "shows"), ⟨(Str.ofString "", none), Str.ofString "shows", Str.ofString "Classes.shows", defArgs (topM 49 2), defBody (topM 49 2), defScope (topM 49 2), [], []⟩, [Str.ofString "self", Str.ofString "chain", Str.ofString "due", Str.ofString "pair", Str.ofString "one", Str.ofString "other"], [Str.ofString "self", Str.ofString "chain"], f_Classes_shows⟩
def r49 : FR := ⟨.glo (Str.ofString "pairs_of"), ⟨(Str.ofString "", none), Str.ofString "pairs_of", Str.ofString "pairs_of", defArgs (topS 50), defBody (topS 50), defScope (topS 50), [], []⟩, [Str.ofString "many", Str.ofString "one", Str.ofString "other"], [Str.ofString "many"], f_pairs_of⟩
def r50 : FR := ⟨.glo (Str.ofString "classes"), ⟨(Str.ofString "", none), Str.ofString "classes", Str.ofString "classes", defArgs (topS 51), defBody (topS 51), defScope (topS 51), [], []⟩, [Str.ofString "chain", Str.ofString "found", Str.ofString "doubts", Str.ofString "pair"], [Str.ofString "chain"], f_classes⟩
def r51 : FR := ⟨.glo (Str.ofString "check_two"), ⟨(Str.ofString "", none), Str.ofString "check_two", Str.ofString "check_two", defArgs (topS 54), defBody (topS 54), defScope (topS 54), [], []⟩, [Str.ofString "one", Str.ofString "other"], [Str.ofString "one", Str.ofString "other"], f_check_two⟩
def r52 : FR := ⟨.glo (Str.ofString "steps_from"), ⟨(Str.ofString "", none), Str.ofString "steps_from", Str.ofString "steps_from", defArgs (topS 55), defBody (topS 55), defScope (topS 55), [], []⟩, [Str.ofString "one", Str.ofString "other", Str.ofString "pair", Str.ofString "found", Str.ofString "event", Str.ofString "mine", Str.ofString "here", Str.ofString "theirs", Str.ofString "there"], [Str.ofString "one", Str.ofString "other", Str.ofString "pair"], f_steps_from⟩
def r53 : FR := ⟨.glo (Str.ofString "breaks_within"), ⟨(Str.ofString "", none), Str.ofString "breaks_within", Str.ofString "breaks_within", defArgs (topS 56), defBody (topS 56), defScope (topS 56), [], []⟩, [Str.ofString "mine", Str.ofString "theirs"], [Str.ofString "mine", Str.ofString "theirs"], f_breaks_within⟩
def r54 : FR := ⟨.glo (Str.ofString "breaks_alike"), ⟨(Str.ofString "", none), Str.ofString "breaks_alike", Str.ofString "breaks_alike", defArgs (topS 57), defBody (topS 57), defScope (topS 57), [], []⟩, [Str.ofString "mine", Str.ofString "theirs"], [Str.ofString "mine", Str.ofString "theirs"], f_breaks_alike⟩
def r55 : FR := ⟨.glo (Str.ofString "goes_on"), ⟨(Str.ofString "", none), Str.ofString "goes_on", Str.ofString "goes_on", defArgs (topS 58), defBody (topS 58), defScope (topS 58), [], []⟩, [Str.ofString "mine", Str.ofString "is_alike"], [Str.ofString "mine", Str.ofString "is_alike"], f_goes_on⟩
def r56 : FR := ⟨.mth (Str.ofString "Comparison") (Str.ofString "__init__"), ⟨(Str.ofString "", none), Str.ofString "__init__", Str.ofString "Comparison.__init__", defArgs (topM 59 0), defBody (topM 59 0), defScope (topM 59 0), [], []⟩, [Str.ofString "self", Str.ofString "one", Str.ofString "other", Str.ofString "is_alike", Str.ofString "start", Str.ofString "layer"], [Str.ofString "self", Str.ofString "one", Str.ofString "other", Str.ofString "is_alike"], f_Comparison_init⟩
def r57 : FR := ⟨.mth (Str.ofString "Comparison") (Str.ofString "next_layer"), ⟨(Str.ofString "", none), Str.ofString "next_layer", Str.ofString "Comparison.next_layer", defArgs (topM 59 1), defBody (topM 59 1), defScope (topM 59 1), [], []⟩, [Str.ofString "self", Str.ofString "layer", Str.ofString "fresh", Str.ofString "pair", Str.ofString "event", Str.ofString "mine", Str.ofString "theirs", Str.ofString "later"], [Str.ofString "self", Str.ofString "layer"], f_Comparison_next_layer⟩
def r58 : FR := ⟨.glo (Str.ofString "is_closed"), ⟨(Str.ofString "", none), Str.ofString "is_closed", Str.ofString "is_closed", defArgs (topS 60), defBody (topS 60), defScope (topS 60), [], []⟩, [Str.ofString "one", Str.ofString "other", Str.ofString "pairs", Str.ofString "is_alike", Str.ofString "known", Str.ofString "pair", Str.ofString "event", Str.ofString "mine", Str.ofString "theirs", Str.ofString "later"], [Str.ofString "one", Str.ofString "other", Str.ofString "pairs", Str.ofString "is_alike"], f_is_closed⟩
def r59 : FR := ⟨.glo (Str.ofString "is_parting"), ⟨(Str.ofString "", none), Str.ofString "is_parting", Str.ofString "is_parting", defArgs (topS 61), defBody (topS 61), defScope (topS 61), [], []⟩, [Str.ofString "one", Str.ofString "other", Str.ofString "history", Str.ofString "is_alike", Str.ofString "pair", Str.ofString "is_parted", Str.ofString "event", Str.ofString "mine", Str.ofString "here", Str.ofString "theirs", Str.ofString "there"], [Str.ofString "one", Str.ofString "other", Str.ofString "history", Str.ofString "is_alike"], f_is_parting⟩
def r60 : FR := ⟨.mth (Str.ofString "Within") (Str.ofString "__init__"), ⟨(Str.ofString "", none), Str.ofString "__init__", Str.ofString "Within.__init__", defArgs (topM 62 0), defBody (topM 62 0), defScope (topM 62 0), [], []⟩, [Str.ofString "self", Str.ofString "pairs"], [Str.ofString "self", Str.ofString "pairs"], f_Within_init⟩
def r61 : FR := ⟨.mth (Str.ofString "Within") (Str.ofString "__eq__"), ⟨(Str.ofString "", none), Str.ofString "__eq__", Str.ofString "Within.__eq__", defArgs (topM 62 1), defBody (topM 62 1), defScope (topM 62 1), [], []⟩, [Str.ofString "self", Str.ofString "other"], [Str.ofString "self", Str.ofString "other"], f_Within_eq⟩
def r62 : FR := ⟨.mth (Str.ofString "Within") (Str.ofString "shows"), ⟨(Str.ofString "", none), Str.ofString "shows", Str.ofString "Within.shows", defArgs (topM 62 2), defBody (topM 62 2), defScope (topM 62 2), [], []⟩, [Str.ofString "self", Str.ofString "one", Str.ofString "other"], [Str.ofString "self", Str.ofString "one", Str.ofString "other"], f_Within_shows⟩
def r63 : FR := ⟨.mth (Str.ofString "Escapes") (Str.ofString "__init__"), ⟨(Str.ofString "", none), Str.ofString "__init__", Str.ofString "Escapes.__init__", defArgs (topM 63 0), defBody (topM 63 0), defScope (topM 63 0), [], []⟩, [Str.ofString "self", Str.ofString "history"], [Str.ofString "self", Str.ofString "history"], f_Escapes_init⟩
def r64 : FR := ⟨.mth (Str.ofString "Escapes") (Str.ofString "__eq__"), ⟨(Str.ofString "", none), Str.ofString "__eq__", Str.ofString "Escapes.__eq__", defArgs (topM 63 1), defBody (topM 63 1), defScope (topM 63 1), [], []⟩, [Str.ofString "self", Str.ofString "other"], [Str.ofString "self", Str.ofString "other"], f_Escapes_eq⟩
def r65 : FR := ⟨.mth (Str.ofString "Escapes") (Str.ofString "shows"), ⟨(Str.ofString "", none), Str.ofString "shows", Str.ofString "Escapes.shows", defArgs (topM 63 2), defBody (topM 63 2), defScope (topM 63 2), [], []⟩, [Str.ofString "self", Str.ofString "one", Str.ofString "other"], [Str.ofString "self", Str.ofString "one", Str.ofString "other"], f_Escapes_shows⟩
def r66 : FR := ⟨.mth (Str.ofString "Alike") (Str.ofString "__init__"), ⟨(Str.ofString "", none), Str.ofString "__init__", Str.ofString "Alike.__init__", defArgs (topM 64 0), defBody (topM 64 0), defScope (topM 64 0), [], []⟩, [Str.ofString "self", Str.ofString "pairs"], [Str.ofString "self", Str.ofString "pairs"], f_Alike_init⟩
def r67 : FR := ⟨.mth (Str.ofString "Alike") (Str.ofString "__eq__"), ⟨(Str.ofString "", none), Str.ofString "__eq__", Str.ofString "Alike.__eq__", defArgs (topM 64 1), defBody (topM 64 1), defScope (topM 64 1), [], []⟩, [Str.ofString "self", Str.ofString "other"], [Str.ofString "self", Str.ofString "other"], f_Alike_eq⟩
def r68 : FR := ⟨.mth (Str.ofString "Alike") (Str.ofString "shows"), ⟨(Str.ofString "", none), Str.ofString "shows", Str.ofString "Alike.shows", defArgs (topM 64 2), defBody (topM 64 2), defScope (topM 64 2), [], []⟩, [Str.ofString "self", Str.ofString "one", Str.ofString "other"], [Str.ofString "self", Str.ofString "one", Str.ofString "other"], f_Alike_shows⟩
def r69 : FR := ⟨.mth (Str.ofString "Apart") (Str.ofString "__init__"), ⟨(Str.ofString "", none), Str.ofString "__init__", Str.ofString "Apart.__init__", defArgs (topM 65 0), defBody (topM 65 0), defScope (topM 65 0), [], []⟩, [Str.ofString "self", Str.ofString "history"], [Str.ofString "self", Str.ofString "history"], f_Apart_init⟩
def r70 : FR := ⟨.mth (Str.ofString "Apart") (Str.ofString "__eq__"), ⟨(Str.ofString "", none), Str.ofString "__eq__", Str.ofString "Apart.__eq__", defArgs (topM 65 1), defBody (topM 65 1), defScope (topM 65 1), [], []⟩, [Str.ofString "self", Str.ofString "other"], [Str.ofString "self", Str.ofString "other"], f_Apart_eq⟩
def r71 : FR := ⟨.mth (Str.ofString "Apart") (Str.ofString "shows"), ⟨(Str.ofString "", none), Str.ofString "shows", Str.ofString "Apart.shows", defArgs (topM 65 2), defBody (topM 65 2), defScope (topM 65 2), [], []⟩, [Str.ofString "self", Str.ofString "one", Str.ofString "other"], [Str.ofString "self", Str.ofString "one", Str.ofString "other"], f_Apart_shows⟩
def r72 : FR := ⟨.glo (Str.ofString "within"), ⟨(Str.ofString "", none), Str.ofString "within", Str.ofString "within", defArgs (topS 66), defBody (topS 66), defScope (topS 66), [], []⟩, [Str.ofString "one", Str.ofString "other", Str.ofString "found"], [Str.ofString "one", Str.ofString "other"], f_within⟩
def r73 : FR := ⟨.glo (Str.ofString "is_within"), ⟨(Str.ofString "", none), Str.ofString "is_within", Str.ofString "is_within", defArgs (topS 67), defBody (topS 67), defScope (topS 67), [], []⟩, [Str.ofString "one", Str.ofString "other"], [Str.ofString "one", Str.ofString "other"], f_is_within⟩
def r74 : FR := ⟨.glo (Str.ofString "alike"), ⟨(Str.ofString "", none), Str.ofString "alike", Str.ofString "alike", defArgs (topS 68), defBody (topS 68), defScope (topS 68), [], []⟩, [Str.ofString "one", Str.ofString "other", Str.ofString "found"], [Str.ofString "one", Str.ofString "other"], f_alike⟩
def r75 : FR := ⟨.glo (Str.ofString "are_alike"), ⟨(Str.ofString "", none), Str.ofString "are_alike", Str.ofString "are_alike", defArgs (topS 69), defBody (topS 69), defScope (topS 69), [], []⟩, [Str.ofString "one", Str.ofString "other"], [Str.ofString "one", Str.ofString "other"], f_are_alike⟩
def r76 : FR := ⟨.glo (Str.ofString "left_by"), ⟨(Str.ofString "", none), Str.ofString "left_by", Str.ofString "left_by", defArgs (topS 71), defBody (topS 71), defScope (topS 71), [], []⟩, [Str.ofString "chain", Str.ofString "choice", Str.ofString "index"], [Str.ofString "chain", Str.ofString "choice"], f_left_by⟩
def r77 : FR := ⟨.glo (Str.ofString "parting_by"), ⟨(Str.ofString "", none), Str.ofString "parting_by", Str.ofString "parting_by", defArgs (topS 72), defBody (topS 72), defScope (topS 72), [], []⟩, [Str.ofString "chain", Str.ofString "choice"], [Str.ofString "chain", Str.ofString "choice"], f_parting_by⟩
def r78 : FR := ⟨.glo (Str.ofString "idle"), ⟨(Str.ofString "", none), Str.ofString "idle", Str.ofString "idle", defArgs (topS 73), defBody (topS 73), defScope (topS 73), [], []⟩, [Str.ofString "chain", Str.ofString "every", Str.ofString "index", Str.ofString "one"], [Str.ofString "chain"], f_idle⟩
def r79 : FR := ⟨.glo (Str.ofString "choices_of"), ⟨(Str.ofString "", none), Str.ofString "choices_of", Str.ofString "choices_of", defArgs (topS 74), defBody (topS 74), defScope (topS 74), [], []⟩, [Str.ofString "chain", Str.ofString "found", Str.ofString "index", Str.ofString "some"], [Str.ofString "chain"], f_choices_of⟩
def r80 : FR := ⟨.mth (Str.ofString "Core") (Str.ofString "__init__"), ⟨(Str.ofString "", none), Str.ofString "__init__", Str.ofString "Core.__init__", defArgs (topM 75 0), defBody (topM 75 0), defScope (topM 75 0), [], []⟩, [Str.ofString "self", Str.ofString "choice", Str.ofString "doubts", Str.ofString "some", Str.ofString "history"], [Str.ofString "self", Str.ofString "choice", Str.ofString "doubts"], f_Core_init⟩
def r81 : FR := ⟨.mth (Str.ofString "Core") (Str.ofString "__eq__"), ⟨(Str.ofString "", none), Str.ofString "__eq__", Str.ofString "Core.__eq__", defArgs (topM 75 1), defBody (topM 75 1), defScope (topM 75 1), [], []⟩, [Str.ofString "self", Str.ofString "other"], [Str.ofString "self", Str.ofString "other"], f_Core_eq⟩
def r82 : FR := ⟨.mth (Str.ofString "Core") (Str.ofString "shows"), ⟨(Str.ofString "", none), Str.ofString "shows", Str.ofString "Core.shows", defArgs (topM 75 2), defBody (topM 75 2), defScope (topM 75 2), [], []⟩, [Str.ofString "self", Str.ofString "chain", Str.ofString "fewer", Str.ofString "some"], [Str.ofString "self", Str.ofString "chain"], f_Core_shows⟩
def r83 : FR := ⟨.glo (Str.ofString "core"), ⟨(Str.ofString "", none), Str.ofString "core", Str.ofString "core", defArgs (topS 76), defBody (topS 76), defScope (topS 76), [], []⟩, [Str.ofString "chain", Str.ofString "doubts", Str.ofString "some", Str.ofString "history", Str.ofString "one"], [Str.ofString "chain"], f_core⟩
def r84 : FR := ⟨.glo (Str.ofString "_law_history"), ⟨(Str.ofString "", none), Str.ofString "_law_history", Str.ofString "_law_history", defArgs (topS 78), defBody (topS 78), defScope (topS 78), [], []⟩, [Str.ofString "_law_text", Str.ofString "_law_sign"], [Str.ofString "_law_text"], f_law_history⟩
def r85 : FR := ⟨.glo (Str.ofString "_law_answers"), ⟨(Str.ofString "", none), Str.ofString "_law_answers", Str.ofString "_law_answers", defArgs (topS 79), defBody (topS 79), defScope (topS 79), [], []⟩, [Str.ofString "_law_links", Str.ofString "_law_text", Str.ofString "_law_found", Str.ofString "_law_one"], [Str.ofString "_law_links", Str.ofString "_law_text"], f_law_answers⟩
def r86 : FR := ⟨.glo (Str.ofString "_law_runs_right"), ⟨(Str.ofString "", none), Str.ofString "_law_runs_right", Str.ofString "_law_runs_right", defArgs (topS 80), defBody (topS 80), defScope (topS 80), [], []⟩, [Str.ofString "_law_rows", Str.ofString "_law_links", Str.ofString "_law_text", Str.ofString "_law_due", Str.ofString "_law_machine", Str.ofString "_law_event"], [], f_law_runs_right⟩
def r87 : FR := ⟨.glo (Str.ofString "_law_compared_right"), ⟨(Str.ofString "", none), Str.ofString "_law_compared_right", Str.ofString "_law_compared_right", defArgs (topS 81), defBody (topS 81), defScope (topS 81), [], []⟩, [Str.ofString "_law_gap", Str.ofString "_law_slide", Str.ofString "_law_bucket", Str.ofString "_law_window", Str.ofString "_law_two", Str.ofString "_law_one", Str.ofString "_law_links", Str.ofString "_law_free", Str.ofString "_law_costly", Str.ofString "_law_rows"], [], f_law_compared_right⟩
def r88 : FR := ⟨.glo (Str.ofString "_law_large"), ⟨(Str.ofString "", none), Str.ofString "_law_large", Str.ofString "_law_large", defArgs (topS 82), defBody (topS 82), defScope (topS 82), [], []⟩, [Str.ofString "_law_what"], [Str.ofString "_law_what"], f_law_large⟩
def r89 : FR := ⟨.glo (Str.ofString "_law_twins_right"), ⟨(Str.ofString "", none), Str.ofString "_law_twins_right", Str.ofString "_law_twins_right", defArgs (topS 83), defBody (topS 83), defScope (topS 83), [], []⟩, [Str.ofString "_law_chain", Str.ofString "_law_found", Str.ofString "_law_both", Str.ofString "_law_some", Str.ofString "_law_wide"], [], f_law_twins_right⟩
def r90 : FR := ⟨.glo (Str.ofString "law"), ⟨(Str.ofString "", none), Str.ofString "law", Str.ofString "law", defArgs (topS 84), defBody (topS 84), defScope (topS 84), [], []⟩, [Str.ofString "_law_script"], [Str.ofString "_law_script"], f_law⟩
def pd : PD where
  cn := [(6, Str.ofString "Chain"), (7, Str.ofString "Machine"), (8, Str.ofString "Classes"), (9, Str.ofString "Comparison"), (10, Str.ofString "Within"), (11, Str.ofString "Escapes"), (12, Str.ofString "Alike"), (13, Str.ofString "Apart"), (14, Str.ofString "Core")]
  nms := [Str.ofString "MAX_CALLERS", Str.ofString "MAX_LIMIT", Str.ofString "MAX_LINKS", Str.ofString "MAX_PAIRS", Str.ofString "MAX_SPAN", Str.ofString "MAX_STATES", Str.ofString "SCOPES", Str.ofString "TICK", Str.ofString "__eq__", Str.ofString "__init__", Str.ofString "__len__", Str.ofString "__name__", Str.ofString "all_parts", Str.ofString "append", Str.ofString "callers", Str.ofString "chain", Str.ofString "charges", Str.ofString "choice", Str.ofString "classes", Str.ofString "copy", Str.ofString "costly", Str.ofString "do", Str.ofString "doubts", Str.ofString "extend", Str.ofString "folk", Str.ofString "found", Str.ofString "histories", Str.ofString "history", Str.ofString "index", Str.ofString "is_alike", Str.ofString "items", Str.ofString "join", Str.ofString "lets", Str.ofString "links", Str.ofString "next_layer", Str.ofString "now", Str.ofString "one", Str.ofString "other", Str.ofString "pairs", Str.ofString "part", Str.ofString "past", Str.ofString "plan", Str.ofString "rows", Str.ofString "setdefault", Str.ofString "shows", Str.ofString "state", Str.ofString "trail", Str.ofString "update", Str.ofString "values"]
  frs := [(0, r0), (3, r3), (4, r4), (5, r5), (6, r6), (7, r7), (8, r8), (9, r9), (10, r10), (11, r11), (12, r12), (13, r13), (14, r14), (15, r15), (16, r16), (17, r17), (18, r18), (19, r19), (20, r20), (21, r21), (22, r22), (23, r23), (24, r24), (25, r25), (26, r26), (27, r27), (28, r28), (29, r29), (30, r30), (31, r31), (32, r32), (33, r33), (34, r34), (35, r35), (36, r36), (37, r37), (38, r38), (39, r39), (40, r40), (41, r41), (42, r42), (43, r43), (44, r44), (45, r45), (46, r46), (47, r47), (48, r48), (49, r49), (50, r50), (51, r51), (52, r52), (53, r53), (54, r54), (55, r55), (56, r56), (57, r57), (58, r58), (59, r59), (60, r60), (61, r61), (62, r62), (63, r63), (64, r64), (65, r65), (66, r66), (67, r67), (68, r68), (69, r69), (70, r70), (71, r71), (72, r72), (73, r73), (74, r74), (75, r75), (76, r76), (77, r77), (78, r78), (79, r79), (80, r80), (81, r81), (82, r82), (83, r83), (84, r84), (85, r85), (86, r86), (87, r87), (88, r88), (89, r89), (90, r90)]
  mths := [((6, 12), 12), ((7, 32), 32), ((7, 21), 33), ((7, 19), 34), ((8, 44), 48), ((9, 34), 57), ((10, 44), 62), ((11, 44), 65), ((12, 44), 68), ((13, 44), 71), ((14, 44), 82)]
  prps := [((6, 33), 8), ((6, 14), 9), ((6, 16), 10), ((7, 15), 28), ((7, 45), 29), ((7, 40), 30)]
  lens := [(7, 31)]
  eqs := [(6, 11), (8, 47), (10, 61), (11, 64), (12, 67), (13, 70), (14, 81)]
  inits := [(6, (7, true)), (7, (27, false)), (8, (46, true)), (9, (56, false)), (10, (60, true)), (11, (63, true)), (12, (66, true)), (13, (69, true)), (14, (80, true))]
  flds := [(6, 20), (6, 24), (6, 42), (7, 35), (7, 41), (7, 46), (8, 18), (8, 22), (9, 25), (9, 26), (9, 29), (9, 36), (9, 37), (10, 38), (11, 27), (12, 38), (13, 27), (14, 17), (14, 22)]
  glos := [(0, (.int 2)), (1, (.int 4)), (2, (.int 3)), (3, (.int 3000)), (4, (.int 6)), (5, (.int 60)), (6, (.tup [(.str (Str.ofString "all")), (.str (Str.ofString "each"))])), (7, (.tup [(.str (Str.ofString "tick"))])), (11, (.str (Str.ofString "law_limitwithin_k06_known")))]
  blts := [Str.ofString "all", Str.ofString "bool", Str.ofString "enumerate", Str.ofString "int", Str.ofString "isinstance", Str.ofString "len", Str.ofString "list", Str.ofString "max", Str.ofString "min", Str.ofString "range", Str.ofString "sorted", Str.ofString "str", Str.ofString "tuple", Str.ofString "zip"]
  mkk := fun c s => match c, s with
    | 7, 0 => some (1, [])
    | 8, 1 => some (2, [])
    | 9, 2 => some (3, [])
    | 10, 0 => some (1, [])
    | 11, 0 => some (1, [])
    | 12, 0 => some (1, [])
    | 13, 0 => some (1, [])
    | 6, 3 => some (1, [Str.ofString "callers", Str.ofString "charges"])
    | 14, 1 => some (2, [])
    | 6, 4 => some (1, [Str.ofString "callers"])
    | 6, 5 => some (1, [])
    | 6, 6 => some (1, [Str.ofString "charges"])
    | _, _ => none
  shape := fun s xs ys => match s, xs, ys with
    | 0, [x0], [] => some [x0]
    | 1, [x0, x1], [] => some [x0, x1]
    | 2, [x0, x1, x2], [] => some [x0, x1, x2]
    | 3, [x0], [y0, y1] => some [x0, y0, y1]
    | 4, [x0], [y0] => some [x0, y0, (.bl false)]
    | 5, [x0], [] => some [x0, (.int 1), (.bl false)]
    | 6, [x0], [y0] => some [x0, (.int 1), y0]
    | _, _, _ => none
  fuel := 1000000000
  leq := 8
  llen := 10
  lams := [79, 89]
  xcn := [(5, Str.ofString "TooLarge")]
  asks := [(88, (Str.ofString "_law_what", Str.ofString "TooLarge"))]
theorem F_wall : pd.F 0 = some f_wall := rfl
theorem F_is_integer : pd.F 3 = some f_is_integer := rfl
theorem F_is_word : pd.F 4 = some f_is_word := rfl
theorem F_is_part : pd.F 5 = some f_is_part := rfl
theorem F_is_link : pd.F 6 = some f_is_link := rfl
theorem F_Chain_init : pd.F 7 = some f_Chain_init := rfl
theorem F_Chain_links : pd.F 8 = some f_Chain_links := rfl
theorem F_Chain_callers : pd.F 9 = some f_Chain_callers := rfl
theorem F_Chain_charges : pd.F 10 = some f_Chain_charges := rfl
theorem F_Chain_eq : pd.F 11 = some f_Chain_eq := rfl
theorem F_Chain_all_parts : pd.F 12 = some f_Chain_all_parts := rfl
theorem F_check_chain : pd.F 13 = some f_check_chain := rfl
theorem F_events_of : pd.F 14 = some f_events_of := rfl
theorem F_is_event : pd.F 15 = some f_is_event := rfl
theorem F_first_of : pd.F 16 = some f_first_of := rfl
theorem F_ticked : pd.F 17 = some f_ticked := rfl
theorem F_does_let : pd.F 18 = some f_does_let := rfl
theorem F_counted : pd.F 19 = some f_counted := rfl
theorem F_first_state : pd.F 20 = some f_first_state := rfl
theorem F_after_tick : pd.F 21 = some f_after_tick := rfl
theorem F_lets_at : pd.F 22 = some f_lets_at := rfl
theorem F_counted_at : pd.F 23 = some f_counted_at := rfl
theorem F_answer_at : pd.F 24 = some f_answer_at := rfl
theorem F_after_ask : pd.F 25 = some f_after_ask := rfl
theorem F_after_event : pd.F 26 = some f_after_event := rfl
theorem F_Machine_init : pd.F 27 = some f_Machine_init := rfl
theorem F_Machine_chain : pd.F 28 = some f_Machine_chain := rfl
theorem F_Machine_state : pd.F 29 = some f_Machine_state := rfl
theorem F_Machine_past : pd.F 30 = some f_Machine_past := rfl
theorem F_Machine_len : pd.F 31 = some f_Machine_len := rfl
theorem F_Machine_lets : pd.F 32 = some f_Machine_lets := rfl
theorem F_Machine_do : pd.F 33 = some f_Machine_do := rfl
theorem F_Machine_copy : pd.F 34 = some f_Machine_copy := rfl
theorem F_check_history : pd.F 35 = some f_check_history := rfl
theorem F_run : pd.F 36 = some f_run := rfl
theorem F_reached : pd.F 37 = some f_reached := rfl
theorem F_states : pd.F 38 = some f_states := rfl
theorem F_grouped : pd.F 39 = some f_grouped := rfl
theorem F_groups_of : pd.F 40 = some f_groups_of := rfl
theorem F_key_of : pd.F 41 = some f_key_of := rfl
theorem F_looked : pd.F 42 = some f_looked := rfl
theorem F_parting_of : pd.F 43 = some f_parting_of := rfl
theorem F_does_part : pd.F 44 = some f_does_part := rfl
theorem F_listed : pd.F 45 = some f_listed := rfl
theorem F_Classes_init : pd.F 46 = some f_Classes_init := rfl
theorem F_Classes_eq : pd.F 47 = some f_Classes_eq := rfl
theorem F_Classes_shows : pd.F 48 = some f_Classes_shows := rfl
theorem F_pairs_of : pd.F 49 = some f_pairs_of := rfl
theorem F_classes : pd.F 50 = some f_classes := rfl
theorem F_check_two : pd.F 51 = some f_check_two := rfl
theorem F_steps_from : pd.F 52 = some f_steps_from := rfl
theorem F_breaks_within : pd.F 53 = some f_breaks_within := rfl
theorem F_breaks_alike : pd.F 54 = some f_breaks_alike := rfl
theorem F_goes_on : pd.F 55 = some f_goes_on := rfl
theorem F_Comparison_init : pd.F 56 = some f_Comparison_init := rfl
theorem F_Comparison_next_layer : pd.F 57 = some f_Comparison_next_layer := rfl
theorem F_is_closed : pd.F 58 = some f_is_closed := rfl
theorem F_is_parting : pd.F 59 = some f_is_parting := rfl
theorem F_Within_init : pd.F 60 = some f_Within_init := rfl
theorem F_Within_eq : pd.F 61 = some f_Within_eq := rfl
theorem F_Within_shows : pd.F 62 = some f_Within_shows := rfl
theorem F_Escapes_init : pd.F 63 = some f_Escapes_init := rfl
theorem F_Escapes_eq : pd.F 64 = some f_Escapes_eq := rfl
theorem F_Escapes_shows : pd.F 65 = some f_Escapes_shows := rfl
theorem F_Alike_init : pd.F 66 = some f_Alike_init := rfl
theorem F_Alike_eq : pd.F 67 = some f_Alike_eq := rfl
theorem F_Alike_shows : pd.F 68 = some f_Alike_shows := rfl
theorem F_Apart_init : pd.F 69 = some f_Apart_init := rfl
theorem F_Apart_eq : pd.F 70 = some f_Apart_eq := rfl
theorem F_Apart_shows : pd.F 71 = some f_Apart_shows := rfl
theorem F_within : pd.F 72 = some f_within := rfl
theorem F_is_within : pd.F 73 = some f_is_within := rfl
theorem F_alike : pd.F 74 = some f_alike := rfl
theorem F_are_alike : pd.F 75 = some f_are_alike := rfl
theorem F_left_by : pd.F 76 = some f_left_by := rfl
theorem F_parting_by : pd.F 77 = some f_parting_by := rfl
theorem F_idle : pd.F 78 = some f_idle := rfl
theorem F_choices_of : pd.F 79 = some f_choices_of := rfl
theorem F_Core_init : pd.F 80 = some f_Core_init := rfl
theorem F_Core_eq : pd.F 81 = some f_Core_eq := rfl
theorem F_Core_shows : pd.F 82 = some f_Core_shows := rfl
theorem F_core : pd.F 83 = some f_core := rfl
theorem F_law_history : pd.F 84 = some f_law_history := rfl
theorem F_law_answers : pd.F 85 = some f_law_answers := rfl
theorem F_law_runs_right : pd.F 86 = some f_law_runs_right := rfl
theorem F_law_compared_right : pd.F 87 = some f_law_compared_right := rfl
theorem F_law_large : pd.F 88 = some f_law_large := rfl
theorem F_law_twins_right : pd.F 89 = some f_law_twins_right := rfl
theorem F_law : pd.F 90 = some f_law := rfl
theorem stat : pd.stat = true := by decide +kernel
theorem astat : pd.askS = true := by decide +kernel
end K06

set_option Elab.async false
set_option linter.all false
set_option maxRecDepth 100000
set_option maxHeartbeats 0
namespace K06
open PySem PySem.W PySem.Calls PyProof.Rows
abbrev R : OpenRow := OpenLaw.row PySem.Challenge.rw_limitwithin_k06_known
abbrev qv : Program := view R.prog [84]
def names : List PySem.Str := (([PySem.Str.ofString "_wall", PySem.Str.ofString "LimitError", PySem.Str.ofString "BadChain", PySem.Str.ofString "BadEvent", PySem.Str.ofString "BadHistory", PySem.Str.ofString "BadCallers", PySem.Str.ofString "TooLarge", PySem.Str.ofString "MAX_LIMIT", PySem.Str.ofString "MAX_SPAN", PySem.Str.ofString "MAX_LINKS", PySem.Str.ofString "MAX_CALLERS", PySem.Str.ofString "SCOPES", PySem.Str.ofString "TICK", PySem.Str.ofString "is_integer", PySem.Str.ofString "is_word", PySem.Str.ofString "is_part", PySem.Str.ofString "is_link", PySem.Str.ofString "Chain", PySem.Str.ofString "check_chain", PySem.Str.ofString "events_of", PySem.Str.ofString "is_event", PySem.Str.ofString "first_of", PySem.Str.ofString "ticked", PySem.Str.ofString "does_let", PySem.Str.ofString "counted", PySem.Str.ofString "first_state", PySem.Str.ofString "after_tick", PySem.Str.ofString "lets_at", PySem.Str.ofString "counted_at", PySem.Str.ofString "answer_at"] : List PySem.Str) ++ ([PySem.Str.ofString "after_ask", PySem.Str.ofString "after_event", PySem.Str.ofString "Machine", PySem.Str.ofString "check_history", PySem.Str.ofString "run", PySem.Str.ofString "MAX_STATES", PySem.Str.ofString "reached", PySem.Str.ofString "states", PySem.Str.ofString "grouped", PySem.Str.ofString "groups_of", PySem.Str.ofString "key_of", PySem.Str.ofString "looked", PySem.Str.ofString "parting_of", PySem.Str.ofString "does_part", PySem.Str.ofString "listed", PySem.Str.ofString "Classes", PySem.Str.ofString "pairs_of", PySem.Str.ofString "classes", PySem.Str.ofString "MAX_PAIRS", PySem.Str.ofString "check_two", PySem.Str.ofString "steps_from", PySem.Str.ofString "breaks_within", PySem.Str.ofString "breaks_alike", PySem.Str.ofString "goes_on", PySem.Str.ofString "Comparison", PySem.Str.ofString "is_closed", PySem.Str.ofString "is_parting", PySem.Str.ofString "Within", PySem.Str.ofString "Escapes", PySem.Str.ofString "Alike"] : List PySem.Str) ++ ([PySem.Str.ofString "Apart", PySem.Str.ofString "within", PySem.Str.ofString "is_within", PySem.Str.ofString "alike", PySem.Str.ofString "are_alike", PySem.Str.ofString "left_by", PySem.Str.ofString "parting_by", PySem.Str.ofString "idle", PySem.Str.ofString "choices_of", PySem.Str.ofString "Core", PySem.Str.ofString "core", PySem.Str.ofString "_law_history", PySem.Str.ofString "_law_answers", PySem.Str.ofString "_law_runs_right", PySem.Str.ofString "_law_compared_right", PySem.Str.ofString "_law_large", PySem.Str.ofString "_law_twins_right"] : List PySem.Str) : List PySem.Str)
abbrev hk : PySem.W.Hook := MC.hookM pd 1000
def ob (s : PySem.W.SharedT) : He.AlD := MC.obsMG pd 1000 (HandSHeadRun.getT s)
theorem ob_eq (s : PySem.W.SharedT) : ob s = hk.obs s.abs := MC.obsMG_eq pd (HandSHeadRun.getT_eq s)
theorem run1 (w : World) (os : OsState) : (HandSHeadRun.endF (HandSHeadRun.stepQ (HandSHeadRun.denQ HandSHeadRun.tabQ) R.prog w) 9000 R.prog w os).map (fun s => HandSHeadRun.looksF R.prog (boot_heap w.params) s.abs) = some true := by
  kernel_rfl
theorem run2 (w : World) (os : OsState) : (HandSHeadRun.endF (HandSHeadRun.stepQ (HandSHeadRun.denQ HandSHeadRun.tabQ) R.prog w) 9000 R.prog w os).map (fun s => HandSHeadRun.seenQ qv names (importedModules R.prog.main.body) (fun s => xlAt qv [] s && recOk R.records s) s.abs) = some (openGood qv names) := by
  kernel_rfl
def kk (s : PySem.W.SharedT) : PySem.W.Frag := He.frG (HandSHeadRun.getT s) (List.range 1000)
def q1 (s : PySem.W.SharedT) : Bool := MC.PD.inK pd (MC.cutK pd (kk s)) && MC.PD.exK pd (MC.cutK pd (kk s))
def q2 (a b : Nat) (s : PySem.W.SharedT) : Bool := ((pd.frs.drop a).take b).all fun q => MC.okM (MC.cutK pd (kk s)) (q.2.at_.adr (MC.cutK pd (kk s))) q.2.d
def q3 (s : PySem.W.SharedT) : Bool := MC.tabB pd (kk s)
theorem run3 (w : World) (os : OsState) : (HandSHeadRun.endF (HandSHeadRun.stepQ (HandSHeadRun.denQ HandSHeadRun.tabQ) R.prog w) 9000 R.prog w os).map q1 = some true := by
  kernel_rfl
theorem run5 (w : World) (os : OsState) : (HandSHeadRun.endF (HandSHeadRun.stepQ (HandSHeadRun.denQ HandSHeadRun.tabQ) R.prog w) 9000 R.prog w os).map (q2 0 45) = some true := by
  kernel_rfl
theorem run6 (w : World) (os : OsState) : (HandSHeadRun.endF (HandSHeadRun.stepQ (HandSHeadRun.denQ HandSHeadRun.tabQ) R.prog w) 9000 R.prog w os).map (q2 45 100) = some true := by
  kernel_rfl
theorem run7 (w : World) (os : OsState) : (HandSHeadRun.endF (HandSHeadRun.stepQ (HandSHeadRun.denQ HandSHeadRun.tabQ) R.prog w) 9000 R.prog w os).map q3 = some true := by
  kernel_rfl
theorem all_cut (l : List (Nat × MC.FR)) (f : Nat × MC.FR → Bool) (h1 : ((l.drop 0).take 45).all f = true) (h2 : ((l.drop 45).take 100).all f = true) (hl : l.length ≤ 145) : l.all f = true := by
  have e : l = (l.drop 0).take 45 ++ (l.drop 45).take 100 := by
    rw [List.drop_zero, List.take_of_length_le (l := l.drop 45) (by rw [List.length_drop]; omega), List.take_append_drop]
  rw [e, List.all_append, h1, h2]
  rfl
theorem run4 (w : World) (os : OsState) : (HandSHeadRun.endF (HandSHeadRun.stepQ (HandSHeadRun.denQ HandSHeadRun.tabQ) R.prog w) 9000 R.prog w os).map (fun s => (ob s).2) = some (MC.valM pd).2 := by
  kernel_rfl
theorem run (w : World) : HandSHeadRun.RunEq R qv hk ob 9000 names w := by
  intro os
  have e1 := run1 w os
  have e2 := run2 w os
  have e3 := run3 w os
  have e4 := run4 w os
  have e5 := run5 w os
  have e6 := run6 w os
  have e7 := run7 w os
  show (HandSHeadRun.endF (HandSHeadRun.stepQ (HandSHeadRun.denQ HandSHeadRun.tabQ) R.prog w) 9000 R.prog w os).map _ = some (true, openGood qv names, MC.valM pd)
  revert e1 e2 e3 e4 e5 e6 e7
  generalize HandSHeadRun.endF (HandSHeadRun.stepQ (HandSHeadRun.denQ HandSHeadRun.tabQ) R.prog w) 9000 R.prog w os = r
  intro e1 e2 e3 e4 e5 e6 e7
  cases r with
  | none => cases e1
  | some s =>
    have f1 : HandSHeadRun.looksF R.prog (boot_heap w.params) s.abs = true := Option.some.inj e1
    have f2 := Option.some.inj e2
    have g1 : q1 s = true := Option.some.inj e3
    have g2 := all_cut _ _ (Option.some.inj e5) (Option.some.inj e6) (by decide)
    have g3 : q3 s = true := Option.some.inj e7
    have g4 : (ob s).1 = true := by
      show ((MC.PD.inK pd (MC.cutK pd (kk s)) && MC.PD.exK pd (MC.cutK pd (kk s)) && pd.frs.all fun q => MC.okM (MC.cutK pd (kk s)) (q.2.at_.adr (MC.cutK pd (kk s))) q.2.d) && MC.tabB pd (kk s)) = true
      rw [show (MC.PD.inK pd (MC.cutK pd (kk s)) && MC.PD.exK pd (MC.cutK pd (kk s))) = true from g1, g2, show MC.tabB pd (kk s) = true from g3]
      rfl
    have f3 : ob s = MC.valM pd := Prod.ext g4 (Option.some.inj e4)
    exact congrArg some (Prod.ext f1 (Prod.ext f2 f3))
end K06

set_option Elab.async false
set_option linter.all false
set_option maxRecDepth 1000000
set_option maxHeartbeats 0
namespace K06
open PySem MC
/-- it gives True and leaves nothing behind -/
def isT : Res D → Bool
  | .ok (.bl true) [] => true
  | _ => false
theorem isT_ok {r : Res D} (h : isT r = true) : r = .ok (.bl true) [] := by
  unfold isT at h
  split at h
  · rfl
  · cases h
end K06

set_option Elab.async false
set_option linter.all false
set_option maxRecDepth 1000000
set_option maxHeartbeats 0
namespace K06
open PySem MC
/-! ### a body, statement by statement -/
def sgB : Sg → Sg → Bool
  | [], [] => true
  | none :: a, none :: b => sgB a b
  | some x :: a, some y :: b => D.eqb x y && sgB a b
  | _, _ => false
theorem sgB_eq : ∀ {a b : Sg}, sgB a b = true → a = b
  | [], [], _ => rfl
  | none :: a, none :: b, h => by rw [sgB_eq (show sgB a b = true from h)]
  | some x :: a, some y :: b, h => by
    simp only [sgB, Bool.and_eq_true] at h
    rw [D.eqb_eq h.1, sgB_eq h.2]
  | [], _ :: _, h => by simp [sgB] at h
  | none :: _, [], h => by simp [sgB] at h
  | some _ :: _, [], h => by simp [sgB] at h
  | none :: _, some _ :: _, h => by simp [sgB] at h
  | some _ :: _, none :: _, h => by simp [sgB] at h
def nxB (r : R2) (σ : Sg) (h : Hs) : Bool := match r with
  | .ok (.nx, σ2) h2 => sgB σ2 σ && Hs.eqb h2 h
  | _ => false
theorem nxB_ok {r : R2} {σ : Sg} {h : Hs} (e : nxB r σ h = true) : r = .ok (.nx, σ) h := by
  unfold nxB at e
  split at e
  · rw [Bool.and_eq_true] at e
    rw [sgB_eq e.1, Hs.eqb_eq e.2]
  · cases e
def rtB (r : R2) (h : Hs) : Bool := match r with
  | .ok (.rt (.bl true), _) h2 => Hs.eqb h2 h
  | _ => false
theorem rtB_ok {r : R2} {h : Hs} (e : rtB r h = true) : ∃ σ, r = .ok (.rt (.bl true), σ) h := by
  unfold rtB at e
  split at e
  · rw [Hs.eqb_eq e]
    exact ⟨_, rfl⟩
  · cases e
def sAt : B → Nat → S
  | .nil, _ => .pass
  | .cons s _, 0 => s
  | .cons _ r, k + 1 => sAt r k
def dropB : B → Nat → B
  | b, 0 => b
  | .nil, _ + 1 => .nil
  | .cons _ r, k + 1 => dropB r k
theorem seg {T : Tab} {cl : Nat → List D → Hs → Res D} {b : B} {k : Nat} {σ σ' : Sg} {h h' : Hs} (hb : dropB b k = .cons (sAt b k) (dropB b (k + 1))) (e : nxB (evS T cl (sAt b k) σ h) σ' h' = true) : evB T cl (dropB b k) σ h = evB T cl (dropB b (k + 1)) σ' h' := by
  rw [hb]
  conv => lhs; unfold evB
  rw [nxB_ok e]
  rfl
theorem seg_rt {T : Tab} {cl : Nat → List D → Hs → Res D} {b : B} {k : Nat} {σ : Sg} {h h' : Hs} (hb : dropB b k = .cons (sAt b k) (dropB b (k + 1))) (e : rtB (evS T cl (sAt b k) σ h) h' = true) : ∃ σ', evB T cl (dropB b k) σ h = .ok (.rt (.bl true), σ') h' := by
  rw [hb]
  obtain ⟨σ', e⟩ := rtB_ok e
  refine ⟨σ', ?_⟩
  conv => lhs; unfold evB
  rw [e]
  rfl
end K06

set_option Elab.async false
set_option linter.all false
set_option maxRecDepth 1000000
set_option maxHeartbeats 0
namespace K06
open PySem MC
theorem runs : isT (callM pd.tab pd.F 13 86 [] []) = true := by decide +kernel
end K06

set_option Elab.async false
set_option linter.all false
set_option maxRecDepth 1000000
set_option maxHeartbeats 0
namespace K06
open PySem MC
def cs0 : Sg := [none, none, none, none, none, none, none, none, none, none]
def ch0 : Hs := []
def cs1 : Sg := [some (.ins 6 [(42, (.tup [(.tup [(.str (Str.ofString "all")), (.tup [(.str (Str.ofString "gap")), (.int (3))])])])), (24, (.int (1))), (20, (.bl false))]), some (.ins 6 [(42, (.tup [(.tup [(.str (Str.ofString "all")), (.tup [(.str (Str.ofString "slide")), (.int (1)), (.int (3))])])])), (24, (.int (1))), (20, (.bl false))]), none, none, none, none, none, none, none, none]
def ch1 : Hs := []
def cs2 : Sg := [some (.ins 6 [(42, (.tup [(.tup [(.str (Str.ofString "all")), (.tup [(.str (Str.ofString "gap")), (.int (3))])])])), (24, (.int (1))), (20, (.bl false))]), some (.ins 6 [(42, (.tup [(.tup [(.str (Str.ofString "all")), (.tup [(.str (Str.ofString "slide")), (.int (1)), (.int (3))])])])), (24, (.int (1))), (20, (.bl false))]), some (.ins 6 [(42, (.tup [(.tup [(.str (Str.ofString "all")), (.tup [(.str (Str.ofString "bucket")), (.int (1)), (.int (3))])])])), (24, (.int (1))), (20, (.bl false))]), some (.ins 6 [(42, (.tup [(.tup [(.str (Str.ofString "all")), (.tup [(.str (Str.ofString "window")), (.int (1)), (.int (3))])])])), (24, (.int (1))), (20, (.bl false))]), none, none, none, none, none, none]
def ch2 : Hs := []
def cs3 : Sg := [some (.ins 6 [(42, (.tup [(.tup [(.str (Str.ofString "all")), (.tup [(.str (Str.ofString "gap")), (.int (3))])])])), (24, (.int (1))), (20, (.bl false))]), some (.ins 6 [(42, (.tup [(.tup [(.str (Str.ofString "all")), (.tup [(.str (Str.ofString "slide")), (.int (1)), (.int (3))])])])), (24, (.int (1))), (20, (.bl false))]), some (.ins 6 [(42, (.tup [(.tup [(.str (Str.ofString "all")), (.tup [(.str (Str.ofString "bucket")), (.int (1)), (.int (3))])])])), (24, (.int (1))), (20, (.bl false))]), some (.ins 6 [(42, (.tup [(.tup [(.str (Str.ofString "all")), (.tup [(.str (Str.ofString "window")), (.int (1)), (.int (3))])])])), (24, (.int (1))), (20, (.bl false))]), none, none, none, none, none, none]
def ch3 : Hs := []
def cs4 : Sg := [some (.ins 6 [(42, (.tup [(.tup [(.str (Str.ofString "all")), (.tup [(.str (Str.ofString "gap")), (.int (3))])])])), (24, (.int (1))), (20, (.bl false))]), some (.ins 6 [(42, (.tup [(.tup [(.str (Str.ofString "all")), (.tup [(.str (Str.ofString "slide")), (.int (1)), (.int (3))])])])), (24, (.int (1))), (20, (.bl false))]), some (.ins 6 [(42, (.tup [(.tup [(.str (Str.ofString "all")), (.tup [(.str (Str.ofString "bucket")), (.int (1)), (.int (3))])])])), (24, (.int (1))), (20, (.bl false))]), some (.ins 6 [(42, (.tup [(.tup [(.str (Str.ofString "all")), (.tup [(.str (Str.ofString "window")), (.int (1)), (.int (3))])])])), (24, (.int (1))), (20, (.bl false))]), none, none, none, none, none, none]
def ch4 : Hs := []
def cs5 : Sg := [some (.ins 6 [(42, (.tup [(.tup [(.str (Str.ofString "all")), (.tup [(.str (Str.ofString "gap")), (.int (3))])])])), (24, (.int (1))), (20, (.bl false))]), some (.ins 6 [(42, (.tup [(.tup [(.str (Str.ofString "all")), (.tup [(.str (Str.ofString "slide")), (.int (1)), (.int (3))])])])), (24, (.int (1))), (20, (.bl false))]), some (.ins 6 [(42, (.tup [(.tup [(.str (Str.ofString "all")), (.tup [(.str (Str.ofString "bucket")), (.int (1)), (.int (3))])])])), (24, (.int (1))), (20, (.bl false))]), some (.ins 6 [(42, (.tup [(.tup [(.str (Str.ofString "all")), (.tup [(.str (Str.ofString "window")), (.int (1)), (.int (3))])])])), (24, (.int (1))), (20, (.bl false))]), none, none, none, none, none, none]
def ch5 : Hs := []
def cs6 : Sg := [some (.ins 6 [(42, (.tup [(.tup [(.str (Str.ofString "all")), (.tup [(.str (Str.ofString "gap")), (.int (3))])])])), (24, (.int (1))), (20, (.bl false))]), some (.ins 6 [(42, (.tup [(.tup [(.str (Str.ofString "all")), (.tup [(.str (Str.ofString "slide")), (.int (1)), (.int (3))])])])), (24, (.int (1))), (20, (.bl false))]), some (.ins 6 [(42, (.tup [(.tup [(.str (Str.ofString "all")), (.tup [(.str (Str.ofString "bucket")), (.int (1)), (.int (3))])])])), (24, (.int (1))), (20, (.bl false))]), some (.ins 6 [(42, (.tup [(.tup [(.str (Str.ofString "all")), (.tup [(.str (Str.ofString "window")), (.int (1)), (.int (3))])])])), (24, (.int (1))), (20, (.bl false))]), none, none, none, none, none, none]
def ch6 : Hs := []
def cs7 : Sg := [some (.ins 6 [(42, (.tup [(.tup [(.str (Str.ofString "all")), (.tup [(.str (Str.ofString "gap")), (.int (3))])])])), (24, (.int (1))), (20, (.bl false))]), some (.ins 6 [(42, (.tup [(.tup [(.str (Str.ofString "all")), (.tup [(.str (Str.ofString "slide")), (.int (1)), (.int (3))])])])), (24, (.int (1))), (20, (.bl false))]), some (.ins 6 [(42, (.tup [(.tup [(.str (Str.ofString "all")), (.tup [(.str (Str.ofString "bucket")), (.int (1)), (.int (3))])])])), (24, (.int (1))), (20, (.bl false))]), some (.ins 6 [(42, (.tup [(.tup [(.str (Str.ofString "all")), (.tup [(.str (Str.ofString "window")), (.int (1)), (.int (3))])])])), (24, (.int (1))), (20, (.bl false))]), none, none, none, none, none, none]
def ch7 : Hs := []
def cs8 : Sg := [some (.ins 6 [(42, (.tup [(.tup [(.str (Str.ofString "all")), (.tup [(.str (Str.ofString "gap")), (.int (3))])])])), (24, (.int (1))), (20, (.bl false))]), some (.ins 6 [(42, (.tup [(.tup [(.str (Str.ofString "all")), (.tup [(.str (Str.ofString "slide")), (.int (1)), (.int (3))])])])), (24, (.int (1))), (20, (.bl false))]), some (.ins 6 [(42, (.tup [(.tup [(.str (Str.ofString "all")), (.tup [(.str (Str.ofString "bucket")), (.int (1)), (.int (3))])])])), (24, (.int (1))), (20, (.bl false))]), some (.ins 6 [(42, (.tup [(.tup [(.str (Str.ofString "all")), (.tup [(.str (Str.ofString "window")), (.int (1)), (.int (3))])])])), (24, (.int (1))), (20, (.bl false))]), none, none, none, none, none, none]
def ch8 : Hs := []
def cs9 : Sg := [some (.ins 6 [(42, (.tup [(.tup [(.str (Str.ofString "all")), (.tup [(.str (Str.ofString "gap")), (.int (3))])])])), (24, (.int (1))), (20, (.bl false))]), some (.ins 6 [(42, (.tup [(.tup [(.str (Str.ofString "all")), (.tup [(.str (Str.ofString "slide")), (.int (1)), (.int (3))])])])), (24, (.int (1))), (20, (.bl false))]), some (.ins 6 [(42, (.tup [(.tup [(.str (Str.ofString "all")), (.tup [(.str (Str.ofString "bucket")), (.int (1)), (.int (3))])])])), (24, (.int (1))), (20, (.bl false))]), some (.ins 6 [(42, (.tup [(.tup [(.str (Str.ofString "all")), (.tup [(.str (Str.ofString "window")), (.int (1)), (.int (3))])])])), (24, (.int (1))), (20, (.bl false))]), some (.ins 6 [(42, (.tup [(.tup [(.str (Str.ofString "each")), (.tup [(.str (Str.ofString "gap")), (.int (3))])])])), (24, (.int (2))), (20, (.bl false))]), none, none, none, none, none]
def ch9 : Hs := []
def cs10 : Sg := [some (.ins 6 [(42, (.tup [(.tup [(.str (Str.ofString "all")), (.tup [(.str (Str.ofString "gap")), (.int (3))])])])), (24, (.int (1))), (20, (.bl false))]), some (.ins 6 [(42, (.tup [(.tup [(.str (Str.ofString "all")), (.tup [(.str (Str.ofString "slide")), (.int (1)), (.int (3))])])])), (24, (.int (1))), (20, (.bl false))]), some (.ins 6 [(42, (.tup [(.tup [(.str (Str.ofString "all")), (.tup [(.str (Str.ofString "bucket")), (.int (1)), (.int (3))])])])), (24, (.int (1))), (20, (.bl false))]), some (.ins 6 [(42, (.tup [(.tup [(.str (Str.ofString "all")), (.tup [(.str (Str.ofString "window")), (.int (1)), (.int (3))])])])), (24, (.int (1))), (20, (.bl false))]), some (.ins 6 [(42, (.tup [(.tup [(.str (Str.ofString "each")), (.tup [(.str (Str.ofString "gap")), (.int (3))])])])), (24, (.int (2))), (20, (.bl false))]), some (.ins 6 [(42, (.tup [(.tup [(.str (Str.ofString "all")), (.tup [(.str (Str.ofString "gap")), (.int (3))])])])), (24, (.int (2))), (20, (.bl false))]), none, none, none, none]
def ch10 : Hs := []
def cs11 : Sg := [some (.ins 6 [(42, (.tup [(.tup [(.str (Str.ofString "all")), (.tup [(.str (Str.ofString "gap")), (.int (3))])])])), (24, (.int (1))), (20, (.bl false))]), some (.ins 6 [(42, (.tup [(.tup [(.str (Str.ofString "all")), (.tup [(.str (Str.ofString "slide")), (.int (1)), (.int (3))])])])), (24, (.int (1))), (20, (.bl false))]), some (.ins 6 [(42, (.tup [(.tup [(.str (Str.ofString "all")), (.tup [(.str (Str.ofString "bucket")), (.int (1)), (.int (3))])])])), (24, (.int (1))), (20, (.bl false))]), some (.ins 6 [(42, (.tup [(.tup [(.str (Str.ofString "all")), (.tup [(.str (Str.ofString "window")), (.int (1)), (.int (3))])])])), (24, (.int (1))), (20, (.bl false))]), some (.ins 6 [(42, (.tup [(.tup [(.str (Str.ofString "each")), (.tup [(.str (Str.ofString "gap")), (.int (3))])])])), (24, (.int (2))), (20, (.bl false))]), some (.ins 6 [(42, (.tup [(.tup [(.str (Str.ofString "all")), (.tup [(.str (Str.ofString "gap")), (.int (3))])])])), (24, (.int (2))), (20, (.bl false))]), none, none, none, none]
def ch11 : Hs := []
def cs12 : Sg := [some (.ins 6 [(42, (.tup [(.tup [(.str (Str.ofString "all")), (.tup [(.str (Str.ofString "gap")), (.int (3))])])])), (24, (.int (1))), (20, (.bl false))]), some (.ins 6 [(42, (.tup [(.tup [(.str (Str.ofString "all")), (.tup [(.str (Str.ofString "slide")), (.int (1)), (.int (3))])])])), (24, (.int (1))), (20, (.bl false))]), some (.ins 6 [(42, (.tup [(.tup [(.str (Str.ofString "all")), (.tup [(.str (Str.ofString "bucket")), (.int (1)), (.int (3))])])])), (24, (.int (1))), (20, (.bl false))]), some (.ins 6 [(42, (.tup [(.tup [(.str (Str.ofString "all")), (.tup [(.str (Str.ofString "window")), (.int (1)), (.int (3))])])])), (24, (.int (1))), (20, (.bl false))]), some (.ins 6 [(42, (.tup [(.tup [(.str (Str.ofString "each")), (.tup [(.str (Str.ofString "gap")), (.int (3))])])])), (24, (.int (2))), (20, (.bl false))]), some (.ins 6 [(42, (.tup [(.tup [(.str (Str.ofString "all")), (.tup [(.str (Str.ofString "gap")), (.int (3))])])])), (24, (.int (2))), (20, (.bl false))]), some (.tup [(.tup [(.str (Str.ofString "each")), (.tup [(.str (Str.ofString "bucket")), (.int (1)), (.int (1))])]), (.tup [(.str (Str.ofString "all")), (.tup [(.str (Str.ofString "slide")), (.int (1)), (.int (2))])])]), none, none, none]
def ch12 : Hs := []
def cs13 : Sg := [some (.ins 6 [(42, (.tup [(.tup [(.str (Str.ofString "all")), (.tup [(.str (Str.ofString "gap")), (.int (3))])])])), (24, (.int (1))), (20, (.bl false))]), some (.ins 6 [(42, (.tup [(.tup [(.str (Str.ofString "all")), (.tup [(.str (Str.ofString "slide")), (.int (1)), (.int (3))])])])), (24, (.int (1))), (20, (.bl false))]), some (.ins 6 [(42, (.tup [(.tup [(.str (Str.ofString "all")), (.tup [(.str (Str.ofString "bucket")), (.int (1)), (.int (3))])])])), (24, (.int (1))), (20, (.bl false))]), some (.ins 6 [(42, (.tup [(.tup [(.str (Str.ofString "all")), (.tup [(.str (Str.ofString "window")), (.int (1)), (.int (3))])])])), (24, (.int (1))), (20, (.bl false))]), some (.ins 6 [(42, (.tup [(.tup [(.str (Str.ofString "each")), (.tup [(.str (Str.ofString "gap")), (.int (3))])])])), (24, (.int (2))), (20, (.bl false))]), some (.ins 6 [(42, (.tup [(.tup [(.str (Str.ofString "all")), (.tup [(.str (Str.ofString "gap")), (.int (3))])])])), (24, (.int (2))), (20, (.bl false))]), some (.tup [(.tup [(.str (Str.ofString "each")), (.tup [(.str (Str.ofString "bucket")), (.int (1)), (.int (1))])]), (.tup [(.str (Str.ofString "all")), (.tup [(.str (Str.ofString "slide")), (.int (1)), (.int (2))])])]), some (.ins 6 [(42, (.tup [(.tup [(.str (Str.ofString "each")), (.tup [(.str (Str.ofString "bucket")), (.int (1)), (.int (1))])]), (.tup [(.str (Str.ofString "all")), (.tup [(.str (Str.ofString "slide")), (.int (1)), (.int (2))])])])), (24, (.int (2))), (20, (.bl false))]), some (.ins 6 [(42, (.tup [(.tup [(.str (Str.ofString "each")), (.tup [(.str (Str.ofString "bucket")), (.int (1)), (.int (1))])]), (.tup [(.str (Str.ofString "all")), (.tup [(.str (Str.ofString "slide")), (.int (1)), (.int (2))])])])), (24, (.int (2))), (20, (.bl true))]), none]
def ch13 : Hs := []
def cs14 : Sg := [some (.ins 6 [(42, (.tup [(.tup [(.str (Str.ofString "all")), (.tup [(.str (Str.ofString "gap")), (.int (3))])])])), (24, (.int (1))), (20, (.bl false))]), some (.ins 6 [(42, (.tup [(.tup [(.str (Str.ofString "all")), (.tup [(.str (Str.ofString "slide")), (.int (1)), (.int (3))])])])), (24, (.int (1))), (20, (.bl false))]), some (.ins 6 [(42, (.tup [(.tup [(.str (Str.ofString "all")), (.tup [(.str (Str.ofString "bucket")), (.int (1)), (.int (3))])])])), (24, (.int (1))), (20, (.bl false))]), some (.ins 6 [(42, (.tup [(.tup [(.str (Str.ofString "all")), (.tup [(.str (Str.ofString "window")), (.int (1)), (.int (3))])])])), (24, (.int (1))), (20, (.bl false))]), some (.ins 6 [(42, (.tup [(.tup [(.str (Str.ofString "each")), (.tup [(.str (Str.ofString "gap")), (.int (3))])])])), (24, (.int (2))), (20, (.bl false))]), some (.ins 6 [(42, (.tup [(.tup [(.str (Str.ofString "all")), (.tup [(.str (Str.ofString "gap")), (.int (3))])])])), (24, (.int (2))), (20, (.bl false))]), some (.tup [(.tup [(.str (Str.ofString "each")), (.tup [(.str (Str.ofString "bucket")), (.int (1)), (.int (1))])]), (.tup [(.str (Str.ofString "all")), (.tup [(.str (Str.ofString "slide")), (.int (1)), (.int (2))])])]), some (.ins 6 [(42, (.tup [(.tup [(.str (Str.ofString "each")), (.tup [(.str (Str.ofString "bucket")), (.int (1)), (.int (1))])]), (.tup [(.str (Str.ofString "all")), (.tup [(.str (Str.ofString "slide")), (.int (1)), (.int (2))])])])), (24, (.int (2))), (20, (.bl false))]), some (.ins 6 [(42, (.tup [(.tup [(.str (Str.ofString "each")), (.tup [(.str (Str.ofString "bucket")), (.int (1)), (.int (1))])]), (.tup [(.str (Str.ofString "all")), (.tup [(.str (Str.ofString "slide")), (.int (1)), (.int (2))])])])), (24, (.int (2))), (20, (.bl true))]), none]
def ch14 : Hs := []
def cs15 : Sg := [some (.ins 6 [(42, (.tup [(.tup [(.str (Str.ofString "all")), (.tup [(.str (Str.ofString "gap")), (.int (3))])])])), (24, (.int (1))), (20, (.bl false))]), some (.ins 6 [(42, (.tup [(.tup [(.str (Str.ofString "all")), (.tup [(.str (Str.ofString "slide")), (.int (1)), (.int (3))])])])), (24, (.int (1))), (20, (.bl false))]), some (.ins 6 [(42, (.tup [(.tup [(.str (Str.ofString "all")), (.tup [(.str (Str.ofString "bucket")), (.int (1)), (.int (3))])])])), (24, (.int (1))), (20, (.bl false))]), some (.ins 6 [(42, (.tup [(.tup [(.str (Str.ofString "all")), (.tup [(.str (Str.ofString "window")), (.int (1)), (.int (3))])])])), (24, (.int (1))), (20, (.bl false))]), some (.ins 6 [(42, (.tup [(.tup [(.str (Str.ofString "each")), (.tup [(.str (Str.ofString "gap")), (.int (3))])])])), (24, (.int (2))), (20, (.bl false))]), some (.ins 6 [(42, (.tup [(.tup [(.str (Str.ofString "all")), (.tup [(.str (Str.ofString "gap")), (.int (3))])])])), (24, (.int (2))), (20, (.bl false))]), some (.tup [(.tup [(.str (Str.ofString "each")), (.tup [(.str (Str.ofString "bucket")), (.int (1)), (.int (1))])]), (.tup [(.str (Str.ofString "all")), (.tup [(.str (Str.ofString "slide")), (.int (1)), (.int (2))])])]), some (.ins 6 [(42, (.tup [(.tup [(.str (Str.ofString "each")), (.tup [(.str (Str.ofString "bucket")), (.int (1)), (.int (1))])]), (.tup [(.str (Str.ofString "all")), (.tup [(.str (Str.ofString "slide")), (.int (1)), (.int (2))])])])), (24, (.int (2))), (20, (.bl false))]), some (.ins 6 [(42, (.tup [(.tup [(.str (Str.ofString "each")), (.tup [(.str (Str.ofString "bucket")), (.int (1)), (.int (1))])]), (.tup [(.str (Str.ofString "all")), (.tup [(.str (Str.ofString "slide")), (.int (1)), (.int (2))])])])), (24, (.int (2))), (20, (.bl true))]), some (.lst [(.tup [(.str (Str.ofString "all")), (.tup [(.str (Str.ofString "bucket")), (.int (1)), (.int (1))])]), (.tup [(.str (Str.ofString "all")), (.tup [(.str (Str.ofString "gap")), (.int (2))])])])]
def ch15 : Hs := []
def cs16 : Sg := [some (.ins 6 [(42, (.tup [(.tup [(.str (Str.ofString "all")), (.tup [(.str (Str.ofString "gap")), (.int (3))])])])), (24, (.int (1))), (20, (.bl false))]), some (.ins 6 [(42, (.tup [(.tup [(.str (Str.ofString "all")), (.tup [(.str (Str.ofString "slide")), (.int (1)), (.int (3))])])])), (24, (.int (1))), (20, (.bl false))]), some (.ins 6 [(42, (.tup [(.tup [(.str (Str.ofString "all")), (.tup [(.str (Str.ofString "bucket")), (.int (1)), (.int (3))])])])), (24, (.int (1))), (20, (.bl false))]), some (.ins 6 [(42, (.tup [(.tup [(.str (Str.ofString "all")), (.tup [(.str (Str.ofString "window")), (.int (1)), (.int (3))])])])), (24, (.int (1))), (20, (.bl false))]), some (.ins 6 [(42, (.tup [(.tup [(.str (Str.ofString "each")), (.tup [(.str (Str.ofString "gap")), (.int (3))])])])), (24, (.int (2))), (20, (.bl false))]), some (.ins 6 [(42, (.tup [(.tup [(.str (Str.ofString "all")), (.tup [(.str (Str.ofString "gap")), (.int (3))])])])), (24, (.int (2))), (20, (.bl false))]), some (.tup [(.tup [(.str (Str.ofString "each")), (.tup [(.str (Str.ofString "bucket")), (.int (1)), (.int (1))])]), (.tup [(.str (Str.ofString "all")), (.tup [(.str (Str.ofString "slide")), (.int (1)), (.int (2))])])]), some (.ins 6 [(42, (.tup [(.tup [(.str (Str.ofString "each")), (.tup [(.str (Str.ofString "bucket")), (.int (1)), (.int (1))])]), (.tup [(.str (Str.ofString "all")), (.tup [(.str (Str.ofString "slide")), (.int (1)), (.int (2))])])])), (24, (.int (2))), (20, (.bl false))]), some (.ins 6 [(42, (.tup [(.tup [(.str (Str.ofString "each")), (.tup [(.str (Str.ofString "bucket")), (.int (1)), (.int (1))])]), (.tup [(.str (Str.ofString "all")), (.tup [(.str (Str.ofString "slide")), (.int (1)), (.int (2))])])])), (24, (.int (2))), (20, (.bl true))]), some (.lst [(.tup [(.str (Str.ofString "all")), (.tup [(.str (Str.ofString "bucket")), (.int (1)), (.int (1))])]), (.tup [(.str (Str.ofString "all")), (.tup [(.str (Str.ofString "gap")), (.int (2))])])])]
def ch16 : Hs := []
def cs17 : Sg := [some (.ins 6 [(42, (.tup [(.tup [(.str (Str.ofString "all")), (.tup [(.str (Str.ofString "gap")), (.int (3))])])])), (24, (.int (1))), (20, (.bl false))]), some (.ins 6 [(42, (.tup [(.tup [(.str (Str.ofString "all")), (.tup [(.str (Str.ofString "slide")), (.int (1)), (.int (3))])])])), (24, (.int (1))), (20, (.bl false))]), some (.ins 6 [(42, (.tup [(.tup [(.str (Str.ofString "all")), (.tup [(.str (Str.ofString "bucket")), (.int (1)), (.int (3))])])])), (24, (.int (1))), (20, (.bl false))]), some (.ins 6 [(42, (.tup [(.tup [(.str (Str.ofString "all")), (.tup [(.str (Str.ofString "window")), (.int (1)), (.int (3))])])])), (24, (.int (1))), (20, (.bl false))]), some (.ins 6 [(42, (.tup [(.tup [(.str (Str.ofString "each")), (.tup [(.str (Str.ofString "gap")), (.int (3))])])])), (24, (.int (2))), (20, (.bl false))]), some (.ins 6 [(42, (.tup [(.tup [(.str (Str.ofString "all")), (.tup [(.str (Str.ofString "gap")), (.int (3))])])])), (24, (.int (2))), (20, (.bl false))]), some (.tup [(.tup [(.str (Str.ofString "each")), (.tup [(.str (Str.ofString "bucket")), (.int (1)), (.int (1))])]), (.tup [(.str (Str.ofString "all")), (.tup [(.str (Str.ofString "slide")), (.int (1)), (.int (2))])])]), some (.ins 6 [(42, (.tup [(.tup [(.str (Str.ofString "each")), (.tup [(.str (Str.ofString "bucket")), (.int (1)), (.int (1))])]), (.tup [(.str (Str.ofString "all")), (.tup [(.str (Str.ofString "slide")), (.int (1)), (.int (2))])])])), (24, (.int (2))), (20, (.bl false))]), some (.ins 6 [(42, (.tup [(.tup [(.str (Str.ofString "each")), (.tup [(.str (Str.ofString "bucket")), (.int (1)), (.int (1))])]), (.tup [(.str (Str.ofString "all")), (.tup [(.str (Str.ofString "slide")), (.int (1)), (.int (2))])])])), (24, (.int (2))), (20, (.bl true))]), some (.tup [(.tup [(.str (Str.ofString "all")), (.tup [(.str (Str.ofString "bucket")), (.int (2)), (.int (4))])]), (.tup [(.str (Str.ofString "all")), (.tup [(.str (Str.ofString "gap")), (.int (2))])])])]
def ch17 : Hs := []
def cs18 : Sg := [some (.ins 6 [(42, (.tup [(.tup [(.str (Str.ofString "all")), (.tup [(.str (Str.ofString "gap")), (.int (3))])])])), (24, (.int (1))), (20, (.bl false))]), some (.ins 6 [(42, (.tup [(.tup [(.str (Str.ofString "all")), (.tup [(.str (Str.ofString "slide")), (.int (1)), (.int (3))])])])), (24, (.int (1))), (20, (.bl false))]), some (.ins 6 [(42, (.tup [(.tup [(.str (Str.ofString "all")), (.tup [(.str (Str.ofString "bucket")), (.int (1)), (.int (3))])])])), (24, (.int (1))), (20, (.bl false))]), some (.ins 6 [(42, (.tup [(.tup [(.str (Str.ofString "all")), (.tup [(.str (Str.ofString "window")), (.int (1)), (.int (3))])])])), (24, (.int (1))), (20, (.bl false))]), some (.ins 6 [(42, (.tup [(.tup [(.str (Str.ofString "each")), (.tup [(.str (Str.ofString "gap")), (.int (3))])])])), (24, (.int (2))), (20, (.bl false))]), some (.ins 6 [(42, (.tup [(.tup [(.str (Str.ofString "all")), (.tup [(.str (Str.ofString "gap")), (.int (3))])])])), (24, (.int (2))), (20, (.bl false))]), some (.tup [(.tup [(.str (Str.ofString "each")), (.tup [(.str (Str.ofString "bucket")), (.int (1)), (.int (1))])]), (.tup [(.str (Str.ofString "all")), (.tup [(.str (Str.ofString "slide")), (.int (1)), (.int (2))])])]), some (.ins 6 [(42, (.tup [(.tup [(.str (Str.ofString "each")), (.tup [(.str (Str.ofString "bucket")), (.int (1)), (.int (1))])]), (.tup [(.str (Str.ofString "all")), (.tup [(.str (Str.ofString "slide")), (.int (1)), (.int (2))])])])), (24, (.int (2))), (20, (.bl false))]), some (.ins 6 [(42, (.tup [(.tup [(.str (Str.ofString "each")), (.tup [(.str (Str.ofString "bucket")), (.int (1)), (.int (1))])]), (.tup [(.str (Str.ofString "all")), (.tup [(.str (Str.ofString "slide")), (.int (1)), (.int (2))])])])), (24, (.int (2))), (20, (.bl true))]), some (.tup [(.tup [(.str (Str.ofString "all")), (.tup [(.str (Str.ofString "bucket")), (.int (2)), (.int (4))])]), (.tup [(.str (Str.ofString "all")), (.tup [(.str (Str.ofString "gap")), (.int (2))])])])]
def ch18 : Hs := []
theorem c0 : nxB (evS pd.tab (callM pd.tab pd.F 12) (sAt f_law_compared_right.body 0) cs0 ch0) cs1 ch1 = true := by decide +kernel
theorem c1 : nxB (evS pd.tab (callM pd.tab pd.F 12) (sAt f_law_compared_right.body 1) cs1 ch1) cs2 ch2 = true := by decide +kernel
theorem c2 : nxB (evS pd.tab (callM pd.tab pd.F 12) (sAt f_law_compared_right.body 2) cs2 ch2) cs3 ch3 = true := by decide +kernel
theorem c3 : nxB (evS pd.tab (callM pd.tab pd.F 12) (sAt f_law_compared_right.body 3) cs3 ch3) cs4 ch4 = true := by decide +kernel
theorem c4 : nxB (evS pd.tab (callM pd.tab pd.F 12) (sAt f_law_compared_right.body 4) cs4 ch4) cs5 ch5 = true := by decide +kernel
theorem c5 : nxB (evS pd.tab (callM pd.tab pd.F 12) (sAt f_law_compared_right.body 5) cs5 ch5) cs6 ch6 = true := by decide +kernel
theorem c6 : nxB (evS pd.tab (callM pd.tab pd.F 12) (sAt f_law_compared_right.body 6) cs6 ch6) cs7 ch7 = true := by decide +kernel
theorem c7 : nxB (evS pd.tab (callM pd.tab pd.F 12) (sAt f_law_compared_right.body 7) cs7 ch7) cs8 ch8 = true := by decide +kernel
theorem c8 : nxB (evS pd.tab (callM pd.tab pd.F 12) (sAt f_law_compared_right.body 8) cs8 ch8) cs9 ch9 = true := by decide +kernel
theorem c9 : nxB (evS pd.tab (callM pd.tab pd.F 12) (sAt f_law_compared_right.body 9) cs9 ch9) cs10 ch10 = true := by decide +kernel
theorem c10 : nxB (evS pd.tab (callM pd.tab pd.F 12) (sAt f_law_compared_right.body 10) cs10 ch10) cs11 ch11 = true := by decide +kernel
theorem c11 : nxB (evS pd.tab (callM pd.tab pd.F 12) (sAt f_law_compared_right.body 11) cs11 ch11) cs12 ch12 = true := by decide +kernel
theorem c12 : nxB (evS pd.tab (callM pd.tab pd.F 12) (sAt f_law_compared_right.body 12) cs12 ch12) cs13 ch13 = true := by decide +kernel
theorem c13 : nxB (evS pd.tab (callM pd.tab pd.F 12) (sAt f_law_compared_right.body 13) cs13 ch13) cs14 ch14 = true := by decide +kernel
theorem c14 : nxB (evS pd.tab (callM pd.tab pd.F 12) (sAt f_law_compared_right.body 14) cs14 ch14) cs15 ch15 = true := by decide +kernel
theorem c15 : nxB (evS pd.tab (callM pd.tab pd.F 12) (sAt f_law_compared_right.body 15) cs15 ch15) cs16 ch16 = true := by decide +kernel
theorem c16 : nxB (evS pd.tab (callM pd.tab pd.F 12) (sAt f_law_compared_right.body 16) cs16 ch16) cs17 ch17 = true := by decide +kernel
theorem c17 : nxB (evS pd.tab (callM pd.tab pd.F 12) (sAt f_law_compared_right.body 17) cs17 ch17) cs18 ch18 = true := by decide +kernel
theorem c18 : rtB (evS pd.tab (callM pd.tab pd.F 12) (sAt f_law_compared_right.body 18) cs18 ch18) [] = true := by decide +kernel
theorem c_all : ∃ σ, evB pd.tab (callM pd.tab pd.F 12) f_law_compared_right.body cs0 [] = .ok (.rt (.bl true), σ) [] := by
  have e : evB pd.tab (callM pd.tab pd.F 12) (dropB f_law_compared_right.body 0) cs0 ch0 = evB pd.tab (callM pd.tab pd.F 12) (dropB f_law_compared_right.body 18) cs18 ch18 := by
    rw [seg (b := f_law_compared_right.body) (k := 0) rfl c0]
    rw [seg (b := f_law_compared_right.body) (k := 1) rfl c1]
    rw [seg (b := f_law_compared_right.body) (k := 2) rfl c2]
    rw [seg (b := f_law_compared_right.body) (k := 3) rfl c3]
    rw [seg (b := f_law_compared_right.body) (k := 4) rfl c4]
    rw [seg (b := f_law_compared_right.body) (k := 5) rfl c5]
    rw [seg (b := f_law_compared_right.body) (k := 6) rfl c6]
    rw [seg (b := f_law_compared_right.body) (k := 7) rfl c7]
    rw [seg (b := f_law_compared_right.body) (k := 8) rfl c8]
    rw [seg (b := f_law_compared_right.body) (k := 9) rfl c9]
    rw [seg (b := f_law_compared_right.body) (k := 10) rfl c10]
    rw [seg (b := f_law_compared_right.body) (k := 11) rfl c11]
    rw [seg (b := f_law_compared_right.body) (k := 12) rfl c12]
    rw [seg (b := f_law_compared_right.body) (k := 13) rfl c13]
    rw [seg (b := f_law_compared_right.body) (k := 14) rfl c14]
    rw [seg (b := f_law_compared_right.body) (k := 15) rfl c15]
    rw [seg (b := f_law_compared_right.body) (k := 16) rfl c16]
    rw [seg (b := f_law_compared_right.body) (k := 17) rfl c17]
  obtain ⟨σ, h⟩ := seg_rt (b := f_law_compared_right.body) (k := 18) rfl c18
  exact ⟨σ, e.trans h⟩
end K06

set_option Elab.async false
set_option linter.all false
set_option maxRecDepth 1000000
set_option maxHeartbeats 0
namespace K06
open PySem MC
def ts0 : Sg := [none, none, none, none, none]
def th0 : Hs := []
def ts1 : Sg := [some (.ins 6 [(42, (.tup [(.tup [(.str (Str.ofString "all")), (.tup [(.str (Str.ofString "bucket")), (.int (1)), (.int (2))])])])), (24, (.int (1))), (20, (.bl false))]), none, none, none, none]
def th1 : Hs := []
def ts2 : Sg := [some (.ins 6 [(42, (.tup [(.tup [(.str (Str.ofString "all")), (.tup [(.str (Str.ofString "bucket")), (.int (1)), (.int (2))])])])), (24, (.int (1))), (20, (.bl false))]), none, none, none, none]
def th2 : Hs := []
def ts3 : Sg := [some (.ins 6 [(42, (.tup [(.tup [(.str (Str.ofString "all")), (.tup [(.str (Str.ofString "bucket")), (.int (1)), (.int (2))])])])), (24, (.int (1))), (20, (.bl false))]), some (.ins 8 [(18, (.lst [(.lst [(.tup [(.tup [(.int (1)), (.int (0))])])]), (.lst [(.tup [(.tup [(.int (1)), (.int (1))])])]), (.lst [(.tup [(.tup [(.int (0)), (.int (0))])])]), (.lst [(.tup [(.tup [(.int (0)), (.int (1))])])])])), (22, (.dct [((.tup [(.int (0)), (.int (1))]), (.tup [(.tup [(.str (Str.ofString "ask")), (.int (0))]), (.tup [(.str (Str.ofString "tick"))]), (.tup [(.str (Str.ofString "ask")), (.int (0))])])), ((.tup [(.int (0)), (.int (2))]), (.tup [(.tup [(.str (Str.ofString "ask")), (.int (0))])])), ((.tup [(.int (0)), (.int (3))]), (.tup [(.tup [(.str (Str.ofString "ask")), (.int (0))])])), ((.tup [(.int (1)), (.int (2))]), (.tup [(.tup [(.str (Str.ofString "ask")), (.int (0))])])), ((.tup [(.int (1)), (.int (3))]), (.tup [(.tup [(.str (Str.ofString "ask")), (.int (0))])])), ((.tup [(.int (2)), (.int (3))]), (.tup [(.tup [(.str (Str.ofString "tick"))]), (.tup [(.str (Str.ofString "ask")), (.int (0))])]))]))]), none, none, none]
def th3 : Hs := []
def ts4 : Sg := [some (.ins 6 [(42, (.tup [(.tup [(.str (Str.ofString "all")), (.tup [(.str (Str.ofString "bucket")), (.int (1)), (.int (2))])])])), (24, (.int (1))), (20, (.bl false))]), some (.ins 8 [(18, (.lst [(.lst [(.tup [(.tup [(.int (1)), (.int (0))])])]), (.lst [(.tup [(.tup [(.int (1)), (.int (1))])])]), (.lst [(.tup [(.tup [(.int (0)), (.int (0))])])]), (.lst [(.tup [(.tup [(.int (0)), (.int (1))])])])])), (22, (.dct [((.tup [(.int (0)), (.int (1))]), (.tup [(.tup [(.str (Str.ofString "ask")), (.int (0))]), (.tup [(.str (Str.ofString "tick"))]), (.tup [(.str (Str.ofString "ask")), (.int (0))])])), ((.tup [(.int (0)), (.int (2))]), (.tup [(.tup [(.str (Str.ofString "ask")), (.int (0))])])), ((.tup [(.int (0)), (.int (3))]), (.tup [(.tup [(.str (Str.ofString "ask")), (.int (0))])])), ((.tup [(.int (1)), (.int (2))]), (.tup [(.tup [(.str (Str.ofString "ask")), (.int (0))])])), ((.tup [(.int (1)), (.int (3))]), (.tup [(.tup [(.str (Str.ofString "ask")), (.int (0))])])), ((.tup [(.int (2)), (.int (3))]), (.tup [(.tup [(.str (Str.ofString "tick"))]), (.tup [(.str (Str.ofString "ask")), (.int (0))])]))]))]), none, none, none]
def th4 : Hs := []
def ts5 : Sg := [some (.ins 6 [(42, (.tup [(.tup [(.str (Str.ofString "all")), (.tup [(.str (Str.ofString "bucket")), (.int (1)), (.int (2))])])])), (24, (.int (1))), (20, (.bl false))]), some (.ins 8 [(18, (.lst [(.lst [(.tup [(.tup [(.int (1)), (.int (0))])])]), (.lst [(.tup [(.tup [(.int (1)), (.int (1))])])]), (.lst [(.tup [(.tup [(.int (0)), (.int (0))])])]), (.lst [(.tup [(.tup [(.int (0)), (.int (1))])])])])), (22, (.dct [((.tup [(.int (0)), (.int (1))]), (.tup [(.tup [(.str (Str.ofString "ask")), (.int (0))]), (.tup [(.str (Str.ofString "tick"))]), (.tup [(.str (Str.ofString "ask")), (.int (0))])])), ((.tup [(.int (0)), (.int (2))]), (.tup [(.tup [(.str (Str.ofString "ask")), (.int (0))])])), ((.tup [(.int (0)), (.int (3))]), (.tup [(.tup [(.str (Str.ofString "ask")), (.int (0))])])), ((.tup [(.int (1)), (.int (2))]), (.tup [(.tup [(.str (Str.ofString "ask")), (.int (0))])])), ((.tup [(.int (1)), (.int (3))]), (.tup [(.tup [(.str (Str.ofString "ask")), (.int (0))])])), ((.tup [(.int (2)), (.int (3))]), (.tup [(.tup [(.str (Str.ofString "tick"))]), (.tup [(.str (Str.ofString "ask")), (.int (0))])]))]))]), none, none, none]
def th5 : Hs := []
def ts6 : Sg := [some (.ins 6 [(42, (.tup [(.tup [(.str (Str.ofString "all")), (.tup [(.str (Str.ofString "bucket")), (.int (1)), (.int (2))])])])), (24, (.int (1))), (20, (.bl false))]), some (.ins 8 [(18, (.lst [(.lst [(.tup [(.tup [(.int (1)), (.int (0))])])]), (.lst [(.tup [(.tup [(.int (1)), (.int (1))])])]), (.lst [(.tup [(.tup [(.int (0)), (.int (0))])])]), (.lst [(.tup [(.tup [(.int (0)), (.int (1))])])])])), (22, (.dct [((.tup [(.int (0)), (.int (1))]), (.tup [(.tup [(.str (Str.ofString "ask")), (.int (0))]), (.tup [(.str (Str.ofString "tick"))]), (.tup [(.str (Str.ofString "ask")), (.int (0))])])), ((.tup [(.int (0)), (.int (2))]), (.tup [(.tup [(.str (Str.ofString "ask")), (.int (0))])])), ((.tup [(.int (0)), (.int (3))]), (.tup [(.tup [(.str (Str.ofString "ask")), (.int (0))])])), ((.tup [(.int (1)), (.int (2))]), (.tup [(.tup [(.str (Str.ofString "ask")), (.int (0))])])), ((.tup [(.int (1)), (.int (3))]), (.tup [(.tup [(.str (Str.ofString "ask")), (.int (0))])])), ((.tup [(.int (2)), (.int (3))]), (.tup [(.tup [(.str (Str.ofString "tick"))]), (.tup [(.str (Str.ofString "ask")), (.int (0))])]))]))]), none, none, none]
def th6 : Hs := []
def ts7 : Sg := [some (.ins 6 [(42, (.tup [(.tup [(.str (Str.ofString "all")), (.tup [(.str (Str.ofString "bucket")), (.int (1)), (.int (2))])])])), (24, (.int (1))), (20, (.bl false))]), some (.ins 8 [(18, (.lst [(.lst [(.tup [(.tup [(.int (1)), (.int (0))])])]), (.lst [(.tup [(.tup [(.int (1)), (.int (1))])])]), (.lst [(.tup [(.tup [(.int (0)), (.int (0))])])]), (.lst [(.tup [(.tup [(.int (0)), (.int (1))])])])])), (22, (.dct [((.tup [(.int (0)), (.int (1))]), (.tup [(.tup [(.str (Str.ofString "ask")), (.int (0))]), (.tup [(.str (Str.ofString "tick"))]), (.tup [(.str (Str.ofString "ask")), (.int (0))])])), ((.tup [(.int (0)), (.int (2))]), (.tup [(.tup [(.str (Str.ofString "ask")), (.int (0))])])), ((.tup [(.int (0)), (.int (3))]), (.tup [(.tup [(.str (Str.ofString "ask")), (.int (0))])])), ((.tup [(.int (1)), (.int (2))]), (.tup [(.tup [(.str (Str.ofString "ask")), (.int (0))])])), ((.tup [(.int (1)), (.int (3))]), (.tup [(.tup [(.str (Str.ofString "ask")), (.int (0))])])), ((.tup [(.int (2)), (.int (3))]), (.tup [(.tup [(.str (Str.ofString "tick"))]), (.tup [(.str (Str.ofString "ask")), (.int (0))])]))]))]), some (.ins 6 [(42, (.tup [(.tup [(.str (Str.ofString "all")), (.tup [(.str (Str.ofString "slide")), (.int (1)), (.int (3))])]), (.tup [(.str (Str.ofString "each")), (.tup [(.str (Str.ofString "gap")), (.int (3))])]), (.tup [(.str (Str.ofString "all")), (.tup [(.str (Str.ofString "gap")), (.int (3))])])])), (24, (.int (2))), (20, (.bl false))]), none, none]
def th7 : Hs := []
def ts8 : Sg := [some (.ins 6 [(42, (.tup [(.tup [(.str (Str.ofString "all")), (.tup [(.str (Str.ofString "bucket")), (.int (1)), (.int (2))])])])), (24, (.int (1))), (20, (.bl false))]), some (.ins 8 [(18, (.lst [(.lst [(.tup [(.tup [(.int (1)), (.int (0))])])]), (.lst [(.tup [(.tup [(.int (1)), (.int (1))])])]), (.lst [(.tup [(.tup [(.int (0)), (.int (0))])])]), (.lst [(.tup [(.tup [(.int (0)), (.int (1))])])])])), (22, (.dct [((.tup [(.int (0)), (.int (1))]), (.tup [(.tup [(.str (Str.ofString "ask")), (.int (0))]), (.tup [(.str (Str.ofString "tick"))]), (.tup [(.str (Str.ofString "ask")), (.int (0))])])), ((.tup [(.int (0)), (.int (2))]), (.tup [(.tup [(.str (Str.ofString "ask")), (.int (0))])])), ((.tup [(.int (0)), (.int (3))]), (.tup [(.tup [(.str (Str.ofString "ask")), (.int (0))])])), ((.tup [(.int (1)), (.int (2))]), (.tup [(.tup [(.str (Str.ofString "ask")), (.int (0))])])), ((.tup [(.int (1)), (.int (3))]), (.tup [(.tup [(.str (Str.ofString "ask")), (.int (0))])])), ((.tup [(.int (2)), (.int (3))]), (.tup [(.tup [(.str (Str.ofString "tick"))]), (.tup [(.str (Str.ofString "ask")), (.int (0))])]))]))]), some (.ins 6 [(42, (.tup [(.tup [(.str (Str.ofString "all")), (.tup [(.str (Str.ofString "slide")), (.int (1)), (.int (3))])]), (.tup [(.str (Str.ofString "each")), (.tup [(.str (Str.ofString "gap")), (.int (3))])]), (.tup [(.str (Str.ofString "all")), (.tup [(.str (Str.ofString "gap")), (.int (3))])])])), (24, (.int (2))), (20, (.bl false))]), none, none]
def th8 : Hs := []
def ts9 : Sg := [some (.ins 6 [(42, (.tup [(.tup [(.str (Str.ofString "all")), (.tup [(.str (Str.ofString "bucket")), (.int (1)), (.int (2))])])])), (24, (.int (1))), (20, (.bl false))]), some (.ins 8 [(18, (.lst [(.lst [(.tup [(.tup [(.int (1)), (.int (0))])])]), (.lst [(.tup [(.tup [(.int (1)), (.int (1))])])]), (.lst [(.tup [(.tup [(.int (0)), (.int (0))])])]), (.lst [(.tup [(.tup [(.int (0)), (.int (1))])])])])), (22, (.dct [((.tup [(.int (0)), (.int (1))]), (.tup [(.tup [(.str (Str.ofString "ask")), (.int (0))]), (.tup [(.str (Str.ofString "tick"))]), (.tup [(.str (Str.ofString "ask")), (.int (0))])])), ((.tup [(.int (0)), (.int (2))]), (.tup [(.tup [(.str (Str.ofString "ask")), (.int (0))])])), ((.tup [(.int (0)), (.int (3))]), (.tup [(.tup [(.str (Str.ofString "ask")), (.int (0))])])), ((.tup [(.int (1)), (.int (2))]), (.tup [(.tup [(.str (Str.ofString "ask")), (.int (0))])])), ((.tup [(.int (1)), (.int (3))]), (.tup [(.tup [(.str (Str.ofString "ask")), (.int (0))])])), ((.tup [(.int (2)), (.int (3))]), (.tup [(.tup [(.str (Str.ofString "tick"))]), (.tup [(.str (Str.ofString "ask")), (.int (0))])]))]))]), some (.ins 6 [(42, (.tup [(.tup [(.str (Str.ofString "all")), (.tup [(.str (Str.ofString "slide")), (.int (1)), (.int (3))])]), (.tup [(.str (Str.ofString "each")), (.tup [(.str (Str.ofString "gap")), (.int (3))])]), (.tup [(.str (Str.ofString "all")), (.tup [(.str (Str.ofString "gap")), (.int (3))])])])), (24, (.int (2))), (20, (.bl false))]), none, none]
def th9 : Hs := [(.dct [])]
def ts10 : Sg := [some (.ins 6 [(42, (.tup [(.tup [(.str (Str.ofString "all")), (.tup [(.str (Str.ofString "bucket")), (.int (1)), (.int (2))])])])), (24, (.int (1))), (20, (.bl false))]), some (.ins 8 [(18, (.lst [(.lst [(.tup [(.tup [(.int (1)), (.int (0))])])]), (.lst [(.tup [(.tup [(.int (1)), (.int (1))])])]), (.lst [(.tup [(.tup [(.int (0)), (.int (0))])])]), (.lst [(.tup [(.tup [(.int (0)), (.int (1))])])])])), (22, (.dct [((.tup [(.int (0)), (.int (1))]), (.tup [(.tup [(.str (Str.ofString "ask")), (.int (0))]), (.tup [(.str (Str.ofString "tick"))]), (.tup [(.str (Str.ofString "ask")), (.int (0))])])), ((.tup [(.int (0)), (.int (2))]), (.tup [(.tup [(.str (Str.ofString "ask")), (.int (0))])])), ((.tup [(.int (0)), (.int (3))]), (.tup [(.tup [(.str (Str.ofString "ask")), (.int (0))])])), ((.tup [(.int (1)), (.int (2))]), (.tup [(.tup [(.str (Str.ofString "ask")), (.int (0))])])), ((.tup [(.int (1)), (.int (3))]), (.tup [(.tup [(.str (Str.ofString "ask")), (.int (0))])])), ((.tup [(.int (2)), (.int (3))]), (.tup [(.tup [(.str (Str.ofString "tick"))]), (.tup [(.str (Str.ofString "ask")), (.int (0))])]))]))]), some (.ins 6 [(42, (.tup [(.tup [(.str (Str.ofString "all")), (.tup [(.str (Str.ofString "slide")), (.int (1)), (.int (3))])]), (.tup [(.str (Str.ofString "each")), (.tup [(.str (Str.ofString "gap")), (.int (3))])]), (.tup [(.str (Str.ofString "all")), (.tup [(.str (Str.ofString "gap")), (.int (3))])])])), (24, (.int (2))), (20, (.bl false))]), some (.ins 6 [(42, (.tup [(.tup [(.str (Str.ofString "each")), (.tup [(.str (Str.ofString "gap")), (.int (1))])]), (.tup [(.str (Str.ofString "all")), (.tup [(.str (Str.ofString "gap")), (.int (2))])]), (.tup [(.str (Str.ofString "each")), (.tup [(.str (Str.ofString "window")), (.int (1)), (.int (1))])])])), (24, (.int (2))), (20, (.bl false))]), none]
def th10 : Hs := [(.dct [])]
def ts11 : Sg := [some (.ins 6 [(42, (.tup [(.tup [(.str (Str.ofString "all")), (.tup [(.str (Str.ofString "bucket")), (.int (1)), (.int (2))])])])), (24, (.int (1))), (20, (.bl false))]), some (.ins 8 [(18, (.lst [(.lst [(.tup [(.tup [(.int (1)), (.int (0))])])]), (.lst [(.tup [(.tup [(.int (1)), (.int (1))])])]), (.lst [(.tup [(.tup [(.int (0)), (.int (0))])])]), (.lst [(.tup [(.tup [(.int (0)), (.int (1))])])])])), (22, (.dct [((.tup [(.int (0)), (.int (1))]), (.tup [(.tup [(.str (Str.ofString "ask")), (.int (0))]), (.tup [(.str (Str.ofString "tick"))]), (.tup [(.str (Str.ofString "ask")), (.int (0))])])), ((.tup [(.int (0)), (.int (2))]), (.tup [(.tup [(.str (Str.ofString "ask")), (.int (0))])])), ((.tup [(.int (0)), (.int (3))]), (.tup [(.tup [(.str (Str.ofString "ask")), (.int (0))])])), ((.tup [(.int (1)), (.int (2))]), (.tup [(.tup [(.str (Str.ofString "ask")), (.int (0))])])), ((.tup [(.int (1)), (.int (3))]), (.tup [(.tup [(.str (Str.ofString "ask")), (.int (0))])])), ((.tup [(.int (2)), (.int (3))]), (.tup [(.tup [(.str (Str.ofString "tick"))]), (.tup [(.str (Str.ofString "ask")), (.int (0))])]))]))]), some (.ins 6 [(42, (.tup [(.tup [(.str (Str.ofString "all")), (.tup [(.str (Str.ofString "slide")), (.int (1)), (.int (3))])]), (.tup [(.str (Str.ofString "each")), (.tup [(.str (Str.ofString "gap")), (.int (3))])]), (.tup [(.str (Str.ofString "all")), (.tup [(.str (Str.ofString "gap")), (.int (3))])])])), (24, (.int (2))), (20, (.bl false))]), some (.ins 6 [(42, (.tup [(.tup [(.str (Str.ofString "each")), (.tup [(.str (Str.ofString "gap")), (.int (1))])]), (.tup [(.str (Str.ofString "all")), (.tup [(.str (Str.ofString "gap")), (.int (2))])]), (.tup [(.str (Str.ofString "each")), (.tup [(.str (Str.ofString "window")), (.int (1)), (.int (1))])])])), (24, (.int (2))), (20, (.bl false))]), none]
def th11 : Hs := [(.dct [])]
def ts12 : Sg := [some (.ins 6 [(42, (.tup [(.tup [(.str (Str.ofString "all")), (.tup [(.str (Str.ofString "bucket")), (.int (1)), (.int (2))])])])), (24, (.int (1))), (20, (.bl false))]), some (.ins 8 [(18, (.lst [(.lst [(.tup [(.tup [(.int (1)), (.int (0))])])]), (.lst [(.tup [(.tup [(.int (1)), (.int (1))])])]), (.lst [(.tup [(.tup [(.int (0)), (.int (0))])])]), (.lst [(.tup [(.tup [(.int (0)), (.int (1))])])])])), (22, (.dct [((.tup [(.int (0)), (.int (1))]), (.tup [(.tup [(.str (Str.ofString "ask")), (.int (0))]), (.tup [(.str (Str.ofString "tick"))]), (.tup [(.str (Str.ofString "ask")), (.int (0))])])), ((.tup [(.int (0)), (.int (2))]), (.tup [(.tup [(.str (Str.ofString "ask")), (.int (0))])])), ((.tup [(.int (0)), (.int (3))]), (.tup [(.tup [(.str (Str.ofString "ask")), (.int (0))])])), ((.tup [(.int (1)), (.int (2))]), (.tup [(.tup [(.str (Str.ofString "ask")), (.int (0))])])), ((.tup [(.int (1)), (.int (3))]), (.tup [(.tup [(.str (Str.ofString "ask")), (.int (0))])])), ((.tup [(.int (2)), (.int (3))]), (.tup [(.tup [(.str (Str.ofString "tick"))]), (.tup [(.str (Str.ofString "ask")), (.int (0))])]))]))]), some (.ins 6 [(42, (.tup [(.tup [(.str (Str.ofString "all")), (.tup [(.str (Str.ofString "slide")), (.int (1)), (.int (3))])]), (.tup [(.str (Str.ofString "each")), (.tup [(.str (Str.ofString "gap")), (.int (3))])]), (.tup [(.str (Str.ofString "all")), (.tup [(.str (Str.ofString "gap")), (.int (3))])])])), (24, (.int (2))), (20, (.bl false))]), some (.ins 6 [(42, (.tup [(.tup [(.str (Str.ofString "each")), (.tup [(.str (Str.ofString "gap")), (.int (1))])]), (.tup [(.str (Str.ofString "all")), (.tup [(.str (Str.ofString "gap")), (.int (2))])]), (.tup [(.str (Str.ofString "each")), (.tup [(.str (Str.ofString "window")), (.int (1)), (.int (1))])])])), (24, (.int (2))), (20, (.bl false))]), some (.ins 6 [(42, (.tup [(.tup [(.str (Str.ofString "each")), (.tup [(.str (Str.ofString "slide")), (.int (2)), (.int (6))])])])), (24, (.int (2))), (20, (.bl false))])]
def th12 : Hs := [(.dct [])]
def ts13 : Sg := [some (.ins 6 [(42, (.tup [(.tup [(.str (Str.ofString "all")), (.tup [(.str (Str.ofString "bucket")), (.int (1)), (.int (2))])])])), (24, (.int (1))), (20, (.bl false))]), some (.ins 8 [(18, (.lst [(.lst [(.tup [(.tup [(.int (1)), (.int (0))])])]), (.lst [(.tup [(.tup [(.int (1)), (.int (1))])])]), (.lst [(.tup [(.tup [(.int (0)), (.int (0))])])]), (.lst [(.tup [(.tup [(.int (0)), (.int (1))])])])])), (22, (.dct [((.tup [(.int (0)), (.int (1))]), (.tup [(.tup [(.str (Str.ofString "ask")), (.int (0))]), (.tup [(.str (Str.ofString "tick"))]), (.tup [(.str (Str.ofString "ask")), (.int (0))])])), ((.tup [(.int (0)), (.int (2))]), (.tup [(.tup [(.str (Str.ofString "ask")), (.int (0))])])), ((.tup [(.int (0)), (.int (3))]), (.tup [(.tup [(.str (Str.ofString "ask")), (.int (0))])])), ((.tup [(.int (1)), (.int (2))]), (.tup [(.tup [(.str (Str.ofString "ask")), (.int (0))])])), ((.tup [(.int (1)), (.int (3))]), (.tup [(.tup [(.str (Str.ofString "ask")), (.int (0))])])), ((.tup [(.int (2)), (.int (3))]), (.tup [(.tup [(.str (Str.ofString "tick"))]), (.tup [(.str (Str.ofString "ask")), (.int (0))])]))]))]), some (.ins 6 [(42, (.tup [(.tup [(.str (Str.ofString "all")), (.tup [(.str (Str.ofString "slide")), (.int (1)), (.int (3))])]), (.tup [(.str (Str.ofString "each")), (.tup [(.str (Str.ofString "gap")), (.int (3))])]), (.tup [(.str (Str.ofString "all")), (.tup [(.str (Str.ofString "gap")), (.int (3))])])])), (24, (.int (2))), (20, (.bl false))]), some (.ins 6 [(42, (.tup [(.tup [(.str (Str.ofString "each")), (.tup [(.str (Str.ofString "gap")), (.int (1))])]), (.tup [(.str (Str.ofString "all")), (.tup [(.str (Str.ofString "gap")), (.int (2))])]), (.tup [(.str (Str.ofString "each")), (.tup [(.str (Str.ofString "window")), (.int (1)), (.int (1))])])])), (24, (.int (2))), (20, (.bl false))]), some (.ins 6 [(42, (.tup [(.tup [(.str (Str.ofString "each")), (.tup [(.str (Str.ofString "slide")), (.int (2)), (.int (6))])])])), (24, (.int (2))), (20, (.bl false))])]
def th13 : Hs := [(.dct [])]
def ts14 : Sg := [some (.ins 6 [(42, (.tup [(.tup [(.str (Str.ofString "all")), (.tup [(.str (Str.ofString "bucket")), (.int (1)), (.int (2))])])])), (24, (.int (1))), (20, (.bl false))]), some (.ins 8 [(18, (.lst [(.lst [(.tup [(.tup [(.int (1)), (.int (0))])])]), (.lst [(.tup [(.tup [(.int (1)), (.int (1))])])]), (.lst [(.tup [(.tup [(.int (0)), (.int (0))])])]), (.lst [(.tup [(.tup [(.int (0)), (.int (1))])])])])), (22, (.dct [((.tup [(.int (0)), (.int (1))]), (.tup [(.tup [(.str (Str.ofString "ask")), (.int (0))]), (.tup [(.str (Str.ofString "tick"))]), (.tup [(.str (Str.ofString "ask")), (.int (0))])])), ((.tup [(.int (0)), (.int (2))]), (.tup [(.tup [(.str (Str.ofString "ask")), (.int (0))])])), ((.tup [(.int (0)), (.int (3))]), (.tup [(.tup [(.str (Str.ofString "ask")), (.int (0))])])), ((.tup [(.int (1)), (.int (2))]), (.tup [(.tup [(.str (Str.ofString "ask")), (.int (0))])])), ((.tup [(.int (1)), (.int (3))]), (.tup [(.tup [(.str (Str.ofString "ask")), (.int (0))])])), ((.tup [(.int (2)), (.int (3))]), (.tup [(.tup [(.str (Str.ofString "tick"))]), (.tup [(.str (Str.ofString "ask")), (.int (0))])]))]))]), some (.ins 6 [(42, (.tup [(.tup [(.str (Str.ofString "all")), (.tup [(.str (Str.ofString "slide")), (.int (1)), (.int (3))])]), (.tup [(.str (Str.ofString "each")), (.tup [(.str (Str.ofString "gap")), (.int (3))])]), (.tup [(.str (Str.ofString "all")), (.tup [(.str (Str.ofString "gap")), (.int (3))])])])), (24, (.int (2))), (20, (.bl false))]), some (.ins 6 [(42, (.tup [(.tup [(.str (Str.ofString "each")), (.tup [(.str (Str.ofString "gap")), (.int (1))])]), (.tup [(.str (Str.ofString "all")), (.tup [(.str (Str.ofString "gap")), (.int (2))])]), (.tup [(.str (Str.ofString "each")), (.tup [(.str (Str.ofString "window")), (.int (1)), (.int (1))])])])), (24, (.int (2))), (20, (.bl false))]), some (.ins 6 [(42, (.tup [(.tup [(.str (Str.ofString "each")), (.tup [(.str (Str.ofString "slide")), (.int (2)), (.int (6))])])])), (24, (.int (2))), (20, (.bl false))])]
def th14 : Hs := [(.dct [])]
theorem t0 : nxB (evS pd.tab (callM pd.tab pd.F 12) (sAt f_law_twins_right.body 0) ts0 th0) ts1 th1 = true := by decide +kernel
theorem t1 : nxB (evS pd.tab (callM pd.tab pd.F 12) (sAt f_law_twins_right.body 1) ts1 th1) ts2 th2 = true := by decide +kernel
theorem t2 : nxB (evS pd.tab (callM pd.tab pd.F 12) (sAt f_law_twins_right.body 2) ts2 th2) ts3 th3 = true := by decide +kernel
theorem t3 : nxB (evS pd.tab (callM pd.tab pd.F 12) (sAt f_law_twins_right.body 3) ts3 th3) ts4 th4 = true := by decide +kernel
theorem t4 : nxB (evS pd.tab (callM pd.tab pd.F 12) (sAt f_law_twins_right.body 4) ts4 th4) ts5 th5 = true := by decide +kernel
theorem t5 : nxB (evS pd.tab (callM pd.tab pd.F 12) (sAt f_law_twins_right.body 5) ts5 th5) ts6 th6 = true := by decide +kernel
theorem t6 : nxB (evS pd.tab (callM pd.tab pd.F 12) (sAt f_law_twins_right.body 6) ts6 th6) ts7 th7 = true := by decide +kernel
theorem t7 : nxB (evS pd.tab (callM pd.tab pd.F 12) (sAt f_law_twins_right.body 7) ts7 th7) ts8 th8 = true := by decide +kernel
theorem t8 : nxB (evS pd.tab (callM pd.tab pd.F 12) (sAt f_law_twins_right.body 8) ts8 th8) ts9 th9 = true := by decide +kernel
theorem t9 : nxB (evS pd.tab (callM pd.tab pd.F 12) (sAt f_law_twins_right.body 9) ts9 th9) ts10 th10 = true := by decide +kernel
theorem t10 : nxB (evS pd.tab (callM pd.tab pd.F 12) (sAt f_law_twins_right.body 10) ts10 th10) ts11 th11 = true := by decide +kernel
theorem t11 : nxB (evS pd.tab (callM pd.tab pd.F 12) (sAt f_law_twins_right.body 11) ts11 th11) ts12 th12 = true := by decide +kernel
theorem t12 : nxB (evS pd.tab (callM pd.tab pd.F 12) (sAt f_law_twins_right.body 12) ts12 th12) ts13 th13 = true := by decide +kernel
theorem t13 : nxB (evS pd.tab (callM pd.tab pd.F 12) (sAt f_law_twins_right.body 13) ts13 th13) ts14 th14 = true := by decide +kernel
theorem t14 : rtB (evS pd.tab (callM pd.tab pd.F 12) (sAt f_law_twins_right.body 14) ts14 th14) [(.dct [])] = true := by decide +kernel
theorem t_all : ∃ σ, evB pd.tab (callM pd.tab pd.F 12) f_law_twins_right.body ts0 [] = .ok (.rt (.bl true), σ) [(.dct [])] := by
  have e : evB pd.tab (callM pd.tab pd.F 12) (dropB f_law_twins_right.body 0) ts0 th0 = evB pd.tab (callM pd.tab pd.F 12) (dropB f_law_twins_right.body 14) ts14 th14 := by
    rw [seg (b := f_law_twins_right.body) (k := 0) rfl t0]
    rw [seg (b := f_law_twins_right.body) (k := 1) rfl t1]
    rw [seg (b := f_law_twins_right.body) (k := 2) rfl t2]
    rw [seg (b := f_law_twins_right.body) (k := 3) rfl t3]
    rw [seg (b := f_law_twins_right.body) (k := 4) rfl t4]
    rw [seg (b := f_law_twins_right.body) (k := 5) rfl t5]
    rw [seg (b := f_law_twins_right.body) (k := 6) rfl t6]
    rw [seg (b := f_law_twins_right.body) (k := 7) rfl t7]
    rw [seg (b := f_law_twins_right.body) (k := 8) rfl t8]
    rw [seg (b := f_law_twins_right.body) (k := 9) rfl t9]
    rw [seg (b := f_law_twins_right.body) (k := 10) rfl t10]
    rw [seg (b := f_law_twins_right.body) (k := 11) rfl t11]
    rw [seg (b := f_law_twins_right.body) (k := 12) rfl t12]
    rw [seg (b := f_law_twins_right.body) (k := 13) rfl t13]
  obtain ⟨σ, h⟩ := seg_rt (b := f_law_twins_right.body) (k := 14) rfl t14
  exact ⟨σ, e.trans h⟩
end K06

set_option Elab.async false
set_option linter.all false
set_option maxRecDepth 100000
set_option maxHeartbeats 0
namespace K06
open PySem MC
theorem call_end {f : Nat} {fn : Fn} {σ : Sg} {h : Hs} (n : Nat) (hF : pd.F f = some fn) (ha : fn.ar = 0) (e : evB pd.tab (callM pd.tab pd.F n) fn.body (startM fn.ns []) [] = .ok (.rt (.bl true), σ) h) (hb : isT (back fn.fz [] (.bl true) h) = true) : isT (callM pd.tab pd.F (n + 1) f [] []) = true := by
  unfold callM
  rw [hF]
  simp only
  rw [if_pos (show ([] : List D).length = fn.ar by rw [ha]; rfl), e]
  exact hb
theorem compared : isT (callM pd.tab pd.F 13 87 [] []) = true := by
  obtain ⟨σ, e⟩ := c_all
  exact call_end 12 F_law_compared_right rfl e rfl
theorem twins : isT (callM pd.tab pd.F 13 89 [] []) = true := by
  obtain ⟨σ, e⟩ := t_all
  exact call_end 12 F_law_twins_right rfl e rfl
theorem law_body (cl : Nat → List D → Hs → Res D) (σ : Sg) (e1 : cl 86 [] [] = .ok (.bl true) []) (e2 : cl 87 [] [] = .ok (.bl true) []) (e3 : cl 89 [] [] = .ok (.bl true) []) : evB pd.tab cl f_law.body σ [] = .ok (.rt (.bl true), σ) [] := by
  simp [f_law, evB, evS, evE, evA, Res.bind, Res.bindX, e1, e2, e3, tru]
theorem law_call (n : Nat) (x : D) (e1 : isT (callM pd.tab pd.F n 86 [] []) = true) (e2 : isT (callM pd.tab pd.F n 87 [] []) = true) (e3 : isT (callM pd.tab pd.F n 89 [] []) = true) : callM pd.tab pd.F (n + 1) 90 [x] [] = .ok (.bl true) [] := by
  unfold callM
  rw [F_law]
  simp only
  rw [if_pos (show [x].length = f_law.ar from rfl), law_body _ _ (isT_ok e1) (isT_ok e2) (isT_ok e3)]
  simp [back]
theorem law_true (ns : List Int) (_ : ns.length ≤ 63) : ∃ h', callM pd.tab pd.F 14 90 [.lst (ns.map D.int)] [] = .ok (.bl true) h' := ⟨[], law_call 13 _ runs compared twins⟩
end K06

set_option Elab.async false
set_option linter.all false
set_option maxRecDepth 100000
set_option maxHeartbeats 0
namespace K06
open PySem PySem.Spec PyProof.Rows L2 He MC
theorem kb_plain {K : PySem.W.Frag} {fd : FuncData} {ps : List Str} (h : Binds K fd ps []) : KBn K fd ps ps.length [] (fun us _ => us) (fun vs _ => vs) :=
  ⟨fun s us ws hk hl _ => by
    have := h s us hk (by rw [List.append_nil]; exact hl)
    rw [List.append_nil] at this
    exact this, fun r _ => r⟩
theorem mk_facts {K : PySem.W.Frag} {P : Program} {w : World} (c0 : obsM pd K = valM pd) : ∀ c sh np ks x, pd.mkk c sh = some (np, ks) → pd.cn.lookup c = some x → ∃ f fz r, pd.inits.lookup c = some (f, fz) ∧ pd.frs.lookup f = some r ∧ r.at_ = .mth x "__init__" ∧ ∃ g gV, KBn K (pd.fd K f) (pd.ps f) (np + 1) ks g gV ∧
      ∀ (β : List Addr) (H : Hp) (d : D) (v : V) (xs ys ws : List D) (vs zs : List V), RelD K pd.nm (pd.cb K P w) β H d v → RelL K pd.nm (pd.cb K P w) β H xs vs → RelL K pd.nm (pd.cb K P w) β H ys zs → pd.shape sh xs ys = some ws → xs.length = np ∧ ys.length = ks.length ∧ RelL K pd.nm (pd.cb K P w) β H (d :: ws) (gV (v :: vs) zs) := by
  intro c sh np ks x e1 e2
  unfold PD.mkk pd at e1
  simp only at e1
  split at e1
  · cases e1
    have ex : x = Str.ofString "Machine" := by
      have : pd.cn.lookup 7 = some (Str.ofString "Machine") := by decide +kernel
      rw [this] at e2
      cases e2
      rfl
    subst ex
    have F := fr_fun c0 (f := 27) (r := r27) (by rfl)
    have b := plain_binds (ps := r27.ps) F (by decide +kernel) (by decide +kernel) (by decide) (by decide +kernel)
    refine ⟨27, false, r27, rfl, rfl, rfl, _, _, kb_plain b, ?_⟩
    intro β H d v xs ys ws vs zs rd rx ry hsh
    match xs, ys, hsh, rx, ry with
    | [x0], [], hsh, rx, ry =>
      cases hsh
      exact ⟨rfl, rfl, .cons rd rx⟩
  · cases e1
    have ex : x = Str.ofString "Classes" := by
      have : pd.cn.lookup 8 = some (Str.ofString "Classes") := by decide +kernel
      rw [this] at e2
      cases e2
      rfl
    subst ex
    have F := fr_fun c0 (f := 46) (r := r46) (by rfl)
    have b := plain_binds (ps := r46.ps) F (by decide +kernel) (by decide +kernel) (by decide) (by decide +kernel)
    refine ⟨46, true, r46, rfl, rfl, rfl, _, _, kb_plain b, ?_⟩
    intro β H d v xs ys ws vs zs rd rx ry hsh
    match xs, ys, hsh, rx, ry with
    | [x0, x1], [], hsh, rx, ry =>
      cases hsh
      exact ⟨rfl, rfl, .cons rd rx⟩
  · cases e1
    have ex : x = Str.ofString "Comparison" := by
      have : pd.cn.lookup 9 = some (Str.ofString "Comparison") := by decide +kernel
      rw [this] at e2
      cases e2
      rfl
    subst ex
    have F := fr_fun c0 (f := 56) (r := r56) (by rfl)
    have b := plain_binds (ps := r56.ps) F (by decide +kernel) (by decide +kernel) (by decide) (by decide +kernel)
    refine ⟨56, false, r56, rfl, rfl, rfl, _, _, kb_plain b, ?_⟩
    intro β H d v xs ys ws vs zs rd rx ry hsh
    match xs, ys, hsh, rx, ry with
    | [x0, x1, x2], [], hsh, rx, ry =>
      cases hsh
      exact ⟨rfl, rfl, .cons rd rx⟩
  · cases e1
    have ex : x = Str.ofString "Within" := by
      have : pd.cn.lookup 10 = some (Str.ofString "Within") := by decide +kernel
      rw [this] at e2
      cases e2
      rfl
    subst ex
    have F := fr_fun c0 (f := 60) (r := r60) (by rfl)
    have b := plain_binds (ps := r60.ps) F (by decide +kernel) (by decide +kernel) (by decide) (by decide +kernel)
    refine ⟨60, true, r60, rfl, rfl, rfl, _, _, kb_plain b, ?_⟩
    intro β H d v xs ys ws vs zs rd rx ry hsh
    match xs, ys, hsh, rx, ry with
    | [x0], [], hsh, rx, ry =>
      cases hsh
      exact ⟨rfl, rfl, .cons rd rx⟩
  · cases e1
    have ex : x = Str.ofString "Escapes" := by
      have : pd.cn.lookup 11 = some (Str.ofString "Escapes") := by decide +kernel
      rw [this] at e2
      cases e2
      rfl
    subst ex
    have F := fr_fun c0 (f := 63) (r := r63) (by rfl)
    have b := plain_binds (ps := r63.ps) F (by decide +kernel) (by decide +kernel) (by decide) (by decide +kernel)
    refine ⟨63, true, r63, rfl, rfl, rfl, _, _, kb_plain b, ?_⟩
    intro β H d v xs ys ws vs zs rd rx ry hsh
    match xs, ys, hsh, rx, ry with
    | [x0], [], hsh, rx, ry =>
      cases hsh
      exact ⟨rfl, rfl, .cons rd rx⟩
  · cases e1
    have ex : x = Str.ofString "Alike" := by
      have : pd.cn.lookup 12 = some (Str.ofString "Alike") := by decide +kernel
      rw [this] at e2
      cases e2
      rfl
    subst ex
    have F := fr_fun c0 (f := 66) (r := r66) (by rfl)
    have b := plain_binds (ps := r66.ps) F (by decide +kernel) (by decide +kernel) (by decide) (by decide +kernel)
    refine ⟨66, true, r66, rfl, rfl, rfl, _, _, kb_plain b, ?_⟩
    intro β H d v xs ys ws vs zs rd rx ry hsh
    match xs, ys, hsh, rx, ry with
    | [x0], [], hsh, rx, ry =>
      cases hsh
      exact ⟨rfl, rfl, .cons rd rx⟩
  · cases e1
    have ex : x = Str.ofString "Apart" := by
      have : pd.cn.lookup 13 = some (Str.ofString "Apart") := by decide +kernel
      rw [this] at e2
      cases e2
      rfl
    subst ex
    have F := fr_fun c0 (f := 69) (r := r69) (by rfl)
    have b := plain_binds (ps := r69.ps) F (by decide +kernel) (by decide +kernel) (by decide) (by decide +kernel)
    refine ⟨69, true, r69, rfl, rfl, rfl, _, _, kb_plain b, ?_⟩
    intro β H d v xs ys ws vs zs rd rx ry hsh
    match xs, ys, hsh, rx, ry with
    | [x0], [], hsh, rx, ry =>
      cases hsh
      exact ⟨rfl, rfl, .cons rd rx⟩
  · cases e1
    have ex : x = Str.ofString "Chain" := by
      have : pd.cn.lookup 6 = some (Str.ofString "Chain") := by decide +kernel
      rw [this] at e2
      cases e2
      rfl
    subst ex
    have F := fr_fun c0 (f := 7) (r := r7) (by rfl)
    obtain ⟨mv, b⟩ := FunD.kbinds0 (ps := r7.ps) F 2 [Str.ofString "callers", Str.ofString "charges"] [] (fun us _ ws => us ++ ws) (by intro z; cases z) (by intro q hq; cases hq) (fun r1 _ r3 => r1.append r3) (by
      intro D doc pm an cdv ct us mv ws h1 h2 h3
      match us, ws, h1, h3 with
      | [_, _], [_, _], _, _ => rfl)
    refine ⟨7, true, r7, rfl, rfl, rfl, _, _, b, ?_⟩
    intro β H d v xs ys ws vs zs rd rx ry hsh
    match xs, ys, hsh, rx, ry with
    | [x0], [y0, y1], hsh, .cons a .nil, ry =>
      cases hsh
      exact ⟨rfl, rfl, .cons rd (.cons a ry)⟩
  · cases e1
    have ex : x = Str.ofString "Core" := by
      have : pd.cn.lookup 14 = some (Str.ofString "Core") := by decide +kernel
      rw [this] at e2
      cases e2
      rfl
    subst ex
    have F := fr_fun c0 (f := 80) (r := r80) (by rfl)
    have b := plain_binds (ps := r80.ps) F (by decide +kernel) (by decide +kernel) (by decide) (by decide +kernel)
    refine ⟨80, true, r80, rfl, rfl, rfl, _, _, kb_plain b, ?_⟩
    intro β H d v xs ys ws vs zs rd rx ry hsh
    match xs, ys, hsh, rx, ry with
    | [x0, x1], [], hsh, rx, ry =>
      cases hsh
      exact ⟨rfl, rfl, .cons rd rx⟩
  · cases e1
    have ex : x = Str.ofString "Chain" := by
      have : pd.cn.lookup 6 = some (Str.ofString "Chain") := by decide +kernel
      rw [this] at e2
      cases e2
      rfl
    subst ex
    have F := fr_fun c0 (f := 7) (r := r7) (by rfl)
    obtain ⟨mv, b⟩ := FunD.kbinds0 (ps := r7.ps) F 2 [Str.ofString "callers"] [(Str.ofString "charges", .bl false)] (fun us mv ws => us ++ (ws ++ mv)) (by intro z; cases z) (by intro q hq; have ek : DefD.kws K r7.d = [(Str.ofString "callers", .int 1), (Str.ofString "charges", .bl false)] := rfl; rw [ek]; simp only [List.mem_cons, List.not_mem_nil, or_false] at hq ⊢; first | exact hq | exact .inl hq | exact .inr hq) (fun r1 r2 r3 => r1.append (r3.append r2)) (by
      intro D doc pm an cdv ct us mv ws h1 h2 h3
      match us, mv, ws, h1, h2, h3 with
      | [u0, u1], [m0], [k0], _, _, _ => exact ⟨_, _, _, _, _, _, rfl, rfl, rfl⟩)
    refine ⟨7, true, r7, rfl, rfl, rfl, _, _, b, ?_⟩
    intro β H d v xs ys ws vs zs rd rx ry hsh
    match xs, ys, hsh, rx, ry with
    | [x0], [y0], hsh, .cons a0 .nil, .cons b0 .nil =>
      cases hsh
      exact ⟨rfl, rfl, .cons rd (.cons a0 (.cons b0 (.cons (.bl _) .nil)))⟩
  · cases e1
    have ex : x = Str.ofString "Chain" := by
      have : pd.cn.lookup 6 = some (Str.ofString "Chain") := by decide +kernel
      rw [this] at e2
      cases e2
      rfl
    subst ex
    have F := fr_fun c0 (f := 7) (r := r7) (by rfl)
    obtain ⟨mv, b⟩ := FunD.kbinds0 (ps := r7.ps) F 2 [] [(Str.ofString "callers", .int 1), (Str.ofString "charges", .bl false)] (fun us mv ws => us ++ mv) (by intro z; cases z) (by intro q hq; have ek : DefD.kws K r7.d = [(Str.ofString "callers", .int 1), (Str.ofString "charges", .bl false)] := rfl; rw [ek]; simp only [List.mem_cons, List.not_mem_nil, or_false] at hq ⊢; first | exact hq | exact .inl hq | exact .inr hq) (fun r1 r2 r3 => r1.append r2) (by
      intro D doc pm an cdv ct us mv ws h1 h2 h3
      match us, mv, ws, h1, h2, h3 with
      | [u0, u1], [m0, m1], [], _, _, _ => exact ⟨_, _, _, _, _, _, rfl, rfl, ⟨_, _, _, _, _, _, rfl, rfl, rfl⟩⟩)
    refine ⟨7, true, r7, rfl, rfl, rfl, _, _, b, ?_⟩
    intro β H d v xs ys ws vs zs rd rx ry hsh
    match xs, ys, hsh, rx, ry with
    | [x0], [], hsh, .cons a0 .nil, .nil =>
      cases hsh
      exact ⟨rfl, rfl, .cons rd (.cons a0 (.cons (.int _) (.cons (.bl _) .nil)))⟩
  · cases e1
    have ex : x = Str.ofString "Chain" := by
      have : pd.cn.lookup 6 = some (Str.ofString "Chain") := by decide +kernel
      rw [this] at e2
      cases e2
      rfl
    subst ex
    have F := fr_fun c0 (f := 7) (r := r7) (by rfl)
    obtain ⟨mv, b⟩ := FunD.kbinds0 (ps := r7.ps) F 2 [Str.ofString "charges"] [(Str.ofString "callers", .int 1)] (fun us mv ws => us ++ (mv ++ ws)) (by intro z; cases z) (by intro q hq; have ek : DefD.kws K r7.d = [(Str.ofString "callers", .int 1), (Str.ofString "charges", .bl false)] := rfl; rw [ek]; simp only [List.mem_cons, List.not_mem_nil, or_false] at hq ⊢; first | exact hq | exact .inl hq | exact .inr hq) (fun r1 r2 r3 => r1.append (r2.append r3)) (by
      intro D doc pm an cdv ct us mv ws h1 h2 h3
      match us, mv, ws, h1, h2, h3 with
      | [u0, u1], [m0], [k0], _, _, _ => exact ⟨_, _, _, _, _, _, rfl, rfl, rfl⟩)
    refine ⟨7, true, r7, rfl, rfl, rfl, _, _, b, ?_⟩
    intro β H d v xs ys ws vs zs rd rx ry hsh
    match xs, ys, hsh, rx, ry with
    | [x0], [y0], hsh, .cons a0 .nil, .cons b0 .nil =>
      cases hsh
      exact ⟨rfl, rfl, .cons rd (.cons a0 (.cons (.int _) (.cons b0 .nil)))⟩
  · cases e1
theorem ints_rel {K : PySem.W.Frag} {nm : Nat → Str} {ca : CaT} {β : List Addr} {H : Hp} : ∀ ns : List Int, RelL K nm ca β H (ns.map D.int) (ns.map V.int)
  | [] => .nil
  | i :: ns => .cons (.int i) (ints_rel ns)
theorem facts {P : Program} {w : World} {K : PySem.W.Frag} {h : Heap} {mg : Str → Option Value} {f : Addr} (X : K.In h) (G : h.Ns mainGlobals mg) (hfa : mg ("law" : Str) = some (.ref f)) (c : obsM pd K = valM pd) (hK : tabK pd K = true) :
    ∃ fd : FuncData, (∀ (s : Shared) (v : Value), BindsTo s fd ⟨[v], []⟩ [("_law_script", v)]) ∧ ∀ base : Heap, K.In base → base.Ns mainGlobals mg → (∀ q ∈ pd.tbs K, LamX.TabB base mg q.1 q.2) → FnOk P w K mg base CX0 42 f fd ["_law_script"] (fun vs H Q _ => spM K pd.nm (pd.cb K P w) (callM pd.tab pd.F 14 90) vs H Q E0) := by
  have e := hfa.symm.trans (glo_adr (f := 90) (r := r90) (x := "law") X G c (by rfl) (by rfl))
  cases e
  have F := fr_fun c (f := 90) (r := r90) (by rfl)
  have b := FunD.bindsA (ps := ["_law_script"]) F fun _ _ _ _ _ _ us hl => match us, hl with | [_], _ => rfl
  exact ⟨pd.fd K 90, fun s v => b s [v] rfl, fun base _ _ tb => fn_cx0 ((pd.toStat (P := P) (w := w) stat astat X G c hK tb (mk_facts c)).all 14 90 _ rfl)⟩
end K06
open PySem PySem.W PySem.Calls PyProof.Rows
theorem PySem.Challenge.cw_limitwithin_k06_known_holds : PySem.Challenge.rw_limitwithin_k06_known.Holds := by
  w_on; o_law
  refine HandSHeadRun.head_any (r := OpenLaw.row PySem.Challenge.rw_limitwithin_k06_known) (q := view (OpenLaw.row PySem.Challenge.rw_limitwithin_k06_known).prog [84]) (H := K06.hk) (ob := K06.ob) (M := 9000) (loose := K06.names) (d := HandSHeadRun.topDef (OpenLaw.row PySem.Challenge.rw_limitwithin_k06_known).prog 84) (kwd := []) K06.ob_eq
    (by kernel_rfl) (fun s => by kernel_rfl) K06.run (by kernel_rfl) (by kernel_rfl) (by kernel_rfl) (by rfl) (by first | assumption | decide +kernel) (by decide +kernel) ⟨rfl, rfl, rfl, rfl, rfl, by decide +kernel⟩ ?hw ?hc
  case hw => w_witness2
  case hc =>
    refine MC.walk_tab (l := PySem.Challenge.rw_limitwithin_k06_known) (n := 63) (k := 42) (x := "_law_script") (CX := L2.CX0) rfl (by decide) (by kernel_rfl) ⟨rfl, by decide, by decide⟩ ?F (fun _ _ _ _ z => z)
    intro w mg fa h Y G hmg0
    obtain ⟨K0, KX0, c0⟩ := Y
    obtain ⟨c, tb⟩ := MC.obsT_of K06.pd c0
    have KX := MC.cut_in K06.pd KX0
    obtain ⟨t0, t1, t2, t3⟩ := MC.tab_facts KX0 tb
    have hmg : mg ("law" : PySem.Str) = some (.ref fa) := by
      have e : (HandSHeadRun.topDef (OpenLaw.row PySem.Challenge.rw_limitwithin_k06_known).prog 84).name = ("law" : PySem.Str) := by kernel_rfl
      rw [← e]
      exact hmg0
    obtain ⟨fd, hb, hF⟩ := K06.facts (P := (PySem.Challenge.rw_limitwithin_k06_known).prog) (w := w) KX G hmg c t0
    refine ⟨MC.cutK K06.pd K0, KX, fd, K06.pd.tbs (MC.cutK K06.pd K0), (fun vs H Q _ => MC.spM (MC.cutK K06.pd K0) K06.pd.nm (K06.pd.cb (MC.cutK K06.pd K0) _ w) (MC.callM K06.pd.tab K06.pd.F 14 90) vs H Q L2.E0), t1, t2, t3, hb, fun H a ns hl _ hH hS => ?_, hF⟩
    obtain ⟨h', e⟩ := K06.law_true ns hl
    refine ⟨[.lst (ns.map MC.D.int)], [], [], .cons (.lst ?_ (K06.ints_rel ns)) .nil, ⟨rfl, List.nodup_nil, fun i o a z => by simp at z, MC.tab_start hH⟩, ?_⟩
    · rcases hS with z | z
      · exact .inl ⟨z, by simp⟩
      · exact .inr z
    · rw [e]
      intro v H' β' _ _ rd
      cases rd
      rfl

